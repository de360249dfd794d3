import PyProof.Rows.All
import Wide.All
import OpenK.AllK
import Wide.FinOn
import KE.KStateDown
import Lean
import HandS.ForMost
import HandS.ForExc
import HandS.Defaults
import HandS.Head0
import HandS.Head1
import HandS.Head2
import HandS.HeadEnd
import HandS.HeadHook1
import HandS.HeadHook2
import PySem.Challenge.RW_fitmost_k36_whole_web_texts
import HandS.ExcInit
import HandS.ExcIs
import HandS.IsInst
import HandS.ClsMeth
import HandS.Evl
import HandS.Steps
import HandS.Walk
import HandS.Style
import HandS.Conv
import HandS.ExcCtx
import HandS.Set
import HandS.SetFor
import HandS.SetTxt0
import HandS.Strs
import PyProof.Rows.SortShellAny
import HandS.Comp
import HandS.ExcOwn
import KE.GoesRaise
import KE.KAsSuite
import HandS.ExcInitHot
import OpenK.KCls
import HandS.Hot
import HandS.HotCalls
import KE.KExcIs
set_option Elab.async false
set_option linter.all false
set_option maxRecDepth 100000
-- WtBase
/-! the text by places (printed by gen_base.py) -/
namespace Wt
open PySem PySem.Spec PyProof.Rows L2
def top (i : Nat) : Stmt := PySem.Challenge.pw_fitmost_k36_whole_web_texts.main.body.getD i (.Pass ⟨0, 0, 0, 0⟩)
abbrev s_Ring_init : Stmt := inClass (top 6) 0
abbrev s_is_name : Stmt := top 19
abbrev s_look_at_names : Stmt := top 21
abbrev s_in_rings : Stmt := top 22
abbrev s_look_for_rings : Stmt := top 23
abbrev s_Web_init : Stmt := inClass (top 24) 0
abbrev s_Web_names : Stmt := inClass (top 24) 1
abbrev s_Web_over : Stmt := inClass (top 24) 2
abbrev s_Web_above : Stmt := inClass (top 24) 3
abbrev s_Web_chain : Stmt := inClass (top 24) 4
abbrev s_Web_beneath : Stmt := inClass (top 24) 5
abbrev s_Web_tops : Stmt := inClass (top 24) 6
abbrev s_read_name : Stmt := top 26
abbrev s_read_over : Stmt := top 27
abbrev s_read_tuple : Stmt := top 28
abbrev s_read_web : Stmt := top 29
abbrev s_show_tuple : Stmt := top 30
abbrev s_show_web : Stmt := top 31
abbrev s__law_cell : Stmt := top 33
abbrev s__law_take : Stmt := top 34
abbrev s__law_name : Stmt := top 35
abbrev s__law_tuples : Stmt := top 36
abbrev s__law_ups : Stmt := top 37
abbrev s__law_text : Stmt := top 38
abbrev s__law_is_name : Stmt := top 39
abbrev s__law_word_at : Stmt := top 40
abbrev s__law_tuples_of : Stmt := top 41
abbrev s__law_goes_round : Stmt := top 42
abbrev s__law_due : Stmt := top 43
abbrev s__law_muddled : Stmt := top 44
abbrev s__law_spoiled : Stmt := top 45
abbrev s__law_word_of : Stmt := top 46
abbrev s__law_told : Stmt := top 47
abbrev s__law_read : Stmt := top 48
abbrev s__law_is_chain : Stmt := top 49
abbrev s__law_hangs : Stmt := top 50
abbrev s_law : Stmt := top 51
abbrev N_Ring_init : List Str := ["self", "ring"]
abbrev P_Ring_init : List Str := ["self", "ring"]
theorem sc_Ring_init : FnScope N_Ring_init P_Ring_init (defScope s_Ring_init) := ⟨rfl, rfl, rfl, by decide +kernel, rfl, by decide +kernel, by decide +kernel⟩
abbrev N_is_name : List Str := ["thing", "sign"]
abbrev P_is_name : List Str := ["thing"]
theorem sc_is_name : FnScope N_is_name P_is_name (defScope s_is_name) := ⟨rfl, rfl, rfl, by decide +kernel, rfl, by decide +kernel, by decide +kernel⟩
abbrev N_look_at_names : List Str := ["tuples", "name", "over", "names", "one"]
abbrev P_look_at_names : List Str := ["tuples"]
theorem sc_look_at_names : FnScope N_look_at_names P_look_at_names (defScope s_look_at_names) := ⟨rfl, rfl, rfl, by decide +kernel, rfl, by decide +kernel, by decide +kernel⟩
abbrev N_in_rings : List Str := ["uppers", "left", "again", "free", "one", "name"]
abbrev P_in_rings : List Str := ["uppers"]
theorem sc_in_rings : FnScope N_in_rings P_in_rings (defScope s_in_rings) := ⟨rfl, rfl, rfl, by decide +kernel, rfl, by decide +kernel, by decide +kernel⟩
abbrev N_look_for_rings : List Str := ["uppers", "left", "way", "onward", "one"]
abbrev P_look_for_rings : List Str := ["uppers"]
theorem sc_look_for_rings : FnScope N_look_for_rings P_look_for_rings (defScope s_look_for_rings) := ⟨rfl, rfl, rfl, by decide +kernel, rfl, by decide +kernel, by decide +kernel⟩
abbrev N_Web_init : List Str := ["self", "tuples", "name", "over"]
abbrev P_Web_init : List Str := ["self", "tuples"]
theorem sc_Web_init : FnScope N_Web_init P_Web_init (defScope s_Web_init) := ⟨rfl, rfl, rfl, by decide +kernel, rfl, by decide +kernel, by decide +kernel⟩
abbrev N_Web_names : List Str := ["self"]
abbrev P_Web_names : List Str := ["self"]
theorem sc_Web_names : FnScope N_Web_names P_Web_names (defScope s_Web_names) := ⟨rfl, rfl, rfl, by decide +kernel, rfl, by decide +kernel, by decide +kernel⟩
abbrev N_Web_over : List Str := ["self", "name"]
abbrev P_Web_over : List Str := ["self", "name"]
theorem sc_Web_over : FnScope N_Web_over P_Web_over (defScope s_Web_over) := ⟨rfl, rfl, rfl, by decide +kernel, rfl, by decide +kernel, by decide +kernel⟩
abbrev N_Web_above : List Str := ["self", "name", "found", "pile", "here", "upper"]
abbrev P_Web_above : List Str := ["self", "name"]
theorem sc_Web_above : FnScope N_Web_above P_Web_above (defScope s_Web_above) := ⟨rfl, rfl, rfl, by decide +kernel, rfl, by decide +kernel, by decide +kernel⟩
abbrev N_Web_chain : List Str := ["self", "one", "other", "found", "way"]
abbrev P_Web_chain : List Str := ["self", "one", "other"]
theorem sc_Web_chain : FnScope N_Web_chain P_Web_chain (defScope s_Web_chain) := ⟨rfl, rfl, rfl, by decide +kernel, rfl, by decide +kernel, by decide +kernel⟩
abbrev N_Web_beneath : List Str := ["self", "one", "other"]
abbrev P_Web_beneath : List Str := ["self", "one", "other"]
theorem sc_Web_beneath : FnScope N_Web_beneath P_Web_beneath (defScope s_Web_beneath) := ⟨rfl, rfl, rfl, by decide +kernel, rfl, by decide +kernel, by decide +kernel⟩
abbrev N_Web_tops : List Str := ["self", "names", "found", "name", "other"]
abbrev P_Web_tops : List Str := ["self", "names"]
theorem sc_Web_tops : FnScope N_Web_tops P_Web_tops (defScope s_Web_tops) := ⟨rfl, rfl, rfl, by decide +kernel, rfl, by decide +kernel, by decide +kernel⟩
abbrev N_read_name : List Str := ["text"]
abbrev P_read_name : List Str := ["text"]
theorem sc_read_name : FnScope N_read_name P_read_name (defScope s_read_name) := ⟨rfl, rfl, rfl, by decide +kernel, rfl, by decide +kernel, by decide +kernel⟩
abbrev N_read_over : List Str := ["text", "part"]
abbrev P_read_over : List Str := ["text"]
theorem sc_read_over : FnScope N_read_over P_read_over (defScope s_read_over) := ⟨rfl, rfl, rfl, by decide +kernel, rfl, by decide +kernel, by decide +kernel⟩
abbrev N_read_tuple : List Str := ["text", "name", "colon", "over"]
abbrev P_read_tuple : List Str := ["text"]
theorem sc_read_tuple : FnScope N_read_tuple P_read_tuple (defScope s_read_tuple) := ⟨rfl, rfl, rfl, by decide +kernel, rfl, by decide +kernel, by decide +kernel⟩
abbrev N_read_web : List Str := ["text", "part"]
abbrev P_read_web : List Str := ["text"]
theorem sc_read_web : FnScope N_read_web P_read_web (defScope s_read_web) := ⟨rfl, rfl, rfl, by decide +kernel, rfl, by decide +kernel, by decide +kernel⟩
abbrev N_show_tuple : List Str := ["web", "name", "over"]
abbrev P_show_tuple : List Str := ["web", "name"]
theorem sc_show_tuple : FnScope N_show_tuple P_show_tuple (defScope s_show_tuple) := ⟨rfl, rfl, rfl, by decide +kernel, rfl, by decide +kernel, by decide +kernel⟩
abbrev N_show_web : List Str := ["web", "name"]
abbrev P_show_web : List Str := ["web"]
theorem sc_show_web : FnScope N_show_web P_show_web (defScope s_show_web) := ⟨rfl, rfl, rfl, by decide +kernel, rfl, by decide +kernel, by decide +kernel⟩
abbrev N__law_cell : List Str := ["_law_script", "_law_k"]
abbrev P__law_cell : List Str := ["_law_script", "_law_k"]
theorem sc__law_cell : FnScope N__law_cell P__law_cell (defScope s__law_cell) := ⟨rfl, rfl, rfl, by decide +kernel, rfl, by decide +kernel, by decide +kernel⟩
abbrev N__law_take : List Str := ["_law_purse", "_law_many", "_law_number", "_law_mixed"]
abbrev P__law_take : List Str := ["_law_purse", "_law_many"]
theorem sc__law_take : FnScope N__law_take P__law_take (defScope s__law_take) := ⟨rfl, rfl, rfl, by decide +kernel, rfl, by decide +kernel, by decide +kernel⟩
abbrev N__law_name : List Str := ["_law_purse", "_law_found", "_law_k"]
abbrev P__law_name : List Str := ["_law_purse"]
theorem sc__law_name : FnScope N__law_name P__law_name (defScope s__law_name) := ⟨rfl, rfl, rfl, by decide +kernel, rfl, by decide +kernel, by decide +kernel⟩
abbrev N__law_tuples : List Str := ["_law_script", "_law_start", "_law_way", "_law_head", "_law_found", "_law_names", "_law_k", "_law_purse", "_law_name_here", "_law_turn", "_law_other"]
abbrev P__law_tuples : List Str := ["_law_script", "_law_start", "_law_way"]
theorem sc__law_tuples : FnScope N__law_tuples P__law_tuples (defScope s__law_tuples) := ⟨rfl, rfl, rfl, by decide +kernel, rfl, by decide +kernel, by decide +kernel⟩
abbrev N__law_ups : List Str := ["_law_tuples_here", "_law_over", "_law_found", "_law_name_here", "_law_straight", "_law_waiting", "_law_seen", "_law_here"]
abbrev P__law_ups : List Str := ["_law_tuples_here"]
theorem sc__law_ups : FnScope N__law_ups P__law_ups (defScope s__law_ups) := ⟨rfl, rfl, rfl, by decide +kernel, rfl, by decide +kernel, by decide +kernel⟩
abbrev N__law_text : List Str := ["_law_tuples_here", "_law_texts", "_law_name_here", "_law_over"]
abbrev P__law_text : List Str := ["_law_tuples_here"]
theorem sc__law_text : FnScope N__law_text P__law_text (defScope s__law_text) := ⟨rfl, rfl, rfl, by decide +kernel, rfl, by decide +kernel, by decide +kernel⟩
abbrev N__law_is_name : List Str := ["_law_text_here", "_law_letter"]
abbrev P__law_is_name : List Str := ["_law_text_here"]
theorem sc__law_is_name : FnScope N__law_is_name P__law_is_name (defScope s__law_is_name) := ⟨rfl, rfl, rfl, by decide +kernel, rfl, by decide +kernel, by decide +kernel⟩
abbrev N__law_word_at : List Str := ["_law_text_here", "_law_at", "_law_end"]
abbrev P__law_word_at : List Str := ["_law_text_here", "_law_at"]
theorem sc__law_word_at : FnScope N__law_word_at P__law_word_at (defScope s__law_word_at) := ⟨rfl, rfl, rfl, by decide +kernel, rfl, by decide +kernel, by decide +kernel⟩
abbrev N__law_tuples_of : List Str := ["_law_text_here", "_law_found", "_law_at", "_law_name_here", "_law_words", "_law_mark", "_law_word"]
abbrev P__law_tuples_of : List Str := ["_law_text_here"]
theorem sc__law_tuples_of : FnScope N__law_tuples_of P__law_tuples_of (defScope s__law_tuples_of) := ⟨rfl, rfl, rfl, by decide +kernel, rfl, by decide +kernel, by decide +kernel⟩
abbrev N__law_goes_round : List Str := ["_law_tuples_here", "_law_left", "_law_k", "_law_name_here", "_law_over", "_law_names", "_law_stay", "_law_other"]
abbrev P__law_goes_round : List Str := ["_law_tuples_here"]
theorem sc__law_goes_round : FnScope N__law_goes_round P__law_goes_round (defScope s__law_goes_round) := ⟨rfl, rfl, rfl, by decide +kernel, rfl, by decide +kernel, by decide +kernel⟩
abbrev N__law_due : List Str := ["_law_text_here", "_law_tuples_here", "_law_name_here", "_law_over", "_law_names", "_law_other"]
abbrev P__law_due : List Str := ["_law_text_here"]
theorem sc__law_due : FnScope N__law_due P__law_due (defScope s__law_due) := ⟨rfl, rfl, rfl, by decide +kernel, rfl, by decide +kernel, by decide +kernel⟩
abbrev N__law_muddled : List Str := ["_law_tuples_here", "_law_purse", "_law_name_here", "_law_over", "_law_names", "_law_found", "_law_more"]
abbrev P__law_muddled : List Str := ["_law_tuples_here", "_law_purse"]
theorem sc__law_muddled : FnScope N__law_muddled P__law_muddled (defScope s__law_muddled) := ⟨rfl, rfl, rfl, by decide +kernel, rfl, by decide +kernel, by decide +kernel⟩
abbrev N__law_spoiled : List Str := ["_law_text_here", "_law_purse", "_law_at", "_law_way", "_law_letter"]
abbrev P__law_spoiled : List Str := ["_law_text_here", "_law_purse"]
theorem sc__law_spoiled : FnScope N__law_spoiled P__law_spoiled (defScope s__law_spoiled) := ⟨rfl, rfl, rfl, by decide +kernel, rfl, by decide +kernel, by decide +kernel⟩
abbrev N__law_word_of : List Str := ["_law_e", "_law_some", "_law_found", "_law_word", "_law_truth"]
abbrev P__law_word_of : List Str := ["_law_e"]
theorem sc__law_word_of : FnScope N__law_word_of P__law_word_of (defScope s__law_word_of) := ⟨rfl, rfl, rfl, by decide +kernel, rfl, by decide +kernel, by decide +kernel⟩
abbrev N__law_told : List Str := ["_law_web", "_law_name_here"]
abbrev P__law_told : List Str := ["_law_web"]
theorem sc__law_told : FnScope N__law_told P__law_told (defScope s__law_told) := ⟨rfl, rfl, rfl, by decide +kernel, rfl, by decide +kernel, by decide +kernel⟩
abbrev N__law_read : List Str := ["_law_text_here", "_law_found", "_law_e"]
abbrev P__law_read : List Str := ["_law_text_here"]
theorem sc__law_read : FnScope N__law_read P__law_read (defScope s__law_read) := ⟨rfl, rfl, rfl, by decide +kernel, rfl, by decide +kernel, by decide +kernel⟩
abbrev N__law_is_chain : List Str := ["_law_way", "_law_one", "_law_other", "_law_over", "_law_k"]
abbrev P__law_is_chain : List Str := ["_law_way", "_law_one", "_law_other", "_law_over"]
theorem sc__law_is_chain : FnScope N__law_is_chain P__law_is_chain (defScope s__law_is_chain) := ⟨rfl, rfl, rfl, by decide +kernel, rfl, by decide +kernel, by decide +kernel⟩
abbrev N__law_hangs : List Str := ["_law_web", "_law_tuples_here", "_law_ups_here", "_law_over", "_law_one", "_law_other", "_law_way", "_law_name_here"]
abbrev P__law_hangs : List Str := ["_law_web", "_law_tuples_here"]
theorem sc__law_hangs : FnScope N__law_hangs P__law_hangs (defScope s__law_hangs) := ⟨rfl, rfl, rfl, by decide +kernel, rfl, by decide +kernel, by decide +kernel⟩
abbrev N_law : List Str := ["_law_script", "_law_way", "_law_tuples_here", "_law_plain", "_law_text_here", "_law_web", "_law_k", "_law_purse", "_law_some", "_law_turn", "_law_due_here", "_law_name_here", "_law_over"]
abbrev P_law : List Str := ["_law_script"]
theorem sc_law : FnScope N_law P_law (defScope s_law) := ⟨rfl, rfl, rfl, by decide +kernel, rfl, by decide +kernel, by decide +kernel⟩
def d_Ring_init : He.DefD := ⟨("Ring", some "__init__"), "__init__", "Ring.__init__", defArgs s_Ring_init, defBody s_Ring_init, defScope s_Ring_init, [], []⟩
def d_is_name : He.DefD := ⟨("is_name", none), "is_name", "is_name", defArgs s_is_name, defBody s_is_name, defScope s_is_name, [], []⟩
def d_look_at_names : He.DefD := ⟨("look_at_names", none), "look_at_names", "look_at_names", defArgs s_look_at_names, defBody s_look_at_names, defScope s_look_at_names, [], []⟩
def d_in_rings : He.DefD := ⟨("in_rings", none), "in_rings", "in_rings", defArgs s_in_rings, defBody s_in_rings, defScope s_in_rings, [], []⟩
def d_look_for_rings : He.DefD := ⟨("look_for_rings", none), "look_for_rings", "look_for_rings", defArgs s_look_for_rings, defBody s_look_for_rings, defScope s_look_for_rings, [], []⟩
def d_Web_init : He.DefD := ⟨("Web", some "__init__"), "__init__", "Web.__init__", defArgs s_Web_init, defBody s_Web_init, defScope s_Web_init, [], []⟩
def d_Web_names : He.DefD := ⟨("Web", some "names"), "names", "Web.names", defArgs s_Web_names, defBody s_Web_names, defScope s_Web_names, [], []⟩
def d_Web_over : He.DefD := ⟨("Web", some "over"), "over", "Web.over", defArgs s_Web_over, defBody s_Web_over, defScope s_Web_over, [], []⟩
def d_Web_above : He.DefD := ⟨("Web", some "above"), "above", "Web.above", defArgs s_Web_above, defBody s_Web_above, defScope s_Web_above, [], []⟩
def d_Web_chain : He.DefD := ⟨("Web", some "chain"), "chain", "Web.chain", defArgs s_Web_chain, defBody s_Web_chain, defScope s_Web_chain, [], []⟩
def d_Web_beneath : He.DefD := ⟨("Web", some "beneath"), "beneath", "Web.beneath", defArgs s_Web_beneath, defBody s_Web_beneath, defScope s_Web_beneath, [], []⟩
def d_Web_tops : He.DefD := ⟨("Web", some "tops"), "tops", "Web.tops", defArgs s_Web_tops, defBody s_Web_tops, defScope s_Web_tops, [], []⟩
def d_read_name : He.DefD := ⟨("read_name", none), "read_name", "read_name", defArgs s_read_name, defBody s_read_name, defScope s_read_name, [], []⟩
def d_read_over : He.DefD := ⟨("read_over", none), "read_over", "read_over", defArgs s_read_over, defBody s_read_over, defScope s_read_over, [], []⟩
def d_read_tuple : He.DefD := ⟨("read_tuple", none), "read_tuple", "read_tuple", defArgs s_read_tuple, defBody s_read_tuple, defScope s_read_tuple, [], []⟩
def d_read_web : He.DefD := ⟨("read_web", none), "read_web", "read_web", defArgs s_read_web, defBody s_read_web, defScope s_read_web, [], []⟩
def d_show_tuple : He.DefD := ⟨("show_tuple", none), "show_tuple", "show_tuple", defArgs s_show_tuple, defBody s_show_tuple, defScope s_show_tuple, [], []⟩
def d_show_web : He.DefD := ⟨("show_web", none), "show_web", "show_web", defArgs s_show_web, defBody s_show_web, defScope s_show_web, [], []⟩
def d__law_cell : He.DefD := ⟨("_law_cell", none), "_law_cell", "_law_cell", defArgs s__law_cell, defBody s__law_cell, defScope s__law_cell, [], []⟩
def d__law_take : He.DefD := ⟨("_law_take", none), "_law_take", "_law_take", defArgs s__law_take, defBody s__law_take, defScope s__law_take, [], []⟩
def d__law_name : He.DefD := ⟨("_law_name", none), "_law_name", "_law_name", defArgs s__law_name, defBody s__law_name, defScope s__law_name, [], []⟩
def d__law_tuples : He.DefD := ⟨("_law_tuples", none), "_law_tuples", "_law_tuples", defArgs s__law_tuples, defBody s__law_tuples, defScope s__law_tuples, [], []⟩
def d__law_ups : He.DefD := ⟨("_law_ups", none), "_law_ups", "_law_ups", defArgs s__law_ups, defBody s__law_ups, defScope s__law_ups, [], []⟩
def d__law_text : He.DefD := ⟨("_law_text", none), "_law_text", "_law_text", defArgs s__law_text, defBody s__law_text, defScope s__law_text, [], []⟩
def d__law_is_name : He.DefD := ⟨("_law_is_name", none), "_law_is_name", "_law_is_name", defArgs s__law_is_name, defBody s__law_is_name, defScope s__law_is_name, [], []⟩
def d__law_word_at : He.DefD := ⟨("_law_word_at", none), "_law_word_at", "_law_word_at", defArgs s__law_word_at, defBody s__law_word_at, defScope s__law_word_at, [], []⟩
def d__law_tuples_of : He.DefD := ⟨("_law_tuples_of", none), "_law_tuples_of", "_law_tuples_of", defArgs s__law_tuples_of, defBody s__law_tuples_of, defScope s__law_tuples_of, [], []⟩
def d__law_goes_round : He.DefD := ⟨("_law_goes_round", none), "_law_goes_round", "_law_goes_round", defArgs s__law_goes_round, defBody s__law_goes_round, defScope s__law_goes_round, [], []⟩
def d__law_due : He.DefD := ⟨("_law_due", none), "_law_due", "_law_due", defArgs s__law_due, defBody s__law_due, defScope s__law_due, [], []⟩
def d__law_muddled : He.DefD := ⟨("_law_muddled", none), "_law_muddled", "_law_muddled", defArgs s__law_muddled, defBody s__law_muddled, defScope s__law_muddled, [], []⟩
def d__law_spoiled : He.DefD := ⟨("_law_spoiled", none), "_law_spoiled", "_law_spoiled", defArgs s__law_spoiled, defBody s__law_spoiled, defScope s__law_spoiled, [], []⟩
def d__law_word_of : He.DefD := ⟨("_law_word_of", none), "_law_word_of", "_law_word_of", defArgs s__law_word_of, defBody s__law_word_of, defScope s__law_word_of, [], []⟩
def d__law_told : He.DefD := ⟨("_law_told", none), "_law_told", "_law_told", defArgs s__law_told, defBody s__law_told, defScope s__law_told, [], []⟩
def d__law_read : He.DefD := ⟨("_law_read", none), "_law_read", "_law_read", defArgs s__law_read, defBody s__law_read, defScope s__law_read, [], []⟩
def d__law_is_chain : He.DefD := ⟨("_law_is_chain", none), "_law_is_chain", "_law_is_chain", defArgs s__law_is_chain, defBody s__law_is_chain, defScope s__law_is_chain, [], []⟩
def d__law_hangs : He.DefD := ⟨("_law_hangs", none), "_law_hangs", "_law_hangs", defArgs s__law_hangs, defBody s__law_hangs, defScope s__law_hangs, [], []⟩
def d_law : He.DefD := ⟨("law", none), "law", "law", defArgs s_law, defBody s_law, defScope s_law, [], []⟩
abbrev Fd (K : PySem.W.Frag) (d : He.DefD) (f : Addr) (fd : FuncData) : Prop := FunD K d.name d.qual d.params d.body d.scope [] [] f fd
def fn : List He.DefD := [d_Ring_init, d_is_name, d_look_at_names, d_in_rings, d_look_for_rings, d_Web_init, d_Web_names, d_Web_over, d_Web_above, d_Web_chain, d_Web_beneath, d_Web_tops, d_read_name, d_read_over, d_read_tuple, d_read_web, d_show_tuple, d_show_web, d__law_cell, d__law_take, d__law_name, d__law_tuples, d__law_ups, d__law_text, d__law_is_name, d__law_word_at, d__law_tuples_of, d__law_goes_round, d__law_due, d__law_muddled, d__law_spoiled, d__law_word_of, d__law_told, d__law_read, d__law_is_chain, d__law_hangs, d_law]
end Wt

-- WtHead
set_option maxHeartbeats 0
/-! the facts that the top leaves, by one run -/
namespace Wt
open PySem PySem.Spec PyProof.Rows L2
/-! ### the facts -/
/-- an own error class as its object stands: its mro, its maker -/
def oexB (K : PySem.W.Frag) (C : Addr) : Bool := match K.lookup C with
  | some ⟨.type "type", _, .cls cd, sl⟩ => (match cd.mro, sl.toList with
    | .ref C' :: bm, [_, _, _, _, some (.builtin n), _] => C' == C && n == "ValueError.__new__" && !cd.hasDel && cd.hasDict && PySem.HandSPX.refsVE bm
    | _, _ => false)
  | _ => false
theorem oexB_ok {K : PySem.W.Frag} {C : Addr} (q : oexB K C = true) :
    ∃ nm q N bs bm sn sub ab col dd k0 k1 k2 k3 k5, K.lookup C = some (excClassObj nm q C N bs bm true sn sub ab col dd k0 k1 k2 k3 k5 "ValueError.__new__") ∧ PySem.HandSPX.refsVE bm = true := by
  unfold oexB at q
  split at q
  · rename_i dd cd sl ho
    split at q
    · rename_i C' bm k0 k1 k2 k3 n k5 hm hs
      simp only [Bool.and_eq_true, beq_iff_eq, Bool.not_eq_true'] at q
      obtain ⟨⟨⟨⟨rfl, rfl⟩, hdel⟩, hd1⟩, hr⟩ := q
      obtain ⟨nm, bs, mro, ns, qn, hd, sn, sub, ab, col, del⟩ := cd
      dsimp only at hm hdel hd1
      subst hm hdel hd1
      obtain ⟨l⟩ := sl
      simp only at hs
      subst hs
      exact ⟨nm, qn, ns, bs, bm, sn, sub, ab, col, dd, k0, k1, k2, k3, k5, ho, hr⟩
    · cases q
  · cases q
def dO (a b : Option (Option Value)) : Bool := decide (a = b)
def errs : List Str := ["FitError", "NoName", "Taken", "NoKind", "Ring", "NoText", "NoPlaces", "Alike", "NoBody", "TooMany", "NoTerm", "Held", "NoLine"]
/-- what isinstance asks of an error's class -/
def excCB (K : PySem.W.Frag) (D : Addr) : Bool :=
  dO (PySem.W.findIn K (.ref D) "__getattribute__") (some (some (.builtin "BaseException.__getattribute__"))) && (dO (PySem.W.findIn K (.ref D) "__getattr__") (some none) && (decide (PySem.W.subIn K (.ref D) (.type "BaseException") = some true) &&
  (PySem.W.hasDictIn K D && (dO (PySem.W.findIn K (.ref D) "__class__") (some (some (.builtin "object.__class__"))) && (dO (PySem.W.specialIn K (.builtin "object.__class__") "__get__") (some (some (.builtin "getset_descriptor.__get__"))) &&
  (decide (PySem.W.takesIn K (.builtin "object.__class__") = some true) && decide (PySem.W.mroIn K D (.type "object") = some true)))))))
theorem excCB_ok {K : PySem.W.Frag} {D : Addr} (h : excCB K D = true) : ExcC K D := by
  obtain ⟨h1, h⟩ := He.ba h
  obtain ⟨h2, h⟩ := He.ba h
  obtain ⟨h3, h⟩ := He.ba h
  obtain ⟨h4, h⟩ := He.ba h
  obtain ⟨h5, h⟩ := He.ba h
  obtain ⟨h6, h⟩ := He.ba h
  obtain ⟨h7, h8⟩ := He.ba h
  exact ⟨of_decide_eq_true h1, of_decide_eq_true h2, of_decide_eq_true h3, h4, of_decide_eq_true h5, of_decide_eq_true h6, of_decide_eq_true h7, of_decide_eq_true h8⟩
/-- the raised classes against the asked ones -/
def raised : List Str := ["NoText", "NoKind", "Taken", "Ring"]
def asked : List Str := ["NoText", "NoKind", "Taken", "Ring", "NoName", "TooMany", "Alike", "Held", "NoBody", "NoLine", "NoPlaces", "NoTerm"]
def kitB (K : PySem.W.Frag) : Bool := raised.all fun x => (asked.all fun y => decide (PySem.W.kitOne K (.ref (He.ga K x)) (.ref (He.ga K y)) = some (decide (x = y)))) && decide (PySem.W.kitOne K (.ref (He.ga K x)) (.type "ValueError") = some true)
def words : List Str := ["any", "none", "blank", "new", "on"]
def xb (K : PySem.W.Frag) : Bool :=
  (oexB K (He.ga K "Ring") && (dO (PySem.W.findIn K (.ref (He.ga K "Ring")) "__setattr__") (some (some (.builtin "object.__setattr__"))) && (decide (PySem.W.subIn K (.ref (He.ga K "Ring")) (.type "BaseException") = some true) &&
  (decide (PySem.W.typeIn K (.ref (He.ga K "Ring")) = some (.type "type")) && (PySem.W.keepIn K (.ref (He.ga K "Ring")) && (dO (PySem.W.findIn K (.ref (He.ga K "Ring")) "ring") (some none) &&
  (dO (PySem.W.findIn K (.ref (He.ga K "Ring")) "__init__") (some (some (.ref (He.ma K (He.ga K "Ring") "__init__")))) && decide (PySem.W.typeIn K (.ref (He.ma K (He.ga K "Ring") "__init__")) = some (.type "function"))))))))) &&
  ((PySem.W.readsIn K (He.ga K "FitError") (.type "type") && (dO (PySem.W.specialIn K (.ref (He.ga K "FitError")) "__getattribute__") (some (some (.builtin "type.__getattribute__"))) &&
   (match PySem.W.findCls K (.ref (He.ga K "FitError")) (.type "type") "__init__" with
    | some (.val (.builtin "ValueError.__init__")) => true
    | _ => false))) &&
  ((He.tupB K "OTHER_WORDS" (words.map He.Dv.str) && dO (PySem.W.nsIn K mainGlobals "OTHER_WORDS") (some (some (.ref (He.ga K "OTHER_WORDS"))))) && ((raised.all fun x => excCB K (He.ga K x)) && kitB K)))
/-! ### the Hook with them -/
abbrev Al : Type := Bool × He.AlD
def Says (fa : List He.Fa) (fn : List He.DefD) (K : PySem.W.Frag) : Prop := xb K = true ∧ He.SaysD fa fn K
def frX (g : Addr → Option Obj) (n : Nat) : PySem.W.Frag := He.frG g (PySem.cStatics :: He.asD g n)
def obsX (n : Nat) (fa : List He.Fa) (fn : List He.DefD) (g : Addr → Option Obj) : Al := (xb (frX g n), He.obsD fa fn (frX g n))
def hookX (n : Nat) (fa : List He.Fa) (fn : List He.DefD) : PySem.W.Hook where
  α := Al
  obs := fun s => obsX n fa fn s.heap.get?
  val := fun _ => (true, He.valD fn)
  says := fun _ h => ∃ K : PySem.W.Frag, K.In h ∧ Says fa fn K
  of := fun _ _ e => ⟨_, He.frG_in, congrArg Prod.fst e, congrArg Prod.snd e⟩
  keeps := fun _ _ _ ⟨K, hK, c⟩ k => ⟨K, PySem.W.Frag.In.keeps hK k, c⟩
abbrev loose0 : List PySem.Str := ["_wall", "FitError", "NoName", "Taken", "NoKind", "Ring", "NoText", "NoPlaces", "Alike", "NoBody", "TooMany", "NoTerm", "Held", "NoLine", "LETTERS", "MOST_LETTERS", "OTHER_WORDS", "is_name", "look_at_names", "in_rings", "look_for_rings", "Web", "read_name"]
abbrev loose1 : List PySem.Str := ["read_over", "read_tuple", "read_web", "show_tuple", "show_web", "_law_cell", "_law_take", "_law_name", "_law_tuples", "_law_ups", "_law_text", "_law_is_name", "_law_word_at", "_law_tuples_of", "_law_goes_round", "_law_due", "_law_muddled", "_law_spoiled", "_law_word_of", "_law_told", "_law_read", "_law_is_chain", "_law_hangs"]
abbrev loose : List PySem.Str := loose0 ++ loose1
def fa0 : List He.Fa := [.int "MOST_LETTERS" 8, .str "LETTERS" "abcdefghijklmnopqrstuvwxyz", .cls "Web", .noat "Web" "uppers", .meth "Web" "names", .meth "Web" "over", .meth "Web" "above", .meth "Web" "chain", .meth "Web" "beneath", .meth "Web" "tops", .mkr "Web",
  .exc "NoText", .exc "NoKind", .exc "Taken", .exm "NoText" "FitError" true, .exm "NoKind" "FitError" true, .exm "Taken" "FitError" true, .exm "Ring" "FitError" true]
def globs0 : List Str := ["FitError", "NoName", "Taken", "NoKind", "Ring", "NoText", "NoPlaces", "Alike", "NoBody", "TooMany", "NoTerm", "Held", "NoLine", "Web", "law", "is_name", "look_at_names", "in_rings", "look_for_rings", "read_name"]
def globs : List Str := globs0 ++ loose1
def frees : List Str := ["len", "all", "any", "sorted", "isinstance", "max", "min", "list", "set", "dict", "str", "ValueError", "range"]
def fa : List He.Fa := fa0 ++ globs.map He.Fa.glo ++ frees.map He.Fa.free
abbrev R : PySem.W.OpenRow := PySem.W.OpenLaw.row PySem.Challenge.rw_fitmost_k36_whole_web_texts
abbrev hk : PySem.W.Hook := hookX 5 fa fn
def ob (s : PySem.W.SharedT) : Al := obsX 5 fa fn (HandSHeadRun.getT s)
theorem ob_eq (s : PySem.W.SharedT) : ob s = hk.obs s.abs := by
  have e : HandSHeadRun.getT s = s.abs.heap.get? := funext (HandSHeadRun.getT_eq s)
  unfold ob
  rw [e] <;> rfl
theorem run (w : World) : HandSHeadRun.RunEq R (PySem.W.view R.prog [51]) hk ob 20000 loose w := by
  intro os
  kernel_rfl
end Wt

-- WtLib
set_option maxHeartbeats 1000000
/-! words of our own over the layer: the facts, defs that keep a promise, data by what is true of it, comprehensions -/
namespace Wt
open PySem PySem.Spec PyProof.Rows L2 Evl
/-! ### what the walks ask of the text -/
structure Txt (K : PySem.W.Frag) (mg : Str → Option Value) : Prop where
  mL : ∃ t, mg "LETTERS" = some (.str "abcdefghijklmnopqrstuvwxyz" t)
  mM : ∃ t, mg "MOST_LETTERS" = some (.int 8 t)
  m_OTHER_WORDS : mg "OTHER_WORDS" = some (.ref (He.ga K "OTHER_WORDS"))
  words : ∀ H, SqT K H (He.ga K "OTHER_WORDS") (words.map V.str)
  fr : ∀ x ∈ frees, mg x = none
  gl : ∀ x ∈ globs, mg x = some (.ref (He.ga K x))
  cl : Cls K (He.ga K "Web")
  nU : NoAttr K (He.ga K "Web") "uppers"
  me : ∀ m ∈ (["names", "over", "above", "chain", "beneath", "tops"] : List Str), Meth K (He.ga K "Web") m (He.ma K (He.ga K "Web") m)
  wmk : Mk K (He.ga K "Web") (He.ma K (He.ga K "Web") "__init__")
  xc : ∀ x ∈ (["NoText", "NoKind", "Taken"] : List Str), PySem.W.excIn K (He.ga K x) He.veBase "ValueError.__new__" = true ∧ PySem.W.keepIn K (.ref (He.ga K x)) = true ∧ PySem.W.subIn K (.ref (He.ga K x)) (.type "BaseException") = some true ∧ PySem.W.typeIn K (.ref (He.ga K x)) = some (.type "type")
  ca : ∀ x ∈ raised, PySem.W.exmOne K (.ref (He.ga K x)) (.ref (He.ga K "FitError")) = some true
  ri : OexC K (He.ga K "Ring")
  riNo : PySem.W.findIn K (.ref (He.ga K "Ring")) "ring" = some none
  riIn : PySem.W.findIn K (.ref (He.ga K "Ring")) "__init__" = some (some (.ref (He.ma K (He.ga K "Ring") "__init__")))
  riFn : PySem.W.typeIn K (.ref (He.ma K (He.ga K "Ring") "__init__")) = some (.type "function")
  fiRd : PySem.W.readsIn K (He.ga K "FitError") (.type "type") = true
  fiGa : PySem.W.specialIn K (.ref (He.ga K "FitError")) "__getattribute__" = some (some (.builtin "type.__getattribute__"))
  fiIn : PySem.W.findCls K (.ref (He.ga K "FitError")) (.type "type") "__init__" = some (.val (.builtin "ValueError.__init__"))
  ec : ∀ x ∈ raised, ExcC K (He.ga K x)
  kt : ∀ x ∈ raised, (∀ y ∈ asked, PySem.W.kitOne K (.ref (He.ga K x)) (.ref (He.ga K y)) = some (decide (x = y))) ∧ PySem.W.kitOne K (.ref (He.ga K x)) (.type "ValueError") = some true
section
variable {K : PySem.W.Frag} {mg : Str → Option Value}
theorem Txt.f_len (T : Txt K mg) : mg "len" = none := T.fr _ (by decide +kernel)
theorem Txt.f_all (T : Txt K mg) : mg "all" = none := T.fr _ (by decide +kernel)
theorem Txt.f_any (T : Txt K mg) : mg "any" = none := T.fr _ (by decide +kernel)
theorem Txt.f_sorted (T : Txt K mg) : mg "sorted" = none := T.fr _ (by decide +kernel)
theorem Txt.f_isinstance (T : Txt K mg) : mg "isinstance" = none := T.fr _ (by decide +kernel)
theorem Txt.f_max (T : Txt K mg) : mg "max" = none := T.fr _ (by decide +kernel)
theorem Txt.f_min (T : Txt K mg) : mg "min" = none := T.fr _ (by decide +kernel)
theorem Txt.f_list (T : Txt K mg) : mg "list" = none := T.fr _ (by decide +kernel)
theorem Txt.f_set (T : Txt K mg) : mg "set" = none := T.fr _ (by decide +kernel)
theorem Txt.f_dict (T : Txt K mg) : mg "dict" = none := T.fr _ (by decide +kernel)
theorem Txt.f_str (T : Txt K mg) : mg "str" = none := T.fr _ (by decide +kernel)
theorem Txt.f_ValueError (T : Txt K mg) : mg "ValueError" = none := T.fr _ (by decide +kernel)
theorem Txt.f_range (T : Txt K mg) : mg "range" = none := T.fr _ (by decide +kernel)
end
theorem txt_of {K : PySem.W.Frag} {h : Heap} {mg : Str → Option Value} (X : K.In h) (G : h.Ns mainGlobals mg) (c : Says fa fn K) : Txt K mg := by
  obtain ⟨cx, cd⟩ := c
  have all : ∀ f ∈ fa, f.ok K = true := fun f hf => by
    have c1 := (He.ba (show ((fa.all fun f => f.ok K) && fn.all fun d => d.ok K) = true from congrArg (fun z : He.AlD => z.1) cd)).1
    exact List.all_eq_true.mp c1 f hf
  obtain ⟨cx, cx4⟩ := He.ba cx
  obtain ⟨c1, cx⟩ := He.ba cx
  obtain ⟨c2, cx⟩ := He.ba cx
  obtain ⟨c3, cx⟩ := He.ba cx
  obtain ⟨c4, cx⟩ := He.ba cx
  obtain ⟨c5, cx⟩ := He.ba cx
  obtain ⟨c6, cx⟩ := He.ba cx
  obtain ⟨c7, c8⟩ := He.ba cx
  obtain ⟨cf, cx4⟩ := He.ba cx4
  obtain ⟨f1, cf⟩ := He.ba cf
  obtain ⟨f2, f3⟩ := He.ba cf
  obtain ⟨ct, cx4⟩ := He.ba cx4
  obtain ⟨t1, t2⟩ := He.ba ct
  obtain ⟨e1, e2⟩ := He.ba cx4
  have ga : ∀ x ∈ globs, (He.Fa.glo x).ok K = true := fun x hx => all _ (List.mem_append_left _ (List.mem_append_right _ (List.mem_map_of_mem hx)))
  have fr : ∀ x ∈ frees, (He.Fa.free x).ok K = true := fun x hx => all _ (List.mem_append_right _ (List.mem_map_of_mem hx))
  have f0 : ∀ (i : Nat) (f : He.Fa), fa0[i]? = some f → f.ok K = true := fun i f hf => all f (List.mem_append_left _ (List.mem_append_left _ (List.mem_of_getElem? hf)))
  have hw : ∀ H, SqT K H (He.ga K "OTHER_WORDS") (words.map V.str) := fun H => by
    have z := He.tupB_ok t1 H
    rw [List.map_map] at z
    exact z
  have hme : ∀ m ∈ (["names", "over", "above", "chain", "beneath", "tops"] : List Str), Meth K (He.ga K "Web") m (He.ma K (He.ga K "Web") m) := fun m hm => by
    simp only [List.mem_cons, List.not_mem_nil, or_false] at hm
    rcases hm with rfl | rfl | rfl | rfl | rfl | rfl
    · exact He.meth_ok (f0 4 _ rfl)
    · exact He.meth_ok (f0 5 _ rfl)
    · exact He.meth_ok (f0 6 _ rfl)
    · exact He.meth_ok (f0 7 _ rfl)
    · exact He.meth_ok (f0 8 _ rfl)
    · exact He.meth_ok (f0 9 _ rfl)
  have hxc : ∀ x ∈ (["NoText", "NoKind", "Taken"] : List Str), PySem.W.excIn K (He.ga K x) He.veBase "ValueError.__new__" = true ∧ PySem.W.keepIn K (.ref (He.ga K x)) = true ∧ PySem.W.subIn K (.ref (He.ga K x)) (.type "BaseException") = some true ∧ PySem.W.typeIn K (.ref (He.ga K x)) = some (.type "type") := fun x hx => by
    simp only [List.mem_cons, List.not_mem_nil, or_false] at hx
    rcases hx with rfl | rfl | rfl
    · exact He.exc_ok (f0 11 _ rfl)
    · exact He.exc_ok (f0 12 _ rfl)
    · exact He.exc_ok (f0 13 _ rfl)
  have hca : ∀ x ∈ raised, PySem.W.exmOne K (.ref (He.ga K x)) (.ref (He.ga K "FitError")) = some true := fun x hx => by
    simp only [raised, List.mem_cons, List.not_mem_nil, or_false] at hx
    rcases hx with rfl | rfl | rfl | rfl
    · exact He.exm_ok (f0 14 _ rfl)
    · exact He.exm_ok (f0 15 _ rfl)
    · exact He.exm_ok (f0 16 _ rfl)
    · exact He.exm_ok (f0 17 _ rfl)
  have hfi : PySem.W.findCls K (.ref (He.ga K "FitError")) (.type "type") "__init__" = some (.val (.builtin "ValueError.__init__")) := by
    split at f3
    · assumption
    · cases f3
  have hkt : ∀ x ∈ raised, (∀ y ∈ asked, PySem.W.kitOne K (.ref (He.ga K x)) (.ref (He.ga K y)) = some (decide (x = y))) ∧ PySem.W.kitOne K (.ref (He.ga K x)) (.type "ValueError") = some true := fun x hx => by
    obtain ⟨k1, k2⟩ := He.ba (List.all_eq_true.mp e2 x hx)
    exact ⟨fun y hy => of_decide_eq_true (List.all_eq_true.mp k1 y hy), of_decide_eq_true k2⟩
  exact
    { mL := He.str_ok X G (f0 1 _ rfl)
      mM := He.int_ok X G (f0 0 _ rfl)
      m_OTHER_WORDS := PySem.W.mg_of X G (of_decide_eq_true t2)
      words := hw
      fr := fun x hx => He.free_ok X G (fr x hx)
      gl := fun x hx => He.glo_ok X G (ga x hx)
      cl := He.cls_ok (f0 2 _ rfl)
      nU := He.noat_ok (f0 3 _ rfl)
      me := hme
      wmk := He.mkr_ok (f0 10 _ rfl)
      xc := hxc
      ca := hca
      ri := ⟨oexB_ok c1, of_decide_eq_true c2, of_decide_eq_true c3, of_decide_eq_true c4, c5⟩
      riNo := of_decide_eq_true c6
      riIn := of_decide_eq_true c7
      riFn := of_decide_eq_true c8
      fiRd := f1
      fiGa := of_decide_eq_true f2
      fiIn := hfi
      ec := fun x hx => excCB_ok (List.all_eq_true.mp e1 x hx)
      kt := hkt }
/-! ### a def that keeps a promise, ready to be called -/
structure Fok (P : Program) (w : World) (K : PySem.W.Frag) (mg : Str → Option Value) (base : Heap) (CX : CXT) (k : Nat) (f : Addr) (ps : List Str) (sp : Sp) : Prop where
  ex : ∃ fd, FnOk P w K mg base CX k f fd ps sp ∧ Binds K fd ps []
  kp : PySem.W.keepIn K (.ref f) = true
/-! ### data by what is true of it -/
abbrev Pr := V → Hp → Prop
def EvP (te : TE) (σ : L2.St) (H : Hp) (P : Pr) : Prop := ∀ H1, Ex H H1 → ∀ Q : VK, (∀ v H2, Ex H1 H2 → P v H2 → Q v H2) → te σ H1 Q
/-- a new object -/
def EvN (te : TE) (σ : L2.St) (H : Hp) (P : Addr → Hp → Prop) : Prop := ∀ H1, Ex H H1 → ∀ Q : VK, (∀ p H2, H1 p = none → Ex H1 H2 → P p H2 → Q (.ref p) H2) → te σ H1 Q
theorem EvN.p {te : TE} {σ : L2.St} {H : Hp} {P : Addr → Hp → Prop} (h : EvN te σ H P) : EvP te σ H fun v H' => ∃ p, v = .ref p ∧ P p H' := fun H1 e Q q => h H1 e Q fun p H2 _ e2 hp => q _ H2 e2 ⟨p, rfl, hp⟩
theorem EvN.mono {te : TE} {σ : L2.St} {H H' : Hp} {P : Addr → Hp → Prop} (e : Ex H H') (h : EvN te σ H P) : EvN te σ H' P := fun H1 a Q q => h H1 (e.trans a) Q q
theorem EvP.mono {te : TE} {σ : L2.St} {H H' : Hp} {P : Pr} (e : Ex H H') (h : EvP te σ H P) : EvP te σ H' P := fun H1 a Q q => h H1 (e.trans a) Q q
theorem EvL.n {te : TE} {σ : L2.St} {H : Hp} {xs : List V} (h : EvL te σ H xs) : EvN te σ H fun p H' => H' p = some (.lst xs) := h
theorem EvU.n {te : TE} {σ : L2.St} {H : Hp} {xs : List V} (h : EvU te σ H xs) : EvN te σ H fun p H' => H' p = some (.tup xs) := h
theorem Ev.p {te : TE} {σ : L2.St} {H : Hp} {v : V} (h : Ev te σ H v) : EvP te σ H fun u _ => u = v := fun H1 e Q q => h H1 e Q fun H2 e2 => q _ H2 e2 rfl
theorem EvP.imp {te : TE} {σ : L2.St} {H : Hp} {P P' : Pr} (h : EvP te σ H P) (i : ∀ v H', Ex H H' → P v H' → P' v H') : EvP te σ H P' := fun H1 e Q q => h H1 e Q fun v H2 e2 p => q v H2 e2 (i v H2 (e.trans e2) p)
/-- a list of texts -/
def Lst (xs : List Str) : Pr := fun v H => ∃ a, v = .ref a ∧ H a = some (.lst (xs.map V.str))
theorem Lst.mono {xs : List Str} {v : V} {H H' : Hp} (e : Ex H H') (h : Lst xs v H) : Lst xs v H' := by
  obtain ⟨a, rfl, h⟩ := h
  exact ⟨a, rfl, e a _ h⟩
/-- a tuple of a name and a list of names; apart from what may still change -/
abbrev Tu := Str × List Str
def Tw (t : Tu) : Pr := fun v H => ∃ p o, v = .ref p ∧ H p = some (.tup [.str t.1, .ref o]) ∧ H o = some (.lst (t.2.map V.str))
def TwX (M : List Addr) (t : Tu) : Pr := fun v H => ∃ p o, v = .ref p ∧ p ∉ M ∧ o ∉ M ∧ H p = some (.tup [.str t.1, .ref o]) ∧ H o = some (.lst (t.2.map V.str))
theorem Tw.mono {t : Tu} {v : V} {H H' : Hp} (e : Ex H H') (h : Tw t v H) : Tw t v H' := by
  obtain ⟨p, o, rfl, h1, h2⟩ := h
  exact ⟨p, o, rfl, e p _ h1, e o _ h2⟩
theorem TwX.mono {M : List Addr} {t : Tu} {v : V} {H H' : Hp} (e : Ex H H') (h : TwX M t v H) : TwX M t v H' := by
  obtain ⟨p, o, rfl, n1, n2, h1, h2⟩ := h
  exact ⟨p, o, rfl, n1, n2, e p _ h1, e o _ h2⟩
/-- all but what may change is as it was -/
def ExM (M : List Addr) (H H' : Hp) : Prop := ∀ b o, b ∉ M → H b = some o → H' b = some o
theorem ExM.refl (M : List Addr) (H : Hp) : ExM M H H := fun _ _ _ h => h
theorem ExM.trans {M : List Addr} {H H1 H2 : Hp} (a : ExM M H H1) (b : ExM M H1 H2) : ExM M H H2 := fun c o hc h => b c o hc (a c o hc h)
theorem ExM.of {M : List Addr} {H H' : Hp} (e : Ex H H') : ExM M H H' := fun b o _ h => e b o h
theorem ExM.upd {M : List Addr} {H : Hp} {p : Addr} {o : HO} (hp : p ∈ M) : ExM M H (upd H p o) := fun b u hb h => by
  rw [upd_ne (fun z => hb (by rw [z]; exact hp))]
  exact h
theorem ExM.ex {M : List Addr} {H H' : Hp} (e : ExM M H H') (n : ∀ p ∈ M, H p = none) : Ex H H' := fun b o h => e b o (fun m => by
  rw [n b m] at h
  cases h) h
theorem ExM.sub {M M' : List Addr} {H H' : Hp} (e : ExM M H H') (s : ∀ p ∈ M, p ∈ M') : ExM M' H H' := fun b o hb h => e b o (fun m => hb (s b m)) h
theorem TwX.monoM {M : List Addr} {t : Tu} {v : V} {H H' : Hp} (e : ExM M H H') (h : TwX M t v H) : TwX M t v H' := by
  obtain ⟨p, o, rfl, n1, n2, h1, h2⟩ := h
  exact ⟨p, o, rfl, n1, n2, e p _ n1 h1, e o _ n2 h2⟩
theorem TwX.tw {M : List Addr} {t : Tu} {v : V} {H : Hp} (h : TwX M t v H) : Tw t v H := by
  obtain ⟨p, o, rfl, _, _, h1, h2⟩ := h
  exact ⟨p, o, rfl, h1, h2⟩
theorem Tw.twx {M : List Addr} {t : Tu} {v : V} {H H' : Hp} (h : Tw t v H) (n : ∀ p ∈ M, H p = none) : TwX M t v H := by
  obtain ⟨p, o, rfl, h1, h2⟩ := h
  refine ⟨p, o, rfl, fun m => ?_, fun m => ?_, h1, h2⟩
  · rw [n p m] at h1; cases h1
  · rw [n o m] at h2; cases h2
/-- values, each as its own thing says -/
def All2 {α : Type} (R : α → Pr) (xs : List α) (vs : List V) (H : Hp) : Prop := vs.length = xs.length ∧ ∀ (i : Nat) x v, xs[i]? = some x → vs[i]? = some v → R x v H
theorem All2.imp {α : Type} {R R' : α → Pr} {xs : List α} {vs : List V} {H H' : Hp} (m : ∀ x v, R x v H → R' x v H') (h : All2 R xs vs H) : All2 R' xs vs H' := ⟨h.1, fun i x v a b => m x v (h.2 i x v a b)⟩
theorem All2.nil {α : Type} {R : α → Pr} {H : Hp} : All2 R [] [] H := ⟨rfl, fun i x v a => by simp at a⟩
theorem All2.append {α : Type} {R : α → Pr} {xs ys : List α} {vs us : List V} {H : Hp} (h : All2 R xs vs H) (k : All2 R ys us H) : All2 R (xs ++ ys) (vs ++ us) H := by
  refine ⟨by rw [List.length_append, List.length_append, h.1, k.1], fun i x v a b => ?_⟩
  by_cases hi : i < xs.length
  · rw [List.getElem?_append_left hi] at a
    rw [List.getElem?_append_left (by rw [h.1]; exact hi)] at b
    exact h.2 i x v a b
  · rw [List.getElem?_append_right (by omega)] at a
    rw [List.getElem?_append_right (by rw [h.1]; omega), h.1] at b
    exact k.2 _ x v a b
theorem All2.one {α : Type} {R : α → Pr} {H : Hp} {x : α} {v : V} (r : R x v H) : All2 R [x] [v] H := ⟨rfl, fun i y u a b => by
  cases i with
  | zero =>
    cases a
    cases b
    exact r
  | succ n => simp at a⟩
theorem All2.snoc {α : Type} {R : α → Pr} {xs : List α} {vs : List V} {H : Hp} {x : α} {v : V} (h : All2 R xs vs H) (r : R x v H) : All2 R (xs ++ [x]) (vs ++ [v]) H := h.append (All2.one r)
theorem All2.get {α : Type} {R : α → Pr} {xs : List α} {vs : List V} {H : Hp} (h : All2 R xs vs H) {i : Nat} {v : V} (hv : vs[i]? = some v) : ∃ x, xs[i]? = some x ∧ R x v H := by
  have hi : i < vs.length := (List.getElem?_eq_some_iff.mp hv).1
  rw [h.1] at hi
  exact ⟨xs[i], List.getElem?_eq_getElem hi, h.2 i _ v (List.getElem?_eq_getElem hi) hv⟩
theorem All2.at {α : Type} {R : α → Pr} {xs : List α} {vs : List V} {H : Hp} (h : All2 R xs vs H) {i : Nat} {x : α} (hx : xs[i]? = some x) : ∃ v, vs[i]? = some v ∧ R x v H := by
  have hi : i < xs.length := (List.getElem?_eq_some_iff.mp hx).1
  rw [← h.1] at hi
  exact ⟨vs[i], List.getElem?_eq_getElem hi, h.2 i x _ hx (List.getElem?_eq_getElem hi)⟩
theorem All2.take {α : Type} {R : α → Pr} {xs : List α} {vs : List V} {H : Hp} (h : All2 R xs vs H) (n : Nat) : All2 R (xs.take n) (vs.take n) H := by
  refine ⟨by rw [List.length_take, List.length_take, h.1], fun i x v a b => ?_⟩
  by_cases hi : i < n
  · rw [List.getElem?_take_of_lt hi] at a b
    exact h.2 i x v a b
  · rw [List.getElem?_take_eq_none (by omega)] at a
    cases a
theorem All2.drop {α : Type} {R : α → Pr} {xs : List α} {vs : List V} {H : Hp} (h : All2 R xs vs H) (n : Nat) : All2 R (xs.drop n) (vs.drop n) H := by
  refine ⟨by rw [List.length_drop, List.length_drop, h.1], fun i x v a b => ?_⟩
  rw [List.getElem?_drop] at a b
  exact h.2 _ x v a b
/-- a list of such tuples -/
def Tws (ts : List Tu) : Pr := fun v H => ∃ a vs, v = .ref a ∧ H a = some (.lst vs) ∧ All2 Tw ts vs H
theorem Tws.mono {ts : List Tu} {v : V} {H H' : Hp} (e : Ex H H') (h : Tws ts v H) : Tws ts v H' := by
  obtain ⟨a, vs, rfl, h1, h2⟩ := h
  exact ⟨a, vs, rfl, e a _ h1, h2.imp fun _ _ => Tw.mono e⟩
/-! ### as data that == compares -/
def dS (xs : List Str) : PyData := .list (xs.map PyData.str)
def dT (t : Tu) : PyData := .tuple [.str t.1, dS t.2]
def dTs (ts : List Tu) : PyData := .list (ts.map dT)
theorem dp_strs (K : PySem.W.Frag) (H : Hp) : ∀ xs : List Str, DpAll K H (xs.map V.str) (xs.map PyData.str)
  | [] => .nil
  | x :: xs => .cons (.str x) (dp_strs K H xs)
theorem Lst.dp (K : PySem.W.Frag) {xs : List Str} {v : V} {H : Hp} (h : Lst xs v H) : Dp K H v (dS xs) := by
  obtain ⟨a, rfl, h⟩ := h
  exact .lst (SqL.of h) (dp_strs K H xs)
theorem Tw.dp (K : PySem.W.Frag) {t : Tu} {v : V} {H : Hp} (h : Tw t v H) : Dp K H v (dT t) := by
  obtain ⟨p, o, rfl, h1, h2⟩ := h
  exact .tup (SqT.of h1) (.cons (.str _) (.cons (.lst (SqL.of h2) (dp_strs K H _)) .nil))
theorem dp_all {α : Type} {K : PySem.W.Frag} {R : α → Pr} {H : Hp} (d : α → PyData) (hd : ∀ x v, R x v H → Dp K H v (d x)) : ∀ {xs : List α} {vs : List V}, All2 R xs vs H → DpAll K H vs (xs.map d)
  | [], [], _ => .nil
  | [], _ :: _, h => by cases h.1
  | _ :: _, [], h => by cases h.1
  | x :: xs, v :: vs, h => .cons (hd x v (h.2 0 x v rfl rfl)) (dp_all d hd (xs := xs) (vs := vs) ⟨Nat.succ.inj h.1, fun i y u a b => h.2 (i + 1) y u a b⟩)
theorem Tws.dp (K : PySem.W.Frag) {ts : List Tu} {v : V} {H : Hp} (h : Tws ts v H) : Dp K H v (dTs ts) := by
  obtain ⟨a, vs, rfl, h1, h2⟩ := h
  exact .lst (SqL.of h1) (dp_all dT (fun _ _ h => h.dp K) h2)
/-! ### readings used up -/
section
variable {te ta tb : TE} {σ : L2.St} {H : Hp} {v x z : V} {Q : VK} {xs : List V} {P : Pr} {PN : Addr → Hp → Prop} {K : PySem.W.Frag}
theorem use_ev (h : Ev te σ H v) (k : ∀ H2, Ex H H2 → Q v H2) : te σ H Q := h H (Ex.refl H) Q k
theorem use_el (h : EvL te σ H xs) (k : ∀ p H2, H p = none → Ex H H2 → H2 p = some (.lst xs) → Q (.ref p) H2) : te σ H Q := h H (Ex.refl H) Q k
theorem use_p (h : EvP te σ H P) (k : ∀ v H2, Ex H H2 → P v H2 → Q v H2) : te σ H Q := h H (Ex.refl H) Q k
theorem use_n (h : EvN te σ H PN) (k : ∀ p H2, H p = none → Ex H H2 → PN p H2 → Q (.ref p) H2) : te σ H Q := h H (Ex.refl H) Q k
theorem use_t {t : TT} {b : Bool} {Q : Bool → Hp → Prop} (h : EvT t σ H b) (k : ∀ H2, Ex H H2 → Q b H2) : t σ H Q := h H (Ex.refl H) Q k
theorem ev_cbL {r : List V → Hp → VK → Prop} (h : EvL ta σ H xs) (hr : ∀ p H1, Ex H H1 → H1 p = some (.lst xs) → RC r [.ref p] H1 z) : Ev (tCB r (tCons ta tNil)) σ H z := fun H1 e Q q =>
  h H1 e _ fun p H2 _ e2 hp => hr p H2 (e.trans e2) hp H2 (Ex.refl H2) Q fun H3 e3 => q H3 (e2.trans e3)
theorem ev_cb1 {r : List V → Hp → VK → Prop} (h : Ev ta σ H x) (hr : RC r [x] H z) : Ev (tCB r (tCons ta tNil)) σ H z := ev_cb (ea_cons h ea_nil) hr
theorem rc_all {bs : List Bool} {p : Addr} (h : H p = some (.lst (bs.map V.bl))) : RC (rAll K) [.ref p] H (.bl (bs.all id)) := fun H1 e _ q => ⟨p, bs, rfl, SqL.of (e p _ h), q H1 (Ex.refl H1)⟩
theorem rc_any {bs : List Bool} {p : Addr} (h : H p = some (.lst (bs.map V.bl))) : RC (rAny K) [.ref p] H (.bl (bs.any id)) := fun H1 e _ q => ⟨p, bs, rfl, SqL.of (e p _ h), q H1 (Ex.refl H1)⟩
theorem rc_len {p : Addr} (h : H p = some (.lst xs)) : RC (fun xs H Q => ∃ x n, xs = [x] ∧ LenV K x H n ∧ Q (.int (n : Nat)) H) [.ref p] H (.int (xs.length : Nat)) := fun H1 e _ q => ⟨_, xs.length, rfl, .inl ⟨_, SqL.of (e p _ h), rfl⟩, q H1 (Ex.refl H1)⟩
theorem rc_lenS {y : Str} (hz : y.length ≤ 100000) : RC (fun xs H Q => ∃ x n, xs = [x] ∧ LenV K x H n ∧ Q (.int (n : Nat)) H) [.str y] H (.int (y.length : Nat)) := fun H1 e _ q => ⟨_, y.length, rfl, ⟨sz_of hz, rfl⟩, q H1 (Ex.refl H1)⟩
end
/-! ### comprehensions: what each kept turn gives -/
/-- the elements are values -/
theorem el_lcV {K : PySem.W.Frag} {σ : L2.St} {H : Hp} {a : Addr} {xs : List V} {tl : TE} {g : TG} {t : TT} {te : TE} {vs : List Nat} (S : Nat → L2.St) (out : Nat → Option V) (h : Ev tl σ H (.ref a)) (hx : SqL K H a xs) (hz : xs.length ≤ 40000)
    (hg : ∀ (i : Nat) (x : V) H1, Ex H H1 → xs[i]? = some x → ∀ Q, Q (S i) H1 → g x (wipe σ vs) H1 Q) (hw : ∀ i, wipe (S i) vs = wipe σ vs)
    (ht : ∀ (i : Nat) (x : V) H1, Ex H H1 → xs[i]? = some x → EvT t (S i) H1 (out i).isSome) (he : ∀ (i : Nat) (x : V) (y : V) H1, Ex H H1 → xs[i]? = some x → out i = some y → Ev te (S i) H1 y) :
    EvL (tLc (iList K tl) g t te vs) σ H ((List.range xs.length).filterMap out) := fun H0 e Q q => h H0 e _ fun H1 e1 => ⟨a, rfl, ⟨xs, ex_l (e.trans e1) hx⟩, fun D hD => by
  have E01 := e.trans e1
  refine lc_list (xs := xs) (fun i H' => H1 D = none ∧ Ex H1 H' ∧ H' D = some (.lst ((List.range i).filterMap out))) ⟨hD, Ex.new hD, upd_same⟩ (fun i H' _ p => ex_l (E01.trans p.2.1) hx) (fun i x H' hi p => ?_) (fun H' p => q D H' (fresh_back e1 p.1) (e1.trans p.2.1) p.2.2)
  obtain ⟨p1, p2, p3⟩ := p
  have lt : i < xs.length := (List.getElem?_eq_some_iff.mp hi).1
  refine hg i x H' (E01.trans p2) hi _ ⟨hw i, ht i x H' (E01.trans p2) hi H' (Ex.refl H') _ fun H3 e3 => ?_⟩
  have acl : ((List.range i).filterMap out).length ≤ i := Nat.le_trans (List.length_filterMap_le ..) (Nat.le_of_eq List.length_range)
  cases ho : out i with
  | none =>
    show H1 D = none ∧ _
    refine ⟨p1, p2.trans e3, ?_⟩
    rw [List.range_succ, List.filterMap_append, List.filterMap_cons, ho]
    simp only [List.filterMap_nil, List.append_nil]
    exact e3 D _ p3
  | some y =>
    show te (S i) H3 _
    refine he i x y H3 ((E01.trans p2).trans e3) hi ho H3 (Ex.refl H3) _ fun H4 e4 => ⟨_, e4 D _ (e3 D _ p3), sz_lt (by omega), p1, Ex.mut ((p2.trans e3).trans e4) p1, ?_⟩
    rw [List.range_succ, List.filterMap_append, List.filterMap_cons, ho]
    exact upd_same⟩
/-- the elements are new tuples, each with a list that is new or stood ahead -/
theorem en_lcT {K : PySem.W.Frag} {σ : L2.St} {H : Hp} {a : Addr} {xs : List V} {tl : TE} {g : TG} {te : TE} {vs : List Nat} (S : Nat → L2.St) (out : List Tu) (h : Ev tl σ H (.ref a)) (hx : SqL K H a xs) (hz : xs.length ≤ 40000) (ho : out.length = xs.length)
    (hg : ∀ (i : Nat) (x : V) H1, Ex H H1 → xs[i]? = some x → ∀ Q, Q (S i) H1 → g x (wipe σ vs) H1 Q) (hw : ∀ i, wipe (S i) vs = wipe σ vs)
    (he : ∀ (i : Nat) (x : V) (y : Tu) H1, Ex H H1 → xs[i]? = some x → out[i]? = some y → ∀ Q : VK, (∀ v H2, Ex H1 H2 → (∀ M : List Addr, (∀ p ∈ M, H p = none ∧ H1 p ≠ none) → TwX M y v H2) → Q v H2) → te (S i) H1 Q) :
    EvP (tLc (iList K tl) g tYes te vs) σ H (Tws out) := fun H0 e Q q => h H0 e _ fun H1 e1 => ⟨a, rfl, ⟨xs, ex_l (e.trans e1) hx⟩, fun D hD => by
  have E01 := e.trans e1
  have hDH : H D = none := fresh_back E01 hD
  refine lc_list (xs := xs) (fun i H' => Ex H1 H' ∧ ∃ acc, H' D = some (.lst acc) ∧ All2 (TwX [D]) (out.take i) acc H') ⟨Ex.new hD, [], upd_same, by rw [List.take_zero]; exact All2.nil⟩ (fun i H' _ p => ex_l (E01.trans p.1) hx) (fun i x H' hi p => ?_) (fun H' p => ?_)
  · obtain ⟨p2, acc, p3, p4⟩ := p
    have lt : i < xs.length := (List.getElem?_eq_some_iff.mp hi).1
    have lto : i < out.length := by omega
    refine hg i x H' (E01.trans p2) hi _ ⟨hw i, ?_⟩
    show te (S i) H' _
    have acl : acc.length ≤ i := by
      rw [p4.1, List.length_take]
      omega
    refine he i x out[i] H' (E01.trans p2) hi (List.getElem?_eq_getElem lto) _ fun v H4 e4 r => ⟨acc, e4 D _ p3, sz_lt (by omega), Ex.mut (p2.trans e4) hD, acc ++ [v], upd_same, ?_⟩
    have em : ExM [D] H4 (upd H4 D (.lst (acc ++ [v]))) := ExM.upd (List.mem_singleton.mpr rfl)
    rw [List.take_add_one, List.getElem?_eq_getElem lto]
    refine All2.snoc (p4.imp fun _ _ k => (k.mono e4).monoM em) ((r [D] fun p hp => ?_).monoM em)
    rw [List.mem_singleton.mp hp]
    exact ⟨hDH, by rw [p3]; simp⟩
  · obtain ⟨p2, acc, p3, p4⟩ := p
    rw [← ho, List.take_of_length_le (Nat.le_refl _)] at p4
    exact q _ H' (e1.trans p2) ⟨D, acc, rfl, p3, p4.imp fun _ _ k => k.tw⟩⟩
/-- over a text, sign by sign -/
theorem el_lcS {σ : L2.St} {H : Hp} {z : Str} {tz : TE} {g : TG} {t : TT} {te : TE} {vs : List Nat} (S : Nat → L2.St) (out : Nat → Option V) (h : Ev tz σ H (.str z)) (hz : z.length ≤ 40000)
    (hg : ∀ (c : Nat) H1, Ex H H1 → ∀ Q, Q (S c) H1 → g (.str ⟨#[c]⟩) (wipe σ vs) H1 Q) (hw : ∀ c, wipe (S c) vs = wipe σ vs)
    (ht : ∀ (c : Nat) H1, Ex H H1 → EvT t (S c) H1 (out c).isSome) (he : ∀ (c : Nat) (y : V) H1, Ex H H1 → out c = some y → Ev te (S c) H1 y) :
    EvL (tLc (iStr tz) g t te vs) σ H ((TL.tl z).filterMap out) := fun H0 e Q q => h H0 e _ fun H1 e1 => ⟨z, rfl, fun D hD => by
  have E01 := e.trans e1
  refine lc_it (walk_str (z := z)) (fun i H' => H1 D = none ∧ Ex H1 H' ∧ H' D = some (.lst (((TL.tl z).take i).filterMap out))) ⟨hD, Ex.new hD, by rw [List.take_zero]; exact upd_same⟩ (fun _ _ _ _ => trivial) (fun i x H' H2 hi p y => ?_) (fun H' p => ?_)
  · obtain ⟨rfl, c, hc, rfl⟩ := y
    obtain ⟨p1, p2, p3⟩ := p
    have hc' : (TL.tl z)[i]? = some c := by rw [← hc]; exact Array.getElem?_toList ..
    have acl : (((TL.tl z).take i).filterMap out).length ≤ i := Nat.le_trans (List.length_filterMap_le ..) (by rw [List.length_take]; omega)
    have lz : i < z.length := hi
    refine hg c _ (E01.trans p2) _ ⟨hw c, ht c _ (E01.trans p2) _ (Ex.refl _) _ fun H3 e3 => ?_⟩
    have eq : ((TL.tl z).take (i + 1)).filterMap out = ((TL.tl z).take i).filterMap out ++ [c].filterMap out := by rw [List.take_add_one, hc', List.filterMap_append] <;> rfl
    cases ho : out c with
    | none =>
      show H1 D = none ∧ _
      refine ⟨p1, p2.trans e3, ?_⟩
      rw [eq, List.filterMap_cons, ho]
      simp only [List.filterMap_nil, List.append_nil]
      exact e3 D _ p3
    | some y =>
      show te (S c) H3 _
      refine he c y H3 ((E01.trans p2).trans e3) ho H3 (Ex.refl H3) _ fun H4 e4 => ⟨_, e4 D _ (e3 D _ p3), sz_lt (by omega), p1, Ex.mut ((p2.trans e3).trans e4) p1, ?_⟩
      rw [eq, List.filterMap_cons, ho]
      exact upd_same
  · obtain ⟨p1, p2, p3⟩ := p
    have hz : (TL.tl z).take z.cps.size = TL.tl z := List.take_of_length_le (by rw [← TL.len_tl]; exact Nat.le_refl _)
    rw [hz] at p3
    exact q D H' (fresh_back e1 p1) (e1.trans p2) p3⟩
end Wt

-- WtA
set_option maxHeartbeats 1000000
namespace Wt
open PySem PySem.Spec PyProof.Rows L2 Evl
/-! ### names -/
def nmC (c : Nat) : Bool := decide (97 ≤ c ∧ c ≤ 122)
def isNm (z : Str) : Bool := decide (1 ≤ z.length) && decide (z.length ≤ 8) && !decide (z ∈ words) && (TL.tl z).all nmC
theorem letters (c : Nat) : decide (c ∈ TL.tl ("abcdefghijklmnopqrstuvwxyz" : Str)) = nmC c := by
  have e : TL.tl ("abcdefghijklmnopqrstuvwxyz" : Str) = (List.range 26).map (97 + ·) := by decide +kernel
  rw [e]
  unfold nmC
  refine decide_eq_decide.mpr ?_
  rw [List.mem_map]
  constructor
  · rintro ⟨a, ha, rfl⟩
    have := List.mem_range.mp ha
    omega
  · rintro ⟨h1, h2⟩
    exact ⟨c - 97, List.mem_range.mpr (by omega), by omega⟩
/-! ### _law_cell -/
def sp_cell (K : PySem.W.Frag) : Sp := fun vs H Q _ => ∃ (a : Addr) (ns : List Int) (k : Nat), vs = [.ref a, .int k] ∧ SqL K H a (ns.map V.int) ∧ ns.length ≤ 63 ∧ ∀ i : Int, Q (.int i) H
section
variable {P : Program} {w : World} {K : PySem.W.Frag} {mg : Str → Option Value} {base : Heap}
theorem ok_cell {f : Addr} {fd : FuncData} (T : Txt K mg) (F : Fd K d__law_cell f fd) : FnOk P w K mg base CX0 1 f fd P__law_cell (sp_cell K) := by
  refine FunD.ok F sc__law_cell (fun vs H Q E h => ?_) (fun cdv A outer s H vs Q E hr h => ?_)
  · obtain ⟨a, ns, k, rfl, _⟩ := h
    rfl
  · obtain ⟨a, ns, k, rfl, hS, hl, q⟩ := h
    refine ⟨_, PSs.nox (pss_one (ps_ret (pe_ifExp (pt_cmpR op_lt (pv 1) (pe_callB call_len (by rfl) T.f_len (by decide +kernel) (pa_cons (pv 0) pa_nil)) (nomark _)) (pe_ix ix_list (pv 0) (pv 1) (fun _ _ => rfl)) pe_int))), ?_⟩
    refine ⟨_, rfl, _, rfl, _, (ns.map V.int).length, rfl, .inl ⟨_, hS, rfl⟩, _, _, rfl, rfl, _, rfl, ?_⟩
    by_cases hk : (k : Int) < ((ns.map V.int).length : Nat)
    · rw [decide_eq_true hk]
      have hk' : k < ns.length := by rw [List.length_map] at hk; omega
      refine ⟨_, rfl, _, rfl, _, _, _, .int ns[k], rfl, rfl, hS, atI_nat (by rw [List.getElem?_map, List.getElem?_eq_getElem hk'] <;> rfl), q _⟩
    · rw [decide_eq_false hk]
      exact q _
/-! ### is_name -/
def sp_nm : Sp := fun vs H Q _ => ∃ z : Str, vs = [.str z] ∧ z.length ≤ 40000 ∧ ∀ H', Ex H H' → Q (.bl (isNm z)) H'
theorem strs_in {z : Str} {xs : List Str} : inV (.str z) (xs.map V.str) = decide (z ∈ xs) := by
  unfold inV
  rw [List.any_map]
  rw [Bool.eq_iff_iff, List.any_eq_true, decide_eq_true_eq]
  constructor
  · rintro ⟨x, hx, e⟩
    have e : eqV (.str x) (.str z) = true := e
    unfold eqV at e
    have : x = z := by simpa using e
    rw [← this]
    exact hx
  · intro h
    exact ⟨z, h, by show eqV (.str z) (.str z) = true; unfold eqV; simp⟩
theorem flat_strs (xs : List Str) : (xs.map V.str).all flatV = true := by
  rw [List.all_map]
  exact List.all_eq_true.mpr fun _ _ => rfl
theorem filter_some {α : Type} (g : Nat → α) : ∀ l : List Nat, l.filterMap (fun c => some (g c)) = l.map g
  | [] => rfl
  | c :: l => by rw [List.filterMap_cons]; exact congrArg _ (filter_some g l)
theorem ok_is_name {f : Addr} {fd : FuncData} (T : Txt K mg) (F : Fd K d_is_name f fd) : FnOk P w K mg base CX0 1 f fd P_is_name sp_nm := by
  obtain ⟨tL, mL⟩ := T.mL
  obtain ⟨tM, mM⟩ := T.mM
  refine FunD.ok F sc_is_name (fun vs H Q E h => ?_) (fun cdv A outer s H vs Q E hr h => ?_)
  · obtain ⟨z, rfl, _⟩ := h
    rfl
  · obtain ⟨z, rfl, hz, q⟩ := h
    refine ⟨_, PSs.nox (pss_cons (ps_if (PW.pt (pw_or (pt_not (pt_val (pe_callB call_isi (by rfl) T.f_isinstance (by decide +kernel) (pa_cons (pv 0) (pa_cons (pe_bltn (v := .ty "str") (u := .type "str") rfl T.f_str (by decide +kernel) rfl) pa_nil))))) (pw_or (pt_cmpR op_eq (pv 0) pe_str (nomark _)) (pw_or1 (pt_cmpR op_gt (pe_callB call_len (by rfl) T.f_len (by decide +kernel) (pa_cons (pv 0) pa_nil)) (pe_glob (v := .int 8) rfl mM ⟨_, rfl⟩) (nomark _)))))) (pss_one (ps_ret pe_bl)) pss_nil)
  (pss_one (ps_ret (pe_and (pe_cmpR op_notIn_seq (pv 0) (pe_glob (v := .ref (He.ga K "OTHER_WORDS")) rfl T.m_OTHER_WORDS rfl) (by rfl)) (pe_one (pe_callB (cr_all rfl) (by rfl) T.f_all (by decide +kernel) (pa_cons (pe_lc (own := [("sign", 1)]) (g := gName 1) (tt := tYes) rfl sc_is_name.nd (pi_str (pv 0)) (blkOk_by (own := [("sign", 1)]) (N := N_is_name) (sc := (defScope s_is_name)) (by decide +kernel))
    (fun _ _ _ _ _ => (pg_name (i := 1) sc_is_name.nd rfl (Or.inl rfl))) (fun _ _ _ _ _ => pts_nil)
    (fun _ _ _ _ _ => (pe_cmpR op_in_sign (pv 1) (pe_glob (v := .str "abcdefghijklmnopqrstuvwxyz") rfl mL ⟨_, rfl⟩) (by rfl)))) pa_nil))))))), ?_⟩
    have hsz : z.length ≤ sizeLine := sz_of (by omega)
    refine ⟨_, rfl, _, _, .type "str", .type "str", true, rfl, .ty _, .base (.str z), kit_ty (by decide +kernel), _, rfl, iteF ?_⟩
    refine ⟨_, rfl, rfl, _, rfl, ?_⟩
    by_cases h0 : z = ""
    · rw [decide_eq_true (congrArg V.str h0)]
      refine iteT (iteT ?_)
      have : isNm z = false := by rw [h0]; decide +kernel
      rw [← this]
      exact q H (Ex.refl H)
    · rw [decide_eq_false (fun e => h0 (V.str.inj e))]
      refine iteF ⟨_, rfl, _, z.length, rfl, ⟨hsz, rfl⟩, _, _, rfl, rfl, _, rfl, ?_⟩
      have h1 : 1 ≤ z.length := by
        rcases Nat.eq_zero_or_pos z.length with e | e
        · exact absurd (TL.ext_tl (x := z) (y := "") (by rw [TL.len_tl] at e; rw [List.length_eq_zero_iff.mp e]; decide +kernel)) h0
        · exact e
      by_cases h8 : (8 : Int) < (z.length : Nat)
      · rw [decide_eq_true h8]
        refine iteT ?_
        have : isNm z = false := by
          unfold isNm
          rw [decide_eq_false (show ¬ z.length ≤ 8 by omega)]
          simp
        rw [← this]
        exact q H (Ex.refl H)
      · rw [decide_eq_false h8]
        refine iteF ?_
        have hn : isNm z = (!decide (z ∈ words) && (TL.tl z).all nmC) := by
          unfold isNm
          rw [decide_eq_true h1, decide_eq_true (show z.length ≤ 8 by omega)]
          rfl
        dsimp only [tNext, tRet]
        refine use_ev (ev_andV (a := !decide (z ∈ words)) (b := (TL.tl z).all nmC) (ev_is (ev_op (ev_var rfl) ev_c (rv_niT (T.words H) rfl (flat_strs _))) (by rw [strs_in] <;> rfl)) (fun _ => ?_)) fun H2 e2 => by rw [← hn]; exact q H2 e2
        refine ev_is (ev_cbL (el_lcS (fun c => [some (.str z), some (.str ⟨#[c]⟩)]) (fun c => some (.bl (nmC c))) (ev_var rfl) hz (fun c H1 _ Q q => q) (fun c => rfl) (fun c H1 _ => fun H2 e2 Q q => q H2 (Ex.refl H2)) fun c y H1 _ e => ?_) fun p H1 _ hp => rc_all (bs := (TL.tl z).map nmC) ?_) (by rw [List.all_map] <;> rfl)
        · cases e
          exact fun H2 e2 Q q => ⟨_, rfl, _, _, rfl, rfl, by rw [letters]; exact q H2 (Ex.refl H2)⟩
        · rw [hp, filter_some, List.map_map] <;> rfl
end
end Wt

-- WtD1
set_option maxHeartbeats 1000000
namespace Wt
open PySem PySem.Spec PyProof.Rows L2 Evl
/-! ### slices by their signs -/
theorem cut_clip {α : Type} (L : List α) (a b : Nat) : (L.drop (min a L.length)).take (min b L.length - min a L.length) = (L.drop a).take (b - a) := by
  by_cases ha : a ≤ L.length
  · have ea : min a L.length = a := Nat.min_eq_left ha
    rw [ea]
    by_cases hb : b ≤ L.length
    · rw [show min b L.length = b from Nat.min_eq_left hb]
    · have eb : min b L.length = L.length := Nat.min_eq_right (by omega)
      rw [eb, List.take_of_length_le (by rw [List.length_drop]; omega), List.take_of_length_le (by rw [List.length_drop]; omega)]
  · have ea : min a L.length = L.length := Nat.min_eq_right (by omega)
    rw [ea, List.drop_of_length_le (Nat.le_refl _), List.drop_of_length_le (by omega), List.take_nil, List.take_nil]
theorem tl_cut (z : Str) (a b : Nat) : TL.tl (cutS z (some (a : Int)) (some (b : Int))) = ((TL.tl z).drop a).take (b - a) := by
  show ((TL.tl z).drop (HT.sIx z.length 0 (some (a : Int)))).take (HT.sIx z.length z.length (some (b : Int)) - HT.sIx z.length 0 (some (a : Int))) = _
  rw [HT.sIx_nat, HT.sIx_nat, TL.len_tl]
  exact cut_clip _ a b
theorem tl_cutL (z : Str) (b : Nat) : TL.tl (cutS z none (some (b : Int))) = (TL.tl z).take b := by
  show ((TL.tl z).drop 0).take (HT.sIx z.length z.length (some (b : Int)) - 0) = _
  rw [HT.sIx_nat, TL.len_tl, List.drop_zero, Nat.sub_zero]
  by_cases hb : b ≤ (TL.tl z).length
  · rw [Nat.min_eq_left hb]
  · rw [Nat.min_eq_right (by omega), List.take_of_length_le (Nat.le_refl _), List.take_of_length_le (by omega)]
theorem tl_cutR (z : Str) (a : Nat) : TL.tl (cutS z (some (a : Int)) none) = (TL.tl z).drop a := by
  show ((TL.tl z).drop (HT.sIx z.length 0 (some (a : Int)))).take (z.length - HT.sIx z.length 0 (some (a : Int))) = _
  rw [HT.sIx_nat, TL.len_tl]
  by_cases ha : a ≤ (TL.tl z).length
  · rw [Nat.min_eq_left ha, List.take_of_length_le (by rw [List.length_drop]; omega)]
  · rw [Nat.min_eq_right (by omega), List.drop_of_length_le (Nat.le_refl _), List.drop_of_length_le (by omega), List.take_nil]
/-! ### the purse -/
def Purse (p : Addr) (H : Hp) : Prop := ∃ ns : List Int, H p = some (.lst (ns.map V.int)) ∧ (ns.length = 2 ∨ ns.length = 3)
theorem Purse.mono {p : Addr} {H H' : Hp} (e : Ex H H') (h : Purse p H) : Purse p H' := by
  obtain ⟨ns, h1, h2⟩ := h
  exact ⟨ns, e p _ h1, h2⟩
def sp_take : Sp := fun vs H Q _ => ∃ (p : Addr) (m : Int), vs = [.ref p, .int m] ∧ Purse p H ∧ 0 < m ∧ m < 1000000 ∧ ∀ (r : Int) H', 0 ≤ r → r < m → ExM [p] H H' → Purse p H' → Q (.int r) H'
def sp_name : Sp := fun vs H Q _ => ∃ (p : Addr), vs = [.ref p] ∧ Purse p H ∧ ∀ (z : Str) H', isNm z = true → ExM [p] H H' → Purse p H' → Q (.str z) H'
section
variable {P : Program} {w : World} {K : PySem.W.Frag} {mg : Str → Option Value} {base : Heap}
theorem at0 {a b c : V} : atI [a, b, c] (0 : Int) = some a := rfl
theorem at1 {a b c : V} : atI [a, b, c] (1 : Int) = some b := rfl
theorem at2 {a b c : V} : atI [a, b, c] (2 : Int) = some c := rfl
theorem pz (i : Int) {m : Int} (h : 0 < m) : 0 ≤ i % m ∧ i % m < m := ⟨Int.emod_nonneg _ (by omega), Int.emod_lt_of_pos _ h⟩
theorem ok_take {f : Addr} {fd : FuncData} (T : Txt K mg) (F : Fd K d__law_take f fd) : FnOk P w K mg base CX0 1 f fd P__law_take sp_take := by
  refine FunD.ok F sc__law_take (fun vs H Q E h => ?_) (fun cdv A outer s H vs Q E hr h => ?_)
  · obtain ⟨p, m, rfl, _⟩ := h
    rfl
  · obtain ⟨p, m, rfl, ⟨ns, hp, hn⟩, m0, m1, q⟩ := h
    refine ⟨_, PSs.nox (pss_cut (ps_if (pt_cmpR op_eq (pe_callB call_len (by rfl) T.f_len (by decide +kernel) (pa_cons (pv 0) pa_nil)) pe_int (nomark _)) (pss_one (ps_expr (pe_bm PySem.F.plainAttrs_list PySem.F.slot_list_append PySem.F.type_list_append mt_append (pv 0) (pa_cons (pe_ix ix_list (pv 0) pe_int (fun _ _ => rfl)) pa_nil)))) pss_nil)
  (pss_cut (ps_if (PW.pt (pw_and (pt_cmpR op_eq (pe_ix ix_list (pv 0) pe_int (fun _ _ => rfl)) pe_int (nomark _)) (pw_and1 (pt_cmpR op_in_seq (pe_ix ix_list (pv 0) pe_int (fun _ _ => rfl)) (pe_lst (pa_cons pe_int (pa_cons (pe_un un_neg pe_int) pa_nil))) (by rfl))))) (pss_cons (ps_asg (pe_ix ix_list (pv 0) pe_int (fun _ _ => rfl)) (pg_sub (pv 0) pe_int set_list))
    (pss_one (ps_asg pe_int (pg_sub (pv 0) pe_int set_list)))) pss_nil)
  (pss_cons (ps_set (i := 2) sc__law_take.nd rfl (Or.inl rfl) (pe_ix ix_list (pv 0) pe_int (fun _ _ => rfl)))
  (pss_cons (ps_if (pt_cmpR op_eq (pe_ix ix_list (pv 0) pe_int (fun _ _ => rfl)) pe_int (nomark _)) (pss_cons (ps_asg (pe_op op_fdiv (pv 2) (pv 1)) (pg_sub (pv 0) pe_int set_list))
    (pss_one (ps_ret (pe_op op_mod (pv 2) (pv 1))))) pss_nil)
  (pss_cons (ps_asg (pe_op op_mod (pe_op op_add (pe_op op_mul (pe_op op_mod (pv 2) pe_int) pe_int) pe_int) pe_int) (pg_sub (pv 0) pe_int set_list))
  (pss_cons (ps_set (i := 3) sc__law_take.nd rfl (Or.inl rfl) (pe_op op_mod (pe_op op_mul (pe_ix ix_list (pv 0) pe_int (fun _ _ => rfl)) (pe_ix ix_list (pv 0) pe_int (fun _ _ => rfl))) pe_int))
  (pss_one (ps_ret (pe_op op_mod (pe_op op_fdiv (pe_op op_pow (pv 3) pe_int) pe_int) (pv 1)))))))))), ?_⟩
    have mp : p ∈ [p] := List.mem_singleton.mpr rfl
    -- three items
    refine q_cut (M := fun σ' H' => σ' = start N__law_take [.ref p, .int m] ∧ ExM [p] H H' ∧ ∃ a b c : Int, H' p = some (.lst [.int a, .int b, .int c])) ?_ ?_
    · refine ⟨_, rfl, _, (ns.map V.int).length, rfl, .inl ⟨_, SqL.of hp, rfl⟩, rfl, _, rfl, ?_⟩
      rcases hn with hn | hn
      · obtain ⟨a, b, rfl⟩ : ∃ a b, ns = [a, b] := by
          match ns, hn with
          | [a, b], _ => exact ⟨a, b, rfl⟩
        refine iteT ⟨_, rfl, .inl ⟨rfl, _, SqL.of hp⟩, _, rfl, _, _, _, _, rfl, rfl, SqL.of hp, (show atI [V.int a, V.int b] (0 : Int) = some (.int a) from rfl), p, _, _, rfl, rfl, hp, sz_lt (by show 2 < 100000; decide), ?_⟩
        exact ⟨rfl, ExM.upd mp, a, b, a, upd_same⟩
      · obtain ⟨a, b, c, rfl⟩ : ∃ a b c, ns = [a, b, c] := by
          match ns, hn with
          | [a, b, c], _ => exact ⟨a, b, c, rfl⟩
        refine iteF ?_
        exact ⟨rfl, ExM.refl _ _, a, b, c, hp⟩
    rintro _ H1 ⟨rfl, e1, a, b, c, h1⟩
    refine q_cut (M := fun σ' H' => σ' = start N__law_take [.ref p, .int m] ∧ ExM [p] H H' ∧ ∃ a b c : Int, H' p = some (.lst [.int a, .int b, .int c])) ?_ ?_
    · refine ⟨_, rfl, _, _, _, _, rfl, rfl, SqL.of h1, at1, rfl, _, rfl, ?_⟩
      refine ite2 (fun _ => ?_) (fun _ => iteF ⟨rfl, e1, a, b, c, h1⟩)
      refine ⟨_, rfl, _, _, _, _, rfl, rfl, SqL.of h1, at0, _, rfl, (by decide), fun l hl => ?_⟩
      have hpl : p ≠ l := ne_of_none h1 hl
      have h2 : upd H1 l (.lst [V.int 0, V.int (-1)]) p = some (.lst [.int a, .int b, .int c]) := by rw [upd_ne hpl]; exact h1
      have e2 : ExM [p] H (upd H1 l (.lst [V.int 0, V.int (-1)])) := e1.trans (ExM.of (Ex.new hl))
      refine ⟨l, _, rfl, .inl (SqL.of upd_same), rfl, rfl, _, rfl, ?_⟩
      refine ite2 (fun _ => ?_) (fun _ => ⟨rfl, e2, a, b, c, h2⟩)
      refine ⟨_, rfl, _, _, _, _, rfl, rfl, SqL.of h2, at2, _, rfl, p, _, _, 0, rfl, rfl, h2, rfl, ?_⟩
      refine ⟨_, rfl, p, _, _, 1, rfl, rfl, upd_same, rfl, ?_⟩
      exact ⟨rfl, (e2.trans (ExM.upd mp)).trans (ExM.upd mp), c, 1, c, upd_same⟩
    rintro _ H2 ⟨rfl, e2, a, b, c, h2⟩
    clear h1 e1 H1
    refine ⟨_, rfl, _, _, _, _, rfl, rfl, SqL.of h2, at0, ?_⟩
    refine ⟨_, rfl, _, _, _, _, rfl, rfl, SqL.of h2, at1, rfl, _, rfl, ?_⟩
    refine ite2 (fun _ => ?_) (fun _ => ?_)
    · refine ⟨_, rfl, _, rfl, _, _, rfl, rfl, ⟨m0, by omega⟩, _, rfl, p, _, _, 0, rfl, rfl, h2, rfl, ?_⟩
      refine ⟨_, rfl, _, rfl, _, _, rfl, rfl, m0, ?_⟩
      exact q _ _ (pz a m0).1 (pz a m0).2 (e2.trans (ExM.upd mp)) ⟨[a / m, b, c], upd_same, .inr rfl⟩
    · have d1 := pz a (m := 2147483647) (by decide)
      refine ⟨_, rfl, _, _, rfl, rfl, (by show (0 : Int) < 2147483647; decide), _, _, rfl, rfl, .inl ⟨by omega, by omega⟩, _, _, rfl, rfl, _, _, rfl, rfl, (by show (0 : Int) < 2147483629; decide), ?_⟩
      refine ⟨_, rfl, p, _, _, 0, rfl, rfl, h2, rfl, ?_⟩
      have d2 := pz (a % 2147483647 * 48271 + 12345) (m := 2147483629) (by decide)
      refine ⟨_, rfl, p, _, _, _, rfl, rfl, SqL.of upd_same, at0, _, rfl, p, _, _, _, rfl, rfl, SqL.of upd_same, at0, _, _, rfl, rfl, .inl ⟨by omega, by omega⟩, _, _, rfl, rfl, (by show (0 : Int) < 2147483587; decide), ?_⟩
      have d3 := pz ((a % 2147483647 * 48271 + 12345) % 2147483629 * ((a % 2147483647 * 48271 + 12345) % 2147483629)) (m := 2147483587) (by decide)
      refine ⟨_, rfl, _, _, rfl, rfl, ⟨by decide, by decide, by omega⟩, _, _, rfl, rfl, ⟨by decide, by decide⟩, _, rfl, _, _, rfl, rfl, m0, ?_⟩
      exact q _ _ (pz _ m0).1 (pz _ m0).2 (e2.trans (ExM.upd mp)) ⟨[_, b, c], upd_same, .inr rfl⟩
/-! ### _law_name -/
def nm25 (z : Str) : Prop := ∀ c ∈ TL.tl z, nmC c = true ∧ c ≠ 110
theorem isNm_of {z : Str} (h1 : 1 ≤ z.length) (h8 : z.length ≤ 8) (h : nm25 z) : isNm z = true := by
  unfold isNm
  rw [decide_eq_true h1, decide_eq_true h8]
  have hw : z ∉ words := fun m => by
    have key : ∀ y ∈ words, (110 : Nat) ∈ TL.tl y := by decide +kernel
    exact (h 110 (key z m)).2 rfl
  rw [decide_eq_false hw]
  simp only [Bool.not_false, Bool.and_self, Bool.true_and, List.all_eq_true]
  exact fun c hc => (h c hc).1
theorem alpha25 : ∀ c ∈ TL.tl ("abcdefghijklmopqrstuvwxyz" : Str), nmC c = true ∧ c ≠ 110 := by decide +kernel
theorem ok_name {f f1 : Addr} {fd : FuncData} (T : Txt K mg) (C_take : Fok P w K mg base CX0 1 (He.ga K "_law_take") P__law_take sp_take) (F : Fd K d__law_name f fd) : FnOk P w K mg base CX0 2 f fd P__law_name sp_name := by
  obtain ⟨fd_take, G_take, b_take⟩ := C_take.ex
  refine FunD.ok F sc__law_name (fun vs H Q E h => ?_) (fun cdv A outer s H vs Q E hr h => ?_)
  · obtain ⟨p, rfl, _⟩ := h
    rfl
  · obtain ⟨p, rfl, hp, q⟩ := h
    refine ⟨_, PSs.nox (pss_cons (ps_set (i := 1) sc__law_name.nd rfl (Or.inl rfl) pe_str)
  (pss_cons (ps_for PassesOwn.never rfl (pi_range1 (by rfl) T.f_range (pa_cons (pe_op op_add pe_int (pe_call G_take (hr.mono (by decide)) rfl (T.gl _ (by decide +kernel)) C_take.kp b_take .nil pass0 (pa_cons (pv 0) (pa_cons pe_int pa_nil)))) pa_nil)) (pg_name (i := 2) sc__law_name.nd rfl (Or.inl rfl))
    (pss_one (ps_set (i := 1) sc__law_name.nd rfl (Or.inl rfl) (pe_op op_add_str (pv 1) (pe_ix ix_str pe_str (pe_call G_take (hr.mono (by decide)) rfl (T.gl _ (by decide +kernel)) C_take.kp b_take .nil pass0 (pa_cons (pv 0) (pa_cons pe_int pa_nil))) (fun _ _ => rfl))))))
  (pss_one (ps_ret (pv 1))))), ?_⟩
    refine ⟨_, rfl, p, 8, rfl, hp, by decide, by decide, fun r H1 r0 r1 e1 p1 => ⟨_, _, rfl, rfl, _, rfl, by omega, by omega, ?_⟩⟩
    refine for_range (lo := 0) (n := (1 + r).toNat) (fun i σ' H' => ∃ (z : Str) (v : Option V), σ' = [some (.ref p), some (.str z), v] ∧ z.length = i ∧ nm25 z ∧ ExM [p] H H' ∧ Purse p H') ⟨"", none, rfl, rfl, (fun c hc => by cases hc), e1, p1⟩ ?_ ?_
    · rintro i _ H2 hi ⟨z, v, rfl, hz, hn, e2, p2⟩
      refine ⟨_, rfl, _, rfl, p, 25, rfl, p2, by decide, by decide, fun r' H3 r0' r1' e3 p3 => ?_⟩
      obtain ⟨k, rfl⟩ := Int.eq_ofNat_of_zero_le r0'
      have hk : k < (TL.tl ("abcdefghijklmopqrstuvwxyz" : Str)).length := by
        have : (TL.tl ("abcdefghijklmopqrstuvwxyz" : Str)).length = 25 := by decide +kernel
        omega
      refine ⟨_, _, (TL.tl ("abcdefghijklmopqrstuvwxyz" : Str))[k], rfl, rfl, by decide, atI_nat (List.getElem?_eq_getElem hk), _, _, rfl, rfl, ?_, ?_⟩
      · show z.length + 1 ≤ sizeLine
        exact sz_of (by omega)
      · refine ⟨_, _, rfl, ?_, fun c hc => ?_, e2.trans e3, p3⟩
        · rw [TL.len_tl, TL.tl_append, List.length_append, ← TL.len_tl, hz] <;> rfl
        · rw [TL.tl_append] at hc
          rcases List.mem_append.mp hc with hc | hc
          · exact hn c hc
          · have : c = (TL.tl ("abcdefghijklmopqrstuvwxyz" : Str))[k] := by simpa using hc
            rw [this]
            exact alpha25 _ (List.getElem_mem hk)
    · rintro _ H2 ⟨z, v, rfl, hz, hn, e2, p2⟩
      exact ⟨_, rfl, q z H2 (isNm_of (by omega) (by omega) hn) e2 p2⟩
end
end Wt

-- WtEq
set_option maxHeartbeats 1000000
namespace Wt
open PySem PySem.Spec PyProof.Rows L2 Evl
/-! ### what == tells of lists of texts, of tuples -/
def okS (z : Str) : Prop := ∀ c ∈ TL.tl z, c < 1000
theorem strOk_of {z : Str} (h : okS z) : PyData.canLay0 (.str z) = true := by
  show z.cps.all (fun c => decide (c < 0x110000)) = true
  rw [← Array.all_toList, List.all_eq_true]
  intro c hc
  have := h c hc
  exact decide_eq_true (by omega)
theorem eqv_S : ∀ xs ys : List Str, PyData.eqvAll (xs.map PyData.str) (ys.map PyData.str) = decide (xs = ys)
  | [], [] => rfl
  | [], _ :: _ => rfl
  | _ :: _, [] => rfl
  | x :: xs, y :: ys => by
    show (PyData.eqv (.str x) (.str y) && PyData.eqvAll (xs.map PyData.str) (ys.map PyData.str)) = _
    rw [eqv_S xs ys]
    have e : PyData.eqv (.str x) (.str y) = decide (x = y) := by
      unfold PyData.eqv
      rw [Bool.eq_iff_iff, beq_iff_eq, decide_eq_true_eq]
    rw [e, Bool.eq_iff_iff]
    simp
theorem eqv_dS (xs ys : List Str) : PyData.eqv (dS xs) (dS ys) = decide (xs = ys) := by
  unfold dS PyData.eqv
  exact eqv_S xs ys
theorem eqv_dT (t u : Tu) : PyData.eqv (dT t) (dT u) = decide (t = u) := by
  obtain ⟨a, xs⟩ := t
  obtain ⟨b, ys⟩ := u
  show PyData.eqv (.tuple [.str a, dS xs]) (.tuple [.str b, dS ys]) = _
  unfold PyData.eqv
  show (PyData.eqv (.str a) (.str b) && (PyData.eqv (dS xs) (dS ys) && true)) = _
  rw [eqv_dS]
  have e : PyData.eqv (.str a) (.str b) = decide (a = b) := by
    unfold PyData.eqv
    rw [Bool.eq_iff_iff, beq_iff_eq, decide_eq_true_eq]
  rw [e, Bool.eq_iff_iff]
  simp
theorem eqv_Ts : ∀ xs ys : List Tu, PyData.eqvAll (xs.map dT) (ys.map dT) = decide (xs = ys)
  | [], [] => rfl
  | [], _ :: _ => rfl
  | _ :: _, [] => rfl
  | x :: xs, y :: ys => by
    show (PyData.eqv (dT x) (dT y) && PyData.eqvAll (xs.map dT) (ys.map dT)) = _
    rw [eqv_Ts xs ys, eqv_dT, Bool.eq_iff_iff]
    simp
theorem eqv_dTs (xs ys : List Tu) : PyData.eqv (dTs xs) (dTs ys) = decide (xs = ys) := by
  unfold dTs PyData.eqv
  exact eqv_Ts xs ys
/-- what a reading ends as -/
inductive Res where
  | told (ts : List Tu)
  | no (w : Str)
deriving DecidableEq
def dR : Res → PyData
  | .told ts => .tuple [.str "told", dTs ts]
  | .no w => .tuple [.str "refused", .str w]
theorem eqv_dR : ∀ a b : Res, PyData.eqv (dR a) (dR b) = decide (a = b)
  | .told xs, .told ys => by
    show PyData.eqv (.tuple [.str "told", dTs xs]) (.tuple [.str "told", dTs ys]) = _
    unfold PyData.eqv
    show (PyData.eqv (.str "told") (.str "told") && (PyData.eqv (dTs xs) (dTs ys) && true)) = _
    have e : PyData.eqv (.str "told") (.str "told") = true := by decide +kernel
    rw [eqv_dTs, e, Bool.eq_iff_iff]
    simp
  | .told xs, .no w => by
    show PyData.eqv (.tuple [.str "told", dTs xs]) (.tuple [.str "refused", .str w]) = _
    unfold PyData.eqv
    show (PyData.eqv (.str "told") (.str "refused") && _) = _
    have e : PyData.eqv (.str "told") (.str "refused") = false := by decide +kernel
    rw [e, Bool.eq_iff_iff]
    simp
  | .no w, .told xs => by
    show PyData.eqv (.tuple [.str "refused", .str w]) (.tuple [.str "told", dTs xs]) = _
    unfold PyData.eqv
    show (PyData.eqv (.str "refused") (.str "told") && _) = _
    have e : PyData.eqv (.str "refused") (.str "told") = false := by decide +kernel
    rw [e, Bool.eq_iff_iff]
    simp
  | .no v, .no w => by
    show PyData.eqv (.tuple [.str "refused", .str v]) (.tuple [.str "refused", .str w]) = _
    unfold PyData.eqv
    show (PyData.eqv (.str "refused") (.str "refused") && (PyData.eqv (.str v) (.str w) && true)) = _
    have e : PyData.eqv (.str "refused") (.str "refused") = true := by decide +kernel
    have e2 : PyData.eqv (.str v) (.str w) = decide (v = w) := by
      unfold PyData.eqv
      rw [Bool.eq_iff_iff, beq_iff_eq, decide_eq_true_eq]
    rw [e, e2, Bool.eq_iff_iff]
    simp
/-! they can be compared -/
def Sh (n : Nat) (d : PyData) : Prop := d.canLay0 = true ∧ d.depth ≤ n
theorem Sh.sh {n : Nat} {d : PyData} (h : Sh n d) (hn : n ≤ 64) : SeqAt.shaped d = true := by
  unfold SeqAt.shaped
  rw [h.1, decide_eq_true (Nat.le_trans h.2 hn)] <;> rfl
theorem sh_str {z : Str} (h : okS z) : Sh 0 (.str z) := ⟨strOk_of h, Nat.le_refl _⟩
theorem shAll {n : Nat} : ∀ ds : List PyData, (∀ d ∈ ds, Sh n d) → PyData.canLayAll0 ds = true ∧ PyData.depthAll ds ≤ n
  | [], _ => ⟨rfl, Nat.zero_le _⟩
  | d :: ds, h => by
    obtain ⟨h1, h2⟩ := h d List.mem_cons_self
    obtain ⟨i1, i2⟩ := shAll ds fun x hx => h x (List.mem_cons_of_mem _ hx)
    refine ⟨?_, Nat.max_le.mpr ⟨h2, i2⟩⟩
    show (d.canLay0 && PyData.canLayAll0 ds) = true
    rw [h1, i1] <;> rfl
theorem sh_list {n : Nat} {ds : List PyData} (h : ∀ d ∈ ds, Sh n d) : Sh (n + 1) (.list ds) := ⟨(shAll ds h).1, Nat.succ_le_succ (shAll ds h).2⟩
theorem sh_tup {n : Nat} {ds : List PyData} (h : ∀ d ∈ ds, Sh n d) : Sh (n + 1) (.tuple ds) := ⟨(shAll ds h).1, Nat.succ_le_succ (shAll ds h).2⟩
theorem Sh.le {n m : Nat} {d : PyData} (h : Sh n d) (hn : n ≤ m) : Sh m d := ⟨h.1, Nat.le_trans h.2 hn⟩
theorem sh_S {xs : List Str} (h : ∀ x ∈ xs, okS x) : Sh 1 (dS xs) := sh_list fun d hd => by
  obtain ⟨x, hx, rfl⟩ := List.mem_map.mp hd
  exact sh_str (h x hx)
/-- a tuple's texts -/
def okT (t : Tu) : Prop := okS t.1 ∧ ∀ x ∈ t.2, okS x
theorem sh_T {t : Tu} (h : okT t) : Sh 2 (dT t) := sh_tup fun d hd => by
  rcases List.mem_cons.mp hd with rfl | hd
  · exact (sh_str h.1).le (Nat.zero_le _)
  · rw [List.mem_singleton.mp hd]
    exact sh_S h.2
theorem sh_Ts {ts : List Tu} (h : ∀ t ∈ ts, okT t) : Sh 3 (dTs ts) := sh_list fun d hd => by
  obtain ⟨t, ht, rfl⟩ := List.mem_map.mp hd
  exact sh_T (h t ht)
def okR : Res → Prop
  | .told ts => ∀ t ∈ ts, okT t
  | .no w => okS w
theorem okS_lit {z : Str} (h : ((TL.tl z).all fun c => decide (c < 1000)) = true) : okS z := fun c hc => of_decide_eq_true (List.all_eq_true.mp h c hc)
theorem sh_R : ∀ {r : Res}, okR r → Sh 4 (dR r)
  | .told ts, h => sh_tup fun d hd => by
    rcases List.mem_cons.mp hd with rfl | hd
    · exact (sh_str (okS_lit (by decide +kernel))).le (Nat.zero_le _)
    · rw [List.mem_singleton.mp hd]
      exact sh_Ts h
  | .no w, h => sh_tup fun d hd => by
    rcases List.mem_cons.mp hd with rfl | hd
    · exact (sh_str (okS_lit (by decide +kernel))).le (Nat.zero_le _)
    · rw [List.mem_singleton.mp hd]
      exact (sh_str h).le (Nat.zero_le _)
theorem isNm_ok {z : Str} (h : isNm z = true) : okS z := fun c hc => by
  unfold isNm at h
  simp only [Bool.and_eq_true] at h
  have := List.all_eq_true.mp h.2 c hc
  have := of_decide_eq_true this
  omega
/-! readings -/
section
variable {K : PySem.W.Frag} {H : Hp} {a b : Addr} {xs ys : List Str} {Q : VK}
theorem eqD_S (ha : SqL K H a (xs.map V.str)) (hb : SqL K H b (ys.map V.str)) (h1 : ∀ x ∈ xs, okS x) (h2 : ∀ x ∈ ys, okS x) (q : Q (.bl (decide (xs = ys))) H) : rEqD K (.ref a) (.ref b) H Q :=
  ⟨dS xs, dS ys, .lst ha (dp_strs K H _), .lst hb (dp_strs K H _), (sh_S h1).sh (by decide), (sh_S h2).sh (by decide), by rw [eqv_dS]; exact q⟩
theorem neD_S (ha : SqL K H a (xs.map V.str)) (hb : SqL K H b (ys.map V.str)) (h1 : ∀ x ∈ xs, okS x) (h2 : ∀ x ∈ ys, okS x) (q : Q (.bl (!decide (xs = ys))) H) : rNeD K (.ref a) (.ref b) H Q :=
  ⟨dS xs, dS ys, .lst ha (dp_strs K H _), .lst hb (dp_strs K H _), (sh_S h1).sh (by decide), (sh_S h2).sh (by decide), by rw [eqv_dS]; exact q⟩
theorem neD_Ts {ts us : List Tu} {v u : V} (ha : Tws ts v H) (hb : Tws us u H) (h1 : ∀ t ∈ ts, okT t) (h2 : ∀ t ∈ us, okT t) (q : Q (.bl (!decide (ts = us))) H) : rNeD K v u H Q :=
  ⟨dTs ts, dTs us, ha.dp K, hb.dp K, (sh_Ts h1).sh (by decide), (sh_Ts h2).sh (by decide), by rw [eqv_dTs]; exact q⟩
/-- a value that stands for such an end -/
def Rv (r : Res) : Pr := fun v H => match r with
  | .told ts => ∃ p u, v = .ref p ∧ H p = some (.tup [.str "told", u]) ∧ Tws ts u H
  | .no w => ∃ p, v = .ref p ∧ H p = some (.tup [.str "refused", .str w])
theorem Rv.mono {r : Res} {v : V} {H H' : Hp} (e : Ex H H') (h : Rv r v H) : Rv r v H' := by
  cases r with
  | told ts =>
    obtain ⟨p, u, rfl, h1, h2⟩ := h
    exact ⟨p, u, rfl, e p _ h1, h2.mono e⟩
  | no w =>
    obtain ⟨p, rfl, h1⟩ := h
    exact ⟨p, rfl, e p _ h1⟩
theorem Rv.dp (K : PySem.W.Frag) {r : Res} {v : V} {H : Hp} (h : Rv r v H) : Dp K H v (dR r) := by
  cases r with
  | told ts =>
    obtain ⟨p, u, rfl, h1, h2⟩ := h
    exact .tup (SqT.of h1) (.cons (.str _) (.cons (h2.dp K) .nil))
  | no w =>
    obtain ⟨p, rfl, h1⟩ := h
    exact .tup (SqT.of h1) (.cons (.str _) (.cons (.str _) .nil))
theorem neD_R {r r' : Res} {v u : V} (ha : Rv r v H) (hb : Rv r' u H) (h1 : okR r) (h2 : okR r') (q : Q (.bl (!decide (r = r'))) H) : rNeD K v u H Q :=
  ⟨dR r, dR r', ha.dp K, hb.dp K, (sh_R h1).sh (by decide), (sh_R h2).sh (by decide), by rw [eqv_dR]; exact q⟩
theorem eqD_R {r r' : Res} {v u : V} (ha : Rv r v H) (hb : Rv r' u H) (h1 : okR r) (h2 : okR r') (q : Q (.bl (decide (r = r'))) H) : rEqD K v u H Q :=
  ⟨dR r, dR r', ha.dp K, hb.dp K, (sh_R h1).sh (by decide), (sh_R h2).sh (by decide), by rw [eqv_dR]; exact q⟩
end
end Wt

-- WtD2
set_option maxHeartbeats 1000000
namespace Wt
open PySem PySem.Spec PyProof.Rows L2 Evl
/-! ### what is drawn -/
structure Good (ts : List Tu) : Prop where
  len : ts.length ≤ 6
  nm : ∀ t ∈ ts, isNm t.1 = true
  nd : (ts.map (·.1)).Nodup
  over : ∀ t ∈ ts, ∀ x ∈ t.2, x ∈ ts.map (·.1)
  ond : ∀ t ∈ ts, t.2.Nodup
  olen : ∀ t ∈ ts, t.2.length ≤ 6
  rank : ∃ rk : Str → Nat, ∀ t ∈ ts, ∀ x ∈ t.2, rk x < rk t.1
/-- each with names that were drawn ahead of it -/
def Dr (fs : List Tu) : Prop := ∀ i t, fs[i]? = some t → isNm t.1 = true ∧ t.2.Sublist ((fs.take i).map (·.1)) ∧ t.1 ∉ (fs.take i).map (·.1)
theorem Dr.nil : Dr [] := fun i t h => by simp at h
theorem Dr.snoc {fs : List Tu} {t : Tu} (d : Dr fs) (h1 : isNm t.1 = true) (h2 : t.2.Sublist (fs.map (·.1))) (h3 : t.1 ∉ fs.map (·.1)) : Dr (fs ++ [t]) := fun i u h => by
  by_cases hi : i < fs.length
  · rw [List.getElem?_append_left hi] at h
    rw [List.take_append_of_le_length (Nat.le_of_lt hi)]
    exact d i u h
  · rw [List.getElem?_append_right (by omega)] at h
    have e : i - fs.length = 0 := by
      rcases Nat.eq_zero_or_pos (i - fs.length) with z | z
      · exact z
      · rw [List.getElem?_eq_none (by simp; omega)] at h
        cases h
    rw [e] at h
    cases h
    have ei : i = fs.length := by omega
    rw [ei, List.take_left]
    exact ⟨h1, h2, h3⟩
theorem Dr.nodup {fs : List Tu} (d : Dr fs) : (fs.map (·.1)).Nodup := by
  rw [List.nodup_iff_pairwise_ne, List.pairwise_iff_getElem]
  intro i j hi hj hij e
  rw [List.length_map] at hi hj
  rw [List.getElem_map, List.getElem_map] at e
  refine (d j fs[j] (List.getElem?_eq_getElem hj)).2.2 ?_
  rw [← e]
  refine List.mem_map.mpr ⟨fs[i], ?_, rfl⟩
  exact List.mem_iff_getElem.mpr ⟨i, by rw [List.length_take]; omega, by rw [List.getElem_take]⟩
theorem Dr.good {fs : List Tu} (d : Dr fs) (hl : fs.length ≤ 6) (r : Nat) : Good (fs.drop r ++ fs.take r) := by
  have pm : (fs.drop r ++ fs.take r).Perm fs := (List.perm_append_comm).trans (by rw [List.take_append_drop])
  have at_ : ∀ t ∈ fs.drop r ++ fs.take r, ∃ i, fs[i]? = some t := fun t ht => List.mem_iff_getElem?.mp (pm.mem_iff.mp ht)
  refine ⟨by rw [pm.length_eq]; exact hl, fun t ht => ?_, (pm.map _).nodup_iff.mpr d.nodup, fun t ht x hx => ?_, fun t ht => ?_, fun t ht => ?_, fun x => (fs.map (·.1)).idxOf x, fun t ht x hx => ?_⟩
  · obtain ⟨i, h⟩ := at_ t ht
    exact (d i t h).1
  · obtain ⟨i, h⟩ := at_ t ht
    have m := (d i t h).2.1.mem hx
    rw [(pm.map _).mem_iff]
    exact List.map_subset _ (List.take_subset _ _) m
  · obtain ⟨i, h⟩ := at_ t ht
    refine (d i t h).2.1.nodup ?_
    exact d.nodup.sublist ((List.take_sublist _ _).map _)
  · obtain ⟨i, h⟩ := at_ t ht
    have := (d i t h).2.1.length_le
    rw [List.length_map, List.length_take] at this
    omega
  · obtain ⟨i, h⟩ := at_ t ht
    have m := (d i t h).2.1.mem hx
    have hi : i < fs.length := (List.getElem?_eq_some_iff.mp h).1
    obtain ⟨j, hj, ej⟩ := List.mem_iff_getElem.mp m
    rw [List.length_map, List.length_take] at hj
    rw [List.getElem_map, List.getElem_take] at ej
    have key : ∀ k (hk : k < fs.length), (fs.map (·.1)).idxOf fs[k].1 = k := fun k hk => by
      have e : fs[k].1 = (fs.map (·.1))[k]'(by rw [List.length_map]; exact hk) := by rw [List.getElem_map]
      rw [e]
      exact d.nodup.idxOf_getElem k _
    have ei : fs[i].1 = t.1 := by rw [(List.getElem?_eq_some_iff.mp h).2]
    show (fs.map (·.1)).idxOf x < (fs.map (·.1)).idxOf t.1
    rw [← ej, ← ei, key j (by omega), key i hi]
    omega
def sp_tuples (K : PySem.W.Frag) : Sp := fun vs H Q _ => ∃ (a : Addr) (ns : List Int) (st : Nat) (way : Int), vs = [.ref a, .int st, .int way] ∧ SqL K H a (ns.map V.int) ∧ ns.length ≤ 63 ∧ ∀ ts v H', Good ts → Ex H H' → Tws ts v H' → Q v H'
theorem sz0 : ([] : List V).length ≤ sizeLine := sz_of (Nat.zero_le _)
theorem sz1 {a : V} : [a].length ≤ sizeLine := sz_of (by show 1 ≤ 100000; decide)
theorem sz2 {a b : V} : [a, b].length ≤ sizeLine := sz_of (by show 2 ≤ 100000; decide)
theorem sz3 {a b c : V} : [a, b, c].length ≤ sizeLine := sz_of (by show 3 ≤ 100000; decide)
theorem cutV_R (xs : List V) (a : Nat) : cutV xs (some (a : Int)) none = xs.drop a := by
  show (xs.drop (HT.sIx xs.length 0 (some (a : Int)))).take (xs.length - HT.sIx xs.length 0 (some (a : Int))) = _
  rw [HT.sIx_nat]
  by_cases ha : a ≤ xs.length
  · rw [Nat.min_eq_left ha, List.take_of_length_le (by rw [List.length_drop]; omega)]
  · rw [Nat.min_eq_right (by omega), List.drop_of_length_le (Nat.le_refl _), List.drop_of_length_le (by omega), List.take_nil]
theorem cutV_L (xs : List V) (b : Nat) : cutV xs none (some (b : Int)) = xs.take b := by
  show (xs.drop 0).take (HT.sIx xs.length xs.length (some (b : Int)) - 0) = _
  rw [HT.sIx_nat, List.drop_zero, Nat.sub_zero]
  by_cases hb : b ≤ xs.length
  · rw [Nat.min_eq_left hb]
  · rw [Nat.min_eq_right (by omega), List.take_of_length_le (Nat.le_refl _), List.take_of_length_le (by omega)]
section
variable {P : Program} {w : World} {K : PySem.W.Frag} {mg : Str → Option Value} {base : Heap}
theorem ok_tuples {f : Addr} {fd : FuncData} (T : Txt K mg) (C_cell : Fok P w K mg base CX0 1 (He.ga K "_law_cell") P__law_cell (sp_cell K)) (C_take : Fok P w K mg base CX0 1 (He.ga K "_law_take") P__law_take sp_take)
    (C_name : Fok P w K mg base CX0 2 (He.ga K "_law_name") P__law_name sp_name) (F : Fd K d__law_tuples f fd) : FnOk P w K mg base CX0 3 f fd P__law_tuples (sp_tuples K) := by
  obtain ⟨fd_cell, G_cell, b_cell⟩ := C_cell.ex
  obtain ⟨fd_take, G_take, b_take⟩ := C_take.ex
  obtain ⟨fd_name, G_name, b_name⟩ := C_name.ex
  refine FunD.ok F sc__law_tuples (fun vs H Q E h => ?_) (fun cdv A outer s H vs Q E hr h => ?_)
  · obtain ⟨a, ns, st, way, rfl, _⟩ := h
    rfl
  · obtain ⟨a, ns, st, way, rfl, hS, hl, q⟩ := h
    refine ⟨_, PSs.nox (pss_cons (ps_set (i := 3) sc__law_tuples.nd rfl (Or.inl rfl) (pe_lst (pa_cons (pe_call G_cell (hr.mono (by decide)) rfl (T.gl _ (by decide +kernel)) C_cell.kp b_cell .nil pass0 (pa_cons (pv 0) (pa_cons (pv 1) pa_nil))) (pa_cons (pv 2) pa_nil))))
  (pss_cons (ps_set (i := 4) sc__law_tuples.nd rfl (Or.inl rfl) (pe_lst pa_nil))
  (pss_cons (ps_set (i := 5) sc__law_tuples.nd rfl (Or.inl rfl) (pe_lst pa_nil))
  (pss_cons (ps_for PassesOwn.never rfl (pi_range1 (by rfl) T.f_range (pa_cons (pe_call G_take (hr.mono (by decide)) rfl (T.gl _ (by decide +kernel)) C_take.kp b_take .nil pass0 (pa_cons (pv 3) (pa_cons pe_int pa_nil))) pa_nil)) (pg_name (i := 6) sc__law_tuples.nd rfl (Or.inl rfl))
    (pss_cons (ps_set (i := 7) sc__law_tuples.nd rfl (Or.inr rfl) (pe_lst (pa_cons (pe_op op_add (pe_call G_cell (hr.mono (by decide)) rfl (T.gl _ (by decide +kernel)) C_cell.kp b_cell .nil pass0 (pa_cons (pv 0) (pa_cons (pe_op op_add (pe_op op_add (pv 1) pe_int) (pv 6)) pa_nil))) (pv 6)) (pa_cons (pv 2) pa_nil))))
    (pss_cons (ps_set (i := 8) sc__law_tuples.nd rfl (Or.inl rfl) (pe_call G_name (hr.mono (by decide)) rfl (T.gl _ (by decide +kernel)) C_name.kp b_name .nil pass0 (pa_cons (pv 7) pa_nil)))
    (pss_one (ps_if (pt_cmpR op_notIn_seq (pv 8) (pv 5) (by rfl)) (pss_cons (ps_expr (pe_bm PySem.F.plainAttrs_list PySem.F.slot_list_append PySem.F.type_list_append mt_append (pv 4) (pa_cons (pe_tup (pa_cons (pv 8) (pa_cons (pe_lc (own := [("_law_other", 10)]) (g := gName 10) rfl sc__law_tuples.nd (pi_list (pv 5)) (blkOk_by (own := [("_law_other", 10)]) (N := N__law_tuples) (sc := (defScope s__law_tuples)) (by decide +kernel))
    (fun _ _ _ _ _ => (pg_name (i := 10) sc__law_tuples.nd rfl (Or.inl rfl))) (fun _ _ _ _ _ => (pts_one (pt_cmpR op_eq (pe_call G_take (hr.mono (by decide)) rfl (T.gl _ (by decide +kernel)) C_take.kp b_take .nil pass0 (pa_cons (pv 7) (pa_cons pe_int pa_nil))) pe_int (nomark _))))
    (fun _ _ _ _ _ => (pv 10))) pa_nil))) pa_nil)))
      (pss_one (ps_expr (pe_bm PySem.F.plainAttrs_list PySem.F.slot_list_append PySem.F.type_list_append mt_append (pv 5) (pa_cons (pv 8) pa_nil))))) pss_nil)))))
  (pss_cons (ps_set (i := 9) sc__law_tuples.nd rfl (Or.inl rfl) (pe_call G_take (hr.mono (by decide)) rfl (T.gl _ (by decide +kernel)) C_take.kp b_take .nil pass0 (pa_cons (pv 3) (pa_cons (pe_op op_add pe_int (pe_callB call_len (by rfl) T.f_len (by decide +kernel) (pa_cons (pv 4) pa_nil))) pa_nil))))
  (pss_one (ps_ret (pe_op op_cat (pe_slice sl_list (pv 4) (po_some (pv 9)) po_none) (pe_slice sl_list (pv 4) po_none (po_some (pv 9))))))))))), ?_⟩
    refine ⟨_, rfl, _, rfl, a, ns, st, rfl, hS, hl, fun i0 => ⟨_, rfl, sz2, fun p hp => ?_⟩⟩
    refine ⟨(by decide), fun F0 hF => ⟨(by decide), fun L0 hL => ?_⟩⟩
    have nFp : F0 ≠ p := fun z => by rw [z, upd_same] at hF; cases hF
    have nLF : L0 ≠ F0 := fun z => by rw [z, upd_same] at hL; cases hL
    have nLp : L0 ≠ p := fun z => by rw [z, upd_ne (Ne.symm nFp), upd_same] at hL; cases hL
    have hF' : H F0 = none := by rw [upd_ne nFp] at hF; exact hF
    have hL' : H L0 = none := by rw [upd_ne nLF, upd_ne nLp] at hL; exact hL
    refine ⟨_, rfl, p, 7, rfl, ⟨[i0, way], by rw [upd_ne (Ne.symm nLp), upd_ne (Ne.symm nFp), upd_same] <;> rfl, .inl rfl⟩, by decide, by decide, fun r H1 r0 r1 e1 p1 => ⟨_, rfl, by omega, by omega, ?_⟩⟩
    refine for_range (lo := 0) (n := r.toNat) (fun i σ' H' => ∃ (x6 x7 x8 x9 x10 : Option V) (fs : List Tu) (vs : List V), σ' = [some (.ref a), some (.int st), some (.int way), some (.ref p), some (.ref F0), some (.ref L0), x6, x7, x8, x9, x10] ∧ fs.length ≤ i ∧
      Dr fs ∧ Ex H H' ∧ Purse p H' ∧ H' F0 = some (.lst vs) ∧ H' L0 = some (.lst ((fs.map (·.1)).map V.str)) ∧ All2 (TwX [p, F0, L0]) fs vs H') ?_ ?_ ?_
    · refine ⟨none, none, none, none, none, [], [], rfl, Nat.le_refl _, Dr.nil, ?_, p1, e1 F0 _ (by simp [nFp]) (by rw [upd_ne (Ne.symm nLF), upd_same]), e1 L0 _ (by simp [nLp]) upd_same, All2.nil⟩
      have e0 : Ex H (upd (upd (upd H p (.lst [.int i0, .int way])) F0 (.lst [])) L0 (.lst [])) := ((Ex.new hp).trans (Ex.new hF)).trans (Ex.new hL)
      exact ((ExM.of e0).trans e1).ex fun b hb => by rw [List.mem_singleton.mp hb]; exact hp
    · rintro i _ H2 hi ⟨x6, x7, x8, x9, x10, fs, vs, rfl, hfl, hd, hE, hP, hFv, hLv, hA⟩
      refine ⟨_, rfl, _, rfl, _, _, rfl, rfl, _, rfl, _, _, rfl, rfl, a, ns, st + 1 + i, ?_, ex_l hE hS, hl, fun j => ⟨_, rfl, _, _, rfl, rfl, _, rfl, sz2, fun pk hpk => ?_⟩⟩
      · show [V.ref a, V.int ((st : Int) + 1 + (0 + (i : Int)))] = _
        rw [show (st : Int) + 1 + (0 + (i : Int)) = ((st + 1 + i : Nat) : Int) by omega]
      have e2 := Ex.new (o := .lst [V.int (j + (0 + (i : Int))), V.int way]) hpk
      have nk : ∀ b ∈ [p, F0, L0], b ≠ pk := fun b hb z => by
        obtain ⟨ns', hp', _⟩ := hP
        simp only [List.mem_cons, List.not_mem_nil, or_false] at hb
        rcases hb with rfl | rfl | rfl
        · rw [z, hpk] at hp'; cases hp'
        · rw [z, hpk] at hFv; cases hFv
        · rw [z, hpk] at hLv; cases hLv
      refine ⟨_, rfl, pk, rfl, ⟨[j + (0 + (i : Int)), way], upd_same, .inl rfl⟩, fun z H3 hz e3 p3 => ?_⟩
      have E3 : Ex H2 H3 := ((ExM.of e2).trans e3).ex fun b hb => by rw [List.mem_singleton.mp hb]; exact hpk
      refine ⟨_, rfl, _, rfl, L0, _, rfl, .inl (SqL.of (E3 L0 _ hLv)), rfl, flat_strs _, _, rfl, ?_⟩
      refine ite2 (fun hin => ?_) (fun _ => ⟨_, _, _, _, _, fs, vs, rfl, by omega, hd, hE.trans E3, hP.mono E3, E3 F0 _ hFv, E3 L0 _ hLv, hA.imp fun _ _ => TwX.mono E3⟩)
      have hin : z ∉ fs.map (·.1) := by
        rw [show (if true = true then !inV (V.str z) ((fs.map (·.1)).map V.str) else inV (V.str z) ((fs.map (·.1)).map V.str)) = !inV (V.str z) ((fs.map (·.1)).map V.str) from rfl, strs_in] at hin
        simpa using hin
      refine ⟨_, rfl, .inl ⟨rfl, _, SqL.of (E3 F0 _ hFv)⟩, _, rfl, _, rfl, L0, rfl, ⟨_, SqL.of (E3 L0 _ hLv)⟩, fun D hD => ?_⟩
      have nDk : D ≠ pk := fun y => by
        obtain ⟨_, hpk', _⟩ := p3
        rw [← y, hD] at hpk'; cases hpk'
      refine lc_list (xs := (fs.map (·.1)).map V.str) (fun c H' => Purse pk H' ∧ ExM [pk] H3 H' ∧ ∃ os : List Str, H' D = some (.lst (os.map V.str)) ∧ os.Sublist ((fs.map (·.1)).take c)) ⟨p3.mono (Ex.new hD), ExM.of (Ex.new hD), [], upd_same, by simp⟩ (fun c H' hc p => ?_) (fun c x H' hx p => ?_) (fun H' p => ?_)
      · exact SqL.of (p.2.1 L0 _ (by simp [nk L0 (by simp)]) (E3 L0 _ hLv))
      · obtain ⟨pp, pe, os, po, ps⟩ := p
        rw [List.getElem?_map] at hx
        obtain ⟨y, hy, rfl⟩ := Option.map_eq_some_iff.mp hx
        refine ⟨rfl, _, rfl, pk, 3, rfl, pp, by decide, by decide, fun r' H4 _ _ e4 p4 => ⟨rfl, _, rfl, ?_⟩⟩
        have take1 : (fs.map (·.1)).take (c + 1) = (fs.map (·.1)).take c ++ [y] := by rw [List.take_add_one, hy] <;> rfl
        have hD4 : H4 D = some (.lst (os.map V.str)) := e4 D _ (by simp [nDk]) po
        refine ite2 (fun _ => ⟨_, rfl, _, hD4, sz_lt ?_, ?_, ?_, os ++ [y], ?_, ?_⟩) (fun _ => ⟨p4, pe.trans e4, os, hD4, ?_⟩)
        · have := ps.length_le
          rw [List.length_take, List.length_map] at this
          rw [List.length_map]
          omega
        · obtain ⟨ms, h1, h2⟩ := p4
          exact ⟨ms, by rw [upd_ne (Ne.symm nDk)]; exact h1, h2⟩
        · intro b o hb h
          have nb : b ≠ D := fun z => by rw [z, hD] at h; cases h
          rw [upd_ne nb]
          exact (pe.trans e4) b o hb h
        · rw [upd_same, List.map_append] <;> rfl
        · rw [take1]
          exact ps.append (List.Sublist.refl _)
        · rw [take1]
          exact ps.trans (List.sublist_append_left _ _)
      obtain ⟨pp, pe, os, po, ps⟩ := p
      rw [List.length_map, List.take_of_length_le (by rw [List.length_map]; exact Nat.le_refl _)] at ps
      have E4 : Ex H2 H' := ((ExM.of e2).trans (e3.trans pe)).ex fun b hb => by rw [List.mem_singleton.mp hb]; exact hpk
      refine ⟨sz2, fun t ht => ⟨F0, vs, _, rfl, rfl, ?_, sz_lt ?_, ?_⟩⟩
      · have ntF : F0 ≠ t := ne_of_none (E4 F0 _ hFv) ht
        rw [upd_ne ntF]
        exact E4 F0 _ hFv
      · rw [hA.1]; omega
      have E5 : Ex H2 (upd H' t (.tup [.str z, .ref D])) := E4.trans (Ex.new ht)
      have ntL : L0 ≠ t := ne_of_none (E4 L0 _ hLv) ht
      have mM : ∀ {b}, b ∈ [p, F0, L0] → H2 b ≠ none := fun {b} hb h => by
        obtain ⟨ns', hp', _⟩ := hP
        simp only [List.mem_cons, List.not_mem_nil, or_false] at hb
        rcases hb with rfl | rfl | rfl
        · rw [h] at hp'; cases hp'
        · rw [h] at hFv; cases hFv
        · rw [h] at hLv; cases hLv
      have nDM : D ∉ [p, F0, L0] := fun hb => by
        cases hh : H2 D with
        | none => exact mM hb hh
        | some o => rw [E3 D o hh] at hD; cases hD
      have ntM : t ∉ [p, F0, L0] := fun hb => by
        cases hh : H2 t with
        | none => exact mM hb hh
        | some o => rw [E4 t o hh] at ht; cases ht
      have ntD : t ≠ D := fun z => by rw [z, po] at ht; cases ht
      refine ⟨_, rfl, .inl ⟨rfl, _, SqL.of (xs := (fs.map (·.1)).map V.str) ?_⟩, _, rfl, L0, (fs.map (·.1)).map V.str, _, rfl, rfl, ?_, sz_lt ?_, ?_⟩
      · rw [upd_ne nLF, upd_ne ntL]; exact E4 L0 _ hLv
      · rw [upd_ne nLF, upd_ne ntL]; exact E4 L0 _ hLv
      · rw [List.length_map, List.length_map]; omega
      have em : ExM [p, F0, L0] (upd H' t (.tup [.str z, .ref D])) (upd (upd (upd H' t (.tup [.str z, .ref D])) F0 (.lst (vs ++ [.ref t]))) L0 (.lst ((fs.map (·.1)).map V.str ++ [.str z]))) := (ExM.upd (by simp)).trans (ExM.upd (by simp))
      have em2 : Ex H (upd (upd (upd H' t (.tup [.str z, .ref D])) F0 (.lst (vs ++ [.ref t]))) L0 (.lst ((fs.map (·.1)).map V.str ++ [.str z]))) := ((hE.trans E5).mut hF').mut hL'
      refine ⟨_, _, _, _, _, fs ++ [(z, os)], vs ++ [.ref t], rfl, by rw [List.length_append]; exact Nat.succ_le_succ hfl, hd.snoc hz ps hin, em2, ?_, ?_, ?_, ?_⟩
      · obtain ⟨ns', hp', h2⟩ := hP.mono E5
        exact ⟨ns', by rw [upd_ne (Ne.symm nLp), upd_ne (Ne.symm nFp)]; exact hp', h2⟩
      · rw [upd_ne (Ne.symm nLF), upd_same]
      · rw [upd_same, List.map_append, List.map_append] <;> rfl
      · refine All2.snoc (hA.imp fun _ _ k => (k.mono E5).monoM em) (TwX.monoM em ⟨t, D, rfl, ntM, nDM, upd_same, ?_⟩)
        rw [upd_ne (Ne.symm ntD)]
        exact po
    · rintro _ H2 ⟨x6, x7, x8, x9, x10, fs, vs, rfl, hfl, hd, hE, hP, hFv, hLv, hA⟩
      have h6 : fs.length ≤ 6 := by omega
      refine ⟨_, rfl, _, rfl, _, vs.length, rfl, .inl ⟨_, SqL.of hFv, rfl⟩, _, _, rfl, rfl, p, (1 + (vs.length : Int)), rfl, hP, by omega, by rw [hA.1]; omega, fun r2 H3 r20 r21 e3 p3 => ?_⟩
      obtain ⟨k, rfl⟩ := Int.eq_ofNat_of_zero_le r20
      have nFp' : F0 ∉ [p] := by simp [nFp]
      have hF3 := e3 F0 _ nFp' hFv
      refine ⟨_, rfl, _, rfl, (k : Int), rfl, F0, vs, rfl, SqL.of hF3, fun A1 hA1 => ?_⟩
      refine ⟨_, rfl, _, rfl, (k : Int), rfl, F0, vs, rfl, SqL.of (by rw [upd_ne (ne_of_none hF3 hA1)]; exact hF3), fun B1 hB1 => ?_⟩
      have nAB : A1 ≠ B1 := ne_of_none (o := .lst (cutV vs (some (k : Int)) none)) upd_same hB1
      refine ⟨A1, B1, _, _, rfl, rfl, by rw [upd_ne nAB, upd_same], upd_same, sz_of ?_, fun C1 hC1 => ?_⟩
      · have h1 := cutV_length vs (some (k : Int)) none
        have h2 := cutV_length vs none (some (k : Int))
        have h3 := hA.1
        omega
      · have hp' : H p = none := hp
        have E1 : Ex H H3 := ((ExM.of hE).trans e3).ex fun b hb => by rw [List.mem_singleton.mp hb]; exact hp'
        have E3 : Ex H3 (upd (upd (upd H3 A1 (.lst (cutV vs (some (k : Int)) none))) B1 (.lst (cutV vs none (some (k : Int))))) C1 (.lst (cutV vs (some (k : Int)) none ++ cutV vs none (some (k : Int))))) := ((Ex.new hA1).trans (Ex.new hB1)).trans (Ex.new hC1)
        have A3 : All2 Tw fs vs H3 := hA.imp fun _ _ k => (k.monoM (e3.sub fun b hb => by rw [List.mem_singleton.mp hb]; simp)).tw
        refine q (fs.drop k ++ fs.take k) _ _ (hd.good h6 k) (E1.trans E3) ⟨C1, _, rfl, upd_same, ?_⟩
        rw [cutV_R, cutV_L]
        exact ((A3.drop k).append (A3.take k)).imp fun _ _ k => k.mono (by rw [← cutV_R, ← cutV_L]; exact E3)
end
end Wt

-- WtM1
set_option maxHeartbeats 1000000
namespace Wt
open PySem PySem.Spec PyProof.Rows L2 Evl
/-! ### tuples as text -/
def txT (t : Tu) : Str := if t.2 = [] then t.1 else t.1 ++ (": " : Str) ++ Txt.join (", " : Str) t.2
def txW (ts : List Tu) : Str := Txt.join ("; " : Str) (ts.map txT)
/-- names only -/
def NmT (t : Tu) : Prop := isNm t.1 = true ∧ ∀ x ∈ t.2, isNm x = true
structure SzN (a b : Nat) (ts : List Tu) : Prop where
  n : ts.length ≤ a
  o : ∀ t ∈ ts, t.2.length ≤ b
  m : ∀ t ∈ ts, NmT t
theorem NmT.ok {t : Tu} (h : NmT t) : okT t := ⟨isNm_ok h.1, fun x hx => isNm_ok (h.2 x hx)⟩
theorem isNm_len {z : Str} (h : isNm z = true) : 1 ≤ z.length ∧ z.length ≤ 8 := by
  unfold isNm at h
  simp only [Bool.and_eq_true, decide_eq_true_eq] at h
  exact ⟨h.1.1.1, h.1.1.2⟩
theorem isNm_nm {z : Str} (h : isNm z = true) : ∀ c ∈ TL.tl z, nmC c = true := by
  unfold isNm at h
  simp only [Bool.and_eq_true] at h
  exact List.all_eq_true.mp h.2
theorem isNm_ne {z : Str} (h : isNm z = true) : TL.tl z ≠ [] := fun e => by
  have := (isNm_len h).1
  rw [TL.len_tl, e] at this
  exact absurd this (by decide)
theorem tl_semi : TL.tl ("; " : Str) = [59, 32] := by decide +kernel
theorem tl_colon : TL.tl (": " : Str) = [58, 32] := by decide +kernel
theorem tl_comma : TL.tl (", " : Str) = [44, 32] := by decide +kernel
theorem tl_joinT (y : Str) (ps : List Str) : TL.tl (Txt.join y ps) = TL.joinL (TL.tl y) (ps.map TL.tl) := by
  rw [TL.join_eq, TL.tl_join]
/-- the signs -/
def rdT (t : Tu) : List Nat := if t.2 = [] then TL.tl t.1 else TL.tl t.1 ++ ([58, 32] ++ TL.joinL [44, 32] (t.2.map TL.tl))
def rdW (ts : List Tu) : List Nat := TL.joinL [59, 32] (ts.map rdT)
theorem tl_txT (t : Tu) : TL.tl (txT t) = rdT t := by
  unfold txT rdT
  by_cases h : t.2 = []
  · rw [if_pos h, if_pos h]
  · rw [if_neg h, if_neg h, TL.tl_append, TL.tl_append, tl_joinT, tl_colon, tl_comma, List.append_assoc]
theorem tl_txW (ts : List Tu) : TL.tl (txW ts) = rdW ts := by
  unfold txW rdW
  rw [tl_joinT, tl_semi, List.map_map]
  congr 1
  exact List.map_congr_left fun t _ => tl_txT t
/-! sizes -/
theorem joinL_len {S : List Nat} {n : Nat} : ∀ ps : List (List Nat), (∀ p ∈ ps, p.length ≤ n) → (TL.joinL S ps).length ≤ ps.length * (n + S.length)
  | [], _ => Nat.zero_le _
  | [p], h => by
    show p.length ≤ _
    have := h p List.mem_cons_self
    simp only [List.length_singleton]
    omega
  | p :: q :: r, h => by
    have ih := joinL_len (S := S) (q :: r) fun x hx => h x (List.mem_cons_of_mem _ hx)
    have h1 := h p List.mem_cons_self
    show (p ++ (S ++ TL.joinL S (q :: r))).length ≤ _
    rw [List.length_append, List.length_append]
    simp only [List.length_cons] at ih ⊢
    rw [Nat.add_mul (r.length + 1) 1]
    omega
theorem joinL_count {S : List Nat} {c n : Nat} : ∀ ps : List (List Nat), (∀ p ∈ ps, p.count c ≤ n) → (TL.joinL S ps).count c ≤ ps.length * (n + S.count c)
  | [], _ => Nat.zero_le _
  | [p], h => by
    show p.count c ≤ _
    have := h p List.mem_cons_self
    simp only [List.length_singleton]
    omega
  | p :: q :: r, h => by
    have ih := joinL_count (S := S) (q :: r) fun x hx => h x (List.mem_cons_of_mem _ hx)
    have h1 := h p List.mem_cons_self
    show (p ++ (S ++ TL.joinL S (q :: r))).count c ≤ _
    rw [List.count_append, List.count_append]
    simp only [List.length_cons] at ih ⊢
    rw [Nat.add_mul (r.length + 1) 1]
    omega
theorem joinL_mem {S : List Nat} {c : Nat} : ∀ {ps : List (List Nat)}, c ∈ TL.joinL S ps → c ∈ S ∨ ∃ p ∈ ps, c ∈ p
  | [], h => by cases h
  | [p], h => .inr ⟨p, List.mem_singleton.mpr rfl, h⟩
  | p :: q :: r, h => by
    have h : c ∈ p ++ (S ++ TL.joinL S (q :: r)) := h
    rcases List.mem_append.mp h with h | h
    · exact .inr ⟨p, List.mem_cons_self, h⟩
    · rcases List.mem_append.mp h with h | h
      · exact .inl h
      · rcases joinL_mem h with h | ⟨x, hx, h⟩
        · exact .inl h
        · exact .inr ⟨x, List.mem_cons_of_mem _ hx, h⟩
theorem nm_tl {z : Str} (h : isNm z = true) : (TL.tl z).length ≤ 8 := by rw [← TL.len_tl]; exact (isNm_len h).2
theorem nm_free {z : Str} (h : isNm z = true) {c : Nat} (hc : nmC c = false) : c ∉ TL.tl z := fun m => by
  rw [isNm_nm h c m] at hc
  cases hc
theorem rdT_len {b : Nat} {t : Tu} (h : NmT t) (hb : t.2.length ≤ b) : (rdT t).length ≤ 10 + b * 10 := by
  unfold rdT
  have h1 := nm_tl h.1
  split
  · omega
  · rw [List.length_append, List.length_append]
    have h2 := joinL_len (S := [44, 32]) (n := 8) (t.2.map TL.tl) fun p hp => by
      obtain ⟨x, hx, rfl⟩ := List.mem_map.mp hp
      exact nm_tl (h.2 x hx)
    rw [List.length_map] at h2
    simp only [List.length_cons, List.length_nil] at h2 ⊢
    have h3 : t.2.length * (8 + (0 + 1 + 1)) ≤ b * 10 := Nat.mul_le_mul_right 10 hb
    omega
theorem rdW_len {a b : Nat} {ts : List Tu} (h : SzN a b ts) : (rdW ts).length ≤ a * (12 + b * 10) := by
  have h2 := joinL_len (S := [59, 32]) (n := 10 + b * 10) (ts.map rdT) fun p hp => by
    obtain ⟨t, ht, rfl⟩ := List.mem_map.mp hp
    exact rdT_len (h.m t ht) (h.o t ht)
  rw [List.length_map] at h2
  simp only [List.length_cons, List.length_nil] at h2
  have h3 : ts.length * (10 + b * 10 + (0 + 1 + 1)) ≤ a * (10 + b * 10 + (0 + 1 + 1)) := Nat.mul_le_mul_right _ h.n
  have e : 10 + b * 10 + (0 + 1 + 1) = 12 + b * 10 := by omega
  rw [e] at h2 h3
  exact Nat.le_trans h2 h3
theorem rdT_ok {t : Tu} (h : NmT t) : ∀ c ∈ rdT t, c < 1000 := fun c hc => by
  unfold rdT at hc
  split at hc
  · exact isNm_ok h.1 c hc
  · rcases List.mem_append.mp hc with hc | hc
    · exact isNm_ok h.1 c hc
    · rcases List.mem_append.mp hc with hc | hc
      · simp only [List.mem_cons, List.not_mem_nil, or_false] at hc
        omega
      · rcases joinL_mem hc with hc | ⟨p, hp, hc⟩
        · simp only [List.mem_cons, List.not_mem_nil, or_false] at hc
          omega
        · obtain ⟨x, hx, rfl⟩ := List.mem_map.mp hp
          exact isNm_ok (h.2 x hx) c hc
theorem rdW_ok {ts : List Tu} (h : ∀ t ∈ ts, NmT t) : ∀ c ∈ rdW ts, c < 1000 := fun c hc => by
  rcases joinL_mem hc with hc | ⟨p, hp, hc⟩
  · simp only [List.mem_cons, List.not_mem_nil, or_false] at hc
    omega
  · obtain ⟨t, ht, rfl⟩ := List.mem_map.mp hp
    exact rdT_ok (h t ht) c hc
theorem sum_le {α : Type} (f : α → Nat) (n : Nat) : ∀ xs : List α, (∀ x ∈ xs, f x ≤ n) → (xs.map f).sum ≤ xs.length * n
  | [], _ => Nat.zero_le _
  | x :: xs, h => by
    rw [List.map_cons, List.sum_cons, List.length_cons, Nat.add_mul]
    have h1 := sum_le f n xs fun y hy => h y (List.mem_cons_of_mem _ hy)
    have h2 := h x List.mem_cons_self
    omega
end Wt

-- WtD3
set_option maxHeartbeats 1000000
namespace Wt
open PySem PySem.Spec PyProof.Rows L2 Evl
abbrev rCatS : R2 := fun x y H Q => ∃ i j, x = .str i ∧ y = .str j ∧ i.length + j.length ≤ sizeLine ∧ Q (.str (i ++ j)) H
abbrev rJoinS (K : PySem.W.Frag) : V → List V → Hp → VK → Prop := fun x xs H Q => ∃ a p, ∃ ys : List Str, x = .str a ∧ xs = [.ref p] ∧ (SqL K H p (ys.map V.str) ∨ SqT K H p (ys.map V.str)) ∧ (ys.map (·.length)).sum + ys.length * a.length ≤ 16777216 ∧ Q (.str (Txt.join a ys)) H
section
variable {K : PySem.W.Frag} {σ : L2.St} {H : Hp} {ta tb : TE}
theorem ev_join {a : Str} {p : Addr} {ys : List Str} (ho : Ev ta σ H (.str a)) (he : Ev tb σ H (.ref p)) (h : SqL K H p (ys.map V.str)) (hz : (ys.map (·.length)).sum + ys.length * a.length ≤ 16777216) : Ev (tM1 (rJoinS K) ta tb) σ H (.str (Txt.join a ys)) := fun H1 e Q q =>
  ho H1 e _ fun H2 e2 => ⟨⟨a, rfl⟩, he H2 (e.trans e2) _ fun H3 e3 => ⟨a, p, ys, rfl, rfl, .inl (ex_l ((e.trans e2).trans e3) h), hz, q H3 (e2.trans e3)⟩⟩
theorem rv_cat {i j : Str} (h : i.length + j.length ≤ 100000) : RV rCatS (.str i) (.str j) H (.str (i ++ j)) := fun H1 _ _ q => ⟨i, j, rfl, rfl, sz_of h, q H1 (Ex.refl H1)⟩
end
def sp_text : Sp := fun vs H Q _ => ∃ (v : V) (ts : List Tu), vs = [v] ∧ Tws ts v H ∧ SzN 60 60 ts ∧ ∀ H', Ex H H' → Q (.str (txW ts)) H'
def sp_lnm : Sp := fun vs H Q _ => ∃ z : Str, vs = [.str z] ∧ z.length ≤ 40000 ∧ okS z ∧ ∀ H', Ex H H' → Q (.bl (isNm z)) H'
/-- not a mark -/
def nmk (c : Nat) : Bool := decide (c ≠ 59 ∧ c ≠ 58 ∧ c ≠ 44)
def sp_word_at : Sp := fun vs H Q _ => ∃ (z : Str) (at_ : Nat), vs = [.str z, .int at_] ∧ z.length ≤ 40000 ∧ at_ ≤ z.length ∧ ∀ (y : Str) (e : Nat) p H', TL.tl y = ((TL.tl z).drop at_).takeWhile nmk → e = at_ + (((TL.tl z).drop at_).takeWhile nmk).length → H p = none → Ex H H' → H' p = some (.tup [.str y, .int e]) → Q (.ref p) H'
section
variable {P : Program} {w : World} {K : PySem.W.Frag} {mg : Str → Option Value} {base : Heap}
theorem okS_lt {z : Str} (h : isNm z = true) : z.length ≤ 8 := (isNm_len h).2
theorem ok_text {f : Addr} {fd : FuncData} (T : Txt K mg) (F : Fd K d__law_text f fd) : FnOk P w K mg base CX0 1 f fd P__law_text sp_text := by
  refine FunD.ok F sc__law_text (fun vs H Q E h => ?_) (fun cdv A outer s H vs Q E hr h => ?_)
  · obtain ⟨v, ts, rfl, _⟩ := h
    rfl
  · obtain ⟨v, ts, rfl, ⟨a, vs, rfl, ha, hA⟩, hz, q⟩ := h
    have hru := hr.units
    refine ⟨_, PSs.nox (pss_cons (ps_set (i := 1) sc__law_text.nd rfl (Or.inl rfl) (pe_lst pa_nil))
  (pss_cons (ps_for PassesOwn.never rfl (pi_list (pv 0)) (pg_tup rfl (pgs_cons (pg_name (i := 2) sc__law_text.nd rfl (Or.inl rfl)) (pgs_cons (pg_name (i := 3) sc__law_text.nd rfl (Or.inl rfl)) pgs_nil)))
    (pss_one (ps_if (pt_cmpR (op_eqD hru) (pv 3) (pe_lst pa_nil) (nomark _)) (pss_one (ps_expr (pe_bm PySem.F.plainAttrs_list PySem.F.slot_list_append PySem.F.type_list_append mt_append (pv 1) (pa_cons (pv 2) pa_nil)))) (pss_one (ps_expr (pe_bm PySem.F.plainAttrs_list PySem.F.slot_list_append PySem.F.type_list_append mt_append (pv 1) (pa_cons (pe_op op_add_str (pe_op op_add_str (pv 2) pe_str) (pe_join pe_str (pv 3))) pa_nil)))))))
  (pss_one (ps_ret (pe_join pe_str (pv 1)))))), ?_⟩
    refine ⟨sz0, fun D hD => ?_⟩
    refine q_forL (ev_var rfl) (SqL.of (Ex.new hD a _ ha)) (fun i σ' H' => ∃ x2 x3 : Option V, σ' = [some (.ref a), some (.ref D), x2, x3] ∧ Ex H H' ∧ H' D = some (.lst (((ts.take i).map txT).map V.str))) (fun H1 e => ⟨none, none, rfl, (Ex.new hD).trans e, e D _ upd_same⟩)
      (fun i σ' H' hi p => ?_) (fun i x σ' H' hi p => ?_) (fun σ' H' p => ?_)
    · obtain ⟨x2, x3, rfl, e, h⟩ := p
      exact SqL.of (e a _ ha)
    · obtain ⟨x2, x3, rfl, e, h⟩ := p
      obtain ⟨t, ht, pt, ot, rfl, h1, h2⟩ := hA.get hi
      have tm := hz.m t (List.mem_of_getElem? ht)
      have tk : (ts.take (i + 1)).map txT = (ts.take i).map txT ++ [txT t] := by rw [List.take_add_one, ht, List.map_append] <;> rfl
      have hi60 : ((ts.take i).map txT).length < 100000 := by
        rw [List.length_map, List.length_take]
        have := hz.n
        omega
      refine ⟨pt, _, rfl, SqT.of (e pt _ h1), rfl, _, _, rfl, _, _, rfl, rfl, ?_⟩
      refine ⟨_, rfl, sz0, fun l hl => eqD_S (xs := t.2) (ys := []) (SqL.of (by rw [upd_ne (ne_of_none (e ot _ h2) hl)]; exact e ot _ h2)) (SqL.of upd_same) (fun x hx => (tm.ok).2 x hx) (fun x hx => by cases hx) ⟨_, rfl, ?_⟩⟩
      have el : Ex H' (upd H' l (.lst [])) := Ex.new hl
      refine ite2 (fun hb => ?_) (fun hb => ?_)
      · have hb : t.2 = [] := of_decide_eq_true hb
        refine s_app (el D _ h) (ev_var rfl) (ev_var rfl) (by rw [List.length_map]; exact hi60) fun H1 e1 => ⟨_, _, rfl, ((e.trans el).trans e1).mut (fresh_back (Ex.refl H) hD), ?_⟩
        rw [upd_same, tk, List.map_append]
        have : txT t = t.1 := by unfold txT; rw [if_pos hb]
        rw [this] <;> rfl
      · have hb : t.2 ≠ [] := of_decide_eq_false (Bool.eq_false_iff.mpr hb)
        have hs := sum_le (fun y : Str => y.length) 8 t.2 fun y hy => okS_lt (tm.2 y hy)
        have h60 := hz.o t (List.mem_of_getElem? ht)
        have l2 : (", " : Str).length = 2 := by decide +kernel
        have lc : (": " : Str).length = 2 := by decide +kernel
        have jl : (Txt.join (", " : Str) t.2).length ≤ 600 := by
          rw [TL.len_tl, tl_joinT, tl_comma]
          have := joinL_len (S := [44, 32]) (n := 8) (t.2.map TL.tl) fun p hp => by
            obtain ⟨x, hx, rfl⟩ := List.mem_map.mp hp
            exact nm_tl (tm.2 x hx)
          rw [List.length_map] at this
          simp only [List.length_cons, List.length_nil] at this
          omega
        have n8 := okS_lt tm.1
        refine s_app (el D _ h) (ev_var rfl) (ev_op (ev_op (ev_var rfl) ev_c (rv_cat (by rw [lc]; omega))) (ev_join (K := K) ev_c (ev_var rfl) (SqL.of (el ot _ (e ot _ h2))) (by rw [l2]; omega)) (rv_cat ?_)) (by rw [List.length_map]; exact hi60) fun H1 e1 => ⟨_, _, rfl, ((e.trans el).trans e1).mut hD, ?_⟩
        · rw [TL.len_tl, TL.tl_append, List.length_append, ← TL.len_tl, ← TL.len_tl, lc]
          omega
        · rw [upd_same, tk, List.map_append]
          have : txT t = t.1 ++ (": " : Str) ++ Txt.join (", " : Str) t.2 := by unfold txT; rw [if_neg hb]
          rw [this] <;> rfl
    · obtain ⟨x2, x3, rfl, e, h⟩ := p
      rw [hA.1, List.take_of_length_le (Nat.le_refl _)] at h
      have l2 : ("; " : Str).length = 2 := by decide +kernel
      refine s_ret (ev_join (K := K) ev_c (ev_var rfl) (SqL.of h) ?_) fun H1 e1 => q H1 (e.trans e1)
      have hs := sum_le (fun y : Str => y.length) 610 (ts.map txT) fun y hy => by
        obtain ⟨t, ht, rfl⟩ := List.mem_map.mp hy
        show (txT t).length ≤ 610
        rw [TL.len_tl, tl_txT]
        have := rdT_len (hz.m t ht) (hz.o t ht)
        omega
      have := hz.n
      rw [List.length_map] at hs ⊢
      rw [l2]
      omega
theorem not_all {α : Type} (p : α → Bool) : ∀ xs : List α, (xs.filter fun x => !p x) = [] ↔ xs.all p = true := by
  intro xs
  rw [List.filter_eq_nil_iff, List.all_eq_true]
  constructor
  · intro h x hx
    have := h x hx
    simpa using this
  · intro h x hx
    rw [h x hx]
    simp
theorem ok_lnm {f : Addr} {fd : FuncData} (T : Txt K mg) (F : Fd K d__law_is_name f fd) : FnOk P w K mg base CX0 1 f fd P__law_is_name sp_lnm := by
  refine FunD.ok F sc__law_is_name (fun vs H Q E h => ?_) (fun cdv A outer s H vs Q E hr h => ?_)
  · obtain ⟨z, rfl, _⟩ := h
    rfl
  · obtain ⟨z, rfl, hz, ho, q⟩ := h
    have hru := hr.units
    refine ⟨_, PSs.nox (pss_cons (ps_if (PW.pt (pw_or (pt_cmpR op_lt (pe_callB call_len (by rfl) T.f_len (by decide +kernel) (pa_cons (pv 0) pa_nil)) pe_int (nomark _)) (pw_or (pt_cmpR op_gt (pe_callB call_len (by rfl) T.f_len (by decide +kernel) (pa_cons (pv 0) pa_nil)) pe_int (nomark _)) (pw_or1 (pt_cmpR op_in_seq (pv 0) (pe_lst (pa_cons pe_str (pa_cons pe_str (pa_cons pe_str (pa_cons pe_str (pa_cons pe_str pa_nil)))))) (by rfl)))))) (pss_one (ps_ret pe_bl)) pss_nil)
  (pss_one (ps_ret (pe_cmpR (op_eqD hru) (pe_lc (own := [("_law_letter", 1)]) (g := gName 1) rfl sc__law_is_name.nd (pi_str (pv 0)) (blkOk_by (own := [("_law_letter", 1)]) (N := N__law_is_name) (sc := (defScope s__law_is_name)) (by decide +kernel))
    (fun _ _ _ _ _ => (pg_name (i := 1) sc__law_is_name.nd rfl (Or.inl rfl))) (fun _ _ _ _ _ => (pts_one (pt_cmpR op_notIn_sign (pv 1) pe_str (by rfl))))
    (fun _ _ _ _ _ => (pv 1))) (pe_lst pa_nil) (nomark _))))), ?_⟩
    have hsz : z.length ≤ sizeLine := sz_of (by omega)
    refine ⟨_, rfl, _, z.length, rfl, ⟨hsz, rfl⟩, _, _, rfl, rfl, _, rfl, ?_⟩
    by_cases h1 : ((z.length : Nat) : Int) < 1
    · rw [decide_eq_true h1]
      refine iteT (iteT ?_)
      have : isNm z = false := by
        unfold isNm
        rw [decide_eq_false (show ¬ 1 ≤ z.length by omega)] <;> rfl
      rw [← this]
      exact q H (Ex.refl H)
    rw [decide_eq_false h1]
    refine iteF ⟨_, rfl, _, z.length, rfl, ⟨hsz, rfl⟩, _, _, rfl, rfl, _, rfl, ?_⟩
    by_cases h8 : (8 : Int) < (z.length : Nat)
    · rw [decide_eq_true h8]
      refine iteT ?_
      have : isNm z = false := by
        unfold isNm
        rw [decide_eq_false (show ¬ z.length ≤ 8 by omega)]
        simp
      rw [← this]
      exact q H (Ex.refl H)
    rw [decide_eq_false h8]
    refine iteF ⟨_, rfl, sz_of (by show 5 ≤ 100000; decide), fun l hl => ?_⟩
    refine ⟨l, words.map V.str, rfl, .inl (SqL.of upd_same), rfl, flat_strs _, _, rfl, ?_⟩
    have e1 : Ex H (upd H l (.lst (words.map V.str))) := Ex.new hl
    rw [show (if false = true then !inV (V.str z) (words.map V.str) else inV (V.str z) (words.map V.str)) = inV (V.str z) (words.map V.str) from rfl, strs_in]
    refine ite2 (fun hw => ?_) (fun hw => ?_)
    · have : isNm z = false := by
        unfold isNm
        rw [hw]
        simp
      rw [← this]
      exact q _ e1
    dsimp only [tNext, tRet]
    have hn : isNm z = (TL.tl z).all nmC := by
      unfold isNm
      rw [decide_eq_true (show 1 ≤ z.length by omega), decide_eq_true (show z.length ≤ 8 by omega), Bool.eq_false_iff.mpr hw]
      rfl
    have cs : ∀ (l : List Nat), ((l.filterMap fun c => if nmC c then none else some (V.str ⟨#[c]⟩)) : List V) = (((l.filter fun c => !nmC c).map fun c => (⟨#[c]⟩ : Str)).map V.str) := by
      intro l
      induction l with
      | nil => rfl
      | cons c l ih =>
        cases hc : nmC c with
        | true => rw [List.filterMap_cons, List.filter_cons, hc]; simpa using ih
        | false => rw [List.filterMap_cons, List.filter_cons, hc]; simp [ih]
    refine use_ev (te := tOp (rEqD K) _ _) (ev_opLL (el_lcS (fun c => [some (.str z), some (.str ⟨#[c]⟩)]) (fun c => if nmC c then none else some (.str ⟨#[c]⟩)) (ev_var rfl) hz (fun c H1 _ Q q => q) (fun c => rfl) (fun c H1 _ => ?_) (fun c y H1 _ e => ?_)) (el_lst ea_nil (Nat.zero_le _)) (fun p r H1 hp hr' e2 => fun H2 e3 Q k => ?_)) fun H2 e2 => q H2 (e1.trans e2)
    · refine fun H2 e2 Q q => ⟨_, rfl, _, _, rfl, rfl, _, rfl, ?_⟩
      rw [letters]
      have : (!nmC c) = (if nmC c then none else some (V.str ⟨#[c]⟩)).isSome := by cases nmC c <;> rfl
      rw [this]
      exact q H2 (Ex.refl H2)
    · cases hc : nmC c with
      | true => rw [hc] at e; cases e
      | false =>
        rw [hc] at e
        cases e
        exact ev_var rfl
    · rw [cs] at hp
      refine eqD_S (K := K) (ys := []) (SqL.of (e3 p _ hp)) (SqL.of (e3 r _ hr')) (fun x hx => ?_) (fun x hx => by cases hx) ?_
      · obtain ⟨c, hc, rfl⟩ := List.mem_map.mp hx
        intro d hd
        have : d = c := by simpa using hd
        rw [this]
        exact ho c (List.mem_filter.mp hc).1
      · have : decide ((((TL.tl z).filter fun c => !nmC c).map fun c => (⟨#[c]⟩ : Str)) = []) = isNm z := by
          rw [hn, Bool.eq_iff_iff, decide_eq_true_eq, List.map_eq_nil_iff, not_all]
        rw [this]
        exact k H2 (Ex.refl H2)
theorem ok_word_at {f : Addr} {fd : FuncData} (T : Txt K mg) (F : Fd K d__law_word_at f fd) : FnOk P w K mg base CX0 1 f fd P__law_word_at sp_word_at := by
  refine FunD.ok F sc__law_word_at (fun vs H Q E h => ?_) (fun cdv A outer s H vs Q E hr h => ?_)
  · obtain ⟨z, at_, rfl, _⟩ := h
    rfl
  · obtain ⟨z, at_, rfl, hz, hat, q⟩ := h
    refine ⟨_, PSs.nox (pss_cons (ps_set (i := 2) sc__law_word_at.nd rfl (Or.inl rfl) (pv 1))
  (pss_cons (ps_while PassesOwn.never (PW.pt (pw_and (pt_cmpR op_lt (pv 2) (pe_callB call_len (by rfl) T.f_len (by decide +kernel) (pa_cons (pv 0) pa_nil)) (nomark _)) (pw_and1 (pt_cmpR op_notIn_sign (pe_ix ix_str (pv 0) (pv 2) (fun _ _ => rfl)) pe_str (by rfl)))))
    (pss_one (ps_set (i := 2) sc__law_word_at.nd rfl (Or.inl rfl) (pe_op op_add (pv 2) pe_int))))
  (pss_one (ps_ret (pe_tup (pa_cons (pe_slice sl_str (pv 0) (po_some (pv 1)) (po_some (pv 2))) (pa_cons (pv 2) pa_nil))))))), ?_⟩
    have hsz : z.length ≤ sizeLine := sz_of (by omega)
    have marks : ∀ c : Nat, (!decide (c ∈ TL.tl (";:," : Str))) = nmk c := fun c => by
      have e : TL.tl (";:," : Str) = [59, 58, 44] := by decide +kernel
      rw [e]
      unfold nmk
      rw [Bool.eq_iff_iff]
      simp
    refine ⟨_, rfl, ?_⟩
    refine ⟨fun m σ' H' => ∃ e : Nat, σ' = [some (.str z), some (.int at_), some (.int e)] ∧ H' = H ∧ at_ ≤ e ∧ e ≤ z.length ∧ m = z.length - e ∧ ((TL.tl z).drop at_).takeWhile nmk = ((TL.tl z).drop at_).take (e - at_) ++ ((TL.tl z).drop e).takeWhile nmk, ⟨_, at_, rfl, rfl, Nat.le_refl _, hat, rfl, by rw [Nat.sub_self, List.take_zero, List.nil_append]⟩, ?_⟩
    rintro m σ' H' ⟨e, rfl, rfl, he1, he2, rfl, hw⟩
    have fin : e ≤ z.length → ((TL.tl z).drop e).takeWhile nmk = [] → ∀ D : Ends, (D.rt = Q) → tRet (tTup (tCons (tSl rSlS (tVar 0) (tPart (tVar 1)) (tPart (tVar 2))) (tCons (tVar 2) tNil))) D [some (.str z), some (.int at_), some (.int e)] H' := fun he h0 D hD => by
      rw [h0, List.append_nil] at hw
      refine ⟨_, rfl, _, rfl, (at_ : Int), rfl, _, rfl, (e : Int), rfl, z, rfl, hsz, _, rfl, sz2, fun p hp => ?_⟩
      rw [hD]
      refine q _ e p _ ?_ ?_ hp (Ex.new hp) upd_same
      · rw [tl_cut, hw]
      · rw [hw, List.length_take, List.length_drop, ← TL.len_tl]
        omega
    refine ⟨_, rfl, _, rfl, _, z.length, rfl, ⟨hsz, rfl⟩, _, _, rfl, rfl, _, rfl, ?_⟩
    by_cases hlt : e < z.length
    · rw [decide_eq_true (show (e : Int) < (z.length : Nat) by omega)]
      have hl : e < (TL.tl z).length := by rw [← TL.len_tl]; exact hlt
      refine iteT ⟨_, rfl, _, rfl, z, (e : Int), (TL.tl z)[e], rfl, rfl, hsz, atI_nat (List.getElem?_eq_getElem hl), _, _, rfl, rfl, _, rfl, ?_⟩
      rw [marks]
      have hd : (TL.tl z).drop e = (TL.tl z)[e] :: (TL.tl z).drop (e + 1) := List.drop_eq_getElem_cons hl
      refine ite2 (fun hm => ?_) (fun hm => ?_)
      · refine ⟨fun σ2 H2 => σ2 = [some (.str z), some (.int at_), some (.int ((e : Int) + 1))] ∧ H2 = H', ?_, _, rfl, _, _, rfl, rfl, rfl, rfl⟩
        rintro σ2 H2 ⟨rfl, rfl⟩
        refine ⟨z.length - (e + 1), by omega, e + 1, ?_, rfl, by omega, by omega, rfl, ?_⟩
        · rw [show ((e : Int) + 1) = ((e + 1 : Nat) : Int) by omega]
        · rw [hw, hd, List.takeWhile_cons, hm]
          simp only [if_true]
          have : e + 1 - at_ = (e - at_) + 1 := by omega
          rw [this, List.take_add_one, List.getElem?_drop, show at_ + (e - at_) = e by omega, List.getElem?_eq_getElem hl]
          simp
      · refine fin he2 ?_ _ rfl
        rw [hd, List.takeWhile_cons, Bool.eq_false_iff.mpr hm] <;> rfl
    · rw [decide_eq_false (show ¬ (e : Int) < (z.length : Nat) by omega)]
      refine iteF (fin he2 ?_ _ rfl)
      rw [List.drop_of_length_le (by rw [← TL.len_tl]; omega)] <;> rfl
end
end Wt

-- WtM2
set_option maxHeartbeats 1000000
namespace Wt
open PySem PySem.Spec PyProof.Rows L2 Evl
/-! ### a text read: the law's way -/
def mkS (l : List Nat) : Str := ⟨l.toArray⟩
theorem tl_mkS (l : List Nat) : TL.tl (mkS l) = l := rfl
theorem mkS_of {z : Str} {l : List Nat} (h : TL.tl z = l) : z = mkS l := TL.ext_tl h
def mkW : Nat → List Nat → List Nat → List Str × List Nat
  | 0, _, l => ([], l)
  | n + 1, m, l => if l.take 2 = m then ((mkS ((l.drop 2).takeWhile nmk)) :: (mkW n [44, 32] ((l.drop 2).dropWhile nmk)).1, (mkW n [44, 32] ((l.drop 2).dropWhile nmk)).2) else ([], l)
def lwO : Nat → List Nat → Option (List Tu)
  | 0, _ => none
  | n + 1, l => if (mkS (l.takeWhile nmk) :: (mkW l.length [58, 32] (l.dropWhile nmk)).1).all isNm then
      (if (mkW l.length [58, 32] (l.dropWhile nmk)).2 = [] then some [(mkS (l.takeWhile nmk), (mkW l.length [58, 32] (l.dropWhile nmk)).1)]
      else if (mkW l.length [58, 32] (l.dropWhile nmk)).2.take 2 = [59, 32] then (lwO n ((mkW l.length [58, 32] (l.dropWhile nmk)).2.drop 2)).map ((mkS (l.takeWhile nmk), (mkW l.length [58, 32] (l.dropWhile nmk)).1) :: ·) else none)
    else none
def parse (z : Str) : Option (List Tu) := if TL.tl z = [] then some [] else lwO ((TL.tl z).length + 1) (TL.tl z)
/-- the marked words as they stand -/
def glue (m : List Nat) (ws : List Str) : List Nat := if ws = [] then [] else m ++ TL.joinL [44, 32] (ws.map TL.tl)
theorem glue_cons (m : List Nat) (w : Str) (ws : List Str) : glue m (w :: ws) = m ++ (TL.tl w ++ glue [44, 32] ws) := by
  unfold glue
  rw [if_neg (by simp)]
  cases ws with
  | nil => simp [TL.joinL]
  | cons x xs =>
    rw [if_neg (by simp)]
    rfl
theorem rdT_glue (t : Tu) : rdT t = TL.tl t.1 ++ glue [58, 32] t.2 := by
  unfold rdT glue
  by_cases h : t.2 = []
  · rw [if_pos h, if_pos h, List.append_nil]
  · rw [if_neg h, if_neg h]
theorem mkW_len : ∀ (n : Nat) (m l : List Nat), (mkW n m l).2.length ≤ l.length
  | 0, _, _ => Nat.le_refl _
  | n + 1, m, l => by
    unfold mkW
    split
    · have := mkW_len n [44, 32] ((l.drop 2).dropWhile nmk)
      have h2 := (List.dropWhile_sublist (l := l.drop 2) nmk).length_le
      rw [List.length_drop] at h2
      show (mkW n [44, 32] ((l.drop 2).dropWhile nmk)).2.length ≤ _
      omega
    · exact Nat.le_refl _
theorem mkW_sound : ∀ (n : Nat) (m l : List Nat), l = glue m (mkW n m l).1 ++ (mkW n m l).2
  | 0, _, l => rfl
  | n + 1, m, l => by
    unfold mkW
    split
    · rename_i h
      show l = glue m (mkS ((l.drop 2).takeWhile nmk) :: (mkW n [44, 32] ((l.drop 2).dropWhile nmk)).1) ++ (mkW n [44, 32] ((l.drop 2).dropWhile nmk)).2
      rw [glue_cons, List.append_assoc, List.append_assoc, ← mkW_sound n [44, 32] ((l.drop 2).dropWhile nmk), tl_mkS, List.takeWhile_append_dropWhile, ← h, List.take_append_drop]
    · rfl
theorem nmk_nm {c : Nat} (h : nmC c = true) : nmk c = true := by
  unfold nmC at h
  unfold nmk
  have := of_decide_eq_true h
  exact decide_eq_true (by omega)
/-- what stands behind a word -/
def Stp (r : List Nat) : Prop := ∀ c l, r = c :: l → nmk c = false
theorem tw_name {w : Str} (h : isNm w = true) {r : List Nat} (hr : Stp r) : (TL.tl w ++ r).takeWhile nmk = TL.tl w ∧ (TL.tl w ++ r).dropWhile nmk = r := by
  have key : ∀ l : List Nat, (∀ c ∈ l, nmk c = true) → (l ++ r).takeWhile nmk = l ∧ (l ++ r).dropWhile nmk = r := by
    intro l
    induction l with
    | nil =>
      intro _
      cases r with
      | nil => exact ⟨rfl, rfl⟩
      | cons c r =>
        have hc := hr c r rfl
        rw [List.nil_append, List.takeWhile_cons, List.dropWhile_cons, hc]
        exact ⟨rfl, rfl⟩
    | cons c l ih =>
      intro hl
      have hc := hl c List.mem_cons_self
      obtain ⟨i1, i2⟩ := ih fun d hd => hl d (List.mem_cons_of_mem _ hd)
      rw [List.cons_append, List.takeWhile_cons, List.dropWhile_cons, hc]
      exact ⟨congrArg _ i1, i2⟩
  exact key _ fun c hc => nmk_nm (isNm_nm h c hc)
theorem stp_glue {m : Nat} (hm : nmk m = false) (ws : List Str) {r : List Nat} (hr : Stp r) : Stp (glue [m, 32] ws ++ r) := by
  unfold glue
  split
  · exact hr
  · intro c l e
    have : m = c := by
      have := congrArg List.head? e
      simpa using this
    rw [← this]
    exact hm
theorem mkW_complete : ∀ (n : Nat) (m : Nat) (ws : List Str) (r : List Nat), nmk m = false → (∀ w ∈ ws, isNm w = true) → Stp r → r.take 2 ≠ [44, 32] → (ws = [] → r.take 2 ≠ [m, 32]) → (glue [m, 32] ws ++ r).length ≤ n →
    mkW n [m, 32] (glue [m, 32] ws ++ r) = (ws, r)
  | n, m, [], r, hm, hw, hr, h44, h0, hl => by
    have e : glue [m, 32] [] ++ r = r := rfl
    rw [e]
    cases n with
    | zero => rfl
    | succ n =>
      unfold mkW
      rw [if_neg (h0 rfl)]
  | 0, m, w :: ws, r, hm, hw, hr, h44, h0, hl => by
    rw [glue_cons] at hl
    simp at hl
  | n + 1, m, w :: ws, r, hm, hw, hr, h44, h0, hl => by
    rw [glue_cons, List.append_assoc, List.append_assoc]
    unfold mkW
    have e1 : ([m, 32] ++ (TL.tl w ++ (glue [44, 32] ws ++ r))).take 2 = [m, 32] := rfl
    have e2 : ([m, 32] ++ (TL.tl w ++ (glue [44, 32] ws ++ r))).drop 2 = TL.tl w ++ (glue [44, 32] ws ++ r) := rfl
    rw [if_pos e1, e2]
    obtain ⟨t1, t2⟩ := tw_name (hw w List.mem_cons_self) (stp_glue (m := 44) (by decide) ws hr)
    rw [t1, t2, mkW_complete n 44 ws r (by decide) (fun x hx => hw x (List.mem_cons_of_mem _ hx)) hr h44 (fun _ => h44) (by
      rw [glue_cons] at hl
      simp only [List.length_append, List.length_cons, List.length_nil] at hl ⊢
      omega)]
    rfl
theorem rdW_cons (t : Tu) (u : Tu) (ts : List Tu) : rdW (t :: u :: ts) = rdT t ++ ([59, 32] ++ rdW (u :: ts)) := rfl
theorem rdW_one (t : Tu) : rdW [t] = rdT t := rfl
theorem lwO_sound : ∀ (n : Nat) (l : List Nat) (ts : List Tu), lwO n l = some ts → (∀ t ∈ ts, NmT t) ∧ ts ≠ [] ∧ l = rdW ts
  | 0, _, _, h => by cases h
  | n + 1, l, ts, h => by
    unfold lwO at h
    have es := mkW_sound l.length [58, 32] (l.dropWhile nmk)
    generalize hW : mkW l.length [58, 32] (l.dropWhile nmk) = W at h es
    obtain ⟨ws, r⟩ := W
    dsimp only at h es
    split at h
    · rename_i hv
      have hv' := List.all_eq_true.mp hv
      have nt : NmT (mkS (l.takeWhile nmk), ws) := ⟨hv' _ List.mem_cons_self, fun x hx => hv' x (List.mem_cons_of_mem _ hx)⟩
      have el : l = rdT (mkS (l.takeWhile nmk), ws) ++ r := by
        rw [rdT_glue, List.append_assoc, ← es, tl_mkS, List.takeWhile_append_dropWhile]
      split at h
      · rename_i hr
        cases h
        refine ⟨fun t ht => by rw [List.mem_singleton.mp ht]; exact nt, by simp, ?_⟩
        rw [rdW_one]
        rw [hr, List.append_nil] at el
        exact el
      · split at h
        · rename_i hr2
          obtain ⟨us, hu, rfl⟩ := Option.map_eq_some_iff.mp h
          obtain ⟨i1, i2, i3⟩ := lwO_sound n _ us hu
          refine ⟨fun t ht => ?_, by simp, ?_⟩
          · rcases List.mem_cons.mp ht with rfl | ht
            · exact nt
            · exact i1 t ht
          · cases us with
            | nil => exact absurd rfl i2
            | cons u us =>
              rw [rdW_cons, ← i3, ← hr2, List.take_append_drop]
              exact el
        · cases h
    · cases h
theorem lwO_complete : ∀ (n : Nat) (ts : List Tu), (∀ t ∈ ts, NmT t) → ts ≠ [] → (rdW ts).length < n → lwO n (rdW ts) = some ts
  | 0, _, _, _, h => by omega
  | n + 1, [], _, h, _ => absurd rfl h
  | n + 1, [t], hn, _, hl => by
    have nt := hn t List.mem_cons_self
    have e : rdW [t] = TL.tl t.1 ++ (glue [58, 32] t.2 ++ []) := by rw [rdW_one, rdT_glue, List.append_nil]
    have s0 : Stp ([] : List Nat) := fun c l e => by cases e
    obtain ⟨t1, t2⟩ := tw_name nt.1 (stp_glue (m := 58) (by decide) t.2 s0)
    rw [e] at hl ⊢
    unfold lwO
    rw [t1, t2, mkW_complete _ 58 t.2 [] (by decide) nt.2 s0 (by simp) (fun _ => by simp) (by simp [List.length_append])]
    dsimp only
    have hv : (mkS (TL.tl t.1) :: t.2).all isNm = true := by
      rw [List.all_eq_true]
      intro x hx
      rcases List.mem_cons.mp hx with rfl | hx
      · exact nt.1
      · exact nt.2 x hx
    rw [hv, if_pos rfl, if_pos rfl] <;> rfl
  | n + 1, t :: u :: ts, hn, _, hl => by
    have nt := hn t List.mem_cons_self
    have e : rdW (t :: u :: ts) = TL.tl t.1 ++ (glue [58, 32] t.2 ++ ([59, 32] ++ rdW (u :: ts))) := by rw [rdW_cons, rdT_glue, List.append_assoc]
    have s0 : Stp ([59, 32] ++ rdW (u :: ts)) := fun c l e => by
      have : 59 = c := by
        have := congrArg List.head? e
        simpa using this
      rw [← this]
      decide
    obtain ⟨t1, t2⟩ := tw_name nt.1 (stp_glue (m := 58) (by decide) t.2 s0)
    rw [e] at hl ⊢
    have ih := lwO_complete n (u :: ts) (fun x hx => hn x (List.mem_cons_of_mem _ hx)) (by simp) (by
      simp only [List.length_append, List.length_cons] at hl ⊢
      omega)
    unfold lwO
    rw [t1, t2, mkW_complete _ 58 t.2 ([59, 32] ++ rdW (u :: ts)) (by decide) nt.2 s0 (by simp) (fun _ => by simp) (by simp [List.length_append])]
    dsimp only
    have hv : (mkS (TL.tl t.1) :: t.2).all isNm = true := by
      rw [List.all_eq_true]
      intro x hx
      rcases List.mem_cons.mp hx with rfl | hx
      · exact nt.1
      · exact nt.2 x hx
    have e2 : ([59, 32] ++ rdW (u :: ts)).drop 2 = rdW (u :: ts) := rfl
    rw [hv, if_pos rfl, if_neg (by simp), if_pos (by rfl), e2, ih] <;> rfl
theorem rdT_ne {t : Tu} (h : NmT t) : rdT t ≠ [] := by
  rw [rdT_glue]
  exact fun e => isNm_ne h.1 (List.append_eq_nil_iff.mp e).1
theorem rdW_ne : ∀ {ts : List Tu}, (∀ t ∈ ts, NmT t) → ts ≠ [] → rdW ts ≠ []
  | [], _, h => absurd rfl h
  | [t], hn, _ => rdT_ne (hn t List.mem_cons_self)
  | t :: u :: ts, _, _ => by
    rw [rdW_cons]
    simp
/-- what it is to be read -/
def IsTx (z : Str) (ts : List Tu) : Prop := (∀ t ∈ ts, NmT t) ∧ TL.tl z = rdW ts
theorem parse_iff (z : Str) (ts : List Tu) : parse z = some ts ↔ IsTx z ts := by
  unfold parse
  by_cases h : TL.tl z = []
  · rw [if_pos h]
    constructor
    · intro e
      cases e
      exact And.intro (fun t ht => (List.not_mem_nil ht).elim) h
    · rintro ⟨h1, h2⟩
      cases ts with
      | nil => rfl
      | cons t ts => exact absurd (h2.symm.trans h) (rdW_ne h1 (by simp))
  · rw [if_neg h]
    constructor
    · intro e
      obtain ⟨a, b, c⟩ := lwO_sound _ _ _ e
      exact ⟨a, c⟩
    · rintro ⟨h1, h2⟩
      have hne : ts ≠ [] := fun e => h (by rw [h2, e] <;> rfl)
      rw [h2]
      exact lwO_complete _ ts h1 hne (by omega)
theorem parse_tx {ts : List Tu} (h : ∀ t ∈ ts, NmT t) : parse (txW ts) = some ts := (parse_iff _ _).mpr ⟨h, tl_txW ts⟩
/-! ### .. the program's way -/
theorem spl_ne (S : List Nat) : ∀ (l : List Nat) (k : Nat) (acc : List Nat), TL.spl S k acc l ≠ []
  | [], k, acc => by rw [TL.spl_nil]; simp
  | c :: r, k + 1, acc => spl_ne S r k acc
  | c :: r, 0, acc => by
    cases h : TL.pre S (c :: r) with
    | true => rw [TL.spl_hit h]; simp
    | false => rw [TL.spl_miss h]; exact spl_ne S r 0 _
theorem join_spl {S : List Nat} (hS : S ≠ []) : ∀ (n : Nat) (l acc : List Nat), l.length ≤ n → TL.joinL S (TL.spl S 0 acc l) = acc ++ l
  | n, [], acc, _ => by rw [TL.spl_nil, List.append_nil] <;> rfl
  | 0, c :: r, acc, h => by simp at h
  | n + 1, c :: r, acc, h => by
    have h : r.length ≤ n := Nat.le_of_succ_le_succ h
    cases hp : TL.pre S (c :: r) with
    | true =>
      rw [TL.spl_hit hp, TL.spl_pass]
      have ih := join_spl hS n (r.drop (S.length - 1)) [] (by rw [List.length_drop]; omega)
      have ne := spl_ne S (r.drop (S.length - 1)) 0 []
      cases hsp : TL.spl S 0 [] (r.drop (S.length - 1)) with
      | nil => exact absurd hsp ne
      | cons q qs =>
        rw [hsp] at ih
        show acc ++ (S ++ TL.joinL S (q :: qs)) = _
        rw [ih, List.nil_append]
        have e : (c :: r).take S.length = S := by
          unfold TL.pre at hp
          exact beq_iff_eq.mp hp
        have hl : 0 < S.length := List.length_pos_iff.mpr hS
        have e2 : r.drop (S.length - 1) = (c :: r).drop S.length := by
          obtain ⟨k, hk⟩ : ∃ k, S.length = k + 1 := ⟨S.length - 1, by omega⟩
          rw [hk] <;> rfl
        rw [e2]
        have e3 := List.take_append_drop S.length (c :: r)
        rw [e] at e3
        rw [e3]
    | false =>
      rw [TL.spl_miss hp, join_spl hS n r (acc ++ [c]) h, List.append_assoc] <;> rfl
theorem par_sound {S : List Nat} : ∀ (l acc a b : List Nat), TL.par S acc l = some (a, b) → acc ++ l = a ++ (S ++ b)
  | [], acc, a, b, h => by cases h
  | c :: r, acc, a, b, h => by
    cases hp : TL.pre S (c :: r) with
    | true =>
      rw [TL.par_hit hp] at h
      cases h
      have e : (c :: r).take S.length = S := by
        unfold TL.pre at hp
        exact beq_iff_eq.mp hp
      have e3 := List.take_append_drop S.length (c :: r)
      rw [e] at e3
      rw [e3]
    | false =>
      rw [TL.par_miss hp] at h
      have := par_sound r (acc ++ [c]) a b h
      rw [← this, List.append_assoc] <;> rfl
/-- a piece of the text as a tuple -/
def progT (p : Str) : Option Tu :=
  if (Txt.partition p (": " : Str)).2.1 = "" then (if isNm p then some (p, []) else none)
  else if isNm (Txt.partition p (": " : Str)).1 && (Txt.split (Txt.partition p (": " : Str)).2.2 (", " : Str)).all isNm then some ((Txt.partition p (": " : Str)).1, Txt.split (Txt.partition p (": " : Str)).2.2 (", " : Str)) else none
/-- all of them, or none -/
def allT : List Str → Option (List Tu)
  | [] => some []
  | p :: ps => match progT p with
    | none => none
    | some t => (allT ps).map (t :: ·)
def progW (z : Str) : Option (List Tu) := if z = "" then some [] else allT (Txt.split z ("; " : Str))
theorem split_tl (x : Str) {y : Str} {s : Nat} {S : List Nat} (ey : TL.tl y = s :: S) (hk : y.cps.all (· < 256) = true) : (Txt.split x y).map TL.tl = TL.spl (s :: S) 0 [] (TL.tl x) := by
  rw [TL.split_spl x y (by rw [ey]; simp) (TL.kind_ok hk), ey]
theorem split_back (x : Str) {y : Str} {s : Nat} {S : List Nat} (ey : TL.tl y = s :: S) (hk : y.cps.all (· < 256) = true) : TL.joinL (s :: S) ((Txt.split x y).map TL.tl) = TL.tl x := by
  rw [split_tl x ey hk, join_spl (by simp) _ _ _ (Nat.le_refl _), List.nil_append]
theorem split_ne (x : Str) {y : Str} {s : Nat} {S : List Nat} (ey : TL.tl y = s :: S) (hk : y.cps.all (· < 256) = true) : Txt.split x y ≠ [] := fun e => by
  have h := split_tl x ey hk
  rw [e] at h
  exact spl_ne _ _ _ _ h.symm
theorem k_comma : (", " : Str).cps.all (· < 256) = true := by decide +kernel
theorem k_semi : ("; " : Str).cps.all (· < 256) = true := by decide +kernel
theorem empty_tl {z : Str} : z = "" ↔ TL.tl z = [] := by
  constructor
  · intro h
    rw [h]
    decide +kernel
  · intro h
    exact TL.ext_tl (by rw [h]; decide +kernel)
theorem progT_sound {p : Str} {t : Tu} (h : progT p = some t) : NmT t ∧ TL.tl p = rdT t := by
  unfold progT at h
  rw [TL.partition_par p (": " : Str) (by rw [tl_colon]; simp), tl_colon] at h
  cases hp : TL.par [58, 32] [] (TL.tl p) with
  | none =>
    rw [hp] at h
    dsimp only at h
    rw [if_pos (show Str.empty = "" by decide +kernel)] at h
    split at h
    · rename_i hn
      cases h
      exact ⟨⟨hn, fun x hx => (List.not_mem_nil hx).elim⟩, rfl⟩
    · cases h
  | some ab =>
    obtain ⟨a, b⟩ := ab
    rw [hp] at h
    dsimp only at h
    rw [if_neg (show ¬ ((": " : Str) = "") by decide +kernel)] at h
    split at h
    · rename_i hv
      rw [Bool.and_eq_true] at hv
      cases h
      refine ⟨⟨hv.1, fun x hx => List.all_eq_true.mp hv.2 x hx⟩, ?_⟩
      have e := par_sound _ _ _ _ hp
      rw [List.nil_append] at e
      rw [e]
      unfold rdT
      rw [if_neg (split_ne _ tl_comma k_comma), split_back _ tl_comma k_comma] <;> rfl
    · cases h
theorem progT_complete {p : Str} {t : Tu} (hn : NmT t) (h : TL.tl p = rdT t) : progT p = some t := by
  obtain ⟨a, os⟩ := t
  have hn1 : isNm a = true := hn.1
  have f58 : (58 : Nat) ∉ TL.tl a := nm_free hn1 (by decide)
  by_cases ho : os = []
  · subst ho
    have e : p = a := TL.ext_tl (by rw [h]; unfold rdT; rw [if_pos rfl])
    subst e
    unfold progT
    rw [TL.partition_none tl_colon f58, if_pos (show Str.empty = ("" : Str) by decide +kernel), hn1] <;> rfl
  · have e : p = a ++ (": " : Str) ++ Txt.join (", " : Str) os := TL.ext_tl (by
      rw [h, TL.tl_append, TL.tl_append, tl_joinT, tl_colon, tl_comma, List.append_assoc]
      unfold rdT
      rw [if_neg (show ¬ ((a, os) : Tu).2 = [] from ho)])
    subst e
    have hall : os.all isNm = true := List.all_eq_true.mpr fun x hx => hn.2 x hx
    unfold progT
    rw [TL.partition_app tl_colon f58, if_neg (show ¬ (": " : Str) = ("" : Str) by decide +kernel)]
    have es : Txt.split (Txt.join (", " : Str) os) (", " : Str) = os := TL.split_join tl_comma k_comma ho fun x hx => nm_free (hn.2 x hx) (by decide)
    show (if isNm a && (Txt.split (Txt.join (", " : Str) os) (", " : Str)).all isNm then some (a, Txt.split (Txt.join (", " : Str) os) (", " : Str)) else none) = _
    rw [es, hn1, hall] <;> rfl
theorem allT_iff : ∀ (ps : List Str) (ts : List Tu), allT ps = some ts ↔ (∀ t ∈ ts, NmT t) ∧ ps.map TL.tl = ts.map rdT
  | [], ts => by
    unfold allT
    constructor
    · intro h
      cases h
      exact ⟨fun t ht => (List.not_mem_nil ht).elim, rfl⟩
    · rintro ⟨_, h⟩
      cases ts with
      | nil => rfl
      | cons t ts => cases h
  | p :: ps, ts => by
    unfold allT
    constructor
    · intro h
      cases hp : progT p with
      | none => rw [hp] at h; cases h
      | some t =>
        rw [hp] at h
        obtain ⟨us, hu, rfl⟩ := Option.map_eq_some_iff.mp h
        obtain ⟨i1, i2⟩ := (allT_iff ps us).mp hu
        obtain ⟨p1, p2⟩ := progT_sound hp
        refine ⟨fun x hx => ?_, by rw [List.map_cons, List.map_cons, p2, i2]⟩
        rcases List.mem_cons.mp hx with rfl | hx
        · exact p1
        · exact i1 x hx
    · rintro ⟨h1, h2⟩
      cases ts with
      | nil => cases h2
      | cons t us =>
        rw [List.map_cons, List.map_cons] at h2
        injection h2 with e1 e2
        rw [progT_complete (h1 t List.mem_cons_self) e1, (allT_iff ps us).mpr ⟨fun x hx => h1 x (List.mem_cons_of_mem _ hx), e2⟩] <;> rfl
theorem rdT_free {t : Tu} (h : NmT t) : (59 : Nat) ∉ rdT t := fun hm => by
  unfold rdT at hm
  split at hm
  · exact nm_free h.1 (by decide) hm
  · rcases List.mem_append.mp hm with hm | hm
    · exact nm_free h.1 (by decide) hm
    · rcases List.mem_append.mp hm with hm | hm
      · exact absurd hm (by decide)
      · rcases joinL_mem hm with hm | ⟨p, hp, hm⟩
        · exact absurd hm (by decide)
        · obtain ⟨x, hx, rfl⟩ := List.mem_map.mp hp
          exact nm_free (h.2 x hx) (by decide) hm
theorem progW_eq (z : Str) : progW z = parse z := by
  have key : ∀ ts, progW z = some ts ↔ IsTx z ts := fun ts => by
    unfold progW
    by_cases h : z = ""
    · rw [if_pos h]
      have h0 := empty_tl.mp h
      constructor
      · intro e
        cases e
        exact And.intro (fun t ht => (List.not_mem_nil ht).elim) h0
      · rintro ⟨h1, h2⟩
        cases ts with
        | nil => rfl
        | cons t ts => exact absurd (h2.symm.trans h0) (rdW_ne h1 (by simp))
    · rw [if_neg h, allT_iff, split_tl z tl_semi k_semi]
      constructor
      · rintro ⟨h1, h2⟩
        refine ⟨h1, ?_⟩
        have e := join_spl (S := [59, 32]) (by simp) _ (TL.tl z) [] (Nat.le_refl _)
        rw [h2, List.nil_append] at e
        exact e.symm
      · rintro ⟨h1, h2⟩
        refine ⟨h1, ?_⟩
        rw [h2]
        have hne : ts ≠ [] := fun e => h (empty_tl.mpr (by rw [h2, e] <;> rfl))
        refine TL.spl_join (fun e => hne (List.map_eq_nil_iff.mp e)) fun p hp => ?_
        obtain ⟨t, ht, rfl⟩ := List.mem_map.mp hp
        exact rdT_free (h1 t ht)
  cases hp : parse z with
  | some ts => exact (key ts).mpr ((parse_iff z ts).mp hp)
  | none =>
    cases hq : progW z with
    | none => rfl
    | some ts =>
      rw [(parse_iff z ts).mpr ((key ts).mp hq)] at hp
      cases hp
/-! ### sizes of what is read -/
theorem joinL_ge {S : List Nat} {c : Nat} (hc : c ∈ S) : ∀ ps : List (List Nat), ps.length ≤ (TL.joinL S ps).count c + 1
  | [] => Nat.zero_le _
  | [p] => by simp
  | p :: q :: r => by
    have ih := joinL_ge hc (q :: r)
    have h1 : 1 ≤ S.count c := List.count_pos_iff.mpr hc
    show _ ≤ (p ++ (S ++ TL.joinL S (q :: r))).count c + 1
    rw [List.count_append, List.count_append]
    simp only [List.length_cons] at ih ⊢
    omega
theorem joinL_part {S : List Nat} {c : Nat} : ∀ {ps : List (List Nat)} {p : List Nat}, p ∈ ps → p.count c ≤ (TL.joinL S ps).count c
  | [], _, h => (List.not_mem_nil h).elim
  | [q], p, h => by rw [List.mem_singleton.mp h] <;> exact Nat.le_refl _
  | q :: r :: s, p, h => by
    show _ ≤ (q ++ (S ++ TL.joinL S (r :: s))).count c
    rw [List.count_append, List.count_append]
    rcases List.mem_cons.mp h with rfl | h
    · omega
    · have := joinL_part (S := S) (c := c) h
      omega
/-- a text that the law may come to read -/
structure Small (z : Str) : Prop where
  len : z.length ≤ 1000
  semi : (TL.tl z).count 59 ≤ 20
  com : (TL.tl z).count 44 ≤ 58
  ok : okS z
theorem parse_sz {z : Str} {ts : List Tu} (h : parse z = some ts) (hs : Small z) : SzN 60 59 ts := by
  obtain ⟨h1, h2⟩ := (parse_iff z ts).mp h
  refine ⟨?_, fun t ht => ?_, h1⟩
  · have e := joinL_ge (S := [59, 32]) (c := 59) (by simp) (ts.map rdT)
    rw [List.length_map] at e
    have e2 : TL.joinL [59, 32] (ts.map rdT) = TL.tl z := h2.symm
    rw [e2] at e
    have := hs.semi
    omega
  · have e := joinL_part (S := [59, 32]) (c := 44) (List.mem_map_of_mem (f := rdT) ht)
    have e2 : TL.joinL [59, 32] (ts.map rdT) = TL.tl z := h2.symm
    rw [e2] at e
    have hc := hs.com
    by_cases ho : t.2 = []
    · rw [ho]
      exact Nat.zero_le _
    · unfold rdT at e
      rw [if_neg ho, List.count_append, List.count_append] at e
      have e3 := joinL_ge (S := [44, 32]) (c := 44) (by simp) (t.2.map TL.tl)
      rw [List.length_map] at e3
      omega
end Wt

-- WtLib2
set_option maxHeartbeats 1000000
namespace Wt
open PySem PySem.Spec PyProof.Rows L2 Evl
section
variable {K : PySem.W.Frag} {σ : L2.St} {H : Hp} {te : TE}
theorem ev_slS {tl th : TO} {z : Str} {lo hi : Option Int} (h : Ev te σ H (.str z)) (h1 : EvO tl σ H lo) (h2 : EvO th σ H hi) (hz : z.length ≤ 100000) : Ev (tSl rSlS te tl th) σ H (.str (cutS z lo hi)) := fun H1 e Q q =>
  h H1 e _ fun H2 e2 => h1 H2 (e.trans e2) _ fun H3 e3 => h2 H3 ((e.trans e2).trans e3) _ fun H4 e4 => ⟨z, rfl, sz_of hz, q H4 ((e2.trans e3).trans e4)⟩
def St1 (x : Str) : Pr := fun v _ => v = .str x
theorem all2_strs (H : Hp) : ∀ xs : List Str, All2 St1 xs (xs.map V.str) H := fun xs => ⟨List.length_map .., fun i x v hx hv => by
  rw [List.getElem?_map, hx] at hv
  cases hv
  rfl⟩
/-- values kept of what a list holds -/
theorem el_lcR {α : Type} {R : α → Pr} (mono : ∀ x v (H H' : Hp), Ex H H' → R x v H → R x v H') {a : Addr} {xs : List α} {vs : List V} {tl : TE} {gt : TG} {t : TT} {ws : List Nat} (hA : All2 R xs vs H) (f : α → Bool) (g : α → V) (h : Ev tl σ H (.ref a)) (hx : SqL K H a vs) (hz : xs.length ≤ 40000)
    (turn : ∀ x v H1, x ∈ xs → Ex H H1 → R x v H1 → ∀ Q' : L2.St → Hp → Prop, (∀ σ2, wipe σ2 ws = wipe σ ws → EvT t σ2 H1 (f x) → (f x = true → ∀ H2, Ex H1 H2 → Ev te σ2 H2 (g x)) → Q' σ2 H1) → gt v (wipe σ ws) H1 Q') :
    EvL (tLc (iList K tl) gt t te ws) σ H ((xs.filter f).map g) := fun H0 e Q q => h H0 e _ fun H1 e1 => ⟨a, rfl, ⟨vs, ex_l (e.trans e1) hx⟩, fun D hD => by
  have E01 := e.trans e1
  refine lc_list (xs := vs) (fun i H' => H1 D = none ∧ Ex H1 H' ∧ H' D = some (.lst (((xs.take i).filter f).map g))) ⟨hD, Ex.new hD, by rw [List.take_zero]; exact upd_same⟩ (fun i H' _ p => ex_l (E01.trans p.2.1) hx) (fun i v H' hi p => ?_) (fun H' p => ?_)
  · obtain ⟨p1, p2, p3⟩ := p
    obtain ⟨x, hx', r⟩ := hA.get hi
    have lt : i < xs.length := (List.getElem?_eq_some_iff.mp hx').1
    have acl : (((xs.take i).filter f).map g).length ≤ i := by
      rw [List.length_map]
      exact Nat.le_trans (List.length_filter_le ..) (by rw [List.length_take]; omega)
    have tk : (xs.take (i + 1)).filter f = (xs.take i).filter f ++ (if f x then [x] else []) := by
      rw [List.take_add_one, hx', List.filter_append]
      congr 1
      cases hf : f x <;> simp [hf]
    refine turn x v H' (List.mem_of_getElem? hx') (E01.trans p2) (mono x v H H' (E01.trans p2) r) _ fun σ2 hw ht he => ⟨hw, ht H' (Ex.refl H') _ fun H3 e3 => ?_⟩
    rw [tk]
    cases hf : f x with
    | false =>
      show H1 D = none ∧ _
      rw [if_neg (by simp), List.append_nil]
      exact ⟨p1, p2.trans e3, e3 D _ p3⟩
    | true =>
      show te σ2 H3 _
      refine he hf H3 e3 H3 (Ex.refl H3) _ fun H4 e4 => ⟨_, e4 D _ (e3 D _ p3), sz_lt (by omega), p1, Ex.mut ((p2.trans e3).trans e4) p1, ?_⟩
      rw [if_pos rfl, List.map_append]
      exact upd_same
  · obtain ⟨p1, p2, p3⟩ := p
    rw [hA.1, List.take_of_length_le (Nat.le_refl _)] at p3
    exact q D H' (fresh_back e1 p1) (e1.trans p2) p3⟩
theorem neD_L {xs ys : List Str} {p r : Addr} (hp : H p = some (.lst (xs.map V.str))) (hr : H r = some (.lst (ys.map V.str))) (h1 : ∀ x ∈ xs, okS x) (h2 : ∀ x ∈ ys, okS x) : RV (rNeD K) (.ref p) (.ref r) H (.bl (!decide (xs = ys))) := fun H1 e Q q =>
  neD_S (SqL.of (e p _ hp)) (SqL.of (e r _ hr)) h1 h2 (q H1 (Ex.refl H1))
theorem eqD_L {xs ys : List Str} {p r : Addr} (hp : H p = some (.lst (xs.map V.str))) (hr : H r = some (.lst (ys.map V.str))) (h1 : ∀ x ∈ xs, okS x) (h2 : ∀ x ∈ ys, okS x) : RV (rEqD K) (.ref p) (.ref r) H (.bl (decide (xs = ys))) := fun H1 e Q q =>
  eqD_S (SqL.of (e p _ hp)) (SqL.of (e r _ hr)) h1 h2 (q H1 (Ex.refl H1))
/-- the bare list against none -/
theorem ev_ne0 {xs : List Str} {ta : TE} (h : EvL ta σ H (xs.map V.str)) (h1 : ∀ x ∈ xs, okS x) : Ev (tOp (rNeD K) ta (tLst tNil)) σ H (.bl (!decide (xs = []))) :=
  ev_opLL h (el_lst ea_nil (Nat.zero_le _)) fun p r H1 hp hr _ => neD_L (ys := []) hp hr h1 (fun x hx => (List.not_mem_nil hx).elim)
theorem ev_ne0a {xs : List Str} {ta : TE} {a : Addr} (h : Ev ta σ H (.ref a)) (ha : H a = some (.lst (xs.map V.str))) (h1 : ∀ x ∈ xs, okS x) : Ev (tOp (rNeD K) ta (tLst tNil)) σ H (.bl (!decide (xs = []))) :=
  ev_opL h (el_lst ea_nil (Nat.zero_le _)) fun r H1 hr e => neD_L (ys := []) (e a _ ha) hr h1 (fun x hx => (List.not_mem_nil hx).elim)
/-- .. a list of tuples against none -/
theorem ev_ne0T {ts : List Tu} {ta : TE} {v : V} (h : Ev ta σ H v) (ht : Tws ts v H) (h1 : ∀ t ∈ ts, okT t) : Ev (tOp (rNeD K) ta (tLst tNil)) σ H (.bl (!decide (ts = []))) :=
  ev_opL h (el_lst ea_nil (Nat.zero_le _)) fun r H1 hr e => fun H2 e2 Q q => neD_Ts (us := []) ((ht.mono e).mono e2) ⟨r, [], rfl, e2 r _ hr, All2.nil⟩ h1 (fun x hx => (List.not_mem_nil hx).elim) (q H2 (Ex.refl H2))
end
end Wt

-- WtM3
set_option maxHeartbeats 1000000
namespace Wt
open PySem PySem.Spec PyProof.Rows L2 Evl
/-! ### sorted, each once -/
def ltS (a b : Str) : Prop := TL.tl a < TL.tl b
theorem ltS_irr (a : Str) : ¬ ltS a a := List.lt_irrefl _
theorem ltS_tr {a b c : Str} (h : ltS a b) (k : ltS b c) : ltS a c := List.lt_trans h k
theorem ltS_tri {a b : Str} (h : ¬ ltS a b) (k : ¬ ltS b a) : a = b := TL.ext_tl (List.le_antisymm (List.not_lt.mp k) (List.not_lt.mp h))
instance (a b : Str) : Decidable (ltS a b) := inferInstanceAs (Decidable (TL.tl a < TL.tl b))
theorem rising_pw : ∀ (l : List Str) (p : Str), risingS p l = true → (p :: l).Pairwise fun a b => ¬ ltS b a
  | [], p, _ => List.pairwise_singleton _ _
  | x :: l, p, h => by
    have h : (!ltCps x.cps.toList p.cps.toList && risingS x l) = true := h
    rw [Bool.and_eq_true] at h
    have h1 : ¬ ltS x p := by
      have := h.1
      rw [ltCps_eq] at this
      intro k
      rw [decide_eq_true (show x.cps.toList < p.cps.toList from k)] at this
      cases this
    have ih := rising_pw l x h.2
    refine List.pairwise_cons.mpr ⟨fun y hy => ?_, ih⟩
    rcases List.mem_cons.mp hy with rfl | hy
    · exact h1
    · have h2 := (List.pairwise_cons.mp ih).1 y hy
      intro k
      -- y < p, p ≤ x, x ≤ y
      by_cases e : ltS p x
      · exact h2 (ltS_tr k e)
      · have : p = x := ltS_tri e h1
        rw [this] at k
        exact h2 k
theorem sorted_pw {l : List Str} (h : sortedS l = true) : l.Pairwise fun a b => ¬ ltS b a := by
  cases l with
  | nil => exact List.Pairwise.nil
  | cons p l => exact rising_pw l p h
theorem sorted_uniq {a b : List Str} (ha : sortedS a = true) (hb : sortedS b = true) (pm : a.Perm b) : a = b :=
  List.Perm.eq_of_pairwise (le := fun a b => ¬ ltS b a) (fun x y _ _ h k => ltS_tri k h) (sorted_pw ha) (sorted_pw hb) pm
def insS (x : Str) : List Str → List Str
  | [] => [x]
  | y :: ys => if x = y then y :: ys else if ltS x y then x :: y :: ys else y :: insS x ys
def sset (xs : List Str) : List Str := xs.foldr insS []
theorem mem_ins (x y : Str) : ∀ l : List Str, y ∈ insS x l ↔ y = x ∨ y ∈ l
  | [] => by simp [insS]
  | z :: l => by
    unfold insS
    split
    · rename_i h
      rw [h]
      simp
    · split
      · simp
      · rw [List.mem_cons, mem_ins x y l, List.mem_cons]
        constructor
        · rintro (h | h | h)
          · exact .inr (.inl h)
          · exact .inl h
          · exact .inr (.inr h)
        · rintro (h | h | h)
          · exact .inr (.inl h)
          · exact .inl h
          · exact .inr (.inr h)
theorem mem_sset (y : Str) : ∀ xs : List Str, y ∈ sset xs ↔ y ∈ xs
  | [] => Iff.rfl
  | x :: xs => by
    show y ∈ insS x (sset xs) ↔ _
    rw [mem_ins, mem_sset y xs, List.mem_cons]
theorem ins_pw (x : Str) : ∀ l : List Str, l.Pairwise ltS → (insS x l).Pairwise ltS
  | [], _ => List.pairwise_singleton _ _
  | z :: l, h => by
    have h' := List.pairwise_cons.mp h
    unfold insS
    split
    · exact h
    · rename_i n1
      split
      · rename_i n2
        refine List.pairwise_cons.mpr ⟨fun y hy => ?_, h⟩
        rcases List.mem_cons.mp hy with rfl | hy
        · exact n2
        · exact ltS_tr n2 (h'.1 y hy)
      · rename_i n2
        refine List.pairwise_cons.mpr ⟨fun y hy => ?_, ins_pw x l h'.2⟩
        rcases (mem_ins x y l).mp hy with rfl | hy
        · by_cases e : ltS z y
          · exact e
          · exact absurd (ltS_tri n2 e) n1
        · exact h'.1 y hy
theorem sset_pw : ∀ xs : List Str, (sset xs).Pairwise ltS
  | [] => List.Pairwise.nil
  | x :: xs => ins_pw x _ (sset_pw xs)
theorem pw_nd {l : List Str} (h : l.Pairwise ltS) : l.Nodup := h.imp fun h e => by rw [e] at h; exact ltS_irr _ h
theorem is_sset {xs ys : List Str} (hs : sortedS ys = true) (hn : ys.Nodup) (hm : ∀ k, k ∈ ys ↔ k ∈ xs) : ys = sset xs := by
  have pm : ys.Perm (sset xs) := (List.perm_ext_iff_of_nodup hn (pw_nd (sset_pw xs))).mpr fun k => by rw [hm k, mem_sset]
  refine List.Perm.eq_of_pairwise (le := fun a b => ¬ ltS b a) (fun x y _ _ h k => ltS_tri k h) (sorted_pw hs) ((sset_pw xs).imp fun h k => ltS_irr _ (ltS_tr h k)) pm
/-- sorted(set(xs)), and sorted(xs) where each stands once -/
theorem is_sset_p {xs ys ks : List Str} (hs : sortedS ys = true) (pm : ys.Perm ks) (hn : ks.Nodup) (hm : ∀ k, k ∈ ks ↔ k ∈ xs) : ys = sset xs := is_sset hs (pm.nodup_iff.mpr hn) fun k => by rw [pm.mem_iff, hm]
theorem is_sset_n {xs ys : List Str} (hs : sortedS ys = true) (pm : ys.Perm xs) (hn : xs.Nodup) : ys = sset xs := is_sset_p hs pm hn fun _ => Iff.rfl
theorem sset_len (xs : List Str) : (sset xs).length ≤ xs.length := (pw_nd (sset_pw xs)).length_le_of_subset fun k hk => (mem_sset k xs).mp hk
theorem sset_eq {xs ys : List Str} (h : ∀ k, k ∈ xs ↔ k ∈ ys) : sset xs = sset ys := by
  have pm : (sset xs).Perm (sset ys) := (List.perm_ext_iff_of_nodup (pw_nd (sset_pw xs)) (pw_nd (sset_pw ys))).mpr fun k => by rw [mem_sset, mem_sset, h]
  exact List.Perm.eq_of_pairwise (le := fun a b => ¬ ltS b a) (fun x y _ _ h k => ltS_tri k h) ((sset_pw xs).imp fun h k => ltS_irr _ (ltS_tr h k)) ((sset_pw ys).imp fun h k => ltS_irr _ (ltS_tr h k)) pm
theorem nd_of_len : ∀ {xs ks : List Str}, ks.Nodup → (∀ k, k ∈ ks ↔ k ∈ xs) → ks.length = xs.length → xs.Nodup
  | [], _, _, _, _ => List.Pairwise.nil
  | x :: xs, ks, hn, hm, e => by
    by_cases hx : x ∈ xs
    · exfalso
      have s : ∀ k, k ∈ ks → k ∈ xs := fun k hk => by
        rcases List.mem_cons.mp ((hm k).mp hk) with rfl | h
        · exact hx
        · exact h
      have := hn.length_le_of_subset s
      rw [List.length_cons] at e
      omega
    · refine List.nodup_cons.mpr ⟨hx, ?_⟩
      have hxk : x ∈ ks := (hm x).mpr List.mem_cons_self
      refine nd_of_len (ks := ks.erase x) (hn.erase x) (fun k => ?_) ?_
      · rw [hn.mem_erase_iff, hm k, List.mem_cons]
        constructor
        · rintro ⟨n, rfl | h⟩
          · exact absurd rfl n
          · exact h
        · intro h
          exact ⟨fun z => hx (z ▸ h), .inr h⟩
      · rw [List.length_erase_of_mem hxk]
        rw [List.length_cons] at e
        omega
/-- fewer by number: one stands twice -/
theorem nd_iff {xs ks : List Str} (hn : ks.Nodup) (hm : ∀ k, k ∈ ks ↔ k ∈ xs) : (ks.length < xs.length) ↔ ¬ xs.Nodup := by
  constructor
  · intro h n
    have := ((List.perm_ext_iff_of_nodup hn n).mpr hm).length_eq
    omega
  · intro h
    have h1 := hn.length_le_of_subset (fun k hk => (hm k).mp hk)
    rcases Nat.lt_or_ge ks.length xs.length with l | g
    · exact l
    · exact absurd (nd_of_len hn hm (by omega)) h
/-! ### rings -/
abbrev nms (ts : List Tu) : List Str := ts.map (·.1)
def stepT (L : List Tu) : List Tu := L.filter fun t => t.2.any fun x => decide (x ∈ nms L)
def stepN : Nat → List Tu → List Tu
  | 0, L => L
  | n + 1, L => stepN n (stepT L)
def Clo (ts : List Tu) (C : List Str) : Prop := ∀ n ∈ C, ∃ t ∈ ts, t.1 = n ∧ ∃ x ∈ t.2, x ∈ C
def Rings (ts : List Tu) : Prop := ∃ C : List Str, C ≠ [] ∧ Clo ts C
theorem stepT_sub (L : List Tu) : (stepT L).Sublist L := List.filter_sublist
theorem stepN_succ : ∀ (n : Nat) (L : List Tu), stepN (n + 1) L = stepT (stepN n L)
  | 0, _ => rfl
  | n + 1, L => stepN_succ n (stepT L)
theorem stepN_sub : ∀ (n : Nat) (L : List Tu), (stepN n L).Sublist L
  | 0, L => List.Sublist.refl _
  | n + 1, L => (stepN_sub n (stepT L)).trans (stepT_sub L)
/-- what is closed is kept -/
theorem clo_step {L : List Tu} {C : List Str} (hn : (nms L).Nodup) (h : Clo L C) : Clo (stepT L) C := fun n hn' => by
  obtain ⟨t, ht, e, x, hx, hc⟩ := h n hn'
  refine ⟨t, List.mem_filter.mpr ⟨ht, List.any_eq_true.mpr ⟨x, hx, decide_eq_true ?_⟩⟩, e, x, hx, hc⟩
  obtain ⟨u, hu, e2, _⟩ := h x hc
  rw [← e2]
  exact List.mem_map_of_mem hu
theorem clo_stepN : ∀ (n : Nat) {L : List Tu} {C : List Str}, (nms L).Nodup → Clo L C → Clo (stepN n L) C
  | 0, _, _, _, h => h
  | n + 1, L, C, hn, h => clo_stepN n (hn.sublist ((stepT_sub L).map _)) (clo_step hn h)
/-- a round at rest is closed -/
theorem clo_rest {L : List Tu} (h : stepT L = L) : Clo L (nms L) := fun n hn => by
  obtain ⟨t, ht, rfl⟩ := List.mem_map.mp hn
  rw [← h] at ht
  obtain ⟨ht, ha⟩ := List.mem_filter.mp ht
  obtain ⟨x, hx, hd⟩ := List.any_eq_true.mp ha
  exact ⟨t, ht, rfl, x, hx, of_decide_eq_true hd⟩
theorem clo_sub {L ts : List Tu} {C : List Str} (h : Clo L C) (s : ∀ t ∈ L, t ∈ ts) : Clo ts C := fun n hn => by
  obtain ⟨t, ht, r⟩ := h n hn
  exact ⟨t, s t ht, r⟩
theorem step_rest : ∀ (n : Nat) (L : List Tu), L.length ≤ n → stepT (stepN n L) = stepN n L
  | 0, L, h => by
    have : L = [] := List.length_eq_zero_iff.mp (by omega)
    rw [this] <;> rfl
  | n + 1, L, h => by
    by_cases e : stepT L = L
    · have : ∀ k, stepN k L = L := fun k => by
        induction k with
        | zero => rfl
        | succ k ih =>
          show stepN k (stepT L) = L
          rw [e, ih]
      rw [this, e]
    · have hl : (stepT L).length < L.length := by
        have h1 := (stepT_sub L).length_le
        rcases Nat.lt_or_ge (stepT L).length L.length with l | g
        · exact l
        · exact absurd ((stepT_sub L).eq_of_length (by omega)) e
      exact step_rest n (stepT L) (by omega)
theorem rings_iff {ts : List Tu} (hn : (nms ts).Nodup) : stepN ts.length ts ≠ [] ↔ Rings ts := by
  constructor
  · intro h
    have r := step_rest ts.length ts (Nat.le_refl _)
    exact ⟨nms (stepN ts.length ts), fun e => h (List.map_eq_nil_iff.mp e), clo_sub (clo_rest r) fun t ht => (stepN_sub _ _).mem ht⟩
  · rintro ⟨C, hc, h⟩ e
    have k := clo_stepN ts.length hn h
    rw [e] at k
    cases C with
    | nil => exact hc rfl
    | cons c C =>
      obtain ⟨t, ht, _⟩ := k c List.mem_cons_self
      exact (List.not_mem_nil ht).elim
/-! ### what is due -/
def badK (ts : List Tu) : Bool := ts.any fun t => t.2.any fun x => !decide (x ∈ nms ts)
def verdict (ts : List Tu) : Res :=
  if ¬ (nms ts).Nodup then .no "taken" else if badK ts = true then .no "kind" else if stepN ts.length ts ≠ [] then .no "ring" else .told (ts.map fun t => (t.1, sset t.2))
def due (z : Str) : Res := match parse z with
  | none => .no "text"
  | some ts => verdict ts
theorem sset_nm {xs : List Str} (h : ∀ x ∈ xs, isNm x = true) : ∀ x ∈ sset xs, isNm x = true := fun x hx => h x ((mem_sset x xs).mp hx)
theorem verdict_ok {ts : List Tu} (h : ∀ t ∈ ts, NmT t) : okR (verdict ts) := by
  unfold verdict
  split
  · exact okS_lit (by decide +kernel)
  · split
    · exact okS_lit (by decide +kernel)
    · split
      · exact okS_lit (by decide +kernel)
      · intro t ht
        obtain ⟨u, hu, rfl⟩ := List.mem_map.mp ht
        exact ⟨isNm_ok (h u hu).1, fun x hx => isNm_ok (sset_nm (h u hu).2 x hx)⟩
theorem due_ok (z : Str) : okR (due z) := by
  unfold due
  cases hp : parse z with
  | none => exact okS_lit (by decide +kernel)
  | some ts => exact verdict_ok ((parse_iff z ts).mp hp).1
end Wt

-- WtD4
set_option maxHeartbeats 1000000
namespace Wt
open PySem PySem.Spec PyProof.Rows L2 Evl
def sp_tuples_of : Sp := fun vs H Q _ => ∃ z : Str, vs = [.str z] ∧ Small z ∧ (parse z = none → ∀ H', Ex H H' → Q .non H') ∧ ∀ ts v H', parse z = some ts → Ex H H' → Tws ts v H' → Q v H'
section
variable {P : Program} {w : World} {K : PySem.W.Frag} {mg : Str → Option Value} {base : Heap}
theorem nat2 (a : Nat) : ((a : Int) + 2) = ((a + 2 : Nat) : Int) := by omega
theorem ok_tuples_of {f : Addr} {fd : FuncData} (T : Txt K mg) (C_word_at : Fok P w K mg base CX0 1 (He.ga K "_law_word_at") P__law_word_at sp_word_at) (C_lnm : Fok P w K mg base CX0 1 (He.ga K "_law_is_name") P__law_is_name sp_lnm)
    (F : Fd K d__law_tuples_of f fd) : FnOk P w K mg base CX0 2 f fd P__law_tuples_of sp_tuples_of := by
  obtain ⟨fd_word_at, G_word_at, b_word_at⟩ := C_word_at.ex
  obtain ⟨fd_lnm, G_lnm, b_lnm⟩ := C_lnm.ex
  refine FunD.ok F sc__law_tuples_of (fun vs H Q E h => ?_) (fun cdv A outer s H vs Q E hr h => ?_)
  · obtain ⟨z, rfl, _⟩ := h
    rfl
  · obtain ⟨z, rfl, hS, qn, qs⟩ := h
    have hru := hr.units
    refine ⟨_, PSs.nox (pss_cons (ps_set (i := 1) sc__law_tuples_of.nd rfl (Or.inl rfl) (pe_lst pa_nil))
  (pss_cons (ps_set (i := 2) sc__law_tuples_of.nd rfl (Or.inl rfl) pe_int)
  (pss_cons (ps_while PassesOwn.never (PW.pt (pw_or (pt_cmpR op_lt (pv 2) (pe_callB call_len (by rfl) T.f_len (by decide +kernel) (pa_cons (pv 0) pa_nil)) (nomark _)) (pw_or1 (PW.pt (pw_and (pt_cmpR (op_neD hru) (pv 1) (pe_lst pa_nil) (nomark _)) (pw_and1 (pt_cmpR op_eq (pv 2) (pe_callB call_len (by rfl) T.f_len (by decide +kernel) (pa_cons (pv 0) pa_nil)) (nomark _))))))))
    (pss_cons (ps_asg (pe_call G_word_at (hr.mono (by decide)) rfl (T.gl _ (by decide +kernel)) C_word_at.kp b_word_at .nil pass0 (pa_cons (pv 0) (pa_cons (pv 2) pa_nil))) (pg_tup rfl (pgs_cons (pg_name (i := 3) sc__law_tuples_of.nd rfl (Or.inl rfl)) (pgs_cons (pg_name (i := 2) sc__law_tuples_of.nd rfl (Or.inl rfl)) pgs_nil))))
    (pss_cons (ps_set (i := 4) sc__law_tuples_of.nd rfl (Or.inl rfl) (pe_lst (pa_cons (pv 3) pa_nil)))
    (pss_cons (ps_set (i := 5) sc__law_tuples_of.nd rfl (Or.inl rfl) pe_str)
    (pss_cut (ps_while PassesOwn.never (pt_cmpR op_eq (pe_slice sl_str (pv 0) (po_some (pv 2)) (po_some (pe_op op_add (pv 2) pe_int))) (pv 5) (nomark _))
      (pss_cons (ps_asg (pe_call G_word_at (hr.mono (by decide)) rfl (T.gl _ (by decide +kernel)) C_word_at.kp b_word_at .nil pass0 (pa_cons (pv 0) (pa_cons (pe_op op_add (pv 2) pe_int) pa_nil))) (pg_tup rfl (pgs_cons (pg_name (i := 6) sc__law_tuples_of.nd rfl (Or.inl rfl)) (pgs_cons (pg_name (i := 2) sc__law_tuples_of.nd rfl (Or.inl rfl)) pgs_nil))))
      (pss_cons (ps_expr (pe_bm PySem.F.plainAttrs_list PySem.F.slot_list_append PySem.F.type_list_append mt_append (pv 4) (pa_cons (pv 6) pa_nil)))
      (pss_one (ps_set (i := 5) sc__law_tuples_of.nd rfl (Or.inl rfl) pe_str)))))
    (pss_cons (ps_if (pt_cmpR (op_neD hru) (pe_lc (own := [("_law_word", 6)]) (g := gName 6) rfl sc__law_tuples_of.nd (pi_list (pv 4)) (blkOk_by (own := [("_law_word", 6)]) (N := N__law_tuples_of) (sc := (defScope s__law_tuples_of)) (by decide +kernel))
    (fun _ _ _ _ _ => (pg_name (i := 6) sc__law_tuples_of.nd rfl (Or.inl rfl))) (fun _ _ _ _ _ => (pts_one (pt_not (pt_val (pe_call G_lnm (hr.mono (by decide)) rfl (T.gl _ (by decide +kernel)) C_lnm.kp b_lnm .nil pass0 (pa_cons (pv 6) pa_nil))))))
    (fun _ _ _ _ _ => (pv 6))) (pe_lst pa_nil) (nomark _)) (pss_one (ps_ret pe_non)) pss_nil)
    (pss_cons (ps_expr (pe_bm PySem.F.plainAttrs_list PySem.F.slot_list_append PySem.F.type_list_append mt_append (pv 1) (pa_cons (pe_tup (pa_cons (pv 3) (pa_cons (pe_slice sl_list (pv 4) (po_some pe_int) po_none) pa_nil))) pa_nil)))
    (pss_cons (ps_if (pt_cmpR op_eq (pv 2) (pe_callB call_len (by rfl) T.f_len (by decide +kernel) (pa_cons (pv 0) pa_nil)) (nomark _)) (pss_one (ps_ret (pv 1))) pss_nil)
    (pss_cons (ps_if (pt_cmpR op_ne (pe_slice sl_str (pv 0) (po_some (pv 2)) (po_some (pe_op op_add (pv 2) pe_int))) pe_str (nomark _)) (pss_one (ps_ret pe_non)) pss_nil)
    (pss_one (ps_set (i := 2) sc__law_tuples_of.nd rfl (Or.inl rfl) (pe_op op_add (pv 2) pe_int))))))))))))
  (pss_one (ps_ret (pv 1)))))), ?_⟩
    have hz : z.length ≤ 1000 := hS.len
    have lenT : z.length = (TL.tl z).length := TL.len_tl z
    have okw : ∀ l : List Nat, (∀ c ∈ l, c ∈ TL.tl z) → okS (mkS l) := fun l h c hc => hS.ok c (h c hc)
    refine ⟨sz0, fun F0 hF => ?_⟩
    refine q_while (fun m σ' H' => ∃ (at_ : Nat) (fs : List Tu) (vs : List V) (x3 x4 x5 x6 : Option V), σ' = [some (.str z), some (.ref F0), some (.int at_), x3, x4, x5, x6] ∧ Ex H H' ∧ H' F0 = some (.lst vs) ∧ All2 (TwX [F0]) fs vs H' ∧ at_ ≤ z.length ∧ m = z.length - at_ ∧
      (∀ t ∈ fs, NmT t) ∧ fs.length ≤ at_ ∧ ((fs = [] ∧ at_ = 0) ∨ (fs ≠ [] ∧ ∃ n, ((TL.tl z).drop at_).length < n ∧ parse z = (lwO n ((TL.tl z).drop at_)).map (fs ++ ·)))) _ ⟨0, [], [], none, none, none, none, rfl, Ex.new hF, upd_same, All2.nil, Nat.zero_le _, rfl, fun t ht => (List.not_mem_nil ht).elim, Nat.zero_le _, .inl ⟨rfl, rfl⟩⟩ ?_
    rintro m σ' H' ⟨at_, fs, vs, x3, x4, x5, x6, rfl, e1, hFv, hA, hat, rfl, hnm, hfl, hst⟩
    have hA' : Tws fs (.ref F0) H' := ⟨F0, vs, rfl, hFv, hA.imp fun _ _ k => k.tw⟩
    refine ⟨_, et_or (et_test (ev_op (ev_var rfl) (ev_cb1 (ev_var rfl) (rc_lenS (by omega))) rv_I0)) (fun _ => et_and (et_test (ev_ne0T (K := K) (ev_var rfl) hA' fun t ht => (hnm t ht).ok)) fun _ => et_test (ev_op (ev_var rfl) (ev_cb1 (ev_var rfl) (rc_lenS (by omega))) (rv_eq rfl))), fun hb H1 e2 => ?_, fun hb H1 e2 => ?_⟩
    · -- one more tuple
      have hgo : ∃ n, ((TL.tl z).drop at_).length < n + 1 ∧ parse z = (lwO (n + 1) ((TL.tl z).drop at_)).map (fs ++ ·) := by
        rcases hst with ⟨rfl, rfl⟩ | ⟨_, n, hn, hp⟩
        · have ne : TL.tl z ≠ [] := fun e => by
            rw [lenT, e] at hb
            simp at hb
          refine ⟨(TL.tl z).length, by rw [List.drop_zero]; omega, ?_⟩
          rw [List.drop_zero]
          unfold parse
          rw [if_neg ne]
          simp
        · cases n with
          | zero => omega
          | succ n => exact ⟨n, hn, hp⟩
      obtain ⟨n, hn, hp⟩ := hgo
      have hn0 : H1 F0 = some (.lst vs) := e2 F0 _ hFv
      refine ⟨fun σ2 H2 => ∃ m', m' < z.length - at_ ∧ ∃ (at_ : Nat) (fs : List Tu) (vs : List V) (x3 x4 x5 x6 : Option V), σ2 = [some (.str z), some (.ref F0), some (.int at_), x3, x4, x5, x6] ∧ Ex H H2 ∧ H2 F0 = some (.lst vs) ∧ All2 (TwX [F0]) fs vs H2 ∧ at_ ≤ z.length ∧ m' = z.length - at_ ∧
        (∀ t ∈ fs, NmT t) ∧ fs.length ≤ at_ ∧ ((fs = [] ∧ at_ = 0) ∨ (fs ≠ [] ∧ ∃ n, ((TL.tl z).drop at_).length < n ∧ parse z = (lwO n ((TL.tl z).drop at_)).map (fs ++ ·))), fun σ2 H2 h => h, ?_⟩
      generalize hl : (TL.tl z).drop at_ = l at hn hp
      have hll : l.length = z.length - at_ := by rw [← hl, List.length_drop, lenT]
      refine ⟨_, rfl, _, rfl, z, at_, rfl, by omega, hat, fun y e p H2 hy he hp0 e3 h2 => ?_⟩
      rw [hl] at hy he
      refine ⟨p, _, rfl, SqT.of h2, rfl, _, _, rfl, _, _, rfl, rfl, ?_⟩
      have hdw : (TL.tl z).drop e = l.dropWhile nmk := by
        rw [he, ← List.drop_drop, hl]
        have := List.takeWhile_append_dropWhile (p := nmk) (l := l)
        calc l.drop (l.takeWhile nmk).length = (l.takeWhile nmk ++ l.dropWhile nmk).drop (l.takeWhile nmk).length := by rw [this]
          _ = _ := List.drop_left
      have hle : e ≤ z.length := by
        have := (List.takeWhile_sublist (l := l) nmk).length_le
        omega
      have hyk : y = mkS (l.takeWhile nmk) := mkS_of hy
      have e13 : Ex H' H2 := e2.trans e3
      refine ⟨_, rfl, sz1, fun W hW => ?_⟩
      have eW : Ex H' (upd H2 W (.lst [.str y])) := e13.trans (Ex.new hW)
      have hFW : F0 ≠ W := ne_of_none (e13 F0 _ hFv) hW
      generalize hR : mkW l.length [58, 32] (l.dropWhile nmk) = R
      obtain ⟨wsR, rR⟩ := R
      have lsub : ∀ c ∈ l, c ∈ TL.tl z := fun c hc => by rw [← hl] at hc; exact List.drop_subset _ _ hc
      -- the marked words
      refine q_cut (M := fun σ2 H2' => ∃ (at2 : Nat) (x5 x6 : Option V), σ2 = [some (.str z), some (.ref F0), some (.int at2), some (.str y), some (.ref W), x5, x6] ∧ Ex H' H2' ∧ H2' W = some (.lst ((y :: wsR).map V.str)) ∧ (TL.tl z).drop at2 = rR ∧ at2 ≤ z.length ∧ at_ ≤ at2 ∧
        (∀ x ∈ wsR, okS x ∧ x.length ≤ 1000) ∧ wsR.length ≤ at2) ?_ ?_
      · refine s_while (fun m σ2 H2' => ∃ (at2 n2 : Nat) (ws : List Str) (mk : Str) (mL : List Nat) (x6 : Option V), σ2 = [some (.str z), some (.ref F0), some (.int at2), some (.str y), some (.ref W), some (.str mk), x6] ∧ Ex H' H2' ∧ H2' W = some (.lst ((y :: ws).map V.str)) ∧ at2 ≤ z.length ∧ at_ ≤ at2 ∧ m = z.length - at2 ∧
          TL.tl mk = mL ∧ mL.length = 2 ∧ ((TL.tl z).drop at2).length ≤ n2 ∧ wsR = ws ++ (mkW n2 mL ((TL.tl z).drop at2)).1 ∧ rR = (mkW n2 mL ((TL.tl z).drop at2)).2 ∧ (∀ x ∈ ws, okS x ∧ x.length ≤ 1000) ∧ ws.length ≤ at2) _
          ⟨e, l.length, [], (": " : Str), [58, 32], x6, rfl, eW, upd_same, hle, by omega, rfl, tl_colon, rfl, by rw [List.length_drop, hll, ← lenT]; omega, by rw [hdw, hR, List.nil_append], by rw [hdw, hR], fun x hx => (List.not_mem_nil hx).elim, Nat.zero_le _⟩ ?_
        rintro m σ2 H3 ⟨at2, n2, ws, mk, mL, x6, rfl, e4, hWv, hat2, hge, rfl, rfl, hm2, hn2, hw1, hw2, hok, hwl⟩
        have hc : TL.tl (cutS z (some (at2 : Int)) (some ((at2 : Int) + 2))) = ((TL.tl z).drop at2).take 2 := by
          rw [nat2, tl_cut]
          congr 1
          omega
        refine ⟨_, et_test (ev_op (ev_slS (ev_var rfl) (eo_some (ev_var rfl)) (eo_some (ev_op (ev_var rfl) ev_c rv_I0)) (by omega)) (ev_var rfl) (rv_eq rfl)), fun hb2 H4 e5 => ?_, fun hb2 H4 e5 => ?_⟩
        · have hb2 := of_decide_eq_true hb2
          have hb2 := congrArg TL.tl (V.str.inj hb2)
          rw [hc] at hb2
          generalize hl2 : (TL.tl z).drop at2 = l2 at hn2 hw1 hw2 hb2
          have hlen2 : l2.length = z.length - at2 := by rw [← hl2, List.length_drop, lenT]
          have h2le : 2 ≤ l2.length := by
            have := congrArg List.length hb2
            rw [List.length_take, hm2] at this
            omega
          refine ⟨_, fun σ5 H5 h => h, ?_⟩
          refine ⟨_, rfl, _, rfl, _, _, rfl, rfl, z, at2 + 2, by rw [← nat2] <;> rfl, by omega, by omega, fun y6 e6 p6 H5 hy6 he6 hp6 e7 h6 => ?_⟩
          have hd2 : (TL.tl z).drop (at2 + 2) = l2.drop 2 := by rw [← hl2, List.drop_drop]
          rw [hd2] at hy6 he6
          refine ⟨p6, _, rfl, SqT.of h6, rfl, _, _, rfl, _, _, rfl, rfl, ?_⟩
          have e45 : Ex H3 H5 := e5.trans e7
          have hW5 : H5 W = some (.lst ((y :: ws).map V.str)) := e45 W _ hWv
          refine ⟨_, rfl, .inl ⟨rfl, _, SqL.of hW5⟩, _, rfl, W, _, _, rfl, rfl, hW5, sz_lt ?_, ?_⟩
          · rw [List.length_map, List.length_cons]
            omega
          have hW0 : H' W = none := by
            cases hh : H' W with
            | none => rfl
            | some o => rw [e13 W o hh] at hW; cases hW
          have hdw6 : (TL.tl z).drop e6 = (l2.drop 2).dropWhile nmk := by
            rw [he6, ← List.drop_drop, hd2]
            have := List.takeWhile_append_dropWhile (p := nmk) (l := l2.drop 2)
            calc (l2.drop 2).drop ((l2.drop 2).takeWhile nmk).length = ((l2.drop 2).takeWhile nmk ++ (l2.drop 2).dropWhile nmk).drop ((l2.drop 2).takeWhile nmk).length := by rw [this]
              _ = _ := List.drop_left
          have tl6 := (List.takeWhile_sublist (l := l2.drop 2) nmk).length_le
          rw [List.length_drop] at tl6
          obtain ⟨k, rfl⟩ : ∃ k, n2 = k + 1 := ⟨n2 - 1, by omega⟩
          have hmk : mkW (k + 1) (TL.tl mk) l2 = (mkS ((l2.drop 2).takeWhile nmk) :: (mkW k [44, 32] ((l2.drop 2).dropWhile nmk)).1, (mkW k [44, 32] ((l2.drop 2).dropWhile nmk)).2) := by
            show (if l2.take 2 = TL.tl mk then _ else _) = _
            rw [if_pos hb2]
          rw [hmk] at hw1 hw2
          have hy6k : y6 = mkS ((l2.drop 2).takeWhile nmk) := mkS_of hy6
          refine ⟨z.length - e6, by omega, e6, k, ws ++ [y6], (", " : Str), [44, 32], some (.str y6), rfl, (e4.trans e45).mut hW0, ?_, by omega, by omega, rfl, tl_comma, rfl, ?_, ?_, ?_, ?_, ?_⟩
          · rw [upd_same]
            simp
          · rw [List.length_drop, ← lenT]
            omega
          · rw [hdw6, hw1, hy6k]
            simp
          · rw [hdw6, hw2]
          · intro x hx
            rcases List.mem_append.mp hx with hx | hx
            · exact hok x hx
            · rw [List.mem_singleton.mp hx]
              refine ⟨fun c hc => hS.ok c ?_, ?_⟩
              · rw [hy6] at hc
                have := List.takeWhile_subset _ hc
                have := List.drop_subset _ _ this
                rw [← hl2] at this
                exact List.drop_subset _ _ this
              · rw [TL.len_tl, hy6]
                omega
          · rw [List.length_append, List.length_singleton]
            omega
        · have hb2 := of_decide_eq_false hb2
          have hne : ((TL.tl z).drop at2).take 2 ≠ TL.tl mk := fun e => hb2 (congrArg V.str (TL.ext_tl (by rw [hc]; exact e)))
          have hmk : mkW n2 (TL.tl mk) ((TL.tl z).drop at2) = ([], (TL.tl z).drop at2) := by
            cases n2 with
            | zero => rfl
            | succ k =>
              show (if ((TL.tl z).drop at2).take 2 = TL.tl mk then _ else _) = _
              rw [if_neg hne]
          rw [hmk, List.append_nil] at hw1
          rw [hmk] at hw2
          dsimp only at hw1 hw2
          subst hw1
          exact ⟨at2, _, x6, rfl, e4.trans e5, e5 W _ hWv, hw2.symm, hat2, hge, hok, hwl⟩
      · rintro σ3 H3 ⟨at2, x5, x6, rfl, e4, hWv, hrR, hat2, hge, hok, hwl⟩
        have yok : okS y := by
          rw [hyk]
          exact okw _ fun c hc => lsub c (List.takeWhile_subset _ hc)
        have yl : y.length ≤ 1000 := by
          rw [hyk, TL.len_tl, tl_mkS]
          have := (List.takeWhile_sublist (l := l) nmk).length_le
          omega
        have allok : ∀ x ∈ y :: wsR, okS x ∧ x.length ≤ 1000 := fun x hx => by
          rcases List.mem_cons.mp hx with rfl | hx
          · exact ⟨yok, yl⟩
          · exact hok x hx
        have hlw : lwO (n + 1) l = (if (y :: wsR).all isNm then (if rR = [] then some [(y, wsR)] else if rR.take 2 = [59, 32] then (lwO n (rR.drop 2)).map ((y, wsR) :: ·) else none) else none) := by
          show (if (mkS (l.takeWhile nmk) :: (mkW l.length [58, 32] (l.dropWhile nmk)).1).all isNm then _ else _) = _
          rw [hR, ← hyk]
        rw [hlw] at hp
        have hW0 : H' W = none := by
          cases hh : H' W with
          | none => rfl
          | some o => rw [e13 W o hh] at hW; cases hW
        have nil_ : ((y :: wsR).filter fun x => !isNm x) = [] ↔ (y :: wsR).all isNm = true := not_all isNm _
        refine q_when (b := !decide (((y :: wsR).filter fun x => !isNm x) = [])) (et_test (ev_ne0 (K := K) (xs := (y :: wsR).filter fun x => !isNm x) (el_lcR (R := St1) (fun _ _ _ _ _ h => h) (all2_strs H3 (y :: wsR)) (fun x => !isNm x) V.str (ev_var rfl) (SqL.of hWv) ?_ fun x v H4 hx e5 r Q' k => ?_) fun x hx => (allok x (List.mem_filter.mp hx).1).1)) (fun hb2 H4 e5 => ?_) (fun hb2 H4 e5 => ?_)
        · rw [List.length_cons]
          omega
        · cases r
          refine k _ rfl (et_not (et_B (ev_call (ea_cons (ev_var rfl) ea_nil) fun H5 e6 Q q E => ⟨x, rfl, by have := (allok x hx).2; omega, (allok x hx).1, fun H6 e7 => q H6 e7⟩))) fun _ H5 e6 => ev_var rfl
        · -- not a name
          have hb2 : ¬ ((y :: wsR).all isNm = true) := fun h => by
            rw [decide_eq_true (nil_.mpr h)] at hb2
            cases hb2
          rw [if_neg hb2] at hp
          exact qn hp H4 ((e1.trans e4).trans e5)
        · have hb2 : (y :: wsR).all isNm = true := by
            refine nil_.mp ?_
            cases hd : decide (((y :: wsR).filter fun x => !isNm x) = []) with
            | true => exact of_decide_eq_true hd
            | false => rw [hd] at hb2; cases hb2
          rw [if_pos hb2] at hp
          have nt : NmT (y, wsR) := ⟨List.all_eq_true.mp hb2 y List.mem_cons_self, fun x hx => List.all_eq_true.mp hb2 x (List.mem_cons_of_mem _ hx)⟩
          have E4 : Ex H' H4 := e4.trans e5
          have hF4 := E4 F0 _ hFv
          have hW4 : H4 W = some (.lst ((y :: wsR).map V.str)) := e5 W _ hWv
          refine ⟨_, rfl, .inl ⟨rfl, _, SqL.of hF4⟩, _, rfl, _, rfl, 1, rfl, W, _, rfl, SqL.of hW4, fun C hC => ⟨sz2, fun t ht => ⟨F0, vs, _, rfl, rfl, ?_, sz_lt ?_, ?_⟩⟩⟩
          · rw [upd_ne (ne_of_none (o := .lst vs) (by rw [upd_ne (ne_of_none hF4 hC)]; exact hF4) ht), upd_ne (ne_of_none hF4 hC)]
            exact hF4
          · rw [hA.1]
            omega
          have cut1 : cutV ((y :: wsR).map V.str) (some (1 : Int)) none = wsR.map V.str := cutV_R _ 1
          have eC : Ex H4 (upd H4 C (.lst (cutV ((y :: wsR).map V.str) (some (1 : Int)) none))) := Ex.new hC
          have eT : Ex H4 (upd (upd H4 C (.lst (cutV ((y :: wsR).map V.str) (some (1 : Int)) none))) t (.tup [.str y, .ref C])) := eC.trans (Ex.new ht)
          have em : ExM [F0] (upd (upd H4 C (.lst (cutV ((y :: wsR).map V.str) (some (1 : Int)) none))) t (.tup [.str y, .ref C])) (upd (upd (upd H4 C (.lst (cutV ((y :: wsR).map V.str) (some (1 : Int)) none))) t (.tup [.str y, .ref C])) F0 (.lst (vs ++ [.ref t]))) := ExM.upd (by simp)
          have nCF : C ≠ F0 := fun z => by rw [z, hF4] at hC; cases hC
          have ntF : t ≠ F0 := fun z => by rw [z, upd_ne (Ne.symm nCF), hF4] at ht; cases ht
          have ntC : C ≠ t := fun z => by rw [← z, upd_same] at ht; cases ht
          have hF0 : H F0 = none := hF
          have EH : Ex H (upd (upd (upd H4 C (.lst (cutV ((y :: wsR).map V.str) (some (1 : Int)) none))) t (.tup [.str y, .ref C])) F0 (.lst (vs ++ [.ref t]))) := ((e1.trans E4).trans eT).mut hF0
          have hA5 : All2 (TwX [F0]) (fs ++ [(y, wsR)]) (vs ++ [.ref t]) (upd (upd (upd H4 C (.lst (cutV ((y :: wsR).map V.str) (some (1 : Int)) none))) t (.tup [.str y, .ref C])) F0 (.lst (vs ++ [.ref t]))) := by
            refine All2.snoc (hA.imp fun _ _ k => (k.mono (E4.trans eT)).monoM em) (TwX.monoM em ⟨t, C, rfl, by simp [ntF], by simp [nCF], upd_same, ?_⟩)
            rw [upd_ne ntC, upd_same, cut1]
          generalize hH5 : (upd (upd (upd H4 C (.lst (cutV ((y :: wsR).map V.str) (some (1 : Int)) none))) t (.tup [.str y, .ref C])) F0 (.lst (vs ++ [.ref t]))) = H5 at EH hA5
          have hF5 : H5 F0 = some (.lst (vs ++ [.ref t])) := by rw [← hH5]; exact upd_same
          have nm5 : ∀ u ∈ fs ++ [(y, wsR)], NmT u := fun u hu => by
            rcases List.mem_append.mp hu with hu | hu
            · exact hnm u hu
            · rw [List.mem_singleton.mp hu]; exact nt
          have hrl : rR.length = z.length - at2 := by rw [← hrR, List.length_drop, lenT]
          refine q_when (b := decide (V.int (at2 : Int) = V.int (z.length : Nat))) (et_test (ev_op (ev_var rfl) (ev_cb1 (ev_var rfl) (rc_lenS (by omega))) (rv_eq rfl))) (fun hb3 H6 e6 => ?_) (fun hb3 H6 e6 => ?_)
          · have hb3 : at2 = z.length := by
              have := V.int.inj (of_decide_eq_true hb3)
              omega
            have hr0 : rR = [] := List.length_eq_zero_iff.mp (by omega)
            rw [if_pos hr0] at hp
            exact ⟨_, rfl, qs (fs ++ [(y, wsR)]) _ H6 hp (EH.trans e6) ⟨F0, _, rfl, e6 F0 _ hF5, hA5.imp fun _ _ k => (k.mono e6).tw⟩⟩
          have hb3 : at2 ≠ z.length := fun h => by
            have := of_decide_eq_false hb3
            exact this (by rw [h])
          have hr0 : rR ≠ [] := fun h => by
            rw [h] at hrl
            simp at hrl
            omega
          rw [if_neg hr0] at hp
          have hc : TL.tl (cutS z (some (at2 : Int)) (some ((at2 : Int) + 2))) = rR.take 2 := by
            rw [nat2, tl_cut, hrR]
            congr 1
            omega
          refine q_when (b := !decide (V.str (cutS z (some (at2 : Int)) (some ((at2 : Int) + 2))) = V.str ("; " : Str))) (et_test (ev_op (ev_slS (ev_var rfl) (eo_some (ev_var rfl)) (eo_some (ev_op (ev_var rfl) ev_c rv_I0)) (by omega)) ev_c (rv_ne rfl))) (fun hb4 H7 e7 => ?_) (fun hb4 H7 e7 => ?_)
          · have hne : ¬ rR.take 2 = [59, 32] := fun h => by
              rw [decide_eq_true (congrArg V.str (TL.ext_tl (by rw [hc, h, tl_semi])))] at hb4
              cases hb4
            rw [if_neg hne] at hp
            exact qn hp H7 ((EH.trans e6).trans e7)
          have heq : rR.take 2 = [59, 32] := by
            cases hd : decide (V.str (cutS z (some (at2 : Int)) (some ((at2 : Int) + 2))) = V.str ("; " : Str)) with
            | false => rw [hd] at hb4; cases hb4
            | true =>
              have := congrArg TL.tl (V.str.inj (of_decide_eq_true hd))
              rw [hc, tl_semi] at this
              exact this
          rw [if_pos heq] at hp
          have h2le : 2 ≤ rR.length := by
            have := congrArg List.length heq
            rw [List.length_take] at this
            simp at this
            omega
          refine ⟨_, rfl, _, _, rfl, rfl, ?_⟩
          refine ⟨z.length - (at2 + 2), by omega, at2 + 2, fs ++ [(y, wsR)], vs ++ [.ref t], _, _, _, _, by rw [← nat2] <;> rfl, (EH.trans e6).trans e7, e7 F0 _ (e6 F0 _ hF5), hA5.imp fun _ _ k => (k.mono e6).mono e7, by omega, rfl, nm5, ?_, .inr ⟨by simp, n, ?_, ?_⟩⟩
          · rw [List.length_append, List.length_singleton]
            omega
          · rw [List.length_drop, ← lenT]
            omega
          · rw [hp, ← hrR, List.drop_drop]
            cases lwO n ((TL.tl z).drop (at2 + 2)) <;> simp
    · -- the empty text
      rcases hst with ⟨rfl, rfl⟩ | ⟨hne, _⟩
      · have h0 : TL.tl z = [] := by
          have h := hb
          rw [Bool.or_eq_false_iff] at h
          have h1 := of_decide_eq_false h.1
          refine List.length_eq_zero_iff.mp ?_
          omega
        refine ⟨_, rfl, qs [] _ H1 ?_ (e1.trans e2) ⟨F0, vs, rfl, e2 F0 _ hFv, hA.imp fun _ _ k => (k.mono e2).tw⟩⟩
        unfold parse
        rw [if_pos h0]
      · exfalso
        rw [Bool.or_eq_false_iff] at hb
        have h1 := of_decide_eq_false hb.1
        have h2 := hb.2
        rw [decide_eq_false hne, Bool.not_false, Bool.true_and] at h2
        have h3 := of_decide_eq_false h2
        exact h3 (by congr 1; omega)
end
end Wt

-- WtSet
set_option maxHeartbeats 4000000
/-! sets of texts: set(list of texts), len, sorted -/
namespace WtS
open PySem PySem.Spec PyProof.Rows L2 PySem.Froz
def keyS (e : Int × Value) : Str := match e.2 with | .str z _ => z | _ => ""
theorem tail_perm (ep : Nat) (es : Array (Int × Value)) (t : SetTable) (wd : Bool) : (tailTx ep es t wd).1.toList.Perm es.toList := by
  unfold tailTx
  by_cases c : (!wd && t.tooFull) = true
  · rw [if_pos c]
    exact relayAll_perm _ _ _
  · rw [if_neg c]
theorem tail_ris (ep : Nat) (es : Array (Int × Value)) (t : SetTable) (wd : Bool) (r : Ris t.place.toList) : Ris (tailTx ep es t wd).2.2.place.toList := by
  unfold tailTx
  by_cases c : (!wd && t.tooFull) = true
  · rw [if_pos c]
    exact relayAll_ris _ _ _
  · rw [if_neg c]
    exact r
theorem tail_led (ep : Nat) (es : Array (Int × Value)) (t : SetTable) (wd : Bool) : (tailTx ep es t wd).2.2.led = t.led := by
  unfold tailTx
  by_cases c : (!wd && t.tooFull) = true
  · rw [if_pos c]
    exact relayAll_led _ _ _
  · rw [if_neg c]
theorem add_perm (h : Int) (v : Value) (D : SD) : (addTx h v D).1.toList.Perm (D.1.push (h, v)).toList := (tail_perm _ _ _ _).trans (layNew_perm D.2.2 D.1 h v)
theorem add_ris (h : Int) (v : Value) (D : SD) (r : Ris D.2.2.place.toList) : Ris (addTx h v D).2.2.place.toList := by
  have hr := layNew_ris D.2.2 D.1 h v r
  refine tail_ris _ _ _ _ ?_
  split <;> exact hr
theorem add_led (h : Int) (v : Value) (D : SD) : (addTx h v D).2.2.led = D.2.2.led := by
  have hl := layNew_led D.2.2 D.1 h v
  refine (tail_led _ _ _ _).trans ?_
  split <;> exact hl
structure TxR (P : Program) (w : World) (h : Heap) (a : Addr) (D : SD) (l : List Str) : Prop where
  ob : h.get? a = some (sObj "set" D)
  ok : TxOk P w D l
  it : ∀ e ∈ D.1.toList, ∃ z t, e.2 = .str z t
  pm : (D.1.toList.map keyS).Perm l
  ris : Ris D.2.2.place.toList
  led : w.params.followText "set-order" = true ∨ D.2.2.led = true
  nd : l.Nodup
theorem TxR.at {P : Program} {w : World} {h h' : Heap} {a : Addr} {D : SD} {l : List Str} (R : TxR P w h a D l) (k : ∀ o, h.get? a = some o → h'.get? a = some o) : TxR P w h' a D l := { R with ob := k _ R.ob }
section
variable {P : Program} {w : World} {A : Around} {E : Value → Shared → Prop} {s : Shared}
theorem txr_fresh {h : Heap} {a : Addr} (ho : h.get? a = some { cls := .type "set", dict := none, data := .set #[] 0 (.fresh 0 0 (!w.params.followText "set-order")) }) : TxR P w h a (#[], 0, .fresh 0 0 (!w.params.followText "set-order")) [] where
  ob := ho
  ok := TxOk.nil (by rfl)
  it := fun e he => by simp at he
  pm := List.Perm.refl _
  ris := List.Pairwise.nil
  led := by
    show _ ∨ (!w.params.followText "set-order") = true
    cases w.params.followText "set-order"
    · exact .inr rfl
    · exact .inl rfl
  nd := List.Pairwise.nil
theorem add_has {a : Addr} {D : SD} {l : List Str} {k : Str} {u : Tok} {Q : Bool → Shared → Prop} (ho : s.heap.get? a = some (sObj "set" D)) (F : TxOk P w D l) (hk : k ∈ l) (hb : l.length < scanBound)
    (h : Q false s) : wpAny (model P w) A (setAddHashed a (.str k u) (hashStr w k)) Q E s := by
  obtain ⟨es, ep, t⟩ := D
  have hd : (sObj "set" (es, ep, t)).data = .set es ep t := rfl
  have hf : t.fits es.size = true := F.fit
  have hel : ElemsOf (strKind P w) es.toList := F.el
  have hsz : es.size = l.length := F.sz
  have hb0 : es.size < scanBound := by omega
  have hkey : (strKind P w).is k (.str k u) = true := is_str k u
  unfold setAddHashed setAddHashedIn
  refine wpAny_holding (wpAny_bind (wpAny_setState_of ho hd hf ?_))
  dsimp only
  rw [byScan_of rfl hb0 hel]
  simp only [↓reduceIte]
  unfold setAddByScan
  refine wpAny_bind ?_
  refine wpAny_bind (wpAny_rule ?_)
  refine wpAny_bind (wpAny_setScan_of (knd := strKind P w) (k := k) hkey ho hd hf hel ?_)
  cases hfi : List.findIdx? (fun e => (strKind P w).is k e.2) es.toList with
  | some j =>
    dsimp only
    exact wpAny_pure (wpAny_pure h)
  | none =>
    obtain ⟨e, he, q⟩ := (F.mem k).mp hk
    have c := List.findIdx?_eq_none_iff.mp hfi e he
    rw [q] at c
    cases c
theorem add_r {a : Addr} {D : SD} {l : List Str} {k : Str} {u : Tok} {Q : Bool → Shared → Prop} (R : TxR P w s.heap a D l) (hb : l.length + 1 < scanBound)
    (h : ∀ h' D', Heap.SameBut a s.heap h' → TxR P w h' a D' (if k ∈ l then l else k :: l) → Q (!decide (k ∈ l)) { s with heap := h' }) :
    wpAny (model P w) A (setAddHashed a (.str k u) (hashStr w k)) Q E s := by
  by_cases hk : k ∈ l
  · have q := h s.heap D (Heap.SameBut.refl a s.heap) (by rw [if_pos hk]; exact R)
    rw [decide_eq_true hk] at q
    exact add_has R.ob R.ok hk (by omega) q
  · have q := h (s.heap.update a (fun _ => sObj "set" (addTx (hashStr w k) (.str k u) D))) (addTx (hashStr w k) (.str k u) D) (Heap.SameBut.update s.heap a _) (by
      rw [if_neg hk]
      have p := add_perm (hashStr w k) (.str k u) D
      rw [Array.toList_push] at p
      exact
        { ob := get_upd _ R.ob rfl
          ok := add_ok u R.ok
          it := fun e he => by
            rcases List.mem_append.mp (p.mem_iff.mp he) with q | q
            · exact R.it e q
            · rw [List.mem_singleton.mp q]
              exact ⟨k, u, rfl⟩
          pm := by
            have p2 := p.map keyS
            rw [List.map_append] at p2
            exact p2.trans ((List.perm_append_comm).trans (List.Perm.cons k R.pm))
          ris := add_ris _ _ _ R.ris
          led := R.led.imp id fun z => by rw [add_led]; exact z
          nd := List.nodup_cons.mpr ⟨hk, R.nd⟩ })
    rw [decide_eq_false hk] at q
    exact add_x R.ob R.ok hk hb q
/-- members met so far -/
def Got (xs : List Str) (i : Nat) (l : List Str) : Prop := l.length ≤ i ∧ ∀ k, k ∈ l ↔ k ∈ xs.take i
theorem set_update_txts {I : Addr} {fp wr : List Addr} {G : Array GenState → Array GenState → Prop} {n : Nat} {Pv : Nat → Value → Prop} {St : Nat → Shared → Prop} {R : Result → Shared → Prop}
    (W : WalksS P w A.in1 I fp wr G n Pv St) (S : Addr) (hSf : S ∉ fp) (xs : List Str) (hn : n = xs.length) (hb : xs.length + 1 < scanBound) (hval : ∀ i v, Pv i v → ∃ k t, xs[i]? = some k ∧ v = .str k t) :
    ∀ (k i : Nat) (s : Shared), n - i = k → i ≤ n → St i s → (∃ D l, Got xs i l ∧ TxR P w s.heap S D l) →
      (∀ s' D l, Moved (S :: wr) G s s' → Got xs n l → TxR P w s'.heap S D l → R (.ok (.ret .none)) s') →
      codeAny (model P w) A (.builtin "set.update.loop" ⟨[.ref S, .ref I], []⟩) R s := by
  have hSw : S ∉ wr := fun h => hSf (W.sub _ h)
  have hsub : ∀ b ∈ wr, b ∈ S :: wr := fun b hb => List.mem_cons_of_mem _ hb
  intro k
  induction k with
  | zero =>
    intro i s hk' hi hst ⟨D, l, hg, hS⟩ hR
    have hin : i = n := by omega
    subst hin
    refine codeAny_builtin F.entry_set_update_loop ?_
    rw [Around.under_plainId F.plain_set_update_loop _]
    show wpAny _ A.in1 (pyNext (.ref I) >>= _) _ _ s
    refine wpAny_bind (W.done s _ _ hst fun s' hm => ?_)
    show wpAny _ A.in1 (ret Value.none) _ _ s'
    exact wpAny_pure (hR s' D l (hm.mono hsub) hg (hS.at fun o e => hm.heap S o hSw e))
  | succ k ih =>
    intro i s hk' hi hst ⟨D, l, hg, hS⟩ hR
    have hlt : i < n := by omega
    refine codeAny_builtin F.entry_set_update_loop ?_
    rw [Around.under_plainId F.plain_set_update_loop _]
    show wpAny _ A.in1 (pyNext (.ref I) >>= _) _ _ s
    refine wpAny_bind (W.item i s _ _ hlt hst fun v s' hP hst' hm => ?_)
    obtain ⟨z, t, hz, rfl⟩ := hval i v hP
    have hS' : TxR P w s'.heap S D l := hS.at fun o e => hm.heap S o hSw e
    show wpAny _ A.in1 (holding [Value.str z t] (setAdd S (.str z t)) >>= _) _ _ s'
    refine wpAny_bind (wpAny_holding ?_)
    unfold setAdd
    refine wpAny_holding ?_
    refine wpAny_bind ((strKind P w).pyHash (k := z) (is_str z t) ?_)
    refine add_r (s := { s' with toks := s'.toks + 1 }) hS' (by have := hg.1; omega) fun h' D' hsb hS2 => ?_
    have hg2 : Got xs (i + 1) (if z ∈ l then l else z :: l) := by
      refine ⟨?_, fun y => ?_⟩
      · have := hg.1
        split
        · omega
        · show l.length + 1 ≤ _
          omega
      · rw [List.take_add_one, hz, List.mem_append, ← hg.2 y]
        split
        · rename_i hm2
          simp only [Option.toList_some, List.mem_singleton]
          exact ⟨.inl, fun o => o.elim id fun e => by rw [e]; exact hm2⟩
        · simp only [Option.toList_some, List.mem_singleton, List.mem_cons, List.not_mem_nil, or_false]
          exact Or.comm
    refine wpAny_pure ⟨plainId_quiet F.plain_set_update_loop _, ih (i + 1) _ (by omega) hlt (W.frame _ s' _ _ hst' (Nat.le_succ _) fun b hb o e => ?_) ⟨D', _, hg2, hS2⟩ fun s'' D2 l2 hm'' hg'' hS'' => ?_⟩
    · rw [hsb.2 b (fun h : b = S => hSf (by rw [← h]; exact hb))]; exact e
    · refine hR s'' D2 l2 (Moved.trans W.gtrans ((hm.mono hsub).then_heap (Nat.le_succ _) fun b o hb e => ?_) hm'') hg'' hS''
      rw [hsb.2 b (fun h : b = S => hb (by rw [h]; exact List.mem_cons_self))]; exact e
set_option maxRecDepth 100000 in
set_option maxHeartbeats 3200000 in
theorem call_set_txts {l : Addr} {items : Array Value} (xs : List Str) {Q : Value → Shared → Prop} (hh : A.handled = none) (hl : s.heap.IsList l items) (hit : StrsAre items.toList xs) (hb : xs.length + 1 < scanBound)
    (h : ∀ (h' : Heap) (tk : Nat) D ks, TxR P w h' s.heap.objs.size D ks → (∀ k, k ∈ ks ↔ k ∈ xs) → ks.length ≤ xs.length → (∀ b o, s.heap.get? b = some o → h'.get? b = some o) → Q (.ref s.heap.objs.size) { s with heap := h', toks := tk }) :
    wpAny (model P w) A (call (.type "set") [.ref l]) Q E s := by
  have hisz : items.size = xs.length := by
    have q := StrsAre.length hit
    rw [Array.length_toList] at q
    exact q
  obtain ⟨c, tl, hmro⟩ := F.called_set.mro
  have hmade := F.called_set.made
  have hsub := F.called_set.sub
  refine wpAny_call (codeAny_of_tree ?_)
  show wpAny _ _ (callAny (.type "set") _) _ _ _
  refine wpAny_pure ⟨Code.quiet_builtin _ (by decide +kernel), codeAny_builtin F.entry_type_call ?_⟩
  rw [Around.under_plain (weight_type_call_type "set" [.ref l] []) rfl]
  have h1 := F.called_set.notType
  have h2 := F.called_set.canCreate
  have hct := F.typeCall_set_1 (.ref l)
  repeat (any_goals (first | assumption | wp_step))

  refine codeAny_mono (code_set_led1 (.ref l) (E := E) (Q₁ := fun obj s₁ => obj = .ref s.heap.objs.size ∧ s₁ = { s with heap := s.heap.push { cls := .type "set", dict := none, data := .set #[] 0 (.fresh 0 0 (!w.params.followText "set-order")) } }) ⟨rfl, rfl⟩) fun r s₁ hr => ?_
  cases r with
  | error e => exact hr
  | ok fl =>
    cases fl with
    | ret obj =>
      obtain ⟨rfl, rfl⟩ := hr
      have hS : (s.heap.push { cls := .type "set", dict := none, data := .set #[] 0 (.fresh 0 0 (!w.params.followText "set-order")) }).get? s.heap.objs.size = some { cls := .type "set", dict := none, data := .set #[] 0 (.fresh 0 0 (!w.params.followText "set-order")) } := Heap.get?_push_size _ rfl
      have hT : Shared.TypeIs { s with heap := s.heap.push { cls := .type "set", dict := none, data := .set #[] 0 (.fresh 0 0 (!w.params.followText "set-order")) } } (.ref s.heap.objs.size) "set" := ⟨_, hS, rfl⟩
      have hli := F.called_set.init.lookup
      have hbi := F.called_set.init.bind (.ref s.heap.objs.size)
      repeat (any_goals (first | assumption | wp_step))

      refine codeAny_mono (codeAny_call_builtin (R := wants (fun r s₂ => r = .none ∧ ∃ h' tk D ks, s₂ = { s with heap := h', toks := tk } ∧ TxR P w h' s.heap.objs.size D ks ∧ Got xs xs.length ks ∧
          (∀ b o, s.heap.get? b = some o → h'.get? b = some o)) E) F.called_set.init.plain F.entry_set_init (check_set_init_1 hT ?_)) fun r₂ s₂ hr₂ => ?_
      · obtain ⟨ol, hol, hcl, nl, hdl⟩ := hl
        obtain ⟨ocls, odict, odata, oslots⟩ := ol
        simp only at hcl hdl
        subst hcl; subst hdl
        have hol' : (s.heap.push { cls := .type "set", dict := none, data := .set #[] 0 (.fresh 0 0 (!w.params.followText "set-order")) }).get? l = some { cls := .type "list", dict := odict, data := .seq items nl, slots := oslots } := Heap.get?_push_of_some _ hol
        have hsls := F.sub_list_set
        have hslf := F.sub_list_frozenset
        have hne : (Value.type "list" == Value.type "dict") = false := by decide
        have hl1 : (s.heap.push { cls := .type "set", dict := none, data := .set #[] 0 (.fresh 0 0 (!w.params.followText "set-order")) }).IsList l items := ⟨_, hol', rfl, nl, rfl⟩
        unfold Builtin.«set.__init__» noKeywords Builtin.Frozenset.updateFrom
        generalize hPI : pyIter = PI
        wp_walk
        subst hPI

        refine wpAny_pyIter_list hl1 ?_
        refine wpAny_bind (wpAny_runValue ?_)
        have hlS : l < s.heap.objs.size := Heap.lt_size hol
        have hh3 : A.in1.in1.in1.handled = none := by simp [hh]
        have hz1 : (s.heap.push { cls := .type "set", dict := none, data := .set #[] 0 (.fresh 0 0 (!w.params.followText "set-order")) }).objs.size = s.heap.objs.size + 1 := Heap.size_push ..
        have hneI : l ≠ (s.heap.push { cls := .type "set", dict := none, data := .set #[] 0 (.fresh 0 0 (!w.params.followText "set-order")) }).objs.size := by
          rw [Heap.size_push]; exact Nat.ne_of_lt (Nat.lt_succ_of_lt hlS)
        have hSf : s.heap.objs.size ∉ [(s.heap.push { cls := .type "set", dict := none, data := .set #[] 0 (.fresh 0 0 (!w.params.followText "set-order")) }).objs.size, l] := by
          rw [Heap.size_push]; simp only [List.mem_cons, List.mem_singleton, List.not_mem_nil, or_false, not_or]
          exact ⟨Nat.ne_of_lt (Nat.lt_succ_self _), Nat.ne_of_gt hlS⟩
        have hval : ∀ (i : Nat) (v : Value), items[i]? = some v → ∃ k t, xs[i]? = some k ∧ v = .str k t := fun i v hv => by
          have hi : i < xs.length := by rw [← hisz]; exact (Array.getElem?_eq_some_iff.mp hv).1
          obtain ⟨t, e⟩ := SS.strs_at hit i v (by rw [Array.getElem?_toList]; exact hv)
          refine ⟨xs[i], t, List.getElem?_eq_getElem hi, ?_⟩
          rw [e, List.getD_eq_getElem?_getD, List.getElem?_eq_getElem hi] <;> rfl
        refine set_update_txts ((Walks.list hh3 _ l hneI items).toS) s.heap.objs.size
          hSf xs hisz hb hval (items.size - 0) 0 _ (by omega) (Nat.zero_le _)
          ⟨⟨_, Heap.get?_push_size _ rfl, rfl, rfl⟩, (hl1.push _)⟩ ?hS0 ?hR
        case hS0 =>
          have hget : ((s.heap.push { cls := .type "set", dict := none, data := .set #[] 0 (.fresh 0 0 (!w.params.followText "set-order")) }).push { cls := .type "list_iterator", data := .fields #[.ref l, .int 0 0] }).get? s.heap.objs.size
              = some { cls := .type "set", dict := none, data := .set #[] 0 (.fresh 0 0 (!w.params.followText "set-order")) } := Heap.get?_push_of_some _ hS
          exact ⟨_, [], ⟨Nat.le_refl 0, fun k => by simp⟩, txr_fresh hget⟩
        case hR =>
          intro s' D' ks hm hg' hS'
          obtain ⟨h', g2, d', tk', os'⟩ := s'
          have eg : g2 = s.gens := hm.gens
          have ed : d' = s.drawn := hm.drawn
          have eo : os' = s.os := hm.os
          subst eg; subst ed; subst eo
          show wpAny _ _ _ _ _ _
          refine wpAny_pure ?_
          show wpAny _ _ (ret Value.none) _ _ _
          rw [hisz] at hg'
          refine wpAny_pure ⟨rfl, h', tk', D', ks, rfl, hS', hg', fun b o e => ?_⟩
          have hb0 : b < s.heap.objs.size := Heap.lt_size e
          have hb1 : b ≠ s.heap.objs.size := Nat.ne_of_lt hb0
          have hb2 : b ≠ (s.heap.push { cls := .type "set", dict := none, data := .set #[] 0 (.fresh 0 0 (!w.params.followText "set-order")) }).objs.size := by
            rw [Heap.size_push]; exact Nat.ne_of_lt (Nat.lt_succ_of_lt hb0)
          exact hm.heap b o (by simp only [List.mem_cons, List.mem_singleton, List.not_mem_nil, or_false, not_or]; exact ⟨hb1, hb2⟩) (Heap.get?_push_of_some _ (Heap.get?_push_of_some _ e))

      · cases r₂ with
        | error e => exact hr₂
        | ok fl₂ =>
          cases fl₂ with
          | ret r =>
            obtain ⟨rfl, h', tk, D', ks, rfl, hS', hg', hk'⟩ := hr₂
            repeat (any_goals (first | assumption | wp_step))
            exact h _ _ _ ks hS' (fun k => (hg'.2 k).trans (by rw [List.take_length])) hg'.1 hk'
          | _ => exact hr₂.elim
    | _ => exact hr.elim
theorem strs_of : ∀ (l : List (Int × Value)), (∀ e ∈ l, ∃ z t, e.2 = Value.str z t) → ∀ vs : List Value, vs.Perm (l.map (·.2)) → ∃ ss, StrsAre vs ss ∧ ss.Perm (l.map keyS) := by
  intro l hl vs pm
  have key : ∀ v ∈ vs, ∃ z t, v = Value.str z t := fun v hv => by
    obtain ⟨e, he, q⟩ := List.mem_map.mp (pm.mem_iff.mp hv)
    obtain ⟨z, t, h⟩ := hl e he
    exact ⟨z, t, by rw [← q]; exact h⟩
  have all : ∀ us : List Value, (∀ v ∈ us, ∃ z t, v = Value.str z t) → StrsAre us (us.map fun v => keyS (0, v)) := by
    intro us
    induction us with
    | nil => exact fun _ => .nil
    | cons v us ih =>
      intro h
      obtain ⟨z, t, rfl⟩ := h v List.mem_cons_self
      exact .cons z t (ih fun u hu => h u (List.mem_cons_of_mem _ hu))
  refine ⟨vs.map fun v => keyS (0, v), all vs key, ?_⟩
  have q := pm.map fun v => keyS (0, v)
  rw [List.map_map] at q
  exact q
theorem sorted_txts {a : Addr} {D : SD} {l : List Str} {Q : Value → Shared → Prop} (R : TxR P w s.heap a D l) (hh : A.handled = none) (h64 : l.length < 64)
    (hQ : ∀ s' p (out : Array Value) (c : Nat) (ns : List Str), (∀ b o, s.heap.get? b = some o → s'.heap.get? b = some o) → s'.gens = s.gens → s'.os = s.os → s.heap.objs.size ≤ p →
      s'.heap.get? p = some (seqObj "list" out c) → StrsAre out.toList ns → sortedS ns = true → ns.Perm l → Q (.ref p) s') :
    wpAny (model P w) A (call (.builtin "sorted") [.ref a]) Q E s := by
  obtain ⟨es, ep, t⟩ := D
  have sz : es.size = l.length := R.ok.sz
  refine Calls.call_function_entry kind_sorted plain_sorted entry_sorted (args_sorted1 _) ?_
  unfold Builtin.«sorted»
  refine wpAny_bind (m := checkCount "sorted" 1 1 _) (wpAny_pure ?_)
  refine wpAny_bind (collect_set (A := A.in1) hh ⟨_, R.ob, rfl, rfl⟩ R.ok.fit (by show es.size < scanBound; unfold scanBound; omega) R.ris R.led fun s1 vs k1 hz g1 o1 pm => ?_)
  have hvl : vs.length = l.length := by rw [pm.length_eq, List.length_map, Array.length_toList]; exact sz
  obtain ⟨ss, hS, pS⟩ := strs_of _ R.it vs pm
  refine wpAny_bind (wpAny_newList ?_ (by rw [hvl, sizeLine_eq]; omega))
  have hoL : (s1.heap.push (seqObj "list" vs.toArray 0)).get? s1.heap.objs.size = some (seqObj "list" vs.toArray 0) := Heap.get?_push_size _ rfl
  refine wpAny_bind (wpAny_holding (wpAny_call_entry slot_list_sort ⟨_, hoL, rfl⟩ entry_list_sort (list_sort_treeK strKind_oneLt hoL hS.keysOf (fun v₁ v₂ rest e => keyKind_strs (by rw [← e]; exact hS)) (by rw [hvl]; exact h64) fun st' hp hs => ⟨_, rfl, ?_⟩) (args_list_sort _)))
  obtain ⟨ss', h1, h2, h3⟩ := sorted_out_str hS hp hs
  obtain ⟨c, hc⟩ := sortedHeap_at (vs := vs) (out := (arrOf st').map (·.2)) hoL
  refine wpAny_pure ⟨_, rfl, hQ _ s1.heap.objs.size _ c ss' (fun b u e => ?_) g1 o1 hz hc h1 h3 (h2.trans (pS.trans R.pm))⟩
  have q := k1 b u e
  have hlt := Heap.lt_size q
  show (sortedHeap (s1.heap.push (seqObj "list" vs.toArray 0)) s1.heap.objs.size vs _).get? b = some u
  rw [sortedHeap_old (Nat.ne_of_lt hlt) (by rw [size_push']; exact Nat.lt_succ_of_lt hlt)]
  exact Heap.get?_push_of_some _ q
end
/-! ### over the layer -/
def SetX (P : Program) (w : World) (a : Addr) (l : List Str) : HO := .ext fun h => ∃ D, TxR P w h a D l
section
variable {X : Cx}
theorem setX_new {P : Program} {w : World} {H : Hp} {h : Heap} {a : Addr} {D : SD} {l : List Str} (R : TxR P w h a D l) : ObjOk P w H h a (SetX P w a l) :=
  ⟨⟨D, R⟩, ⟨_, R.ob⟩, fun h1 h2 ⟨D', R'⟩ k => ⟨D', R'.at k⟩⟩
theorem setX_get {pins : List (Addr × Obj)} {σ : L2.St} {H : Hp} {s : Shared} {a : Addr} {l : List Str} (I : Inv X pins σ H s) (ha : H a = some (SetX X.prog X.w a l)) : ∃ D, TxR X.prog X.w s.heap a D l := (I.hok a _ ha).1
def rSetX (K : PySem.W.Frag) (P : Program) (w : World) : List V → Hp → VK → Prop := fun xs H Q => ∃ (l : Addr) (zs : List Str), xs = [V.ref l] ∧ SqL K H l (zs.map V.str) ∧ zs.length < 1000 ∧
  ∀ a ks, H a = none → (∀ k, k ∈ ks ↔ k ∈ zs) → ks.Nodup → ks.length ≤ zs.length → Q (.ref a) (upd H a (SetX P w a ks))
theorem cr_setS (hc : X.calm = true) : CallR X (.type "set") (rSetX X.K X.prog X.w) := by
  intro pins s σ H xs us Q I r h
  obtain ⟨l, zs, rfl, hl, hf, q⟩ := h
  rw [Vals.ref1 r]
  obtain ⟨its, rv, pl, hz⟩ := I.list hl
  have hn : H s.heap.objs.size = none := I.hok.fresh (Nat.le_refl _)
  refine call_set_txts (P := X.prog) (w := X.w) zs (I.ok.hd hc) pl.isList (by simpa using strsAre_of rv) (by unfold scanBound; omega) fun h' tk D ks R hm hlen k => ?_
  exact ⟨.ref s.heap.objs.size, upd H s.heap.objs.size (SetX X.prog X.w s.heap.objs.size ks), I.laid (t' := tk) k (Nat.le_refl _) (setX_new R), rfl, q _ ks hn hm R.nd hlen⟩
def rLenX (P : Program) (w : World) : List V → Hp → VK → Prop := fun vs H Q => ∃ (a : Addr) (l : List Str), vs = [V.ref a] ∧ H a = some (SetX P w a l) ∧ l.length < 1000 ∧ Q (.int (l.length : Nat)) H
theorem call_len_set : CallR X (.builtin "len") (rLenX X.prog X.w) := by
  intro pins s σ H vs us Q I r h
  obtain ⟨a, l, rfl, ha, hl, q⟩ := h
  obtain ⟨⟨es, ep, t⟩, R⟩ := setX_get I ha
  rw [Vals.ref1 r]
  have sz : es.size = l.length := R.ok.sz
  exact PySem.call_len_set R.ob ⟨rfl, rfl, rfl⟩ rfl R.ok.fit (by rw [sz]; omega) ⟨.int (l.length : Nat), H, I.tok _, ⟨_, by rw [sz]⟩, q⟩
def rSortedX (P : Program) (w : World) : List V → Hp → VK → Prop := fun vs H Q => ∃ (a : Addr) (l : List Str), vs = [V.ref a] ∧ H a = some (SetX P w a l) ∧ l.length < 64 ∧
  ∀ (ns : List Str) (p : Addr), sortedS ns = true → ns.Perm l → H p = none → Q (.ref p) (upd H p (.lst (ns.map V.str)))
theorem cr_sortedSetS (hc : X.calm = true) : CallR X (.builtin "sorted") (rSortedX X.prog X.w) := by
  intro pins s σ H vs us Q I r h
  obtain ⟨a, l, rfl, ha, h64, q⟩ := h
  obtain ⟨D, R⟩ := setX_get I ha
  rw [Vals.ref1 r]
  refine sorted_txts R (I.ok.hd hc) h64 fun s' p out c ns k g o hp hg hi hs hm => ?_
  have hlen : (ns.map V.str).length ≤ sizeLine := by rw [List.length_map, hm.length_eq, sizeLine_eq]; omega
  have hn : H p = none := I.hok.fresh hp
  have J : Inv X pins σ (upd H p (.lst (ns.map V.str))) { s with heap := s'.heap, gens := s'.gens, drawn := s'.drawn, toks := s'.toks } :=
    I.call (ch := []) (Un.laid k hp hn) (I.hok.laid k hp ⟨hlen, out.toList, c, vals_of_strs hi, hg⟩) (by rw [g]; exact I.bare) (fun _ z => nomatch z)
  have e : s' = { s with heap := s'.heap, gens := s'.gens, drawn := s'.drawn, toks := s'.toks } := by
    cases s'
    cases s
    cases o
    rfl
  rw [e]
  exact ⟨.ref p, _, J, rfl, q ns p hs hm hn⟩
end
end WtS

-- WtLcX
set_option maxHeartbeats 4000000
/-! a list comprehension whose element may raise (a call of an own def) -/
namespace WtX
open PySem PySem.Spec PyProof.Rows L2
abbrev Blk (X : Cx) (s : Shared) (H : Hp) (scope : Scope) (cenv : Env) (fp : List Addr) (xe : Value → Shared → Prop) : Cx := { X.blk s H scope cenv fp with xe := xe }
section
variable {X : Cx} {pins : List (Addr × Obj)} {σ : L2.St} {W : WX}
theorem blk_fails {scope : Scope} {H3 H4 : Hp} {s3 s4 s' : Shared} {fp : List Addr} {ce : Env} {σ' : L2.St} {pins' : List (Addr × Obj)} {xe' : Value → Shared → Prop} {u : Value}
    (I3 : Inv X pins σ H3 s3) (hs : X.stack = X.env :: X.outer) (hf : X.env.frame = some X.env.locals) (tk : L2N.Takes X W)
    (f3 : ∀ b ∈ fp, FpOk X pins H3 b ∧ b < s3.heap.objs.size) (cL : ce.locals = s3.heap.objs.size) (cF : ce.frame = X.env.frame)
    (J : Inv (Blk X s3 H3 scope ce fp xe') pins' σ' H4 s4) (c : L2N.CX X.prog X.w X.stack H4 s4 (fun cls d H => W cls d σ H) u s') :
    notedBy (model X.prog X.w) X.A ce (CompFails (model X.prog X.w) X.A X.xe ce) u s' := by
  obtain ⟨a, B, H', cls, d, rfl, fl, hok, ub, na, os, ag, hE⟩ := c
  have ok := I3.ok
  have hfr : X.A.frames = some (X.env :: X.outer) := by rw [ok.frames, hs]
  have nC : ce.locals ∉ frs X.stack := fun hm => by
    have f : s3.heap.FunFrames X.base X.stack := J.ok.funs
    obtain ⟨_, o, ho, _⟩ := f.mem hm
    have := Heap.lt_size ho
    rw [cL] at this
    exact absurd this (Nat.lt_irrefl _)
  obtain ⟨m0, hn0, _⟩ := J.loc
  have hn0 : s4.heap.Ns ce.locals m0 := hn0
  have hCfree : H4 ce.locals = none := J.free
  obtain ⟨oC, es, ep, hoC, hdC, rC⟩ := hn0
  have hBC : B.get? ce.locals = some oC := ub.keep _ oC hoC hCfree nC
  have hn' : s'.heap.Ns ce.locals m0 := ⟨oC, es, ep, fl.1 _ oC hBC, hdC, rC⟩
  have hC' : H' ce.locals = none := ub.free _ oC hoC hCfree
  show wpAny (model X.prog X.w) X.A (noteFrame (.ref a) ce) _ _ s'
  rw [noteFrame_env _ cF]
  have fl' : HandSPX.FlyingZ B (X.env :: X.outer) a (L2N.Zn cls d) s'.heap := by rw [← hs]; exact fl
  refine PXN.looks_onZ L2N.Zn.steady hfr hf fl' fun h1 hh up1 => ?_
  have hn1 : h1.Ns ce.locals m0 := hn'.upToSlots up1
  refine ⟨m0, hn1, fun h2 m2 hn2 sb2 => ?_⟩
  obtain ⟨k1, k2, k3, oe, vs, T, oT, ts, he, hz, hd, h1', hnT, hTe, hT, hdT, h3'⟩ := hh
  have old : ∀ b, b ≠ ce.locals → h2.get? b = h1.get? b := fun b hb => sb2.2 b hb
  have data : ∀ {b o ws}, h1.get? b = some o → o.data = .fields ws → b ≠ ce.locals := fun {b o ws} e dd z => by
    obtain ⟨o1, es1, ep1, ho1, hd1, _⟩ := hn1
    rw [z, ho1] at e; cases e
    rw [hd1] at dd; cases dd
  obtain ⟨B2, b1, b2⟩ := restrict h2 fun b => (B.get? b).isSome
  have inB : ∀ b o, B2.get? b = some o → h2.get? b = some o ∧ (B.get? b).isSome = true := fun b o e => by
    cases q : (B.get? b).isSome with
    | false => rw [b2 b q] at e; cases e
    | true => rw [b1 b q] at e; exact ⟨e, rfl⟩
  have noB : ∀ b, B.get? b = none → B2.get? b = none := fun b e => b2 b (by rw [e]; rfl)
  have f2 : h2.FunFrames B2 (X.env :: X.outer) := funFrames_none (Heap.FunFrames.sameBut sb2 hn2 k3) fun L hL => noB L (k3.mem hL).1
  have hh2 : HandSPX.HeldZ B2 (X.env :: X.outer) a (L2N.Zn cls d) X.env.locals h2 → True := fun _ => trivial
  have he2 : h2.get? a = some oe := (old a (data he hd)).trans he
  have hT2 : h2.get? T = some oT := (old T (data hT hdT)).trans hT
  unfold PySem.passOn
  refine wpAny_bind (wpAny_field he2 hd h1' ?_)
  rw [if_neg (show ¬ ((Value.ref T == Value.none) = true) from by simp)]
  rw [cF, hf]
  refine wpAny_bind ?_
  have fl2 : HandSPX.FlyingZ B2 (X.env :: X.outer) a (L2N.Zn cls d) h2 ∨ HandSPX.HeldZ B2 (X.env :: X.outer) a (L2N.Zn cls d) X.env.locals h2 :=
    .inr ⟨fun b o e => (inB b o e).1, noB a k2, f2, oe, vs, T, oT, ts, he2, hz, hd, h1', noB T hnT, hTe, hT2, hdT, h3'⟩
  have fin : ∀ h3, HandSPX.HeldZ B2 (X.env :: X.outer) a (L2N.Zn cls d) X.env.locals h3 → h2.UpToSlots h3 → X.xe (.ref a) { s' with heap := h3 } := fun h3 hh3 up3 => by
    obtain ⟨G, g1, g2⟩ := restrict h2 fun b => (B.get? b).isSome || decide (b ∈ frs X.stack)
    have inG : ∀ b o, G.get? b = some o → h2.get? b = some o ∧ ((B.get? b).isSome = true ∨ b ∈ frs X.stack) := fun b o e => by
      cases q : ((B.get? b).isSome || decide (b ∈ frs X.stack)) with
      | false => rw [g2 b q] at e; cases e
      | true => rw [g1 b q] at e; exact ⟨e, by simpa [Bool.or_eq_true] using q⟩
    have gB : ∀ b o, b ≠ ce.locals → B.get? b = some o → G.get? b = some o := fun b o hb e => by
      rw [g1 b (by simp [e]), old b hb]
      exact k1 b o e
    have gF : ∀ b, b ∈ frs X.stack → G.get? b = h2.get? b := fun b hb => g1 b (by simp [hb])
    have ltC : ∀ b o, s3.heap.get? b = some o → b ≠ ce.locals := fun b o e => by
      rw [cL]
      exact Nat.ne_of_lt (Heap.lt_size e)
    have slotF : ∀ b o, s3.heap.get? b = some o → b ∈ frs X.stack → b ∉ fp → ∃ sl, G.get? b = some { o with slots := sl } := fun b o e hb hx => by
      have f : s3.heap.FunFrames X.base X.stack := J.ok.funs
      obtain ⟨_, o', e', hnf⟩ := f.mem hb
      rw [e] at e'; cases e'
      obtain ⟨sl1, e1⟩ := J.base.slot b o e (J.ok.frf b hb) hb hx
      obtain ⟨sl2, e2⟩ := ub.slot b _ e1 hb
      obtain ⟨sl3, e3⟩ := up1 b _ e2 hnf
      exact ⟨sl3, by rw [gF b hb, old b (ltC b o e)]; exact e3⟩
    refine tk _ _ ⟨a, B2, { s' with heap := G }, pins, σ, H', cls, d, rfl, I3.call' (ch := fp) ?_ ⟨?_, ?_, ?_, ?_, ?_, ?_, ?_⟩ ?_ ag ?_, fun b o e hb => ?_, ?_, ?_, na, rfl, ag, hE⟩
    · exact os.trans J.os
    · intro b o e n hb hx
      have e1 := J.base.keep b o e n hb hx
      exact gB b o (ltC b o e) (ub.keep b o e1 (J.base.free b o e n hx) hb)
    · exact fun b o e n hb hx => slotF b o e hb hx
    · intro b o e n hx
      obtain ⟨o', e1⟩ := J.base.there b o e hx
      exact ub.free b o' e1 (J.base.free b o e n hx)
    · intro b o e hx
      by_cases hb : b ∈ frs X.stack
      · obtain ⟨sl, q⟩ := slotF b o e hb hx
        exact ⟨_, q⟩
      · obtain ⟨o', e1⟩ := J.base.there b o e hx
        obtain ⟨o2, e2⟩ := ub.there b o' e1 hb
        exact ⟨o2, gB b o2 (ltC b o e) e2⟩
    · exact fun b xs e => ub.tups b xs (J.base.tups b xs e)
    · exact fun b o xs e => ub.frzs b o xs (J.base.frzs b o xs e)
    · intro b ps e
      obtain ⟨more1, e1⟩ := J.base.tbls b ps e
      obtain ⟨more2, e2⟩ := ub.tbls b _ e1
      exact ⟨more1 ++ more2, by rw [e2, Array.append_assoc]⟩
    · intro b o q
      refine (hok b o q).stay (fun c v hc r => gB c v (fun z => ?_) r) (fun _ r => r) fun _ _ r => r
      rcases hc with hc | hc
      · rw [hc] at z; rw [z, hC'] at q; cases q
      · rw [z, hC'] at hc; cases hc
    · exact fun b hb => ⟨(f3 b hb).1.2.2.2.1, (f3 b hb).1.2.1, (f3 b hb).1.2.2.2.2.1, (f3 b hb).1.2.2.2.2.2⟩
    · obtain ⟨e', h⟩ := inG b o e
      rcases h with h | h
      · rw [b1 b h]
        exact e'
      · exact absurd h hb
    · exact (Heap.UpToSlots.of_keeps fun b o e => (inG b o e).1).trans up3
    · rw [hs]
      exact .inr (.inr hh3)
  rcases fl2 with z | z
  · exact HandSPX.setFlight_upZ z fun h3 hh3 up3 => wpAny_throw (fin h3 hh3 up3)
  · exact HandSPX.setFlight_onZ z fun h3 hh3 up3 => wpAny_throw (fin h3 hh3 up3)
theorem block_startX {scope : Scope} {own : List (Str × Nat)} {H : Hp} {s : Shared} {fp : List Addr} {xe : Value → Shared → Prop}
    (I : Inv (X.blk s H scope (compEnvC scope (cellsFrom (s.heap.objs.size + 1) scope.names (cloFrom X.env.cells scope.names [])) s.heap.objs.size X.env) fp) [] σ H { s with heap := pushCells (s.heap.push { cls := .type "dict", data := .dict #[] }) scope.names }) :
    Inv (Blk X s H scope (compEnvC scope (cellsFrom (s.heap.objs.size + 1) scope.names (cloFrom X.env.cells scope.names [])) s.heap.objs.size X.env) fp xe) [] σ H { s with heap := pushCells (s.heap.push { cls := .type "dict", data := .dict #[] }) scope.names } :=
  ⟨⟨I.ok.mod, I.ok.kind, I.ok.glob, I.ok.blt, I.ok.above, I.ok.inj, I.ok.has, I.ok.cab, I.ok.hd, I.ok.frames, I.ok.stk, I.ok.exf, I.ok.bs, I.ok.bsz, I.ok.noex, I.ok.exfs, I.ok.funs, I.ok.frf⟩, I.os, I.bare, I.base, I.loc, I.cell, I.free, I.freeC, I.pin, I.hok, I.len⟩
/-- the reading: as of pe_lc, the element's wish by what the def may let out -/
theorem pe_lcX {elt tg iter : Expr} {ifs : List Expr} {scope : Scope} {own : List (Str × Nat)} {pos : Pos} {wi : TI} {g : TG} {tt : TT} {te : XK → TE} (hc : X.calm = true) (hN : X.N.Nodup) (hs : X.stack = X.env :: X.outer) (hf : X.env.frame = some X.env.locals) (tk : L2N.Takes X W)
    (hi : PI X tg iter wi) (ok : BlkOk X.N X.env.scope scope own)
    (hg : ∀ (s : Shared) (H : Hp) (C : Addr) (cl : List (Str × Addr)) (fp : List Addr) (xe : Value → Shared → Prop), PG (Blk X s H scope (compEnvC scope cl C X.env) fp xe) tg g)
    (ht : ∀ (s : Shared) (H : Hp) (C : Addr) (cl : List (Str × Addr)) (fp : List Addr) (xe : Value → Shared → Prop), PTs (Blk X s H scope (compEnvC scope cl C X.env) fp xe) ifs tt)
    (he : ∀ (s : Shared) (H : Hp) (C : Addr) (cl : List (Str × Addr)) (fp : List Addr) (xe : Value → Shared → Prop) (E : XK), (∀ σ', PassesAt (L2N.CX X.prog X.w) (Blk X s H scope (compEnvC scope cl C X.env) fp xe) σ' E) → PE (Blk X s H scope (compEnvC scope cl C X.env) fp xe) elt (te E))
    (hfs : ∀ x, foldedSetIterable iter X.env x = pure x := by intro _; rfl) :
    PE X (.ListComp elt [⟨tg, iter, ifs, 0⟩] scope pos) (fun σ H Q => tLc wi g tt (te fun cls d H' => W cls d σ H') (own.map (·.2)) σ H Q) := by
  refine ⟨fun pins s σ H Q I h => ?_⟩
  rw [eval_ListComp]
  have hfree : ∀ y ∈ scope.names, y.2 = .free → ∃ c, X.env.cells.lookup y.1 = some c := fun y hy e => by
    rcases ok.free y hy e with k | k
    · exact I.ok.has _ (.inl k)
    · exact I.ok.has _ (.inr k)
  refine comprehension_at (use := none) rfl hfs (closure_ok hfree) ok.kind (fun y hy e => by rw [ok.uniq y hy, e])
    (thn (hi.run pins s σ H _ I h) fun xv s1 hx => thn hx fun itv s2 h2 => ?_)
  obtain ⟨it, fp, tn, J, H2, e, I2, T, st2, f2, q⟩ := h2
  subst e
  refine wpAny_newObj_type (newEnv_comp ?_) (by show 0 ≤ sizeLine; decide)
  generalize hD : s2.heap.objs.size = D
  have hDn : H2 D = none := I2.hok.fresh (Nat.le_of_eq hD)
  obtain ⟨WW, ⟨m0, w0⟩, turn⟩ := q D hDn
  generalize hs3 : ({ s2 with heap := s2.heap.push { cls := .type "list", data := .seq ([] : List Value).toArray } } : Shared) = s3
  have I3 : Inv X pins σ (upd H2 D (.lst [])) s3 := by
    rw [← hs3]
    refine I2.laid (t' := s2.toks) (fun b o e => Heap.get?_push_of_some _ e) (Nat.le_of_eq hD) ⟨Nat.zero_le _, [], 0, .nil, ?_⟩
    rw [← hD]
    exact Heap.get?_push_size _ rfl
  have h3 : s3.heap = s2.heap.push { cls := .type "list", data := .seq ([] : List Value).toArray } := by rw [← hs3]
  have sz : ∀ b ∈ fp, b < s2.heap.objs.size := fun b hb => by
    obtain ⟨o, e, _⟩ := T.obj _ _ st2 b hb
    exact Heap.lt_size e
  have f3 : ∀ b ∈ fp, FpOk X pins (upd H2 D (.lst [])) b ∧ b < s3.heap.objs.size := fun b hb => by
    have hlt := sz b hb
    refine ⟨⟨?_, (f2 b hb).2⟩, by rw [h3, Heap.size_push]; exact Nat.lt_succ_of_lt hlt⟩
    rw [upd_ne (by rw [← hD]; exact Nat.ne_of_lt hlt)]
    exact (f2 b hb).1
  have st3 : tn 0 s3.heap := T.keep _ _ _ st2 fun b _ o e => by rw [h3]; exact Heap.get?_push_of_some _ e
  generalize hxe : notedBy (model X.prog X.w) X.A (compEnvC scope (cellsFrom (s3.heap.objs.size + 1) scope.names (cloFrom X.env.cells scope.names [])) s3.heap.objs.size X.env) (CompFails (model X.prog X.w) X.A X.xe (compEnvC scope (cellsFrom (s3.heap.objs.size + 1) scope.names (cloFrom X.env.cells scope.names [])) s3.heap.objs.size X.env)) = xe
  have I4 := block_startX (own := own) (xe := xe) (block_start I3 ok hN f3)
  have pg := hg s3 (upd H2 D (.lst [])) s3.heap.objs.size (cellsFrom (s3.heap.objs.size + 1) scope.names (cloFrom X.env.cells scope.names [])) fp xe
  have pt := ht s3 (upd H2 D (.lst [])) s3.heap.objs.size (cellsFrom (s3.heap.objs.size + 1) scope.names (cloFrom X.env.cells scope.names [])) fp xe
  have pe := he s3 (upd H2 D (.lst [])) s3.heap.objs.size (cellsFrom (s3.heap.objs.size + 1) scope.names (cloFrom X.env.cells scope.names [])) fp xe (fun cls d H' => W cls d σ H') (fun σ' pins' H4 s4 u s' J c => by
    show xe u s'
    rw [← hxe]
    exact blk_fails I3 hs hf tk f3 rfl rfl J c)
  show codeAny _ _ (.compStart (.ListComp elt [⟨tg, iter, ifs, 0⟩] scope pos) 0 (.ref it) (.ref D) (compEnvC scope (cellsFrom (s3.heap.objs.size + 1) scope.names (cloFrom X.env.cells scope.names [])) s3.heap.objs.size X.env)) (compEnds (model X.prog X.w) X.A X.xe none (EP X pins σ Q) (.ref D) (compEnvC scope (cellsFrom (s3.heap.objs.size + 1) scope.names (cloFrom X.env.cells scope.names [])) s3.heap.objs.size X.env)) { s3 with heap := pushCells (s3.heap.push { cls := .type "dict", data := .dict #[] }) scope.names }
  have nfp : ∀ b ∈ fp, (upd H2 D (.lst [])) b = none := fun b hb => (f3 b hb).1.1
  generalize hce : compEnvC scope (cellsFrom (s3.heap.objs.size + 1) scope.names (cloFrom X.env.cells scope.names [])) s3.heap.objs.size X.env = ce at I4 pg pt pe hxe ⊢
  have cL : ce.locals = s3.heap.objs.size := by subst hce; rfl
  generalize hH3 : upd H2 D (.lst []) = H3 at I3 I4 pg pt pe w0 nfp f3
  generalize hs4 : ({ s3 with heap := pushCells (s3.heap.push { cls := .type "dict", data := .dict #[] }) scope.names } : Shared) = s4 at I4 ⊢
  have st4 : tn 0 s4.heap := T.keep _ _ _ st3 fun b _ o e => by rw [← hs4]; exact pushCells_keeps _ _ _ _ (Heap.get?_push_of_some _ e)
  have stat : ∀ {σ' : L2.St} {H' : Hp} {s' : Shared}, Inv (Blk X s3 H3 scope ce fp xe) [] σ' H' s' → (∀ b ∈ fp, H' b = none) → ∀ b ∈ fp, FpOk (Blk X s3 H3 scope ce fp xe) [] H' b := fun {σ' H' s'} I' hn b hb =>
    ⟨hn b hb, (I'.ok.exf b hb).1, I'.ok.exfs b hb, .inl hb, fun x c e => (I'.ok.exf b hb).2 x c e, fun p hp => absurd (show p ∈ ([] : List (Addr × Obj)) ++ [] from hp) (by simp)⟩
  have loop : codeAny (model X.prog X.w) X.A (.compLoop (.ListComp elt [⟨tg, iter, ifs, 0⟩] scope pos) 0 (.ref it) (.ref D) ce) (compEnds (model X.prog X.w) X.A X.xe none (EP X pins σ Q) (.ref D) ce) s4 := by
    refine compLoop_any (fun n s' => ∃ i H', Inv (Blk X s3 H3 scope ce fp xe) [] (wipe σ (own.map (·.2))) H' s' ∧ tn i s'.heap ∧ (∀ b ∈ fp, H' b = none) ∧ WW i n H') ?_ m0 ⟨0, H3, I4, st4, nfp, w0⟩
    rintro n s5 ⟨i, H5, I5, st5, n5, w5⟩
    have hE : (notedBy (model X.prog X.w) X.A ce fun e s' => compEnds (model X.prog X.w) X.A X.xe none (EP X pins σ Q) (.ref D) ce (.error e) s') = xe := by rw [← hxe] <;> rfl
    rw [hE]
    rcases turn i n H5 w5 with ⟨stop, qq⟩ | ⟨go, Nx, hNx, step⟩
    · have td := T.done (Blk X s3 H3 scope ce fp xe) rfl rfl rfl hc i [] s5 _ H5 (fun _ _ => False) I5 (stat I5 n5) st5 stop
      refine thnF td fun r s6 ⟨hr, I6⟩ => ?_
      subst hr
      have I7 : Inv X pins σ H5 s6 := I3.call' (ch := fp) I6.os I6.base I6.hok I6.bare fun b hb => ⟨(f3 b hb).1.2.2.2.1, (f3 b hb).1.2.1, (f3 b hb).1.2.2.2.2.1, (f3 b hb).1.2.2.2.2.2⟩
      have nC : H5 s3.heap.objs.size = none := by
        have z : H5 ce.locals = none := I6.free
        rw [cL] at z
        exact z
      obtain ⟨m, hn, _⟩ := I6.loc
      have hn : s6.heap.Ns ce.locals m := hn
      refine ⟨m, hn, fun h'' sb => ?_⟩
      rw [cL] at sb
      obtain ⟨f0, f1, f2', f3', f4, f5⟩ := I3.fpOk (Nat.le_refl _) nC
      exact ⟨.ref D, H5, I7.turned (t' := s6.toks) (fun b o hb e => (sb.2 b hb).trans e) f0 f1 f3' f4 f5, rfl, qq⟩
    · have ti := T.item (Blk X s3 H3 scope ce fp xe) rfl rfl rfl hc i [] s5 _ H5 (fun _ _ => False) I5 (stat I5 n5) st5 go
      refine thnF ti fun r s6 ⟨u, hr, h6⟩ => ?_
      subst hr
      refine thnF h6 fun _ s7 ⟨x, H7, I7, r7, y7, st7, n7⟩ => ?_
      have I7' := I7.pinned (stat I7 n7) (T.obj _ _ st7)
      refine thn (pg.run _ s7 _ H7 x u _ I7' r7 (step x H7 y7)) fun _ s8 ⟨σ8, H8, I8, hw8, q8⟩ => ?_
      refine thn (pt.run _ s8 σ8 H8 _ I8 q8) fun b s9 ⟨H9, I9, q9⟩ => ?_
      have fin : ∀ {s' : Shared} {H' : Hp}, Inv (Blk X s3 H3 scope ce fp xe) ([] ++ pinsAt fp s7.heap) σ8 H' s' → Nx H' → ∃ m, m < n ∧ ∃ i H', Inv (Blk X s3 H3 scope ce fp xe) [] (wipe σ (own.map (·.2))) H' s' ∧ tn i s'.heap ∧ (∀ b ∈ fp, H' b = none) ∧ WW i m H' := fun {s' H'} I' nx => by
        obtain ⟨m', hm, w'⟩ := hNx H' nx
        have pin' : ∀ b ∈ fp, ∀ o, s7.heap.get? b = some o → s'.heap.get? b = some o ∧ H' b = none := fun b hb o e =>
          let z := I'.pin (b, o) (List.mem_append_right _ (List.mem_append_right _ (mem_pinsAt hb e)))
          ⟨z.1, z.2.1⟩
        have hl : (wipe σ (own.map (·.2))).length = σ8.length := by rw [← hw8, wipe_length]
        refine ⟨m', hm, i + 1, H', (I'.unpinned (pins := [])).weak hl (fun j v e => ?_), T.keep _ _ _ st7 fun b hb o e => (pin' b hb o e).1, fun b hb => ?_, w'⟩
        · rw [← hw8] at e
          exact (wipe_some e).1
        · obtain ⟨o, e, _⟩ := T.obj _ _ st7 b hb
          exact (pin' b hb o e).2
      cases b with
      | false =>
        simp only [Bool.false_eq_true, if_false] at q9 ⊢
        exact fin I9 q9
      | true =>
        simp only [if_true] at q9 ⊢
        refine thn (pe.run _ s9 σ8 H9 _ I9 q9) fun z s10 ⟨yv, H10, I10, r10, acc, hD10, hz10, nx⟩ => ?_
        exact app_ok (X := Blk X s3 H3 scope ce fp xe) I10 hD10 hz10 r10 fun s11 I11 => fin I11 nx
  exact codeAny_compStart_list loop (T.self X.A 0 _ _ _ st4 loop)
end
end WtX

-- WtRing
set_option maxHeartbeats 4000000
/-! FitError.__init__(self, ..) within an own __init__; such an exception made where nothing is handled -/
namespace WtR
open PySem PySem.Spec PyProof.Rows L2
section
variable {X : Cx} {e : Expr} {es : List Expr} {ta : TA} {f : Str} {p p1 p2 pos : Pos} {B : Addr}
theorem pe_binit {x : Str} {pl : Sem Bool} (hg : Gl X x) (hm : X.mg x = some (.ref B)) (rd : PySem.W.readsIn X.K B (.type "type") = true) (ga : PySem.W.specialIn X.K (.ref B) "__getattribute__" = some (some (.builtin "type.__getattribute__")))
    (vV : PySem.W.findCls X.K (.ref B) (.type "type") "__init__" = some (.val (.builtin "ValueError.__init__"))) (ha : PA X (e :: es) ta) (hdb : (x == ("__debug__" : Str)) = false)
    (hc : eval (.Call (.Attribute (.Name x p1) "__init__" p2) (e :: es) [] pos) X.env = (do
      let ov ← eval (.Name x p1) X.env
      standAt p2.atName
      let (f, first) ← holding [ov] (getMethod ov "__init__" pl)
      callWith pos f first (backTo pos (starEach (e :: es) X.env)) (backToKw pos (keywordEach [] X.env))))
    (he : starEach (e :: es) X.env = (false, eval e X.env) :: starEach es X.env := by rfl) (hpl : (backTo pos (starEach es X.env)).any (·.1) = false := by rfl) :
    PE X (.Call (.Attribute (.Name x p1) "__init__" p2) (e :: es) [] pos) (tVeI X.K ta) := by
  refine ⟨fun pins s σ H Q I h => ?_⟩
  refine PySem.W.methodCall_KW (ld_glob I hg hm ?_ hdb) hc
  refine PySem.W.method_cls I.kIn ga (PySem.W.cls_value I.kIn rd vV (by rfl) ?_)
  show wpAny _ _ (callWith pos (Value.builtin "ValueError.__init__") [] (backTo pos (starEach (e :: es) X.env)) []) _ _ _
  refine PyProof.Rows.callWith_method1 (thn (ha.run pos pins _ σ H _ (I.tok _) h) fun us s1 ⟨vs, H1, I1, r1, a, C, ws, ev, hl, T, ea, q⟩ => ?_) he hpl
  subst ev
  cases r1 with
  | @cons _ u0 _ ur ra rw' =>
    obtain rfl : u0 = Value.ref a := ra
    have hlen : ur.length ≤ sizeLine := by
      rw [← Paired.length rw', sizeLine_eq]
      omega
    exact oinit_ok T I1 ea hlen fun s' J => ⟨.non, H1, J, rfl, q⟩
/-- C(e, ..), C's own __init__ keeping sp; its context is None -/
theorem pmk_oexN {CX : CXT} {x : Str} {C fI : Addr} {k : Nat} {fd : FuncData} {ps : List Str} {sp : Sp} (T : OexC X.K C) (iC : PySem.W.findIn X.K (.ref C) "__init__" = some (some (.ref fI))) (tI : PySem.W.typeIn X.K (.ref fI) = some (.type "function"))
    (F1 : FnOk X.prog X.w X.K X.mg X.base CX k fI fd ps sp) (hr : Room (k + 1) X.A) (hb : Binds X.K fd ps []) (hx : Passes CX X (fun _ _ _ => False)) (hg : Gl X x) (hm : X.mg x = some (.ref C)) (ha : PA X (e :: es) ta)
    (hdb : (x == ("__debug__" : Str)) = false := by decide) (he : starEach (e :: es) X.env = (false, eval e X.env) :: starEach es X.env := by rfl) (hpl : (backTo pos (starEach es X.env)).any (·.1) = false := by rfl) :
    L2N.PMk X (.Call (.Name x p) (e :: es) [] pos) (tMkO C sp [] ta) := by
  intro pins s σ H Q I h
  obtain ⟨nm, q, N, bs, bm, sn, sub, ab, col, dd, k0, k1, k2, k3, k5, hC, hbm⟩ := T.cls
  refine wpAny_Call_Name_kw (ld_glob I hg hm ?_ hdb)
  refine PySem.W.callWith_K (h₀ := X.base) I.ok.mod.kin T.kC (thn (ha.run pos pins s σ H _ I h) fun us s1 ⟨vs, H1, I1, r1, hz, q1⟩ => ⟨I1.kIn, ?_⟩) he hpl
  show wpAny _ _ (call (.ref C) us) _ _ _
  obtain ⟨hp, g, dr, tk, os⟩ := s1
  have hsz : hp.objs.size ≤ hp.objs.size + 1 := Nat.le_succ _
  have hn : H1 (hp.objs.size + 1) = none := I1.hok.fresh hsz
  have hq := q1 (hp.objs.size + 1) hn
  rw [List.append_nil] at hq
  have kk : ∀ b o, hp.get? b = some o → ((hp.push (PySem.W.kdv_tup us)).push (PySem.HandSPX.excO C hp.objs.size)).get? b = some o := fun b o e => Heap.get?_push_of_some _ (Heap.get?_push_of_some _ e)
  have hget : ((hp.push (PySem.W.kdv_tup us)).push (PySem.HandSPX.excO C hp.objs.size)).get? (hp.objs.size + 1) = some (PySem.HandSPX.excO C hp.objs.size) := by heap_get
  have I2 : Inv X pins σ (upd H1 (hp.objs.size + 1) (exo (hp.objs.size + 1) C none)) ⟨(hp.push (PySem.W.kdv_tup us)).push (PySem.HandSPX.excO C hp.objs.size), g, dr, tk, os⟩ :=
    I1.laid (t' := tk) (a := hp.objs.size + 1) (o := exo (hp.objs.size + 1) C none) (h' := (hp.push (PySem.W.kdv_tup us)).push (PySem.HandSPX.excO C hp.objs.size)) kk hsz (exo_ok hget)
  have r2 : Vals (V.ref (hp.objs.size + 1) :: vs) (Value.ref (hp.objs.size + 1) :: us) := .cons rfl r1
  have hl : (Value.ref (hp.objs.size + 1) :: us ++ []).length = ps.length := by
    have e := r2.length
    rw [F1.len _ _ _ _ hq] at e
    rw [List.append_nil]
    exact e.symm
  have hus : us.length ≤ sizeLine := by
    rw [← Paired.length r1, sizeLine_eq]
    omega
  have b2 := hb _ (Value.ref (hp.objs.size + 1) :: us) I2.kIn hl
  rw [List.append_nil] at b2
  refine wpAny_call (PySem.HandSPX.call_own F.excBase_ValueError (fun Y => PySem.HandSPX.refsVE_contains Y bm hbm) (I1.kIn _ _ hC) (PySem.W.looks_findIn I1.kIn iC) (fun self => PySem.W.bind_fn I1.kIn self tI) hus
    (codeAny_mono (F1.run _ X.stack _ _ ⟨Value.ref (hp.objs.size + 1) :: us, []⟩ (Value.ref (hp.objs.size + 1) :: us) _ _ (fun _ _ _ => False) (hr.make C us []) (I2.env0.make C us []) b2 r2 hq) fun r s' hq' => ?_))
  cases r with
  | error er => exact hx pins σ _ _ er s' I2 hq'
  | ok fl =>
    cases fl with
    | ret u =>
      obtain ⟨v, H2, os2, bare2, un2, hok2, rv, ev, d, fs, ea, ed, hd1, q2⟩ := hq'
      subst ev
      obtain ⟨h2, g2, d2, t2, os'⟩ := s'
      obtain ⟨t0, G, J, kG, ge, hoe, na⟩ := mk_end0 (d2 := d2) (t2 := t2) I1 hsz kk un2 hok2 os2 bare2 ea ed hd1
      exact ⟨rv, hp.objs.size + 1, _, _, ⟨G, g2, d2, t2, os'⟩, _, .ref C, some d, rfl, J, kG, ge, hoe, ⟨rfl, rfl, fun vs hv => by cases hv; rfl⟩, rfl, rfl, na, rfl, bare2, raises_own T.exC T.tyC, q2⟩
    | next => exact False.elim hq'
    | brk => exact False.elim hq'
    | cont => exact False.elim hq'
end
theorem passN0 {X : Cx} : Passes (L2N.CX X.prog X.w) X (fun _ _ _ => False) := fun _ _ _ _ _ _ _ c => by
  obtain ⟨a, B, H', cls, d, _, _, _, _, _, _, _, h⟩ := c
  exact h.elim
end WtR

-- WtHot
set_option maxHeartbeats 4000000
/-! a def that is called within an except suite: lists walked, tuples unpacked, the handled exception asked -/
namespace WtH
open PySem PySem.Spec PyProof.Rows L2 L2H HotX
section
variable {prog : Program} {w : World} {A : Around} {E : Value → Shared → Prop} {s : Shared}
theorem hot_ne {x1 it : Addr} {o : Obj} {x y : Value} (hot : HotAt A x1 s.heap) (ho : s.heap.get? it = some o) (hd : o.data = .fields #[x, y]) : x1 ≠ it := fun z => by
  obtain ⟨_, o1, vs1, h1, d1, c1⟩ := hot
  rw [z, ho] at h1
  cases h1
  rw [hd] at d1
  cases d1
  exact absurd c1 (by simp)
theorem list_end_hot {it l x1 : Addr} {i : Nat} {items : Array Value} {Q : Option Value → Shared → Prop} (hot : HotAt A x1 s.heap)
    (hit : s.heap.IsListIter it l i) (hl : s.heap.IsList l items) (hx : items[i]? = none)
    (hQ : ∀ h', Heap.ExtBut it s.heap h' → Q none { s with heap := h' }) : wpAny (model prog w) A (pyNext (.ref it)) Q E s := by
  obtain ⟨o, ho, hc, hd⟩ := id hit
  obtain ⟨ol, hol, _, nl, hdl⟩ := hl
  have ne := hot_ne hot ho hd
  obtain ⟨hh, o1, vs1, h1, d1, c1⟩ := hot
  unfold pyNext
  refine wpAny_bind (wpAny_attempt (wpAny_callSpecial?_slot (name := Str.ofString "__next__") hit.typeIs slot_listiter_next
    (wpAny_call_entry slot_listiter_next hit.typeIs entry_listiter_next ?_ (args_listiter_next _))))
  show wpAny _ _ (field (.ref it) 0 >>= _) _ _ s
  refine wpAny_bind (wpAny_field ho hd (x := .ref l) rfl ?_)
  show wpAny _ _ (if (Value.ref l == Value.none) = true then _ else _) _ _ s
  rw [if_neg (show ¬ ((Value.ref l == Value.none) = true) from Bool.false_ne_true)]
  show wpAny _ _ (field (.ref it) 1 >>= _) _ _ s
  refine wpAny_bind (wpAny_field ho hd (x := .int i 0) rfl ?_)
  show wpAny _ _ (seqItems? (.ref l) >>= _) _ _ s
  refine wpAny_bind (wpAny_seqItems hol hdl ?_)
  simp only [Int.toNat_natCast, hx]
  refine wpAny_bind (wpAny_rule (wpAny_bind (wpAny_setField ho hd (by simp) ?_)))
  show wpAny _ _ (newExc (.type "StopIteration") [] >>= _) _ _ _
  refine wpAny_bind ?_
  simp only [newExc, newTuple]
  refine wpAny_bind (wpAny_newObj_type ?_ (by size_fits))
  refine wpAny_bind (m := firstArgMember _ _) (wpAny_of_eq (a := Value.none) (by first | rfl | (simp only [firstArgMember]; rfl)) ?_)
  refine wpAny_newObj_type ?_ (by size_fits)
  have h1' : (s.heap.update it (Obj.mapFields fun vs => vs.setIfInBounds 0 Value.none)).get? x1 = some o1 := (Heap.get?_update_other _ _ (Ne.symm ne)).trans h1
  refine raiseNew_hot ⟨hh, o1, vs1, Heap.get?_push_of_some _ (Heap.get?_push_of_some _ h1'), d1, c1⟩ (Nat.ne_of_lt (Heap.lt_size (Heap.get?_push_of_some _ h1'))) (Heap.get?_push_size _ rfl) rfl (by first | (simp; done) | (simp; omega) | (simp only [Array.size_append]; simp; omega)) ?_
  refine wpAny_bind (wpAny_isInstance (T := "StopIteration") (b := true) ⟨_, Heap.get?_update_self _ (Heap.get?_push_size _ rfl) rfl, rfl⟩ isSubtype_stop ?_)
  refine wpAny_pure (hQ _ fun b o hb e => ?_)
  have e' : (s.heap.update it (Obj.mapFields fun vs => vs.setIfInBounds 0 Value.none)).get? b = some o := (Heap.get?_update_other _ _ (Ne.symm hb)).trans e
  rw [Heap.get?_update_other _ _ (Nat.ne_of_gt (Heap.lt_size (Heap.get?_push_of_some _ e')))]
  exact Heap.get?_push_of_some _ (Heap.get?_push_of_some _ e')
theorem tup_end_hot {it t x1 : Addr} {i : Nat} {items : Array Value} {Q : Option Value → Shared → Prop} (hot : HotAt A x1 s.heap)
    (hit : IsTupIter s.heap it t i) (ht : IsTup s.heap t items) (hx : items[i]? = none)
    (hQ : ∀ h', Heap.ExtBut it s.heap h' → Q none { s with heap := h' }) : wpAny (model prog w) A (pyNext (.ref it)) Q E s := by
  obtain ⟨o, ho, hc, hd⟩ := id hit
  obtain ⟨ol, hol, _, nl, hdl⟩ := ht
  have ne := hot_ne hot ho hd
  obtain ⟨hh, o1, vs1, h1, d1, c1⟩ := hot
  unfold pyNext
  refine wpAny_bind (wpAny_attempt (wpAny_callSpecial?_slot (name := Str.ofString "__next__") hit.typeIs slot_tupleiter_next
    (wpAny_call_entry slot_tupleiter_next hit.typeIs entry_tupleiter_next ?_ (args_tupleiter_next _))))
  show wpAny _ _ (field (.ref it) 0 >>= _) _ _ s
  refine wpAny_bind (wpAny_field ho hd (x := .ref t) rfl ?_)
  show wpAny _ _ (if (Value.ref t == Value.none) = true then _ else _) _ _ s
  rw [if_neg (show ¬ ((Value.ref t == Value.none) = true) from Bool.false_ne_true)]
  show wpAny _ _ (field (.ref it) 1 >>= _) _ _ s
  refine wpAny_bind (wpAny_field ho hd (x := .int i 0) rfl ?_)
  show wpAny _ _ (seqItems? (.ref t) >>= _) _ _ s
  refine wpAny_bind (wpAny_seqItems hol hdl ?_)
  simp only [Int.toNat_natCast, hx]
  refine wpAny_bind (wpAny_rule (wpAny_bind (wpAny_setField ho hd (by simp) ?_)))
  show wpAny _ _ (newExc (.type "StopIteration") [] >>= _) _ _ _
  refine wpAny_bind ?_
  simp only [newExc, newTuple]
  refine wpAny_bind (wpAny_newObj_type ?_ (by size_fits))
  refine wpAny_bind (m := firstArgMember _ _) (wpAny_of_eq (a := Value.none) (by first | rfl | (simp only [firstArgMember]; rfl)) ?_)
  refine wpAny_newObj_type ?_ (by size_fits)
  have h1' : (s.heap.update it (Obj.mapFields fun vs => vs.setIfInBounds 0 Value.none)).get? x1 = some o1 := (Heap.get?_update_other _ _ (Ne.symm ne)).trans h1
  refine raiseNew_hot ⟨hh, o1, vs1, Heap.get?_push_of_some _ (Heap.get?_push_of_some _ h1'), d1, c1⟩ (Nat.ne_of_lt (Heap.lt_size (Heap.get?_push_of_some _ h1'))) (Heap.get?_push_size _ rfl) rfl (by first | (simp; done) | (simp; omega) | (simp only [Array.size_append]; simp; omega)) ?_
  refine wpAny_bind (wpAny_isInstance (T := "StopIteration") (b := true) ⟨_, Heap.get?_update_self _ (Heap.get?_push_size _ rfl) rfl, rfl⟩ isSubtype_stop ?_)
  refine wpAny_pure (hQ _ fun b o hb e => ?_)
  have e' : (s.heap.update it (Obj.mapFields fun vs => vs.setIfInBounds 0 Value.none)).get? b = some o := (Heap.get?_update_other _ _ (Ne.symm hb)).trans e
  rw [Heap.get?_update_other _ _ (Nat.ne_of_gt (Heap.lt_size (Heap.get?_push_of_some _ e')))]
  exact Heap.get?_push_of_some _ (Heap.get?_push_of_some _ e')
theorem unpackItems_hot {t x1 : Addr} {items : Array Value} {Q : List Value → Shared → Prop} (hot : HotAt A x1 s.heap) (ht : IsTup s.heap t items)
    (hQ : ∀ h', Heap.ExtBut s.heap.objs.size s.heap h' → Q items.toList { s with heap := h' }) : wpAny (model prog w) A (unpackItems (.ref t) items.size none) Q E s := by
  have hlt : t ≠ s.heap.objs.size := by obtain ⟨o, ho, _⟩ := ht; exact Nat.ne_of_lt (Heap.lt_size ho)
  unfold unpackItems
  refine wpAny_bind ?_
  · unfold notIterableAtAll
    refine wpAny_bind (wpAny_specialOf ht.typeIs slot_tuple_iter.lookup ?_)
    refine wpAny_pure ?_
    simp only [Bool.false_eq_true, if_false]
    refine wpAny_bind (wpAny_holding (iter_tuple ht ?_))
    refine wpAny_bind (wpAny_holding (draw_tuple hlt items.size 0 _ _ ⟨_, Heap.get?_push_size _ rfl, rfl, rfl⟩ (ht.push _) (by omega) fun h₁ hit₁ hs₁ => ?_))
    have hall : List.take items.size (List.drop 0 items.toList) = items.toList := by
      rw [List.drop_zero]; exact List.take_of_length_le (by simp)
    rw [hall]
    rw [if_neg (by simp)]
    have ht₁ : IsTup h₁ t items := (ht.push _).extBut hs₁.extBut hlt
    have hot1 : HotAt A x1 h₁ := by
      obtain ⟨hh, o1, vs1, h1, d1, c1⟩ := hot
      exact ⟨hh, o1, vs1, hs₁.extBut _ _ (Nat.ne_of_lt (Heap.lt_size h1)) (Heap.get?_push_of_some _ h1), d1, c1⟩
    refine wpAny_bind (wpAny_holding (tup_end_hot hot1 hit₁ ht₁ (by simp) fun h₂ he₂ => ?_))
    simp only [Option.isSome_none, Bool.false_eq_true, if_false]
    refine wpAny_pure (hQ h₂ fun b o hb e => he₂ b o hb (hs₁.extBut b o hb (Heap.get?_push_of_some _ e)))
theorem assign_tup_hot {env : Env} {elts : List Expr} {k} {pos : Pos} {t x1 : Addr} {items : Array Value} {Q : Unit → Shared → Prop} (hot : HotAt A x1 s.heap) (ht : IsTup s.heap t items)
    (hn : (assignEach elts env).length = items.size) (hstar : (assignEach elts env).findIdx? (·.1) = none)
    (h : ∀ h', Heap.ExtBut s.heap.objs.size s.heap h' → wpAny (model prog w) A (assignInOrder ((assignEach elts env).map (·.2)) items.toList) Q E { s with heap := h' }) :
    wpAny (model prog w) A (assign (.Tuple elts k pos) env (.ref t)) Q E s := by
  rw [PyProof.Rows.assign_Tuple]
  refine wpAny_bind (wpAny_standAt ?_)
  unfold unpack
  rw [hn, hstar]
  exact wpAny_bind (wpAny_holding (unpackItems_hot hot ht h))
end
section
variable {X : Cx} {pos : Pos}
theorem pg_tupH {es : List Expr} {k : Nat} {t : TGs} {n : Nat} (hc : HotC X) (h : PGs X es t)
    (hn : (assignEach es X.env).length = n := by rfl) (hst : (assignEach es X.env).findIdx? (·.1) = none := by rfl) : PG X (.Tuple es k pos) (gTup X.K n t) := by
  refine ⟨fun pins s σ H v u Q I r hw => ?_⟩
  obtain ⟨a, xs, e1, hq, hl, hw⟩ := hw
  subst e1
  cases r
  obtain ⟨its, rv, ht, hz⟩ := I.tuple hq
  obtain ⟨x1, hot⟩ := hc.at I
  refine assign_tup_hot hot ht (by simp [hn, ← hl, rv.length]) hst fun h' hx => ?_
  have I1 : Inv X pins σ H { s with heap := h' } := I.kept (t' := s.toks) fun b o e => hx b o (Nat.ne_of_lt (Heap.lt_size e)) e
  exact h.run pins _ σ H xs _ Q I1 (by simpa using rv) hw
theorem turn_listH {P : Program} {w : World} {K : PySem.W.Frag} {tg : Expr} (a it : Addr) : TurnH P w K tg (Itl K a) [it] it (fun i h => h.IsListIter it a i) where
  mem := by simp
  obj := fun i h st b hb => by
    have e : b = it := by simpa using hb
    subst e
    obtain ⟨o, e, c, d⟩ := st
    exact ⟨o, e, fun v z => by rw [d] at z; cases z⟩
  keep := fun i h h' st k => st.at fun o e => k it (by simp) o e
  item := by
    intro X hP hw hK hc i pins s σ H E I hf st hg
    subst hP hw hK
    obtain ⟨xs, x, hq, hx⟩ := hg
    obtain ⟨its, rv, p, hz⟩ := I.list hq
    obtain ⟨u, hu, ru⟩ := rv.get hx
    obtain ⟨f0, f1, f2, f3, f4, f5⟩ := hf it (by simp)
    refine wpAny_pyNext_list_item st p.isList (x := u) (by simpa using hu) fun h' st' sb => ?_
    have I1 : Inv X pins σ H { s with heap := h' } := I.turned (t' := s.toks) (fun b o hb e => (sb.2 b hb).trans e) f0 f1 f3 f4 f5
    obtain ⟨o, e, c, d⟩ := id st'
    exact ⟨u, rfl, go_of (s := { s with heap := h' }) e c d (by decide) ⟨x, H, I1, ru, ⟨rfl, fun ys hy => by rw [I.list_inj hy hq]; exact hx⟩, st', fun b hb => (hf b hb).1⟩⟩
  done := by
    intro X hP hw hK hc i pins s σ H E I hf st hg
    subst hP hw hK
    obtain ⟨xs, hq, hx⟩ := hg
    obtain ⟨its, rv, p, hz⟩ := I.list hq
    obtain ⟨f0, f1, f2, f3, f4, f5⟩ := hf it (by simp)
    have hl := rv.length
    obtain ⟨x1, hot⟩ := hc.at I
    exact list_end_hot hot st p.isList (by simp; omega) fun h' eb => ⟨rfl, I.turned (t' := s.toks) (fun b o hb e => eb b o hb e) f0 f1 f3 f4 f5⟩
  self := fun _ _ _ _ _ st h => wpAny_pyIter_listiter st h
theorem pi_listH {tg l : Expr} {tl : TE} (hl : PE X l tl) : PIH X tg l (iList X.K tl) := by
  refine ⟨fun pins s σ H R I h => ?_⟩
  refine thn (hl.run pins s σ H _ I h) fun v s1 ⟨x, H1, I1, r1, q1⟩ => ?_
  obtain ⟨a, e, ⟨xs, hq⟩, q⟩ := q1
  subst e
  cases r1
  obtain ⟨its, rv, p, hz⟩ := I1.list hq
  refine wpAny_pyIter_list p.isList ?_
  refine ⟨s1.heap.objs.size, [s1.heap.objs.size], _, _, H1, rfl, I1.kept (t' := s1.toks) fun b o e => Heap.get?_push_of_some _ e, turn_listH a _, ⟨_, Heap.get?_push_size _ rfl, rfl, rfl⟩, fun b hb => ?_, q⟩
  have e : b = s1.heap.objs.size := by simpa using hb
  subst e
  exact I1.fpOk (Nat.le_refl _) (I1.hok.fresh (Nat.le_refl _))
/-- a block that bears the handled exception -/
abbrev BlkH (X : Cx) (s : Shared) (H : Hp) (scope : Scope) (cenv : Env) (fp : List Addr) : Cx := { X.blk s H scope cenv fp with pn := X.pn }
theorem hot_blk {s : Shared} {H : Hp} {scope : Scope} {cenv : Env} {fp : List Addr} (hc : HotC X) : HotC (BlkH X s H scope cenv fp) := hc
theorem block_startH {scope : Scope} {σ0 σ : L2.St} {pins : List (Addr × Obj)} {H : Hp} {s : Shared} {fp : List Addr} (I0 : Inv X pins σ0 H s) (hlt : ∀ p ∈ X.pn, p.1 ∉ fp)
    (I : Inv (X.blk s H scope (compEnvC scope (cellsFrom (s.heap.objs.size + 1) scope.names (cloFrom X.env.cells scope.names [])) s.heap.objs.size X.env) fp) [] σ H { s with heap := pushCells (s.heap.push { cls := .type "dict", data := .dict #[] }) scope.names }) :
    Inv (BlkH X s H scope (compEnvC scope (cellsFrom (s.heap.objs.size + 1) scope.names (cloFrom X.env.cells scope.names [])) s.heap.objs.size X.env) fp) [] σ H { s with heap := pushCells (s.heap.push { cls := .type "dict", data := .dict #[] }) scope.names } :=
  ⟨⟨I.ok.mod, I.ok.kind, I.ok.glob, I.ok.blt, I.ok.above, I.ok.inj, I.ok.has, I.ok.cab, I.ok.hd, I.ok.frames, I.ok.stk, I.ok.exf, I.ok.bs, I.ok.bsz, I.ok.noex, I.ok.exfs, I.ok.funs, I.ok.frf⟩, I.os, I.bare, I.base, I.loc, I.cell, I.free, I.freeC, fun p hp => by
    have hp : p ∈ X.pn := by simpa using hp
    obtain ⟨e, n, ne, nf, d⟩ := I0.pin p (List.mem_append_left _ hp)
    refine ⟨pushCells_keeps _ _ _ _ (Heap.get?_push_of_some _ e), n, Nat.ne_of_lt (Heap.lt_size e), fun hm => ?_, d⟩
    rcases List.mem_cons.mp (I0.stkSub p.1 hm) with z | z
    · exact ne z
    · exact nf z, I.hok, I.len⟩
theorem lc_coreH {pins : List (Addr × Obj)} {s : Shared} {σ : L2.St} {H : Hp} {Q : VK} {elt tg iter : Expr} {ifs : List Expr} {scope : Scope} {own : List (Str × Nat)} {pos pos' : Pos} {wi : TI} {g : TG} {tt : TT} {te : TE} {use : Option (Value → Sem Unit)} {Qf : Value → Shared → Prop}
    (hc : HotC X) (hN : X.N.Nodup) (I : Inv X pins σ H s) (hi : PIH X tg iter wi) (ok : BlkOk X.N X.env.scope scope own)
    (hg : ∀ (s : Shared) (H : Hp) (C : Addr) (cl : List (Str × Addr)) (fp : List Addr), PG (BlkH X s H scope (compEnvC scope cl C X.env) fp) tg g) (ht : ∀ (s : Shared) (H : Hp) (C : Addr) (cl : List (Str × Addr)) (fp : List Addr), PTs (BlkH X s H scope (compEnvC scope cl C X.env) fp) ifs tt)
    (he : ∀ (s : Shared) (H : Hp) (C : Addr) (cl : List (Str × Addr)) (fp : List Addr), PE (BlkH X s H scope (compEnvC scope cl C X.env) fp) elt te) (hs : ∀ x, foldedSetIterable iter X.env x = pure x)
    (h : tLc wi g tt te (own.map (·.2)) σ H Q)
    (hRR : ∀ D C s' m H', Inv X pins σ H' s' → Q (.ref D) H' → s'.heap.Ns C m → FpOk X pins H' C → compPost (model X.prog X.w) X.A X.xe use Qf (.ref D) C (.ok .next) s') :
    wpAny (model X.prog X.w) X.A (comprehension (.ListComp elt [⟨tg, iter, ifs, 0⟩] scope pos) scope X.env pos' (newList []) false (eval iter X.env) use) Qf X.xe s := by
  have hfree : ∀ y ∈ scope.names, y.2 = .free → ∃ c, X.env.cells.lookup y.1 = some c := fun y hy e => by
    rcases ok.free y hy e with k | k
    · exact I.ok.has _ (.inl k)
    · exact I.ok.has _ (.inr k)
  refine wpAny_comprehension_free (use := use) rfl hs (closure_ok hfree) ok.kind (fun y hy e => by rw [ok.uniq y hy, e])
    (thn (hi.run pins s σ H _ I h) fun xv s1 hx => thn hx fun itv s2 h2 => ?_)
  obtain ⟨it, fp, tn, J, H2, e, I2, T, st2, f2, q⟩ := h2
  subst e
  refine wpAny_newObj_type (newEnv_comp ?_) (by show 0 ≤ sizeLine; decide)
  generalize hD : s2.heap.objs.size = D
  have hDn : H2 D = none := I2.hok.fresh (Nat.le_of_eq hD)
  obtain ⟨W, ⟨m0, w0⟩, turn⟩ := q D hDn
  generalize hs3 : ({ s2 with heap := s2.heap.push { cls := .type "list", data := .seq ([] : List Value).toArray } } : Shared) = s3
  have I3 : Inv X pins σ (upd H2 D (.lst [])) s3 := by
    rw [← hs3]
    refine I2.laid (t' := s2.toks) (fun b o e => Heap.get?_push_of_some _ e) (Nat.le_of_eq hD) ⟨Nat.zero_le _, [], 0, .nil, ?_⟩
    rw [← hD]
    exact Heap.get?_push_size _ rfl
  have h3 : s3.heap = s2.heap.push { cls := .type "list", data := .seq ([] : List Value).toArray } := by rw [← hs3]
  have sz : ∀ b ∈ fp, b < s2.heap.objs.size := fun b hb => by
    obtain ⟨o, e, _⟩ := T.obj _ _ st2 b hb
    exact Heap.lt_size e
  have f3 : ∀ b ∈ fp, FpOk X pins (upd H2 D (.lst [])) b ∧ b < s3.heap.objs.size := fun b hb => by
    have hlt := sz b hb
    refine ⟨⟨?_, (f2 b hb).2⟩, by rw [h3, Heap.size_push]; exact Nat.lt_succ_of_lt hlt⟩
    rw [upd_ne (by rw [← hD]; exact Nat.ne_of_lt hlt)]
    exact (f2 b hb).1
  have st3 : tn 0 s3.heap := T.keep _ _ _ st2 fun b _ o e => by rw [h3]; exact Heap.get?_push_of_some _ e
  have pfp : ∀ p ∈ X.pn, p.1 ∉ fp := fun p hp hm => (f2 p.1 hm).2.2.2.2.2 p (List.mem_append_left _ hp) rfl
  have I4 := block_startH I3 pfp (block_start (own := own) I3 ok hN f3)
  have pg := hg s3 (upd H2 D (.lst [])) s3.heap.objs.size (cellsFrom (s3.heap.objs.size + 1) scope.names (cloFrom X.env.cells scope.names [])) fp
  have pt := ht s3 (upd H2 D (.lst [])) s3.heap.objs.size (cellsFrom (s3.heap.objs.size + 1) scope.names (cloFrom X.env.cells scope.names [])) fp
  have pe := he s3 (upd H2 D (.lst [])) s3.heap.objs.size (cellsFrom (s3.heap.objs.size + 1) scope.names (cloFrom X.env.cells scope.names [])) fp
  show codeAny _ _ (.compStart (.ListComp elt [⟨tg, iter, ifs, 0⟩] scope pos) 0 (.ref it) (.ref D) (compEnvC scope (cellsFrom (s3.heap.objs.size + 1) scope.names (cloFrom X.env.cells scope.names [])) s3.heap.objs.size X.env)) (compPost (model X.prog X.w) X.A X.xe use Qf (.ref D) s3.heap.objs.size) { s3 with heap := pushCells (s3.heap.push { cls := .type "dict", data := .dict #[] }) scope.names }
  have nfp : ∀ b ∈ fp, (upd H2 D (.lst [])) b = none := fun b hb => (f3 b hb).1.1
  generalize hce : compEnvC scope (cellsFrom (s3.heap.objs.size + 1) scope.names (cloFrom X.env.cells scope.names [])) s3.heap.objs.size X.env = ce at I4 pg pt pe ⊢
  have cL : ce.locals = s3.heap.objs.size := by subst hce; rfl
  generalize hH3 : upd H2 D (.lst []) = H3 at I3 I4 pg pt pe w0 nfp f3
  generalize hs4 : ({ s3 with heap := pushCells (s3.heap.push { cls := .type "dict", data := .dict #[] }) scope.names } : Shared) = s4 at I4 ⊢
  have st4 : tn 0 s4.heap := T.keep _ _ _ st3 fun b _ o e => by rw [← hs4]; exact pushCells_keeps _ _ _ _ (Heap.get?_push_of_some _ e)
  have stat : ∀ {σ' : L2.St} {H' : Hp} {s' : Shared}, Inv (BlkH X s3 H3 scope ce fp) [] σ' H' s' → (∀ b ∈ fp, H' b = none) → ∀ b ∈ fp, FpOk (BlkH X s3 H3 scope ce fp) [] H' b := fun {σ' H' s'} I' hn b hb =>
    ⟨hn b hb, (I'.ok.exf b hb).1, I'.ok.exfs b hb, .inl hb, fun x c e => (I'.ok.exf b hb).2 x c e, fun p hp z => by
      have hp : p ∈ X.pn := by simpa using hp
      exact pfp p hp (by rw [z]; exact hb)⟩
  have loop : codeAny (model X.prog X.w) X.A (.compLoop (.ListComp elt [⟨tg, iter, ifs, 0⟩] scope pos) 0 (.ref it) (.ref D) ce) (compPost (model X.prog X.w) X.A X.xe use Qf (.ref D) s3.heap.objs.size) s4 := by
    refine compLoop_any (fun n s' => ∃ i H', Inv (BlkH X s3 H3 scope ce fp) [] (wipe σ (own.map (·.2))) H' s' ∧ tn i s'.heap ∧ (∀ b ∈ fp, H' b = none) ∧ W i n H') ?_ m0 ⟨0, H3, I4, st4, nfp, w0⟩
    rintro n s5 ⟨i, H5, I5, st5, n5, w5⟩
    rcases turn i n H5 w5 with ⟨stop, qq⟩ | ⟨go, Nx, hNx, step⟩
    · have td := T.done (BlkH X s3 H3 scope ce fp) rfl rfl rfl (hot_blk hc) i [] s5 _ H5 (fun _ _ => False) I5 (stat I5 n5) st5 stop
      refine thnF td fun r s6 ⟨hr, I6⟩ => ?_
      subst hr
      have I7 : Inv X pins σ H5 s6 := I3.call' (ch := fp) I6.os I6.base I6.hok I6.bare fun b hb => ⟨(f3 b hb).1.2.2.2.1, (f3 b hb).1.2.1, (f3 b hb).1.2.2.2.2.1, (f3 b hb).1.2.2.2.2.2⟩
      have nC : H5 s3.heap.objs.size = none := by
        have z : H5 ce.locals = none := I6.free
        rw [cL] at z
        exact z
      obtain ⟨m, hn, _⟩ := I6.loc
      have hn : s6.heap.Ns ce.locals m := hn
      rw [cL] at hn
      exact hRR D s3.heap.objs.size s6 m H5 I7 qq hn (I3.fpOk (Nat.le_refl _) nC)
    · have ti := T.item (BlkH X s3 H3 scope ce fp) rfl rfl rfl (hot_blk hc) i [] s5 _ H5 (fun _ _ => False) I5 (stat I5 n5) st5 go
      refine thnF ti fun r s6 ⟨u, hr, h6⟩ => ?_
      subst hr
      refine thnF h6 fun _ s7 ⟨x, H7, I7, r7, y7, st7, n7⟩ => ?_
      have I7' := I7.pinned (stat I7 n7) (T.obj _ _ st7)
      refine thnF (pg.run _ s7 _ H7 x u _ I7' r7 (step x H7 y7)) fun _ s8 ⟨σ8, H8, I8, hw8, q8⟩ => ?_
      refine thnF (pt.run _ s8 σ8 H8 _ I8 q8) fun b s9 ⟨H9, I9, q9⟩ => ?_
      have fin : ∀ {s' : Shared} {H' : Hp}, Inv (BlkH X s3 H3 scope ce fp) ([] ++ pinsAt fp s7.heap) σ8 H' s' → Nx H' → ∃ m, m < n ∧ ∃ i H', Inv (BlkH X s3 H3 scope ce fp) [] (wipe σ (own.map (·.2))) H' s' ∧ tn i s'.heap ∧ (∀ b ∈ fp, H' b = none) ∧ W i m H' := fun {s' H'} I' nx => by
        obtain ⟨m', hm, w'⟩ := hNx H' nx
        have pin' : ∀ b ∈ fp, ∀ o, s7.heap.get? b = some o → s'.heap.get? b = some o ∧ H' b = none := fun b hb o e =>
          let z := I'.pin (b, o) (List.mem_append_right _ (List.mem_append_right _ (mem_pinsAt hb e)))
          ⟨z.1, z.2.1⟩
        have hl : (wipe σ (own.map (·.2))).length = σ8.length := by rw [← hw8, wipe_length]
        refine ⟨m', hm, i + 1, H', (I'.unpinned (pins := [])).weak hl (fun j v e => ?_), T.keep _ _ _ st7 fun b hb o e => (pin' b hb o e).1, fun b hb => ?_, w'⟩
        · rw [← hw8] at e
          exact (wipe_some e).1
        · obtain ⟨o, e, _⟩ := T.obj _ _ st7 b hb
          exact (pin' b hb o e).2
      cases b with
      | false =>
        simp only [Bool.false_eq_true, if_false] at q9 ⊢
        exact fin I9 q9
      | true =>
        simp only [if_true] at q9 ⊢
        refine thnF (pe.run _ s9 σ8 H9 _ I9 q9) fun z s10 ⟨yv, H10, I10, r10, acc, hD10, hz10, nx⟩ => ?_
        exact app_ok (X := BlkH X s3 H3 scope ce fp) I10 hD10 hz10 r10 fun s11 I11 => fin I11 nx
  exact codeAny_compStart_list loop (T.self X.A 0 _ _ _ st4 loop)
theorem ps_setLcH {i : Nat} {y : Str} {py : Pos} {elt tg iter : Expr} {ifs : List Expr} {scope : Scope} {own : List (Str × Nat)} {pos spos : Pos} {wi : TI} {g : TG} {tt : TT} {te : TE} (hc : HotC X) (hN : X.N.Nodup) (hy : X.N[i]? = some y) (hyl : X.env.scope.names.lookup y = some .local)
    (hsw : swapsWith (.ListComp elt [⟨tg, iter, ifs, 0⟩] scope pos) (some (.Name y py)) spos.line X.env = pure true) (hi : PIH X tg iter wi) (ok : BlkOk X.N X.env.scope scope own)
    (hg : ∀ (s : Shared) (H : Hp) (C : Addr) (cl : List (Str × Addr)) (fp : List Addr), PG (BlkH X s H scope (compEnvC scope cl C X.env) fp) tg g) (ht : ∀ (s : Shared) (H : Hp) (C : Addr) (cl : List (Str × Addr)) (fp : List Addr), PTs (BlkH X s H scope (compEnvC scope cl C X.env) fp) ifs tt)
    (he : ∀ (s : Shared) (H : Hp) (C : Addr) (cl : List (Str × Addr)) (fp : List Addr), PE (BlkH X s H scope (compEnvC scope cl C X.env) fp) elt te) (hs : ∀ x, foldedSetIterable iter X.env x = pure x := by intro _; rfl) :
    PS X (.Assign [.Name y py] (.ListComp elt [⟨tg, iter, ifs, 0⟩] scope pos) spos) (tAsg (tLc wi g tt te (own.map (·.2))) (gName i)) := by
  refine ⟨fun pins s σ H D I h => ?_⟩
  rw [exec_Assign_Name_used _ _ _ _ hsw]
  refine wpAny_bind (wpAny_standAt (wpAny_bind ?_))
  show wpAny _ X.A (do let _ ← comprehension (.ListComp elt [⟨tg, iter, ifs, 0⟩] scope pos) scope X.env (firstIterPos [⟨tg, iter, ifs, 0⟩] pos) (newList []) false (eval iter X.env) (some (assign (.Name y py) X.env))) _ _ s
  have h : tLc wi g tt te (own.map (·.2)) σ H (fun x H1 => gName i x σ H1 D.nx) := h
  refine wpAny_bind (thn (lc_coreH (Qf := fun _ s' => SP X pins D .next s') hc hN I hi ok hg ht he hs h fun L C s' m H' I' q hn f => ?_) fun _ s' hq => wpAny_pure (wpAny_pure hq))
  show wpAny _ _ (assign (.Name y py) X.env (.ref L)) _ _ _
  refine wpAny_assign_Name (store_ok2 (v := V.ref L) I' hN hy (.inl hyl) rfl (fun s2 I2 ⟨a, sb, ha⟩ => ?_) (.inr hyl))
  obtain ⟨f0, f1, f2, f3, f4, f5⟩ := f
  have haC : C ≠ a := by
    rcases ha with z | z
    · rw [z]; exact f1
    · exact fun e => f4 y a z e.symm
  refine ⟨m, hn.sameBut sb haC, fun h3 sb3 => ?_⟩
  exact ⟨_, H', I2.turned (t' := s2.toks) (fun b o hb e => (sb3.2 b hb).trans e) f0 f1 f3 f4 f5, q⟩
end
/-! ### the promise of a def by what is handled -/
structure FnP (P : Program) (w : World) (K : PySem.W.Frag) (mg : Str → Option Value) (base : Heap) (CX : CXT) (k : Nat) (f : Addr) (fd : FuncData) (ps : List Str) (sp : Addr × Obj → Sp) : Prop where
  len : ∀ p vs H Q E, sp p vs H Q E → vs.length = ps.length
  run : ∀ (A : Around) (outer : List Env) (s : Shared) (H : Hp) (args : Args) (us : List Value) (vs : List V) (Q : VK) (E : XK) (p : Addr × Obj), RoomH k A → Hot1 A p → PinOk outer H s p → Env0 P w K mg base A outer s H → BindsTo s fd args (ps.zip us) → Vals vs us → sp p vs H Q E →
    codeAny (model P w) A (.call (.ref f) args) (CR CX outer P w H s Q E) s
theorem fn_ofP {CX : CXT} {P : Program} {w : World} {K : PySem.W.Frag} {mg : Str → Option Value} {base : Heap} {k : Nat} {f : Addr} {name qual : Str} {params : Arguments} {body : List Stmt} {scope : Scope} {dV kV doc pm cdv ct oc : Value} {an od : Option Addr}
    {osl : Array (Option Value)} {N ps : List Str} {sp : Addr × Obj → Sp} (lk : K.lookup f = some ⟨oc, od, .func (PySem.W.fnOf name qual params body scope dV kV doc pm an cdv ct), osl⟩) (hcd : PySem.W.codeIn K cdv qual = true) (S : FnScope N ps scope)
    (len : ∀ p vs H Q E, sp p vs H Q E → vs.length = ps.length)
    (hbody : ∀ (A : Around) (outer : List Env) (s : Shared) (H : Hp) (vs : List V) (Q : VK) (E : XK) (p : Addr × Obj), Hot1 A p → RoomH k (A.deeper (envOfC qual scope s.heap.objs.size f cdv)) → sp p vs H Q E →
      ∃ t, PSs (cxH CX P w K mg base N qual scope f cdv A outer s H E p) body t ∧ t { nx := fun _ H' => Q .non H', rt := Q } (L2.start N vs) H) :
    FnP P w K mg base CX (k + 1) f (PySem.W.fnOf name qual params body scope dV kV doc pm an cdv ct) ps sp := by
  refine ⟨len, fun A outer s H args us vs Q E p hr hot hpin e0 hb r hsp => ?_⟩
  have hl := len _ _ _ _ _ hsp
  have KX : K.In s.heap := e0.mod.kin.keeps fun b o e => (e0.bs b o e).1
  have lim : s.heap.NoLimit := e0.mod.nolimit.keeps fun b o e => (e0.bs b o e).1
  have hkind : ∀ y ∈ ps.zip us, scope.names.lookup y.1 = some .local ∨ (scope.names.lookup y.1 = some .cell ∧ ((cellsFrom (s.heap.objs.size + 1) scope.names []).lookup y.1).isSome = true) := fun ⟨n, v⟩ hy => by
    rcases S.par n (List.of_mem_zip hy).1 with q | q
    · exact .inl q
    · exact .inr ⟨q, PySem.W.cellsFrom_some _ _ _ (.inl q)⟩
  refine codeAny_call_function hr.depth (KX _ _ lk) rfl S.co S.gen rfl (PySem.W.codeRec_of KX hcd) (hb _ _ _ _ ?_)
  refine wpAny_newFunctionEnv_cells S.kind hkind fun env he s1 x => ?_
  subst he
  refine ⟨lim.keeps x.toInCall.keep, codeAny_func ?_⟩
  obtain ⟨t, ht, hq⟩ := hbody A outer s H vs Q E p hot (hr.deeper _) hsp
  have I : Inv (cxH CX P w K mg base N qual scope f cdv A outer s H E p) [] (L2.start N vs) H s1 := inv_startH S hpin e0 hl r x
  refine wpAny_mono (ht.run [] s1 (L2.start N vs) H _ I hq) (fun fl s' hs => ?_) fun e s' hs => hs
  have fin : ∀ {σ' : L2.St} {H' : Hp} {v : V} {u : Value}, Inv (cxH CX P w K mg base N qual scope f cdv A outer s H E p) [] σ' H' s' → RelV v u → Q v H' → CE outer P w H s Q u s' :=
    fun {σ' H' v u} J rv q => ⟨v, H', J.os, J.bare, J.base, J.hok, rv, q⟩
  cases fl with
  | ret u =>
    obtain ⟨v, σ', H', J, rv, q⟩ := hs
    exact fin J rv q
  | next =>
    obtain ⟨σ', H', J, q⟩ := hs
    exact fin (v := V.non) (u := Value.none) J rfl q
  | brk =>
    obtain ⟨_, _, _, q⟩ := hs
    exact False.elim q
  | cont =>
    obtain ⟨_, _, _, q⟩ := hs
    exact False.elim q
theorem FunP.ok {P : Program} {w : World} {K : PySem.W.Frag} {mg : Str → Option Value} {base : Heap} {x qual : Str} {params : Arguments} {body : List Stmt} {scope : Scope} {dvs : List V} {kws : List (Str × V)} {f : Addr} {fd : FuncData} {CX : CXT} {N ps : List Str} {k : Nat} {sp : Addr × Obj → Sp} (F : FunD K x qual params body scope dvs kws f fd) (S : FnScope N ps scope)
    (len : ∀ p vs H Q E, sp p vs H Q E → vs.length = ps.length)
    (hb : ∀ (cdv : Value) (A : Around) (outer : List Env) (s : Shared) (H : Hp) (vs : List V) (Q : VK) (E : XK) (p : Addr × Obj), Hot1 A p → RoomH k (A.deeper (envOfC qual scope s.heap.objs.size f cdv)) → sp p vs H Q E →
      ∃ t, PSs (cxH CX P w K mg base N qual scope f cdv A outer s H E p) body t ∧ t { nx := fun _ H' => Q .non H', rt := Q } (L2.start N vs) H) : FnP P w K mg base CX (k + 1) f fd ps sp := by
  obtain ⟨oc, od, dV, kV, doc, pm, an, cdv, ct, osl, rfl, lk, hcd, _, _⟩ := F.ex
  exact fn_ofP lk hcd S len fun A outer s H vs Q E p hot hr hsp => hb cdv A outer s H vs Q E p hot hr hsp
/-- f(e), f such a def, within a suite that handles p -/
def tCallP (p : Addr × Obj) (sp : Addr × Obj → Sp) (t : TA) : TE := fun σ H Q => t σ H fun vs H1 => sp p vs H1 Q (fun _ _ _ => False)
theorem pe_callP {X : Cx} {CX : CXT} {k : Nat} {f : Addr} {fd : FuncData} {ps : List Str} {sp : Addr × Obj → Sp} {x : Str} {q pos : Pos} {e : Expr} {es : List Expr} {t : TA} {p : Addr × Obj} (F : FnP X.prog X.w X.K X.mg X.base CX k f fd ps sp) (hr : RoomH k X.A) (hot : Hot1 X.A p) (hp : p ∈ X.pn) (hg : Gl X x)
    (hm : X.mg x = some (.ref f)) (hk : PySem.W.keepIn X.K (.ref f) = true) (hb : Binds X.K fd ps []) (hx : Passes CX X (fun _ _ _ => False)) (ha : PA X (e :: es) t) (hdb : (x == ("__debug__" : Str)) = false := by decide) (he : starEach (e :: es) X.env = (false, eval e X.env) :: starEach es X.env := by rfl)
    (hpl : (backTo pos (starEach es X.env)).any (·.1) = false := by rfl) : PE X (.Call (.Name x q) (e :: es) [] pos) (tCallP p sp t) := by
  refine ⟨fun pins s σ H Q I h => ?_⟩
  refine wpAny_Call_Name_kw (ld_glob I hg hm ?_ hdb)
  refine PySem.W.callWith_K (h₀ := X.base) I.ok.mod.kin hk (thn (ha.run pos pins s σ H _ I h) fun us s1 ⟨vs, H1, I1, r, q⟩ => ⟨I1.kIn, ?_⟩) he hpl
  have hl : us.length = ps.length := by rw [← r.length]; exact F.len _ _ _ _ _ q
  have b := hb s1 us I1.kIn (by rw [List.append_nil]; exact hl)
  rw [List.append_nil] at b
  have P1 := I1.pin p (List.mem_append_left _ hp)
  have hpin : PinOk X.stack H1 s1 p := ⟨P1.1, P1.2.1, fun hm => (List.mem_cons.mp (I1.stkSub p.1 hm)).elim P1.2.2.1 P1.2.2.2.1, P1.2.2.2.2⟩
  refine wpAny_call (codeAny_mono (F.run X.A X.stack s1 H1 ⟨us, []⟩ us vs Q (fun _ _ _ => False) p hr hot hpin I1.env0 b r q) fun r s' hq => ?_)
  cases r with
  | error e => exact hx pins σ H1 s1 e s' I1 hq
  | ok fl =>
    cases fl with
    | ret u => exact I1.after hq
    | next => exact False.elim hq
    | brk => exact False.elim hq
    | cont => exact False.elim hq
/-! ### isinstance of what is handled -/
def rIsP (K : PySem.W.Frag) (D a : Addr) (d : Option Addr) : List V → Hp → VK → Prop := fun xs H Q => (d = none ∨ ∃ dd fs, d = some dd ∧ H dd = some (.xd fs)) ∧ (∃ (c : V) (cv : Value) (b : Bool), xs = [.ref a, c] ∧ ClsV c cv ∧ PySem.W.kitOne K (.ref D) cv = some b ∧ Q (.bl b) H) ∨
  (d = none ∨ ∃ dd fs, d = some dd ∧ H dd = some (.xd fs)) ∧ ∃ (tp : Addr) (cs : List V) (us : List Value) (b : Bool), xs = [.ref a, .ref tp] ∧ H tp = some (.tup cs) ∧ Paired ClsV cs us ∧ PySem.W.kitAny K (.ref D) us = some b ∧ Q (.bl b) H
theorem call_isP {X : Cx} {a D : Addr} {d : Option Addr} {oe : Obj} (C : ExcC X.K D) (hp : (a, oe) ∈ X.pn) (hc : oe.cls = .ref D) (hd : oe.dict = d) (hf : ∃ vs, oe.data = .fields vs) : CallR X (.builtin "isinstance") (rIsP X.K D a d) := by
  intro pins s σ H xs us Q I r h
  have inst : (d = none ∨ ∃ dd fs, d = some dd ∧ H dd = some (.xd fs)) → ∃ od, PySem.W.InstAt s.heap a oe D od := fun o => by
    obtain ⟨hget, _⟩ := I.pin (a, oe) (List.mem_append.mpr (.inl hp))
    obtain ⟨vs, hv⟩ := hf
    rcases o with o | ⟨dd, fs, o, ea⟩
    · exact ⟨none, hget, hc, by unfold PySem.W.notCls; rw [hv] <;> rfl, by rw [hd, o]; trivial⟩
    · have hx : ObjOk X.prog X.w H s.heap dd (.xd fs) := I.hok dd _ ea
      obtain ⟨mA, hns, hr⟩ := hx
      obtain ⟨od, ho, hl⟩ := lookIn_ns hns
      exact ⟨some od, hget, hc, by unfold PySem.W.notCls; rw [hv] <;> rfl, by rw [hd, o]; exact ho⟩
  have cls : (PySem.W.clsIn X.K D).isSome = true := by
    obtain ⟨cd, hcd, _⟩ := PySem.W.any_some C.hd
    rw [hcd] <;> rfl
  rcases h with ⟨o, c, cv, b, rfl, k, e, q⟩ | ⟨o, tp, cs, ws, b, rfl, hT, k, e, q⟩
  · obtain ⟨od, J⟩ := inst o
    obtain ⟨u1, u2, rfl, r1, r2⟩ := vals2 r
    cases (show u1 = Value.ref a from r1)
    have e2 := k.eq r2
    subst e2
    exact PySem.W.kia_one (PySem.W.kitx_exc cls C.hg C.hk C.hs C.ha C.hn C.ht C.hm) I.kIn J e (fun z => nomatch z) fun tk => ⟨.bl b, H, I.tok tk, rfl, q⟩
  · obtain ⟨od, J⟩ := inst o
    obtain ⟨u1, u2, rfl, r1, r2⟩ := vals2 r
    cases (show u1 = Value.ref a from r1)
    cases (show u2 = Value.ref tp from r2)
    obtain ⟨_, its, rv, o, h1, h2, n, h3⟩ := (show ObjOk X.prog X.w H s.heap tp (.tup cs) from I.hok tp _ hT)
    have e3 := ClsV.all k rv
    subst e3
    obtain ⟨oc, od2, dt, sl⟩ := o
    simp only at h2 h3
    subst h2 h3
    exact PySem.W.kia_tup (PySem.W.kitx_exc cls C.hg C.hk C.hs C.ha C.hn C.ht C.hm) I.kIn J h1 e (fun z => nomatch z) fun tk => ⟨.bl b, H, I.tok tk, rfl, q⟩
end WtH

-- WtLib3
set_option maxHeartbeats 1000000
namespace Wt
open PySem PySem.Spec PyProof.Rows L2 Evl WtS
theorem ev_yes {σ : L2.St} {H : Hp} : EvT tYes σ H true := fun H1 _ _ q => q H1 (Ex.refl H1)
theorem filt_true {α : Type} (xs : List α) : (xs.filter fun _ => true) = xs := List.filter_eq_self.mpr fun _ _ => rfl
theorem filt_any {α : Type} [DecidableEq α] (f : α → Bool) (xs : List α) : (!decide (xs.filter f = [])) = xs.any f := by
  rw [Bool.eq_iff_iff, Bool.not_eq_true', decide_eq_false_iff_not, List.any_eq_true, List.filter_eq_nil_iff]
  constructor
  · intro h
    refine Classical.byContradiction fun k => h fun a ha hf => k ⟨a, ha, hf⟩
  · rintro ⟨a, ha, hf⟩ h
    exact h a ha hf
section
variable {K : PySem.W.Frag} {σ : L2.St} {H : Hp} {te : TE}
/-- the elements are new tuples, told by what is walked -/
theorem en_lcTR {α : Type} {R : α → Pr} (mono : ∀ x v (H H' : Hp), Ex H H' → R x v H → R x v H') {a : Addr} {xs : List α} {vs : List V} {tl : TE} {gt : TG} {ws : List Nat} (hA : All2 R xs vs H) (out : α → Tu) (h : Ev tl σ H (.ref a)) (hx : SqL K H a vs) (hz : xs.length ≤ 40000)
    (turn : ∀ x v H1, x ∈ xs → Ex H H1 → R x v H1 → ∀ Q' : L2.St → Hp → Prop, (∀ σ2, wipe σ2 ws = wipe σ ws → (∀ Q : VK, (∀ v2 H2, Ex H1 H2 → (∀ M : List Addr, (∀ p ∈ M, H p = none ∧ H1 p ≠ none) → TwX M (out x) v2 H2) → Q v2 H2) → te σ2 H1 Q) → Q' σ2 H1) → gt v (wipe σ ws) H1 Q') :
    EvP (tLc (iList K tl) gt tYes te ws) σ H (Tws (xs.map out)) := fun H0 e Q q => h H0 e _ fun H1 e1 => ⟨a, rfl, ⟨vs, ex_l (e.trans e1) hx⟩, fun D hD => by
  have E01 := e.trans e1
  have hDH : H D = none := fresh_back E01 hD
  refine lc_list (xs := vs) (fun i H' => Ex H1 H' ∧ ∃ acc, H' D = some (.lst acc) ∧ All2 (TwX [D]) ((xs.take i).map out) acc H') ⟨Ex.new hD, [], upd_same, by rw [List.take_zero]; exact All2.nil⟩ (fun i H' _ p => ex_l (E01.trans p.1) hx) (fun i v H' hi p => ?_) (fun H' p => ?_)
  · obtain ⟨p2, acc, p3, p4⟩ := p
    obtain ⟨x, hx', r⟩ := hA.get hi
    have lt : i < xs.length := (List.getElem?_eq_some_iff.mp hx').1
    have acl : acc.length ≤ i := by
      rw [p4.1, List.length_map, List.length_take]
      omega
    refine turn x v H' (List.mem_of_getElem? hx') (E01.trans p2) (mono x v H H' (E01.trans p2) r) _ fun σ2 hw he => ⟨hw, ?_⟩
    show te σ2 H' _
    refine he _ fun v2 H4 e4 r => ⟨acc, e4 D _ p3, sz_lt (by omega), Ex.mut (p2.trans e4) hD, acc ++ [v2], upd_same, ?_⟩
    have em : ExM [D] H4 (upd H4 D (.lst (acc ++ [v2]))) := ExM.upd (List.mem_singleton.mpr rfl)
    rw [List.take_add_one, hx', List.map_append]
    refine All2.snoc (p4.imp fun _ _ k => (k.mono e4).monoM em) ((r [D] fun p hp => ?_).monoM em)
    rw [List.mem_singleton.mp hp]
    exact ⟨hDH, by rw [p3]; simp⟩
  · obtain ⟨p2, acc, p3, p4⟩ := p
    rw [hA.1, List.take_of_length_le (Nat.le_refl _)] at p4
    exact q _ H' (e1.trans p2) ⟨D, acc, rfl, p3, p4.imp fun _ _ k => k.tw⟩⟩
/-- sorted(set(..)) of a list of texts -/
theorem en_sset {P : Program} {w : World} {a : Addr} {xs : List Str} {ta : TE} (h : Ev ta σ H (.ref a)) (hx : SqL K H a (xs.map V.str)) (hz : xs.length < 64) :
    EvN (tCB (rSortedX P w) (tCons (tCB (rSetX K P w) (tCons ta tNil)) tNil)) σ H fun p H' => H' p = some (.lst ((sset xs).map V.str)) := fun H1 e Q q =>
  h H1 e _ fun H2 e2 => ⟨a, xs, rfl, ex_l (e.trans e2) hx, by omega, fun b ks hb hm hn hl => ⟨b, ks, rfl, upd_same, by omega, fun ns p hs pm hp => by
    have eS := is_sset_p hs pm hn hm
    subst eS
    have e3 : Ex H2 (upd H2 b (SetX P w b ks)) := Ex.new hb
    exact q p _ (fresh_back (e2.trans e3) hp) ((e2.trans e3).trans (Ex.new hp)) upd_same⟩⟩
theorem in_L {neg : Bool} {x : Str} {p : Addr} {xs : List Str} (h : SqL K H p (xs.map V.str)) : RV (rIn K neg) (.str x) (.ref p) H (.bl (if neg then !decide (x ∈ xs) else decide (x ∈ xs))) := by
  rw [← strs_in]
  exact rv_inL h rfl (flat_strs _)
end
/-! ### dicts of lists of texts -/
abbrev kvz (us : List Tu) (vs : List V) : List (Key × V) := List.zipWith (fun t v => ((Sum.inr t.1 : Key), v)) us vs
def LstT (t : Tu) : Pr := Lst t.2
/-- at d: the dict of us -/
def Dk (us : List Tu) (u : HO) (H : Hp) : Prop := ∃ vs, u = .dK (kvz us vs) ∧ All2 LstT us vs H
theorem Dk.mono {us : List Tu} {u : HO} {H H' : Hp} (e : Ex H H') (h : Dk us u H) : Dk us u H' := by
  obtain ⟨vs, h1, h2⟩ := h
  exact ⟨vs, h1, h2.imp fun _ _ k => Lst.mono e k⟩
theorem kvz_len {us : List Tu} {vs : List V} (h : vs.length = us.length) : (kvz us vs).length = us.length := by
  rw [List.length_zipWith, h, Nat.min_self]
theorem kvz_val : ∀ {us : List Tu} {vs : List V}, (nms us).Nodup → vs.length = us.length → ∀ {i : Nat} {t : Tu} {v : V}, us[i]? = some t → vs[i]? = some v → valV (kvz us vs) (Sum.inr t.1) = some v
  | [], _, _, _, i, t, v, h, _ => by simp at h
  | u :: us, [], _, h, _, _, _, _, _ => by cases h
  | u :: us, x :: vs, hn, hl, 0, t, v, h1, h2 => by
    cases h1
    cases h2
    exact valV_pos rfl
  | u :: us, x :: vs, hn, hl, i + 1, t, v, h1, h2 => by
    have hn' := List.nodup_cons.mp hn
    have ne : ¬ ((Sum.inr u.1 : Key) = Sum.inr t.1) := fun e => hn'.1 (by
      have e : u.1 = t.1 := Sum.inr.inj e
      show u.1 ∈ _
      rw [e]
      exact List.mem_map_of_mem (f := fun x : Tu => x.1) (List.mem_of_getElem? h1))
    show valV ((Sum.inr u.1, x) :: kvz us vs) _ = _
    rw [valV_neg ne]
    exact kvz_val hn'.2 (Nat.succ.inj hl) h1 h2
theorem kvz_none : ∀ {us : List Tu} {vs : List V} {n : Str}, n ∉ nms us → valV (kvz us vs) (Sum.inr n) = none
  | [], _, _, _ => rfl
  | u :: us, [], _, _ => rfl
  | u :: us, x :: vs, n, h => by
    have ne : ¬ ((Sum.inr u.1 : Key) = Sum.inr n) := fun e => h (by
      rw [← Sum.inr.inj e]
      exact List.mem_cons_self)
    show valV ((Sum.inr u.1, x) :: kvz us vs) _ = _
    rw [valV_neg ne]
    exact kvz_none fun m => h (List.mem_cons_of_mem _ m)
theorem kvz_put {us : List Tu} {vs : List V} {n : Str} {v : V} (h : n ∉ nms us) (hl : vs.length = us.length) (o : List Str) : putK (kvz us vs) (Sum.inr n) v = kvz (us ++ [(n, o)]) (vs ++ [v]) := by
  unfold putK
  have e : ((kvz us vs).any fun kv => decide (kv.1 = Sum.inr n)) = false := by
    rw [valV_any, kvz_none h] <;> rfl
  rw [e, if_neg Bool.false_ne_true]
  show _ = List.zipWith _ (us ++ [(n, o)]) (vs ++ [v])
  rw [List.zipWith_append hl.symm] <;> rfl
theorem kvz_keys : ∀ {us : List Tu} {vs : List V}, vs.length = us.length → (kvz us vs).map (fun kv => kV kv.1) = (nms us).map V.str
  | [], [], _ => rfl
  | [], _ :: _, h => by cases h
  | _ :: _, [], h => by cases h
  | u :: us, v :: vs, h => by
    show V.str u.1 :: (kvz us vs).map (fun kv => kV kv.1) = V.str u.1 :: (nms us).map V.str
    rw [kvz_keys (Nat.succ.inj h)]
/-- d[n] -/
theorem Dk.get {us : List Tu} {u : HO} {H : Hp} {d : Addr} (D : Dk us u H) (hd : Rd H d u) (hn : (nms us).Nodup) {t : Tu} (ht : t ∈ us) : ∃ o, DGet H d (.str t.1) (some (.ref o)) ∧ H o = some (.lst (t.2.map V.str)) := by
  obtain ⟨vs, rfl, hA⟩ := D
  obtain ⟨i, hi⟩ := List.mem_iff_getElem?.mp ht
  obtain ⟨v, hv, o, rfl, ho⟩ := hA.at hi
  exact ⟨o, .inl ⟨_, Sum.inr t.1, hd, rfl, (kvz_val hn hA.1 hi hv).symm⟩, ho⟩
end Wt

-- WtD5
set_option maxHeartbeats 1000000
namespace Wt
open PySem PySem.Spec PyProof.Rows L2 Evl WtS
def sp_goes : Sp := fun vs H Q _ => ∃ (v : V) (ts : List Tu), vs = [v] ∧ Tws ts v H ∧ SzN 60 60 ts ∧ ∀ H', Ex H H' → Q (.bl (decide (stepN ts.length ts ≠ []))) H'
def sp_due : Sp := fun vs H Q _ => ∃ z : Str, vs = [.str z] ∧ Small z ∧ ∀ v H', Ex H H' → Rv (due z) v H' → Q v H'
section
variable {P : Program} {w : World} {K : PySem.W.Frag} {mg : Str → Option Value} {base : Heap}
theorem ok_goes {f : Addr} {fd : FuncData} (T : Txt K mg) (F : Fd K d__law_goes_round f fd) : FnOk P w K mg base CX0 1 f fd P__law_goes_round sp_goes := by
  refine FunD.ok F sc__law_goes_round (fun vs H Q E h => ?_) (fun cdv A outer s H vs Q E hr h => ?_)
  · obtain ⟨v, ts, rfl, _⟩ := h
    rfl
  · obtain ⟨v, ts, rfl, ⟨a, vs, rfl, ha, hA⟩, hz, q⟩ := h
    have hru := hr.units
    refine ⟨_, PSs.nox (pss_cons (ps_set (i := 1) sc__law_goes_round.nd rfl (Or.inl rfl) (pe_callTy call_list_of (by rfl) T.f_list (by decide +kernel) (pa_cons (pv 0) pa_nil)))
  (pss_cons (ps_for PassesOwn.never rfl (pi_range1 (by rfl) T.f_range (pa_cons (pe_callB call_len (by rfl) T.f_len (by decide +kernel) (pa_cons (pv 0) pa_nil)) pa_nil)) (pg_name (i := 2) sc__law_goes_round.nd rfl (Or.inl rfl))
    (pss_cons (ps_set (i := 5) sc__law_goes_round.nd rfl (Or.inr rfl) (pe_lc (own := [("_law_name_here", 3), ("_law_over", 4)]) (g := gTup K 2 (gCons (gName 3) (gCons (gName 4) (gNil)))) (tt := tYes) rfl sc__law_goes_round.nd (pi_list (pv 1)) (blkOk_by (own := [("_law_name_here", 3), ("_law_over", 4)]) (N := N__law_goes_round) (sc := (defScope s__law_goes_round)) (by decide +kernel))
    (fun _ _ _ _ _ => (pg_tup rfl (pgs_cons (pg_name (i := 3) sc__law_goes_round.nd rfl (Or.inl rfl)) (pgs_cons (pg_name (i := 4) sc__law_goes_round.nd rfl (Or.inl rfl)) pgs_nil)))) (fun _ _ _ _ _ => pts_nil)
    (fun _ _ _ _ _ => (pv 3))))
    (pss_cons (ps_set (i := 6) sc__law_goes_round.nd rfl (Or.inl rfl) (pe_lst pa_nil))
    (pss_cons (ps_for PassesOwn.never rfl (pi_list (pv 1)) (pg_tup rfl (pgs_cons (pg_name (i := 3) sc__law_goes_round.nd rfl (Or.inl rfl)) (pgs_cons (pg_name (i := 4) sc__law_goes_round.nd rfl (Or.inl rfl)) pgs_nil)))
      (pss_one (ps_if (pt_cmpR (op_neD hru) (pe_lc (own := [("_law_other", 7)]) (g := gName 7) rfl sc__law_goes_round.nd (pi_list (pv 4)) (blkOk_by (own := [("_law_other", 7)]) (N := N__law_goes_round) (sc := (defScope s__law_goes_round)) (by decide +kernel))
    (fun _ _ _ _ _ => (pg_name (i := 7) sc__law_goes_round.nd rfl (Or.inl rfl))) (fun _ _ _ _ _ => (pts_one (pt_cmpR (show OpR _ (compareOp .In) (rIn K false) from op_in_seq) (pv 7) (pv 5) (by rfl))))
    (fun _ _ _ _ _ => (pv 7))) (pe_lst pa_nil) (nomark _)) (pss_one (ps_expr (pe_bm PySem.F.plainAttrs_list PySem.F.slot_list_append PySem.F.type_list_append mt_append (pv 6) (pa_cons (pe_tup (pa_cons (pv 3) (pa_cons (pv 4) pa_nil))) pa_nil)))) pss_nil)))
    (pss_one (ps_set (i := 1) sc__law_goes_round.nd rfl (Or.inl rfl) (pv 6)))))))
  (pss_one (ps_ret (pe_cmpR (op_neD hru) (pv 1) (pe_lst pa_nil) (nomark _)))))), ?_⟩
    refine ⟨_, rfl, a, vs, rfl, .inl (SqL.of ha), fun L0 hL0 => ?_⟩
    have e0 : Ex H (upd H L0 (.lst vs)) := Ex.new hL0
    refine ⟨_, rfl, _, vs.length, rfl, .inl ⟨_, SqL.of (e0 a _ ha), rfl⟩, _, rfl, by omega, by rw [hA.1]; have := hz.n; omega, ?_⟩
    have htn : (((vs.length : Nat) : Int)).toNat = ts.length := by rw [← hA.1] <;> rfl
    rw [htn]
    refine for_range (lo := 0) (n := ts.length) (fun k σ' H' => ∃ (x2 x3 x4 x5 x6 x7 : Option V) (l : Addr) (us : List V), σ' = [some (.ref a), some (.ref l), x2, x3, x4, x5, x6, x7] ∧ Ex H H' ∧ H' l = some (.lst us) ∧ All2 Tw (stepN k ts) us H') ⟨none, none, none, none, none, none, L0, vs, rfl, e0, upd_same, hA.imp fun _ _ k => k.mono e0⟩ ?_ ?_
    · rintro k _ H1 hk ⟨x2, x3, x4, x5, x6, x7, l, us, rfl, e1, hl, hU⟩
      have sub := stepN_sub k ts
      have szk : SzN 60 60 (stepN k ts) := ⟨Nat.le_trans sub.length_le hz.n, fun t ht => hz.o t (sub.mem ht), fun t ht => hz.m t (sub.mem ht)⟩
      refine q_asgL (el_lcR (R := Tw) (fun _ _ _ _ => Tw.mono) hU (fun _ => true) (fun t => .str t.1) (ev_var rfl) (SqL.of hl) (by have := szk.n; omega) fun t v H2 ht e2 r Q' k => ?_) fun N0 H2 hN0 e2 hN => ?_
      · obtain ⟨p, o, rfl, h1, h2⟩ := r
        exact ⟨p, _, rfl, SqT.of h1, rfl, _, _, rfl, _, _, rfl, rfl, k _ rfl ev_yes fun _ H3 e3 => ev_var rfl⟩
      rw [filt_true] at hN
      have hN : H2 N0 = some (.lst ((nms (stepN k ts)).map V.str)) := by rw [hN, List.map_map] <;> rfl
      refine ⟨sz0, fun S hS => ?_⟩
      have e3 : Ex H1 (upd H2 S (.lst [])) := e2.trans (Ex.new hS)
      refine q_forL (ev_var rfl) (SqL.of (e3 l _ hl)) (fun i σ' H' => ∃ (x3 x4 x7 : Option V) (ss : List V), σ' = [some (.ref a), some (.ref l), some (.int (0 + (k : Int))), x3, x4, some (.ref N0), some (.ref S), x7] ∧ Ex H1 H' ∧ H' N0 = some (.lst ((nms (stepN k ts)).map V.str)) ∧ H' S = some (.lst ss) ∧
        All2 (TwX [S]) (((stepN k ts).take i).filter fun t => t.2.any fun x => decide (x ∈ nms (stepN k ts))) ss H') (fun H' e => ⟨_, _, _, [], rfl, e3.trans e, e N0 _ (by rw [upd_ne (ne_of_none hN hS)]; exact hN), e S _ upd_same, by rw [List.take_zero]; exact All2.nil⟩) (fun i σ' H' hi p => ?_) (fun i v σ' H' hi p => ?_) (fun σ' H' p => ?_)
      · obtain ⟨_, _, _, ss, rfl, e4, _, _, _⟩ := p
        exact SqL.of (e4 l _ hl)
      · obtain ⟨_, _, _, ss, rfl, e4, hN4, hS4, hA4⟩ := p
        obtain ⟨t, ht, pt, ot, rfl, h1, h2⟩ := hU.get hi
        have tm := List.mem_of_getElem? ht
        have ho4 := e4 ot _ h2
        refine ⟨pt, _, rfl, SqT.of (e4 pt _ h1), rfl, _, _, rfl, _, _, rfl, rfl, ?_⟩
        have tk : ((stepN k ts).take (i + 1)).filter (fun t => t.2.any fun x => decide (x ∈ nms (stepN k ts))) = ((stepN k ts).take i).filter (fun t => t.2.any fun x => decide (x ∈ nms (stepN k ts))) ++ (if (t.2.any fun x => decide (x ∈ nms (stepN k ts))) then [t] else []) := by
          rw [List.take_add_one, ht, List.filter_append]
          congr 1
          cases hf : (t.2.any fun x => decide (x ∈ nms (stepN k ts))) <;> simp [hf]
        have nS : ∀ b o, H1 b = some o → b ≠ S := fun b o h z => by
          have := e2 b o h
          rw [z, hS] at this
          cases this
        refine s_when (b := t.2.any fun x => decide (x ∈ nms (stepN k ts))) (et_is (et_test (ev_ne0 (K := K) (xs := t.2.filter fun x => decide (x ∈ nms (stepN k ts))) (el_lcR (R := St1) (fun _ _ _ _ _ h => h) (all2_strs H' t.2) (fun x => decide (x ∈ nms (stepN k ts))) V.str (ev_var rfl) (SqL.of ho4) (by have := szk.o t tm; omega) fun x v H5 hx e5 r Q' kk => ?_) fun x hx => isNm_ok ((szk.m t tm).2 x (List.mem_filter.mp hx).1))) (filt_any _ _)) (fun hb H5 e5 => ?_) (fun hb H5 e5 => ?_)
        · cases r
          exact kk _ rfl (et_test (ev_op (ev_var rfl) (ev_var rfl) (in_L (neg := false) (SqL.of (e5 N0 _ hN4))))) fun _ H6 e6 => ev_var rfl
        · refine ⟨_, rfl, .inl ⟨rfl, _, SqL.of (e5 S _ hS4)⟩, _, rfl, _, rfl, sz2, fun p hp => ⟨S, ss, _, rfl, rfl, ?_, sz_lt ?_, ?_⟩⟩
          · rw [upd_ne (ne_of_none (e5 S _ hS4) hp)]
            exact e5 S _ hS4
          · have := hA4.1
            have h2 := List.length_filter_le (fun t : Tu => t.2.any fun x => decide (x ∈ nms (stepN k ts))) ((stepN k ts).take i)
            rw [List.length_take] at h2
            have := szk.n
            omega
          have eP : Ex H' (upd H5 p (.tup [.str t.1, .ref ot])) := e5.trans (Ex.new hp)
          have em : ExM [S] (upd H5 p (.tup [.str t.1, .ref ot])) (upd (upd H5 p (.tup [.str t.1, .ref ot])) S (.lst (ss ++ [.ref p]))) := ExM.upd (by simp)
          have hS1 : H1 S = none := fresh_back e2 hS
          refine ⟨_, _, _, ss ++ [.ref p], rfl, (e4.trans eP).mut hS1, ?_, upd_same, ?_⟩
          · rw [upd_ne (by intro z; rw [z, hS] at hN; cases hN)]
            exact eP N0 _ hN4
          · rw [tk, hb, if_pos rfl]
            refine All2.snoc (hA4.imp fun _ _ k => (k.mono eP).monoM em) (TwX.monoM em ⟨p, ot, rfl, ?_, ?_, upd_same, ?_⟩)
            · simp only [List.mem_singleton]
              intro z
              rw [z] at hp
              rw [e5 S _ hS4] at hp
              cases hp
            · simp only [List.mem_singleton]
              exact nS ot _ h2
            · rw [upd_ne (ne_of_none (e5 ot _ ho4) hp)]
              exact e5 ot _ ho4
        · refine ⟨_, _, _, ss, rfl, e4.trans e5, e5 N0 _ hN4, e5 S _ hS4, ?_⟩
          rw [tk, hb, if_neg (by simp), List.append_nil]
          exact hA4.imp fun _ _ k => k.mono e5
      · obtain ⟨x3, x4, x7, ss, rfl, e4, hN4, hS4, hA4⟩ := p
        rw [hU.1, List.take_of_length_le (Nat.le_refl _)] at hA4
        refine ⟨_, rfl, _, _, _, _, _, _, S, ss, rfl, e1.trans e4, hS4, ?_⟩
        rw [stepN_succ]
        exact hA4.imp fun _ _ k => k.tw
    · rintro _ H1 ⟨x2, x3, x4, x5, x6, x7, l, us, rfl, e1, hl, hU⟩
      have sub := stepN_sub ts.length ts
      refine s_ret (ev_is (ev_ne0T (K := K) (ts := stepN ts.length ts) (ev_var rfl) ⟨l, us, rfl, hl, hU⟩ fun t ht => (hz.m t (sub.mem ht)).ok) (w := V.bl (decide (stepN ts.length ts ≠ []))) ?_) fun H2 e2 => q H2 (e1.trans e2)
      congr 1
      rw [Bool.eq_iff_iff]
      simp
theorem ok_due {f : Addr} {fd : FuncData} (T : Txt K mg) (C_tuples_of : Fok P w K mg base CX0 2 (He.ga K "_law_tuples_of") P__law_tuples_of sp_tuples_of) (C_goes_round : Fok P w K mg base CX0 1 (He.ga K "_law_goes_round") P__law_goes_round sp_goes)
    (F : Fd K d__law_due f fd) : FnOk P w K mg base CX0 3 f fd P__law_due sp_due := by
  obtain ⟨fd_tuples_of, G_tuples_of, b_tuples_of⟩ := C_tuples_of.ex
  obtain ⟨fd_goes_round, G_goes_round, b_goes_round⟩ := C_goes_round.ex
  refine FunD.ok F sc__law_due (fun vs H Q E h => ?_) (fun cdv A outer s H vs Q E hr h => ?_)
  · obtain ⟨z, rfl, _⟩ := h
    rfl
  · obtain ⟨z, rfl, hS, q⟩ := h
    have hru := hr.units
    refine ⟨_, PSs.nox (pss_cut (ps_set (i := 1) sc__law_due.nd rfl (Or.inl rfl) (pe_call G_tuples_of (hr.mono (by decide)) rfl (T.gl _ (by decide +kernel)) C_tuples_of.kp b_tuples_of .nil pass0 (pa_cons (pv 0) pa_nil)))
  (pss_cons (ps_if (pt_cmpR op_isN (pv 1) pe_non (nomark _)) (pss_one (ps_ret (pe_tup (pa_cons pe_str (pa_cons pe_str pa_nil))))) pss_nil)
  (pss_cons (ps_set (i := 4) sc__law_due.nd rfl (Or.inr rfl) (pe_lc (own := [("_law_name_here", 2), ("_law_over", 3)]) (g := gTup K 2 (gCons (gName 2) (gCons (gName 3) (gNil)))) (tt := tYes) rfl sc__law_due.nd (pi_list (pv 1)) (blkOk_by (own := [("_law_name_here", 2), ("_law_over", 3)]) (N := N__law_due) (sc := (defScope s__law_due)) (by decide +kernel))
    (fun _ _ _ _ _ => (pg_tup rfl (pgs_cons (pg_name (i := 2) sc__law_due.nd rfl (Or.inl rfl)) (pgs_cons (pg_name (i := 3) sc__law_due.nd rfl (Or.inl rfl)) pgs_nil)))) (fun _ _ _ _ _ => pts_nil)
    (fun _ _ _ _ _ => (pv 2))))
  (pss_cons (ps_if (pt_cmpR op_lt (pe_callB call_len_set (by rfl) T.f_len (by decide +kernel) (pa_cons (pe_callTy (cr_setS rfl) (by rfl) T.f_set (by decide +kernel) (pa_cons (pv 4) pa_nil)) pa_nil)) (pe_callB call_len (by rfl) T.f_len (by decide +kernel) (pa_cons (pv 4) pa_nil)) (nomark _)) (pss_one (ps_ret (pe_tup (pa_cons pe_str (pa_cons pe_str pa_nil))))) pss_nil)
  (pss_cons (ps_for PassesOwn.never rfl (pi_list (pv 1)) (pg_tup rfl (pgs_cons (pg_name (i := 2) sc__law_due.nd rfl (Or.inl rfl)) (pgs_cons (pg_name (i := 3) sc__law_due.nd rfl (Or.inl rfl)) pgs_nil)))
    (pss_one (ps_if (pt_cmpR (op_neD hru) (pe_lc (own := [("_law_other", 5)]) (g := gName 5) rfl sc__law_due.nd (pi_list (pv 3)) (blkOk_by (own := [("_law_other", 5)]) (N := N__law_due) (sc := (defScope s__law_due)) (by decide +kernel))
    (fun _ _ _ _ _ => (pg_name (i := 5) sc__law_due.nd rfl (Or.inl rfl))) (fun _ _ _ _ _ => (pts_one (pt_cmpR (show OpR _ (compareOp .NotIn) (rIn K true) from op_notIn_seq) (pv 5) (pv 4) (by rfl))))
    (fun _ _ _ _ _ => (pv 5))) (pe_lst pa_nil) (nomark _)) (pss_one (ps_ret (pe_tup (pa_cons pe_str (pa_cons pe_str pa_nil))))) pss_nil)))
  (pss_cons (ps_if (pt_val (pe_call G_goes_round (hr.mono (by decide)) rfl (T.gl _ (by decide +kernel)) C_goes_round.kp b_goes_round .nil pass0 (pa_cons (pv 1) pa_nil))) (pss_one (ps_ret (pe_tup (pa_cons pe_str (pa_cons pe_str pa_nil))))) pss_nil)
  (pss_one (ps_ret (pe_tup (pa_cons pe_str (pa_cons (pe_lc (own := [("_law_name_here", 2), ("_law_over", 3)]) (g := gTup K 2 (gCons (gName 2) (gCons (gName 3) (gNil)))) (tt := tYes) rfl sc__law_due.nd (pi_list (pv 1)) (blkOk_by (own := [("_law_name_here", 2), ("_law_over", 3)]) (N := N__law_due) (sc := (defScope s__law_due)) (by decide +kernel))
    (fun _ _ _ _ _ => (pg_tup rfl (pgs_cons (pg_name (i := 2) sc__law_due.nd rfl (Or.inl rfl)) (pgs_cons (pg_name (i := 3) sc__law_due.nd rfl (Or.inl rfl)) pgs_nil)))) (fun _ _ _ _ _ => pts_nil)
    (fun _ _ _ _ _ => (pe_tup (pa_cons (pv 2) (pa_cons (pe_callB (show CallR _ (.builtin "sorted") (rSortedX P w) from cr_sortedSetS rfl) (by rfl) T.f_sorted (by decide +kernel) (pa_cons (pe_callTy (show CallR _ (.type "set") (rSetX K P w) from cr_setS rfl) (by rfl) T.f_set (by decide +kernel) (pa_cons (pv 3) pa_nil)) pa_nil)) pa_nil))))) pa_nil))))))))))), ?_⟩
    have hno : ∀ (w1 : Str) (D : Ends) (σ : L2.St) (H1 : Hp), Ex H H1 → due z = .no w1 → D.rt = Q → tRet (tTup (tCons (tC (.str "refused")) (tCons (tC (.str w1)) tNil))) D σ H1 := fun w1 D σ H1 e hd hD => by
      refine ⟨sz2, fun p hp => ?_⟩
      rw [hD]
      exact q _ _ (e.trans (Ex.new hp)) (by rw [hd]; exact ⟨p, rfl, upd_same⟩)
    refine q_cut (M := fun σ' H' => Ex H H' ∧ ((parse z = none ∧ σ' = [some (.str z), some .non, none, none, none, none]) ∨ ∃ ts v, parse z = some ts ∧ σ' = [some (.str z), some v, none, none, none, none] ∧ Tws ts v H')) ⟨_, rfl, z, rfl, hS, fun hn H1 e => ⟨e, .inl ⟨hn, rfl⟩⟩, fun ts v H1 hp e ht => ⟨e, .inr ⟨ts, v, hp, rfl, ht⟩⟩⟩ ?_
    rintro σ' H1 ⟨e1, ⟨hn, rfl⟩ | ⟨ts, v, hp, rfl, ht⟩⟩
    · refine ⟨_, rfl, rfl, _, rfl, iteT (hno "text" _ _ _ e1 (by unfold due; rw [hn]) rfl)⟩
    obtain ⟨a, vs, rfl, ha, hA⟩ := ht
    have sz := parse_sz hp hS
    refine ⟨_, rfl, rfl, _, rfl, iteF ?_⟩
    have hdue : due z = verdict ts := by unfold due; rw [hp]
    refine q_asgL (el_lcR (R := Tw) (fun _ _ _ _ => Tw.mono) hA (fun _ => true) (fun t => .str t.1) (ev_var rfl) (SqL.of ha) (by have := sz.n; omega) fun t v H2 ht e2 r Q' k => ?_) fun N0 H2 hN0 e2 hN => ?_
    · obtain ⟨p, o, rfl, h1, h2⟩ := r
      exact ⟨p, _, rfl, SqT.of h1, rfl, _, _, rfl, _, _, rfl, rfl, k _ rfl ev_yes fun _ H3 e3 => ev_var rfl⟩
    rw [filt_true] at hN
    have hN : H2 N0 = some (.lst ((nms ts).map V.str)) := by rw [hN, List.map_map] <;> rfl
    have ln : (nms ts).length = ts.length := List.length_map ..
    have szn := sz.n
    refine ⟨_, rfl, N0, nms ts, rfl, SqL.of hN, by omega, fun sa ks hsa hm hnd hkl => ⟨sa, ks, rfl, upd_same, by omega, _, rfl, _, ((nms ts).map V.str).length, rfl, .inl ⟨_, SqL.of (by rw [upd_ne (ne_of_none hN hsa)]; exact hN), rfl⟩, _, _, rfl, rfl, _, rfl, ?_⟩⟩
    have e3 : Ex H (upd H2 sa (SetX P w sa ks)) := (e1.trans e2).trans (Ex.new hsa)
    have hlt : ((ks.length : Int) < (((nms ts).map V.str).length : Nat)) ↔ ¬ (nms ts).Nodup := by
      rw [List.length_map, ← nd_iff hnd hm]
      omega
    refine ite2 (fun hb => ?_) (fun hb => ?_)
    · refine hno "taken" _ _ _ e3 ?_ rfl
      rw [hdue]
      unfold verdict
      rw [if_pos (hlt.mp (of_decide_eq_true hb))]
    have hnd2 : ¬ ¬ (nms ts).Nodup := fun h => hb (decide_eq_true (hlt.mpr h))
    have hver : verdict ts = if badK ts = true then .no "kind" else if stepN ts.length ts ≠ [] then .no "ring" else .told (ts.map fun t => (t.1, sset t.2)) := by
      unfold verdict
      rw [if_neg hnd2]
    rw [hver] at hdue
    show tSeq _ _ _ _ (upd H2 sa (SetX P w sa ks))
    generalize hH3 : upd H2 sa (SetX P w sa ks) = H3 at e3 ⊢
    have e23 : Ex H2 H3 := by rw [← hH3]; exact Ex.new hsa
    have e13 : Ex H1 H3 := e2.trans e23
    have hN3 := e23 N0 _ hN
    refine q_forL (ev_var rfl) (SqL.of (e13 a _ ha)) (fun i σ' H' => ∃ (x2 x3 x5 : Option V), σ' = [some (.str z), some (.ref a), x2, x3, some (.ref N0), x5] ∧ Ex H3 H' ∧ (badK (ts.take i)) = badK (ts.take i) ∧ ∀ t ∈ ts.take i, (t.2.any fun x => !decide (x ∈ nms ts)) = false) (fun H' e => ⟨_, _, _, rfl, e, rfl, fun t ht => by rw [List.take_zero] at ht; exact (List.not_mem_nil ht).elim⟩) (fun i σ' H' hi p => ?_) (fun i v σ' H' hi p => ?_) (fun σ' H' p => ?_)
    · obtain ⟨_, _, _, rfl, e4, _⟩ := p
      exact SqL.of (e4 a _ (e13 a _ ha))
    · obtain ⟨_, _, _, rfl, e4, _, hno4⟩ := p
      obtain ⟨t, ht, pt, ot, rfl, h1, h2⟩ := hA.get hi
      have tm := List.mem_of_getElem? ht
      have E4 : Ex H1 H' := e13.trans e4
      refine ⟨pt, _, rfl, SqT.of (E4 pt _ h1), rfl, _, _, rfl, _, _, rfl, rfl, ?_⟩
      refine s_when (b := t.2.any fun x => !decide (x ∈ nms ts)) (et_is (et_test (ev_ne0 (K := K) (xs := t.2.filter fun x => !decide (x ∈ nms ts)) (el_lcR (R := St1) (fun _ _ _ _ _ h => h) (all2_strs H' t.2) (fun x => !decide (x ∈ nms ts)) V.str (ev_var rfl) (SqL.of (E4 ot _ h2)) (by have := sz.o t tm; omega) fun x v H5 hx e5 r Q' kk => ?_) fun x hx => isNm_ok ((sz.m t tm).2 x (List.mem_filter.mp hx).1))) (filt_any _ _)) (fun hb5 H5 e5 => ?_) (fun hb5 H5 e5 => ?_)
      · cases r
        exact kk _ rfl (et_test (ev_op (ev_var rfl) (ev_var rfl) (in_L (neg := true) (SqL.of (e5 N0 _ (e4 N0 _ hN3)))))) fun _ H6 e6 => ev_var rfl
      · refine hno "kind" _ _ _ ((e3.trans e4).trans e5) ?_ rfl
        rw [hdue, if_pos (show badK ts = true from List.any_eq_true.mpr ⟨t, tm, hb5⟩)]
      · refine ⟨_, _, _, rfl, e4.trans e5, rfl, fun u hu => ?_⟩
        rw [List.take_add_one, ht] at hu
        rcases List.mem_append.mp hu with hu | hu
        · exact hno4 u hu
        · rw [List.mem_singleton.mp hu]
          exact hb5
    · obtain ⟨_, _, _, rfl, e4, _, hno4⟩ := p
      rw [hA.1, List.take_of_length_le (Nat.le_refl _)] at hno4
      have hbad : ¬ badK ts = true := fun h => by
        obtain ⟨t, ht, h⟩ := List.any_eq_true.mp h
        rw [hno4 t ht] at h
        cases h
      rw [if_neg hbad] at hdue
      have E4 : Ex H1 H' := e13.trans e4
      have hts : Tws ts (.ref a) H' := ⟨a, vs, rfl, E4 a _ ha, hA.imp fun _ _ k => k.mono E4⟩
      refine ⟨_, rfl, _, ts, rfl, hts, ⟨by omega, fun t ht => by have := sz.o t ht; omega, sz.m⟩, fun H5 e5 => ⟨_, rfl, ?_⟩⟩
      refine ite2 (fun hb => ?_) (fun hb => ?_)
      · refine hno "ring" _ _ _ ((e3.trans e4).trans e5) ?_ rfl
        rw [hdue, if_pos (of_decide_eq_true hb)]
      · rw [if_neg (fun h => hb (decide_eq_true h))] at hdue
        have E5 : Ex H1 H5 := E4.trans e5
        dsimp only [tNext, tRet]
        unfold tTup tCons tC
        dsimp only
        refine use_p (en_lcTR (R := Tw) (fun _ _ _ _ => Tw.mono) (hA.imp fun _ _ k => k.mono E5) (fun t => (t.1, sset t.2)) (ev_var rfl) (SqL.of (E5 a _ ha)) (by omega) fun t v H6 ht e6 r Q' k => ?_) fun v H6 e6 hv => ?_
        · obtain ⟨p, o, rfl, h1, h2⟩ := r
          refine ⟨p, _, rfl, SqT.of h1, rfl, _, _, rfl, _, _, rfl, rfl, k _ rfl fun Q2 q2 => ?_⟩
          refine ⟨_, rfl, use_n (en_sset (K := K) (ev_var rfl) (SqL.of h2) (by have := sz.o t ht; omega)) fun r7 H7 hr7 e7 h7 => ⟨sz2, fun u hu => q2 _ _ (e7.trans (Ex.new hu)) fun M hM => ⟨u, r7, rfl, fun m => ?_, fun m => ?_, upd_same, ?_⟩⟩⟩
          · have := (hM u m).2
            cases hh : H6 u with
            | none => exact this hh
            | some o => rw [e7 u o hh] at hu; cases hu
          · exact (hM r7 m).2 hr7
          · rw [upd_ne (ne_of_none h7 hu)]
            exact h7
        · refine ⟨sz2, fun p hp => q _ _ ((((e3.trans e4).trans e5).trans e6).trans (Ex.new hp)) ?_⟩
          rw [hdue]
          exact ⟨p, v, rfl, upd_same, hv.mono (Ex.new hp)⟩
end
end Wt

-- WtD6
set_option maxHeartbeats 1000000
namespace Wt
open PySem PySem.Spec PyProof.Rows L2 Evl WtS
/-- the purse is a thing apart; the tuples stay -/
def sp_muddled : Sp := fun vs H Q _ => ∃ (v : V) (ts : List Tu) (p : Addr), vs = [v, .ref p] ∧ TwsX [p] ts v H ∧ SzN 6 6 ts ∧ Purse p H ∧ ∀ us u H', SzN 7 7 us → ExM [p] H H' → Purse p H' → Tws us u H' → Q u H'
where TwsX (M : List Addr) (ts : List Tu) (v : V) (H : Hp) : Prop := ∃ a vs, v = .ref a ∧ a ∉ M ∧ H a = some (.lst vs) ∧ All2 (TwX M) ts vs H
/-- what spoiling may add -/
structure SmallB (n s c : Nat) (z : Str) : Prop where
  len : z.length ≤ n
  semi : (TL.tl z).count 59 ≤ s
  com : (TL.tl z).count 44 ≤ c
  ok : okS z
def sp_spoiled : Sp := fun vs H Q _ => ∃ (z : Str) (p : Addr) (n s c : Nat), vs = [.str z, .ref p] ∧ SmallB n s c z ∧ n ≤ 1000 ∧ Purse p H ∧ ∀ y H', SmallB (n + 8) (s + 1) (c + 1) y → ExM [p] H H' → Purse p H' → Q (.str y) H'
section
variable {P : Program} {w : World} {K : PySem.W.Frag} {mg : Str → Option Value} {base : Heap}
theorem cut3 {z y : Str} {a b n s c : Nat} (hz : SmallB n s c z) (hab : a ≤ b) (hy : y.length ≤ 8) (hs : (TL.tl y).count 59 ≤ 1) (hc : (TL.tl y).count 44 ≤ 1) (ho : okS y) {x : Str} (hx : TL.tl x = (TL.tl z).take a ++ TL.tl y ++ (TL.tl z).drop b) : SmallB (n + 8) (s + 1) (c + 1) x := by
  have sub : ((TL.tl z).take a ++ (TL.tl z).drop b).Sublist (TL.tl z) := by
    have h1 : ((TL.tl z).drop b).Sublist ((TL.tl z).drop a) := by
      have : (TL.tl z).drop b = ((TL.tl z).drop a).drop (b - a) := by rw [List.drop_drop]; congr 1; omega
      rw [this]
      exact List.drop_sublist _ _
    have := List.Sublist.append (List.Sublist.refl ((TL.tl z).take a)) h1
    rw [List.take_append_drop] at this
    exact this
  have l1 := sub.length_le
  have l2 := sub.count_le 59
  have l3 := sub.count_le 44
  rw [List.length_append] at l1
  rw [List.count_append] at l2 l3
  have hl := hz.len
  have hls := hz.semi
  have hlc := hz.com
  rw [TL.len_tl] at hl hy
  refine ⟨?_, ?_, ?_, fun d hd => ?_⟩
  · rw [TL.len_tl, hx, List.length_append, List.length_append]
    omega
  · rw [hx, List.count_append, List.count_append]
    omega
  · rw [hx, List.count_append, List.count_append]
    omega
  · rw [hx] at hd
    rcases List.mem_append.mp hd with hd | hd
    · rcases List.mem_append.mp hd with hd | hd
      · exact hz.ok d (List.take_subset _ _ hd)
      · exact ho d hd
    · exact hz.ok d (List.drop_subset _ _ hd)
theorem ok_spoiled {f : Addr} {fd : FuncData} (T : Txt K mg) (C_take : Fok P w K mg base CX0 1 (He.ga K "_law_take") P__law_take sp_take) (F : Fd K d__law_spoiled f fd) : FnOk P w K mg base CX0 2 f fd P__law_spoiled sp_spoiled := by
  obtain ⟨fd_take, G_take, b_take⟩ := C_take.ex
  refine FunD.ok F sc__law_spoiled (fun vs H Q E h => ?_) (fun cdv A outer s H vs Q E hr h => ?_)
  · obtain ⟨z, p, n, s', c, rfl, _⟩ := h
    rfl
  · obtain ⟨z, p, n, sN, cN, rfl, hz, hn, hp, q⟩ := h
    refine ⟨_, PSs.nox (pss_cons (ps_set (i := 2) sc__law_spoiled.nd rfl (Or.inl rfl) (pe_call G_take (hr.mono (by decide)) rfl (T.gl _ (by decide +kernel)) C_take.kp b_take .nil pass0 (pa_cons (pv 1) (pa_cons (pe_op op_add (pe_callB call_len (by rfl) T.f_len (by decide +kernel) (pa_cons (pv 0) pa_nil)) pe_int) pa_nil))))
  (pss_cons (ps_set (i := 3) sc__law_spoiled.nd rfl (Or.inl rfl) (pe_call G_take (hr.mono (by decide)) rfl (T.gl _ (by decide +kernel)) C_take.kp b_take .nil pass0 (pa_cons (pv 1) (pa_cons pe_int pa_nil))))
  (pss_cons (ps_set (i := 4) sc__law_spoiled.nd rfl (Or.inl rfl) (pe_ix ix_str pe_str (pe_call G_take (hr.mono (by decide)) rfl (T.gl _ (by decide +kernel)) C_take.kp b_take .nil pass0 (pa_cons (pv 1) (pa_cons pe_int pa_nil))) (fun _ _ => rfl)))
  (pss_cons (ps_if (pt_cmpR op_eq (pv 3) pe_int (nomark _)) (pss_one (ps_ret (pe_op op_add_str (pe_slice sl_str (pv 0) po_none (po_some (pv 2))) (pe_slice sl_str (pv 0) (po_some (pe_op op_add (pv 2) pe_int)) po_none)))) pss_nil)
  (pss_cons (ps_if (pt_cmpR op_eq (pv 3) pe_int (nomark _)) (pss_one (ps_ret (pe_op op_add_str (pe_op op_add_str (pe_slice sl_str (pv 0) po_none (po_some (pv 2))) (pv 4)) (pe_slice sl_str (pv 0) (po_some (pe_op op_add (pv 2) pe_int)) po_none)))) pss_nil)
  (pss_cons (ps_if (pt_cmpR op_eq (pv 3) pe_int (nomark _)) (pss_one (ps_ret (pe_op op_add_str (pe_op op_add_str (pe_slice sl_str (pv 0) po_none (po_some (pv 2))) (pv 4)) (pe_slice sl_str (pv 0) (po_some (pv 2)) po_none)))) pss_nil)
  (pss_one (ps_ret (pe_op op_add_str (pe_op op_add_str (pe_slice sl_str (pv 0) po_none (po_some (pv 2))) (pe_ix ix_list (pe_lst (pa_cons pe_str (pa_cons pe_str (pa_cons pe_str (pa_cons pe_str (pa_cons pe_str (pa_cons pe_str pa_nil))))))) (pe_call G_take (hr.mono (by decide)) rfl (T.gl _ (by decide +kernel)) C_take.kp b_take .nil pass0 (pa_cons (pv 1) (pa_cons pe_int pa_nil))) (fun _ _ => rfl))) (pe_slice sl_str (pv 0) (po_some (pv 2)) po_none)))))))))), ?_⟩
    have hl := hz.len
    have hsz : z.length ≤ sizeLine := sz_of (by omega)
    refine ⟨_, rfl, _, rfl, _, z.length, rfl, ⟨hsz, rfl⟩, _, _, rfl, rfl, p, _, rfl, hp, by omega, by omega, fun at_ H1 a0 a1 e1 p1 => ?_⟩
    obtain ⟨at_, rfl⟩ := Int.eq_ofNat_of_zero_le a0
    refine ⟨_, rfl, p, 4, rfl, p1, by decide, by decide, fun way H2 w0 w1 e2 p2 => ?_⟩
    refine ⟨_, rfl, p, 10, rfl, p2, by decide, by decide, fun k H3 k0 k1 e3 p3 => ?_⟩
    obtain ⟨k, rfl⟩ := Int.eq_ofNat_of_zero_le k0
    have hk : k < (TL.tl (";:, aAn7-\n" : Str)).length := by
      have : (TL.tl (";:, aAn7-\n" : Str)).length = 10 := by decide +kernel
      omega
    have E3 : ExM [p] H H3 := (e1.trans e2).trans e3
    generalize hc : (TL.tl (";:, aAn7-\n" : Str))[k] = c
    have hcm : c ∈ TL.tl (";:, aAn7-\n" : Str) := by rw [← hc]; exact List.getElem_mem hk
    have hc1 : c < 1000 := by
      have all : ∀ c ∈ TL.tl (";:, aAn7-\n" : Str), c < 1000 := by decide +kernel
      exact all c hcm
    refine ⟨_, _, c, rfl, rfl, by decide, atI_nat (by rw [List.getElem?_eq_getElem hk, hc]), ?_⟩
    have one_c : ∀ d : Nat, (TL.tl (⟨#[c]⟩ : Str)).count d ≤ 1 := fun d => by
      show [c].count d ≤ 1
      rw [List.count_singleton]
      split <;> omega
    have len_c : (⟨#[c]⟩ : Str).length ≤ 8 := by show 1 ≤ 8; decide
    have ok_c : okS ⟨#[c]⟩ := fun d hd => by
      have : d = c := by simpa using hd
      rw [this]
      exact hc1
    have cl : ∀ lo hi, (cutS z lo hi).length ≤ 1000 := fun lo hi => Nat.le_trans (cutS_length z lo hi) (by omega)
    have tR1 : TL.tl (cutS z (some ((at_ : Int) + 1)) none) = (TL.tl z).drop (at_ + 1) := by
      rw [show ((at_ : Int) + 1) = ((at_ + 1 : Nat) : Int) by omega, tl_cutR]
    have lapp : ∀ x y : Str, (x ++ y).length = x.length + y.length := fun x y => by
      rw [TL.len_tl, TL.tl_append, List.length_append, ← TL.len_tl, ← TL.len_tl]
    refine q_when (et_test (ev_op (ev_var rfl) ev_c (rv_eq rfl))) (fun _ H4 e4 => ?_) (fun _ H4 e4 => ?_)
    · refine s_ret (ev_op (ev_slS (ev_var rfl) eo_none (eo_some (ev_var rfl)) (by omega)) (ev_slS (ev_var rfl) (eo_some (ev_op (ev_var rfl) ev_c rv_I0)) eo_none (by omega)) (rv_cat (by have := cl none (some (at_ : Int)); have := cl (some ((at_ : Int) + 1)) none; omega))) fun H5 e5 => ?_
      refine q _ H5 (cut3 (a := at_) (b := at_ + 1) (y := "") hz (by omega) (by decide +kernel) (by decide +kernel) (by decide +kernel) (okS_lit (by decide +kernel)) ?_) ((E3.trans (ExM.of e4)).trans (ExM.of e5)) ((p3.mono e4).mono e5)
      rw [TL.tl_append, tl_cutL, tR1]
      show _ = (TL.tl z).take at_ ++ [] ++ _
      rw [List.append_nil]
    refine q_when (et_test (ev_op (ev_var rfl) ev_c (rv_eq rfl))) (fun _ H5 e5 => ?_) (fun _ H5 e5 => ?_)
    · refine s_ret (ev_op (ev_op (ev_slS (ev_var rfl) eo_none (eo_some (ev_var rfl)) (by omega)) (ev_var rfl) (rv_cat (by have := cl none (some (at_ : Int)); omega))) (ev_slS (ev_var rfl) (eo_some (ev_op (ev_var rfl) ev_c rv_I0)) eo_none (by omega)) (rv_cat (by have := cl none (some (at_ : Int)); have := cl (some ((at_ : Int) + 1)) none; rw [lapp]; omega))) fun H6 e6 => ?_
      refine q _ H6 (cut3 (a := at_) (b := at_ + 1) (y := ⟨#[c]⟩) hz (by omega) len_c (one_c 59) (one_c 44) ok_c ?_) (((E3.trans (ExM.of e4)).trans (ExM.of e5)).trans (ExM.of e6)) (((p3.mono e4).mono e5).mono e6)
      rw [TL.tl_append, TL.tl_append, tl_cutL, tR1]
    refine q_when (et_test (ev_op (ev_var rfl) ev_c (rv_eq rfl))) (fun _ H6 e6 => ?_) (fun _ H6 e6 => ?_)
    · refine s_ret (ev_op (ev_op (ev_slS (ev_var rfl) eo_none (eo_some (ev_var rfl)) (by omega)) (ev_var rfl) (rv_cat (by have := cl none (some (at_ : Int)); omega))) (ev_slS (ev_var rfl) (eo_some (ev_var rfl)) eo_none (by omega)) (rv_cat (by have := cl none (some (at_ : Int)); have := cl (some (at_ : Int)) none; rw [lapp]; omega))) fun H7 e7 => ?_
      refine q _ H7 (cut3 (a := at_) (b := at_) (y := ⟨#[c]⟩) hz (by omega) len_c (one_c 59) (one_c 44) ok_c ?_) ((((E3.trans (ExM.of e4)).trans (ExM.of e5)).trans (ExM.of e6)).trans (ExM.of e7)) ((((p3.mono e4).mono e5).mono e6).mono e7)
      rw [TL.tl_append, TL.tl_append, tl_cutL, tl_cutR]
    have E6 : ExM [p] H H6 := ((E3.trans (ExM.of e4)).trans (ExM.of e5)).trans (ExM.of e6)
    refine ⟨_, rfl, _, rfl, (at_ : Int), rfl, z, rfl, hsz, sz_of (by show 6 ≤ 100000; decide), fun l hl6 => ?_⟩
    refine ⟨_, rfl, p, 6, rfl, (((p3.mono e4).mono e5).mono e6).mono (Ex.new hl6), by decide, by decide, fun j H7 j0 j1 e7 p7 => ?_⟩
    obtain ⟨j, rfl⟩ := Int.eq_ofNat_of_zero_le j0
    have hlp : l ∉ [p] := fun m => by
      obtain ⟨_, hp6, _⟩ := ((p3.mono e4).mono e5).mono e6
      rw [List.mem_singleton.mp m, hp6] at hl6
      cases hl6
    have hl7 := e7 l _ hlp upd_same
    have words6 : ∀ j < 6, ∃ y : Str, ([V.str ("; " : Str), V.str (": " : Str), V.str (", " : Str), V.str ("on" : Str), V.str ("; x: x" : Str), V.str ("abcdefgh" : Str)] : List V)[j]? = some (.str y) ∧ y.length ≤ 8 ∧ (TL.tl y).count 59 ≤ 1 ∧ (TL.tl y).count 44 ≤ 1 ∧ okS y := by
      intro j hj
      match j, hj with
      | 0, _ => exact ⟨_, rfl, by decide +kernel, by decide +kernel, by decide +kernel, okS_lit (by decide +kernel)⟩
      | 1, _ => exact ⟨_, rfl, by decide +kernel, by decide +kernel, by decide +kernel, okS_lit (by decide +kernel)⟩
      | 2, _ => exact ⟨_, rfl, by decide +kernel, by decide +kernel, by decide +kernel, okS_lit (by decide +kernel)⟩
      | 3, _ => exact ⟨_, rfl, by decide +kernel, by decide +kernel, by decide +kernel, okS_lit (by decide +kernel)⟩
      | 4, _ => exact ⟨_, rfl, by decide +kernel, by decide +kernel, by decide +kernel, okS_lit (by decide +kernel)⟩
      | 5, _ => exact ⟨_, rfl, by decide +kernel, by decide +kernel, by decide +kernel, okS_lit (by decide +kernel)⟩
    obtain ⟨y, hy, y8, ys, yc, yo⟩ := words6 j (by omega)
    refine ⟨l, _, (j : Int), _, rfl, rfl, SqL.of hl7, atI_nat hy, _, _, rfl, rfl, sz_of ?_, _, rfl, _, rfl, (at_ : Int), rfl, z, rfl, hsz, ?_⟩
    · have := cl none (some (at_ : Int))
      omega
    refine ⟨_, _, rfl, rfl, sz_of ?_, ?_⟩
    · have := cl none (some (at_ : Int))
      have := cl (some (at_ : Int)) none
      rw [lapp]
      omega
    refine q _ H7 (cut3 (a := at_) (b := at_) (y := y) hz (by omega) y8 ys yc yo ?_) ((E6.trans (ExM.of (Ex.new hl6))).trans e7) p7
    rw [TL.tl_append, TL.tl_append, tl_cutL, tl_cutR]
theorem ok_muddled {f : Addr} {fd : FuncData} (T : Txt K mg) (C_take : Fok P w K mg base CX0 1 (He.ga K "_law_take") P__law_take sp_take) (C_name : Fok P w K mg base CX0 2 (He.ga K "_law_name") P__law_name sp_name) (F : Fd K d__law_muddled f fd) : FnOk P w K mg base CX0 3 f fd P__law_muddled sp_muddled := by
  obtain ⟨fd_take, G_take, b_take⟩ := C_take.ex
  obtain ⟨fd_name, G_name, b_name⟩ := C_name.ex
  refine FunD.ok F sc__law_muddled (fun vs H Q E h => ?_) (fun cdv A outer s H vs Q E hr h => ?_)
  · obtain ⟨v, ts, p, rfl, _⟩ := h
    rfl
  · obtain ⟨v, ts, p, rfl, ⟨a, vs, rfl, nap, ha, hA⟩, hz, hp, q⟩ := h
    have hru := hr.units
    refine ⟨_, PSs.nox (pss_cut (ps_set (i := 4) sc__law_muddled.nd rfl (Or.inl rfl) (pe_op op_cat (pe_lc (own := [("_law_name_here", 2), ("_law_over", 3)]) (g := gTup K 2 (gCons (gName 2) (gCons (gName 3) (gNil)))) (tt := tYes) rfl sc__law_muddled.nd (pi_list (pv 0)) (blkOk_by (own := [("_law_name_here", 2), ("_law_over", 3)]) (N := N__law_muddled) (sc := (defScope s__law_muddled)) (by decide +kernel))
    (fun _ _ _ _ _ => (pg_tup rfl (pgs_cons (pg_name (i := 2) sc__law_muddled.nd rfl (Or.inl rfl)) (pgs_cons (pg_name (i := 3) sc__law_muddled.nd rfl (Or.inl rfl)) pgs_nil)))) (fun _ _ _ _ _ => pts_nil)
    (fun _ _ _ _ _ => (pv 2))) (pe_lst (pa_cons (pe_call G_name (hr.mono (by decide)) rfl (T.gl _ (by decide +kernel)) C_name.kp b_name .nil pass0 (pa_cons (pv 1) pa_nil)) pa_nil))))
  (pss_cons (ps_set (i := 5) sc__law_muddled.nd rfl (Or.inl rfl) (pe_lst pa_nil))
  (pss_cons (ps_for PassesOwn.never rfl (pi_list (pv 0)) (pg_tup rfl (pgs_cons (pg_name (i := 2) sc__law_muddled.nd rfl (Or.inl rfl)) (pgs_cons (pg_name (i := 3) sc__law_muddled.nd rfl (Or.inl rfl)) pgs_nil)))
    (pss_cons (ps_set (i := 6) sc__law_muddled.nd rfl (Or.inl rfl) (pe_callTy call_list_of (by rfl) T.f_list (by decide +kernel) (pa_cons (pv 3) pa_nil)))
    (pss_cut (ps_if (pt_cmpR op_eq (pe_call G_take (hr.mono (by decide)) rfl (T.gl _ (by decide +kernel)) C_take.kp b_take .nil pass0 (pa_cons (pv 1) (pa_cons pe_int pa_nil))) pe_int (nomark _)) (pss_one (ps_expr (pe_bm PySem.F.plainAttrs_list PySem.F.slot_list_append PySem.F.type_list_append mt_append (pv 6) (pa_cons (pe_ix ix_list (pv 4) (pe_call G_take (hr.mono (by decide)) rfl (T.gl _ (by decide +kernel)) C_take.kp b_take .nil pass0 (pa_cons (pv 1) (pa_cons (pe_callB call_len (by rfl) T.f_len (by decide +kernel) (pa_cons (pv 4) pa_nil)) pa_nil))) (fun _ _ => rfl)) pa_nil)))) pss_nil)
    (pss_one (ps_expr (pe_bm PySem.F.plainAttrs_list PySem.F.slot_list_append PySem.F.type_list_append mt_append (pv 5) (pa_cons (pe_tup (pa_cons (pv 2) (pa_cons (pe_revL (pv 6)) pa_nil))) pa_nil)))))))
  (pss_cut (ps_if (PW.pt (pw_and (pt_cmpR (op_neD hru) (pv 5) (pe_lst pa_nil) (nomark _)) (pw_and1 (pt_cmpR op_eq (pe_call G_take (hr.mono (by decide)) rfl (T.gl _ (by decide +kernel)) C_take.kp b_take .nil pass0 (pa_cons (pv 1) (pa_cons pe_int pa_nil))) pe_int (nomark _))))) (pss_one (ps_expr (pe_bm PySem.F.plainAttrs_list PySem.F.slot_list_append PySem.F.type_list_append mt_append (pv 5) (pa_cons (pe_ix ix_list (pv 5) (pe_call G_take (hr.mono (by decide)) rfl (T.gl _ (by decide +kernel)) C_take.kp b_take .nil pass0 (pa_cons (pv 1) (pa_cons (pe_callB call_len (by rfl) T.f_len (by decide +kernel) (pa_cons (pv 5) pa_nil)) pa_nil))) (fun _ _ => rfl)) pa_nil)))) pss_nil)
  (pss_one (ps_ret (pv 5))))))), ?_⟩
    have h6 := hz.n
    -- the names
    refine q_cut (M := fun σ' H' => ∃ (N : Addr) (ks : List Str), σ' = [some (.ref a), some (.ref p), none, none, some (.ref N), none, none] ∧ ExM [p] H H' ∧ Purse p H' ∧ N ≠ p ∧ H' N = some (.lst (ks.map V.str)) ∧ ks.length = ts.length + 1 ∧ ∀ x ∈ ks, isNm x = true) ?_ ?_
    · unfold tAsg tOp
      refine use_el (el_lcR (R := TwX [p]) (fun _ _ _ _ => TwX.mono) hA (fun _ => true) (fun t => .str t.1) (ev_var rfl) (SqL.of ha) (by omega) fun t v H2 ht e2 r Q' k => ?_) fun N1 H1 hN1 e1 hN => ?_
      · obtain ⟨pt, o, rfl, _, _, h1, h2⟩ := r
        exact ⟨pt, _, rfl, SqT.of h1, rfl, _, _, rfl, _, _, rfl, rfl, k _ rfl ev_yes fun _ H3 e3 => ev_var rfl⟩
      rw [filt_true] at hN
      have hN : H1 N1 = some (.lst ((nms ts).map V.str)) := by rw [hN, List.map_map] <;> rfl
      refine ⟨_, rfl, p, rfl, hp.mono e1, fun z H2 hzn e2 p2 => ⟨sz1, fun Z hZ => ?_⟩⟩
      have nN1p : N1 ∉ [p] := fun m => by
        obtain ⟨_, hp', _⟩ := hp
        rw [List.mem_singleton.mp m, hp'] at hN1
        cases hN1
      have hN2 := e2 N1 _ nN1p hN
      refine ⟨N1, Z, (nms ts).map V.str, [V.str z], rfl, rfl, by rw [upd_ne (ne_of_none hN2 hZ)]; exact hN2, upd_same, sz_of (by rw [List.length_map, List.length_map]; show _ + 1 ≤ _; omega), fun N hNn => ?_⟩
      have catE : (nms ts).map V.str ++ [V.str z] = (nms ts ++ [z]).map V.str := by rw [List.map_append] <;> rfl
      rw [catE]
      refine ⟨N, nms ts ++ [z], rfl, (((ExM.of e1).trans e2).trans (ExM.of (Ex.new hZ))).trans (ExM.of (Ex.new hNn)), (p2.mono (Ex.new hZ)).mono (Ex.new hNn), fun y => ?_, upd_same, ?_, fun x hx => ?_⟩
      · obtain ⟨_, hp', _⟩ := p2.mono (Ex.new (o := .lst [V.str z]) hZ)
        rw [y, hp'] at hNn
        cases hNn
      · rw [List.length_append, List.length_map] <;> rfl
      · rcases List.mem_append.mp hx with hx | hx
        · obtain ⟨t, ht, rfl⟩ := List.mem_map.mp hx
          exact (hz.m t ht).1
        · rw [List.mem_singleton.mp hx]; exact hzn
    rintro _ H3 ⟨N, ks, rfl, eN, pN, nNp, hN3, ksl, ksn⟩
    refine ⟨sz0, fun F0 hF => ?_⟩
    have nFp : F0 ≠ p := fun y => by
      obtain ⟨_, hp', _⟩ := pN
      rw [y, hp'] at hF; cases hF
    have nFN : F0 ≠ N := fun y => by rw [y, hN3] at hF; cases hF
    have hF0 : H F0 = none := by
      cases hh : H F0 with
      | none => rfl
      | some o => rw [eN F0 o (by simp [nFp]) hh] at hF; cases hF
    have eF : ExM [p] H (upd H3 F0 (.lst [])) := eN.trans (ExM.of (Ex.new hF))
    refine q_forL (ev_var rfl) (SqL.of (eF a _ nap ha)) (fun i σ' H' => ∃ (x2 x3 x6 : Option V) (us : List Tu) (ws : List V), σ' = [some (.ref a), some (.ref p), x2, x3, some (.ref N), some (.ref F0), x6] ∧ ExM [p] H H' ∧ Purse p H' ∧ H' N = some (.lst (ks.map V.str)) ∧ H' F0 = some (.lst ws) ∧
      All2 (TwX [p, F0]) us ws H' ∧ us.length = i ∧ SzN 7 7 us) (fun H' e => ⟨_, _, _, [], [], rfl, eF.trans (ExM.of e), (pN.mono (Ex.new hF)).mono e, e N _ (by rw [upd_ne (Ne.symm nFN)]; exact hN3), e F0 _ upd_same, All2.nil, rfl, ⟨by decide, fun t ht => (List.not_mem_nil ht).elim, fun t ht => (List.not_mem_nil ht).elim⟩⟩)
      (fun i σ' H' hi pI => ?_) (fun i v σ' H' hi pI => ?_) (fun σ' H' pI => ?_)
    · obtain ⟨_, _, _, us, ws, rfl, e4, _⟩ := pI
      exact SqL.of (e4 a _ nap ha)
    · obtain ⟨_, _, _, us, ws, rfl, e4, p4, hN4, hF4, hU, hul, hus⟩ := pI
      obtain ⟨t, ht, r⟩ := hA.get hi
      obtain ⟨pt, ot, rfl, n1, n2, h1, h2⟩ := r
      have tm := List.mem_of_getElem? ht
      have hil : i < ts.length := (List.getElem?_eq_some_iff.mp ht).1
      refine ⟨pt, _, rfl, SqT.of (e4 pt _ n1 h1), rfl, _, _, rfl, _, _, rfl, rfl, ?_⟩
      have ho4 := e4 ot _ n2 h2
      refine ⟨_, rfl, ot, _, rfl, .inl (SqL.of ho4), fun M hM => ?_⟩
      have e5 : Ex H' (upd H' M (.lst (t.2.map V.str))) := Ex.new hM
      have nMp : M ≠ p := fun y => by
        obtain ⟨_, hp', _⟩ := p4
        rw [y, hp'] at hM; cases hM
      have nMF : M ≠ F0 := fun y => by rw [y, hF4] at hM; cases hM
      have nMN : M ≠ N := fun y => by rw [y, hN4] at hM; cases hM
      have nFpM : F0 ∉ [p, M] := by simp [nFp, Ne.symm nMF]
      refine q_cut (M := fun σ2 H2 => ∃ os : List Str, σ2 = [some (.ref a), some (.ref p), some (.str t.1), some (.ref ot), some (.ref N), some (.ref F0), some (.ref M)] ∧ ExM [p] H' H2 ∧ Purse p H2 ∧ H2 M = some (.lst (os.map V.str)) ∧ os.length ≤ 7 ∧ ∀ x ∈ os, isNm x = true) ?_ ?_
      · refine ⟨_, rfl, p, 2, rfl, p4.mono e5, by decide, by decide, fun r1 H5 _ _ e6 p5 => ⟨rfl, _, rfl, ?_⟩⟩
        have hM5 : H5 M = some (.lst (t.2.map V.str)) := e6 M _ (by simp [nMp]) upd_same
        have E5 : ExM [p] H' H5 := (ExM.of e5).trans e6
        have t6 := hz.o t tm
        refine ite2 (fun _ => ?_) (fun _ => ⟨t.2, rfl, E5, p5, hM5, by omega, (hz.m t tm).2⟩)
        have hN5 := E5 N _ (by simp [nNp]) hN4
        refine ⟨_, rfl, .inl ⟨rfl, _, SqL.of hM5⟩, _, rfl, _, rfl, _, rfl, _, (ks.map V.str).length, rfl, .inl ⟨_, SqL.of hN5, rfl⟩, p, _, rfl, p5, ?_, ?_, fun r2 H6 r20 r21 e7 p6 => ?_⟩
        · rw [List.length_map, ksl]; omega
        · rw [List.length_map, ksl]; omega
        obtain ⟨k, rfl⟩ := Int.eq_ofNat_of_zero_le r20
        rw [List.length_map] at r21
        have hk : k < ks.length := by omega
        have hN6 := e7 N _ (by simp [nNp]) hN5
        have hM6 := e7 M _ (by simp [nMp]) hM5
        refine ⟨N, _, (k : Int), .str ks[k], rfl, rfl, SqL.of hN6, atI_nat (by rw [List.getElem?_map, List.getElem?_eq_getElem hk] <;> rfl), M, _, _, rfl, rfl, hM6, sz_lt (by rw [List.length_map]; omega), t.2 ++ [ks[k]], rfl, ?_, ?_, ?_, ?_, fun x hx => ?_⟩
        · intro b o hb h
          have nb : b ≠ M := fun y => by rw [y, hM] at h; cases h
          rw [upd_ne nb]
          exact e7 b o hb (E5 b o hb h)
        · obtain ⟨ns, hp', h2⟩ := p6
          exact ⟨ns, by rw [upd_ne (Ne.symm nMp)]; exact hp', h2⟩
        · rw [upd_same, List.map_append] <;> rfl
        · rw [List.length_append, List.length_singleton]; omega
        · rcases List.mem_append.mp hx with hx | hx
          · exact (hz.m t tm).2 x hx
          · rw [List.mem_singleton.mp hx]
            exact ksn _ (List.getElem_mem hk)
      · rintro _ H5 ⟨os, rfl, e6, p5, hM5, ol, on⟩
        have hF5 := e6 F0 _ (by simp [nFp]) hF4
        refine ⟨_, rfl, .inl ⟨rfl, _, SqL.of hF5⟩, _, rfl, _, rfl, M, _, rfl, SqL.of hM5, fun R hR => ⟨sz2, fun u hu => ⟨F0, ws, _, rfl, rfl, ?_, sz_lt ?_, ?_⟩⟩⟩
        · rw [upd_ne (ne_of_none (o := .lst ws) (by rw [upd_ne (ne_of_none hF5 hR)]; exact hF5) hu), upd_ne (ne_of_none hF5 hR)]
          exact hF5
        · rw [hU.1]; omega
        have eU : Ex H5 (upd (upd H5 R (.lst (os.map V.str).reverse)) u (.tup [.str t.1, .ref R])) := (Ex.new hR).trans (Ex.new hu)
        have nRF : R ≠ F0 := fun y => by rw [y, hF5] at hR; cases hR
        have nuF : u ≠ F0 := fun y => by rw [y, upd_ne (Ne.symm nRF), hF5] at hu; cases hu
        have nRu : R ≠ u := fun y => by rw [← y, upd_same] at hu; cases hu
        have nRp : R ≠ p := fun y => by
          obtain ⟨_, hp', _⟩ := p5
          rw [y, hp'] at hR; cases hR
        have nup : u ≠ p := fun y => by
          obtain ⟨_, hp', _⟩ := p5
          rw [y, upd_ne (Ne.symm nRp), hp'] at hu; cases hu
        have em : ExM [p, F0] (upd (upd H5 R (.lst (os.map V.str).reverse)) u (.tup [.str t.1, .ref R])) (upd (upd (upd H5 R (.lst (os.map V.str).reverse)) u (.tup [.str t.1, .ref R])) F0 (.lst (ws ++ [.ref u]))) := ExM.upd (by simp)
        have e6' : ExM [p, F0] H' H5 := e6.sub fun b hb => by rw [List.mem_singleton.mp hb]; simp
        have nt : NmT (t.1, os.reverse) := ⟨(hz.m t tm).1, fun x hx => on x (List.mem_reverse.mp hx)⟩
        refine ⟨_, _, _, us ++ [(t.1, os.reverse)], ws ++ [.ref u], rfl, ?_, ?_, ?_, upd_same, ?_, ?_, ?_⟩
        · intro b o hb h
          have nb : b ≠ F0 := fun y => by rw [y, hF0] at h; cases h
          rw [upd_ne nb]
          exact eU b o (e6 b o hb (e4 b o hb h))
        · obtain ⟨ns, hp', h2⟩ := p5.mono eU
          exact ⟨ns, by rw [upd_ne (Ne.symm nFp)]; exact hp', h2⟩
        · rw [upd_ne (Ne.symm nFN)]
          exact eU N _ (e6 N _ (by simp [nNp]) hN4)
        · refine All2.snoc (hU.imp fun _ _ k => ((k.monoM e6').mono eU).monoM em) (TwX.monoM em ⟨u, R, rfl, by simp [nup, nuF], by simp [nRp, nRF], upd_same, ?_⟩)
          rw [upd_ne nRu, upd_same, List.map_reverse]
        · rw [List.length_append, List.length_singleton, hul]
        · refine ⟨by rw [List.length_append, List.length_singleton]; omega, fun x hx => ?_, fun x hx => ?_⟩
          · rcases List.mem_append.mp hx with hx | hx
            · exact hus.o x hx
            · rw [List.mem_singleton.mp hx]
              show os.reverse.length ≤ 7
              rw [List.length_reverse]
              exact ol
          · rcases List.mem_append.mp hx with hx | hx
            · exact hus.m x hx
            · rw [List.mem_singleton.mp hx]; exact nt
    · obtain ⟨x2, x3, x6, us, ws, rfl, e4, p4, hN4, hF4, hU, hul, hus⟩ := pI
      have hul : us.length = ts.length := by rw [hul, hA.1]
      have wl : ws.length = ts.length := by rw [hU.1, hul]
      have fin : ∀ (us : List Tu) (ws : List V) (D : Ends) (H5 : Hp), D.rt = Q → SzN 7 7 us → ExM [p] H H5 → Purse p H5 → H5 F0 = some (.lst ws) → All2 (TwX [p, F0]) us ws H5 → D.rt (.ref F0) H5 := fun us ws D H5 hD h1 h2 h3 h4 h5 => by
        rw [hD]
        exact q us _ H5 h1 h2 h3 ⟨F0, ws, rfl, h4, h5.imp fun _ _ k => k.tw⟩
      refine q_cut (M := fun σ2 H2 => σ2 = [some (.ref a), some (.ref p), x2, x3, some (.ref N), some (.ref F0), x6] ∧ ∃ (us : List Tu) (ws : List V), SzN 7 7 us ∧ ExM [p] H H2 ∧ Purse p H2 ∧ H2 F0 = some (.lst ws) ∧ All2 (TwX [p, F0]) us ws H2) ?_ ?_
      · refine ⟨_, rfl, sz0, fun l hl => neD_Ts (ts := us) (us := []) ⟨F0, ws, rfl, by rw [upd_ne (ne_of_none hF4 hl)]; exact hF4, hU.imp fun _ _ k => (k.mono (Ex.new hl)).tw⟩ ⟨l, [], rfl, upd_same, All2.nil⟩ (fun t ht => (hus.m t ht).ok) (fun t ht => (List.not_mem_nil ht).elim) ⟨_, rfl, ?_⟩⟩
        have e5 : Ex H' (upd H' l (.lst [])) := Ex.new hl
        refine ite2 (fun hb => ?_) (fun hb => ?_)
        · have hne : us ≠ [] := fun h => by rw [decide_eq_true h] at hb; cases hb
          have hpos : 0 < us.length := List.length_pos_iff.mpr hne
          refine ⟨_, rfl, p, 4, rfl, p4.mono e5, by decide, by decide, fun r1 H5 _ _ e6 p5 => ⟨rfl, _, rfl, ?_⟩⟩
          have E5 : ExM [p] H' H5 := (ExM.of e5).trans e6
          have hF5 := E5 F0 _ (by simp [nFp]) hF4
          have hU5 : All2 (TwX [p, F0]) us ws H5 := hU.imp fun _ _ k => k.monoM (E5.sub fun b hb => by rw [List.mem_singleton.mp hb]; simp)
          refine ite2 (fun _ => ?_) (fun _ => ⟨rfl, us, ws, hus, e4.trans E5, p5, hF5, hU5⟩)
          refine ⟨_, rfl, .inl ⟨rfl, _, SqL.of hF5⟩, _, rfl, _, rfl, _, rfl, _, ws.length, rfl, .inl ⟨_, SqL.of hF5, rfl⟩, p, _, rfl, p5, by omega, by omega, fun r2 H6 r20 r21 e7 p6 => ?_⟩
          obtain ⟨k, rfl⟩ := Int.eq_ofNat_of_zero_le r20
          have hk : k < ws.length := by omega
          have hF6 := e7 F0 _ (by simp [nFp]) hF5
          have hU6 : All2 (TwX [p, F0]) us ws H6 := hU5.imp fun _ _ k => k.monoM (e7.sub fun b hb => by rw [List.mem_singleton.mp hb]; simp)
          obtain ⟨u, hu, ru⟩ := hU6.get (List.getElem?_eq_getElem hk)
          have em : ExM [p, F0] H6 (upd H6 F0 (.lst (ws ++ [ws[k]]))) := ExM.upd (by simp)
          refine ⟨F0, ws, (k : Int), ws[k], rfl, rfl, SqL.of hF6, atI_nat (List.getElem?_eq_getElem hk), F0, ws, _, rfl, rfl, hF6, sz_lt (by omega), rfl, us ++ [u], ws ++ [ws[k]], ⟨?_, fun x hx => ?_, fun x hx => ?_⟩, ?_, ?_, upd_same, ?_⟩
          · rw [List.length_append, List.length_singleton]; omega
          · rcases List.mem_append.mp hx with hx | hx
            · exact hus.o x hx
            · rw [List.mem_singleton.mp hx]; exact hus.o u (List.mem_of_getElem? hu)
          · rcases List.mem_append.mp hx with hx | hx
            · exact hus.m x hx
            · rw [List.mem_singleton.mp hx]; exact hus.m u (List.mem_of_getElem? hu)
          · intro b o hb h
            have nb : b ≠ F0 := fun y => by rw [y, hF0] at h; cases h
            rw [upd_ne nb]
            exact e7 b o hb (E5 b o hb (e4 b o hb h))
          · obtain ⟨ns, hp', h2⟩ := p6
            exact ⟨ns, by rw [upd_ne (Ne.symm nFp)]; exact hp', h2⟩
          · exact All2.snoc (hU6.imp fun _ _ k => k.monoM em) (ru.monoM em)
        · exact iteF ⟨rfl, us, ws, hus, e4.trans (ExM.of e5), p4.mono e5, e5 F0 _ hF4, hU.imp fun _ _ k => k.mono e5⟩
      · rintro _ H5 ⟨rfl, us, ws, h1, h2, h3, h4, h5⟩
        exact ⟨_, rfl, fin us ws _ H5 rfl h1 h2 h3 h4 h5⟩
end
end Wt

-- WtP1
set_option maxHeartbeats 1000000
namespace Wt
open PySem PySem.Spec PyProof.Rows L2 Evl WtS WtX WtR
/-- an error of one of the classes without a place, raised -/
def Er (K : PySem.W.Frag) (x : Str) (H : Hp) (E : XK) : Prop := ∀ H', Ex H H' → E (.ref (He.ga K x)) none H'
theorem Er.mono {K : PySem.W.Frag} {x : Str} {H H' : Hp} {E : XK} (e : Ex H H') (h : Er K x H E) : Er K x H' E := fun H2 e2 => h H2 (e.trans e2)
theorem joinL_lenp {S : List Nat} : ∀ {ps : List (List Nat)} {p : List Nat}, p ∈ ps → p.length ≤ (TL.joinL S ps).length
  | [], _, h => (List.not_mem_nil h).elim
  | [q], p, h => by rw [List.mem_singleton.mp h] <;> exact Nat.le_refl _
  | q :: r :: s, p, h => by
    show _ ≤ (q ++ (S ++ TL.joinL S (r :: s))).length
    rw [List.length_append, List.length_append]
    rcases List.mem_cons.mp h with rfl | h
    · omega
    · have := joinL_lenp (S := S) h
      omega
theorem joinL_lenc {S : List Nat} (hS : 1 ≤ S.length) : ∀ ps : List (List Nat), ps.length ≤ (TL.joinL S ps).length + 1
  | [] => Nat.zero_le _
  | [p] => by simp
  | p :: q :: r => by
    have ih := joinL_lenc hS (q :: r)
    show _ ≤ (p ++ (S ++ TL.joinL S (q :: r))).length + 1
    rw [List.length_append, List.length_append]
    simp only [List.length_cons] at ih ⊢
    omega
theorem split_lens (z : Str) {y : Str} {s : Nat} {S : List Nat} (ey : TL.tl y = s :: S) (hk : y.cps.all (· < 256) = true) : (∀ p ∈ Txt.split z y, p.length ≤ z.length) ∧ (Txt.split z y).length ≤ z.length + 1 := by
  have e := split_back z ey hk
  refine ⟨fun p hp => ?_, ?_⟩
  · have := joinL_lenp (S := s :: S) (List.mem_map_of_mem (f := TL.tl) hp)
    rw [e] at this
    rw [TL.len_tl, TL.len_tl z]
    exact this
  · have := joinL_lenc (S := s :: S) (by simp) ((Txt.split z y).map TL.tl)
    rw [e, List.length_map] at this
    rw [TL.len_tl z]
    exact this
def sp_rname (K : PySem.W.Frag) : Sp := fun vs H Q E => ∃ z : Str, vs = [.str z] ∧ z.length ≤ 40000 ∧ (isNm z = true → ∀ H', Ex H H' → Q (.str z) H') ∧ (isNm z = false → Er K "NoText" H E)
def sp_rover (K : PySem.W.Frag) : Sp := fun vs H Q E => ∃ z : Str, vs = [.str z] ∧ z.length ≤ 30000 ∧ ((Txt.split z (", " : Str)).all isNm = true → ∀ p H', H p = none → Ex H H' → H' p = some (.lst ((Txt.split z (", " : Str)).map V.str)) → Q (.ref p) H') ∧
  ((Txt.split z (", " : Str)).all isNm = false → Er K "NoText" H E)
def sp_rtuple (K : PySem.W.Frag) : Sp := fun vs H Q E => ∃ z : Str, vs = [.str z] ∧ z.length ≤ 30000 ∧ (∀ t, progT z = some t → ∀ p o H', H p = none → H o = none → Ex H H' → H' p = some (.tup [.str t.1, .ref o]) → H' o = some (.lst (t.2.map V.str)) → Q (.ref p) H') ∧
  (progT z = none → Er K "NoText" H E)
section
variable {P : Program} {w : World} {K : PySem.W.Frag} {mg : Str → Option Value} {base : Heap}
theorem pmk_x {X : Cx} {x m : Str} {j : Nat} {p p2 pos : Pos} {mg : Str → Option Value} (T : Txt X.K X.mg) (hx : x ∈ (["NoText", "NoKind", "Taken"] : List Str)) (hg : Gl X x) (hgl : x ∈ globs) (hdb : (x == ("__debug__" : Str)) = false := by decide) :
    L2N.PMk X (.Call (.Name x p) [.Constant (.str m) j p2] [] pos) (fun _ H Q => Q (.ref (He.ga X.K x)) none H) :=
  L2N.pmk_own F.excBase_ValueError (T.xc x hx).1 (T.gl x hgl) (T.xc x hx).2.1 (raises_own (T.xc x hx).2.2.1 (T.xc x hx).2.2.2) hg hdb
theorem ok_rname {f : Addr} {fd : FuncData} (T : Txt K mg) (C_is_name : Fok P w K mg base CX0 1 (He.ga K "is_name") P_is_name sp_nm) (F : Fd K d_read_name f fd) : FnOk P w K mg base (L2N.CX P w) 2 f fd P_read_name (sp_rname K) := by
  obtain ⟨fd_is_name, G_is_name, b_is_name⟩ := C_is_name.ex
  refine FunD.ok F sc_read_name (fun vs H Q E h => ?_) (fun cdv A outer s H vs Q E hr h => ?_)
  · obtain ⟨z, rfl, _⟩ := h
    rfl
  · obtain ⟨z, rfl, hz, q1, q2⟩ := h
    have tk := L2N.takes_of (X := cxOf (L2N.CX P w) P w K mg base N_read_name d_read_name.qual d_read_name.scope f cdv A outer s H E) (E := E) rfl rfl rfl rfl
    refine ⟨_, pss_cons (ps_if (pt_not (pt_val (pe_call G_is_name (hr.mono (by decide)) rfl (T.gl _ (by decide +kernel)) C_is_name.kp b_is_name .nil pass0 (pa_cons (pv 0) pa_nil)))) (pss_one (L2N.ps_raise rfl tk (pmk_x (mg := mg) T (by decide +kernel) rfl (by decide +kernel)))) pss_nil)
  (pss_one (ps_ret (pv 0))), ?_⟩
    refine ⟨_, rfl, z, rfl, hz, fun H1 e1 => ⟨_, rfl, ?_⟩⟩
    cases hn : isNm z with
    | true => exact iteF ⟨_, rfl, q1 hn H1 e1⟩
    | false => exact iteT (q2 hn H1 e1)
theorem ok_rover {f : Addr} {fd : FuncData} (T : Txt K mg) (C_read_name : Fok P w K mg base (L2N.CX P w) 2 (He.ga K "read_name") P_read_name (sp_rname K)) (F : Fd K d_read_over f fd) : FnOk P w K mg base (L2N.CX P w) 3 f fd P_read_over (sp_rover K) := by
  obtain ⟨fd_read_name, G_read_name, b_read_name⟩ := C_read_name.ex
  refine FunD.ok F sc_read_over (fun vs H Q E h => ?_) (fun cdv A outer s H vs Q E hr h => ?_)
  · obtain ⟨z, rfl, _⟩ := h
    rfl
  · obtain ⟨z, rfl, hz, q1, q2⟩ := h
    have tk := L2N.takes_of (X := cxOf (L2N.CX P w) P w K mg base N_read_over d_read_over.qual d_read_over.scope f cdv A outer s H E) (E := E) rfl rfl rfl rfl
    refine ⟨_, pss_one (ps_ret (pe_lcX (own := [("part", 1)]) (g := gName 1) (tt := tYes) (te := fun E => tCallS (sp_rname K) (fun _ => E) (tCons (tVar 1) tNil)) rfl sc_read_over.nd rfl rfl tk (pi_list (pe_split (pv 0) pe_str)) (blkOk_by (own := [("part", 1)]) (N := N_read_over) (sc := (defScope s_read_over)) (by decide +kernel))
    (fun _ _ _ _ _ _ => (pg_name (i := 1) sc_read_over.nd rfl (Or.inl rfl))) (fun _ _ _ _ _ _ => pts_nil)
    (fun _ _ _ _ _ _ _ px => (pe_callS G_read_name (hr.mono (by decide)) rfl (T.gl _ (by decide +kernel)) C_read_name.kp b_read_name px (pa_cons (pv 1) pa_nil))))), ?_⟩
    have hsz : z.length + 2 ≤ sizeLine := sz_of (by omega)
    obtain ⟨ysl, ysc⟩ := split_lens z tl_comma k_comma
    refine ⟨_, rfl, ⟨z, rfl⟩, z, (", " : Str), rfl, rfl, by decide +kernel, hsz, fun S hS => ⟨S, rfl, ⟨_, SqL.of upd_same⟩, fun D hD => ?_⟩⟩
    generalize hys : Txt.split z (", " : Str) = ys at *
    have eS : Ex H (upd H S (.lst (ys.map V.str))) := Ex.new hS
    refine lc_list (xs := ys.map V.str) (fun i H' => Ex (upd H S (.lst (ys.map V.str))) H' ∧ H' D = some (.lst ((ys.take i).map V.str)) ∧ (ys.take i).all isNm = true) ⟨Ex.new hD, by rw [List.take_zero]; exact upd_same, by rw [List.take_zero] <;> rfl⟩ (fun i H' _ p => SqL.of (p.1 S _ upd_same)) (fun i x H' hx p => ?_) (fun H' p => ?_)
    · obtain ⟨e1, hD1, ha⟩ := p
      rw [List.getElem?_map] at hx
      obtain ⟨y, hy, rfl⟩ := Option.map_eq_some_iff.mp hx
      have ym := List.mem_of_getElem? hy
      have tk1 : ys.take (i + 1) = ys.take i ++ [y] := by rw [List.take_add_one, hy] <;> rfl
      refine ⟨rfl, _, rfl, y, rfl, by have := ysl y ym; omega, fun hn H2 e2 => ⟨_, e2 D _ hD1, sz_lt ?_, ?_, ?_, ?_⟩, fun hn => ?_⟩
      · rw [List.length_map, List.length_take]
        omega
      · intro b o h
        have nb : b ≠ D := fun z => by rw [z, hD] at h; cases h
        rw [upd_ne nb]
        exact e2 b o (e1 b o h)
      · rw [upd_same, tk1, List.map_append] <;> rfl
      · rw [tk1, List.all_append, ha]
        simp [hn]
      · refine Er.mono (eS.trans e1) (q2 ?_)
        rw [← Bool.not_eq_true, List.all_eq_true]
        intro h
        rw [h y ym] at hn
        cases hn
    · obtain ⟨e1, hD1, ha⟩ := p
      rw [List.length_map, List.take_of_length_le (Nat.le_refl _)] at hD1 ha
      exact q1 ha D H' (fresh_back eS hD) (eS.trans e1) hD1
theorem ok_rtuple {f : Addr} {fd : FuncData} (T : Txt K mg) (C_read_name : Fok P w K mg base (L2N.CX P w) 2 (He.ga K "read_name") P_read_name (sp_rname K)) (C_read_over : Fok P w K mg base (L2N.CX P w) 3 (He.ga K "read_over") P_read_over (sp_rover K)) (F : Fd K d_read_tuple f fd) : FnOk P w K mg base (L2N.CX P w) 4 f fd P_read_tuple (sp_rtuple K) := by
  obtain ⟨fd_read_name, G_read_name, b_read_name⟩ := C_read_name.ex
  obtain ⟨fd_read_over, G_read_over, b_read_over⟩ := C_read_over.ex
  refine FunD.ok F sc_read_tuple (fun vs H Q E h => ?_) (fun cdv A outer s H vs Q E hr h => ?_)
  · obtain ⟨z, rfl, _⟩ := h
    rfl
  · obtain ⟨z, rfl, hz, q1, q2⟩ := h
    have tk := L2N.takes_of (X := cxOf (L2N.CX P w) P w K mg base N_read_tuple d_read_tuple.qual d_read_tuple.scope f cdv A outer s H E) (E := E) rfl rfl rfl rfl
    refine ⟨_, pss_cons (ps_asg (pe_partition (pv 0) pe_str) (pg_tup rfl (pgs_cons (pg_name (i := 1) sc_read_tuple.nd rfl (Or.inl rfl)) (pgs_cons (pg_name (i := 2) sc_read_tuple.nd rfl (Or.inl rfl)) (pgs_cons (pg_name (i := 3) sc_read_tuple.nd rfl (Or.inl rfl)) pgs_nil)))))
  (pss_cons (ps_if (pt_cmpR op_eq (pv 2) pe_str (nomark _)) (pss_one (ps_ret (pe_tup (pa_cons (pe_callS G_read_name (hr.mono (by decide)) rfl (T.gl _ (by decide +kernel)) C_read_name.kp b_read_name (fun σ => L2N.passAt tk σ) (pa_cons (pv 0) pa_nil)) (pa_cons (pe_lst pa_nil) pa_nil))))) pss_nil)
  (pss_one (ps_ret (pe_tup (pa_cons (pe_callS G_read_name (hr.mono (by decide)) rfl (T.gl _ (by decide +kernel)) C_read_name.kp b_read_name (fun σ => L2N.passAt tk σ) (pa_cons (pv 1) pa_nil)) (pa_cons (pe_callS G_read_over (hr.mono (by decide)) rfl (T.gl _ (by decide +kernel)) C_read_over.kp b_read_over (fun σ => L2N.passAt tk σ) (pa_cons (pv 3) pa_nil)) pa_nil)))))), ?_⟩
    have hsz : z.length ≤ sizeLine := sz_of (by omega)
    have pl : (Txt.partition z (": " : Str)).1.length ≤ z.length ∧ (Txt.partition z (": " : Str)).2.2.length ≤ z.length := by
      rw [TL.partition_par z (": " : Str) (by rw [tl_colon]; simp), tl_colon]
      cases hp : TL.par [58, 32] [] (TL.tl z) with
      | none => exact ⟨Nat.le_refl _, Nat.zero_le _⟩
      | some ab =>
        obtain ⟨a, b⟩ := ab
        have e := congrArg List.length (par_sound _ _ _ _ hp)
        simp only [List.nil_append, List.length_append] at e
        rw [TL.len_tl z]
        refine ⟨?_, ?_⟩
        · show (a.toArray).size ≤ _
          rw [List.size_toArray]
          omega
        · show (b.toArray).size ≤ _
          rw [List.size_toArray]
          omega
    refine ⟨_, rfl, ⟨z, rfl⟩, z, (": " : Str), rfl, rfl, by decide +kernel, hsz, fun p hp => ?_⟩
    have ep : Ex H (upd H p (.tup [.str (Txt.partition z (": " : Str)).1, .str (Txt.partition z (": " : Str)).2.1, .str (Txt.partition z (": " : Str)).2.2])) := Ex.new hp
    refine ⟨p, _, rfl, SqT.of upd_same, rfl, _, _, rfl, _, _, rfl, _, _, rfl, rfl, ?_⟩
    have hg : progT z = (if (Txt.partition z (": " : Str)).2.1 = "" then (if isNm z then some (z, []) else none)
      else if isNm (Txt.partition z (": " : Str)).1 && (Txt.split (Txt.partition z (": " : Str)).2.2 (", " : Str)).all isNm then some ((Txt.partition z (": " : Str)).1, Txt.split (Txt.partition z (": " : Str)).2.2 (", " : Str)) else none) := rfl
    generalize hPP : Txt.partition z (": " : Str) = PP at *
    obtain ⟨a, c, b⟩ := PP
    dsimp only at pl hg ep ⊢
    refine ⟨_, rfl, rfl, _, rfl, ?_⟩
    by_cases hc : c = ""
    · rw [decide_eq_true (congrArg V.str hc)]
      rw [if_pos hc] at hg
      refine iteT ?_
      refine ⟨_, rfl, z, rfl, by omega, fun hn H1 e1 => ⟨sz0, fun o ho => ⟨sz2, fun t ht => ?_⟩⟩, fun hn => ?_⟩
      · rw [hn, if_pos rfl] at hg
        have eo : Ex H (upd H1 o (.lst [])) := (ep.trans e1).trans (Ex.new ho)
        refine q1 _ hg t o _ (fresh_back eo ht) (fresh_back (ep.trans e1) ho) (eo.trans (Ex.new ht)) upd_same ?_
        rw [upd_ne (ne_of_none (o := .lst []) upd_same ht), upd_same] <;> rfl
      · rw [hn] at hg
        exact Er.mono ep (q2 hg)
    · rw [decide_eq_false (fun e => hc (V.str.inj e))]
      rw [if_neg hc] at hg
      refine iteF ?_
      refine ⟨_, rfl, a, rfl, by omega, fun hn H1 e1 => ?_, fun hn => ?_⟩
      · refine ⟨_, rfl, b, rfl, by omega, fun ha o H2 ho e2 h2 => ⟨sz2, fun t ht => ?_⟩, fun ha => ?_⟩
        · rw [hn, ha] at hg
          have eo : Ex H H2 := (ep.trans e1).trans e2
          refine q1 _ hg t o _ (fresh_back eo ht) (fresh_back (ep.trans e1) ho) (eo.trans (Ex.new ht)) upd_same ?_
          rw [upd_ne (ne_of_none h2 ht)]
          exact h2
        · rw [hn, ha] at hg
          exact Er.mono (ep.trans e1) (q2 hg)
      · rw [hn] at hg
        exact Er.mono ep (q2 hg)
end
end Wt

-- WtP2
set_option maxHeartbeats 1000000
namespace Wt
open PySem PySem.Spec PyProof.Rows L2 Evl WtS WtX WtR
section
variable {K : PySem.W.Frag} {σ : L2.St} {H : Hp} {td ty : TE}
theorem ev_dget {a : Addr} {y v : V} (h1 : Ev td σ H (.ref a)) (h2 : Ev ty σ H y) (hg : ∀ H', Ex H H' → DGet H' a y (some v)) : Ev (tDGet td ty) σ H v := fun H1 e Q q =>
  h1 H1 e _ fun H2 e2 => h2 H2 (e.trans e2) _ fun H3 e3 => ⟨a, v, rfl, hg H3 ((e.trans e2).trans e3), q H3 (e2.trans e3)⟩
theorem Dk.getE {us : List Tu} {u : HO} {H : Hp} {d : Addr} (D : Dk us u H) (hd : Rd H d u) (hn : (nms us).Nodup) {t : Tu} (ht : t ∈ us) : ∃ o, (∀ H', Ex H H' → DGet H' d (.str t.1) (some (.ref o))) ∧ H o = some (.lst (t.2.map V.str)) := by
  obtain ⟨vs, rfl, hA⟩ := D
  obtain ⟨i, hi⟩ := List.mem_iff_getElem?.mp ht
  obtain ⟨v, hv, o, rfl, ho⟩ := hA.at hi
  exact ⟨o, fun H' e => .inl ⟨_, Sum.inr t.1, ex_rd e hd, rfl, (kvz_val hn hA.1 hi hv).symm⟩, ho⟩
end
def sp_look (K : PySem.W.Frag) : Sp := fun vs H Q E => ∃ (v : V) (ts : List Tu), vs = [v] ∧ Tws ts v H ∧ SzN 60 60 ts ∧ (¬ (nms ts).Nodup → Er K "Taken" H E) ∧ ((nms ts).Nodup → badK ts = true → Er K "NoKind" H E) ∧ ((nms ts).Nodup → badK ts = false → ∀ H', Ex H H' → Q .non H')
/-- the dict that a web holds -/
structure UpOk (us : List Tu) : Prop where
  sz : SzN 60 60 us
  nd : (nms us).Nodup
def sp_in_rings : Sp := fun vs H Q _ => ∃ (d : Addr) (us : List Tu) (u : HO), vs = [.ref d] ∧ H d = some u ∧ Dk us u H ∧ UpOk us ∧
  ∀ L p H', H p = none → Ex H H' → H' p = some (.lst (L.map V.str)) → L.Nodup → Clo us L → (Rings us → L ≠ []) → (∀ x ∈ L, x ∈ nms us) → Q (.ref p) H'
section
variable {P : Program} {w : World} {K : PySem.W.Frag} {mg : Str → Option Value} {base : Heap}
theorem pmk_never {X : Cx} {e : Expr} : L2N.PMk X e (fun _ _ _ => False) := fun _ _ _ _ _ _ h => h.elim
theorem ok_look {f : Addr} {fd : FuncData} (T : Txt K mg) (C_is_name : Fok P w K mg base CX0 1 (He.ga K "is_name") P_is_name sp_nm) (F : Fd K d_look_at_names f fd) : FnOk P w K mg base (L2N.CX P w) 2 f fd P_look_at_names (sp_look K) := by
  obtain ⟨fd_is_name, G_is_name, b_is_name⟩ := C_is_name.ex
  refine FunD.ok F sc_look_at_names (fun vs H Q E h => ?_) (fun cdv A outer s H vs Q E hr h => ?_)
  · obtain ⟨v, ts, rfl, _⟩ := h
    rfl
  · obtain ⟨v, ts, rfl, ⟨a, vs, rfl, ha, hA⟩, hz, qT, qK, qO⟩ := h
    have tk := L2N.takes_of (X := cxOf (L2N.CX P w) P w K mg base N_look_at_names d_look_at_names.qual d_look_at_names.scope f cdv A outer s H E) (E := E) rfl rfl rfl rfl
    have po := passes_of (X := cxOf (L2N.CX P w) P w K mg base N_look_at_names d_look_at_names.qual d_look_at_names.scope f cdv A outer s H E) rfl
    refine ⟨_, pss_cons (ps_for po rfl (pi_list (pv 0)) (pg_tup rfl (pgs_cons (pg_name (i := 1) sc_look_at_names.nd rfl (Or.inl rfl)) (pgs_cons (pg_name (i := 2) sc_look_at_names.nd rfl (Or.inl rfl)) pgs_nil)))
    (pss_one (ps_if (PW.pt (pw_or (pt_not (pt_val (pe_call G_is_name (hr.mono (by decide)) rfl (T.gl _ (by decide +kernel)) C_is_name.kp b_is_name .nil pass0 (pa_cons (pv 1) pa_nil)))) (pw_or1 (pt_not (pt_val (pe_callB (cr_all rfl) (by rfl) T.f_all (by decide +kernel) (pa_cons (pe_lc (own := [("one", 4)]) (g := gName 4) (tt := tYes) rfl sc_look_at_names.nd (pi_list (pv 2)) (blkOk_by (own := [("one", 4)]) (N := N_look_at_names) (sc := (defScope s_look_at_names)) (by decide +kernel))
    (fun _ _ _ _ _ => (pg_name (i := 4) sc_look_at_names.nd rfl (Or.inl rfl))) (fun _ _ _ _ _ => pts_nil)
    (fun _ _ _ _ _ => (pe_call (E := fun _ _ _ => False) G_is_name (hr.mono (by decide)) rfl (T.gl _ (by decide +kernel)) C_is_name.kp b_is_name .nil pass0 (pa_cons (pv 4) pa_nil)))) pa_nil))))))) (pss_one (L2N.ps_raise rfl tk pmk_never)) pss_nil)))
  (pss_cons (ps_set (i := 3) sc_look_at_names.nd rfl (Or.inr rfl) (pe_lc (own := [("name", 1), ("over", 2)]) (g := gTup K 2 (gCons (gName 1) (gCons (gName 2) (gNil)))) (tt := tYes) rfl sc_look_at_names.nd (pi_list (pv 0)) (blkOk_by (own := [("name", 1), ("over", 2)]) (N := N_look_at_names) (sc := (defScope s_look_at_names)) (by decide +kernel))
    (fun _ _ _ _ _ => (pg_tup rfl (pgs_cons (pg_name (i := 1) sc_look_at_names.nd rfl (Or.inl rfl)) (pgs_cons (pg_name (i := 2) sc_look_at_names.nd rfl (Or.inl rfl)) pgs_nil)))) (fun _ _ _ _ _ => pts_nil)
    (fun _ _ _ _ _ => (pv 1))))
  (pss_cons (ps_if (pt_cmpR op_lt (pe_callB call_len_set (by rfl) T.f_len (by decide +kernel) (pa_cons (pe_callTy (cr_setS rfl) (by rfl) T.f_set (by decide +kernel) (pa_cons (pv 3) pa_nil)) pa_nil)) (pe_callB call_len (by rfl) T.f_len (by decide +kernel) (pa_cons (pv 3) pa_nil)) (nomark _)) (pss_one (L2N.ps_raise rfl tk (pmk_x (mg := mg) T (by decide +kernel) rfl (by decide +kernel)))) pss_nil)
  (pss_one (ps_for po rfl (pi_list (pv 0)) (pg_tup rfl (pgs_cons (pg_name (i := 1) sc_look_at_names.nd rfl (Or.inl rfl)) (pgs_cons (pg_name (i := 2) sc_look_at_names.nd rfl (Or.inl rfl)) pgs_nil)))
    (pss_one (ps_if (pt_not (pt_val (pe_callB (cr_all rfl) (by rfl) T.f_all (by decide +kernel) (pa_cons (pe_lc (own := [("one", 4)]) (g := gName 4) (tt := tYes) rfl sc_look_at_names.nd (pi_list (pv 2)) (blkOk_by (own := [("one", 4)]) (N := N_look_at_names) (sc := (defScope s_look_at_names)) (by decide +kernel))
    (fun _ _ _ _ _ => (pg_name (i := 4) sc_look_at_names.nd rfl (Or.inl rfl))) (fun _ _ _ _ _ => pts_nil)
    (fun _ _ _ _ _ => (pe_cmpR (show OpR _ (compareOp .In) (rIn K false) from op_in_seq) (pv 4) (pv 3) (by rfl)))) pa_nil)))) (pss_one (L2N.ps_raise rfl tk (pmk_x (mg := mg) T (by decide +kernel) rfl (by decide +kernel)))) pss_nil)))))), ?_⟩
    have h60 := hz.n
    refine q_forL (ev_var rfl) (SqL.of ha) (fun i σ' H' => ∃ (x1 x2 x4 : Option V), σ' = [some (.ref a), x1, x2, none, x4] ∧ Ex H H') (fun H' e => ⟨_, _, _, rfl, e⟩) (fun i σ' H' hi p => ?_) (fun i v σ' H' hi p => ?_) (fun σ' H' p => ?_)
    · obtain ⟨_, _, _, rfl, e1⟩ := p
      exact SqL.of (e1 a _ ha)
    · obtain ⟨_, _, _, rfl, e1⟩ := p
      obtain ⟨t, ht, pt, ot, rfl, h1, h2⟩ := hA.get hi
      have tm := List.mem_of_getElem? ht
      have nt := hz.m t tm
      refine ⟨pt, _, rfl, SqT.of (e1 pt _ h1), rfl, _, _, rfl, _, _, rfl, rfl, ?_⟩
      have lm : (t.2.filter fun _ => true).map (fun x => V.bl (isNm x)) = (t.2.map isNm).map V.bl := by rw [filt_true, List.map_map] <;> rfl
      refine s_when (b := false) (et_is (et_or (a := false) (b := false) (et_is (et_not (et_B (ev_call (ea_cons (ev_var rfl) ea_nil) fun H5 e6 Q q E => ⟨t.1, rfl, by have := (isNm_len nt.1).2; omega, fun H6 e7 => q H6 e7⟩))) (by rw [nt.1] <;> rfl)) fun _ => et_is (et_not (et_B (ev_cbL (el_lcR (R := St1) (fun _ _ _ _ _ h => h) (all2_strs H' t.2) (fun _ => true) (fun x => V.bl (isNm x)) (ev_var rfl) (SqL.of (e1 ot _ h2)) (by have := hz.o t tm; omega) fun x v H5 hx e5 r Q' k => ?_) fun p H5 e5 hp => rc_all (bs := t.2.map isNm) (by rw [← lm]; exact hp)))) ?_) rfl) (fun hb _ _ => by cases hb) fun _ H5 e5 => ⟨_, _, _, rfl, e1.trans e5⟩
      · cases r
        exact k _ rfl ev_yes fun _ H6 e6 => ev_call (ea_cons (ev_var rfl) ea_nil) fun H7 e7 Q q E => ⟨x, rfl, by have := (isNm_len (nt.2 x hx)).2; omega, fun H8 e8 => q H8 e8⟩
      · have : (t.2.map isNm).all id = true := by
          rw [List.all_map, List.all_eq_true]
          exact fun x hx => nt.2 x hx
        rw [this] <;> rfl
    obtain ⟨x1, x2, x4, rfl, e1⟩ := p
    refine q_asgL (el_lcR (R := Tw) (fun _ _ _ _ => Tw.mono) (hA.imp fun _ _ k => k.mono e1) (fun _ => true) (fun t => .str t.1) (ev_var rfl) (SqL.of (e1 a _ ha)) (by omega) fun t v H2 ht e2 r Q' k => ?_) fun N0 H2 hN0 e2 hN => ?_
    · obtain ⟨p, o, rfl, h1, h2⟩ := r
      exact ⟨p, _, rfl, SqT.of h1, rfl, _, _, rfl, _, _, rfl, rfl, k _ rfl ev_yes fun _ H3 e3 => ev_var rfl⟩
    rw [filt_true] at hN
    have hN : H2 N0 = some (.lst ((nms ts).map V.str)) := by rw [hN, List.map_map] <;> rfl
    have ln : (nms ts).length = ts.length := List.length_map ..
    refine ⟨_, rfl, N0, nms ts, rfl, SqL.of hN, by omega, fun sa ks hsa hm hnd hkl => ⟨sa, ks, rfl, upd_same, by omega, _, rfl, _, ((nms ts).map V.str).length, rfl, .inl ⟨_, SqL.of (by rw [upd_ne (ne_of_none hN hsa)]; exact hN), rfl⟩, _, _, rfl, rfl, _, rfl, ?_⟩⟩
    have e3 : Ex H (upd H2 sa (SetX P w sa ks)) := (e1.trans e2).trans (Ex.new hsa)
    have hlt : ((ks.length : Int) < (((nms ts).map V.str).length : Nat)) ↔ ¬ (nms ts).Nodup := by
      rw [List.length_map, ← nd_iff hnd hm]
      omega
    refine ite2 (fun hb => qT (hlt.mp (of_decide_eq_true hb)) _ e3) (fun hb => ?_)
    have hnd2 : (nms ts).Nodup := Classical.byContradiction fun h => hb (decide_eq_true (hlt.mpr h))
    dsimp only [tNext]
    show tFor _ _ _ _ _ (upd H2 sa (SetX P w sa ks))
    have hN3 : upd H2 sa (SetX P w sa ks) N0 = some (.lst ((nms ts).map V.str)) := by rw [upd_ne (ne_of_none hN hsa)]; exact hN
    generalize hH3 : upd H2 sa (SetX P w sa ks) = H3 at e3 hN3 ⊢
    refine s_forL (ev_var rfl) (SqL.of (e3 a _ ha)) (fun i σ' H' => ∃ (x1 x2 x4 : Option V), σ' = [some (.ref a), x1, x2, some (.ref N0), x4] ∧ Ex H3 H' ∧ ∀ t ∈ ts.take i, (t.2.any fun x => !decide (x ∈ nms ts)) = false) (fun H' e => ⟨_, _, _, rfl, e, fun t ht => by rw [List.take_zero] at ht; exact (List.not_mem_nil ht).elim⟩) (fun i σ' H' hi p => ?_) (fun i v σ' H' hi p => ?_) (fun σ' H' p => ?_)
    · obtain ⟨_, _, _, rfl, e4, _⟩ := p
      exact SqL.of (e4 a _ (e3 a _ ha))
    · obtain ⟨_, _, _, rfl, e4, hno4⟩ := p
      obtain ⟨t, ht, pt, ot, rfl, h1, h2⟩ := hA.get hi
      have tm := List.mem_of_getElem? ht
      have E4 : Ex H H' := e3.trans e4
      refine ⟨pt, _, rfl, SqT.of (E4 pt _ h1), rfl, _, _, rfl, _, _, rfl, rfl, ?_⟩
      have lm : (t.2.filter fun _ => true).map (fun x => V.bl (decide (x ∈ nms ts))) = (t.2.map fun x => decide (x ∈ nms ts)).map V.bl := by rw [filt_true, List.map_map] <;> rfl
      refine s_when (b := t.2.any fun x => !decide (x ∈ nms ts)) (et_is (et_not (et_B (ev_cbL (el_lcR (R := St1) (fun _ _ _ _ _ h => h) (all2_strs H' t.2) (fun _ => true) (fun x => V.bl (decide (x ∈ nms ts))) (ev_var rfl) (SqL.of (E4 ot _ h2)) (by have := hz.o t tm; omega) fun x v H5 hx e5 r Q' k => ?_) fun p H5 e5 hp => rc_all (bs := t.2.map fun x => decide (x ∈ nms ts)) (by rw [← lm]; exact hp)))) ?_) (fun hb5 H5 e5 => ?_) fun hb5 H5 e5 => ?_
      · cases r
        exact k _ rfl ev_yes fun _ H6 e6 => ev_op (ev_var rfl) (ev_var rfl) (in_L (neg := false) (SqL.of (e6 N0 _ (e5 N0 _ (e4 N0 _ hN3)))))
      · rw [List.all_map, List.not_all_eq_any_not] <;> rfl
      · exact qK hnd2 (List.any_eq_true.mpr ⟨t, tm, hb5⟩) _ (E4.trans e5)
      · refine ⟨_, _, _, rfl, e4.trans e5, fun u hu => ?_⟩
        rw [List.take_add_one, ht] at hu
        rcases List.mem_append.mp hu with hu | hu
        · exact hno4 u hu
        · rw [List.mem_singleton.mp hu]
          exact hb5
    · obtain ⟨_, _, _, rfl, e4, hno4⟩ := p
      rw [hA.1, List.take_of_length_le (Nat.le_refl _)] at hno4
      refine qO hnd2 ?_ H' (e3.trans e4)
      unfold badK
      rw [← Bool.not_eq_true, List.any_eq_true]
      rintro ⟨t, ht, h⟩
      rw [hno4 t ht] at h
      cases h
theorem ok_in_rings {f : Addr} {fd : FuncData} (T : Txt K mg) (F : Fd K d_in_rings f fd) : FnOk P w K mg base CX0 1 f fd P_in_rings sp_in_rings := by
  refine FunD.ok F sc_in_rings (fun vs H Q E h => ?_) (fun cdv A outer s H vs Q E hr h => ?_)
  · obtain ⟨d, us, u, rfl, _⟩ := h
    rfl
  · obtain ⟨d, us, u, rfl, hd, hD, hU, q⟩ := h
    have hru := hr.units
    have hu := hu_of hr
    refine ⟨_, PSs.nox (pss_cons (ps_set (i := 1) sc_in_rings.nd rfl (Or.inr rfl) (pe_callTy (call_list_dK rfl) (by rfl) T.f_list (by decide +kernel) (pa_cons (pv 0) pa_nil)))
  (pss_cons (ps_set (i := 2) sc_in_rings.nd rfl (Or.inl rfl) pe_bl)
  (pss_cons (ps_while PassesOwn.never (pt_val (pv 2))
    (pss_cons (ps_set (i := 3) sc_in_rings.nd rfl (Or.inr rfl) (pe_lc (own := [("name", 5)]) (g := gName 5) rfl sc_in_rings.nd (pi_list (pv 1)) (blkOk_by (own := [("name", 5)]) (N := N_in_rings) (sc := (defScope s_in_rings)) (by decide +kernel))
    (fun _ _ _ _ _ => (pg_name (i := 5) sc_in_rings.nd rfl (Or.inl rfl))) (fun _ _ _ _ _ => (pts_one (pt_not (pt_val (pe_callB (show CallR _ (.builtin "any") (rAny K) from cr_any rfl) (by rfl) T.f_any (by decide +kernel) (pa_cons (pe_lc (own := [("one", 4)]) (g := gName 4) (tt := tYes) (wi := iList K (tDGet (tVar 0) (tVar 5))) (te := tOp (rIn K false) (tVar 4) (tVar 1)) rfl sc_in_rings.nd (pi_list (pe_dget hu (pv 0) (pv 5) (fun _ _ => rfl))) (blkOk_by (own := [("one", 4)]) (N := N_in_rings) (sc := (relS { kind := .function, names := [(PySem.Str.ofString ".0", .local), (PySem.Str.ofString "name", .local), (PySem.Str.ofString "any", .globalImplicit), (PySem.Str.ofString "left", .free), (PySem.Str.ofString "uppers", .free)], isGenerator := false, isCoroutine := false, more := [] } (defScope s_in_rings))) (by decide +kernel))
    (fun _ _ _ _ _ => (pg_name (i := 4) sc_in_rings.nd rfl (Or.inl rfl))) (fun _ _ _ _ _ => pts_nil)
    (fun _ _ _ _ _ => (pe_cmpR (show OpR _ (compareOp .In) (rIn K false) from op_in_seq) (pv 4) (pv 1) (by rfl)))) pa_nil))))))
    (fun _ _ _ _ _ => (pv 5))))
    (pss_cons (ps_set (i := 1) sc_in_rings.nd rfl (Or.inr rfl) (pe_lc (own := [("name", 5)]) (g := gName 5) rfl sc_in_rings.nd (pi_list (pv 1)) (blkOk_by (own := [("name", 5)]) (N := N_in_rings) (sc := (defScope s_in_rings)) (by decide +kernel))
    (fun _ _ _ _ _ => (pg_name (i := 5) sc_in_rings.nd rfl (Or.inl rfl))) (fun _ _ _ _ _ => (pts_one (pt_cmpR (show OpR _ (compareOp .NotIn) (rIn K true) from op_notIn_seq) (pv 5) (pv 3) (by rfl))))
    (fun _ _ _ _ _ => (pv 5))))
    (pss_one (ps_set (i := 2) sc_in_rings.nd rfl (Or.inl rfl) (pe_cmpR (op_neD hru) (pv 3) (pe_lst pa_nil) (nomark _)))))))
  (pss_one (ps_ret (pv 1)))))), ?_⟩
    have h60 := hU.sz.n
    have hD' := hD
    obtain ⟨vs, hu0, hA⟩ := hD'
    have hl60 : (kvz us vs).length ≤ 60 := by rw [kvz_len hA.1]; exact h60
    refine ⟨_, rfl, d, kvz us vs, rfl, by rw [hd, hu0], fun l0 hl0 => ?_⟩
    rw [kvz_keys hA.1]
    have e0 : Ex H (upd H l0 (.lst ((nms us).map V.str))) := Ex.new hl0
    -- the uppers of a name
    have ov : ∀ n ∈ nms us, ∃ t ∈ us, t.1 = n ∧ ∃ o, (∀ H', Ex H H' → DGet H' d (.str n) (some (.ref o))) ∧ H o = some (.lst (t.2.map V.str)) := fun n hn => by
      obtain ⟨t, ht, rfl⟩ := List.mem_map.mp hn
      obtain ⟨o, h1, h2⟩ := Dk.getE hD (.inl hd) hU.nd ht
      exact ⟨t, ht, rfl, o, h1, h2⟩
    have hasU : List Str → Str → Bool := fun L n => us.any fun t => decide (t.1 = n) && t.2.any fun x => decide (x ∈ L)
    generalize hhas : (fun (L : List Str) (n : Str) => us.any fun t => decide (t.1 = n) && t.2.any fun x => decide (x ∈ L)) = hasU
    have has_eq : ∀ (L : List Str) (t : Tu), t ∈ us → hasU L t.1 = t.2.any fun x => decide (x ∈ L) := fun L t ht => by
      rw [← hhas, Bool.eq_iff_iff, List.any_eq_true]
      constructor
      · rintro ⟨u, hu, h⟩
        rw [Bool.and_eq_true] at h
        have e : u.1 = t.1 := of_decide_eq_true h.1
        have : u = t := by
          obtain ⟨i, hi⟩ := List.mem_iff_getElem.mp hu
          obtain ⟨j, hj⟩ := List.mem_iff_getElem.mp ht
          obtain ⟨hi, rfl⟩ := hi
          obtain ⟨hj, rfl⟩ := hj
          have : i = j := (List.getElem_inj (xs := nms us) (h₀ := by rw [List.length_map]; exact hi) (h₁ := by rw [List.length_map]; exact hj) hU.nd).mp (by rw [List.getElem_map, List.getElem_map]; exact e)
          subst this
          rfl
        rw [← this]
        exact h.2
      · intro h
        exact ⟨t, ht, by rw [h, decide_eq_true rfl] <;> rfl⟩
    have lcF : ∀ (L : List Str) (l : Addr) (H1 : Hp) (σ : L2.St), True := fun _ _ _ _ => trivial
    refine q_while (fun m σ' H' => ∃ (l : Addr) (L : List Str) (b : Bool) (x3 x4 x5 : Option V), σ' = [some (.ref d), some (.ref l), some (.bl b), x3, x4, x5] ∧ Ex H H' ∧ H' l = some (.lst (L.map V.str)) ∧ L.Sublist (nms us) ∧ (∀ C, Clo us C → ∀ c ∈ C, c ∈ L) ∧ (b = false → ∀ n ∈ L, hasU L n = true) ∧ m = L.length + (if b then 1 else 0) ∧ (l0 = l ∨ H l = none)) _
      ⟨l0, nms us, true, none, none, none, rfl, e0, upd_same, List.Sublist.refl _, fun C hC c hc => ?_, (fun h => by cases h), rfl, .inl rfl⟩ ?_
    · obtain ⟨t, ht, rfl, _⟩ := hC c hc
      exact List.mem_map_of_mem ht
    rintro m σ' H1 ⟨l, L, b, x3, x4, x5, rfl, e1, hl, hsub, hclo, hrest, rfl, hll⟩
    have hLl : L.length ≤ 60 := by have := hsub.length_le; rw [List.length_map] at this; omega
    have Lok : ∀ x ∈ L, okS x := fun x hx => by
      obtain ⟨t, ht, rfl⟩ := List.mem_map.mp (hsub.mem hx)
      exact isNm_ok (hU.sz.m t ht).1
    refine ⟨b, et_B (ev_var rfl), fun hb H2 e2 => ?_, fun hb H2 e2 => ?_⟩
    · subst hb
      refine ⟨_, fun σ2 H2 h => h, ?_⟩
      have e12 : Ex H H2 := e1.trans e2
      have hl2 := e2 l _ hl
      refine q_asgL (el_lcR (R := St1) (fun _ _ _ _ _ h => h) (all2_strs H2 L) (fun n => !hasU L n) V.str (ev_var rfl) (SqL.of hl2) (by omega) fun n v H3 hn e3 r Q' k => ?_) fun fA H3 hfA e3 hf3 => ?_
      · cases r
        obtain ⟨t, ht, rfl, o, hg, ho⟩ := ov n (hsub.mem hn)
        have e13 := e12.trans e3
        have lm : (t.2.filter fun _ => true).map (fun x => V.bl (decide (x ∈ L))) = (t.2.map fun x => decide (x ∈ L)).map V.bl := by rw [filt_true, List.map_map] <;> rfl
        refine k _ rfl (et_not (et_B (ev_is (ev_cbL (el_lcR (R := St1) (fun _ _ _ _ _ h => h) (all2_strs H3 t.2) (fun _ => true) (fun x => V.bl (decide (x ∈ L))) (ev_dget (ev_var rfl) (ev_var rfl) fun H4 e4 => hg H4 (e13.trans e4)) (SqL.of (e13 o _ ho)) (by have := hU.sz.o t ht; omega) fun x v H5 hx e5 r Q' k => ?_) fun p H5 e5 hp => rc_any (bs := t.2.map fun x => decide (x ∈ L)) (by rw [← lm]; exact hp)) ?_))) fun _ H4 e4 => ev_var rfl
        · cases r
          exact k _ rfl ev_yes fun _ H6 e6 => ev_op (ev_var rfl) (ev_var rfl) (in_L (neg := false) (SqL.of (e6 l _ (e5 l _ (e3 l _ hl2)))))
        · rw [has_eq L t ht, List.any_map] <;> rfl
      have e13 : Ex H H3 := e12.trans e3
      have hl3 := e3 l _ hl2
      generalize hfr : L.filter (fun n => !hasU L n) = fr at hf3
      have frsub : ∀ x ∈ fr, x ∈ L := fun x hx => by rw [← hfr] at hx; exact (List.mem_filter.mp hx).1
      refine q_asgL (el_lcR (R := St1) (fun _ _ _ _ _ h => h) (all2_strs H3 L) (fun n => !decide (n ∈ fr)) V.str (ev_var rfl) (SqL.of hl3) (by omega) fun n v H4 hn e4 r Q' k => ?_) fun lA H4 hlA e4 hl4 => ?_
      · cases r
        exact k _ rfl (et_test (ev_op (ev_var rfl) (ev_var rfl) (in_L (neg := true) (SqL.of (e4 fA _ hf3))))) fun _ H5 e5 => ev_var rfl
      have L2 : L.filter (fun n => !decide (n ∈ fr)) = L.filter (fun n => hasU L n) := by
        refine List.filter_congr fun n hn => ?_
        rw [← hfr, Bool.eq_iff_iff]
        simp only [Bool.not_eq_true', decide_eq_false_iff_not, List.mem_filter, not_and, Bool.not_eq_false]
        exact ⟨fun h => h hn, fun h _ => h⟩
      rw [L2] at hl4
      have hf4 := e4 fA _ hf3
      refine s_asg (ev_ne0a (K := K) (xs := fr) (ev_var rfl) hf4 fun x hx => Lok x (frsub x hx)) fun H5 e5 => ?_
      have E5 : Ex H H5 := (e13.trans e4).trans e5
      refine ⟨_, ?_, lA, L.filter (fun n => hasU L n), !decide (fr = []), _, _, _, rfl, E5, e5 lA _ hl4, (List.filter_sublist).trans hsub, fun C hC c hc => ?_, fun hb n hn => ?_, rfl, .inr (fresh_back e13 hlA)⟩
      · by_cases hfe : fr = []
        · rw [decide_eq_true hfe]
          have : L.filter (fun n => hasU L n) = L := by
            refine List.filter_eq_self.mpr fun n hn => ?_
            have h := List.filter_eq_nil_iff.mp (hfr.trans hfe) n hn
            simpa using h
          rw [this]
          simp
        · rw [decide_eq_false hfe]
          have hlt : (L.filter (fun n => hasU L n)).length < L.length := by
            obtain ⟨x, hx⟩ := List.exists_mem_of_ne_nil fr hfe
            rw [← hfr] at hx
            obtain ⟨hxL, hxf⟩ := List.mem_filter.mp hx
            refine List.length_filter_lt_length_iff_exists.mpr ⟨x, hxL, ?_⟩
            simpa using hxf
          show (L.filter (fun n => hasU L n)).length + 1 < L.length + 1
          omega
      · obtain ⟨t, ht, e, x, hx, hxc⟩ := hC c hc
        have hcL := hclo C hC c hc
        refine List.mem_filter.mpr ⟨hcL, ?_⟩
        rw [← e, has_eq L t ht]
        exact List.any_eq_true.mpr ⟨x, hx, decide_eq_true (hclo C hC x hxc)⟩
      · have hfe : fr = [] := by
          cases hd : decide (fr = []) with
          | true => exact of_decide_eq_true hd
          | false => rw [hd] at hb; cases hb
        have : L.filter (fun n => hasU L n) = L := by
          refine List.filter_eq_self.mpr fun n hn => ?_
          have h := List.filter_eq_nil_iff.mp (hfr.trans hfe) n hn
          simpa using h
        rw [this] at hn ⊢
        exact (List.mem_filter.mp (by rw [this]; exact hn : n ∈ L.filter (fun n => hasU L n))).2
    · subst hb
      have hr := hrest rfl
      refine ⟨_, rfl, q L l H2 ?_ (e1.trans e2) (e2 l _ hl) (hU.nd.sublist hsub) (fun n hn => ?_) (fun hR hnil => ?_) (fun x hx => hsub.mem hx)⟩
      · rcases hll with rfl | h
        · exact hl0
        · exact h
      · obtain ⟨t, ht, rfl⟩ := List.mem_map.mp (hsub.mem hn)
        have h := hr _ hn
        rw [has_eq L t ht] at h
        obtain ⟨x, hx, hxL⟩ := List.any_eq_true.mp h
        exact ⟨t, ht, rfl, x, hx, of_decide_eq_true hxL⟩
      · obtain ⟨C, hC, hCl⟩ := hR
        obtain ⟨c, hc⟩ := List.exists_mem_of_ne_nil C hC
        have := hclo C hCl c hc
        rw [hnil] at this
        exact List.not_mem_nil this
end
end Wt

-- WtP3
set_option maxHeartbeats 1000000
namespace Wt
open PySem PySem.Spec PyProof.Rows L2 Evl WtS WtX WtR
/-- a Ring, raised: it has a dict -/
def ErR (K : PySem.W.Frag) (H : Hp) (E : XK) : Prop := ∀ dd fs H', ExM [] H H' → H' dd = some (.xd fs) → E (.ref (He.ga K "Ring")) (some dd) H'
theorem ExM.ex0 {H H' : Hp} (h : ExM [] H H') : Ex H H' := h.ex fun p hp => (List.not_mem_nil hp).elim
def sp_ring_init (K : PySem.W.Frag) : Sp := fun vs H Q _ => ∃ (a r : Addr) (xs : List V), vs = [.ref a, .ref r] ∧ H a = some (exo a (He.ga K "Ring") none) ∧ H r = some (.lst xs) ∧
  ∀ d fs H', H d = none → d ≠ a → H' a = some (exo a (He.ga K "Ring") (some d)) → H' d = some (exd d fs) → ExM [a] H H' → Q .non H'
def sp_lfr (K : PySem.W.Frag) : Sp := fun vs H Q E => ∃ (d : Addr) (us : List Tu) (u : HO), vs = [.ref d] ∧ H d = some u ∧ Dk us u H ∧ UpOk us ∧ (¬ Rings us → ∀ H', Ex H H' → Q .non H') ∧ (Rings us → ErR K H E)
section
variable {P : Program} {w : World} {K : PySem.W.Frag} {mg : Str → Option Value} {base : Heap}
theorem ok_ring_init {f : Addr} {fd : FuncData} (T : Txt K mg) (F : Fd K d_Ring_init f fd) : FnOk P w K mg base CX0 1 f fd P_Ring_init (sp_ring_init K) := by
  refine FunD.ok F sc_Ring_init (fun vs H Q E h => ?_) (fun cdv A outer s H vs Q E hr h => ?_)
  · obtain ⟨a, r, xs, rfl, _⟩ := h
    rfl
  · obtain ⟨a, r, xs, rfl, ha, hR, q⟩ := h
    refine ⟨_, PSs.nox (pss_cons (ps_expr (pe_binit (pl := _) rfl (T.gl _ (by decide +kernel)) T.fiRd T.fiGa T.fiIn (pa_cons (pv 0) (pa_cons pe_str pa_nil)) (by decide) (by rfl)))
  (pss_one (ps_ost (pv 0) (pe_callTy call_list_of (by rfl) T.f_list (by decide +kernel) (pa_cons (pv 1) pa_nil))))), ?_⟩
    refine ⟨_, rfl, a, _, _, rfl, by decide, T.ri, ha, ?_⟩
    refine ⟨_, rfl, r, xs, rfl, .inl (SqL.of hR), fun l hl => ?_⟩
    have nla : l ≠ a := fun z => by rw [z, ha] at hl; cases hl
    refine ⟨_, rfl, a, _, rfl, T.ri, T.riNo, .inl ⟨by rw [upd_ne (Ne.symm nla)]; exact ha, fun dx hdx nda => ?_⟩⟩
    have hdx0 : H dx = none := by
      by_cases e : dx = l
      · rw [e]; exact hl
      · rw [upd_ne e] at hdx; exact hdx
    refine q dx _ _ hdx0 nda upd_same (by rw [upd_ne nda, upd_same]) fun b o hb h => ?_
    have nb : b ≠ a := fun z => hb (List.mem_singleton.mpr z)
    have nbd : b ≠ dx := fun z => by rw [z, hdx0] at h; cases h
    have nbl : b ≠ l := fun z => by rw [z, hl] at h; cases h
    rw [upd_ne nb, upd_ne nbd, upd_ne nbl]
    exact h
theorem first_at : ∀ (ws : List Str) (y : Str), y ∈ ws → ∃ j : Nat, ws[j]? = some y ∧ ∀ m : Nat, m < j → ws[m]? ≠ some y
  | [], y, h => (List.not_mem_nil h).elim
  | w :: ws, y, h => by
    by_cases e : w = y
    · exact ⟨0, by rw [e] <;> rfl, fun m hm => by omega⟩
    · obtain ⟨j, h1, h2⟩ := first_at ws y ((List.mem_cons.mp h).resolve_left fun z => e z.symm)
      refine ⟨j + 1, h1, fun m hm => ?_⟩
      cases m with
      | zero => exact fun z => e (Option.some.inj z)
      | succ m => exact h2 m (by omega)
theorem eqV_str (x y : Str) : eqV (.str x) (.str y) = decide (x = y) := by
  unfold eqV
  rw [Bool.eq_iff_iff]
  simp
theorem ok_lfr {f : Addr} {fd : FuncData} (T : Txt K mg) (C_in_rings : Fok P w K mg base CX0 1 (He.ga K "in_rings") P_in_rings sp_in_rings) (C_ring : Fok P w K mg base CX0 1 (He.ma K (He.ga K "Ring") "__init__") P_Ring_init (sp_ring_init K)) (F : Fd K d_look_for_rings f fd) :
    FnOk P w K mg base (L2N.CX P w) 4 f fd P_look_for_rings (sp_lfr K) := by
  obtain ⟨fd_in_rings, G_in_rings, b_in_rings⟩ := C_in_rings.ex
  obtain ⟨fd_ring, G_ring, b_ring⟩ := C_ring.ex
  refine FunD.ok F sc_look_for_rings (fun vs H Q E h => ?_) (fun cdv A outer s H vs Q E hr h => ?_)
  · obtain ⟨d, us, u, rfl, _⟩ := h
    rfl
  · obtain ⟨d, us, u, rfl, hd, hD, hU, qO, qR⟩ := h
    have hru := hr.units
    have hu := hu_of hr
    have tk := L2N.takes_of (X := cxOf (L2N.CX P w) P w K mg base N_look_for_rings d_look_for_rings.qual d_look_for_rings.scope f cdv A outer s H E) (E := E) rfl rfl rfl rfl
    have po := passes_of (X := cxOf (L2N.CX P w) P w K mg base N_look_for_rings d_look_for_rings.qual d_look_for_rings.scope f cdv A outer s H E) rfl
    refine ⟨_, pss_cut (ps_set (i := 1) sc_look_for_rings.nd rfl (Or.inr rfl) (pe_call (E := fun _ _ _ => False) G_in_rings (hr.mono (by decide)) rfl (T.gl _ (by decide +kernel)) C_in_rings.kp b_in_rings .nil pass0 (pa_cons (pv 0) pa_nil)))
  (pss_cons (ps_if (pt_cmpR (op_eqD hru) (pv 1) (pe_lst pa_nil) (nomark _)) (pss_one ps_retN) pss_nil)
  (pss_cons (ps_set (i := 2) sc_look_for_rings.nd rfl (Or.inl rfl) (pe_slice sl_list (pv 1) po_none (po_some pe_int)))
  (pss_one (ps_while po (pt_val pe_bl)
    (pss_cons (ps_set (i := 3) sc_look_for_rings.nd rfl (Or.inl rfl) (pe_ix ix_list (pe_lc (own := [("one", 4)]) (g := gName 4) rfl sc_look_for_rings.nd (pi_list (pe_dget hu (pv 0) (pe_ix ix_list (pv 2) (pe_un un_neg pe_int) (fun _ _ => rfl)) (fun _ _ => rfl))) (blkOk_by (own := [("one", 4)]) (N := N_look_for_rings) (sc := (defScope s_look_for_rings)) (by decide +kernel))
    (fun _ _ _ _ _ => (pg_name (i := 4) sc_look_for_rings.nd rfl (Or.inl rfl))) (fun _ _ _ _ _ => (pts_one (pt_cmpR (show OpR _ (compareOp .In) (rIn K false) from op_in_seq) (pv 4) (pv 1) (by rfl))))
    (fun _ _ _ _ _ => (pv 4))) pe_int (fun _ _ => rfl)))
    (pss_cons (ps_if (pt_cmpR op_in_seq (pv 3) (pv 2) (by rfl)) (pss_one (L2N.ps_raise rfl tk (pmk_oexN T.ri T.riIn T.riFn G_ring (hr.mono (by decide)) b_ring pass0 rfl (T.gl _ (by decide +kernel)) (pa_cons (pe_slice sl_list (pv 2) (po_some (pe_bm PySem.F.plainAttrs_list PySem.F.slot_list_index PySem.F.type_list_index mt_index (pv 2) (pa_cons (pv 3) pa_nil))) po_none) pa_nil)))) pss_nil)
    (pss_one (ps_expr (pe_bm PySem.F.plainAttrs_list PySem.F.slot_list_append PySem.F.type_list_append mt_append (pv 2) (pa_cons (pv 3) pa_nil)))))))))), ?_⟩
    refine q_cut (M := fun σ' H' => ∃ (L : List Str) (l : Addr), σ' = [some (.ref d), some (.ref l), none, none, none] ∧ Ex H H' ∧ H' l = some (.lst (L.map V.str)) ∧ L.Nodup ∧ Clo us L ∧ (Rings us → L ≠ []) ∧ ∀ x ∈ L, x ∈ nms us) ⟨_, rfl, d, us, u, rfl, hd, hD, hU, fun L p H' hp e h1 h2 h3 h4 h5 => ⟨L, p, rfl, e, h1, h2, h3, h4, h5⟩⟩ ?_
    rintro _ H1 ⟨L, l, rfl, e1, hl, hLn, hLc, hLr, hLs⟩
    have Lok : ∀ x ∈ L, okS x := fun x hx => by
      obtain ⟨t, ht, rfl⟩ := List.mem_map.mp (hLs x hx)
      exact isNm_ok (hU.sz.m t ht).1
    have hLl : L.length ≤ 60 := by
      have := hLn.length_le_of_subset (fun x hx => hLs x hx)
      rw [List.length_map] at this
      have := hU.sz.n
      omega
    refine q_when (b := decide (L = [])) (et_test (ev_opL (ev_var rfl) (el_lst ea_nil (Nat.zero_le _)) fun r H2 hr2 e => eqD_L (K := K) (ys := []) (e l _ hl) hr2 Lok (fun x hx => (List.not_mem_nil hx).elim))) (fun hb H2 e2 => ?_) (fun hb H2 e2 => ?_)
    · have hb := of_decide_eq_true hb
      exact qO (fun h => hLr h hb) H2 (e1.trans e2)
    have hne : L ≠ [] := of_decide_eq_false hb
    have hRing : Rings us := ⟨L, hne, hLc⟩
    obtain ⟨c0, L', rfl⟩ := List.exists_cons_of_ne_nil hne
    have hl2 := e2 l _ hl
    refine ⟨_, rfl, 1, rfl, l, _, rfl, SqL.of hl2, fun W hW => ?_⟩
    have cut1 : cutV ((c0 :: L').map V.str) none (some (1 : Int)) = [V.str c0] := cutV_L _ 1
    rw [cut1]
    have e3 : Ex H (upd H2 W (.lst [.str c0])) := (e1.trans e2).trans (Ex.new hW)
    have hW0 : H W = none := fresh_back (e1.trans e2) hW
    have hl3 : upd H2 W (.lst [.str c0]) l = some (.lst ((c0 :: L').map V.str)) := by rw [upd_ne (ne_of_none hl2 hW)]; exact hl2
    have nlW : l ≠ W := ne_of_none hl2 hW
    refine s_while (fun m σ' H' => ∃ (ws : List Str) (c : Str) (x3 x4 : Option V), σ' = [some (.ref d), some (.ref l), some (.ref W), x3, x4] ∧ Ex H H' ∧ H' l = some (.lst ((c0 :: L').map V.str)) ∧ H' W = some (.lst ((ws ++ [c]).map V.str)) ∧ (ws ++ [c]).Nodup ∧ (∀ x ∈ ws ++ [c], x ∈ c0 :: L') ∧ m = (c0 :: L').length - ws.length) _
      ⟨[], c0, none, none, rfl, e3, hl3, upd_same, by simp, fun x hx => by rw [List.mem_singleton.mp hx]; exact List.mem_cons_self, rfl⟩ ?_
    rintro m σ' H3 ⟨ws, c, x3, x4, rfl, e4, hl4, hW4, hnd, hsub, rfl⟩
    refine ⟨true, et_B ev_c, fun _ H4 e5 => ?_, fun h => by cases h⟩
    refine ⟨_, fun σ2 H2 h => h, ?_⟩
    obtain ⟨t, ht, hte, x0, hx0, hx0L⟩ := hLc c (hsub c (List.mem_append_right _ (List.mem_singleton.mpr rfl)))
    obtain ⟨o, hg, ho⟩ := Dk.getE hD (.inl hd) hU.nd ht
    have E4 : Ex H H4 := e4.trans e5
    have hl5 := e5 l _ hl4
    have hW5 := e5 W _ hW4
    have fl : ∃ y ys, t.2.filter (fun x => decide (x ∈ c0 :: L')) = y :: ys := by
      refine List.exists_cons_of_ne_nil fun h => ?_
      have := List.filter_eq_nil_iff.mp h x0 hx0
      exact this (decide_eq_true hx0L)
    obtain ⟨y, ys, hy⟩ := fl
    have ym : y ∈ t.2.filter (fun x => decide (x ∈ c0 :: L')) := by rw [hy]; exact List.mem_cons_self
    have yL : y ∈ c0 :: L' := of_decide_eq_true (List.mem_filter.mp ym).2
    have wl : ((ws ++ [c]).map V.str) = ws.map V.str ++ [.str c] := by rw [List.map_append] <;> rfl
    refine q_asg (v := .str y) (ev_opL1 (el_lcR (R := St1) (fun _ _ _ _ _ h => h) (all2_strs H4 t.2) (fun x => decide (x ∈ c0 :: L')) V.str (ev_dget (a := d) (y := .str t.1) (ev_var rfl) (ev_is (ev_op (ev_var rfl) (ev_un ev_c ru_neg) (rv_ixL (K := K) (SqL.of hW5) (by rw [wl]; exact atI_last _ _))) (by rw [hte])) fun H5 e6 => hg H5 (E4.trans e6)) (SqL.of (E4 o _ ho)) (by have := hU.sz.o t ht; omega) fun x v H5 hx e6 r Q' k => ?_) (fun H5 e6 => ev_c) fun p H5 hp e6 => rv_ixL (K := K) (i := ((0 : Nat) : Int)) (SqL.of hp) (atI_nat (by rw [hy] <;> rfl))) fun H5 e6 => ?_
    · cases r
      exact k _ rfl (et_test (ev_op (ev_var rfl) (ev_var rfl) (in_L (neg := false) (SqL.of (e6 l _ hl5))))) fun _ H6 e7 => ev_var rfl
    have hW6 := e6 W _ hW5
    have hl6 := e6 l _ hl5
    refine q_when (b := decide (y ∈ ws ++ [c])) (et_test (ev_op (ev_var rfl) (ev_var rfl) (in_L (neg := false) (SqL.of hW6)))) (fun hb H6 e7 => ?_) (fun hb H6 e7 => ?_)
    · have hb := of_decide_eq_true hb
      have hW7 := e7 W _ hW6
      have E6 : Ex H H6 := (E4.trans e6).trans e7
      obtain ⟨j, hj, hno⟩ := first_at _ y hb
      refine ⟨_, rfl, _, rfl, .inl ⟨rfl, _, SqL.of hW7⟩, _, rfl, W, _, .str y, j, .str y, rfl, rfl, SqL.of hW7, rfl, flat_strs _, by rw [List.getElem?_map, hj] <;> rfl, by rw [eqV_str, decide_eq_true rfl], fun m z' hm hz' => ?_, (j : Int), rfl, W, _, rfl, SqL.of hW7, fun p hp => ⟨by show 1 ≤ 1000; decide, fun a ha => ?_⟩⟩
      · rw [List.getElem?_map] at hz'
        obtain ⟨z, hz, rfl⟩ := Option.map_eq_some_iff.mp hz'
        rw [eqV_str]
        refine decide_eq_false fun e => hno m hm ?_
        rw [hz, e]
      · have nap : a ≠ p := fun z => by rw [z, upd_same] at ha; cases ha
        have eP : Ex H (upd H6 p (.lst (cutV ((ws ++ [c]).map V.str) (some (j : Int)) none))) := E6.trans (Ex.new hp)
        refine ⟨a, p, _, rfl, upd_same, by rw [upd_ne (Ne.symm nap), upd_same], fun d' fs H7 hd' nda h1 h2 e8 => ⟨rfl, d', fs, h1, h2, ?_, ?_⟩⟩
        · rw [upd_ne nda] at hd'
          exact hd'
        · rw [upd_ne nda] at hd'
          refine qR hRing d' fs _ (fun b o _ h => ?_) upd_same
          have h' := eP b o h
          have nb : b ≠ d' := fun z => by rw [z, hd'] at h'; cases h'
          have nba : b ≠ a := fun z => by rw [z, ha] at h'; cases h'
          rw [upd_ne nb, del_ne nba]
          exact e8 b o (by simp [nba]) (by rw [upd_ne nba]; exact h')
    · have hb := of_decide_eq_false hb
      have hW7 := e7 W _ hW6
      have E6 : Ex H H6 := (E4.trans e6).trans e7
      have wlen : (ws ++ [c] ++ [y]).length ≤ (c0 :: L').length := by
        refine List.Nodup.length_le_of_subset (List.nodup_append.mpr ⟨hnd, by simp, fun x hx z hz e => ?_⟩) fun x hx => ?_
        · rw [List.mem_singleton.mp hz] at e
          rw [e] at hx
          exact hb hx
        · rcases List.mem_append.mp hx with hx | hx
          · exact hsub x hx
          · rw [List.mem_singleton.mp hx]; exact yL
      refine s_app hW7 (ev_var rfl) (ev_var rfl) ?_ fun H7 e8 => ?_
      · rw [List.length_map]
        rw [List.length_append] at wlen
        omega
      · refine ⟨(c0 :: L').length - (ws ++ [c]).length, ?_, ws ++ [c], y, _, _, rfl, (E6.trans e8).mut hW0, ?_, ?_, ?_, fun x hx => ?_, rfl⟩
        · rw [List.length_append, List.length_append] at wlen
          rw [List.length_append]
          simp only [List.length_cons, List.length_nil] at wlen ⊢
          omega
        · rw [upd_ne nlW]
          exact e8 l _ (e7 l _ hl6)
        · rw [upd_same]
          simp
        · refine List.nodup_append.mpr ⟨hnd, by simp, fun x hx z hz e => ?_⟩
          rw [List.mem_singleton.mp hz] at e
          rw [e] at hx
          exact hb hx
        · rcases List.mem_append.mp hx with hx | hx
          · exact hsub x hx
          · rw [List.mem_singleton.mp hx]; exact yL
end
end Wt

-- WtP4
set_option maxHeartbeats 1000000
namespace Wt
open PySem PySem.Spec PyProof.Rows L2 Evl WtS WtX WtR
/-! ### the web -/
abbrev ssT (ts : List Tu) : List Tu := ts.map fun t => (t.1, sset t.2)
theorem nms_ss (ts : List Tu) : nms (ssT ts) = nms ts := by
  show (ts.map _).map _ = _
  rw [List.map_map] <;> rfl
theorem rings_ss (ts : List Tu) : Rings (ssT ts) ↔ Rings ts := by
  constructor
  · rintro ⟨C, hC, h⟩
    refine ⟨C, hC, fun n hn => ?_⟩
    obtain ⟨t, ht, e, x, hx, hc⟩ := h n hn
    obtain ⟨u, hu, rfl⟩ := List.mem_map.mp ht
    exact ⟨u, hu, e, x, (mem_sset x u.2).mp hx, hc⟩
  · rintro ⟨C, hC, h⟩
    refine ⟨C, hC, fun n hn => ?_⟩
    obtain ⟨t, ht, e, x, hx, hc⟩ := h n hn
    exact ⟨(t.1, sset t.2), List.mem_map_of_mem ht, e, x, (mem_sset x t.2).mpr hx, hc⟩
theorem szn_ss {a b : Nat} {ts : List Tu} (h : SzN a b ts) : SzN a b (ssT ts) := ⟨by rw [List.length_map]; exact h.n, fun t ht => by
  obtain ⟨u, hu, rfl⟩ := List.mem_map.mp ht
  exact Nat.le_trans (sset_len _) (h.o u hu), fun t ht => by
  obtain ⟨u, hu, rfl⟩ := List.mem_map.mp ht
  exact ⟨(h.m u hu).1, sset_nm (h.m u hu).2⟩⟩
def WebV (K : PySem.W.Frag) (us : List Tu) : Pr := fun v H => UpOk us ∧ ∃ x dx d u, v = .ref x ∧ H x = some (.ins (He.ga K "Web") dx [("uppers", .ref d)]) ∧ H d = some u ∧ Dk us u H
theorem WebV.mono {K : PySem.W.Frag} {us : List Tu} {v : V} {H H' : Hp} (e : Ex H H') (h : WebV K us v H) : WebV K us v H' := by
  obtain ⟨h0, x, dx, d, u, rfl, h1, h2, h3⟩ := h
  exact ⟨h0, x, dx, d, u, rfl, e x _ h1, e d _ h2, h3.mono e⟩
def XdOk (d : Option Addr) (H : Hp) : Prop := d = none ∨ ∃ dd fs, d = some dd ∧ H dd = some (.xd fs)
def Wd (w x : Str) : Prop := (w = "text" ∧ x = "NoText") ∨ (w = "taken" ∧ x = "Taken") ∨ (w = "kind" ∧ x = "NoKind") ∨ (w = "ring" ∧ x = "Ring")
/-- an error that the word w tells -/
def ErW (K : PySem.W.Frag) (M : List Addr) (w : Str) (H : Hp) (E : XK) : Prop := ∀ x d H', Wd w x → ExM M H H' → XdOk d H' → E (.ref (He.ga K x)) d H'
def sp_web_init (K : PySem.W.Frag) : Sp := fun vs H Q E => ∃ (x dx : Addr) (v : V) (ts : List Tu), vs = [.ref x, v] ∧ H x = some (.ins (He.ga K "Web") dx []) ∧ Tws ts v H ∧ SzN 60 60 ts ∧ (∀ w, verdict ts = .no w → ErW K [x] w H E) ∧
  (∀ us, verdict ts = .told us → ∀ H', ExM [x] H H' → WebV K us (.ref x) H' → Q .non H')
def LstTX (M : List Addr) (t : Tu) : Pr := fun v H => ∃ o, v = .ref o ∧ o ∉ M ∧ H o = some (.lst (t.2.map V.str))
theorem LstTX.mono {M : List Addr} {t : Tu} {v : V} {H H' : Hp} (e : Ex H H') (h : LstTX M t v H) : LstTX M t v H' := by
  obtain ⟨o, rfl, h1, h2⟩ := h
  exact ⟨o, rfl, h1, e o _ h2⟩
theorem LstTX.monoM {M : List Addr} {t : Tu} {v : V} {H H' : Hp} (e : ExM M H H') (h : LstTX M t v H) : LstTX M t v H' := by
  obtain ⟨o, rfl, h1, h2⟩ := h
  exact ⟨o, rfl, h1, e o _ h1 h2⟩
theorem LstTX.l {M : List Addr} {t : Tu} {v : V} {H : Hp} (h : LstTX M t v H) : LstT t v H := by
  obtain ⟨o, rfl, h1, h2⟩ := h
  exact ⟨o, rfl, h2⟩
section
variable {P : Program} {w : World} {K : PySem.W.Frag} {mg : Str → Option Value} {base : Heap}
theorem ok_web_init {f : Addr} {fd : FuncData} (T : Txt K mg) (C_look_at_names : Fok P w K mg base (L2N.CX P w) 2 (He.ga K "look_at_names") P_look_at_names (sp_look K)) (C_look_for_rings : Fok P w K mg base (L2N.CX P w) 4 (He.ga K "look_for_rings") P_look_for_rings (sp_lfr K))
    (F : Fd K d_Web_init f fd) : FnOk P w K mg base (L2N.CX P w) 5 f fd P_Web_init (sp_web_init K) := by
  obtain ⟨fd_look_at_names, G_look_at_names, b_look_at_names⟩ := C_look_at_names.ex
  obtain ⟨fd_look_for_rings, G_look_for_rings, b_look_for_rings⟩ := C_look_for_rings.ex
  refine FunD.ok F sc_Web_init (fun vs H Q E h => ?_) (fun cdv A outer s H vs Q E hr h => ?_)
  · obtain ⟨x, dx, v, ts, rfl, _⟩ := h
    rfl
  · obtain ⟨x, dx, v, ts, rfl, hx, ⟨a, vs, rfl, ha, hA⟩, hz, qE, qO⟩ := h
    have hu := hu_of hr
    have tk := L2N.takes_of (X := cxOf (L2N.CX P w) P w K mg base N_Web_init d_Web_init.qual d_Web_init.scope f cdv A outer s H E) (E := E) rfl rfl rfl rfl
    have po := passes_of (X := cxOf (L2N.CX P w) P w K mg base N_Web_init d_Web_init.qual d_Web_init.scope f cdv A outer s H E) rfl
    refine ⟨_, pss_cons (ps_expr (pe_callS G_look_at_names (hr.mono (by decide)) rfl (T.gl _ (by decide +kernel)) C_look_at_names.kp b_look_at_names (fun σ => L2N.passAt tk σ) (pa_cons (pv 1) pa_nil)))
  (pss_cons (ps_fld (pv 0) pe_dnewK rfl)
  (pss_cons (ps_for po rfl (pi_list (pv 1)) (pg_tup rfl (pgs_cons (pg_name (i := 2) sc_Web_init.nd rfl (Or.inl rfl)) (pgs_cons (pg_name (i := 3) sc_Web_init.nd rfl (Or.inl rfl)) pgs_nil)))
    (pss_one (ps_dput hu (pe_fld (pv 0) rfl) (pv 2) (pe_callB (cr_sortedSetS rfl) (by rfl) T.f_sorted (by decide +kernel) (pa_cons (pe_callTy (cr_setS rfl) (by rfl) T.f_set (by decide +kernel) (pa_cons (pv 3) pa_nil)) pa_nil)) rfl)))
  (pss_one (ps_expr (pe_callS G_look_for_rings (hr.mono (by decide)) rfl (T.gl _ (by decide +kernel)) C_look_for_rings.kp b_look_for_rings (fun σ => L2N.passAt tk σ) (pa_cons (pe_fld (pv 0) rfl) pa_nil)))))), ?_⟩
    have h60 := hz.n
    refine ⟨_, rfl, .ref a, ts, rfl, ⟨a, vs, rfl, ha, hA⟩, hz, fun hn H1 e1 => ?_, fun hn hb H1 e1 => ?_, fun hn hb H1 e1 => ?_⟩
    · refine qE "taken" ?_ "Taken" none H1 (.inr (.inl ⟨rfl, rfl⟩)) (ExM.of e1) (.inl rfl)
      unfold verdict
      rw [if_pos hn]
    · refine qE "kind" ?_ "NoKind" none H1 (.inr (.inr (.inl ⟨rfl, rfl⟩))) (ExM.of e1) (.inl rfl)
      unfold verdict
      rw [if_neg (fun h => h hn), if_pos hb]
    have hx1 := e1 x _ hx
    have hver : verdict ts = if stepN ts.length ts ≠ [] then .no "ring" else .told (ssT ts) := by
      unfold verdict
      rw [if_neg (fun h => h hn), if_neg (by rw [hb]; exact Bool.false_ne_true)]
    refine fun d hd => ⟨_, rfl, x, _, dx, [], rfl, by rw [upd_ne (ne_of_none hx1 hd)]; exact hx1, T.cl, T.nU, by decide, ?_⟩
    have ndx : d ≠ x := fun z => by rw [z, hx1] at hd; cases hd
    have pf : putF "uppers" (V.ref d) ([] : List (Str × V)) = [(("uppers" : Str), V.ref d)] := rfl
    have hd0 : H d = none := fresh_back e1 hd
    have e2 : ExM [x] H (upd (upd H1 d (.dK [])) x (.ins (He.ga K "Web") dx (putF "uppers" (V.ref d) ([] : List (Str × V))))) := ((ExM.of e1).trans (ExM.of (Ex.new hd))).trans (ExM.upd (by simp))
    have nax : a ∉ [x] := fun m => by rw [List.mem_singleton.mp m, hx] at ha; cases ha
    refine q_forL (ev_var rfl) (SqL.of (e2 a _ nax ha)) (fun i σ' H' => ∃ (x2 x3 : Option V) (ws : List V), σ' = [some (.ref x), some (.ref a), x2, x3] ∧ ExM [x] H H' ∧ H' x = some (.ins (He.ga K "Web") dx [("uppers", .ref d)]) ∧ H' d = some (.dK (kvz ((ssT ts).take i) ws)) ∧ All2 (LstTX [x, d]) ((ssT ts).take i) ws H')
      (fun H' e => ⟨none, none, [], rfl, e2.trans (ExM.of e), e x _ (by rw [upd_same, pf]), e d _ (by rw [upd_ne ndx, upd_same, List.take_zero] <;> rfl), by rw [List.take_zero]; exact All2.nil⟩) (fun i σ' H' hi p => ?_) (fun i v σ' H' hi p => ?_) (fun σ' H' p => ?_)
    · obtain ⟨_, _, _, rfl, e3, _⟩ := p
      exact SqL.of (e3 a _ nax ha)
    · obtain ⟨_, _, ws, rfl, e3, hx3, hd3, hW⟩ := p
      obtain ⟨t, ht, pt, ot, rfl, h1, h2⟩ := hA.get hi
      have tm := List.mem_of_getElem? ht
      have npx : pt ∉ [x] := fun m => by rw [List.mem_singleton.mp m, hx] at h1; cases h1
      have nox : ot ∉ [x] := fun m => by rw [List.mem_singleton.mp m, hx] at h2; cases h2
      have il : i < ts.length := (List.getElem?_eq_some_iff.mp ht).1
      refine ⟨pt, _, rfl, SqT.of (e3 pt _ npx h1), rfl, _, _, rfl, _, _, rfl, rfl, ?_⟩
      have ho3 := e3 ot _ nox h2
      refine use_n (en_sset (K := K) (P := P) (w := w) (ev_var rfl) (SqL.of ho3) (by have := hz.o t tm; omega)) fun q5 H5 hq5 e5 h5 => ?_
      have hx5 := e5 x _ hx3
      have hd5 := e5 d _ hd3
      refine ⟨_, rfl, x, _, dx, _, .ref d, rfl, hx5, T.cl, T.nU, rfl, _, rfl, d, _, rfl, DPut.k (k := Sum.inr t.1) hd5 ?_, ?_⟩
      · rw [kvz_len hW.1, List.length_take]
        exact sz_lt (by omega)
      have tk1 : (ssT ts).take (i + 1) = (ssT ts).take i ++ [(t.1, sset t.2)] := by rw [List.take_add_one, List.getElem?_map, ht] <;> rfl
      have hnot : t.1 ∉ nms ((ssT ts).take i) := fun m => by
        have e : nms ((ssT ts).take i) = (nms ts).take i := by rw [← nms_ss ts]; exact List.map_take
        rw [e] at m
        obtain ⟨j, hj, ej⟩ := List.mem_iff_getElem.mp m
        rw [List.length_take, List.length_map] at hj
        rw [List.getElem_take] at ej
        have ei : (nms ts)[i]'(by rw [List.length_map]; exact il) = t.1 := by rw [List.getElem_map, (List.getElem?_eq_some_iff.mp ht).2]
        have := (List.getElem_inj hn).mp (ej.trans ei.symm)
        omega
      have em : ExM [x, d] H5 (upd H5 d (.dK (putK (kvz ((ssT ts).take i) ws) (Sum.inr t.1) (.ref q5)))) := ExM.upd (by simp)
      have nq : q5 ∉ [x, d] := fun m => by
        simp only [List.mem_cons, List.not_mem_nil, or_false] at m
        rcases m with rfl | rfl
        · rw [hx3] at hq5; cases hq5
        · rw [hd3] at hq5; cases hq5
      refine ⟨_, _, ws ++ [.ref q5], rfl, ?_, ?_, ?_, ?_⟩
      · intro b o hb h
        have nb : b ≠ d := fun z => by rw [z, hd0] at h; cases h
        rw [upd_ne nb]
        exact e5 b o (e3 b o hb h)
      · rw [upd_ne (Ne.symm ndx)]
        exact hx5
      · rw [upd_same, kvz_put hnot hW.1 (sset t.2), tk1]
      · rw [tk1]
        refine All2.snoc (hW.imp fun _ _ k => (k.mono e5).monoM em) ⟨q5, rfl, nq, ?_⟩
        rw [upd_ne (by intro z; exact nq (by rw [z]; simp))]
        exact h5
    · obtain ⟨_, _, ws, rfl, e3, hx3, hd3, hW⟩ := p
      have lss : (ssT ts).length = ts.length := List.length_map ..
      rw [hA.1, ← lss, List.take_of_length_le (Nat.le_refl _)] at hd3 hW
      have hDk : Dk (ssT ts) (.dK (kvz (ssT ts) ws)) H' := ⟨ws, rfl, hW.imp fun _ _ k => k.l⟩
      have hUp : UpOk (ssT ts) := ⟨szn_ss hz, by rw [nms_ss]; exact hn⟩
      refine ⟨_, rfl, x, _, dx, _, .ref d, rfl, hx3, T.cl, T.nU, rfl, d, ssT ts, _, rfl, hd3, hDk, hUp, fun hR H5 e5 => ?_, fun hR dd fs H5 e5 hdd => ?_⟩
      · rw [rings_ss, ← rings_iff hn] at hR
        rw [if_neg hR] at hver
        exact qO _ hver H5 (e3.trans (ExM.of e5)) ⟨hUp, x, dx, d, _, rfl, e5 x _ hx3, e5 d _ hd3, hDk.mono e5⟩
      · rw [rings_ss, ← rings_iff hn] at hR
        rw [if_pos hR] at hver
        exact qE "ring" hver "Ring" (some dd) H5 (.inr (.inr (.inr ⟨rfl, rfl⟩))) (e3.trans (e5.sub fun _ h => (List.not_mem_nil h).elim)) (.inr ⟨dd, fs, rfl, hdd⟩)
end
end Wt

-- WtP5
set_option maxHeartbeats 1000000
namespace Wt
open PySem PySem.Spec PyProof.Rows L2 Evl WtS WtX WtR
def sp_read_web (K : PySem.W.Frag) : Sp := fun vs H Q E => ∃ z : Str, vs = [.str z] ∧ Small z ∧ (∀ w, due z = .no w → ErW K [] w H E) ∧ (∀ us, due z = .told us → ∀ v H', Ex H H' → WebV K us v H' → Q v H')
def sp_names (K : PySem.W.Frag) : Sp := fun vs H Q _ => ∃ (v : V) (us : List Tu), vs = [v] ∧ WebV K us v H ∧ ∀ p H', H p = none → Ex H H' → H' p = some (.lst ((nms us).map V.str)) → Q (.ref p) H'
def sp_over (K : PySem.W.Frag) : Sp := fun vs H Q _ => ∃ (v : V) (us : List Tu) (t : Tu), vs = [v, .str t.1] ∧ WebV K us v H ∧ t ∈ us ∧ ∀ p H', H p = none → Ex H H' → H' p = some (.lst (t.2.map V.str)) → Q (.ref p) H'
def sp_show_tuple (K : PySem.W.Frag) : Sp := fun vs H Q _ => ∃ (v : V) (us : List Tu) (t : Tu), vs = [v, .str t.1] ∧ WebV K us v H ∧ t ∈ us ∧ ∀ H', Ex H H' → Q (.str (txT t)) H'
def sp_show_web (K : PySem.W.Frag) : Sp := fun vs H Q _ => ∃ (v : V) (us : List Tu), vs = [v] ∧ WebV K us v H ∧ ∀ H', Ex H H' → Q (.str (txW us)) H'
def sp_told (K : PySem.W.Frag) : Sp := fun vs H Q _ => ∃ (v : V) (us : List Tu), vs = [v] ∧ WebV K us v H ∧ ∀ r H', Ex H H' → Tws us r H' → Q r H'
theorem allT_snoc : ∀ {ps : List Str} {us : List Tu} {p : Str} {t : Tu}, allT ps = some us → progT p = some t → allT (ps ++ [p]) = some (us ++ [t])
  | [], us, p, t, h1, h2 => by
    cases h1
    show (match progT p with | none => none | some t => (allT []).map (t :: ·)) = _
    rw [h2] <;> rfl
  | q :: ps, us, p, t, h1, h2 => by
    unfold allT at h1
    show (match progT q with | none => none | some t => (allT (ps ++ [p])).map (t :: ·)) = _
    cases hq : progT q with
    | none => rw [hq] at h1; cases h1
    | some u =>
      rw [hq] at h1
      obtain ⟨ws, hw, rfl⟩ := Option.map_eq_some_iff.mp h1
      rw [allT_snoc hw h2] <;> rfl
theorem allT_none : ∀ {ps : List Str} {p : Str}, p ∈ ps → progT p = none → allT ps = none
  | [], _, h, _ => (List.not_mem_nil h).elim
  | q :: ps, p, h, h2 => by
    unfold allT
    rcases List.mem_cons.mp h with rfl | h
    · rw [h2]
    · cases hq : progT q with
      | none => rfl
      | some t =>
        show (allT ps).map _ = none
        rw [allT_none h h2] <;> rfl
theorem errw_in {K : PySem.W.Frag} {w : Str} {H H' : Hp} {E : XK} {x : Addr} (h : ErW K [] w H E) (e : Ex H H') (hx : H x = none) : ErW K [x] w H' E := fun y d H2 hw e2 hd => h y d H2 hw (fun b o _ hb => e2 b o (fun m => by
  rw [List.mem_singleton.mp m, hx] at hb
  cases hb) (e b o hb)) hd
theorem errw_er {K : PySem.W.Frag} {H H' : Hp} {E : XK} (h : ErW K [] "text" H E) (e : Ex H H') : Er K "NoText" H' E := fun H2 e2 => h _ none H2 (.inl ⟨rfl, rfl⟩) (ExM.of (e.trans e2)) (.inl rfl)
theorem lc_src {K : PySem.W.Frag} {tl te : TE} {g : TG} {t : TT} {ws : List Nat} {σ : L2.St} {H : Hp} {Q : VK} (h : tl σ H fun x H1 => tLc (iList K (tC x)) g t te ws σ H1 Q) : tLc (iList K tl) g t te ws σ H Q := h
def StN (t : Tu) : Pr := fun v _ => v = .str t.1
theorem all2_nms (H : Hp) : ∀ us : List Tu, All2 StN us ((nms us).map V.str) H := fun us => ⟨by rw [List.length_map, List.length_map], fun i t v ht hv => by
  rw [List.getElem?_map, List.getElem?_map, ht] at hv
  cases hv
  rfl⟩
section
variable {P : Program} {w : World} {K : PySem.W.Frag} {mg : Str → Option Value} {base : Heap}
theorem ok_read_web {f : Addr} {fd : FuncData} (T : Txt K mg) (C_read_tuple : Fok P w K mg base (L2N.CX P w) 4 (He.ga K "read_tuple") P_read_tuple (sp_rtuple K)) (C_web : Fok P w K mg base (L2N.CX P w) 5 (He.ma K (He.ga K "Web") "__init__") P_Web_init (sp_web_init K))
    (F : Fd K d_read_web f fd) : FnOk P w K mg base (L2N.CX P w) 7 f fd P_read_web (sp_read_web K) := by
  obtain ⟨fd_read_tuple, G_read_tuple, b_read_tuple⟩ := C_read_tuple.ex
  obtain ⟨fd_web, G_web, b_web⟩ := C_web.ex
  refine FunD.ok F sc_read_web (fun vs H Q E h => ?_) (fun cdv A outer s H vs Q E hr h => ?_)
  · obtain ⟨z, rfl, _⟩ := h
    rfl
  · obtain ⟨z, rfl, hS, qE, qO⟩ := h
    have tk := L2N.takes_of (X := cxOf (L2N.CX P w) P w K mg base N_read_web d_read_web.qual d_read_web.scope f cdv A outer s H E) (E := E) rfl rfl rfl rfl
    refine ⟨_, pss_cons (ps_if (pt_cmpR op_eq (pv 0) pe_str (nomark _)) (pss_one (ps_ret (pe_make T.wmk G_web (hr.mono (by decide)) rfl (T.gl _ (by decide +kernel)) b_web .nil (L2N.passes_call (E := E) tk fun _ _ _ _ h => h) (pa_cons (pe_lst pa_nil) pa_nil)))) pss_nil)
  (pss_one (ps_ret (pe_make T.wmk G_web (hr.mono (by decide)) rfl (T.gl _ (by decide +kernel)) b_web .nil (L2N.passes_call (E := E) tk fun _ _ _ _ h => h) (pa_cons (pe_lcX (own := [("part", 1)]) (g := gName 1) (tt := tYes) (te := fun E => tCallS (sp_rtuple K) (fun _ => E) (tCons (tVar 1) tNil)) rfl sc_read_web.nd rfl rfl tk (pi_list (pe_split (pv 0) pe_str)) (blkOk_by (own := [("part", 1)]) (N := N_read_web) (sc := (defScope s_read_web)) (by decide +kernel))
    (fun _ _ _ _ _ _ => (pg_name (i := 1) sc_read_web.nd rfl (Or.inl rfl))) (fun _ _ _ _ _ _ => pts_nil)
    (fun _ _ _ _ _ _ _ px => (pe_callS G_read_tuple (hr.mono (by decide)) rfl (T.gl _ (by decide +kernel)) C_read_tuple.kp b_read_tuple px (pa_cons (pv 1) pa_nil)))) pa_nil)))), ?_⟩
    -- the making
    have make : ∀ (ts : List Tu) (L : Addr) (H1 : Hp), parse z = some ts → Ex H H1 → Tws ts (.ref L) H1 → ∀ x dx, H1 x = none → H1 dx = none → dx ≠ x →
        sp_web_init K (.ref x :: ([.ref L] ++ [])) (upd (upd H1 dx (.own x)) x (.ins (He.ga K "Web") dx [])) (fun v H2 => v = .non ∧ Q (.ref x) H2) E := fun ts L H1 hp e1 ht x dx hx hdx ndx => by
      have e2 : Ex H1 (upd (upd H1 dx (.own x)) x (.ins (He.ga K "Web") dx [])) := (Ex.new hdx).trans (Ex.new (by rw [upd_ne (Ne.symm ndx)]; exact hx))
      have hdue : due z = verdict ts := by unfold due; rw [hp]
      have sz := parse_sz hp hS
      refine ⟨x, dx, .ref L, ts, rfl, upd_same, ht.mono e2, ⟨sz.n, fun t ht => by have := sz.o t ht; omega, sz.m⟩, fun w hw => errw_in (qE w (hdue.trans hw)) (e1.trans e2) (fresh_back e1 hx), fun us hus H' e3 hW => ⟨rfl, ?_⟩⟩
      refine qO us (hdue.trans hus) _ H' (fun b o hb => e3 b o (fun m => ?_) (e2 b o (e1 b o hb))) hW
      have := e1 b o hb
      rw [List.mem_singleton.mp m, hx] at this
      cases this
    refine ⟨_, rfl, rfl, _, rfl, ?_⟩
    by_cases hz : z = ""
    · rw [decide_eq_true (congrArg V.str hz)]
      refine iteT ⟨sz0, fun L hL => ?_⟩
      have hp : parse z = some [] := by
        unfold parse
        rw [if_pos (empty_tl.mp hz)]
      exact make [] L _ hp (Ex.new hL) ⟨L, [], rfl, upd_same, All2.nil⟩
    · rw [decide_eq_false (fun e => hz (V.str.inj e))]
      refine iteF ?_
      have hpw : allT (Txt.split z ("; " : Str)) = parse z := by
        rw [← progW_eq]
        unfold progW
        rw [if_neg hz]
      have hl := hS.len
      have hsz : z.length + 2 ≤ sizeLine := sz_of (by omega)
      obtain ⟨ysl, ysc⟩ := split_lens z tl_semi k_semi
      refine ⟨_, rfl, ⟨z, rfl⟩, z, ("; " : Str), rfl, rfl, by decide +kernel, hsz, fun S hS' => ⟨S, rfl, ⟨_, SqL.of upd_same⟩, fun D hD => ?_⟩⟩
      generalize hys : Txt.split z ("; " : Str) = ys at *
      have eS : Ex H (upd H S (.lst (ys.map V.str))) := Ex.new hS'
      refine lc_list (xs := ys.map V.str) (fun i H' => Ex (upd H S (.lst (ys.map V.str))) H' ∧ ∃ us acc, allT (ys.take i) = some us ∧ H' D = some (.lst acc) ∧ All2 (TwX [D]) us acc H' ∧ us.length = i) ⟨Ex.new hD, [], [], by rw [List.take_zero] <;> rfl, upd_same, All2.nil, rfl⟩ (fun i H' _ p => SqL.of (p.1 S _ upd_same)) (fun i x H' hx p => ?_) (fun H' p => ?_)
      · obtain ⟨e1, us, acc, hus, hD1, hA, hul⟩ := p
        rw [List.getElem?_map] at hx
        obtain ⟨y, hy, rfl⟩ := Option.map_eq_some_iff.mp hx
        have ym := List.mem_of_getElem? hy
        have il : i < ys.length := (List.getElem?_eq_some_iff.mp hy).1
        have tk1 : ys.take (i + 1) = ys.take i ++ [y] := by rw [List.take_add_one, hy] <;> rfl
        refine ⟨rfl, _, rfl, y, rfl, by have := ysl y ym; omega, fun t ht p o H2 hp ho e2 h1 h2 => ⟨acc, e2 D _ hD1, sz_lt ?_, ?_, us ++ [t], acc ++ [.ref p], ?_, upd_same, ?_, ?_⟩, fun hn => ?_⟩
        · rw [hA.1]; omega
        · intro b o h
          have nb : b ≠ D := fun z => by rw [z, hD] at h; cases h
          rw [upd_ne nb]
          exact e2 b o (e1 b o h)
        · rw [tk1]
          exact allT_snoc hus ht
        · have em : ExM [D] H2 (upd H2 D (.lst (acc ++ [.ref p]))) := ExM.upd (by simp)
          refine All2.snoc (hA.imp fun _ _ k => (k.mono e2).monoM em) (TwX.monoM em ⟨p, o, rfl, ?_, ?_, h1, h2⟩)
          · intro m
            rw [List.mem_singleton.mp m, hD1] at hp
            cases hp
          · intro m
            rw [List.mem_singleton.mp m, hD1] at ho
            cases ho
        · rw [List.length_append, List.length_singleton, hul]
        · refine errw_er (qE "text" ?_) (eS.trans e1)
          rw [allT_none ym hn] at hpw
          unfold due
          rw [← hpw]
      · obtain ⟨e1, us, acc, hus, hD1, hA, hul⟩ := p
        rw [List.length_map, List.take_of_length_le (Nat.le_refl _), hpw] at hus
        exact make us D H' hus (eS.trans e1) ⟨D, acc, rfl, hD1, hA.imp fun _ _ k => k.tw⟩
theorem ok_names {f : Addr} {fd : FuncData} (T : Txt K mg) (F : Fd K d_Web_names f fd) : FnOk P w K mg base CX0 1 f fd P_Web_names (sp_names K) := by
  refine FunD.ok F sc_Web_names (fun vs H Q E h => ?_) (fun cdv A outer s H vs Q E hr h => ?_)
  · obtain ⟨v, us, rfl, _⟩ := h
    rfl
  · obtain ⟨v, us, rfl, ⟨hU, x, dx, d, u, rfl, hx, hd, ws, rfl, hW⟩, q⟩ := h
    refine ⟨_, PSs.nox (pss_one (ps_ret (pe_callTy (call_list_dK rfl) (by rfl) T.f_list (by decide +kernel) (pa_cons (pe_fld (pv 0) rfl) pa_nil)))), ?_⟩
    refine ⟨_, rfl, x, _, dx, _, .ref d, rfl, hx, T.cl, T.nU, rfl, d, _, rfl, hd, fun p hp => ?_⟩
    rw [kvz_keys hW.1]
    exact q p _ hp (Ex.new hp) upd_same
theorem ok_over {f : Addr} {fd : FuncData} (T : Txt K mg) (F : Fd K d_Web_over f fd) : FnOk P w K mg base CX0 1 f fd P_Web_over (sp_over K) := by
  refine FunD.ok F sc_Web_over (fun vs H Q E h => ?_) (fun cdv A outer s H vs Q E hr h => ?_)
  · obtain ⟨v, us, t, rfl, _⟩ := h
    rfl
  · obtain ⟨v, us, t, rfl, ⟨hU, x, dx, d, u, rfl, hx, hd, hD⟩, ht, q⟩ := h
    have hu := hu_of hr
    obtain ⟨o, hg, ho⟩ := Dk.get hD (.inl hd) hU.nd ht
    refine ⟨_, PSs.nox (pss_one (ps_ret (pe_callTy call_list_of (by rfl) T.f_list (by decide +kernel) (pa_cons (pe_dget hu (pe_fld (pv 0) rfl) (pv 1) (fun _ _ => rfl)) pa_nil)))), ?_⟩
    exact ⟨_, rfl, x, _, dx, _, .ref d, rfl, hx, T.cl, T.nU, rfl, _, rfl, d, .ref o, rfl, hg, o, _, rfl, .inl (SqL.of ho), fun p hp => q p _ hp (Ex.new hp) upd_same⟩
theorem ok_show_tuple {f : Addr} {fd : FuncData} (T : Txt K mg) (C_over : Fok P w K mg base CX0 1 (He.ma K (He.ga K "Web") "over") P_Web_over (sp_over K)) (F : Fd K d_show_tuple f fd) : FnOk P w K mg base CX0 2 f fd P_show_tuple (sp_show_tuple K) := by
  obtain ⟨fd_over, G_over, b_over⟩ := C_over.ex
  refine FunD.ok F sc_show_tuple (fun vs H Q E h => ?_) (fun cdv A outer s H vs Q E hr h => ?_)
  · obtain ⟨v, us, t, rfl, _⟩ := h
    rfl
  · obtain ⟨v, us, t, rfl, hWv, ht, q⟩ := h
    have hru := hr.units
    refine ⟨_, PSs.nox (pss_cons (ps_set (i := 2) sc_show_tuple.nd rfl (Or.inl rfl) (pe_meth (pv 0) T.cl (T.me _ (by decide +kernel)) G_over (hr.mono (by decide)) b_over .nil pass0 (pa_cons (pv 1) pa_nil)))
  (pss_cons (ps_if (pt_cmpR (op_eqD hru) (pv 2) (pe_lst pa_nil) (nomark _)) (pss_one (ps_ret (pv 1))) pss_nil)
  (pss_one (ps_ret (pe_op op_add_str (pe_op op_add_str (pv 1) pe_str) (pe_join pe_str (pv 2))))))), ?_⟩
    have hWv' := hWv
    obtain ⟨hU, x, dx, d, u, rfl, hx, hd, hD⟩ := hWv'
    have tm := hU.sz.m t ht
    have t60 := hU.sz.o t ht
    refine ⟨_, rfl, x, dx, _, rfl, hx, rfl, _, rfl, .ref x, us, t, rfl, hWv, ht, fun p H1 hp e1 h1 => ?_⟩
    refine q_when (b := decide (t.2 = [])) (et_test (ev_opL (ev_var rfl) (el_lst ea_nil (Nat.zero_le _)) fun r H2 hr2 e => eqD_L (K := K) (ys := []) (e p _ h1) hr2 (fun x hx => isNm_ok (tm.2 x hx)) (fun x hx => (List.not_mem_nil hx).elim))) (fun hb H2 e2 => ?_) (fun hb H2 e2 => ?_)
    · have hb := of_decide_eq_true hb
      refine ⟨_, rfl, ?_⟩
      have : txT t = t.1 := by unfold txT; rw [if_pos hb]
      rw [← this]
      exact q H2 (e1.trans e2)
    · have hb := of_decide_eq_false hb
      have l2 : (", " : Str).length = 2 := by decide +kernel
      have lc : (": " : Str).length = 2 := by decide +kernel
      have hs := sum_le (fun y : Str => y.length) 8 t.2 fun y hy => okS_lt (tm.2 y hy)
      have jl : (Txt.join (", " : Str) t.2).length ≤ 600 := by
        rw [TL.len_tl, tl_joinT, tl_comma]
        have := joinL_len (S := [44, 32]) (n := 8) (t.2.map TL.tl) fun p hp => by
          obtain ⟨x, hx, rfl⟩ := List.mem_map.mp hp
          exact nm_tl (tm.2 x hx)
        rw [List.length_map] at this
        simp only [List.length_cons, List.length_nil] at this
        omega
      have n8 := okS_lt tm.1
      have : txT t = t.1 ++ (": " : Str) ++ Txt.join (", " : Str) t.2 := by unfold txT; rw [if_neg hb]
      rw [this] at q
      refine s_ret (ev_op (ev_op (ev_var rfl) ev_c (rv_cat (by rw [lc]; omega))) (ev_join (K := K) ev_c (ev_var rfl) (SqL.of (e2 p _ h1)) (by rw [l2]; omega)) (rv_cat ?_)) fun H3 e3 => q H3 ((e1.trans e2).trans e3)
      rw [TL.len_tl, TL.tl_append, List.length_append, ← TL.len_tl, ← TL.len_tl, lc]
      omega
theorem ok_show_web {f : Addr} {fd : FuncData} (T : Txt K mg) (C_names : Fok P w K mg base CX0 1 (He.ma K (He.ga K "Web") "names") P_Web_names (sp_names K)) (C_show_tuple : Fok P w K mg base CX0 2 (He.ga K "show_tuple") P_show_tuple (sp_show_tuple K)) (F : Fd K d_show_web f fd) : FnOk P w K mg base CX0 3 f fd P_show_web (sp_show_web K) := by
  obtain ⟨fd_names, G_names, b_names⟩ := C_names.ex
  obtain ⟨fd_show_tuple, G_show_tuple, b_show_tuple⟩ := C_show_tuple.ex
  refine FunD.ok F sc_show_web (fun vs H Q E h => ?_) (fun cdv A outer s H vs Q E hr h => ?_)
  · obtain ⟨v, us, rfl, _⟩ := h
    rfl
  · obtain ⟨v, us, rfl, hWv, q⟩ := h
    refine ⟨_, PSs.nox (pss_one (ps_ret (pe_join pe_str (pe_lc (own := [("name", 1)]) (g := gName 1) (tt := tYes) rfl sc_show_web.nd (pi_list (pe_meth0 (pv 0) T.cl (T.me _ (by decide +kernel)) G_names (hr.mono (by decide)) b_names .nil pass0 )) (blkOk_by (own := [("name", 1)]) (N := N_show_web) (sc := (defScope s_show_web)) (by decide +kernel))
    (fun _ _ _ _ _ => (pg_name (i := 1) sc_show_web.nd rfl (Or.inl rfl))) (fun _ _ _ _ _ => pts_nil)
    (fun _ _ _ _ _ => (pe_call (E := fun _ _ _ => False) G_show_tuple (hr.mono (by decide)) rfl (T.gl _ (by decide +kernel)) C_show_tuple.kp b_show_tuple .nil pass0 (pa_cons (pv 0) (pa_cons (pv 1) pa_nil)))))))), ?_⟩
    have hWv' := hWv
    obtain ⟨hU, x, dx, d, u, rfl, hx, hd, hD⟩ := hWv'
    have u60 := hU.sz.n
    refine ⟨⟨("; " : Str), rfl⟩, lc_src ⟨_, rfl, x, dx, _, rfl, hx, rfl, .ref x, us, rfl, hWv, fun p H1 hp e1 h1 => ?_⟩⟩
    refine use_el (el_lcR (R := StN) (fun _ _ _ _ _ h => h) (all2_nms H1 us) (fun _ => true) (fun t => .str (txT t)) ev_c (SqL.of h1) (by omega) fun t v H2 ht e2 r Q' k => ?_) fun p2 H2 hp2 e2 h2 => ?_
    · cases r
      exact k _ rfl ev_yes fun _ H3 e3 => ev_call (ea_cons (ev_var rfl) (ea_cons (ev_var rfl) ea_nil)) fun H4 e4 Q q E => ⟨.ref x, us, t, rfl, (((hWv.mono e1).mono e2).mono e3).mono e4, ht, fun H5 e5 => q H5 e5⟩
    rw [filt_true] at h2
    have h2' : H2 p2 = some (.lst ((us.map txT).map V.str)) := by rw [h2, List.map_map] <;> rfl
    have l2 : ("; " : Str).length = 2 := by decide +kernel
    refine ⟨_, p2, us.map txT, rfl, rfl, .inl (SqL.of h2'), ?_, q H2 (e1.trans e2)⟩
    have hs := sum_le (fun y : Str => y.length) 610 (us.map txT) fun y hy => by
      obtain ⟨t, ht, rfl⟩ := List.mem_map.mp hy
      show (txT t).length ≤ 610
      rw [TL.len_tl, tl_txT]
      have := rdT_len (hU.sz.m t ht) (hU.sz.o t ht)
      omega
    rw [List.length_map] at hs ⊢
    rw [l2]
    omega
theorem ok_told {f : Addr} {fd : FuncData} (T : Txt K mg) (C_names : Fok P w K mg base CX0 1 (He.ma K (He.ga K "Web") "names") P_Web_names (sp_names K)) (C_over : Fok P w K mg base CX0 1 (He.ma K (He.ga K "Web") "over") P_Web_over (sp_over K)) (F : Fd K d__law_told f fd) : FnOk P w K mg base CX0 2 f fd P__law_told (sp_told K) := by
  obtain ⟨fd_names, G_names, b_names⟩ := C_names.ex
  obtain ⟨fd_over, G_over, b_over⟩ := C_over.ex
  refine FunD.ok F sc__law_told (fun vs H Q E h => ?_) (fun cdv A outer s H vs Q E hr h => ?_)
  · obtain ⟨v, us, rfl, _⟩ := h
    rfl
  · obtain ⟨v, us, rfl, hWv, q⟩ := h
    refine ⟨_, PSs.nox (pss_one (ps_ret (pe_lc (own := [("_law_name_here", 1)]) (g := gName 1) (tt := tYes) rfl sc__law_told.nd (pi_list (pe_meth0 (pv 0) T.cl (T.me _ (by decide +kernel)) G_names (hr.mono (by decide)) b_names .nil pass0 )) (blkOk_by (own := [("_law_name_here", 1)]) (N := N__law_told) (sc := (defScope s__law_told)) (by decide +kernel))
    (fun _ _ _ _ _ => (pg_name (i := 1) sc__law_told.nd rfl (Or.inl rfl))) (fun _ _ _ _ _ => pts_nil)
    (fun _ _ _ _ _ => (pe_tup (pa_cons (pv 1) (pa_cons (pe_meth (E := fun _ _ _ => False) (pv 0) T.cl (T.me _ (by decide +kernel)) G_over (hr.mono (by decide)) b_over .nil pass0 (pa_cons (pv 1) pa_nil)) pa_nil))))))), ?_⟩
    have hWv' := hWv
    obtain ⟨hU, x, dx, d, u, rfl, hx, hd, hD⟩ := hWv'
    have u60 := hU.sz.n
    refine lc_src ⟨_, rfl, x, dx, _, rfl, hx, rfl, .ref x, us, rfl, hWv, fun p H1 hp e1 h1 => ?_⟩
    refine use_p (en_lcTR (R := StN) (fun _ _ _ _ _ h => h) (all2_nms H1 us) (fun t => t) ev_c (SqL.of h1) (by omega) fun t v H2 ht e2 r Q' k => ?_) fun r H2 e2 hv => q r H2 (e1.trans e2) (by rw [List.map_id'] at hv; exact hv)
    cases r
    have E2 := e1.trans e2
    refine k _ rfl fun Q2 q2 => ⟨_, rfl, _, rfl, x, dx, _, rfl, E2 x _ hx, rfl, _, rfl, .ref x, us, t, rfl, hWv.mono E2, ht, fun r7 H7 hr7 e7 h7 => ⟨sz2, fun u hu => q2 _ _ (e7.trans (Ex.new hu)) fun M hM => ⟨u, r7, rfl, fun m => ?_, fun m => ?_, upd_same, ?_⟩⟩⟩
    · have := (hM u m).2
      cases hh : H2 u with
      | none => exact this hh
      | some o => rw [e7 u o hh] at hu; cases hu
    · exact (hM r7 m).2 hr7
    · rw [upd_ne (ne_of_none h7 hu)]
      exact h7
end
end Wt

-- WtP6
set_option maxHeartbeats 1000000
namespace Wt
open PySem PySem.Spec PyProof.Rows L2 Evl WtS WtX WtR
/-! ### what stands above a name -/
abbrev Ent := Str × Option Str
def optV : Option Str → V
  | none => .non
  | some s => .str s
abbrev eK (es : List Ent) : List Tu := es.map fun e => (e.1, [])
abbrev eV (es : List Ent) : List V := es.map fun e => optV e.2
abbrev ks (es : List Ent) : List Str := es.map fun e => e.1
def Stq (us : List Tu) (a b : Str) : Prop := ∃ t ∈ us, t.1 = a ∧ b ∈ t.2
inductive Rch (us : List Tu) (n : Str) : Str → Prop
  | refl : Rch us n n
  | step {a b : Str} : Rch us n a → Stq us a b → Rch us n b
inductive Abv (us : List Tu) (n : Str) : List Ent → Prop
  | one : Abv us n [(n, none)]
  | snoc {es : List Ent} {s k : Str} : Abv us n es → s ∈ ks es → Stq us s k → k ∉ ks es → Abv us n (es ++ [(k, some s)])
/-- every kind told over another is itself told -/
def Cl (us : List Tu) : Prop := ∀ t ∈ us, ∀ x ∈ t.2, x ∈ nms us
theorem nd_uniq {us : List Tu} (h : (nms us).Nodup) {u t : Tu} (hu : u ∈ us) (ht : t ∈ us) (e : u.1 = t.1) : u = t := by
  obtain ⟨i, hi⟩ := List.mem_iff_getElem.mp hu
  obtain ⟨j, hj⟩ := List.mem_iff_getElem.mp ht
  obtain ⟨hi, rfl⟩ := hi
  obtain ⟨hj, rfl⟩ := hj
  have : i = j := (List.getElem_inj (xs := nms us) (h₀ := by rw [List.length_map]; exact hi) (h₁ := by rw [List.length_map]; exact hj) h).mp (by rw [List.getElem_map, List.getElem_map]; exact e)
  subst this
  rfl
theorem ks_snoc (es : List Ent) (e : Ent) : ks (es ++ [e]) = ks es ++ [e.1] := by
  show (es ++ [e]).map _ = es.map _ ++ _
  rw [List.map_append] <;> rfl
theorem Abv.nd {us : List Tu} {n : Str} {es : List Ent} (h : Abv us n es) : (ks es).Nodup := by
  induction h with
  | one => simp
  | snoc _ _ _ hk ih =>
    rw [ks_snoc]
    refine List.nodup_append.mpr ⟨ih, by simp, fun x hx z hz e => ?_⟩
    rw [List.mem_singleton.mp hz] at e
    rw [e] at hx
    exact hk hx
theorem Abv.sub {us : List Tu} {n : Str} {es : List Ent} (h : Abv us n es) (hc : Cl us) (hn : n ∈ nms us) : ∀ k ∈ ks es, k ∈ nms us := by
  induction h with
  | one => intro k hk; rw [List.mem_singleton.mp hk]; exact hn
  | snoc _ _ hs _ ih =>
    intro k hk
    rw [ks_snoc] at hk
    rcases List.mem_append.mp hk with hk | hk
    · exact ih k hk
    · rw [List.mem_singleton.mp hk]
      obtain ⟨t, ht, _, hb⟩ := hs
      exact hc t ht _ hb
theorem Abv.rch {us : List Tu} {n : Str} {es : List Ent} (h : Abv us n es) : ∀ k ∈ ks es, Rch us n k := by
  induction h with
  | one => intro k hk; rw [List.mem_singleton.mp hk]; exact .refl
  | snoc _ hm hs _ ih =>
    intro k hk
    rw [ks_snoc] at hk
    rcases List.mem_append.mp hk with hk | hk
    · exact ih k hk
    · rw [List.mem_singleton.mp hk]
      exact .step (ih _ hm) hs
theorem Abv.mem {us : List Tu} {n : Str} {es : List Ent} (h : Abv us n es) : n ∈ ks es := by
  induction h with
  | one => exact List.mem_singleton.mpr rfl
  | snoc _ _ _ _ ih => rw [ks_snoc]; exact List.mem_append_left _ ih
theorem Abv.all {us : List Tu} {n : Str} {es : List Ent} (h : Abv us n es) (hc : ∀ a ∈ ks es, ∀ b, Stq us a b → b ∈ ks es) {k : Str} (hk : Rch us n k) : k ∈ ks es := by
  induction hk with
  | refl => exact h.mem
  | step _ hs ih => exact hc _ ih _ hs
theorem Abv.at {us : List Tu} {n : Str} {es : List Ent} (h : Abv us n es) : ∀ (i : Nat) (k : Str) (o : Option Str), es[i]? = some (k, o) → (o = none ∧ k = n) ∨ ∃ s j o', o = some s ∧ j < i ∧ es[j]? = some (s, o') ∧ Stq us s k := by
  induction h with
  | one =>
    intro i k o h
    cases i with
    | zero => cases h; exact .inl ⟨rfl, rfl⟩
    | succ i => simp at h
  | @snoc es s k' _ hm hs hk ih =>
    intro i k o h
    rcases Nat.lt_trichotomy i es.length with hi | hi | hi
    · rw [List.getElem?_append_left hi] at h
      rcases ih i k o h with h | ⟨s', j, o', h1, h2, h3, h4⟩
      · exact .inl h
      · exact .inr ⟨s', j, o', h1, h2, by rw [List.getElem?_append_left (Nat.lt_trans h2 hi)]; exact h3, h4⟩
    · subst hi
      rw [List.getElem?_append_right (Nat.le_refl _), Nat.sub_self] at h
      cases h
      obtain ⟨j, hj⟩ := List.mem_iff_getElem?.mp hm
      rw [List.getElem?_map] at hj
      obtain ⟨⟨s', o'⟩, h1, h2⟩ := Option.map_eq_some_iff.mp hj
      cases h2
      have hl := (List.getElem?_eq_some_iff.mp h1).1
      exact .inr ⟨_, j, o', rfl, hl, by rw [List.getElem?_append_left hl]; exact h1, hs⟩
    · rw [List.getElem?_eq_none (by rw [List.length_append, List.length_singleton]; omega)] at h
      cases h
def Chn (us : List Tu) (w : List Str) : Prop := ∀ (k : Nat) a b, w[k]? = some a → w[k + 1]? = some b → Stq us a b
theorem Chn.cons {us : List Tu} {a b : Str} {r : List Str} (h : Stq us a b) (hr : Chn us (b :: r)) : Chn us (a :: b :: r)
  | 0, _, _, h1, h2 => by cases h1; cases h2; exact h
  | k + 1, x, y, h1, h2 => hr k x y h1 h2
theorem nms_eK (es : List Ent) : nms (eK es) = ks es := by
  show (es.map _).map _ = _
  rw [List.map_map] <;> rfl
theorem eKV_len (es : List Ent) : (eV es).length = (eK es).length := by rw [List.length_map, List.length_map]
theorem ent_get {H : Hp} {F : Addr} {es : List Ent} (hF : Rd H F (.dK (kvz (eK es) (eV es)))) (hn : (ks es).Nodup) {i : Nat} {k : Str} {o : Option Str} (h : es[i]? = some (k, o)) : DGet H F (.str k) (some (optV o)) :=
  .inl ⟨_, Sum.inr k, hF, rfl, (kvz_val (us := eK es) (vs := eV es) (t := (k, [])) (by rw [nms_eK]; exact hn) (eKV_len es) (i := i) (by rw [List.getElem?_map, h] <;> rfl) (by rw [List.getElem?_map, h] <;> rfl)).symm⟩
theorem ent_in {H : Hp} {F : Addr} {es : List Ent} (hF : Rd H F (.dK (kvz (eK es) (eV es)))) (hn : (ks es).Nodup) (k : Str) : ∃ o, DGet H F (.str k) o ∧ o.isSome = decide (k ∈ ks es) := by
  by_cases hk : k ∈ ks es
  · obtain ⟨i, hi⟩ := List.mem_iff_getElem?.mp hk
    rw [List.getElem?_map] at hi
    obtain ⟨⟨k', o⟩, h1, h2⟩ := Option.map_eq_some_iff.mp hi
    cases h2
    exact ⟨_, ent_get hF hn h1, by rw [decide_eq_true hk] <;> rfl⟩
  · exact ⟨none, .inl ⟨_, Sum.inr k, hF, rfl, (kvz_none (by rw [nms_eK]; exact hk)).symm⟩, by rw [decide_eq_false hk] <;> rfl⟩
section
variable {K : PySem.W.Frag} {σ : L2.St} {H : Hp} {td ty : TE}
theorem ev_dnin {a : Addr} {y : V} {b : Bool} (h1 : Ev ty σ H y) (h2 : Ev td σ H (.ref a)) (hg : ∀ H', Ex H H' → ∃ o, DGet H' a y o ∧ o.isSome = b) : Ev (tDNotIn ty td) σ H (.bl (!b)) := fun H1 e Q q =>
  h1 H1 e _ fun H2 e2 => h2 H2 (e.trans e2) _ fun H3 e3 => by
    obtain ⟨o, g, rfl⟩ := hg H3 ((e.trans e2).trans e3)
    exact ⟨a, o, rfl, g, q H3 (e2.trans e3)⟩
end
def sp_above (K : PySem.W.Frag) : Sp := fun vs H Q _ => ∃ (v : V) (us : List Tu) (n : Str), vs = [v, .str n] ∧ WebV K us v H ∧ Cl us ∧ n ∈ nms us ∧
  ∀ F H' es, H F = none → Ex H H' → H' F = some (.dK (kvz (eK es) (eV es))) → Abv us n es → (∀ k, Rch us n k → k ∈ ks es) → Q (.ref F) H'
def sp_chain (K : PySem.W.Frag) : Sp := fun vs H Q _ => ∃ (v : V) (us : List Tu) (n k : Str), vs = [v, .str n, .str k] ∧ WebV K us v H ∧ Cl us ∧ n ∈ nms us ∧
  (¬ Rch us n k → ∀ H', Ex H H' → Q .non H') ∧ (Rch us n k → ∀ p H' r, H p = none → Ex H H' → H' p = some (.lst ((n :: r).map V.str)) → (n :: r).getLast? = some k → Chn us (n :: r) → (∀ x ∈ n :: r, x ∈ nms us) → r.length ≤ 60 → Q (.ref p) H')
def sp_beneath (K : PySem.W.Frag) : Sp := fun vs H Q _ => ∃ (v : V) (us : List Tu) (n k : Str), vs = [v, .str n, .str k] ∧ WebV K us v H ∧ Cl us ∧ n ∈ nms us ∧ ∀ b H', Ex H H' → (b = true ↔ Rch us n k) → Q (.bl b) H'
section
variable {P : Program} {w : World} {K : PySem.W.Frag} {mg : Str → Option Value} {base : Heap}
theorem ok_above {f : Addr} {fd : FuncData} (T : Txt K mg) (F : Fd K d_Web_above f fd) : FnOk P w K mg base CX0 1 f fd P_Web_above (sp_above K) := by
  refine FunD.ok F sc_Web_above (fun vs H Q E h => ?_) (fun cdv A outer s H vs Q E hr h => ?_)
  · obtain ⟨v, us, n, rfl, _⟩ := h
    rfl
  · obtain ⟨v, us, n, rfl, hWv, hCl, hn, q⟩ := h
    have hru := hr.units
    have hu := hu_of hr
    refine ⟨_, PSs.nox (pss_cons (ps_set (i := 2) sc_Web_above.nd rfl (Or.inl rfl) (pe_disp (pps_cons (pv 1) pe_non pps_nil) (by rfl) (by rfl) (fun z => by cases z) (by decide)))
  (pss_cons (ps_set (i := 3) sc_Web_above.nd rfl (Or.inl rfl) (pe_lst (pa_cons (pv 1) pa_nil)))
  (pss_cons (ps_while PassesOwn.never (pt_cmpR (op_neD hru) (pv 3) (pe_lst pa_nil) (nomark _))
    (pss_cons (ps_set (i := 4) sc_Web_above.nd rfl (Or.inl rfl) (pe_bm0 PySem.F.plainAttrs_list PySem.F.slot_list_pop PySem.F.type_list_pop mt_pop (pv 3)))
    (pss_one (ps_for PassesOwn.never rfl (pi_list (pe_dget hu (pe_fld (pv 0) rfl) (pv 4) (fun _ _ => rfl))) (pg_name (i := 5) sc_Web_above.nd rfl (Or.inl rfl))
      (pss_one (ps_if (pt_cmp (pc_dnotin hu (pv 5) (pv 2))) (pss_cons (ps_dput hu (pv 2) (pv 5) (pv 4) rfl)
        (pss_one (ps_expr (pe_bm PySem.F.plainAttrs_list PySem.F.slot_list_append PySem.F.type_list_append mt_append (pv 3) (pa_cons (pv 5) pa_nil))))) pss_nil))))))
  (pss_one (ps_ret (pv 2)))))), ?_⟩
    obtain ⟨hU, x, dx, d, u, rfl, hx, hd, hD⟩ := hWv
    have h60 := hU.sz.n
    refine fun F hF => ⟨_, rfl, ⟨upd_same, [(Sum.inr n, .non)], rfl, (show 1 ≤ 15 by decide), ?_⟩⟩
    have hkv : mergeK [] [((Sum.inr n : Key), V.non)] = kvz (eK [(n, none)]) (eV [(n, none)]) := rfl
    rw [hkv]
    show tSeq _ _ _ _ (upd (upd H F (.dK [])) F _)
    have eF : Ex H (upd (upd H F (.dK [])) F (.dK (kvz (eK [(n, none)]) (eV [(n, none)])))) := (Ex.new hF).mut hF
    generalize hHF : upd (upd H F (.dK [])) F (.dK (kvz (eK [(n, none)]) (eV [(n, none)]))) = HF at eF ⊢
    have hFF : HF F = some (.dK (kvz (eK [(n, none)]) (eV [(n, none)]))) := by rw [← hHF]; exact upd_same
    refine q_asgL (el_lst (ea_cons (ev_var rfl) ea_nil) (show 1 ≤ 100000 by decide)) fun W H1 hW e1 hWl => ?_
    have hW0 : H W = none := fresh_back eF hW
    have hFW : F ≠ W := ne_of_none hFF hW
    refine q_while (fun m σ' H' => ∃ (es : List Ent) (pile : List Str) (x4 x5 : Option V), σ' = [some (.ref x), some (.str n), some (.ref F), some (.ref W), x4, x5] ∧ Ex H H' ∧ H' F = some (.dK (kvz (eK es) (eV es))) ∧ H' W = some (.lst (pile.map V.str)) ∧ Abv us n es ∧ (∀ k ∈ pile, k ∈ ks es) ∧ (∀ k ∈ ks es, k ∈ pile ∨ ∀ b, Stq us k b → b ∈ ks es) ∧ m = 2 * (60 - es.length) + pile.length ∧ pile.length ≤ es.length) _
      ⟨[(n, none)], [n], none, none, rfl, eF.trans e1, e1 F _ hFF, hWl, .one, fun k hk => hk, fun k hk => .inl hk, rfl, Nat.le_refl _⟩ ?_
    rintro m σ' H2 ⟨es, pile, x4, x5, rfl, e2, hF2, hW2, hA, hp, hc, rfl, hpl⟩
    have esl : es.length ≤ 60 := by
      have := hA.nd.length_le_of_subset (fun x hx => hA.sub hCl hn x hx)
      rw [List.length_map, List.length_map] at this
      omega
    have nok : ∀ k ∈ nms us, okS k := fun k hk => by
      obtain ⟨t, ht, rfl⟩ := List.mem_map.mp hk
      exact isNm_ok (hU.sz.m t ht).1
    refine ⟨!decide (pile = []), et_test (ev_ne0a (K := K) (ev_var rfl) hW2 fun k hk => nok k (hA.sub hCl hn k (hp k hk))), fun hb H3 e3 => ?_, fun hb H3 e3 => ?_⟩
    · refine ⟨_, fun σ2 H2 h => h, ?_⟩
      have hne : pile ≠ [] := of_decide_eq_false (by rw [Bool.not_eq_true'] at hb; exact hb)
      obtain ⟨pl, c, rfl⟩ : ∃ pl c, pile = pl ++ [c] := ⟨pile.dropLast, pile.getLast hne, (List.dropLast_concat_getLast hne).symm⟩
      have wl : (pl ++ [c]).map V.str = pl.map V.str ++ [.str c] := by rw [List.map_append] <;> rfl
      have hW3 := e3 W _ hW2
      have hF3 := e3 F _ hF2
      have E3 := e2.trans e3
      refine ⟨.ref W, rfl, .inl ⟨rfl, _, SqL.of hW3⟩, W, _, .str c, rfl, rfl, hW3, by rw [wl, List.length_append]; simp, ?_⟩
      rw [wl, List.dropLast_concat]
      dsimp only [gName]
      have E4 : Ex H (upd H3 W (.lst (pl.map V.str))) := E3.mut hW0
      have hF4 : upd H3 W (.lst (pl.map V.str)) F = some (.dK (kvz (eK es) (eV es))) := by rw [upd_ne hFW]; exact hF3
      have hW4 : upd H3 W (.lst (pl.map V.str)) W = some (.lst (pl.map V.str)) := upd_same
      generalize upd H3 W (.lst (pl.map V.str)) = H4 at E4 hF4 hW4 ⊢
      have hcm : c ∈ ks es := hp c (List.mem_append_right _ (List.mem_singleton.mpr rfl))
      obtain ⟨t, ht, htc⟩ := List.mem_map.mp (hA.sub hCl hn c hcm)
      obtain ⟨o, hg, ho⟩ := Dk.getE hD (.inl hd) hU.nd ht
      have htc : t.1 = c := htc
      rw [htc] at hg
      refine s_forLn (a := o) (xs := t.2.map V.str) (fun H5 e5 Q q => ⟨_, rfl, x, _, dx, _, .ref d, (rfl : V.ref x = _), e5 x _ (E4 x _ hx), T.cl, T.nU, (rfl : List.lookup "uppers" [("uppers", V.ref d)] = _), _, rfl, d, .ref o, rfl, hg H5 (E4.trans e5), q H5 (Ex.refl H5)⟩) (SqL.of (E4 o _ ho))
        (fun i σ' H' => ∃ (es' : List Ent) (pile' : List Str) (x5 : Option V), σ' = [some (.ref x), some (.str n), some (.ref F), some (.ref W), some (.str c), x5] ∧ Ex H H' ∧ H' F = some (.dK (kvz (eK es') (eV es'))) ∧ H' W = some (.lst (pile'.map V.str)) ∧ Abv us n es' ∧ (∀ k ∈ pile', k ∈ ks es') ∧ (∀ k ∈ ks es', k ∈ pile' ∨ k = c ∨ ∀ b, Stq us k b → b ∈ ks es') ∧ (∀ b ∈ t.2.take i, b ∈ ks es') ∧ 2 * (60 - es'.length) + pile'.length ≤ 2 * (60 - es.length) + pl.length ∧ pile'.length ≤ es'.length ∧ c ∈ ks es')
        (fun H5 e5 => ⟨es, pl, x5, rfl, E4.trans e5, e5 F _ hF4, e5 W _ hW4, hA, fun k hk => hp k (List.mem_append_left _ hk), fun k hk => ?_, fun b hb => ?_, Nat.le_refl _, ?_, hcm⟩) (fun i σ' H' hi p => ?_) (fun i v σ' H' hi p => ?_) (fun σ' H' p => ?_)
      · rcases hc k hk with h | h
        · rcases List.mem_append.mp h with h | h
          · exact .inl h
          · exact .inr (.inl (List.mem_singleton.mp h))
        · exact .inr (.inr h)
      · rw [List.take_zero] at hb
        exact (List.not_mem_nil hb).elim
      · rw [List.length_append] at hpl
        omega
      · obtain ⟨_, _, _, rfl, e5, _⟩ := p
        exact SqL.of (e5 o _ ho)
      · obtain ⟨es', pile', x5, rfl, e5, hF5, hW5, hA5, hp5, hc5, ht5, hm5, hl5, hcm5⟩ := p
        rw [List.getElem?_map] at hi
        obtain ⟨y, hy, rfl⟩ := Option.map_eq_some_iff.mp hi
        have tk1 : t.2.take (i + 1) = t.2.take i ++ [y] := by rw [List.take_add_one, hy] <;> rfl
        have esl5 : es'.length ≤ 60 := by
          have := hA5.nd.length_le_of_subset (fun x hx => hA5.sub hCl hn x hx)
          rw [List.length_map, List.length_map] at this
          omega
        refine s_when (et_B (ev_dnin (b := decide (y ∈ ks es')) (ev_var rfl) (ev_var rfl) fun H6 e6 => ent_in (.inl (e6 F _ hF5)) hA5.nd y)) (fun hb H6 e6 => ?_) (fun hb H6 e6 => ?_)
        · have hb : y ∉ ks es' := of_decide_eq_false (by rw [Bool.not_eq_true'] at hb; exact hb)
          have hF6 := e6 F _ hF5
          have hW6 := e6 W _ hW5
          have hA6 : Abv us n (es' ++ [(y, some c)]) := .snoc hA5 hcm5 ⟨t, ht, htc, List.mem_of_getElem? hy⟩ hb
          have esl6 : (es' ++ [(y, some c)]).length ≤ 60 := by
            have := hA6.nd.length_le_of_subset (fun x hx => hA6.sub hCl hn x hx)
            rw [List.length_map, List.length_map] at this
            omega
          refine ⟨_, rfl, _, rfl, _, rfl, F, _, rfl, DPut.k (k := Sum.inr y) hF6 ?_, ?_⟩
          · rw [kvz_len (eKV_len es'), List.length_map]
            exact sz_lt (by omega)
          have pe : putK (kvz (eK es') (eV es')) (Sum.inr y) (V.str c) = kvz (eK (es' ++ [(y, some c)])) (eV (es' ++ [(y, some c)])) := by
            have e1 : eK (es' ++ [(y, some c)]) = eK es' ++ [(y, [])] := by
              show (es' ++ [(y, some c)]).map _ = es'.map _ ++ _
              rw [List.map_append] <;> rfl
            have e2 : eV (es' ++ [(y, some c)]) = eV es' ++ [V.str c] := by
              show (es' ++ [(y, some c)]).map _ = es'.map _ ++ _
              rw [List.map_append] <;> rfl
            rw [kvz_put (by rw [nms_eK]; exact hb) (eKV_len es') [], e1, e2]
          rw [pe]
          refine s_app (xs := pile'.map V.str) (by rw [upd_ne (Ne.symm hFW)]; exact hW6) (ev_var rfl) (ev_var rfl) ?_ fun H7 e7 => ?_
          · rw [List.length_map]; omega
          · rw [List.length_append, List.length_singleton] at esl6
            refine ⟨es' ++ [(y, some c)], pile' ++ [y], _, rfl, (((e5.trans e6).mut hF).trans e7).mut hW0, ?_, ?_, hA6, fun k hk => ?_, fun k hk => ?_, fun b hb' => ?_, ?_, ?_, ?_⟩
            · rw [upd_ne hFW]; exact e7 F _ upd_same
            · rw [upd_same, List.map_append] <;> rfl
            · rw [ks_snoc]
              rcases List.mem_append.mp hk with hk | hk
              · exact List.mem_append_left _ (hp5 k hk)
              · exact List.mem_append_right _ hk
            · rw [ks_snoc] at hk ⊢
              rcases List.mem_append.mp hk with hk | hk
              · rcases hc5 k hk with h | h | h
                · exact .inl (List.mem_append_left _ h)
                · exact .inr (.inl h)
                · exact .inr (.inr fun b hb => List.mem_append_left _ (h b hb))
              · exact .inl (List.mem_append_right _ hk)
            · rw [tk1] at hb'
              rw [ks_snoc]
              rcases List.mem_append.mp hb' with hk | hk
              · exact List.mem_append_left _ (ht5 b hk)
              · exact List.mem_append_right _ hk
            · rw [List.length_append, List.length_append, List.length_singleton, List.length_singleton]; omega
            · rw [List.length_append, List.length_append, List.length_singleton, List.length_singleton]; omega
            · rw [ks_snoc]; exact List.mem_append_left _ hcm5
        · have hb : y ∈ ks es' := of_decide_eq_true (by rw [Bool.not_eq_false'] at hb; exact hb)
          refine ⟨es', pile', _, rfl, e5.trans e6, e6 F _ hF5, e6 W _ hW5, hA5, hp5, hc5, fun b hb' => ?_, hm5, hl5, hcm5⟩
          rw [tk1] at hb'
          rcases List.mem_append.mp hb' with hk | hk
          · exact ht5 b hk
          · rw [List.mem_singleton.mp hk]; exact hb
      · obtain ⟨es', pile', x5, rfl, e5, hF5, hW5, hA5, hp5, hc5, ht5, hm5, hl5, hcm5⟩ := p
        rw [List.length_map, List.take_of_length_le (Nat.le_refl _)] at ht5
        rw [List.length_append, List.length_singleton] at *
        refine ⟨2 * (60 - es'.length) + pile'.length, by omega, es', pile', _, _, rfl, e5, hF5, hW5, hA5, hp5, fun k hk => ?_, rfl, hl5⟩
        rcases hc5 k hk with h | h | h
        · exact .inl h
        · refine .inr fun b hb => ?_
          obtain ⟨t', ht', e', hb'⟩ := hb
          have : t' = t := nd_uniq hU.nd ht' ht (by rw [e', h, htc])
          rw [this] at hb'
          exact ht5 b hb'
        · exact .inr h
    · have hb : pile = [] := of_decide_eq_true (by rw [Bool.not_eq_false'] at hb; exact hb)
      subst hb
      refine ⟨_, rfl, q F _ es hF (e2.trans e3) (e3 F _ hF2) hA fun k hk => hA.all (fun a ha => ?_) hk⟩
      rcases hc a ha with h | h
      · exact (List.not_mem_nil h).elim
      · exact h
end
end Wt

-- WtP7
set_option maxHeartbeats 1000000
namespace Wt
open PySem PySem.Spec PyProof.Rows L2 Evl WtS WtX WtR
open Classical in
noncomputable def rB (us : List Tu) (n k : Str) : Bool := decide (Rch us n k)
theorem rB_iff {us : List Tu} {n k : Str} : rB us n k = true ↔ Rch us n k := by
  unfold rB
  exact @decide_eq_true_iff _ (Classical.propDecidable _)
noncomputable def topB (us : List Tu) (ns : List Str) (n : Str) : Bool := !(ns.any fun o => !decide (o = n) && rB us n o)
def sp_tops (K : PySem.W.Frag) : Sp := fun vs H Q _ => ∃ (v : V) (us : List Tu) (a : Addr) (ns : List Str), vs = [v, .ref a] ∧ WebV K us v H ∧ Cl us ∧ H a = some (.lst (ns.map V.str)) ∧ (∀ n ∈ ns, n ∈ nms us) ∧ ns.length ≤ 60 ∧
  ∀ p H', H p = none → Ex H H' → H' p = some (.lst (((sset ns).filter (topB us ns)).map V.str)) → Q (.ref p) H'
section
variable {P : Program} {w : World} {K : PySem.W.Frag} {mg : Str → Option Value} {base : Heap}
theorem ok_chain {f : Addr} {fd : FuncData} (T : Txt K mg) (C_above : Fok P w K mg base CX0 1 (He.ma K (He.ga K "Web") "above") P_Web_above (sp_above K)) (F : Fd K d_Web_chain f fd) : FnOk P w K mg base CX0 2 f fd P_Web_chain (sp_chain K) := by
  obtain ⟨fd_above, G_above, b_above⟩ := C_above.ex
  refine FunD.ok F sc_Web_chain (fun vs H Q E h => ?_) (fun cdv A outer s H vs Q E hr h => ?_)
  · obtain ⟨v, us, n, k, rfl, _⟩ := h
    rfl
  · obtain ⟨v, us, n, k, rfl, hWv, hCl, hn, qN, qY⟩ := h
    have hru := hr.units
    have hu := hu_of hr
    refine ⟨_, PSs.nox (pss_cons (ps_set (i := 3) sc_Web_chain.nd rfl (Or.inl rfl) (pe_meth (pv 0) T.cl (T.me _ (by decide +kernel)) G_above (hr.mono (by decide)) b_above .nil pass0 (pa_cons (pv 1) pa_nil)))
  (pss_cons (ps_if (pt_cmp (pc_dnotin hu (pv 2) (pv 3))) (pss_one (ps_ret pe_non)) pss_nil)
  (pss_cons (ps_set (i := 4) sc_Web_chain.nd rfl (Or.inl rfl) (pe_lst (pa_cons (pv 2) pa_nil)))
  (pss_cons (ps_while PassesOwn.never (pt_cmpR op_notN (pe_dget hu (pv 3) (pe_ix ix_list (pv 4) (pe_un un_neg pe_int) (fun _ _ => rfl)) (fun _ _ => rfl)) pe_non (nomark _))
    (pss_one (ps_expr (pe_bm PySem.F.plainAttrs_list PySem.F.slot_list_append PySem.F.type_list_append mt_append (pv 4) (pa_cons (pe_dget hu (pv 3) (pe_ix ix_list (pv 4) (pe_un un_neg pe_int) (fun _ _ => rfl)) (fun _ _ => rfl)) pa_nil)))))
  (pss_cons (ps_expr (pe_bm0 PySem.F.plainAttrs_list PySem.F.slot_list_reverse PySem.F.type_list_reverse mt_reverse (pv 4)))
  (pss_one (ps_ret (pv 4)))))))), ?_⟩
    have hWv' := hWv
    obtain ⟨hU, x, dx, d, u, rfl, hx, hd, hD⟩ := hWv'
    have h60 := hU.sz.n
    refine ⟨_, rfl, x, dx, _, rfl, hx, rfl, _, rfl, .ref x, us, n, rfl, hWv, hCl, hn, fun F H1 es hF e1 hF1 hA hAll => ?_⟩
    have esl : es.length ≤ 60 := by
      have := hA.nd.length_le_of_subset (fun x hx => hA.sub hCl hn x hx)
      rw [List.length_map, List.length_map] at this
      omega
    refine q_when (b := !decide (k ∈ ks es)) (et_B (ev_dnin (ev_var rfl) (ev_var rfl) fun H' e => ent_in (.inl (e F _ hF1)) hA.nd k)) (fun hb H2 e2 => ?_) (fun hb H2 e2 => ?_)
    · have hb : k ∉ ks es := of_decide_eq_false (by rw [Bool.not_eq_true'] at hb; exact hb)
      exact qN (fun h => hb (hAll k h)) H2 (e1.trans e2)
    have hb : k ∈ ks es := of_decide_eq_true (by rw [Bool.not_eq_false'] at hb; exact hb)
    have hR := hA.rch k hb
    have qY := qY hR
    have hF2 := e2 F _ hF1
    refine q_asgL (el_lst (ea_cons (ev_var rfl) ea_nil) (show 1 ≤ 100000 by decide)) fun W H3 hW e3 hWl => ?_
    have E2 := e1.trans e2
    have hW0 : H W = none := fresh_back E2 hW
    have hFW : F ≠ W := ne_of_none hF2 hW
    obtain ⟨i0, hi0⟩ := List.mem_iff_getElem?.mp hb
    rw [List.getElem?_map] at hi0
    obtain ⟨⟨k', o0⟩, h1, h2⟩ := Option.map_eq_some_iff.mp hi0
    have h2 : k' = k := h2
    subst h2
    have hi0l := (List.getElem?_eq_some_iff.mp h1).1
    refine q_while (fun m σ' H' => ∃ (r : List Str) (c : Str) (o : Option Str), σ' = [some (.ref x), some (.str n), some (.str k'), some (.ref F), some (.ref W)] ∧ Ex H H' ∧ H' F = some (.dK (kvz (eK es) (eV es))) ∧ H' W = some (.lst ((c :: r).reverse.map V.str)) ∧ (c :: r).getLast? = some k' ∧ Chn us (c :: r) ∧ (∀ y ∈ c :: r, y ∈ nms us) ∧ es[m]? = some (c, o) ∧ r.length + m ≤ 60) i0
      ⟨[], k', o0, rfl, E2.trans e3, e3 F _ hF2, hWl, rfl, fun k a b h1 h2 => ?_, fun y hy => ?_, h1, ?_⟩ ?_
    · rw [List.getElem?_eq_none (by simp)] at h2
      cases h2
    · rw [List.mem_singleton.mp hy]
      exact hA.sub hCl hn _ hb
    · show 0 + i0 ≤ 60
      omega
    rintro m σ' H4 ⟨r, c, o, rfl, e4, hF4, hW4, hl4, hc4, hs4, hm4, hr4⟩
    have wl : (c :: r).reverse.map V.str = r.reverse.map V.str ++ [.str c] := by rw [List.reverse_cons, List.map_append] <;> rfl
    have cur : ∀ H5, Ex H4 H5 → Ev (tDGet (tVar 3) (tOp (rIxL K) (tVar 4) (tUn (rU fun i => .int (-i)) (tC (.int 1))))) [some (.ref x), some (.str n), some (.str k'), some (.ref F), some (.ref W)] H5 (optV o) := fun H5 e5 =>
      ev_dget (a := F) (y := .str c) (ev_var rfl) (ev_op (ev_var rfl) (ev_un ev_c ru_neg) (rv_ixL (K := K) (SqL.of (e5 W _ hW4)) (by rw [wl]; exact atI_last _ _))) fun H6 e6 => ent_get (.inl (e6 F _ (e5 F _ hF4))) hA.nd hm4
    refine ⟨!decide (optV o = .non), et_test (ev_op (cur H4 (Ex.refl H4)) ev_c (fun H1 _ _ q => ⟨rfl, q H1 (Ex.refl H1)⟩)), fun hb H5 e5 => ?_, fun hb H5 e5 => ?_⟩
    · refine ⟨_, fun σ2 H2 h => h, ?_⟩
      rcases hA.at m c o hm4 with ⟨rfl, rfl⟩ | ⟨s', j, o', rfl, hjm, hj, hst⟩
      · cases hb
      · refine s_app (e5 W _ hW4) (ev_var rfl) (cur H5 e5) ?_ fun H6 e6 => ⟨j, hjm, c :: r, s', o', rfl, ((e4.trans e5).trans e6).mut hW0, ?_, ?_, ?_, hc4.cons hst, fun y hy => ?_, hj, ?_⟩
        · rw [List.length_map, List.length_reverse, List.length_cons]; omega
        · rw [upd_ne hFW]
          exact e6 F _ (e5 F _ hF4)
        · rw [upd_same]
          show some (HO.lst (List.map V.str (c :: r).reverse ++ [V.str s'])) = some (HO.lst (List.map V.str (s' :: c :: r).reverse))
          rw [List.reverse_cons (a := s'), List.map_append] <;> rfl
        · exact hl4
        · rcases List.mem_cons.mp hy with rfl | hy
          · exact hA.sub hCl hn _ (by
              show y ∈ es.map _
              exact List.mem_map_of_mem (f := fun e : Ent => e.1) (List.mem_of_getElem? hj))
          · exact hs4 y hy
        · show (c :: r).length + j ≤ 60
          rw [List.length_cons]; omega
    · have ho : o = none := by
        cases o with
        | none => rfl
        | some s => cases hb
      subst ho
      rcases hA.at m c none hm4 with ⟨_, rfl⟩ | ⟨s', j, o', h, _⟩
      · have hW5 := e5 W _ hW4
        refine ⟨.ref W, rfl, .inl ⟨rfl, _, SqL.of hW5⟩, W, _, rfl, rfl, hW5, _, rfl, ?_⟩
        refine qY W _ r hW0 ((e4.trans e5).mut hW0) ?_ hl4 hc4 hs4 (by omega)
        rw [upd_same, ← List.map_reverse, List.reverse_reverse]
      · cases h
theorem ok_beneath {f : Addr} {fd : FuncData} (T : Txt K mg) (C_above : Fok P w K mg base CX0 1 (He.ma K (He.ga K "Web") "above") P_Web_above (sp_above K)) (F : Fd K d_Web_beneath f fd) : FnOk P w K mg base CX0 2 f fd P_Web_beneath (sp_beneath K) := by
  obtain ⟨fd_above, G_above, b_above⟩ := C_above.ex
  refine FunD.ok F sc_Web_beneath (fun vs H Q E h => ?_) (fun cdv A outer s H vs Q E hr h => ?_)
  · obtain ⟨v, us, n, k, rfl, _⟩ := h
    rfl
  · obtain ⟨v, us, n, k, rfl, hWv, hCl, hn, q⟩ := h
    have hru := hr.units
    have hu := hu_of hr
    refine ⟨_, PSs.nox (pss_one (ps_ret (pe_cmp (pc_din hu (pv 2) (pe_meth (pv 0) T.cl (T.me _ (by decide +kernel)) G_above (hr.mono (by decide)) b_above .nil pass0 (pa_cons (pv 1) pa_nil))) (by rfl)))), ?_⟩
    have hWv' := hWv
    obtain ⟨hU, x, dx, d, u, rfl, hx, hd, hD⟩ := hWv'
    refine ⟨_, rfl, _, rfl, x, dx, _, rfl, hx, rfl, _, rfl, .ref x, us, n, rfl, hWv, hCl, hn, fun F H1 es hF e1 hF1 hA hAll => ?_⟩
    obtain ⟨o, hg, hs⟩ := ent_in (.inl hF1) hA.nd k
    refine ⟨F, o, rfl, hg, q _ H1 e1 ?_⟩
    rw [hs, decide_eq_true_iff]
    exact ⟨hA.rch k, hAll k⟩
theorem ok_tops {f : Addr} {fd : FuncData} (T : Txt K mg) (C_beneath : Fok P w K mg base CX0 2 (He.ma K (He.ga K "Web") "beneath") P_Web_beneath (sp_beneath K)) (F : Fd K d_Web_tops f fd) : FnOk P w K mg base CX0 3 f fd P_Web_tops (sp_tops K) := by
  obtain ⟨fd_beneath, G_beneath, b_beneath⟩ := C_beneath.ex
  refine FunD.ok F sc_Web_tops (fun vs H Q E h => ?_) (fun cdv A outer s H vs Q E hr h => ?_)
  · obtain ⟨v, us, a, ns, rfl, _⟩ := h
    rfl
  · obtain ⟨v, us, a, ns, rfl, hWv, hCl, ha, hns, hl60, q⟩ := h
    have hru := hr.units
    have hu := hu_of hr
    refine ⟨_, PSs.nox (pss_cons (ps_set (i := 2) sc_Web_tops.nd rfl (Or.inl rfl) (pe_lst pa_nil))
  (pss_cons (ps_for PassesOwn.never rfl (pi_list (pe_callB (cr_sortedSetS rfl) (by rfl) T.f_sorted (by decide +kernel) (pa_cons (pe_callTy (cr_setS rfl) (by rfl) T.f_set (by decide +kernel) (pa_cons (pv 1) pa_nil)) pa_nil))) (pg_name (i := 3) sc_Web_tops.nd rfl (Or.inr rfl))
    (pss_one (ps_if (pt_not (pt_val (pe_callB (cr_any rfl) (by rfl) T.f_any (by decide +kernel) (pa_cons (pe_lc (own := [("other", 4)]) (g := gName 4) (tt := tYes) rfl sc_Web_tops.nd (pi_list (pv 1)) (blkOk_by (own := [("other", 4)]) (N := N_Web_tops) (sc := (defScope s_Web_tops)) (by decide +kernel))
    (fun _ _ _ _ _ => (pg_name (i := 4) sc_Web_tops.nd rfl (Or.inl rfl))) (fun _ _ _ _ _ => pts_nil)
    (fun _ _ _ _ _ => (pe_and (pe_cmpR op_ne (pv 4) (pv 3) (nomark _)) (pe_one (pe_meth (E := fun _ _ _ => False) (pv 0) T.cl (T.me _ (by decide +kernel)) G_beneath (hr.mono (by decide)) b_beneath .nil pass0 (pa_cons (pv 3) (pa_cons (pv 4) pa_nil))))))) pa_nil)))) (pss_one (ps_expr (pe_bm PySem.F.plainAttrs_list PySem.F.slot_list_append PySem.F.type_list_append mt_append (pv 2) (pa_cons (pv 3) pa_nil)))) pss_nil)))
  (pss_one (ps_ret (pv 2))))), ?_⟩
    have hWv' := hWv
    obtain ⟨hU, x, dx, d, u, rfl, hx, hd, hD⟩ := hWv'
    refine q_asgL (el_lst ea_nil (Nat.zero_le _)) fun L H1 hL e1 hLl => ?_
    have hsl : (sset ns).length ≤ 60 := Nat.le_trans (sset_len ns) hl60
    refine q_forNL (K := K) (xs := (sset ns).map V.str) (fun H2 e2 Q q => en_sset (K := K) (P := P) (w := w) (ev_var rfl) (SqL.of (e1 a _ ha)) (by omega) H2 e2 Q fun p H3 hp e3 h3 => q p H3 hp e3 h3)
      (fun p i σ' H' => ∃ (x3 x4 : Option V), σ' = [some (.ref x), some (.ref a), some (.ref L), x3, x4] ∧ Ex H H' ∧ H' p = some (.lst ((sset ns).map V.str)) ∧ p ≠ L ∧ H' L = some (.lst ((((sset ns).take i).filter (topB us ns)).map V.str)))
      (fun p H2 hp e2 h2 => ⟨_, _, rfl, e1.trans e2, h2, (ne_of_none hLl hp).symm, by rw [List.take_zero]; exact e2 L _ hLl⟩) (fun p i σ' H' hi h => ?_) (fun p i v σ' H' hi h => ?_) (fun p σ' H' h => ?_)
    · obtain ⟨_, _, _, _, h, _⟩ := h
      exact SqL.of h
    · obtain ⟨x3, x4, rfl, e2, hp2, npL, hL2⟩ := h
      rw [List.getElem?_map] at hi
      obtain ⟨y, hy, rfl⟩ := Option.map_eq_some_iff.mp hi
      have il : i < (sset ns).length := (List.getElem?_eq_some_iff.mp hy).1
      have ym := (mem_sset y ns).mp (List.mem_of_getElem? hy)
      have tk1 : (sset ns).take (i + 1) = (sset ns).take i ++ [y] := by rw [List.take_add_one, hy] <;> rfl
      have lm : (ns.filter fun _ => true).map (fun o => V.bl (!decide (o = y) && rB us y o)) = (ns.map fun o => !decide (o = y) && rB us y o).map V.bl := by rw [filt_true, List.map_map] <;> rfl
      refine s_when (b := topB us ns y) (et_is (et_not (et_B (ev_cbL (el_lcR (R := St1) (fun _ _ _ _ _ h => h) (all2_strs H' ns) (fun _ => true) (fun o => V.bl (!decide (o = y) && rB us y o)) (ev_var rfl) (SqL.of (e2 a _ ha)) (by omega) fun o v H5 ho e5 r Q' k => ?_) fun p H5 e5 hp => rc_any (bs := ns.map fun o => !decide (o = y) && rB us y o) (by rw [← lm]; exact hp)))) ?_) (fun hb H5 e5 => ?_) fun hb H5 e5 => ?_
      · cases r
        refine k _ rfl ev_yes fun _ H6 e6 => ev_andV (ev_is (ev_op (ev_var rfl) (ev_var rfl) (rv_ne rfl)) ?_) fun hb H7 e7 Q q => ?_
        · congr 2
          exact decide_eq_decide.mpr ⟨V.str.inj, congrArg V.str⟩
        · have E7 := ((e2.trans e5).trans e6).trans e7
          refine ⟨_, rfl, x, dx, _, rfl, E7 x _ hx, rfl, _, rfl, _, rfl, .ref x, us, y, o, rfl, hWv.mono E7, hCl, hns y ym, fun b H8 e8 hb => ?_⟩
          have : b = rB us y o := by rw [Bool.eq_iff_iff, hb, rB_iff]
          rw [this]
          exact q H8 e8
      · show (!(List.any _ id)) = _
        rw [List.any_map] <;> rfl
      · refine s_app (e5 L _ hL2) (ev_var rfl) (ev_var rfl) ?_ fun H6 e6 => ⟨_, _, rfl, ((e2.trans e5).trans e6).mut (fresh_back (Ex.refl H) hL), ?_, npL, ?_⟩
        · rw [List.length_map]
          have := List.length_filter_le (topB us ns) ((sset ns).take i)
          rw [List.length_take] at this
          omega
        · rw [upd_ne npL]
          exact e6 p _ (e5 p _ hp2)
        · rw [upd_same, tk1, List.filter_append, List.filter_cons_of_pos hb, List.filter_nil, List.map_append] <;> rfl
      · refine ⟨_, _, rfl, e2.trans e5, e5 p _ hp2, npL, ?_⟩
        rw [tk1, List.filter_append, List.filter_cons_of_neg (by rw [hb]; exact Bool.false_ne_true), List.filter_nil, List.append_nil]
        exact e5 L _ hL2
    · obtain ⟨x3, x4, rfl, e2, hp2, npL, hL2⟩ := h
      rw [List.length_map, List.take_of_length_le (Nat.le_refl _)] at hL2
      exact ⟨_, rfl, q L H' hL e2 hL2⟩
end
end Wt

-- WtD7
set_option maxHeartbeats 1000000
namespace Wt
open PySem PySem.Spec PyProof.Rows L2 L2H HotX Evl WtS WtX WtR WtH
/-! ### the word of an error -/
def sp_word (K : PySem.W.Frag) (a : Addr) (cls : Value) (d : Option Addr) : Sp := fun vs H Q _ => ∃ x w : Str, vs = [.ref a] ∧ Wd w x ∧ cls = .ref (He.ga K x) ∧ XdOk d H ∧ ∀ H', Ex H H' → Q (.str w) H'
def sp_word_of (K : PySem.W.Frag) (p : Addr × Obj) : Sp := fun vs H Q E => (∃ fs, p.2.data = .fields fs) ∧ sp_word K p.1 p.2.cls p.2.dict vs H Q E
def tWord (K : PySem.W.Frag) (a : Addr) (cls : Value) (d : Option Addr) (t : TA) : TE := fun σ H Q => t σ H fun vs H1 => sp_word K a cls d vs H1 Q (fun _ _ _ => False)
def WT (x : Str × Bool) : Pr := fun v H => ∃ p, v = .ref p ∧ H p = some (.tup [.str x.1, .bl x.2])
theorem WT.mono {x : Str × Bool} {v : V} {H H' : Hp} (e : Ex H H') (h : WT x v H) : WT x v H' := by
  obtain ⟨p, rfl, h⟩ := h
  exact ⟨p, rfl, e p _ h⟩
def EvW (ta : TA) (σ : L2.St) (H : Hp) (ps : List (Str × Bool)) : Prop := ∀ H1, Ex H H1 → ∀ Q : List V → Hp → Prop, (∀ vs H2, Ex H1 H2 → All2 WT ps vs H2 → Q vs H2) → ta σ H1 Q
section
variable {K : PySem.W.Frag} {σ : L2.St} {H : Hp}
theorem ew_nil : EvW tNil σ H [] := fun H1 _ Q q => q [] H1 (Ex.refl H1) All2.nil
theorem All2.cons' {α : Type} {R : α → Pr} {x : α} {v : V} {xs : List α} {vs : List V} {H : Hp} (h : R x v H) (t : All2 R xs vs H) : All2 R (x :: xs) (v :: vs) H :=
  ⟨by rw [List.length_cons, List.length_cons, t.1], fun i => by
    cases i with
    | zero => intro y u h1 h2; cases h1; cases h2; exact h
    | succ i => intro y u h1 h2; exact t.2 i y u h1 h2⟩
theorem ew_cons {w : Str} {b : Bool} {te : TE} {tr : TA} {ps : List (Str × Bool)} (h : Ev te σ H (.bl b)) (hr : EvW tr σ H ps) : EvW (tCons (tTup (tCons (tC (.str w)) (tCons te tNil))) tr) σ H ((w, b) :: ps) := fun H1 e Q q =>
  h H1 e _ fun H2 e2 => ⟨sz2, fun p hp => hr (upd H2 p _) ((e.trans e2).trans (Ex.new hp)) _ fun vs H3 e3 hA => q _ H3 ((e2.trans (Ex.new hp)).trans e3) (All2.cons' ⟨p, rfl, e3 p _ upd_same⟩ hA)⟩
theorem q_asgN {i : Nat} {te : TE} {tz : TS} {D : Ends} {Pn : Addr → Hp → Prop} (h : EvN te σ H Pn) (k : ∀ p H1, H p = none → Ex H H1 → Pn p H1 → tz D (σ.set i (some (.ref p))) H1) : tSeq (tAsg te (gName i)) tz D σ H := h H (Ex.refl H) _ k
/-- a new list of such tuples -/
theorem en_lw {ta : TA} {ps : List (Str × Bool)} (h : EvW ta σ H ps) (hz : ps.length ≤ 1000) : EvN (tLst ta) σ H fun p H' => ∃ vs, H' p = some (.lst vs) ∧ All2 WT ps vs H' := fun H1 e Q q =>
  h H1 e _ fun vs H2 e2 hA => ⟨by rw [hA.1]; exact sz_of (by omega), fun p hp => q p _ (fresh_back e2 hp) (e2.trans (Ex.new hp)) ⟨vs, upd_same, hA.imp fun _ _ k => k.mono (Ex.new hp)⟩⟩
theorem All2.app {α : Type} {R : α → Pr} {xs ys : List α} {vs us : List V} {H : Hp} (h : All2 R xs vs H) (k : All2 R ys us H) : All2 R (xs ++ ys) (vs ++ us) H := by
  refine ⟨by rw [List.length_append, List.length_append, h.1, k.1], fun i x v hx hv => ?_⟩
  by_cases hi : i < xs.length
  · rw [List.getElem?_append_left hi] at hx
    rw [List.getElem?_append_left (by rw [h.1]; exact hi)] at hv
    exact h.2 i x v hx hv
  · rw [List.getElem?_append_right (by omega)] at hx
    rw [List.getElem?_append_right (by rw [h.1]; omega), h.1] at hv
    exact k.2 _ x v hx hv
theorem en_cat {ps qs : List (Str × Bool)} {l : Addr} {vs : List V} {ta tb : TE} (h1 : Ev ta σ H (.ref l)) (hl : H l = some (.lst vs)) (hA : All2 WT ps vs H) (h2 : EvN tb σ H fun p H' => ∃ us, H' p = some (.lst us) ∧ All2 WT qs us H') (hz : ps.length + qs.length ≤ 1000) :
    EvN (tOp rCat ta tb) σ H fun p H' => ∃ us, H' p = some (.lst us) ∧ All2 WT (ps ++ qs) us H' := fun H1 e Q q =>
  h1 H1 e _ fun H2 e2 => h2 H2 (e.trans e2) _ fun b H3 hb e3 ⟨us, hus, hB⟩ => ⟨l, b, vs, us, rfl, rfl, e3 l _ (e2 l _ (e l _ hl)), hus, by rw [hA.1, hB.1]; exact sz_of (by omega), fun p hp =>
    q p _ (fresh_back (e2.trans e3) hp) ((e2.trans e3).trans (Ex.new hp)) ⟨vs ++ us, upd_same, All2.app (hA.imp fun _ _ k => k.mono (((e.trans e2).trans e3).trans (Ex.new hp))) (hB.imp fun _ _ k => k.mono (Ex.new hp))⟩⟩
/-- isinstance of what is handled, one class -/
theorem ev_is1 {D a C : Addr} {d : Option Addr} {b : Bool} (h0 : σ[0]? = some (some (.ref a))) (hd : XdOk d H) (hk : PySem.W.kitOne K (.ref D) (.ref C) = some b) : Ev (tCB (rIsP K D a d) (tCons (tVar 0) (tCons (tC (.ref C)) tNil))) σ H (.bl b) := fun H1 e Q q =>
  ⟨_, h0, .inl ⟨hd.imp id fun ⟨dd, fs, h1, h2⟩ => ⟨dd, fs, h1, e dd _ h2⟩, .ref C, .ref C, b, rfl, .own C, hk, q H1 (Ex.refl H1)⟩⟩
theorem ev_isT {D a : Addr} {d : Option Addr} {b : Bool} {n : String} (h0 : σ[0]? = some (some (.ref a))) (hd : XdOk d H) (hk : PySem.W.kitOne K (.ref D) (.type n) = some b) : Ev (tCB (rIsP K D a d) (tCons (tVar 0) (tCons (tC (.ty n)) tNil))) σ H (.bl b) := fun H1 e Q q =>
  ⟨_, h0, .inl ⟨hd.imp id fun ⟨dd, fs, h1, h2⟩ => ⟨dd, fs, h1, e dd _ h2⟩, .ty n, .type n, b, rfl, .ty n, hk, q H1 (Ex.refl H1)⟩⟩
/-- .. a tuple of classes, none of them its -/
theorem ev_isA {D a : Addr} {d : Option Addr} {ta : TA} {cs : List Addr} (h0 : σ[0]? = some (some (.ref a))) (hd : XdOk d H) (hc : EvA ta σ H (cs.map V.ref)) (hl : cs.length ≤ 100) (hk : PySem.W.kitAny K (.ref D) (cs.map Value.ref) = some false) : Ev (tCB (rIsP K D a d) (tCons (tVar 0) (tCons (tTup ta) tNil))) σ H (.bl false) := fun H1 e Q q =>
  ⟨_, h0, hc H1 e _ fun H2 e2 => ⟨by rw [List.length_map]; exact sz_of (by omega), fun p hp => .inr ⟨hd.imp id fun ⟨dd, fs, h1, h2⟩ => ⟨dd, fs, h1, (e.trans (e2.trans (Ex.new hp))) dd _ h2⟩, p, cs.map V.ref, cs.map Value.ref, false, rfl, upd_same, by
    clear hc hl hk
    induction cs with
    | nil => exact .nil
    | cons c cs ih => exact .cons (.own c) ih, hk, q _ (e2.trans (Ex.new hp))⟩⟩⟩
theorem wd_raised {w x : Str} (h : Wd w x) : x ∈ raised := by
  rcases h with ⟨_, rfl⟩ | ⟨_, rfl⟩ | ⟨_, rfl⟩ | ⟨_, rfl⟩ <;> decide +kernel
end
section
variable {P : Program} {w : World} {K : PySem.W.Frag} {mg : Str → Option Value} {base : Heap}
set_option maxHeartbeats 600000 in
theorem ok_word_of {f : Addr} {fd : FuncData} (T : Txt K mg) (F : Fd K d__law_word_of f fd) : FnP P w K mg base CX0 1 f fd P__law_word_of (sp_word_of K) := by
  refine FunP.ok F sc__law_word_of (fun p vs H Q E h => ?_) (fun cdv A outer s H vs Q E p hot hr h => ?_)
  · obtain ⟨_, x, w, rfl, _⟩ := h
    rfl
  · obtain ⟨a, oe⟩ := p
    obtain ⟨hf, x, wd, rfl, hWd, hc, hd, q⟩ := h
    have hc : oe.cls = .ref (He.ga K x) := hc
    have hd : XdOk oe.dict H := hd
    have hxr := wd_raised hWd
    obtain ⟨k1, k2⟩ := T.kt x hxr
    have hotc : HotC (cxH CX0 P w K mg base N__law_word_of d__law_word_of.qual d__law_word_of.scope f cdv A outer s H E (a, oe)) := ⟨_, hot, List.mem_singleton.mpr rfl⟩
    have isP : CallR (cxH CX0 P w K mg base N__law_word_of d__law_word_of.qual d__law_word_of.scope f cdv A outer s H E (a, oe)) (.builtin "isinstance") (rIsP K (He.ga K x) a oe.dict) := call_isP (T.ec x hxr) (List.mem_singleton.mpr rfl) hc rfl hf
    refine ⟨_, pss_cons (ps_set (i := 1) sc__law_word_of.nd rfl (Or.inl rfl) (pe_lst (pa_cons (pe_tup (pa_cons pe_str (pa_cons (pe_callB isP (by rfl) T.f_isinstance (by decide +kernel) (pa_cons (pv 0) (pa_cons (pe_glob (v := .ref (He.ga K "NoText")) rfl (T.gl _ (by decide +kernel)) rfl) pa_nil))) pa_nil))) (pa_cons (pe_tup (pa_cons pe_str (pa_cons (pe_callB isP (by rfl) T.f_isinstance (by decide +kernel) (pa_cons (pv 0) (pa_cons (pe_glob (v := .ref (He.ga K "NoKind")) rfl (T.gl _ (by decide +kernel)) rfl) pa_nil))) pa_nil))) (pa_cons (pe_tup (pa_cons pe_str (pa_cons (pe_callB isP (by rfl) T.f_isinstance (by decide +kernel) (pa_cons (pv 0) (pa_cons (pe_glob (v := .ref (He.ga K "Taken")) rfl (T.gl _ (by decide +kernel)) rfl) pa_nil))) pa_nil))) pa_nil)))))
  (pss_cons (ps_set (i := 1) sc__law_word_of.nd rfl (Or.inl rfl) (pe_op op_cat (pv 1) (pe_lst (pa_cons (pe_tup (pa_cons pe_str (pa_cons (pe_callB isP (by rfl) T.f_isinstance (by decide +kernel) (pa_cons (pv 0) (pa_cons (pe_glob (v := .ref (He.ga K "Ring")) rfl (T.gl _ (by decide +kernel)) rfl) pa_nil))) pa_nil))) (pa_cons (pe_tup (pa_cons pe_str (pa_cons (pe_callB isP (by rfl) T.f_isinstance (by decide +kernel) (pa_cons (pv 0) (pa_cons (pe_glob (v := .ref (He.ga K "NoName")) rfl (T.gl _ (by decide +kernel)) rfl) pa_nil))) pa_nil))) (pa_cons (pe_tup (pa_cons pe_str (pa_cons (pe_callB isP (by rfl) T.f_isinstance (by decide +kernel) (pa_cons (pv 0) (pa_cons (pe_glob (v := .ref (He.ga K "TooMany")) rfl (T.gl _ (by decide +kernel)) rfl) pa_nil))) pa_nil))) pa_nil))))))
  (pss_cons (ps_set (i := 1) sc__law_word_of.nd rfl (Or.inl rfl) (pe_op op_cat (pv 1) (pe_lst (pa_cons (pe_tup (pa_cons pe_str (pa_cons (pe_callB isP (by rfl) T.f_isinstance (by decide +kernel) (pa_cons (pv 0) (pa_cons (pe_tup (pa_cons (pe_glob (v := .ref (He.ga K "Alike")) rfl (T.gl _ (by decide +kernel)) rfl) (pa_cons (pe_glob (v := .ref (He.ga K "Held")) rfl (T.gl _ (by decide +kernel)) rfl) (pa_cons (pe_glob (v := .ref (He.ga K "NoBody")) rfl (T.gl _ (by decide +kernel)) rfl) (pa_cons (pe_glob (v := .ref (He.ga K "NoLine")) rfl (T.gl _ (by decide +kernel)) rfl) (pa_cons (pe_glob (v := .ref (He.ga K "NoPlaces")) rfl (T.gl _ (by decide +kernel)) rfl) (pa_cons (pe_glob (v := .ref (He.ga K "NoTerm")) rfl (T.gl _ (by decide +kernel)) rfl) pa_nil))))))) pa_nil))) pa_nil))) pa_nil))))
  (pss_cons (ps_setLcH (i := 2) (own := [("_law_word", 3), ("_law_truth", 4)]) (g := gTup K 2 (gCons (gName 3) (gCons (gName 4) (gNil)))) hotc sc__law_word_of.nd rfl rfl (sw_true rfl rfl rfl (by decide +kernel)) (pi_listH (pv 1)) (blkOk_by (own := [("_law_word", 3), ("_law_truth", 4)]) (N := N__law_word_of) (sc := (defScope s__law_word_of)) (by decide +kernel))
    (fun _ _ _ _ _ => (pg_tupH (hot_blk hotc) (pgs_cons (pg_name (i := 3) sc__law_word_of.nd rfl (Or.inl rfl)) (pgs_cons (pg_name (i := 4) sc__law_word_of.nd rfl (Or.inl rfl)) pgs_nil)))) (fun _ _ _ _ _ => (pts_one (pt_val (pv 4))))
    (fun _ _ _ _ _ => (pv 3)))
  (pss_cons (ps_if (PW.pt (pw_or (pt_cmpR op_ne (pe_callB call_len (by rfl) T.f_len (by decide +kernel) (pa_cons (pv 2) pa_nil)) pe_int (nomark _)) (pw_or1 (pt_not (pt_val (pe_callB isP (by rfl) T.f_isinstance (by decide +kernel) (pa_cons (pv 0) (pa_cons (pe_bltn (v := .ty "ValueError") (u := .type "ValueError") rfl T.f_ValueError (by decide +kernel) rfl) pa_nil)))))))) (pss_one (ps_ret pe_str)) pss_nil)
  (pss_one (ps_ret (pe_ix ix_list (pv 2) pe_int (fun _ _ => rfl)))))))), ?_⟩
    have kk : ∀ y ∈ asked, PySem.W.kitOne K (.ref (He.ga K x)) (.ref (He.ga K y)) = some (decide (x = y)) := k1
    have hdm : ∀ {H'}, Ex H H' → XdOk oe.dict H' := fun e => hd.imp id fun ⟨dd, fs, h1, h2⟩ => ⟨dd, fs, h1, e dd _ h2⟩
    refine q_asgN (en_lw (ps := [("text", decide (x = "NoText")), ("kind", decide (x = "NoKind")), ("taken", decide (x = "Taken"))]) (ew_cons (ev_is1 rfl hd (kk "NoText" (by decide +kernel))) (ew_cons (ev_is1 rfl hd (kk "NoKind" (by decide +kernel))) (ew_cons (ev_is1 rfl hd (kk "Taken" (by decide +kernel))) ew_nil))) (show 3 ≤ 1000 by decide)) fun L1 H1 hL1 e1 ⟨v1, h1, A1⟩ => ?_
    refine q_asgN (en_cat (ps := [("text", decide (x = "NoText")), ("kind", decide (x = "NoKind")), ("taken", decide (x = "Taken"))]) (qs := [("ring", decide (x = "Ring")), ("name", decide (x = "NoName")), ("many", decide (x = "TooMany"))]) (ev_var rfl) h1 A1 (en_lw (ew_cons (ev_is1 rfl (hdm e1) (kk "Ring" (by decide +kernel))) (ew_cons (ev_is1 rfl (hdm e1) (kk "NoName" (by decide +kernel))) (ew_cons (ev_is1 rfl (hdm e1) (kk "TooMany" (by decide +kernel))) ew_nil))) (show 3 ≤ 1000 by decide)) (show 6 ≤ 1000 by decide)) fun L2 H2 hL2 e2 ⟨v2, h2, A2⟩ => ?_
    have hAny : PySem.W.kitAny K (.ref (He.ga K x)) ([He.ga K "Alike", He.ga K "Held", He.ga K "NoBody", He.ga K "NoLine", He.ga K "NoPlaces", He.ga K "NoTerm"].map Value.ref) = some false := by
      have no : ∀ y ∈ ([("Alike" : Str), "Held", "NoBody", "NoLine", "NoPlaces", "NoTerm"]), decide (x = y) = false := by
        rcases hWd with ⟨_, rfl⟩ | ⟨_, rfl⟩ | ⟨_, rfl⟩ | ⟨_, rfl⟩ <;> decide +kernel
      simp only [List.map, PySem.W.kitAny]
      rw [kk "Alike" (by decide +kernel), no "Alike" (by decide +kernel), kk "Held" (by decide +kernel), no "Held" (by decide +kernel), kk "NoBody" (by decide +kernel), no "NoBody" (by decide +kernel), kk "NoLine" (by decide +kernel), no "NoLine" (by decide +kernel), kk "NoPlaces" (by decide +kernel), no "NoPlaces" (by decide +kernel), kk "NoTerm" (by decide +kernel), no "NoTerm" (by decide +kernel)]
    have E2 := e1.trans e2
    refine q_asgN (en_cat (qs := [("bodies", false)]) (ev_var rfl) h2 A2 (en_lw (ew_cons (ev_isA rfl (hdm E2) (cs := [He.ga K "Alike", He.ga K "Held", He.ga K "NoBody", He.ga K "NoLine", He.ga K "NoPlaces", He.ga K "NoTerm"]) (ea_cons ev_c (ea_cons ev_c (ea_cons ev_c (ea_cons ev_c (ea_cons ev_c (ea_cons ev_c ea_nil)))))) (show 6 ≤ 100 by decide) hAny) ew_nil) (show 1 ≤ 1000 by decide)) (show 7 ≤ 1000 by decide)) fun L3 H3 hL3 e3 ⟨v3, h3, A3⟩ => ?_
    have E3 := E2.trans e3
    refine q_asgL (el_lcR (R := WT) (fun _ _ _ _ => WT.mono) A3 (fun p => p.2) (fun p => .str p.1) (ev_var rfl) (SqL.of h3) (show 7 ≤ 40000 by decide) fun y v H4 hy e4 r Q' k => ?_) fun L4 H4 hL4 e4 h4 => ?_
    · obtain ⟨p, rfl, hp⟩ := r
      exact ⟨p, _, rfl, SqT.of hp, rfl, _, _, rfl, _, _, rfl, rfl, k _ rfl (et_B (ev_var rfl)) fun _ H5 e5 => ev_var rfl⟩
    have hfil : ((([(("text" : Str), decide (x = "NoText")), (("kind" : Str), decide (x = "NoKind")), (("taken" : Str), decide (x = "Taken"))] ++ [(("ring" : Str), decide (x = "Ring")), (("name" : Str), decide (x = "NoName")), (("many" : Str), decide (x = "TooMany"))]) ++ [(("bodies" : Str), false)] : List (Str × Bool)).filter fun p => p.2).map (fun p => V.str p.1) = [V.str wd] := by
      rcases hWd with ⟨rfl, rfl⟩ | ⟨rfl, rfl⟩ | ⟨rfl, rfl⟩ | ⟨rfl, rfl⟩ <;> decide +kernel
    rw [hfil] at h4
    refine q_when (b := false) (et_is (et_or (a := false) (b := false) (et_is (et_test (ev_op (ev_cb1 (ev_var rfl) (rc_len h4)) ev_c (rv_ne rfl))) (by rfl)) fun _ => et_is (et_not (et_B (ev_isT rfl (hdm (E3.trans e4)) k2))) rfl) rfl) (fun h => by cases h) fun _ H5 e5 => ?_
    exact s_ret (ev_op (ev_var rfl) ev_c (rv_ixL (K := K) (SqL.of (e5 L4 _ h4)) (by rfl))) fun H6 e6 => q H6 (((E3.trans e4).trans e5).trans e6)
end
end Wt

-- WtD8
set_option maxHeartbeats 600000
namespace Wt
open PySem PySem.Spec PyProof.Rows L2 L2H HotX Evl WtS WtX WtR WtH
theorem takesN0 {X : Cx} : L2N.Takes X (fun _ _ _ _ => False) := fun _ _ x => by
  obtain ⟨_, _, _, _, _, _, _, _, _, _, _, _, _, _, _, _, z⟩ := x
  exact z.elim
/-- a def called in a suite, ready -/
structure FokP (P : Program) (w : World) (K : PySem.W.Frag) (mg : Str → Option Value) (base : Heap) (CX : CXT) (k : Nat) (f : Addr) (ps : List Str) (sp : Addr × Obj → Sp) : Prop where
  ex : ∃ fd, FnP P w K mg base CX k f fd ps sp ∧ Binds K fd ps []
  kp : PySem.W.keepIn K (.ref f) = true
def sp_read : Sp := fun vs H Q _ => ∃ z : Str, vs = [.str z] ∧ Small z ∧ ∀ v H', Ex H H' → Rv (due z) v H' → Q v H'
section
variable {P : Program} {w : World} {K : PySem.W.Frag} {mg : Str → Option Value} {base : Heap}
theorem pe_word {X : Cx} {f : Addr} {fd : FuncData} {k : Nat} {a : Addr} {oe : Obj} {cls : Value} {d : Option Addr} {x : Str} {q pos : Pos} {e : Expr} {es : List Expr} {i : Nat} (F : FnP X.prog X.w X.K X.mg X.base CX0 k f fd P__law_word_of (sp_word_of X.K)) (hr : RoomH k X.A) (hot : Hot1 X.A (a, oe)) (hp : (a, oe) ∈ X.pn)
    (hz : L2N.Zn cls d oe) (hf : ∃ vs, oe.data = .fields vs) (hg : Gl X x) (hm : X.mg x = some (.ref f)) (hk : PySem.W.keepIn X.K (.ref f) = true) (hb : Binds X.K fd P__law_word_of []) (ha : PA X (e :: es) (tCons (tVar i) tNil)) (hdb : (x == ("__debug__" : Str)) = false := by decide)
    (he : starEach (e :: es) X.env = (false, eval e X.env) :: starEach es X.env := by rfl) (hpl : (backTo pos (starEach es X.env)).any (·.1) = false := by rfl) : PE X (.Call (.Name x q) (e :: es) [] pos) (tWord X.K a cls d (tCons (tVar i) tNil)) := by
  have h := pe_callP (pos := pos) (q := q) F hr hot hp hg hm hk hb pass0 ha hdb he hpl
  refine ⟨fun pins s σ H Q I hw => h.run pins s σ H Q I ?_⟩
  obtain ⟨rfl, rfl, _⟩ := hz
  obtain ⟨v, h1, hs⟩ := hw
  exact ⟨v, h1, hf, hs⟩
theorem ok_read {f : Addr} {fd : FuncData} (T : Txt K mg) (C_told : Fok P w K mg base CX0 2 (He.ga K "_law_told") P__law_told (sp_told K)) (C_read_web : Fok P w K mg base (L2N.CX P w) 7 (He.ga K "read_web") P_read_web (sp_read_web K))
    (C_word : FokP P w K mg base CX0 1 (He.ga K "_law_word_of") P__law_word_of (sp_word_of K)) (F : Fd K d__law_read f fd) : FnOk P w K mg base CX0 8 f fd P__law_read sp_read := by
  obtain ⟨fd_told, G_told, b_told⟩ := C_told.ex
  obtain ⟨fd_read_web, G_read_web, b_read_web⟩ := C_read_web.ex
  obtain ⟨fd_word, G_word, b_word⟩ := C_word.ex
  refine FunD.ok F sc__law_read (fun vs H Q E h => ?_) (fun cdv A outer s H vs Q E hr h => ?_)
  · obtain ⟨z, rfl, _⟩ := h
    rfl
  · obtain ⟨z, rfl, hS, q⟩ := h
    refine ⟨_, PSs.nox (pss_cons (ps_set (i := 1) sc__law_read.nd rfl (Or.inl rfl) pe_non)
  (pss_cut (L2N.ps_try_as (i := 2) (tb := fun W => tAsg (tTup (tCons (tC (.str "told")) (tCons (tCall (sp_told K) [] (fun _ _ _ => False) (tCons (tCallS (sp_read_web K) (WE W) (tCons (tVar 0) tNil)) tNil)) tNil))) (gName 1))
      (ts := fun a cls d => tAsg (tTup (tCons (tC (.str "refused")) (tCons (tWord K a cls d (tCons (tVar 2) tNil)) tNil))) (gName 1)) (Wout := fun _ _ _ _ => False) rfl rfl sc__law_read.nd rfl rfl (c := .ref (He.ga K "FitError")) ⟨rfl, by decide, Or.inl (T.gl _ (by decide +kernel))⟩ takesN0
      (fun W pn xe tk _ => pss_one (ps_set (i := 1) sc__law_read.nd rfl (Or.inl rfl) (by exact (pe_tup (pa_cons pe_str (pa_cons (pe_call (E := fun _ _ _ => False) G_told (hr.mono (by decide)) rfl (T.gl _ (by decide +kernel)) C_told.kp b_told .nil pass0 (pa_cons (pe_callS G_read_web (hr.mono (by decide)) rfl (T.gl _ (by decide +kernel)) C_read_web.kp b_read_web (fun σ => L2N.passAt tk σ) (pa_cons (pv 0) pa_nil)) pa_nil)) pa_nil))))))
      (fun a oe cls d pn hz hf => pss_one (ps_set (i := 1) sc__law_read.nd rfl (Or.inl rfl) (by exact (pe_tup (pa_cons pe_str (pa_cons (pe_word G_word (roomH_mark (hr.mono (by decide)) _) ⟨rfl, hf.imp fun vs hv => ⟨hv, hz.2.2 vs hv⟩⟩ List.mem_cons_self hz hf rfl (T.gl _ (by decide +kernel)) C_word.kp b_word (pa_cons (pv 2) pa_nil)) pa_nil))))))
  )
  (pss_one (ps_ret (pv 1))))), ?_⟩
    refine q_asg ev_c fun H1 e1 => ?_
    refine q_cut (M := fun σ' H' => ∃ (v : V) (x0 x2 : Option V), σ' = [x0, some v, x2] ∧ Ex H H' ∧ Rv (due z) v H') ?_ ?_
    · refine ⟨_, rfl, z, rfl, hS, fun wd hw => ?_, fun us hus v H2 e2 hW => ?_⟩
      · intro x d H2 hWd e2 hd
        refine ⟨true, T.ca x (wd_raised hWd), fun _ a ha => ?_, fun h => by cases h⟩
        have e3 : Ex H1 H2 := ExM.ex0 e2
        refine ⟨_, rfl, x, wd, rfl, hWd, rfl, hd, fun H3 e4 => ⟨sz2, fun p hp => ⟨_, _, _, rfl, ((e1.trans e3).trans e4).trans (Ex.new hp), ?_⟩⟩⟩
        rw [hw]
        exact ⟨p, rfl, upd_same⟩
      · refine ⟨v, us, rfl, hW, fun r H3 e3 hr => ⟨sz2, fun p hp => ⟨_, _, _, rfl, ((e1.trans e2).trans e3).trans (Ex.new hp), ?_⟩⟩⟩
        rw [hus]
        exact ⟨p, r, rfl, upd_same, hr.mono (Ex.new hp)⟩
    · rintro σ' H' ⟨v, x0, x2, rfl, e, hv⟩
      exact ⟨_, rfl, q v H' e hv⟩
end
end Wt

-- WtD9
set_option maxHeartbeats 1000000
namespace Wt
open PySem PySem.Spec PyProof.Rows L2 Evl WtS WtX WtR
/-! ### dict(tuples), what lies above each name, a chain asked -/
theorem All2.uncons {α : Type} {R : α → Pr} {x : α} {v : V} {xs : List α} {vs : List V} {H : Hp} (h : All2 R (x :: xs) (v :: vs) H) : R x v H ∧ All2 R xs vs H :=
  ⟨h.2 0 x v rfl rfl, Nat.succ.inj h.1, fun i y u h1 h2 => h.2 (i + 1) y u h1 h2⟩
theorem All2.consL {α : Type} {R : α → Pr} {x : α} {v : V} {xs : List α} {vs : List V} {H : Hp} (h : R x v H) (t : All2 R xs vs H) : All2 R (x :: xs) (v :: vs) H :=
  ⟨by rw [List.length_cons, List.length_cons, t.1], fun i => by
    cases i with
    | zero => intro y u h1 h2; cases h1; cases h2; exact h
    | succ i => intro y u h1 h2; exact t.2 i y u h1 h2⟩
theorem tws_pairs {K : PySem.W.Frag} {H : Hp} : ∀ {ts : List Tu} {vs : List V}, All2 Tw ts vs H → ∃ (ps : List Addr) (os : List V), vs = ps.map V.ref ∧ Paired (fun (p : Addr) (kv : Key × V) => SqT K H p [kV kv.1, kv.2]) ps (kvz ts os) ∧ All2 LstT ts os H
  | [], [], _ => ⟨[], [], rfl, .nil, All2.nil⟩
  | [], _ :: _, h => by cases h.1
  | _ :: _, [], h => by cases h.1
  | t :: ts, v :: vs, h => by
    obtain ⟨⟨p, o, rfl, h1, h2⟩, ht⟩ := h.uncons
    obtain ⟨ps, os, rfl, hp, ho⟩ := tws_pairs (K := K) ht
    exact ⟨p :: ps, .ref o :: os, rfl, .cons (SqT.of h1) hp, All2.consL ⟨o, rfl, h2⟩ ho⟩
theorem merge_kvz : ∀ {ts us : List Tu} {os vs : List V}, os.length = ts.length → vs.length = us.length → (nms (us ++ ts)).Nodup → mergeK (kvz us vs) (kvz ts os) = kvz (us ++ ts) (vs ++ os)
  | [], us, [], vs, _, _, _ => by rw [List.append_nil, List.append_nil] <;> rfl
  | [], _, _ :: _, _, h, _, _ => by cases h
  | _ :: _, _, [], _, h, _, _ => by cases h
  | t :: ts, us, o :: os, vs, h, hv, hn => by
    show mergeK (putK (kvz us vs) (Sum.inr t.1) o) (kvz ts os) = _
    have hn' : t.1 ∉ nms us := fun hm => by
      have : nms (us ++ t :: ts) = nms us ++ t.1 :: nms ts := by
        show (us ++ t :: ts).map _ = us.map _ ++ _
        rw [List.map_append] <;> rfl
      rw [this] at hn
      exact (List.nodup_append.mp hn).2.2 _ hm _ List.mem_cons_self rfl
    rw [kvz_put hn' hv t.2, merge_kvz (Nat.succ.inj h) (by rw [List.length_append, List.length_append, hv] <;> rfl) (by rw [List.append_assoc]; exact hn), List.append_assoc, List.append_assoc] <;> rfl
/-- dict(tuples) -/
theorem en_dictT {K : PySem.W.Frag} {σ : L2.St} {H : Hp} {ta : TE} {ts : List Tu} {v : V} (h : Ev ta σ H v) (hT : Tws ts v H) (hn : (nms ts).Nodup) :
    EvN (tCB (fun xs H Q => ∃ (a : Addr) (ps : List Addr) (kvs : List (Key × V)), xs = [.ref a] ∧ SqL K H a (ps.map V.ref) ∧ Paired (fun p kv => SqT K H p [kV kv.1, kv.2]) ps kvs ∧ ∀ p, H p = none → Q (.ref p) (upd H p (.dK (mergeK [] kvs)))) (tCons ta tNil)) σ H fun p H' => ∃ u, H' p = some u ∧ Dk ts u H' := fun H1 e Q q => by
  refine h H1 e _ fun H2 e2 => ?_
  obtain ⟨a, vs, rfl, ha, hA⟩ := (hT.mono e).mono e2
  obtain ⟨ps, os, rfl, hp, ho⟩ := tws_pairs (K := K) hA
  refine ⟨a, ps, kvz ts os, rfl, SqL.of ha, hp, fun p hp' => ?_⟩
  have e3 := merge_kvz (us := []) (vs := []) ho.1 rfl hn
  rw [List.nil_append, List.nil_append] at e3
  have e4 : mergeK [] (kvz ts os) = kvz ts os := e3
  rw [e4]
  exact q p _ (fresh_back e2 hp') (e2.trans (Ex.new hp')) ⟨_, upd_same, os, rfl, ho.imp fun _ _ k => Lst.mono (Ex.new hp') k⟩
section
variable {σ : L2.St} {H : Hp}
theorem q_asgM {i : Nat} {te : TE} {tz : TS} {D : Ends} {Pn : Addr → Hp → Prop} (h : EvN te σ H Pn) (k : ∀ p H1, H p = none → Ex H H1 → Pn p H1 → tz D (σ.set i (some (.ref p))) H1) : tSeq (tAsg te (gName i)) tz D σ H := h H (Ex.refl H) _ k
end
/-- the dict of what lies above each name -/
structure UpsOk (ts us : List Tu) : Prop where
  nm : nms us = nms ts
  nd : ∀ t ∈ us, t.2.Nodup
  mem : ∀ t ∈ us, ∀ y, y ∈ t.2 ↔ Rch ts t.1 y
def sp_ups (K : PySem.W.Frag) : Sp := fun vs H Q _ => ∃ (v : V) (ts : List Tu), vs = [v] ∧ Tws ts v H ∧ SzN 60 60 ts ∧ (nms ts).Nodup ∧ Cl ts ∧ ∀ p H' us u, H p = none → Ex H H' → H' p = some u → Dk us u H' → UpsOk ts us → Q (.ref p) H'
theorem rch_nms {ts : List Tu} (hc : Cl ts) {n k : Str} (hn : n ∈ nms ts) (h : Rch ts n k) : k ∈ nms ts := by
  induction h with
  | refl => exact hn
  | step _ hs _ =>
    obtain ⟨t, ht, _, hb⟩ := hs
    exact hc t ht _ hb
section
variable {P : Program} {w : World} {K : PySem.W.Frag} {mg : Str → Option Value} {base : Heap}
theorem ok_ups {f : Addr} {fd : FuncData} (T : Txt K mg) (F : Fd K d__law_ups f fd) : FnOk P w K mg base CX0 1 f fd P__law_ups (sp_ups K) := by
  refine FunD.ok F sc__law_ups (fun vs H Q E h => ?_) (fun cdv A outer s H vs Q E hr h => ?_)
  · obtain ⟨v, ts, rfl, _⟩ := h
    rfl
  · obtain ⟨v, ts, rfl, hT, hz, hnd, hCl, q⟩ := h
    have hru := hr.units
    have hu := hu_of hr
    refine ⟨_, PSs.nox (pss_cons (ps_set (i := 1) sc__law_ups.nd rfl (Or.inl rfl) (pe_callTy (call_dictP rfl) (by rfl) T.f_dict (by decide +kernel) (pa_cons (pv 0) pa_nil)))
  (pss_cons (ps_set (i := 2) sc__law_ups.nd rfl (Or.inl rfl) pe_dnewK)
  (pss_cons (ps_for PassesOwn.never rfl (pi_list (pv 0)) (pg_tup rfl (pgs_cons (pg_name (i := 3) sc__law_ups.nd rfl (Or.inl rfl)) (pgs_cons (pg_name (i := 4) sc__law_ups.nd rfl (Or.inl rfl)) pgs_nil)))
    (pss_cons (ps_set (i := 5) sc__law_ups.nd rfl (Or.inl rfl) (pe_lst (pa_cons (pv 3) pa_nil)))
    (pss_cons (ps_set (i := 6) sc__law_ups.nd rfl (Or.inl rfl) (pe_lst pa_nil))
    (pss_cons (ps_while PassesOwn.never (pt_cmpR (op_neD hru) (pv 5) (pe_lst pa_nil) (nomark _))
      (pss_cons (ps_set (i := 7) sc__law_ups.nd rfl (Or.inl rfl) (pe_bm0 PySem.F.plainAttrs_list PySem.F.slot_list_pop PySem.F.type_list_pop mt_pop (pv 5)))
      (pss_one (ps_if (pt_cmpR op_notIn_seq (pv 7) (pv 6) (by rfl)) (pss_cons (ps_expr (pe_bm PySem.F.plainAttrs_list PySem.F.slot_list_append PySem.F.type_list_append mt_append (pv 6) (pa_cons (pv 7) pa_nil)))
        (pss_one (ps_expr (pe_bm PySem.F.plainAttrs_list PySem.F.slot_list_extend PySem.F.type_list_extend mt_extend (pv 5) (pa_cons (pe_dget hu (pv 1) (pv 7) (fun _ _ => rfl)) pa_nil))))) pss_nil))))
    (pss_one (ps_dput hu (pv 2) (pv 3) (pv 6) rfl))))))
  (pss_one (ps_ret (pv 2)))))), ?_⟩
    have h60 := hz.n
    refine q_asgM (en_dictT (ev_var rfl) hT hnd) fun O H1 hO e1 ⟨uO, hO1, hDO⟩ => ?_
    obtain ⟨a, vs, rfl, ha, hA⟩ := hT
    refine fun D hD => ?_
    dsimp only [gName]
    have eD : Ex H (upd H1 D (.dK [])) := e1.trans (Ex.new hD)
    have hD0 : H D = none := fresh_back e1 hD
    have hOD : upd H1 D (.dK []) O = some uO := Ex.new hD O _ hO1
    have hDOD : Dk ts uO (upd H1 D (.dK [])) := hDO.mono (Ex.new hD)
    have nOD : O ≠ D := ne_of_none hO1 hD
    have hDD : upd H1 D (.dK []) D = some (.dK []) := upd_same
    have lsO : ∀ H', ExM [D] (upd H1 D (.dK [])) H' → H' O = some uO ∧ Dk ts uO H' := fun H' e => ⟨e O _ (by simp [nOD]) hOD, by
      obtain ⟨os, rfl, hl⟩ := hDOD
      refine ⟨os, rfl, hl.imp fun t v k => ?_⟩
      obtain ⟨o, rfl, ho⟩ := k
      have : o ∉ [D] := fun m => by rw [List.mem_singleton.mp m, hDD] at ho; cases ho
      exact ⟨o, rfl, e o _ this ho⟩⟩
    generalize upd H1 D (.dK []) = HD at eD hOD hDOD hDD lsO ⊢
    refine q_forL (ev_var rfl) (SqL.of (eD a _ ha)) (fun i σ' H' => ∃ (us : List Tu) (ws : List V) (x3 x4 x5 x6 x7 : Option V), σ' = [some (.ref a), some (.ref O), some (.ref D), x3, x4, x5, x6, x7] ∧ ExM [D] HD H' ∧ Ex H H' ∧ H' D = some (.dK (kvz us ws)) ∧ All2 (LstTX [D]) us ws H' ∧ nms us = (nms ts).take i ∧ (∀ t ∈ us, t.2.Nodup) ∧ ∀ t ∈ us, ∀ y, y ∈ t.2 ↔ Rch ts t.1 y)
      (fun H' e => ⟨[], [], none, none, none, none, none, rfl, ExM.of e, eD.trans e, e D _ hDD, All2.nil, by rw [List.take_zero] <;> rfl, fun t ht => (List.not_mem_nil ht).elim, fun t ht => (List.not_mem_nil ht).elim⟩) (fun i σ' H' hi p => ?_) (fun i v σ' H' hi p => ?_) (fun σ' H' p => ?_)
    · obtain ⟨_, _, _, _, _, _, _, rfl, _, e, _⟩ := p
      exact SqL.of (e a _ ha)
    · obtain ⟨us, ws, _, _, _, _, x7, rfl, eX, eH, hDk, hWs, hnm, hnds, hmem⟩ := p
      obtain ⟨t, ht, pt, ot, rfl, h1, h2⟩ := hA.get hi
      have tm := List.mem_of_getElem? ht
      have il : i < ts.length := (List.getElem?_eq_some_iff.mp ht).1
      have tn : t.1 ∈ nms ts := List.mem_map_of_mem (f := fun x : Tu => x.1) tm
      refine ⟨pt, _, rfl, SqT.of (eH pt _ h1), rfl, _, _, rfl, _, _, rfl, rfl, ?_⟩
      refine q_asgL (el_lst (ea_cons (ev_var rfl) ea_nil) (show 1 ≤ 100000 by decide)) fun W H2 hW e2 hWl => ?_
      refine q_asgL (el_lst ea_nil (Nat.zero_le _)) fun S H3 hS e3 hSl => ?_
      have hS0 : H' S = none := fresh_back e2 hS
      have nWS : W ≠ S := ne_of_none hWl hS
      have nok : ∀ k ∈ nms ts, okS k := fun k hk => by
        obtain ⟨t, ht, rfl⟩ := List.mem_map.mp hk
        exact isNm_ok (hz.m t ht).1
      have sl60 : ∀ seen : List Str, seen.Nodup → (∀ y ∈ seen, Rch ts t.1 y) → seen.length ≤ 60 := fun seen h1 h2 => by
        have := h1.length_le_of_subset (fun y hy => rch_nms hCl tn (h2 y hy))
        rw [List.length_map] at this
        omega
      refine q_while (fun m σ'' H'' => ∃ (wait seen : List Str) (x7 : Option V), σ'' = [some (.ref a), some (.ref O), some (.ref D), some (.str t.1), some (.ref ot), some (.ref W), some (.ref S), x7] ∧ Ex H' H'' ∧ H'' W = some (.lst (wait.map V.str)) ∧ H'' S = some (.lst (seen.map V.str)) ∧ seen.Nodup ∧ (∀ y ∈ seen, Rch ts t.1 y) ∧ (∀ y ∈ wait, Rch ts t.1 y) ∧ (∀ k ∈ seen, ∀ b, Stq ts k b → b ∈ seen ∨ b ∈ wait) ∧ (t.1 ∈ seen ∨ t.1 ∈ wait) ∧ m = 61 * (60 - seen.length) + wait.length ∧ wait.length ≤ 60 * seen.length + 1) _
        ⟨[t.1], [], x7, rfl, e2.trans e3, e3 W _ hWl, hSl, List.nodup_nil, fun y hy => (List.not_mem_nil hy).elim, fun y hy => by rw [List.mem_singleton.mp hy]; exact .refl, fun y hy => (List.not_mem_nil hy).elim, .inr (List.mem_singleton.mpr rfl), rfl, Nat.le_refl _⟩ ?_
      rintro m σ'' H4 ⟨wait, seen, x7, rfl, e4, hW4, hS4, hsn, hsr, hwr, hcl, hst, rfl, hwl⟩
      have ssl := sl60 seen hsn hsr
      refine ⟨!decide (wait = []), et_test (ev_ne0a (K := K) (ev_var rfl) hW4 fun k hk => nok k (rch_nms hCl tn (hwr k hk))), fun hb H5 e5 => ?_, fun hb H5 e5 => ?_⟩
      · refine ⟨_, fun σ2 H2 h => h, ?_⟩
        have hne : wait ≠ [] := of_decide_eq_false (by rw [Bool.not_eq_true'] at hb; exact hb)
        obtain ⟨pl, c, rfl⟩ : ∃ pl c, wait = pl ++ [c] := ⟨wait.dropLast, wait.getLast hne, (List.dropLast_concat_getLast hne).symm⟩
        have wl : (pl ++ [c]).map V.str = pl.map V.str ++ [.str c] := by rw [List.map_append] <;> rfl
        have hW5 := e5 W _ hW4
        have hS5 := e5 S _ hS4
        have E5 := e4.trans e5
        refine ⟨.ref W, rfl, .inl ⟨rfl, _, SqL.of hW5⟩, W, _, .str c, rfl, rfl, hW5, by rw [wl, List.length_append]; simp, ?_⟩
        rw [wl, List.dropLast_concat]
        dsimp only [gName]
        have E6 : Ex H' (upd H5 W (.lst (pl.map V.str))) := E5.mut hW
        have hS6 : upd H5 W (.lst (pl.map V.str)) S = some (.lst (seen.map V.str)) := by rw [upd_ne (Ne.symm nWS)]; exact hS5
        have hW6 : upd H5 W (.lst (pl.map V.str)) W = some (.lst (pl.map V.str)) := upd_same
        generalize upd H5 W (.lst (pl.map V.str)) = H6 at E6 hS6 hW6 ⊢
        have hcR := hwr c (List.mem_append_right _ (List.mem_singleton.mpr rfl))
        have hcn := rch_nms hCl tn hcR
        rw [List.length_append, List.length_singleton] at hwl ⊢
        refine s_when (b := !decide (c ∈ seen)) (et_test (ev_op (ev_var rfl) (ev_var rfl) (in_L (neg := true) (SqL.of hS6)))) (fun hb H7 e7 => ?_) (fun hb H7 e7 => ?_)
        · have hb : c ∉ seen := of_decide_eq_false (by rw [Bool.not_eq_true'] at hb; exact hb)
          have hsn' : (seen ++ [c]).Nodup := List.nodup_append.mpr ⟨hsn, by simp, fun x hx z hz e => by rw [List.mem_singleton.mp hz] at e; rw [e] at hx; exact hb hx⟩
          have hsr' : ∀ y ∈ seen ++ [c], Rch ts t.1 y := fun y hy => by
            rcases List.mem_append.mp hy with hy | hy
            · exact hsr y hy
            · rw [List.mem_singleton.mp hy]; exact hcR
          have ssl' := sl60 _ hsn' hsr'
          rw [List.length_append, List.length_singleton] at ssl'
          refine q_app (e7 S _ hS6) (ev_var rfl) (ev_var rfl) (by rw [List.length_map]; omega) fun H8 e8 => ?_
          obtain ⟨tc, htc, htce⟩ := List.mem_map.mp hcn
          have htce : tc.1 = c := htce
          have E9 : Ex H' (upd H8 S (.lst (seen.map V.str ++ [.str c]))) := ((E6.trans e7).trans e8).mut hS0
          have hW9 : upd H8 S (.lst (seen.map V.str ++ [.str c])) W = some (.lst (pl.map V.str)) := by rw [upd_ne nWS]; exact e8 W _ (e7 W _ hW6)
          have hS9 : upd H8 S (.lst (seen.map V.str ++ [.str c])) S = some (.lst (seen.map V.str ++ [.str c])) := upd_same
          generalize upd H8 S (.lst (seen.map V.str ++ [.str c])) = H9 at E9 hW9 hS9 ⊢
          obtain ⟨hO9, hD9⟩ := lsO H9 (eX.trans (ExM.of E9))
          obtain ⟨o, hg, ho⟩ := hD9.get (.inl hO9) hnd htc
          rw [htce] at hg
          have hol := hz.o tc htc
          refine ⟨.ref W, rfl, .inl ⟨rfl, _, SqL.of hW9⟩, .ref O, rfl, .str c, rfl, O, .ref o, rfl, hg, W, o, _, _, rfl, rfl, hW9, ho, ?_, ?_⟩
          · rw [List.length_map, List.length_map]
            exact sz_of (by omega)
          · refine ⟨61 * (60 - (seen ++ [c]).length) + (pl ++ tc.2).length, ?_, pl ++ tc.2, seen ++ [c], _, rfl, E9.mut hW, ?_, ?_, hsn', hsr', fun y hy => ?_, fun k hk b hkb => ?_, ?_, rfl, ?_⟩
            · rw [List.length_append, List.length_append, List.length_singleton]; omega
            · rw [upd_same, List.map_append]
            · rw [upd_ne (Ne.symm nWS), List.map_append]; exact hS9
            · rcases List.mem_append.mp hy with hy | hy
              · exact hwr y (List.mem_append_left _ hy)
              · exact .step hcR ⟨tc, htc, htce, hy⟩
            · rcases List.mem_append.mp hk with hk | hk
              · rcases hcl k hk b hkb with h | h
                · exact .inl (List.mem_append_left _ h)
                · rcases List.mem_append.mp h with h | h
                  · exact .inr (List.mem_append_left _ h)
                  · exact .inl (List.mem_append_right _ h)
              · obtain ⟨t', ht', e', hb'⟩ := hkb
                have : t' = tc := nd_uniq hnd ht' htc (by rw [e', List.mem_singleton.mp hk, htce])
                rw [this] at hb'
                exact .inr (List.mem_append_right _ hb')
            · rcases hst with h | h
              · exact .inl (List.mem_append_left _ h)
              · rcases List.mem_append.mp h with h | h
                · exact .inr (List.mem_append_left _ h)
                · exact .inl (List.mem_append_right _ h)
            · rw [List.length_append, List.length_append, List.length_singleton]; omega
        · have hb : c ∈ seen := of_decide_eq_true (by rw [Bool.not_eq_false'] at hb; exact hb)
          refine ⟨61 * (60 - seen.length) + pl.length, by omega, pl, seen, _, rfl, E6.trans e7, e7 W _ hW6, e7 S _ hS6, hsn, hsr, fun y hy => hwr y (List.mem_append_left _ hy), fun k hk b hkb => ?_, ?_, rfl, by omega⟩
          · rcases hcl k hk b hkb with h | h
            · exact .inl h
            · rcases List.mem_append.mp h with h | h
              · exact .inr h
              · rw [List.mem_singleton.mp h]; exact .inl hb
          · rcases hst with h | h
            · exact .inl h
            · rcases List.mem_append.mp h with h | h
              · exact .inr h
              · rw [List.mem_singleton.mp h]; exact .inl hb
      · have hb : wait = [] := of_decide_eq_true (by rw [Bool.not_eq_false'] at hb; exact hb)
        subst hb
        have E5 := e4.trans e5
        have hD5 := E5 D _ hDk
        have hS5 := e5 S _ hS4
        have hnot : t.1 ∉ nms us := fun m => by
          rw [hnm] at m
          obtain ⟨j, hj, ej⟩ := List.mem_iff_getElem.mp m
          rw [List.length_take, List.length_map] at hj
          rw [List.getElem_take] at ej
          have ei : (nms ts)[i]'(by rw [List.length_map]; exact il) = t.1 := by rw [List.getElem_map, (List.getElem?_eq_some_iff.mp ht).2]
          have := (List.getElem_inj hnd).mp (ej.trans ei.symm)
          omega
        have usl : us.length ≤ 60 := by
          have := congrArg List.length hnm
          rw [List.length_map, List.length_take, List.length_map] at this
          omega
        refine ⟨_, rfl, _, rfl, _, rfl, D, _, rfl, DPut.k (k := Sum.inr t.1) hD5 (by rw [kvz_len hWs.1]; exact sz_lt (by omega)), ?_⟩
        rw [kvz_put hnot hWs.1 seen]
        have em : ExM [D] H5 (upd H5 D (.dK (kvz (us ++ [(t.1, seen)]) (ws ++ [.ref S])))) := ExM.upd (by simp)
        have nSD : S ∉ [D] := fun m => by rw [List.mem_singleton.mp m, hDk] at hS0; cases hS0
        refine ⟨us ++ [(t.1, seen)], ws ++ [.ref S], _, _, _, _, _, rfl, (eX.trans (ExM.of E5)).trans em, (eH.trans E5).mut hD0, upd_same, All2.snoc (hWs.imp fun _ _ k => (k.mono E5).monoM em) ⟨S, rfl, nSD, em S _ nSD hS5⟩, ?_, fun u hu => ?_, fun u hu y => ?_⟩
        · show (us ++ [(t.1, seen)]).map _ = _
          rw [List.map_append, List.take_add_one, List.getElem?_map, ht]
          exact congrArg (· ++ [t.1]) hnm
        · rcases List.mem_append.mp hu with hu | hu
          · exact hnds u hu
          · rw [List.mem_singleton.mp hu]; exact hsn
        · rcases List.mem_append.mp hu with hu | hu
          · exact hmem u hu y
          · rw [List.mem_singleton.mp hu]
            refine ⟨hsr y, fun hy => ?_⟩
            induction hy with
            | refl => exact hst.elim id fun h => (List.not_mem_nil h).elim
            | step _ hs ih => exact (hcl _ ih _ hs).elim id fun h => (List.not_mem_nil h).elim
    · obtain ⟨us, ws, _, _, _, _, _, rfl, eX, eH, hDk, hWs, hnm, hnds, hmem⟩ := p
      rw [hA.1, List.take_of_length_le (by rw [List.length_map]; exact Nat.le_refl _)] at hnm
      exact ⟨_, rfl, q D H' us _ hD0 eH hDk ⟨ws, rfl, hWs.imp fun _ _ k => k.l⟩ ⟨hnm, hnds, hmem⟩⟩
end
end Wt

-- WtD10
set_option maxHeartbeats 1000000
namespace Wt
open PySem PySem.Spec PyProof.Rows L2 Evl WtS WtX WtR
theorem cutV_last (ys : List V) (v : V) : cutV (ys ++ [v]) (some (-1)) none = [v] := by
  have hl : (ys ++ [v]).length = ys.length + 1 := by simp
  have e : HT.sIx (ys ++ [v]).length 0 (some (-1)) = ys.length := by
    unfold HT.sIx
    rw [hl]
    simp only [show (-1 : Int) < 0 by decide, if_true]
    omega
  unfold cutV
  rw [e]
  show List.take ((ys ++ [v]).length - ys.length) _ = _
  rw [hl, List.drop_left]
  simp
section
variable {K : PySem.W.Frag} {σ : L2.St} {H : Hp} {t : TT} {te : TE}
theorem el_slE {tl th : TO} {a : Addr} {xs ys : List V} {lo hi : Option Int} (h : Ev te σ H (.ref a)) (h1 : EvO tl σ H lo) (h2 : EvO th σ H hi) (hs : SqL K H a xs) (e : cutV xs lo hi = ys) : EvL (tSl (rSlL K) te tl th) σ H ys := by
  rw [← e]
  exact el_sl h h1 h2 hs
/-- over range(lo, n), nothing kept -/
theorem el_lcR2none {ta : TA} {j : Nat} {vs : List Nat} {lo n : Int} (h : EvA ta σ H [.int lo, .int n]) (hn : 0 ≤ lo ∧ lo ≤ 40000 ∧ -40000 ≤ n ∧ n ≤ 40000) (hw : ∀ x, wipe ((wipe σ vs).set j (some x)) vs = wipe σ vs)
    (ht : ∀ (i : Nat) H1, Ex H H1 → lo + (i : Int) < n → EvT t ((wipe σ vs).set j (some (.int (lo + (i : Int))))) H1 false) :
    EvL (tLc (iRng2 ta) (gName j) t te vs) σ H [] := fun H0 e Q q => h H0 e _ fun H1 e1 => ⟨lo, n, rfl, ⟨by omega, by omega, by omega, by omega⟩, fun Dl hD =>
  lc_range (lo := lo) (n := (n - lo).toNat) (fun _ H' => Ex H1 H' ∧ H' Dl = some (.lst [])) ⟨Ex.new hD, upd_same⟩ (fun i H' hi p => by
    show wipe ((wipe σ vs).set j (some (.int (lo + (i : Int))))) vs = wipe σ vs ∧ t ((wipe σ vs).set j (some (.int (lo + (i : Int))))) H' fun b H3 => if b = true then te ((wipe σ vs).set j (some (.int (lo + (i : Int))))) H3 fun y H4 => ∃ acc, H4 Dl = some (.lst acc) ∧ acc.length < sizeLine ∧ (Ex H1 (upd H4 Dl (.lst (acc ++ [y]))) ∧ upd H4 Dl (.lst (acc ++ [y])) Dl = some (.lst [])) else (Ex H1 H3 ∧ H3 Dl = some (.lst []))
    refine ⟨hw _, ht i H' ((e.trans e1).trans p.1) (by omega) H' (Ex.refl H') _ fun H3 e3 => ?_⟩
    rw [if_neg Bool.false_ne_true]
    exact ⟨p.1.trans e3, e3 Dl _ p.2⟩) (fun H' p => q Dl H' (fresh_back e1 hD) (e1.trans p.1) p.2)⟩
end
def sp_is_chain (K : PySem.W.Frag) : Sp := fun vs H Q _ => ∃ (p O : Addr) (u : HO) (ts : List Tu) (n k : Str) (r : List Str), vs = [.ref p, .str n, .str k, .ref O] ∧ H p = some (.lst ((n :: r).map V.str)) ∧ (n :: r).getLast? = some k ∧ Chn ts (n :: r) ∧ (∀ x ∈ n :: r, x ∈ nms ts) ∧ r.length ≤ 60 ∧
  H O = some u ∧ Dk ts u H ∧ SzN 60 60 ts ∧ (nms ts).Nodup ∧ ∀ H', Ex H H' → Q (.bl true) H'
section
variable {P : Program} {w : World} {K : PySem.W.Frag} {mg : Str → Option Value} {base : Heap}
theorem ok_is_chain {f : Addr} {fd : FuncData} (T : Txt K mg) (F : Fd K d__law_is_chain f fd) : FnOk P w K mg base CX0 1 f fd P__law_is_chain (sp_is_chain K) := by
  refine FunD.ok F sc__law_is_chain (fun vs H Q E h => ?_) (fun cdv A outer s H vs Q E hr h => ?_)
  · obtain ⟨p, O, u, ts, n, k, r, rfl, _⟩ := h
    rfl
  · obtain ⟨p, O, u, ts, n, k, r, rfl, hp, hlast, hch, hsub, hr60, hO, hD, hz, hnd, q⟩ := h
    have hru := hr.units
    have hu := hu_of hr
    refine ⟨_, PSs.nox (pss_cons (ps_if (PW.pt (pw_or (pt_not (pt_val (pe_callB call_isi (by rfl) T.f_isinstance (by decide +kernel) (pa_cons (pv 0) (pa_cons (pe_bltn (v := .ty "list") (u := .type "list") rfl T.f_list (by decide +kernel) rfl) pa_nil))))) (pw_or (pt_cmpR (op_neD hru) (pe_slice sl_list (pv 0) po_none (po_some pe_int)) (pe_lst (pa_cons (pv 1) pa_nil)) (nomark _)) (pw_or1 (pt_cmpR (op_neD hru) (pe_slice sl_list (pv 0) (po_some (pe_un un_neg pe_int)) po_none) (pe_lst (pa_cons (pv 2) pa_nil)) (nomark _)))))) (pss_one (ps_ret pe_bl)) pss_nil)
  (pss_one (ps_ret (pe_cmpR (op_eqD hru) (pe_lc (own := [("_law_k", 4)]) (g := gName 4) rfl sc__law_is_chain.nd (pi_range2 (by rfl) T.f_range (pa_cons pe_int (pa_cons (pe_callB call_len (by rfl) T.f_len (by decide +kernel) (pa_cons (pv 0) pa_nil)) pa_nil))) (blkOk_by (own := [("_law_k", 4)]) (N := N__law_is_chain) (sc := (defScope s__law_is_chain)) (by decide +kernel))
    (fun _ _ _ _ _ => (pg_name (i := 4) sc__law_is_chain.nd rfl (Or.inl rfl))) (fun _ _ _ _ _ => (pts_one (pt_cmpR (show OpR _ (compareOp .NotIn) (rIn K true) from op_notIn_seq) (pe_ix (show IxR _ (rIxL K) from ix_list) (pv 0) (pv 4) (fun _ _ => rfl)) (pe_dget hu (pv 3) (pe_ix (show IxR _ (rIxL K) from ix_list) (pv 0) (pe_op op_sub (pv 4) pe_int) (fun _ _ => rfl)) (fun _ _ => rfl)) (by rfl))))
    (fun _ _ _ _ _ => (pv 4))) (pe_lst pa_nil) (nomark _))))), ?_⟩
    have nok : ∀ k ∈ nms ts, okS k := fun k hk => by
      obtain ⟨t, ht, rfl⟩ := List.mem_map.mp hk
      exact isNm_ok (hz.m t ht).1
    have hn := hsub n List.mem_cons_self
    obtain ⟨ys, hys⟩ : ∃ ys, n :: r = ys ++ [k] := List.getLast?_eq_some_iff.mp hlast
    have hk := hsub k (by rw [hys]; exact List.mem_append_right _ (List.mem_singleton.mpr rfl))
    have ok1 : ∀ y : Str, y ∈ nms ts → ∀ x ∈ [y], okS x := fun y hy x hx => by rw [List.mem_singleton.mp hx]; exact nok y hy
    have c1 : cutV ((n :: r).map V.str) none (some (1 : Int)) = [V.str n] := cutV_L _ 1
    have c2 : cutV ((n :: r).map V.str) (some (-1 : Int)) none = [V.str k] := by
      rw [hys, List.map_append]
      exact cutV_last _ _
    refine q_when (b := false) (et_is (et_or (a := false) (b := false) (et_is (et_not (et_B (fun H1 e1 Q q => ⟨_, rfl, .ref p, .ty "list", .type "list", .type "list", true, rfl, .ty _, .base (.lst (e1 p _ hp)), if_pos (by decide), q H1 (Ex.refl H1)⟩))) rfl)
      fun _ => et_is (et_or (a := false) (b := false) (et_is (et_test (ev_opLL (xs := [n].map V.str) (ys := [n].map V.str) (el_slE (K := K) (ev_var rfl) eo_none (eo_some (i := 1) ev_c) (SqL.of hp) c1) (el_lst (ea_cons (ev_var rfl) ea_nil) (show 1 ≤ 100000 by decide)) fun p1 p2 H1 h1 h2 _ => neD_L (K := K) (xs := [n]) (ys := [n]) h1 h2 (ok1 n hn) (ok1 n hn))) (by rw [decide_eq_true rfl] <;> rfl))
        fun _ => et_is (et_test (ev_opLL (xs := [k].map V.str) (ys := [k].map V.str) (el_slE (K := K) (ev_var rfl) (eo_some (i := -1) (ev_un (x := .int 1) ev_c (ru_neg (i := 1)))) eo_none (SqL.of hp) c2) (el_lst (ea_cons (ev_var rfl) ea_nil) (show 1 ≤ 100000 by decide)) fun p1 p2 H1 h1 h2 _ => neD_L (K := K) (xs := [k]) (ys := [k]) h1 h2 (ok1 k hk) (ok1 k hk))) (by rw [decide_eq_true rfl] <;> rfl)) rfl) rfl) (fun h => by cases h) fun _ H1 e1 => ?_
    have hp1 := e1 p _ hp
    have hl61 : ((n :: r).map V.str).length = r.length + 1 := by rw [List.length_map, List.length_cons]
    refine s_ret (ev_is (ev_opLL (xs := []) (ys := []) (el_lcR2none (lo := 1) (n := ((n :: r).map V.str).length) (ea_cons ev_c (ea_cons (ev_cb1 (ev_var rfl) (rc_len hp1)) ea_nil)) (by rw [hl61]; omega) (fun x => rfl) fun i H2 e2 hi => ?_) (el_lst ea_nil (Nat.zero_le _)) fun p1 p2 H2 h1 h2 _ => eqD_L (K := K) (xs := []) (ys := []) h1 h2 (fun x hx => (List.not_mem_nil hx).elim) (fun x hx => (List.not_mem_nil hx).elim)) (by rw [decide_eq_true rfl])) fun H2 e2 => q H2 (e1.trans e2)
    rw [hl61] at hi
    have il : i + 1 < (n :: r).length := by rw [List.length_cons]; omega
    obtain ⟨y, hy⟩ : ∃ y, (n :: r)[i]? = some y := ⟨_, List.getElem?_eq_getElem (by omega)⟩
    obtain ⟨z, hz'⟩ : ∃ z, (n :: r)[i + 1]? = some z := ⟨_, List.getElem?_eq_getElem il⟩
    obtain ⟨t, ht, hte, hzt⟩ := hch i y z hy hz'
    have E2 := e1.trans e2
    obtain ⟨o, hg, ho⟩ := Dk.getE hD (.inl hO) hnd ht
    rw [hte] at hg
    have hp2 := E2 p _ hp
    have ei : (1 : Int) + (i : Int) = ((i + 1 : Nat) : Int) := by omega
    have ei2 : (1 : Int) + (i : Int) - 1 = (i : Int) := by omega
    refine et_is (et_test (ev_op (ev_op (ev_var rfl) (ev_var rfl) (rv_ixL (K := K) (SqL.of hp2) (by rw [ei]; exact atI_nat (by rw [List.getElem?_map, hz'] <;> rfl)))) (ev_dget (a := O) (y := .str y) (ev_var rfl) (ev_op (ev_var rfl) (ev_is (ev_op (ev_var rfl) ev_c rv_I0) (w := .int (i : Int)) (congrArg V.int ei2)) (rv_ixL (K := K) (SqL.of hp2) (atI_nat (by rw [List.getElem?_map, hy] <;> rfl)))) fun H3 e3 => hg H3 (E2.trans e3)) (in_L (neg := true) (SqL.of (E2 o _ ho))))) ?_
    rw [if_pos rfl, decide_eq_true hzt] <;> rfl
end
end Wt

-- WtD11
set_option maxHeartbeats 1000000
namespace Wt
open PySem PySem.Spec PyProof.Rows L2 Evl WtS WtX WtR
section
variable {σ : L2.St} {H : Hp}
/-- for k in d, d locked already -/
theorem s_forK {d : Addr} {o : Obj} {kvs : List (Key × V)} {td : TE} {g : TG} {tb : TS} {D : Ends} (h : Ev td σ H (.ref d)) (hd : H d = some (.frz o (.dK kvs))) (Pv : Nat → L2.St → Hp → Prop) (h0 : ∀ H1, Ex H H1 → Pv 0 σ H1) (hl : ∀ i σ' H', Pv i σ' H' → H' d = some (.frz o (.dK kvs)))
    (hs : ∀ i k v σ' H', kvs[i]? = some (k, v) → Pv i σ' H' → g (kV k) σ' H' fun σ2 H2 => tb { D with nx := Pv (i + 1), ct := Pv (i + 1), bk := D.nx } σ2 H2) (hd' : ∀ σ' H', Pv kvs.length σ' H' → D.nx σ' H') : tFor (iKeys td) g tb D σ H :=
  h H (Ex.refl H) _ fun H1 e1 => ⟨d, o, rfl, .inl ⟨kvs, e1 d _ hd, fun i m σ H => m = kvs.length - i ∧ i ≤ kvs.length ∧ Pv i σ H, ⟨kvs.length, by simp, Nat.zero_le _, h0 H1 e1⟩, by
    rintro i m σ H ⟨rfl, hi, p⟩
    have q := hl i σ H p
    by_cases hlt : i < kvs.length
    · refine .inr ⟨⟨q, hlt⟩, Pv (i + 1), fun σ' H' p' => ⟨kvs.length - (i + 1), by omega, rfl, hlt, p'⟩, fun x H' y => ?_⟩
      obtain ⟨rfl, k, v, hk, rfl⟩ := y
      exact hs i k v σ _ hk p
    · have e : i = kvs.length := by omega
      subst e
      exact .inl ⟨⟨q, Nat.le_refl _⟩, hd' σ H p⟩⟩⟩
theorem lc_keys {d : Addr} {o : Obj} {kvs : List (Key × V)} {g : TG} {tt : TT} {te : TE} {vs : List Nat} {σ : L2.St} {H1 : Hp} {D : Addr} {Qd : Hp → Prop} (Pv : Nat → Hp → Prop) (h0 : Pv 0 (upd H1 D (.lst []))) (hl : ∀ i H, Pv i H → H d = some (.frz o (.dK kvs)))
    (hs : ∀ i k v H, kvs[i]? = some (k, v) → Pv i H → g (kV k) (wipe σ vs) H fun σ2 H2 => wipe σ2 vs = wipe σ vs ∧ tt σ2 H2 fun b H3 =>
      if b = true then te σ2 H3 fun y H4 => ∃ acc, H4 D = some (.lst acc) ∧ acc.length < sizeLine ∧ Pv (i + 1) (upd H4 D (.lst (acc ++ [y]))) else Pv (i + 1) H3) (hd : ∀ H, Pv kvs.length H → Qd H) :
    ∃ W : Nat → Nat → Hp → Prop, (∃ m, W 0 m (upd H1 D (.lst []))) ∧ ∀ i m H, W i m H →
      ((Itk d o kvs).stop i H ∧ Qd H) ∨ ((Itk d o kvs).go i H ∧ ∃ Nx : Hp → Prop, (∀ H', Nx H' → ∃ m', m' < m ∧ W (i + 1) m' H') ∧ ∀ x H', (Itk d o kvs).yld i H x H' → g x (wipe σ vs) H' fun σ2 H2 => wipe σ2 vs = wipe σ vs ∧ tt σ2 H2 fun b H3 =>
        if b = true then te σ2 H3 fun y H4 => ∃ acc, H4 D = some (.lst acc) ∧ acc.length < sizeLine ∧ Nx (upd H4 D (.lst (acc ++ [y]))) else Nx H3) := by
  refine ⟨fun i m H => m = kvs.length - i ∧ i ≤ kvs.length ∧ Pv i H, ⟨kvs.length, by simp, Nat.zero_le _, h0⟩, ?_⟩
  rintro i m H ⟨rfl, hi, p⟩
  have q := hl i H p
  by_cases hlt : i < kvs.length
  · refine .inr ⟨⟨q, hlt⟩, Pv (i + 1), fun H' p' => ⟨kvs.length - (i + 1), by omega, rfl, hlt, p'⟩, fun x H' y => ?_⟩
    obtain ⟨rfl, k, v, hk, rfl⟩ := y
    exact hs i k v _ hk p
  · have e : i = kvs.length := by omega
    subst e
    exact .inl ⟨⟨q, Nat.le_refl _⟩, hd H p⟩
end
theorem kvz_at {us : List Tu} {ws : List V} {i : Nat} {k : Key} {v : V} (h : (kvz us ws)[i]? = some (k, v)) : ∃ t, us[i]? = some t ∧ ws[i]? = some v ∧ k = Sum.inr t.1 := by
  rw [List.getElem?_zipWith] at h
  cases h1 : us[i]? with
  | none => rw [h1] at h; simp at h
  | some t =>
    cases h2 : ws[i]? with
    | none => rw [h1, h2] at h; simp at h
    | some u =>
      rw [h1, h2] at h
      cases h
      exact ⟨t, rfl, rfl, rfl⟩
theorem rch_congr {us ts : List Tu} (h : ∀ a b, Stq us a b ↔ Stq ts a b) (n k : Str) : Rch us n k ↔ Rch ts n k := by
  constructor
  · intro r
    induction r with
    | refl => exact .refl
    | step _ hs ih => exact .step ih ((h _ _).mp hs)
  · intro r
    induction r with
    | refl => exact .refl
    | step _ hs ih => exact .step ih ((h _ _).mpr hs)
theorem pw_ext {xs ys : List Str} (hx : xs.Pairwise (fun a b => ltS a b)) (hy : ys.Pairwise (fun a b => ltS a b)) (hm : ∀ k, k ∈ xs ↔ k ∈ ys) : xs = ys := by
  have pm : xs.Perm ys := (List.perm_ext_iff_of_nodup (pw_nd hx) (pw_nd hy)).mpr hm
  exact List.Perm.eq_of_pairwise (le := fun a b => ¬ ltS b a) (fun x y _ _ h k => ltS_tri k h) (hx.imp fun h k => ltS_irr _ (ltS_tr h k)) (hy.imp fun h k => ltS_irr _ (ltS_tr h k)) pm
/-- the kinds under none but themselves -/
theorem tops_eq {us ts us2 : List Tu} (hst : ∀ a b, Stq us a b ↔ Stq ts a b) (hC : Cl ts) (hU : UpsOk ts us2) : (sset (nms ts)).filter (topB us (nms ts)) = sset ((us2.filter fun t => decide (t.2 = [t.1])).map fun t => t.1) := by
  refine pw_ext ((sset_pw _).filter _) (sset_pw _) fun k => ?_
  rw [List.mem_filter, mem_sset, mem_sset]
  constructor
  · rintro ⟨hk, ht⟩
    rw [← hU.nm] at hk
    obtain ⟨t, htm, rfl⟩ := List.mem_map.mp hk
    refine List.mem_map.mpr ⟨t, List.mem_filter.mpr ⟨htm, decide_eq_true ?_⟩, rfl⟩
    have all : ∀ y ∈ t.2, y = t.1 := fun y hy => by
      refine Classical.byContradiction fun hne => ?_
      have hr := (hU.mem t htm y).mp hy
      have hyn : y ∈ nms ts := rch_nms hC (by rw [← hU.nm]; exact hk) hr
      unfold topB at ht
      rw [Bool.not_eq_true', List.any_eq_false] at ht
      refine ht y hyn ?_
      rw [decide_eq_false hne, rB_iff.mpr ((rch_congr hst t.1 y).mpr hr)] <;> rfl
    have hm : t.1 ∈ t.2 := (hU.mem t htm t.1).mpr .refl
    have hnd := hU.nd t htm
    cases h2 : t.2 with
    | nil => rw [h2] at hm; exact (List.not_mem_nil hm).elim
    | cons a r =>
      rw [h2] at all hnd
      have ea := all a List.mem_cons_self
      cases r with
      | nil => rw [ea]
      | cons b r =>
        have eb := all b (List.mem_cons_of_mem _ List.mem_cons_self)
        refine ((List.nodup_cons.mp hnd).1 ?_).elim
        rw [ea, eb]
        exact List.mem_cons_self
  · intro hk
    obtain ⟨t, ht, rfl⟩ := List.mem_map.mp hk
    obtain ⟨htm, h2⟩ := List.mem_filter.mp ht
    have h2 : t.2 = [t.1] := of_decide_eq_true h2
    have hk : t.1 ∈ nms ts := by rw [← hU.nm]; exact List.mem_map_of_mem (f := fun x : Tu => x.1) htm
    refine ⟨hk, ?_⟩
    unfold topB
    rw [Bool.not_eq_true', List.any_eq_false]
    intro y hy hb
    rw [Bool.and_eq_true, Bool.not_eq_true', decide_eq_false_iff_not, rB_iff] at hb
    have := (hU.mem t htm y).mpr ((rch_congr hst t.1 y).mp hb.2)
    rw [h2] at this
    exact hb.1 (List.mem_singleton.mp this)
end Wt

-- WtD12
set_option maxHeartbeats 1000000
namespace Wt
open PySem PySem.Spec PyProof.Rows L2 Evl WtS WtX WtR
def sp_hangs (K : PySem.W.Frag) : Sp := fun vs H Q _ => ∃ (v wv : V) (us ts : List Tu), vs = [v, wv] ∧ WebV K us v H ∧ Cl us ∧ Tws ts wv H ∧ SzN 60 60 ts ∧ (nms ts).Nodup ∧ Cl ts ∧ nms us = nms ts ∧ (∀ a b, Stq us a b ↔ Stq ts a b) ∧ ∀ H', Ex H H' → Q (.bl true) H'
section
variable {P : Program} {w : World} {K : PySem.W.Frag} {mg : Str → Option Value} {base : Heap}
set_option maxHeartbeats 2000000 in
theorem ok_hangs {f : Addr} {fd : FuncData} (T : Txt K mg) (C_chain : Fok P w K mg base CX0 2 (He.ma K (He.ga K "Web") "chain") P_Web_chain (sp_chain K)) (C_beneath : Fok P w K mg base CX0 2 (He.ma K (He.ga K "Web") "beneath") P_Web_beneath (sp_beneath K))
    (C_tops : Fok P w K mg base CX0 3 (He.ma K (He.ga K "Web") "tops") P_Web_tops (sp_tops K)) (C_ups : Fok P w K mg base CX0 1 (He.ga K "_law_ups") P__law_ups (sp_ups K)) (C_is_chain : Fok P w K mg base CX0 1 (He.ga K "_law_is_chain") P__law_is_chain (sp_is_chain K))
    (F : Fd K d__law_hangs f fd) : FnOk P w K mg base CX0 4 f fd P__law_hangs (sp_hangs K) := by
  obtain ⟨fd_chain, G_chain, b_chain⟩ := C_chain.ex
  obtain ⟨fd_beneath, G_beneath, b_beneath⟩ := C_beneath.ex
  obtain ⟨fd_tops, G_tops, b_tops⟩ := C_tops.ex
  obtain ⟨fd_ups, G_ups, b_ups⟩ := C_ups.ex
  obtain ⟨fd_is_chain, G_is_chain, b_is_chain⟩ := C_is_chain.ex
  refine FunD.ok F sc__law_hangs (fun vs H Q E h => ?_) (fun cdv A outer s H vs Q E hr h => ?_)
  · obtain ⟨v, wv, us, ts, rfl, _⟩ := h
    rfl
  · obtain ⟨v, wv, us, ts, rfl, hWv, hCl, hT, hz, hnd, hClt, hnm, hst, q⟩ := h
    have hru := hr.units
    have hu := hu_of hr
    refine ⟨_, PSs.nox (pss_cons (ps_set (i := 2) sc__law_hangs.nd rfl (Or.inr rfl) (pe_call (E := fun _ _ _ => False) G_ups (hr.mono (by decide)) rfl (T.gl _ (by decide +kernel)) C_ups.kp b_ups .nil pass0 (pa_cons (pv 1) pa_nil)))
  (pss_cons (ps_set (i := 3) sc__law_hangs.nd rfl (Or.inl rfl) (pe_callTy (call_dictP rfl) (by rfl) T.f_dict (by decide +kernel) (pa_cons (pv 1) pa_nil)))
  (pss_cons (ps_lock (ps_for PassesOwn.never rfl (pi_keys (pv 2)) (pg_name (i := 4) sc__law_hangs.nd rfl (Or.inl rfl))
    (pss_one (ps_for PassesOwn.never rfl (pi_keys (pv 2)) (pg_name (i := 5) sc__law_hangs.nd rfl (Or.inl rfl))
      (pss_cut (ps_set (i := 6) sc__law_hangs.nd rfl (Or.inl rfl) (pe_meth (E := fun _ _ _ => False) (pv 0) T.cl (T.me _ (by decide +kernel)) G_chain (hr.mono (by decide)) b_chain .nil pass0 (pa_cons (pv 4) (pa_cons (pv 5) pa_nil))))
      (pss_cons (ps_if (PW.pt (pw_or (pt_cmpR op_ne (pe_meth (E := fun _ _ _ => False) (pv 0) T.cl (T.me _ (by decide +kernel)) G_beneath (hr.mono (by decide)) b_beneath .nil pass0 (pa_cons (pv 4) (pa_cons (pv 5) pa_nil))) (pe_cmpR op_in_seq (pv 5) (pe_dget hu (pv 2) (pv 4) (fun _ _ => rfl)) (by rfl)) (nomark _)) (pw_or1 (pt_cmpR op_ne (pe_cmpR op_isN (pv 6) pe_non (nomark _)) (pe_cmpR op_notIn_seq (pv 5) (pe_dget hu (pv 2) (pv 4) (fun _ _ => rfl)) (by rfl)) (nomark _))))) (pss_one (ps_ret pe_bl)) pss_nil)
      (pss_one (ps_if (PW.pt (pw_and (pt_cmpR op_notN (pv 6) pe_non (nomark _)) (pw_and1 (pt_not (pt_val (pe_call (E := fun _ _ _ => False) G_is_chain (hr.mono (by decide)) rfl (T.gl _ (by decide +kernel)) C_is_chain.kp b_is_chain .nil pass0 (pa_cons (pv 6) (pa_cons (pv 4) (pa_cons (pv 5) (pa_cons (pv 3) pa_nil)))))))))) (pss_one (ps_ret pe_bl)) pss_nil))))))))
  (pss_one (ps_ret (pe_cmpR (op_eqD hru) (pe_meth (E := fun _ _ _ => False) (pv 0) T.cl (T.me _ (by decide +kernel)) G_tops (hr.mono (by decide)) b_tops .nil pass0 (pa_cons (pe_callTy (call_list_dK rfl) (by rfl) T.f_list (by decide +kernel) (pa_cons (pv 2) pa_nil)) pa_nil)) (pe_callB cr_sortedS (by rfl) T.f_sorted (by decide +kernel) (pa_cons (pe_lock (pe_lc (own := [("_law_name_here", 7)]) (g := gName 7) rfl sc__law_hangs.nd (pi_keys (pv 2)) (blkOk_by (own := [("_law_name_here", 7)]) (N := N__law_hangs) (sc := (defScope s__law_hangs)) (by decide +kernel))
    (fun _ _ _ _ _ => (pg_name (i := 7) sc__law_hangs.nd rfl (Or.inl rfl))) (fun _ _ _ _ _ => (pts_one (pt_cmpR (show OpR _ (compareOp .Eq) (rEqD K) from op_eqD hru) (pe_dget hu (pv 2) (pv 7) (fun _ _ => rfl)) (pe_lst (pa_cons (pv 7) pa_nil)) (nomark _))))
    (fun _ _ _ _ _ => (pv 7)))) pa_nil)) (nomark _))))))), ?_⟩
    have h60 := hz.n
    have nok : ∀ k ∈ nms ts, okS k := fun k hk => by
      obtain ⟨t, ht, rfl⟩ := List.mem_map.mp hk
      exact isNm_ok (hz.m t ht).1
    refine ⟨_, rfl, wv, ts, rfl, hT, hz, hnd, hClt, fun D H1 us2 u hD e1 hD1 hDk hUps => ?_⟩
    dsimp only [gName]
    refine q_asgM (en_dictT (ev_var rfl) (hT.mono e1) hnd) fun O H2 hO e2 ⟨uO, hO2, hDO⟩ => ?_
    obtain ⟨ws, rfl, hW1⟩ := hDk
    have hD2 := e2 D _ hD1
    have nOD : O ≠ D := fun z => by rw [z, hD1] at hO; cases hO
    refine ⟨D, _, hD2, True.intro, fun od => ?_⟩
    have hWv' := hWv
    obtain ⟨hU, x, dx, d, uu, rfl, hx, hd, hDx⟩ := hWv'
    -- what holds whatever stands at D
    have keep : ∀ (H' : Hp) (o : HO), ExM [D] H2 H' → Ex H H' ∧ All2 LstT us2 ws H' ∧ H' O = some uO ∧ Dk ts uO H' := fun H' o e => by
      refine ⟨fun b ob hb => e b ob (fun m => ?_) ((e1.trans e2) b ob hb), hW1.imp fun t v k => ?_, e O _ (by simp [nOD]) hO2, ?_⟩
      · rw [List.mem_singleton.mp m, hD] at hb; cases hb
      · obtain ⟨o, rfl, ho⟩ := k
        have : o ∉ [D] := fun m => by rw [List.mem_singleton.mp m, hD1] at ho; cases ho
        exact ⟨o, rfl, e o _ this (e2 o _ ho)⟩
      · obtain ⟨os, rfl, hl⟩ := hDO
        refine ⟨os, rfl, hl.imp fun t v k => ?_⟩
        obtain ⟨o, rfl, ho⟩ := k
        have : o ∉ [D] := fun m => by rw [List.mem_singleton.mp m, hD2] at ho; cases ho
        exact ⟨o, rfl, e o _ this ho⟩
    have eM : ∀ o, ExM [D] H2 (upd H2 D o) := fun o => ExM.upd (by simp)
    obtain ⟨eL, hWL, hOL, hDOL⟩ := keep _ (.frz od (.dK (kvz us2 ws))) (eM (.frz od (.dK (kvz us2 ws))))
    have hDL : upd H2 D (.frz od (.dK (kvz us2 ws))) D = some (.frz od (.dK (kvz us2 ws))) := upd_same
    have eML := eM (.frz od (.dK (kvz us2 ws)))
    generalize upd H2 D (.frz od (.dK (kvz us2 ws))) = HL at eL hWL hOL hDOL hDL eML ⊢
    have hDkL : Dk us2 (.dK (kvz us2 ws)) HL := ⟨ws, rfl, hWL⟩
    have hnd2 : (nms us2).Nodup := by rw [hUps.nm]; exact hnd
    refine s_forK (ev_var rfl) hDL (fun i σ' H' => ∃ (x4 x5 x6 x7 : Option V), σ' = [some (.ref x), some wv, some (.ref D), some (.ref O), x4, x5, x6, x7] ∧ Ex HL H') (fun H' e => ⟨none, none, none, none, rfl, e⟩) (fun i σ' H' p => ?_) (fun i k0 v0 σ' H' hi p => ?_) (fun σ' H' p => ?_)
    · obtain ⟨_, _, _, _, _, e⟩ := p
      exact e D _ hDL
    · obtain ⟨_, x5, x6, x7, rfl, e3⟩ := p
      obtain ⟨t1, ht1, hv1, rfl⟩ := kvz_at hi
      have t1m := List.mem_of_getElem? ht1
      have n1 : t1.1 ∈ nms ts := by rw [← hUps.nm]; exact List.mem_map_of_mem (f := fun x : Tu => x.1) t1m
      obtain ⟨o1, hg1, ho1⟩ := Dk.getE hDkL (.inr ⟨od, hDL⟩) hnd2 t1m
      dsimp only [gName]
      refine s_forK (H := H') (d := D) (ev_var rfl) (e3 D _ hDL) (fun i σ' H' => ∃ (x5 x6 x7 : Option V), σ' = [some (.ref x), some wv, some (.ref D), some (.ref O), some (.str t1.1), x5, x6, x7] ∧ Ex HL H') (fun H'' e => ⟨x5, x6, x7, rfl, e3.trans e⟩) (fun i σ' H' p => ?_) (fun j k0 v0 σ' H' hj p => ?_) (fun σ' H' p => ?_)
      · obtain ⟨_, _, _, _, e⟩ := p
        exact e D _ hDL
      · obtain ⟨_, x6, x7, rfl, e4⟩ := p
        obtain ⟨t2, ht2, hv2, rfl⟩ := kvz_at hj
        have t2m := List.mem_of_getElem? ht2
        have n2 : t2.1 ∈ nms ts := by rw [← hUps.nm]; exact List.mem_map_of_mem (f := fun x : Tu => x.1) t2m
        have n1u : t1.1 ∈ nms us := by rw [hnm]; exact n1
        have eIn : decide (t2.1 ∈ t1.2) = rB us t1.1 t2.1 := by
          rw [Bool.eq_iff_iff, decide_eq_true_iff, rB_iff, hUps.mem t1 t1m, rch_congr hst]
        dsimp only [gName]
        have EL := eL.trans e4
        refine q_cut (M := fun σ'' H'' => ∃ (v6 : V) (x7 : Option V), σ'' = [some (.ref x), some wv, some (.ref D), some (.ref O), some (.str t1.1), some (.str t2.1), some v6, x7] ∧ Ex HL H'' ∧ ((v6 = .non ∧ rB us t1.1 t2.1 = false) ∨ ∃ p r, v6 = .ref p ∧ rB us t1.1 t2.1 = true ∧ H'' p = some (.lst ((t1.1 :: r).map V.str)) ∧ (t1.1 :: r).getLast? = some t2.1 ∧ Chn us (t1.1 :: r) ∧ (∀ x ∈ t1.1 :: r, x ∈ nms us) ∧ r.length ≤ 60)) ?_ ?_
        · refine ⟨_, rfl, x, dx, _, rfl, EL x _ hx, rfl, _, rfl, _, rfl, .ref x, us, t1.1, t2.1, rfl, hWv.mono EL, hCl, n1u, fun hN H5 e5 => ?_, fun hR p H5 r hp e5 h5 hla hch hsub hr60 => ?_⟩
          · exact ⟨_, _, rfl, e4.trans e5, .inl ⟨rfl, by rw [← Bool.not_eq_true, rB_iff]; exact hN⟩⟩
          · exact ⟨_, _, rfl, e4.trans e5, .inr ⟨p, r, rfl, rB_iff.mpr hR, h5, hla, hch, hsub, hr60⟩⟩
        rintro σ'' H5 ⟨v6, x7, rfl, e5, h6⟩
        have EL5 := eL.trans e5
        have evIn : ∀ neg : Bool, Ev (tOp (rIn K neg) (tVar 5) (tDGet (tVar 2) (tVar 4))) [some (.ref x), some wv, some (.ref D), some (.ref O), some (.str t1.1), some (.str t2.1), some v6, x7] H5 (.bl (if neg then !rB us t1.1 t2.1 else rB us t1.1 t2.1)) := fun neg =>
          ev_is (ev_op (ev_var rfl) (ev_dget (a := D) (y := .str t1.1) (ev_var rfl) (ev_var rfl) fun H6 e6 => hg1 H6 (e5.trans e6)) (in_L (neg := neg) (SqL.of (e5 o1 _ ho1)))) (by rw [eIn])
        have v6b : decide (v6 = V.non) = !rB us t1.1 t2.1 := by
          rcases h6 with ⟨rfl, h⟩ | ⟨p, r, rfl, h, _⟩
          · rw [h] <;> rfl
          · rw [h] <;> rfl
        refine q_when (b := false) (et_is (et_or (a := false) (b := false) (et_is (et_test (ev_op (x := .bl (rB us t1.1 t2.1)) (fun H6 e6 Q q => ?_) (evIn false) (rv_ne rfl))) ?_) fun _ => et_is (et_test (ev_op (ev_op (ev_var rfl) ev_c (z := .bl (decide (v6 = V.non))) fun H1 _ _ q => ⟨rfl, q H1 (Ex.refl H1)⟩) (evIn true) (rv_ne rfl))) ?_) rfl) (fun h => by cases h) fun _ H6 e6 => ?_
        · have E7 := EL5.trans e6
          refine ⟨_, rfl, x, dx, _, rfl, E7 x _ hx, rfl, _, rfl, _, rfl, .ref x, us, t1.1, t2.1, rfl, hWv.mono E7, hCl, n1u, fun b H8 e8 hb => ?_⟩
          have : b = rB us t1.1 t2.1 := by rw [Bool.eq_iff_iff, hb, rB_iff]
          rw [this]
          exact q H8 e8
        · rw [if_neg Bool.false_ne_true, decide_eq_true rfl] <;> rfl
        · rw [if_pos rfl, v6b, decide_eq_true rfl] <;> rfl
        · rcases h6 with ⟨rfl, h⟩ | ⟨p, r, rfl, h, h5, hla, hch, hsub, hr60⟩
          · exact s_when (b := false) (et_is (et_and (a := false) (b := false) (et_is (et_test (ev_op (ev_var rfl) ev_c fun H1 _ _ q => ⟨rfl, q H1 (Ex.refl H1)⟩)) (by rfl)) fun h => by cases h) rfl) (fun h => by cases h) fun _ H7 e7 => ⟨_, _, _, rfl, (e5.trans e6).trans e7⟩
          · refine s_when (b := false) (et_is (et_and (a := true) (b := false) (et_is (et_test (ev_op (ev_var rfl) ev_c fun H1 _ _ q => ⟨rfl, q H1 (Ex.refl H1)⟩)) (by rfl)) fun _ => et_is (et_not (et_B (ev_call (z := .bl true) (ea_cons (ev_var rfl) (ea_cons (ev_var rfl) (ea_cons (ev_var rfl) (ea_cons (ev_var rfl) ea_nil)))) fun H7 e7 Q q E => ?_))) rfl) rfl) (fun h => by cases h) fun _ H7 e7 => ⟨_, _, _, rfl, (e5.trans e6).trans e7⟩
            have E7 := (e5.trans e6).trans e7
            exact ⟨p, O, uO, ts, t1.1, t2.1, r, rfl, e7 p _ (e6 p _ h5), hla, fun k a b h1 h2 => (hst a b).mp (hch k a b h1 h2), fun y hy => by rw [← hnm]; exact hsub y hy, hr60, E7 O _ hOL, hDOL.mono E7, hz, hnd, fun H8 e8 => q H8 e8⟩
      · obtain ⟨x5, x6, x7, rfl, e⟩ := p
        exact ⟨_, _, _, _, rfl, e⟩
    · obtain ⟨x4, x5, x6, x7, rfl, e3⟩ := p
      refine ⟨e3 D _ hDL, ?_⟩
      -- behind the loops
      obtain ⟨eE, hWE, _, _⟩ := keep (upd H' D (.dK (kvz us2 ws))) (.dK (kvz us2 ws)) ((eML.trans (ExM.of e3)).trans (ExM.upd (by simp)))
      have hDE : upd H' D (.dK (kvz us2 ws)) D = some (.dK (kvz us2 ws)) := upd_same
      generalize upd H' D (.dK (kvz us2 ws)) = HE at eE hWE hDE ⊢
      have hl2 : us2.length ≤ 60 := by
        have := congrArg List.length hUps.nm
        rw [List.length_map, List.length_map] at this
        omega
      refine ⟨_, rfl, x, dx, _, rfl, eE x _ hx, rfl, _, rfl, D, kvz us2 ws, rfl, hDE, fun a1 ha1 => ?_⟩
      rw [kvz_keys hWE.1, hUps.nm]
      refine ⟨.ref x, us, a1, nms ts, rfl, (hWv.mono eE).mono (Ex.new ha1), hCl, upd_same, fun n hn => by rw [hnm]; exact hn, by rw [List.length_map]; exact h60, fun p1 H3 hp1 e4 h4 => ?_⟩
      have EE := (Ex.new (o := .lst ((nms ts).map V.str)) ha1).trans e4
      have hD3 := EE D _ hDE
      refine ⟨D, _, hD3, True.intro, fun od2 => ⟨_, rfl, D, od2, rfl, .inl ⟨_, upd_same, fun Dl hDl => ?_⟩⟩⟩
      have hDl3 : H3 Dl = none ∧ Dl ≠ D := by
        have ne : Dl ≠ D := fun z => by rw [z, upd_same] at hDl; cases hDl
        rw [upd_ne ne] at hDl
        exact ⟨hDl, ne⟩
      have hW3 : All2 LstT us2 ws (upd H3 D (.frz od2 (.dK (kvz us2 ws)))) := hWE.imp fun t v k => by
        obtain ⟨o, rfl, ho⟩ := k
        have ne : o ≠ D := fun z => by rw [z, hDE] at ho; cases ho
        exact ⟨o, rfl, by rw [upd_ne ne]; exact EE o _ ho⟩
      have hDk3 : Dk us2 (.dK (kvz us2 ws)) (upd H3 D (.frz od2 (.dK (kvz us2 ws)))) := ⟨ws, rfl, hW3⟩
      have hDD3 : upd H3 D (.frz od2 (.dK (kvz us2 ws))) D = some (.frz od2 (.dK (kvz us2 ws))) := upd_same
      have h4' : upd H3 D (.frz od2 (.dK (kvz us2 ws))) p1 = some (.lst (((sset (nms ts)).filter (topB us (nms ts))).map V.str)) := by
        have ne : p1 ≠ D := fun z => by rw [z, hD3] at h4; cases h4
        rw [upd_ne ne]; exact h4
      have np1 : p1 ≠ D := fun z => by rw [z, hD3] at h4; cases h4
      generalize hHK : upd H3 D (.frz od2 (.dK (kvz us2 ws))) = HK at hDl hW3 hDk3 hDD3 h4' ⊢
      refine lc_keys (fun i H' => Ex HK H' ∧ H' Dl = some (.lst ((((us2.take i).filter fun t => decide (t.2 = [t.1])).map fun t => t.1).map V.str))) ⟨Ex.new hDl, by rw [List.take_zero]; exact upd_same⟩ (fun i H' p => p.1 D _ hDD3) (fun i k0 v0 H' hi p => ?_) (fun H' p => ?_)
      · obtain ⟨t, ht, hv, rfl⟩ := kvz_at hi
        have tm := List.mem_of_getElem? ht
        have tn : t.1 ∈ nms ts := by rw [← hUps.nm]; exact List.mem_map_of_mem (f := fun x : Tu => x.1) tm
        obtain ⟨o, hg, ho⟩ := Dk.getE hDk3 (.inr ⟨od2, hDD3⟩) hnd2 tm
        have tk1 : us2.take (i + 1) = us2.take i ++ [t] := by rw [List.take_add_one, ht] <;> rfl
        have il : i < us2.length := (List.getElem?_eq_some_iff.mp ht).1
        have evc : EvT (tTest (tOp (rEqD K) (tDGet (tVar 2) (tVar 7)) (tLst (tCons (tVar 7) tNil)))) [some (.ref x), some wv, some (.ref D), some (.ref O), x4, x5, x6, some (.str t.1)] H' (decide (t.2 = [t.1])) :=
          et_test (ev_opL (ev_dget (a := D) (y := .str t.1) (ev_var rfl) (ev_var rfl) fun H6 e6 => hg H6 (p.1.trans e6)) (el_lst (ea_cons (ev_var rfl) ea_nil) (show 1 ≤ 100000 by decide)) fun r H6 hr6 e6 => eqD_L (K := K) (xs := t.2) (ys := [t.1]) (e6 o _ (p.1 o _ ho)) hr6 (fun y hy => nok y (rch_nms hClt tn ((hUps.mem t tm y).mp hy))) (fun y hy => by rw [List.mem_singleton.mp hy]; exact nok _ tn))
        refine ⟨rfl, evc H' (Ex.refl H') _ fun H6 e6 => ?_⟩
        by_cases hb : t.2 = [t.1]
        · rw [if_pos (decide_eq_true hb)]
          refine ⟨_, rfl, _, e6 Dl _ p.2, ?_, (p.1.trans e6).mut hDl, ?_⟩
          · rw [List.length_map, List.length_map]
            have := List.length_filter_le (fun t : Tu => decide (t.2 = [t.1])) (us2.take i)
            rw [List.length_take] at this
            exact sz_lt (by omega)
          · have f1 : [t].filter (fun t : Tu => decide (t.2 = [t.1])) = [t] := List.filter_cons_of_pos (p := fun t : Tu => decide (t.2 = [t.1])) (decide_eq_true hb)
            rw [upd_same, tk1, List.filter_append, f1, List.map_append, List.map_append] <;> rfl
        · rw [if_neg (fun h => hb (of_decide_eq_true h))]
          refine ⟨p.1.trans e6, ?_⟩
          have f1 : [t].filter (fun t : Tu => decide (t.2 = [t.1])) = [] := List.filter_cons_of_neg (p := fun t : Tu => decide (t.2 = [t.1])) (fun h => hb (of_decide_eq_true h))
          rw [tk1, List.filter_append, f1, List.append_nil]
          exact e6 Dl _ p.2
      · obtain ⟨p1', p2⟩ := p
        have ekl : (kvz us2 ws).length = us2.length := kvz_len hWE.1
        rw [ekl, List.take_of_length_le (Nat.le_refl _)] at p2
        refine ⟨p1' D _ hDD3, ?_⟩
        have hfl := List.length_filter_le (fun t : Tu => decide (t.2 = [t.1])) us2
        have hDl5 : upd H' D (.dK (kvz us2 ws)) Dl = some (.lst (((us2.filter fun t => decide (t.2 = [t.1])).map fun t => t.1).map V.str)) := by rw [upd_ne hDl3.2]; exact p2
        have hp15 : upd H' D (.dK (kvz us2 ws)) p1 = some (.lst (((sset (nms ts)).filter (topB us (nms ts))).map V.str)) := by rw [upd_ne np1]; exact p1' p1 _ h4'
        have E5 : Ex H (upd H' D (.dK (kvz us2 ws))) := by
          have eHK : Ex H HK := by rw [← hHK]; exact (eE.trans EE).mut hD
          exact (eHK.trans p1').mut hD
        generalize upd H' D (.dK (kvz us2 ws)) = H5 at hDl5 hp15 E5 ⊢
        refine ⟨Dl, _, rfl, SqL.of hDl5, by rw [List.length_map]; omega, fun ys p6 hpm hso hp6 => ?_⟩
        have hnx : (((us2.filter fun t => decide (t.2 = [t.1])).map fun t => t.1)).Nodup := (List.Sublist.map _ List.filter_sublist).nodup hnd2
        have hys : (sset (nms ts)).filter (topB us (nms ts)) = ys := by
          rw [tops_eq hst hClt hUps]
          exact (is_sset_n hso hpm hnx).symm
        have ok1 : ∀ y ∈ ys, okS y := fun y hy => by
          rw [← hys] at hy
          exact nok y ((mem_sset y _).mp (List.mem_filter.mp hy).1)
        have n6 : p1 ≠ p6 := ne_of_none hp15 hp6
        refine eqD_S (xs := ys) (ys := ys) (SqL.of (by rw [upd_ne n6, hp15, hys])) (SqL.of upd_same) ok1 ok1 ?_
        rw [decide_eq_true rfl]
        exact q _ (E5.trans (Ex.new hp6))
end
end Wt

-- WtE1
set_option maxHeartbeats 1000000
namespace Wt
open PySem PySem.Spec PyProof.Rows L2 Evl
/-! ### the plain law -/
abbrev mapO (g : List Str → List Str) (ts : List Tu) : List Tu := ts.map fun t => (t.1, g t.2)
abbrev dblO (xs : List Str) : List Str := xs.reverse ++ xs.take 1
theorem nms_mapO (g : List Str → List Str) (ts : List Tu) : nms (mapO g ts) = nms ts := by
  show (ts.map _).map _ = _
  rw [List.map_map] <;> rfl
structure SameO (g : List Str → List Str) : Prop where
  mem : ∀ xs k, k ∈ g xs ↔ k ∈ xs
theorem same_id : SameO id := ⟨fun _ _ => Iff.rfl⟩
theorem same_sset : SameO sset := ⟨fun xs k => mem_sset k xs⟩
theorem same_dbl : SameO dblO := ⟨fun xs k => by
  constructor
  · intro h
    rcases List.mem_append.mp h with h | h
    · exact List.mem_reverse.mp h
    · exact List.mem_of_mem_take h
  · intro h
    exact List.mem_append_left _ (List.mem_reverse.mpr h)⟩
theorem no_rings {ts : List Tu} (hg : Good ts) {g : List Str → List Str} (hs : SameO g) : ¬ Rings (mapO g ts) := by
  rintro ⟨C, hne, hC⟩
  obtain ⟨rk, hrk⟩ := hg.rank
  have key : ∀ n : Nat, ∀ c ∈ C, rk c < n → False := by
    intro n
    induction n with
    | zero => intro c _ h; omega
    | succ n ih =>
      intro c hc hlt
      obtain ⟨u, hu, rfl, x, hx, hxC⟩ := hC c hc
      obtain ⟨t, ht, rfl⟩ := List.mem_map.mp hu
      have := hrk t ht x ((hs.mem _ _).mp hx)
      exact ih x hxC (by
        have : rk x < rk t.1 := this
        have : rk t.1 < n + 1 := hlt
        omega)
  obtain ⟨c, C', rfl⟩ := List.exists_cons_of_ne_nil hne
  exact key (rk c + 1) c List.mem_cons_self (by omega)
theorem verdict_good {ts : List Tu} (hg : Good ts) {g : List Str → List Str} (hs : SameO g) : verdict (mapO g ts) = .told (mapO sset ts) := by
  have hn : (nms (mapO g ts)).Nodup := by rw [nms_mapO]; exact hg.nd
  have hb : badK (mapO g ts) = false := by
    unfold badK
    rw [List.any_eq_false]
    intro u hu
    obtain ⟨t, ht, rfl⟩ := List.mem_map.mp hu
    rw [Bool.not_eq_true, List.any_eq_false]
    intro x hx
    rw [nms_mapO, decide_eq_true (show x ∈ nms ts from hg.over t ht x ((hs.mem _ _).mp hx))]
    exact Bool.false_ne_true
  have hr : ¬ (stepN (mapO g ts).length (mapO g ts) ≠ []) := fun h => no_rings hg hs ((rings_iff hn).mp h)
  unfold verdict
  rw [if_neg (fun h => h hn), if_neg (by rw [hb]; exact Bool.false_ne_true), if_neg hr, List.map_map]
  congr 1
  refine List.map_congr_left fun t _ => ?_
  show (t.1, sset (g t.2)) = (t.1, sset t.2)
  rw [sset_eq fun k => hs.mem t.2 k]
theorem good_nm {ts : List Tu} (hg : Good ts) {g : List Str → List Str} (hs : SameO g) : ∀ t ∈ mapO g ts, NmT t := fun u hu => by
  obtain ⟨t, ht, rfl⟩ := List.mem_map.mp hu
  refine ⟨hg.nm t ht, fun x hx => ?_⟩
  obtain ⟨t', ht', rfl⟩ := List.mem_map.mp (hg.over t ht x ((hs.mem _ _).mp hx))
  exact hg.nm t' ht'
theorem due_good {ts : List Tu} (hg : Good ts) {g : List Str → List Str} (hs : SameO g) : due (txW (mapO g ts)) = .told (mapO sset ts) := by
  unfold due
  rw [parse_tx (good_nm hg hs)]
  exact verdict_good hg hs
theorem szn_good {ts : List Tu} (hg : Good ts) {g : List Str → List Str} (hs : SameO g) {b : Nat} (hb : ∀ t ∈ ts, (g t.2).length ≤ b) : SzN 6 b (mapO g ts) :=
  ⟨by rw [List.length_map]; exact hg.len, fun u hu => by
    obtain ⟨t, ht, rfl⟩ := List.mem_map.mp hu
    exact hb t ht, good_nm hg hs⟩
theorem SzN.up {a b c d : Nat} {ts : List Tu} (h : SzN a b ts) (h1 : a ≤ c) (h2 : b ≤ d) : SzN c d ts := ⟨Nat.le_trans h.n h1, fun t ht => Nat.le_trans (h.o t ht) h2, h.m⟩
theorem mem_joinL {S : List Nat} {c : Nat} : ∀ {ps : List (List Nat)}, c ∈ TL.joinL S ps → c ∈ S ∨ ∃ p ∈ ps, c ∈ p
  | [], h => (List.not_mem_nil h).elim
  | [p], h => .inr ⟨p, List.mem_singleton.mpr rfl, h⟩
  | p :: q :: r, h => by
    have h : c ∈ p ++ (S ++ TL.joinL S (q :: r)) := h
    rcases List.mem_append.mp h with h | h
    · exact .inr ⟨p, List.mem_cons_self, h⟩
    · rcases List.mem_append.mp h with h | h
      · exact .inl h
      · rcases mem_joinL h with h | ⟨p', hp, h⟩
        · exact .inl h
        · exact .inr ⟨p', List.mem_cons_of_mem _ hp, h⟩
theorem count_no {c : Nat} {l : List Nat} (h : c ∉ l) : l.count c = 0 := List.count_eq_zero.mpr h
theorem rdT_59 {t : Tu} (h : NmT t) : (rdT t).count 59 = 0 := count_no fun m => by
  unfold rdT at m
  split at m
  · exact nm_free h.1 (by decide) m
  · rcases List.mem_append.mp m with m | m
    · exact nm_free h.1 (by decide) m
    · rcases List.mem_append.mp m with m | m
      · simp at m
      · rcases mem_joinL m with m | ⟨p, hp, m⟩
        · simp at m
        · obtain ⟨x, hx, rfl⟩ := List.mem_map.mp hp
          exact nm_free (h.2 x hx) (by decide) m
theorem rdT_44 {b : Nat} {t : Tu} (h : NmT t) (hb : t.2.length ≤ b) : (rdT t).count 44 ≤ b := by
  have h1 : (TL.tl t.1).count 44 = 0 := count_no (nm_free h.1 (by decide))
  unfold rdT
  split
  · omega
  · have h2 := joinL_count (S := [44, 32]) (c := 44) (n := 0) (t.2.map TL.tl) fun p hp => by
      obtain ⟨x, hx, rfl⟩ := List.mem_map.mp hp
      exact Nat.le_of_eq (count_no (nm_free (h.2 x hx) (by decide)))
    have h3 : ([44, 32] : List Nat).count 44 = 1 := by decide
    rw [h3, List.length_map] at h2
    rw [List.count_append, List.count_append, h1]
    have h4 : ([58, 32] : List Nat).count 44 = 0 := by decide
    rw [h4]
    omega
theorem rdW_59 {a b : Nat} {ts : List Tu} (h : SzN a b ts) : (rdW ts).count 59 ≤ a := by
  have h2 := joinL_count (S := [59, 32]) (c := 59) (n := 0) (ts.map rdT) fun p hp => by
    obtain ⟨t, ht, rfl⟩ := List.mem_map.mp hp
    exact Nat.le_of_eq (rdT_59 (h.m t ht))
  have h3 : ([59, 32] : List Nat).count 59 = 1 := by decide
  rw [h3, List.length_map] at h2
  have := h.n
  exact Nat.le_trans h2 (by omega)
theorem rdW_44 {a b : Nat} {ts : List Tu} (h : SzN a b ts) : (rdW ts).count 44 ≤ a * b := by
  have h2 := joinL_count (S := [59, 32]) (c := 44) (n := b) (ts.map rdT) fun p hp => by
    obtain ⟨t, ht, rfl⟩ := List.mem_map.mp hp
    exact rdT_44 (h.m t ht) (h.o t ht)
  have h3 : ([59, 32] : List Nat).count 44 = 0 := by decide
  rw [h3, List.length_map] at h2
  exact Nat.le_trans h2 (Nat.mul_le_mul_right _ h.n)
theorem txW_okS {a b : Nat} {ts : List Tu} (h : SzN a b ts) : okS (txW ts) := fun c hc => by
  rw [tl_txW] at hc
  rcases mem_joinL hc with hc | ⟨p, hp, hc⟩
  · simp only [List.mem_cons, List.not_mem_nil, or_false] at hc
    omega
  · obtain ⟨t, ht, rfl⟩ := List.mem_map.mp hp
    exact rdT_ok (h.m t ht) c hc
theorem smallB_txW {a b : Nat} {ts : List Tu} (h : SzN a b ts) : SmallB (a * (12 + b * 10)) a (a * b) (txW ts) :=
  ⟨by rw [TL.len_tl, tl_txW]; exact rdW_len h, by rw [tl_txW]; exact rdW_59 h, by rw [tl_txW]; exact rdW_44 h, txW_okS h⟩
theorem SmallB.small {n s c : Nat} {z : Str} (h : SmallB n s c z) (h1 : n ≤ 1000) (h2 : s ≤ 20) (h3 : c ≤ 58) : Small z := ⟨Nat.le_trans h.len h1, Nat.le_trans h.semi h2, Nat.le_trans h.com h3, h.ok⟩
theorem small_txW {a b : Nat} {ts : List Tu} (h : SzN a b ts) (ha : a ≤ 7) (hb : b ≤ 7) : Small (txW ts) :=
  (smallB_txW h).small (by
    have := Nat.mul_le_mul ha (show 12 + b * 10 ≤ 82 by omega)
    omega) (by omega) (by
    have := Nat.mul_le_mul ha hb
    omega)
theorem dbl_len (xs : List Str) : (dblO xs).length ≤ xs.length + 1 := by
  rw [List.length_append, List.length_reverse, List.length_take]
  omega
theorem cl_good {ts : List Tu} (hg : Good ts) {g : List Str → List Str} (hs : SameO g) : Cl (mapO g ts) := fun u hu x hx => by
  obtain ⟨t, ht, rfl⟩ := List.mem_map.mp hu
  rw [nms_mapO]
  exact hg.over t ht x ((hs.mem _ _).mp hx)
theorem stq_mapO {g : List Str → List Str} (hs : SameO g) (ts : List Tu) (a b : Str) : Stq (mapO g ts) a b ↔ Stq ts a b := by
  constructor
  · rintro ⟨u, hu, e, hb⟩
    obtain ⟨t, ht, rfl⟩ := List.mem_map.mp hu
    exact ⟨t, ht, e, (hs.mem _ _).mp hb⟩
  · rintro ⟨t, ht, e, hb⟩
    exact ⟨(t.1, g t.2), List.mem_map_of_mem ht, e, (hs.mem _ _).mpr hb⟩
theorem mapO_id (ts : List Tu) : mapO id ts = ts := by
  show ts.map (fun t => (t.1, t.2)) = ts
  exact List.map_id' ts
theorem due_empty : due "" = .told [] := by
  unfold due
  have : parse ("" : Str) = some [] := by
    unfold parse
    rw [if_pos (empty_tl.mp rfl)]
  rw [this]
  rfl
theorem small_empty : Small ("" : Str) := ⟨by decide, by decide, by decide, okS_lit (by decide)⟩
end Wt

-- WtE2
set_option maxHeartbeats 1000000
namespace Wt
open PySem PySem.Spec PyProof.Rows L2 Evl WtS WtX WtR
section
variable {K : PySem.W.Frag} {σ : L2.St} {H : Hp} {ta tb : TE}
theorem ev_neTs {ts us : List Tu} {v : V} (h : EvP ta σ H (Tws ts)) (h2 : ∀ H1, Ex H H1 → Ev tb σ H1 v) (hv : Tws us v H) (o1 : ∀ t ∈ ts, okT t) (o2 : ∀ t ∈ us, okT t) : Ev (tOp (rNeD K) ta tb) σ H (.bl (!decide (ts = us))) := fun H1 e Q q =>
  h H1 e _ fun x H2 e2 hx => h2 H2 (e.trans e2) H2 (Ex.refl H2) _ fun H3 e3 => neD_Ts (hx.mono e3) (((hv.mono e).mono e2).mono e3) o1 o2 (q H3 (e2.trans e3))
theorem ev_neR {r r' : Res} (h : EvP ta σ H (Rv r)) (h2 : ∀ H1, Ex H H1 → EvP tb σ H1 (Rv r')) (o1 : okR r) (o2 : okR r') : Ev (tOp (rNeD K) ta tb) σ H (.bl (!decide (r = r'))) := fun H1 e Q q =>
  h H1 e _ fun x H2 e2 hx => h2 H2 (e.trans e2) H2 (Ex.refl H2) _ fun y H3 e3 hy => neD_R (hx.mono e3) hy o1 o2 (q H3 (e2.trans e3))
theorem ev_eqR {r r' : Res} (h : EvP ta σ H (Rv r)) (h2 : ∀ H1, Ex H H1 → EvP tb σ H1 (Rv r')) (o1 : okR r) (o2 : okR r') : Ev (tOp (rEqD K) ta tb) σ H (.bl (decide (r = r'))) := fun H1 e Q q =>
  h H1 e _ fun x H2 e2 hx => h2 H2 (e.trans e2) H2 (Ex.refl H2) _ fun y H3 e3 hy => eqD_R (hx.mono e3) hy o1 o2 (q H3 (e2.trans e3))
end
section
variable {K : PySem.W.Frag} {σ : L2.St} {H : Hp} {ta tb : TE} {E : XK}
theorem ev_textP {us : List Tu} (h : EvP ta σ H (Tws us)) (hz : SzN 60 60 us) : Ev (tCall sp_text [] E (tCons ta tNil)) σ H (.str (txW us)) := fun H1 e Q q => h H1 e _ fun v H2 e2 hv => ⟨v, us, rfl, hv, hz, fun H3 e3 => q H3 (e2.trans e3)⟩
theorem ep_readweb {us : List Tu} {z : Str} (h : Ev ta σ H (.str z)) (hS : Small z) (hd : due z = .told us) : EvP (tCall (sp_read_web K) [] E (tCons ta tNil)) σ H (WebV K us) := fun H1 e Q q => h H1 e _ fun H2 e2 => ⟨z, rfl, hS, (fun w hw => by rw [hd] at hw; cases hw), fun us' hus v H3 e3 hW => q v H3 (e2.trans e3) (by
  rw [hd] at hus
  cases hus
  exact hW)⟩
theorem ep_read {z : Str} (h : Ev ta σ H (.str z)) (hS : Small z) : EvP (tCall sp_read [] E (tCons ta tNil)) σ H (Rv (due z)) := fun H1 e Q q => h H1 e _ fun H2 e2 => ⟨z, rfl, hS, fun v H3 e3 hv => q v H3 (e2.trans e3) hv⟩
theorem ep_var {i : Nat} {Pv : Pr} {v : V} (h : σ[i]? = some (some v)) (mono : ∀ H', Ex H H' → Pv v H') : EvP (tVar i) σ H Pv := fun H1 e Q q => ⟨v, h, q v H1 (Ex.refl H1) (mono H1 e)⟩
theorem ep_toldT {ts : List Tu} (h : EvP ta σ H (Tws ts)) : EvP (tTup (tCons (tC (.str "told")) (tCons ta tNil))) σ H (Rv (.told ts)) := fun H1 e Q q => h H1 e _ fun v H2 e2 hv => ⟨sz2, fun p hp => q (.ref p) _ (e2.trans (Ex.new hp)) ⟨p, v, rfl, upd_same, hv.mono (Ex.new hp)⟩⟩
theorem ep_told {us : List Tu} {v : V} (h : Ev ta σ H v) (hW : WebV K us v H) : EvP (tCall (sp_told K) [] E (tCons ta tNil)) σ H (Tws us) := fun H1 e Q q => h H1 e _ fun H2 e2 => ⟨v, us, rfl, hW.mono (e.trans e2), fun r H3 e3 hr => q r H3 (e2.trans e3) hr⟩
theorem ev_showP {us : List Tu} (h : EvP ta σ H (WebV K us)) : Ev (tCall (sp_show_web K) [] E (tCons ta tNil)) σ H (.str (txW us)) := fun H1 e Q q => h H1 e _ fun v H2 e2 hW => ⟨v, us, rfl, hW, fun H3 e3 => q H3 (e2.trans e3)⟩
end
theorem ex_skip {p : Addr} {H H6 H7 : Hp} (h0 : H p = none) (e : Ex H H6) (eX : ExM [p] H6 H7) : Ex H H7 := fun b o hb => eX b o (fun m => by
  rw [List.mem_singleton.mp m, h0] at hb
  cases hb) (e b o hb)
theorem twsX_of {p : Addr} {ts : List Tu} {v : V} {H H' : Hp} (h : Tws ts v H) (h0 : H p = none) (e : Ex H H') : sp_muddled.TwsX [p] ts v H' := by
  obtain ⟨a, vs, rfl, ha, hA⟩ := h
  refine ⟨a, vs, rfl, (fun m => by rw [List.mem_singleton.mp m, h0] at ha; cases ha), e a _ ha, hA.imp fun t v k => ?_⟩
  obtain ⟨q, o, rfl, h1, h2⟩ := k
  exact ⟨q, o, rfl, (fun m => by rw [List.mem_singleton.mp m, h0] at h1; cases h1), (fun m => by rw [List.mem_singleton.mp m, h0] at h2; cases h2), e q _ h1, e o _ h2⟩
theorem mk_web {K : PySem.W.Frag} {ts us : List Tu} {v : V} {H1 : Hp} {Q : VK} {E : XK} (hT : Tws ts v H1) (hz : SzN 60 60 ts) (hv : verdict ts = .told us) (q : ∀ x H2, Ex H1 H2 → WebV K us (.ref x) H2 → Q (.ref x) H2) :
    ∀ x dx, H1 x = none → H1 dx = none → dx ≠ x → sp_web_init K (.ref x :: ([v] ++ [])) (upd (upd H1 dx (.own x)) x (.ins (He.ga K "Web") dx [])) (fun v H2 => v = .non ∧ Q (.ref x) H2) E := fun x dx hx hdx ndx => by
  have e2 : Ex H1 (upd (upd H1 dx (.own x)) x (.ins (He.ga K "Web") dx [])) := (Ex.new hdx).trans (Ex.new (by rw [upd_ne (Ne.symm ndx)]; exact hx))
  refine ⟨x, dx, v, ts, rfl, upd_same, hT.mono e2, hz, (fun w hw => by rw [hv] at hw; cases hw), fun us' hus H' e3 hW => ⟨rfl, ?_⟩⟩
  rw [hv] at hus
  cases hus
  refine q x H' (fun b o hb => e3 b o (fun m => ?_) (e2 b o hb)) hW
  rw [List.mem_singleton.mp m, hx] at hb
  cases hb
theorem ep_make {K : PySem.W.Frag} {σ : L2.St} {H : Hp} {ta : TE} {E : XK} {ts us : List Tu} (h : EvP ta σ H (Tws ts)) (hz : SzN 60 60 ts) (hv : verdict ts = .told us) : EvP (tMake (He.ga K "Web") (sp_web_init K) [] E (tCons ta tNil)) σ H (WebV K us) := fun H1 e Q q =>
  h H1 e _ fun v H2 e2 hT => mk_web hT hz hv fun x H3 e3 hW => q _ H3 (e2.trans e3) hW
def sp_law (K : PySem.W.Frag) : Sp := fun vs H Q _ => ∃ (a : Addr) (ns : List Int), vs = [.ref a] ∧ SqL K H a (ns.map V.int) ∧ ns.length ≤ 63 ∧ ∀ H', Q (.bl true) H'
section
variable {P : Program} {w : World} {K : PySem.W.Frag} {mg : Str → Option Value} {base : Heap}
set_option maxHeartbeats 3000000 in
theorem ok_law {f : Addr} {fd : FuncData} (T : Txt K mg)
    (C_cell : Fok P w K mg base CX0 1 (He.ga K "_law_cell") P__law_cell (sp_cell K)) (C_tuples : Fok P w K mg base CX0 3 (He.ga K "_law_tuples") P__law_tuples (sp_tuples K)) (C_text : Fok P w K mg base CX0 1 (He.ga K "_law_text") P__law_text sp_text)
    (C_read_web : Fok P w K mg base (L2N.CX P w) 7 (He.ga K "read_web") P_read_web (sp_read_web K)) (C_told : Fok P w K mg base CX0 2 (He.ga K "_law_told") P__law_told (sp_told K)) (C_show_web : Fok P w K mg base CX0 3 (He.ga K "show_web") P_show_web (sp_show_web K))
    (C_web : Fok P w K mg base (L2N.CX P w) 5 (He.ma K (He.ga K "Web") "__init__") P_Web_init (sp_web_init K)) (C_read : Fok P w K mg base CX0 8 (He.ga K "_law_read") P__law_read sp_read) (C_hangs : Fok P w K mg base CX0 4 (He.ga K "_law_hangs") P__law_hangs (sp_hangs K))
    (C_muddled : Fok P w K mg base CX0 3 (He.ga K "_law_muddled") P__law_muddled sp_muddled) (C_take : Fok P w K mg base CX0 1 (He.ga K "_law_take") P__law_take sp_take) (C_spoiled : Fok P w K mg base CX0 2 (He.ga K "_law_spoiled") P__law_spoiled sp_spoiled)
    (C_due : Fok P w K mg base CX0 3 (He.ga K "_law_due") P__law_due sp_due)
    (F : Fd K d_law f fd) : FnOk P w K mg base CX0 9 f fd P_law (sp_law K) := by
  obtain ⟨fd_cell, G_cell, b_cell⟩ := C_cell.ex
  obtain ⟨fd_tuples, G_tuples, b_tuples⟩ := C_tuples.ex
  obtain ⟨fd_text, G_text, b_text⟩ := C_text.ex
  obtain ⟨fd_read_web, G_read_web, b_read_web⟩ := C_read_web.ex
  obtain ⟨fd_told, G_told, b_told⟩ := C_told.ex
  obtain ⟨fd_show_web, G_show_web, b_show_web⟩ := C_show_web.ex
  obtain ⟨fd_web, G_web, b_web⟩ := C_web.ex
  obtain ⟨fd_read, G_read, b_read⟩ := C_read.ex
  obtain ⟨fd_hangs, G_hangs, b_hangs⟩ := C_hangs.ex
  obtain ⟨fd_muddled, G_muddled, b_muddled⟩ := C_muddled.ex
  obtain ⟨fd_take, G_take, b_take⟩ := C_take.ex
  obtain ⟨fd_spoiled, G_spoiled, b_spoiled⟩ := C_spoiled.ex
  obtain ⟨fd_due, G_due, b_due⟩ := C_due.ex
  refine FunD.ok F sc_law (fun vs H Q E h => ?_) (fun cdv A outer s H vs Q E hr h => ?_)
  · obtain ⟨a, ns, rfl, _⟩ := h
    rfl
  · obtain ⟨a, ns, rfl, hS, hl, q⟩ := h
    have hru := hr.units
    have hu := hu_of hr
    refine ⟨_, PSs.nox (pss_cons (ps_set (i := 1) sc_law.nd rfl (Or.inl rfl) (pe_op op_mod (pe_call (E := fun _ _ _ => False) G_cell (hr.mono (by decide)) rfl (T.gl _ (by decide +kernel)) C_cell.kp b_cell .nil pass0 (pa_cons (pv 0) (pa_cons pe_int pa_nil))) pe_int))
  (pss_cons (ps_set (i := 2) sc_law.nd rfl (Or.inl rfl) (pe_call (E := fun _ _ _ => False) G_tuples (hr.mono (by decide)) rfl (T.gl _ (by decide +kernel)) C_tuples.kp b_tuples .nil pass0 (pa_cons (pv 0) (pa_cons pe_int (pa_cons (pv 1) pa_nil)))))
  (pss_cut (ps_setLc (i := 3) (own := [("_law_name_here", 11), ("_law_over", 12)]) (g := gTup K 2 (gCons (gName 11) (gCons (gName 12) (gNil)))) (tt := tYes) (te := tTup (tCons (tVar 11) (tCons (tCB (rSortedS K) (tCons (tVar 12) tNil)) tNil))) rfl sc_law.nd rfl rfl (sw_true rfl rfl rfl (by decide +kernel)) (pi_list (pv 2)) (blkOk_by (own := [("_law_name_here", 11), ("_law_over", 12)]) (N := N_law) (sc := (defScope s_law)) (by decide +kernel))
    (fun _ _ _ _ _ => (pg_tup rfl (pgs_cons (pg_name (i := 11) sc_law.nd rfl (Or.inl rfl)) (pgs_cons (pg_name (i := 12) sc_law.nd rfl (Or.inl rfl)) pgs_nil)))) (fun _ _ _ _ _ => pts_nil)
    (fun _ _ _ _ _ => (pe_tup (pa_cons (pv 11) (pa_cons (pe_callB (show CallR _ (.builtin "sorted") (rSortedS K) from cr_sortedS) (by rfl) T.f_sorted (by decide +kernel) (pa_cons (pv 12) pa_nil)) pa_nil)))))
  (pss_cons (ps_set (i := 4) sc_law.nd rfl (Or.inl rfl) (pe_call (E := fun _ _ _ => False) G_text (hr.mono (by decide)) rfl (T.gl _ (by decide +kernel)) C_text.kp b_text .nil pass0 (pa_cons (pv 3) pa_nil)))
  (pss_cut (ps_set (i := 5) sc_law.nd rfl (Or.inl rfl) (pe_call (E := fun _ _ _ => False) G_read_web (hr.mono (by decide)) rfl (T.gl _ (by decide +kernel)) C_read_web.kp b_read_web .nil passN0 (pa_cons (pe_call (E := fun _ _ _ => False) G_text (hr.mono (by decide)) rfl (T.gl _ (by decide +kernel)) C_text.kp b_text .nil pass0 (pa_cons (pe_lc (own := [("_law_name_here", 11), ("_law_over", 12)]) (g := gTup K 2 (gCons (gName 11) (gCons (gName 12) (gNil)))) (tt := tYes) (te := tTup (tCons (tVar 11) (tCons (tOp rCat (tRevL K (tVar 12)) (tSl (rSlL K) (tVar 12) tNoPart (tPart (tC (.int 1))))) tNil))) rfl sc_law.nd (pi_list (pv 2)) (blkOk_by (own := [("_law_name_here", 11), ("_law_over", 12)]) (N := N_law) (sc := (defScope s_law)) (by decide +kernel))
    (fun _ _ _ _ _ => (pg_tup rfl (pgs_cons (pg_name (i := 11) sc_law.nd rfl (Or.inl rfl)) (pgs_cons (pg_name (i := 12) sc_law.nd rfl (Or.inl rfl)) pgs_nil)))) (fun _ _ _ _ _ => pts_nil)
    (fun _ _ _ _ _ => (pe_tup (pa_cons (pv 11) (pa_cons (pe_op op_cat (pe_revL (pv 12)) (pe_slice sl_list (pv 12) po_none (po_some pe_int))) pa_nil))))) pa_nil)) pa_nil)))
  (pss_cons (ps_if (PW.pt (pw_or (pt_cmpR (op_neD hru) (pe_call (E := fun _ _ _ => False) G_told (hr.mono (by decide)) rfl (T.gl _ (by decide +kernel)) C_told.kp b_told .nil pass0 (pa_cons (pv 5) pa_nil)) (pv 3) (nomark _)) (pw_or (pt_cmpR op_ne (pe_call (E := fun _ _ _ => False) G_show_web (hr.mono (by decide)) rfl (T.gl _ (by decide +kernel)) C_show_web.kp b_show_web .nil pass0 (pa_cons (pv 5) pa_nil)) (pv 4) (nomark _)) (pw_or1 (pt_cmpR op_ne (pe_call (E := fun _ _ _ => False) G_show_web (hr.mono (by decide)) rfl (T.gl _ (by decide +kernel)) C_show_web.kp b_show_web .nil pass0 (pa_cons (pe_make (E := fun _ _ _ => False) T.wmk G_web (hr.mono (by decide)) rfl (T.gl _ (by decide +kernel)) b_web .nil passN0 (pa_cons (pv 2) pa_nil)) pa_nil)) (pv 4) (nomark _)))))) (pss_one (ps_ret pe_bl)) pss_nil)
  (pss_cons (ps_if (PW.pt (pw_or (pt_cmpR (op_neD hru) (pe_call (E := fun _ _ _ => False) G_read (hr.mono (by decide)) rfl (T.gl _ (by decide +kernel)) C_read.kp b_read .nil pass0 (pa_cons (pv 4) pa_nil)) (pe_tup (pa_cons pe_str (pa_cons (pv 3) pa_nil))) (nomark _)) (pw_or1 (pt_not (pt_val (pe_call (E := fun _ _ _ => False) G_hangs (hr.mono (by decide)) rfl (T.gl _ (by decide +kernel)) C_hangs.kp b_hangs .nil pass0 (pa_cons (pv 5) (pa_cons (pv 2) pa_nil)))))))) (pss_one (ps_ret pe_bl)) pss_nil)
  (pss_cons (ps_for PassesOwn.never rfl (pi_range2 (by rfl) T.f_range (pa_cons pe_int (pa_cons (pe_callB (call_max2 rfl) (by rfl) T.f_max (by decide +kernel) (pa_cons pe_int (pa_cons (pe_callB (call_min2 rfl) (by rfl) T.f_min (by decide +kernel) (pa_cons (pe_callB call_len (by rfl) T.f_len (by decide +kernel) (pa_cons (pv 0) pa_nil)) (pa_cons pe_int pa_nil))) pa_nil))) pa_nil))) (pg_name (i := 6) sc_law.nd rfl (Or.inl rfl))
    (pss_cons (ps_set (i := 7) sc_law.nd rfl (Or.inl rfl) (pe_lst (pa_cons (pe_call (E := fun _ _ _ => False) G_cell (hr.mono (by decide)) rfl (T.gl _ (by decide +kernel)) C_cell.kp b_cell .nil pass0 (pa_cons (pv 0) (pa_cons (pv 6) pa_nil))) (pa_cons (pv 1) pa_nil))))
    (pss_cons (ps_set (i := 8) sc_law.nd rfl (Or.inl rfl) (pe_call (E := fun _ _ _ => False) G_text (hr.mono (by decide)) rfl (T.gl _ (by decide +kernel)) C_text.kp b_text .nil pass0 (pa_cons (pe_call (E := fun _ _ _ => False) G_muddled (hr.mono (by decide)) rfl (T.gl _ (by decide +kernel)) C_muddled.kp b_muddled .nil pass0 (pa_cons (pv 2) (pa_cons (pv 7) pa_nil))) pa_nil)))
    (pss_cons (ps_for PassesOwn.never rfl (pi_range1 (by rfl) T.f_range (pa_cons (pe_call (E := fun _ _ _ => False) G_take (hr.mono (by decide)) rfl (T.gl _ (by decide +kernel)) C_take.kp b_take .nil pass0 (pa_cons (pv 7) (pa_cons pe_int pa_nil))) pa_nil)) (pg_name (i := 9) sc_law.nd rfl (Or.inl rfl))
      (pss_one (ps_set (i := 8) sc_law.nd rfl (Or.inl rfl) (pe_call (E := fun _ _ _ => False) G_spoiled (hr.mono (by decide)) rfl (T.gl _ (by decide +kernel)) C_spoiled.kp b_spoiled .nil pass0 (pa_cons (pv 8) (pa_cons (pv 7) pa_nil))))))
    (pss_cons (ps_set (i := 10) sc_law.nd rfl (Or.inl rfl) (pe_call (E := fun _ _ _ => False) G_due (hr.mono (by decide)) rfl (T.gl _ (by decide +kernel)) C_due.kp b_due .nil pass0 (pa_cons (pv 8) pa_nil)))
    (pss_one (ps_if (PW.pt (pw_or (pt_cmpR (op_neD hru) (pe_call (E := fun _ _ _ => False) G_read (hr.mono (by decide)) rfl (T.gl _ (by decide +kernel)) C_read.kp b_read .nil pass0 (pa_cons (pv 8) pa_nil)) (pv 10) (nomark _)) (pw_or1 (pt_cmpR (op_neD hru) (pe_call (E := fun _ _ _ => False) G_read (hr.mono (by decide)) rfl (T.gl _ (by decide +kernel)) C_read.kp b_read .nil pass0 (pa_cons (pv 8) pa_nil)) (pv 10) (nomark _))))) (pss_one (ps_ret pe_bl)) pss_nil)))))))
  (pss_one (ps_ret (pe_and (pe_cmpR (op_eqD hru) (pe_call (E := fun _ _ _ => False) G_read (hr.mono (by decide)) rfl (T.gl _ (by decide +kernel)) C_read.kp b_read .nil pass0 (pa_cons pe_str pa_nil)) (pe_tup (pa_cons pe_str (pa_cons (pe_lst pa_nil) pa_nil))) (nomark _)) (pe_one (pe_cmpR op_eq (pe_call (E := fun _ _ _ => False) G_show_web (hr.mono (by decide)) rfl (T.gl _ (by decide +kernel)) C_show_web.kp b_show_web .nil pass0 (pa_cons (pe_make (E := fun _ _ _ => False) T.wmk G_web (hr.mono (by decide)) rfl (T.gl _ (by decide +kernel)) b_web .nil passN0 (pa_cons (pe_lst pa_nil) pa_nil)) pa_nil)) pe_str (nomark _))))))))))))))
      , ?_⟩
    -- the way, the tuples
    refine ⟨_, rfl, a, ns, 0, rfl, hS, hl, fun w0 => ⟨w0, 2, rfl, rfl, (by decide : (0 : Int) < 2), ?_⟩⟩
    dsimp only [gName]
    generalize w0 % 2 = way
    refine ⟨_, rfl, _, rfl, a, ns, 1, way, rfl, hS, hl, fun ts vt H1 hG e1 hT => ?_⟩
    dsimp only [gName]
    have hS1 := ex_l e1 hS
    -- the plain ones
    have hT' := hT
    obtain ⟨at_, vts, rfl, hat, hAt⟩ := hT'
    have len6 := hG.len
    refine q_cut (M := fun σ' H' => ∃ vp, σ' = [some (.ref a), some (.int way), some (.ref at_), some vp, none, none, none, none, none, none, none, none, none] ∧ Ex H1 H' ∧ Tws (mapO sset ts) vp H') ?_ ?_
    · refine use_p (en_lcTR (R := Tw) (fun _ _ _ _ => Tw.mono) hAt (fun t => (t.1, sset t.2)) (ev_var rfl) (SqL.of hat) (by omega) fun t v H2 ht e2 r Q' k => ?_) fun vp H2 e2 hv => ⟨vp, rfl, e2, hv⟩
      obtain ⟨p, o, rfl, h1, h2⟩ := r
      refine ⟨p, _, rfl, SqT.of h1, rfl, _, _, rfl, _, _, rfl, rfl, k _ rfl fun Q2 q2 => ?_⟩
      have := hG.olen t ht
      refine ⟨_, rfl, _, rfl, o, t.2, rfl, SqL.of h2, by omega, fun ys p6 hpm hso hp6 => ⟨sz2, fun u hu => q2 _ _ ((Ex.new hp6).trans (Ex.new hu)) fun M hM => ⟨u, p6, rfl, fun m => ?_, fun m => ?_, upd_same, ?_⟩⟩⟩
      · have h := (hM u m).2
        cases hh : H2 u with
        | none => exact h hh
        | some ob => rw [Ex.new hp6 u ob hh] at hu; cases hu
      · exact (hM p6 m).2 hp6
      · have e : ys = sset t.2 := is_sset_n hso hpm (hG.ond t ht)
        have ne : p6 ≠ u := fun z => by rw [← z, upd_same] at hu; cases hu
        rw [upd_ne ne, upd_same, e]
    rintro σ1 H2 ⟨vp, rfl, e2, hTp⟩
    have szp : SzN 6 6 (mapO sset ts) := szn_good hG same_sset fun t ht => Nat.le_trans (sset_len _) (hG.olen t ht)
    refine q_asg (v := .str (txW (mapO sset ts))) (ev_call (ea_cons (ev_var rfl) ea_nil) fun H3 e3 Q q E => ⟨vp, _, rfl, hTp.mono e3, szp.up (by decide) (by decide), fun H4 e4 => q H4 e4⟩) fun H3 e3 => ?_
    have E3 := e2.trans e3
    have hat3 := E3 at_ _ hat
    have hAt3 : All2 Tw ts vts H3 := hAt.imp fun _ _ k => k.mono E3
    have szd : SzN 6 7 (mapO dblO ts) := szn_good hG same_dbl fun t ht => Nat.le_trans (dbl_len _) (by have := hG.olen t ht; omega)
    have smd : Small (txW (mapO dblO ts)) := small_txW szd (by decide) (by decide)
    -- the web
    refine q_cut (M := fun σ' H' => ∃ vw, σ' = [some (.ref a), some (.int way), some (.ref at_), some vp, some (.str (txW (mapO sset ts))), some vw, none, none, none, none, none, none, none] ∧ Ex H3 H' ∧ WebV K (mapO sset ts) vw H') ?_ ?_
    · refine use_p (ep_readweb (us := mapO sset ts) (ev_textP (us := mapO dblO ts) (en_lcTR (R := Tw) (fun _ _ _ _ => Tw.mono) hAt3 (fun t => (t.1, dblO t.2)) (ev_var rfl) (SqL.of hat3) (by omega) fun t v H4 ht e4 r Q' k => ?_) (szd.up (by decide) (by decide))) smd (due_good hG same_dbl)) fun vw H4 e4 hW => ⟨vw, rfl, e4, hW⟩
      obtain ⟨p, o, rfl, h1, h2⟩ := r
      refine ⟨p, _, rfl, SqT.of h1, rfl, _, _, rfl, _, _, rfl, rfl, k _ rfl fun Q2 q2 => ?_⟩
      have := hG.olen t ht
      refine ⟨_, rfl, _, rfl, o, _, rfl, SqL.of h2, fun p1 hp1 => ⟨_, rfl, 1, rfl, o, _, rfl, SqL.of (Ex.new hp1 o _ h2), fun p2 hp2 => ?_⟩⟩
      have c1 : cutV (t.2.map V.str) none (some (1 : Int)) = (t.2.take 1).map V.str := by
        rw [List.map_take]
        exact cutV_L _ 1
      rw [c1]
      have n12 : p1 ≠ p2 := fun z => by rw [← z, upd_same] at hp2; cases hp2
      refine ⟨p1, p2, _, _, rfl, rfl, by rw [upd_ne n12]; exact upd_same, upd_same, ?_, fun p6 hp6 => ⟨sz2, fun u hu => q2 _ _ ?_ fun M hM => ⟨u, p6, rfl, fun m => ?_, fun m => ?_, upd_same, ?_⟩⟩⟩
      · rw [List.length_reverse, List.length_map, List.length_map, List.length_take]
        exact sz_of (by omega)
      · exact (((Ex.new hp1).trans (Ex.new hp2)).trans (Ex.new hp6)).trans (Ex.new hu)
      · have h := (hM u m).2
        cases hh : H4 u with
        | none => exact h hh
        | some ob => rw [((Ex.new hp1).trans ((Ex.new hp2).trans (Ex.new hp6))) u ob hh] at hu; cases hu
      · have h := (hM p6 m).2
        cases hh : H4 p6 with
        | none => exact h hh
        | some ob => rw [((Ex.new hp1).trans (Ex.new hp2)) p6 ob hh] at hp6; cases hp6
      · have ne : p6 ≠ u := fun z => by rw [← z, upd_same] at hu; cases hu
        rw [upd_ne ne, upd_same, List.map_append, List.map_reverse]
    rintro σ2 H4 ⟨vw, rfl, e4, hW⟩
    have E4 := E3.trans e4
    have hT4 : Tws ts (.ref at_) H4 := hT.mono E4
    have hTp4 : Tws (mapO sset ts) vp H4 := hTp.mono (e3.trans e4)
    have hS4 := ex_l E4 hS1
    have okp : ∀ t ∈ mapO sset ts, okT t := fun t ht => (szp.m t ht).ok
    have szt : SzN 6 6 ts := by
      have := szn_good hG same_id (b := 6) hG.olen
      rw [mapO_id] at this
      exact this
    have vts' : verdict ts = .told (mapO sset ts) := by
      have := verdict_good hG same_id
      rw [mapO_id] at this
      exact this
    refine q_when (b := false) (et_is (et_or (a := false) (b := false) (et_is (et_test (ev_neTs (ep_told (ev_var rfl) hW) (fun _ _ => ev_var rfl) hTp4 okp okp)) (by rw [decide_eq_true rfl] <;> rfl)) fun _ => et_is (et_or (a := false) (b := false) (et_is (et_test (ev_op (ev_showP (ep_var rfl fun H' e => hW.mono e)) (ev_var rfl) (rv_ne rfl))) (by rw [decide_eq_true rfl] <;> rfl))
      fun _ => et_is (et_test (ev_op (ev_showP (ep_make (ep_var rfl fun H' e => hT4.mono e) (szt.up (by decide) (by decide)) vts')) (ev_var rfl) (rv_ne rfl))) (by rw [decide_eq_true rfl] <;> rfl)) rfl) rfl) (fun h => by cases h) fun _ H5 e5 => ?_
    have W5 := hW.mono e5
    have T5 := hT4.mono e5
    have Tp5 := hTp4.mono e5
    have smp : Small (txW (mapO sset ts)) := small_txW szp (by decide) (by decide)
    refine q_when (b := false) (et_is (et_or (a := false) (b := false) (et_is (et_test (ev_neR (ep_read (ev_var rfl) smp) (fun H1 e => ep_toldT (ep_var rfl fun H' e' => (Tp5.mono e).mono e')) (due_ok _) okp)) (by rw [due_good hG same_sset, decide_eq_true rfl] <;> rfl)) fun _ => et_is (et_not (et_B (ev_call (z := .bl true) (ea_cons (ev_var rfl) (ea_cons (ev_var rfl) ea_nil)) fun H6 e6 Q q E =>
      ⟨vw, .ref at_, mapO sset ts, ts, rfl, W5.mono e6, cl_good hG same_sset, T5.mono e6, szt.up (by decide) (by decide), hG.nd, (by have := cl_good hG same_id; rw [mapO_id] at this; exact this), nms_mapO _ _, fun a b => stq_mapO same_sset ts a b, fun H7 e7 => q H7 e7⟩))) rfl) rfl) (fun h => by cases h) fun _ H6 e6 => ?_
    have W6 := W5.mono e6
    have T6 := T5.mono e6
    have Tp6 := Tp5.mono e6
    have S6 := ex_l (e5.trans e6) hS4
    clear e1 e2 e3 e4 e5 e6
    -- the spoiled ones
    refine q_forR2 (lo := 8) (n := if (if (24 : Int) < ((ns.map V.int).length : Nat) then (24 : Int) else ((ns.map V.int).length : Nat)) > 9 then (if (24 : Int) < ((ns.map V.int).length : Nat) then (24 : Int) else ((ns.map V.int).length : Nat)) else 9)
      (ea_cons ev_c (ea_cons (ev_max2 ev_c (ev_cb (ea_cons (ev_cb1 (z := .int ((ns.map V.int).length : Nat)) (ev_var rfl) fun H1 e _ q => ⟨_, (ns.map V.int).length, rfl, .inl ⟨_, ex_l e S6, rfl⟩, q H1 (Ex.refl H1)⟩) (ea_cons ev_c ea_nil)) fun H1 e _ q => ⟨_, _, rfl, q H1 (Ex.refl H1)⟩)) ea_nil)) ?_
      (fun i σ' H' => ∃ (x6 x7 x8 x9 x10 x11 x12 : Option V), σ' = [some (.ref a), some (.int way), some (.ref at_), some vp, some (.str (txW (mapO sset ts))), some vw, x6, x7, x8, x9, x10, x11, x12] ∧ Ex H6 H') (fun H' e => ⟨_, _, _, _, _, _, _, rfl, e⟩) (fun i0 σ' H' hi p => ?_) (fun σ' H' p => ?_)
    · refine ⟨by decide, by decide, ?_, ?_⟩
      · split <;> split <;> omega
      · split <;> split <;> omega
    · obtain ⟨x6, x7, x8, x9, x10, x11, x12, rfl, e7⟩ := p
      refine ⟨_, rfl, _, rfl, a, ns, 8 + i0, congrArg (fun z => [V.ref a, V.int z]) (by omega), ex_l e7 S6, hl, fun c => ⟨_, rfl, sz2, fun p hp => ?_⟩⟩
      dsimp only [gName]
      have hp6 : H6 p = none := fresh_back e7 hp
      have e8 : Ex H6 (upd H' p (.lst [.int c, .int way])) := e7.trans (Ex.new hp)
      have hP8 : Purse p (upd H' p (.lst [.int c, .int way])) := ⟨[c, way], upd_same, .inl rfl⟩
      generalize upd H' p (.lst [.int c, .int way]) = H8 at e8 hP8 ⊢
      refine ⟨_, rfl, _, rfl, .ref at_, ts, p, rfl, twsX_of T6 hp6 e8, szt, hP8, fun us u H9 hz9 eX9 hP9 hT9 => ⟨u, us, rfl, hT9, hz9.up (by decide) (by decide), fun H10 e10 => ?_⟩⟩
      dsimp only [gName]
      have e10' : Ex H6 H10 := (ex_skip hp6 e8 eX9).trans e10
      have hP10 : Purse p H10 := hP9.mono e10
      have sb : SmallB 574 7 49 (txW us) := smallB_txW hz9
      refine ⟨_, rfl, p, 3, rfl, hP10, by decide, by decide, fun r H11 hr0 hr3 eX11 hP11 => ⟨r, rfl, by omega, by omega, for_range (lo := 0) (n := r.toNat) (fun i σ' H' => ∃ (z : Str) (x9 : Option V), σ' = [some (.ref a), some (.int way), some (.ref at_), some vp, some (.str (txW (mapO sset ts))), some vw, some (.int (8 + (i0 : Int))), some (.ref p), some (.str z), x9, x10, x11, x12] ∧ Ex H6 H' ∧ Purse p H' ∧ SmallB (574 + 8 * i) (7 + i) (49 + i) z)
        ⟨txW us, x9, rfl, ex_skip hp6 e10' eX11, hP11, sb⟩ (fun j σ' H' hj p' => ?_) (fun σ' H' p' => ?_)⟩⟩
      · obtain ⟨z, x9, rfl, e12, hP12, hz12⟩ := p'
        dsimp only [gName]
        refine ⟨_, rfl, _, rfl, z, p, _, _, _, rfl, hz12, by omega, hP12, fun y H13 hy eX13 hP13 => ⟨y, _, rfl, ex_skip hp6 e12 eX13, hP13, ?_⟩⟩
        rw [show 574 + 8 * (j + 1) = 574 + 8 * j + 8 by omega, show 7 + (j + 1) = 7 + j + 1 by omega, show 49 + (j + 1) = 49 + j + 1 by omega]
        exact hy
      · obtain ⟨z, x9, rfl, e12, hP12, hz12⟩ := p'
        have sm : Small z := hz12.small (by omega) (by omega) (by omega)
        refine ⟨_, rfl, z, rfl, sm, fun vd H13 e13 hv => ?_⟩
        dsimp only [gName]
        refine s_when (b := false) (et_is (et_or (a := false) (b := false) (et_is (et_test (ev_neR (ep_read (ev_var rfl) sm) (fun H1 e => ep_var rfl fun H' e' => (hv.mono e).mono e') (due_ok _) (due_ok _))) (by rw [decide_eq_true rfl] <;> rfl)) fun _ => et_is (et_test (ev_neR (ep_read (ev_var rfl) sm) (fun H1 e => ep_var rfl fun H' e' => (hv.mono e).mono e') (due_ok _) (due_ok _))) (by rw [decide_eq_true rfl] <;> rfl)) rfl) (fun h => by cases h) fun _ H14 e14 => ⟨_, _, _, _, _, _, _, rfl, (e12.trans e13).trans e14⟩
    · obtain ⟨x6, x7, x8, x9, x10, x11, x12, rfl, e7⟩ := p
      refine s_ret (ev_is (ev_andV (a := true) (b := true) (ev_is (ev_eqR (ep_read ev_c small_empty) (fun H1 e => ep_toldT (ts := []) fun H2 e2 Q q => ⟨sz0, fun l hl => q _ _ (Ex.new hl) ⟨l, [], rfl, upd_same, All2.nil⟩⟩) (due_ok _) (fun t ht => (List.not_mem_nil ht).elim)) (by rw [due_empty, decide_eq_true rfl])) fun _ => ev_is (ev_op (ev_showP (us := []) (ep_make (ts := []) (fun H2 e2 Q q => ⟨sz0, fun l hl => q _ _ (Ex.new hl) ⟨l, [], rfl, upd_same, All2.nil⟩⟩) ⟨by decide, fun t ht => (List.not_mem_nil ht).elim, fun t ht => (List.not_mem_nil ht).elim⟩ rfl)) ev_c (rv_eq rfl)) (congrArg V.bl (decide_eq_true rfl))) rfl) fun H8 e8 => q H8
end
end Wt

-- WtEnd
set_option maxHeartbeats 2000000
namespace Wt
open PySem PySem.Spec PyProof.Rows L2 Evl
theorem facts {P : Program} {w : World} {K : PySem.W.Frag} {h : Heap} {mg : Str → Option Value} {f : Addr} (X : K.In h) (G : h.Ns mainGlobals mg) (hfa : mg ("law" : Str) = some (.ref f)) (c : Says fa fn K) :
    ∃ fd : FuncData, (∀ (s : Shared) (v : Value), BindsTo s fd ⟨[v], []⟩ [("_law_script", v)]) ∧ ∀ base : Heap, K.In base → base.Ns mainGlobals mg → FnOk P w K mg base CX0 9 f fd ["_law_script"] (sp_law K) := by
  have T : Txt K mg := txt_of X G c
  have e := hfa.symm.trans (T.gl "law" (by decide +kernel))
  cases e
  obtain ⟨fd_law, F_law⟩ := c.2.def_ 36 (d := d_law) rfl
  have b := FunD.bindsA (ps := ["_law_script"]) F_law fun _ _ _ _ _ _ us hl => match us, hl with | [_], _ => rfl
  refine ⟨fd_law, fun s v => b s [v] rfl, fun base _ _ => ?_⟩
  obtain ⟨fd__law_cell, F__law_cell⟩ := c.2.def_ 18 (d := d__law_cell) rfl
  have B__law_cell : Binds K fd__law_cell ["_law_script", "_law_k"] [] := FunD.bindsN (ps := ["_law_script", "_law_k"]) F__law_cell fun _ _ _ _ _ _ us hl => match us, hl with | [_, _], _ => rfl
  have V__law_cell : Fok P w K mg base CX0 1 (He.ga K "_law_cell") P__law_cell (sp_cell K) := ⟨⟨fd__law_cell, ok_cell T  F__law_cell, B__law_cell⟩, F__law_cell.kp⟩
  obtain ⟨fd__law_take, F__law_take⟩ := c.2.def_ 19 (d := d__law_take) rfl
  have B__law_take : Binds K fd__law_take ["_law_purse", "_law_many"] [] := FunD.bindsN (ps := ["_law_purse", "_law_many"]) F__law_take fun _ _ _ _ _ _ us hl => match us, hl with | [_, _], _ => rfl
  have V__law_take : Fok P w K mg base CX0 1 (He.ga K "_law_take") P__law_take sp_take := ⟨⟨fd__law_take, ok_take T  F__law_take, B__law_take⟩, F__law_take.kp⟩
  obtain ⟨fd__law_name, F__law_name⟩ := c.2.def_ 20 (d := d__law_name) rfl
  have B__law_name : Binds K fd__law_name ["_law_purse"] [] := FunD.bindsN (ps := ["_law_purse"]) F__law_name fun _ _ _ _ _ _ us hl => match us, hl with | [_], _ => rfl
  have V__law_name : Fok P w K mg base CX0 2 (He.ga K "_law_name") P__law_name sp_name := ⟨⟨fd__law_name, ok_name (f1 := He.ga K "law") T V__law_take F__law_name, B__law_name⟩, F__law_name.kp⟩
  obtain ⟨fd__law_tuples, F__law_tuples⟩ := c.2.def_ 21 (d := d__law_tuples) rfl
  have B__law_tuples : Binds K fd__law_tuples ["_law_script", "_law_start", "_law_way"] [] := FunD.bindsN (ps := ["_law_script", "_law_start", "_law_way"]) F__law_tuples fun _ _ _ _ _ _ us hl => match us, hl with | [_, _, _], _ => rfl
  have V__law_tuples : Fok P w K mg base CX0 3 (He.ga K "_law_tuples") P__law_tuples (sp_tuples K) := ⟨⟨fd__law_tuples, ok_tuples T V__law_cell V__law_take V__law_name F__law_tuples, B__law_tuples⟩, F__law_tuples.kp⟩
  obtain ⟨fd__law_text, F__law_text⟩ := c.2.def_ 23 (d := d__law_text) rfl
  have B__law_text : Binds K fd__law_text ["_law_tuples_here"] [] := FunD.bindsN (ps := ["_law_tuples_here"]) F__law_text fun _ _ _ _ _ _ us hl => match us, hl with | [_], _ => rfl
  have V__law_text : Fok P w K mg base CX0 1 (He.ga K "_law_text") P__law_text sp_text := ⟨⟨fd__law_text, ok_text T  F__law_text, B__law_text⟩, F__law_text.kp⟩
  obtain ⟨fd_is_name, F_is_name⟩ := c.2.def_ 1 (d := d_is_name) rfl
  have B_is_name : Binds K fd_is_name ["thing"] [] := FunD.bindsN (ps := ["thing"]) F_is_name fun _ _ _ _ _ _ us hl => match us, hl with | [_], _ => rfl
  have V_is_name : Fok P w K mg base CX0 1 (He.ga K "is_name") P_is_name sp_nm := ⟨⟨fd_is_name, ok_is_name T  F_is_name, B_is_name⟩, F_is_name.kp⟩
  obtain ⟨fd_read_name, F_read_name⟩ := c.2.def_ 12 (d := d_read_name) rfl
  have B_read_name : Binds K fd_read_name ["text"] [] := FunD.bindsN (ps := ["text"]) F_read_name fun _ _ _ _ _ _ us hl => match us, hl with | [_], _ => rfl
  have V_read_name : Fok P w K mg base (L2N.CX P w) 2 (He.ga K "read_name") P_read_name (sp_rname K) := ⟨⟨fd_read_name, ok_rname T V_is_name F_read_name, B_read_name⟩, F_read_name.kp⟩
  obtain ⟨fd_read_over, F_read_over⟩ := c.2.def_ 13 (d := d_read_over) rfl
  have B_read_over : Binds K fd_read_over ["text"] [] := FunD.bindsN (ps := ["text"]) F_read_over fun _ _ _ _ _ _ us hl => match us, hl with | [_], _ => rfl
  have V_read_over : Fok P w K mg base (L2N.CX P w) 3 (He.ga K "read_over") P_read_over (sp_rover K) := ⟨⟨fd_read_over, ok_rover T V_read_name F_read_over, B_read_over⟩, F_read_over.kp⟩
  obtain ⟨fd_read_tuple, F_read_tuple⟩ := c.2.def_ 14 (d := d_read_tuple) rfl
  have B_read_tuple : Binds K fd_read_tuple ["text"] [] := FunD.bindsN (ps := ["text"]) F_read_tuple fun _ _ _ _ _ _ us hl => match us, hl with | [_], _ => rfl
  have V_read_tuple : Fok P w K mg base (L2N.CX P w) 4 (He.ga K "read_tuple") P_read_tuple (sp_rtuple K) := ⟨⟨fd_read_tuple, ok_rtuple T V_read_name V_read_over F_read_tuple, B_read_tuple⟩, F_read_tuple.kp⟩
  obtain ⟨fd_look_at_names, F_look_at_names⟩ := c.2.def_ 2 (d := d_look_at_names) rfl
  have B_look_at_names : Binds K fd_look_at_names ["tuples"] [] := FunD.bindsN (ps := ["tuples"]) F_look_at_names fun _ _ _ _ _ _ us hl => match us, hl with | [_], _ => rfl
  have V_look_at_names : Fok P w K mg base (L2N.CX P w) 2 (He.ga K "look_at_names") P_look_at_names (sp_look K) := ⟨⟨fd_look_at_names, ok_look T V_is_name F_look_at_names, B_look_at_names⟩, F_look_at_names.kp⟩
  obtain ⟨fd_in_rings, F_in_rings⟩ := c.2.def_ 3 (d := d_in_rings) rfl
  have B_in_rings : Binds K fd_in_rings ["uppers"] [] := FunD.bindsN (ps := ["uppers"]) F_in_rings fun _ _ _ _ _ _ us hl => match us, hl with | [_], _ => rfl
  have V_in_rings : Fok P w K mg base CX0 1 (He.ga K "in_rings") P_in_rings sp_in_rings := ⟨⟨fd_in_rings, ok_in_rings T  F_in_rings, B_in_rings⟩, F_in_rings.kp⟩
  obtain ⟨fd_Ring_init, F_Ring_init⟩ := c.2.def_ 0 (d := d_Ring_init) rfl
  have B_Ring_init : Binds K fd_Ring_init ["self", "ring"] [] := FunD.bindsN (ps := ["self", "ring"]) F_Ring_init fun _ _ _ _ _ _ us hl => match us, hl with | [_, _], _ => rfl
  have V_Ring_init : Fok P w K mg base CX0 1 (He.ma K (He.ga K "Ring") "__init__") P_Ring_init (sp_ring_init K) := ⟨⟨fd_Ring_init, ok_ring_init T  F_Ring_init, B_Ring_init⟩, F_Ring_init.kp⟩
  obtain ⟨fd_look_for_rings, F_look_for_rings⟩ := c.2.def_ 4 (d := d_look_for_rings) rfl
  have B_look_for_rings : Binds K fd_look_for_rings ["uppers"] [] := FunD.bindsN (ps := ["uppers"]) F_look_for_rings fun _ _ _ _ _ _ us hl => match us, hl with | [_], _ => rfl
  have V_look_for_rings : Fok P w K mg base (L2N.CX P w) 4 (He.ga K "look_for_rings") P_look_for_rings (sp_lfr K) := ⟨⟨fd_look_for_rings, ok_lfr T V_in_rings V_Ring_init F_look_for_rings, B_look_for_rings⟩, F_look_for_rings.kp⟩
  obtain ⟨fd_Web_init, F_Web_init⟩ := c.2.def_ 5 (d := d_Web_init) rfl
  have B_Web_init : Binds K fd_Web_init ["self", "tuples"] [] := FunD.bindsN (ps := ["self", "tuples"]) F_Web_init fun _ _ _ _ _ _ us hl => match us, hl with | [_, _], _ => rfl
  have V_Web_init : Fok P w K mg base (L2N.CX P w) 5 (He.ma K (He.ga K "Web") "__init__") P_Web_init (sp_web_init K) := ⟨⟨fd_Web_init, ok_web_init T V_look_at_names V_look_for_rings F_Web_init, B_Web_init⟩, F_Web_init.kp⟩
  obtain ⟨fd_read_web, F_read_web⟩ := c.2.def_ 15 (d := d_read_web) rfl
  have B_read_web : Binds K fd_read_web ["text"] [] := FunD.bindsN (ps := ["text"]) F_read_web fun _ _ _ _ _ _ us hl => match us, hl with | [_], _ => rfl
  have V_read_web : Fok P w K mg base (L2N.CX P w) 7 (He.ga K "read_web") P_read_web (sp_read_web K) := ⟨⟨fd_read_web, ok_read_web T V_read_tuple V_Web_init F_read_web, B_read_web⟩, F_read_web.kp⟩
  obtain ⟨fd_Web_names, F_Web_names⟩ := c.2.def_ 6 (d := d_Web_names) rfl
  have B_Web_names : Binds K fd_Web_names ["self"] [] := FunD.bindsN (ps := ["self"]) F_Web_names fun _ _ _ _ _ _ us hl => match us, hl with | [_], _ => rfl
  have V_Web_names : Fok P w K mg base CX0 1 (He.ma K (He.ga K "Web") "names") P_Web_names (sp_names K) := ⟨⟨fd_Web_names, ok_names T  F_Web_names, B_Web_names⟩, F_Web_names.kp⟩
  obtain ⟨fd_Web_over, F_Web_over⟩ := c.2.def_ 7 (d := d_Web_over) rfl
  have B_Web_over : Binds K fd_Web_over ["self", "name"] [] := FunD.bindsN (ps := ["self", "name"]) F_Web_over fun _ _ _ _ _ _ us hl => match us, hl with | [_, _], _ => rfl
  have V_Web_over : Fok P w K mg base CX0 1 (He.ma K (He.ga K "Web") "over") P_Web_over (sp_over K) := ⟨⟨fd_Web_over, ok_over T  F_Web_over, B_Web_over⟩, F_Web_over.kp⟩
  obtain ⟨fd__law_told, F__law_told⟩ := c.2.def_ 32 (d := d__law_told) rfl
  have B__law_told : Binds K fd__law_told ["_law_web"] [] := FunD.bindsN (ps := ["_law_web"]) F__law_told fun _ _ _ _ _ _ us hl => match us, hl with | [_], _ => rfl
  have V__law_told : Fok P w K mg base CX0 2 (He.ga K "_law_told") P__law_told (sp_told K) := ⟨⟨fd__law_told, ok_told T V_Web_names V_Web_over F__law_told, B__law_told⟩, F__law_told.kp⟩
  obtain ⟨fd_show_tuple, F_show_tuple⟩ := c.2.def_ 16 (d := d_show_tuple) rfl
  have B_show_tuple : Binds K fd_show_tuple ["web", "name"] [] := FunD.bindsN (ps := ["web", "name"]) F_show_tuple fun _ _ _ _ _ _ us hl => match us, hl with | [_, _], _ => rfl
  have V_show_tuple : Fok P w K mg base CX0 2 (He.ga K "show_tuple") P_show_tuple (sp_show_tuple K) := ⟨⟨fd_show_tuple, ok_show_tuple T V_Web_over F_show_tuple, B_show_tuple⟩, F_show_tuple.kp⟩
  obtain ⟨fd_show_web, F_show_web⟩ := c.2.def_ 17 (d := d_show_web) rfl
  have B_show_web : Binds K fd_show_web ["web"] [] := FunD.bindsN (ps := ["web"]) F_show_web fun _ _ _ _ _ _ us hl => match us, hl with | [_], _ => rfl
  have V_show_web : Fok P w K mg base CX0 3 (He.ga K "show_web") P_show_web (sp_show_web K) := ⟨⟨fd_show_web, ok_show_web T V_Web_names V_show_tuple F_show_web, B_show_web⟩, F_show_web.kp⟩
  obtain ⟨fd__law_word_of, F__law_word_of⟩ := c.2.def_ 31 (d := d__law_word_of) rfl
  have B__law_word_of : Binds K fd__law_word_of ["_law_e"] [] := FunD.bindsN (ps := ["_law_e"]) F__law_word_of fun _ _ _ _ _ _ us hl => match us, hl with | [_], _ => rfl
  have V__law_word_of : FokP P w K mg base CX0 1 (He.ga K "_law_word_of") P__law_word_of (sp_word_of K) := ⟨⟨fd__law_word_of, ok_word_of T  F__law_word_of, B__law_word_of⟩, F__law_word_of.kp⟩
  obtain ⟨fd__law_read, F__law_read⟩ := c.2.def_ 33 (d := d__law_read) rfl
  have B__law_read : Binds K fd__law_read ["_law_text_here"] [] := FunD.bindsN (ps := ["_law_text_here"]) F__law_read fun _ _ _ _ _ _ us hl => match us, hl with | [_], _ => rfl
  have V__law_read : Fok P w K mg base CX0 8 (He.ga K "_law_read") P__law_read sp_read := ⟨⟨fd__law_read, ok_read T V__law_told V_read_web V__law_word_of F__law_read, B__law_read⟩, F__law_read.kp⟩
  obtain ⟨fd_Web_above, F_Web_above⟩ := c.2.def_ 8 (d := d_Web_above) rfl
  have B_Web_above : Binds K fd_Web_above ["self", "name"] [] := FunD.bindsN (ps := ["self", "name"]) F_Web_above fun _ _ _ _ _ _ us hl => match us, hl with | [_, _], _ => rfl
  have V_Web_above : Fok P w K mg base CX0 1 (He.ma K (He.ga K "Web") "above") P_Web_above (sp_above K) := ⟨⟨fd_Web_above, ok_above T  F_Web_above, B_Web_above⟩, F_Web_above.kp⟩
  obtain ⟨fd_Web_chain, F_Web_chain⟩ := c.2.def_ 9 (d := d_Web_chain) rfl
  have B_Web_chain : Binds K fd_Web_chain ["self", "one", "other"] [] := FunD.bindsN (ps := ["self", "one", "other"]) F_Web_chain fun _ _ _ _ _ _ us hl => match us, hl with | [_, _, _], _ => rfl
  have V_Web_chain : Fok P w K mg base CX0 2 (He.ma K (He.ga K "Web") "chain") P_Web_chain (sp_chain K) := ⟨⟨fd_Web_chain, ok_chain T V_Web_above F_Web_chain, B_Web_chain⟩, F_Web_chain.kp⟩
  obtain ⟨fd_Web_beneath, F_Web_beneath⟩ := c.2.def_ 10 (d := d_Web_beneath) rfl
  have B_Web_beneath : Binds K fd_Web_beneath ["self", "one", "other"] [] := FunD.bindsN (ps := ["self", "one", "other"]) F_Web_beneath fun _ _ _ _ _ _ us hl => match us, hl with | [_, _, _], _ => rfl
  have V_Web_beneath : Fok P w K mg base CX0 2 (He.ma K (He.ga K "Web") "beneath") P_Web_beneath (sp_beneath K) := ⟨⟨fd_Web_beneath, ok_beneath T V_Web_above F_Web_beneath, B_Web_beneath⟩, F_Web_beneath.kp⟩
  obtain ⟨fd_Web_tops, F_Web_tops⟩ := c.2.def_ 11 (d := d_Web_tops) rfl
  have B_Web_tops : Binds K fd_Web_tops ["self", "names"] [] := FunD.bindsN (ps := ["self", "names"]) F_Web_tops fun _ _ _ _ _ _ us hl => match us, hl with | [_, _], _ => rfl
  have V_Web_tops : Fok P w K mg base CX0 3 (He.ma K (He.ga K "Web") "tops") P_Web_tops (sp_tops K) := ⟨⟨fd_Web_tops, ok_tops T V_Web_beneath F_Web_tops, B_Web_tops⟩, F_Web_tops.kp⟩
  obtain ⟨fd__law_ups, F__law_ups⟩ := c.2.def_ 22 (d := d__law_ups) rfl
  have B__law_ups : Binds K fd__law_ups ["_law_tuples_here"] [] := FunD.bindsN (ps := ["_law_tuples_here"]) F__law_ups fun _ _ _ _ _ _ us hl => match us, hl with | [_], _ => rfl
  have V__law_ups : Fok P w K mg base CX0 1 (He.ga K "_law_ups") P__law_ups (sp_ups K) := ⟨⟨fd__law_ups, ok_ups T  F__law_ups, B__law_ups⟩, F__law_ups.kp⟩
  obtain ⟨fd__law_is_chain, F__law_is_chain⟩ := c.2.def_ 34 (d := d__law_is_chain) rfl
  have B__law_is_chain : Binds K fd__law_is_chain ["_law_way", "_law_one", "_law_other", "_law_over"] [] := FunD.bindsN (ps := ["_law_way", "_law_one", "_law_other", "_law_over"]) F__law_is_chain fun _ _ _ _ _ _ us hl => match us, hl with | [_, _, _, _], _ => rfl
  have V__law_is_chain : Fok P w K mg base CX0 1 (He.ga K "_law_is_chain") P__law_is_chain (sp_is_chain K) := ⟨⟨fd__law_is_chain, ok_is_chain T  F__law_is_chain, B__law_is_chain⟩, F__law_is_chain.kp⟩
  obtain ⟨fd__law_hangs, F__law_hangs⟩ := c.2.def_ 35 (d := d__law_hangs) rfl
  have B__law_hangs : Binds K fd__law_hangs ["_law_web", "_law_tuples_here"] [] := FunD.bindsN (ps := ["_law_web", "_law_tuples_here"]) F__law_hangs fun _ _ _ _ _ _ us hl => match us, hl with | [_, _], _ => rfl
  have V__law_hangs : Fok P w K mg base CX0 4 (He.ga K "_law_hangs") P__law_hangs (sp_hangs K) := ⟨⟨fd__law_hangs, ok_hangs T V_Web_chain V_Web_beneath V_Web_tops V__law_ups V__law_is_chain F__law_hangs, B__law_hangs⟩, F__law_hangs.kp⟩
  obtain ⟨fd__law_muddled, F__law_muddled⟩ := c.2.def_ 29 (d := d__law_muddled) rfl
  have B__law_muddled : Binds K fd__law_muddled ["_law_tuples_here", "_law_purse"] [] := FunD.bindsN (ps := ["_law_tuples_here", "_law_purse"]) F__law_muddled fun _ _ _ _ _ _ us hl => match us, hl with | [_, _], _ => rfl
  have V__law_muddled : Fok P w K mg base CX0 3 (He.ga K "_law_muddled") P__law_muddled sp_muddled := ⟨⟨fd__law_muddled, ok_muddled T V__law_take V__law_name F__law_muddled, B__law_muddled⟩, F__law_muddled.kp⟩
  obtain ⟨fd__law_spoiled, F__law_spoiled⟩ := c.2.def_ 30 (d := d__law_spoiled) rfl
  have B__law_spoiled : Binds K fd__law_spoiled ["_law_text_here", "_law_purse"] [] := FunD.bindsN (ps := ["_law_text_here", "_law_purse"]) F__law_spoiled fun _ _ _ _ _ _ us hl => match us, hl with | [_, _], _ => rfl
  have V__law_spoiled : Fok P w K mg base CX0 2 (He.ga K "_law_spoiled") P__law_spoiled sp_spoiled := ⟨⟨fd__law_spoiled, ok_spoiled T V__law_take F__law_spoiled, B__law_spoiled⟩, F__law_spoiled.kp⟩
  obtain ⟨fd__law_word_at, F__law_word_at⟩ := c.2.def_ 25 (d := d__law_word_at) rfl
  have B__law_word_at : Binds K fd__law_word_at ["_law_text_here", "_law_at"] [] := FunD.bindsN (ps := ["_law_text_here", "_law_at"]) F__law_word_at fun _ _ _ _ _ _ us hl => match us, hl with | [_, _], _ => rfl
  have V__law_word_at : Fok P w K mg base CX0 1 (He.ga K "_law_word_at") P__law_word_at sp_word_at := ⟨⟨fd__law_word_at, ok_word_at T  F__law_word_at, B__law_word_at⟩, F__law_word_at.kp⟩
  obtain ⟨fd__law_is_name, F__law_is_name⟩ := c.2.def_ 24 (d := d__law_is_name) rfl
  have B__law_is_name : Binds K fd__law_is_name ["_law_text_here"] [] := FunD.bindsN (ps := ["_law_text_here"]) F__law_is_name fun _ _ _ _ _ _ us hl => match us, hl with | [_], _ => rfl
  have V__law_is_name : Fok P w K mg base CX0 1 (He.ga K "_law_is_name") P__law_is_name sp_lnm := ⟨⟨fd__law_is_name, ok_lnm T  F__law_is_name, B__law_is_name⟩, F__law_is_name.kp⟩
  obtain ⟨fd__law_tuples_of, F__law_tuples_of⟩ := c.2.def_ 26 (d := d__law_tuples_of) rfl
  have B__law_tuples_of : Binds K fd__law_tuples_of ["_law_text_here"] [] := FunD.bindsN (ps := ["_law_text_here"]) F__law_tuples_of fun _ _ _ _ _ _ us hl => match us, hl with | [_], _ => rfl
  have V__law_tuples_of : Fok P w K mg base CX0 2 (He.ga K "_law_tuples_of") P__law_tuples_of sp_tuples_of := ⟨⟨fd__law_tuples_of, ok_tuples_of T V__law_word_at V__law_is_name F__law_tuples_of, B__law_tuples_of⟩, F__law_tuples_of.kp⟩
  obtain ⟨fd__law_goes_round, F__law_goes_round⟩ := c.2.def_ 27 (d := d__law_goes_round) rfl
  have B__law_goes_round : Binds K fd__law_goes_round ["_law_tuples_here"] [] := FunD.bindsN (ps := ["_law_tuples_here"]) F__law_goes_round fun _ _ _ _ _ _ us hl => match us, hl with | [_], _ => rfl
  have V__law_goes_round : Fok P w K mg base CX0 1 (He.ga K "_law_goes_round") P__law_goes_round sp_goes := ⟨⟨fd__law_goes_round, ok_goes T  F__law_goes_round, B__law_goes_round⟩, F__law_goes_round.kp⟩
  obtain ⟨fd__law_due, F__law_due⟩ := c.2.def_ 28 (d := d__law_due) rfl
  have B__law_due : Binds K fd__law_due ["_law_text_here"] [] := FunD.bindsN (ps := ["_law_text_here"]) F__law_due fun _ _ _ _ _ _ us hl => match us, hl with | [_], _ => rfl
  have V__law_due : Fok P w K mg base CX0 3 (He.ga K "_law_due") P__law_due sp_due := ⟨⟨fd__law_due, ok_due T V__law_tuples_of V__law_goes_round F__law_due, B__law_due⟩, F__law_due.kp⟩
  exact ok_law T V__law_cell V__law_tuples V__law_text V_read_web V__law_told V_show_web V_Web_init V__law_read V__law_hangs V__law_muddled V__law_take V__law_spoiled V__law_due F_law
end Wt
open PySem PySem.W PySem.Calls PyProof.Rows
theorem PySem.Challenge.cw_fitmost_k36_whole_web_texts_holds : PySem.Challenge.rw_fitmost_k36_whole_web_texts.Holds := by
  w_on; o_law
  refine HandSHeadRun.head_any (r := OpenLaw.row PySem.Challenge.rw_fitmost_k36_whole_web_texts) (q := view (OpenLaw.row PySem.Challenge.rw_fitmost_k36_whole_web_texts).prog [51]) (H := Wt.hk) (ob := Wt.ob) (M := 20000) (loose := Wt.loose) (d := HandSHeadRun.topDef (OpenLaw.row PySem.Challenge.rw_fitmost_k36_whole_web_texts).prog 51) (kwd := []) Wt.ob_eq
    (by kernel_rfl) (fun s => by kernel_rfl) Wt.run (by kernel_rfl) (by kernel_rfl) (by kernel_rfl) (by rfl) (by first | assumption | decide +kernel) (by decide +kernel) ⟨rfl, rfl, rfl, rfl, rfl, by decide +kernel⟩ ?hw ?hc
  case hw => w_witness2
  case hc =>
    refine L2.walk_ofE (l := PySem.Challenge.rw_fitmost_k36_whole_web_texts) (n := 63) (k := 9) (x := "_law_script") (CX := L2.CX0) rfl (by decide) (by kernel_rfl) ⟨rfl, by decide, by decide⟩ ?F (fun _ _ _ _ z => z)
    intro w mg fa h Y G hmg0
    obtain ⟨K, KX, c⟩ := Y
    have hmg : mg ("law" : PySem.Str) = some (.ref fa) := by
      have e : (HandSHeadRun.topDef (OpenLaw.row PySem.Challenge.rw_fitmost_k36_whole_web_texts).prog 51).name = ("law" : PySem.Str) := by kernel_rfl
      rw [← e]
      exact hmg0
    obtain ⟨fd, hb, hF⟩ := Wt.facts (P := (PySem.Challenge.rw_fitmost_k36_whole_web_texts).prog) (w := w) KX G hmg c
    exact ⟨K, fd, Wt.sp_law K, KX, hb, fun H a ns hl _ hS => ⟨a, ns, rfl, hS, hl, fun _ => rfl⟩, hF⟩
