import PyProof.Rows.All
import Wide.All
import OpenK.AllK
import Wide.FinOn
import KE.KStateDown
import Lean
import HandS.ForMost
import HandS.ForExc
import HandS.Defaults
import HandS.Walk
import HandS.Rev
import HandS.Zip
import HandS.Flow
import HandS.IsInst
import HandS.ExcInit
import HandS.ExcIs
import HandS.ExcField
import HandS.DictComp
import HandS.Conv
import HandS.TupAny
import HandS.Lambda
import HandS.SortKw
import HandS.EndTab
import HandS.Head0
import HandS.Head1
import HandS.Head2
import HandS.HeadEnd
import HandS.HeadHook1
import HandS.HeadHook2
import HandS.HeadHook4
import KE.SortKeyHeap
import PySem.Challenge.RW_manyleaf_k32_places_and_contents
import KE.KxIndex
import KE.KExcIs
import HandS.HeadWalk

set_option Elab.async false
set_option linter.all false
set_option maxRecDepth 100000
set_option maxHeartbeats 4000000

namespace ML
open PySem PySem.Spec PyProof.Rows L2
def top (i : Nat) : Stmt := PySem.Challenge.pw_manyleaf_k32_places_and_contents.main.body.getD i (.Pass ⟨0, 0, 0, 0⟩)
abbrev FnP (K : PySem.W.Frag) (x qual : Str) (st : Stmt) (dvs : List V) (f : Addr) (fd : FuncData) : Prop := FunD K x qual (defArgs st) (defBody st) (defScope st) dvs [] f fd
abbrev s_EditError_init : Stmt := (inClass (top 6) 0)
abbrev n_EditError_init : List Str := ["self", "part", "choice"]
theorem sc_EditError_init : FnScope n_EditError_init ["self", "part", "choice"] (defScope s_EditError_init) := ⟨rfl, rfl, rfl, by decide +kernel, rfl, by decide +kernel, by decide +kernel⟩
def d_EditError_init : He.DefD := ⟨("EditError", some "__init__"), "__init__", "EditError.__init__", defArgs s_EditError_init, defBody s_EditError_init, defScope s_EditError_init, [.non], []⟩
abbrev s_Plain_init : Stmt := (inClass (top 10) 0)
abbrev n_Plain_init : List Str := ["self"]
theorem sc_Plain_init : FnScope n_Plain_init ["self"] (defScope s_Plain_init) := ⟨rfl, rfl, rfl, by decide +kernel, rfl, by decide +kernel, by decide +kernel⟩
def d_Plain_init : He.DefD := ⟨("Plain", some "__init__"), "__init__", "Plain.__init__", defArgs s_Plain_init, defBody s_Plain_init, defScope s_Plain_init, [], []⟩
abbrev s_Plain_state : Stmt := (inClass (top 10) 2)
abbrev n_Plain_state : List Str := ["self", "name"]
theorem sc_Plain_state : FnScope n_Plain_state ["self", "name"] (defScope s_Plain_state) := ⟨rfl, rfl, rfl, by decide +kernel, rfl, by decide +kernel, by decide +kernel⟩
def d_Plain_state : He.DefD := ⟨("Plain", some "state"), "state", "Plain.state", defArgs s_Plain_state, defBody s_Plain_state, defScope s_Plain_state, [], []⟩
abbrev s_Plain_names : Stmt := (inClass (top 10) 7)
abbrev n_Plain_names : List Str := ["self"]
theorem sc_Plain_names : FnScope n_Plain_names ["self"] (defScope s_Plain_names) := ⟨rfl, rfl, rfl, by decide +kernel, rfl, by decide +kernel, by decide +kernel⟩
def d_Plain_names : He.DefD := ⟨("Plain", some "names"), "names", "Plain.names", defArgs s_Plain_names, defBody s_Plain_names, defScope s_Plain_names, [], []⟩
abbrev s_Plain_lay : Stmt := (inClass (top 10) 12)
abbrev n_Plain_lay : List Str := ["self", "name", "kind", "parent", "rank", "content"]
theorem sc_Plain_lay : FnScope n_Plain_lay ["self", "name", "kind", "parent", "rank", "content"] (defScope s_Plain_lay) := ⟨rfl, rfl, rfl, by decide +kernel, rfl, by decide +kernel, by decide +kernel⟩
def d_Plain_lay : He.DefD := ⟨("Plain", some "lay"), "lay", "Plain.lay", defArgs s_Plain_lay, defBody s_Plain_lay, defScope s_Plain_lay, [], []⟩
abbrev s_choices_of : Stmt := (top 13)
abbrev n_choices_of : List Str := ["choices", "found", "number"]
theorem sc_choices_of : FnScope n_choices_of ["choices"] (defScope s_choices_of) := ⟨rfl, rfl, rfl, by decide +kernel, rfl, by decide +kernel, by decide +kernel⟩
def d_choices_of : He.DefD := ⟨("choices_of", none), "choices_of", "choices_of", defArgs s_choices_of, defBody s_choices_of, defScope s_choices_of, [], []⟩
abbrev s_least_choice : Stmt := (top 14)
abbrev n_least_choice : List Str := ["choices", "number"]
theorem sc_least_choice : FnScope n_least_choice ["choices"] (defScope s_least_choice) := ⟨rfl, rfl, rfl, by decide +kernel, rfl, by decide +kernel, by decide +kernel⟩
def d_least_choice : He.DefD := ⟨("least_choice", none), "least_choice", "least_choice", defArgs s_least_choice, defBody s_least_choice, defScope s_least_choice, [], []⟩
abbrev s_is_whole : Stmt := (top 17)
abbrev n_is_whole : List Str := ["thing"]
theorem sc_is_whole : FnScope n_is_whole ["thing"] (defScope s_is_whole) := ⟨rfl, rfl, rfl, by decide +kernel, rfl, by decide +kernel, by decide +kernel⟩
def d_is_whole : He.DefD := ⟨("is_whole", none), "is_whole", "is_whole", defArgs s_is_whole, defBody s_is_whole, defScope s_is_whole, [], []⟩
abbrev s_is_of : Stmt := (top 18)
abbrev n_is_of : List Str := ["thing", "signs", "longest", "sign"]
theorem sc_is_of : FnScope n_is_of ["thing", "signs", "longest"] (defScope s_is_of) := ⟨rfl, rfl, rfl, by decide +kernel, rfl, by decide +kernel, by decide +kernel⟩
def d_is_of : He.DefD := ⟨("is_of", none), "is_of", "is_of", defArgs s_is_of, defBody s_is_of, defScope s_is_of, [], []⟩
abbrev s_is_word : Stmt := (top 19)
abbrev n_is_word : List Str := ["thing"]
theorem sc_is_word : FnScope n_is_word ["thing"] (defScope s_is_word) := ⟨rfl, rfl, rfl, by decide +kernel, rfl, by decide +kernel, by decide +kernel⟩
def d_is_word : He.DefD := ⟨("is_word", none), "is_word", "is_word", defArgs s_is_word, defBody s_is_word, defScope s_is_word, [], []⟩
abbrev s_added_pair : Stmt := (top 21)
abbrev n_added_pair : List Str := ["pairs", "choices", "thing", "found", "new", "some", "other"]
theorem sc_added_pair : FnScope n_added_pair ["pairs", "choices", "thing"] (defScope s_added_pair) := ⟨rfl, rfl, rfl, by decide +kernel, rfl, by decide +kernel, by decide +kernel⟩
def d_added_pair : He.DefD := ⟨("added_pair", none), "added_pair", "added_pair", defArgs s_added_pair, defBody s_added_pair, defScope s_added_pair, [], []⟩
abbrev s_by_least : Stmt := (top 22)
abbrev n_by_least : List Str := ["pairs"]
theorem sc_by_least : FnScope n_by_least ["pairs"] (defScope s_by_least) := ⟨rfl, rfl, rfl, by decide +kernel, rfl, by decide +kernel, by decide +kernel⟩
def d_by_least : He.DefD := ⟨("by_least", none), "by_least", "by_least", defArgs s_by_least, defBody s_by_least, defScope s_by_least, [], []⟩
abbrev s_Book_init : Stmt := (inClass (top 23) 0)
abbrev n_Book_init : List Str := ["self", "panel"]
theorem sc_Book_init : FnScope n_Book_init ["self", "panel"] (defScope s_Book_init) := ⟨rfl, rfl, rfl, by decide +kernel, rfl, by decide +kernel, by decide +kernel⟩
def d_Book_init : He.DefD := ⟨("Book", some "__init__"), "__init__", "Book.__init__", defArgs s_Book_init, defBody s_Book_init, defScope s_Book_init, [], []⟩
abbrev s_Book_gather : Stmt := (inClass (top 23) 1)
abbrev n_Book_gather : List Str := ["self", "rows", "choices", "plain", "name"]
theorem sc_Book_gather : FnScope n_Book_gather ["self", "rows"] (defScope s_Book_gather) := ⟨rfl, rfl, rfl, by decide +kernel, rfl, by decide +kernel, by decide +kernel⟩
def d_Book_gather : He.DefD := ⟨("Book", some "gather"), "gather", "Book.gather", defArgs s_Book_gather, defBody s_Book_gather, defScope s_Book_gather, [], []⟩
abbrev s_Book_records_of : Stmt := (inClass (top 23) 3)
abbrev n_Book_records_of : List Str := ["self", "name"]
theorem sc_Book_records_of : FnScope n_Book_records_of ["self", "name"] (defScope s_Book_records_of) := ⟨rfl, rfl, rfl, by decide +kernel, rfl, by decide +kernel, by decide +kernel⟩
def d_Book_records_of : He.DefD := ⟨("Book", some "records_of"), "records_of", "Book.records_of", defArgs s_Book_records_of, defBody s_Book_records_of, defScope s_Book_records_of, [], []⟩
abbrev s_Book_where : Stmt := (inClass (top 23) 4)
abbrev n_Book_where : List Str := ["self", "name", "found", "choices", "state"]
theorem sc_Book_where : FnScope n_Book_where ["self", "name"] (defScope s_Book_where) := ⟨rfl, rfl, rfl, by decide +kernel, rfl, by decide +kernel, by decide +kernel⟩
def d_Book_where : He.DefD := ⟨("Book", some "where"), "where", "Book.where", defArgs s_Book_where, defBody s_Book_where, defScope s_Book_where, [], []⟩
abbrev s_Book_places : Stmt := (inClass (top 23) 5)
abbrev n_Book_places : List Str := ["self", "name", "found", "choices", "state"]
theorem sc_Book_places : FnScope n_Book_places ["self", "name"] (defScope s_Book_places) := ⟨rfl, rfl, rfl, by decide +kernel, rfl, by decide +kernel, by decide +kernel⟩
def d_Book_places : He.DefD := ⟨("Book", some "places"), "places", "Book.places", defArgs s_Book_places, defBody s_Book_places, defScope s_Book_places, [], []⟩
abbrev s_Book_contents : Stmt := (inClass (top 23) 6)
abbrev n_Book_contents : List Str := ["self", "name", "found", "choices", "state"]
theorem sc_Book_contents : FnScope n_Book_contents ["self", "name"] (defScope s_Book_contents) := ⟨rfl, rfl, rfl, by decide +kernel, rfl, by decide +kernel, by decide +kernel⟩
def d_Book_contents : He.DefD := ⟨("Book", some "contents"), "contents", "Book.contents", defArgs s_Book_contents, defBody s_Book_contents, defScope s_Book_contents, [], []⟩
abbrev s_gathered : Stmt := (top 24)
abbrev n_gathered : List Str := ["panel", "rows", "book"]
theorem sc_gathered : FnScope n_gathered ["panel", "rows"] (defScope s_gathered) := ⟨rfl, rfl, rfl, by decide +kernel, rfl, by decide +kernel, by decide +kernel⟩
def d_gathered : He.DefD := ⟨("gathered", none), "gathered", "gathered", defArgs s_gathered, defBody s_gathered, defScope s_gathered, [], []⟩
abbrev s_are_settings : Stmt := (top 30)
abbrev n_are_settings : List Str := ["thing", "k", "word"]
theorem sc_are_settings : FnScope n_are_settings ["thing"] (defScope s_are_settings) := ⟨rfl, rfl, rfl, by decide +kernel, rfl, by decide +kernel, by decide +kernel⟩
def d_are_settings : He.DefD := ⟨("are_settings", none), "are_settings", "are_settings", defArgs s_are_settings, defBody s_are_settings, defScope s_are_settings, [], []⟩
abbrev s_are_switches : Stmt := (top 31)
abbrev n_are_switches : List Str := ["thing", "seen", "choices", "switch"]
theorem sc_are_switches : FnScope n_are_switches ["thing"] (defScope s_are_switches) := ⟨rfl, rfl, rfl, by decide +kernel, rfl, by decide +kernel, by decide +kernel⟩
def d_are_switches : He.DefD := ⟨("are_switches", none), "are_switches", "are_switches", defArgs s_are_switches, defBody s_are_switches, defScope s_are_switches, [], []⟩
abbrev s_Panel_init : Stmt := (inClass (top 32) 0)
abbrev n_Panel_init : List Str := ["self", "switches", "rules", "word", "settings", "choices", "rule"]
theorem sc_Panel_init : FnScope n_Panel_init ["self", "switches", "rules"] (defScope s_Panel_init) := ⟨rfl, rfl, rfl, by decide +kernel, rfl, by decide +kernel, by decide +kernel⟩
def d_Panel_init : He.DefD := ⟨("Panel", some "__init__"), "__init__", "Panel.__init__", defArgs s_Panel_init, defBody s_Panel_init, defScope s_Panel_init, [.non], []⟩
abbrev s_Panel_told_rules : Stmt := (inClass (top 32) 1)
abbrev n_Panel_told_rules : List Str := ["self", "rules", "found", "rule"]
theorem sc_Panel_told_rules : FnScope n_Panel_told_rules ["self", "rules"] (defScope s_Panel_told_rules) := ⟨rfl, rfl, rfl, by decide +kernel, rfl, by decide +kernel, by decide +kernel⟩
def d_Panel_told_rules : He.DefD := ⟨("Panel", some "told_rules"), "told_rules", "Panel.told_rules", defArgs s_Panel_told_rules, defBody s_Panel_told_rules, defScope s_Panel_told_rules, [], []⟩
abbrev s_Panel_are_terms : Stmt := (inClass (top 32) 2)
abbrev n_Panel_are_terms : List Str := ["self", "terms", "known", "switch", "settings", "k", "setting"]
theorem sc_Panel_are_terms : FnScope n_Panel_are_terms ["self", "terms"] (defScope s_Panel_are_terms) := ⟨rfl, rfl, rfl, by decide +kernel, rfl, by decide +kernel, by decide +kernel⟩
def d_Panel_are_terms : He.DefD := ⟨("Panel", some "are_terms"), "are_terms", "Panel.are_terms", defArgs s_Panel_are_terms, defBody s_Panel_are_terms, defScope s_Panel_are_terms, [], []⟩
abbrev s_Panel_copied_terms : Stmt := (inClass (top 32) 3)
abbrev n_Panel_copied_terms : List Str := ["self", "terms", "found", "switch", "settings"]
theorem sc_Panel_copied_terms : FnScope n_Panel_copied_terms ["self", "terms"] (defScope s_Panel_copied_terms) := ⟨rfl, rfl, rfl, by decide +kernel, rfl, by decide +kernel, by decide +kernel⟩
def d_Panel_copied_terms : He.DefD := ⟨("Panel", some "copied_terms"), "copied_terms", "Panel.copied_terms", defArgs s_Panel_copied_terms, defBody s_Panel_copied_terms, defScope s_Panel_copied_terms, [], []⟩
abbrev s_Panel_told : Stmt := (inClass (top 32) 8)
abbrev n_Panel_told : List Str := ["self", "number", "found", "word", "settings", "at"]
theorem sc_Panel_told : FnScope n_Panel_told ["self", "number"] (defScope s_Panel_told) := ⟨rfl, rfl, rfl, by decide +kernel, rfl, by decide +kernel, by decide +kernel⟩
def d_Panel_told : He.DefD := ⟨("Panel", some "told"), "told", "Panel.told", defArgs s_Panel_told, defBody s_Panel_told, defScope s_Panel_told, [], []⟩
abbrev s_Panel_all_choices : Stmt := (inClass (top 32) 9)
abbrev n_Panel_all_choices : List Str := ["self"]
theorem sc_Panel_all_choices : FnScope n_Panel_all_choices ["self"] (defScope s_Panel_all_choices) := ⟨rfl, rfl, rfl, by decide +kernel, rfl, by decide +kernel, by decide +kernel⟩
def d_Panel_all_choices : He.DefD := ⟨("Panel", some "all_choices"), "all_choices", "Panel.all_choices", defArgs s_Panel_all_choices, defBody s_Panel_all_choices, defScope s_Panel_all_choices, [], []⟩
abbrev s_Panel_box : Stmt := (inClass (top 32) 10)
abbrev n_Panel_box : List Str := ["self", "terms", "choices", "number", "settings", "k", "dial"]
theorem sc_Panel_box : FnScope n_Panel_box ["self", "terms"] (defScope s_Panel_box) := ⟨rfl, rfl, rfl, by decide +kernel, rfl, by decide +kernel, by decide +kernel⟩
def d_Panel_box : He.DefD := ⟨("Panel", some "box"), "box", "Panel.box", defArgs s_Panel_box, defBody s_Panel_box, defScope s_Panel_box, [], []⟩
abbrev s_Panel_allowed : Stmt := (inClass (top 32) 11)
abbrev n_Panel_allowed : List Str := ["self"]
theorem sc_Panel_allowed : FnScope n_Panel_allowed ["self"] (defScope s_Panel_allowed) := ⟨rfl, rfl, rfl, by decide +kernel, rfl, by decide +kernel, by decide +kernel⟩
def d_Panel_allowed : He.DefD := ⟨("Panel", some "allowed"), "allowed", "Panel.allowed", defArgs s_Panel_allowed, defBody s_Panel_allowed, defScope s_Panel_allowed, [], []⟩
abbrev s_law_cell : Stmt := (top 34)
abbrev n_law_cell : List Str := ["_law_script", "_law_k"]
theorem sc_law_cell : FnScope n_law_cell ["_law_script", "_law_k"] (defScope s_law_cell) := ⟨rfl, rfl, rfl, by decide +kernel, rfl, by decide +kernel, by decide +kernel⟩
def d_law_cell : He.DefD := ⟨("_law_cell", none), "_law_cell", "_law_cell", defArgs s_law_cell, defBody s_law_cell, defScope s_law_cell, [], []⟩
abbrev s_law_mix : Stmt := (top 35)
abbrev n_law_mix : List Str := ["_law_cell_here", "_law_k", "_law_left", "_law_number"]
theorem sc_law_mix : FnScope n_law_mix ["_law_cell_here", "_law_k"] (defScope s_law_mix) := ⟨rfl, rfl, rfl, by decide +kernel, rfl, by decide +kernel, by decide +kernel⟩
def d_law_mix : He.DefD := ⟨("_law_mix", none), "_law_mix", "_law_mix", defArgs s_law_mix, defBody s_law_mix, defScope s_law_mix, [], []⟩
abbrev s_law_spelt : Stmt := (top 36)
abbrev n_law_spelt : List Str := ["_law_cell_here", "_law_signs", "_law_longest", "_law_many", "_law_word", "_law_long", "_law_at", "_law_words", "_law_k", "_law_steps", "_law_j", "_law_step"]
theorem sc_law_spelt : FnScope n_law_spelt ["_law_cell_here", "_law_signs", "_law_longest", "_law_many"] (defScope s_law_spelt) := ⟨rfl, rfl, rfl, by decide +kernel, rfl, by decide +kernel, by decide +kernel⟩
def d_law_spelt : He.DefD := ⟨("_law_spelt", none), "_law_spelt", "_law_spelt", defArgs s_law_spelt, defBody s_law_spelt, defScope s_law_spelt, [], []⟩
abbrev s_law_switches : Stmt := (top 37)
abbrev n_law_switches : List Str := ["_law_cell_here", "_law_most", "_law_letters", "_law_words", "_law_switches_here", "_law_total_here", "_law_k", "_law_size"]
theorem sc_law_switches : FnScope n_law_switches ["_law_cell_here", "_law_most"] (defScope s_law_switches) := ⟨rfl, rfl, rfl, by decide +kernel, rfl, by decide +kernel, by decide +kernel⟩
def d_law_switches : He.DefD := ⟨("_law_switches", none), "_law_switches", "_law_switches", defArgs s_law_switches, defBody s_law_switches, defScope s_law_switches, [], []⟩
abbrev s_law_digits : Stmt := (top 38)
abbrev n_law_digits : List Str := ["_law_switches_here", "_law_number", "_law_found", "_law_word", "_law_settings"]
theorem sc_law_digits : FnScope n_law_digits ["_law_switches_here", "_law_number"] (defScope s_law_digits) := ⟨rfl, rfl, rfl, by decide +kernel, rfl, by decide +kernel, by decide +kernel⟩
def d_law_digits : He.DefD := ⟨("_law_digits", none), "_law_digits", "_law_digits", defArgs s_law_digits, defBody s_law_digits, defScope s_law_digits, [], []⟩
abbrev s_law_total : Stmt := (top 39)
abbrev n_law_total : List Str := ["_law_switches_here", "_law_total_here", "_law_word", "_law_settings"]
theorem sc_law_total : FnScope n_law_total ["_law_switches_here"] (defScope s_law_total) := ⟨rfl, rfl, rfl, by decide +kernel, rfl, by decide +kernel, by decide +kernel⟩
def d_law_total : He.DefD := ⟨("_law_total", none), "_law_total", "_law_total", defArgs s_law_total, defBody s_law_total, defScope s_law_total, [], []⟩
abbrev s_law_rules : Stmt := (top 40)
abbrev n_law_rules : List Str := ["_law_cell_here", "_law_switches_here", "_law_rules_here", "_law_j", "_law_rule", "_law_k", "_law_word", "_law_settings", "_law_bits", "_law_some", "_law_at", "_law_setting"]
theorem sc_law_rules : FnScope n_law_rules ["_law_cell_here", "_law_switches_here"] (defScope s_law_rules) := ⟨rfl, rfl, rfl, by decide +kernel, rfl, by decide +kernel, by decide +kernel⟩
def d_law_rules : He.DefD := ⟨("_law_rules", none), "_law_rules", "_law_rules", defArgs s_law_rules, defBody s_law_rules, defScope s_law_rules, [], []⟩
abbrev s_law_barred : Stmt := (top 41)
abbrev n_law_barred : List Str := ["_law_switches_here", "_law_rules_here", "_law_number", "_law_digits_here", "_law_rule", "_law_inside", "_law_k", "_law_word", "_law_settings"]
theorem sc_law_barred : FnScope n_law_barred ["_law_switches_here", "_law_rules_here", "_law_number"] (defScope s_law_barred) := ⟨rfl, rfl, rfl, by decide +kernel, rfl, by decide +kernel, by decide +kernel⟩
def d_law_barred : He.DefD := ⟨("_law_barred", none), "_law_barred", "_law_barred", defArgs s_law_barred, defBody s_law_barred, defScope s_law_barred, [], []⟩
abbrev s_law_world : Stmt := (top 42)
abbrev n_law_world : List Str := ["_law_cell_here", "_law_most", "_law_switches_here", "_law_rules_here", "_law_free", "_law_number"]
theorem sc_law_world : FnScope n_law_world ["_law_cell_here", "_law_most"] (defScope s_law_world) := ⟨rfl, rfl, rfl, by decide +kernel, rfl, by decide +kernel, by decide +kernel⟩
def d_law_world : He.DefD := ⟨("_law_world", none), "_law_world", "_law_world", defArgs s_law_world, defBody s_law_world, defScope s_law_world, [], []⟩
abbrev s_law_text : Stmt := (top 43)
abbrev n_law_text : List Str := ["_law_cell_here", "_law_signs", "_law_long", "_law_j"]
theorem sc_law_text : FnScope n_law_text ["_law_cell_here"] (defScope s_law_text) := ⟨rfl, rfl, rfl, by decide +kernel, rfl, by decide +kernel, by decide +kernel⟩
def d_law_text : He.DefD := ⟨("_law_text", none), "_law_text", "_law_text", defArgs s_law_text, defBody s_law_text, defScope s_law_text, [], []⟩
abbrev s_law_content : Stmt := (top 44)
abbrev n_law_content : List Str := ["_law_kind", "_law_cell_here", "_law_wide", "_law_rows", "_law_row", "_law_column"]
theorem sc_law_content : FnScope n_law_content ["_law_kind", "_law_cell_here"] (defScope s_law_content) := ⟨rfl, rfl, rfl, by decide +kernel, rfl, by decide +kernel, by decide +kernel⟩
def d_law_content : He.DefD := ⟨("_law_content", none), "_law_content", "_law_content", defArgs s_law_content, defBody s_law_content, defScope s_law_content, [], []⟩
abbrev s_law_tree : Stmt := (top 45)
abbrev n_law_tree : List Str := ["_law_cell_here", "_law_variant_here", "_law_names_here", "_law_tree_here", "_law_k", "_law_name", "_law_number", "_law_kind", "_law_holders", "_law_rank", "_law_other"]
theorem sc_law_tree : FnScope n_law_tree ["_law_cell_here", "_law_variant_here", "_law_names_here"] (defScope s_law_tree) := ⟨rfl, rfl, rfl, by decide +kernel, rfl, by decide +kernel, by decide +kernel⟩
def d_law_tree : He.DefD := ⟨("_law_tree", none), "_law_tree", "_law_tree", defArgs s_law_tree, defBody s_law_tree, defScope s_law_tree, [], []⟩
abbrev s_law_names : Stmt := (top 46)
abbrev n_law_names : List Str := ["_law_cell_here", "_law_many"]
theorem sc_law_names : FnScope n_law_names ["_law_cell_here", "_law_many"] (defScope s_law_names) := ⟨rfl, rfl, rfl, by decide +kernel, rfl, by decide +kernel, by decide +kernel⟩
def d_law_names : He.DefD := ⟨("_law_names", none), "_law_names", "_law_names", defArgs s_law_names, defBody s_law_names, defScope s_law_names, [], []⟩
abbrev s_law_variant : Stmt := (top 47)
abbrev n_law_variant : List Str := ["_law_cell_here", "_law_switches_here", "_law_number", "_law_many"]
theorem sc_law_variant : FnScope n_law_variant ["_law_cell_here", "_law_switches_here", "_law_number", "_law_many"] (defScope s_law_variant) := ⟨rfl, rfl, rfl, by decide +kernel, rfl, by decide +kernel, by decide +kernel⟩
def d_law_variant : He.DefD := ⟨("_law_variant", none), "_law_variant", "_law_variant", defArgs s_law_variant, defBody s_law_variant, defScope s_law_variant, [], []⟩
abbrev s_law_plain : Stmt := (top 48)
abbrev n_law_plain : List Str := ["_law_tree_here", "_law_plain_here", "_law_name", "_law_kind", "_law_parent", "_law_rank", "_law_content_here"]
theorem sc_law_plain : FnScope n_law_plain ["_law_tree_here"] (defScope s_law_plain) := ⟨rfl, rfl, rfl, by decide +kernel, rfl, by decide +kernel, by decide +kernel⟩
def d_law_plain : He.DefD := ⟨("_law_plain", none), "_law_plain", "_law_plain", defArgs s_law_plain, defBody s_law_plain, defScope s_law_plain, [], []⟩
abbrev s_law_made : Stmt := (top 49)
abbrev n_law_made : List Str := ["_law_script", "_law_much", "_law_world_here", "_law_names_here", "_law_many", "_law_trees", "_law_found", "_law_number", "_law_variant_here"]
theorem sc_law_made : FnScope n_law_made ["_law_script", "_law_much"] (defScope s_law_made) := ⟨rfl, rfl, rfl, by decide +kernel, rfl, by decide +kernel, by decide +kernel⟩
def d_law_made : He.DefD := ⟨("_law_made", none), "_law_made", "_law_made", defArgs s_law_made, defBody s_law_made, defScope s_law_made, [], []⟩
abbrev s_law_book : Stmt := (top 50)
abbrev n_law_book : List Str := ["_law_world_here", "_law_found", "_law_switches_here", "_law_rules_here", "_law_free", "_law_panel", "_law_rows", "_law_number", "_law_word", "_law_settings"]
theorem sc_law_book : FnScope n_law_book ["_law_world_here", "_law_found"] (defScope s_law_book) := ⟨rfl, rfl, rfl, by decide +kernel, rfl, by decide +kernel, by decide +kernel⟩
def d_law_book : He.DefD := ⟨("_law_book", none), "_law_book", "_law_book", defArgs s_law_book, defBody s_law_book, defScope s_law_book, [], []⟩
abbrev s_law_whole : Stmt := (top 51)
abbrev n_law_whole : List Str := ["_law_found"]
theorem sc_law_whole : FnScope n_law_whole ["_law_found"] (defScope s_law_whole) := ⟨rfl, rfl, rfl, by decide +kernel, rfl, by decide +kernel, by decide +kernel⟩
def d_law_whole : He.DefD := ⟨("_law_whole", none), "_law_whole", "_law_whole", defArgs s_law_whole, defBody s_law_whole, defScope s_law_whole, [], []⟩
abbrev s_law_sorted_out : Stmt := (top 52)
abbrev n_law_sorted_out : List Str := ["_law_found", "_law_name", "_law_content_here", "_law_pairs_here", "_law_number", "_law_thing", "_law_there", "_law_k", "_law_pair"]
theorem sc_law_sorted_out : FnScope n_law_sorted_out ["_law_found", "_law_name", "_law_content_here"] (defScope s_law_sorted_out) := ⟨rfl, rfl, rfl, by decide +kernel, rfl, by decide +kernel, by decide +kernel⟩
def d_law_sorted_out : He.DefD := ⟨("_law_sorted_out", none), "_law_sorted_out", "_law_sorted_out", defArgs s_law_sorted_out, defBody s_law_sorted_out, defScope s_law_sorted_out, [], []⟩
abbrev s_law_pairs : Stmt := (top 53)
abbrev n_law_pairs : List Str := ["_law_told", "_law_due", "_law_pair"]
theorem sc_law_pairs : FnScope n_law_pairs ["_law_told", "_law_due"] (defScope s_law_pairs) := ⟨rfl, rfl, rfl, by decide +kernel, rfl, by decide +kernel, by decide +kernel⟩
def d_law_pairs : He.DefD := ⟨("_law_pairs", none), "_law_pairs", "_law_pairs", defArgs s_law_pairs, defBody s_law_pairs, defScope s_law_pairs, [], []⟩
abbrev s_law_told_of : Stmt := (top 54)
abbrev n_law_told_of : List Str := ["_law_book_here", "_law_found", "_law_name", "_law_due", "_law_told", "_law_turn", "_law_number"]
theorem sc_law_told_of : FnScope n_law_told_of ["_law_book_here", "_law_found", "_law_name"] (defScope s_law_told_of) := ⟨rfl, rfl, rfl, by decide +kernel, rfl, by decide +kernel, by decide +kernel⟩
def d_law_told_of : He.DefD := ⟨("_law_told_of", none), "_law_told_of", "_law_told_of", defArgs s_law_told_of, defBody s_law_told_of, defScope s_law_told_of, [], []⟩
abbrev s_law_refused : Stmt := (top 55)
abbrev n_law_refused : List Str := ["_law_book_here", "_law_name", "_law_way", "_law_told", "e"]
theorem sc_law_refused : FnScope n_law_refused ["_law_book_here", "_law_name", "_law_way"] (defScope s_law_refused) := ⟨rfl, rfl, rfl, by decide +kernel, rfl, by decide +kernel, by decide +kernel⟩
def d_law_refused : He.DefD := ⟨("_law_refused", none), "_law_refused", "_law_refused", defArgs s_law_refused, defBody s_law_refused, defScope s_law_refused, [], []⟩
abbrev s_law : Stmt := (top 56)
abbrev n_law : List Str := ["_law_script", "_law_world_here", "_law_names_here", "_law_found", "_law_book_here", "_law_strangers", "_law_name", "_law_way", "_law_number"]
theorem sc_law : FnScope n_law ["_law_script"] (defScope s_law) := ⟨rfl, rfl, rfl, by decide +kernel, rfl, by decide +kernel, by decide +kernel⟩
def d_law : He.DefD := ⟨("law", none), "law", "law", defArgs s_law, defBody s_law, defScope s_law, [], []⟩
def fns : List He.DefD := [d_EditError_init, d_Plain_init, d_Plain_state, d_Plain_names, d_Plain_lay, d_choices_of, d_least_choice, d_is_whole, d_is_of, d_is_word, d_added_pair, d_by_least, d_Book_init, d_Book_gather, d_Book_records_of, d_Book_where, d_Book_places, d_Book_contents, d_gathered, d_are_settings, d_are_switches, d_Panel_init, d_Panel_told_rules, d_Panel_are_terms, d_Panel_copied_terms, d_Panel_told, d_Panel_all_choices, d_Panel_box, d_Panel_allowed, d_law_cell, d_law_mix, d_law_spelt, d_law_switches, d_law_digits, d_law_total, d_law_rules, d_law_barred, d_law_world, d_law_text, d_law_content, d_law_tree, d_law_names, d_law_variant, d_law_plain, d_law_made, d_law_book, d_law_whole, d_law_sorted_out, d_law_pairs, d_law_told_of, d_law_refused, d_law]
def fas : List He.Fa := [.glo "choices_of", .glo "least_choice", .glo "is_whole", .glo "is_of", .glo "is_word", .glo "added_pair", .glo "by_least", .glo "gathered", .glo "are_settings", .glo "are_switches", .glo "_law_cell", .glo "_law_mix", .glo "_law_spelt", .glo "_law_switches", .glo "_law_digits", .glo "_law_total", .glo "_law_rules", .glo "_law_barred", .glo "_law_world", .glo "_law_text", .glo "_law_content", .glo "_law_tree", .glo "_law_names", .glo "_law_variant", .glo "_law_plain", .glo "_law_made", .glo "_law_book", .glo "_law_whole", .glo "_law_sorted_out", .glo "_law_pairs", .glo "_law_told_of", .glo "_law_refused", .glo "law", .glo "Plain", .glo "Book", .glo "Panel", .glo "EditError", .glo "LeafError", .glo "NoPart", .glo "Doubled", .cls "Plain", .mkr "Plain", .noat "Plain" "records", .meth "Plain" "state", .meth "Plain" "names", .meth "Plain" "lay", .cls "Book", .mkr "Book", .noat "Book" "panel", .noat "Book" "records", .meth "Book" "gather", .meth "Book" "records_of", .meth "Book" "where", .meth "Book" "places", .meth "Book" "contents", .cls "Panel", .mkr "Panel", .noat "Panel" "dials", .noat "Panel" "total", .noat "Panel" "bars", .noat "Panel" "barring", .noat "Panel" "free", .meth "Panel" "told_rules", .meth "Panel" "are_terms", .meth "Panel" "copied_terms", .meth "Panel" "told", .meth "Panel" "all_choices", .meth "Panel" "box", .meth "Panel" "allowed", .free "len", .free "isinstance", .free "sorted", .free "enumerate", .free "range", .free "reversed", .free "list", .free "tuple", .free "dict", .free "int", .free "str", .free "bool", .free "divmod", .free "all", .free "sum", .free "ValueError", .int "MOST_SWITCHES" 5, .int "MOST_SETTINGS" 4, .int "MOST_CHOICES" 256, .int "MOST_RULES" 8, .str "LETTERS" "abcdefghijklmnopqrstuvwxyz", .keep "NoPart", .exm "NoPart" "NoPart" true]
/-- what the top has written -/
structure Txt (K : PySem.W.Frag) (mg : Str → Option Value) : Prop where
  g_choices_of : mg "choices_of" = some (.ref (He.ga K "choices_of"))
  g_least_choice : mg "least_choice" = some (.ref (He.ga K "least_choice"))
  g_is_whole : mg "is_whole" = some (.ref (He.ga K "is_whole"))
  g_is_of : mg "is_of" = some (.ref (He.ga K "is_of"))
  g_is_word : mg "is_word" = some (.ref (He.ga K "is_word"))
  g_added_pair : mg "added_pair" = some (.ref (He.ga K "added_pair"))
  g_by_least : mg "by_least" = some (.ref (He.ga K "by_least"))
  g_gathered : mg "gathered" = some (.ref (He.ga K "gathered"))
  g_are_settings : mg "are_settings" = some (.ref (He.ga K "are_settings"))
  g_are_switches : mg "are_switches" = some (.ref (He.ga K "are_switches"))
  g_law_cell : mg "_law_cell" = some (.ref (He.ga K "_law_cell"))
  g_law_mix : mg "_law_mix" = some (.ref (He.ga K "_law_mix"))
  g_law_spelt : mg "_law_spelt" = some (.ref (He.ga K "_law_spelt"))
  g_law_switches : mg "_law_switches" = some (.ref (He.ga K "_law_switches"))
  g_law_digits : mg "_law_digits" = some (.ref (He.ga K "_law_digits"))
  g_law_total : mg "_law_total" = some (.ref (He.ga K "_law_total"))
  g_law_rules : mg "_law_rules" = some (.ref (He.ga K "_law_rules"))
  g_law_barred : mg "_law_barred" = some (.ref (He.ga K "_law_barred"))
  g_law_world : mg "_law_world" = some (.ref (He.ga K "_law_world"))
  g_law_text : mg "_law_text" = some (.ref (He.ga K "_law_text"))
  g_law_content : mg "_law_content" = some (.ref (He.ga K "_law_content"))
  g_law_tree : mg "_law_tree" = some (.ref (He.ga K "_law_tree"))
  g_law_names : mg "_law_names" = some (.ref (He.ga K "_law_names"))
  g_law_variant : mg "_law_variant" = some (.ref (He.ga K "_law_variant"))
  g_law_plain : mg "_law_plain" = some (.ref (He.ga K "_law_plain"))
  g_law_made : mg "_law_made" = some (.ref (He.ga K "_law_made"))
  g_law_book : mg "_law_book" = some (.ref (He.ga K "_law_book"))
  g_law_whole : mg "_law_whole" = some (.ref (He.ga K "_law_whole"))
  g_law_sorted_out : mg "_law_sorted_out" = some (.ref (He.ga K "_law_sorted_out"))
  g_law_pairs : mg "_law_pairs" = some (.ref (He.ga K "_law_pairs"))
  g_law_told_of : mg "_law_told_of" = some (.ref (He.ga K "_law_told_of"))
  g_law_refused : mg "_law_refused" = some (.ref (He.ga K "_law_refused"))
  g_law : mg "law" = some (.ref (He.ga K "law"))
  g_Plain : mg "Plain" = some (.ref (He.ga K "Plain"))
  g_Book : mg "Book" = some (.ref (He.ga K "Book"))
  g_Panel : mg "Panel" = some (.ref (He.ga K "Panel"))
  g_EditError : mg "EditError" = some (.ref (He.ga K "EditError"))
  g_LeafError : mg "LeafError" = some (.ref (He.ga K "LeafError"))
  g_NoPart : mg "NoPart" = some (.ref (He.ga K "NoPart"))
  g_Doubled : mg "Doubled" = some (.ref (He.ga K "Doubled"))
  c_Plain : Cls K (He.ga K "Plain")
  k_Plain : Mk K (He.ga K "Plain") (He.ma K (He.ga K "Plain") "__init__")
  a_Plain_records : NoAttr K (He.ga K "Plain") "records"
  m_Plain_state : Meth K (He.ga K "Plain") "state" (He.ma K (He.ga K "Plain") "state")
  m_Plain_names : Meth K (He.ga K "Plain") "names" (He.ma K (He.ga K "Plain") "names")
  m_Plain_lay : Meth K (He.ga K "Plain") "lay" (He.ma K (He.ga K "Plain") "lay")
  c_Book : Cls K (He.ga K "Book")
  k_Book : Mk K (He.ga K "Book") (He.ma K (He.ga K "Book") "__init__")
  a_Book_panel : NoAttr K (He.ga K "Book") "panel"
  a_Book_records : NoAttr K (He.ga K "Book") "records"
  m_Book_gather : Meth K (He.ga K "Book") "gather" (He.ma K (He.ga K "Book") "gather")
  m_Book_records_of : Meth K (He.ga K "Book") "records_of" (He.ma K (He.ga K "Book") "records_of")
  m_Book_where : Meth K (He.ga K "Book") "where" (He.ma K (He.ga K "Book") "where")
  m_Book_places : Meth K (He.ga K "Book") "places" (He.ma K (He.ga K "Book") "places")
  m_Book_contents : Meth K (He.ga K "Book") "contents" (He.ma K (He.ga K "Book") "contents")
  c_Panel : Cls K (He.ga K "Panel")
  k_Panel : Mk K (He.ga K "Panel") (He.ma K (He.ga K "Panel") "__init__")
  a_Panel_dials : NoAttr K (He.ga K "Panel") "dials"
  a_Panel_total : NoAttr K (He.ga K "Panel") "total"
  a_Panel_bars : NoAttr K (He.ga K "Panel") "bars"
  a_Panel_barring : NoAttr K (He.ga K "Panel") "barring"
  a_Panel_free : NoAttr K (He.ga K "Panel") "free"
  m_Panel_told_rules : Meth K (He.ga K "Panel") "told_rules" (He.ma K (He.ga K "Panel") "told_rules")
  m_Panel_are_terms : Meth K (He.ga K "Panel") "are_terms" (He.ma K (He.ga K "Panel") "are_terms")
  m_Panel_copied_terms : Meth K (He.ga K "Panel") "copied_terms" (He.ma K (He.ga K "Panel") "copied_terms")
  m_Panel_told : Meth K (He.ga K "Panel") "told" (He.ma K (He.ga K "Panel") "told")
  m_Panel_all_choices : Meth K (He.ga K "Panel") "all_choices" (He.ma K (He.ga K "Panel") "all_choices")
  m_Panel_box : Meth K (He.ga K "Panel") "box" (He.ma K (He.ga K "Panel") "box")
  m_Panel_allowed : Meth K (He.ga K "Panel") "allowed" (He.ma K (He.ga K "Panel") "allowed")
  b_len : mg "len" = none
  b_isinstance : mg "isinstance" = none
  b_sorted : mg "sorted" = none
  b_enumerate : mg "enumerate" = none
  b_range : mg "range" = none
  b_reversed : mg "reversed" = none
  b_list : mg "list" = none
  b_tuple : mg "tuple" = none
  b_dict : mg "dict" = none
  b_int : mg "int" = none
  b_str : mg "str" = none
  b_bool : mg "bool" = none
  b_divmod : mg "divmod" = none
  b_all : mg "all" = none
  b_sum : mg "sum" = none
  b_ValueError : mg "ValueError" = none
  i_MOST_SWITCHES : ∃ t, mg "MOST_SWITCHES" = some (.int 5 t)
  i_MOST_SETTINGS : ∃ t, mg "MOST_SETTINGS" = some (.int 4 t)
  i_MOST_CHOICES : ∃ t, mg "MOST_CHOICES" = some (.int 256 t)
  i_MOST_RULES : ∃ t, mg "MOST_RULES" = some (.int 8 t)
  i_LETTERS : ∃ t, mg "LETTERS" = some (.str "abcdefghijklmnopqrstuvwxyz" t)
  kp_NoPart : PySem.W.keepIn K (.ref (He.ga K "NoPart")) = true
  x_NoPart : PySem.W.exmOne K (.ref (He.ga K "NoPart")) (.ref (He.ga K "NoPart")) = some true
  f_EditError_init : ∃ fd, FnP K "__init__" "EditError.__init__" s_EditError_init [V.non] (He.fAd K ("EditError", some "__init__")) fd
  f_Plain_init : ∃ fd, FnP K "__init__" "Plain.__init__" s_Plain_init [] (He.fAd K ("Plain", some "__init__")) fd
  f_Plain_state : ∃ fd, FnP K "state" "Plain.state" s_Plain_state [] (He.fAd K ("Plain", some "state")) fd
  f_Plain_names : ∃ fd, FnP K "names" "Plain.names" s_Plain_names [] (He.fAd K ("Plain", some "names")) fd
  f_Plain_lay : ∃ fd, FnP K "lay" "Plain.lay" s_Plain_lay [] (He.fAd K ("Plain", some "lay")) fd
  f_choices_of : ∃ fd, FnP K "choices_of" "choices_of" s_choices_of [] (He.fAd K ("choices_of", none)) fd
  f_least_choice : ∃ fd, FnP K "least_choice" "least_choice" s_least_choice [] (He.fAd K ("least_choice", none)) fd
  f_is_whole : ∃ fd, FnP K "is_whole" "is_whole" s_is_whole [] (He.fAd K ("is_whole", none)) fd
  f_is_of : ∃ fd, FnP K "is_of" "is_of" s_is_of [] (He.fAd K ("is_of", none)) fd
  f_is_word : ∃ fd, FnP K "is_word" "is_word" s_is_word [] (He.fAd K ("is_word", none)) fd
  f_added_pair : ∃ fd, FnP K "added_pair" "added_pair" s_added_pair [] (He.fAd K ("added_pair", none)) fd
  f_by_least : ∃ fd, FnP K "by_least" "by_least" s_by_least [] (He.fAd K ("by_least", none)) fd
  f_Book_init : ∃ fd, FnP K "__init__" "Book.__init__" s_Book_init [] (He.fAd K ("Book", some "__init__")) fd
  f_Book_gather : ∃ fd, FnP K "gather" "Book.gather" s_Book_gather [] (He.fAd K ("Book", some "gather")) fd
  f_Book_records_of : ∃ fd, FnP K "records_of" "Book.records_of" s_Book_records_of [] (He.fAd K ("Book", some "records_of")) fd
  f_Book_where : ∃ fd, FnP K "where" "Book.where" s_Book_where [] (He.fAd K ("Book", some "where")) fd
  f_Book_places : ∃ fd, FnP K "places" "Book.places" s_Book_places [] (He.fAd K ("Book", some "places")) fd
  f_Book_contents : ∃ fd, FnP K "contents" "Book.contents" s_Book_contents [] (He.fAd K ("Book", some "contents")) fd
  f_gathered : ∃ fd, FnP K "gathered" "gathered" s_gathered [] (He.fAd K ("gathered", none)) fd
  f_are_settings : ∃ fd, FnP K "are_settings" "are_settings" s_are_settings [] (He.fAd K ("are_settings", none)) fd
  f_are_switches : ∃ fd, FnP K "are_switches" "are_switches" s_are_switches [] (He.fAd K ("are_switches", none)) fd
  f_Panel_init : ∃ fd, FnP K "__init__" "Panel.__init__" s_Panel_init [V.non] (He.fAd K ("Panel", some "__init__")) fd
  f_Panel_told_rules : ∃ fd, FnP K "told_rules" "Panel.told_rules" s_Panel_told_rules [] (He.fAd K ("Panel", some "told_rules")) fd
  f_Panel_are_terms : ∃ fd, FnP K "are_terms" "Panel.are_terms" s_Panel_are_terms [] (He.fAd K ("Panel", some "are_terms")) fd
  f_Panel_copied_terms : ∃ fd, FnP K "copied_terms" "Panel.copied_terms" s_Panel_copied_terms [] (He.fAd K ("Panel", some "copied_terms")) fd
  f_Panel_told : ∃ fd, FnP K "told" "Panel.told" s_Panel_told [] (He.fAd K ("Panel", some "told")) fd
  f_Panel_all_choices : ∃ fd, FnP K "all_choices" "Panel.all_choices" s_Panel_all_choices [] (He.fAd K ("Panel", some "all_choices")) fd
  f_Panel_box : ∃ fd, FnP K "box" "Panel.box" s_Panel_box [] (He.fAd K ("Panel", some "box")) fd
  f_Panel_allowed : ∃ fd, FnP K "allowed" "Panel.allowed" s_Panel_allowed [] (He.fAd K ("Panel", some "allowed")) fd
  f_law_cell : ∃ fd, FnP K "_law_cell" "_law_cell" s_law_cell [] (He.fAd K ("_law_cell", none)) fd
  f_law_mix : ∃ fd, FnP K "_law_mix" "_law_mix" s_law_mix [] (He.fAd K ("_law_mix", none)) fd
  f_law_spelt : ∃ fd, FnP K "_law_spelt" "_law_spelt" s_law_spelt [] (He.fAd K ("_law_spelt", none)) fd
  f_law_switches : ∃ fd, FnP K "_law_switches" "_law_switches" s_law_switches [] (He.fAd K ("_law_switches", none)) fd
  f_law_digits : ∃ fd, FnP K "_law_digits" "_law_digits" s_law_digits [] (He.fAd K ("_law_digits", none)) fd
  f_law_total : ∃ fd, FnP K "_law_total" "_law_total" s_law_total [] (He.fAd K ("_law_total", none)) fd
  f_law_rules : ∃ fd, FnP K "_law_rules" "_law_rules" s_law_rules [] (He.fAd K ("_law_rules", none)) fd
  f_law_barred : ∃ fd, FnP K "_law_barred" "_law_barred" s_law_barred [] (He.fAd K ("_law_barred", none)) fd
  f_law_world : ∃ fd, FnP K "_law_world" "_law_world" s_law_world [] (He.fAd K ("_law_world", none)) fd
  f_law_text : ∃ fd, FnP K "_law_text" "_law_text" s_law_text [] (He.fAd K ("_law_text", none)) fd
  f_law_content : ∃ fd, FnP K "_law_content" "_law_content" s_law_content [] (He.fAd K ("_law_content", none)) fd
  f_law_tree : ∃ fd, FnP K "_law_tree" "_law_tree" s_law_tree [] (He.fAd K ("_law_tree", none)) fd
  f_law_names : ∃ fd, FnP K "_law_names" "_law_names" s_law_names [] (He.fAd K ("_law_names", none)) fd
  f_law_variant : ∃ fd, FnP K "_law_variant" "_law_variant" s_law_variant [] (He.fAd K ("_law_variant", none)) fd
  f_law_plain : ∃ fd, FnP K "_law_plain" "_law_plain" s_law_plain [] (He.fAd K ("_law_plain", none)) fd
  f_law_made : ∃ fd, FnP K "_law_made" "_law_made" s_law_made [] (He.fAd K ("_law_made", none)) fd
  f_law_book : ∃ fd, FnP K "_law_book" "_law_book" s_law_book [] (He.fAd K ("_law_book", none)) fd
  f_law_whole : ∃ fd, FnP K "_law_whole" "_law_whole" s_law_whole [] (He.fAd K ("_law_whole", none)) fd
  f_law_sorted_out : ∃ fd, FnP K "_law_sorted_out" "_law_sorted_out" s_law_sorted_out [] (He.fAd K ("_law_sorted_out", none)) fd
  f_law_pairs : ∃ fd, FnP K "_law_pairs" "_law_pairs" s_law_pairs [] (He.fAd K ("_law_pairs", none)) fd
  f_law_told_of : ∃ fd, FnP K "_law_told_of" "_law_told_of" s_law_told_of [] (He.fAd K ("_law_told_of", none)) fd
  f_law_refused : ∃ fd, FnP K "_law_refused" "_law_refused" s_law_refused [] (He.fAd K ("_law_refused", none)) fd
  f_law : ∃ fd, FnP K "law" "law" s_law [] (He.fAd K ("law", none)) fd
theorem txt_of {K : PySem.W.Frag} {h : Heap} {mg : Str → Option Value} (X : K.In h) (G : h.Ns mainGlobals mg) (hf : ∀ (i : Nat) (f : He.Fa), fas[i]? = some f → f.ok K = true)
    (hd : ∀ (i : Nat) (d : He.DefD), fns[i]? = some d → ∃ fd, FunD K d.name d.qual d.params d.body d.scope (d.dvs K) (d.kws K) (He.fAd K d.at_) fd) : Txt K mg where
  g_choices_of := He.glo_ok X G (hf 0 _ rfl)
  g_least_choice := He.glo_ok X G (hf 1 _ rfl)
  g_is_whole := He.glo_ok X G (hf 2 _ rfl)
  g_is_of := He.glo_ok X G (hf 3 _ rfl)
  g_is_word := He.glo_ok X G (hf 4 _ rfl)
  g_added_pair := He.glo_ok X G (hf 5 _ rfl)
  g_by_least := He.glo_ok X G (hf 6 _ rfl)
  g_gathered := He.glo_ok X G (hf 7 _ rfl)
  g_are_settings := He.glo_ok X G (hf 8 _ rfl)
  g_are_switches := He.glo_ok X G (hf 9 _ rfl)
  g_law_cell := He.glo_ok X G (hf 10 _ rfl)
  g_law_mix := He.glo_ok X G (hf 11 _ rfl)
  g_law_spelt := He.glo_ok X G (hf 12 _ rfl)
  g_law_switches := He.glo_ok X G (hf 13 _ rfl)
  g_law_digits := He.glo_ok X G (hf 14 _ rfl)
  g_law_total := He.glo_ok X G (hf 15 _ rfl)
  g_law_rules := He.glo_ok X G (hf 16 _ rfl)
  g_law_barred := He.glo_ok X G (hf 17 _ rfl)
  g_law_world := He.glo_ok X G (hf 18 _ rfl)
  g_law_text := He.glo_ok X G (hf 19 _ rfl)
  g_law_content := He.glo_ok X G (hf 20 _ rfl)
  g_law_tree := He.glo_ok X G (hf 21 _ rfl)
  g_law_names := He.glo_ok X G (hf 22 _ rfl)
  g_law_variant := He.glo_ok X G (hf 23 _ rfl)
  g_law_plain := He.glo_ok X G (hf 24 _ rfl)
  g_law_made := He.glo_ok X G (hf 25 _ rfl)
  g_law_book := He.glo_ok X G (hf 26 _ rfl)
  g_law_whole := He.glo_ok X G (hf 27 _ rfl)
  g_law_sorted_out := He.glo_ok X G (hf 28 _ rfl)
  g_law_pairs := He.glo_ok X G (hf 29 _ rfl)
  g_law_told_of := He.glo_ok X G (hf 30 _ rfl)
  g_law_refused := He.glo_ok X G (hf 31 _ rfl)
  g_law := He.glo_ok X G (hf 32 _ rfl)
  g_Plain := He.glo_ok X G (hf 33 _ rfl)
  g_Book := He.glo_ok X G (hf 34 _ rfl)
  g_Panel := He.glo_ok X G (hf 35 _ rfl)
  g_EditError := He.glo_ok X G (hf 36 _ rfl)
  g_LeafError := He.glo_ok X G (hf 37 _ rfl)
  g_NoPart := He.glo_ok X G (hf 38 _ rfl)
  g_Doubled := He.glo_ok X G (hf 39 _ rfl)
  c_Plain := He.cls_ok (hf 40 _ rfl)
  k_Plain := He.mkr_ok (hf 41 _ rfl)
  a_Plain_records := He.noat_ok (hf 42 _ rfl)
  m_Plain_state := He.meth_ok (hf 43 _ rfl)
  m_Plain_names := He.meth_ok (hf 44 _ rfl)
  m_Plain_lay := He.meth_ok (hf 45 _ rfl)
  c_Book := He.cls_ok (hf 46 _ rfl)
  k_Book := He.mkr_ok (hf 47 _ rfl)
  a_Book_panel := He.noat_ok (hf 48 _ rfl)
  a_Book_records := He.noat_ok (hf 49 _ rfl)
  m_Book_gather := He.meth_ok (hf 50 _ rfl)
  m_Book_records_of := He.meth_ok (hf 51 _ rfl)
  m_Book_where := He.meth_ok (hf 52 _ rfl)
  m_Book_places := He.meth_ok (hf 53 _ rfl)
  m_Book_contents := He.meth_ok (hf 54 _ rfl)
  c_Panel := He.cls_ok (hf 55 _ rfl)
  k_Panel := He.mkr_ok (hf 56 _ rfl)
  a_Panel_dials := He.noat_ok (hf 57 _ rfl)
  a_Panel_total := He.noat_ok (hf 58 _ rfl)
  a_Panel_bars := He.noat_ok (hf 59 _ rfl)
  a_Panel_barring := He.noat_ok (hf 60 _ rfl)
  a_Panel_free := He.noat_ok (hf 61 _ rfl)
  m_Panel_told_rules := He.meth_ok (hf 62 _ rfl)
  m_Panel_are_terms := He.meth_ok (hf 63 _ rfl)
  m_Panel_copied_terms := He.meth_ok (hf 64 _ rfl)
  m_Panel_told := He.meth_ok (hf 65 _ rfl)
  m_Panel_all_choices := He.meth_ok (hf 66 _ rfl)
  m_Panel_box := He.meth_ok (hf 67 _ rfl)
  m_Panel_allowed := He.meth_ok (hf 68 _ rfl)
  b_len := He.free_ok X G (hf 69 _ rfl)
  b_isinstance := He.free_ok X G (hf 70 _ rfl)
  b_sorted := He.free_ok X G (hf 71 _ rfl)
  b_enumerate := He.free_ok X G (hf 72 _ rfl)
  b_range := He.free_ok X G (hf 73 _ rfl)
  b_reversed := He.free_ok X G (hf 74 _ rfl)
  b_list := He.free_ok X G (hf 75 _ rfl)
  b_tuple := He.free_ok X G (hf 76 _ rfl)
  b_dict := He.free_ok X G (hf 77 _ rfl)
  b_int := He.free_ok X G (hf 78 _ rfl)
  b_str := He.free_ok X G (hf 79 _ rfl)
  b_bool := He.free_ok X G (hf 80 _ rfl)
  b_divmod := He.free_ok X G (hf 81 _ rfl)
  b_all := He.free_ok X G (hf 82 _ rfl)
  b_sum := He.free_ok X G (hf 83 _ rfl)
  b_ValueError := He.free_ok X G (hf 84 _ rfl)
  i_MOST_SWITCHES := He.int_ok X G (hf 85 _ rfl)
  i_MOST_SETTINGS := He.int_ok X G (hf 86 _ rfl)
  i_MOST_CHOICES := He.int_ok X G (hf 87 _ rfl)
  i_MOST_RULES := He.int_ok X G (hf 88 _ rfl)
  i_LETTERS := He.str_ok X G (hf 89 _ rfl)
  kp_NoPart := He.keep_ok (hf 90 _ rfl)
  x_NoPart := He.exm_ok (hf 91 _ rfl)
  f_EditError_init := hd 0 _ rfl
  f_Plain_init := hd 1 _ rfl
  f_Plain_state := hd 2 _ rfl
  f_Plain_names := hd 3 _ rfl
  f_Plain_lay := hd 4 _ rfl
  f_choices_of := hd 5 _ rfl
  f_least_choice := hd 6 _ rfl
  f_is_whole := hd 7 _ rfl
  f_is_of := hd 8 _ rfl
  f_is_word := hd 9 _ rfl
  f_added_pair := hd 10 _ rfl
  f_by_least := hd 11 _ rfl
  f_Book_init := hd 12 _ rfl
  f_Book_gather := hd 13 _ rfl
  f_Book_records_of := hd 14 _ rfl
  f_Book_where := hd 15 _ rfl
  f_Book_places := hd 16 _ rfl
  f_Book_contents := hd 17 _ rfl
  f_gathered := hd 18 _ rfl
  f_are_settings := hd 19 _ rfl
  f_are_switches := hd 20 _ rfl
  f_Panel_init := hd 21 _ rfl
  f_Panel_told_rules := hd 22 _ rfl
  f_Panel_are_terms := hd 23 _ rfl
  f_Panel_copied_terms := hd 24 _ rfl
  f_Panel_told := hd 25 _ rfl
  f_Panel_all_choices := hd 26 _ rfl
  f_Panel_box := hd 27 _ rfl
  f_Panel_allowed := hd 28 _ rfl
  f_law_cell := hd 29 _ rfl
  f_law_mix := hd 30 _ rfl
  f_law_spelt := hd 31 _ rfl
  f_law_switches := hd 32 _ rfl
  f_law_digits := hd 33 _ rfl
  f_law_total := hd 34 _ rfl
  f_law_rules := hd 35 _ rfl
  f_law_barred := hd 36 _ rfl
  f_law_world := hd 37 _ rfl
  f_law_text := hd 38 _ rfl
  f_law_content := hd 39 _ rfl
  f_law_tree := hd 40 _ rfl
  f_law_names := hd 41 _ rfl
  f_law_variant := hd 42 _ rfl
  f_law_plain := hd 43 _ rfl
  f_law_made := hd 44 _ rfl
  f_law_book := hd 45 _ rfl
  f_law_whole := hd 46 _ rfl
  f_law_sorted_out := hd 47 _ rfl
  f_law_pairs := hd 48 _ rfl
  f_law_told_of := hd 49 _ rfl
  f_law_refused := hd 50 _ rfl
  f_law := hd 51 _ rfl
end ML

set_option Elab.async false
set_option linter.all false
set_option maxRecDepth 100000
set_option maxHeartbeats 4000000
namespace ML
open PySem PySem.Spec PyProof.Rows L2
/-! ### a def with its promise, as callers want it -/
structure OkF (P : Program) (w : World) (K : PySem.W.Frag) (mg : Str → Option Value) (base : Heap) (CX : CXT) (k : Nat) (x : Str) (ps : List Str) (sp : Sp) : Prop where
  ex : ∃ fd, FnOk P w K mg base CX k (He.ga K x) fd ps sp ∧ Binds K fd ps []
  kp : PySem.W.keepIn K (.ref (He.ga K x)) = true
  g : mg x = some (.ref (He.ga K x))
/-- a method of the class named C -/
structure OkM (P : Program) (w : World) (K : PySem.W.Frag) (mg : Str → Option Value) (base : Heap) (CX : CXT) (k : Nat) (C m : Str) (ps : List Str) (sp : Sp) : Prop where
  ex : ∃ fd, FnOk P w K mg base CX k (He.ma K (He.ga K C) m) fd ps sp ∧ Binds K fd ps []
  cl : Cls K (He.ga K C)
  me : Meth K (He.ga K C) m (He.ma K (He.ga K C) m)
/-- a class with its __init__; dvs: the defaults behind -/
structure OkI (P : Program) (w : World) (K : PySem.W.Frag) (mg : Str → Option Value) (base : Heap) (CX : CXT) (k : Nat) (C : Str) (ps : List Str) (dvs : List V) (sp : Sp) : Prop where
  ex : ∃ fd ds, FnOk P w K mg base CX k (He.ma K (He.ga K C) "__init__") fd ps sp ∧ Binds K fd ps ds ∧ Vals dvs ds
  mk_ : Mk K (He.ga K C) (He.ma K (He.ga K C) "__init__")
  g : mg C = some (.ref (He.ga K C))
section
variable {X : Cx} {k n : Nat} {x C m : Str} {ps : List Str} {sp : Sp} {e o : Expr} {es : List Expr} {t : TA} {ta : TE} {p pos apos : Pos} {dvs : List V} {CX : CXT} {E : XK}
theorem pe_callD (O : OkF X.prog X.w X.K X.mg X.base CX k x ps sp) (hr : Room n X.A) (hx : Passes CX X E) (ha : PA X (e :: es) t) (hk : k ≤ n := by decide) (hg : Gl X x := by rfl)
    (hdb : (x == ("__debug__" : Str)) = false := by decide) (he : starEach (e :: es) X.env = (false, eval e X.env) :: starEach es X.env := by rfl) (hpl : (backTo pos (starEach es X.env)).any (·.1) = false := by rfl) :
    PE X (.Call (.Name x p) (e :: es) [] pos) (tCall sp [] E t) := by
  obtain ⟨fd, F, b⟩ := O.ex
  exact pe_call F (hr.mono hk) hg O.g O.kp b .nil hx ha hdb he hpl
theorem pe_methD {pl : Sem Bool} (ho : PE X o ta) (O : OkM X.prog X.w X.K X.mg X.base CX k C m ps sp) (hr : Room n X.A) (hx : Passes CX X E) (ha : PA X (e :: es) t) (hk : k ≤ n := by decide)
    (hst : starEach (e :: es) X.env = (false, eval e X.env) :: starEach es X.env := by rfl) (hpl : (backTo pos (starEach es X.env)).any (·.1) = false := by rfl)
    (ht : eval (.Call (.Attribute o m apos) (e :: es) [] pos) X.env = (do
      let ov ← eval o X.env
      standAt apos.atName
      let (f, first) ← holding [ov] (getMethod ov m pl)
      callWith pos f first (backTo pos (starEach (e :: es) X.env)) (backToKw pos (keywordEach [] X.env))) := by rfl) :
    PE X (.Call (.Attribute o m apos) (e :: es) [] pos) (tMeth (He.ga X.K C) m sp [] E ta t) := by
  obtain ⟨fd, F, b⟩ := O.ex
  exact pe_meth ho O.cl O.me F (hr.mono hk) b .nil hx ha hst hpl ht
theorem pe_methD0 {pl : Sem Bool} (ho : PE X o ta) (O : OkM X.prog X.w X.K X.mg X.base CX k C m ps sp) (hr : Room n X.A) (hx : Passes CX X E) (hk : k ≤ n := by decide)
    (ht : eval (.Call (.Attribute o m apos) [] [] pos) X.env = (do
      let ov ← eval o X.env
      standAt apos.atName
      let (f, first) ← holding [ov] (getMethod ov m pl)
      callWith pos f first (backTo pos (starEach [] X.env)) (backToKw pos (keywordEach [] X.env))) := by rfl) :
    PE X (.Call (.Attribute o m apos) [] [] pos) (tMeth (He.ga X.K C) m sp [] E ta tNil) := by
  obtain ⟨fd, F, b⟩ := O.ex
  exact pe_meth0 ho O.cl O.me F (hr.mono hk) b .nil hx ht
theorem pe_makeD (O : OkI X.prog X.w X.K X.mg X.base CX k C ps dvs sp) (hr : Room n X.A) (hx : Passes CX X E) (ha : PA X (e :: es) t) (hk : k + 1 ≤ n := by decide) (hg : Gl X C := by rfl)
    (hdb : (C == ("__debug__" : Str)) = false := by decide) (he : starEach (e :: es) X.env = (false, eval e X.env) :: starEach es X.env := by rfl) (hpl : (backTo pos (starEach es X.env)).any (·.1) = false := by rfl) :
    PE X (.Call (.Name C p) (e :: es) [] pos) (tMake (He.ga X.K C) sp dvs E t) := by
  obtain ⟨fd, ds, F, b, d⟩ := O.ex
  exact pe_make O.mk_ F (hr.mono hk) hg O.g b d hx ha hdb he hpl
theorem pe_makeD0 (O : OkI X.prog X.w X.K X.mg X.base CX k C ps dvs sp) (hr : Room n X.A) (hx : Passes CX X E) (hk : k + 1 ≤ n := by decide) (hg : Gl X C := by rfl)
    (hdb : (C == ("__debug__" : Str)) = false := by decide) : PE X (.Call (.Name C p) [] [] pos) (tMake (He.ga X.K C) sp dvs E tNil) := by
  obtain ⟨fd, ds, F, b, d⟩ := O.ex
  exact pe_make0 O.mk_ F (hr.mono hk) hg O.g b d hx hdb
/-- x = e, the slot's kind found -/
theorem ps_sv (i : Nat) {y : Str} {ey : Expr} {py ps : Pos} {te : TE} (hN : X.N.Nodup) (he : PE X ey te) (hi : X.N[i]? = some y := by rfl) (hx : Loc X.env.scope y := by first | exact Or.inl rfl | exact Or.inr rfl)
    (hs : swapsWith ey (some (.Name y py)) ps.line X.env = pure false := by rfl) (hf : X.fn y = true ∨ X.env.scope.names.lookup y = some .local := by first | exact .inl rfl | exact .inr rfl) :
    PS X (.Assign [.Name y py] ey ps) (tAsg te (gName i)) := ps_set hN hi hx he hs hf
theorem pg_nm (i : Nat) {y : Str} {py : Pos} (hN : X.N.Nodup) (hi : X.N[i]? = some y := by rfl) (hx : Loc X.env.scope y := by first | exact Or.inl rfl | exact Or.inr rfl)
    (hf : X.fn y = true ∨ X.env.scope.names.lookup y = some .local := by first | exact .inl rfl | exact .inr rfl) : PG X (.Name y py) (gName i) := pg_name hN hi hx hf
end
/-! ### heaps -/
theorem same_upd {H : Hp} {p : Addr} {o : HO} (h : H p = none) : Same H (upd H p o) := fun b x e => by
  rw [upd_ne (ne_of_none e h)]
  exact e
/-- all but what stands at p -/
def But (p : Addr) (H H' : Hp) : Prop := ∀ b o, H b = some o → b ≠ p → H' b = some o
theorem But.trans {p : Addr} {H H1 H2 : Hp} (a : But p H H1) (b : But p H1 H2) : But p H H2 := fun c o h n => b c o (a c o h n) n
theorem But.of {p : Addr} {H H' : Hp} (s : Same H H') : But p H H' := fun b o e _ => s b o e
theorem But.upd {p : Addr} {H : Hp} {o : HO} : But p H (upd H p o) := fun b x e n => by
  rw [upd_ne n]
  exact e
end ML
namespace L2
open PySem PySem.Spec PyProof.Rows
theorem Same.seqT {K : PySem.W.Frag} {H H' : Hp} {a : Addr} {xs : List V} (e : Same H H') (h : SqT K H a xs) : SqT K H' a xs := by
  rcases h with (h | ⟨o, h⟩) | h
  · exact .inl (.inl (e _ _ h))
  · exact .inl (.inr ⟨o, e _ _ h⟩)
  · exact .inr h
end L2
namespace ML
open PySem PySem.Spec PyProof.Rows L2
/-! ### tests that change nothing -/
theorem and_t {tA tB : TT} {σ : L2.St} {H : Hp} {Q : Bool → Hp → Prop} {a b : Bool} (hA : ∀ Q : Bool → Hp → Prop, Q a H → tA σ H Q) (hB : a = true → ∀ Q : Bool → Hp → Prop, Q b H → tB σ H Q) (h : Q (a && b) H) : tAnd tA tB σ H Q := by
  refine hA _ ?_
  cases a with
  | false => exact iteF h
  | true => exact iteT (hB rfl _ h)
theorem or_t {tA tB : TT} {σ : L2.St} {H : Hp} {Q : Bool → Hp → Prop} {a b : Bool} (hA : ∀ Q : Bool → Hp → Prop, Q a H → tA σ H Q) (hB : a = false → ∀ Q : Bool → Hp → Prop, Q b H → tB σ H Q) (h : Q (a || b) H) : tOr tA tB σ H Q := by
  refine hA _ ?_
  cases a with
  | false => exact iteF (hB rfl _ h)
  | true => exact iteT h
/-- a test's answer, then the two ways -/
theorem if_t {tA : TT} {t u : TS} {D : Ends} {σ : L2.St} {H : Hp} {a : Bool} (hA : ∀ Q : Bool → Hp → Prop, Q a H → tA σ H Q) (h1 : a = true → t D σ H) (h2 : a = false → u D σ H) : tIfS tA t u D σ H := by
  refine hA _ ?_
  cases a with
  | false => exact iteF (h2 rfl)
  | true => exact iteT (h1 rfl)
end ML
namespace ML
open PySem PySem.Spec PyProof.Rows L2
/-! ### rules whose reading names the written part, told of a K of one's own: within a comprehension -/
section
variable {X : Cx} {k n : Nat} {x C m : Str} {ps : List Str} {sp : Sp} {e o : Expr} {es : List Expr} {t : TA} {ta : TE} {p pos apos : Pos} {CX : CXT} {E : XK}
theorem ix_listK (K : PySem.W.Frag) (h : X.K = K := by rfl) : IxR X (rIxL K) := h ▸ ix_list
theorem ix_tupK (K : PySem.W.Frag) (h : X.K = K := by rfl) : IxR X (rIxT K) := h ▸ ix_tup
theorem op_in_seqK (K : PySem.W.Frag) (h : X.K = K := by rfl) : OpR X (compareOp .In) (rIn K false) := h ▸ op_in_seq
theorem op_eqDK (K : PySem.W.Frag) (hu : X.A.units + 64 < cLine) (h : X.K = K := by rfl) : OpR X (compareOp .Eq) (rEqD K) := h ▸ op_eqD hu
def rLen_ (K : PySem.W.Frag) : List V → Hp → VK → Prop := fun xs H Q => ∃ p ys, xs = [.ref p] ∧ (SqL K H p ys ∨ SqT K H p ys) ∧ Q (.int ys.length) H
theorem call_lenK (K : PySem.W.Frag) (h : X.K = K := by rfl) : CallR X (.builtin "len") (rLen_ K) := h ▸ call_len_seq
def rLst_ (K : PySem.W.Frag) : List V → Hp → VK → Prop := fun xs H Q => ∃ p ys, xs = [.ref p] ∧ (SqL K H p ys ∨ SqT K H p ys) ∧ ∀ l, H l = none → Q (.ref l) (upd H l (.lst ys))
theorem call_list_ofK (K : PySem.W.Frag) (h : X.K = K := by rfl) : CallR X (.type "list") (rLst_ K) := h ▸ call_list_of
def rTup_ (K : PySem.W.Frag) : List V → Hp → VK → Prop := fun xs H Q => ∃ p ys, xs = [.ref p] ∧ ((SqL K H p ys ∧ ∀ l, H l = none → Q (.ref l) (upd H l (.tup ys))) ∨ (SqT K H p ys ∧ Q (.ref p) H))
theorem call_tuple_ofK (K : PySem.W.Frag) (h : X.K = K := by rfl) : CallR X (.type "tuple") (rTup_ K) := h ▸ call_tuple_of
theorem pe_fldK (K : PySem.W.Frag) {f : Str} (ho : PE X o ta) (hb : attributeBase o f X.env (eval o X.env) = eval o X.env := by rfl) (h : X.K = K := by rfl) : PE X (.Attribute o f pos) (tFld K ta f) := h ▸ pe_fld ho hb
theorem pe_methDK (K : PySem.W.Frag) {pl : Sem Bool} (ho : PE X o ta) (O : OkM X.prog X.w X.K X.mg X.base CX k C m ps sp) (hr : Room n X.A) (hx : Passes CX X E) (ha : PA X (e :: es) t) (hk : k ≤ n := by decide)
    (hst : starEach (e :: es) X.env = (false, eval e X.env) :: starEach es X.env := by rfl) (hpl : (backTo pos (starEach es X.env)).any (·.1) = false := by rfl)
    (ht : eval (.Call (.Attribute o m apos) (e :: es) [] pos) X.env = (do
      let ov ← eval o X.env
      standAt apos.atName
      let (f, first) ← holding [ov] (getMethod ov m pl)
      callWith pos f first (backTo pos (starEach (e :: es) X.env)) (backToKw pos (keywordEach [] X.env))) := by rfl) (h : X.K = K := by rfl) :
    PE X (.Call (.Attribute o m apos) (e :: es) [] pos) (tMeth (He.ga K C) m sp [] E ta t) := h ▸ pe_methD ho O hr hx ha hk hst hpl ht
end
end ML

set_option Elab.async false
set_option linter.all false
set_option maxRecDepth 100000
set_option maxHeartbeats 4000000
namespace ML
open PySem PySem.Spec PyProof.Rows L2
/-! ### _law_cell, _law_mix -/
def mixL (c k : Int) : Int := c / 2 ^ (27 * k + 1).toNat
def mixN (c k : Int) : Int := (c + 7919 * k) * 48271 % 2147483647
def mixM (c k : Int) : Int := mixN c k * mixN c k % 2147483629
def mixB (c k : Int) : Bool := decide (V.int (c % 2) = V.int 0) && (!decide (V.int (mixL c k) = V.int 0) && !decide (V.int (mixL c k) = V.int (-1)))
def mixF (c k : Int) : Int := if mixB c k = true then Builtin.bitAnd (mixL c k) 134217727 else mixM c k * (mixM c k + 3) % 2147483587 / 32
theorem mul_ok {i m : Int} (hm : 0 < m) (h : m < 2 ^ 64) : -(2 ^ 64) < i % m ∧ i % m < 2 ^ 64 := by
  have h1 := Int.emod_nonneg i (Int.ne_of_gt hm)
  have h2 := Int.emod_lt_of_pos i hm
  omega
def spMix : Sp := fun vs H Q _ => ∃ c k : Int, vs = [.int c, .int k] ∧ 0 ≤ k ∧ Q (.int (mixF c k)) H
/-- the script's k-th cell: some number -/
def spCell_ (K : PySem.W.Frag) : Sp := fun vs H Q _ => ∃ (a : Addr) (ns : List Int) (k : Nat), vs = [.ref a, .int (k : Int)] ∧ SqL K H a (ns.map V.int) ∧ ∀ c : Int, Q (.int c) H
section
variable {P : Program} {w : World} {K : PySem.W.Frag} {mg : Str → Option Value} {base : Heap}
theorem ok_mix (T : Txt K mg) : OkF P w K mg base CX0 1 "_law_mix" ["_law_cell_here", "_law_k"] spMix := by
  obtain ⟨fd, F⟩ := T.f_law_mix
  refine ⟨⟨fd, ?_, F.bindsN fun _ _ _ _ _ _ us hl => match us, hl with | [_, _], _ => rfl⟩, F.kp, T.g_law_mix⟩
  refine F.ok sc_law_mix (fun vs H Q E h => ?_) (fun cdv A outer s H vs Q E hr h => ?_)
  · obtain ⟨c, k, rfl, _⟩ := h
    rfl
  · obtain ⟨c, k, rfl, hk, q⟩ := h
    have nd := sc_law_mix.nd
    refine ⟨_, PSs.nox (pss_cons (ps_sv 2 nd (pe_op op_shr (pv 0) (pe_op op_add (pe_op op_mul pe_int (pv 1)) pe_int)))
      (pss_cons (ps_if (PW.pt (pw_and (pt_cmpR op_eq (pe_op op_mod (pv 0) pe_int) pe_int (nomark _)) (pw_and (pt_cmpR op_ne (pv 2) pe_int (nomark _)) (pw_and1 (pt_cmpR op_ne (pv 2) (pe_un un_neg pe_int) (nomark _))))))
          (pss_one (ps_ret (pe_op op_and (pv 2) pe_int))) pss_nil)
      (pss_cons (ps_sv 3 nd (pe_op op_mod (pe_op op_mul (pe_op op_add (pv 0) (pe_op op_mul pe_int (pv 1))) pe_int) pe_int))
      (pss_cons (ps_sv 3 nd (pe_op op_mod (pe_op op_mul (pv 3) (pv 3)) pe_int))
      (pss_one (ps_ret (pe_op op_fdiv (pe_op op_mod (pe_op op_mul (pv 3) (pe_op op_add (pv 3) pe_int)) pe_int) pe_int))))))), ?_⟩
    refine ⟨_, rfl, _, rfl, _, _, rfl, rfl, .inl ⟨by decide, by decide⟩, _, _, rfl, rfl, _, _, rfl, rfl, by omega, ?_⟩
    dsimp only [gName, tSeq]
    refine if_t (a := mixB c k) (fun Q h => and_t (fun Q h => ?_) (fun _ Q h => and_t (fun Q h => ?_) (fun _ Q h => ?_) h) h) (fun hb => ?_) (fun hb => ?_)
    · exact ⟨_, rfl, _, _, rfl, rfl, (show (0 : Int) < 2 by decide), rfl, _, rfl, h⟩
    · exact ⟨_, rfl, rfl, _, rfl, h⟩
    · exact ⟨_, rfl, _, rfl, rfl, _, rfl, h⟩
    · refine ⟨_, rfl, _, _, rfl, rfl, ?_⟩
      have e : mixF c k = Builtin.bitAnd (mixL c k) 134217727 := if_pos hb
      rw [e] at q
      exact q
    · have e : mixF c k = mixM c k * (mixM c k + 3) % 2147483587 / 32 := if_neg (by rw [hb]; decide)
      rw [e] at q
      refine ⟨_, rfl, _, rfl, _, _, rfl, rfl, .inl ⟨by decide, by decide⟩, _, _, rfl, rfl, _, _, rfl, rfl, .inr ⟨by decide, by decide⟩, _, _, rfl, rfl, (show (0 : Int) < 2147483647 by decide), ?_⟩
      refine ⟨_, rfl, _, rfl, _, _, rfl, rfl, .inl (mul_ok (by decide) (by decide)), _, _, rfl, rfl, (show (0 : Int) < 2147483629 by decide), ?_⟩
      exact ⟨_, rfl, _, rfl, _, _, rfl, rfl, _, _, rfl, rfl, .inl (mul_ok (by decide) (by decide)), _, _, rfl, rfl, (show (0 : Int) < 2147483587 by decide), _, _, rfl, rfl, ⟨by decide, by decide⟩, q⟩
theorem ok_cell_ (T : Txt K mg) : OkF P w K mg base CX0 1 "_law_cell" ["_law_script", "_law_k"] (spCell_ K) := by
  obtain ⟨fd, F⟩ := T.f_law_cell
  refine ⟨⟨fd, ?_, F.bindsN fun _ _ _ _ _ _ us hl => match us, hl with | [_, _], _ => rfl⟩, F.kp, T.g_law_cell⟩
  refine F.ok sc_law_cell (fun vs H Q E h => ?_) (fun cdv A outer s H vs Q E hr h => ?_)
  · obtain ⟨a, ns, k, rfl, _⟩ := h
    rfl
  · obtain ⟨a, ns, k, rfl, hS, q⟩ := h
    refine ⟨_, PSs.nox (pss_cons (ps_if (pt_cmpR op_lt (pv 1) (pe_callB call_len_seq (by rfl) T.b_len PySem.boot_len (pa_cons (pv 0) pa_nil)) (nomark _)) (pss_one (ps_ret (pe_ix ix_list (pv 0) (pv 1) (fun _ _ => rfl)))) pss_nil)
      (pss_one (ps_ret pe_int))), ?_⟩
    refine ⟨_, rfl, _, rfl, _, _, rfl, .inl hS, _, _, rfl, rfl, _, rfl, ite2 (fun h => ?_) (fun h => ?_)⟩
    · have h1 : (k : Int) < ((ns.map V.int).length : Nat) := of_decide_eq_true h
      rw [List.length_map] at h1
      have h2 : k < ns.length := by omega
      exact ⟨_, rfl, _, rfl, a, _, _, .int ns[k], rfl, rfl, hS, atI_nat (by rw [List.getElem?_map, List.getElem?_eq_getElem h2]; rfl), q _⟩
    · exact q 0
end
end ML

set_option Elab.async false
set_option linter.all false
set_option maxRecDepth 100000
set_option maxHeartbeats 1000000
/-! the plain law: sets of choices as numbers, groups of things with their choices -/
namespace MM
open PySem
/-! ### bits -/
theorem bitNot_neg (n : Nat) : Builtin.bitNot (n : Int) < 0 := by unfold Builtin.bitNot; omega
theorem or_nat (a b : Nat) : Builtin.bitOr (a : Int) (b : Int) = ((a ||| b : Nat) : Int) := by
  unfold Builtin.bitOr Builtin.bitAnd
  have h1 : decide (0 ≤ Builtin.bitNot (a : Int)) = false := decide_eq_false (Int.not_le.mpr (bitNot_neg a))
  have h2 : decide (0 ≤ Builtin.bitNot (b : Int)) = false := decide_eq_false (Int.not_le.mpr (bitNot_neg b))
  rw [h1, h2]
  have e : ∀ n : Int, Builtin.bitNot (Builtin.bitNot n) = n := fun n => by unfold Builtin.bitNot; omega
  simp only [e, Int.toNat_natCast]
theorem and_nat (a b : Nat) : Builtin.bitAnd (a : Int) (b : Int) = ((a &&& b : Nat) : Int) := by
  unfold Builtin.bitAnd
  have h1 : decide (0 ≤ (a : Int)) = true := decide_eq_true (by omega)
  have h2 : decide (0 ≤ (b : Int)) = true := decide_eq_true (by omega)
  rw [h1, h2]
  simp only [Int.toNat_natCast]
theorem and_add_or : ∀ a b : Nat, (a &&& b) + (a ||| b) = a + b := by
  intro a
  induction a using Nat.strongRecOn with
  | ind a ih =>
    intro b
    by_cases h0 : a = 0
    · subst h0; simp
    · have hlt : a / 2 < a := by omega
      have i := ih (a / 2) hlt (b / 2)
      have e1 : (a &&& b) / 2 = a / 2 &&& b / 2 := Nat.and_div_two
      have e2 : (a ||| b) / 2 = a / 2 ||| b / 2 := Nat.or_div_two
      have m1 := @Nat.and_mod_two_eq_one a b
      have m2 := @Nat.or_mod_two_eq_one a b
      omega
theorem xor_add : ∀ a b : Nat, (a ^^^ b) + (a &&& b) = (a ||| b) := by
  intro a
  induction a using Nat.strongRecOn with
  | ind a ih =>
    intro b
    by_cases h0 : a = 0
    · subst h0; simp
    · have hlt : a / 2 < a := by omega
      have i := ih (a / 2) hlt (b / 2)
      have e1 : (a &&& b) / 2 = a / 2 &&& b / 2 := Nat.and_div_two
      have e2 : (a ||| b) / 2 = a / 2 ||| b / 2 := Nat.or_div_two
      have e3 : (a ^^^ b) / 2 = a / 2 ^^^ b / 2 := Nat.xor_div_two
      have m1 := @Nat.and_mod_two_eq_one a b
      have m2 := @Nat.or_mod_two_eq_one a b
      have m3 := @Nat.xor_mod_two_eq_one a b
      omega
theorem xor_nat (a b : Nat) : Builtin.bitXor (a : Int) (b : Int) = ((a ^^^ b : Nat) : Int) := by
  unfold Builtin.bitXor
  rw [or_nat, and_nat]
  have h := xor_add a b
  omega
/-! ### the least choice of a set -/
def IsLeast (S n : Nat) : Prop := S.testBit n = true ∧ ∀ m, m < n → S.testBit m = false
theorem IsLeast.uniq {S n m : Nat} (h : IsLeast S n) (h' : IsLeast S m) : n = m := by
  rcases Nat.lt_trichotomy n m with q | q | q
  · have := h'.2 n q
    rw [h.1] at this; cases this
  · exact q
  · have := h.2 m q
    rw [h'.1] at this; cases this
theorem exists_least {S : Nat} (h : 0 < S) : ∃ n, IsLeast S n := by
  have key : ∀ k, (∀ m, m < k → S.testBit m = false) ∨ ∃ n, IsLeast S n := by
    intro k
    induction k with
    | zero => exact .inl fun m hm => absurd hm (Nat.not_lt_zero _)
    | succ k ih =>
      rcases ih with ih | ih
      · by_cases hb : S.testBit k = true
        · exact .inr ⟨k, hb, ih⟩
        · refine .inl fun m hm => ?_
          rcases Nat.lt_succ_iff_lt_or_eq.mp hm with q | q
          · exact ih m q
          · subst q; simpa using hb
      · exact .inr ih
  rcases key S with q | q
  · exfalso
    have e : S = 0 := Nat.eq_of_testBit_eq fun i => by
      rw [Nat.zero_testBit]
      by_cases hi : i < S
      · exact q i hi
      · exact Nat.testBit_lt_two_pow (Nat.lt_of_lt_of_le Nat.lt_two_pow_self (Nat.pow_le_pow_right (by decide) (Nat.le_of_not_lt hi)))
    omega
  · exact q
open Classical in
noncomputable def low (S : Nat) : Nat := if h : ∃ n, IsLeast S n then h.choose else 0
theorem low_is {S : Nat} (h : 0 < S) : IsLeast S (low S) := by
  unfold low
  rw [dif_pos (exists_least h)]
  exact (exists_least h).choose_spec
theorem low_eq {S n : Nat} (h : IsLeast S n) : low S = n := by
  have hp : 0 < S := by
    rcases Nat.eq_zero_or_pos S with q | q
    · have := h.1
      rw [q, Nat.zero_testBit] at this; cases this
    · exact q
  exact (low_is hp).uniq h
theorem low_lt {S B : Nat} (h : 0 < S) (hB : S < 2 ^ B) : low S < B := by
  have h1 := (low_is h).1
  refine Nat.lt_of_not_le fun q => ?_
  rw [Nat.testBit_lt_two_pow (Nat.lt_of_lt_of_le hB (Nat.pow_le_pow_right (by decide) q))] at h1
  cases h1
theorem low_pow (n : Nat) : low (2 ^ n) = n := low_eq ⟨Nat.testBit_two_pow_self, fun m hm => by rw [Nat.testBit_two_pow]; exact decide_eq_false (by omega)⟩
theorem low_or {S n : Nat} (h : 0 < S) (hn : S < 2 ^ n) : low (S ||| 2 ^ n) = low S := by
  have l := low_is h
  have lt := low_lt h hn
  refine low_eq ⟨by rw [Nat.testBit_or, l.1, Bool.true_or], fun m hm => ?_⟩
  rw [Nat.testBit_or, l.2 m hm, Nat.testBit_two_pow, Bool.false_or]
  exact decide_eq_false (by omega)
theorem add_or {S n : Nat} (h : S < 2 ^ n) : S + 2 ^ n = S ||| 2 ^ n := by
  have e := Nat.two_pow_add_eq_or_of_lt h 1
  rw [Nat.mul_one] at e
  rw [Nat.add_comm, e, Nat.or_comm]
theorem or_lt {S n : Nat} (h : S < 2 ^ n) : (S ||| 2 ^ n) < 2 ^ (n + 1) := by
  rw [← add_or h, Nat.pow_succ]; omega
/-! ### groups -/
section
variable {α β : Type} [DecidableEq α] [DecidableEq β]
def addR (ps : List (Nat × α)) (c : Nat) (t : α) : List (Nat × α) :=
  ps.map (fun p => if p.2 = t then (p.1 ||| c, p.2) else p) ++ (if t ∈ ps.map (·.2) then [] else [(c, t)])
def upR (c : Nat) (t : α) (p : Nat × α) : Nat × α := if p.2 = t then (p.1 ||| c, p.2) else p
theorem upR_snd (c : Nat) (t : α) (p : Nat × α) : (upR c t p).2 = p.2 := by unfold upR; split <;> rfl
theorem map_upR_snd (c : Nat) (t : α) (ps : List (Nat × α)) : (ps.map (upR c t)).map (·.2) = ps.map (·.2) := by
  rw [List.map_map]
  exact List.map_congr_left fun p _ => upR_snd c t p
theorem map_upR_no {c : Nat} {t : α} : ∀ {ps : List (Nat × α)}, ¬ t ∈ ps.map (·.2) → ps.map (upR c t) = ps
  | [], _ => rfl
  | p :: r, h => by
    rw [List.map_cons, map_upR_no (ps := r) fun q => h (List.mem_cons_of_mem _ q)]
    have e : upR c t p = p := if_neg fun q => h (by rw [← q]; exact List.mem_cons_self)
    rw [e]
theorem addR_in {ps : List (Nat × α)} {c : Nat} {t : α} (h : t ∈ ps.map (·.2)) : addR ps c t = ps.map (upR c t) := by
  show ps.map (upR c t) ++ (if t ∈ ps.map (·.2) then [] else [(c, t)]) = _
  rw [if_pos h, List.append_nil]
theorem addR_new {ps : List (Nat × α)} {c : Nat} {t : α} (h : ¬ t ∈ ps.map (·.2)) : addR ps c t = ps ++ [(c, t)] := by
  show ps.map (upR c t) ++ (if t ∈ ps.map (·.2) then [] else [(c, t)]) = _
  rw [if_neg h, map_upR_no h]
theorem addR_keys (ps : List (Nat × α)) (c : Nat) (t : α) : (addR ps c t).map (·.2) = if t ∈ ps.map (·.2) then ps.map (·.2) else ps.map (·.2) ++ [t] := by
  by_cases h : t ∈ ps.map (·.2)
  · rw [addR_in h, if_pos h, map_upR_snd]
  · rw [addR_new h, if_neg h, List.map_append]; rfl
theorem mem_addR {ps : List (Nat × α)} {c : Nat} {t b : α} (h : b ∈ ps.map (·.2)) : b ∈ (addR ps c t).map (·.2) := by
  rw [addR_keys]
  split
  · exact h
  · exact List.mem_append_left _ h
theorem nodup_snoc {l : List α} {x : α} (h : l.Nodup) (hx : ¬ x ∈ l) : (l ++ [x]).Nodup := by
  rw [List.nodup_append]
  refine ⟨h, by simp, fun a ha b hb e => ?_⟩
  rw [List.mem_singleton] at hb
  exact hx (by rw [← hb, ← e]; exact ha)
theorem nodup_addR {ps : List (Nat × α)} {c : Nat} {t : α} (h : (ps.map (·.2)).Nodup) : ((addR ps c t).map (·.2)).Nodup := by
  rw [addR_keys]
  split
  · exact h
  · rename_i q
    exact nodup_snoc h q
theorem upR_upR_same (x c : Nat) (a : α) (p : Nat × α) : upR c a (upR x a p) = upR (x ||| c) a p := by
  unfold upR
  by_cases h : p.2 = a
  · rw [if_pos h, if_pos h, if_pos h, Nat.or_assoc]
  · rw [if_neg h, if_neg h, if_neg h]
theorem upR_comm {x c : Nat} {a b : α} (p : Nat × α) : upR c b (upR x a p) = upR x a (upR c b p) := by
  unfold upR
  by_cases h : p.2 = a
  · by_cases h' : p.2 = b
    · simp only [h, if_true]
      have e : a = b := h.symm.trans h'
      subst e
      simp only [if_true, Nat.or_assoc, Nat.or_comm x c]
    · have n : ¬ a = b := fun e => h' (h.trans e)
      simp only [h, n, if_true, if_false]
  · by_cases h' : p.2 = b
    · have n : ¬ b = a := fun e => h (h'.trans e)
      simp only [h', n, if_true, if_false]
    · simp only [h, h', if_false]
theorem addR_absorb (M : List (Nat × α)) (x c : Nat) (b : α) : addR (addR M x b) c b = addR M (x ||| c) b := by
  by_cases h : b ∈ M.map (·.2)
  · rw [addR_in (mem_addR h), addR_in h, addR_in h, List.map_map]
    exact List.map_congr_left fun p _ => upR_upR_same x c b p
  · have hm : b ∈ (addR M x b).map (·.2) := by
      rw [addR_keys, if_neg h]; simp
    rw [addR_in hm, addR_new h, addR_new h, List.map_append, map_upR_no h]
    show M ++ [upR c b (x, b)] = _
    have e : upR c b (x, b) = (x ||| c, b) := if_pos rfl
    rw [e]
theorem addR_comm {M : List (Nat × α)} {x c : Nat} {a b : α} (h : b ∈ M.map (·.2)) : addR (addR M c b) x a = addR (addR M x a) c b := by
  by_cases ha : a ∈ M.map (·.2)
  · rw [addR_in (mem_addR ha), addR_in h, addR_in (mem_addR h), addR_in ha, List.map_map, List.map_map]
    exact List.map_congr_left fun p _ => upR_comm p
  · have h1 : ¬ a ∈ (addR M c b).map (·.2) := by rw [addR_in h, map_upR_snd]; exact ha
    have nab : ¬ a = b := fun e => ha (by rw [e]; exact h)
    rw [addR_new h1, addR_in h, addR_in (mem_addR h), addR_new ha, List.map_append]
    show _ ++ [(x, a)] = _ ++ [upR c b (x, a)]
    have e : upR c b (x, a) = (x, a) := if_neg nab
    rw [e]
/-- more groups by f -/
def foldR (f : α → β) (acc : List (Nat × β)) (L : List (Nat × α)) : List (Nat × β) := L.foldl (fun acc p => addR acc p.1 (f p.2)) acc
theorem foldR_put {f : α → β} : ∀ {L : List (Nat × α)} {acc : List (Nat × β)} {c : Nat} {b : β}, b ∈ acc.map (·.2) → foldR f (addR acc c b) L = addR (foldR f acc L) c b
  | [], _, _, _, _ => rfl
  | p :: r, acc, c, b, h => by
    show foldR f (addR (addR acc c b) p.1 (f p.2)) r = addR (foldR f (addR acc p.1 (f p.2)) r) c b
    rw [addR_comm h, foldR_put (L := r) (mem_addR h)]
theorem foldR_app {f : α → β} (acc : List (Nat × β)) (A B : List (Nat × α)) : foldR f acc (A ++ B) = foldR f (foldR f acc A) B := List.foldl_append
theorem split_at : ∀ {L : List (Nat × α)} {t : α}, (L.map (·.2)).Nodup → t ∈ L.map (·.2) → ∃ (A B : List (Nat × α)) (S : Nat), L = A ++ (S, t) :: B ∧ ¬ t ∈ A.map (·.2) ∧ ¬ t ∈ B.map (·.2)
  | [], t, _, h => by simp at h
  | p :: r, t, hn, h => by
    have hn' : ¬ p.2 ∈ r.map (·.2) ∧ (r.map (·.2)).Nodup := List.nodup_cons.mp hn
    by_cases e : p.2 = t
    · exact ⟨[], r, p.1, by rw [← e]; rfl, by simp, by rw [← e]; exact hn'.1⟩
    · have h' : t ∈ r.map (·.2) := by
        rcases List.mem_cons.mp (show t ∈ p.2 :: r.map (·.2) from h) with q | q
        · exact absurd q.symm e
        · exact q
      obtain ⟨A, B, S, e1, e2, e3⟩ := split_at hn'.2 h'
      refine ⟨p :: A, B, S, by rw [e1]; rfl, fun q => ?_, e3⟩
      rcases List.mem_cons.mp (show t ∈ p.2 :: A.map (·.2) from q) with q | q
      · exact e q.symm
      · exact e2 q
theorem foldR_add {f : α → β} {L : List (Nat × α)} {c : Nat} {t : α} (hn : (L.map (·.2)).Nodup) : foldR f [] (addR L c t) = addR (foldR f [] L) c (f t) := by
  by_cases h : t ∈ L.map (·.2)
  · rw [addR_in h]
    obtain ⟨A, B, S, rfl, hA, hB⟩ := split_at hn h
    rw [List.map_append, List.map_cons, map_upR_no hA, map_upR_no hB]
    have e : upR c t (S, t) = (S ||| c, t) := if_pos rfl
    rw [e, foldR_app, foldR_app]
    show foldR f (addR (foldR f [] A) (S ||| c) (f t)) B = addR (foldR f (addR (foldR f [] A) S (f t)) B) c (f t)
    rw [← addR_absorb, foldR_put]
    rw [addR_keys]
    split
    · assumption
    · simp
  · rw [addR_new h, foldR_app]; rfl
/-- the groups of a row -/
def grp (l : List (Nat × α)) : List (Nat × α) := l.foldl (fun acc x => addR acc x.1 x.2) []
theorem grp_snoc (l : List (Nat × α)) (x : Nat × α) : grp (l ++ [x]) = addR (grp l) x.1 x.2 := by unfold grp; rw [List.foldl_append]; rfl
theorem snoc_ind {γ : Type} {P : List γ → Prop} (h0 : P []) (hs : ∀ l x, P l → P (l ++ [x])) (l : List γ) : P l := by
  have key : ∀ r : List γ, P r.reverse := by
    intro r
    induction r with
    | nil => exact h0
    | cons x r ih => rw [List.reverse_cons]; exact hs _ _ ih
  have := key l.reverse
  rwa [List.reverse_reverse] at this
theorem nodup_grp (l : List (Nat × α)) : ((grp l).map (·.2)).Nodup := snoc_ind (P := fun l => ((grp l).map (·.2)).Nodup) (by simp [grp]) (fun l x h => by rw [grp_snoc]; exact nodup_addR h) l
theorem regroup (f : α → β) (l : List (Nat × α)) : foldR f [] (grp l) = grp (l.map fun x => (x.1, f x.2)) :=
  snoc_ind (P := fun l => foldR f [] (grp l) = grp (l.map fun x => (x.1, f x.2))) rfl (fun l x h => by
    rw [grp_snoc, foldR_add (nodup_grp l), h, List.map_append]
    show _ = grp (_ ++ [(x.1, f x.2)])
    rw [grp_snoc]) l
theorem grp_nil_iff (l : List (Nat × α)) : grp l = [] ↔ l = [] := by
  refine snoc_ind (P := fun l => grp l = [] ↔ l = []) (by simp [grp]) (fun l x _ => ?_) l
  rw [grp_snoc]
  constructor
  · intro h
    exfalso
    by_cases q : x.2 ∈ (grp l).map (·.2)
    · have := mem_addR (c := x.1) (t := x.2) q
      rw [h] at this; simp at this
    · rw [addR_new q] at h; simp at h
  · intro h; simp at h
theorem grp_len (l : List (Nat × α)) : (grp l).length ≤ l.length := snoc_ind (P := fun l => (grp l).length ≤ l.length) (by simp [grp]) (fun l x h => by
  rw [grp_snoc, List.length_append]
  by_cases q : x.2 ∈ (grp l).map (·.2)
  · rw [addR_in q, List.length_map]; simp; omega
  · rw [addR_new q, List.length_append]; simp; omega) l
/-- the sets stand in the order of their least choices; B: above all -/
structure Asc (ps : List (Nat × α)) (B : Nat) : Prop where
  pos : ∀ p ∈ ps, 0 < p.1 ∧ p.1 < 2 ^ B
  ord : (ps.map fun p => low p.1).Pairwise (· < ·)
theorem Asc.nil (B : Nat) : Asc ([] : List (Nat × α)) B := ⟨fun p h => absurd h (by simp), List.Pairwise.nil⟩
theorem Asc.add {ps : List (Nat × α)} {B n : Nat} (h : Asc ps B) (hB : B ≤ n) (t : α) : Asc (addR ps (2 ^ n) t) (n + 1) := by
  have up : ∀ S, S < 2 ^ B → S < 2 ^ n := fun S q => Nat.lt_of_lt_of_le q (Nat.pow_le_pow_right (by decide) hB)
  have lt1 : ∀ S, S < 2 ^ n → S < 2 ^ (n + 1) := fun S q => Nat.lt_trans q (Nat.pow_lt_pow_right (by decide) (by omega))
  have hup : ∀ p ∈ ps, 0 < (upR (2 ^ n) t p).1 ∧ (upR (2 ^ n) t p).1 < 2 ^ (n + 1) ∧ low (upR (2 ^ n) t p).1 = low p.1 := fun p hp => by
    obtain ⟨h1, h2⟩ := h.pos p hp
    unfold upR
    split
    · exact ⟨Nat.lt_of_lt_of_le h1 Nat.left_le_or, or_lt (up _ h2), low_or h1 (up _ h2)⟩
    · exact ⟨h1, lt1 _ (up _ h2), rfl⟩
  have hl : (ps.map (upR (2 ^ n) t)).map (fun p => low p.1) = ps.map fun p => low p.1 := by
    rw [List.map_map]
    exact List.map_congr_left fun p hp => (hup p hp).2.2
  by_cases q : t ∈ ps.map (·.2)
  · rw [addR_in q]
    refine ⟨fun p hp => ?_, by rw [hl]; exact h.ord⟩
    obtain ⟨p0, hp0, rfl⟩ := List.mem_map.mp hp
    exact ⟨(hup p0 hp0).1, (hup p0 hp0).2.1⟩
  · rw [addR_new q]
    refine ⟨fun p hp => ?_, ?_⟩
    · rcases List.mem_append.mp hp with z | z
      · exact ⟨(h.pos p z).1, lt1 _ (up _ (h.pos p z).2)⟩
      · rw [List.mem_singleton] at z
        subst z
        exact ⟨Nat.two_pow_pos n, Nat.pow_lt_pow_right (by decide) (by omega)⟩
    · rw [List.map_append, List.pairwise_append]
      refine ⟨h.ord, List.pairwise_singleton _ _, fun a ha b hb => ?_⟩
      obtain ⟨p, hp, rfl⟩ := List.mem_map.mp ha
      have hb' : b = n := by
        rw [List.map_singleton, List.mem_singleton] at hb
        rw [hb]; exact low_pow n
      rw [hb']
      exact Nat.lt_of_lt_of_le (low_lt (h.pos p hp).1 (h.pos p hp).2) hB
theorem Asc.mono {ps : List (Nat × α)} {B B' : Nat} (h : Asc ps B) (hB : B ≤ B') : Asc ps B' := ⟨fun p hp => ⟨(h.pos p hp).1, Nat.lt_of_lt_of_le (h.pos p hp).2 (Nat.pow_le_pow_right (by decide) hB)⟩, h.ord⟩
/-- a row of single choices, rising -/
def bits (l : List (Nat × α)) : List (Nat × α) := l.map fun x => (2 ^ x.1, x.2)
theorem bits_snoc (l : List (Nat × α)) (x : Nat × α) : bits (l ++ [x]) = bits l ++ [(2 ^ x.1, x.2)] := by unfold bits; rw [List.map_append]; rfl
def Rising (l : List (Nat × α)) : Prop := (l.map (·.1)).Pairwise (· < ·)
theorem Rising.snoc {l : List (Nat × α)} {x : Nat × α} (h : Rising (l ++ [x])) : Rising l ∧ ∀ y ∈ l, y.1 < x.1 := by
  unfold Rising at h
  rw [List.map_append, List.pairwise_append] at h
  exact ⟨h.1, fun y hy => h.2.2 _ (List.mem_map.mpr ⟨y, hy, rfl⟩) _ (by simp)⟩
theorem asc_grp : ∀ (l : List (Nat × α)) (B : Nat), Rising l → (∀ y ∈ l, y.1 < B) → Asc (grp (bits l)) B := fun l =>
  snoc_ind (P := fun l => ∀ B, Rising l → (∀ y ∈ l, y.1 < B) → Asc (grp (bits l)) B) (fun B _ _ => Asc.nil B) (fun l x ih B hr hB => by
    rw [bits_snoc, grp_snoc]
    obtain ⟨h1, h2⟩ := hr.snoc
    have hx : x.1 < B := hB x (by simp)
    exact ((ih x.1 h1 h2).add (Nat.le_refl _) x.2).mono hx) l
/-! ### where -/
def orS (ps : List (Nat × α)) : Nat := (ps.map (·.1)).foldl (· ||| ·) 0
theorem foldl_or (l : List Nat) (a : Nat) : l.foldl (· ||| ·) a = a ||| l.foldl (· ||| ·) 0 := by
  induction l generalizing a with
  | nil => simp
  | cons x r ih =>
    rw [List.foldl_cons, List.foldl_cons, ih, ih (0 ||| x), Nat.zero_or, Nat.or_assoc]
theorem orS_app (A B : List (Nat × α)) : orS (A ++ B) = orS A ||| orS B := by
  unfold orS
  rw [List.map_append, List.foldl_append, foldl_or]
theorem orS_cons (p : Nat × α) (B : List (Nat × α)) : orS (p :: B) = p.1 ||| orS B := by
  have := orS_app [p] B
  rw [show [p] ++ B = p :: B from rfl] at this
  rw [this]
  show (0 ||| p.1) ||| orS B = _
  rw [Nat.zero_or]
theorem orS_add {ps : List (Nat × α)} (hn : (ps.map (·.2)).Nodup) (c : Nat) (t : α) : orS (addR ps c t) = orS ps ||| c := by
  by_cases h : t ∈ ps.map (·.2)
  · rw [addR_in h]
    obtain ⟨A, B, S, rfl, hA, hB⟩ := split_at hn h
    rw [List.map_append, List.map_cons, map_upR_no hA, map_upR_no hB]
    have e : upR c t (S, t) = (S ||| c, t) := if_pos rfl
    rw [e, orS_app, orS_app, orS_cons, orS_cons]
    show orS A ||| ((S ||| c) ||| orS B) = orS A ||| (S ||| orS B) ||| c
    rw [Nat.or_assoc, Nat.or_assoc, Nat.or_assoc, Nat.or_comm c]
  · rw [addR_new h, orS_app, orS_cons]
    show orS ps ||| (c ||| orS []) = _
    rw [show orS ([] : List (Nat × α)) = 0 from rfl, Nat.or_zero]
theorem orS_grp (l : List (Nat × α)) : orS (grp l) = orS l := snoc_ind (P := fun l => orS (grp l) = orS l) rfl (fun l x h => by
  rw [grp_snoc, orS_add (nodup_grp l), h, orS_app, orS_cons]
  show _ = _ ||| (x.1 ||| 0)
  rw [Nat.or_zero]) l
theorem orS_bits : ∀ (l : List (Nat × α)) (B : Nat), Rising l → (∀ y ∈ l, y.1 < B) → orS (bits l) < 2 ^ B ∧ orS (bits l) = ((l.map fun x => 2 ^ x.1).sum) := fun l =>
  snoc_ind (P := fun l => ∀ B, Rising l → (∀ y ∈ l, y.1 < B) → orS (bits l) < 2 ^ B ∧ orS (bits l) = ((l.map fun x => 2 ^ x.1).sum)) (fun B _ _ => ⟨Nat.two_pow_pos B, rfl⟩) (fun l x ih B hr hB => by
    obtain ⟨h1, h2⟩ := hr.snoc
    have hx : x.1 < B := hB x (by simp)
    obtain ⟨i1, i2⟩ := ih x.1 h1 h2
    have e : orS (bits (l ++ [x])) = orS (bits l) ||| 2 ^ x.1 := by
      rw [bits_snoc, orS_app, orS_cons]
      show _ ||| (2 ^ x.1 ||| 0) = _
      rw [Nat.or_zero]
    refine ⟨?_, ?_⟩
    · rw [e]
      exact Nat.lt_of_lt_of_le (or_lt i1) (Nat.pow_le_pow_right (by decide) hx)
    · rw [e, ← add_or i1, i2, List.map_append, List.sum_append]; simp) l
end
end MM

set_option Elab.async false
set_option linter.all false
set_option maxRecDepth 100000
set_option maxHeartbeats 1000000
/-! how the data stand in the heap -/
namespace ML
open PySem PySem.Spec PyProof.Rows L2 MM
/-! ### rows of pairs -/
section
variable {α β : Type} {F G : α → β → Prop}
theorem pget : ∀ {l1 : List α} {l2 : List β} {i : Nat} {x : α}, Paired F l1 l2 → l1[i]? = some x → ∃ y, l2[i]? = some y ∧ F x y
  | _, _, _, _, .nil, h => by simp at h
  | _, _, 0, _, .cons r _, h => by simp at h; subst h; exact ⟨_, rfl, r⟩
  | _, _, i + 1, _, .cons _ t, h => by simpa using pget (i := i) t (by simpa using h)
theorem pgetR : ∀ {l1 : List α} {l2 : List β} {i : Nat} {y : β}, Paired F l1 l2 → l2[i]? = some y → ∃ x, l1[i]? = some x ∧ F x y
  | _, _, _, _, .nil, h => by simp at h
  | _, _, 0, _, .cons r _, h => by simp at h; subst h; exact ⟨_, rfl, r⟩
  | _, _, i + 1, _, .cons _ t, h => by simpa using pgetR (i := i) t (by simpa using h)
theorem papp : ∀ {l1 m1 : List α} {l2 m2 : List β}, Paired F l1 l2 → Paired F m1 m2 → Paired F (l1 ++ m1) (l2 ++ m2)
  | _, _, _, _, .nil, h => h
  | _, _, _, _, .cons r t, h => .cons r (papp t h)
theorem ptake : ∀ {l1 : List α} {l2 : List β} (n : Nat), Paired F l1 l2 → Paired F (l1.take n) (l2.take n)
  | _, _, 0, _ => by simpa using Paired.nil
  | _, _, _ + 1, .nil => .nil
  | _, _, n + 1, .cons r t => .cons r (ptake n t)
theorem pmem {l1 : List α} {l2 : List β} {x : α} (h : Paired F l1 l2) (hx : x ∈ l1) : ∃ y, y ∈ l2 ∧ F x y := by
  obtain ⟨i, hi, e⟩ := List.mem_iff_getElem.mp hx
  obtain ⟨y, h1, h2⟩ := pget h (i := i) (x := x) (by rw [List.getElem?_eq_getElem hi, e])
  exact ⟨y, List.mem_of_getElem? h1, h2⟩
theorem pmap {l1 : List α} {l2 : List β} (h : Paired F l1 l2) (f : ∀ x y, F x y → G x y) : Paired G l1 l2 := Paired.mapP h f
theorem pof_map {γ : Type} {R : α → γ → Prop} (g : β → γ) : ∀ {l1 : List α} {l2 : List β}, Paired (fun x y => R x (g y)) l1 l2 → Paired R l1 (l2.map g)
  | _, _, .nil => .nil
  | _, _, .cons r t => .cons r (pof_map g t)
theorem pto_map {γ : Type} {R : α → γ → Prop} (g : β → γ) : ∀ {l1 : List α} {l2 : List β}, Paired R l1 (l2.map g) → Paired (fun x y => R x (g y)) l1 l2
  | [], [], _ => .nil
  | [], _ :: _, h => nomatch h
  | _ :: _, [], h => nomatch h
  | _ :: _, _ :: _, .cons r t => .cons r (pto_map g t)
end
/-! ### data -/
end ML
namespace L2
open PySem PySem.Spec PyProof.Rows
section
variable {K : PySem.W.Frag} {H H' : Hp}
mutual
theorem Dp.same (s : Same H H') : ∀ {v : V} {d : PyData}, Dp K H v d → Dp K H' v d
  | _, _, .non => .non
  | _, _, .bl b => .bl b
  | _, _, .int i => .int i
  | _, _, .str x => .str x
  | _, _, .lst h a => .lst (s.seq h) (DpAll.same s a)
  | _, _, .tup h a => .tup (s.seqT h) (DpAll.same s a)
theorem DpAll.same (s : Same H H') : ∀ {vs : List V} {ds : List PyData}, DpAll K H vs ds → DpAll K H' vs ds
  | _, _, .nil => .nil
  | _, _, .cons h t => .cons (Dp.same s h) (DpAll.same s t)
end
end
end L2
namespace ML
open PySem PySem.Spec PyProof.Rows L2 MM
/-- what stands in a part -/
inductive Ct where
  | txt (s : Str)
  | tab (rows : List (List Str))
  deriving DecidableEq
def rowD (r : List Str) : PyData := .tuple (r.map .str)
def Ct.d : Ct → PyData
  | .txt s => .str s
  | .tab rows => .tuple (rows.map rowD)
/-- a record -/
structure Rec where
  kind : Str
  parent : Str
  rank : Int
  ct : Ct
  deriving DecidableEq
def Rec.d (r : Rec) : PyData := .tuple [.str r.kind, .str r.parent, .int r.rank, r.ct.d]
abbrev Pl : Type := Str × Str × Int
def Rec.pl (r : Rec) : Pl := (r.kind, r.parent, r.rank)
def plD (p : Pl) : PyData := .tuple [.str p.1, .str p.2.1, .int p.2.2]
theorem eqvAll_map {α : Type} [DecidableEq α] (f : α → PyData) (hf : ∀ x y, PyData.eqv (f x) (f y) = decide (x = y)) : ∀ xs ys : List α, PyData.eqvAll (xs.map f) (ys.map f) = decide (xs = ys)
  | [], [] => by simp [PyData.eqvAll]
  | [], _ :: _ => by simp [PyData.eqvAll]
  | _ :: _, [] => by simp [PyData.eqvAll]
  | x :: xs, y :: ys => by
    show (PyData.eqv (f x) (f y) && PyData.eqvAll (xs.map f) (ys.map f)) = _
    rw [hf, eqvAll_map f hf xs ys]
    by_cases h1 : x = y <;> by_cases h2 : xs = ys <;> simp [h1, h2]
theorem eqv_str (x y : Str) : PyData.eqv (.str x) (.str y) = decide (x = y) := by
  show (x == y) = _
  by_cases h : x = y <;> simp [h]
theorem eqv_row (x y : List Str) : PyData.eqv (rowD x) (rowD y) = decide (x = y) := eqvAll_map PyData.str eqv_str x y
theorem eqv_ct : ∀ x y : Ct, PyData.eqv x.d y.d = decide (x = y)
  | .txt a, .txt b => by
    show PyData.eqv (.str a) (.str b) = _
    rw [eqv_str]
    by_cases h : a = b <;> simp [h]
  | .txt a, .tab r => by
    show PyData.eqv (.str a) (.tuple _) = _
    simp [PyData.eqv]
  | .tab r, .txt a => by
    show PyData.eqv (.tuple _) (.str a) = _
    simp [PyData.eqv]
  | .tab r, .tab q => by
    show PyData.eqvAll (r.map rowD) (q.map rowD) = _
    rw [eqvAll_map rowD eqv_row]
    by_cases h : r = q <;> simp [h]
theorem eqv_int (i j : Int) : PyData.eqv (.int i) (.int j) = decide (i = j) := by
  show (i == j) = _
  by_cases h : i = j <;> simp [h]
theorem eqv_pl (x y : Pl) : PyData.eqv (plD x) (plD y) = decide (x = y) := by
  obtain ⟨a, b, c⟩ := x
  obtain ⟨a', b', c'⟩ := y
  show (PyData.eqv (.str a) (.str a') && (PyData.eqv (.str b) (.str b') && (PyData.eqv (.int c) (.int c') && true))) = _
  rw [eqv_str, eqv_str, eqv_int]
  by_cases h1 : a = a' <;> by_cases h2 : b = b' <;> by_cases h3 : c = c' <;> simp [h1, h2, h3]
theorem eqv_rec (x y : Rec) : PyData.eqv x.d y.d = decide (x = y) := by
  obtain ⟨a, b, c, e⟩ := x
  obtain ⟨a', b', c', e'⟩ := y
  show (PyData.eqv (.str a) (.str a') && (PyData.eqv (.str b) (.str b') && (PyData.eqv (.int c) (.int c') && (PyData.eqv e.d e'.d && true)))) = _
  rw [eqv_str, eqv_str, eqv_int, eqv_ct]
  by_cases h1 : a = a' <;> by_cases h2 : b = b' <;> by_cases h3 : c = c' <;> by_cases h4 : e = e' <;> simp [h1, h2, h3, h4]
/-! ### shapes -/
def Ct.ok : Ct → Prop
  | .txt s => PyData.strOk s = true
  | .tab rows => ∀ r ∈ rows, ∀ s ∈ r, PyData.strOk s = true
structure Rec.ok (r : Rec) : Prop where
  k : PyData.strOk r.kind = true
  p : PyData.strOk r.parent = true
  c : r.ct.ok
theorem lay_all {α : Type} (f : α → PyData) : ∀ xs : List α, (∀ x ∈ xs, PyData.canLay0 (f x) = true) → PyData.canLayAll0 (xs.map f) = true
  | [], _ => rfl
  | x :: xs, h => by
    show (PyData.canLay0 (f x) && PyData.canLayAll0 (xs.map f)) = true
    rw [h x List.mem_cons_self, lay_all f xs fun y hy => h y (List.mem_cons_of_mem _ hy)]
    rfl
theorem depth_all {α : Type} (f : α → PyData) (n : Nat) : ∀ xs : List α, (∀ x ∈ xs, PyData.depth (f x) ≤ n) → PyData.depthAll (xs.map f) ≤ n
  | [], _ => Nat.zero_le _
  | x :: xs, h => by
    show max (PyData.depth (f x)) (PyData.depthAll (xs.map f)) ≤ n
    have h1 := h x List.mem_cons_self
    have h2 := depth_all f n xs fun y hy => h y (List.mem_cons_of_mem _ hy)
    omega
theorem row_lay {r : List Str} (h : ∀ s ∈ r, PyData.strOk s = true) : PyData.canLay0 (rowD r) = true := lay_all PyData.str r h
theorem row_depth (r : List Str) : PyData.depth (rowD r) ≤ 1 := by
  show PyData.depthAll (r.map PyData.str) + 1 ≤ 1
  have := depth_all PyData.str 0 r fun x _ => Nat.le_refl _
  omega
theorem ct_lay : ∀ {c : Ct}, c.ok → PyData.canLay0 c.d = true
  | .txt s, h => h
  | .tab rows, h => lay_all rowD rows fun r hr => row_lay (h r hr)
theorem ct_depth : ∀ c : Ct, PyData.depth c.d ≤ 2
  | .txt s => Nat.zero_le _
  | .tab rows => by
    show PyData.depthAll (rows.map rowD) + 1 ≤ 2
    have := depth_all rowD 1 rows fun x _ => row_depth x
    omega
theorem shaped_mk {d : PyData} (h : PyData.canLay0 d = true) (h2 : PyData.depth d ≤ 64) : SeqAt.shaped d = true := by
  unfold SeqAt.shaped
  rw [h, decide_eq_true h2]; rfl
theorem ct_shaped {c : Ct} (h : c.ok) : SeqAt.shaped c.d = true := shaped_mk (ct_lay h) (Nat.le_trans (ct_depth c) (by decide))
theorem rec_shaped {r : Rec} (h : r.ok) : SeqAt.shaped r.d = true := by
  refine shaped_mk ?_ ?_
  · show (PyData.canLay0 (.str r.kind) && (PyData.canLay0 (.str r.parent) && (PyData.canLay0 (.int r.rank) && (PyData.canLay0 r.ct.d && true)))) = true
    rw [show PyData.canLay0 (.str r.kind) = true from h.k, show PyData.canLay0 (.str r.parent) = true from h.p, ct_lay h.c]; rfl
  · show max (PyData.depth (.str r.kind)) (max (PyData.depth (.str r.parent)) (max (PyData.depth (.int r.rank)) (max (PyData.depth r.ct.d) 0))) + 1 ≤ 64
    have := ct_depth r.ct
    simp only [PyData.depth]
    omega
theorem pl_shaped {r : Rec} (h : r.ok) : SeqAt.shaped (plD r.pl) = true := by
  refine shaped_mk ?_ ?_
  · show (PyData.canLay0 (.str r.kind) && (PyData.canLay0 (.str r.parent) && (PyData.canLay0 (.int r.rank) && true))) = true
    rw [show PyData.canLay0 (.str r.kind) = true from h.k, show PyData.canLay0 (.str r.parent) = true from h.p]; rfl
  · show max (PyData.depth (.str r.kind)) (max (PyData.depth (.str r.parent)) (max (PyData.depth (.int r.rank)) 0)) + 1 ≤ 64
    simp only [PyData.depth]
    decide
/-! ### a record in the heap -/
section
variable {K : PySem.W.Frag} {H H' : Hp}
theorem dp_str {v : V} {x : Str} (h : Dp K H v (.str x)) : v = .str x := by cases h; rfl
theorem dp_int {v : V} {x : Int} (h : Dp K H v (.int x)) : v = .int x := by cases h; rfl
theorem dp_tup {v : V} {ds : List PyData} (h : Dp K H v (.tuple ds)) : ∃ a vs, v = .ref a ∧ SqT K H a vs ∧ DpAll K H vs ds := by
  cases h with
  | tup h1 h2 => exact ⟨_, _, rfl, h1, h2⟩
/-- its tuple -/
theorem dp_rec {v : V} {r : Rec} (h : Dp K H v r.d) : ∃ a c, v = .ref a ∧ SqT K H a [.str r.kind, .str r.parent, .int r.rank, c] ∧ Dp K H c r.ct.d := by
  obtain ⟨a, vs, e, h1, h2⟩ := dp_tup h
  cases h2 with
  | cons k1 t1 =>
    cases t1 with
    | cons k2 t2 =>
      cases t2 with
      | cons k3 t3 =>
        cases t3 with
        | cons k4 t4 =>
          cases t4
          rw [dp_str k1, dp_str k2, dp_int k3] at h1
          exact ⟨a, _, e, h1, k4⟩
theorem rec_dp {a : Addr} {c : V} {r : Rec} (h : SqT K H a [.str r.kind, .str r.parent, .int r.rank, c]) (hc : Dp K H c r.ct.d) : Dp K H (.ref a) r.d :=
  .tup h (.cons (.str _) (.cons (.str _) (.cons (.int _) (.cons hc .nil))))
theorem pl_dp {a : Addr} {r : Rec} (h : SqT K H a [.str r.kind, .str r.parent, .int r.rank]) : Dp K H (.ref a) (plD r.pl) :=
  .tup h (.cons (.str _) (.cons (.str _) (.cons (.int _) .nil)))
/-! ### lists of pairs of a set and a thing -/
def PrEnt (K : PySem.W.Frag) (H : Hp) (v : V) (p : Nat × PyData) : Prop := ∃ t x, v = .ref t ∧ SqT K H t [.int (p.1 : Int), x] ∧ Dp K H x p.2 ∧ SeqAt.shaped p.2 = true
def PrAt (K : PySem.W.Frag) (H : Hp) (l : Addr) (ps : List (Nat × PyData)) : Prop := ∃ vs, H l = some (.lst vs) ∧ Paired (PrEnt K H) vs ps
theorem PrEnt.same (s : Same H H') {v : V} {p : Nat × PyData} (h : PrEnt K H v p) : PrEnt K H' v p := by
  obtain ⟨t, x, e, h1, h2, h3⟩ := h
  exact ⟨t, x, e, s.seqT h1, Dp.same s h2, h3⟩
theorem PrAt.same (s : Same H H') {l : Addr} {ps : List (Nat × PyData)} (h : PrAt K H l ps) : PrAt K H' l ps := by
  obtain ⟨vs, h1, h2⟩ := h
  exact ⟨vs, s _ _ h1, pmap h2 fun _ _ q => q.same s⟩
/-! ### switches, rules -/
abbrev Sws : Type := List (Str × List Str)
def SwEnt (mk : List V → HO) (H : Hp) (v : V) (s : Str × List Str) : Prop := ∃ a l, v = .ref a ∧ H a = some (.tup [.str s.1, .ref l]) ∧ H l = some (mk (s.2.map V.str))
def SwAt (mk : List V → HO) (H : Hp) (a : Addr) (sws : Sws) : Prop := ∃ vs, H a = some (.lst vs) ∧ Paired (SwEnt mk H) vs sws
theorem SwEnt.same {mk : List V → HO} (s : Same H H') {v : V} {p : Str × List Str} (h : SwEnt mk H v p) : SwEnt mk H' v p := by
  obtain ⟨a, l, e, h1, h2⟩ := h
  exact ⟨a, l, e, s _ _ h1, s _ _ h2⟩
theorem SwAt.same {mk : List V → HO} (s : Same H H') {a : Addr} {sws : Sws} (h : SwAt mk H a sws) : SwAt mk H' a sws := by
  obtain ⟨vs, h1, h2⟩ := h
  exact ⟨vs, s _ _ h1, pmap h2 fun _ _ q => q.same s⟩
def RuEnt (H : Hp) (kv : Key × V) (e : Str × List Str) : Prop := kv.1 = Sum.inr e.1 ∧ ∃ l, kv.2 = .ref l ∧ H l = some (.lst (e.2.map V.str))
def RuleAt (H : Hp) (v : V) (r : Sws) : Prop := ∃ d kvs, v = .ref d ∧ H d = some (.dK kvs) ∧ Paired (RuEnt H) kvs r
def RulesAt (H : Hp) (a : Addr) (rs : List Sws) : Prop := ∃ vs, H a = some (.lst vs) ∧ Paired (RuleAt H) vs rs
theorem RuEnt.same (s : Same H H') {v : Key × V} {p : Str × List Str} (h : RuEnt H v p) : RuEnt H' v p := by
  obtain ⟨e, l, e2, h2⟩ := h
  exact ⟨e, l, e2, s _ _ h2⟩
theorem RuleAt.same (s : Same H H') {v : V} {r : Sws} (h : RuleAt H v r) : RuleAt H' v r := by
  obtain ⟨d, kvs, e, h1, h2⟩ := h
  exact ⟨d, kvs, e, s _ _ h1, pmap h2 fun _ _ q => q.same s⟩
theorem RulesAt.same (s : Same H H') {a : Addr} {rs : List Sws} (h : RulesAt H a rs) : RulesAt H' a rs := by
  obtain ⟨vs, h1, h2⟩ := h
  exact ⟨vs, s _ _ h1, pmap h2 fun _ _ q => q.same s⟩
/-! ### trees -/
abbrev Tree : Type := List (Str × Rec)
def TrEnt (K : PySem.W.Frag) (H : Hp) (kv : Key × V) (e : Str × Rec) : Prop := kv.1 = Sum.inr e.1 ∧ Dp K H kv.2 e.2.d ∧ e.2.ok
def TrAt (K : PySem.W.Frag) (H : Hp) (d : Addr) (t : Tree) : Prop := ∃ kvs, H d = some (.dK kvs) ∧ Paired (TrEnt K H) kvs t
theorem TrEnt.same (s : Same H H') {v : Key × V} {p : Str × Rec} (h : TrEnt K H v p) : TrEnt K H' v p := ⟨h.1, Dp.same s h.2.1, h.2.2⟩
theorem TrAt.same (s : Same H H') {d : Addr} {t : Tree} (h : TrAt K H d t) : TrAt K H' d t := by
  obtain ⟨kvs, h1, h2⟩ := h
  exact ⟨kvs, s _ _ h1, pmap h2 fun _ _ q => q.same s⟩
/-- which tree each choice has -/
abbrev Fo : Type := List (Nat × Tree)
def FoEnt (K : PySem.W.Frag) (H : Hp) (kv : Key × V) (e : Nat × Tree) : Prop := kv.1 = Sum.inl (e.1 : Int) ∧ ∃ d, kv.2 = .ref d ∧ TrAt K H d e.2
def FoAt (K : PySem.W.Frag) (H : Hp) (f : Addr) (fo : Fo) : Prop := ∃ kvs, H f = some (.dK kvs) ∧ Paired (FoEnt K H) kvs fo
theorem FoEnt.same (s : Same H H') {v : Key × V} {p : Nat × Tree} (h : FoEnt K H v p) : FoEnt K H' v p := by
  obtain ⟨e, d, e2, h2⟩ := h
  exact ⟨e, d, e2, h2.same s⟩
theorem FoAt.same (s : Same H H') {f : Addr} {fo : Fo} (h : FoAt K H f fo) : FoAt K H' f fo := by
  obtain ⟨kvs, h1, h2⟩ := h
  exact ⟨kvs, s _ _ h1, pmap h2 fun _ _ q => q.same s⟩
end
end ML

set_option Elab.async false
set_option linter.all false
set_option maxRecDepth 100000
set_option maxHeartbeats 4000000
namespace ML
open PySem PySem.Spec PyProof.Rows L2 MM
/-! ### sets.py, words.py -/
/-- the bits below n -/
def chs (S n : Nat) : List Nat := (List.range n).filter fun i => S.testBit i
theorem chs_succ (S n : Nat) : chs S (n + 1) = if S.testBit n = true then chs S n ++ [n] else chs S n := by
  unfold chs
  rw [List.range_succ, List.filter_append]
  by_cases h : S.testBit n = true
  · rw [if_pos h]; simp [h]
  · rw [if_neg h]; simp [h]
theorem chs_len (S n : Nat) : (chs S n).length ≤ n := by
  unfold chs
  exact Nat.le_trans (List.length_filter_le _ _) (by rw [List.length_range]; exact Nat.le_refl _)
def intsV (l : List Nat) : List V := l.map fun i : Nat => V.int ((i : Nat) : Int)
theorem bit_one (S n : Nat) : ((S >>> n) &&& 1) = if S.testBit n = true then 1 else 0 := by
  rw [Nat.and_one_is_mod, Nat.testBit_eq_decide_div_mod_eq, Nat.shiftRight_eq_div_pow]
  by_cases h : S / 2 ^ n % 2 = 1
  · rw [decide_eq_true h, if_pos rfl, h]
  · rw [decide_eq_false h, if_neg (by decide)]; omega
theorem chs_head {S n m : Nat} (h : IsLeast S m) (hn : S >>> n = 0) : ∃ r, chs S n = m :: r := by
  have key : ∀ k, (k ≤ m → chs S k = []) ∧ (m < k → ∃ r, chs S k = m :: r) := by
    intro k
    induction k with
    | zero => exact ⟨fun _ => rfl, fun q => absurd q (Nat.not_lt_zero _)⟩
    | succ k ih =>
      rw [chs_succ]
      refine ⟨fun q => ?_, fun q => ?_⟩
      · rw [h.2 k q, if_neg (by decide)]
        exact ih.1 (by omega)
      · by_cases e : k = m
        · subst e
          rw [h.1, if_pos rfl, ih.1 (Nat.le_refl _)]
          exact ⟨[], rfl⟩
        · obtain ⟨r, e2⟩ := ih.2 (by omega)
          split
          · exact ⟨r ++ [k], by rw [e2]; rfl⟩
          · exact ⟨r, e2⟩
  refine (key n).2 (Nat.lt_of_not_le fun q => ?_)
  have h1 := h.1
  have e : S < 2 ^ n := by
    rw [Nat.shiftRight_eq_div_pow] at hn
    exact (Nat.div_eq_zero_iff_lt (Nat.two_pow_pos n)).mp hn
  rw [Nat.testBit_lt_two_pow (Nat.lt_of_lt_of_le e (Nat.pow_le_pow_right (by decide) q))] at h1
  cases h1
def spCh : Sp := fun vs H Q _ => ∃ S : Nat, vs = [.int (S : Int)] ∧ S < 2 ^ 256 ∧ ∀ f n, H f = none → S >>> n = 0 → Q (.ref f) (upd H f (.lst (intsV (chs S n))))
def spLe : Sp := fun vs H Q _ => ∃ S n : Nat, vs = [.int (S : Int)] ∧ S < 2 ^ 256 ∧ IsLeast S n ∧ ∀ H', Same H H' → Q (.int (n : Int)) H'
def spIsW (K : PySem.W.Frag) : Sp := fun vs H Q _ => ∃ i : Int, vs = [.int i] ∧ Q (.bl true) H
/-- a text of signs among signs -/
def okS (signs x : Str) : Prop := ∀ c ∈ x.cps.toList, c ∈ signs.cps.toList
def spIsOf : Sp := fun vs H Q _ => ∃ (x signs : Str) (n : Nat), vs = [.str x, .str signs, .int (n : Int)] ∧ 1 ≤ x.length ∧ x.length ≤ n ∧ n ≤ 1000 ∧ okS signs x ∧ Q (.bl true) H
def letters : Str := "abcdefghijklmnopqrstuvwxyz"
structure Word (x : Str) : Prop where
  pos : 1 ≤ x.length
  le : x.length ≤ 8
  ok : okS letters x
def spIsWord : Sp := fun vs H Q _ => ∃ x : Str, vs = [.str x] ∧ Word x ∧ Q (.bl true) H
section
variable {P : Program} {w : World} {K : PySem.W.Frag} {mg : Str → Option Value} {base : Heap}
theorem ok_choices_of (T : Txt K mg) : OkF P w K mg base CX0 1 "choices_of" ["choices"] spCh := by
  obtain ⟨fd, F⟩ := T.f_choices_of
  refine ⟨⟨fd, ?_, F.bindsN fun _ _ _ _ _ _ us hl => match us, hl with | [_], _ => rfl⟩, F.kp, T.g_choices_of⟩
  refine F.ok sc_choices_of (fun vs H Q E h => ?_) (fun cdv A outer s H vs Q E hr h => ?_)
  · obtain ⟨S, rfl, _⟩ := h
    rfl
  · obtain ⟨S, rfl, hS, q⟩ := h
    have nd := sc_choices_of.nd
    refine ⟨_, PSs.nox (pss_cons (ps_sv 1 nd (pe_lst pa_nil))
      (pss_cons (ps_sv 2 nd pe_int)
      (pss_cons (ps_while PassesOwn.never (pt_cmpR op_gt (pv 0) pe_int (nomark _)) (pss_cons (ps_if (pt_cmpR op_eq (pe_op op_and (pv 0) pe_int) pe_int (nomark _)) (pss_one (ps_expr (pe_bm PySem.F.plainAttrs_list PySem.F.slot_list_append PySem.F.type_list_append mt_append (pv 1) (pa_cons (pv 2) pa_nil)))) pss_nil)
        (pss_cons (ps_sv 0 nd (pe_op op_shr (pv 0) pe_int))
        (pss_one (ps_aug (i := 2) nd rfl (Or.inl rfl) pe_int ip_add)))))
      (pss_one (ps_ret (pv 1)))))), ?_⟩
    refine ⟨Nat.zero_le _, fun f hf => ?_⟩
    refine ⟨fun m σ H' => ∃ n : Nat, m = S >>> n ∧ n ≤ 256 ∧ σ = [some (.int ((S >>> n : Nat) : Int)), some (.ref f), some (.int (n : Int))] ∧ H' = upd H f (.lst (intsV (chs S n))), ⟨_, 0, rfl, Nat.zero_le _, rfl, rfl⟩, ?_⟩
    rintro m σ H' ⟨n, rfl, hn, rfl, rfl⟩
    refine ⟨_, rfl, _, _, rfl, rfl, _, rfl, ite2 (fun h => ?_) (fun h => ?_)⟩
    · have hp : (0 : Int) < ((S >>> n : Nat) : Int) := of_decide_eq_true h
      have hp' : 0 < S >>> n := by omega
      have hn1 : n < 256 := by
        refine Nat.lt_of_not_le fun z => ?_
        have e : S >>> n = 0 := by
          rw [Nat.shiftRight_eq_div_pow]
          exact Nat.div_eq_of_lt (Nat.lt_of_lt_of_le hS (Nat.pow_le_pow_right (by decide) z))
        omega
      have e1 : Builtin.bitAnd ((S >>> n : Nat) : Int) 1 = if S.testBit n = true then 1 else 0 := by
        have := and_nat (S >>> n) 1
        rw [bit_one] at this
        rw [show ((1 : Nat) : Int) = (1 : Int) from rfl] at this
        rw [this]
        split <;> rfl
      have e2 : ((S >>> n : Nat) : Int) / 2 ^ (1 : Int).toNat = ((S >>> (n + 1) : Nat) : Int) := by
        rw [Nat.shiftRight_succ]
        show ((S >>> n : Nat) : Int) / 2 ^ 1 = _
        omega
      have lt : S >>> (n + 1) < S >>> n := by rw [Nat.shiftRight_succ]; omega
      have fin : ∀ xs, xs = intsV (chs S (n + 1)) → ∃ m', m' < S >>> n ∧ ∃ k : Nat, m' = S >>> k ∧ k ≤ 256 ∧ ([some (.int (((S >>> n : Nat) : Int) / 2 ^ (1 : Int).toNat)), some (.ref f), some (.int ((n : Int) + 1))] : L2.St) = [some (.int ((S >>> k : Nat) : Int)), some (.ref f), some (.int (k : Int))] ∧ upd H f (.lst xs) = upd H f (.lst (intsV (chs S k))) := fun xs hx =>
        ⟨S >>> (n + 1), lt, n + 1, rfl, hn1, by rw [e2]; rfl, by rw [hx]⟩
      refine ⟨fun σ' H' => ∃ xs, σ' = [some (.int (((S >>> n : Nat) : Int) / 2 ^ (1 : Int).toNat)), some (.ref f), some (.int ((n : Int) + 1))] ∧ H' = upd H f (.lst xs) ∧ xs = intsV (chs S (n + 1)), ?_, ?_⟩
      · rintro σ' H' ⟨xs, rfl, rfl, hx⟩
        exact fin xs hx
      · refine ⟨_, rfl, _, _, rfl, rfl, rfl, _, rfl, ite2 (fun hb => ?_) (fun hb => ?_)⟩
        · have hb' : S.testBit n = true := by
            have z : V.int (Builtin.bitAnd ((S >>> n : Nat) : Int) 1) = V.int 1 := of_decide_eq_true hb
            rw [e1] at z
            split at z
            · assumption
            · cases z
          refine ⟨_, rfl, .inl ⟨rfl, _, .inl (.inl upd_same)⟩, _, rfl, f, _, _, rfl, rfl, upd_same, ?_, ?_⟩
          · unfold intsV
            rw [List.length_map]
            exact small1000 (Nat.le_trans (Nat.le_trans (chs_len S n) hn) (by decide))
          · refine ⟨_, rfl, _, _, rfl, rfl, (show (0 : Int) ≤ 1 by decide), _, rfl, _, _, rfl, rfl, _, rfl, upd_upd, ?_⟩
            unfold intsV
            rw [chs_succ, if_pos hb', List.map_append]
            rfl
        · have hb' : ¬ S.testBit n = true := fun z => hb (decide_eq_true (by show V.int (Builtin.bitAnd ((S >>> n : Nat) : Int) 1) = V.int 1; rw [e1, if_pos z]))
          refine ⟨_, rfl, _, _, rfl, rfl, (show (0 : Int) ≤ 1 by decide), _, rfl, _, _, rfl, rfl, _, rfl, rfl, ?_⟩
          rw [chs_succ, if_neg hb']
    · have hz : S >>> n = 0 := by
        have z : ¬ (0 : Int) < ((S >>> n : Nat) : Int) := fun z => h (decide_eq_true z)
        exact Nat.eq_zero_of_not_pos fun q => z (Int.natCast_pos.mpr q)
      exact ⟨_, rfl, q f n hf hz⟩
theorem ok_least_choice (T : Txt K mg) : OkF P w K mg base CX0 2 "least_choice" ["choices"] spLe := by
  obtain ⟨fd, F⟩ := T.f_least_choice
  have O_choices_of := ok_choices_of (P := P) (w := w) (base := base) T
  refine ⟨⟨fd, ?_, F.bindsN fun _ _ _ _ _ _ us hl => match us, hl with | [_], _ => rfl⟩, F.kp, T.g_least_choice⟩
  refine F.ok sc_least_choice (fun vs H Q E h => ?_) (fun cdv A outer s H vs Q E hr h => ?_)
  · obtain ⟨S, n, rfl, _⟩ := h
    rfl
  · obtain ⟨S, n, rfl, hS, hn, q⟩ := h
    have nd := sc_least_choice.nd
    refine ⟨_, PSs.nox (pss_cons (ps_for PassesOwn.never rfl (pi_list (pe_callD O_choices_of hr pass0 (pa_cons (pv 0) pa_nil))) (pg_nm 1 nd)
        (pss_one (ps_ret (pv 1))))
      (pss_one (ps_ret pe_non))), ?_⟩
    refine ⟨_, rfl, S, rfl, hS, fun f k hf hk => ?_⟩
    obtain ⟨r, er⟩ := chs_head hn hk
    have hl : SqL K (upd H f (.lst (intsV (chs S k)))) f (intsV (n :: r)) := by
      rw [er]
      exact .inl (.inl upd_same)
    refine ⟨f, rfl, ⟨_, hl⟩, for_it walk_list (fun i σ H' => i = 0 ∧ H' = upd H f (.lst (intsV (chs S k))) ∧ ∃ v, σ = [some (.int (S : Int)), v]) ⟨rfl, rfl, _, rfl⟩ (fun i σ H' _ ⟨_, e, _⟩ => by rw [e]; exact hl) ?_ ?_⟩
    · rintro i x σ H1 H' hi ⟨rfl, rfl, v, rfl⟩ ⟨rfl, hx⟩
      have ex : x = .int (n : Int) := (Option.some.inj hx).symm
      subst ex
      exact ⟨_, rfl, q _ (same_upd hf)⟩
    · rintro σ H' ⟨z, _⟩
      exact absurd z (by unfold intsV; simp)
theorem ok_is_whole (T : Txt K mg) : OkF P w K mg base CX0 1 "is_whole" ["thing"] (spIsW K) := by
  obtain ⟨fd, F⟩ := T.f_is_whole
  refine ⟨⟨fd, ?_, F.bindsN fun _ _ _ _ _ _ us hl => match us, hl with | [_], _ => rfl⟩, F.kp, T.g_is_whole⟩
  refine F.ok sc_is_whole (fun vs H Q E h => ?_) (fun cdv A outer s H vs Q E hr h => ?_)
  · obtain ⟨S, rfl, _⟩ := h
    rfl
  · obtain ⟨i, rfl, q⟩ := h
    refine ⟨_, PSs.nox (pss_one (ps_ret (pe_and (pe_callB call_isi (by rfl) T.b_isinstance (by decide +kernel) (pa_cons (pv 0) (pa_cons (pe_bltn (v := .ty "int") (by rfl) T.b_int (by decide +kernel) rfl) pa_nil))) (pe_one (pe_not (pe_callB call_isi (by rfl) T.b_isinstance (by decide +kernel) (pa_cons (pv 0) (pa_cons (pe_bltn (v := .ty "bool") (by rfl) T.b_bool (by decide +kernel) rfl) pa_nil)))))))), ?_⟩
    refine ⟨_, rfl, _, _, _, _, true, rfl, .ty "int", .base (.int i), kit_ty (by decide +kernel), _, rfl, iteT ?_⟩
    exact ⟨_, rfl, _, _, _, _, false, rfl, .ty "bool", .base (.int i), kit_ty (by decide +kernel), _, rfl, q⟩
theorem ok_is_of (T : Txt K mg) : OkF P w K mg base CX0 1 "is_of" ["thing", "signs", "longest"] spIsOf := by
  obtain ⟨fd, F⟩ := T.f_is_of
  refine ⟨⟨fd, ?_, F.bindsN fun _ _ _ _ _ _ us hl => match us, hl with | [_, _, _], _ => rfl⟩, F.kp, T.g_is_of⟩
  refine F.ok sc_is_of (fun vs H Q E h => ?_) (fun cdv A outer s H vs Q E hr h => ?_)
  · obtain ⟨x, signs, n, rfl, _⟩ := h
    rfl
  · obtain ⟨x, signs, n, rfl, h1, h2, h3, hok, q⟩ := h
    have nd := sc_is_of.nd
    refine ⟨_, PSs.nox (pss_cons (ps_if (PW.pt (pw_or (pt_not (pt_val (pe_callB call_isi (by rfl) T.b_isinstance (by decide +kernel) (pa_cons (pv 0) (pa_cons (pe_bltn (v := .ty "str") (by rfl) T.b_str (by decide +kernel) rfl) pa_nil))))) (pw_or1 (pt_not (pt_chain op_le op_le pe_int (pe_callB call_len_str (by rfl) T.b_len PySem.boot_len (pa_cons (pv 0) pa_nil)) (pv 2)))))) (pss_one (ps_ret pe_bl)) pss_nil)
      (pss_cons (ps_for PassesOwn.never rfl (pi_str (pv 0)) (pg_nm 3 nd)
        (pss_one (ps_if (pt_cmpR op_notIn_sign (pv 3) (pv 1) rfl) (pss_one (ps_ret pe_bl)) pss_nil)))
      (pss_one (ps_ret pe_bl)))), ?_⟩
    refine if_t (a := false) (fun Q h => or_t (a := false) (b := false) (fun Q h => ?_) (fun _ Q h => ?_) h) (fun z => by cases z) (fun _ => ?_)
    · exact ⟨_, rfl, _, _, _, _, true, rfl, .ty "str", .base (.str x), kit_ty (by decide +kernel), _, rfl, h⟩
    · refine ⟨_, rfl, _, rfl, by rw [sizeLine_eq]; omega, _, _, rfl, rfl, _, rfl, ?_⟩
      have e1 : decide ((1 : Int) ≤ (x.length : Int)) = true := decide_eq_true (by omega)
      rw [e1]
      refine iteT ⟨_, rfl, _, _, rfl, rfl, _, rfl, ?_⟩
      have e2 : decide ((x.length : Int) ≤ (n : Int)) = true := decide_eq_true (by omega)
      rw [e2]
      exact h
    · refine ⟨_, rfl, x, rfl, for_it walk_str (fun i σ H' => H' = H ∧ ∃ v, σ = [some (.str x), some (.str signs), some (.int (n : Int)), v]) ⟨rfl, _, rfl⟩ (fun _ _ _ _ _ => trivial) ?_ ?_⟩
      · rintro i v σ H1 H' hi ⟨rfl, v0, rfl⟩ ⟨rfl, c, hc, rfl⟩
        have hm : c ∈ signs.cps.toList := hok c (by rw [Array.mem_toList_iff]; exact Array.mem_of_getElem? hc)
        refine ⟨_, rfl, _, rfl, c, signs, rfl, rfl, _, rfl, ?_⟩
        rw [decide_eq_true hm]
        exact iteF ⟨rfl, _, rfl⟩
      · rintro σ H' ⟨rfl, v0, rfl⟩
        exact q
theorem ok_is_word (T : Txt K mg) : OkF P w K mg base CX0 2 "is_word" ["thing"] spIsWord := by
  obtain ⟨fd, F⟩ := T.f_is_word
  have O_is_of := ok_is_of (P := P) (w := w) (base := base) T
  obtain ⟨tL, h_LETTERS⟩ := T.i_LETTERS
  refine ⟨⟨fd, ?_, F.bindsN fun _ _ _ _ _ _ us hl => match us, hl with | [_], _ => rfl⟩, F.kp, T.g_is_word⟩
  refine F.ok sc_is_word (fun vs H Q E h => ?_) (fun cdv A outer s H vs Q E hr h => ?_)
  · obtain ⟨S, rfl, _⟩ := h
    rfl
  · obtain ⟨x, rfl, hx, q⟩ := h
    refine ⟨_, PSs.nox (pss_one (ps_ret (pe_callD O_is_of hr pass0 (pa_cons (pv 0) (pa_cons (pe_glob (v := .str "abcdefghijklmnopqrstuvwxyz") rfl h_LETTERS ⟨_, rfl⟩) (pa_cons pe_int pa_nil)))))), ?_⟩
    exact ⟨_, rfl, x, letters, 8, rfl, hx.pos, hx.le, by decide, hx.ok, q⟩
end
end ML

set_option Elab.async false
set_option linter.all false
set_option maxRecDepth 100000
set_option maxHeartbeats 4000000
namespace ML
open PySem PySem.Spec PyProof.Rows L2 MM
/-! ### a heap without one address -/
section
variable {H H' : Hp} {f : Addr} {o : HO}
theorem del_mono (s : Same H H') : Same (del H f) (del H' f) := fun b x e => by
  by_cases h : b = f
  · rw [h, del_same] at e; cases e
  · rw [del_ne h] at e ⊢; exact s _ _ e
theorem del_upd : del (upd H f o) f = del H f := by
  funext b
  by_cases h : b = f
  · rw [h, del_same, del_same]
  · rw [del_ne h, del_ne h, upd_ne h]
theorem del_sub : Same (del H f) H := fun b x e => by
  by_cases h : b = f
  · rw [h, del_same] at e; cases e
  · rw [del_ne h] at e; exact e
theorem same_del (s : Same H H') (n : H f = none) : Same H (del H' f) := fun b x e => by
  rw [del_ne (ne_of_none e n)]; exact s _ _ e
theorem del_none (n : H f = none) : del H f = H := by
  funext b
  by_cases h : b = f
  · rw [h, del_same, n]
  · rw [del_ne h]
end
/-! ### added_pair -/
def upD (c : Nat) (t : PyData) (p : Nat × PyData) : Nat × PyData := if PyData.eqv p.2 t = true then (p.1 ||| c, p.2) else p
def hasD (ps : List (Nat × PyData)) (t : PyData) : Bool := ps.any fun p => PyData.eqv p.2 t
def addD (ps : List (Nat × PyData)) (c : Nat) (t : PyData) : List (Nat × PyData) := ps.map (upD c t) ++ (if hasD ps t = true then [] else [(c, t)])
def spAdd (K : PySem.W.Frag) : Sp := fun vs H Q _ => ∃ (a : Addr) (c : Nat) (x : V) (ps : List (Nat × PyData)) (t : PyData), vs = [.ref a, .int (c : Int), x] ∧ PrAt K H a ps ∧ ps.length ≤ 900 ∧ Dp K H x t ∧ SeqAt.shaped t = true ∧
  ∀ H' l, Same H H' → H l = none → PrAt K H' l (addD ps c t) → Q (.ref l) H'
section
variable {P : Program} {w : World} {K : PySem.W.Frag} {mg : Str → Option Value} {base : Heap}
theorem ok_added_pair (T : Txt K mg) : OkF P w K mg base CX0 1 "added_pair" ["pairs", "choices", "thing"] (spAdd K) := by
  obtain ⟨fd, F⟩ := T.f_added_pair
  refine ⟨⟨fd, ?_, F.bindsN fun _ _ _ _ _ _ us hl => match us, hl with | [_, _, _], _ => rfl⟩, F.kp, T.g_added_pair⟩
  refine F.ok sc_added_pair (fun vs H Q E h => ?_) (fun cdv A outer s H vs Q E hr h => ?_)
  · obtain ⟨_, _, _, _, _, rfl, _⟩ := h
    rfl
  · obtain ⟨a, c, x, ps, t, rfl, ⟨vsP, hP, hps⟩, hlen, hx, ht, q⟩ := h
    have nd := sc_added_pair.nd
    refine ⟨_, PSs.nox (pss_cons (ps_sv 3 nd (pe_lst pa_nil))
      (pss_cons (ps_sv 4 nd pe_bl)
      (pss_cons (ps_for PassesOwn.never rfl (pi_list (pv 0)) (pg_tup (by rfl) (pgs_cons (pg_nm 5 nd) (pgs_cons (pg_nm 6 nd) pgs_nil)))
        (pss_cons (ps_if (pt_cmpR (op_eqD hr.units) (pv 6) (pv 2) (nomark _)) (pss_cons (ps_sv 5 nd (pe_op op_or (pv 5) (pv 1)))
          (pss_one (ps_sv 4 nd pe_bl))) pss_nil)
        (pss_one (ps_expr (pe_bm PySem.F.plainAttrs_list PySem.F.slot_list_append PySem.F.type_list_append mt_append (pv 3) (pa_cons (pe_tup (pa_cons (pv 5) (pa_cons (pv 6) pa_nil))) pa_nil))))))
      (pss_cons (ps_if (pt_val (pv 4)) (pss_one (ps_expr (pe_bm PySem.F.plainAttrs_list PySem.F.slot_list_append PySem.F.type_list_append mt_append (pv 3) (pa_cons (pe_tup (pa_cons (pv 1) (pa_cons (pv 2) pa_nil))) pa_nil)))) pss_nil)
      (pss_one (ps_ret (pv 3))))))), ?_⟩
    refine ⟨Nat.zero_le _, fun f hf => ?_⟩
    have nfa : a ≠ f := ne_of_none hP hf
    have hlv : vsP.length = ps.length := hps.length
    -- the invariant
    refine ⟨_, rfl, a, rfl, ⟨vsP, .inl (.inl (by rw [upd_ne nfa]; exact hP))⟩, for_it walk_list (fun i σ H' => ∃ v5 v6 vs, σ = [some (.ref a), some (.int (c : Int)), some x, some (.ref f), some (.bl (!hasD (ps.take i) t)), v5, v6] ∧ Same H (del H' f) ∧ H' f = some (.lst vs) ∧ Paired (PrEnt K (del H' f)) vs ((ps.take i).map (upD c t)))
      ⟨none, none, [], rfl, by rw [del_upd, del_none hf]; exact Same.refl _, upd_same, .nil⟩ (fun i σ H' _ ⟨_, _, _, _, s1, _⟩ => .inl (.inl (del_sub _ _ (s1 _ _ hP)))) ?_ ?_⟩
    · rintro i y σ H1 H' hi ⟨v5, v6, vs, rfl, s1, hF, hvs⟩ ⟨rfl, hy⟩
      obtain ⟨p, hp, tt, z, rfl, hT, hz, hsh⟩ := pget hps hy
      have sH : Same H H' := s1.trans del_sub
      have hT' : SqT K H' tt [.int (p.1 : Int), z] := sH.seqT hT
      have e2 : ps.take (i + 1) = ps.take i ++ [p] := by rw [List.take_add_one, hp]; rfl
      have hlt : vs.length < sizeLine := by
        have := hvs.length
        rw [List.length_map, List.length_take] at this
        exact small1000 (by omega)
      -- some, other = the pair
      refine ⟨tt, _, rfl, hT', rfl, .int (p.1 : Int), [z], rfl, z, [], rfl, rfl, ?_⟩
      -- what stands behind found.append((some, other))
      have fin : ∀ (S : Nat) (b : Bool), (S, p.2) = upD c t p → b = (!hasD (ps.take (i + 1)) t) → ∀ (T : Addr), H' T = none →
          ∃ v5 v6 vs2, ([some (.ref a), some (.int (c : Int)), some x, some (.ref f), some (.bl b), some (.int (S : Int)), some z] : L2.St) = [some (.ref a), some (.int (c : Int)), some x, some (.ref f), some (.bl (!hasD (ps.take (i + 1)) t)), v5, v6] ∧
            Same H (del (upd (upd H' T (.tup [.int (S : Int), z])) f (.lst (vs ++ [.ref T]))) f) ∧ (upd (upd H' T (.tup [.int (S : Int), z])) f (.lst (vs ++ [.ref T]))) f = some (.lst vs2) ∧
            Paired (PrEnt K (del (upd (upd H' T (.tup [.int (S : Int), z])) f (.lst (vs ++ [.ref T]))) f)) vs2 ((ps.take (i + 1)).map (upD c t)) := by
        intro S b hS hb T nT
        have s2 : Same H' (upd H' T (.tup [.int (S : Int), z])) := same_upd nT
        have nTf : T ≠ f := (ne_of_none hF nT).symm
        have s3 : Same (del H' f) (del (upd H' T (.tup [.int (S : Int), z])) f) := del_mono s2
        refine ⟨_, _, _, by rw [hb], ?_, upd_same, ?_⟩
        · rw [del_upd]; exact s1.trans s3
        · rw [del_upd, e2, List.map_append]
          refine papp (pmap hvs fun _ _ q => q.same s3) (.cons ?_ .nil)
          rw [← hS]
          refine ⟨T, z, rfl, .inl (.inl ?_), ?_, hsh⟩
          · rw [del_ne nTf, upd_same]
          · exact Dp.same (s1.trans s3) hz
      dsimp only [tSeq]
      refine ⟨_, rfl, _, rfl, p.2, t, Dp.same sH hz, Dp.same sH hx, hsh, ht, _, rfl, ite2 (fun h => ?_) (fun h => ?_)⟩
      · refine ⟨_, rfl, _, rfl, _, _, rfl, rfl, ?_⟩
        refine ⟨_, rfl, .inl ⟨rfl, _, .inl (.inl hF)⟩, _, rfl, _, rfl, (by show 2 ≤ sizeLine; decide), fun T nT => ?_⟩
        have nTf : f ≠ T := ne_of_none hF nT
        refine ⟨f, vs, _, rfl, rfl, by rw [upd_ne nTf]; exact hF, hlt, ?_⟩
        have := fin (p.1 ||| c) false (by unfold upD; rw [if_pos h]) (by
          rw [e2]; unfold hasD; rw [List.any_append]; simp [h]) T nT
        rw [← or_nat] at this
        exact this
      · refine ⟨_, rfl, .inl ⟨rfl, _, .inl (.inl hF)⟩, _, rfl, _, rfl, (by show 2 ≤ sizeLine; decide), fun T nT => ?_⟩
        have nTf : f ≠ T := ne_of_none hF nT
        refine ⟨f, vs, _, rfl, rfl, by rw [upd_ne nTf]; exact hF, hlt, ?_⟩
        exact fin p.1 (!hasD (ps.take i) t) (by unfold upD; rw [if_neg h]) (by
          have h' : PyData.eqv p.2 t = false := by simpa using h
          rw [e2]; unfold hasD; rw [List.any_append]; simp [h']) T nT
    · rintro σ H' ⟨v5, v6, vs, rfl, s1, hF, hvs⟩
      rw [hlv, List.take_length] at hvs ⊢
      have sH : Same H H' := s1.trans del_sub
      have hlt : vs.length < sizeLine := by
        have := hvs.length
        rw [List.length_map] at this
        exact small1000 (by omega)
      dsimp only [tSeq]
      cases hb : hasD ps t with
      | true =>
        refine ⟨_, rfl, _, rfl, iteF ?_⟩
        refine ⟨_, rfl, q H' f sH hf ⟨vs, hF, ?_⟩⟩
        unfold addD
        rw [hb, if_pos rfl, List.append_nil]
        exact pmap hvs fun _ _ z => z.same del_sub
      | false =>
        refine ⟨_, rfl, _, rfl, iteT ?_⟩
        refine ⟨_, rfl, .inl ⟨rfl, _, .inl (.inl hF)⟩, _, rfl, _, rfl, (by show 2 ≤ sizeLine; decide), fun T nT => ?_⟩
        have nTf : f ≠ T := ne_of_none hF nT
        refine ⟨f, vs, _, rfl, rfl, by rw [upd_ne nTf]; exact hF, hlt, ?_⟩
        have s2 : Same H' (upd H' T (.tup [.int (c : Int), x])) := same_upd nT
        have s4 : Same (del H' f) (upd (upd H' T (.tup [.int (c : Int), x])) f (.lst (vs ++ [.ref T]))) := by
          have z : Same (del (upd (upd H' T (.tup [.int (c : Int), x])) f (.lst (vs ++ [.ref T]))) f) (upd (upd H' T (.tup [.int (c : Int), x])) f (.lst (vs ++ [.ref T]))) := del_sub
          rw [del_upd] at z
          exact (del_mono s2).trans z
        refine ⟨_, rfl, q _ f (s1.trans s4) hf ⟨_, upd_same, ?_⟩⟩
        unfold addD
        rw [hb, if_neg (by decide)]
        refine papp (pmap hvs fun _ _ z => z.same s4) (.cons ⟨T, x, rfl, .inl (.inl ?_), Dp.same (s1.trans s4) hx, ht⟩ .nil)
        rw [upd_ne nTf.symm, upd_same]
end
/-! ### the same over things of a kind of their own -/
section
variable {α : Type} [DecidableEq α] {d : α → PyData}
def mapD (d : α → PyData) (ps : List (Nat × α)) : List (Nat × PyData) := ps.map fun p => (p.1, d p.2)
theorem hasD_map (hd : ∀ x y, PyData.eqv (d x) (d y) = decide (x = y)) (ps : List (Nat × α)) (t : α) : hasD (mapD d ps) (d t) = decide (t ∈ ps.map (·.2)) := by
  unfold hasD mapD
  rw [List.any_map]
  induction ps with
  | nil => simp
  | cons p r ih =>
    rw [List.any_cons, ih]
    show (PyData.eqv (d p.2) (d t) || _) = _
    rw [hd]
    by_cases h : p.2 = t
    · simp [h]
    · have h' : ¬ t = p.2 := fun e => h e.symm
      simp [h, h']
theorem addD_map (hd : ∀ x y, PyData.eqv (d x) (d y) = decide (x = y)) (ps : List (Nat × α)) (c : Nat) (t : α) : addD (mapD d ps) c (d t) = mapD d (addR ps c t) := by
  unfold addD addR
  rw [hasD_map hd]
  unfold mapD
  rw [List.map_append, List.map_map, List.map_map]
  have e : (ps.map ((upD c (d t)) ∘ fun p => (p.1, d p.2))) = ps.map ((fun p => (p.1, d p.2)) ∘ fun p => if p.2 = t then (p.1 ||| c, p.2) else p) := List.map_congr_left fun p _ => by
    show upD c (d t) (p.1, d p.2) = _
    unfold upD
    show (if PyData.eqv (d p.2) (d t) = true then _ else _) = (fun p : Nat × α => (p.1, d p.2)) (if p.2 = t then (p.1 ||| c, p.2) else p)
    rw [hd]
    by_cases h : p.2 = t
    · rw [if_pos (decide_eq_true h), if_pos h]
    · rw [if_neg (by simp [h]), if_neg h]
  rw [e]
  congr 1
  by_cases h : t ∈ ps.map (·.2)
  · rw [if_pos (decide_eq_true h), if_pos h]; rfl
  · rw [if_neg (by simpa using h), if_neg h]; rfl
theorem mapD_len (ps : List (Nat × α)) : (mapD d ps).length = ps.length := List.length_map _
end
end ML

set_option Elab.async false
set_option linter.all false
set_option maxRecDepth 100000
set_option maxHeartbeats 4000000
namespace ML
open PySem PySem.Spec PyProof.Rows L2 MM
open PySem.W (EachIs SortsAt KeepsBut sortVals dataKind)
/-! ### sorted(l, key=f) where f's answers rise already: the same items, in a new list -/
section
variable {X : Cx} {pins : List (Addr × Obj)} {σ : L2.St} {H : Hp} {s : Shared}
theorem each_ints {h : Heap} : ∀ {us : List Value} {ns : List Nat}, Vals (intsV ns) us → EachIs (fun v d => ∃ as, Reads h v d as) us (ns.map fun n : Nat => PyData.int (n : Int))
  | [], [], _ => .nil
  | _ :: _, [], r => nomatch r
  | [], _ :: _, r => nomatch r
  | u :: us, n :: ns, r => by
    cases r with
    | cons a b =>
      obtain ⟨t, rfl⟩ := a
      exact .cons ⟨[], .int _ _⟩ (each_ints b)
theorem each_vals : ∀ {xs : List V} {us : List Value} {ns : List Nat}, Vals xs us → ns.length = xs.length → EachIs (fun (u : Value) (b : V × Nat) => RelV b.1 u) us (xs.zip ns)
  | [], [], _, _, _ => .nil
  | x :: xs, u :: us, n :: ns, .cons a b, h => .cons a (each_vals b (by simpa using h))
  | _ :: _, _ :: _, [], _, h => by simp at h
  | [], _ :: _, _, r, _ => nomatch r
  | _ :: _, [], _, r, _ => nomatch r
theorem vals_each : ∀ {xs : List V} {us : List Value} {ns : List Nat}, ns.length = xs.length → EachIs (fun (u : Value) (b : V × Nat) => RelV b.1 u) us (xs.zip ns) → Vals xs us
  | [], us, ns, _, h => by
    have e : ([] : List V).zip ns = [] := rfl
    rw [e] at h
    cases h
    exact .nil
  | x :: xs, us, n :: ns, hl, h => by
    cases h with
    | cons a b => exact .cons a (vals_each (by simpa using hl) b)
  | x :: xs, us, [], hl, _ => by simp at hl
theorem zip_rising {xs : List V} {ns : List Nat} (h : ns.Pairwise (· < ·)) : (xs.zip ns).mergeSort (PySem.W.dataLe false fun b : V × Nat => PyData.int (b.2 : Int)) = xs.zip ns := by
  rw [PySem.W.dataLe_int]
  refine List.mergeSort_of_pairwise ?_
  rw [List.pairwise_iff_getElem] at h ⊢
  intro i j hi hj hij
  rw [List.length_zip] at hi hj
  have := h i j (by omega) (by omega) hij
  rw [List.getElem_zip, List.getElem_zip]
  exact decide_eq_true (by show ((ns[i] : Nat) : Int) ≤ ((ns[j] : Nat) : Int); omega)
/-- what stands in a run of the sort: H' the heap told, s' the state; the copy at a is empty and known to the object, the keys stand at k -/
structure SortAt (X : Cx) (H : Hp) (s : Shared) (a k : Addr) (oa : Obj) (ns : List Nat) (H' : Hp) (s' : Shared) : Prop where
  os : s'.os = s.os
  bare : AllBare s'.gens
  un : Un (frs X.stack) [] H H' s.heap s'.heap
  hok : HOk X.prog X.w H' s'.heap
  same : Same H H'
  copy : H' a = some (.frz oa (.lst []))
  keys : H' k = some (.lst (intsV ns))
theorem sorted_rising {l f : Addr} {fo : Obj} {xs : List V} {ns : List Nat} {Q : VK} {E : Value → Shared → Prop} (I : Inv X pins σ H s) (hl : H l = some (.lst xs)) (hun : X.A.units + 2 < cLine)
    (key : ∀ (s' : Shared) (H' : Hp) (i m : Nat) (x : V) (u : Value), Env0 X.prog X.w X.K X.mg X.base X.A.in1.in1 X.stack s' H' → Same H H' → s'.heap.get? f = some fo → xs[i]? = some x → ns[i]? = some m → RelV x u →
      codeAny (model X.prog X.w) X.A.in1.in1 (.call (.ref f) ⟨[u], []⟩) (CR CX0 X.stack X.prog X.w H' s' (fun v H'' => v = .int (m : Int) ∧ Same H' H'') E0) s')
    (hn : ns.length = xs.length) (hasc : ns.Pairwise (· < ·)) (hz : xs.length ≤ 1000) (hf : s.heap.get? f = some fo) (hfH : H f = none) (hff : f ∉ frs X.stack)
    (q : ∀ H' p, Same H H' → H p = none → H' p = some (.lst xs) → Q (.ref p) H') :
    wpAny (model X.prog X.w) X.A (call (.builtin "sorted") [.ref l] [(Str.ofString "key", .ref f)]) (EP X pins σ Q) E s := by
  obtain ⟨_, its, nl, rv, ho⟩ := I.hok l _ hl
  have hlen : its.length = xs.length := rv.length.symm
  have hL : its.length ≤ sizeLine := by rw [hlen, sizeLine_eq]; omega
  have hns : ns.length = its.length := hn.trans hlen.symm
  have isl : s.heap.IsList l its.toArray := ⟨_, ho, rfl, nl, rfl⟩
  refine PySem.W.sorted_of_sort isl hL (PyProof.Rows.ksk_s1 _ _) (fun y => PyProof.Rows.ksk_l1 _ _) (fun E' => ?_)
  rw [PyProof.Rows.ksk_t1]
  obtain ⟨a, ea⟩ : ∃ a, a = s.heap.objs.size + 1 := ⟨_, rfl⟩
  rw [← ea]
  have hc : (PySem.W.copyHeap s.heap its).get? a = some (seqObj "list" its.toArray 0) := by rw [ea]; exact PySem.W.copyHeap_at _ _
  have na : H a = none := I.hok.fresh (by omega)
  obtain ⟨e1, hc1⟩ : ∃ e1, ((PySem.W.copyHeap s.heap its).update a (Obj.mapSeq fun _ => (#[] : Array Value))).get? a = some (seqObj "list" #[] e1) := ⟨_, get?_update_seq hc fun _ => #[]⟩
  have old1 : ∀ b o, s.heap.get? b = some o → ((PySem.W.copyHeap s.heap its).update a (Obj.mapSeq fun _ => (#[] : Array Value))).get? b = some o := fun b o e =>
    ((Heap.SameBut.update _ a _).2 b (by rw [ea]; exact Nat.ne_of_lt (Nat.lt_succ_of_lt (Heap.lt_size e)))).trans (PySem.W.copyHeap_old e)
  -- the copy's items are taken out, the tuple that holds them and the list of the keys are made
  unfold PyProof.Rows.ksk_tree
  refine wpAny_bind (listItems_at (n := 0) hc rfl (wpAny_bind (listUpdate_at (n := 0) hc rfl (wpAny_bind (seqEpoch_at hc1 rfl (wpAny_bind (wpAny_newTuple (wpAny_bind (wpAny_newList (wpAny_holding ?_) (Nat.zero_le _))) (by exact hL))))) (by rw [List.size_toArray]; exact hL) (Nat.zero_le _))))
  obtain ⟨h3, eh3⟩ : ∃ h3 : Heap, h3 = ((PySem.W.copyHeap s.heap its).update a (Obj.mapSeq fun _ => (#[] : Array Value))).push { cls := .type "tuple", data := .seq its.toArray } := ⟨_, rfl⟩
  obtain ⟨k, ek⟩ : ∃ k, k = h3.objs.size := ⟨_, rfl⟩
  have hsz : s.heap.objs.size + 3 = k := by
    rw [ek, eh3]
    show _ = (Heap.push _ _).objs.size
    rw [Heap.size_push, Heap.size_update]
    show s.heap.objs.size + 3 = (((s.heap.push (seqObj "list" #[] 0)).update s.heap.objs.size (Obj.mapSeq (· ++ its.toArray))).push (seqObj "list" its.toArray 0)).objs.size + 1
    rw [Heap.size_push, Heap.size_update, Heap.size_push]
  show wpAny _ _ (PyProof.Rows.ksk_rest a (.ref f) false its.toArray e1 (.ref (((PySem.W.copyHeap s.heap its).update a (Obj.mapSeq fun _ => (#[] : Array Value))).push { cls := .type "tuple", data := .seq its.toArray }).objs.size)) _ _
    { s with heap := (((PySem.W.copyHeap s.heap its).update a (Obj.mapSeq fun _ => (#[] : Array Value))).push { cls := .type "tuple", data := .seq its.toArray }).push { cls := .type "list", data := .seq ([] : List Value).toArray } }
  rw [← eh3, ← ek]
  have old3 : ∀ b o, s.heap.get? b = some o → h3.get? b = some o := fun b o e => by rw [eh3]; exact Heap.get?_push_of_some _ (old1 b o e)
  have hc3 : h3.get? a = some (seqObj "list" #[] e1) := by rw [eh3]; exact Heap.get?_push_of_some _ hc1
  have I3 : Inv X pins σ (upd H a (.frz (seqObj "list" #[] e1) (.lst []))) { s with heap := h3, toks := s.toks } :=
    I.laid (t' := s.toks) old3 (by omega) ⟨hc3, Nat.zero_le _, [], e1, .nil, hc3⟩
  have nka : k ≠ a := by omega
  have nk : (upd H a (.frz (seqObj "list" #[] e1) (.lst []))) k = none := I3.hok.fresh (Nat.le_of_eq ek.symm)
  have hk4 : (h3.push ({ cls := .type "list", data := .seq ([] : List Value).toArray } : Obj)).get? k = some (seqObj "list" #[] 0) := by rw [ek]; exact Heap.get?_push_size _ rfl
  have s0 : Same H (upd (upd H a (.frz (seqObj "list" #[] e1) (.lst []))) k (.lst [])) := (same_upd na).trans (same_upd nk)
  have S0 : SortAt X H s a k (seqObj "list" #[] e1) [] (upd (upd H a (.frz (seqObj "list" #[] e1) (.lst []))) k (.lst [])) { s with heap := h3.push { cls := .type "list", data := .seq ([] : List Value).toArray } } := by
    have I4 : Inv X pins σ (upd (upd H a (.frz (seqObj "list" #[] e1) (.lst []))) k (.lst [])) { s with heap := h3.push { cls := .type "list", data := .seq ([] : List Value).toArray }, toks := s.toks } :=
      I3.laid (t' := s.toks) (fun b o e => Heap.get?_push_of_some _ e) (Nat.le_of_eq ek.symm) ⟨Nat.zero_le _, [], 0, .nil, hk4⟩
    refine ⟨rfl, I.bare, ?_, I4.hok, s0, by rw [upd_ne nka.symm, upd_same], upd_same⟩
    exact (Un.laid old3 (by omega) na).trans (Un.laid (fun b o e => Heap.get?_push_of_some _ e) (Nat.le_of_eq ek.symm) nk)
  -- the keys, one by one
  obtain ⟨sB, hsB⟩ : ∃ sB : Shared, sB = { s with heap := h3.push { cls := .type "list", data := .seq ([] : List Value).toArray } } := ⟨_, rfl⟩
  rw [← hsB] at S0 ⊢
  have toInv : ∀ {ms : List Nat} {H' : Hp} {s' : Shared}, SortAt X H s a k (seqObj "list" #[] e1) ms H' s' → Inv X pins σ H' s' := fun {ms H' s'} z => I.call' (ch := []) z.os z.un z.hok z.bare fun b hb => absurd hb (by simp)
  unfold PyProof.Rows.ksk_rest
  refine wpAny_bind (wpAny_rule ?_)
  rw [List.forIn_toArray]
  refine wpAny_bind (PyProof.Rows.ksk_fold (fun i s' => ∃ H', SortAt X H s a k (seqObj "list" #[] e1) (ns.take i) H' s') its 0 sB ⟨_, S0⟩ ?step ?done)
  case step =>
    rintro j u s' hu ⟨H', z⟩
    simp only [Nat.zero_add] at z ⊢
    have hj : j < its.length := (List.getElem?_eq_some_iff.mp hu).1
    obtain ⟨x, hx, rx⟩ := pgetR rv hu
    obtain ⟨m, hm⟩ : ∃ m, ns[j]? = some m := ⟨_, List.getElem?_eq_getElem (by omega)⟩
    have J := toInv z
    have hf' : s'.heap.get? f = some fo := z.un.keep f fo hf hfH hff (by simp)
    refine wpAny_bind (wpAny_attempt (wpAny_call (codeAny_mono (key s' H' j m x u J.env0.in1.in1 z.same hf' hx hm rx) fun r s'' hr => ?_)))
    cases r with
    | error e => exact hr.elim
    | ok fl =>
      cases fl with
      | next => exact hr.elim
      | brk => exact hr.elim
      | cont => exact hr.elim
      | ret v =>
        obtain ⟨w', H2, os2, bare2, un2, hok2, rw', ew, sm2⟩ := hr
        subst ew
        have z2 : SortAt X H s a k (seqObj "list" #[] e1) (ns.take j) H2 s'' := ⟨os2.trans z.os, bare2, z.un.trans un2, hok2, z.same.trans sm2, sm2 _ _ z.copy, sm2 _ _ z.keys⟩
        obtain ⟨_, kits, nk', rk, hk'⟩ := z2.hok k _ z2.keys
        have lenK : kits.length = (ns.take j).length := by
          have := rk.length
          unfold intsV at this
          rw [List.length_map] at this
          exact this.symm
        have ltK : kits.length < 1000 := by rw [lenK, List.length_take]; omega
        have hk2 : s''.heap.get? k = some (seqObj "list" kits.toArray nk') := hk'
        obtain ⟨c2, hc2⟩ : ∃ c2, (s''.heap.update k (Obj.mapSeq (·.push v))).get? k = some (seqObj "list" (kits.toArray.push v) c2) := ⟨_, get?_update_seq hk2 (·.push v)⟩
        have J2 := toInv z2
        refine wpAny_bind (listUpdate_at hk2 rfl (wpAny_pure ⟨rfl, ?_⟩) (by rw [List.size_toArray, sizeLine_eq]; omega) (by rw [Array.size_push, List.size_toArray, sizeLine_eq]; omega))
        have ek2 : ns.take (j + 1) = ns.take j ++ [m] := by rw [List.take_add_one, hm]; rfl
        have J3 : Inv X pins σ (upd H2 k (.lst (intsV (ns.take (j + 1))))) { s'' with heap := s''.heap.update k (Obj.mapSeq (·.push v)), toks := s''.toks } := by
          refine J2.write (t' := s''.toks) (x := k) (e := k) (by rw [z2.keys]; trivial) (.inl rfl) (fun b o hb e => ((Heap.SameBut.update s''.heap k (Obj.mapSeq (·.push v))).2 b hb).trans e) ⟨_, hc2⟩ ⟨?_, kits ++ [v], c2, ?_, ?_⟩
          · unfold intsV
            rw [List.length_map, List.length_take, sizeLine_eq]; omega
          · rw [ek2]
            unfold intsV
            rw [List.map_append]
            exact rk.append (.cons rw' .nil)
          · rw [hc2]
            show some (seqObj "list" (kits.toArray.push v) c2) = some (seqObj "list" (kits ++ [v]).toArray c2)
            rw [List.push_toArray]
        refine ⟨upd H2 k (.lst (intsV (ns.take (j + 1)))), z2.os, z2.bare, ?_, J3.hok, fun b o e => ?_, by rw [upd_ne nka.symm]; exact z2.copy, upd_same⟩
        · exact z2.un.trans (Un.write (by rw [z2.keys]; trivial) (.inl rfl) (fun b o hb e => ((Heap.SameBut.update s''.heap k (Obj.mapSeq (·.push v))).2 b hb).trans e) ⟨_, hc2⟩)
        · have hb : b ≠ k := fun y => by
            have : H b = none := by rw [y]; rw [upd_ne nka] at nk; exact nk
            rw [this] at e; cases e
          rw [upd_ne hb]
          exact z2.same _ _ e
  case done =>
    rintro s' ⟨H', z⟩
    have e3 : ns.take (0 + its.length) = ns := List.take_of_length_le (by omega)
    rw [e3] at z
    obtain ⟨_, kits, nk', rk, hk'⟩ := z.hok k _ z.keys
    have hk2 : s'.heap.get? k = some (seqObj "list" kits.toArray nk') := hk'
    have ha2 : s'.heap.get? a = some (seqObj "list" #[] e1) := (z.hok a _ z.copy).1
    have lenK : kits.length = its.length := by
      have := rk.length
      unfold intsV at this
      rw [List.length_map] at this
      omega
    refine wpAny_bind (listItems_at hk2 rfl ?_)
    obtain ⟨G, g1, g2⟩ := restrict s'.heap fun b => decide (b ≠ k)
    have gk : ∀ b, b ≠ k → G.get? b = s'.heap.get? b := fun b hb => g1 b (decide_eq_true hb)
    have ge : G.get? k = none := g2 k (by simp)
    have kp : KeepsBut a G s'.heap := fun b o hb e => by
      by_cases hbk : b = k
      · rw [hbk, ge] at e; cases e
      · rw [← gk b hbk]; exact e
    have hal : PySem.W.AllAlike (ns.map fun n : Nat => PyData.int (n : Int)) := fun d hd d' hd' => by
      obtain ⟨n1, _, rfl⟩ := List.mem_map.mp hd
      obtain ⟨n2, _, rfl⟩ := List.mem_map.mp hd'
      rfl
    have hso : PySem.W.Sortable (ns.map fun n : Nat => PyData.int (n : Int)) := .inr fun d hd => by
      obtain ⟨n1, _, rfl⟩ := List.mem_map.mp hd
      exact ⟨(fun y => by cases y), (fun _ y => by cases y)⟩
    have ekz : (kits.toArray).toList = kits := by simp
    have SA : SortsAt X.prog X.w X.A.in1.in1 s' (dataKind s'.heap (ns.map fun n : Nat => PyData.int (n : Int))) kits.toArray.toList := by
      rw [ekz]
      refine SortsAt.data (each_ints rk) hal hso fun d hd => ?_
      obtain ⟨n1, _, rfl⟩ := List.mem_map.mp hd
      show X.A.units + 1 + 1 + 0 < cLine
      omega
    refine PySem.W.keyH_end (κ := dataKind s'.heap (ns.map fun n : Nat => PyData.int (n : Int))) (h₁ := G) kp ge hk2 ha2 nka SA (by rw [List.size_toArray]; exact lenK) hL fun h' tk c kp' hD => ⟨rfl, ?_⟩
    -- the copy has the items again, in the same order
    have eout : EachIs (fun (u : Value) (b : V × Nat) => RelV b.1 u) (sortVals (dataKind s'.heap (ns.map fun n : Nat => PyData.int (n : Int))) false kits.toArray.toList its) (xs.zip ns) := by
      have ko : PySem.W.KeyedOut false ((xs.zip ns).map fun b : V × Nat => PyData.int (b.2 : Int)) its (sortVals (dataKind s'.heap (ns.map fun n : Nat => PyData.int (n : Int))) false kits.toArray.toList its) := by
        have em : ((xs.zip ns).map fun b : V × Nat => PyData.int (b.2 : Int)) = ns.map fun n : Nat => PyData.int (n : Int) := by
          rw [show (fun b : V × Nat => PyData.int (b.2 : Int)) = (fun n : Nat => PyData.int (n : Int)) ∘ Prod.snd from rfl, ← List.map_map, List.map_snd_zip (by omega)]
        rw [em, ekz]
        exact ⟨s'.heap, kits, hal, rfl, each_ints rk⟩
      have := PySem.W.keyedOut_each (fun b : V × Nat => PyData.int (b.2 : Int)) ko (each_vals rv hn)
      rw [zip_rising hasc] at this
      exact this
    have rout := vals_each hn eout
    obtain ⟨out, eo⟩ : ∃ out, out = sortVals (dataKind s'.heap (ns.map fun n : Nat => PyData.int (n : Int))) false kits.toArray.toList its := ⟨_, rfl⟩
    rw [← eo] at rout hD
    have ltk : ∀ {b : Addr} {o : Obj}, s.heap.get? b = some o → b ≠ k ∧ b ≠ a := fun {b o} e => by
      have h1 : b < s.heap.objs.size := Heap.lt_size e
      exact ⟨Nat.ne_of_lt (by rw [← hsz]; exact Nat.lt_of_lt_of_le h1 (Nat.le_add_right _ _)), Nat.ne_of_lt (by rw [ea]; exact Nat.lt_succ_of_lt h1)⟩
    have keep' : ∀ b o, b ≠ a → b ≠ k → s'.heap.get? b = some o → h'.get? b = some o := fun b o hb hbk e => kp' b o hb (by rw [gk b hbk]; exact e)
    have nHk : H k = none := by rw [upd_ne nka] at nk; exact nk
    have nsame : ∀ {b : Addr} {o : HO}, H b = some o → (upd (del H' k) a (.lst xs)) b = some o := fun {b o} e => by
      rw [upd_ne (ne_of_none e na), del_ne (ne_of_none e nHk)]
      exact z.same _ _ e
    have U : Un (frs X.stack) [] H (upd (del H' k) a (.lst xs)) s.heap h' := {
      keep := fun b o e n hb hx => keep' b o (ltk e).2 (ltk e).1 (z.un.keep b o e n hb hx)
      slot := fun b o e n hb hx => by
        obtain ⟨sl, e2⟩ := z.un.slot b o e n hb hx
        exact ⟨sl, keep' b _ (ltk e).2 (ltk e).1 e2⟩
      free := fun b o e n hx => by
        rw [upd_ne (ltk e).2, del_ne (ltk e).1]
        exact z.un.free b o e n hx
      there := fun b o e hx => by
        obtain ⟨o', e2⟩ := z.un.there b o e hx
        exact ⟨o', keep' b _ (ltk e).2 (ltk e).1 e2⟩
      tups := fun b ys e => nsame e
      frzs := fun b o y e => nsame e
      tbls := fun b ps e => ⟨#[], by rw [nsame e]; simp⟩ }
    have hok' : HOk X.prog X.w (upd (del H' k) a (.lst xs)) h' := fun b o e => by
      by_cases hb : b = a
      · subst hb
        rw [upd_same] at e
        cases e
        exact ⟨by rw [sizeLine_eq]; omega, out, c, rout, hD⟩
      · rw [upd_ne hb] at e
        have hbk : b ≠ k := fun y => by rw [y, del_same] at e; cases e
        rw [del_ne hbk] at e
        have own : ∀ c, H' c = some (.own b) → c ≠ a ∧ c ≠ k := fun c hc => ⟨(fun y => by rw [y, z.copy] at hc; cases hc), (fun y => by rw [y, z.keys] at hc; cases hc)⟩
        refine (z.hok b o e).stay (fun c' v hc' y => ?_) (fun c' hc' => ?_) (fun c' ys hc' => ?_)
        · rcases hc' with rfl | hc'
          · exact keep' _ v hb hbk y
          · exact keep' _ v (own c' hc').1 (own c' hc').2 y
        · rw [upd_ne (own c' hc').1, del_ne (own c' hc').2]; exact hc'
        · have n1 : c' ≠ a := fun y => by rw [y, z.copy] at hc'; cases hc'
          have n2 : c' ≠ k := fun y => by rw [y, z.keys] at hc'; cases hc'
          rw [upd_ne n1, del_ne n2]; exact hc'
    refine ⟨.ref a, upd (del H' k) a (.lst xs), I.call' (s' := { s' with heap := h', toks := tk }) (ch := []) z.os U hok' z.bare (fun b hb => absurd hb (by simp)), rfl, ?_⟩
    exact q _ a (fun b o e => nsame e) na upd_same
end
end ML

set_option Elab.async false
set_option linter.all false
set_option maxRecDepth 100000
set_option maxHeartbeats 4000000
namespace ML
open PySem PySem.Spec PyProof.Rows L2 MM
/-! ### a lambda that captures nothing is called: its body's reading at its arguments -/
theorem lam_run {CX : CXT} {P : Program} {w : World} {K : PySem.W.Frag} {mg : Str → Option Value} {base : Heap} {k : Nat} {f c' : Addr} {lq : Str} {params : Arguments} {body : Expr} {scope : Scope} {pm ctv : Value} {N ps : List Str} (S : FnScope N ps scope)
    {A : Around} {outer : List Env} {s : Shared} {H : Hp} {us : List Value} {vs : List V} {Q : VK} {E : XK} {t : TE} (hr : Room (k + 1) A) (e0 : Env0 P w K mg base A outer s H) (hf : s.heap.get? f = some (PySem.W.kla_obj "<lambda>" lq params body scope [] pm c' ctv)) (hc : s.heap.CodeRec (.ref c') lq)
    (hb : bindArgs (PySem.W.kla_fn "<lambda>" lq params body scope [] pm (.ref c') ctv) ⟨us, []⟩ = pure (ps.zip us)) (r : Vals vs us) (hl : vs.length = ps.length)
    (ht : PE (cxOf CX P w K mg base N lq scope f (.ref c') A outer s H E) body t) (h : t (L2.start N vs) H Q) : codeAny (model P w) A (.call (.ref f) ⟨us, []⟩) (CR CX outer P w H s Q E) s := by
  have lim : s.heap.NoLimit := e0.mod.nolimit.keeps fun b o e => (e0.bs b o e).1
  refine PySem.W.kla_callFunE hr.depth hf rfl S.co S.gen rfl hc ?_
  rw [hb]
  refine wpAny_pure (wpAny_newFunctionEnv_cells S.kind (fun ⟨n, v⟩ hy => ?_) fun env he s1 x => ?_)
  · rcases S.par n (List.of_mem_zip hy).1 with q | q
    · exact .inl q
    · exact .inr ⟨q, PySem.W.cellsFrom_some _ _ _ (.inl q)⟩
  · subst he
    have J : Inv (cxOf CX P w K mg base N lq scope f (.ref c') A outer s H E) [] (L2.start N vs) H s1 := inv_start S hr.hd e0 hl r x
    refine ⟨lim.keeps x.toInCall.keep, PySem.W.kla_codeExpr (wpAny_mono (ht.run [] s1 _ H Q J h) (fun v s' hq => ?_) fun e s' hq => hq)⟩
    obtain ⟨w', H', J', rv, q⟩ := hq
    exact ⟨w', H', J'.os, J'.bare, J'.base, J'.hok, rv, q⟩
/-- nothing stands at p but for a table of code objects -/
def New (H : Hp) (p : Addr) : Prop := ∀ o, H p = some o → ∃ ps, o = .tbl ps
theorem New.ne {H : Hp} {p b : Addr} {o : HO} (n : New H p) (h : H b = some o) (ht : ∀ ps, o ≠ .tbl ps) : b ≠ p := fun e => by
  subst e
  obtain ⟨ps, z⟩ := n o h
  exact ht ps z
theorem New.of {H : Hp} {p : Addr} (h : H p = none) : New H p := fun o z => by rw [h] at z; cases z
theorem code_at {P : Program} {w : World} {H : Hp} {h : Heap} {c : Addr} {q : Str} (hok : HOk P w H h) (e : H c = some (LamX.CodeO c q)) : h.CodeRec (.ref c) q := by
  obtain ⟨⟨oc, vs, t, h1, h2, h3⟩, _, _⟩ := hok c _ e
  exact ⟨c, oc, vs, t, rfl, h1, h2, h3⟩
/-! ### sorted(e, key=lambda ..), the keys rising already -/
section
variable {X : Cx} {e : Expr} {te tb : TE} {params : Arguments} {body : Expr} {scope : Scope} {p lpos kpos pos : Pos} {c Pt : Addr} {k : Nat} {N : List Str} {y : Str}
def tSortK (Pt : Addr) (lq : Str) (N : List Str) (tb : TE) (te : TE) : TE := fun σ H Q => tCons te tNil σ H fun vs H1 => ∃ (l : Addr) (xs : List V) (ns : List Nat), vs = [.ref l] ∧ H1 l = some (.lst xs) ∧ ns.length = xs.length ∧ xs.length ≤ 1000 ∧ ns.Pairwise (· < ·) ∧ LamX.Tabs [(Pt, lq)] H1 ∧
  (∀ H2 (i m : Nat) x, LamX.ExtN H1 H2 → xs[i]? = some x → ns[i]? = some m → tb (L2.start N [x]) H2 fun v H3 => v = .int (m : Int) ∧ Same H2 H3) ∧
  ∀ H2 p, LamX.ExtN H1 H2 → LamX.Tabs [(Pt, lq)] H2 → New H1 p → H2 p = some (.lst xs) → Q (.ref p) H2
theorem pe_sortK {lq : Str} (he : PE X e te) (TB : LamX.TabB X.base X.mg c Pt) (hcode : X.env.code = .ref c) (hlq : X.env.qual ++ "<lambda>" = lq) (S : FnScope N [y] scope) (hr : Room (k + 1) X.A) (hg : Gl X "sorted") (hm : X.mg "sorted" = none)
    (hbody : ∀ (A : Around) (outer : List Env) (s : Shared) (H : Hp) (f c' : Addr), Room k (A.deeper (envOfC lq scope s.heap.objs.size f (.ref c'))) → PE (cxOf CX0 X.prog X.w X.K X.mg X.base N lq scope f (.ref c') A outer s H E0) body tb)
    (hbind : ∀ (pm ctv : Value) (c' : Addr) (u : Value), bindArgs (PySem.W.kla_fn "<lambda>" lq params body scope [] pm (.ref c') ctv) ⟨[u], []⟩ = pure [(y, u)])
    (hdef : defaultsOf params X.env = ([], [])) (hnf : ∀ z ∈ scope.names, z.2 ≠ .free) (hcl : cloFrom X.env.cells scope.names [] = []) (hru : Room (k + 3) X.A)
    (hes : starEach [e] X.env = (false, eval e X.env) :: starEach [] X.env := by rfl) (hpl : (backTo pos (starEach [e] X.env)).any (·.1) = false := by rfl)
    (hall : (backToKw pos (keywordEach [⟨some "key", .Lambda params body scope lpos, kpos⟩] X.env)).all (·.1.isSome) = true := by rfl) (hnone : (backToKw pos (keywordEach [⟨some "key", .Lambda params body scope lpos, kpos⟩] X.env)).any (·.1.isNone) = false := by rfl)
    (hks : (backToKw pos (keywordEach [⟨some "key", .Lambda params body scope lpos, kpos⟩] X.env)).filterMap (·.1) = (["key"] : List Str) := by rfl) :
    PE X (.Call (.Name "sorted" p) [e] [⟨some "key", .Lambda params body scope lpos, kpos⟩] pos) (tSortK Pt lq N tb te) := by
  refine ⟨fun pins s σ H Q I h => ?_⟩
  subst hlq
  refine wpAny_Call_Name_kw (ld_blt (u := .builtin "sorted") I hg hm (by decide +kernel) ?_ (by decide) (by decide))
  refine PyProof.Rows.callWith_kw (thn ((pa_cons he pa_nil hes).run pos pins s σ H _ I h) fun us s1 hq => ?_) (by rw [hes]; rfl) hpl hall hnone
  rw [hks]
  obtain ⟨vs', H1, I1, rvs, l, xs, ns, ex, hl, hn, hz, hasc, hT, hkey, q⟩ := hq
  subst ex
  obtain ⟨u, rfl, rx⟩ : ∃ u, us = [u] ∧ RelV (.ref l) u := by cases rvs with | cons a b => cases b; exact ⟨_, rfl, a⟩
  obtain rfl : u = Value.ref l := rx
  show wpAny _ _ (evalAll ((do let v ← eval (.Lambda params body scope lpos) X.env; standAt pos; pure v) :: [])) _ _ s1
  refine wpAny_evalAll_cons (wpAny_bind (LamX.lam_make2 (T := [(Pt, X.env.qual ++ "<lambda>")]) I1 TB hcode (by simp) (fun z hz' _ => by rw [List.mem_singleton] at hz'; rw [hz']) hT hdef (fun z hz' ez => absurd ez (hnf z hz')) fun f c' pm ctv H2 s2 I2 ext hT2 hfo hfn hff hco => wpAny_bind (wpAny_standAt (wpAny_pure (wpAny_evalAll_nil ?_)))))
  rw [hcl] at hfo
  have hl2 : H2 l = some (.lst xs) := ext _ _ hl fun ps z => by cases z
  show wpAny _ _ (call (.builtin "sorted") [.ref l] [(Str.ofString "key", .ref f)]) _ _ s2
  refine sorted_rising (ns := ns) I2 hl2 (by have := hr.units; omega) (fun s' H' i m x u e0 sm hf' hx hm' rx' => ?_) hn hasc hz hfo hfn hff fun H' pp sm hp hd => ?_
  · have hr3 : Room (k + 1) X.A.in1.in1 := (hru.in1).in1
    refine lam_run S hr3 e0 hf' (code_at e0.hok (sm _ _ hco)) (hbind pm ctv c' u) (.cons rx' .nil) rfl (hbody _ _ s' H' f c' (hr3.deeper _)) ?_
    exact hkey H' i m x (ext.trans (LamX.ExtN.of sm)) hx hm'
  · refine q H' pp (ext.trans (LamX.ExtN.of sm)) (hT2.ext sm) (fun o eo => ?_) hd
    by_cases ht : ∃ ps, o = .tbl ps
    · exact ht
    · exfalso
      have := ext _ _ eo fun ps z => ht ⟨ps, z⟩
      rw [hp] at this; cases this
end
end ML

set_option Elab.async false
set_option linter.all false
set_option maxRecDepth 100000
set_option maxHeartbeats 4000000
namespace ML
open PySem PySem.Spec PyProof.Rows L2 MM
/-! ### a heap's part without tables -/
def noT (H : Hp) : Hp := fun b => match H b with
  | some (.tbl _) => none
  | o => o
theorem noT_of {H : Hp} {b : Addr} {o : HO} (h : H b = some o) (n : ∀ ps, o ≠ .tbl ps) : noT H b = some o := by
  unfold noT
  rw [h]
  cases o <;> first | rfl | exact absurd rfl (n _)
theorem noT_sub {H : Hp} : Same (noT H) H := fun b o e => by
  unfold noT at e
  cases q : H b with
  | none => rw [q] at e; cases e
  | some u =>
    rw [q] at e
    cases u <;> first | exact e | cases e
theorem noT_not {H : Hp} {b : Addr} {o : HO} (h : noT H b = some o) (ps : Array Value) : o ≠ .tbl ps := fun z => by
  subst z
  unfold noT at h
  cases q : H b with
  | none => rw [q] at h; cases h
  | some u => rw [q] at h; cases u <;> cases h
theorem noT_ext {H H' : Hp} (e : LamX.ExtN H H') : Same (noT H) (noT H') := fun b o h => noT_of (e b o (noT_sub _ _ h) (noT_not h)) (noT_not h)
theorem noT_seqT {K : PySem.W.Frag} {H : Hp} {a : Addr} {xs : List V} (h : SqT K H a xs) : SqT K (noT H) a xs := by
  rcases h with (h | ⟨o, h⟩) | h
  · exact .inl (.inl (noT_of h fun _ z => by cases z))
  · exact .inl (.inr ⟨o, noT_of h fun _ z => by cases z⟩)
  · exact .inr h
theorem noT_seqL {K : PySem.W.Frag} {H : Hp} {a : Addr} {xs : List V} (h : SqL K H a xs) : SqL K (noT H) a xs := by
  rcases h with (h | ⟨o, h⟩) | h
  · exact .inl (.inl (noT_of h fun _ z => by cases z))
  · exact .inl (.inr ⟨o, noT_of h fun _ z => by cases z⟩)
  · exact .inr h
mutual
theorem noT_dp {K : PySem.W.Frag} {H : Hp} : ∀ {v : V} {d : PyData}, Dp K H v d → Dp K (noT H) v d
  | _, _, .non => .non
  | _, _, .bl b => .bl b
  | _, _, .int i => .int i
  | _, _, .str x => .str x
  | _, _, .lst h a => .lst (noT_seqL h) (noT_dps a)
  | _, _, .tup h a => .tup (noT_seqT h) (noT_dps a)
theorem noT_dps {K : PySem.W.Frag} {H : Hp} : ∀ {vs : List V} {ds : List PyData}, DpAll K H vs ds → DpAll K (noT H) vs ds
  | _, _, .nil => .nil
  | _, _, .cons h t => .cons (noT_dp h) (noT_dps t)
end
theorem noT_prEnt {K : PySem.W.Frag} {H : Hp} {v : V} {p : Nat × PyData} (h : PrEnt K H v p) : PrEnt K (noT H) v p := by
  obtain ⟨t, x, e, h1, h2, h3⟩ := h
  exact ⟨t, x, e, noT_seqT h1, noT_dp h2, h3⟩
theorem noT_prAt {K : PySem.W.Frag} {H : Hp} {l : Addr} {ps : List (Nat × PyData)} (h : PrAt K H l ps) : PrAt K (noT H) l ps := by
  obtain ⟨vs, h1, h2⟩ := h
  exact ⟨vs, noT_of h1 (fun _ z => by cases z), pmap h2 fun _ _ => noT_prEnt⟩
theorem PrAt.ext {K : PySem.W.Frag} {H H' : Hp} (e : LamX.ExtN H H') {l : Addr} {ps : List (Nat × PyData)} (h : PrAt K H l ps) : PrAt K H' l ps := (noT_prAt h).same ((noT_ext e).trans noT_sub)
/-! ### by_least -/
abbrev blC (K : PySem.W.Frag) : Addr := (He.cT K ("by_least", none)).1
abbrev blT (K : PySem.W.Frag) : Addr := (He.cT K ("by_least", none)).2
def blQ : Str := "by_least.<locals>.<lambda>"
def TB (K : PySem.W.Frag) (H : Hp) : Prop := LamX.Tabs [(blT K, blQ)] H
theorem TB.same {K : PySem.W.Frag} {H H' : Hp} (h : TB K H) (s : Same H H') : TB K H' := LamX.Tabs.ext h s
def spBL (K : PySem.W.Frag) : Sp := fun vs H Q _ => ∃ (a : Addr) (ps : List (Nat × PyData)), vs = [.ref a] ∧ PrAt K H a ps ∧ Asc ps 256 ∧ ps.length ≤ 1000 ∧ TB K H ∧ ∀ H' l, LamX.ExtN H H' → TB K H' → New H l → PrAt K H' l ps → Q (.ref l) H'
def lamOf : Expr → Expr
  | .Call _ _ [k] _ => k.value
  | e => e
def retOf : List Stmt → Expr
  | [.Return (some e) _] => e
  | _ => .Name "" default
abbrev blLam : Expr := lamOf (retOf (defBody s_by_least))
def lamScope : Expr → Scope
  | .Lambda _ _ s _ => s
  | _ => defScope s_by_least
def lamBody : Expr → Expr
  | .Lambda _ b _ _ => b
  | e => e
abbrev n_lam : List Str := ["pair"]
theorem sc_lam : FnScope n_lam ["pair"] (lamScope blLam) := ⟨rfl, rfl, rfl, by decide +kernel, rfl, by decide +kernel, by decide +kernel⟩
section
variable {P : Program} {w : World} {K : PySem.W.Frag} {mg : Str → Option Value} {base : Heap}
theorem ok_by_least (T : Txt K mg) (B : LamX.TabB base mg (blC K) (blT K)) : OkF P w K mg base CX0 8 "by_least" ["pairs"] (spBL K) := by
  obtain ⟨fd, F⟩ := T.f_by_least
  refine ⟨⟨fd, ?_, F.bindsN fun _ _ _ _ _ _ us hl => match us, hl with | [_], _ => rfl⟩, F.kp, T.g_by_least⟩
  obtain ⟨oc, od, dV, kV, doc, pm, an, cdv, ct, osl, rfl, lk, hcd, _, _⟩ := F.ex
  refine (fn_of (k := 7) lk hcd sc_by_least (fun vs H Q E h => ?_) fun A outer s H vs Q E hr h => ?_)
  · obtain ⟨a, ps, rfl, _⟩ := h
    rfl
  · obtain ⟨a, ps, rfl, ⟨vs, hP, hps⟩, hasc, hlen, hT, q⟩ := h
    obtain ⟨c, ec⟩ := He.codeIn_ref hcd
    have ecc : blC K = c := He.codeOf_eq lk ec
    subst ecc
    have okl := ok_least_choice (P := P) (w := w) (base := base) T
    refine ⟨_, PSs.nox (pss_one (ps_ret (pe_sortK (k := 4) (N := n_lam) (y := "pair") (lq := blQ) (Pt := blT K) (pv 0) B ec rfl sc_lam (hr.mono (by decide)) (by rfl) T.b_sorted (fun A outer s H f c' hr => pe_callD okl hr pass0 (pa_cons (pe_ix (ix_tupK K) (pv 0) pe_int (fun _ _ => rfl)) pa_nil)) (fun pm ctv c' u => rfl) rfl (by decide +kernel) rfl (hr.mono (by decide))))), ?_⟩
    refine ⟨_, rfl, a, vs, ps.map (fun p => low p.1), rfl, hP, by rw [List.length_map, hps.length], by rw [hps.length]; exact hlen, hasc.ord, hT, fun H2 i m x ext hx hm => ?_, fun H2 p ext hT2 nw hd => q H2 p ext hT2 nw ⟨vs, hd, ?_⟩⟩
    · obtain ⟨p, hp, tt, z, rfl, hTt, hz, hsh⟩ := pget hps hx
      rw [List.getElem?_map, hp] at hm
      obtain rfl : low p.1 = m := Option.some.inj hm
      obtain ⟨p0, p1⟩ := hasc.pos p (List.mem_of_getElem? hp)
      have hT' : SqT K H2 tt [.int (p.1 : Int), z] := ((noT_ext ext).trans noT_sub).seqT (noT_seqT hTt)
      exact ⟨_, rfl, tt, _, 0, _, rfl, rfl, hT', rfl, p.1, low p.1, rfl, p1, low_is p0, fun H' sm => ⟨rfl, sm⟩⟩
    · exact pmap hps fun _ _ e => (noT_prEnt e).same ((noT_ext ext).trans noT_sub)
end
end ML

set_option Elab.async false
set_option linter.all false
set_option maxRecDepth 100000
set_option maxHeartbeats 4000000
namespace ML
open PySem PySem.Spec PyProof.Rows L2 MM
/-! ### looking up -/
section
variable {κ β : Type} [DecidableEq κ]
def look : List (κ × β) → κ → Option β
  | [], _ => none
  | p :: r, k => if p.1 = k then some p.2 else look r k
theorem look_some {k : κ} {b : β} : ∀ {l : List (κ × β)}, look l k = some b → (k, b) ∈ l
  | p :: r, h => by
    unfold look at h
    by_cases e : p.1 = k
    · rw [if_pos e] at h
      obtain rfl := Option.some.inj h
      rw [← e]
      exact List.mem_cons_self
    · rw [if_neg e] at h
      exact List.mem_cons_of_mem _ (look_some h)
theorem look_none {k : κ} : ∀ {l : List (κ × β)}, look l k = none ↔ k ∉ l.map (·.1)
  | [] => by simp [look]
  | p :: r => by
    unfold look
    by_cases e : p.1 = k
    · simp [e]
    · rw [if_neg e, look_none]
      have : ¬ k = p.1 := fun z => e z.symm
      simp [this]
theorem look_nodup {k : κ} {b : β} : ∀ {l : List (κ × β)}, (l.map (·.1)).Nodup → (k, b) ∈ l → look l k = some b
  | p :: r, h, hm => by
    rw [List.map_cons, List.nodup_cons] at h
    unfold look
    rcases List.mem_cons.mp hm with z | z
    · rw [← z]; simp
    · have : ¬ p.1 = k := fun e => h.1 (List.mem_map.mpr ⟨_, z, e.symm⟩)
      rw [if_neg this]
      exact look_nodup h.2 z
/-- a dict's pairs and their telling -/
theorem pair_look {α : Type} [DecidableEq α] {F : α × V → κ × β → Prop} (f : κ → α) (inj : ∀ a b, f a = f b → a = b) (hF : ∀ kv e, F kv e → kv.1 = f e.1) (k : κ) : ∀ {kvs : List (α × V)} {t : List (κ × β)}, Paired F kvs t →
    (look t k = none ∧ valV kvs (f k) = none) ∨ ∃ b v, look t k = some b ∧ valV kvs (f k) = some v ∧ F (f k, v) (k, b)
  | _, _, .nil => .inl ⟨rfl, rfl⟩
  | kv :: _, e :: es, .cons r t => by
    have h := hF _ _ r
    by_cases z : e.1 = k
    · right
      refine ⟨e.2, kv.2, if_pos z, valV_pos (h.trans (congrArg f z)), ?_⟩
      have e1 : kv = (f k, kv.2) := by rw [← z, ← h]
      have e2 : e = (k, e.2) := by rw [← z]
      rw [e1, e2] at r
      exact r
    · have z' : ¬ kv.1 = f k := fun q => z (inj _ _ (h.symm.trans q))
      have l1 : look (e :: es) k = look es k := if_neg z
      rw [l1, valV_neg z']
      exact pair_look f inj hF k t
end
theorem pkeys {κ β α : Type} {F : α × V → κ × β → Prop} {f : κ → α} (hF : ∀ kv e, F kv e → kv.1 = f e.1) : ∀ {kvs : List (α × V)} {t : List (κ × β)}, Paired F kvs t → kvs.map (·.1) = (t.map (·.1)).map f
  | _, _, .nil => rfl
  | _, _, .cons r t => by
    rw [List.map_cons, List.map_cons, List.map_cons, pkeys hF t, hF _ _ r]
theorem inr_inj (a b : Str) (h : (Sum.inr a : Key) = Sum.inr b) : a = b := Sum.inr.inj h
theorem inl_inj (a b : Nat) (h : (Sum.inl (a : Int) : Key) = Sum.inl (b : Int)) : a = b := Int.ofNat.inj (Sum.inl.inj h)
section
variable {K : PySem.W.Frag} {H : Hp}
theorem tr_look {kvs : List (Key × V)} {t : Tree} (h : Paired (TrEnt K H) kvs t) (k : Str) : (look t k = none ∧ valV kvs (.inr k) = none) ∨ ∃ r v, look t k = some r ∧ valV kvs (.inr k) = some v ∧ Dp K H v r.d ∧ r.ok := by
  rcases pair_look Sum.inr inr_inj (fun _ _ e => e.1) k h with z | ⟨r, v, h1, h2, _, h3, h4⟩
  · exact .inl z
  · exact .inr ⟨r, v, h1, h2, h3, h4⟩
/-! ### the plain books -/
def PlainAt (K : PySem.W.Frag) (H : Hp) (p : Addr) (t : Tree) : Prop := ∃ dx d, H p = some (.ins (He.ga K "Plain") dx [("records", .ref d)]) ∧ TrAt K H d t
theorem PlainAt.same {H' : Hp} (s : Same H H') {p : Addr} {t : Tree} (h : PlainAt K H p t) : PlainAt K H' p t := by
  obtain ⟨dx, d, h1, h2⟩ := h
  exact ⟨dx, d, s _ _ h1, h2.same s⟩
end
def spPlInit (K : PySem.W.Frag) : Sp := fun vs H Q _ => ∃ x dx, vs = [.ref x] ∧ H x = some (.ins (He.ga K "Plain") dx []) ∧ ∀ d, H d = none → Q .non (upd (upd H d (.dK [])) x (.ins (He.ga K "Plain") dx [("records", .ref d)]))
def spState (K : PySem.W.Frag) : Sp := fun vs H Q _ => ∃ p n t r, vs = [.ref p, .str n] ∧ PlainAt K H p t ∧ look t n = some r ∧ ∀ v, Dp K H v r.d → r.ok → Q v H
def spNames (K : PySem.W.Frag) : Sp := fun vs H Q _ => ∃ p t, vs = [.ref p] ∧ PlainAt K H p t ∧ t.length < 64 ∧ ∀ (ys : List Str) l, ys.Perm (t.map (·.1)) → H l = none → Q (.ref l) (upd H l (.lst (ys.map V.str)))
def spLay (K : PySem.W.Frag) : Sp := fun vs H Q _ => ∃ p n k y r c dx d kvs, vs = [.ref p, .str n, .str k, .str y, .int r, c] ∧ H p = some (.ins (He.ga K "Plain") dx [("records", .ref d)]) ∧ H d = some (.dK kvs) ∧ valV kvs (.inr n) = none ∧ kvs.length < 1000 ∧
  ∀ T, H T = none → Q .non (upd (upd H T (.tup [.str k, .str y, .int r, c])) d (.dK (kvs ++ [(.inr n, .ref T)])))
section
variable {P : Program} {w : World} {K : PySem.W.Frag} {mg : Str → Option Value} {base : Heap}
theorem ok_pl_init (T : Txt K mg) : OkI P w K mg base CX0 1 "Plain" ["self"] [] (spPlInit K) := by
  obtain ⟨fd, F⟩ := T.f_Plain_init
  refine ⟨⟨fd, [], ?_, F.bindsN fun _ _ _ _ _ _ us hl => match us, hl with | [_], _ => rfl, .nil⟩, T.k_Plain, T.g_Plain⟩
  refine F.ok sc_Plain_init (fun vs H Q E h => ?_) (fun cdv A outer s H vs Q E hr h => ?_)
  · obtain ⟨_, _, rfl, _⟩ := h
    rfl
  · obtain ⟨x, dx, rfl, hx, q⟩ := h
    refine ⟨_, PSs.nox (pss_one (ps_fld (pv 0) pe_dnewK rfl)), ?_⟩
    intro d hd
    refine ⟨_, rfl, x, _, dx, [], rfl, ?_, T.c_Plain, T.a_Plain_records, by decide, q d hd⟩
    rw [upd_ne (ne_of_none hx hd)]
    exact hx
theorem ok_state (T : Txt K mg) : OkM P w K mg base CX0 1 "Plain" "state" ["self", "name"] (spState K) := by
  obtain ⟨fd, F⟩ := T.f_Plain_state
  refine ⟨⟨fd, ?_, F.bindsN fun _ _ _ _ _ _ us hl => match us, hl with | [_, _], _ => rfl⟩, T.c_Plain, T.m_Plain_state⟩
  refine F.ok sc_Plain_state (fun vs H Q E h => ?_) (fun cdv A outer s H vs Q E hr h => ?_)
  · obtain ⟨_, _, _, _, rfl, _⟩ := h
    rfl
  · obtain ⟨p, n, t, r, rfl, ⟨dx, d, hp, kvs, hd, ht⟩, hl, q⟩ := h
    have hu := hu_of hr
    refine ⟨_, PSs.nox (pss_cons (ps_if (pt_cmp (pc_dnotin hu (pv 1) (pe_fld (pv 0) rfl))) pss_never pss_nil)
      (pss_one (ps_ret (pe_dget hu (pe_fld (pv 0) rfl) (pv 1) (fun _ _ => rfl))))), ?_⟩
    rcases tr_look ht n with ⟨z, _⟩ | ⟨r', v, h1, h2, h3, h4⟩
    · rw [hl] at z; cases z
    · rw [hl] at h1
      obtain rfl := Option.some.inj h1
      dsimp only [tSeq]
      refine if_t (a := false) (fun Q h => ⟨_, rfl, _, rfl, p, _, dx, _, _, rfl, hp, T.c_Plain, T.a_Plain_records, rfl, d, _, rfl, DGet.k (k := .inr n) hd, false, by rw [h2]; rfl, h⟩) (fun z => by cases z) fun _ => ?_
      exact ⟨_, rfl, p, _, dx, _, _, rfl, hp, T.c_Plain, T.a_Plain_records, rfl, _, rfl, d, v, rfl, by have := DGet.k (k := .inr n) hd; rw [h2] at this; exact this, q v h3 h4⟩
theorem ok_names (T : Txt K mg) : OkM P w K mg base CX0 1 "Plain" "names" ["self"] (spNames K) := by
  obtain ⟨fd, F⟩ := T.f_Plain_names
  refine ⟨⟨fd, ?_, F.bindsN fun _ _ _ _ _ _ us hl => match us, hl with | [_], _ => rfl⟩, T.c_Plain, T.m_Plain_names⟩
  refine F.ok sc_Plain_names (fun vs H Q E h => ?_) (fun cdv A outer s H vs Q E hr h => ?_)
  · obtain ⟨_, _, rfl, _⟩ := h
    rfl
  · obtain ⟨p, t, rfl, ⟨dx, d, hp, kvs, hd, ht⟩, hl, q⟩ := h
    refine ⟨_, PSs.nox (pss_one (ps_ret (pe_callB (call_sortedD rfl) (by rfl) T.b_sorted (by decide +kernel) (pa_cons (pe_fld (pv 0) rfl) pa_nil)))), ?_⟩
    have hk : kvs.map (·.1) = (t.map (·.1)).map (Sum.inr : Str → Key) := pkeys (fun _ _ e => e.1) ht
    exact ⟨_, rfl, p, _, dx, _, _, rfl, hp, T.c_Plain, T.a_Plain_records, rfl, d, kvs, t.map (·.1), rfl, .inl hd, hk, by rw [List.length_map]; exact hl, fun ys l hy _ nl => q ys l hy nl⟩
theorem ok_lay (T : Txt K mg) : OkM P w K mg base CX0 1 "Plain" "lay" ["self", "name", "kind", "parent", "rank", "content"] (spLay K) := by
  obtain ⟨fd, F⟩ := T.f_Plain_lay
  refine ⟨⟨fd, ?_, F.bindsN fun _ _ _ _ _ _ us hl => match us, hl with | [_, _, _, _, _, _], _ => rfl⟩, T.c_Plain, T.m_Plain_lay⟩
  refine F.ok sc_Plain_lay (fun vs H Q E h => ?_) (fun cdv A outer s H vs Q E hr h => ?_)
  · obtain ⟨_, _, _, _, _, _, _, _, _, rfl, _⟩ := h
    rfl
  · obtain ⟨p, n, k, y, r, c, dx, d, kvs, rfl, hp, hd, hn, hl, q⟩ := h
    have hu := hu_of hr
    refine ⟨_, PSs.nox (pss_one (ps_dput hu (pe_fld (pv 0) rfl) (pv 1) (pe_tup (pa_cons (pv 2) (pa_cons (pv 3) (pa_cons (pv 4) (pa_cons (pv 5) pa_nil))))) rfl)), ?_⟩
    refine ⟨_, rfl, _, rfl, _, rfl, _, rfl, (show (4 : Nat) ≤ sizeLine by decide), fun U nU => ⟨_, rfl, p, _, dx, _, _, rfl, by rw [upd_ne (ne_of_none hp nU)]; exact hp, T.c_Plain, T.a_Plain_records, rfl, _, rfl, d, _, rfl, DPut.k (k := .inr n) (by rw [upd_ne (ne_of_none hd nU)]; exact hd) (Nat.lt_of_lt_of_le hl (by decide)), ?_⟩⟩
    rw [putK_new _ hn]
    exact q U nU
end
end ML

set_option Elab.async false
set_option linter.all false
set_option maxRecDepth 100000
set_option maxHeartbeats 4000000
namespace ML
open PySem PySem.Spec PyProof.Rows L2 MM
/-- what the written part says of the exceptions' classes -/
structure ExF (K : PySem.W.Frag) : Prop where
  rd : ∃ mc, PySem.W.readsIn K (He.ga K "LeafError") mc = true ∧ PySem.W.findCls K (.ref (He.ga K "LeafError")) mc "__init__" = some (.val (.builtin "ValueError.__init__"))
  sp : PySem.W.specialIn K (.ref (He.ga K "LeafError")) "__getattribute__" = some (some (.builtin "type.__getattribute__"))
  kl : PySem.W.keepIn K (.ref (He.ga K "LeafError")) = true
  oex : OexC K (He.ga K "NoPart")
  ini : PySem.W.findIn K (.ref (He.ga K "NoPart")) "__init__" = some (some (.ref (He.fAd K ("EditError", some "__init__"))))
  ty : PySem.W.typeIn K (.ref (He.fAd K ("EditError", some "__init__"))) = some (.type "function")
  part : PySem.W.findIn K (.ref (He.ga K "NoPart")) "part" = some none
  choice : PySem.W.findIn K (.ref (He.ga K "NoPart")) "choice" = some none
section
variable {X : Cx} {o e : Expr} {es : List Expr} {to te : TE} {ta : TA} {f : Str} {p p' p1 p2 pos : Pos}
/-- LeafError.__init__(self, ..): ValueError's -/
theorem pe_leafinit {pl : Sem Bool} (F : ExF X.K) (hg : Gl X "LeafError") (hm : X.mg "LeafError" = some (.ref (He.ga X.K "LeafError"))) (ha : PA X (e :: es) ta)
    (hc : eval (.Call (.Attribute (.Name "LeafError" p1) "__init__" p2) (e :: es) [] pos) X.env = (do
      let ov ← eval (.Name "LeafError" p1) X.env
      standAt p2.atName
      let (f, first) ← holding [ov] (getMethod ov "__init__" pl)
      callWith pos f first (backTo pos (starEach (e :: es) X.env)) (backToKw pos (keywordEach [] X.env))) := by rfl)
    (he : starEach (e :: es) X.env = (false, eval e X.env) :: starEach es X.env := by rfl) (hpl : (backTo pos (starEach es X.env)).any (·.1) = false := by rfl) :
    PE X (.Call (.Attribute (.Name "LeafError" p1) "__init__" p2) (e :: es) [] pos) (tVeI X.K ta) := by
  refine ⟨fun pins s σ H Q I h => ?_⟩
  refine PySem.W.methodCall_KW (ld_glob I hg hm ?_ (by decide)) hc
  obtain ⟨mc, rd, fc⟩ := F.rd
  refine PySem.W.method_cls I.kIn F.sp (PySem.W.cls_value I.kIn rd fc (by decide +kernel) ?_)
  show wpAny _ _ (callWith pos (Value.builtin "ValueError.__init__") [] (backTo pos (starEach (e :: es) X.env)) []) _ _ _
  refine PyProof.Rows.callWith_method1 (thn (ha.run pos pins _ σ H _ (I.tok _) h) fun us s1 ⟨vs, H1, I1, r1, a, C, ws, ev, hl, T, ea, q⟩ => ?_) he hpl
  subst ev
  cases r1 with
  | @cons _ u0 _ ur ra rw' =>
    obtain rfl : u0 = Value.ref a := ra
    have hlen : ur.length ≤ sizeLine := by
      rw [← Paired.length rw', sizeLine_eq]
      omega
    exact oinit_ok T I1 ea hlen fun s' J => ⟨.non, H1, J, rfl, q⟩
end
def spEE (K : PySem.W.Frag) : Sp := fun vs H Q _ => ∃ (a : Addr) (n : Str), vs = [.ref a, .str n, .non] ∧ H a = some (exo a (He.ga K "NoPart") none) ∧
  ∀ dx, H dx = none → dx ≠ a → Q .non (upd (upd (upd H dx (exd dx [("part", .str n)])) a (exo a (He.ga K "NoPart") (some dx))) dx (exd dx [("choice", .non), ("part", .str n)]))
section
variable {P : Program} {w : World} {K : PySem.W.Frag} {mg : Str → Option Value} {base : Heap}
theorem ok_ee (T : Txt K mg) (G : ExF K) : ∃ fd ds, FnOk P w K mg base CX0 1 (He.fAd K ("EditError", some "__init__")) fd ["self", "part", "choice"] (spEE K) ∧ Binds K fd ["self", "part", "choice"] ds ∧ Vals [V.non] ds := by
  obtain ⟨fd, F⟩ := T.f_EditError_init
  obtain ⟨ds, hv, hb⟩ := F.binds1 (ps := ["self", "part", "choice"]) 2 0 (by simp) rfl fun U kV doc pm an cdv ct us its h1 h2 => match us, its, h1, h2 with | [_, _], [_], _, _ => ⟨_, rfl, rfl⟩
  refine ⟨fd, ds, ?_, hb, hv⟩
  refine F.ok sc_EditError_init (fun vs H Q E h => ?_) (fun cdv A outer s H vs Q E hr h => ?_)
  · obtain ⟨_, _, rfl, _⟩ := h
    rfl
  · obtain ⟨a, n, rfl, ha, q⟩ := h
    have nd := sc_EditError_init.nd
    refine ⟨_, PSs.nox (pss_cons (ps_expr (pe_leafinit G rfl T.g_LeafError (pa_cons (pv 0) (pa_cons pe_str pa_nil))))
      (pss_cons (ps_ost (pv 0) (pv 1))
      (pss_one (ps_ost (pv 0) (pv 2))))), ?_⟩
    refine ⟨_, rfl, a, _, [_], rfl, (show (1 : Nat) ≤ 1000 by decide), G.oex, ha, ?_⟩
    refine ⟨_, rfl, _, rfl, a, _, rfl, G.oex, G.part, .inl ⟨ha, fun dx nd ne => ?_⟩⟩
    exact ⟨_, rfl, _, rfl, a, _, rfl, G.oex, G.choice, .inr ⟨dx, [("part", .str n)], upd_same, by rw [upd_ne ne, upd_same], (show (1 : Nat) ≤ 900 by decide), q dx nd ne⟩⟩
end
/-! ### the merged book -/
def hist (fo : Fo) (n : Str) : List (Nat × Rec) := fo.filterMap fun e => (look e.2 n).map fun r => (e.1, r)
def recsOf (fo : Fo) (n : Str) : List (Nat × Rec) := grp (bits (hist fo n))
/-- a dict of lists of pairs -/
structure Has (K : PySem.W.Frag) (H : Hp) (kvs : List (Key × V)) (g : Str → List (Nat × Rec)) : Prop where
  only : ∀ k v, valV kvs k = some v → ∃ n, k = .inr n ∧ g n ≠ []
  all : ∀ n, g n ≠ [] → ∃ l, valV kvs (.inr n) = some (.ref l) ∧ PrAt K H l (mapD Rec.d (g n))
theorem Has.no {K : PySem.W.Frag} {H : Hp} {kvs : List (Key × V)} {g : Str → List (Nat × Rec)} (h : Has K H kvs g) {n : Str} (e : g n = []) : valV kvs (.inr n) = none := by
  cases q : valV kvs (.inr n) with
  | none => rfl
  | some v =>
    obtain ⟨m, hm, hg⟩ := h.only _ _ q
    rw [← inr_inj _ _ hm] at hg
    exact absurd e hg
theorem Has.ext {K : PySem.W.Frag} {H H' : Hp} {kvs : List (Key × V)} {g : Str → List (Nat × Rec)} (e : LamX.ExtN H H') (h : Has K H kvs g) : Has K H' kvs g :=
  ⟨h.only, fun n hn => by
    obtain ⟨l, h1, h2⟩ := h.all n hn
    exact ⟨l, h1, h2.ext e⟩⟩
def BookAt (K : PySem.W.Frag) (H : Hp) (b : Addr) (fo : Fo) : Prop := ∃ dx pn d kvs, H b = some (.ins (He.ga K "Book") dx [("panel", pn), ("records", .ref d)]) ∧ H d = some (.dK kvs) ∧ Has K H kvs (recsOf fo)
theorem BookAt.ext {K : PySem.W.Frag} {H H' : Hp} {b : Addr} {fo : Fo} (e : LamX.ExtN H H') (h : BookAt K H b fo) : BookAt K H' b fo := by
  obtain ⟨dx, pn, d, kvs, h1, h2, h3⟩ := h
  exact ⟨dx, pn, d, kvs, e _ _ h1 (fun _ z => by cases z), e _ _ h2 (fun _ z => by cases z), h3.ext e⟩
/-- NoPart's way out -/
def Out (K : PySem.W.Frag) (H : Hp) (n : Str) (E : XK) : Prop := ∀ H' d, Same H H' → H' d = some (.xd [("choice", .non), ("part", .str n)]) → E (.ref (He.ga K "NoPart")) (some d) H'
def spRecs (K : PySem.W.Frag) : Sp := fun vs H Q E => ∃ (b : Addr) (n : Str) (fo : Fo), vs = [.ref b, .str n] ∧ BookAt K H b fo ∧ (recsOf fo n ≠ [] → ∀ l, PrAt K H l (mapD Rec.d (recsOf fo n)) → Q (.ref l) H) ∧ (recsOf fo n = [] → Out K H n E)
section
variable {P : Program} {w : World} {K : PySem.W.Frag} {mg : Str → Option Value} {base : Heap}
theorem ok_recs (T : Txt K mg) (G : ExF K) : OkM P w K mg base (L2.CX P w) 3 "Book" "records_of" ["self", "name"] (spRecs K) := by
  obtain ⟨fd, F⟩ := T.f_Book_records_of
  refine ⟨⟨fd, ?_, F.bindsN fun _ _ _ _ _ _ us hl => match us, hl with | [_, _], _ => rfl⟩, T.c_Book, T.m_Book_records_of⟩
  refine (F.ok (k := 2) sc_Book_records_of (fun vs H Q E h => ?_) (fun cdv A outer s H vs Q E hr h => ?_))
  · obtain ⟨_, _, _, rfl, _⟩ := h
    rfl
  · obtain ⟨b, n, fo, rfl, ⟨dx, pn, d, kvs, hb, hd, hk⟩, q1, q2⟩ := h
    have hu := hu_of hr
    obtain ⟨fd2, ds, F2, B2, v2⟩ := ok_ee (P := P) (w := w) (base := base) T G
    refine ⟨_, pss_cons (ps_if (pt_cmp (pc_dnotin hu (pv 1) (pe_fld (pv 0) rfl))) (pss_one (ps_raise rfl (takes_of rfl rfl rfl rfl) (pmk_oex G.oex G.ini G.ty F2 hr B2 v2 pass0 rfl T.g_NoPart (pa_cons (pv 1) pa_nil)))) pss_nil)
      (PSs.nox (pss_one (ps_ret (pe_dget hu (pe_fld (pv 0) rfl) (pv 1) (fun _ _ => rfl))))), ?_⟩
    have hg := DGet.k (k := .inr n) hd
    by_cases e : recsOf fo n = []
    · rw [hk.no e] at hg
      dsimp only [tSeq]
      refine if_t (a := true) (fun Q h => ⟨_, rfl, _, rfl, b, _, dx, _, _, rfl, hb, T.c_Book, T.a_Book_records, rfl, d, _, rfl, hg, true, rfl, h⟩) (fun _ => ?_) (fun z => by cases z)
      refine ⟨_, rfl, (show (1 : Nat) ≤ 1000 by decide), fun a na => ?_⟩
      refine ⟨a, n, rfl, upd_same, fun dx' nd ne => ?_⟩
      have nd' : H dx' = none := by rw [upd_ne ne] at nd; exact nd
      refine ⟨rfl, dx', _, by rw [upd_ne ne.symm, upd_same], upd_same, nd', q2 e _ _ (fun c o hc => ?_) upd_same⟩
      have c1 : c ≠ a := ne_of_none hc na
      have c2 : c ≠ dx' := ne_of_none hc nd'
      rw [upd_ne c2, del_ne c1, upd_ne c2, upd_ne c1, upd_ne c2, upd_ne c1]
      exact hc
    · obtain ⟨l, hv, hp⟩ := hk.all n e
      rw [hv] at hg
      dsimp only [tSeq]
      refine if_t (a := false) (fun Q h => ⟨_, rfl, _, rfl, b, _, dx, _, _, rfl, hb, T.c_Book, T.a_Book_records, rfl, d, _, rfl, hg, false, rfl, h⟩) (fun z => by cases z) (fun _ => ?_)
      exact ⟨_, rfl, b, _, dx, _, _, rfl, hb, T.c_Book, T.a_Book_records, rfl, _, rfl, d, _, rfl, hg, q1 e l hp⟩
end
end ML

set_option Elab.async false
set_option linter.all false
set_option maxRecDepth 100000
set_option maxHeartbeats 4000000
namespace ML
open PySem PySem.Spec PyProof.Rows L2 MM
/-- the choices' trees, as they come -/
structure FoOk (fo : Fo) : Prop where
  rise : (fo.map (·.1)).Pairwise (· < ·)
  lt : ∀ e ∈ fo, e.1 < 256
  len : fo.length ≤ 256
  small : ∀ e ∈ fo, e.2.length ≤ 8
  nd : ∀ e ∈ fo, (e.2.map (·.1)).Nodup
  ok : ∀ e ∈ fo, ∀ p ∈ e.2, p.2.ok
theorem hist_snoc (fo : Fo) (e : Nat × Tree) (n : Str) : hist (fo ++ [e]) n = hist fo n ++ (match look e.2 n with | some r => [(e.1, r)] | none => []) := by
  unfold hist
  rw [List.filterMap_append]
  cases q : look e.2 n with
  | none => simp [q]
  | some r => simp [q]
theorem hist_mem {fo : Fo} {n : Str} {x : Nat × Rec} (h : x ∈ hist fo n) : ∃ t, (x.1, t) ∈ fo ∧ (n, x.2) ∈ t := by
  unfold hist at h
  obtain ⟨e, he, hx⟩ := List.mem_filterMap.mp h
  cases q : look e.2 n with
  | none => rw [q] at hx; cases hx
  | some r =>
    rw [q] at hx
    obtain rfl : (e.1, r) = x := Option.some.inj hx
    exact ⟨e.2, he, look_some q⟩
theorem hist_sub (fo : Fo) (n : Str) : ((hist fo n).map (·.1)).Sublist (fo.map (·.1)) := by
  induction fo with
  | nil => exact List.Sublist.slnil
  | cons e r ih =>
    unfold hist at ih ⊢
    rw [List.filterMap_cons]
    cases q : look e.2 n with
    | none => exact List.Sublist.cons _ ih
    | some x => exact List.Sublist.cons_cons _ ih
section
variable {fo : Fo}
theorem FoOk.rising (h : FoOk fo) (n : Str) : Rising (hist fo n) := List.Pairwise.sublist (hist_sub fo n) h.rise
theorem FoOk.hlt (h : FoOk fo) {n : Str} : ∀ y ∈ hist fo n, y.1 < 256 := fun y hy => by
  obtain ⟨t, h1, _⟩ := hist_mem hy
  exact h.lt _ h1
theorem FoOk.hok (h : FoOk fo) {n : Str} : ∀ y ∈ hist fo n, y.2.ok := fun y hy => by
  obtain ⟨t, h1, h2⟩ := hist_mem hy
  exact h.ok _ h1 _ h2
theorem FoOk.hlen (h : FoOk fo) (n : Str) : (hist fo n).length ≤ 256 := by
  have := (hist_sub fo n).length_le
  rw [List.length_map, List.length_map] at this
  have := h.len
  omega
end
theorem grp_mem {α : Type} [DecidableEq α] : ∀ (l : List (Nat × α)), ∀ p ∈ grp l, p.2 ∈ l.map (·.2) := fun l =>
  snoc_ind (P := fun l => ∀ p ∈ grp l, p.2 ∈ l.map (·.2)) (fun p h => by simp [grp] at h) (fun l x ih p h => by
    rw [grp_snoc] at h
    rw [List.map_append]
    by_cases q : x.2 ∈ (grp l).map (·.2)
    · rw [addR_in q] at h
      obtain ⟨p0, h0, rfl⟩ := List.mem_map.mp h
      rw [upR_snd]
      exact List.mem_append_left _ (ih p0 h0)
    · rw [addR_new q] at h
      rcases List.mem_append.mp h with z | z
      · exact List.mem_append_left _ (ih p z)
      · rw [List.mem_singleton] at z
        rw [z]
        exact List.mem_append_right _ (by simp)) l
theorem bits_map {α β : Type} (f : α → β) (l : List (Nat × α)) : (bits l).map (fun x => (x.1, f x.2)) = bits (l.map fun x => (x.1, f x.2)) := by
  unfold bits
  rw [List.map_map, List.map_map]; rfl
theorem bits_len {α : Type} (l : List (Nat × α)) : (bits l).length = l.length := List.length_map _
theorem rising_map {α β : Type} (f : α → β) {l : List (Nat × α)} (h : Rising l) : Rising (l.map fun x => (x.1, f x.2)) := by
  unfold Rising at h ⊢
  rw [List.map_map]
  exact h
def prsOf {γ : Type} [DecidableEq γ] (f : Rec → γ) (fo : Fo) (n : Str) : List (Nat × γ) := grp (bits ((hist fo n).map fun x => (x.1, f x.2)))
theorem prs_fold {γ : Type} [DecidableEq γ] (f : Rec → γ) (fo : Fo) (n : Str) : foldR f [] (recsOf fo n) = prsOf f fo n := by
  unfold recsOf prsOf
  rw [regroup, bits_map]
theorem foldR_len {α β : Type} [DecidableEq β] (f : α → β) (l : List (Nat × α)) : (foldR f [] l).length ≤ l.length := snoc_ind (P := fun l => (foldR f [] l).length ≤ l.length) (by simp [foldR]) (fun l x h => by
  have e : foldR f [] (l ++ [x]) = addR (foldR f [] l) x.1 (f x.2) := by unfold foldR; rw [List.foldl_append]; rfl
  rw [e, List.length_append]
  by_cases q : f x.2 ∈ (foldR f [] l).map (·.2)
  · rw [addR_in q, List.length_map]; simp; omega
  · rw [addR_new q, List.length_append]; simp; omega) l
theorem recs_ok {fo : Fo} (h : FoOk fo) {n : Str} : ∀ p ∈ recsOf fo n, p.2.ok := fun p hp => by
  have := grp_mem _ p hp
  obtain ⟨x, hx, e⟩ := List.mem_map.mp this
  obtain ⟨y, hy, e2⟩ := List.mem_map.mp hx
  rw [← e, ← e2]
  exact h.hok y hy
theorem recs_len {fo : Fo} (h : FoOk fo) (n : Str) : (recsOf fo n).length ≤ 256 := by
  have h1 := grp_len (bits (hist fo n))
  rw [bits_len] at h1
  exact Nat.le_trans h1 (h.hlen n)
theorem mapD_get {α : Type} {d : α → PyData} {ps : List (Nat × α)} {i : Nat} {p : Nat × PyData} (h : (mapD d ps)[i]? = some p) : ∃ r, ps[i]? = some r ∧ p = (r.1, d r.2) := by
  unfold mapD at h
  rw [List.getElem?_map] at h
  cases q : ps[i]? with
  | none => rw [q] at h; cases h
  | some r =>
    rw [q] at h
    exact ⟨r, rfl, (Option.some.inj h).symm⟩
def spInitB (K : PySem.W.Frag) : Sp := fun vs H Q _ => ∃ x pn dx, vs = [.ref x, pn] ∧ H x = some (.ins (He.ga K "Book") dx []) ∧ ∀ d, H d = none → Q .non (upd (upd (upd H x (.ins (He.ga K "Book") dx [("panel", pn)])) d (.dK [])) x (.ins (He.ga K "Book") dx [("panel", pn), ("records", .ref d)]))
def spWhere (K : PySem.W.Frag) : Sp := fun vs H Q E => ∃ (b : Addr) (n : Str) (fo : Fo), vs = [.ref b, .str n] ∧ BookAt K H b fo ∧ FoOk fo ∧ (recsOf fo n ≠ [] → Q (.int ((orS (recsOf fo n) : Nat) : Int)) H) ∧ (recsOf fo n = [] → Out K H n E)
def spPl (K : PySem.W.Frag) {γ : Type} [DecidableEq γ] (f : Rec → γ) (d : γ → PyData) : Sp := fun vs H Q E => ∃ (b : Addr) (n : Str) (fo : Fo), vs = [.ref b, .str n] ∧ BookAt K H b fo ∧ FoOk fo ∧ TB K H ∧
  (recsOf fo n ≠ [] → ∀ H' l, LamX.ExtN H H' → TB K H' → New H l → PrAt K H' l (mapD d (prsOf f fo n)) → Q (.ref l) H') ∧ (recsOf fo n = [] → Out K H n E)
section
variable {P : Program} {w : World} {K : PySem.W.Frag} {mg : Str → Option Value} {base : Heap}
theorem ok_bk_init (T : Txt K mg) : OkI P w K mg base CX0 1 "Book" ["self", "panel"] [] (spInitB K) := by
  obtain ⟨fd, F⟩ := T.f_Book_init
  refine ⟨⟨fd, [], ?_, F.bindsN fun _ _ _ _ _ _ us hl => match us, hl with | [_, _], _ => rfl, .nil⟩, T.k_Book, T.g_Book⟩
  refine F.ok sc_Book_init (fun vs H Q E h => ?_) (fun cdv A outer s H vs Q E hr h => ?_)
  · obtain ⟨_, _, _, rfl, _⟩ := h
    rfl
  · obtain ⟨x, pn, dx, rfl, hx, q⟩ := h
    refine ⟨_, PSs.nox (pss_cons (ps_fld (pv 0) (pv 1) rfl) (pss_one (ps_fld (pv 0) pe_dnewK rfl))), ?_⟩
    refine ⟨_, rfl, _, rfl, x, _, dx, [], rfl, hx, T.c_Book, T.a_Book_panel, by decide, fun d hd => ⟨_, rfl, x, _, dx, [("panel", pn)], rfl, ?_, T.c_Book, T.a_Book_records, (show (1 : Nat) < 1000 by decide), ?_⟩⟩
    · rw [upd_ne (fun e => by rw [e, upd_same] at hd; cases hd), upd_same]; rfl
    · refine q d ?_
      have : d ≠ x := fun e => by rw [e, upd_same] at hd; cases hd
      rw [upd_ne this] at hd
      exact hd
theorem ok_where (T : Txt K mg) (G : ExF K) : OkM P w K mg base (L2.CX P w) 4 "Book" "where" ["self", "name"] (spWhere K) := by
  obtain ⟨fd, F⟩ := T.f_Book_where
  have O_Book_records_of := ok_recs (P := P) (w := w) (base := base) T G
  refine ⟨⟨fd, ?_, F.bindsN fun _ _ _ _ _ _ us hl => match us, hl with | [_, _], _ => rfl⟩, T.c_Book, T.m_Book_where⟩
  refine (F.ok sc_Book_where (fun vs H Q E h => ?_) (fun cdv A outer s H vs Q E hr h => ?_))
  · obtain ⟨_, _, _, rfl, _⟩ := h
    rfl
  · obtain ⟨b, n, fo, rfl, hb, hf, q1, q2⟩ := h
    have nd := sc_Book_where.nd
    have pass : Passes (L2.CX P w) (cxOf (L2.CX P w) P w K mg base n_Book_where "Book.where" (defScope s_Book_where) (He.fAd K ("Book", some "where")) cdv A outer s H E) E := passes_call (takes_of rfl rfl rfl rfl) fun _ _ _ _ h => h
    refine ⟨_, pss_cons (ps_sv 2 nd pe_int)
      (pss_cons (ps_for (passes_of rfl) rfl (pi_list (pe_methD (pv 0) O_Book_records_of hr pass (pa_cons (pv 1) pa_nil))) (pg_tup (by rfl) (pgs_cons (pg_nm 3 nd) (pgs_cons (pg_nm 4 nd) pgs_nil)))
        (PSs.nox (pss_one (ps_sv 2 nd (pe_op op_or (pv 2) (pv 3))))))
      (PSs.nox (pss_one (ps_ret (pv 2))))), ?_⟩
    have hb0 := hb
    obtain ⟨dx, pn, d, kvs, hbo, hd, hk⟩ := hb0
    refine ⟨_, rfl, b, dx, _, rfl, hbo, rfl, _, rfl, b, n, fo, rfl, hb, fun e l hl => ?_, q2⟩
    obtain ⟨vs, hlv, hps⟩ := hl
    have hls : SqL K H l vs := .inl (.inl hlv)
    refine ⟨l, rfl, ⟨vs, hls⟩, for_it walk_list (fun i σ H' => H' = H ∧ ∃ v3 v4, σ = [some (.ref b), some (.str n), some (.int ((orS ((recsOf fo n).take i) : Nat) : Int)), v3, v4]) ⟨rfl, none, none, rfl⟩ (fun i σ H' _ ⟨e, _⟩ => by rw [e]; exact hls) ?_ ?_⟩
    · rintro i y σ H1 H' hi ⟨rfl, v3, v4, rfl⟩ ⟨rfl, hy⟩
      obtain ⟨p, hp, tt, z, rfl, hT, hz, hsh⟩ := pget hps hy
      obtain ⟨r, hr0, rfl⟩ := mapD_get hp
      refine ⟨tt, _, rfl, hT, rfl, .int (r.1 : Int), [z], rfl, z, [], rfl, rfl, ?_⟩
      refine ⟨_, rfl, _, rfl, _, _, rfl, rfl, rfl, some (.int (r.1 : Int)), some z, ?_⟩
      rw [List.take_add_one, hr0, orS_app]
      show _ = [_, _, some (V.int ((orS ((recsOf fo n).take i) ||| orS [r] : Nat) : Int)), _, _]
      rw [orS_cons, show orS ([] : List (Nat × Rec)) = 0 from rfl, Nat.or_zero, ← or_nat]
      rfl
    · rintro σ H' ⟨rfl, v3, v4, rfl⟩
      refine ⟨_, rfl, ?_⟩
      have : vs.length = (recsOf fo n).length := by rw [hps.length, mapD_len]
      rw [this, List.take_length]
      exact q1 e
end
end ML

set_option Elab.async false
set_option linter.all false
set_option maxRecDepth 100000
set_option maxHeartbeats 4000000
namespace ML
open PySem PySem.Spec PyProof.Rows L2 MM
theorem asc_mapD {α : Type} {d : α → PyData} {ps : List (Nat × α)} {B : Nat} (h : Asc ps B) : Asc (mapD d ps) B := by
  refine ⟨fun p hp => ?_, ?_⟩
  · obtain ⟨q, hq, rfl⟩ := List.mem_map.mp hp
    exact h.pos q hq
  · have : (mapD d ps).map (fun p => low p.1) = ps.map fun p => low p.1 := by
      unfold mapD
      rw [List.map_map]; rfl
    rw [this]
    exact h.ord
section
variable {P : Program} {w : World} {K : PySem.W.Frag} {mg : Str → Option Value} {base : Heap}
theorem ok_places (T : Txt K mg) (G : ExF K) (B : LamX.TabB base mg (blC K) (blT K)) : OkM P w K mg base (L2.CX P w) 9 "Book" "places" ["self", "name"] (spPl K Rec.pl plD) := by
  obtain ⟨fd, F⟩ := T.f_Book_places
  have O_Book_records_of := ok_recs (P := P) (w := w) (base := base) T G
  have O_added_pair := ok_added_pair (P := P) (w := w) (base := base) T
  have O_by_least := ok_by_least (P := P) (w := w) (base := base) T B
  refine ⟨⟨fd, ?_, F.bindsN fun _ _ _ _ _ _ us hl => match us, hl with | [_, _], _ => rfl⟩, T.c_Book, T.m_Book_places⟩
  refine (F.ok sc_Book_places (fun vs H Q E h => ?_) (fun cdv A outer s H vs Q E hr h => ?_))
  · obtain ⟨_, _, _, rfl, _⟩ := h
    rfl
  · obtain ⟨b, n, fo, rfl, hb, hf, hT, q1, q2⟩ := h
    have nd := sc_Book_places.nd
    have pass : Passes (L2.CX P w) (cxOf (L2.CX P w) P w K mg base n_Book_places "Book.places" (defScope s_Book_places) (He.fAd K ("Book", some "places")) cdv A outer s H E) E := passes_call (takes_of rfl rfl rfl rfl) fun _ _ _ _ h => h
    refine ⟨_, pss_cons (ps_sv 2 nd (pe_lst pa_nil))
      (pss_cons (ps_for (passes_of rfl) rfl (pi_list (pe_methD (pv 0) O_Book_records_of hr pass (pa_cons (pv 1) pa_nil))) (pg_tup (by rfl) (pgs_cons (pg_nm 3 nd) (pgs_cons (pg_nm 4 nd) pgs_nil)))
        (PSs.nox (pss_one (ps_sv 2 nd (pe_callD O_added_pair hr pass0 (pa_cons (pv 2) (pa_cons (pv 3) (pa_cons (pe_slice sl_tup (pv 4) po_none (po_some pe_int)) pa_nil))))))))
      (PSs.nox (pss_one (ps_ret (pe_callD O_by_least hr pass0 (pa_cons (pv 2) pa_nil)))))), ?_⟩
    refine ⟨Nat.zero_le _, fun f nf => ?_⟩
    have s0 : Same H (upd H f (.lst [])) := same_upd nf
    have hb0 := hb.ext (LamX.ExtN.of s0)
    obtain ⟨dx, pn, d, kvs, hbo, hd, hk⟩ := hb
    refine ⟨_, rfl, b, dx, _, rfl, s0 _ _ hbo, rfl, _, rfl, b, n, fo, rfl, hb0, fun e l hl => ?_, fun e H' d' sm hd' => q2 e H' d' (s0.trans sm) hd'⟩
    obtain ⟨vs, hlv, hps⟩ := hl
    have hlen : vs.length = (recsOf fo n).length := by rw [hps.length, mapD_len]
    have hle := recs_len hf n
    refine ⟨l, rfl, ⟨vs, .inl (.inl hlv)⟩, for_it walk_list (fun i σ H' => Same (upd H f (.lst [])) H' ∧ ∃ g v3 v4, σ = [some (.ref b), some (.str n), some (.ref g), v3, v4] ∧ PrAt K H' g (mapD plD (foldR Rec.pl [] ((recsOf fo n).take i)))) ⟨Same.refl _, f, none, none, rfl, [], upd_same, .nil⟩ (fun i σ H' _ ⟨e, _⟩ => .inl (.inl (e _ _ hlv))) ?_ ?_⟩
    · rintro i y σ H1 H' hi ⟨sm, g, v3, v4, rfl, hg⟩ ⟨rfl, hy⟩
      obtain ⟨p, hp, tt, z, rfl, hT, hz, hsh⟩ := pget hps hy
      obtain ⟨r, hr0, rfl⟩ := mapD_get hp
      have rok := recs_ok hf r (List.mem_of_getElem? hr0)
      obtain ⟨ra, rc, rfl, hra, hrc⟩ := dp_rec (Dp.same sm hz)
      refine ⟨tt, _, rfl, sm.seqT hT, rfl, .int (r.1 : Int), [.ref ra], rfl, .ref ra, [], rfl, rfl, ?_⟩
      have hst : foldR Rec.pl [] ((recsOf fo n).take (i + 1)) = addR (foldR Rec.pl [] ((recsOf fo n).take i)) r.1 (Rec.pl r.2) := by
        rw [List.take_add_one, hr0, foldR_app]; rfl
      have hle2 : (foldR Rec.pl [] ((recsOf fo n).take i)).length ≤ 256 := by
        have h1 := foldR_len Rec.pl ((recsOf fo n).take i)
        have h2 := List.length_take_le i (recsOf fo n)
        omega
      refine ⟨_, rfl, _, rfl, _, rfl, 3, rfl, ra, _, rfl, hra, (show ¬ (HT.sIx 4 0 none = 0 ∧ HT.sIx 4 4 (some 3) = 4) by decide), fun q nq => ?_⟩
      have s1 : Same H' (upd H' q (.tup [.str r.2.kind, .str r.2.parent, .int r.2.rank])) := same_upd nq
      refine ⟨g, r.1, .ref q, _, plD r.2.pl, rfl, hg.same s1, by rw [mapD_len]; omega, pl_dp (.inl (.inl upd_same)), pl_shaped rok, fun H2 l2 s2 n2 pr => ?_⟩
      refine ⟨sm.trans (s1.trans s2), l2, _, _, rfl, ?_⟩
      rw [addD_map eqv_pl, ← hst] at pr
      exact pr
    · rintro σ H' ⟨sm, g, v3, v4, rfl, hg⟩
      rw [hlen, List.take_length, prs_fold] at hg
      have hasc : Asc (mapD plD (prsOf Rec.pl fo n)) 256 := asc_mapD (asc_grp _ 256 (rising_map Rec.pl (hf.rising n)) fun y hy => by
        obtain ⟨x, hx, rfl⟩ := List.mem_map.mp hy
        exact hf.hlt x hx)
      have hlen2 : (mapD plD (prsOf Rec.pl fo n)).length ≤ 1000 := by
        rw [mapD_len]
        have h1 := grp_len (bits ((hist fo n).map fun x => (x.1, Rec.pl x.2)))
        rw [bits_len, List.length_map] at h1
        have h2 := hf.hlen n
        have h3 : (prsOf Rec.pl fo n).length ≤ (hist fo n).length := h1
        omega
      have sm0 : Same H H' := s0.trans sm
      exact ⟨_, rfl, g, _, rfl, hg, hasc, hlen2, hT.same sm0, fun H2 l2 e2 t2 nw2 pr2 => q1 e H2 l2 ((LamX.ExtN.of sm0).trans e2) t2 (fun o ho => nw2 o (sm0 _ _ ho)) pr2⟩
theorem ok_contents (T : Txt K mg) (G : ExF K) (B : LamX.TabB base mg (blC K) (blT K)) : OkM P w K mg base (L2.CX P w) 9 "Book" "contents" ["self", "name"] (spPl K Rec.ct Ct.d) := by
  obtain ⟨fd, F⟩ := T.f_Book_contents
  have O_Book_records_of := ok_recs (P := P) (w := w) (base := base) T G
  have O_added_pair := ok_added_pair (P := P) (w := w) (base := base) T
  have O_by_least := ok_by_least (P := P) (w := w) (base := base) T B
  refine ⟨⟨fd, ?_, F.bindsN fun _ _ _ _ _ _ us hl => match us, hl with | [_, _], _ => rfl⟩, T.c_Book, T.m_Book_contents⟩
  refine (F.ok sc_Book_contents (fun vs H Q E h => ?_) (fun cdv A outer s H vs Q E hr h => ?_))
  · obtain ⟨_, _, _, rfl, _⟩ := h
    rfl
  · obtain ⟨b, n, fo, rfl, hb, hf, hT, q1, q2⟩ := h
    have nd := sc_Book_contents.nd
    have pass : Passes (L2.CX P w) (cxOf (L2.CX P w) P w K mg base n_Book_contents "Book.contents" (defScope s_Book_contents) (He.fAd K ("Book", some "contents")) cdv A outer s H E) E := passes_call (takes_of rfl rfl rfl rfl) fun _ _ _ _ h => h
    refine ⟨_, pss_cons (ps_sv 2 nd (pe_lst pa_nil))
      (pss_cons (ps_for (passes_of rfl) rfl (pi_list (pe_methD (pv 0) O_Book_records_of hr pass (pa_cons (pv 1) pa_nil))) (pg_tup (by rfl) (pgs_cons (pg_nm 3 nd) (pgs_cons (pg_nm 4 nd) pgs_nil)))
        (PSs.nox (pss_one (ps_sv 2 nd (pe_callD O_added_pair hr pass0 (pa_cons (pv 2) (pa_cons (pv 3) (pa_cons (pe_ix ix_tup (pv 4) pe_int (fun _ _ => rfl)) pa_nil))))))))
      (PSs.nox (pss_one (ps_ret (pe_callD O_by_least hr pass0 (pa_cons (pv 2) pa_nil)))))), ?_⟩
    refine ⟨Nat.zero_le _, fun f nf => ?_⟩
    have s0 : Same H (upd H f (.lst [])) := same_upd nf
    have hb0 := hb.ext (LamX.ExtN.of s0)
    obtain ⟨dx, pn, d, kvs, hbo, hd, hk⟩ := hb
    refine ⟨_, rfl, b, dx, _, rfl, s0 _ _ hbo, rfl, _, rfl, b, n, fo, rfl, hb0, fun e l hl => ?_, fun e H' d' sm hd' => q2 e H' d' (s0.trans sm) hd'⟩
    obtain ⟨vs, hlv, hps⟩ := hl
    have hlen : vs.length = (recsOf fo n).length := by rw [hps.length, mapD_len]
    have hle := recs_len hf n
    refine ⟨l, rfl, ⟨vs, .inl (.inl hlv)⟩, for_it walk_list (fun i σ H' => Same (upd H f (.lst [])) H' ∧ ∃ g v3 v4, σ = [some (.ref b), some (.str n), some (.ref g), v3, v4] ∧ PrAt K H' g (mapD Ct.d (foldR Rec.ct [] ((recsOf fo n).take i)))) ⟨Same.refl _, f, none, none, rfl, [], upd_same, .nil⟩ (fun i σ H' _ ⟨e, _⟩ => .inl (.inl (e _ _ hlv))) ?_ ?_⟩
    · rintro i y σ H1 H' hi ⟨sm, g, v3, v4, rfl, hg⟩ ⟨rfl, hy⟩
      obtain ⟨p, hp, tt, z, rfl, hT, hz, hsh⟩ := pget hps hy
      obtain ⟨r, hr0, rfl⟩ := mapD_get hp
      have rok := recs_ok hf r (List.mem_of_getElem? hr0)
      obtain ⟨ra, rc, rfl, hra, hrc⟩ := dp_rec (Dp.same sm hz)
      refine ⟨tt, _, rfl, sm.seqT hT, rfl, .int (r.1 : Int), [.ref ra], rfl, .ref ra, [], rfl, rfl, ?_⟩
      have hst : foldR Rec.ct [] ((recsOf fo n).take (i + 1)) = addR (foldR Rec.ct [] ((recsOf fo n).take i)) r.1 (Rec.ct r.2) := by
        rw [List.take_add_one, hr0, foldR_app]; rfl
      have hle2 : (foldR Rec.ct [] ((recsOf fo n).take i)).length ≤ 256 := by
        have h1 := foldR_len Rec.ct ((recsOf fo n).take i)
        have h2 := List.length_take_le i (recsOf fo n)
        omega
      refine ⟨_, rfl, _, rfl, _, rfl, ra, _, 3, rc, rfl, rfl, hra, rfl, ?_⟩
      refine ⟨g, r.1, rc, _, r.2.ct.d, rfl, hg, by rw [mapD_len]; omega, hrc, ct_shaped rok.c, fun H2 l2 s2 n2 pr => ?_⟩
      refine ⟨sm.trans s2, l2, _, _, rfl, ?_⟩
      rw [addD_map eqv_ct, ← hst] at pr
      exact pr
    · rintro σ H' ⟨sm, g, v3, v4, rfl, hg⟩
      rw [hlen, List.take_length, prs_fold] at hg
      have hasc : Asc (mapD Ct.d (prsOf Rec.ct fo n)) 256 := asc_mapD (asc_grp _ 256 (rising_map Rec.ct (hf.rising n)) fun y hy => by
        obtain ⟨x, hx, rfl⟩ := List.mem_map.mp hy
        exact hf.hlt x hx)
      have hlen2 : (mapD Ct.d (prsOf Rec.ct fo n)).length ≤ 1000 := by
        rw [mapD_len]
        have h1 := grp_len (bits ((hist fo n).map fun x => (x.1, Rec.ct x.2)))
        rw [bits_len, List.length_map] at h1
        have h2 := hf.hlen n
        have h3 : (prsOf Rec.ct fo n).length ≤ (hist fo n).length := h1
        omega
      have sm0 : Same H H' := s0.trans sm
      exact ⟨_, rfl, g, _, rfl, hg, hasc, hlen2, hT.same sm0, fun H2 l2 e2 t2 nw2 pr2 => q1 e H2 l2 ((LamX.ExtN.of sm0).trans e2) t2 (fun o ho => nw2 o (sm0 _ _ ho)) pr2⟩
end
end ML

set_option Elab.async false
set_option linter.all false
set_option maxRecDepth 100000
set_option maxHeartbeats 4000000
namespace ML
open PySem PySem.Spec PyProof.Rows L2 MM
/-! ### what is neither dict nor instance nor table stays -/
def Dat : HO → Prop
  | .lst _ => True
  | .tup _ => True
  | .frz _ (.lst _) => True
  | .frz _ (.tup _) => True
  | _ => False
def Keep (H H' : Hp) : Prop := ∀ b o, H b = some o → Dat o → H' b = some o
theorem Keep.trans {H H1 H2 : Hp} (a : Keep H H1) (b : Keep H1 H2) : Keep H H2 := fun c o h n => b c o (a c o h n) n
theorem Keep.of {H H' : Hp} (s : Same H H') : Keep H H' := fun b o h _ => s b o h
theorem Keep.ext {H H' : Hp} (s : LamX.ExtN H H') : Keep H H' := fun b o h n => s b o h (fun ps z => by rw [z] at n; exact n)
theorem Keep.upd {H : Hp} {d : Addr} {o u : HO} (h : H d = some o) (n : ¬ Dat o) : Keep H (upd H d u) := fun b x e dx => by
  have : b ≠ d := fun z => by
    rw [z, h] at e
    obtain rfl := Option.some.inj e
    exact n dx
  rw [upd_ne this]
  exact e
theorem Keep.seqT {K : PySem.W.Frag} {H H' : Hp} {a : Addr} {xs : List V} (k : Keep H H') (h : SqT K H a xs) : SqT K H' a xs := by
  rcases h with (h | ⟨o, h⟩) | h
  · exact .inl (.inl (k _ _ h trivial))
  · exact .inl (.inr ⟨o, k _ _ h trivial⟩)
  · exact .inr h
theorem Keep.seqL {K : PySem.W.Frag} {H H' : Hp} {a : Addr} {xs : List V} (k : Keep H H') (h : SqL K H a xs) : SqL K H' a xs := by
  rcases h with (h | ⟨o, h⟩) | h
  · exact .inl (.inl (k _ _ h trivial))
  · exact .inl (.inr ⟨o, k _ _ h trivial⟩)
  · exact .inr h
mutual
theorem Keep.dp {K : PySem.W.Frag} {H H' : Hp} (k : Keep H H') : ∀ {v : V} {d : PyData}, Dp K H v d → Dp K H' v d
  | _, _, .non => .non
  | _, _, .bl b => .bl b
  | _, _, .int i => .int i
  | _, _, .str x => .str x
  | _, _, .lst h a => .lst (k.seqL h) (Keep.dps k a)
  | _, _, .tup h a => .tup (k.seqT h) (Keep.dps k a)
theorem Keep.dps {K : PySem.W.Frag} {H H' : Hp} (k : Keep H H') : ∀ {vs : List V} {ds : List PyData}, DpAll K H vs ds → DpAll K H' vs ds
  | _, _, .nil => .nil
  | _, _, .cons h t => .cons (Keep.dp k h) (Keep.dps k t)
end
theorem PrAt.keep {K : PySem.W.Frag} {H H' : Hp} (k : Keep H H') {l : Addr} {ps : List (Nat × PyData)} (h : PrAt K H l ps) : PrAt K H' l ps := by
  obtain ⟨vs, h1, h2⟩ := h
  refine ⟨vs, k _ _ h1 trivial, pmap h2 fun v p e => ?_⟩
  obtain ⟨t, x, e, h1, h2, h3⟩ := e
  exact ⟨t, x, e, k.seqT h1, k.dp h2, h3⟩
theorem Has.keep {K : PySem.W.Frag} {H H' : Hp} {kvs : List (Key × V)} {g : Str → List (Nat × Rec)} (k : Keep H H') (h : Has K H kvs g) : Has K H' kvs g :=
  ⟨h.only, fun n hn => by
    obtain ⟨l, h1, h2⟩ := h.all n hn
    exact ⟨l, h1, h2.keep k⟩⟩
theorem putK_len (kvs : List (Key × V)) (k : Key) (v : V) : (putK kvs k v).length ≤ kvs.length + 1 := by
  unfold putK
  split
  · rw [List.length_map]; omega
  · simp
theorem putK_lenI {kvs : List (Key × V)} {k : Key} {u : V} (v : V) (h : valV kvs k = some u) : (putK kvs k v).length = kvs.length := by
  unfold putK
  rw [valV_any, h, if_pos (show (some u).isSome = true from rfl), List.length_map]
/-- a name's list is put -/
theorem Has.put {K : PySem.W.Frag} {H : Hp} {kvs : List (Key × V)} {g g' : Str → List (Nat × Rec)} (h : Has K H kvs g) {n : Str} {l : Addr} (hl : PrAt K H l (mapD Rec.d (g' n))) (hn : g' n ≠ []) (ho : ∀ m, m ≠ n → g' m = g m) : Has K H (putK kvs (.inr n) (.ref l)) g' := by
  refine ⟨fun k v e => ?_, fun m hm => ?_⟩
  · rw [valV_put] at e
    by_cases q : k = .inr n
    · exact ⟨n, q, hn⟩
    · rw [if_neg q] at e
      obtain ⟨m, hm, hg⟩ := h.only _ _ e
      refine ⟨m, hm, ?_⟩
      rw [ho m (fun z => q (by rw [hm, z]))]
      exact hg
  · rw [valV_put]
    by_cases q : m = n
    · subst q
      exact ⟨l, if_pos rfl, hl⟩
    · rw [if_neg (fun z => q (inr_inj _ _ z))]
      rw [ho m q] at hm ⊢
      exact h.all m hm
theorem addR_ne {α : Type} [DecidableEq α] (ps : List (Nat × α)) (c : Nat) (t : α) : addR ps c t ≠ [] := fun h => by
  have := congrArg (List.map (·.2)) h
  by_cases q : t ∈ ps.map (·.2)
  · rw [addR_in q] at h
    rw [List.map_eq_nil_iff] at h
    rw [h] at q
    exact absurd q (by simp)
  · rw [addR_new q] at h
    simp at h
theorem recs_snoc (fo : Fo) (e : Nat × Tree) (n : Str) : recsOf (fo ++ [e]) n = match look e.2 n with | some r => addR (recsOf fo n) (2 ^ e.1) r | none => recsOf fo n := by
  unfold recsOf
  rw [hist_snoc]
  cases look e.2 n with
  | none => simp
  | some r =>
    show grp (bits (hist fo n ++ [(e.1, r)])) = _
    rw [bits_snoc, grp_snoc]
/-- within a row: the names done already have this row's too -/
def gIn (fo : Fo) (e : Nat × Tree) (done : List Str) (m : Str) : List (Nat × Rec) := if m ∈ done then recsOf (fo ++ [e]) m else recsOf fo m
theorem gIn_len (fo : Fo) (e : Nat × Tree) (done : List Str) (m : Str) : (gIn fo e done m).length ≤ fo.length + 1 := by
  have h1 := grp_len (bits (hist (fo ++ [e]) m))
  have h2 := grp_len (bits (hist fo m))
  have h3 := (hist_sub (fo ++ [e]) m).length_le
  have h4 := (hist_sub fo m).length_le
  rw [List.length_map, List.length_map] at h3 h4
  rw [bits_len] at h1 h2
  rw [List.length_append] at h3
  unfold gIn
  split
  · show (grp (bits (hist (fo ++ [e]) m))).length ≤ _
    simp at h3
    omega
  · show (grp (bits (hist fo m))).length ≤ _
    omega
/-! ### the rows that gather takes -/
def PanelAt (K : PySem.W.Frag) (H : Hp) (p : Addr) (F : Nat) : Prop := ∃ dx fs, H p = some (.ins (He.ga K "Panel") dx fs) ∧ fs.lookup ("free" : Str) = some (.int (F : Int)) ∧ fs.lookup ("allowed" : Str) = none
def RowEnt (K : PySem.W.Frag) (H : Hp) (v : V) (e : Nat × Tree) : Prop := ∃ t p, v = .ref t ∧ H t = some (.tup [.int ((2 ^ e.1 : Nat) : Int), .ref p]) ∧ PlainAt K H p e.2
theorem RowEnt.same {K : PySem.W.Frag} {H H' : Hp} (s : Same H H') {v : V} {e : Nat × Tree} (h : RowEnt K H v e) : RowEnt K H' v e := by
  obtain ⟨t, p, h1, h2, h3⟩ := h
  exact ⟨t, p, h1, s _ _ h2, h3.same s⟩
def spAllowed (K : PySem.W.Frag) : Sp := fun vs H Q _ => ∃ p F, vs = [.ref p] ∧ PanelAt K H p F ∧ Q (.int (F : Int)) H
def spGather (K : PySem.W.Frag) : Sp := fun vs H Q _ => ∃ (b rows dx pn d : Addr) (F : Nat) (fo : Fo) (rs : List V), vs = [.ref b, .ref rows] ∧ H b = some (.ins (He.ga K "Book") dx [("panel", .ref pn), ("records", .ref d)]) ∧ H d = some (.dK []) ∧
  PanelAt K (del H d) pn F ∧ H rows = some (.lst rs) ∧ Paired (RowEnt K (del H d)) rs fo ∧ FoOk fo ∧ (∀ e ∈ fo, F.testBit e.1 = true) ∧ TB K H ∧
  ∀ H' kvs, LamX.ExtN (del H d) H' → TB K H' → H' d = some (.dK kvs) → Has K H' kvs (recsOf fo) → Q .non H'
theorem TB.del {K : PySem.W.Frag} {H : Hp} {d : Addr} {kvs : List (Key × V)} (h : TB K H) (hd : H d = some (.dK kvs)) : TB K (L2.del H d) := by
  intro p hp
  obtain ⟨ps, h1, h2, h3⟩ := h p hp
  have np : p.1 ≠ d := ne_of h1 hd (by intro z; cases z)
  refine ⟨ps, by rw [del_ne np]; exact h1, h2, fun pos cv e => ?_⟩
  obtain ⟨c, e1, e2⟩ := h3 pos cv e
  have nc : c ≠ d := ne_of e2 hd (by intro z; unfold LamX.CodeO at z; cases z)
  exact ⟨c, e1, by rw [del_ne nc]; exact e2⟩
theorem TB.put {K : PySem.W.Frag} {H : Hp} {d : Addr} {kvs : List (Key × V)} {o : HO} (h : TB K H) (hd : H d = some (.dK kvs)) : TB K (upd H d o) := (h.del hd).same fun b x e => by
  have : b ≠ d := fun z => by rw [z, del_same] at e; cases e
  rw [upd_ne this]
  rw [del_ne this] at e
  exact e
theorem two_and (n F : Nat) (h : F.testBit n = true) : 2 ^ n &&& F = 2 ^ n := by
  apply Nat.eq_of_testBit_eq
  intro i
  rw [Nat.testBit_and, Nat.testBit_two_pow]
  by_cases e : n = i
  · subst e; simp [h]
  · simp [e]
section
variable {P : Program} {w : World} {K : PySem.W.Frag} {mg : Str → Option Value} {base : Heap}
theorem ok_allowed (T : Txt K mg) : OkM P w K mg base CX0 1 "Panel" "allowed" ["self"] (spAllowed K) := by
  obtain ⟨fd, F⟩ := T.f_Panel_allowed
  refine ⟨⟨fd, ?_, F.bindsN fun _ _ _ _ _ _ us hl => match us, hl with | [_], _ => rfl⟩, T.c_Panel, T.m_Panel_allowed⟩
  refine F.ok sc_Panel_allowed (fun vs H Q E h => ?_) (fun cdv A outer s H vs Q E hr h => ?_)
  · obtain ⟨_, _, rfl, _⟩ := h
    rfl
  · obtain ⟨p, F, rfl, ⟨dx, fs, h1, h2, h3⟩, q⟩ := h
    exact ⟨_, PSs.nox (pss_one (ps_ret (pe_fld (pv 0) rfl))), _, rfl, p, _, dx, fs, _, rfl, h1, T.c_Panel, T.a_Panel_free, h2, q⟩
theorem ok_gather (T : Txt K mg) (B : LamX.TabB base mg (blC K) (blT K)) : OkM P w K mg base CX0 9 "Book" "gather" ["self", "rows"] (spGather K) := by
  obtain ⟨fd, F⟩ := T.f_Book_gather
  have O_Panel_allowed := ok_allowed (P := P) (w := w) (base := base) T
  have O_Plain_names := ok_names (P := P) (w := w) (base := base) T
  have O_Plain_state := ok_state (P := P) (w := w) (base := base) T
  have O_added_pair := ok_added_pair (P := P) (w := w) (base := base) T
  have O_by_least := ok_by_least (P := P) (w := w) (base := base) T B
  refine ⟨⟨fd, ?_, F.bindsN fun _ _ _ _ _ _ us hl => match us, hl with | [_, _], _ => rfl⟩, T.c_Book, T.m_Book_gather⟩
  refine F.ok sc_Book_gather (fun vs H Q E h => ?_) (fun cdv A outer s H vs Q E hr h => ?_)
  · obtain ⟨_, _, _, _, _, _, _, _, rfl, _⟩ := h
    rfl
  · obtain ⟨b, rows, dx, pn, d, F, fo, rs, rfl, hb, hd, hpn, hrows, hrs, hf, hbit, hT, q⟩ := h
    have nd := sc_Book_gather.nd
    have hu := hu_of hr
    refine ⟨_, PSs.nox (pss_cons (ps_for PassesOwn.never rfl (pi_list (pv 1)) (pg_tup (by rfl) (pgs_cons (pg_nm 2 nd) (pgs_cons (pg_nm 3 nd) pgs_nil)))
        (pss_cons (ps_sv 2 nd (pe_op op_and (pv 2) (pe_methD0 (pe_fld (pv 0) rfl) O_Panel_allowed hr pass0)))
        (pss_one (ps_if (pt_cmpR op_gt (pv 2) pe_int (nomark _)) (pss_one (ps_for PassesOwn.never rfl (pi_list (pe_methD0 (pv 3) O_Plain_names hr pass0)) (pg_nm 4 nd)
            (pss_one (ps_dput hu (pe_fld (pv 0) rfl) (pv 4) (pe_callD O_added_pair hr pass0 (pa_cons (pe_dget2 hu (pe_fld (pv 0) rfl) (pv 4) (pe_lst pa_nil) ⟨rfl, rfl, rfl, rfl⟩) (pa_cons (pv 2) (pa_cons (pe_methD (pv 3) O_Plain_state hr pass0 (pa_cons (pv 4) pa_nil)) pa_nil)))) rfl)))) pss_nil))))
      (pss_one (ps_for PassesOwn.never rfl (pi_list (pe_callTy (call_listD rfl) (by rfl) T.b_list (by decide +kernel) (pa_cons (pe_fld (pv 0) rfl) pa_nil))) (pg_nm 4 nd)
        (pss_one (ps_dput hu (pe_fld (pv 0) rfl) (pv 4) (pe_callD O_by_least hr pass0 (pa_cons (pe_dget hu (pe_fld (pv 0) rfl) (pv 4) (fun _ _ => rfl)) pa_nil)) rfl))))), ?_⟩
    have hbd : b ≠ d := ne_of hb hd (by intro z; cases z)
    have hrd : rows ≠ d := ne_of hrows hd (by intro z; cases z)
    have sB : ∀ {H' : Hp}, LamX.ExtN (del H d) H' → H' b = some (.ins (He.ga K "Book") dx [("panel", .ref pn), ("records", .ref d)]) := fun e => e _ _ (by rw [del_ne hbd]; exact hb) (fun _ z => by cases z)
    have hlen : rs.length = fo.length := hrs.length
    refine ⟨_, rfl, rows, rfl, ⟨rs, .inl (.inl hrows)⟩, for_it walk_list (fun i σ H' => Same (del H d) H' ∧ ∃ kvs v2 v3 v4, σ = [some (.ref b), some (.ref rows), v2, v3, v4] ∧ H' d = some (.dK kvs) ∧ kvs.length ≤ 8 * i ∧ Has K H' kvs (recsOf (fo.take i))) ?_ (fun i σ H' _ ⟨e, _⟩ => .inl (.inl (e _ _ (by rw [del_ne hrd]; exact hrows)))) ?_ ?_⟩
    · exact ⟨del_sub, [], none, none, none, rfl, hd, Nat.zero_le _, ⟨fun k v e => absurd e (by rw [valV_nil]; simp), fun n hn => absurd rfl hn⟩⟩
    · rintro i y σ H1 H' hi ⟨sm, kvs, v2, v3, v4, rfl, hd', hkl, hk⟩ ⟨rfl, hy⟩
      obtain ⟨e, he, tt, p, rfl, hT, hp⟩ := pget hrs hy
      have hem := List.mem_of_getElem? he
      have hsn : fo.take (i + 1) = fo.take i ++ [e] := by rw [List.take_add_one, he]; rfl
      refine ⟨tt, _, rfl, .inl (.inl (sm _ _ hT)), rfl, _, [_], rfl, _, [], rfl, rfl, ?_⟩
      obtain ⟨pdx, pfs, hp1, hp2, hp3⟩ := hpn
      refine ⟨_, rfl, _, rfl, b, _, dx, _, _, rfl, sB (LamX.ExtN.of sm), T.c_Book, T.a_Book_panel, rfl, pn, pdx, pfs, rfl, sm _ _ hp1, hp3, pn, F, rfl, ⟨pdx, pfs, sm _ _ hp1, hp2, hp3⟩, _, _, rfl, rfl, ?_⟩
      dsimp only [gName]
      rw [and_nat, two_and _ _ (hbit e hem)]
      refine if_t (a := true) (fun Q h => ?_) (fun _ => ?_) (fun z => by cases z)
      · exact ⟨_, rfl, _, _, rfl, rfl, _, congrArg V.bl (decide_eq_true (show (0 : Int) < ((2 ^ e.1 : Nat) : Int) from Int.natCast_pos.mpr (Nat.two_pow_pos _))), h⟩
      · obtain ⟨dx2, d2, hpp, htr⟩ := hp
        have hpl : PlainAt K (del H d) p e.2 := ⟨dx2, d2, hpp, htr⟩
        have hsm := hf.small e hem
        refine ⟨_, rfl, p, dx2, _, rfl, sm _ _ hpp, rfl, p, e.2, rfl, hpl.same sm, by omega, fun ys l hys nl => ?_⟩
        have hyl : ys.length = e.2.length := by rw [hys.length_eq, List.length_map]
        have hynd : ys.Nodup := hys.nodup_iff.mpr (hf.nd e hem)
        have hdl : d ≠ l := ne_of_none hd' nl
        have hld : l ≠ d := hdl.symm
        have sN : Same (del H d) (del (upd H' l (.lst (ys.map V.str))) d) := fun c o hc => by
          have c1 : c ≠ d := fun z => by rw [z, del_same] at hc; cases hc
          have c2 := sm _ _ hc
          rw [del_ne c1, upd_ne (ne_of_none c2 nl)]
          exact c2
        refine ⟨l, rfl, ⟨ys.map V.str, .inl (.inl upd_same)⟩, for_it walk_list (fun j σ H2 => Same (del (upd H' l (.lst (ys.map V.str))) d) H2 ∧ ∃ kvs v4, σ = [some (.ref b), some (.ref rows), some (.int ((2 ^ e.1 : Nat) : Int)), some (.ref p), v4] ∧ H2 d = some (.dK kvs) ∧ kvs.length ≤ 8 * i + j ∧ Has K H2 kvs (gIn (fo.take i) e (ys.take j))) ?_ (fun j σ H2 _ ⟨z, _⟩ => .inl (.inl (z _ _ (by rw [del_ne hld, upd_same])))) ?_ ?_⟩
        · refine ⟨del_sub, kvs, v4, rfl, by rw [upd_ne hdl]; exact hd', hkl, ?_⟩
          have : gIn (fo.take i) e (ys.take 0) = recsOf (fo.take i) := by
            funext m
            exact if_neg (by simp)
          rw [this]
          exact hk.keep (.of (same_upd nl))
        · rintro j x σ H1 H2 hj ⟨s2, kvs2, v4', rfl, hd2, hkl2, hk2⟩ ⟨rfl, hx⟩
          rw [List.getElem?_map] at hx
          obtain ⟨m, hm, rfl⟩ := Option.map_eq_some_iff.mp hx
          have hmt : m ∈ e.2.map (·.1) := hys.mem_iff.mp (List.mem_of_getElem? hm)
          obtain ⟨r, hr0⟩ : ∃ r, look e.2 m = some r := by
            cases z : look e.2 m with
            | none => exact absurd hmt (look_none.mp z)
            | some r => exact ⟨r, rfl⟩
          have hnew : ¬ m ∈ ys.take j := fun z => by
            obtain ⟨j2, hj2, e2⟩ := List.mem_iff_getElem.mp z
            rw [List.length_take] at hj2
            rw [List.getElem_take] at e2
            have h1 : j < ys.length := by rw [List.length_map] at hj; exact hj
            have h2 : ys[j] = m := by rw [List.getElem?_eq_getElem h1] at hm; exact Option.some.inj hm
            exact (List.pairwise_iff_getElem.mp hynd) j2 j (by omega) h1 (by omega) (e2.trans h2.symm)
          have sAll : Same (del H d) H2 := sN.trans s2
          have hb2 := sB (LamX.ExtN.of sAll)
          have gprev : gIn (fo.take i) e (ys.take j) m = recsOf (fo.take i) m := if_neg hnew
          have hil : (fo.take i).length ≤ 256 := by
            have := List.length_take_le i fo
            have := hf.len
            rw [List.length_take]
            omega
          have hglen := gIn_len (fo.take i) e [] m
          have hge : gIn (fo.take i) e [] m = recsOf (fo.take i) m := if_neg (by simp)
          rw [hge] at hglen
          have hi2 : i ≤ 256 := by
            have := hf.len
            omega
          have hj2 : j ≤ 8 := by
            rw [List.length_map] at hj
            omega
          refine ⟨_, rfl, b, _, dx, _, _, rfl, hb2, T.c_Book, T.a_Book_records, rfl, d, rfl, .inl ⟨kvs2, .inl hd2⟩, _, rfl, Nat.zero_le _, fun f nf => ?_⟩
          have s3 : Same H2 (upd H2 f (.lst [])) := same_upd nf
          obtain ⟨a, ea, ha⟩ : ∃ a, (valV kvs2 (.inr m)).getD (.ref f) = .ref a ∧ PrAt K (upd H2 f (.lst [])) a (mapD Rec.d (recsOf (fo.take i) m)) := by
            by_cases z : recsOf (fo.take i) m = []
            · refine ⟨f, ?_, ?_⟩
              · rw [hk2.no (by rw [gprev]; exact z)]; rfl
              · rw [z]
                exact ⟨[], upd_same, .nil⟩
            · obtain ⟨a, h1, h2⟩ := hk2.all m (by rw [gprev]; exact z)
              rw [gprev] at h2
              exact ⟨a, by rw [h1]; rfl, h2.same s3⟩
          refine ⟨_, DGet.k (k := .inr m) (s3 _ _ hd2), _, rfl, _, rfl, p, dx2, _, rfl, s3 _ _ (sAll _ _ hpp), rfl, _, rfl, p, m, e.2, r, rfl, (hpl.same sAll).same s3, hr0, fun v hv rok => ?_⟩
          refine ⟨a, 2 ^ e.1, v, _, r.d, by rw [ea]; rfl, ha, by rw [mapD_len]; omega, hv, rec_shaped rok, fun H3 l3 s4 n3 pr => ?_⟩
          rw [addD_map eqv_rec] at pr
          have s5 : Same H2 H3 := s3.trans s4
          have hd3 := s5 _ _ hd2
          refine ⟨_, rfl, b, _, dx, _, _, rfl, s5 _ _ hb2, T.c_Book, T.a_Book_records, rfl, _, rfl, d, _, rfl, DPut.k (k := .inr m) hd3 (by rw [sizeLine_eq]; omega), ?_⟩
          have k4 : Keep H3 (upd H3 d (.dK (putK kvs2 (.inr m) (.ref l3)))) := Keep.upd hd3 (fun z => z)
          have etk : ys.take (j + 1) = ys.take j ++ [m] := by rw [List.take_add_one, hm]; rfl
          have gm : gIn (fo.take i) e (ys.take (j + 1)) m = addR (recsOf (fo.take i) m) (2 ^ e.1) r := by
            have h1 : gIn (fo.take i) e (ys.take (j + 1)) m = recsOf (fo.take i ++ [e]) m := if_pos (by rw [etk]; simp)
            rw [h1, recs_snoc, hr0]
          refine ⟨fun c o hc => ?_, _, _, rfl, upd_same, ?_, Has.put (hk2.keep ((Keep.of s5).trans k4)) (by rw [gm]; exact pr.keep k4) (by rw [gm]; exact addR_ne _ _ _) fun m' hm' => ?_⟩
          · have c1 : c ≠ d := fun z => by rw [z, del_same] at hc; cases hc
            rw [upd_ne c1]
            exact s5 _ _ (s2 _ _ hc)
          · have := putK_len kvs2 (.inr m) (.ref l3)
            omega
          · unfold gIn
            rw [etk]
            by_cases z : m' ∈ ys.take j
            · rw [if_pos (List.mem_append_left _ z), if_pos z]
            · rw [if_neg (fun y => by rcases List.mem_append.mp y with y | y; exact z y; exact hm' (by simpa using y)), if_neg z]
        · rintro σ H2 ⟨s2, kvs2, v4', rfl, hd2, hkl2, hk2⟩
          rw [List.length_map] at hkl2 hk2
          rw [List.take_length] at hk2
          refine ⟨sN.trans s2, kvs2, _, _, _, rfl, hd2, by omega, ?_⟩
          have : gIn (fo.take i) e ys = recsOf (fo.take (i + 1)) := by
            funext m
            rw [hsn]
            by_cases z : m ∈ ys
            · exact if_pos z
            · have h1 : gIn (fo.take i) e ys m = recsOf (fo.take i) m := if_neg z
              rw [h1, recs_snoc, look_none.mpr (fun y => z (hys.mem_iff.mpr y))]
          rw [this] at hk2
          exact hk2
    · rintro σ H1 ⟨sm, kvs, v2, v3, v4, rfl, hd1, hkl, hk⟩
      rw [hlen, List.take_length] at hk
      have hb1 := sB (LamX.ExtN.of sm)
      have hT1 : TB K H1 := (TB.del hT hd).same sm
      refine ⟨_, rfl, b, _, dx, _, _, rfl, hb1, T.c_Book, T.a_Book_records, rfl, d, kvs, rfl, .inl hd1, fun p np => ?_⟩
      have hdp : d ≠ p := ne_of_none hd1 np
      have s1 : Same H1 (upd H1 p (.lst (kvs.map fun kv => kV kv.1))) := same_upd np
      have sN : Same (del H d) (del (upd H1 p (.lst (kvs.map fun kv => kV kv.1))) d) := fun c o hc => by
        have c1 : c ≠ d := fun z => by rw [z, del_same] at hc; cases hc
        rw [del_ne c1]
        exact s1 _ _ (sm _ _ hc)
      refine ⟨p, rfl, ⟨_, .inl (.inl upd_same)⟩, for_it walk_list (fun i σ H2 => LamX.ExtN (del (upd H1 p (.lst (kvs.map fun kv => kV kv.1))) d) H2 ∧ TB K H2 ∧ ∃ kvs2 v2 v3 v4, σ = [some (.ref b), some (.ref rows), v2, v3, v4] ∧ H2 d = some (.dK kvs2) ∧ kvs2.length = kvs.length ∧ Has K H2 kvs2 (recsOf fo)) ?_ (fun j σ H2 _ ⟨z, _⟩ => .inl (.inl (z _ _ (by rw [del_ne hdp.symm, upd_same]) (fun _ z => by cases z)))) ?_ ?_⟩
      · exact ⟨LamX.ExtN.of del_sub, hT1.same s1, kvs, v2, v3, v4, rfl, by rw [upd_ne hdp]; exact hd1, rfl, hk.keep (.of s1)⟩
      · rintro i x σ H3 H2 hi ⟨e2, hT2, kvs2, v2', v3', v4', rfl, hd2, hl2, hk2⟩ ⟨rfl, hx⟩
        rw [List.getElem?_map] at hx
        obtain ⟨kv, hkv, rfl⟩ := Option.map_eq_some_iff.mp hx
        have hex : (valV kvs kv.1).isSome = true := by
          rw [← valV_any]
          exact List.any_eq_true.mpr ⟨kv, List.mem_of_getElem? hkv, decide_eq_true rfl⟩
        obtain ⟨v0, hv0⟩ := Option.isSome_iff_exists.mp hex
        obtain ⟨m, hm, hg⟩ := hk.only _ _ hv0
        obtain ⟨l, hl1, hl3⟩ := hk2.all m hg
        have eall : LamX.ExtN (del H d) H2 := (LamX.ExtN.of sN).trans e2
        have hb2 := sB eall
        have hasc : Asc (mapD Rec.d (recsOf fo m)) 256 := asc_mapD (asc_grp _ 256 (hf.rising m) hf.hlt)
        have hle := recs_len hf m
        rw [hm]
        have hg2 := DGet.k (k := .inr m) hd2
        rw [hl1] at hg2
        refine ⟨_, rfl, b, _, dx, _, _, rfl, hb2, T.c_Book, T.a_Book_records, rfl, _, rfl, d, _, rfl, hg2, l, _, rfl, hl3, hasc, by rw [mapD_len]; omega, hT2, fun H4 l4 e4 t4 n4 pr => ?_⟩
        have hd4 := e4 _ _ hd2 (fun _ z => by cases z)
        refine ⟨_, rfl, b, _, dx, _, _, rfl, e4 _ _ hb2 (fun _ z => by cases z), T.c_Book, T.a_Book_records, rfl, _, rfl, d, _, rfl, DPut.k (k := .inr m) hd4 (by rw [sizeLine_eq, hl2]; have := hf.len; omega), ?_⟩
        have k5 : Keep H4 (upd H4 d (.dK (putK kvs2 (.inr m) (.ref l4)))) := Keep.upd hd4 (fun z => z)
        refine ⟨fun c o hc hn => ?_, TB.put t4 hd4, _, _, _, _, rfl, upd_same, ?_, Has.put (hk2.keep ((Keep.ext e4).trans k5)) (pr.keep k5) hg fun _ _ => rfl⟩
        · have c1 : c ≠ d := fun z => by rw [z, del_same] at hc; cases hc
          rw [upd_ne c1]
          exact e4 _ _ (e2 _ _ hc hn) hn
        · rw [putK_lenI _ hl1]
          exact hl2
      · rintro σ H2 ⟨e2, hT2, kvs2, v2', v3', v4', rfl, hd2, hl2, hk2⟩
        exact q H2 kvs2 ((LamX.ExtN.of sN).trans e2) hT2 hd2 hk2
end
end ML

set_option Elab.async false
set_option linter.all false
set_option maxRecDepth 100000
set_option maxHeartbeats 4000000
namespace ML
open PySem PySem.Spec PyProof.Rows L2 MM
def spGathered (K : PySem.W.Frag) : Sp := fun vs H Q _ => ∃ (pn rows : Addr) (F : Nat) (fo : Fo) (rs : List V), vs = [.ref pn, .ref rows] ∧ PanelAt K H pn F ∧ H rows = some (.lst rs) ∧ Paired (RowEnt K H) rs fo ∧ FoOk fo ∧ (∀ e ∈ fo, F.testBit e.1 = true) ∧ TB K H ∧
  ∀ H' b, LamX.ExtN H H' → TB K H' → BookAt K H' b fo → Q (.ref b) H'
section
variable {P : Program} {w : World} {K : PySem.W.Frag} {mg : Str → Option Value} {base : Heap}
theorem ok_gathered (T : Txt K mg) (B : LamX.TabB base mg (blC K) (blT K)) : OkF P w K mg base CX0 10 "gathered" ["panel", "rows"] (spGathered K) := by
  obtain ⟨fd, F⟩ := T.f_gathered
  have O_Book := ok_bk_init (P := P) (w := w) (base := base) T
  have O_Book_gather := ok_gather (P := P) (w := w) (base := base) T B
  refine ⟨⟨fd, ?_, F.bindsN fun _ _ _ _ _ _ us hl => match us, hl with | [_, _], _ => rfl⟩, F.kp, T.g_gathered⟩
  refine F.ok sc_gathered (fun vs H Q E h => ?_) (fun cdv A outer s H vs Q E hr h => ?_)
  · obtain ⟨_, _, _, _, _, rfl, _⟩ := h
    rfl
  · obtain ⟨pn, rows, F, fo, rs, rfl, hpn, hrows, hrs, hf, hbit, hT, q⟩ := h
    have nd := sc_gathered.nd
    refine ⟨_, PSs.nox (pss_cons (ps_sv 2 nd (pe_makeD O_Book hr pass0 (pa_cons (pv 0) pa_nil)))
      (pss_cons (ps_expr (pe_methD (pv 2) O_Book_gather hr pass0 (pa_cons (pv 1) pa_nil)))
      (pss_one (ps_ret (pv 2))))), ?_⟩
    refine ⟨_, rfl, fun x dx nx ndx ne => ?_⟩
    have nx1 : ∀ {c o}, H c = some o → c ≠ x := fun h => ne_of_none h nx
    have nx2 : ∀ {c o}, H c = some o → c ≠ dx := fun h => ne_of_none h ndx
    refine ⟨x, .ref pn, dx, rfl, upd_same, fun d nd' => ⟨rfl, ?_⟩⟩
    have hdx : d ≠ x := fun e => by rw [e, upd_same] at nd'; cases nd'
    have hd2 : d ≠ dx := fun e => by rw [e, upd_ne ne, upd_same] at nd'; cases nd'
    have ndd : H d = none := by rw [upd_ne hdx, upd_ne hd2] at nd'; exact nd'
    obtain ⟨H3, e3⟩ : ∃ H3, H3 = upd (upd (upd (upd (upd H dx (.own x)) x (.ins (He.ga K "Book") dx [])) x (.ins (He.ga K "Book") dx [("panel", .ref pn)])) d (.dK [])) x (.ins (He.ga K "Book") dx [("panel", .ref pn), ("records", .ref d)]) := ⟨_, rfl⟩
    have sm : Same H H3 := fun c o hc => by
      rw [e3, upd_ne (nx1 hc), upd_ne (ne_of_none hc ndd), upd_ne (nx1 hc), upd_ne (nx1 hc), upd_ne (nx2 hc)]
      exact hc
    have h3d : H3 d = some (.dK []) := by rw [e3, upd_ne hdx, upd_same]
    have h3x : H3 x = some (.ins (He.ga K "Book") dx [("panel", .ref pn), ("records", .ref d)]) := by rw [e3, upd_same]
    have smd : Same H (del H3 d) := same_del sm ndd
    dsimp only [gName, cxOf, Cx.nox]
    rw [← e3]
    obtain ⟨pdx, pfs, p1, p2, p3⟩ := hpn
    refine ⟨_, rfl, x, dx, _, rfl, h3x, rfl, _, rfl, x, rows, dx, pn, d, F, fo, rs, rfl, h3x, h3d, ⟨pdx, pfs, smd _ _ p1, p2, p3⟩, sm _ _ hrows, pmap hrs fun _ _ e => e.same smd, hf, hbit, hT.same sm, fun H4 kvs e4 t4 hd4 hk => ?_⟩
    refine ⟨_, rfl, q H4 x ((LamX.ExtN.of smd).trans e4) t4 ⟨dx, .ref pn, d, kvs, e4 _ _ (by rw [del_ne hdx.symm]; exact h3x) (fun _ z => by cases z), hd4, hk⟩⟩
end
end ML

set_option Elab.async false
set_option linter.all false
set_option maxRecDepth 100000
set_option maxHeartbeats 4000000
namespace ML
open PySem PySem.Spec PyProof.Rows L2 MM
/-! ### comprehensions -/
theorem lc_gen {J : It} {n : Nat} {G : Hp → Prop} {Y : Nat → Hp → V → Hp → Prop} (w : Walk J n G Y) {g : TG} {tt : TT} {te : TE} {vs : List Nat} {σ : L2.St} {H1 : Hp} {D : Addr} {Qd : Hp → Prop} (p : Nat → Bool) (R : Nat → Hp → V → Prop) (hn : n ≤ 1000) (nD : H1 D = none)
    (hR : ∀ i H H' y, Same H H' → R i H y → R i H' y) (hG : ∀ H', Same H1 H' → G H')
    (hs : ∀ i x H H' (N : Hp → Prop), (p i = false → ∀ H3, Same H H3 → N H3) → (p i = true → ∀ y H4, Same H H4 → R i (del H4 D) y → ∃ acc, H4 D = some (.lst acc) ∧ acc.length < sizeLine ∧ N (upd H4 D (.lst (acc ++ [y])))) →
      i < n → Same H1 (del H D) → (∃ acc, H D = some (.lst acc)) → Y i H x H' → g x (wipe σ vs) H' fun σ2 H2 => wipe σ2 vs = wipe σ vs ∧ tt σ2 H2 fun b H3 => if b = true then te σ2 H3 fun y H4 => ∃ acc, H4 D = some (.lst acc) ∧ acc.length < sizeLine ∧ N (upd H4 D (.lst (acc ++ [y]))) else N H3)
    (hd : ∀ H ys, Same H1 (del H D) → H D = some (.lst ys) → Paired (fun y i => R i (del H D) y) ys ((List.range n).filter p) → Qd H) :
    ∃ W : Nat → Nat → Hp → Prop, (∃ m, W 0 m (upd H1 D (.lst []))) ∧ ∀ i m H, W i m H →
      (J.stop i H ∧ Qd H) ∨ (J.go i H ∧ ∃ Nx : Hp → Prop, (∀ H', Nx H' → ∃ m', m' < m ∧ W (i + 1) m' H') ∧ ∀ x H', J.yld i H x H' → g x (wipe σ vs) H' fun σ2 H2 => wipe σ2 vs = wipe σ vs ∧ tt σ2 H2 fun b H3 =>
        if b = true then te σ2 H3 fun y H4 => ∃ acc, H4 D = some (.lst acc) ∧ acc.length < sizeLine ∧ Nx (upd H4 D (.lst (acc ++ [y]))) else Nx H3) := by
  refine lc_it w (fun i H => Same H1 (del H D) ∧ ∃ ys, H D = some (.lst ys) ∧ Paired (fun y j => R j (del H D) y) ys ((List.range i).filter p)) ⟨?_, [], upd_same, .nil⟩ (fun i H _ h => hG H (h.1.trans del_sub)) (fun i x H H' hi ⟨s1, ys, e, r⟩ y => ?_) fun H ⟨s1, ys, e, r⟩ => hd H ys s1 e r
  · rw [del_upd, del_none nD]
    exact Same.refl _
  · have hl : ys.length < sizeLine := by
      have h1 := r.length
      have h2 := List.length_filter_le p (List.range i)
      rw [List.length_range] at h2
      exact small1000 (by omega)
    refine hs i x H H' _ (fun pf H3 s3 => ?_) (fun pt y H4 s4 hr => ?_) hi s1 ⟨ys, e⟩ y
    · refine ⟨s1.trans (del_mono s3), ys, s3 _ _ e, ?_⟩
      rw [List.range_succ, List.filter_append]
      have : [i].filter p = [] := by simp [pf]
      rw [this, List.append_nil]
      exact pmap r fun y j h => hR j _ _ y (del_mono s3) h
    · refine ⟨ys, s4 _ _ e, hl, ?_, ys ++ [y], upd_same, ?_⟩
      · rw [del_upd]
        exact s1.trans (del_mono s4)
      · rw [del_upd, List.range_succ, List.filter_append]
        have : [i].filter p = [i] := by simp [pt]
        rw [this]
        exact papp (pmap r fun y j h => hR j _ _ y (del_mono s4) h) (.cons hr .nil)
/-- values of fixed form -/
theorem paired_map {α : Type} {f : α → V} : ∀ {ys : List V} {l : List α}, Paired (fun y i => y = f i) ys l → ys = l.map f
  | _, _, .nil => rfl
  | _, _, .cons r t => by rw [r, paired_map t]; rfl
theorem filter_true (n : Nat) : (List.range n).filter (fun _ => true) = List.range n := List.filter_eq_self.mpr fun _ _ => rfl
theorem range_get {α : Type} (xs : List α) (d : α) : (List.range xs.length).map (fun i => xs.getD i d) = xs := by
  apply List.ext_getElem
  · simp
  · intro i h1 h2
    simp [h2]
theorem paired_get {α β : Type} {F : α → β → Prop} {xs : List α} {ys : List β} (hl : xs.length = ys.length) (h : ∀ (i : Nat) x y, xs[i]? = some x → ys[i]? = some y → F x y) : Paired F xs ys := by
  induction xs generalizing ys with
  | nil => cases ys with
    | nil => exact .nil
    | cons y ys => simp at hl
  | cons x xs ih => cases ys with
    | nil => simp at hl
    | cons y ys => exact .cons (h 0 x y rfl rfl) (ih (by simpa using hl) fun i a b ha hb => h (i + 1) a b (by simpa using ha) (by simpa using hb))
/-! ### a dict walked -/
theorem unlock {H H' : Hp} {d : Addr} {u : HO} {od : Obj} (h : H d = some u) (s : Same (upd H d (.frz od u)) H') : Same H (upd H' d u) := fun b o e => by
  by_cases q : b = d
  · subst q
    rw [upd_same, ← h]
    exact e
  · rw [upd_ne q]
    exact s _ _ (by rw [upd_ne q]; exact e)
theorem lock_ne {H : Hp} {d b : Addr} {u o : HO} {od : Obj} (h : H d = some u) (e : H b = some o) (n : o ≠ u) : upd H d (.frz od u) b = some o := by
  rw [upd_ne (fun z => by rw [z, h] at e; exact n (Option.some.inj e).symm)]
  exact e
/-! ### texts in a row -/
theorem inV_str (x : Str) (xs : List Str) : inV (.str x) (xs.map V.str) = decide (x ∈ xs) := by
  unfold inV
  rw [List.any_map]
  by_cases h : x ∈ xs
  · rw [decide_eq_true h, List.any_eq_true]
    exact ⟨x, h, by simp [eqV]⟩
  · rw [decide_eq_false h, List.any_eq_false]
    intro y hy
    simp only [Function.comp, eqV]
    intro z
    exact h (by rw [← beq_iff_eq.mp z]; exact hy)
theorem flat_strs (xs : List Str) : (xs.map V.str).all flatV = true := by
  rw [List.all_map, List.all_eq_true]
  intro x _
  rfl
/-! ### switches -/
structure GoodSet (xs : List Str) : Prop where
  l2 : 2 ≤ xs.length
  l4 : xs.length ≤ 4
  nd : xs.Nodup
  wd : ∀ x ∈ xs, Word x
def tot (sws : Sws) : Nat := sws.foldl (fun n s => n * s.2.length) 1
theorem foldl_tot (sws : Sws) (n : Nat) : sws.foldl (fun n s => n * s.2.length) n = n * tot sws := by
  unfold tot
  induction sws generalizing n with
  | nil => simp
  | cons s r ih =>
    rw [List.foldl_cons, List.foldl_cons, ih, ih (1 * s.2.length), Nat.one_mul, Nat.mul_assoc]
theorem tot_cons (s : Str × List Str) (r : Sws) : tot (s :: r) = s.2.length * tot r := by
  show List.foldl (fun n s => n * s.2.length) (1 * s.2.length) r = _
  rw [foldl_tot, Nat.one_mul]
theorem tot_snoc (r : Sws) (s : Str × List Str) : tot (r ++ [s]) = tot r * s.2.length := by
  unfold tot
  rw [List.foldl_append]; rfl
structure GoodSw (sws : Sws) : Prop where
  l1 : 1 ≤ sws.length
  l5 : sws.length ≤ 5
  nd : (sws.map (·.1)).Nodup
  wd : ∀ s ∈ sws, Word s.1
  st : ∀ s ∈ sws, GoodSet s.2
  most : tot sws ≤ 256
theorem tot_pos : ∀ {sws : Sws}, (∀ s ∈ sws, 0 < s.2.length) → 0 < tot sws
  | [], _ => by decide
  | s :: r, h => by
    rw [tot_cons]
    exact Nat.mul_pos (h s List.mem_cons_self) (tot_pos fun x hx => h x (List.mem_cons_of_mem _ hx))
theorem GoodSw.pos {sws : Sws} (h : GoodSw sws) : ∀ s ∈ sws, 0 < s.2.length := fun s hs => by
  have := (h.st s hs).l2
  omega
/-- the places of a number's settings, and what is left -/
def digs : Sws → Nat → List Nat × Nat
  | [], n => ([], n)
  | s :: r, n => ((digs r n).2 % s.2.length :: (digs r n).1, (digs r n).2 / s.2.length)
theorem digs_len : ∀ (sws : Sws) (n : Nat), (digs sws n).1.length = sws.length
  | [], _ => rfl
  | s :: r, n => by
    show (_ :: (digs r n).1).length = _
    rw [List.length_cons, digs_len r n, List.length_cons]
theorem digs_lt : ∀ {sws : Sws} {n k d : Nat} {s : Str × List Str}, (∀ s ∈ sws, 0 < s.2.length) → (digs sws n).1[k]? = some d → sws[k]? = some s → d < s.2.length
  | [], _, _, _, _, _, _, h => by simp at h
  | s :: r, n, 0, d, s', hp, h1, h2 => by
    have e1 : (digs r n).2 % s.2.length = d := Option.some.inj h1
    have e2 : s = s' := Option.some.inj h2
    rw [← e1, ← e2]
    exact Nat.mod_lt _ (hp s List.mem_cons_self)
  | s :: r, n, k + 1, d, s', hp, h1, h2 => digs_lt (sws := r) (n := n) (k := k) (fun x hx => hp x (List.mem_cons_of_mem _ hx)) h1 h2
def setAt (s : Str × List Str) (d : Nat) : Str := s.2.getD d ""
/-- a number's settings -/
def told (sws : Sws) (n : Nat) : List Str := List.zipWith setAt sws (digs sws n).1
theorem told_len (sws : Sws) (n : Nat) : (told sws n).length = sws.length := by
  unfold told
  rw [List.length_zipWith, digs_len, Nat.min_self]
structure GoodRule (sws : Sws) (r : Sws) : Prop where
  ne : r ≠ []
  le : r.length ≤ 5
  nd : (r.map (·.1)).Nodup
  ok : ∀ e ∈ r, ∃ st, look sws e.1 = some st ∧ e.2 ≠ [] ∧ e.2.Nodup ∧ (∀ x ∈ e.2, x ∈ st) ∧ e.2.length ≤ 4
/-- does each setting stand in the rule? -/
def insL (sws r : Sws) (n : Nat) : List Bool := List.zipWith (fun s d => decide (setAt s d ∈ (look r s.1).getD s.2)) sws (digs sws n).1
def ins (sws r : Sws) (n : Nat) : Bool := (insL sws r n).all id
def barred (sws : Sws) (rs : List Sws) (n : Nat) : Bool := rs.any fun r => ins sws r n
end ML

set_option Elab.async false
set_option linter.all false
set_option maxRecDepth 100000
set_option maxHeartbeats 4000000
namespace ML
open PySem PySem.Spec PyProof.Rows L2 MM
section
variable {X : Cx}
/-- a text, once or not at all -/
theorem op_mul_si : OpR X (binaryOp .Mult) (fun x y H Q => ∃ (z : Str) (k : Bool), x = .str z ∧ y = .int (if k then 1 else 0) ∧ z.length ≤ 16 ∧ Q (.str (if k then z else Str.empty)) H) := by
  intro pins s σ H x y v u Q I rx ry h
  obtain ⟨z, k, rfl, rfl, hz, q⟩ := h
  obtain ⟨t, rfl⟩ := rx
  obtain ⟨t', rfl⟩ := ry
  refine PySem.W.KXi.mul rfl hz (by cases k <;> decide) (by cases k <;> decide) fun t2 k2 _ _ => ?_
  have e : Txt.mul z (if k = true then 1 else 0) = (if k = true then z else Str.empty) := by cases k <;> rfl
  rw [e]
  exact ⟨.str _, H, I.tok _, ⟨_, rfl⟩, q⟩
theorem op_eq_emp (hu : X.A.units < cLine) : OpR X (compareOp .Eq) (fun x y H Q => ∃ a b k, x = .ref a ∧ y = .ref b ∧ H a = some (.dK k) ∧ H b = some (.dK []) ∧ Q (.bl k.isEmpty) H) := by
  intro pins s σ H x y v u Q I rx ry h
  obtain ⟨a, b, ks, rfl, rfl, ea, eb, q⟩ := h
  obtain rfl : v = Value.ref a := rx
  obtain rfl : u = Value.ref b := ry
  obtain ⟨_, ya, va, ra, da⟩ := (show ObjOk X.prog X.w H s.heap a (.dK ks) from I.hok a _ ea)
  obtain ⟨_, yb, vb, rb, db⟩ := (show ObjOk X.prog X.w H s.heap b (.dK []) from I.hok b _ eb)
  have hb : vb.length = 0 := by rw [← rb.length]; rfl
  have hz : ks.isEmpty = (va.length == vb.length && true) := by
    rw [hb, ← ra.length, Bool.and_true]
    cases ks <;> rfl
  exact PySem.W.keq_eq (knd := mixKind X.prog X.w) (r := true) ya yb da db hu (fun hl => by
    have : va = [] := List.eq_nil_of_length_eq_zero (hl.trans hb)
    rw [this]
    exact .nil) (fin_bl I q hz)
theorem op_ne_emp (hu : X.A.units < cLine) : OpR X (compareOp .NotEq) (fun x y H Q => ∃ a b k, x = .ref a ∧ y = .ref b ∧ H a = some (.dK k) ∧ H b = some (.dK []) ∧ Q (.bl (!k.isEmpty)) H) := by
  intro pins s σ H x y v u Q I rx ry h
  obtain ⟨a, b, ks, rfl, rfl, ea, eb, q⟩ := h
  obtain rfl : v = Value.ref a := rx
  obtain rfl : u = Value.ref b := ry
  obtain ⟨_, ya, va, ra, da⟩ := (show ObjOk X.prog X.w H s.heap a (.dK ks) from I.hok a _ ea)
  obtain ⟨_, yb, vb, rb, db⟩ := (show ObjOk X.prog X.w H s.heap b (.dK []) from I.hok b _ eb)
  have hb : vb.length = 0 := by rw [← rb.length]; rfl
  have hz : (!ks.isEmpty) = (!(va.length == vb.length && true)) := by
    rw [hb, ← ra.length, Bool.and_true]
    cases ks <;> rfl
  exact PySem.W.keq_ne (knd := mixKind X.prog X.w) (r := true) ya yb da db hu (fun hl => by
    have : va = [] := List.eq_nil_of_length_eq_zero (hl.trans hb)
    rw [this]
    exact .nil) (fin_bl I q hz)
end
end ML

set_option Elab.async false
set_option linter.all false
set_option maxRecDepth 100000
set_option maxHeartbeats 4000000
namespace ML
open PySem PySem.Spec PyProof.Rows L2 MM
/-! ### tests that may make new objects -/
theorem and_s {tA tB : TT} {σ : L2.St} {H : Hp} {Q : Bool → Hp → Prop} {a b : Bool} (hA : ∀ Q : Bool → Hp → Prop, (∀ H', Same H H' → Q a H') → tA σ H Q) (hB : a = true → ∀ H1 (Q : Bool → Hp → Prop), Same H H1 → (∀ H', Same H H' → Q b H') → tB σ H1 Q) (h : ∀ H', Same H H' → Q (a && b) H') : tAnd tA tB σ H Q := by
  refine hA _ fun H' s => ?_
  cases a with
  | false => exact iteF (h H' s)
  | true => exact iteT (hB rfl _ _ s h)
theorem or_s {tA tB : TT} {σ : L2.St} {H : Hp} {Q : Bool → Hp → Prop} {a b : Bool} (hA : ∀ Q : Bool → Hp → Prop, (∀ H', Same H H' → Q a H') → tA σ H Q) (hB : a = false → ∀ H1 (Q : Bool → Hp → Prop), Same H H1 → (∀ H', Same H H' → Q b H') → tB σ H1 Q) (h : ∀ H', Same H H' → Q (a || b) H') : tOr tA tB σ H Q := by
  refine hA _ fun H' s => ?_
  cases a with
  | false => exact iteF (hB rfl _ _ s h)
  | true => exact iteT (h H' s)
theorem if_s {tA : TT} {t u : TS} {D : Ends} {σ : L2.St} {H : Hp} {a : Bool} (hA : ∀ Q : Bool → Hp → Prop, (∀ H', Same H H' → Q a H') → tA σ H Q) (h1 : a = true → ∀ H', Same H H' → t D σ H') (h2 : a = false → ∀ H', Same H H' → u D σ H') : tIfS tA t u D σ H := by
  refine hA _ fun H' s => ?_
  cases a with
  | false => exact iteF (h2 rfl H' s)
  | true => exact iteT (h1 rfl H' s)
theorem cut_take (xs : List V) (i : Nat) : cutV xs none (some (i : Int)) = xs.take i := by
  unfold cutV
  rw [HT.sIx_none, HT.sIx_nat, List.drop_zero, Nat.sub_zero]
  by_cases h : i ≤ xs.length
  · rw [Nat.min_eq_left h]
  · rw [Nat.min_eq_right (by omega), List.take_length, List.take_of_length_le (by omega)]
theorem map_get {α β : Type} {f : α → β} {xs : List α} {i : Nat} {y : β} (h : (xs.map f)[i]? = some y) : ∃ z, xs[i]? = some z ∧ y = f z := by
  rw [List.getElem?_map] at h
  obtain ⟨z, h1, h2⟩ := Option.map_eq_some_iff.mp h
  exact ⟨z, h1, h2.symm⟩
theorem nodup_take {α : Type} {xs : List α} (h : xs.Nodup) {i : Nat} {x : α} (hx : xs[i]? = some x) : ¬ x ∈ xs.take i := fun z => by
  obtain ⟨j, hj, e⟩ := List.mem_iff_getElem.mp z
  rw [List.length_take] at hj
  rw [List.getElem_take] at e
  obtain ⟨h1, e2⟩ := List.getElem?_eq_some_iff.mp hx
  exact (List.pairwise_iff_getElem.mp h) j i (by omega) h1 (by omega) (e.trans e2.symm)
def spAreSet : Sp := fun vs H Q _ => ∃ (l : Addr) (xs : List Str), vs = [.ref l] ∧ H l = some (.lst (xs.map V.str)) ∧ GoodSet xs ∧ ∀ H', Same H H' → Q (.bl true) H'
def spAreSw : Sp := fun vs H Q _ => ∃ (l : Addr) (sws : Sws), vs = [.ref l] ∧ SwAt .lst H l sws ∧ GoodSw sws ∧ ∀ H', Same H H' → Q (.bl true) H'
section
variable {P : Program} {w : World} {K : PySem.W.Frag} {mg : Str → Option Value} {base : Heap}
theorem ok_are_settings (T : Txt K mg) : OkF P w K mg base CX0 3 "are_settings" ["thing"] spAreSet := by
  obtain ⟨fd, F⟩ := T.f_are_settings
  have O_is_word := ok_is_word (P := P) (w := w) (base := base) T
  obtain ⟨t4, h_MOST_SETTINGS⟩ := T.i_MOST_SETTINGS
  refine ⟨⟨fd, ?_, F.bindsN fun _ _ _ _ _ _ us hl => match us, hl with | [_], _ => rfl⟩, F.kp, T.g_are_settings⟩
  refine F.ok sc_are_settings (fun vs H Q E h => ?_) (fun cdv A outer s H vs Q E hr h => ?_)
  · obtain ⟨_, _, rfl, _⟩ := h
    rfl
  · obtain ⟨l, xs, rfl, hl, hx, q⟩ := h
    have nd := sc_are_settings.nd
    have hl2 := hx.l2
    have hl4 := hx.l4
    refine ⟨_, PSs.nox (pss_cons (ps_if (PW.pt (pw_or (pt_not (pt_val (pe_callB call_isi (by rfl) T.b_isinstance (by decide +kernel) (pa_cons (pv 0) (pa_cons (pe_bltn (v := .ty "list") (by rfl) T.b_list (by decide +kernel) rfl) pa_nil))))) (pw_or1 (pt_not (pt_chain op_le op_le pe_int (pe_callB call_len_seq (by rfl) T.b_len PySem.boot_len (pa_cons (pv 0) pa_nil)) (pe_glob (v := .int 4) rfl h_MOST_SETTINGS ⟨_, rfl⟩)))))) (pss_one (ps_ret pe_bl)) pss_nil)
      (pss_cons (ps_for PassesOwn.never rfl (pi_enum (by rfl) T.b_enumerate (pa_cons (pv 0) pa_nil)) (pg_tup (by rfl) (pgs_cons (pg_nm 1 nd) (pgs_cons (pg_nm 2 nd) pgs_nil)))
        (pss_one (ps_if (PW.pt (pw_or (pt_not (pt_val (pe_callD O_is_word hr pass0 (pa_cons (pv 2) pa_nil)))) (pw_or1 (pt_cmpR op_in_seq (pv 2) (pe_slice sl_list (pv 0) po_none (po_some (pv 1))) rfl)))) (pss_one (ps_ret pe_bl)) pss_nil)))
      (pss_one (ps_ret pe_bl)))), ?_⟩
    dsimp only [tSeq]
    have hls : SqL K H l (xs.map V.str) := .inl (.inl hl)
    refine if_t (a := false) (fun Q h => or_t (a := false) (b := false) (fun Q h => ?_) (fun _ Q h => ?_) h) (fun z => by cases z) (fun _ => ?_)
    · exact ⟨_, rfl, _, _, _, _, true, rfl, .ty "list", .base (.lst hl), kit_ty (by decide +kernel), _, rfl, h⟩
    · refine ⟨_, rfl, l, _, rfl, .inl hls, _, _, rfl, rfl, _, rfl, ?_⟩
      rw [List.length_map, decide_eq_true (show (2 : Int) ≤ ((xs.length : Nat) : Int) by omega)]
      refine iteT ⟨_, _, rfl, rfl, _, rfl, ?_⟩
      rw [decide_eq_true (show ((xs.length : Nat) : Int) ≤ 4 by omega)]
      exact h
    · refine ⟨_, rfl, l, _, rfl, hls, for_it walk_enum (fun i σ H' => Same H H' ∧ ∃ v1 v2, σ = [some (.ref l), v1, v2]) ⟨Same.refl _, none, none, rfl⟩ (fun i σ H' _ ⟨e, _⟩ => .inl (.inl (e _ _ hl))) ?_ ?_⟩
      · rintro i v σ H1 H' hi ⟨s1, v1, v2, rfl⟩ ⟨U, x, y, rfl, nU, rfl, hx1, hy⟩
        obtain rfl : x = V.int ((i : Nat) : Int) := (Option.some.inj hx1).symm
        obtain ⟨z, hz, rfl⟩ := map_get hy
        have s2 : Same H1 (upd H1 U (.tup [.int ((i : Nat) : Int), .str z])) := same_upd nU
        refine ⟨U, _, rfl, .inl (.inl upd_same), rfl, .int ((i : Nat) : Int), [.str z], rfl, .str z, [], rfl, rfl, ?_⟩
        have s3 := s1.trans s2
        refine if_s (a := false) (fun Q h => or_s (a := false) (b := false) (fun Q h => ?_) (fun _ H2 Q s4 h => ?_) h) (fun z => by cases z) (fun _ H' s4 => ⟨s3.trans s4, some (.int ((i : Nat) : Int)), some (.str z), rfl⟩)
        · exact ⟨_, rfl, z, rfl, hx.wd z (List.mem_of_getElem? hz), _, rfl, h _ (Same.refl _)⟩
        · refine ⟨_, rfl, _, rfl, _, rfl, _, rfl, l, _, rfl, .inl (.inl ((s3.trans s4) _ _ hl)), fun r nr => ⟨r, _, rfl, .inl (.inl (.inl upd_same)), rfl, ?_, false, ?_, h _ (s4.trans (same_upd nr))⟩⟩
          · rw [cut_take, ← List.map_take]
            exact flat_strs _
          · rw [cut_take, ← List.map_take, inV_str, decide_eq_false (nodup_take hx.nd hz)]; rfl
      · rintro σ H' ⟨s1, v1, v2, rfl⟩
        exact q H' s1
theorem ok_are_switches (T : Txt K mg) : OkF P w K mg base CX0 4 "are_switches" ["thing"] spAreSw := by
  obtain ⟨fd, F⟩ := T.f_are_switches
  have O_is_word := ok_is_word (P := P) (w := w) (base := base) T
  have O_are_settings := ok_are_settings (P := P) (w := w) (base := base) T
  obtain ⟨t5, h_MOST_SWITCHES⟩ := T.i_MOST_SWITCHES
  obtain ⟨t6, h_MOST_CHOICES⟩ := T.i_MOST_CHOICES
  refine ⟨⟨fd, ?_, F.bindsN fun _ _ _ _ _ _ us hl => match us, hl with | [_], _ => rfl⟩, F.kp, T.g_are_switches⟩
  refine F.ok sc_are_switches (fun vs H Q E h => ?_) (fun cdv A outer s H vs Q E hr h => ?_)
  · obtain ⟨_, _, rfl, _⟩ := h
    rfl
  · obtain ⟨l, sws, rfl, ⟨vs, hl, hvs⟩, hx, q⟩ := h
    have nd := sc_are_switches.nd
    have hl1 := hx.l1
    have hl5 := hx.l5
    have hlen : vs.length = sws.length := hvs.length
    refine ⟨_, PSs.nox (pss_cons (ps_if (PW.pt (pw_or (pt_not (pt_val (pe_callB call_isi (by rfl) T.b_isinstance (by decide +kernel) (pa_cons (pv 0) (pa_cons (pe_bltn (v := .ty "list") (by rfl) T.b_list (by decide +kernel) rfl) pa_nil))))) (pw_or1 (pt_not (pt_chain op_le op_le pe_int (pe_callB call_len_seq (by rfl) T.b_len PySem.boot_len (pa_cons (pv 0) pa_nil)) (pe_glob (v := .int 5) rfl h_MOST_SWITCHES ⟨_, rfl⟩)))))) (pss_one (ps_ret pe_bl)) pss_nil)
      (pss_cons (ps_sv 1 nd (pe_lst pa_nil))
      (pss_cons (ps_sv 2 nd pe_int)
      (pss_cons (ps_for PassesOwn.never rfl (pi_list (pv 0)) (pg_nm 3 nd)
        (pss_cons (ps_if (PW.pt (pw_or (pt_not (pt_val (pe_callB call_isi (by rfl) T.b_isinstance (by decide +kernel) (pa_cons (pv 3) (pa_cons (pe_bltn (v := .ty "tuple") (by rfl) T.b_tuple (by decide +kernel) rfl) pa_nil))))) (pw_or1 (pt_cmpR op_ne (pe_callB call_len_seq (by rfl) T.b_len PySem.boot_len (pa_cons (pv 3) pa_nil)) pe_int (nomark _))))) (pss_one (ps_ret pe_bl)) pss_nil)
        (pss_cons (ps_if (PW.pt (pw_or (pt_not (pt_val (pe_callD O_is_word hr pass0 (pa_cons (pe_ix ix_tup (pv 3) pe_int (fun _ _ => rfl)) pa_nil)))) (pw_or (pt_cmpR op_in_seq (pe_ix ix_tup (pv 3) pe_int (fun _ _ => rfl)) (pv 1) rfl) (pw_or1 (pt_not (pt_val (pe_callD O_are_settings hr pass0 (pa_cons (pe_ix ix_tup (pv 3) pe_int (fun _ _ => rfl)) pa_nil)))))))) (pss_one (ps_ret pe_bl)) pss_nil)
        (pss_cons (ps_expr (pe_bm PySem.F.plainAttrs_list PySem.F.slot_list_append PySem.F.type_list_append mt_append (pv 1) (pa_cons (pe_ix ix_tup (pv 3) pe_int (fun _ _ => rfl)) pa_nil)))
        (pss_one (ps_sv 2 nd (pe_op op_mul (pv 2) (pe_callB call_len_seq (by rfl) T.b_len PySem.boot_len (pa_cons (pe_ix ix_tup (pv 3) pe_int (fun _ _ => rfl)) pa_nil)))))))))
      (pss_one (ps_ret (pe_cmpR op_le (pv 2) (pe_glob (v := .int 256) rfl h_MOST_CHOICES ⟨_, rfl⟩) (nomark _)))))))), ?_⟩
    dsimp only [tSeq]
    have hls : SqL K H l vs := .inl (.inl hl)
    refine if_t (a := false) (fun Q h => or_t (a := false) (b := false) (fun Q h => ?_) (fun _ Q h => ?_) h) (fun z => by cases z) (fun _ => ?_)
    · exact ⟨_, rfl, _, _, _, _, true, rfl, .ty "list", .base (.lst hl), kit_ty (by decide +kernel), _, rfl, h⟩
    · refine ⟨_, rfl, l, _, rfl, .inl hls, _, _, rfl, rfl, _, rfl, ?_⟩
      rw [decide_eq_true (show (1 : Int) ≤ ((vs.length : Nat) : Int) by omega)]
      refine iteT ⟨_, _, rfl, rfl, _, rfl, ?_⟩
      rw [decide_eq_true (show ((vs.length : Nat) : Int) ≤ 5 by omega)]
      exact h
    · refine ⟨Nat.zero_le _, fun f nf => ?_⟩
      have hlf : l ≠ f := ne_of_none hl nf
      refine ⟨_, rfl, l, rfl, ⟨vs, .inl (.inl (by rw [upd_ne hlf]; exact hl))⟩, for_it walk_list (fun i σ H' => Same H (del H' f) ∧ H' f = some (.lst ((sws.take i).map fun s => V.str s.1)) ∧ ∃ v3, σ = [some (.ref l), some (.ref f), some (.int ((tot (sws.take i) : Nat) : Int)), v3]) ⟨by rw [del_upd, del_none nf]; exact Same.refl _, upd_same, none, rfl⟩ (fun i σ H' _ ⟨e, _⟩ => .inl (.inl (del_sub _ _ (e _ _ hl)))) ?_ ?_⟩
      · rintro i x σ H1 H' hi ⟨s1, hf, v3, rfl⟩ ⟨rfl, hy⟩
        obtain ⟨s, hs, a, l2, rfl, ha, hl2⟩ := pget hvs hy
        have hsm := List.mem_of_getElem? hs
        have sA : Same H H' := s1.trans del_sub
        have ha' := sA _ _ ha
        have hT : SqT K H' a [.str s.1, .ref l2] := .inl (.inl ha')
        have e2 : sws.take (i + 1) = sws.take i ++ [s] := by rw [List.take_add_one, hs]; rfl
        have hnew : ¬ s.1 ∈ (sws.take i).map (·.1) := by
          rw [List.map_take]
          exact nodup_take hx.nd (by rw [List.getElem?_map, hs]; rfl)
        refine if_t (a := false) (fun Q h => or_t (a := false) (b := false) (fun Q h => ?_) (fun _ Q h => ?_) h) (fun z => by cases z) (fun _ => ?_)
        · exact ⟨_, rfl, _, _, _, _, true, rfl, .ty "tuple", .base (.tup ha'), kit_ty (by decide +kernel), _, rfl, h⟩
        · exact ⟨_, rfl, a, _, rfl, .inr hT, rfl, _, rfl, h⟩
        · dsimp only [tNext]
          refine if_s (a := false) (fun Q h => or_s (a := false) (b := false) (fun Q h => ?_) (fun _ H2 Q s4 h => or_s (a := false) (b := false) (fun Q h => ?_) (fun _ H3 Q s5 h => ?_) (fun H' s => h H' (s4.trans s))) h) (fun z => by cases z) (fun _ H2 s4 => ?_)
          · exact ⟨_, rfl, a, _, 0, _, rfl, rfl, hT, rfl, s.1, rfl, hx.wd s hsm, _, rfl, h _ (Same.refl _)⟩
          · refine ⟨_, rfl, a, _, 0, _, rfl, rfl, s4.seqT hT, rfl, _, rfl, f, _, rfl, .inl (.inl (.inl (s4 _ _ hf))), rfl, ?_, false, ?_, h _ (Same.refl _)⟩
            · rw [show (sws.take i).map (fun s => V.str s.1) = ((sws.take i).map (·.1)).map V.str by rw [List.map_map]; rfl]
              exact flat_strs _
            · rw [show (sws.take i).map (fun s => V.str s.1) = ((sws.take i).map (·.1)).map V.str by rw [List.map_map]; rfl, inV_str, decide_eq_false hnew]; rfl
          · exact ⟨_, rfl, a, _, 1, _, rfl, rfl, (s4.trans s5).seqT hT, rfl, l2, s.2, rfl, (sA.trans (s4.trans s5)) _ _ hl2, hx.st s hsm, fun H4 s6 => ⟨_, rfl, h _ (s5.trans s6)⟩⟩
          · have hf2 := s4 _ _ hf
            have hl2f : l2 ≠ f := fun z => by
              have := s1 _ _ hl2
              rw [z, del_same] at this; cases this
            have haf : a ≠ f := fun z => by
              have := s1 _ _ ha
              rw [z, del_same] at this; cases this
            refine ⟨_, rfl, .inl ⟨rfl, _, .inl (.inl hf2)⟩, _, rfl, a, _, 0, _, rfl, rfl, s4.seqT hT, rfl, f, _, _, rfl, rfl, hf2, small1000 (by rw [List.length_map, List.length_take]; omega), ?_⟩
            have s7 : Same (del H2 f) (upd H2 f (.lst ((sws.take i).map (fun s => V.str s.1) ++ [.str s.1]))) := fun c o hc => by
              have c1 : c ≠ f := fun z => by rw [z, del_same] at hc; cases hc
              rw [upd_ne c1]
              rw [del_ne c1] at hc
              exact hc
            have h44 : (s.2.map V.str).length ≤ 4 := by rw [List.length_map]; exact (hx.st s hsm).l4
            have s8 : Same H (del H2 f) := s1.trans (del_mono s4)
            refine ⟨_, rfl, _, rfl, a, _, 1, _, rfl, rfl, (s8.trans s7).seqT (.inl (.inl ha)), rfl, l2, _, rfl, .inl (.inl (.inl ((s8.trans s7) _ _ hl2))), _, _, rfl, rfl, .inr ⟨by omega, by omega⟩, ?_⟩
            · refine ⟨by rw [del_upd]; exact s8, by rw [upd_same, e2, List.map_append]; rfl, some (.ref a), ?_⟩
              rw [e2, tot_snoc, List.length_map]
              simp
      · rintro σ H' ⟨s1, hf, v3, rfl⟩
        rw [hlen, List.take_length]
        refine ⟨_, rfl, _, _, rfl, rfl, ?_⟩
        have := hx.most
        dsimp only
        rw [decide_eq_true (show ((tot sws : Nat) : Int) ≤ 256 by omega)]
        exact q H' (s1.trans del_sub)
end
end ML

set_option Elab.async false
set_option linter.all false
set_option maxRecDepth 100000
set_option maxHeartbeats 4000000
namespace ML
open PySem PySem.Spec PyProof.Rows L2 MM
/-- a panel, as its methods read it -/
def PanAt (K : PySem.W.Frag) (H : Hp) (p : Addr) (sws : Sws) : Prop := ∃ dx fs d, H p = some (.ins (He.ga K "Panel") dx fs) ∧ fs.lookup ("dials" : Str) = some (.ref d) ∧ fs.lookup ("total" : Str) = some (.int ((tot sws : Nat) : Int)) ∧
  fs.lookup ("are_terms" : Str) = none ∧ fs.lookup ("copied_terms" : Str) = none ∧ fs.lookup ("told" : Str) = none ∧ SwAt .tup H d sws
theorem PanAt.same {K : PySem.W.Frag} {H H' : Hp} (s : Same H H') {p : Addr} {sws : Sws} (h : PanAt K H p sws) : PanAt K H' p sws := by
  obtain ⟨dx, fs, d, h1, h2, h3, h4, h5, h6, h7⟩ := h
  exact ⟨dx, fs, d, s _ _ h1, h2, h3, h4, h5, h6, h7.same s⟩
theorem atI_nat {α : Type} {xs : List α} {k : Nat} (h : k < xs.length) : atI xs (k : Int) = xs[k]? := by
  unfold atI ixN
  rw [if_pos (by omega), if_pos (by omega)]
  show xs[(k : Int).toNat]? = _
  rw [Int.toNat_natCast]
def spTold (K : PySem.W.Frag) : Sp := fun vs H Q _ => ∃ (p : Addr) (n : Nat) (sws : Sws), vs = [.ref p, .int (n : Int)] ∧ PanAt K H p sws ∧ GoodSw sws ∧ n < tot sws ∧ ∀ H' t, Same H H' → H' t = some (.tup ((told sws n).map V.str)) → Q (.ref t) H'
def spAllCh (K : PySem.W.Frag) : Sp := fun vs H Q _ => ∃ (p : Addr) (sws : Sws), vs = [.ref p] ∧ PanAt K H p sws ∧ tot sws ≤ 256 ∧ Q (.int ((2 ^ tot sws - 1 : Nat) : Int)) H
section
variable {P : Program} {w : World} {K : PySem.W.Frag} {mg : Str → Option Value} {base : Heap}
theorem ok_all_choices (T : Txt K mg) : OkM P w K mg base CX0 1 "Panel" "all_choices" ["self"] (spAllCh K) := by
  obtain ⟨fd, F⟩ := T.f_Panel_all_choices
  refine ⟨⟨fd, ?_, F.bindsN fun _ _ _ _ _ _ us hl => match us, hl with | [_], _ => rfl⟩, T.c_Panel, T.m_Panel_all_choices⟩
  refine F.ok sc_Panel_all_choices (fun vs H Q E h => ?_) (fun cdv A outer s H vs Q E hr h => ?_)
  · obtain ⟨_, _, rfl, _⟩ := h
    rfl
  · obtain ⟨p, sws, rfl, ⟨dx, fs, d, h1, h2, h3, _⟩, hm, q⟩ := h
    refine ⟨_, PSs.nox (pss_one (ps_ret (pe_op op_sub (pe_op op_shl pe_int (pe_fld (pv 0) rfl)) pe_int))), ?_⟩
    refine ⟨_, rfl, p, _, dx, fs, _, rfl, h1, T.c_Panel, T.a_Panel_total, h3, _, _, rfl, rfl, ?_⟩
    refine ⟨⟨by omega, by omega, by decide⟩, _, _, rfl, rfl, ?_⟩
    have e : (1 : Int) * 2 ^ ((tot sws : Nat) : Int).toNat - 1 = ((2 ^ tot sws - 1 : Nat) : Int) := by
      rw [Int.toNat_natCast, Int.one_mul, Int.natCast_sub (Nat.one_le_two_pow), Int.natCast_pow]; rfl
    dsimp only
    rw [e]
    exact q
theorem ok_told (T : Txt K mg) : OkM P w K mg base CX0 2 "Panel" "told" ["self", "number"] (spTold K) := by
  obtain ⟨fd, F⟩ := T.f_Panel_told
  have O_is_whole := ok_is_whole (P := P) (w := w) (base := base) T
  refine ⟨⟨fd, ?_, F.bindsN fun _ _ _ _ _ _ us hl => match us, hl with | [_, _], _ => rfl⟩, T.c_Panel, T.m_Panel_told⟩
  refine F.ok sc_Panel_told (fun vs H Q E h => ?_) (fun cdv A outer s H vs Q E hr h => ?_)
  · obtain ⟨_, _, _, rfl, _⟩ := h
    rfl
  · obtain ⟨p, N, sws, rfl, ⟨dx, fs, d, hp, hdi, hto, _, _, _, vs, hd, hvs⟩, hx, hN, q⟩ := h
    have nd := sc_Panel_told.nd
    refine ⟨_, PSs.nox (pss_cons (ps_if (PW.pt (pw_or (pt_not (pt_val (pe_callD O_is_whole hr pass0 (pa_cons (pv 1) pa_nil)))) (pw_or1 (pt_not (pt_chain op_le op_lt pe_int (pv 1) (pe_fld (pv 0) rfl)))))) pss_never pss_nil)
      (pss_cons (ps_sv 2 nd (pe_lst pa_nil))
      (pss_cons (ps_for PassesOwn.never rfl (pi_reversed (by rfl) T.b_reversed (pa_cons (pe_fld (pv 0) rfl) pa_nil)) (pg_tup (by rfl) (pgs_cons (pg_nm 3 nd) (pgs_cons (pg_nm 4 nd) pgs_nil)))
        (pss_cons (ps_asg (pe_callB call_divmod (by rfl) T.b_divmod (by decide +kernel) (pa_cons (pv 1) (pa_cons (pe_callB call_len_seq (by rfl) T.b_len PySem.boot_len (pa_cons (pv 4) pa_nil)) pa_nil))) (pg_tup (by rfl) (pgs_cons (pg_nm 1 nd) (pgs_cons (pg_nm 5 nd) pgs_nil))))
        (pss_one (ps_expr (pe_bm PySem.F.plainAttrs_list PySem.F.slot_list_insert PySem.F.type_list_insert mt_insert (pv 2) (pa_cons pe_int (pa_cons (pe_ix ix_tup (pv 4) (pv 5) (fun _ _ => rfl)) pa_nil)))))))
      (pss_one (ps_ret (pe_callTy call_tuple_of (by rfl) T.b_tuple (by decide +kernel) (pa_cons (pv 2) pa_nil))))))), ?_⟩
    dsimp only [tSeq]
    refine if_t (a := false) (fun Q h => or_t (a := false) (b := false) (fun Q h => ?_) (fun _ Q h => ?_) h) (fun z => by cases z) (fun _ => ?_)
    · exact ⟨_, rfl, _, rfl, _, rfl, h⟩
    · refine ⟨_, rfl, _, _, rfl, rfl, _, rfl, ?_⟩
      rw [decide_eq_true (show (0 : Int) ≤ ((N : Nat) : Int) by omega)]
      refine iteT ⟨_, rfl, p, _, dx, fs, _, rfl, hp, T.c_Panel, T.a_Panel_total, hto, _, _, rfl, rfl, _, rfl, ?_⟩
      rw [decide_eq_true (show ((N : Nat) : Int) < ((tot sws : Nat) : Int) by omega)]
      exact h
    · refine ⟨Nat.zero_le _, fun f nf => ?_⟩
      have hpf : p ≠ f := ne_of_none hp nf
      have hdf : d ≠ f := ne_of_none hd nf
      have hlen : vs.length = sws.length := hvs.length
      refine ⟨_, rfl, p, _, dx, fs, _, rfl, by rw [upd_ne hpf]; exact hp, T.c_Panel, T.a_Panel_dials, hdi, d, vs, rfl, .inl (.inl (by rw [upd_ne hdf]; exact hd)), for_it walk_rev (fun i σ H' => Same H (del H' f) ∧ H' f = some (.lst ((told (sws.drop (sws.length - i)) N).map V.str)) ∧ ∃ v3 v4 v5, σ = [some (.ref p), some (.int (((digs (sws.drop (sws.length - i)) N).2 : Nat) : Int)), some (.ref f), v3, v4, v5]) ⟨by rw [del_upd, del_none nf]; exact Same.refl _, ?_, none, none, none, ?_⟩ (fun i σ H' _ ⟨e, _⟩ => .inl (.inl (del_sub _ _ (e _ _ hd)))) ?_ ?_⟩
      · rw [upd_same, Nat.sub_zero, List.drop_length]; rfl
      · rw [Nat.sub_zero, List.drop_length]; rfl
      · rintro i x σ H1 H' hi ⟨s1, hf, v3, v4, v5, rfl⟩ ⟨rfl, hy⟩
        rw [hlen] at hy hi
        obtain ⟨s, hs, a, l2, rfl, ha, hl2⟩ := pget hvs hy
        have sA : Same H H' := s1.trans del_sub
        have hk : sws.length - 1 - i = sws.length - (i + 1) := by omega
        have ed : sws.drop (sws.length - (i + 1)) = s :: sws.drop (sws.length - i) := by
          obtain ⟨h1, h2⟩ := List.getElem?_eq_some_iff.mp hs
          rw [← hk, List.drop_eq_getElem_cons h1, h2]
          congr 2
          omega
        have hpos := hx.pos s (List.mem_of_getElem? hs)
        have hl4 := (hx.st s (List.mem_of_getElem? hs)).l4
        obtain ⟨r, er⟩ : ∃ r, r = sws.drop (sws.length - i) := ⟨_, rfl⟩
        rw [ed]
        rw [← er] at hf ⊢
        refine ⟨a, _, rfl, .inl (.inl (sA _ _ ha)), rfl, .str s.1, [.ref l2], rfl, .ref l2, [], rfl, rfl, ?_⟩
        refine ⟨_, rfl, _, rfl, l2, _, rfl, .inr (.inl (.inl (sA _ _ hl2))), _, _, rfl, ?_, fun U nU => ?_⟩
        · rw [List.length_map]
          exact ⟨by omega, by omega⟩
        · rw [List.length_map]
          have hm : (digs r N).2 % s.2.length < s.2.length := Nat.mod_lt _ hpos
          refine ⟨U, _, rfl, .inl (.inl upd_same), rfl, .int (((digs r N).2 / s.2.length : Nat) : Int), [.int (((digs r N).2 % s.2.length : Nat) : Int)], rfl, .int (((digs r N).2 % s.2.length : Nat) : Int), [], rfl, rfl, ?_⟩
          have hfU : f ≠ U := ne_of_none hf nU
          have hf2 : upd H' U (.tup [.int (((digs r N).2 / s.2.length : Nat) : Int), .int (((digs r N).2 % s.2.length : Nat) : Int)]) f = some (.lst ((told r N).map V.str)) := by rw [upd_ne hfU]; exact hf
          have hl2' : upd H' U (.tup [.int (((digs r N).2 / s.2.length : Nat) : Int), .int (((digs r N).2 % s.2.length : Nat) : Int)]) l2 = some (.tup (s.2.map V.str)) := by
            have := sA _ _ hl2
            rw [upd_ne (ne_of_none this nU)]; exact this
          have hrl : (told r N).length ≤ 5 := by
            rw [told_len, er, List.length_drop]
            have := hx.l5
            omega
          refine ⟨_, rfl, .inl ⟨rfl, _, .inl (.inl hf2)⟩, _, rfl, _, rfl, l2, _, _, .str (setAt s ((digs r N).2 % s.2.length)), rfl, rfl, .inl (.inl hl2'), ?_, f, _, 0, _, rfl, rfl, hf2, small1000 (by rw [List.length_map]; omega), by decide, by decide, ?_⟩
          · rw [atI_nat (by rw [List.length_map]; exact hm), List.getElem?_map]
            unfold setAt
            rw [List.getD_eq_getElem?_getD, List.getElem?_eq_getElem hm]; rfl
          · refine ⟨?_, ?_, _, _, _, rfl⟩
            · rw [del_upd]
              exact s1.trans (del_mono (same_upd nU))
            · rw [upd_same]; rfl
      · rintro σ H' ⟨s1, hf, v3, v4, v5, rfl⟩
        rw [hlen, Nat.sub_self, List.drop_zero] at hf
        exact ⟨_, rfl, f, _, rfl, .inl ⟨.inl (.inl hf), fun t nt => q _ t ((s1.trans del_sub).trans (same_upd nt)) upd_same⟩⟩
end
end ML

set_option Elab.async false
set_option linter.all false
set_option maxRecDepth 100000
set_option maxHeartbeats 4000000
namespace ML
open PySem PySem.Spec PyProof.Rows L2 MM
theorem merge_app : ∀ (more acc : List (Key × V)), ((acc ++ more).map (·.1)).Nodup → mergeK acc more = acc ++ more
  | [], acc, _ => by rw [List.append_nil]; rfl
  | kv :: r, acc, h => by
    have h0 : valV acc kv.1 = none := by
      cases q : valV acc kv.1 with
      | none => rfl
      | some v =>
        exfalso
        have : (acc.any fun x => decide (x.1 = kv.1)) = true := by rw [valV_any, q]; rfl
        obtain ⟨x, hx, e⟩ := List.any_eq_true.mp this
        rw [List.map_append, List.nodup_append] at h
        exact h.2.2 x.1 (List.mem_map.mpr ⟨x, hx, rfl⟩) kv.1 (by simp) (of_decide_eq_true e)
    show mergeK (putK acc kv.1 kv.2) r = _
    rw [putK_new _ h0, merge_app r]
    · simp
    · simpa using h
theorem merge_nil {kvs : List (Key × V)} (h : (kvs.map (·.1)).Nodup) : mergeK [] kvs = kvs := merge_app kvs [] (by simpa using h)
theorem nodup_map {α β : Type} {f : α → β} (inj : ∀ a b, f a = f b → a = b) {l : List α} (h : l.Nodup) : (l.map f).Nodup := List.pairwise_map.mpr (h.imp fun n e => n (inj _ _ e))
def KnEnt (H : Hp) (kv : Key × V) (e : Str × List Str) : Prop := kv.1 = Sum.inr e.1 ∧ ∃ l, kv.2 = .ref l ∧ H l = some (.tup (e.2.map V.str))
theorem KnEnt.same {H H' : Hp} (s : Same H H') {v : Key × V} {p : Str × List Str} (h : KnEnt H v p) : KnEnt H' v p := by
  obtain ⟨e, l, e2, h2⟩ := h
  exact ⟨e, l, e2, s _ _ h2⟩
theorem sw_known {K : PySem.W.Frag} {H : Hp} : ∀ {vs : List V} {sws : Sws}, Paired (SwEnt .tup H) vs sws → ∃ ps kvs, vs = ps.map V.ref ∧ Paired (fun p kv => SqT K H p [kV kv.1, kv.2]) ps kvs ∧ Paired (KnEnt H) kvs sws
  | _, _, .nil => ⟨[], [], rfl, .nil, .nil⟩
  | _, _, .cons (a := x) (b := s) r t => by
    obtain ⟨ps, kvs, e, h1, h2⟩ := sw_known (K := K) t
    obtain ⟨a, l, e1, h3, h4⟩ := r
    exact ⟨a :: ps, (.inr s.1, .ref l) :: kvs, by rw [e, e1]; rfl, .cons (.inl (.inl h3)) h1, .cons ⟨rfl, l, rfl, h4⟩ h2⟩
theorem dp_strs {K : PySem.W.Frag} {H : Hp} : ∀ xs : List Str, DpAll K H (xs.map V.str) (xs.map PyData.str)
  | [] => .nil
  | x :: xs => .cons (.str x) (dp_strs xs)
theorem letters_ok : ∀ c ∈ letters.cps.toList, c < 0x110000 := by decide
theorem strOk_of {x : Str} (h : ∀ c ∈ x.cps.toList, c < 0x110000) : PyData.strOk x = true := by
  show x.cps.all _ = true
  rw [← Array.all_toList, List.all_eq_true]
  exact fun c hc => decide_eq_true (h c hc)
theorem Word.strOk {x : Str} (h : Word x) : PyData.strOk x = true := strOk_of fun c hc => letters_ok c (h.ok c hc)
theorem strs_shaped {xs : List Str} (h : ∀ x ∈ xs, PyData.strOk x = true) : SeqAt.shaped (.list (xs.map PyData.str)) = true := by
  refine shaped_mk (lay_all PyData.str xs h) ?_
  show PyData.depthAll (xs.map PyData.str) + 1 ≤ 64
  have := depth_all PyData.str 0 xs fun x _ => Nat.le_refl _
  omega
def spTerms (K : PySem.W.Frag) : Sp := fun vs H Q _ => ∃ (p rd : Addr) (sws r : Sws), vs = [.ref p, .ref rd] ∧ PanAt K H p sws ∧ GoodSw sws ∧ RuleAt H (.ref rd) r ∧ GoodRule sws r ∧ ∀ H', Same H H' → Q (.bl true) H'
def spCopied : Sp := fun vs H Q _ => ∃ (p rd : Addr) (sws r : Sws), vs = [.ref p, .ref rd] ∧ RuleAt H (.ref rd) r ∧ GoodRule sws r ∧ ∀ H' f, Same H H' → RuleAt H' (.ref f) r → Q (.ref f) H'
section
variable {P : Program} {w : World} {K : PySem.W.Frag} {mg : Str → Option Value} {base : Heap}
theorem ok_are_terms (T : Txt K mg) : OkM P w K mg base CX0 1 "Panel" "are_terms" ["self", "terms"] (spTerms K) := by
  obtain ⟨fd, F⟩ := T.f_Panel_are_terms
  refine ⟨⟨fd, ?_, F.bindsN fun _ _ _ _ _ _ us hl => match us, hl with | [_, _], _ => rfl⟩, T.c_Panel, T.m_Panel_are_terms⟩
  refine F.ok sc_Panel_are_terms (fun vs H Q E h => ?_) (fun cdv A outer s H vs Q E hr h => ?_)
  · obtain ⟨_, _, _, _, rfl, _⟩ := h
    rfl
  · obtain ⟨p, rd, sws, r, rfl, ⟨dx, fs, d, hp, hdi, _, _, _, _, vs, hd, hvs⟩, hx, ⟨rd', rk, er, hrd, hrk⟩, hg, q⟩ := h
    cases er
    have nd := sc_Panel_are_terms.nd
    have hu := hu_of hr
    obtain ⟨ps, kvs, evs, hps, hkn⟩ := sw_known (K := K) hvs
    have hkk : kvs.map (·.1) = (sws.map (·.1)).map (Sum.inr : Str → Key) := pkeys (fun _ _ e => e.1) hkn
    have hmerge : mergeK [] kvs = kvs := merge_nil (by rw [hkk]; exact nodup_map inr_inj hx.nd)
    refine ⟨_, PSs.nox (pss_cons (ps_sv 2 nd (pe_callTy (call_dictP rfl) (by rfl) T.b_dict (by decide +kernel) (pa_cons (pe_fld (pv 0) rfl) pa_nil)))
      (pss_cons (ps_lock (ps_for PassesOwn.never rfl (pi_items (pv 1)) (pg_tup (by rfl) (pgs_cons (pg_nm 3 nd) (pgs_cons (pg_nm 4 nd) pgs_nil)))
        (pss_cons (ps_if (PW.pt (pw_or (pt_cmp (pc_dnotin hu (pv 3) (pv 2))) (pw_or (pt_not (pt_val (pe_callB call_isi (by rfl) T.b_isinstance (by decide +kernel) (pa_cons (pv 4) (pa_cons (pe_bltn (v := .ty "list") (by rfl) T.b_list (by decide +kernel) rfl) pa_nil))))) (pw_or1 (pt_cmpR (op_eqD hr.units) (pv 4) (pe_lst pa_nil) (nomark _)))))) (pss_one (ps_ret pe_bl)) pss_nil)
        (pss_one (ps_for PassesOwn.never rfl (pi_enum (by rfl) T.b_enumerate (pa_cons (pv 4) pa_nil)) (pg_tup (by rfl) (pgs_cons (pg_nm 5 nd) (pgs_cons (pg_nm 6 nd) pgs_nil)))
          (pss_one (ps_if (PW.pt (pw_or (pt_cmpR op_notIn_seq (pv 6) (pe_dget hu (pv 2) (pv 3) (fun _ _ => rfl)) rfl) (pw_or1 (pt_cmpR op_in_seq (pv 6) (pe_slice sl_list (pv 4) po_none (po_some (pv 5))) rfl)))) (pss_one (ps_ret pe_bl)) pss_nil)))))))
      (pss_one (ps_ret pe_bl)))), ?_⟩
    refine ⟨_, rfl, p, _, dx, fs, _, rfl, hp, T.c_Panel, T.a_Panel_dials, hdi, d, ps, kvs, rfl, by rw [← evs]; exact .inl (.inl hd), hps, fun kd nk => ?_⟩
    rw [hmerge]
    have s0 : Same H (upd H kd (.dK kvs)) := same_upd nk
    have hrd0 := s0 _ _ hrd
    refine ⟨rd, .dK rk, hrd0, trivial, fun od => ?_⟩
    obtain ⟨HL, eHL⟩ : ∃ HL, HL = upd (upd H kd (.dK kvs)) rd (.frz od (.dK rk)) := ⟨_, rfl⟩
    have hne : kd ≠ rd := (ne_of_none hrd nk).symm
    have hkd : HL kd = some (.dK kvs) := by rw [eHL, upd_ne hne, upd_same]
    have keep : ∀ {c o}, H c = some o → o ≠ .dK rk → HL c = some o := fun h n => by rw [eHL]; exact lock_ne hrd0 (s0 _ _ h) n
    rw [← eHL]
    refine ⟨_, rfl, rd, od, rk, rfl, by rw [eHL, upd_same], for_it walk_items (fun i σ H' => Same HL H' ∧ ∃ v3 v4 v5 v6, σ = [some (.ref p), some (.ref rd), some (.ref kd), v3, v4, v5, v6]) ⟨Same.refl _, none, none, none, none, rfl⟩ (fun i σ H' _ ⟨e, _⟩ => e _ _ (by rw [eHL, upd_same])) ?_ ?_⟩
    · rintro i x σ H1 H' hi ⟨s1, v3, v4, v5, v6, rfl⟩ ⟨U, x, y, rfl, nU, rfl, hx1, hy⟩
      obtain ⟨kv, hkv, rfl⟩ := Option.map_eq_some_iff.mp hx1
      obtain ⟨kv2, hkv2, rfl⟩ := Option.map_eq_some_iff.mp hy
      rw [hkv] at hkv2
      obtain rfl := Option.some.inj hkv2
      obtain ⟨e, he, ek, le, ev, hle⟩ := pget hrk hkv
      rw [ek, ev]
      have hem := List.mem_of_getElem? he
      obtain ⟨st, hst, hne0, hnd, hsub, hl4⟩ := hg.ok e hem
      have hU : Same H1 (upd H1 U (.tup [.str e.1, .ref le])) := same_upd nU
      have s2 : Same HL (upd H1 U (.tup [.str e.1, .ref le])) := s1.trans hU
      have hleL : HL le = some (.lst (e.2.map V.str)) := keep hle (fun z => by cases z)
      obtain ⟨lk, hlk, hval⟩ : ∃ lk, H lk = some (.tup (st.map V.str)) ∧ valV kvs (.inr e.1) = some (.ref lk) := by
        rcases pair_look Sum.inr inr_inj (fun _ _ z => z.1) e.1 hkn with ⟨z, _⟩ | ⟨b, v, h1, h2, _, l, h3, h4⟩
        · rw [hst] at z; cases z
        · rw [hst] at h1
          obtain rfl := Option.some.inj h1
          exact ⟨l, h4, by rw [h2]; exact congrArg some h3⟩
      have hget : ∀ {G}, Same HL G → DGet G kd (.str e.1) (some (.ref lk)) := fun s => by
        have := DGet.k (k := .inr e.1) (s _ _ hkd)
        rw [hval] at this
        exact this
      have hlkL : HL lk = some (.tup (st.map V.str)) := keep hlk (fun z => by cases z)
      have hwd : ∀ x ∈ e.2, Word x := fun x hxm => (hx.st _ (look_some hst)).wd x (hsub x hxm)
      refine ⟨U, _, rfl, .inl (.inl upd_same), rfl, .str e.1, [.ref le], rfl, .ref le, [], rfl, rfl, ?_⟩
      dsimp only [tSeq]
      refine if_s (a := false) (fun Q h => or_s (a := false) (b := false) (fun Q h => ?_) (fun _ H2 Q s4 h => or_s (a := false) (b := false) (fun Q h => ?_) (fun _ H3 Q s5 h => ?_) (fun H' s => h H' (s4.trans s))) h) (fun z => by cases z) (fun _ H2 s4 => ?_)
      · exact ⟨_, rfl, _, rfl, kd, _, rfl, hget s2, false, rfl, h _ (Same.refl _)⟩
      · exact ⟨_, rfl, _, _, _, _, true, rfl, .ty "list", .base (.lst ((s2.trans s4) _ _ hleL)), kit_ty (by decide +kernel), _, rfl, h _ (Same.refl _)⟩
      · refine ⟨_, rfl, Nat.zero_le _, fun z nz => ⟨.list (e.2.map .str), .list [], .lst (.inl (.inl ((same_upd nz) _ _ ((s2.trans (s4.trans s5)) _ _ hleL)))) (dp_strs _), .lst (.inl (.inl upd_same)) .nil, strs_shaped fun x hxm => (hwd x hxm).strOk, strs_shaped (xs := []) (fun x hxm => by cases hxm), false, ?_, h _ (s5.trans (same_upd nz))⟩⟩
        cases e2 : e.2 with
        | nil => exact absurd e2 hne0
        | cons a r => rfl
      · have s6 : Same HL H2 := s2.trans s4
        refine ⟨_, rfl, le, _, rfl, .inl (.inl (s6 _ _ hleL)), for_it walk_enum (fun j σ H' => Same HL H' ∧ ∃ v5 v6, σ = [some (.ref p), some (.ref rd), some (.ref kd), some (.str e.1), some (.ref le), v5, v6]) ⟨s6, v5, v6, rfl⟩ (fun j σ H' _ ⟨z, _⟩ => .inl (.inl (z _ _ hleL))) ?_ ?_⟩
        · rintro j x σ H3 H4 hj ⟨s7, v5', v6', rfl⟩ ⟨W, x, y, rfl, nW, rfl, hx1, hy⟩
          obtain rfl : x = V.int ((j : Nat) : Int) := (Option.some.inj hx1).symm
          obtain ⟨z, hz, rfl⟩ := map_get hy
          have s8 : Same HL (upd H3 W (.tup [.int ((j : Nat) : Int), .str z])) := s7.trans (same_upd nW)
          refine ⟨W, _, rfl, .inl (.inl upd_same), rfl, .int ((j : Nat) : Int), [.str z], rfl, .str z, [], rfl, rfl, ?_⟩
          refine if_s (a := false) (fun Q h => or_s (a := false) (b := false) (fun Q h => ?_) (fun _ H5 Q s9 h => ?_) h) (fun z => by cases z) (fun _ H5 s9 => ⟨s8.trans s9, _, _, rfl⟩)
          · refine ⟨_, rfl, _, rfl, _, rfl, kd, _, rfl, hget s8, lk, _, rfl, .inr (.inl (.inl (s8 _ _ hlkL))), rfl, flat_strs _, false, ?_, h _ (Same.refl _)⟩
            rw [inV_str, decide_eq_true (hsub z (List.mem_of_getElem? hz))]; rfl
          · refine ⟨_, rfl, _, rfl, _, rfl, _, rfl, le, _, rfl, .inl (.inl ((s8.trans s9) _ _ hleL)), fun r nr => ⟨r, _, rfl, .inl (.inl (.inl upd_same)), rfl, ?_, false, ?_, h _ (s9.trans (same_upd nr))⟩⟩
            · rw [cut_take, ← List.map_take]
              exact flat_strs _
            · rw [cut_take, ← List.map_take, inV_str, decide_eq_false (nodup_take hnd hz)]; rfl
        · rintro σ H3 ⟨s7, v5', v6', rfl⟩
          exact ⟨s7, _, _, _, _, rfl⟩
    · rintro σ H' ⟨s1, v3, v4, v5, v6, rfl⟩
      rw [eHL] at s1
      exact ⟨s1 _ _ upd_same, q _ (s0.trans (unlock hrd0 s1))⟩
theorem ok_copied_terms (T : Txt K mg) : OkM P w K mg base CX0 1 "Panel" "copied_terms" ["self", "terms"] spCopied := by
  obtain ⟨fd, F⟩ := T.f_Panel_copied_terms
  refine ⟨⟨fd, ?_, F.bindsN fun _ _ _ _ _ _ us hl => match us, hl with | [_, _], _ => rfl⟩, T.c_Panel, T.m_Panel_copied_terms⟩
  refine F.ok sc_Panel_copied_terms (fun vs H Q E h => ?_) (fun cdv A outer s H vs Q E hr h => ?_)
  · obtain ⟨_, _, _, _, rfl, _⟩ := h
    rfl
  · obtain ⟨p, rd, sws, r, rfl, ⟨rd', rk, er, hrd, hrk⟩, hg, q⟩ := h
    cases er
    have nd := sc_Panel_copied_terms.nd
    have hu := hu_of hr
    refine ⟨_, PSs.nox (pss_cons (ps_sv 2 nd pe_dnewK)
      (pss_cons (ps_lock (ps_for PassesOwn.never rfl (pi_items (pv 1)) (pg_tup (by rfl) (pgs_cons (pg_nm 3 nd) (pgs_cons (pg_nm 4 nd) pgs_nil)))
        (pss_one (ps_dput hu (pv 2) (pv 3) (pe_callTy call_list_of (by rfl) T.b_list (by decide +kernel) (pa_cons (pv 4) pa_nil)) rfl))))
      (pss_one (ps_ret (pv 2))))), ?_⟩
    intro f nf
    have s0 : Same H (upd H f (.dK [])) := same_upd nf
    have hrd0 := s0 _ _ hrd
    refine ⟨rd, .dK rk, hrd0, trivial, fun od => ?_⟩
    obtain ⟨HL, eHL⟩ : ∃ HL, HL = upd (upd H f (.dK [])) rd (.frz od (.dK rk)) := ⟨_, rfl⟩
    obtain ⟨H0, eH0⟩ : ∃ H0, H0 = upd H rd (.frz od (.dK rk)) := ⟨_, rfl⟩
    have hne : f ≠ rd := (ne_of_none hrd nf).symm
    have hf0 : H0 f = none := by rw [eH0, upd_ne hne]; exact nf
    have hHL : HL = upd H0 f (.dK []) := by
      rw [eHL, eH0]
      funext b
      by_cases h1 : b = rd
      · subst h1; rw [upd_same, upd_ne hne.symm, upd_same]
      · by_cases h2 : b = f
        · subst h2; rw [upd_ne h1, upd_same, upd_same]
        · rw [upd_ne h1, upd_ne h2, upd_ne h2, upd_ne h1]
    rw [← eHL, hHL]
    have hlen : rk.length = r.length := hrk.length
    refine ⟨_, rfl, rd, od, rk, rfl, by rw [upd_ne hne.symm, eH0, upd_same], for_it walk_items (fun i σ H' => Same H0 (del H' f) ∧ (∃ acc, H' f = some (.dK acc) ∧ Paired (RuEnt (del H' f)) acc (r.take i)) ∧ ∃ v3 v4, σ = [some (.ref p), some (.ref rd), some (.ref f), v3, v4]) ⟨by rw [del_upd, del_none hf0]; exact Same.refl _, ⟨[], upd_same, .nil⟩, none, none, rfl⟩ (fun i σ H' _ ⟨e, _⟩ => del_sub _ _ (e _ _ (by rw [eH0, upd_same]))) ?_ ?_⟩
    · rintro i x σ H1 H' hi ⟨s1, ⟨acc, hf, hacc⟩, v3, v4, rfl⟩ ⟨U, x, y, rfl, nU, rfl, hx1, hy⟩
      obtain ⟨kv, hkv, rfl⟩ := Option.map_eq_some_iff.mp hx1
      obtain ⟨kv2, hkv2, rfl⟩ := Option.map_eq_some_iff.mp hy
      rw [hkv] at hkv2
      obtain rfl := Option.some.inj hkv2
      obtain ⟨e, he, ek, le, ev, hle⟩ := pget hrk hkv
      rw [ek, ev]
      have e2 : r.take (i + 1) = r.take i ++ [e] := by rw [List.take_add_one, he]; rfl
      have hU : Same H1 (upd H1 U (.tup [.str e.1, .ref le])) := same_upd nU
      have hle1 : H1 le = some (.lst (e.2.map V.str)) := del_sub _ _ (s1 _ _ (by rw [eH0]; exact lock_ne hrd hle (fun z => by cases z)))
      have hnew : valV acc (.inr e.1) = none := by
        rcases pair_look Sum.inr inr_inj (fun _ _ z => z.1) e.1 hacc with ⟨_, z⟩ | ⟨b, v, h1, _⟩
        · exact z
        · exfalso
          have h3 := List.mem_map_of_mem (f := (·.1)) (look_some h1)
          rw [List.map_take] at h3
          exact nodup_take hg.nd (by rw [List.getElem?_map, he]; rfl) h3
      refine ⟨U, _, rfl, .inl (.inl upd_same), rfl, .str e.1, [.ref le], rfl, .ref le, [], rfl, rfl, ?_⟩
      refine ⟨_, rfl, le, _, rfl, .inl (.inl (.inl (hU _ _ hle1))), fun L nL => ?_⟩
      have hL : Same (upd H1 U (.tup [.str e.1, .ref le])) (upd (upd H1 U (.tup [.str e.1, .ref le])) L (.lst (e.2.map V.str))) := same_upd nL
      have sA := hU.trans hL
      have hf2 := sA _ _ hf
      have hlt : acc.length < sizeLine := by
        have h1 := hacc.length
        rw [List.length_take] at h1
        have := hg.le
        exact small1000 (by omega)
      refine ⟨_, rfl, _, rfl, f, _, rfl, DPut.k (k := .inr e.1) hf2 hlt, ?_⟩
      rw [putK_new _ hnew]
      have hLf : L ≠ f := (ne_of_none (hU _ _ hf) nL).symm
      refine ⟨by rw [del_upd]; exact s1.trans (del_mono sA), ⟨_, upd_same, ?_⟩, _, _, rfl⟩
      rw [del_upd, e2]
      exact papp (pmap hacc fun _ _ z => z.same (del_mono sA)) (.cons ⟨rfl, L, rfl, by rw [del_ne hLf, upd_same]⟩ .nil)
    · rintro σ H' ⟨s1, ⟨acc, hf, hacc⟩, v3, v4, rfl⟩
      rw [hlen, List.take_length] at hacc
      have hz := s1 rd _ (by rw [eH0, upd_same])
      rw [del_ne hne.symm] at hz
      have hF : upd H' rd (.dK rk) f = some (.dK acc) := by rw [upd_ne hne]; exact hf
      rw [eH0] at s1
      have s9 : Same H (upd H' rd (.dK rk)) := unlock hrd (s1.trans del_sub)
      refine ⟨hz, _, rfl, q _ f s9 ⟨f, acc, rfl, hF, pmap hacc fun kv e z => ?_⟩⟩
      obtain ⟨z1, l, z2, z3⟩ := z
      refine ⟨z1, l, z2, ?_⟩
      have h1 := del_sub _ _ z3
      have h2 : l ≠ rd := fun y => by rw [y, hz] at h1; cases h1
      rw [upd_ne h2]
      exact h1
end
end ML

set_option Elab.async false
set_option linter.all false
set_option maxRecDepth 100000
set_option maxHeartbeats 4000000
namespace ML
open PySem PySem.Spec PyProof.Rows L2 MM
theorem walk_range0 {n : Nat} : Walk (Itr 0 n) n (fun _ => True) (YFn fun i => .int ((i : Nat) : Int)) := walk_range.mono (fun _ h => h) fun i H x H' _ _ y => ⟨y.1, y.2.trans (congrArg V.int (Int.zero_add _))⟩
theorem yes_t {σ : L2.St} {H : Hp} {Q : Bool → Hp → Prop} (h : Q true H) : tYes σ H Q := h
theorem ins_len (sws r : Sws) (n : Nat) : (insL sws r n).length = sws.length := by
  unfold insL
  rw [List.length_zipWith, digs_len, Nat.min_self]
theorem insL_get {sws r : Sws} {n k d : Nat} {s : Str × List Str} (hs : sws[k]? = some s) (hd : (digs sws n).1[k]? = some d) : (insL sws r n)[k]? = some (decide (setAt s d ∈ (look r s.1).getD s.2)) := by
  unfold insL
  rw [List.getElem?_zipWith, hs, hd]
theorem told_get {sws : Sws} {n k d : Nat} {s : Str × List Str} (hs : sws[k]? = some s) (hd : (digs sws n).1[k]? = some d) : (told sws n)[k]? = some (setAt s d) := by
  unfold told
  rw [List.getElem?_zipWith, hs, hd]
theorem digs_get {sws : Sws} {n k : Nat} {s : Str × List Str} (hs : sws[k]? = some s) : ∃ d, (digs sws n).1[k]? = some d := by
  have : k < (digs sws n).1.length := by
    rw [digs_len]
    exact (List.getElem?_eq_some_iff.mp hs).1
  exact ⟨_, List.getElem?_eq_getElem this⟩
/-- the numbers in a box -/
def boxP (sws r : Sws) (i n : Nat) : Bool := decide (n < i) && ins sws r n
theorem bit_or (S i n : Nat) : (S ||| 2 ^ i).testBit n = (S.testBit n || decide (n = i)) := by
  rw [Nat.testBit_or, Nat.testBit_two_pow]
  by_cases h : i = n
  · subst h; simp
  · have : ¬ n = i := fun e => h e.symm
    simp [h, this]
theorem box_step {sws r : Sws} {i S : Nat} (h : ∀ n, S.testBit n = boxP sws r i n) (n : Nat) : (if ins sws r i = true then S ||| 2 ^ i else S).testBit n = boxP sws r (i + 1) n := by
  unfold boxP at h ⊢
  by_cases hi : ins sws r i = true
  · rw [if_pos hi, bit_or, h n]
    by_cases h1 : n = i
    · subst h1; simp [hi]
    · by_cases h2 : n < i
      · have : n < i + 1 := by omega
        simp [h1, h2, this]
      · have : ¬ n < i + 1 := by omega
        simp [h1, h2, this]
  · rw [if_neg hi, h n]
    by_cases h1 : n = i
    · subst h1
      have : ins sws r n = false := by simpa using hi
      simp [this]
    · by_cases h2 : n < i
      · have : n < i + 1 := by omega
        simp [h2, this]
      · have : ¬ n < i + 1 := by omega
        simp [h2, this]
def spBox (K : PySem.W.Frag) : Sp := fun vs H Q _ => ∃ (p rd : Addr) (sws r : Sws), vs = [.ref p, .ref rd] ∧ PanAt K H p sws ∧ GoodSw sws ∧ RuleAt H (.ref rd) r ∧ GoodRule sws r ∧
  ∀ H' (S : Nat), Same H H' → (∀ n, S.testBit n = boxP sws r (tot sws) n) → Q (.int (S : Int)) H'
section
variable {P : Program} {w : World} {K : PySem.W.Frag} {mg : Str → Option Value} {base : Heap}
theorem ok_box (T : Txt K mg) : OkM P w K mg base CX0 3 "Panel" "box" ["self", "terms"] (spBox K) := by
  obtain ⟨fd, F⟩ := T.f_Panel_box
  have O_Panel_are_terms := ok_are_terms (P := P) (w := w) (base := base) T
  have O_Panel_told := ok_told (P := P) (w := w) (base := base) T
  refine ⟨⟨fd, ?_, F.bindsN fun _ _ _ _ _ _ us hl => match us, hl with | [_, _], _ => rfl⟩, T.c_Panel, T.m_Panel_box⟩
  refine F.ok sc_Panel_box (fun vs H Q E h => ?_) (fun cdv A outer s H vs Q E hr h => ?_)
  · obtain ⟨_, _, _, _, rfl, _⟩ := h
    rfl
  · obtain ⟨p, rd, sws, r, rfl, hpan, hx, hrule, hg, q⟩ := h
    have hpan0 := hpan
    have hrule0 := hrule
    obtain ⟨dx, fs, d, hp, hdi, hto, m1, m2, m3, vs, hd, hvs⟩ := hpan
    obtain ⟨rd', rk, er, hrd, hrk⟩ := hrule
    cases er
    have nd := sc_Panel_box.nd
    have hu := hu_of hr
    have hmost := hx.most
    have hlen : vs.length = sws.length := hvs.length
    refine ⟨_, PSs.nox (pss_cons (ps_if (PW.pt (pw_or (pt_not (pt_val (pe_callB call_isi (by rfl) T.b_isinstance (by decide +kernel) (pa_cons (pv 1) (pa_cons (pe_bltn (v := .ty "dict") (by rfl) T.b_dict (by decide +kernel) rfl) pa_nil))))) (pw_or1 (pt_not (pt_val (pe_methD (pv 0) O_Panel_are_terms hr pass0 (pa_cons (pv 1) pa_nil))))))) pss_never pss_nil)
      (pss_cons (ps_sv 2 nd pe_int)
      (pss_cons (ps_for PassesOwn.never rfl (pi_range1 (by rfl) T.b_range (pa_cons (pe_fld (pv 0) rfl) pa_nil)) (pg_nm 3 nd)
        (pss_cons (ps_sv 4 nd (pe_methD (pv 0) O_Panel_told hr pass0 (pa_cons (pv 3) pa_nil)))
        (pss_one (ps_if (pt_val (pe_callB (cr_all rfl) (by rfl) T.b_all (by decide +kernel) (pa_cons (pe_lc (g := gTup K 2 (gCons (gName 5) (gCons (gName 6) gNil))) (own := [("k", 5), ("dial", 6)]) (by rfl) nd (pi_enum (by rfl) T.b_enumerate (pa_cons (pe_fld (pv 0) rfl) pa_nil)) (blkOk_by (own := [("k", 5), ("dial", 6)]) (N := n_Panel_box) (sc := defScope s_Panel_box) (by decide +kernel)) (fun _ _ _ _ _ => (pg_tup (by rfl) (pgs_cons (pg_nm 5 nd) (pgs_cons (pg_nm 6 nd) pgs_nil)))) (fun _ _ _ _ _ => pts_nil) (fun _ _ _ _ _ => (pe_cmpR (op_in_seqK K) (pe_ix (ix_tupK K) (pv 4) (pv 5) (fun _ _ => rfl)) (pe_dget2 hu (pv 1) (pe_ix (ix_tupK K) (pv 6) pe_int (fun _ _ => rfl)) (pe_ix (ix_tupK K) (pv 6) pe_int (fun _ _ => rfl)) ⟨rfl, rfl, rfl, rfl⟩) rfl))) pa_nil))) (pss_one (ps_sv 2 nd (pe_op op_or (pv 2) (pe_op op_shl pe_int (pv 3))))) pss_nil))))
      (pss_one (ps_ret (pv 2)))))), ?_⟩
    dsimp only [tSeq]
    refine if_s (a := false) (fun Q h => or_s (a := false) (b := false) (fun Q h => ?_) (fun _ H2 Q s4 h => ?_) h) (fun z => by cases z) (fun _ H2 s2 => ?_)
    · exact ⟨_, rfl, _, _, _, _, true, rfl, .ty "dict", .base (.dK hrd), kit_ty (by decide +kernel), _, rfl, h _ (Same.refl _)⟩
    · exact ⟨_, rfl, p, dx, fs, rfl, s4 _ _ hp, m1, _, rfl, p, rd, sws, r, rfl, hpan0.same s4, hx, hrule0.same s4, hg, fun H3 s5 => ⟨_, rfl, h _ (s4.trans s5)⟩⟩
    · refine ⟨_, rfl, p, _, dx, fs, _, rfl, s2 _ _ hp, T.c_Panel, T.a_Panel_total, hto, ?_⟩
      have hn : ((tot sws : Nat) : Int).toNat = tot sws := Int.toNat_natCast _
      refine ⟨_, rfl, by omega, by omega, for_it walk_range0 (fun i σ H' => Same H H' ∧ ∃ (S : Nat) (v3 v4 v5 v6 : Option V), σ = [some (.ref p), some (.ref rd), some (.int (S : Int)), v3, v4, v5, v6] ∧ ∀ n, S.testBit n = boxP sws r i n) ⟨s2, 0, none, none, none, none, rfl, fun n => by unfold boxP; simp⟩ (fun _ _ _ _ _ => trivial) ?_ ?_⟩
      · rintro i x σ H1 H' hi ⟨s1, S, v3, v4, v5, v6, rfl, hS⟩ ⟨rfl, hxx⟩
        subst hxx
        rw [hn] at hi
        refine ⟨_, rfl, p, dx, fs, rfl, s1 _ _ hp, m3, _, rfl, p, i, sws, rfl, hpan0.same s1, hx, hi, fun H3 t s3 ht => ?_⟩
        have sA : Same H H3 := s1.trans s3
        dsimp only [gName]
        refine if_s (a := ins sws r i) (fun Q h => ?_) (fun hb H4 s4 => ?_) (fun hb H4 s4 => ?_)
        · refine ⟨_, rfl, p, _, dx, fs, _, rfl, sA _ _ hp, T.c_Panel, T.a_Panel_dials, hdi, d, vs, rfl, .inl (.inl (sA _ _ hd)), fun D nD => ?_⟩
          refine lc_gen walk_enum (fun _ => true) (fun k _ y => y = .bl ((insL sws r i).getD k false)) (by rw [hlen]; have := hx.l5; omega) nD (fun _ _ _ _ _ z => z) (fun G sG => .inl (.inl ((sA.trans sG) _ _ hd))) ?_ ?_
          · rintro k x G G' N no yes hk sG _ ⟨U, x, y, rfl, nU, rfl, hx1, hy⟩
            obtain rfl : x = V.int ((k : Nat) : Int) := (Option.some.inj hx1).symm
            obtain ⟨sw, hsw, a, l, rfl, ha, hl⟩ := pget hvs hy
            obtain ⟨dg, hdg⟩ := digs_get (n := i) hsw
            have sGG : Same H (upd G U (.tup [.int ((k : Nat) : Int), .ref a])) := (sA.trans (sG.trans del_sub)).trans (same_upd nU)
            refine ⟨U, _, rfl, .inl (.inl upd_same), rfl, .int ((k : Nat) : Int), [.ref a], rfl, .ref a, [], rfl, rfl, rfl, ?_⟩
            have ht' : SqT K (upd G U (.tup [.int ((k : Nat) : Int), .ref a])) t ((told sws i).map V.str) := .inl (.inl ((same_upd nU) _ _ ((sG.trans del_sub) _ _ ht)))
            have hta : atI ((told sws i).map V.str) ((k : Nat) : Int) = some (.str (setAt sw dg)) := by
              rw [atI_nat (by rw [List.length_map, told_len]; exact (List.getElem?_eq_some_iff.mp hsw).1), List.getElem?_map, told_get hsw hdg]; rfl
            have hin : (insL sws r i).getD k false = decide (setAt sw dg ∈ (look r sw.1).getD sw.2) := by
              rw [List.getD_eq_getElem?_getD, insL_get hsw hdg]; rfl
            have hrdG := sGG _ _ hrd
            refine yes_t ?_
            refine iteT ⟨_, rfl, _, rfl, t, _, _, _, rfl, rfl, ht', hta, _, rfl, rd, rfl, .inl ⟨rk, .inl hrdG⟩, _, rfl, a, _, 0, _, rfl, rfl, .inl (.inl (sGG _ _ ha)), rfl, _, rfl, a, _, 1, _, rfl, rfl, .inl (.inl (sGG _ _ ha)), rfl, valV rk (.inr sw.1), DGet.k (k := .inr sw.1) hrdG, ?_⟩
            have fin := yes rfl
            rcases pair_look Sum.inr inr_inj (fun _ _ z => z.1) sw.1 hrk with ⟨z1, z2⟩ | ⟨b, v, z1, z2, _, l', z3, z4⟩
            · rw [z2]
              refine ⟨l, _, rfl, .inr (.inl (.inl (sGG _ _ hl))), rfl, flat_strs _, fin _ _ (same_upd nU) ?_⟩
              rw [hin, z1, inV_str]; rfl
            · rw [z2, show v = .ref l' from z3]
              refine ⟨l', _, rfl, .inl (.inl (.inl (sGG _ _ z4))), rfl, flat_strs _, fin _ _ (same_upd nU) ?_⟩
              rw [hin, z1, inV_str]; rfl
          · intro G ys sG hD hys
            have e1 : ys = (insL sws r i).map V.bl := by
              have := paired_map (f := fun k => V.bl ((insL sws r i).getD k false)) hys
              rw [this, filter_true, hlen, ← ins_len sws r i]
              have e2 := range_get (insL sws r i) false
              have e3 : List.map V.bl ((List.range (insL sws r i).length).map fun k => (insL sws r i).getD k false) = (insL sws r i).map V.bl := by rw [e2]
              rw [List.map_map] at e3
              exact e3
            exact ⟨D, insL sws r i, rfl, .inl (.inl (by rw [hD, e1])), ins sws r i, rfl, h G (sG.trans del_sub)⟩
        · refine ⟨_, rfl, _, rfl, _, _, rfl, rfl, ⟨by omega, by omega, by decide⟩, _, _, rfl, rfl, sA.trans s4, S ||| 2 ^ i, some (.int ((i : Nat) : Int)), some (.ref t), v5, v6, ?_, fun n => ?_⟩
          · dsimp only
            rw [Int.toNat_natCast, Int.one_mul, show (2 : Int) ^ i = ((2 ^ i : Nat) : Int) from by rw [Int.natCast_pow]; rfl, or_nat]
            rfl
          · have := box_step hS n
            rw [if_pos hb] at this
            exact this
        · refine ⟨sA.trans s4, S, _, _, _, _, rfl, fun n => ?_⟩
          have := box_step hS n
          rw [if_neg (by rw [hb]; decide)] at this
          exact this
      · rintro σ H' ⟨s1, S, v3, v4, v5, v6, rfl, hS⟩
        rw [hn] at hS
        exact ⟨_, rfl, q H' S s1 hS⟩
end
end ML

set_option Elab.async false
set_option linter.all false
set_option maxRecDepth 100000
set_option maxHeartbeats 4000000
namespace ML
open PySem PySem.Spec PyProof.Rows L2 MM
structure GoodRules (sws : Sws) (rs : List Sws) : Prop where
  le : rs.length ≤ 8
  ok : ∀ r ∈ rs, GoodRule sws r
theorem paired_mem {α β : Type} {F G : α → β → Prop} : ∀ {l1 : List α} {l2 : List β}, Paired F l1 l2 → (∀ x y, y ∈ l2 → F x y → G x y) → Paired G l1 l2
  | _, _, .nil, _ => .nil
  | _, _, .cons r t, h => .cons (h _ _ List.mem_cons_self r) (paired_mem t fun x y hy => h x y (List.mem_cons_of_mem _ hy))
theorem rule_del {H : Hp} {g f : Addr} {r : Sws} {ws : List V} (h : RuleAt H (.ref g) r) (hf : H f = some (.lst ws)) (hw : ∀ v ∈ ws, ∃ a, v = V.ref a) (hne : ∀ e ∈ r, e.2 ≠ []) : RuleAt (del H f) (.ref g) r := by
  obtain ⟨d, kvs, e, h1, h2⟩ := h
  cases e
  refine ⟨g, kvs, rfl, by rw [del_ne (ne_of h1 hf (by intro z; cases z))]; exact h1, paired_mem h2 fun kv e he z => ?_⟩
  obtain ⟨z1, l, z2, z3⟩ := z
  refine ⟨z1, l, z2, ?_⟩
  have : l ≠ f := fun q => by
    rw [q, hf] at z3
    have z4 : ws = e.2.map V.str := by cases z3; rfl
    cases e3 : e.2 with
    | nil => exact hne e he e3
    | cons a b =>
      rw [e3] at z4
      obtain ⟨x, hx⟩ := hw (.str a) (by rw [z4]; simp)
      cases hx
  rw [del_ne this]
  exact z3
def spToldR (K : PySem.W.Frag) : Sp := fun vs H Q _ => ∃ (p rl : Addr) (sws : Sws) (rs : List Sws), vs = [.ref p, .ref rl] ∧ PanAt K H p sws ∧ GoodSw sws ∧ RulesAt H rl rs ∧ GoodRules sws rs ∧ ∀ H' f, Same H H' → RulesAt H' f rs → Q (.ref f) H'
def spPanInit (K : PySem.W.Frag) : Sp := fun vs H Q _ => ∃ (x dx sl rl : Addr) (sws : Sws) (rs : List Sws), vs = [.ref x, .ref sl, .ref rl] ∧ H x = some (.ins (He.ga K "Panel") dx []) ∧ SwAt .lst H sl sws ∧ GoodSw sws ∧ RulesAt H rl rs ∧ GoodRules sws rs ∧
  (∃ n, n < tot sws ∧ barred sws rs n = false) ∧ ∀ H' (F : Nat), Same (del H x) H' → (∀ n, n < tot sws → barred sws rs n = false → F.testBit n = true) → PanelAt K H' x F → Q .non H'
section
variable {P : Program} {w : World} {K : PySem.W.Frag} {mg : Str → Option Value} {base : Heap}
theorem ok_told_rules (T : Txt K mg) : OkM P w K mg base CX0 2 "Panel" "told_rules" ["self", "rules"] (spToldR K) := by
  obtain ⟨fd, F⟩ := T.f_Panel_told_rules
  have O_Panel_are_terms := ok_are_terms (P := P) (w := w) (base := base) T
  have O_Panel_copied_terms := ok_copied_terms (P := P) (w := w) (base := base) T
  obtain ⟨t8, h_MOST_RULES⟩ := T.i_MOST_RULES
  refine ⟨⟨fd, ?_, F.bindsN fun _ _ _ _ _ _ us hl => match us, hl with | [_, _], _ => rfl⟩, T.c_Panel, T.m_Panel_told_rules⟩
  refine F.ok sc_Panel_told_rules (fun vs H Q E h => ?_) (fun cdv A outer s H vs Q E hr h => ?_)
  · obtain ⟨_, _, _, _, rfl, _⟩ := h
    rfl
  · obtain ⟨p, rl, sws, rs, rfl, hpan, hx, ⟨vs, hl, hvs⟩, hg, q⟩ := h
    have hpan0 := hpan
    obtain ⟨dx, fs, d, hp, hdi, hto, m1, m2, m3, _⟩ := hpan
    have nd := sc_Panel_told_rules.nd
    have hu := hu_of hr
    have hu0 := hr.units0
    have hlen : vs.length = rs.length := hvs.length
    have hle := hg.le
    refine ⟨_, PSs.nox (pss_cons (ps_if (PW.pt (pw_or (pt_not (pt_val (pe_callB call_isi (by rfl) T.b_isinstance (by decide +kernel) (pa_cons (pv 1) (pa_cons (pe_bltn (v := .ty "list") (by rfl) T.b_list (by decide +kernel) rfl) pa_nil))))) (pw_or1 (pt_cmpR op_gt (pe_callB call_len_seq (by rfl) T.b_len PySem.boot_len (pa_cons (pv 1) pa_nil)) (pe_glob (v := .int 8) rfl h_MOST_RULES ⟨_, rfl⟩) (nomark _))))) pss_never pss_nil)
      (pss_cons (ps_sv 2 nd (pe_lst pa_nil))
      (pss_cons (ps_for PassesOwn.never rfl (pi_list (pv 1)) (pg_nm 3 nd)
        (pss_cons (ps_if (PW.pt (pw_or (pt_not (pt_val (pe_callB call_isi (by rfl) T.b_isinstance (by decide +kernel) (pa_cons (pv 3) (pa_cons (pe_bltn (v := .ty "dict") (by rfl) T.b_dict (by decide +kernel) rfl) pa_nil))))) (pw_or (pt_cmpR (op_eq_emp hu0) (pv 3) pe_dnewK (nomark _)) (pw_or1 (pt_not (pt_val (pe_methD (pv 0) O_Panel_are_terms hr pass0 (pa_cons (pv 3) pa_nil)))))))) pss_never pss_nil)
        (pss_one (ps_expr (pe_bm PySem.F.plainAttrs_list PySem.F.slot_list_append PySem.F.type_list_append mt_append (pv 2) (pa_cons (pe_methD (pv 0) O_Panel_copied_terms hr pass0 (pa_cons (pv 3) pa_nil)) pa_nil))))))
      (pss_one (ps_ret (pv 2)))))), ?_⟩
    dsimp only [tSeq]
    refine if_t (a := false) (fun Q h => or_t (a := false) (b := false) (fun Q h => ?_) (fun _ Q h => ?_) h) (fun z => by cases z) (fun _ => ?_)
    · exact ⟨_, rfl, _, _, _, _, true, rfl, .ty "list", .base (.lst hl), kit_ty (by decide +kernel), _, rfl, h⟩
    · refine ⟨_, rfl, rl, _, rfl, .inl (.inl (.inl hl)), _, _, rfl, rfl, _, rfl, ?_⟩
      rw [decide_eq_false (show ¬ (8 : Int) < ((vs.length : Nat) : Int) by omega)]
      exact h
    · refine ⟨Nat.zero_le _, fun f nf => ?_⟩
      have hlf : rl ≠ f := ne_of_none hl nf
      refine ⟨_, rfl, rl, rfl, ⟨vs, .inl (.inl (by rw [upd_ne hlf]; exact hl))⟩, for_it walk_list (fun i σ H' => Same H (del H' f) ∧ (∃ ws, H' f = some (.lst ws) ∧ Paired (RuleAt (del H' f)) ws (rs.take i)) ∧ ∃ v3, σ = [some (.ref p), some (.ref rl), some (.ref f), v3]) ⟨by rw [del_upd, del_none nf]; exact Same.refl _, ⟨[], upd_same, .nil⟩, none, rfl⟩ (fun i σ H' _ ⟨e, _⟩ => .inl (.inl (del_sub _ _ (e _ _ hl)))) ?_ ?_⟩
      · rintro i y σ H1 H' hi ⟨s1, ⟨ws, hf, hws⟩, v3, rfl⟩ ⟨rfl, hy⟩
        obtain ⟨r, hr0, hru⟩ := pget hvs hy
        have hgr := hg.ok r (List.mem_of_getElem? hr0)
        have hru0 := hru
        obtain ⟨rd, rk, rfl, hrd, hrk⟩ := hru
        have e2 : rs.take (i + 1) = rs.take i ++ [r] := by rw [List.take_add_one, hr0]; rfl
        have sA : Same H H' := s1.trans del_sub
        refine if_s (a := false) (fun Q h => or_s (a := false) (b := false) (fun Q h => ?_) (fun _ H2 Q s4 h => or_s (a := false) (b := false) (fun Q h => ?_) (fun _ H3 Q s5 h => ?_) (fun H' s => h H' (s4.trans s))) h) (fun z => by cases z) (fun _ H2 s4 => ?_)
        · exact ⟨_, rfl, _, _, _, _, true, rfl, .ty "dict", .base (.dK (sA _ _ hrd)), kit_ty (by decide +kernel), _, rfl, h _ (Same.refl _)⟩
        · refine ⟨_, rfl, fun z nz => ⟨rd, z, rk, rfl, rfl, (same_upd nz) _ _ ((sA.trans s4) _ _ hrd), upd_same, false, ?_, h _ (same_upd nz)⟩⟩
          have h1 := hrk.length
          have h2 := hgr.ne
          cases rk with
          | nil =>
            cases r with
            | nil => exact absurd rfl h2
            | cons a b => simp at h1
          | cons a b => rfl
        · have sB : Same H H3 := sA.trans (s4.trans s5)
          exact ⟨_, rfl, p, dx, fs, rfl, sB _ _ hp, m1, _, rfl, p, rd, sws, r, rfl, hpan0.same sB, hx, hru0.same sB, hgr, fun H4 s6 => ⟨_, rfl, h _ (s5.trans s6)⟩⟩
        · have sB : Same H H2 := sA.trans s4
          refine ⟨_, rfl, .inl ⟨rfl, _, .inl (.inl (s4 _ _ hf))⟩, _, rfl, p, dx, fs, rfl, sB _ _ hp, m2, _, rfl, p, rd, sws, r, rfl, hru0.same sB, hgr, fun H4 g s6 hgc => ?_⟩
          have hf4 := (s4.trans s6) _ _ hf
          have hlt : ws.length < sizeLine := by
            have h1 := hws.length
            rw [List.length_take] at h1
            exact small1000 (by omega)
          refine ⟨f, ws, _, rfl, rfl, hf4, hlt, by rw [del_upd]; exact s1.trans (del_mono (s4.trans s6)), ⟨_, upd_same, ?_⟩, _, rfl⟩
          rw [del_upd, e2]
          refine papp (pmap hws fun _ _ z => z.same (del_mono (s4.trans s6))) (.cons ?_ .nil)
          exact rule_del hgc hf4 (fun v hv => by
            obtain ⟨_, _, a, _, h1, _⟩ := pmem hws hv
            exact ⟨a, h1⟩) fun e he => (hgr.ok e he).choose_spec.2.1
      · rintro σ H' ⟨s1, ⟨ws, hf, hws⟩, v3, rfl⟩
        rw [hlen, List.take_length] at hws
        exact ⟨_, rfl, q H' f (s1.trans del_sub) ⟨ws, hf, pmap hws fun _ _ z => z.same del_sub⟩⟩
end
end ML

set_option Elab.async false
set_option linter.all false
set_option maxRecDepth 100000
set_option maxHeartbeats 4000000
namespace ML
open PySem PySem.Spec PyProof.Rows L2 MM
/-- all of H stays but what stands at x, an instance with the fields fs -/
structure At (C dx x : Addr) (H : Hp) (fs : List (Str × V)) (H' : Hp) : Prop where
  s : Same (del H x) (del H' x)
  a : H' x = some (.ins C dx fs)
theorem At.same {C dx x : Addr} {H H1 H2 : Hp} {fs : List (Str × V)} (h : At C dx x H fs H1) (s : Same H1 H2) : At C dx x H fs H2 := ⟨h.s.trans (del_mono s), s _ _ h.a⟩
theorem At.put {C dx x : Addr} {H H1 : Hp} {fs gs : List (Str × V)} (h : At C dx x H fs H1) : At C dx x H gs (upd H1 x (.ins C dx gs)) := ⟨by rw [del_upd]; exact h.s, upd_same⟩
theorem At.old {C dx x : Addr} {H H1 : Hp} {fs : List (Str × V)} (h : At C dx x H fs H1) : Same (del H x) H1 := h.s.trans del_sub
/-- all but instances stays -/
def KI (H H' : Hp) : Prop := ∀ b o, H b = some o → (∀ C dx fs, o ≠ .ins C dx fs) → H' b = some o
theorem KI.trans {H H1 H2 : Hp} (a : KI H H1) (b : KI H1 H2) : KI H H2 := fun c o h n => b c o (a c o h n) n
theorem KI.of {H H' : Hp} (s : Same H H') : KI H H' := fun b o h _ => s b o h
theorem KI.upd {H : Hp} {x C dx : Addr} {fs : List (Str × V)} {u : HO} (h : H x = some (.ins C dx fs)) : KI H (upd H x u) := fun b o e n => by
  rw [upd_ne (ne_of e h (n C dx fs))]
  exact e
theorem SwAt.ki {H H' : Hp} (k : KI H H') {a : Addr} {sws : Sws} (h : SwAt .tup H a sws) : SwAt .tup H' a sws := by
  obtain ⟨vs, h1, h2⟩ := h
  refine ⟨vs, k _ _ h1 (fun _ _ _ z => by cases z), pmap h2 fun v s e => ?_⟩
  obtain ⟨a, l, e1, e2, e3⟩ := e
  exact ⟨a, l, e1, k _ _ e2 (fun _ _ _ z => by cases z), k _ _ e3 (fun _ _ _ z => by cases z)⟩
theorem RulesAt.ki {H H' : Hp} (k : KI H H') {a : Addr} {rs : List Sws} (h : RulesAt H a rs) : RulesAt H' a rs := by
  obtain ⟨vs, h1, h2⟩ := h
  refine ⟨vs, k _ _ h1 (fun _ _ _ z => by cases z), pmap h2 fun v r e => ?_⟩
  obtain ⟨d, kvs, e1, e2, e3⟩ := e
  refine ⟨d, kvs, e1, k _ _ e2 (fun _ _ _ z => by cases z), pmap e3 fun kv e z => ?_⟩
  obtain ⟨z1, l, z2, z3⟩ := z
  exact ⟨z1, l, z2, k _ _ z3 (fun _ _ _ z => by cases z)⟩
/-- what is free: each number that no rule bars -/
def FreeOk (sws : Sws) (rs : List Sws) (F : Nat) : Prop := ∀ n, n < tot sws → barred sws rs n = false → F.testBit n = true
theorem barred_snoc (sws : Sws) (rs : List Sws) (r : Sws) (n : Nat) : barred sws (rs ++ [r]) n = (barred sws rs n || ins sws r n) := by
  unfold barred
  rw [List.any_append]
  simp
theorem all_bit (t n : Nat) (h : n < t) : (2 ^ t - 1).testBit n = true := by
  rw [Nat.testBit_two_pow_sub_one]
  exact decide_eq_true h
theorem free_step {sws r : Sws} {rs : List Sws} {F S : Nat} (h : FreeOk sws rs F) (hS : ∀ n, S.testBit n = boxP sws r (tot sws) n) : FreeOk sws (rs ++ [r]) (F &&& ((2 ^ tot sws - 1) ^^^ S)) := fun n hn hb => by
  rw [barred_snoc] at hb
  have h1 : barred sws rs n = false := by cases q : barred sws rs n <;> simp_all
  have h2 : ins sws r n = false := by cases q : ins sws r n <;> simp_all
  rw [Nat.testBit_and, Nat.testBit_xor, h n hn h1, all_bit _ _ hn, hS n]
  unfold boxP
  rw [h2, Bool.and_false]; rfl
section
variable {P : Program} {w : World} {K : PySem.W.Frag} {mg : Str → Option Value} {base : Heap}
theorem ok_panel_init (T : Txt K mg) : OkI P w K mg base CX0 5 "Panel" ["self", "switches", "rules"] [] (spPanInit K) := by
  obtain ⟨fd, F⟩ := T.f_Panel_init
  have O_are_switches := ok_are_switches (P := P) (w := w) (base := base) T
  have O_Panel_told_rules := ok_told_rules (P := P) (w := w) (base := base) T
  have O_Panel_box := ok_box (P := P) (w := w) (base := base) T
  have O_Panel_all_choices := ok_all_choices (P := P) (w := w) (base := base) T
  obtain ⟨ds, hv, hb⟩ := F.binds1 (ps := ["self", "switches", "rules"]) 3 1 (by simp) rfl fun U kV doc pm an cdv ct us its h1 h2 => match us, its, h1, h2 with | [_, _, _], [_], _, _ => ⟨_, rfl, rfl⟩
  refine ⟨⟨fd, ds, ?_, hb, hv⟩, T.k_Panel, T.g_Panel⟩
  refine F.ok sc_Panel_init (fun vs H Q E h => ?_) (fun cdv A outer s H vs Q E hr h => ?_)
  · obtain ⟨_, _, _, _, _, _, rfl, _⟩ := h
    rfl
  · obtain ⟨x, dx, sl, rl, sws, rs, rfl, hx0, ⟨vs, hl, hvs⟩, hx, ⟨rvs, hrl, hrvs⟩, hg, ⟨n0, hn0, hb0⟩, q⟩ := h
    have nd := sc_Panel_init.nd
    have hlen : vs.length = sws.length := hvs.length
    have hmost := hx.most
    have hl5 := hx.l5
    have hsx : sl ≠ x := ne_of hl hx0 (by intro z; cases z)
    have hrx : rl ≠ x := ne_of hrl hx0 (by intro z; cases z)
    have hdl : ∀ {c o}, H c = some o → (∀ fs, o ≠ .ins (He.ga K "Panel") dx fs) → del H x c = some o := fun h n => by rw [del_ne (ne_of h hx0 (n []))]; exact h
    refine ⟨_, PSs.nox (pss_cons (ps_if (pt_not (pt_val (pe_callD O_are_switches hr pass0 (pa_cons (pv 1) pa_nil)))) pss_never pss_nil)
      (pss_cons (ps_fld (pv 0) (pe_lc (g := gTup K 2 (gCons (gName 3) (gCons (gName 4) gNil))) (own := [("word", 3), ("settings", 4)]) (by rfl) nd (pi_list (pv 1)) (blkOk_by (own := [("word", 3), ("settings", 4)]) (N := n_Panel_init) (sc := defScope s_Panel_init) (by decide +kernel)) (fun _ _ _ _ _ => (pg_tup (by rfl) (pgs_cons (pg_nm 3 nd) (pgs_cons (pg_nm 4 nd) pgs_nil)))) (fun _ _ _ _ _ => pts_nil) (fun _ _ _ _ _ => (pe_tup (pa_cons (pv 3) (pa_cons (pe_callTy (call_tuple_ofK K) (by rfl) T.b_tuple (by decide +kernel) (pa_cons (pv 4) pa_nil)) pa_nil))))) rfl)
      (pss_cons (ps_fld (pv 0) pe_int rfl)
      (pss_cons (ps_for PassesOwn.never rfl (pi_list (pe_fld (pv 0) rfl)) (pg_tup (by rfl) (pgs_cons (pg_nm 3 nd) (pgs_cons (pg_nm 4 nd) pgs_nil)))
        (pss_one (ps_fld (pv 0) (pe_op op_mul (pe_fld (pv 0) rfl) (pe_callB call_len_seq (by rfl) T.b_len PySem.boot_len (pa_cons (pv 4) pa_nil))) rfl)))
      (pss_cons (ps_fld (pv 0) (pe_lst pa_nil) rfl)
      (pss_cons (ps_if (pt_cmpR op_notN (pv 2) pe_non (nomark _)) (pss_one (ps_fld (pv 0) (pe_methD (pv 0) O_Panel_told_rules hr pass0 (pa_cons (pv 2) pa_nil)) rfl)) pss_nil)
      (pss_cons (ps_fld (pv 0) (pe_lc (g := gName 6) (own := [("rule", 6)]) (by rfl) nd (pi_list (pe_fld (pv 0) rfl)) (blkOk_by (own := [("rule", 6)]) (N := n_Panel_init) (sc := defScope s_Panel_init) (by decide +kernel)) (fun _ _ _ _ _ => (pg_nm 6 nd)) (fun _ _ _ _ _ => pts_nil) (fun _ _ _ _ _ => (pe_methDK K (pv 0) O_Panel_box hr pass0 (pa_cons (pv 6) pa_nil)))) rfl)
      (pss_cons (ps_fld (pv 0) (pe_methD0 (pv 0) O_Panel_all_choices hr pass0) rfl)
      (pss_cons (ps_for PassesOwn.never rfl (pi_list (pe_fld (pv 0) rfl)) (pg_nm 5 nd)
        (pss_one (ps_fld (pv 0) (pe_op op_and (pe_fld (pv 0) rfl) (pe_op op_xor (pe_methD0 (pv 0) O_Panel_all_choices hr pass0) (pv 5))) rfl)))
      (pss_one (ps_if (pt_cmpR op_eq (pe_fld (pv 0) rfl) pe_int (nomark _)) pss_never pss_nil))))))))))), ?_⟩
    dsimp only [tSeq]
    refine if_s (a := false) (fun Q h => ⟨_, rfl, sl, sws, rfl, ⟨vs, hl, hvs⟩, hx, fun H' s => ⟨_, rfl, h H' s⟩⟩) (fun z => by cases z) (fun _ H1 s1 => ?_)
    -- dials
    refine ⟨_, rfl, sl, rfl, ⟨vs, .inl (.inl (s1 _ _ hl))⟩, fun D nD => ?_⟩
    refine lc_gen walk_list (fun _ => true) (fun i G y => ∀ s, sws[i]? = some s → SwEnt .tup G y s) (by omega) nD (fun i G G' y sG h s hs => (h s hs).same sG) (fun G sG => .inl (.inl (sG _ _ (s1 _ _ hl)))) ?_ ?_
    · rintro k y G0 G N no yes hk sG ⟨acc0, hacc⟩ ⟨rfl, hy⟩
      obtain ⟨sw, hsw, a, l, rfl, ha, hl2⟩ := pget hvs hy
      have sGG : Same H G := s1.trans (sG.trans del_sub)
      refine ⟨a, _, rfl, .inl (.inl (sGG _ _ ha)), rfl, .str sw.1, [.ref l], rfl, .ref l, [], rfl, rfl, rfl, ?_⟩
      refine yes_t ?_
      refine iteT ⟨_, rfl, _, rfl, l, _, rfl, .inl ⟨.inl (.inl (sGG _ _ hl2)), fun L nL => ?_⟩⟩
      refine ⟨(show (2 : Nat) ≤ sizeLine by decide), fun W nW => yes rfl _ _ ((same_upd nL).trans (same_upd nW)) fun s hs => ?_⟩
      rw [hsw] at hs
      obtain rfl := Option.some.inj hs
      have hLD : L ≠ D := (ne_of_none hacc nL).symm
      have hWD : W ≠ D := (ne_of_none ((same_upd nL) _ _ hacc) nW).symm
      have hWL : L ≠ W := ne_of_none upd_same nW
      exact ⟨W, L, rfl, by rw [del_ne hWD, upd_same], by rw [del_ne hLD, upd_ne hWL, upd_same]⟩
    · intro G ys sG hD hys
      have hG : At (He.ga K "Panel") dx x H [] G := ⟨del_mono (s1.trans (sG.trans del_sub)), (s1.trans (sG.trans del_sub)) _ _ hx0⟩
      have hyl : ys.length = sws.length := by
        have := hys.length
        rw [filter_true, List.length_range, hlen] at this
        exact this
      have hsw0 : SwAt .tup G D sws := ⟨ys, hD, paired_get hyl fun i y s hy hs => by
        obtain ⟨j, hj, h⟩ := pget hys hy
        rw [filter_true] at hj
        have : j = i := by
          obtain ⟨h1, h2⟩ := List.getElem?_eq_some_iff.mp hj
          rw [List.getElem_range] at h2
          exact h2.symm
        subst this
        exact (h s hs).same del_sub⟩
      have hrl0 : RulesAt G rl rs := ⟨rvs, (s1.trans (sG.trans del_sub)) _ _ hrl, pmap hrvs fun _ _ z => z.same (s1.trans (sG.trans del_sub))⟩
      refine ⟨_, rfl, x, _, dx, _, rfl, hG.a, T.c_Panel, T.a_Panel_dials, by decide, ?_⟩
      -- total
      have hA1 : At (He.ga K "Panel") dx x H [("dials", .ref D)] (upd G x (.ins (He.ga K "Panel") dx [("dials", .ref D)])) := hG.put
      refine ⟨_, rfl, x, _, dx, _, rfl, hA1.a, T.c_Panel, T.a_Panel_total, (show (1 : Nat) < 1000 by decide), ?_⟩
      have hA2 : At (He.ga K "Panel") dx x H [("dials", .ref D), ("total", .int ((1 : Nat) : Int))] (upd (upd G x (.ins (He.ga K "Panel") dx [("dials", .ref D)])) x (.ins (He.ga K "Panel") dx [("dials", .ref D), ("total", .int ((1 : Nat) : Int))])) := hA1.put
      obtain ⟨HB, eHB⟩ : ∃ HB, HB = upd (upd G x (.ins (He.ga K "Panel") dx [("dials", .ref D)])) x (.ins (He.ga K "Panel") dx [("dials", .ref D), ("total", .int ((1 : Nat) : Int))]) := ⟨_, rfl⟩
      have kB : KI G HB := by rw [eHB]; exact (KI.upd hG.a).trans (KI.upd hA1.a)
      rw [← eHB] at hA2
      have hswB := hsw0.ki kB
      have hrlB := hrl0.ki kB
      obtain ⟨ys2, hD2, hsy⟩ := hswB
      refine (congrArg _ eHB).mp ?_
      refine ⟨_, rfl, x, _, dx, _, _, rfl, hA2.a, T.c_Panel, T.a_Panel_dials, rfl, D, rfl, ⟨ys2, .inl (.inl hD2)⟩, for_it walk_list (fun i σ H' => KI HB H' ∧ At (He.ga K "Panel") dx x H [("dials", .ref D), ("total", .int ((tot (sws.take i) : Nat) : Int))] H' ∧ ∃ v3 v4 v5 v6, σ = [some (.ref x), some (.ref sl), some (.ref rl), v3, v4, v5, v6]) ⟨KI.of (Same.refl _), hA2, none, none, none, none, rfl⟩ (fun i σ H' _ ⟨e, _⟩ => .inl (.inl (e _ _ hD2 (fun _ _ _ z => by cases z)))) ?_ ?_⟩
      · rintro i y σ H2 H' hi ⟨k1, hA, v3, v4, v5, v6, rfl⟩ ⟨rfl, hy⟩
        obtain ⟨sw, hsw, a, l, rfl, ha, hl2⟩ := pget hsy hy
        have hl4 : (sw.2.map V.str).length ≤ 4 := by
          rw [List.length_map]
          exact (hx.st sw (List.mem_of_getElem? hsw)).l4
        have e2 : sws.take (i + 1) = sws.take i ++ [sw] := by rw [List.take_add_one, hsw]; rfl
        have hl3 := k1 _ _ hl2 (fun _ _ _ z => by cases z)
        refine ⟨a, _, rfl, .inl (.inl (k1 _ _ ha (fun _ _ _ z => by cases z))), rfl, .str sw.1, [.ref l], rfl, .ref l, [], rfl, rfl, ?_⟩
        refine ⟨_, rfl, x, _, dx, _, _, rfl, hA.a, T.c_Panel, T.a_Panel_total, rfl, _, rfl, l, _, rfl, .inr (.inl (.inl hl3)), _, _, rfl, rfl, .inr ⟨by omega, by omega⟩, ?_⟩
        refine ⟨_, rfl, x, _, dx, _, rfl, hA.a, T.c_Panel, T.a_Panel_total, (show (2 : Nat) < 1000 by decide), k1.trans (KI.upd hA.a), ?_, _, _, v5, v6, rfl⟩
        rw [e2, tot_snoc]
        have : ((tot (sws.take i) * sw.2.length : Nat) : Int) = ((tot (sws.take i) : Nat) : Int) * ((sw.2.map V.str).length : Nat) := by
          rw [List.length_map, Int.natCast_mul]
        rw [this]
        exact hA.put
      · rintro σ H2 ⟨k1, hA, v3, v4, v5, v6, rfl⟩
        have hy2 : ys2.length = sws.length := hsy.length
        rw [hy2, List.take_length] at hA
        -- bars
        refine ⟨Nat.zero_le _, fun f0 nf0 => ?_⟩
        have hA' := hA.same (same_upd nf0 (o := .lst []))
        refine ⟨_, rfl, x, _, dx, _, rfl, hA'.a, T.c_Panel, T.a_Panel_bars, (show (2 : Nat) < 1000 by decide), ?_⟩
        obtain ⟨H3, eH3⟩ : ∃ H3, H3 = upd (upd H2 f0 (.lst [])) x (.ins (He.ga K "Panel") dx [("dials", .ref D), ("total", .int ((tot sws : Nat) : Int)), ("bars", .ref f0)]) := ⟨_, rfl⟩
        have hA3 : At (He.ga K "Panel") dx x H [("dials", .ref D), ("total", .int ((tot sws : Nat) : Int)), ("bars", .ref f0)] H3 := by rw [eH3]; exact hA'.put
        have k3 : KI HB H3 := by rw [eH3]; exact k1.trans ((KI.of (same_upd nf0)).trans (KI.upd hA'.a))
        refine (congrArg _ eH3).mp ?_
        dsimp only [tSeq]
        refine if_t (a := true) (fun Q h => ⟨_, rfl, rfl, true, rfl, h⟩) (fun _ => ?_) (fun z => by cases z)
        refine ⟨_, rfl, x, dx, _, rfl, hA3.a, rfl, _, rfl, x, rl, sws, rs, rfl, ⟨dx, _, D, hA3.a, rfl, rfl, rfl, rfl, rfl, SwAt.ki k3 ⟨ys2, hD2, hsy⟩⟩, hx, hrlB.ki k3, hg, fun H4 f s4 hf4 => ?_⟩
        have hA4 := hA3.same s4
        have hsw4 : SwAt .tup H4 D sws := (SwAt.ki k3 ⟨ys2, hD2, hsy⟩).same s4
        refine ⟨_, rfl, x, _, dx, _, rfl, hA4.a, T.c_Panel, T.a_Panel_bars, (show (3 : Nat) < 1000 by decide), ?_⟩
        obtain ⟨H5, eH5⟩ : ∃ H5, H5 = upd H4 x (.ins (He.ga K "Panel") dx [("dials", .ref D), ("total", .int ((tot sws : Nat) : Int)), ("bars", .ref f)]) := ⟨_, rfl⟩
        have hA5 : At (He.ga K "Panel") dx x H [("dials", .ref D), ("total", .int ((tot sws : Nat) : Int)), ("bars", .ref f)] H5 := by rw [eH5]; exact hA4.put
        have k5 : KI H4 H5 := by rw [eH5]; exact KI.upd hA4.a
        have hsw5 := hsw4.ki k5
        obtain ⟨fs5, hf5, hfr⟩ := hf4.ki k5
        refine (congrArg _ eH5).mp ?_
        -- barring
        have hfl : fs5.length = rs.length := hfr.length
        have hle := hg.le
        refine ⟨_, rfl, x, _, dx, _, _, rfl, hA5.a, T.c_Panel, T.a_Panel_bars, rfl, f, rfl, ⟨fs5, .inl (.inl hf5)⟩, fun D2 nD2 => ?_⟩
        refine lc_gen walk_list (fun _ => true) (fun i G y => ∀ r, rs[i]? = some r → ∃ S : Nat, y = .int (S : Int) ∧ ∀ n, S.testBit n = boxP sws r (tot sws) n) (by omega) nD2 (fun _ _ _ _ _ z => z) (fun G sG => .inl (.inl (sG _ _ hf5))) ?_ ?_
        · rintro k y G0 G N no yes hk sG _ ⟨rfl, hy⟩
          obtain ⟨r, hr0, hru⟩ := pget hfr hy
          have sGG : Same H5 G := sG.trans del_sub
          have hru0 := hru.same sGG
          obtain ⟨rd, rk, rfl, _⟩ := hru
          refine ⟨rfl, yes_t (iteT ?_)⟩
          refine ⟨_, rfl, x, dx, _, rfl, sGG _ _ hA5.a, rfl, _, rfl, x, rd, sws, r, rfl, ⟨dx, _, D, sGG _ _ hA5.a, rfl, rfl, rfl, rfl, rfl, hsw5.same sGG⟩, hx, hru0, hg.ok r (List.mem_of_getElem? hr0), fun H6 S s6 hS => yes rfl _ _ s6 fun r' hr' => ?_⟩
          rw [hr0] at hr'
          obtain rfl := Option.some.inj hr'
          exact ⟨S, rfl, hS⟩
        · intro G6 zs sG hD6 hzs
          have hA6 := hA5.same (sG.trans del_sub)
          have hsw6 := hsw5.same (sG.trans del_sub)
          refine ⟨_, rfl, x, _, dx, _, rfl, hA6.a, T.c_Panel, T.a_Panel_barring, (show (3 : Nat) < 1000 by decide), ?_⟩
          obtain ⟨H7, eH7⟩ : ∃ H7, H7 = upd G6 x (.ins (He.ga K "Panel") dx [("dials", .ref D), ("total", .int ((tot sws : Nat) : Int)), ("bars", .ref f), ("barring", .ref D2)]) := ⟨_, rfl⟩
          have hA7 : At (He.ga K "Panel") dx x H [("dials", .ref D), ("total", .int ((tot sws : Nat) : Int)), ("bars", .ref f), ("barring", .ref D2)] H7 := by rw [eH7]; exact hA6.put
          have k7 : KI G6 H7 := by rw [eH7]; exact KI.upd hA6.a
          have hsw7 := hsw6.ki k7
          have hD7 := k7 _ _ hD6 (fun _ _ _ z => by cases z)
          refine (congrArg _ eH7).mp ?_
          -- free
          refine ⟨_, rfl, x, dx, _, rfl, hA7.a, rfl, x, sws, rfl, ⟨dx, _, D, hA7.a, rfl, rfl, rfl, rfl, rfl, hsw7⟩, hmost, ?_⟩
          refine ⟨_, rfl, x, _, dx, _, rfl, hA7.a, T.c_Panel, T.a_Panel_free, (show (4 : Nat) < 1000 by decide), ?_⟩
          obtain ⟨H8, eH8⟩ : ∃ H8, H8 = upd H7 x (.ins (He.ga K "Panel") dx [("dials", .ref D), ("total", .int ((tot sws : Nat) : Int)), ("bars", .ref f), ("barring", .ref D2), ("free", .int ((2 ^ tot sws - 1 : Nat) : Int))]) := ⟨_, rfl⟩
          have hA8 : At (He.ga K "Panel") dx x H [("dials", .ref D), ("total", .int ((tot sws : Nat) : Int)), ("bars", .ref f), ("barring", .ref D2), ("free", .int ((2 ^ tot sws - 1 : Nat) : Int))] H8 := by rw [eH8]; exact hA7.put
          have k8 : KI H7 H8 := by rw [eH8]; exact KI.upd hA7.a
          have hsw8 := hsw7.ki k8
          have hD8 := k8 _ _ hD7 (fun _ _ _ z => by cases z)
          refine (congrArg _ eH8).mp ?_
          have hzl : zs.length = rs.length := by
            have := hzs.length
            rw [filter_true, List.length_range, hfl] at this
            exact this
          refine ⟨_, rfl, x, _, dx, _, _, rfl, hA8.a, T.c_Panel, T.a_Panel_barring, rfl, D2, rfl, ⟨zs, .inl (.inl hD8)⟩, for_it walk_list (fun i σ H' => KI H8 H' ∧ (∃ Fr : Nat, FreeOk sws (rs.take i) Fr ∧ At (He.ga K "Panel") dx x H [("dials", .ref D), ("total", .int ((tot sws : Nat) : Int)), ("bars", .ref f), ("barring", .ref D2), ("free", .int (Fr : Int))] H') ∧ ∃ v3 v4 v5 v6, σ = [some (.ref x), some (.ref sl), some (.ref rl), v3, v4, v5, v6]) ⟨KI.of (Same.refl _), ⟨_, fun n hn _ => all_bit _ _ hn, hA8⟩, v3, v4, v5, v6, rfl⟩ (fun i σ H' _ ⟨e, _⟩ => .inl (.inl (e _ _ hD8 (fun _ _ _ z => by cases z)))) ?_ ?_⟩
          · rintro i y σ H9 H' hi ⟨k9, ⟨Fr, hFr, hA9⟩, v3', v4', v5', v6', rfl⟩ ⟨rfl, hy⟩
            rw [hzl] at hi
            obtain ⟨j, hj, h⟩ := pget hzs hy
            rw [filter_true] at hj
            have : j = i := by
              obtain ⟨h1, h2⟩ := List.getElem?_eq_some_iff.mp hj
              rw [List.getElem_range] at h2
              exact h2.symm
            subst this
            have hr1 : rs[j]? = some rs[j] := List.getElem?_eq_getElem hi
            obtain ⟨S, rfl, hS⟩ := h _ hr1
            have e2 : rs.take (j + 1) = rs.take j ++ [rs[j]] := by rw [List.take_add_one, hr1]; rfl
            refine ⟨_, rfl, x, _, dx, _, _, rfl, hA9.a, T.c_Panel, T.a_Panel_free, rfl, _, rfl, x, dx, _, rfl, hA9.a, rfl, x, sws, rfl, ⟨dx, _, D, hA9.a, rfl, rfl, rfl, rfl, rfl, hsw8.ki k9⟩, hmost, _, rfl, _, _, rfl, rfl, _, _, rfl, rfl, ?_⟩
            dsimp only
            rw [xor_nat, and_nat]
            refine ⟨_, rfl, x, _, dx, _, rfl, hA9.a, T.c_Panel, T.a_Panel_free, (show (5 : Nat) < 1000 by decide), k9.trans (KI.upd hA9.a), ⟨Fr &&& ((2 ^ tot sws - 1) ^^^ S), ?_, hA9.put⟩, _, _, _, _, rfl⟩
            rw [e2]
            exact free_step hFr hS
          · rintro σ H9 ⟨k9, ⟨Fr, hFr, hA9⟩, v3', v4', v5', v6', rfl⟩
            rw [hzl, List.take_length] at hFr
            have hne : ¬ Fr = 0 := fun z => by
              have := hFr n0 hn0 hb0
              rw [z, Nat.zero_testBit] at this
              cases this
            dsimp only
            refine if_t (a := false) (fun Q h => ?_) (fun z => by cases z) (fun _ => ?_)
            · exact ⟨_, rfl, x, _, dx, _, _, rfl, hA9.a, T.c_Panel, T.a_Panel_free, rfl, rfl, false, by rw [decide_eq_false (fun z => hne (by have := V.int.inj z; omega))], h⟩
            · exact q H9 Fr hA9.old hFr ⟨dx, _, hA9.a, rfl, rfl⟩
end
end ML

set_option Elab.async false
set_option linter.all false
set_option maxRecDepth 100000
set_option maxHeartbeats 4000000
namespace ML
open PySem PySem.Spec PyProof.Rows L2 MM
def natsV (l : List Nat) : List V := l.map fun (n : Nat) => V.int (n : Int)
def spDigs : Sp := fun vs H Q _ => ∃ (sl : Addr) (n : Nat) (sws : Sws), vs = [.ref sl, .int (n : Int)] ∧ SwAt .lst H sl sws ∧ GoodSw sws ∧ ∀ H' f, Same H H' → H' f = some (.lst (natsV (digs sws n).1)) → Q (.ref f) H'
def spTot : Sp := fun vs H Q _ => ∃ (sl : Addr) (sws : Sws), vs = [.ref sl] ∧ SwAt .lst H sl sws ∧ GoodSw sws ∧ Q (.int ((tot sws : Nat) : Int)) H
def spBarred : Sp := fun vs H Q _ => ∃ (sl rl : Addr) (n : Nat) (sws : Sws) (rs : List Sws), vs = [.ref sl, .ref rl, .int (n : Int)] ∧ SwAt .lst H sl sws ∧ GoodSw sws ∧ RulesAt H rl rs ∧ rs.length ≤ 8 ∧ ∀ H', Same H H' → Q (.bl (barred sws rs n)) H'
section
variable {P : Program} {w : World} {K : PySem.W.Frag} {mg : Str → Option Value} {base : Heap}
theorem ok_l_total (T : Txt K mg) : OkF P w K mg base CX0 1 "_law_total" ["_law_switches_here"] spTot := by
  obtain ⟨fd, F⟩ := T.f_law_total
  refine ⟨⟨fd, ?_, F.bindsN fun _ _ _ _ _ _ us hl => match us, hl with | [_], _ => rfl⟩, F.kp, T.g_law_total⟩
  refine F.ok sc_law_total (fun vs H Q E h => ?_) (fun cdv A outer s H vs Q E hr h => ?_)
  · obtain ⟨_, _, rfl, _⟩ := h
    rfl
  · obtain ⟨sl, sws, rfl, ⟨vs, hl, hvs⟩, hx, q⟩ := h
    have nd := sc_law_total.nd
    have hlen : vs.length = sws.length := hvs.length
    refine ⟨_, PSs.nox (pss_cons (ps_sv 1 nd pe_int)
      (pss_cons (ps_for PassesOwn.never rfl (pi_list (pv 0)) (pg_tup (by rfl) (pgs_cons (pg_nm 2 nd) (pgs_cons (pg_nm 3 nd) pgs_nil)))
        (pss_one (ps_sv 1 nd (pe_op op_mul (pv 1) (pe_callB call_len_seq (by rfl) T.b_len PySem.boot_len (pa_cons (pv 3) pa_nil))))))
      (pss_one (ps_ret (pv 1))))), ?_⟩
    refine ⟨_, rfl, sl, rfl, ⟨vs, .inl (.inl hl)⟩, for_it walk_list (fun i σ H' => H' = H ∧ ∃ v2 v3, σ = [some (.ref sl), some (.int ((tot (sws.take i) : Nat) : Int)), v2, v3]) ⟨rfl, none, none, rfl⟩ (fun i σ H' _ ⟨e, _⟩ => by rw [e]; exact .inl (.inl hl)) ?_ ?_⟩
    · rintro i y σ H1 H' hi ⟨rfl, v2, v3, rfl⟩ ⟨rfl, hy⟩
      obtain ⟨sw, hsw, a, l, rfl, ha, hl2⟩ := pget hvs hy
      have hl4 : (sw.2.map V.str).length ≤ 4 := by
        rw [List.length_map]
        exact (hx.st sw (List.mem_of_getElem? hsw)).l4
      have e2 : sws.take (i + 1) = sws.take i ++ [sw] := by rw [List.take_add_one, hsw]; rfl
      refine ⟨a, _, rfl, .inl (.inl ha), rfl, .str sw.1, [.ref l], rfl, .ref l, [], rfl, rfl, ?_⟩
      refine ⟨_, rfl, _, rfl, l, _, rfl, .inl (.inl (.inl hl2)), _, _, rfl, rfl, .inr ⟨by omega, by omega⟩, rfl, some (.str sw.1), some (.ref l), ?_⟩
      rw [e2, tot_snoc, List.length_map, Int.natCast_mul]
      rfl
    · rintro σ H' ⟨rfl, v2, v3, rfl⟩
      rw [hlen, List.take_length]
      exact ⟨_, rfl, q⟩
theorem ok_l_digits (T : Txt K mg) : OkF P w K mg base CX0 1 "_law_digits" ["_law_switches_here", "_law_number"] spDigs := by
  obtain ⟨fd, F⟩ := T.f_law_digits
  refine ⟨⟨fd, ?_, F.bindsN fun _ _ _ _ _ _ us hl => match us, hl with | [_, _], _ => rfl⟩, F.kp, T.g_law_digits⟩
  refine F.ok sc_law_digits (fun vs H Q E h => ?_) (fun cdv A outer s H vs Q E hr h => ?_)
  · obtain ⟨_, _, _, rfl, _⟩ := h
    rfl
  · obtain ⟨sl, N, sws, rfl, ⟨vs, hl, hvs⟩, hx, q⟩ := h
    have nd := sc_law_digits.nd
    have hlen : vs.length = sws.length := hvs.length
    refine ⟨_, PSs.nox (pss_cons (ps_sv 2 nd (pe_lst pa_nil))
      (pss_cons (ps_for PassesOwn.never rfl (pi_reversed (by rfl) T.b_reversed (pa_cons (pv 0) pa_nil)) (pg_tup (by rfl) (pgs_cons (pg_nm 3 nd) (pgs_cons (pg_nm 4 nd) pgs_nil)))
        (pss_cons (ps_expr (pe_bm PySem.F.plainAttrs_list PySem.F.slot_list_insert PySem.F.type_list_insert mt_insert (pv 2) (pa_cons pe_int (pa_cons (pe_op op_mod (pv 1) (pe_callB call_len_seq (by rfl) T.b_len PySem.boot_len (pa_cons (pv 4) pa_nil))) pa_nil))))
        (pss_one (ps_sv 1 nd (pe_op op_fdiv (pv 1) (pe_callB call_len_seq (by rfl) T.b_len PySem.boot_len (pa_cons (pv 4) pa_nil)))))))
      (pss_one (ps_ret (pv 2))))), ?_⟩
    refine ⟨Nat.zero_le _, fun f nf => ?_⟩
    have hlf : sl ≠ f := ne_of_none hl nf
    refine ⟨_, rfl, sl, vs, rfl, .inl (.inl (by rw [upd_ne hlf]; exact hl)), for_it walk_rev (fun i σ H' => Same H (del H' f) ∧ H' f = some (.lst (natsV (digs (sws.drop (sws.length - i)) N).1)) ∧ ∃ v3 v4, σ = [some (.ref sl), some (.int (((digs (sws.drop (sws.length - i)) N).2 : Nat) : Int)), some (.ref f), v3, v4]) ⟨by rw [del_upd, del_none nf]; exact Same.refl _, ?_, none, none, ?_⟩ (fun i σ H' _ ⟨e, _⟩ => .inl (.inl (del_sub _ _ (e _ _ hl)))) ?_ ?_⟩
    · rw [upd_same, Nat.sub_zero, List.drop_length]; rfl
    · rw [Nat.sub_zero, List.drop_length]; rfl
    · rintro i x σ H1 H' hi ⟨s1, hf, v3, v4, rfl⟩ ⟨rfl, hy⟩
      rw [hlen] at hy hi
      obtain ⟨s, hs, a, l2, rfl, ha, hl2⟩ := pget hvs hy
      have sA : Same H H' := s1.trans del_sub
      have hk : sws.length - 1 - i = sws.length - (i + 1) := by omega
      have ed : sws.drop (sws.length - (i + 1)) = s :: sws.drop (sws.length - i) := by
        obtain ⟨h1, h2⟩ := List.getElem?_eq_some_iff.mp hs
        rw [← hk, List.drop_eq_getElem_cons h1, h2]
        congr 2
        omega
      have hpos := hx.pos s (List.mem_of_getElem? hs)
      have hl4 := (hx.st s (List.mem_of_getElem? hs)).l4
      obtain ⟨r, er⟩ : ∃ r, r = sws.drop (sws.length - i) := ⟨_, rfl⟩
      rw [ed]
      rw [← er] at hf ⊢
      have hrl : (digs r N).1.length ≤ 5 := by
        rw [digs_len, er, List.length_drop]
        have := hx.l5
        omega
      refine ⟨a, _, rfl, .inl (.inl (sA _ _ ha)), rfl, .str s.1, [.ref l2], rfl, .ref l2, [], rfl, rfl, ?_⟩
      refine ⟨_, rfl, .inl ⟨rfl, _, .inl (.inl hf)⟩, _, rfl, _, rfl, l2, _, rfl, .inl (.inl (.inl (sA _ _ hl2))), _, _, rfl, rfl, by rw [List.length_map]; omega, f, _, 0, _, rfl, rfl, hf, small1000 (by unfold natsV; rw [List.length_map]; omega), by decide, by decide, ?_⟩
      have hl2f : l2 ≠ f := fun z => by
        have := s1 _ _ hl2
        rw [z, del_same] at this; cases this
      refine ⟨_, rfl, _, rfl, l2, _, rfl, .inl (.inl (.inl (by rw [upd_ne hl2f]; exact sA _ _ hl2))), _, _, rfl, rfl, ⟨by rw [List.length_map]; omega, by rw [List.length_map]; omega⟩, by rw [del_upd]; exact s1, ?_, some (.str s.1), some (.ref l2), ?_⟩
      · rw [upd_same, List.length_map]; rfl
      · rw [List.length_map]; rfl
    · rintro σ H' ⟨s1, hf, v3, v4, rfl⟩
      rw [hlen, Nat.sub_self, List.drop_zero] at hf
      exact ⟨_, rfl, q H' f (s1.trans del_sub) hf⟩
theorem ok_l_barred (T : Txt K mg) : OkF P w K mg base CX0 2 "_law_barred" ["_law_switches_here", "_law_rules_here", "_law_number"] spBarred := by
  obtain ⟨fd, F⟩ := T.f_law_barred
  have O_law_digits := ok_l_digits (P := P) (w := w) (base := base) T
  refine ⟨⟨fd, ?_, F.bindsN fun _ _ _ _ _ _ us hl => match us, hl with | [_, _, _], _ => rfl⟩, F.kp, T.g_law_barred⟩
  refine F.ok sc_law_barred (fun vs H Q E h => ?_) (fun cdv A outer s H vs Q E hr h => ?_)
  · obtain ⟨_, _, _, _, _, rfl, _⟩ := h
    rfl
  · obtain ⟨sl, rl, N, sws, rs, rfl, ⟨vs, hl, hvs⟩, hx, ⟨rvs, hrl, hrvs⟩, h8, q⟩ := h
    have nd := sc_law_barred.nd
    have hu := hu_of hr
    have hlen : vs.length = sws.length := hvs.length
    have hrlen : rvs.length = rs.length := hrvs.length
    have hl5 := hx.l5
    refine ⟨_, PSs.nox (pss_cons (ps_sv 3 nd (pe_callD O_law_digits hr pass0 (pa_cons (pv 0) (pa_cons (pv 2) pa_nil))))
      (pss_cons (ps_for PassesOwn.never rfl (pi_list (pv 1)) (pg_nm 4 nd)
        (pss_cons (ps_setLc (i := 5) (g := gTup K 2 (gCons (gName 6) (gCons (gTup K 2 (gCons (gName 7) (gCons (gName 8) gNil))) gNil))) (own := [("_law_k", 6), ("_law_word", 7), ("_law_settings", 8)]) (by rfl) nd rfl rfl (sw_true rfl rfl rfl (by decide +kernel)) (pi_enum (by rfl) T.b_enumerate (pa_cons (pv 0) pa_nil)) (blkOk_by (own := [("_law_k", 6), ("_law_word", 7), ("_law_settings", 8)]) (N := n_law_barred) (sc := defScope s_law_barred) (by decide +kernel)) (fun _ _ _ _ _ => (pg_tup (by rfl) (pgs_cons (pg_nm 6 nd) (pgs_cons (pg_tup (by rfl) (pgs_cons (pg_nm 7 nd) (pgs_cons (pg_nm 8 nd) pgs_nil))) pgs_nil)))) (fun _ _ _ _ _ => pts_nil) (fun _ _ _ _ _ => (pe_cmpR (op_in_seqK K) (pe_ix (ix_listK K) (pv 8) (pe_ix (ix_listK K) (pv 3) (pv 6) (fun _ _ => rfl)) (fun _ _ => rfl)) (pe_dget2 hu (pv 4) (pv 7) (pv 8) ⟨rfl, rfl, rfl, rfl⟩) rfl)))
        (pss_one (ps_if (pt_val (pe_callB (cr_all rfl) (by rfl) T.b_all (by decide +kernel) (pa_cons (pv 5) pa_nil))) (pss_one (ps_ret pe_bl)) pss_nil))))
      (pss_one (ps_ret pe_bl)))), ?_⟩
    refine ⟨_, rfl, _, rfl, sl, N, sws, rfl, ⟨vs, hl, hvs⟩, hx, fun H1 dg s1 hdg => ?_⟩
    refine ⟨_, rfl, rl, rfl, ⟨rvs, .inl (.inl (s1 _ _ hrl))⟩, for_it walk_list (fun i σ H' => barred sws (rs.take i) N = false ∧ Same H1 H' ∧ ∃ v4 v5 v6 v7 v8, σ = [some (.ref sl), some (.ref rl), some (.int (N : Int)), some (.ref dg), v4, v5, v6, v7, v8]) ⟨rfl, Same.refl _, none, none, none, none, none, rfl⟩ (fun i σ H' _ ⟨_, e, _⟩ => .inl (.inl (e _ _ (s1 _ _ hrl)))) ?_ ?_⟩
    · rintro i y σ H2 H' hi ⟨hb, s2, v4, v5, v6, v7, v8, rfl⟩ ⟨rfl, hy⟩
      obtain ⟨r, hr0, rd, rk, rfl, hrd, hrk⟩ := pget hrvs hy
      have e2 : rs.take (i + 1) = rs.take i ++ [r] := by rw [List.take_add_one, hr0]; rfl
      have sA : Same H H' := s1.trans s2
      refine ⟨_, rfl, sl, vs, rfl, .inl (.inl (sA _ _ hl)), fun D nD => ?_⟩
      refine lc_gen walk_enum (fun _ => true) (fun k _ y => y = .bl ((insL sws r N).getD k false)) (by omega) nD (fun _ _ _ _ _ z => z) (fun G sG => .inl (.inl ((sA.trans sG) _ _ hl))) ?_ ?_
      · rintro k x G G' M no yes hk sG _ ⟨U, x, y, rfl, nU, rfl, hx1, hy⟩
        obtain rfl : x = V.int ((k : Nat) : Int) := (Option.some.inj hx1).symm
        obtain ⟨sw, hsw, a, l, rfl, ha, hl2⟩ := pget hvs hy
        obtain ⟨d, hd⟩ := digs_get (n := N) hsw
        have hdl := digs_lt hx.pos hd hsw
        have sG1 : Same H' (upd G U (.tup [.int ((k : Nat) : Int), .ref a])) := (sG.trans del_sub).trans (same_upd nU)
        have sGG : Same H (upd G U (.tup [.int ((k : Nat) : Int), .ref a])) := sA.trans sG1
        refine ⟨U, _, rfl, .inl (.inl upd_same), rfl, .int ((k : Nat) : Int), [.ref a], rfl, .ref a, [], rfl, ⟨a, _, rfl, .inl (.inl (sGG _ _ ha)), rfl, .str sw.1, [.ref l], rfl, .ref l, [], rfl, rfl, rfl, rfl, ?_⟩⟩
        refine yes_t ?_
        refine iteT ?_
        have hdgG := sG1 _ _ (s2 _ _ hdg)
        have hl2G := sGG _ _ hl2
        have hrdG := sGG _ _ hrd
        have h1 : atI (natsV (digs sws N).1) ((k : Nat) : Int) = some (.int (d : Int)) := by
          have hkl : k < (natsV (digs sws N).1).length := by
            unfold natsV
            rw [List.length_map, digs_len]
            exact (List.getElem?_eq_some_iff.mp hsw).1
          rw [atI_nat hkl]
          unfold natsV
          rw [List.getElem?_map, hd]; rfl
        have h2 : atI (sw.2.map V.str) ((d : Nat) : Int) = some (.str (setAt sw d)) := by
          rw [atI_nat (by rw [List.length_map]; exact hdl), List.getElem?_map]
          unfold setAt
          rw [List.getD_eq_getElem?_getD, List.getElem?_eq_getElem hdl]; rfl
        have hin : (insL sws r N).getD k false = decide (setAt sw d ∈ (look r sw.1).getD sw.2) := by
          rw [List.getD_eq_getElem?_getD, insL_get hsw hd]; rfl
        refine ⟨_, rfl, _, rfl, _, rfl, dg, _, _, _, rfl, rfl, .inl (.inl hdgG), h1, l, _, _, _, rfl, rfl, .inl (.inl hl2G), h2, _, rfl, rd, rfl, .inl ⟨rk, .inl hrdG⟩, _, rfl, _, rfl, valV rk (.inr sw.1), DGet.k (k := .inr sw.1) hrdG, ?_⟩
        have fin := yes rfl
        rcases pair_look Sum.inr inr_inj (fun _ _ z => z.1) sw.1 hrk with ⟨z1, z2⟩ | ⟨b, v, z1, z2, _, l', z3, z4⟩
        · rw [z2]
          refine ⟨l, _, rfl, .inl (.inl (.inl hl2G)), rfl, flat_strs _, fin _ _ (same_upd nU) ?_⟩
          rw [hin, z1, inV_str]; rfl
        · rw [z2, show v = .ref l' from z3]
          refine ⟨l', _, rfl, .inl (.inl (.inl (sGG _ _ z4))), rfl, flat_strs _, fin _ _ (same_upd nU) ?_⟩
          rw [hin, z1, inV_str]; rfl
      · intro G ys sG hD hys
        have e1 : ys = (insL sws r N).map V.bl := by
          have := paired_map (f := fun k => V.bl ((insL sws r N).getD k false)) hys
          rw [this, filter_true, hlen, ← ins_len sws r N]
          have e2 := range_get (insL sws r N) false
          have e3 : List.map V.bl ((List.range (insL sws r N).length).map fun k => (insL sws r N).getD k false) = (insL sws r N).map V.bl := by rw [e2]
          rw [List.map_map] at e3
          exact e3
        rw [e1] at hD
        have s3 : Same H1 G := s2.trans (sG.trans del_sub)
        dsimp only [gName]
        refine if_t (a := ins sws r N) (fun Q h => ⟨_, rfl, D, insL sws r N, rfl, .inl (.inl hD), ins sws r N, rfl, h⟩) (fun hi => ?_) (fun hi => ?_)
        · have : barred sws rs N = true := by
            unfold barred
            exact List.any_eq_true.mpr ⟨r, List.mem_of_getElem? hr0, hi⟩
          rw [this] at q
          exact q G (s1.trans s3)
        · refine ⟨?_, s3, _, _, _, _, _, rfl⟩
          rw [e2, barred_snoc, hb, hi]; rfl
    · rintro σ H' ⟨hb, s2, v4, v5, v6, v7, v8, rfl⟩
      rw [hrlen, List.take_length] at hb
      rw [hb] at q
      exact q H' (s1.trans s2)
end
end ML

set_option Elab.async false
set_option linter.all false
set_option maxRecDepth 100000
set_option maxHeartbeats 4000000
namespace ML
open PySem PySem.Spec PyProof.Rows L2 MM
/-- the items at the places that p takes -/
def flt {α : Type} (p : Nat → Bool) (xs : List α) (d : α) : List α := ((List.range xs.length).filter p).map fun i => xs.getD i d
theorem flt_sub {α : Type} (p : Nat → Bool) (xs : List α) (d : α) : (flt p xs d).Sublist xs := by
  have h : (((List.range xs.length).filter p).map fun i => xs.getD i d).Sublist ((List.range xs.length).map fun i => xs.getD i d) := List.Sublist.map _ List.filter_sublist
  rw [range_get] at h
  exact h
theorem flt_strs {p : Nat → Bool} {xs : List Str} {ys : List V} (h : Paired (fun y i => y = V.str (xs.getD i "")) ys ((List.range xs.length).filter p)) : ys = (flt p xs "").map V.str := by
  rw [paired_map h]
  unfold flt
  rw [List.map_map]; rfl
structure GoodEnt (sws : Sws) (e : Str × List Str) : Prop where
  ex : ∃ st, look sws e.1 = some st ∧ e.2 ≠ [] ∧ e.2.Nodup ∧ (∀ x ∈ e.2, x ∈ st) ∧ e.2.length ≤ 4
def spLRules : Sp := fun vs H Q _ => ∃ (c : Int) (sl : Addr) (sws : Sws), vs = [.int c, .ref sl] ∧ SwAt .lst H sl sws ∧ GoodSw sws ∧ ∀ H' f rs, Same H H' → RulesAt H' f rs → GoodRules sws rs → Q (.ref f) H'
section
variable {P : Program} {w : World} {K : PySem.W.Frag} {mg : Str → Option Value} {base : Heap}
theorem ok_l_rules (T : Txt K mg) : OkF P w K mg base CX0 2 "_law_rules" ["_law_cell_here", "_law_switches_here"] spLRules := by
  obtain ⟨fd, F⟩ := T.f_law_rules
  have O_law_mix := ok_mix (P := P) (w := w) (base := base) T
  refine ⟨⟨fd, ?_, F.bindsN fun _ _ _ _ _ _ us hl => match us, hl with | [_, _], _ => rfl⟩, F.kp, T.g_law_rules⟩
  refine F.ok sc_law_rules (fun vs H Q E h => ?_) (fun cdv A outer s H vs Q E hr h => ?_)
  · obtain ⟨_, _, _, rfl, _⟩ := h
    rfl
  · obtain ⟨c, sl, sws, rfl, ⟨vs, hl, hvs⟩, hx, q⟩ := h
    have nd := sc_law_rules.nd
    have hu := hu_of hr
    have hu0 := hr.units0
    have hlen : vs.length = sws.length := hvs.length
    have hl5 := hx.l5
    refine ⟨_, PSs.nox (pss_cons (ps_sv 2 nd (pe_lst pa_nil))
      (pss_cons (ps_for PassesOwn.never rfl (pi_range1 (by rfl) T.b_range (pa_cons (pe_op op_mod (pe_callD O_law_mix hr pass0 (pa_cons (pv 0) (pa_cons pe_int pa_nil))) pe_int) pa_nil)) (pg_nm 3 nd)
        (pss_cons (ps_sv 4 nd pe_dnewK)
        (pss_cons (ps_for PassesOwn.never rfl (pi_enum (by rfl) T.b_enumerate (pa_cons (pv 1) pa_nil)) (pg_tup (by rfl) (pgs_cons (pg_nm 5 nd) (pgs_cons (pg_tup (by rfl) (pgs_cons (pg_nm 6 nd) (pgs_cons (pg_nm 7 nd) pgs_nil))) pgs_nil)))
          (pss_cons (ps_sv 8 nd (pe_callD O_law_mix hr pass0 (pa_cons (pv 0) (pa_cons (pe_op op_add (pe_op op_add pe_int (pe_op op_mul pe_int (pv 3))) (pv 5)) pa_nil))))
          (pss_cons (ps_setLc (i := 9) (g := gTup K 2 (gCons (gName 10) (gCons (gName 11) gNil))) (own := [("_law_at", 10), ("_law_setting", 11)]) (by rfl) nd rfl rfl (sw_true rfl rfl rfl (by decide +kernel)) (pi_enum (by rfl) T.b_enumerate (pa_cons (pv 7) pa_nil)) (blkOk_by (own := [("_law_at", 10), ("_law_setting", 11)]) (N := n_law_rules) (sc := defScope s_law_rules) (by decide +kernel)) (fun _ _ _ _ _ => (pg_tup (by rfl) (pgs_cons (pg_nm 10 nd) (pgs_cons (pg_nm 11 nd) pgs_nil)))) (fun _ _ _ _ _ => (pts_one (pt_cmpR op_eq (pe_op op_and (pe_op op_shr (pv 8) (pv 10)) pe_int) pe_int (nomark _)))) (fun _ _ _ _ _ => (pv 11)))
          (pss_one (ps_if (PW.pt (pw_and (pt_cmpR (op_neD hr.units) (pv 9) (pe_lst pa_nil) (nomark _)) (pw_and1 (pt_cmpR op_gt (pe_op op_mod (pe_op op_fdiv (pv 8) pe_int) pe_int) pe_int (nomark _))))) (pss_one (ps_dput hu (pv 4) (pv 6) (pv 9) rfl)) pss_nil)))))
        (pss_one (ps_if (pt_cmpR (op_ne_emp hu0) (pv 4) pe_dnewK (nomark _)) (pss_one (ps_expr (pe_bm PySem.F.plainAttrs_list PySem.F.slot_list_append PySem.F.type_list_append mt_append (pv 2) (pa_cons (pv 4) pa_nil)))) pss_nil)))))
      (pss_one (ps_ret (pv 2))))), ?_⟩
    refine ⟨Nat.zero_le _, fun f nf => ?_⟩
    have hmod := Int.emod_nonneg (mixF c 60) (show (4 : Int) ≠ 0 by decide)
    have hmod2 := Int.emod_lt_of_pos (mixF c 60) (show (0 : Int) < 4 by decide)
    have hn4 : (mixF c 60 % 4).toNat ≤ 3 := by omega
    refine ⟨_, rfl, c, 60, rfl, by decide, _, _, rfl, rfl, (show (0 : Int) < 4 by decide), _, rfl, by omega, by omega, for_it walk_range0 (fun j σ H' => Same H (del H' f) ∧ (∃ rs ws, H' f = some (.lst ws) ∧ Paired (RuleAt (del H' f)) ws rs ∧ rs.length ≤ j ∧ ∀ r ∈ rs, GoodRule sws r) ∧ ∃ v3 v4 v5 v6 v7 v8 v9 v10 v11, σ = [some (.int c), some (.ref sl), some (.ref f), v3, v4, v5, v6, v7, v8, v9, v10, v11]) ⟨by rw [del_upd, del_none nf]; exact Same.refl _, ⟨[], [], upd_same, .nil, Nat.le_refl _, fun r hr => by cases hr⟩, none, none, none, none, none, none, none, none, none, rfl⟩ (fun _ _ _ _ _ => trivial) ?_ ?_⟩
    · rintro j x σ H1 H' hj ⟨s1, ⟨rs, ws, hf, hws, hrl, hgr⟩, v3, v4, v5, v6, v7, v8, v9, v10, v11, rfl⟩ ⟨rfl, hxx⟩
      subst hxx
      dsimp only [tSeq]
      refine fun d ndd => ?_
      have sA : Same H H' := s1.trans del_sub
      have hfd : f ≠ d := ne_of_none hf ndd
      have hl' := sA _ _ hl
      have hld : sl ≠ d := ne_of_none hl' ndd
      refine ⟨_, rfl, sl, vs, rfl, .inl (.inl (by rw [upd_ne hld]; exact hl')), for_it walk_enum (fun i σ H2 => Same H' (del H2 d) ∧ (∃ rule acc, H2 d = some (.dK acc) ∧ Paired (RuEnt (del H2 d)) acc rule ∧ (rule.map (·.1)).Sublist ((sws.take i).map (·.1)) ∧ ∀ e ∈ rule, GoodEnt sws e) ∧ ∃ v5 v6 v7 v8 v9 v10 v11, σ = [some (.int c), some (.ref sl), some (.ref f), some (.int ((j : Nat) : Int)), some (.ref d), v5, v6, v7, v8, v9, v10, v11]) ⟨by rw [del_upd, del_none ndd]; exact Same.refl _, ⟨[], [], upd_same, .nil, by simp, fun e he => by cases he⟩, v5, v6, v7, v8, v9, v10, v11, rfl⟩ (fun i σ H2 _ ⟨e, _⟩ => .inl (.inl (del_sub _ _ (e _ _ hl')))) ?_ ?_⟩
      · rintro i x σ H2 H3 hi ⟨s2, ⟨rule, acc, hd, hacc, hsub, hge⟩, v5, v6, v7, v8, v9, v10, v11, rfl⟩ ⟨U, x, y, rfl, nU, rfl, hx1, hy⟩
        obtain rfl : x = V.int ((i : Nat) : Int) := (Option.some.inj hx1).symm
        obtain ⟨sw, hsw, a, l, rfl, ha, hl2⟩ := pget hvs hy
        have hswm := List.mem_of_getElem? hsw
        have sU : Same H2 (upd H2 U (.tup [.int ((i : Nat) : Int), .ref a])) := same_upd nU
        obtain ⟨H4, eH4⟩ : ∃ H4, H4 = upd H2 U (.tup [.int ((i : Nat) : Int), .ref a]) := ⟨_, rfl⟩
        rw [← eH4] at sU ⊢
        have sGG : Same H H4 := (sA.trans (s2.trans del_sub)).trans sU
        have hT4 : SqT K H4 U [.int ((i : Nat) : Int), .ref a] := .inl (.inl (by rw [eH4, upd_same]))
        refine ⟨U, _, rfl, hT4, rfl, .int ((i : Nat) : Int), [.ref a], rfl, .ref a, [], rfl, ⟨a, _, rfl, .inl (.inl (sGG _ _ ha)), rfl, .str sw.1, [.ref l], rfl, .ref l, [], rfl, rfl, rfl, ?_⟩⟩
        dsimp only [tSeq]
        refine ⟨_, rfl, _, rfl, _, _, rfl, rfl, .inl ⟨by decide, by decide⟩, _, _, rfl, rfl, _, rfl, _, _, rfl, rfl, c, _, rfl, by omega, ?_⟩
        obtain ⟨B, eB⟩ : ∃ B, B = mixF c (61 + 8 * ((j : Nat) : Int) + ((i : Nat) : Int)) := ⟨_, rfl⟩
        dsimp only [gName]
        rw [← eB]
        have hl4 := sGG _ _ hl2
        have hst := hx.st sw hswm
        have hst4 := hst.l4
        refine ⟨_, rfl, l, sw.2.map V.str, rfl, .inl (.inl hl4), fun D nD => ?_⟩
        refine lc_gen walk_enum (fun k => decide (V.int (Builtin.bitAnd (B / 2 ^ ((k : Nat) : Int).toNat) 1) = V.int 1)) (fun k _ y => y = V.str (sw.2.getD k "")) (by rw [List.length_map]; omega) nD (fun _ _ _ _ _ z => z) (fun G sG => .inl (.inl (sG _ _ hl4))) ?_ ?_
        · rintro k x G G' M no yes hk sG _ ⟨W, x, y, rfl, nW, rfl, hx2, hy2⟩
          obtain rfl : x = V.int ((k : Nat) : Int) := (Option.some.inj hx2).symm
          obtain ⟨z, hz, rfl⟩ := map_get hy2
          refine ⟨W, _, rfl, .inl (.inl upd_same), rfl, .int ((k : Nat) : Int), [.str z], rfl, .str z, [], rfl, rfl, rfl, ?_⟩
          refine ⟨_, rfl, _, rfl, _, _, rfl, rfl, (show (0 : Int) ≤ ((k : Nat) : Int) by omega), _, _, rfl, rfl, rfl, decide (V.int (Builtin.bitAnd (B / 2 ^ ((k : Nat) : Int).toNat) 1) = V.int 1), rfl, ?_⟩
          cases hp : decide (V.int (Builtin.bitAnd (B / 2 ^ ((k : Nat) : Int).toNat) 1) = V.int 1) with
          | false => exact iteF (no hp _ (same_upd nW))
          | true => exact iteT ⟨_, rfl, yes hp _ _ (same_upd nW) (by rw [List.getD_eq_getElem?_getD, hz]; rfl)⟩
        · intro G ys sG hD hys
          rw [List.length_map] at hys
          have eys := flt_strs hys
          obtain ⟨ss, ess⟩ : ∃ ss, ss = flt (fun k => decide (V.int (Builtin.bitAnd (B / 2 ^ ((k : Nat) : Int).toNat) 1) = V.int 1)) sw.2 "" := ⟨_, rfl⟩
          rw [← ess] at eys
          have hss : ss.Sublist sw.2 := by rw [ess]; exact flt_sub _ _ _
          rw [eys] at hD
          have s4G : Same H4 G := sG.trans del_sub
          have s2G : Same H2 G := sU.trans s4G
          have e2 : sws.take (i + 1) = sws.take i ++ [sw] := by rw [List.take_add_one, hsw]; rfl
          have hDd : D ≠ d := (ne_of_none (sU _ _ hd) nD).symm
          have hsub1 : (rule.map (·.1)).Sublist ((sws.take (i + 1)).map (·.1)) := by
            rw [e2, List.map_append]
            exact hsub.trans (List.sublist_append_left _ _)
          dsimp only [gName]
          refine if_s (a := (!PyData.eqv (.list (ss.map PyData.str)) (.list [])) && decide ((0 : Int) < B / 16 % 3)) (fun Q h => and_s (a := !PyData.eqv (.list (ss.map PyData.str)) (.list [])) (b := decide ((0 : Int) < B / 16 % 3)) (fun Q h => ?_) (fun _ H5 Q s5 h => ?_) h) (fun hb H5 s5 => ?_) (fun hb H5 s5 => ?_)
          · exact ⟨_, rfl, Nat.zero_le _, fun z nz => ⟨.list (ss.map .str), .list [], .lst (.inl (.inl ((same_upd nz) _ _ hD))) (dp_strs _), .lst (.inl (.inl upd_same)) .nil, strs_shaped fun x hxm => (hst.wd x (hss.subset hxm)).strOk, strs_shaped (xs := []) (fun x hxm => by cases hxm), _, rfl, h _ (same_upd nz)⟩⟩
          · exact ⟨_, rfl, _, _, rfl, rfl, ⟨by decide, by decide⟩, _, _, rfl, rfl, (show (0 : Int) < 3 by decide), _, _, rfl, rfl, _, rfl, h _ s5⟩
          · have s25 : Same H2 H5 := s2G.trans s5
            have hd5 := s25 _ _ hd
            have hlt : acc.length < sizeLine := by
              have h1 := hacc.length
              have h2 := hsub.length_le
              rw [List.length_map, List.length_map, List.length_take] at h2
              exact small1000 (by omega)
            have hnew : valV acc (.inr sw.1) = none := by
              rcases pair_look Sum.inr inr_inj (fun _ _ z => z.1) sw.1 hacc with ⟨_, z⟩ | ⟨b, v, h1, _⟩
              · exact z
              · exfalso
                have h3 := hsub.subset (List.mem_map_of_mem (f := (·.1)) (look_some h1))
                rw [List.map_take] at h3
                exact nodup_take hx.nd (by rw [List.getElem?_map, hsw]; rfl) h3
            refine ⟨_, rfl, _, rfl, _, rfl, d, _, rfl, DPut.k (k := .inr sw.1) hd5 hlt, ?_⟩
            rw [putK_new _ hnew]
            refine ⟨by rw [del_upd]; exact s2.trans (del_mono s25), ⟨rule ++ [(sw.1, ss)], _, upd_same, ?_, ?_, ?_⟩, _, _, _, _, _, _, _, rfl⟩
            · rw [del_upd]
              exact papp (pmap hacc fun _ _ z => z.same (del_mono s25)) (.cons ⟨rfl, D, rfl, by rw [del_ne hDd]; exact s5 _ _ hD⟩ .nil)
            · rw [e2, List.map_append, List.map_append]
              exact hsub.append (List.Sublist.refl _)
            · intro e he
              rcases List.mem_append.mp he with z | z
              · exact hge e z
              · rw [List.mem_singleton] at z
                subst z
                refine ⟨sw.2, look_nodup hx.nd hswm, fun z => ?_, hss.nodup hst.nd, fun x hxm => hss.subset hxm, ?_⟩
                · have z' : ss = [] := z
                  rw [z'] at hb
                  cases hb
                · have := hss.length_le
                  show ss.length ≤ 4
                  omega
          · have s25 : Same H2 H5 := s2G.trans s5
            exact ⟨s2.trans (del_mono s25), ⟨rule, acc, s25 _ _ hd, pmap hacc fun _ _ z => z.same (del_mono s25), hsub1, hge⟩, _, _, _, _, _, _, _, rfl⟩
      · rintro σ H2 ⟨s2, ⟨rule, acc, hd, hacc, hsub, hge⟩, v5, v6, v7, v8, v9, v10, v11, rfl⟩
        rw [hlen, List.take_length] at hsub
        have sH2 : Same H' H2 := s2.trans del_sub
        dsimp only
        refine if_s (a := !acc.isEmpty) (fun Q h => ⟨_, rfl, fun z nz => ⟨d, z, acc, rfl, rfl, (same_upd nz) _ _ hd, upd_same, _, rfl, h _ (same_upd nz)⟩⟩) (fun hb H3 s3 => ?_) (fun hb H3 s3 => ?_)
        · have s23 : Same H' H3 := sH2.trans s3
          have hf3 := s23 _ _ hf
          have hlt : ws.length < sizeLine := by
            have h1 := hws.length
            exact small1000 (by omega)
          refine ⟨_, rfl, .inl ⟨rfl, _, .inl (.inl hf3)⟩, _, rfl, f, ws, _, rfl, rfl, hf3, hlt, by rw [del_upd]; exact s1.trans (del_mono s23), ⟨rs ++ [rule], _, upd_same, ?_, ?_, ?_⟩, _, _, _, _, _, _, _, _, _, rfl⟩
          · rw [del_upd]
            refine papp (pmap hws fun _ _ z => z.same (del_mono s23)) (.cons ?_ .nil)
            refine rule_del ⟨d, acc, rfl, s3 _ _ hd, pmap hacc fun _ _ z => (z.same del_sub).same s3⟩ hf3 (fun v hv => ?_) fun e he => (hge e he).ex.choose_spec.2.1
            obtain ⟨_, _, a, _, h1, _⟩ := pmem hws hv
            exact ⟨a, h1⟩
          · rw [List.length_append]
            exact Nat.add_le_add_right hrl 1
          · intro r hr0
            rcases List.mem_append.mp hr0 with z | z
            · exact hgr r z
            · rw [List.mem_singleton] at z
              subst z
              refine ⟨fun z => ?_, ?_, hsub.nodup hx.nd, fun e he => (hge e he).ex⟩
              · rw [z] at hacc
                cases hacc
                cases hb
              · have := hsub.length_le
                rw [List.length_map, List.length_map] at this
                omega
        · have s23 : Same H' H3 := sH2.trans s3
          exact ⟨s1.trans (del_mono s23), ⟨rs, ws, s23 _ _ hf, pmap hws fun _ _ z => z.same (del_mono s23), by omega, hgr⟩, _, _, _, _, _, _, _, _, _, rfl⟩
    · rintro σ H' ⟨s1, ⟨rs, ws, hf, hws, hrl, hgr⟩, v3, v4, v5, v6, v7, v8, v9, v10, v11, rfl⟩
      exact ⟨_, rfl, q H' f rs (s1.trans del_sub) ⟨ws, hf, pmap hws fun _ _ z => z.same del_sub⟩ ⟨by omega, hgr⟩⟩
end
end ML

set_option Elab.async false
set_option linter.all false
set_option maxRecDepth 100000
set_option maxHeartbeats 4000000
namespace ML
open PySem PySem.Spec PyProof.Rows L2 MM
def mk (cs : List Nat) : Str := ⟨cs.toArray⟩
def one (c : Nat) : Str := ⟨#[c]⟩
theorem mk_len (cs : List Nat) : (mk cs).length = cs.length := by
  show cs.toArray.size = _
  simp
theorem mk_cps (cs : List Nat) : (mk cs).cps.toList = cs := by
  show cs.toArray.toList = _
  simp
theorem mk_inj {a b : List Nat} (h : mk a = mk b) : a = b := by
  rw [← mk_cps a, ← mk_cps b, h]
theorem join_ones (cs : List Nat) : Txt.join "" (cs.map one) = mk cs := by
  have h := PyProof.Rows.join_nil_signs (mk cs)
  have e : PyProof.Rows.signs (mk cs) = cs.map one := by
    show (mk cs).cps.toList.map _ = _
    rw [mk_cps]; rfl
  rw [e] at h
  exact (PySem.StrLaws.glued_eq_join _ _).trans h
theorem ones_sum : ∀ cs : List Nat, ((cs.map one).map (·.length)).sum = cs.length
  | [] => rfl
  | c :: r => by
    rw [List.map_cons, List.map_cons, List.sum_cons, ones_sum r, List.length_cons]
    show 1 + r.length = _
    omega
theorem cut_mk (cs : List Nat) (n : Nat) : cutS (mk cs) none (some (n : Int)) = mk (cs.take n) := by
  unfold cutS
  rw [HT.sIx_none, HT.sIx_nat, mk_cps, mk_len, List.drop_zero, Nat.sub_zero]
  by_cases h : n ≤ cs.length
  · rw [Nat.min_eq_left h]; rfl
  · rw [Nat.min_eq_right (by omega), List.take_length, List.take_of_length_le (by omega)]; rfl
/-- the sign at a number's place, counted round -/
def sgn (signs : Str) (i : Int) : Nat := signs.cps.toList.getD (i % (signs.length : Int)).toNat 0
theorem sgn_at {signs : Str} (h : 0 < signs.length) (i : Int) : atI signs.cps.toList (i % (signs.length : Int)) = some (sgn signs i) ∧ (i % (signs.length : Int)).toNat < signs.cps.toList.length := by
  have h0 := Int.emod_nonneg i (show (signs.length : Int) ≠ 0 by omega)
  have h1 := Int.emod_lt_of_pos i (show (0 : Int) < (signs.length : Int) by omega)
  have hl : signs.cps.toList.length = signs.length := by rw [Array.length_toList]; rfl
  have h2 : (i % (signs.length : Int)).toNat < signs.cps.toList.length := by omega
  refine ⟨?_, h2⟩
  have e : i % (signs.length : Int) = (((i % (signs.length : Int)).toNat : Nat) : Int) := by omega
  rw [e, atI_nat h2]
  unfold sgn
  rw [List.getD_eq_getElem?_getD, List.getElem?_eq_getElem h2]; rfl
theorem sgn_mem {signs : Str} (h : 0 < signs.length) (i : Int) : sgn signs i ∈ signs.cps.toList := by
  have h2 := (sgn_at h i).2
  unfold sgn
  rw [List.getD_eq_getElem?_getD, List.getElem?_eq_getElem h2]
  exact List.getElem_mem h2
theorem sgn_inj {signs : Str} (h : 0 < signs.length) (nd : signs.cps.toList.Nodup) {m : Int} {a b : Nat} (hab : a < b) (hb : b ≤ signs.length - 1) (e : sgn signs (m + (a : Int)) = sgn signs (m + (b : Int))) : False := by
  have h2 := (sgn_at h (m + (a : Int))).2
  have h3 := (sgn_at h (m + (b : Int))).2
  unfold sgn at e
  rw [List.getD_eq_getElem?_getD, List.getD_eq_getElem?_getD, List.getElem?_eq_getElem h2, List.getElem?_eq_getElem h3] at e
  have e1 : ((m + (a : Int)) % (signs.length : Int)).toNat = ((m + (b : Int)) % (signs.length : Int)).toNat := by
    rcases Nat.lt_trichotomy ((m + (a : Int)) % (signs.length : Int)).toNat ((m + (b : Int)) % (signs.length : Int)).toNat with q | q | q
    · exact absurd e ((List.pairwise_iff_getElem.mp nd) _ _ h2 h3 q)
    · exact q
    · exact absurd e.symm ((List.pairwise_iff_getElem.mp nd) _ _ h3 h2 q)
  have p1 := Int.emod_nonneg (m + (a : Int)) (show (signs.length : Int) ≠ 0 by omega)
  have p2 := Int.emod_nonneg (m + (b : Int)) (show (signs.length : Int) ≠ 0 by omega)
  have e2 : (m + (b : Int)) % (signs.length : Int) = (m + (a : Int)) % (signs.length : Int) := by omega
  have e3 := Int.emod_eq_emod_iff_emod_sub_eq_zero.mp e2
  have e4 : m + (b : Int) - (m + (a : Int)) = ((b - a : Nat) : Int) := by omega
  rw [e4, Int.emod_eq_of_lt (by omega) (by omega)] at e3
  omega
/-- what the words are made of -/
structure Spelt (signs : Str) (L : Nat) (x : Str) : Prop where
  pos : 1 ≤ x.length
  le : x.length ≤ L
  ok : okS signs x
def w1 (c : Int) (signs : Str) (L : Nat) : List Nat := (List.range L).map fun (j : Nat) => sgn signs (mixF c (2 + (j : Int)))
def st2 (c : Int) (at_ : Int) (k j : Nat) : Int := mixF c (22 + (j : Int)) + (k : Int) * (if decide (V.int (j : Int) = V.int at_) = true then 1 else 0)
def w2 (c : Int) (signs : Str) (long : Nat) (at_ : Int) (k : Nat) : List Nat := (List.range long).map fun (j : Nat) => sgn signs (st2 c at_ k j)
theorem nodup_range {α : Type} (f : Nat → α) (M : Nat) (h : ∀ a b, a < b → b < M → f a ≠ f b) : ((List.range M).map f).Nodup := by
  refine List.pairwise_map.mpr ?_
  have h1 : (List.range M).Pairwise (· < ·) := List.pairwise_lt_range
  refine List.Pairwise.imp_of_mem (fun {a b} ha hb hab => ?_) h1
  exact h a b hab (List.mem_range.mp hb)
theorem words1 {c : Int} {signs : Str} {L M : Nat} (hs : 0 < signs.length) (hM : M ≤ L) : ((List.range M).map fun k => mk ((w1 c signs L).take (L - k))).Nodup ∧ ∀ x ∈ (List.range M).map fun k => mk ((w1 c signs L).take (L - k)), Spelt signs L x := by
  have hl : (w1 c signs L).length = L := by unfold w1; rw [List.length_map, List.length_range]
  refine ⟨nodup_range _ _ fun a b hab hb e => ?_, fun x hx => ?_⟩
  · have := congrArg List.length (mk_inj e)
    rw [List.length_take, List.length_take, hl] at this
    omega
  · obtain ⟨k, hk, rfl⟩ := List.mem_map.mp hx
    have hk' := List.mem_range.mp hk
    refine ⟨?_, ?_, fun y hy => ?_⟩
    · rw [mk_len, List.length_take, hl]; omega
    · rw [mk_len, List.length_take, hl]; omega
    · rw [mk_cps] at hy
      have hy2 := List.mem_of_mem_take hy
      unfold w1 at hy2
      obtain ⟨j, _, rfl⟩ := List.mem_map.mp hy2
      exact sgn_mem hs _
theorem words2 {c : Int} {signs : Str} {L long M : Nat} {at_ : Nat} (hs : 0 < signs.length) (nd : signs.cps.toList.Nodup) (hM : M ≤ signs.length) (h1 : at_ < long) (h2 : long ≤ L) : ((List.range M).map fun k => mk (w2 c signs long (at_ : Int) k)).Nodup ∧ ∀ x ∈ (List.range M).map fun k => mk (w2 c signs long (at_ : Int) k), Spelt signs L x := by
  have hl : ∀ k, (w2 c signs long (at_ : Int) k).length = long := fun k => by unfold w2; rw [List.length_map, List.length_range]
  refine ⟨nodup_range _ _ fun a b hab hb e => ?_, fun x hx => ?_⟩
  · have e1 : (w2 c signs long (at_ : Int) a)[at_]? = (w2 c signs long (at_ : Int) b)[at_]? := by rw [mk_inj e]
    have g : ∀ k, (w2 c signs long (at_ : Int) k)[at_]? = some (sgn signs (mixF c (22 + (at_ : Int)) + (k : Int))) := fun k => by
      unfold w2
      rw [List.getElem?_map, List.getElem?_range h1]
      unfold st2
      simp
    rw [g, g] at e1
    exact sgn_inj hs nd hab (by omega) (Option.some.inj e1)
  · obtain ⟨k, hk, rfl⟩ := List.mem_map.mp hx
    refine ⟨by rw [mk_len, hl]; omega, by rw [mk_len, hl]; omega, fun y hy => ?_⟩
    rw [mk_cps] at hy
    unfold w2 at hy
    obtain ⟨j, _, rfl⟩ := List.mem_map.mp hy
    exact sgn_mem hs _
def spSpelt : Sp := fun vs H Q _ => ∃ (c : Int) (signs : Str) (L M : Nat), vs = [.int c, .str signs, .int (L : Int), .int (M : Int)] ∧ 1 ≤ L ∧ L ≤ 12 ∧ M ≤ 8 ∧ M ≤ signs.length ∧ 0 < signs.length ∧ signs.length ≤ 100 ∧ signs.cps.toList.Nodup ∧
  ∀ H' f (ws : List Str), Same H H' → H' f = some (.lst (ws.map V.str)) → ws.length = M → ws.Nodup → (∀ x ∈ ws, Spelt signs L x) → Q (.ref f) H'
section
variable {P : Program} {w : World} {K : PySem.W.Frag} {mg : Str → Option Value} {base : Heap}
theorem ok_l_spelt (T : Txt K mg) : OkF P w K mg base CX0 2 "_law_spelt" ["_law_cell_here", "_law_signs", "_law_longest", "_law_many"] spSpelt := by
  obtain ⟨fd, F⟩ := T.f_law_spelt
  have O_law_mix := ok_mix (P := P) (w := w) (base := base) T
  refine ⟨⟨fd, ?_, F.bindsN fun _ _ _ _ _ _ us hl => match us, hl with | [_, _, _, _], _ => rfl⟩, F.kp, T.g_law_spelt⟩
  refine F.ok sc_law_spelt (fun vs H Q E h => ?_) (fun cdv A outer s H vs Q E hr h => ?_)
  · obtain ⟨_, _, _, _, rfl, _⟩ := h
    rfl
  · obtain ⟨c, signs, L, M, rfl, hL1, hL12, hM8, hMS, hS, hS100, hnd, q⟩ := h
    have nd := sc_law_spelt.nd
    have hsz : signs.length ≤ sizeLine := Nat.le_of_lt (small1000 (by omega))
    refine ⟨_, PSs.nox (pss_cons (ps_if (PW.pt (pw_and (pt_cmpR op_eq (pe_op op_mod (pe_callD O_law_mix hr pass0 (pa_cons (pv 0) (pa_cons pe_int pa_nil))) pe_int) pe_int (nomark _)) (pw_and1 (pt_cmpR op_le (pv 3) (pv 2) (nomark _))))) (pss_cons (ps_sv 4 nd (pe_join pe_str (pe_lc (g := gName 10) (own := [("_law_j", 10)]) (by rfl) nd (pi_range1 (by rfl) T.b_range (pa_cons (pv 2) pa_nil)) (blkOk_by (own := [("_law_j", 10)]) (N := n_law_spelt) (sc := defScope s_law_spelt) (by decide +kernel)) (fun _ _ _ _ _ => (pg_nm 10 nd)) (fun _ _ _ _ _ => pts_nil) (fun _ _ _ _ _ => (pe_ix ix_str (pv 1) (pe_op op_mod (pe_callD O_law_mix hr pass0 (pa_cons (pv 0) (pa_cons (pe_op op_add pe_int (pv 10)) pa_nil))) (pe_callB call_len_str (by rfl) T.b_len PySem.boot_len (pa_cons (pv 1) pa_nil))) (fun _ _ => rfl))))))
        (pss_one (ps_ret (pe_lc (g := gName 8) (own := [("_law_k", 8)]) (by rfl) nd (pi_range1 (by rfl) T.b_range (pa_cons (pv 3) pa_nil)) (blkOk_by (own := [("_law_k", 8)]) (N := n_law_spelt) (sc := defScope s_law_spelt) (by decide +kernel)) (fun _ _ _ _ _ => (pg_nm 8 nd)) (fun _ _ _ _ _ => pts_nil) (fun _ _ _ _ _ => (pe_slice sl_str (pv 4) po_none (po_some (pe_op op_sub (pv 2) (pv 8))))))))) pss_nil)
      (pss_cons (ps_sv 5 nd (pe_op op_add pe_int (pe_op op_mod (pe_callD O_law_mix hr pass0 (pa_cons (pv 0) (pa_cons pe_int pa_nil))) (pv 2))))
      (pss_cons (ps_sv 6 nd (pe_op op_mod (pe_callD O_law_mix hr pass0 (pa_cons (pv 0) (pa_cons pe_int pa_nil))) (pv 5)))
      (pss_cons (ps_sv 7 nd (pe_lst pa_nil))
      (pss_cons (ps_for PassesOwn.never rfl (pi_range1 (by rfl) T.b_range (pa_cons (pv 3) pa_nil)) (pg_nm 8 nd)
        (pss_cons (ps_setLc (i := 9) (g := gName 10) (own := [("_law_j", 10)]) (by rfl) nd rfl rfl (sw_true rfl rfl rfl (by decide +kernel)) (pi_range1 (by rfl) T.b_range (pa_cons (pv 5) pa_nil)) (blkOk_by (own := [("_law_j", 10)]) (N := n_law_spelt) (sc := defScope s_law_spelt) (by decide +kernel)) (fun _ _ _ _ _ => (pg_nm 10 nd)) (fun _ _ _ _ _ => pts_nil) (fun _ _ _ _ _ => (pe_op op_add (pe_callD O_law_mix hr pass0 (pa_cons (pv 0) (pa_cons (pe_op op_add pe_int (pv 10)) pa_nil))) (pe_op op_mul (pv 8) (pe_callTy call_int1 (by rfl) T.b_int (by decide +kernel) (pa_cons (pe_cmpR op_eq (pv 10) (pv 6) (nomark _)) pa_nil))))))
        (pss_one (ps_expr (pe_bm PySem.F.plainAttrs_list PySem.F.slot_list_append PySem.F.type_list_append mt_append (pv 7) (pa_cons (pe_join pe_str (pe_lc (g := gName 11) (own := [("_law_step", 11)]) (by rfl) nd (pi_list (pv 9)) (blkOk_by (own := [("_law_step", 11)]) (N := n_law_spelt) (sc := defScope s_law_spelt) (by decide +kernel)) (fun _ _ _ _ _ => (pg_nm 11 nd)) (fun _ _ _ _ _ => pts_nil) (fun _ _ _ _ _ => (pe_ix ix_str (pv 1) (pe_op op_mod (pv 11) (pe_callB call_len_str (by rfl) T.b_len PySem.boot_len (pa_cons (pv 1) pa_nil))) (fun _ _ => rfl))))) pa_nil))))))
      (pss_one (ps_ret (pv 7)))))))), ?_⟩
    dsimp only [tSeq]
    refine if_t (a := decide (V.int (mixF c 1 % 3) = V.int 0) && decide ((M : Int) ≤ (L : Int))) (fun Q h => and_t (a := decide (V.int (mixF c 1 % 3) = V.int 0)) (b := decide ((M : Int) ≤ (L : Int))) (fun Q h => ?_) (fun _ Q h => ?_) h) (fun hb => ?_) (fun hb => ?_)
    · exact ⟨_, rfl, c, 1, rfl, by decide, _, _, rfl, rfl, (show (0 : Int) < 3 by decide), rfl, _, rfl, h⟩
    · exact ⟨_, rfl, _, rfl, _, _, rfl, rfl, _, rfl, h⟩
    · have hML : M ≤ L := by
        have h2 : decide ((M : Int) ≤ (L : Int)) = true := by
          cases z : decide ((M : Int) ≤ (L : Int)) with
          | true => rfl
          | false => rw [z, Bool.and_false] at hb; cases hb
        have := of_decide_eq_true h2
        omega
      dsimp only [tSeq]
      have hLn : ((L : Nat) : Int).toNat = L := Int.toNat_natCast _
      have hMn : ((M : Nat) : Int).toNat = M := Int.toNat_natCast _
      refine ⟨⟨_, rfl⟩, _, rfl, _, rfl, by omega, by omega, fun D nD => ?_⟩
      refine lc_gen walk_range0 (fun _ => true) (fun j _ y => y = V.str (one (sgn signs (mixF c (2 + ((j : Nat) : Int)))))) (by omega) nD (fun _ _ _ _ _ z => z) (fun _ _ => trivial) ?_ ?_
      · rintro k x G G' N no yes hk sG _ ⟨rfl, hxx⟩
        subst hxx
        refine ⟨rfl, ?_⟩
        refine yes_t ?_
        refine iteT ?_
        refine ⟨_, rfl, _, rfl, _, rfl, _, _, rfl, rfl, c, _, rfl, by omega, _, rfl, _, rfl, hsz, _, _, rfl, rfl, (show (0 : Int) < (signs.length : Int) by omega), signs, _, _, rfl, rfl, hsz, (sgn_at hS _).1, yes rfl _ _ (Same.refl _) rfl⟩
      · intro G ys sG hD hys
        have eys : ys = (w1 c signs L).map fun x => V.str (one x) := by
          rw [paired_map hys, filter_true, hLn]
          unfold w1
          rw [List.map_map]; rfl
        have eys2 : ys = ((w1 c signs L).map one).map V.str := by rw [eys, List.map_map]; rfl
        have hl : (w1 c signs L).length = L := by unfold w1; rw [List.length_map, List.length_range]
        have hsum := ones_sum (w1 c signs L)
        refine ⟨"", D, (w1 c signs L).map one, rfl, rfl, .inl (.inl (.inl (by rw [hD, eys2]))), by rw [hsum, hl]; show L + _ * 0 ≤ _; omega, ?_⟩
        rw [join_ones]
        refine ⟨_, rfl, _, rfl, by omega, by omega, fun D2 nD2 => ?_⟩
        refine lc_gen walk_range0 (fun _ => true) (fun k _ y => y = V.str (mk ((w1 c signs L).take (L - k)))) (by omega) nD2 (fun _ _ _ _ _ z => z) (fun _ _ => trivial) ?_ ?_
        · rintro k x G2 G' N no yes hk sG2 _ ⟨rfl, hxx⟩
          subst hxx
          rw [hMn] at hk
          refine ⟨rfl, ?_⟩
          refine yes_t ?_
          refine iteT ?_
          refine ⟨_, rfl, _, rfl, _, rfl, _, _, rfl, rfl, _, rfl, _, rfl, ?_, yes rfl _ _ (Same.refl _) ?_⟩
          · rw [mk_len, hl]; exact Nat.le_of_lt (small1000 (by omega))
          · have e : (L : Int) - (k : Int) = ((L - k : Nat) : Int) := by omega
            rw [e, cut_mk]
        · intro G2 zs sG2 hD2 hzs
          have ezs : zs = ((List.range M).map fun k => mk ((w1 c signs L).take (L - k))).map V.str := by
            rw [paired_map hzs, filter_true, hMn, List.map_map]; rfl
          obtain ⟨p1, p2⟩ := words1 (c := c) hS hML
          exact q G2 D2 _ ((sG.trans del_sub).trans (sG2.trans del_sub)) (by rw [hD2, ezs]) (by rw [List.length_map, List.length_range]) p1 p2
    · dsimp only [tNext]
      have hMn : ((M : Nat) : Int).toNat = M := Int.toNat_natCast _
      have a1 := Int.emod_nonneg (mixF c 20) (show ((L : Nat) : Int) ≠ 0 by omega)
      have a2 := Int.emod_lt_of_pos (mixF c 20) (show (0 : Int) < ((L : Nat) : Int) by omega)
      refine ⟨_, rfl, c, 20, rfl, by decide, _, rfl, _, _, rfl, rfl, (show (0 : Int) < ((L : Nat) : Int) by omega), _, _, rfl, rfl, ?_⟩
      obtain ⟨long, elong⟩ : ∃ long : Nat, ((long : Nat) : Int) = 1 + mixF c 20 % ((L : Nat) : Int) := ⟨(1 + mixF c 20 % ((L : Nat) : Int)).toNat, by omega⟩
      dsimp only [gName]
      rw [← elong]
      have hlong1 : 1 ≤ long := by omega
      have hlong2 : long ≤ L := by omega
      have b1 := Int.emod_nonneg (mixF c 21) (show ((long : Nat) : Int) ≠ 0 by omega)
      have b2 := Int.emod_lt_of_pos (mixF c 21) (show (0 : Int) < ((long : Nat) : Int) by omega)
      refine ⟨_, rfl, c, 21, rfl, by decide, _, rfl, _, _, rfl, rfl, (show (0 : Int) < ((long : Nat) : Int) by omega), ?_⟩
      obtain ⟨at_, eat⟩ : ∃ at_ : Nat, ((at_ : Nat) : Int) = mixF c 21 % ((long : Nat) : Int) := ⟨(mixF c 21 % ((long : Nat) : Int)).toNat, by omega⟩
      dsimp only [gName]
      rw [← eat]
      have hat : at_ < long := by omega
      have hlongn : ((long : Nat) : Int).toNat = long := Int.toNat_natCast _
      refine ⟨Nat.zero_le _, fun f nf => ?_⟩
      refine ⟨_, rfl, _, rfl, by omega, by omega, for_it walk_range0 (fun k σ H' => Same H (del H' f) ∧ H' f = some (.lst ((List.range k).map fun k => V.str (mk (w2 c signs long (at_ : Int) k)))) ∧ ∃ v8 v9 v10 v11, σ = [some (.int c), some (.str signs), some (.int (L : Int)), some (.int (M : Int)), none, some (.int (long : Int)), some (.int (at_ : Int)), some (.ref f), v8, v9, v10, v11]) ⟨by rw [del_upd, del_none nf]; exact Same.refl _, by rw [upd_same]; rfl, none, none, none, none, rfl⟩ (fun _ _ _ _ _ => trivial) ?_ ?_⟩
      · rintro k x σ H1 H' hk ⟨s1, hf, v8, v9, v10, v11, rfl⟩ ⟨rfl, hxx⟩
        subst hxx
        rw [hMn] at hk
        dsimp only [tSeq]
        refine ⟨_, rfl, _, rfl, by omega, by omega, fun D nD => ?_⟩
        refine lc_gen walk_range0 (fun _ => true) (fun j _ y => y = V.int (st2 c (at_ : Int) k j)) (by omega) nD (fun _ _ _ _ _ z => z) (fun _ _ => trivial) ?_ ?_
        · rintro j x G G' N no yes hj sG _ ⟨rfl, hxx⟩
          subst hxx
          refine ⟨rfl, ?_⟩
          refine yes_t ?_
          refine iteT ?_
          refine ⟨_, rfl, _, rfl, _, _, rfl, rfl, c, _, rfl, by omega, _, rfl, _, rfl, _, rfl, rfl, .inr ⟨_, rfl, _, _, rfl, rfl, .inl ⟨by omega, by omega⟩, _, _, rfl, rfl, yes rfl _ _ (Same.refl _) rfl⟩⟩
        · intro G ys sG hD hys
          have eys : ys = (List.range long).map fun j => V.int (st2 c (at_ : Int) k j) := by
            rw [paired_map hys, filter_true, hlongn]
          have s2 : Same H' G := sG.trans del_sub
          have hf2 := s2 _ _ hf
          dsimp only [gName]
          refine ⟨_, rfl, .inl ⟨rfl, _, .inl (.inl hf2)⟩, ⟨_, rfl⟩, _, rfl, D, rfl, ⟨ys, .inl (.inl hD)⟩, fun D2 nD2 => ?_⟩
          have hyl : ys.length = long := by rw [eys, List.length_map, List.length_range]
          refine lc_gen walk_list (fun _ => true) (fun j _ y => y = V.str (one (sgn signs (st2 c (at_ : Int) k j)))) (by omega) nD2 (fun _ _ _ _ _ z => z) (fun G2 sG2 => .inl (.inl (sG2 _ _ hD))) ?_ ?_
          · rintro j x G2 G3 N no yes hj sG2 _ ⟨rfl, hxx⟩
            rw [eys, List.getElem?_map, List.getElem?_range (by omega)] at hxx
            obtain rfl : V.int (st2 c (at_ : Int) k j) = x := Option.some.inj hxx
            refine ⟨rfl, ?_⟩
            refine yes_t ?_
            refine iteT ?_
            refine ⟨_, rfl, _, rfl, _, rfl, _, rfl, hsz, _, _, rfl, rfl, (show (0 : Int) < (signs.length : Int) by omega), signs, _, _, rfl, rfl, hsz, (sgn_at hS _).1, yes rfl _ _ (Same.refl _) rfl⟩
          · intro G2 zs sG2 hD2 hzs
            have ezs : zs = ((w2 c signs long (at_ : Int) k).map one).map V.str := by
              rw [paired_map hzs, filter_true, hyl]
              unfold w2
              rw [List.map_map, List.map_map]; rfl
            have hl : (w2 c signs long (at_ : Int) k).length = long := by unfold w2; rw [List.length_map, List.length_range]
            have hsum := ones_sum (w2 c signs long (at_ : Int) k)
            have s3 : Same H' G2 := s2.trans (sG2.trans del_sub)
            have hf3 := s3 _ _ hf
            refine ⟨"", D2, (w2 c signs long (at_ : Int) k).map one, rfl, rfl, .inl (.inl (.inl (by rw [hD2, ezs]))), by rw [hsum, hl]; show long + _ * 0 ≤ _; omega, ?_⟩
            rw [join_ones]
            refine ⟨f, _, _, rfl, rfl, hf3, small1000 (by rw [List.length_map, List.length_range]; omega), by rw [del_upd]; exact s1.trans (del_mono s3), ?_, _, _, _, _, rfl⟩
            rw [upd_same, List.range_succ, List.map_append]; rfl
      · rintro σ H' ⟨s1, hf, v8, v9, v10, v11, rfl⟩
        rw [hMn] at hf
        obtain ⟨p1, p2⟩ := words2 (c := c) (L := L) hS hnd hMS hat hlong2
        refine ⟨_, rfl, q H' f _ (s1.trans del_sub) ?_ (by rw [List.length_map, List.length_range]) p1 p2⟩
        rw [hf, List.map_map]; rfl
end
end ML

set_option Elab.async false
set_option linter.all false
set_option maxRecDepth 100000
set_option maxHeartbeats 4000000
namespace ML
open PySem PySem.Spec PyProof.Rows L2 MM
theorem Spelt.word {x : Str} (h : Spelt letters 8 x) : Word x := ⟨h.pos, h.le, h.ok⟩
theorem letters_len : letters.length = 26 := by decide
theorem letters_nd : letters.cps.toList.Nodup := by decide
theorem dp_nats {K : PySem.W.Frag} {H : Hp} : ∀ ns : List Nat, DpAll K H (natsV ns) (ns.map fun (n : Nat) => PyData.int (n : Int))
  | [] => .nil
  | n :: r => .cons (.int _) (dp_nats r)
theorem nats_shaped (ns : List Nat) : SeqAt.shaped (.list (ns.map fun (n : Nat) => PyData.int (n : Int))) = true := by
  refine shaped_mk (lay_all _ ns fun _ _ => rfl) ?_
  show PyData.depthAll (ns.map fun (n : Nat) => PyData.int (n : Int)) + 1 ≤ 64
  have := depth_all (fun (n : Nat) => PyData.int (n : Int)) 0 ns fun x _ => Nat.le_refl _
  omega
def spLSw : Sp := fun vs H Q _ => ∃ (c : Int) (most : Nat), vs = [.int c, .int (most : Int)] ∧ 4 ≤ most ∧ most ≤ 256 ∧ ∀ H' f sws, Same H H' → SwAt .lst H' f sws → GoodSw sws → Q (.ref f) H'
/-- what a world is -/
structure WorldAt (H : Hp) (wl : Addr) (sws : Sws) (rs : List Sws) (ns : List Nat) : Prop where
  ex : ∃ sl rl fl, H wl = some (.lst [.ref sl, .ref rl, .ref fl]) ∧ SwAt .lst H sl sws ∧ RulesAt H rl rs ∧ H fl = some (.lst (natsV ns))
  sw : GoodSw sws
  ru : GoodRules sws rs
  asc : ns.Pairwise (· < ·)
  free : ∀ n ∈ ns, n < tot sws ∧ barred sws rs n = false
  ne : ns ≠ []
theorem WorldAt.same {H H' : Hp} (s : Same H H') {wl : Addr} {sws : Sws} {rs : List Sws} {ns : List Nat} (h : WorldAt H wl sws rs ns) : WorldAt H' wl sws rs ns := by
  obtain ⟨⟨sl, rl, fl, h1, h2, h3, h4⟩, a, b, c, d, e⟩ := h
  exact ⟨⟨sl, rl, fl, s _ _ h1, h2.same s, h3.same s, s _ _ h4⟩, a, b, c, d, e⟩
def spWorld : Sp := fun vs H Q _ => ∃ (c : Int) (most : Nat), vs = [.int c, .int (most : Int)] ∧ 4 ≤ most ∧ most ≤ 256 ∧ ∀ H' wl sws rs ns, Same H H' → WorldAt H' wl sws rs ns → Q (.ref wl) H'
/-- switches, one by one -/
structure PartSw (sws : Sws) (most : Nat) (ws : List Str) (k : Nat) : Prop where
  le : sws.length ≤ k
  l1 : 1 ≤ k → 1 ≤ sws.length
  most : tot sws ≤ most
  sub : (sws.map (·.1)).Sublist (ws.take k)
  st : ∀ s ∈ sws, GoodSet s.2
section
variable {P : Program} {w : World} {K : PySem.W.Frag} {mg : Str → Option Value} {base : Heap}
theorem ok_l_switches (T : Txt K mg) : OkF P w K mg base CX0 3 "_law_switches" ["_law_cell_here", "_law_most"] spLSw := by
  obtain ⟨fd, F⟩ := T.f_law_switches
  have O_law_mix := ok_mix (P := P) (w := w) (base := base) T
  have O_law_spelt := ok_l_spelt (P := P) (w := w) (base := base) T
  refine ⟨⟨fd, ?_, F.bindsN fun _ _ _ _ _ _ us hl => match us, hl with | [_, _], _ => rfl⟩, F.kp, T.g_law_switches⟩
  refine F.ok sc_law_switches (fun vs H Q E h => ?_) (fun cdv A outer s H vs Q E hr h => ?_)
  · obtain ⟨_, _, rfl, _⟩ := h
    rfl
  · obtain ⟨c, most, rfl, hm4, hm256, q⟩ := h
    have nd := sc_law_switches.nd
    refine ⟨_, PSs.nox (pss_cons (ps_sv 2 nd pe_str)
      (pss_cons (ps_sv 3 nd (pe_callD O_law_spelt hr pass0 (pa_cons (pv 0) (pa_cons (pv 2) (pa_cons pe_int (pa_cons pe_int pa_nil))))))
      (pss_cons (ps_sv 4 nd (pe_lst pa_nil))
      (pss_cons (ps_sv 5 nd pe_int)
      (pss_cons (ps_for PassesOwn.never rfl (pi_range1 (by rfl) T.b_range (pa_cons (pe_op op_add pe_int (pe_op op_mod (pe_callD O_law_mix hr pass0 (pa_cons (pv 0) (pa_cons pe_int pa_nil))) pe_int)) pa_nil)) (pg_nm 6 nd)
        (pss_cons (ps_sv 7 nd (pe_op op_add pe_int (pe_op op_mod (pe_callD O_law_mix hr pass0 (pa_cons (pv 0) (pa_cons (pe_op op_add pe_int (pv 6)) pa_nil))) pe_int)))
        (pss_one (ps_if (pt_cmpR op_le (pe_op op_mul (pv 5) (pv 7)) (pv 1) (nomark _)) (pss_cons (ps_sv 5 nd (pe_op op_mul (pv 5) (pv 7)))
          (pss_one (ps_expr (pe_bm PySem.F.plainAttrs_list PySem.F.slot_list_append PySem.F.type_list_append mt_append (pv 4) (pa_cons (pe_tup (pa_cons (pe_ix ix_list (pv 3) (pv 6) (fun _ _ => rfl)) (pa_cons (pe_callD O_law_spelt hr pass0 (pa_cons (pe_op op_add (pe_op op_add (pv 0) pe_int) (pv 6)) (pa_cons (pv 2) (pa_cons pe_int (pa_cons (pv 7) pa_nil))))) pa_nil))) pa_nil))))) pss_nil))))
      (pss_one (ps_ret (pv 4)))))))), ?_⟩
    dsimp only [tSeq]
    refine ⟨_, rfl, _, rfl, c, letters, 8, 5, rfl, by decide, by decide, by decide, by rw [letters_len]; decide, by rw [letters_len]; decide, by rw [letters_len]; decide, letters_nd, fun H1 wl ws s1 hwl hwlen hwnd hwok => ?_⟩
    refine ⟨Nat.zero_le _, fun f nf => ?_⟩
    have hwf : wl ≠ f := ne_of_none hwl nf
    have m1 := Int.emod_nonneg (mixF c 40) (show (5 : Int) ≠ 0 by decide)
    have m2 := Int.emod_lt_of_pos (mixF c 40) (show (0 : Int) < 5 by decide)
    refine ⟨_, rfl, c, 40, rfl, by decide, _, _, rfl, rfl, (show (0 : Int) < 5 by decide), _, _, rfl, rfl, _, rfl, by omega, by omega, for_it walk_range0 (fun k σ H' => Same H1 (del H' f) ∧ ∃ sws vs, H' f = some (.lst vs) ∧ Paired (SwEnt .lst (del H' f)) vs sws ∧ PartSw sws most ws k ∧ ∃ v6 v7, σ = [some (.int c), some (.int (most : Int)), some (.str letters), some (.ref wl), some (.ref f), some (.int ((tot sws : Nat) : Int)), v6, v7]) ⟨by rw [del_upd, del_none nf]; exact Same.refl _, [], [], upd_same, .nil, ⟨Nat.le_refl _, fun z => absurd z (by decide), by show 1 ≤ most; omega, by simp, fun s hs => by cases hs⟩, none, none, rfl⟩ (fun _ _ _ _ _ => trivial) ?_ ?_⟩
    · rintro k x σ H2 H' hk ⟨s2, sws, vs, hf, hvs, hp, v6, v7, rfl⟩ ⟨rfl, hxx⟩
      subst hxx
      have hk5 : k < 5 := by omega
      have z1 := Int.emod_nonneg (mixF c (41 + ((k : Nat) : Int))) (show (3 : Int) ≠ 0 by decide)
      have z2 := Int.emod_lt_of_pos (mixF c (41 + ((k : Nat) : Int))) (show (0 : Int) < 3 by decide)
      dsimp only [tSeq]
      refine ⟨_, rfl, _, rfl, _, _, rfl, rfl, c, _, rfl, by omega, _, _, rfl, rfl, (show (0 : Int) < 3 by decide), _, _, rfl, rfl, ?_⟩
      obtain ⟨size, esz⟩ : ∃ size : Nat, ((size : Nat) : Int) = 2 + mixF c (41 + ((k : Nat) : Int)) % 3 := ⟨(2 + mixF c (41 + ((k : Nat) : Int)) % 3).toNat, by omega⟩
      dsimp only [gName]
      rw [← esz]
      have hs2 : 2 ≤ size := by omega
      have hs4 : size ≤ 4 := by omega
      refine if_t (a := decide (((tot sws : Nat) : Int) * ((size : Nat) : Int) ≤ (most : Int))) (fun Q h => ⟨_, rfl, _, rfl, _, _, rfl, rfl, .inr ⟨by omega, by omega⟩, _, rfl, _, _, rfl, rfl, _, rfl, h⟩) (fun hb => ?_) (fun hb => ?_)
      · have hle := of_decide_eq_true hb
        have hle2 : tot sws * size ≤ most := by
          have e : ((tot sws * size : Nat) : Int) = ((tot sws : Nat) : Int) * ((size : Nat) : Int) := Int.natCast_mul _ _
          omega
        have hkl : k < ws.length := by omega
        have hwk : ws[k]? = some ws[k] := List.getElem?_eq_getElem hkl
        have hat : atI (ws.map V.str) ((k : Nat) : Int) = some (.str ws[k]) := by
          rw [atI_nat (by rw [List.length_map]; exact hkl), List.getElem?_map, hwk]; rfl
        have sA : Same H1 H' := s2.trans del_sub
        dsimp only [tSeq]
        refine ⟨_, rfl, _, rfl, _, _, rfl, rfl, .inr ⟨by omega, by omega⟩, ?_⟩
        refine ⟨_, rfl, .inl ⟨rfl, _, .inl (.inl hf)⟩, _, rfl, _, rfl, wl, _, _, _, rfl, rfl, .inl (.inl (sA _ _ hwl)), hat, _, rfl, _, _, rfl, rfl, _, rfl, _, _, rfl, rfl, _, rfl, _, rfl, _, letters, 8, size, rfl, by decide, by decide, by omega, by rw [letters_len]; omega, by rw [letters_len]; decide, by rw [letters_len]; decide, letters_nd, fun H3 l2 ws2 s3 hl2 hlen2 hnd2 hok2 => ?_⟩
        refine ⟨(show (2 : Nat) ≤ sizeLine by decide), fun W nW => ?_⟩
        have hf3 := s3 _ _ hf
        have hWf : W ≠ f := (ne_of_none hf3 nW).symm
        have hl2f : l2 ≠ f := fun z => by
          rw [z, hf3] at hl2
          have z2 : vs = ws2.map V.str := by cases hl2; rfl
          cases e3 : ws2 with
          | nil => rw [e3] at hlen2; simp at hlen2; omega
          | cons a b =>
            rw [e3] at z2
            obtain ⟨_, _, a', _, h1, _⟩ := pmem hvs (x := V.str a) (by rw [z2]; simp)
            cases h1
        have s4 : Same H' (upd H3 W (.tup [.str ws[k], .ref l2])) := s3.trans (same_upd nW)
        have hl2W : l2 ≠ W := ne_of_none hl2 nW
        refine ⟨f, vs, _, rfl, rfl, s4 _ _ hf, small1000 (by have := hvs.length; have := hp.le; omega), by rw [del_upd]; exact s2.trans (del_mono s4), sws ++ [(ws[k], ws2)], _, upd_same, ?_, ⟨by rw [List.length_append]; exact Nat.add_le_add_right hp.le 1, fun _ => by rw [List.length_append]; simp, by rw [tot_snoc]; show _ * ws2.length ≤ _; rw [hlen2]; exact hle2, ?_, fun s hs => ?_⟩, some (.int ((k : Nat) : Int)), some (.int ((size : Nat) : Int)), ?_⟩
        · rw [del_upd]
          refine papp (pmap hvs fun _ _ z => z.same (del_mono s4)) (.cons ⟨W, l2, rfl, by rw [del_ne hWf, upd_same], by rw [del_ne hl2f, upd_ne hl2W]; exact hl2⟩ .nil)
        · rw [List.map_append, List.take_add_one, hwk]
          exact hp.sub.append (List.Sublist.refl _)
        · rcases List.mem_append.mp hs with z | z
          · exact hp.st s z
          · rw [List.mem_singleton] at z
            subst z
            exact ⟨by show 2 ≤ ws2.length; omega, by show ws2.length ≤ 4; omega, hnd2, fun x hx => (hok2 x hx).word⟩
        · rw [tot_snoc, hlen2, Int.natCast_mul]; rfl
      · refine ⟨s2, sws, vs, hf, hvs, ⟨by have := hp.le; omega, fun _ => ?_, hp.most, ?_, hp.st⟩, _, _, rfl⟩
        · by_cases hk0 : k = 0
          · exfalso
            subst hk0
            have h0 : sws = [] := List.eq_nil_of_length_eq_zero (by have := hp.le; omega)
            rw [h0] at hb
            have e : ((tot [] : Nat) : Int) = 1 := rfl
            rw [e] at hb
            have := of_decide_eq_false hb
            omega
          · exact hp.l1 (by omega)
        · rw [List.take_add_one]
          exact hp.sub.trans (List.sublist_append_left _ _)
    · rintro σ H' ⟨s2, sws, vs, hf, hvs, hp, v6, v7, rfl⟩
      refine ⟨_, rfl, q H' f sws (s1.trans (s2.trans del_sub)) ⟨vs, hf, pmap hvs fun _ _ z => z.same del_sub⟩ ⟨hp.l1 (by omega), by have := hp.le; omega, ?_, ?_, hp.st, by have := hp.most; omega⟩⟩
      · exact (hp.sub.trans (List.take_sublist _ _)).nodup hwnd
      · exact fun s hs => (hwok s.1 ((hp.sub.trans (List.take_sublist _ _)).subset (List.mem_map_of_mem (f := (·.1)) hs))).word
theorem ok_l_world (T : Txt K mg) : OkF P w K mg base CX0 4 "_law_world" ["_law_cell_here", "_law_most"] spWorld := by
  obtain ⟨fd, F⟩ := T.f_law_world
  have O_law_switches := ok_l_switches (P := P) (w := w) (base := base) T
  have O_law_rules := ok_l_rules (P := P) (w := w) (base := base) T
  have O_law_total := ok_l_total (P := P) (w := w) (base := base) T
  have O_law_barred := ok_l_barred (P := P) (w := w) (base := base) T
  refine ⟨⟨fd, ?_, F.bindsN fun _ _ _ _ _ _ us hl => match us, hl with | [_, _], _ => rfl⟩, F.kp, T.g_law_world⟩
  refine F.ok sc_law_world (fun vs H Q E h => ?_) (fun cdv A outer s H vs Q E hr h => ?_)
  · obtain ⟨_, _, rfl, _⟩ := h
    rfl
  · obtain ⟨c, most, rfl, hm4, hm256, q⟩ := h
    have nd := sc_law_world.nd
    refine ⟨_, PSs.nox (pss_cons (ps_sv 2 nd (pe_callD O_law_switches hr pass0 (pa_cons (pv 0) (pa_cons (pv 1) pa_nil))))
      (pss_cons (ps_sv 3 nd (pe_callD O_law_rules hr pass0 (pa_cons (pv 0) (pa_cons (pv 2) pa_nil))))
      (pss_cons (ps_setLc (i := 4) (g := gName 5) (own := [("_law_number", 5)]) (by rfl) nd rfl rfl (sw_true rfl rfl rfl (by decide +kernel)) (pi_range1 (by rfl) T.b_range (pa_cons (pe_callD O_law_total hr pass0 (pa_cons (pv 2) pa_nil)) pa_nil)) (blkOk_by (own := [("_law_number", 5)]) (N := n_law_world) (sc := defScope s_law_world) (by decide +kernel)) (fun _ _ _ _ _ => (pg_nm 5 nd)) (fun _ _ _ _ _ => (pts_one (pt_not (pt_val (pe_callD O_law_barred hr pass0 (pa_cons (pv 2) (pa_cons (pv 3) (pa_cons (pv 5) pa_nil)))))))) (fun _ _ _ _ _ => (pv 5)))
      (pss_cons (ps_if (pt_cmpR (op_eqD hr.units) (pv 4) (pe_lst pa_nil) (nomark _)) (pss_cons (ps_sv 3 nd (pe_lst pa_nil))
        (pss_one (ps_sv 4 nd (pe_listRg rfl (by rfl) T.b_list (prg_1 (by rfl) T.b_range (pe_callD O_law_total hr pass0 (pa_cons (pv 2) pa_nil))))))) pss_nil)
      (pss_one (ps_ret (pe_lst (pa_cons (pv 2) (pa_cons (pv 3) (pa_cons (pv 4) pa_nil)))))))))), ?_⟩
    refine ⟨_, rfl, _, rfl, c, most, rfl, hm4, hm256, fun H1 sl sws s1 hsl hsw => ?_⟩
    refine ⟨_, rfl, _, rfl, c, sl, sws, rfl, hsl, hsw, fun H2 rl rs s2 hrl hru => ?_⟩
    have htn : ((tot sws : Nat) : Int).toNat = tot sws := Int.toNat_natCast _
    have hm := hsw.most
    refine ⟨_, rfl, sl, sws, rfl, hsl.same s2, hsw, _, rfl, by omega, by omega, fun D nD => ?_⟩
    refine lc_gen walk_range0 (fun k => !barred sws rs k) (fun k _ y => y = V.int ((k : Nat) : Int)) (by omega) nD (fun _ _ _ _ _ z => z) (fun _ _ => trivial) ?_ ?_
    · rintro k x G0 G N no yes hk sG _ ⟨rfl, hxx⟩
      subst hxx
      have s3 : Same H2 G := sG.trans del_sub
      refine ⟨rfl, ?_⟩
      refine ⟨_, rfl, _, rfl, _, rfl, sl, rl, k, sws, rs, rfl, hsl.same (s2.trans s3), hsw, hrl.same s3, hru.le, fun H3 s4 => ⟨_, rfl, ?_⟩⟩
      cases hb : barred sws rs k with
      | true => exact iteF (no (by rw [hb]; rfl) _ s4)
      | false => exact iteT ⟨_, rfl, yes (by rw [hb]; rfl) _ _ s4 rfl⟩
    · intro G ys sG hD hys
      rw [htn] at hys
      have eys : ys = natsV ((List.range (tot sws)).filter fun k => !barred sws rs k) := paired_map hys
      obtain ⟨ns, ens⟩ : ∃ ns, ns = (List.range (tot sws)).filter fun k => !barred sws rs k := ⟨_, rfl⟩
      rw [← ens] at eys
      rw [eys] at hD
      have s3 : Same H2 G := sG.trans del_sub
      have hasc : ns.Pairwise (· < ·) := by rw [ens]; exact List.pairwise_lt_range.sublist List.filter_sublist
      have hfree : ∀ n ∈ ns, n < tot sws ∧ barred sws rs n = false := fun n hn => by
        rw [ens] at hn
        obtain ⟨h1, h2⟩ := List.mem_filter.mp hn
        exact ⟨List.mem_range.mp h1, by simpa using h2⟩
      dsimp only [gName]
      refine if_s (a := PyData.eqv (.list (ns.map fun (n : Nat) => PyData.int (n : Int))) (.list [])) (fun Q h => ?_) (fun hb H3 s4 => ?_) (fun hb H3 s4 => ?_)
      · exact ⟨_, rfl, Nat.zero_le _, fun z nz => ⟨_, .list [], .lst (.inl (.inl ((same_upd nz) _ _ hD))) (dp_nats ns), .lst (.inl (.inl upd_same)) .nil, nats_shaped ns, strs_shaped (xs := []) (fun x hxm => by cases hxm), _, rfl, h _ (same_upd nz)⟩⟩
      · dsimp only [tSeq]
        refine ⟨Nat.zero_le _, fun r0 nr0 => ?_⟩
        have s5 : Same H2 (upd H3 r0 (.lst [])) := s3.trans (s4.trans (same_upd nr0))
        refine ⟨_, rfl, sl, sws, rfl, hsl.same (s2.trans s5), hsw, _, rfl, ?_, fun fl nfl => ?_⟩
        · exact RgOk.of_le (by omega) (by omega) (by omega) (by omega)
        · refine ⟨_, rfl, _, rfl, _, rfl, (show (3 : Nat) ≤ sizeLine by decide), fun W nW => q _ W sws [] (List.range (tot sws)) ((s1.trans s2).trans (s5.trans ((same_upd nfl).trans (same_upd nW)))) ⟨⟨sl, r0, fl, upd_same, hsl.same (s2.trans (s5.trans ((same_upd nfl).trans (same_upd nW)))), ⟨[], ((same_upd nfl).trans (same_upd nW)) _ _ upd_same, .nil⟩, ?_⟩, hsw, ⟨Nat.zero_le _, fun r hr0 => by cases hr0⟩, List.pairwise_lt_range, fun n hn => ⟨List.mem_range.mp hn, rfl⟩, fun z => ?_⟩⟩
          · have : rgV 0 ((tot sws : Nat) : Int) = natsV (List.range (tot sws)) := by
              unfold rgV natsV
              rw [Int.sub_zero, htn]
              exact List.map_congr_left fun i _ => congrArg V.int (Int.zero_add _)
            rw [← this]
            exact (same_upd nW) _ _ upd_same
          · have h1 := tot_pos hsw.pos
            have h2 := congrArg List.length z
            rw [List.length_range] at h2
            simp at h2
            omega
      · have hne : ns ≠ [] := fun z => by rw [z] at hb; cases hb
        dsimp only [tNext]
        exact ⟨_, rfl, _, rfl, _, rfl, (show (3 : Nat) ≤ sizeLine by decide), fun W nW => q _ W sws rs ns ((s1.trans s2).trans (s3.trans (s4.trans (same_upd nW)))) ⟨⟨sl, rl, D, upd_same, hsl.same (s2.trans (s3.trans (s4.trans (same_upd nW)))), hrl.same (s3.trans (s4.trans (same_upd nW))), (s4.trans (same_upd nW)) _ _ hD⟩, hsw, hru, hasc, hfree, hne⟩⟩
end
end ML

set_option Elab.async false
set_option linter.all false
set_option maxRecDepth 100000
set_option maxHeartbeats 4000000
namespace ML
open PySem PySem.Spec PyProof.Rows L2 MM
def tS1 : Str := " !\"#$&'()*+,-./0123456789:;<=>?@ABCDEFGHIJKLMNOPQRSTUVWXYZ[\\]^_`"
def tS2 : Str := "abcdefghijklmnopqrstuvwxyz{|}~"
def tS : Str := tS1 ++ tS2
theorem tS_len : 0 < tS.length ∧ tS.length ≤ 100 := by decide
theorem tS_ok : ∀ c ∈ tS.cps.toList, c < 0x110000 := by decide
def nS : Str := "abcdefghijklmnopqrstuvwxyz0123456789."
theorem nS_len : nS.length = 37 := by decide
theorem nS_nd : nS.cps.toList.Nodup := by decide
theorem nS_ok : ∀ c ∈ nS.cps.toList, c < 0x110000 := by decide
theorem Spelt.strOk {x : Str} (h : Spelt nS 12 x) : PyData.strOk x = true := strOk_of fun c hc => nS_ok c (h.ok c hc)
theorem mk_strOk {cs : List Nat} (h : ∀ c ∈ cs, c < 0x110000) : PyData.strOk (mk cs) = true := strOk_of fun c hc => h c (by rw [mk_cps] at hc; exact hc)
def spText : Sp := fun vs H Q _ => ∃ c : Int, vs = [.int c] ∧ ∀ H' (x : Str), Same H H' → PyData.strOk x = true → x.length ≤ 60 → Q (.str x) H'
def spCont (K : PySem.W.Frag) : Sp := fun vs H Q _ => ∃ (kind : Str) (c : Int), vs = [.str kind, .int c] ∧ ∀ H' v (ct : Ct), Same H H' → Dp K H' v ct.d → ct.ok → Q v H'
def spLNames : Sp := fun vs H Q _ => ∃ (c : Int) (M : Nat), vs = [.int c, .int (M : Int)] ∧ M ≤ 8 ∧ ∀ H' f (ws : List Str), Same H H' → H' f = some (.lst (ws.map V.str)) → ws.length = M → ws.Nodup → (∀ x ∈ ws, Spelt nS 12 x) → Q (.ref f) H'
def spVar : Sp := fun vs H Q _ => ∃ (c : Int) (sl : Addr) (n M : Nat) (sws : Sws), vs = [.int c, .ref sl, .int (n : Int), .int (M : Int)] ∧ 1 ≤ M ∧ SwAt .lst H sl sws ∧ GoodSw sws ∧ ∀ H' (v : Nat), Same H H' → v < M → Q (.int (v : Int)) H'
theorem pick5 {i : Int} (h0 : 0 ≤ i) (h1 : i < 5) : ∃ n : Nat, n ≤ 60 ∧ atI [V.int 0, V.int 1, V.int 2, V.int 5, V.int 60] i = some (.int (n : Int)) := by
  have : i = 0 ∨ i = 1 ∨ i = 2 ∨ i = 3 ∨ i = 4 := by omega
  rcases this with rfl | rfl | rfl | rfl | rfl
  · exact ⟨0, by decide, rfl⟩
  · exact ⟨1, by decide, rfl⟩
  · exact ⟨2, by decide, rfl⟩
  · exact ⟨5, by decide, rfl⟩
  · exact ⟨60, by decide, rfl⟩
theorem paired_strs {α : Type} {ok : Str → Prop} : ∀ {ys : List V} {l : List α}, Paired (fun y _ => ∃ x : Str, y = V.str x ∧ ok x) ys l → ∃ xs : List Str, ys = xs.map V.str ∧ ∀ x ∈ xs, ok x
  | _, _, .nil => ⟨[], rfl, fun x h => by cases h⟩
  | _, _, .cons ⟨x, e, hx⟩ t => by
    obtain ⟨xs, e2, h2⟩ := paired_strs t
    refine ⟨x :: xs, by rw [e, e2]; rfl, fun y hy => ?_⟩
    rcases List.mem_cons.mp hy with z | z
    · rw [z]; exact hx
    · exact h2 y z
theorem dps_of {K : PySem.W.Frag} {H : Hp} {α : Type} {d : α → PyData} : ∀ {vs : List V} {l : List α}, Paired (fun v r => Dp K H v (d r)) vs l → DpAll K H vs (l.map d)
  | _, _, .nil => .nil
  | _, _, .cons r t => .cons r (dps_of t)
section
variable {P : Program} {w : World} {K : PySem.W.Frag} {mg : Str → Option Value} {base : Heap}
theorem ok_l_text (T : Txt K mg) : OkF P w K mg base CX0 2 "_law_text" ["_law_cell_here"] spText := by
  obtain ⟨fd, F⟩ := T.f_law_text
  have O_law_mix := ok_mix (P := P) (w := w) (base := base) T
  refine ⟨⟨fd, ?_, F.bindsN fun _ _ _ _ _ _ us hl => match us, hl with | [_], _ => rfl⟩, F.kp, T.g_law_text⟩
  refine F.ok sc_law_text (fun vs H Q E h => ?_) (fun cdv A outer s H vs Q E hr h => ?_)
  · obtain ⟨_, rfl, _⟩ := h
    rfl
  · obtain ⟨c, rfl, q⟩ := h
    have nd := sc_law_text.nd
    have hS := tS_len.1
    have hsz : tS.length ≤ sizeLine := Nat.le_of_lt (small1000 (by have := tS_len.2; omega))
    refine ⟨_, PSs.nox (pss_cons (ps_sv 1 nd pe_str)
      (pss_cons (ps_sv 1 nd (pe_op op_add_str (pv 1) pe_str))
      (pss_cons (ps_sv 2 nd (pe_ix ix_list (pe_lst (pa_cons pe_int (pa_cons pe_int (pa_cons pe_int (pa_cons pe_int (pa_cons pe_int pa_nil)))))) (pe_op op_mod (pe_callD O_law_mix hr pass0 (pa_cons (pv 0) (pa_cons pe_int pa_nil))) pe_int) (fun _ _ => rfl)))
      (pss_one (ps_ret (pe_join pe_str (pe_lc (g := gName 3) (own := [("_law_j", 3)]) (by rfl) nd (pi_range1 (by rfl) T.b_range (pa_cons (pv 2) pa_nil)) (blkOk_by (own := [("_law_j", 3)]) (N := n_law_text) (sc := defScope s_law_text) (by decide +kernel)) (fun _ _ _ _ _ => (pg_nm 3 nd)) (fun _ _ _ _ _ => pts_nil) (fun _ _ _ _ _ => (pe_ix ix_str (pv 1) (pe_op op_mod (pe_callD O_law_mix hr pass0 (pa_cons (pv 0) (pa_cons (pe_op op_add pe_int (pv 3)) pa_nil))) (pe_callB call_len_str (by rfl) T.b_len PySem.boot_len (pa_cons (pv 1) pa_nil))) (fun _ _ => rfl)))))))))), ?_⟩
    refine ⟨_, rfl, tS1, tS2, rfl, rfl, (show tS.length ≤ sizeLine from hsz), ?_⟩
    have m1 := Int.emod_nonneg (mixF c 301) (show (5 : Int) ≠ 0 by decide)
    have m2 := Int.emod_lt_of_pos (mixF c 301) (show (0 : Int) < 5 by decide)
    obtain ⟨n, hn, hat⟩ := pick5 m1 m2
    have hnn : ((n : Nat) : Int).toNat = n := Int.toNat_natCast _
    refine ⟨(show (5 : Nat) ≤ sizeLine by decide), fun l nl => ?_⟩
    refine ⟨_, rfl, c, 301, rfl, by decide, _, _, rfl, rfl, (show (0 : Int) < 5 by decide), l, _, _, _, rfl, rfl, .inl (.inl upd_same), hat, ?_⟩
    refine ⟨⟨_, rfl⟩, _, rfl, _, rfl, by omega, by omega, fun D nD => ?_⟩
    refine lc_gen walk_range0 (fun _ => true) (fun j _ y => y = V.str (one (sgn tS (mixF c (302 + ((j : Nat) : Int)))))) (by omega) nD (fun _ _ _ _ _ z => z) (fun _ _ => trivial) ?_ ?_
    · rintro k x G G' N no yes hk sG _ ⟨rfl, hxx⟩
      subst hxx
      refine ⟨rfl, ?_⟩
      refine yes_t ?_
      refine iteT ?_
      exact ⟨_, rfl, _, rfl, _, rfl, _, _, rfl, rfl, c, _, rfl, by omega, _, rfl, _, rfl, hsz, _, _, rfl, rfl, (show (0 : Int) < (tS.length : Int) by omega), tS, _, _, rfl, rfl, hsz, (sgn_at hS _).1, yes rfl _ _ (Same.refl _) rfl⟩
    · intro G ys sG hD hys
      obtain ⟨cs, ecs⟩ : ∃ cs, cs = (List.range n).map fun (j : Nat) => sgn tS (mixF c (302 + (j : Int))) := ⟨_, rfl⟩
      have eys : ys = (cs.map one).map V.str := by
        rw [paired_map hys, filter_true, hnn, ecs, List.map_map, List.map_map]; rfl
      have hl : cs.length = n := by rw [ecs, List.length_map, List.length_range]
      have hsum := ones_sum cs
      refine ⟨"", D, cs.map one, rfl, rfl, .inl (.inl (.inl (by rw [hD, eys]))), by rw [hsum, hl]; show n + _ * 0 ≤ _; omega, ?_⟩
      rw [join_ones]
      refine q G (mk cs) ((same_upd nl).trans (sG.trans del_sub)) (mk_strOk fun x hx => ?_) (by rw [mk_len]; omega)
      rw [ecs] at hx
      obtain ⟨j, _, rfl⟩ := List.mem_map.mp hx
      exact tS_ok _ (sgn_mem hS _)
theorem ok_l_names (T : Txt K mg) : OkF P w K mg base CX0 3 "_law_names" ["_law_cell_here", "_law_many"] spLNames := by
  obtain ⟨fd, F⟩ := T.f_law_names
  have O_law_spelt := ok_l_spelt (P := P) (w := w) (base := base) T
  refine ⟨⟨fd, ?_, F.bindsN fun _ _ _ _ _ _ us hl => match us, hl with | [_, _], _ => rfl⟩, F.kp, T.g_law_names⟩
  refine F.ok sc_law_names (fun vs H Q E h => ?_) (fun cdv A outer s H vs Q E hr h => ?_)
  · obtain ⟨_, _, rfl, _⟩ := h
    rfl
  · obtain ⟨c, M, rfl, hM, q⟩ := h
    refine ⟨_, PSs.nox (pss_one (ps_ret (pe_callD O_law_spelt hr pass0 (pa_cons (pv 0) (pa_cons pe_str (pa_cons pe_int (pa_cons (pv 1) pa_nil))))))), ?_⟩
    exact ⟨_, rfl, _, rfl, c, nS, 12, M, rfl, by decide, by decide, hM, by rw [nS_len]; omega, by rw [nS_len]; decide, by rw [nS_len]; decide, nS_nd, q⟩
theorem ok_l_variant (T : Txt K mg) : OkF P w K mg base CX0 2 "_law_variant" ["_law_cell_here", "_law_switches_here", "_law_number", "_law_many"] spVar := by
  obtain ⟨fd, F⟩ := T.f_law_variant
  have O_law_mix := ok_mix (P := P) (w := w) (base := base) T
  have O_law_digits := ok_l_digits (P := P) (w := w) (base := base) T
  refine ⟨⟨fd, ?_, F.bindsN fun _ _ _ _ _ _ us hl => match us, hl with | [_, _, _, _], _ => rfl⟩, F.kp, T.g_law_variant⟩
  refine F.ok sc_law_variant (fun vs H Q E h => ?_) (fun cdv A outer s H vs Q E hr h => ?_)
  · obtain ⟨_, _, _, _, _, rfl, _⟩ := h
    rfl
  · obtain ⟨c, sl, n, M, sws, rfl, hM, ⟨vs, hl, hvs⟩, hx, q⟩ := h
    have hlen : vs.length = sws.length := hvs.length
    have hl1 := hx.l1
    refine ⟨_, PSs.nox (pss_cons (ps_if (pt_cmpR op_eq (pe_op op_mod (pe_callD O_law_mix hr pass0 (pa_cons (pv 0) (pa_cons pe_int pa_nil))) pe_int) pe_int (nomark _)) (pss_one (ps_ret (pe_op op_mod (pe_ix ix_list (pe_callD O_law_digits hr pass0 (pa_cons (pv 1) (pa_cons (pv 2) pa_nil))) (pe_op op_mod (pe_callD O_law_mix hr pass0 (pa_cons (pv 0) (pa_cons pe_int pa_nil))) (pe_callB call_len_seq (by rfl) T.b_len PySem.boot_len (pa_cons (pv 1) pa_nil))) (fun _ _ => rfl)) (pv 3)))) pss_nil)
      (pss_one (ps_ret (pe_op op_mod (pe_callD O_law_mix hr pass0 (pa_cons (pv 0) (pa_cons (pe_op op_add pe_int (pv 2)) pa_nil))) (pv 3))))), ?_⟩
    dsimp only [tSeq]
    have fin : ∀ (i : Int) H', Same H H' → Q (.int (i % (M : Int))) H' := fun i H' s => by
      have a1 := Int.emod_nonneg i (show ((M : Nat) : Int) ≠ 0 by omega)
      have a2 := Int.emod_lt_of_pos i (show (0 : Int) < ((M : Nat) : Int) by omega)
      have e : i % (M : Int) = (((i % (M : Int)).toNat : Nat) : Int) := by omega
      rw [e]
      exact q H' _ s (by omega)
    refine if_t (a := decide (V.int (mixF c 70 % 2) = V.int 0)) (fun Q h => ⟨_, rfl, c, 70, rfl, by decide, _, _, rfl, rfl, (show (0 : Int) < 2 by decide), rfl, _, rfl, h⟩) (fun hb => ?_) (fun hb => ?_)
    · refine ⟨_, rfl, _, rfl, sl, n, sws, rfl, ⟨vs, hl, hvs⟩, hx, fun H1 f s1 hf => ?_⟩
      have b1 := Int.emod_nonneg (mixF c 71) (show ((vs.length : Nat) : Int) ≠ 0 by omega)
      have b2 := Int.emod_lt_of_pos (mixF c 71) (show (0 : Int) < ((vs.length : Nat) : Int) by omega)
      obtain ⟨k, ek⟩ : ∃ k : Nat, ((k : Nat) : Int) = mixF c 71 % ((vs.length : Nat) : Int) := ⟨(mixF c 71 % ((vs.length : Nat) : Int)).toNat, by omega⟩
      have hk : k < (digs sws n).1.length := by rw [digs_len]; omega
      refine ⟨_, rfl, c, 71, rfl, by decide, _, rfl, sl, vs, rfl, .inl (.inl (.inl (s1 _ _ hl))), _, _, rfl, rfl, (show (0 : Int) < ((vs.length : Nat) : Int) by omega), f, _, _, .int (((digs sws n).1[k] : Nat) : Int), rfl, rfl, .inl (.inl hf), ?_, _, rfl, _, _, rfl, rfl, (show (0 : Int) < ((M : Nat) : Int) by omega), fin _ _ s1⟩
      rw [← ek, atI_nat (by unfold natsV; rw [List.length_map]; exact hk)]
      unfold natsV
      rw [List.getElem?_map, List.getElem?_eq_getElem hk]; rfl
    · exact ⟨_, rfl, _, rfl, _, _, rfl, rfl, c, _, rfl, by omega, _, rfl, _, _, rfl, rfl, (show (0 : Int) < ((M : Nat) : Int) by omega), fin _ _ (Same.refl _)⟩
end
end ML

set_option Elab.async false
set_option linter.all false
set_option maxRecDepth 100000
set_option maxHeartbeats 4000000
namespace ML
open PySem PySem.Spec PyProof.Rows L2 MM
theorem cut_len (z : Str) (a b : Option Int) : (cutS z a b).length ≤ z.length := by
  show (cutS z a b).cps.size ≤ z.cps.size
  unfold cutS
  simp only [List.size_toArray, List.length_take, List.length_drop, Array.length_toList]
  omega
theorem cut_ok {z : Str} (h : PyData.strOk z = true) (a b : Option Int) : PyData.strOk (cutS z a b) = true := by
  refine strOk_of fun c hc => ?_
  have h1 : c ∈ z.cps.toList := by
    unfold cutS at hc
    simp only [List.toList_toArray] at hc
    exact List.mem_of_mem_drop (List.mem_of_mem_take hc)
  have h2 : z.cps.all (· < 0x110000) = true := h
  rw [← Array.all_toList, List.all_eq_true] at h2
  exact of_decide_eq_true (h2 c h1)
theorem Keep.del {H : Hp} {d : Addr} {o : HO} (h : H d = some o) (n : ¬ Dat o) : Keep H (L2.del H d) := fun b x e dx => by
  have : b ≠ d := fun z => by
    rw [z, h] at e
    obtain rfl := Option.some.inj e
    exact n dx
  rw [del_ne this]
  exact e
section
variable {P : Program} {w : World} {K : PySem.W.Frag} {mg : Str → Option Value} {base : Heap}
theorem ok_l_content (T : Txt K mg) : OkF P w K mg base CX0 3 "_law_content" ["_law_kind", "_law_cell_here"] (spCont K) := by
  obtain ⟨fd, F⟩ := T.f_law_content
  have O_law_mix := ok_mix (P := P) (w := w) (base := base) T
  have O_law_text := ok_l_text (P := P) (w := w) (base := base) T
  refine ⟨⟨fd, ?_, F.bindsN fun _ _ _ _ _ _ us hl => match us, hl with | [_, _], _ => rfl⟩, F.kp, T.g_law_content⟩
  refine F.ok sc_law_content (fun vs H Q E h => ?_) (fun cdv A outer s H vs Q E hr h => ?_)
  · obtain ⟨_, _, rfl, _⟩ := h
    rfl
  · obtain ⟨kind, c, rfl, q⟩ := h
    have nd := sc_law_content.nd
    refine ⟨_, PSs.nox (pss_cons (ps_if (pt_cmpR op_ne (pv 0) pe_str (nomark _)) (pss_one (ps_ret (pe_callD O_law_text hr pass0 (pa_cons (pv 1) pa_nil)))) pss_nil)
      (pss_cons (ps_sv 2 nd (pe_op op_add pe_int (pe_op op_mod (pe_callD O_law_mix hr pass0 (pa_cons (pv 1) (pa_cons pe_int pa_nil))) pe_int)))
      (pss_cons (ps_sv 3 nd (pe_lst pa_nil))
      (pss_cons (ps_for PassesOwn.never rfl (pi_range1 (by rfl) T.b_range (pa_cons (pe_op op_add pe_int (pe_op op_mod (pe_callD O_law_mix hr pass0 (pa_cons (pv 1) (pa_cons pe_int pa_nil))) pe_int)) pa_nil)) (pg_nm 4 nd)
        (pss_one (ps_expr (pe_bm PySem.F.plainAttrs_list PySem.F.slot_list_append PySem.F.type_list_append mt_append (pv 3) (pa_cons (pe_callTy call_tuple_of (by rfl) T.b_tuple (by decide +kernel) (pa_cons (pe_lc (g := gName 5) (own := [("_law_column", 5)]) (by rfl) nd (pi_range1 (by rfl) T.b_range (pa_cons (pv 2) pa_nil)) (blkOk_by (own := [("_law_column", 5)]) (N := n_law_content) (sc := defScope s_law_content) (by decide +kernel)) (fun _ _ _ _ _ => (pg_nm 5 nd)) (fun _ _ _ _ _ => pts_nil) (fun _ _ _ _ _ => (pe_slice sl_str (pe_callD O_law_text hr pass0 (pa_cons (pe_op op_add (pe_op op_add (pv 1) (pe_op op_mul pe_int (pv 4))) (pe_op op_mul pe_int (pv 5))) pa_nil)) po_none (po_some pe_int)))) pa_nil)) pa_nil)))))
      (pss_one (ps_ret (pe_callTy call_tuple_of (by rfl) T.b_tuple (by decide +kernel) (pa_cons (pv 3) pa_nil)))))))), ?_⟩
    dsimp only [tSeq]
    refine if_t (a := !decide (V.str kind = V.str "table")) (fun Q h => ⟨_, rfl, rfl, _, rfl, h⟩) (fun hb => ?_) (fun hb => ?_)
    · exact ⟨_, rfl, c, rfl, fun H' x s hx hl => q H' _ (.txt x) s (.str x) hx⟩
    · dsimp only [tNext]
      have a1 := Int.emod_nonneg (mixF c 310) (show (3 : Int) ≠ 0 by decide)
      have a2 := Int.emod_lt_of_pos (mixF c 310) (show (0 : Int) < 3 by decide)
      have b1 := Int.emod_nonneg (mixF c 311) (show (3 : Int) ≠ 0 by decide)
      have b2 := Int.emod_lt_of_pos (mixF c 311) (show (0 : Int) < 3 by decide)
      refine ⟨_, rfl, c, 310, rfl, by decide, _, _, rfl, rfl, (show (0 : Int) < 3 by decide), _, _, rfl, rfl, ?_⟩
      obtain ⟨wd, ewd⟩ : ∃ wd : Nat, ((wd : Nat) : Int) = 1 + mixF c 310 % 3 := ⟨(1 + mixF c 310 % 3).toNat, by omega⟩
      dsimp only [gName]
      rw [← ewd]
      refine ⟨Nat.zero_le _, fun f nf => ?_⟩
      refine ⟨_, rfl, c, 311, rfl, by decide, _, _, rfl, rfl, (show (0 : Int) < 3 by decide), _, _, rfl, rfl, _, rfl, by omega, by omega, for_it walk_range0 (fun i σ H' => Same H (L2.del H' f) ∧ (∃ rows ws, H' f = some (.lst ws) ∧ Paired (fun v r => Dp K (L2.del H' f) v (rowD r)) ws rows ∧ rows.length ≤ i ∧ ∀ r ∈ rows, ∀ x ∈ r, PyData.strOk x = true) ∧ ∃ v4 v5, σ = [some (.str kind), some (.int c), some (.int (wd : Int)), some (.ref f), v4, v5]) ⟨by rw [del_upd, del_none nf]; exact Same.refl _, ⟨[], [], upd_same, .nil, Nat.le_refl _, fun r hr => by cases hr⟩, none, none, rfl⟩ (fun _ _ _ _ _ => trivial) ?_ ?_⟩
      · rintro i x σ H1 H' hi ⟨s1, ⟨rows, ws, hf, hws, hrl, hok⟩, v4, v5, rfl⟩ ⟨rfl, hxx⟩
        subst hxx
        refine ⟨_, rfl, .inl ⟨rfl, _, .inl (.inl hf)⟩, _, rfl, _, rfl, by omega, by omega, fun D nD => ?_⟩
        refine lc_gen walk_range0 (fun _ => true) (fun _ _ y => ∃ x : Str, y = V.str x ∧ PyData.strOk x = true) (by omega) nD (fun _ _ _ _ _ z => z) (fun _ _ => trivial) ?_ ?_
        · rintro k x G G' N no yes hk sG _ ⟨rfl, hxx⟩
          subst hxx
          refine ⟨rfl, ?_⟩
          refine yes_t ?_
          refine iteT ?_
          refine ⟨_, rfl, _, rfl, _, _, rfl, rfl, .inl ⟨by decide, by decide⟩, _, _, rfl, rfl, _, rfl, _, _, rfl, rfl, .inl ⟨by decide, by decide⟩, _, _, rfl, rfl, _, rfl, fun H3 z s3 hz hzl => ⟨_, rfl, z, rfl, Nat.le_of_lt (small1000 (by omega)), yes rfl _ _ s3 ⟨_, rfl, cut_ok hz _ _⟩⟩⟩
        · intro G ys sG hD hys
          obtain ⟨xs, exs, hxs⟩ := paired_strs (ok := fun x => PyData.strOk x = true) hys
          have s2 : Same H' G := sG.trans del_sub
          rw [exs] at hD
          refine ⟨D, _, rfl, .inl ⟨.inl (.inl hD), fun U nU => ?_⟩⟩
          have s3 : Same H' (upd G U (.tup (xs.map V.str))) := s2.trans (same_upd nU)
          have hf3 := s3 _ _ hf
          have hUf : U ≠ f := (ne_of_none (s2 _ _ hf) nU).symm
          refine ⟨f, ws, _, rfl, rfl, hf3, small1000 (by have := hws.length; omega), by rw [del_upd]; exact s1.trans (del_mono s3), ⟨rows ++ [xs], _, upd_same, ?_, by rw [List.length_append]; exact Nat.add_le_add_right hrl 1, fun r hr0 => ?_⟩, _, _, rfl⟩
          · rw [del_upd]
            exact papp (pmap hws fun _ _ z => Dp.same (del_mono s3) z) (.cons (.tup (.inl (.inl (by rw [del_ne hUf, upd_same]))) (dp_strs xs)) .nil)
          · rcases List.mem_append.mp hr0 with z | z
            · exact hok r z
            · rw [List.mem_singleton] at z
              rw [z]
              exact hxs
      · rintro σ H' ⟨s1, ⟨rows, ws, hf, hws, hrl, hok⟩, v4, v5, rfl⟩
        refine ⟨_, rfl, f, ws, rfl, .inl ⟨.inl (.inl hf), fun U nU => q _ _ (.tab rows) ((s1.trans del_sub).trans (same_upd nU)) (.tup (.inl (.inl upd_same)) (dps_of (pmap hws fun _ _ z => Dp.same (del_sub.trans (same_upd nU)) z))) hok⟩⟩
end
end ML

set_option Elab.async false
set_option linter.all false
set_option maxRecDepth 100000
set_option maxHeartbeats 4000000
namespace ML
open PySem PySem.Spec PyProof.Rows L2 MM
structure TreeOk (names : List Str) (t : Tree) : Prop where
  sub : (t.map (·.1)).Sublist names
  ok : ∀ p ∈ t, p.2.ok
def spTree (K : PySem.W.Frag) : Sp := fun vs H Q _ => ∃ (c : Int) (v : Nat) (nl : Addr) (names : List Str), vs = [.int c, .int (v : Int), .ref nl] ∧ v ≤ 8 ∧ H nl = some (.lst (names.map V.str)) ∧ names.length ≤ 8 ∧ names.Nodup ∧ (∀ x ∈ names, PyData.strOk x = true) ∧
  ∀ H' d t, Same H H' → TrAt K H' d t → TreeOk names t → Q (.ref d) H'
theorem four {i : Int} (h0 : 0 ≤ i) (h1 : i < 4) : i = 0 ∨ i = 1 ∨ i = 2 ∨ i = 3 := by omega
theorem pickK {i : Int} (h0 : 0 ≤ i) (h1 : i < 4) : ∃ x : Str, PyData.strOk x = true ∧ atI [V.str "chapter", V.str "para", V.str "table", V.str "chapter"] i = some (.str x) := by
  rcases four h0 h1 with rfl | rfl | rfl | rfl
  · exact ⟨_, strOk_of (by decide), rfl⟩
  · exact ⟨_, strOk_of (by decide), rfl⟩
  · exact ⟨_, strOk_of (by decide), rfl⟩
  · exact ⟨_, strOk_of (by decide), rfl⟩
theorem pickR {i : Int} (h0 : 0 ≤ i) (h1 : i < 4) (a b c d : Int) : ∃ x : Int, atI [V.int a, V.int b, V.int c, V.int d] i = some (.int x) := by
  rcases four h0 h1 with rfl | rfl | rfl | rfl
  · exact ⟨_, rfl⟩
  · exact ⟨_, rfl⟩
  · exact ⟨_, rfl⟩
  · exact ⟨_, rfl⟩
section
variable {P : Program} {w : World} {K : PySem.W.Frag} {mg : Str → Option Value} {base : Heap}
theorem ok_l_tree (T : Txt K mg) : OkF P w K mg base CX0 4 "_law_tree" ["_law_cell_here", "_law_variant_here", "_law_names_here"] (spTree K) := by
  obtain ⟨fd, F⟩ := T.f_law_tree
  have O_law_mix := ok_mix (P := P) (w := w) (base := base) T
  have O_law_content := ok_l_content (P := P) (w := w) (base := base) T
  refine ⟨⟨fd, ?_, F.bindsN fun _ _ _ _ _ _ us hl => match us, hl with | [_, _, _], _ => rfl⟩, F.kp, T.g_law_tree⟩
  refine F.ok sc_law_tree (fun vs H Q E h => ?_) (fun cdv A outer s H vs Q E hr h => ?_)
  · obtain ⟨_, _, _, _, rfl, _⟩ := h
    rfl
  · obtain ⟨c, v, nl, names, rfl, hv, hnl, hn8, hnd, hnok, q⟩ := h
    have nd := sc_law_tree.nd
    have hu := hu_of hr
    refine ⟨_, PSs.nox (pss_cons (ps_sv 3 nd pe_dnewK)
      (pss_cons (ps_for PassesOwn.never rfl (pi_enum (by rfl) T.b_enumerate (pa_cons (pv 2) pa_nil)) (pg_tup (by rfl) (pgs_cons (pg_nm 4 nd) (pgs_cons (pg_nm 5 nd) pgs_nil)))
        (pss_cons (ps_sv 6 nd (pe_callD O_law_mix hr pass0 (pa_cons (pv 0) (pa_cons (pe_op op_add pe_int (pv 4)) pa_nil))))
        (pss_cons (ps_if (PW.pt (pw_and (pt_cmpR op_gt (pv 1) pe_int (nomark _)) (pw_and1 (pt_cmpR op_eq (pe_op op_mod (pe_callD O_law_mix hr pass0 (pa_cons (pv 0) (pa_cons (pe_op op_add (pe_op op_add pe_int (pe_op op_mul pe_int (pv 1))) (pv 4)) pa_nil))) pe_int) pe_int (nomark _))))) (pss_one (ps_sv 6 nd (pe_callD O_law_mix hr pass0 (pa_cons (pv 0) (pa_cons (pe_op op_add (pe_op op_add pe_int (pe_op op_mul pe_int (pv 1))) (pv 4)) pa_nil))))) pss_nil)
        (pss_one (ps_if (pt_cmpR op_gt (pe_op op_mod (pv 6) pe_int) pe_int (nomark _)) (pss_cons (ps_sv 7 nd (pe_ix ix_list (pe_lst (pa_cons pe_str (pa_cons pe_str (pa_cons pe_str (pa_cons pe_str pa_nil))))) (pe_op op_mod (pe_op op_fdiv (pv 6) pe_int) pe_int) (fun _ _ => rfl)))
          (pss_cons (ps_sv 8 nd (pe_op op_cat (pe_lst (pa_cons pe_str pa_nil)) (pe_lock (pe_lc (g := gName 10) (own := [("_law_other", 10)]) (by rfl) nd (pi_keys (pv 3)) (blkOk_by (own := [("_law_other", 10)]) (N := n_law_tree) (sc := defScope s_law_tree) (by decide +kernel)) (fun _ _ _ _ _ => (pg_nm 10 nd)) (fun _ _ _ _ _ => (pts_one (pt_cmpR op_eq (pe_ix (ix_tupK K) (pe_dget hu (pv 3) (pv 10) (fun _ _ => rfl)) pe_int (fun _ _ => rfl)) pe_str (nomark _)))) (fun _ _ _ _ _ => (pv 10))))))
          (pss_cons (ps_sv 9 nd (pe_ix ix_list (pe_lst (pa_cons pe_int (pa_cons pe_int (pa_cons (pe_op op_pow pe_int pe_int) (pa_cons (pe_op op_mod (pe_op op_fdiv (pv 6) pe_int) pe_int) pa_nil))))) (pe_op op_mod (pe_op op_fdiv (pv 6) pe_int) pe_int) (fun _ _ => rfl)))
          (pss_one (ps_dput hu (pv 3) (pv 5) (pe_tup (pa_cons (pv 7) (pa_cons (pe_ix ix_list (pv 8) (pe_op op_mod (pe_op op_fdiv (pv 6) pe_int) (pe_callB call_len_seq (by rfl) T.b_len PySem.boot_len (pa_cons (pv 8) pa_nil))) (fun _ _ => rfl)) (pa_cons (pv 9) (pa_cons (pe_callD O_law_content hr pass0 (pa_cons (pv 7) (pa_cons (pe_op op_fdiv (pv 6) pe_int) pa_nil))) pa_nil))))) rfl))))) pss_nil)))))
      (pss_one (ps_ret (pv 3))))), ?_⟩
    refine fun d ndd => ?_
    have hnd2 : nl ≠ d := ne_of_none hnl ndd
    have hnlen : (names.map V.str).length = names.length := List.length_map _
    refine ⟨_, rfl, nl, names.map V.str, rfl, .inl (.inl (by rw [upd_ne hnd2]; exact hnl)), for_it walk_enum (fun i σ H' => Same H (L2.del H' d) ∧ (∃ t acc, H' d = some (.dK acc) ∧ Paired (TrEnt K (L2.del H' d)) acc t ∧ (t.map (·.1)).Sublist (names.take i)) ∧ ∃ v4 v5 v6 v7 v8 v9 v10, σ = [some (.int c), some (.int (v : Int)), some (.ref nl), some (.ref d), v4, v5, v6, v7, v8, v9, v10]) ⟨by rw [del_upd, del_none ndd]; exact Same.refl _, ⟨[], [], upd_same, .nil, by simp⟩, none, none, none, none, none, none, none, rfl⟩ (fun i σ H' _ ⟨e, _⟩ => .inl (.inl (del_sub _ _ (e _ _ hnl)))) ?_ ?_⟩
    · rintro i x σ H1 H0 hi ⟨s1, ⟨t, acc, hd, hacc, hsub⟩, v4, v5, v6, v7, v8, v9, v10, rfl⟩ ⟨U, x, y, rfl, nU, rfl, hx1, hy⟩
      obtain rfl : x = V.int ((i : Nat) : Int) := (Option.some.inj hx1).symm
      obtain ⟨nm, hnm, rfl⟩ := map_get hy
      have hnmem := List.mem_of_getElem? hnm
      have e2 : names.take (i + 1) = names.take i ++ [nm] := by rw [List.take_add_one, hnm]; rfl
      obtain ⟨H', eH'⟩ : ∃ H', H' = upd H1 U (.tup [.int ((i : Nat) : Int), .str nm]) := ⟨_, rfl⟩
      have sU : Same H1 H' := by rw [eH']; exact same_upd nU
      rw [← eH']
      refine ⟨U, _, rfl, .inl (.inl (by rw [eH', upd_same])), rfl, .int ((i : Nat) : Int), [.str nm], rfl, .str nm, [], rfl, rfl, ?_⟩
      have s1' : Same H (L2.del H' d) := s1.trans (del_mono sU)
      have hd' := sU _ _ hd
      have hacc' : Paired (TrEnt K (L2.del H' d)) acc t := pmap hacc fun _ _ z => z.same (del_mono sU)
      clear hacc hd s1 hx1 hy eH' sU
      have hnew : valV acc (.inr nm) = none := by
        rcases tr_look hacc' nm with ⟨_, z⟩ | ⟨r, v, h1, _⟩
        · exact z
        · exfalso
          exact nodup_take hnd hnm (hsub.subset (List.mem_map_of_mem (f := (·.1)) (look_some h1)))
      have htn : (t.map (·.1)).Nodup := hsub.nodup (hnd.sublist (List.take_sublist _ _))
      dsimp only [tSeq]
      refine ⟨_, rfl, _, rfl, _, _, rfl, rfl, c, _, rfl, by omega, ?_⟩
      dsimp only [gName]
      refine if_t (a := decide ((0 : Int) < (v : Int)) && decide (V.int (mixF c (130 + 40 * (v : Int) + ((i : Nat) : Int)) % 3) = V.int 0)) (fun Q h => and_t (a := decide ((0 : Int) < (v : Int))) (b := decide (V.int (mixF c (130 + 40 * (v : Int) + ((i : Nat) : Int)) % 3) = V.int 0)) (fun Q h => ?_) (fun _ Q h => ?_) h) (fun _ => ?_) (fun _ => ?_)
      · exact ⟨_, rfl, _, _, rfl, rfl, _, rfl, h⟩
      · exact ⟨_, rfl, _, rfl, _, _, rfl, rfl, .inl ⟨by decide, by decide⟩, _, _, rfl, rfl, _, rfl, _, _, rfl, rfl, c, _, rfl, by omega, _, _, rfl, rfl, (show (0 : Int) < 3 by decide), rfl, _, rfl, h⟩
      all_goals first
        | (refine ⟨_, rfl, _, rfl, _, _, rfl, rfl, .inl ⟨by decide, by decide⟩, _, _, rfl, rfl, _, rfl, _, _, rfl, rfl, c, _, rfl, by omega, ?_⟩
           dsimp only [gName]
           generalize mixF c (500 + 40 * (v : Int) + ((i : Nat) : Int)) = N)
        | (dsimp only [tNext]
           generalize mixF c (100 + ((i : Nat) : Int)) = N)
      all_goals
        have hal : acc.length ≤ 8 := by
          have h1 := hacc'.length
          have h2 := hsub.length_le
          rw [List.length_map, List.length_take] at h2
          omega
        refine if_t (a := decide ((0 : Int) < N % 6)) (fun Q h => ⟨_, rfl, _, _, rfl, rfl, (show (0 : Int) < 6 by decide), _, _, rfl, rfl, _, rfl, h⟩) (fun hb => ?_) (fun hb => ?_)
        · dsimp only [tSeq]
          obtain ⟨kind, hkind, hkat⟩ := pickK (Int.emod_nonneg (N / 6) (show (4 : Int) ≠ 0 by decide)) (Int.emod_lt_of_pos (N / 6) (show (0 : Int) < 4 by decide))
          refine ⟨(show (4 : Nat) ≤ sizeLine by decide), fun l1 nl1 => ?_⟩
          refine ⟨_, rfl, _, _, rfl, rfl, ⟨by decide, by decide⟩, _, _, rfl, rfl, (show (0 : Int) < 4 by decide), l1, _, _, _, rfl, rfl, .inl (.inl upd_same), hkat, ?_⟩
          refine ⟨(show (1 : Nat) ≤ sizeLine by decide), fun l2 nl2 => ?_⟩
          have s2 := (same_upd nl1 (o := .lst [V.str "chapter", V.str "para", V.str "table", V.str "chapter"])).trans (same_upd nl2 (o := .lst [V.str ""]))
          have hl2 : upd (upd H' l1 (.lst [V.str "chapter", V.str "para", V.str "table", V.str "chapter"])) l2 (.lst [V.str ""]) l2 = some (.lst [V.str ""]) := upd_same
          obtain ⟨G2, eG2⟩ : ∃ G2, G2 = upd (upd H' l1 (.lst [V.str "chapter", V.str "para", V.str "table", V.str "chapter"])) l2 (.lst [V.str ""]) := ⟨_, rfl⟩
          rw [← eG2] at s2 hl2
          refine (congrArg _ eG2).mp ?_
          have hd2 := s2 _ _ hd'
          refine ⟨d, .dK acc, hd2, trivial, fun od => ?_⟩
          refine ⟨_, rfl, d, od, rfl, .inl ⟨acc, upd_same, fun D nD => ?_⟩⟩
          have sL : Same (L2.del H' d) (upd G2 d (.frz od (.dK acc))) := fun b o e => by
            have : b ≠ d := fun z => by rw [z, del_same] at e; cases e
            rw [upd_ne this]
            exact s2 _ _ (del_sub _ _ e)
          refine lc_gen walk_keys (fun k => decide (V.str ((t.map fun e => e.2.kind).getD k ("" : Str)) = V.str "chapter")) (fun _ _ y => ∃ x : Str, y = V.str x ∧ PyData.strOk x = true) (by omega) nD (fun _ _ _ _ _ z => z) (fun G sG => sG _ _ upd_same) ?_ ?_
          · rintro k x G0 G M no yes hk sG _ ⟨rfl, key, vv, hkv, rfl⟩
            obtain ⟨e, he, ek, hdp, heok⟩ := pget hacc' hkv
            have ek' : key = .inr e.1 := ek
            subst ek'
            have hem := List.mem_of_getElem? he
            have hloo : look t e.1 = some e.2 := look_nodup htn hem
            have hkk : (t.map fun e => e.2.kind).getD k ("" : Str) = e.2.kind := by
              rw [List.getD_eq_getElem?_getD, List.getElem?_map, he]; rfl
            rcases tr_look hacc' e.1 with ⟨z, _⟩ | ⟨r, v', h1, h2, h3, _⟩
            · rw [hloo] at z; cases z
            · rw [hloo] at h1
              obtain rfl := Option.some.inj h1
              have sLG : Same (L2.del H' d) G := sL.trans (sG.trans del_sub)
              obtain ⟨ra, rc, rfl, hra, _⟩ := dp_rec (Dp.same sLG h3)
              have hget : DGet G d (.str e.1) (some (.ref ra)) := .inl ⟨acc, .inr e.1, .inr ⟨od, (sG.trans del_sub) _ _ upd_same⟩, rfl, h2.symm⟩
              refine ⟨rfl, ?_⟩
              refine ⟨_, rfl, _, rfl, d, _, rfl, hget, ra, _, 0, .str e.2.kind, rfl, rfl, hra, rfl, rfl, decide (V.str ((t.map fun e => e.2.kind).getD k ("" : Str)) = V.str "chapter"), by rw [hkk], ?_⟩
              cases hp : decide (V.str ((t.map fun e => e.2.kind).getD k ("" : Str)) = V.str "chapter") with
              | false => exact iteF (no hp _ (Same.refl _))
              | true => exact iteT ⟨_, rfl, yes hp _ _ (Same.refl _) ⟨e.1, rfl, hnok _ ((hsub.trans (List.take_sublist _ _)).subset (List.mem_map_of_mem (f := (·.1)) hem))⟩⟩
          · intro G ys sG hD hys
            obtain ⟨xs, exs, hxs⟩ := paired_strs (ok := fun x => PyData.strOk x = true) hys
            have hyl : ys.length ≤ 8 := by
              have h1 := hys.length
              have h2 := List.length_filter_le (fun k => decide (V.str ((t.map fun e => e.2.kind).getD k ("" : Str)) = V.str "chapter")) (List.range acc.length)
              rw [List.length_range] at h2
              omega
            rw [exs] at hD hyl
            rw [List.length_map] at hyl
            have sLG := sG.trans del_sub
            have hdG := sLG _ _ (upd_same (H := G2) (a := d) (o := .frz od (.dK acc)))
            refine ⟨hdG, ?_⟩
            have s3 : Same G2 (upd G d (.dK acc)) := unlock hd2 sLG
            have hDd : D ≠ d := ne_of hD hdG (by intro z; cases z)
            have hl23 := s3 _ _ hl2
            have hD3 : upd G d (.dK acc) D = some (.lst (xs.map V.str)) := by rw [upd_ne hDd]; exact hD
            refine ⟨l2, D, _, _, rfl, rfl, hl23, hD3, Nat.le_of_lt (small1000 (by rw [List.length_map]; show 1 + xs.length ≤ 1000; omega)), fun hl nhl => ?_⟩
            obtain ⟨hs, ehs⟩ : ∃ hs : List Str, hs = ("" : Str) :: xs := ⟨_, rfl⟩
            have ehs2 : [V.str ""] ++ xs.map V.str = hs.map V.str := by rw [ehs]; rfl
            have hsok : ∀ x ∈ hs, PyData.strOk x = true := fun x hx => by
              rw [ehs] at hx
              rcases List.mem_cons.mp hx with z | z
              · rw [z]; exact strOk_of (by decide)
              · exact hxs x z
            have hsl : 1 ≤ hs.length := by rw [ehs]; simp
            rw [ehs2]
            have s4 : Same H' (upd (upd G d (.dK acc)) hl (.lst (hs.map V.str))) := s2.trans (s3.trans (same_upd nhl))
            obtain ⟨G4, eG4⟩ : ∃ G4, G4 = upd (upd G d (.dK acc)) hl (.lst (hs.map V.str)) := ⟨_, rfl⟩
            have hhl : G4 hl = some (.lst (hs.map V.str)) := by rw [eG4, upd_same]
            rw [← eG4] at s4
            rw [← eG4]
            dsimp only [gName]
            obtain ⟨rank, hrat⟩ := pickR (Int.emod_nonneg (N / 24) (show (4 : Int) ≠ 0 by decide)) (Int.emod_lt_of_pos (N / 24) (show (0 : Int) < 4 by decide)) 0 1 (10 ^ 9) (N / 96 % 1000)
            refine ⟨_, _, rfl, rfl, ⟨by decide, by decide, by decide⟩, _, rfl, _, _, rfl, rfl, ⟨by decide, by decide⟩, _, _, rfl, rfl, (show (0 : Int) < 1000 by decide), (show (4 : Nat) ≤ sizeLine by decide), fun l3 nl3 => ?_⟩
            refine ⟨_, rfl, _, _, rfl, rfl, ⟨by decide, by decide⟩, _, _, rfl, rfl, (show (0 : Int) < 4 by decide), l3, _, _, _, rfl, rfl, .inl (.inl upd_same), hrat, ?_⟩
            dsimp only [gName]
            obtain ⟨G5, eG5⟩ : ∃ G5, G5 = upd G4 l3 (.lst [V.int 0, V.int 1, V.int (10 ^ 9), V.int (N / 96 % 1000)]) := ⟨_, rfl⟩
            have s5 : Same G4 G5 := by rw [eG5]; exact same_upd nl3
            suffices hnext : sDPut _ _ _ _ _ G5 by
              rw [eG5] at hnext
              exact hnext
            have hhl5 := s5 _ _ hhl
            have c1 := Int.emod_nonneg (N / 384) (show (((hs.map V.str).length : Nat) : Int) ≠ 0 by rw [List.length_map]; omega)
            have c2 := Int.emod_lt_of_pos (N / 384) (show (0 : Int) < (((hs.map V.str).length : Nat) : Int) by rw [List.length_map]; omega)
            obtain ⟨pk, epk⟩ : ∃ pk : Nat, ((pk : Nat) : Int) = N / 384 % (((hs.map V.str).length : Nat) : Int) := ⟨(N / 384 % (((hs.map V.str).length : Nat) : Int)).toNat, by omega⟩
            have hpk : pk < hs.length := by rw [List.length_map] at epk c2; omega
            have hpat : atI (hs.map V.str) (N / 384 % (((hs.map V.str).length : Nat) : Int)) = some (.str hs[pk]) := by
              rw [← epk, atI_nat (by rw [List.length_map]; exact hpk), List.getElem?_map, List.getElem?_eq_getElem hpk]; rfl
            refine ⟨_, rfl, _, rfl, _, rfl, _, _, rfl, rfl, ⟨by decide, by decide⟩, _, rfl, hl, _, rfl, .inl (.inl (.inl hhl5)), _, _, rfl, rfl, (show (0 : Int) < (((hs.map V.str).length : Nat) : Int) by rw [List.length_map]; omega), hl, _, _, _, rfl, rfl, .inl (.inl hhl5), hpat, _, rfl, _, rfl, _, rfl, _, _, rfl, rfl, ⟨by decide, by decide⟩, kind, _, rfl, fun G6 cv ct s6 hcv hct => ?_⟩
            refine ⟨(show (4 : Nat) ≤ sizeLine by decide), fun W nW => ?_⟩
            have s7 : Same H' (upd G6 W (.tup [.str kind, .str hs[pk], .int rank, cv])) := s4.trans (s5.trans (s6.trans (same_upd nW)))
            have hd7 := s7 _ _ hd'
            have hWd : W ≠ d := (ne_of_none ((s4.trans (s5.trans s6)) _ _ hd') nW).symm
            refine ⟨_, rfl, _, rfl, d, _, rfl, DPut.k (k := .inr nm) hd7 (small1000 (by omega)), ?_⟩
            rw [putK_new _ hnew]
            refine ⟨by rw [del_upd]; exact s1'.trans (del_mono s7), ⟨t ++ [(nm, ⟨kind, hs[pk], rank, ct⟩)], _, upd_same, ?_, ?_⟩, _, _, _, _, _, _, _, rfl⟩
            · rw [del_upd]
              refine papp (pmap hacc' fun _ _ z => z.same (del_mono s7)) (.cons ⟨rfl, ?_, ⟨hkind, hsok _ (List.getElem_mem hpk), hct⟩⟩ .nil)
              refine rec_dp (r := ⟨kind, hs[pk], rank, ct⟩) (.inl (.inl (by rw [del_ne hWd, upd_same]))) ?_
              exact Keep.dp ((Keep.of (same_upd nW)).trans (Keep.del hd7 (fun z => z))) hcv
            · rw [e2, List.map_append]
              exact hsub.append (List.Sublist.refl _)
        · exact ⟨s1', ⟨t, acc, hd', hacc', by rw [e2]; exact hsub.trans (List.sublist_append_left _ _)⟩, _, _, _, _, _, _, _, rfl⟩
    · rintro σ H' ⟨s1, ⟨t, acc, hd, hacc, hsub⟩, v4, v5, v6, v7, v8, v9, v10, rfl⟩
      rw [hnlen, List.take_length] at hsub
      refine ⟨_, rfl, q H' d t (s1.trans del_sub) ⟨acc, hd, pmap hacc fun _ _ z => z.same del_sub⟩ ⟨hsub, fun p hp => ?_⟩⟩
      obtain ⟨j, hj, e⟩ := List.mem_iff_getElem.mp hp
      obtain ⟨kv, _, h⟩ := pgetR hacc (i := j) (y := p) (by rw [List.getElem?_eq_getElem hj, e])
      exact h.2.2
end
end ML

set_option Elab.async false
set_option linter.all false
set_option maxRecDepth 100000
set_option maxHeartbeats 4000000
namespace ML
open PySem PySem.Spec PyProof.Rows L2 MM
def spPlain (K : PySem.W.Frag) : Sp := fun vs H Q _ => ∃ (td : Addr) (t : Tree), vs = [.ref td] ∧ TrAt K H td t ∧ (t.map (·.1)).Nodup ∧ t.length ≤ 8 ∧ ∀ H' p, Same H H' → PlainAt K H' p t → Q (.ref p) H'
section
variable {P : Program} {w : World} {K : PySem.W.Frag} {mg : Str → Option Value} {base : Heap}
theorem ok_l_plain (T : Txt K mg) : OkF P w K mg base CX0 3 "_law_plain" ["_law_tree_here"] (spPlain K) := by
  obtain ⟨fd, F⟩ := T.f_law_plain
  have O_Plain := ok_pl_init (P := P) (w := w) (base := base) T
  have O_Plain_lay := ok_lay (P := P) (w := w) (base := base) T
  refine ⟨⟨fd, ?_, F.bindsN fun _ _ _ _ _ _ us hl => match us, hl with | [_], _ => rfl⟩, F.kp, T.g_law_plain⟩
  refine F.ok sc_law_plain (fun vs H Q E h => ?_) (fun cdv A outer s H vs Q E hr h => ?_)
  · obtain ⟨_, _, rfl, _⟩ := h
    rfl
  · obtain ⟨td, t, rfl, ⟨kvs, htd, ht⟩, htn, ht8, q⟩ := h
    have nd := sc_law_plain.nd
    have hu := hu_of hr
    have hlen : kvs.length = t.length := ht.length
    refine ⟨_, PSs.nox (pss_cons (ps_sv 1 nd (pe_makeD0 O_Plain hr pass0))
      (pss_cons (ps_lock (ps_for PassesOwn.never rfl (pi_keys (pv 0)) (pg_nm 2 nd)
        (pss_cons (ps_asg (pe_dget hu (pv 0) (pv 2) (fun _ _ => rfl)) (pg_tup (by rfl) (pgs_cons (pg_nm 3 nd) (pgs_cons (pg_nm 4 nd) (pgs_cons (pg_nm 5 nd) (pgs_cons (pg_nm 6 nd) pgs_nil))))))
        (pss_one (ps_expr (pe_methD (pv 1) O_Plain_lay hr pass0 (pa_cons (pv 2) (pa_cons (pv 3) (pa_cons (pv 4) (pa_cons (pv 5) (pa_cons (pv 6) pa_nil)))))))))))
      (pss_one (ps_ret (pv 1))))), ?_⟩
    refine fun x dx nx ndx ne => ?_
    refine ⟨x, dx, rfl, upd_same, fun d nd' => ⟨rfl, ?_⟩⟩
    have hdx : d ≠ x := fun e => by rw [e, upd_same] at nd'; cases nd'
    have hd2 : d ≠ dx := fun e => by rw [e, upd_ne ne, upd_same] at nd'; cases nd'
    have ndd : H d = none := by rw [upd_ne hdx, upd_ne hd2] at nd'; exact nd'
    obtain ⟨H3, e3⟩ : ∃ H3, H3 = upd (upd (upd (upd H dx (.own x)) x (.ins (He.ga K "Plain") dx [])) d (.dK [])) x (.ins (He.ga K "Plain") dx [("records", .ref d)]) := ⟨_, rfl⟩
    have sm : Same H H3 := fun c o hc => by
      rw [e3, upd_ne (ne_of_none hc nx), upd_ne (ne_of_none hc ndd), upd_ne (ne_of_none hc nx), upd_ne (ne_of_none hc ndx)]
      exact hc
    have h3d : H3 d = some (.dK []) := by rw [e3, upd_ne hdx, upd_same]
    have h3x : H3 x = some (.ins (He.ga K "Plain") dx [("records", .ref d)]) := by rw [e3, upd_same]
    have smd : Same H (L2.del H3 d) := same_del sm ndd
    dsimp only [gName, cxOf, Cx.nox]
    rw [← e3]
    have htd3 := sm _ _ htd
    have hdtd : d ≠ td := (ne_of_none htd ndd).symm
    have hxtd : x ≠ td := (ne_of_none htd nx).symm
    refine ⟨td, .dK kvs, htd3, trivial, fun od => ?_⟩
    obtain ⟨HL, eHL⟩ : ∃ HL, HL = upd H3 td (.frz od (.dK kvs)) := ⟨_, rfl⟩
    rw [← eHL]
    have hLtd : HL td = some (.frz od (.dK kvs)) := by rw [eHL, upd_same]
    have hLd : HL d = some (.dK []) := by rw [eHL, upd_ne hdtd]; exact h3d
    have hLx : HL x = some (.ins (He.ga K "Plain") dx [("records", .ref d)]) := by rw [eHL, upd_ne hxtd]; exact h3x
    have kL : Keep H (L2.del HL d) := fun b o e dd => by
      have h1 := smd _ _ e
      have h2 : b ≠ d := fun z => by rw [z, del_same] at h1; cases h1
      rw [del_ne h2] at h1
      have h3 : b ≠ td := fun z => by
        rw [z, htd] at e
        obtain rfl := Option.some.inj e
        exact dd
      rw [del_ne h2, eHL, upd_ne h3]
      exact h1
    refine ⟨_, rfl, td, od, rfl, .inl ⟨kvs, hLtd, for_it walk_keys (fun i σ H' => Same (L2.del HL d) (L2.del H' d) ∧ (∃ acc, H' d = some (.dK acc) ∧ Paired (TrEnt K (L2.del H' d)) acc (t.take i)) ∧ ∃ v2 v3 v4 v5 v6, σ = [some (.ref td), some (.ref x), v2, v3, v4, v5, v6]) ⟨Same.refl _, ⟨[], hLd, .nil⟩, none, none, none, none, none, rfl⟩ (fun i σ H' _ ⟨e, _⟩ => del_sub _ _ (e _ _ (by rw [del_ne hdtd.symm]; exact hLtd))) ?_ ?_⟩⟩
    · rintro i y σ H1 H' hi ⟨s1, ⟨acc, hd, hacc⟩, v2, v3, v4, v5, v6, rfl⟩ ⟨rfl, key, vv, hkv, rfl⟩
      obtain ⟨e, he, ek, hdp, heok⟩ := pget ht hkv
      have ek' : key = .inr e.1 := ek
      subst ek'
      have hem := List.mem_of_getElem? he
      have hloo : look t e.1 = some e.2 := look_nodup htn hem
      have e2 : t.take (i + 1) = t.take i ++ [e] := by rw [List.take_add_one, he]; rfl
      rcases tr_look ht e.1 with ⟨z, _⟩ | ⟨r, v', h1, h2, h3, hrok⟩
      · rw [hloo] at z; cases z
      · rw [hloo] at h1
        obtain rfl := Option.some.inj h1
        have kH : Keep H (L2.del H' d) := kL.trans (.of s1)
        have hdp' := kH.dp h3
        obtain ⟨ra, rc, rfl, hra, hrc⟩ := dp_rec hdp'
        have htd' := del_sub _ _ (s1 _ _ (by rw [del_ne hdtd.symm]; exact hLtd))
        have hget : DGet H' td (.str e.1) (some (.ref ra)) := .inl ⟨kvs, .inr e.1, .inr ⟨od, htd'⟩, rfl, h2.symm⟩
        have hx' := del_sub _ _ (s1 _ _ (by rw [del_ne hdx.symm]; exact hLx))
        have hnew : valV acc (.inr e.1) = none := by
          rcases tr_look hacc e.1 with ⟨_, z⟩ | ⟨r, v, h1, _⟩
          · exact z
          · exfalso
            have h3 := List.mem_map_of_mem (f := (·.1)) (look_some h1)
            rw [List.map_take] at h3
            exact nodup_take htn (by rw [List.getElem?_map, he]; rfl) h3
        refine ⟨_, rfl, _, rfl, td, _, rfl, hget, ?_⟩
        refine ⟨ra, _, rfl, del_sub.seqT hra, rfl, .str e.2.kind, [.str e.2.parent, .int e.2.rank, rc], rfl, .str e.2.parent, [.int e.2.rank, rc], rfl, .int e.2.rank, [rc], rfl, rc, [], rfl, rfl, ?_⟩
        have hal : acc.length ≤ 8 := by
          have h1 := hacc.length
          rw [List.length_take] at h1
          omega
        refine ⟨_, rfl, x, dx, _, rfl, hx', rfl, _, rfl, _, rfl, _, rfl, _, rfl, _, rfl, x, e.1, e.2.kind, e.2.parent, e.2.rank, rc, dx, d, acc, rfl, hx', hd, hnew, by omega, fun W nW => ?_⟩
        have sW : Same H' (upd H' W (.tup [.str e.2.kind, .str e.2.parent, .int e.2.rank, rc])) := same_upd nW
        have hWd : W ≠ d := (ne_of_none hd nW).symm
        refine ⟨by rw [del_upd]; exact s1.trans (del_mono sW), ⟨_, upd_same, ?_⟩, _, _, _, _, _, rfl⟩
        rw [del_upd, e2]
        refine papp (pmap hacc fun _ _ z => z.same (del_mono sW)) (.cons ⟨rfl, rec_dp (.inl (.inl (by rw [del_ne hWd, upd_same]))) (Dp.same (del_mono sW) hrc), hrok⟩ .nil)
    · rintro σ H' ⟨s1, ⟨acc, hd, hacc⟩, v2, v3, v4, v5, v6, rfl⟩
      rw [hlen, List.take_length] at hacc
      have htd' := del_sub _ _ (s1 _ _ (by rw [del_ne hdtd.symm]; exact hLtd))
      have hx' := del_sub _ _ (s1 _ _ (by rw [del_ne hdx.symm]; exact hLx))
      refine ⟨htd', _, rfl, q _ x (fun b o e => ?_) ⟨dx, d, by rw [upd_ne hxtd]; exact hx', acc, by rw [upd_ne hdtd]; exact hd, pmap hacc fun kv e z => ⟨z.1, ?_, z.2.2⟩⟩⟩
      · by_cases hb : b = td
        · subst hb
          rw [upd_same, ← htd]
          exact e
        · rw [upd_ne hb]
          have h1 := smd _ _ e
          have h2 : b ≠ d := fun z => by rw [z, del_same] at h1; cases h1
          rw [del_ne h2] at h1
          exact del_sub _ _ (s1 _ _ (by rw [del_ne h2, eHL, upd_ne hb]; exact h1))
      · exact ((Keep.of del_sub).trans (Keep.upd htd' (fun z => z))).dp z.2.1
end
end ML

set_option Elab.async false
set_option linter.all false
set_option maxRecDepth 100000
set_option maxHeartbeats 4000000
namespace ML
open PySem PySem.Spec PyProof.Rows L2 MM
/-! ### data of tuples alone -/
mutual
def noL : PyData → Bool
  | .tuple ds => noLs ds
  | .none => true
  | .bool _ => true
  | .int _ => true
  | .str _ => true
  | _ => false
def noLs : List PyData → Bool
  | [] => true
  | d :: r => noL d && noLs r
end
theorem noLs_map {α : Type} (f : α → PyData) (h : ∀ x, noL (f x) = true) : ∀ l : List α, noLs (l.map f) = true
  | [] => rfl
  | x :: r => by
    show (noL (f x) && noLs (r.map f)) = true
    rw [h x, noLs_map f h r]; rfl
theorem noL_ct : ∀ c : Ct, noL c.d = true
  | .txt _ => rfl
  | .tab rows => noLs_map rowD (fun r => noLs_map PyData.str (fun _ => rfl) r) rows
theorem noL_rec (r : Rec) : noL r.d = true := by
  show (true && (true && (true && (noL r.ct.d && true)))) = true
  rw [noL_ct]; rfl
theorem seqT_del {K : PySem.W.Frag} {H : Hp} {a D : Addr} {xs ys : List V} (hD : H D = some (.lst ys)) (h : SqT K H a xs) : SqT K (L2.del H D) a xs := by
  rcases h with (h | ⟨o, h⟩) | h
  · exact .inl (.inl (by rw [del_ne (ne_of h hD (by intro z; cases z))]; exact h))
  · exact .inl (.inr ⟨o, by rw [del_ne (ne_of h hD (by intro z; cases z))]; exact h⟩)
  · exact .inr h
mutual
theorem dp_del {K : PySem.W.Frag} {H : Hp} {D : Addr} {ys : List V} (hD : H D = some (.lst ys)) : ∀ {v : V} {d : PyData}, noL d = true → Dp K H v d → Dp K (L2.del H D) v d
  | _, _, _, .non => .non
  | _, _, _, .bl b => .bl b
  | _, _, _, .int i => .int i
  | _, _, _, .str x => .str x
  | _, _, n, .lst h a => nomatch n
  | _, _, n, .tup h a => .tup (seqT_del hD h) (dps_del hD n a)
theorem dps_del {K : PySem.W.Frag} {H : Hp} {D : Addr} {ys : List V} (hD : H D = some (.lst ys)) : ∀ {vs : List V} {ds : List PyData}, noLs ds = true → DpAll K H vs ds → DpAll K (L2.del H D) vs ds
  | _, _, _, .nil => .nil
  | _, _, n, .cons h t => .cons (dp_del hD (Bool.and_eq_true _ _ ▸ n : _ ∧ _).1 h) (dps_del hD (Bool.and_eq_true _ _ ▸ n : _ ∧ _).2 t)
end
theorem TrAt.del {K : PySem.W.Frag} {H : Hp} {D d : Addr} {t : Tree} {ys : List V} (hD : H D = some (.lst ys)) (h : TrAt K H d t) : TrAt K (L2.del H D) d t := by
  obtain ⟨kvs, h1, h2⟩ := h
  refine ⟨kvs, by rw [del_ne (ne_of h1 hD (by intro z; cases z))]; exact h1, pmap h2 fun kv e z => ⟨z.1, dp_del hD (noL_rec _) z.2.1, z.2.2⟩⟩
/-- what the law has made -/
structure MadeAt (K : PySem.W.Frag) (H : Hp) (ml : Addr) (sws : Sws) (rs : List Sws) (ns : List Nat) (names : List Str) (fo : Fo) (wl nl fl : Addr) : Prop where
  a : H ml = some (.lst [.ref wl, .ref nl, .ref fl])
  w : WorldAt H wl sws rs ns
  n : H nl = some (.lst (names.map V.str))
  l1 : 1 ≤ names.length
  l8 : names.length ≤ 8
  nd : names.Nodup
  ok : ∀ x ∈ names, Spelt nS 12 x
  f : FoAt K H fl fo
  key : fo.map (·.1) = ns
  tr : ∀ e ∈ fo, TreeOk names e.2
def spMade (K : PySem.W.Frag) : Sp := fun vs H Q _ => ∃ (a : Addr) (cs : List Int) (much : Bool), vs = [.ref a, .bl much] ∧ SqL K H a (cs.map V.int) ∧ ∀ H' ml sws rs ns names fo wl nl fl, Same H H' → MadeAt K H' ml sws rs ns names fo wl nl fl → Q (.ref ml) H'
section
variable {P : Program} {w : World} {K : PySem.W.Frag} {mg : Str → Option Value} {base : Heap}
theorem ok_l_made (T : Txt K mg) : OkF P w K mg base CX0 5 "_law_made" ["_law_script", "_law_much"] (spMade K) := by
  obtain ⟨fd, F⟩ := T.f_law_made
  have O_law_world := ok_l_world (P := P) (w := w) (base := base) T
  have O_law_cell := ok_cell_ (P := P) (w := w) (base := base) T
  have O_law_names := ok_l_names (P := P) (w := w) (base := base) T
  have O_law_tree := ok_l_tree (P := P) (w := w) (base := base) T
  have O_law_variant := ok_l_variant (P := P) (w := w) (base := base) T
  refine ⟨⟨fd, ?_, F.bindsN fun _ _ _ _ _ _ us hl => match us, hl with | [_, _], _ => rfl⟩, F.kp, T.g_law_made⟩
  refine F.ok sc_law_made (fun vs H Q E h => ?_) (fun cdv A outer s H vs Q E hr h => ?_)
  · obtain ⟨_, _, _, rfl, _⟩ := h
    rfl
  · obtain ⟨a, cs, much, rfl, hS, q⟩ := h
    have nd := sc_law_made.nd
    have hu := hu_of hr
    refine ⟨_, PSs.nox (pss_cons (ps_sv 2 nd (pe_callD O_law_world hr pass0 (pa_cons (pe_op op_fdiv (pe_callD O_law_cell hr pass0 (pa_cons (pv 0) (pa_cons pe_int pa_nil))) pe_int) (pa_cons (pe_ix ix_list (pe_lst (pa_cons pe_int (pa_cons pe_int pa_nil))) (pe_callTy call_int1 (by rfl) T.b_int (by decide +kernel) (pa_cons (pv 1) pa_nil)) (fun _ _ => rfl)) pa_nil))))
      (pss_cons (ps_sv 3 nd (pe_callD O_law_names hr pass0 (pa_cons (pe_callD O_law_cell hr pass0 (pa_cons (pv 0) (pa_cons pe_int pa_nil))) (pa_cons (pe_op op_add pe_int (pe_op op_mod (pe_callD O_law_cell hr pass0 (pa_cons (pv 0) (pa_cons pe_int pa_nil))) (pe_ix ix_list (pe_lst (pa_cons pe_int (pa_cons pe_int pa_nil))) (pe_callTy call_int1 (by rfl) T.b_int (by decide +kernel) (pa_cons (pv 1) pa_nil)) (fun _ _ => rfl)))) pa_nil))))
      (pss_cons (ps_sv 4 nd (pe_op op_add pe_int (pe_op op_mod (pe_op op_fdiv (pe_callD O_law_cell hr pass0 (pa_cons (pv 0) (pa_cons pe_int pa_nil))) pe_int) pe_int)))
      (pss_cons (ps_setLc (i := 5) (g := gName 8) (own := [("_law_variant_here", 8)]) (by rfl) nd rfl rfl (sw_true rfl rfl rfl (by decide +kernel)) (pi_range1 (by rfl) T.b_range (pa_cons (pv 4) pa_nil)) (blkOk_by (own := [("_law_variant_here", 8)]) (N := n_law_made) (sc := defScope s_law_made) (by decide +kernel)) (fun _ _ _ _ _ => (pg_nm 8 nd)) (fun _ _ _ _ _ => pts_nil) (fun _ _ _ _ _ => (pe_callD O_law_tree hr pass0 (pa_cons (pe_callD O_law_cell hr pass0 (pa_cons (pv 0) (pa_cons pe_int pa_nil))) (pa_cons (pv 8) (pa_cons (pv 3) pa_nil))))))
      (pss_cons (ps_sv 6 nd pe_dnewK)
      (pss_cons (ps_for PassesOwn.never rfl (pi_list (pe_ix ix_list (pv 2) pe_int (fun _ _ => rfl))) (pg_nm 7 nd)
        (pss_one (ps_dput hu (pv 6) (pv 7) (pe_ix ix_list (pv 5) (pe_callD O_law_variant hr pass0 (pa_cons (pe_callD O_law_cell hr pass0 (pa_cons (pv 0) (pa_cons pe_int pa_nil))) (pa_cons (pe_ix ix_list (pv 2) pe_int (fun _ _ => rfl)) (pa_cons (pv 7) (pa_cons (pv 4) pa_nil))))) (fun _ _ => rfl)) rfl)))
      (pss_one (ps_ret (pe_lst (pa_cons (pv 2) (pa_cons (pv 3) (pa_cons (pv 6) pa_nil)))))))))))), ?_⟩
    dsimp only [tSeq]
    -- the world
    refine ⟨_, rfl, a, cs, 0, rfl, hS, fun c0 => ⟨_, _, rfl, rfl, ⟨by decide, by decide⟩, (show (2 : Nat) ≤ sizeLine by decide), fun l1 nl1 => ⟨_, rfl, .inr ⟨much, rfl, l1, _, _, .int (if much then (256 : Nat) else (24 : Nat) : Nat), rfl, rfl, .inl (.inl upd_same), ?_, _, _, rfl, ?_, ?_, fun H1 wl sws rs ns s1 hw => ?_⟩⟩⟩⟩
    · cases much <;> rfl
    · cases much <;> decide
    · cases much <;> decide
    have sA1 : Same H H1 := (same_upd nl1).trans s1
    obtain ⟨mm, emm⟩ : ∃ mm : Nat, mm = if much then 3 else 8 := ⟨_, rfl⟩
    have hmm : 1 ≤ mm ∧ mm ≤ 8 := by cases much <;> rw [emm] <;> decide
    dsimp only [gName]
    refine ⟨_, rfl, a, cs, 1, rfl, sA1.seq hS, fun c1 => ⟨_, rfl, a, cs, 2, rfl, sA1.seq hS, fun c2 => ⟨(show (2 : Nat) ≤ sizeLine by decide), fun l2 nl2 => ⟨_, rfl, .inr ⟨much, rfl, l2, _, _, .int (mm : Int), rfl, rfl, .inl (.inl upd_same), ?_, _, _, rfl, rfl, (show (0 : Int) < (mm : Int) by omega), _, _, rfl, rfl, ?_⟩⟩⟩⟩⟩
    · rw [emm]; cases much <;> rfl
    have e1 := Int.emod_nonneg c2 (show (mm : Int) ≠ 0 by omega)
    have e2 := Int.emod_lt_of_pos c2 (show (0 : Int) < (mm : Int) by omega)
    obtain ⟨M, eM⟩ : ∃ M : Nat, ((M : Nat) : Int) = 1 + c2 % (mm : Int) := ⟨(1 + c2 % (mm : Int)).toNat, by omega⟩
    have hM1 : 1 ≤ M := by omega
    have hM8 : M ≤ 8 := by omega
    refine ⟨c1, M, by rw [eM]; rfl, hM8, fun H2 nl names s2 hnl hnlen hnnd hnok => ?_⟩
    have sA2 : Same H1 H2 := (same_upd nl2).trans s2
    have hS2 := (sA1.trans sA2).seq hS
    refine ⟨_, rfl, a, cs, 2, rfl, hS2, fun c2' => ⟨_, _, rfl, rfl, ⟨by decide, by decide⟩, _, _, rfl, rfl, (show (0 : Int) < 4 by decide), _, _, rfl, rfl, ?_⟩⟩
    have f1 := Int.emod_nonneg (c2' / 8) (show (4 : Int) ≠ 0 by decide)
    have f2 := Int.emod_lt_of_pos (c2' / 8) (show (0 : Int) < 4 by decide)
    obtain ⟨mn, emn⟩ : ∃ mn : Nat, ((mn : Nat) : Int) = 1 + c2' / 8 % 4 := ⟨(1 + c2' / 8 % 4).toNat, by omega⟩
    dsimp only [gName]
    rw [← emn]
    have hmn1 : 1 ≤ mn := by omega
    have hmnn : ((mn : Nat) : Int).toNat = mn := Int.toNat_natCast _
    -- the trees
    refine ⟨_, rfl, _, rfl, by omega, by omega, fun D nD => ?_⟩
    refine lc_gen walk_range0 (fun _ => true) (fun _ G y => ∃ d t, y = V.ref d ∧ TrAt K G d t ∧ TreeOk names t) (by omega) nD (fun _ _ _ _ s ⟨d, t, h1, h2, h3⟩ => ⟨d, t, h1, h2.same s, h3⟩) (fun _ _ => trivial) ?_ ?_
    · rintro k x G0 G N no yes hk sG ⟨acc, hacc⟩ ⟨rfl, hxx⟩
      subst hxx
      have sGG := sG.trans del_sub
      refine ⟨rfl, ?_⟩
      refine yes_t ?_
      refine iteT ?_
      exact ⟨_, rfl, a, cs, 3, rfl, sGG.seq hS2, fun c3 => ⟨_, rfl, _, rfl, c3, k, nl, names, rfl, by omega, sGG _ _ hnl, by omega, hnnd, fun x hx => (hnok x hx).strOk, fun H4 d t s4 ht hok => yes rfl _ _ s4 ⟨d, t, rfl, ht.del (s4 _ _ hacc), hok⟩⟩⟩
    · intro G ys sG hD hys
      have hyl : ys.length = mn := by
        have := hys.length
        rw [filter_true, List.length_range, hmnn] at this
        exact this
      have sGG : Same H2 G := sG.trans del_sub
      have hwG := hw.same (sA2.trans sGG)
      obtain ⟨⟨sl, rl, free, hw1, hw2, hw3, hw4⟩, hsw, hru, hasc, hfree, hne⟩ := hwG
      have hnsl : ns.length ≤ 256 := by
        have h1 : ns.length ≤ tot sws := by
          have h2 : ns.Sublist (List.range (tot sws)) ∨ True := .inr trivial
          have h3 := List.Nodup.length_le_of_subset (l₁ := ns) (l₂ := List.range (tot sws)) (hasc.imp fun h => Nat.ne_of_lt h) (fun n hn => List.mem_range.mpr (hfree n hn).1)
          rw [List.length_range] at h3
          exact h3
        have := hsw.most
        omega
      dsimp only [gName]
      refine fun fo_ nfo => ?_
      have s0 : Same G (upd G fo_ (.dK [])) := same_upd nfo
      have hnfree : (natsV ns).length = ns.length := List.length_map _
      refine ⟨_, rfl, wl, _, 2, .ref free, rfl, rfl, .inl (.inl (s0 _ _ hw1)), rfl, free, rfl, ⟨natsV ns, .inl (.inl (s0 _ _ hw4))⟩, for_it walk_list (fun i σ H' => Same G (L2.del H' fo_) ∧ (∃ fo acc, H' fo_ = some (.dK acc) ∧ Paired (FoEnt K (L2.del H' fo_)) acc fo ∧ fo.map (·.1) = ns.take i ∧ ∀ e ∈ fo, TreeOk names e.2) ∧ ∃ v7 v8, σ = [some (.ref a), some (.bl much), some (.ref wl), some (.ref nl), some (.int (mn : Int)), some (.ref D), some (.ref fo_), v7, v8]) ⟨by rw [del_upd, del_none nfo]; exact Same.refl _, ⟨[], [], upd_same, .nil, by simp, fun e he => by cases he⟩, none, none, rfl⟩ (fun i σ H' _ ⟨e, _⟩ => .inl (.inl (del_sub _ _ (e _ _ hw4)))) ?_ ?_⟩
      · rintro i x σ H3 H' hi ⟨s1', ⟨fo, acc, hf, hacc, hkeys, htr⟩, v7, v8, rfl⟩ ⟨rfl, hy⟩
        obtain ⟨n, hn, rfl⟩ := map_get hy
        have sG' : Same G H' := s1'.trans del_sub
        have e2 : ns.take (i + 1) = ns.take i ++ [n] := by rw [List.take_add_one, hn]; rfl
        have hnew : valV acc (.inl ((n : Nat) : Int)) = none := by
          rcases pair_look (fun (n : Nat) => (Sum.inl (n : Int) : Key)) inl_inj (fun _ _ z => z.1) n hacc with ⟨_, z⟩ | ⟨b, v, h1, _⟩
          · exact z
          · exfalso
            have h3 := List.mem_map_of_mem (f := (·.1)) (look_some h1)
            rw [hkeys] at h3
            exact nodup_take (hasc.imp fun h => Nat.ne_of_lt h) hn h3
        have hal : acc.length ≤ 256 := by
          have h1 := hacc.length
          have h2 := congrArg List.length hkeys
          rw [List.length_map, List.length_take] at h2
          omega
        refine ⟨_, rfl, _, rfl, a, cs, 4, rfl, (sGG.trans sG').seq hS2, fun c4 => ⟨_, rfl, wl, _, 0, .ref sl, rfl, rfl, .inl (.inl (sG' _ _ hw1)), rfl, _, rfl, _, rfl, c4, sl, n, mn, sws, rfl, hmn1, hw2.same sG', hsw, fun H4 v s4 hv => ?_⟩⟩
        have hvy : v < ys.length := by omega
        have hyv : ys[v]? = some ys[v] := List.getElem?_eq_getElem hvy
        obtain ⟨j, hj, d, t, hdv, hdt, hto⟩ := pget hys hyv
        have hD4 := (sG'.trans s4) _ _ hD
        refine ⟨D, ys, _, ys[v], rfl, rfl, .inl (.inl hD4), by rw [atI_nat hvy, hyv], ?_⟩
        refine ⟨_, rfl, _, rfl, fo_, _, rfl, DPut.k (k := .inl ((n : Nat) : Int)) (s4 _ _ hf) (small1000 (by omega)), ?_⟩
        rw [putK_new _ hnew]
        refine ⟨by rw [del_upd]; exact s1'.trans (del_mono s4), ⟨fo ++ [(n, t)], _, upd_same, ?_, by rw [List.map_append, hkeys, e2]; rfl, fun e he => ?_⟩, _, _, rfl⟩
        · rw [del_upd]
          exact papp (pmap hacc fun _ _ z => z.same (del_mono s4)) (.cons ⟨rfl, d, hdv, (hdt.same del_sub).same (s1'.trans (del_mono s4))⟩ .nil)
        · rcases List.mem_append.mp he with z | z
          · exact htr e z
          · rw [List.mem_singleton] at z
            rw [z]
            exact hto
      · rintro σ H' ⟨s1', ⟨fo, acc, hf, hacc, hkeys, htr⟩, v7, v8, rfl⟩
        rw [hnfree, List.take_length] at hkeys
        have sG' : Same G H' := s1'.trans del_sub
        refine ⟨_, rfl, _, rfl, _, rfl, (show (3 : Nat) ≤ sizeLine by decide), fun ml nml => ?_⟩
        have sM : Same H' (upd H' ml (.lst [.ref wl, .ref nl, .ref fo_])) := same_upd nml
        have sF : Same H2 (upd H' ml (.lst [.ref wl, .ref nl, .ref fo_])) := sGG.trans (sG'.trans sM)
        exact q _ ml sws rs ns names fo wl nl fo_ (sA1.trans (sA2.trans sF)) ⟨upd_same, hw.same (sA2.trans sF), sF _ _ hnl, by omega, by omega, hnnd, hnok, ⟨acc, sM _ _ hf, pmap hacc fun _ _ z => (z.same del_sub).same sM⟩, hkeys, htr⟩
end
end ML

set_option Elab.async false
set_option linter.all false
set_option maxRecDepth 100000
set_option maxHeartbeats 4000000
namespace ML
open PySem PySem.Spec PyProof.Rows L2 MM
theorem MadeAt.fook {K : PySem.W.Frag} {H : Hp} {ml wl nl fl : Addr} {sws : Sws} {rs : List Sws} {ns : List Nat} {names : List Str} {fo : Fo} (h : MadeAt K H ml sws rs ns names fo wl nl fl) : FoOk fo := by
  have hm : ∀ e ∈ fo, e.1 ∈ ns := fun e he => by rw [← h.key]; exact List.mem_map_of_mem (f := (·.1)) he
  have hlt : ∀ e ∈ fo, e.1 < 256 := fun e he => by
    have := (h.w.free _ (hm e he)).1
    have := h.w.sw.most
    omega
  refine ⟨by rw [h.key]; exact h.w.asc, hlt, ?_, fun e he => ?_, fun e he => (h.tr e he).sub.nodup h.nd, fun e he => (h.tr e he).ok⟩
  · have h3 := List.Nodup.length_le_of_subset (l₁ := fo.map (·.1)) (l₂ := List.range 256) (by rw [h.key]; exact h.w.asc.imp fun h => Nat.ne_of_lt h) (fun n hn => by
      obtain ⟨e, he, rfl⟩ := List.mem_map.mp hn
      exact List.mem_range.mpr (hlt e he))
    rw [List.length_map, List.length_range] at h3
    exact h3
  · have := (h.tr e he).sub.length_le
    rw [List.length_map] at this
    have := h.l8
    omega
theorem TrAt.put {K : PySem.W.Frag} {H : Hp} {d f : Addr} {t : Tree} {o u : HO} (hf : H f = some o) (n : ¬ Dat o) (hd : d ≠ f) (h : TrAt K H d t) : TrAt K (upd H f u) d t := by
  obtain ⟨kvs, h1, h2⟩ := h
  exact ⟨kvs, by rw [upd_ne hd]; exact h1, pmap h2 fun kv e z => ⟨z.1, (Keep.upd hf n).dp z.2.1, z.2.2⟩⟩
theorem PlainAt.put {K : PySem.W.Frag} {H : Hp} {p f : Addr} {t : Tree} {od : Obj} {kvs : List (Key × V)} {u : HO} (hf : H f = some (.frz od (.dK kvs))) (h : PlainAt K H p t) : PlainAt K (upd H f u) p t := by
  obtain ⟨dx, d, h1, h2⟩ := h
  have h2' := h2
  obtain ⟨kvs2, h3, _⟩ := h2
  exact ⟨dx, d, by rw [upd_ne (ne_of h1 hf (by intro z; cases z))]; exact h1, h2'.put hf (fun z => z) (ne_of h3 hf (by intro z; cases z))⟩
theorem PlainAt.del {K : PySem.W.Frag} {H : Hp} {p D : Addr} {t : Tree} {ys : List V} (hD : H D = some (.lst ys)) (h : PlainAt K H p t) : PlainAt K (L2.del H D) p t := by
  obtain ⟨dx, d, h1, h2⟩ := h
  exact ⟨dx, d, by rw [del_ne (ne_of h1 hD (by intro z; cases z))]; exact h1, h2.del hD⟩
theorem RowEnt.put {K : PySem.W.Frag} {H : Hp} {f : Addr} {v : V} {e : Nat × Tree} {od : Obj} {kvs : List (Key × V)} {u : HO} (hf : H f = some (.frz od (.dK kvs))) (h : RowEnt K H v e) : RowEnt K (upd H f u) v e := by
  obtain ⟨t, p, h1, h2, h3⟩ := h
  exact ⟨t, p, h1, by rw [upd_ne (ne_of h2 hf (by intro z; cases z))]; exact h2, h3.put hf⟩
def spLBook (K : PySem.W.Frag) : Sp := fun vs H Q _ => ∃ (wl fl : Addr) (sws : Sws) (rs : List Sws) (ns : List Nat) (fo : Fo), vs = [.ref wl, .ref fl] ∧ WorldAt H wl sws rs ns ∧ FoAt K H fl fo ∧ fo.map (·.1) = ns ∧ FoOk fo ∧ TB K H ∧
  ∀ H' b, LamX.ExtN H H' → TB K H' → BookAt K H' b fo → Q (.ref b) H'
section
variable {P : Program} {w : World} {K : PySem.W.Frag} {mg : Str → Option Value} {base : Heap}
theorem ok_l_book (T : Txt K mg) (B : LamX.TabB base mg (blC K) (blT K)) : OkF P w K mg base CX0 11 "_law_book" ["_law_world_here", "_law_found"] (spLBook K) := by
  obtain ⟨fd, F⟩ := T.f_law_book
  have O_Panel := ok_panel_init (P := P) (w := w) (base := base) T
  have O_law_plain := ok_l_plain (P := P) (w := w) (base := base) T
  have O_gathered := ok_gathered (P := P) (w := w) (base := base) T B
  refine ⟨⟨fd, ?_, F.bindsN fun _ _ _ _ _ _ us hl => match us, hl with | [_, _], _ => rfl⟩, F.kp, T.g_law_book⟩
  refine F.ok sc_law_book (fun vs H Q E h => ?_) (fun cdv A outer s H vs Q E hr h => ?_)
  · obtain ⟨_, _, _, _, _, _, rfl, _⟩ := h
    rfl
  · obtain ⟨wl, fl, sws, rs, ns, fo, rfl, hw, ⟨kvs, hfl, hkvs⟩, hkey, hfo, hT, q⟩ := h
    have nd := sc_law_book.nd
    have hu := hu_of hr
    obtain ⟨⟨sl, rl, free, hw1, ⟨svs, hsl, hsvs⟩, hw3, hw4⟩, hsw, hru, hasc, hfree, hne⟩ := hw
    have hslen : svs.length = sws.length := hsvs.length
    have hl5 := hsw.l5
    have hklen : kvs.length = fo.length := hkvs.length
    have hfolen := hfo.len
    refine ⟨_, PSs.nox (pss_cons (ps_asg (pv 0) (pg_lst (by rfl) (pgs_cons (pg_nm 2 nd) (pgs_cons (pg_nm 3 nd) (pgs_cons (pg_nm 4 nd) pgs_nil)))))
      (pss_cons (ps_sv 5 nd (pe_makeD O_Panel hr pass0 (pa_cons (pe_lc (g := gTup K 2 (gCons (gName 8) (gCons (gName 9) gNil))) (own := [("_law_word", 8), ("_law_settings", 9)]) (by rfl) nd (pi_list (pv 2)) (blkOk_by (own := [("_law_word", 8), ("_law_settings", 9)]) (N := n_law_book) (sc := defScope s_law_book) (by decide +kernel)) (fun _ _ _ _ _ => (pg_tup (by rfl) (pgs_cons (pg_nm 8 nd) (pgs_cons (pg_nm 9 nd) pgs_nil)))) (fun _ _ _ _ _ => pts_nil) (fun _ _ _ _ _ => (pe_tup (pa_cons (pv 8) (pa_cons (pe_callTy (call_list_ofK K) (by rfl) T.b_list (by decide +kernel) (pa_cons (pv 9) pa_nil)) pa_nil))))) (pa_cons (pv 3) pa_nil))))
      (pss_cons (ps_sv 6 nd (pe_lst pa_nil))
      (pss_cons (ps_lock (ps_for PassesOwn.never rfl (pi_keys (pv 1)) (pg_nm 7 nd)
        (pss_one (ps_expr (pe_bm PySem.F.plainAttrs_list PySem.F.slot_list_append PySem.F.type_list_append mt_append (pv 6) (pa_cons (pe_tup (pa_cons (pe_op op_shl pe_int (pv 7)) (pa_cons (pe_callD O_law_plain hr pass0 (pa_cons (pe_dget hu (pv 1) (pv 7) (fun _ _ => rfl)) pa_nil)) pa_nil))) pa_nil))))))
      (pss_one (ps_ret (pe_callD O_gathered hr pass0 (pa_cons (pv 5) (pa_cons (pv 6) pa_nil))))))))), ?_⟩
    refine ⟨_, rfl, wl, _, rfl, .inl (.inl hw1), rfl, .ref sl, [.ref rl, .ref free], rfl, .ref rl, [.ref free], rfl, .ref free, [], rfl, rfl, ?_⟩
    -- the panel
    refine ⟨_, rfl, sl, rfl, ⟨svs, .inl (.inl hsl)⟩, fun D nD => ?_⟩
    refine lc_gen walk_list (fun _ => true) (fun i G y => ∀ s, sws[i]? = some s → SwEnt .lst G y s) (by omega) nD (fun i G G' y sG h s hs => (h s hs).same sG) (fun G sG => .inl (.inl (sG _ _ hsl))) ?_ ?_
    · rintro k y G0 G N no yes hk sG ⟨acc0, hacc⟩ ⟨rfl, hy⟩
      obtain ⟨sw, hsw', a, l, rfl, ha, hl2⟩ := pget hsvs hy
      have sGG : Same H G := sG.trans del_sub
      refine ⟨a, _, rfl, .inl (.inl (sGG _ _ ha)), rfl, .str sw.1, [.ref l], rfl, .ref l, [], rfl, rfl, rfl, ?_⟩
      refine yes_t ?_
      refine iteT ⟨_, rfl, _, rfl, l, _, rfl, .inl (.inl (.inl (sGG _ _ hl2))), fun L nL => ?_⟩
      refine ⟨(show (2 : Nat) ≤ sizeLine by decide), fun W nW => yes rfl _ _ ((same_upd nL).trans (same_upd nW)) fun s hs => ?_⟩
      rw [hsw'] at hs
      obtain rfl := Option.some.inj hs
      have hLD : L ≠ D := (ne_of_none hacc nL).symm
      have hWD : W ≠ D := (ne_of_none ((same_upd nL) _ _ hacc) nW).symm
      have hWL : L ≠ W := ne_of_none upd_same nW
      exact ⟨W, L, rfl, by rw [del_ne hWD, upd_same], by rw [del_ne hLD, upd_ne hWL, upd_same]⟩
    · intro G ys sG hD hys
      have sGG : Same H G := sG.trans del_sub
      have hyl : ys.length = sws.length := by
        have := hys.length
        rw [filter_true, List.length_range, hslen] at this
        exact this
      have hsw0 : SwAt .lst G D sws := ⟨ys, hD, paired_get hyl fun i y s hy hs => by
        obtain ⟨j, hj, h⟩ := pget hys hy
        rw [filter_true] at hj
        have : j = i := by
          obtain ⟨h1, h2⟩ := List.getElem?_eq_some_iff.mp hj
          rw [List.getElem_range] at h2
          exact h2.symm
        subst this
        exact (h s hs).same del_sub⟩
      refine ⟨_, rfl, fun x dx nx ndx ne => ?_⟩
      have sX : Same G (upd (upd G dx (.own x)) x (.ins (He.ga K "Panel") dx [])) := fun b o e => by
        rw [upd_ne (ne_of_none e nx), upd_ne (ne_of_none e ndx)]
        exact e
      obtain ⟨n0, hn0⟩ := List.exists_mem_of_ne_nil ns hne
      refine ⟨x, dx, D, rl, sws, rs, rfl, upd_same, hsw0.same sX, hsw, (hw3.same sGG).same sX, hru, ⟨n0, hfree n0 hn0⟩, fun H2 F s2 hF hpan => ⟨rfl, ?_⟩⟩
      have sG2 : Same G H2 := fun b o e => s2 _ _ (by rw [del_ne (ne_of_none e nx)]; exact sX _ _ e)
      have sH2 : Same H H2 := sGG.trans sG2
      -- the rows
      refine ⟨Nat.zero_le _, fun f nf => ?_⟩
      have hfl2 := sH2 _ _ hfl
      have hflf : fl ≠ f := ne_of_none hfl2 nf
      refine ⟨fl, .dK kvs, by rw [upd_ne hflf]; exact hfl2, trivial, fun od => ?_⟩
      obtain ⟨H0, eH0⟩ : ∃ H0, H0 = upd H2 fl (.frz od (.dK kvs)) := ⟨_, rfl⟩
      have hf0 : H0 f = none := by rw [eH0, upd_ne hflf.symm]; exact nf
      have hHL : upd (upd H2 f (.lst [])) fl (.frz od (.dK kvs)) = upd H0 f (.lst []) := by
        rw [eH0]
        funext b
        by_cases h1 : b = fl
        · subst h1; rw [upd_same, upd_ne hflf, upd_same]
        · by_cases h2 : b = f
          · subst h2; rw [upd_ne h1, upd_same, upd_same]
          · rw [upd_ne h1, upd_ne h2, upd_ne h2, upd_ne h1]
      rw [hHL]
      have h0fl : H0 fl = some (.frz od (.dK kvs)) := by rw [eH0, upd_same]
      refine ⟨_, rfl, fl, od, rfl, .inl ⟨kvs, by rw [upd_ne hflf]; exact h0fl, for_it walk_keys (fun i σ H' => Same H0 (L2.del H' f) ∧ (∃ ws, H' f = some (.lst ws) ∧ Paired (RowEnt K (L2.del H' f)) ws (fo.take i)) ∧ ∃ v7 v8 v9, σ = [some (.ref wl), some (.ref fl), some (.ref sl), some (.ref rl), some (.ref free), some (.ref x), some (.ref f), v7, v8, v9]) ⟨by rw [del_upd, del_none hf0]; exact Same.refl _, ⟨[], upd_same, .nil⟩, none, none, none, rfl⟩ (fun i σ H' _ ⟨e, _⟩ => del_sub _ _ (e _ _ h0fl)) ?_ ?_⟩⟩
      · rintro i y σ H3 H' hi ⟨s1, ⟨ws, hf, hws⟩, v7, v8, v9, rfl⟩ ⟨rfl, key, vv, hkv, rfl⟩
        obtain ⟨e, he, ek, td, etd, htd⟩ := pget hkvs hkv
        have ek' : key = .inl ((e.1 : Nat) : Int) := ek
        subst ek'
        have hem := List.mem_of_getElem? he
        have e2 : fo.take (i + 1) = fo.take i ++ [e] := by rw [List.take_add_one, he]; rfl
        have s0' : Same H0 H' := s1.trans del_sub
        have hnodup : (fo.map (·.1)).Nodup := hfo.rise.imp fun h => Nat.ne_of_lt h
        have hval : ∃ td, valV kvs (.inl ((e.1 : Nat) : Int)) = some (.ref td) ∧ TrAt K H td e.2 := by
          rcases pair_look (fun (n : Nat) => (Sum.inl (n : Int) : Key)) inl_inj (fun _ _ z => z.1) e.1 hkvs with ⟨z, _⟩ | ⟨b, v, h1, h2, _, d, h3, h4⟩
          · rw [look_nodup hnodup hem] at z; cases z
          · rw [look_nodup hnodup hem] at h1
            obtain rfl := Option.some.inj h1
            exact ⟨d, by rw [h2]; exact congrArg some h3, h4⟩
        obtain ⟨td, hv1, htr⟩ := hval
        have htdfl : td ≠ fl := fun z => by
          obtain ⟨kv2, h1, h2⟩ := htr
          rw [z, hfl] at h1
          have h1' : kvs = kv2 := by cases h1; rfl
          subst h1'
          obtain ⟨p, _, h3, _⟩ := pmem h2 (List.mem_of_getElem? hkv)
          cases h3
        have htr0 : TrAt K H0 td e.2 := by rw [eH0]; exact (htr.same sH2).put hfl2 (fun z => z) htdfl
        have hget : DGet H' fl (.int ((e.1 : Nat) : Int)) (some (.ref td)) := .inl ⟨kvs, .inl ((e.1 : Nat) : Int), .inr ⟨od, s0' _ _ h0fl⟩, rfl, hv1.symm⟩
        refine ⟨_, rfl, .inl ⟨rfl, _, .inl (.inl hf)⟩, _, rfl, _, _, rfl, rfl, ⟨by omega, by have := hfo.lt e hem; omega, by decide⟩, _, rfl, _, rfl, fl, _, rfl, hget, td, e.2, rfl, htr0.same s0', hfo.nd e hem, hfo.small e hem, fun H4 p s4 hp => ?_⟩
        refine ⟨(show (2 : Nat) ≤ sizeLine by decide), fun W nW => ?_⟩
        dsimp only
        have epow : (1 : Int) * 2 ^ ((e.1 : Nat) : Int).toNat = ((2 ^ e.1 : Nat) : Int) := by
          rw [Int.toNat_natCast, Int.one_mul, Int.natCast_pow]; rfl
        rw [epow]
        have sW : Same H' (upd H4 W (.tup [.int ((2 ^ e.1 : Nat) : Int), .ref p])) := s4.trans (same_upd nW)
        have hf4 := sW _ _ hf
        have hWf : W ≠ f := (ne_of_none (s4 _ _ hf) nW).symm
        have hwl : ws.length ≤ 256 := by
          have h1 := hws.length
          rw [List.length_take] at h1
          omega
        refine ⟨f, ws, _, rfl, rfl, hf4, small1000 (by omega), by rw [del_upd]; exact s1.trans (del_mono sW), ⟨_, upd_same, ?_⟩, _, _, _, rfl⟩
        rw [del_upd, e2]
        exact papp (pmap hws fun _ _ z => z.same (del_mono sW)) (.cons ⟨W, p, rfl, by rw [del_ne hWf, upd_same], (hp.same (same_upd nW)).del hf4⟩ .nil)
      · rintro σ H' ⟨s1, ⟨ws, hf, hws⟩, v7, v8, v9, rfl⟩
        rw [hklen, List.take_length] at hws
        have s0' : Same H0 H' := s1.trans del_sub
        have hfl' := s0' _ _ h0fl
        rw [eH0] at s0'
        have sF : Same H2 (upd H' fl (.dK kvs)) := unlock hfl2 s0'
        obtain ⟨pdx, pfs, p1, p2, p3⟩ := hpan
        refine ⟨hfl', _, rfl, _, rfl, x, f, F, fo, ws, rfl, ⟨pdx, pfs, sF _ _ p1, p2, p3⟩, by rw [upd_ne hflf.symm]; exact hf, pmap hws fun _ _ z => (z.same del_sub).put hfl', hfo, fun e he => ?_, hT.same (sH2.trans sF), fun H6 b e6 t6 hb => q H6 b ((LamX.ExtN.of (sH2.trans sF)).trans e6) t6 hb⟩
        have hm : e.1 ∈ ns := by rw [← hkey]; exact List.mem_map_of_mem (f := (·.1)) he
        exact hF _ (hfree _ hm).1 (hfree _ hm).2
end
end ML

set_option Elab.async false
set_option linter.all false
set_option maxRecDepth 100000
set_option maxHeartbeats 4000000
namespace ML
open PySem PySem.Spec PyProof.Rows L2 MM
/-! ### sorted(d), d's keys ints, any number of them -/
theorem ints_keys {kvs : List (Key × Value)} {ks : List Int} {acc : Array Value} (hk : kvs.map (·.1) = ks.map Sum.inl) (hl : acc.toList.length = ks.length)
    (h : ∀ (j : Nat) (v : Value), acc[j]? = some v → ∃ k x, kvs[j]? = some (k, x) ∧ keyIs k v = true) : IntsAre acc.toList ks := ints_each hl fun j v e => by
  obtain ⟨k, x, e1, e2⟩ := h j v (by rw [← Array.getElem?_toList]; exact e)
  have e3 : (ks.map (Sum.inl : Int → Key))[j]? = some k := by rw [← hk, List.getElem?_map, e1]; rfl
  obtain ⟨y, e4, rfl⟩ := map_get e3
  rcases keyIs_shape e2 with ⟨i, t, z, ev⟩ | ⟨_, _, z, _⟩
  · cases z
    exact ⟨y, t, e4, ev⟩
  · cases z
section
variable {X : Cx}
theorem call_sortedDW (hcalm : X.calm = true) : CallR X (.builtin "sorted") (fun xs H Q => ∃ (a : Addr) (kvs : List (Key × V)) (ks : List Int), xs = [.ref a] ∧ Rd H a (.dK kvs) ∧ kvs.map (·.1) = ks.map Sum.inl ∧ ks.length ≤ 1000 ∧
    ∀ (ys : List Int) (p : Addr), ys.Perm ks → ys.Pairwise (· ≤ ·) → H p = none → Q (.ref p) (upd H p (.lst (ys.map V.int)))) := by
  rintro pins s σ H _ us Q I r ⟨a, kvs, ks, rfl, hd, hks, h1000, q⟩
  rw [Vals.ref1 r]
  obtain ⟨z, lo, vs, rel, dd⟩ := dk_rd I.hok hd
  obtain ⟨ep, hat⟩ := dd.dictAt
  have hkeys : vs.map (·.1) = ks.map Sum.inl := rel.keys.symm.trans hks
  have hl : vs.length = ks.length := by simpa using congrArg List.length hkeys
  have hline : ks.length ≤ sizeLine := by rw [sizeLine_eq]; omega
  refine Calls.call_function_entry PyProof.Rows.kind_sorted PyProof.Rows.plain_sorted PyProof.Rows.entry_sorted (PyProof.Rows.args_sorted1 _) ?_
  unfold Builtin.«sorted»
  refine wpAny_bind (m := checkCount "sorted" 1 1 _) (wpAny_pure ?_)
  refine wpAny_bind (PySem.W.kdu_collect (A := X.A.in1) (PySem.W.kdl_dict (knd := mixKind X.prog X.w) (kvs := vs) (ep := ep) lo) (I.ok.hd hcalm) hat (by rw [hl]; exact hline) fun h' tk acc hk hacc => ?_)
  have hal : acc.toList.length = ks.length := by rw [Array.length_toList, hacc.1, hl]
  have hS := ints_keys hkeys hal hacc.2
  have J : Inv X pins σ H { s with heap := h', toks := tk } := I.kept hk
  refine wpAny_bind (wpAny_newList ?_ (by rw [hal]; exact hline))
  obtain ⟨g, eg⟩ : ∃ g, g = h'.push (seqObj "list" acc.toList.toArray 0) := ⟨_, rfl⟩
  have hoL : g.get? h'.objs.size = some (seqObj "list" acc.toList.toArray 0) := by rw [eg]; exact Heap.get?_push_size _ rfl
  show wpAny _ _ _ _ _ { s with heap := h'.push (seqObj "list" acc.toList.toArray 0), toks := tk }
  rw [← eg]
  refine wpAny_bind (wpAny_holding (wpAny_call_entry PyProof.Rows.slot_list_sort ⟨_, hoL, rfl⟩ PyProof.Rows.entry_list_sort
    (SrtO.list_sort_ord (s := { s with heap := g, toks := tk }) SrtO.swo_int hoL (by rw [hal]; exact hline) (fun h2 => SrtO.ints_sortable hS h2) fun out h1 h2 => ⟨.none, rfl, ?_⟩) (PyProof.Rows.args_list_sort _)))
  obtain ⟨k1, k2, k3⟩ := SrtO.ints_out hS h1 h2
  obtain ⟨e', he'⟩ := PyProof.Rows.sortedHeap_at (vs := acc.toList) (out := out.toArray) hoL
  have hlen : ((out.map SrtO.iv).map V.int).length ≤ sizeLine := by rw [List.length_map, k2.length_eq]; exact hline
  refine wpAny_pure ⟨_, rfl, .ref h'.objs.size, upd H h'.objs.size (.lst ((out.map SrtO.iv).map V.int)), J.laid (t' := tk) (fun b u e => ?_) (Nat.le_refl _) (show ObjOk X.prog X.w _ _ _ (.lst ((out.map SrtO.iv).map V.int)) from ⟨hlen, out, e', vals_of_ints k1, he'⟩), rfl, q _ _ k2 k3 (J.hok.fresh (Nat.le_refl _))⟩
  have hb : b < h'.objs.size := Heap.lt_size e
  rw [PyProof.Rows.sortedHeap_old (Nat.ne_of_lt hb) (by rw [eg, size_push']; exact Nat.lt_succ_of_lt hb), eg]
  exact Heap.get?_push_of_some _ e
end
end ML

set_option Elab.async false
set_option linter.all false
set_option maxRecDepth 100000
set_option maxHeartbeats 4000000
namespace ML
open PySem PySem.Spec PyProof.Rows L2 MM
/-! ### what is put at a place of a row -/
theorem pset {α β : Type} {F : α → β → Prop} {x : α} {y : β} (r : F x y) : ∀ {l1 : List α} {l2 : List β} (k : Nat), Paired F l1 l2 → Paired F (l1.set k x) (l2.set k y)
  | _, _, _, .nil => .nil
  | _, _, 0, .cons _ t => .cons r t
  | _, _, k + 1, .cons a t => .cons a (pset r k t)
section
variable {γ : Type} [DecidableEq γ]
theorem set_up {t : γ} {c : Nat} : ∀ {L : List (Nat × γ)} {k S : Nat}, (L.map (·.2)).Nodup → L[k]? = some (S, t) → L.map (upR c t) = L.set k (S ||| c, t)
  | [], k, S, _, h => by simp at h
  | p :: r, 0, S, hn, h => by
    have h1 : p = (S, t) := Option.some.inj h
    subst h1
    rw [List.map_cons, List.nodup_cons] at hn
    rw [List.map_cons, map_upR_no hn.1]
    show upR c t (S, t) :: r = _
    unfold upR
    rw [if_pos rfl]; rfl
  | p :: r, k + 1, S, hn, h => by
    rw [List.map_cons, List.nodup_cons] at hn
    have h1 : r[k]? = some (S, t) := h
    have hne : ¬ p.2 = t := fun z => hn.1 (by rw [z]; exact List.mem_map_of_mem (f := (·.2)) (List.mem_of_getElem? h1))
    rw [List.map_cons, set_up hn.2 h1]
    unfold upR
    rw [if_neg hne]; rfl
/-- the places where t stands -/
def hits (L : List (Nat × γ)) (t : γ) (k : Nat) : Bool := match L[k]? with
  | some q => decide (q.2 = t)
  | none => false
theorem hits_no {L : List (Nat × γ)} {t : γ} (h : ¬ t ∈ L.map (·.2)) : (List.range L.length).filter (hits L t) = [] := by
  rw [List.filter_eq_nil_iff]
  intro k _ z
  unfold hits at z
  cases e : L[k]? with
  | none => rw [e] at z; cases z
  | some q =>
    rw [e] at z
    exact h (by rw [← of_decide_eq_true z]; exact List.mem_map_of_mem (f := (·.2)) (List.mem_of_getElem? e))
theorem hits_one {L : List (Nat × γ)} {t : γ} (hn : (L.map (·.2)).Nodup) (h : t ∈ L.map (·.2)) : ∃ k S, L[k]? = some (S, t) ∧ ∃ r, (List.range L.length).filter (hits L t) = k :: r := by
  obtain ⟨q, hq, rfl⟩ := List.mem_map.mp h
  obtain ⟨k, hk, e⟩ := List.mem_iff_getElem.mp hq
  have hk? : L[k]? = some q := by rw [List.getElem?_eq_getElem hk, e]
  have hm : k ∈ (List.range L.length).filter (hits L q.2) := List.mem_filter.mpr ⟨List.mem_range.mpr hk, by unfold hits; rw [hk?]; exact decide_eq_true rfl⟩
  cases z : (List.range L.length).filter (hits L q.2) with
  | nil => rw [z] at hm; simp at hm
  | cons j r =>
    have hj : j ∈ (List.range L.length).filter (hits L q.2) := by rw [z]; simp
    obtain ⟨_, h2⟩ := List.mem_filter.mp hj
    unfold hits at h2
    cases e2 : L[j]? with
    | none => rw [e2] at h2; cases h2
    | some q2 =>
      rw [e2] at h2
      have h3 := of_decide_eq_true h2
      exact ⟨j, q2.1, by rw [e2, ← h3], r, rfl⟩
end
theorem FoOk.take_lt {fo : Fo} (h : FoOk fo) {i : Nat} {e : Nat × Tree} (he : fo[i]? = some e) {n : Str} : ∀ y ∈ hist (fo.take i) n, y.1 < e.1 := fun y hy => by
  obtain ⟨t, h1, _⟩ := hist_mem hy
  obtain ⟨j, hj, e1⟩ := List.mem_iff_getElem.mp h1
  rw [List.length_take] at hj
  rw [List.getElem_take] at e1
  obtain ⟨h2, e2⟩ := List.getElem?_eq_some_iff.mp he
  have h3 := (List.pairwise_iff_getElem.mp h.rise) j i (by rw [List.length_map]; omega) (by rw [List.length_map]; exact h2) (by omega)
  rw [List.getElem_map, List.getElem_map, e1, e2] at h3
  exact h3
theorem FoOk.take_rise {fo : Fo} (h : FoOk fo) (i : Nat) (n : Str) : Rising (hist (fo.take i) n) := by
  refine List.Pairwise.sublist (hist_sub (fo.take i) n) ?_
  rw [List.map_take]
  exact h.rise.sublist (List.take_sublist _ _)
theorem prs_snoc {γ : Type} [DecidableEq γ] (f : Rec → γ) (fo : Fo) (e : Nat × Tree) (n : Str) : prsOf f (fo ++ [e]) n = match look e.2 n with | some r => addR (prsOf f fo n) (2 ^ e.1) (f r) | none => prsOf f fo n := by
  unfold prsOf
  rw [hist_snoc]
  cases look e.2 n with
  | none => simp
  | some r =>
    show grp (bits ((hist fo n ++ [(e.1, r)]).map fun x => (x.1, f x.2))) = _
    rw [List.map_append]
    show grp (bits (_ ++ [(e.1, f r)])) = _
    rw [bits_snoc, grp_snoc]
theorem prs_len {γ : Type} [DecidableEq γ] (f : Rec → γ) {fo : Fo} (h : fo.length ≤ 256) (n : Str) : (prsOf f fo n).length ≤ 256 := by
  have h1 := grp_len (bits ((hist fo n).map fun x => (x.1, f x.2)))
  rw [bits_len, List.length_map] at h1
  have h2 := (hist_sub fo n).length_le
  rw [List.length_map, List.length_map] at h2
  have h3 : (prsOf f fo n).length ≤ (hist fo n).length := h1
  omega
theorem fo_val {K : PySem.W.Frag} {H : Hp} {kvs : List (Key × V)} {fo : Fo} (hf : FoOk fo) (h : Paired (FoEnt K H) kvs fo) {e : Nat × Tree} (he : e ∈ fo) : ∃ td, valV kvs (.inl ((e.1 : Nat) : Int)) = some (.ref td) ∧ TrAt K H td e.2 := by
  have hnodup : (fo.map (·.1)).Nodup := hf.rise.imp fun h => Nat.ne_of_lt h
  rcases pair_look (fun (n : Nat) => (Sum.inl (n : Int) : Key)) inl_inj (fun _ _ z => z.1) e.1 h with ⟨z, _⟩ | ⟨b, v, h1, h2, _, d, h3, h4⟩
  · rw [look_nodup hnodup he] at z; cases z
  · rw [look_nodup hnodup he] at h1
    obtain rfl := Option.some.inj h1
    exact ⟨d, by rw [h2]; exact congrArg some h3, h4⟩
/-- which part of a record is told -/
structure Sel {γ : Type} [DecidableEq γ] (f : Rec → γ) (d : γ → PyData) (content : Bool) : Prop where
  eq : ∀ x y, PyData.eqv (d x) (d y) = decide (x = y)
  no : content = false → ∀ (K : PySem.W.Frag) (H : Hp) (x : V) (r : Rec), Dp K H x (plD r.pl) → Dp K H x (d (f r))
  yes : content = true → ∀ (K : PySem.W.Frag) (H : Hp) (x : V) (r : Rec), Dp K H x r.ct.d → Dp K H x (d (f r))
  sh : ∀ r : Rec, r.ok → SeqAt.shaped (d (f r)) = true
  nl : ∀ r : Rec, noL (d (f r)) = true
theorem sel_pl : Sel Rec.pl plD false := ⟨eqv_pl, fun _ _ _ _ _ h => h, fun z => absurd z (by decide), fun r h => pl_shaped h, fun _ => rfl⟩
theorem sel_ct : Sel Rec.ct Ct.d true := ⟨eqv_ct, fun z => absurd z (by decide), fun _ _ _ _ _ h => h, fun r h => ct_shaped h.c, fun r => noL_ct r.ct⟩
def spSo (K : PySem.W.Frag) {γ : Type} [DecidableEq γ] (f : Rec → γ) (d : γ → PyData) (content : Bool) : Sp := fun vs H Q _ => ∃ (fl : Addr) (n : Str) (fo : Fo), vs = [.ref fl, .str n, .bl content] ∧ FoAt K H fl fo ∧ FoOk fo ∧
  ∀ H' l, Same H H' → PrAt K H' l (mapD d (prsOf f fo n)) → Q (.ref l) H'
section
variable {P : Program} {w : World} {K : PySem.W.Frag} {mg : Str → Option Value} {base : Heap}
theorem ok_l_sorted {γ : Type} [DecidableEq γ] {f : Rec → γ} {d : γ → PyData} {content : Bool} (S : Sel f d content) (T : Txt K mg) : OkF P w K mg base CX0 1 "_law_sorted_out" ["_law_found", "_law_name", "_law_content_here"] (spSo K f d content) := by
  obtain ⟨fd, F⟩ := T.f_law_sorted_out
  refine ⟨⟨fd, ?_, F.bindsN fun _ _ _ _ _ _ us hl => match us, hl with | [_, _, _], _ => rfl⟩, F.kp, T.g_law_sorted_out⟩
  refine F.ok sc_law_sorted_out (fun vs H Q E h => ?_) (fun cdv A outer s H vs Q E hr h => ?_)
  · obtain ⟨_, _, _, rfl, _⟩ := h
    rfl
  · obtain ⟨fl, n, fo, rfl, ⟨kvs, hfl, hkvs⟩, hfo, q⟩ := h
    have nd := sc_law_sorted_out.nd
    have hu := hu_of hr
    have hfl256 := hfo.len
    refine ⟨_, PSs.nox (pss_cons (ps_sv 3 nd (pe_lst pa_nil))
      (pss_cons (ps_for PassesOwn.never rfl (pi_list (pe_callB (call_sortedDW rfl) (by rfl) T.b_sorted (by decide +kernel) (pa_cons (pv 0) pa_nil))) (pg_nm 4 nd)
        (pss_one (ps_if (pt_cmp (pc_din hu (pv 1) (pe_dget hu (pv 0) (pv 4) (fun _ _ => rfl)))) (pss_cons (ps_sv 5 nd (pe_slice sl_tup (pe_dget hu (pe_dget hu (pv 0) (pv 4) (fun _ _ => rfl)) (pv 1) (fun _ _ => rfl)) po_none (po_some pe_int)))
          (pss_cons (ps_if (pt_val (pv 2)) (pss_one (ps_sv 5 nd (pe_ix ix_tup (pe_dget hu (pe_dget hu (pv 0) (pv 4) (fun _ _ => rfl)) (pv 1) (fun _ _ => rfl)) pe_int (fun _ _ => rfl)))) pss_nil)
          (pss_cons (ps_setLc (i := 6) (g := gTup K 2 (gCons (gName 7) (gCons (gName 8) gNil))) (own := [("_law_k", 7), ("_law_pair", 8)]) (by rfl) nd rfl rfl (sw_true rfl rfl rfl (by decide +kernel)) (pi_enum (by rfl) T.b_enumerate (pa_cons (pv 3) pa_nil)) (blkOk_by (own := [("_law_k", 7), ("_law_pair", 8)]) (N := n_law_sorted_out) (sc := defScope s_law_sorted_out) (by decide +kernel)) (fun _ _ _ _ _ => (pg_tup (by rfl) (pgs_cons (pg_nm 7 nd) (pgs_cons (pg_nm 8 nd) pgs_nil)))) (fun _ _ _ _ _ => (pts_one (pt_cmpR (op_eqDK K hr.units) (pe_ix (ix_tupK K) (pv 8) pe_int (fun _ _ => rfl)) (pv 5) (nomark _)))) (fun _ _ _ _ _ => (pv 7)))
          (pss_one (ps_if (pt_cmpR (op_eqD hr.units) (pv 6) (pe_lst pa_nil) (nomark _)) (pss_one (ps_expr (pe_bm PySem.F.plainAttrs_list PySem.F.slot_list_append PySem.F.type_list_append mt_append (pv 3) (pa_cons (pe_tup (pa_cons (pe_op op_shl pe_int (pv 4)) (pa_cons (pv 5) pa_nil))) pa_nil)))) (pss_one (ps_asg (pe_tup (pa_cons (pe_op op_add (pe_ix ix_tup (pe_ix ix_list (pv 3) (pe_ix ix_list (pv 6) pe_int (fun _ _ => rfl)) (fun _ _ => rfl)) pe_int (fun _ _ => rfl)) (pe_op op_shl pe_int (pv 4))) (pa_cons (pv 5) pa_nil))) (pg_sub (pv 3) (pe_ix ix_list (pv 6) pe_int (fun _ _ => rfl)) set_list)))))))) pss_nil)))
      (pss_one (ps_ret (pv 3))))), ?_⟩
    refine ⟨Nat.zero_le _, fun f0 nf => ?_⟩
    have hflf : fl ≠ f0 := ne_of_none hfl nf
    have hks : kvs.map (·.1) = (fo.map fun e => ((e.1 : Nat) : Int)).map Sum.inl := by
      rw [pkeys (f := fun (n : Nat) => (Sum.inl (n : Int) : Key)) (F := FoEnt K H) (fun _ _ z => z.1) hkvs, List.map_map, List.map_map]; rfl
    refine ⟨_, rfl, fl, kvs, fo.map fun e => ((e.1 : Nat) : Int), rfl, .inl (by rw [upd_ne hflf]; exact hfl), hks, by rw [List.length_map]; omega, fun ys l hperm hsort nl => ?_⟩
    have hrise : (fo.map fun e => ((e.1 : Nat) : Int)).Pairwise (· ≤ ·) := by
      have h1 := hfo.rise
      rw [List.pairwise_map] at h1 ⊢
      exact h1.imp fun h => by omega
    have eys : ys = fo.map fun e => ((e.1 : Nat) : Int) := List.Perm.eq_of_pairwise (fun a b _ _ h1 h2 => Int.le_antisymm h1 h2) hsort hrise hperm
    rw [eys, List.map_map]
    obtain ⟨HB, eHB⟩ : ∃ HB, HB = upd (upd H f0 (.lst [])) l (.lst (fo.map (V.int ∘ fun e => ((e.1 : Nat) : Int)))) := ⟨_, rfl⟩
    have hfl0 : f0 ≠ l := ne_of_none upd_same nl
    have nl0 : H l = none := by rw [upd_ne hfl0.symm] at nl; exact nl
    have hBf : HB f0 = some (.lst []) := by rw [eHB, upd_ne hfl0, upd_same]
    have hBl : HB l = some (.lst (fo.map (V.int ∘ fun e => ((e.1 : Nat) : Int)))) := by rw [eHB, upd_same]
    have sB : Same H (L2.del HB f0) := fun b o e => by
      rw [del_ne (ne_of_none e nf), eHB, upd_ne (ne_of_none e nl0), upd_ne (ne_of_none e nf)]
      exact e
    rw [← eHB]
    have hlen2 : (fo.map (V.int ∘ fun e => ((e.1 : Nat) : Int))).length = fo.length := List.length_map _
    refine ⟨l, rfl, ⟨_, .inl (.inl hBl)⟩, for_it walk_list (fun i σ H' => Same (L2.del HB f0) (L2.del H' f0) ∧ (∃ vs, H' f0 = some (.lst vs) ∧ Paired (PrEnt K (L2.del H' f0)) vs (mapD d (prsOf f (fo.take i) n))) ∧ ∃ v4 v5 v6 v7 v8, σ = [some (.ref fl), some (.str n), some (.bl content), some (.ref f0), v4, v5, v6, v7, v8]) ⟨Same.refl _, ⟨[], hBf, .nil⟩, none, none, none, none, none, rfl⟩ (fun i σ H' _ ⟨e, _⟩ => .inl (.inl (del_sub _ _ (e _ _ (by rw [del_ne hfl0.symm]; exact hBl))))) ?_ ?_⟩
    · rintro i x σ H1 H' hi ⟨s1, ⟨vs, hf, hvs⟩, v4, v5, v6, v7, v8, rfl⟩ ⟨rfl, hy⟩
      obtain ⟨e, he, rfl⟩ := map_get hy
      have hem := List.mem_of_getElem? he
      have e2 : fo.take (i + 1) = fo.take i ++ [e] := by rw [List.take_add_one, he]; rfl
      have sH : Same H (L2.del H' f0) := sB.trans s1
      have sH' : Same H H' := sH.trans del_sub
      obtain ⟨td, hv1, ⟨tk, htd, htk⟩⟩ := fo_val hfo hkvs hem
      have hget1 : ∀ {G}, Same H G → DGet G fl (.int ((e.1 : Nat) : Int)) (some (.ref td)) := fun s => by
        have := DGet.k (k := .inl ((e.1 : Nat) : Int)) (s _ _ hfl)
        rw [hv1] at this
        exact this
      have hget2 : ∀ {G}, Same H G → DGet G td (.str n) (valV tk (.inr n)) := fun s => DGet.k (k := .inr n) (s _ _ htd)
      dsimp only [Function.comp, gName]
      refine if_t (a := (valV tk (.inr n)).isSome) (fun Q h => ⟨_, rfl, _, rfl, _, rfl, fl, _, rfl, hget1 sH', td, _, rfl, hget2 sH', _, rfl, h⟩) (fun hb => ?_) (fun hb => ?_)
      · rcases tr_look htk n with ⟨_, z⟩ | ⟨r, v, hl1, hl2, hdp, hrok⟩
        · rw [z] at hb; cases hb
        · have hg2 : ∀ {G}, Same H G → DGet G td (.str n) (some v) := fun s => by have := hget2 s; rw [hl2] at this; exact this
          obtain ⟨ra, rc, rfl, hra, hrc⟩ := dp_rec hdp
          dsimp only [tSeq]
          refine ⟨_, rfl, _, rfl, fl, _, rfl, hget1 sH', _, rfl, td, _, rfl, hg2 sH', 3, rfl, ra, _, rfl, sH'.seqT hra, (show ¬ (HT.sIx 4 0 none = 0 ∧ HT.sIx 4 4 (some 3) = 4) by decide), fun qt nqt => ?_⟩
          have sq : Same H' (upd H' qt (.tup [.str r.kind, .str r.parent, .int r.rank])) := same_upd nqt
          obtain ⟨Hq, eHq⟩ : ∃ Hq, Hq = upd H' qt (.tup [.str r.kind, .str r.parent, .int r.rank]) := ⟨_, rfl⟩
          have hpl : Dp K Hq (.ref qt) (plD r.pl) := by rw [eHq]; exact pl_dp (.inl (.inl upd_same))
          rw [← eHq] at sq
          dsimp only [gName]
          refine (congrArg _ eHq).mp ?_
          have hrc' : Dp K Hq rc r.ct.d := Dp.same (sH'.trans sq) hrc
          refine if_t (a := content) (fun Q h => ⟨_, rfl, _, rfl, h⟩) (fun hc => ?_) (fun hc => ?_)
          all_goals first
            | (have hX := S.yes hc K Hq rc r hrc'
               refine ⟨_, rfl, _, rfl, fl, _, rfl, hget1 (sH'.trans sq), _, rfl, td, _, rfl, hg2 (sH'.trans sq), ra, _, 3, rc, rfl, rfl, (sH'.trans sq).seqT hra, rfl, ?_⟩
               dsimp only [gName]
               revert hX
               generalize rc = X
               intro hX)
            | (have hX := S.no hc K Hq (.ref qt) r hpl
               dsimp only [tNext]
               revert hX
               generalize V.ref qt = X
               intro hX)
          all_goals
            have sHq : Same H Hq := sH'.trans sq
            have hfq := sq _ _ hf
            have hvsq : Paired (PrEnt K (L2.del Hq f0)) vs (mapD d (prsOf f (fo.take i) n)) := pmap hvs fun _ _ z => z.same (del_mono sq)
            obtain ⟨L, eL⟩ : ∃ L, L = prsOf f (fo.take i) n := ⟨_, rfl⟩
            rw [← eL] at hvsq
            have hLn : (L.map (·.2)).Nodup := by rw [eL]; exact nodup_grp _
            have hLl : L.length ≤ 256 := by rw [eL]; exact prs_len f (by rw [List.length_take]; omega) n
            have hLa : Asc L e.1 := by
              rw [eL]
              exact asc_grp _ e.1 (rising_map f (hfo.take_rise i n)) fun y hy => by
                obtain ⟨x, hx, rfl⟩ := List.mem_map.mp hy
                exact hfo.take_lt he x hx
            have hvl : vs.length = L.length := by rw [hvsq.length, mapD_len]
            have hsh := S.sh r hrok
            have hnl := S.nl r
            have epow : (1 : Int) * 2 ^ ((e.1 : Nat) : Int).toNat = ((2 ^ e.1 : Nat) : Int) := by
              rw [Int.toNat_natCast, Int.one_mul, Int.natCast_pow]; rfl
            have he256 := hfo.lt e hem
            have hnext : prsOf f (fo.take (i + 1)) n = addR L (2 ^ e.1) (f r) := by rw [e2, prs_snoc, hl1, eL]
            rw [hnext]
            dsimp only [tSeq]
            refine ⟨_, rfl, f0, vs, rfl, .inl (.inl hfq), fun D nD => ?_⟩
            refine lc_gen walk_enum (hits L (f r)) (fun k _ y => y = V.int ((k : Nat) : Int)) (by omega) nD (fun _ _ _ _ _ z => z) (fun G sG => .inl (.inl (sG _ _ hfq))) ?_ ?_
            · rintro k x G G' N no yes hk sG _ ⟨U, x, y, rfl, nU, rfl, hx1, hy⟩
              obtain rfl : x = V.int ((k : Nat) : Int) := (Option.some.inj hx1).symm
              obtain ⟨p, hp, tt, z, rfl, hT, hz, hzsh⟩ := pget hvsq hy
              obtain ⟨q0, hq0, rfl⟩ := mapD_get hp
              have sGU : Same Hq (upd G U (.tup [.int ((k : Nat) : Int), .ref tt])) := (sG.trans del_sub).trans (same_upd nU)
              refine ⟨U, _, rfl, .inl (.inl upd_same), rfl, .int ((k : Nat) : Int), [.ref tt], rfl, .ref tt, [], rfl, rfl, rfl, ?_⟩
              refine ⟨_, rfl, tt, _, 1, z, rfl, rfl, (del_sub.trans sGU).seqT hT, rfl, _, rfl, d q0.2, d (f r), Dp.same (del_sub.trans sGU) hz, Dp.same sGU hX, hzsh, hsh, hits L (f r) k, by rw [S.eq]; unfold hits; rw [hq0], ?_⟩
              cases hp : hits L (f r) k with
              | false => exact iteF (no hp _ (same_upd nU))
              | true => exact iteT ⟨_, rfl, yes hp _ _ (same_upd nU) rfl⟩
            · intro G ys sG hD hys
              rw [hvl] at hys
              have eys : ys = natsV ((List.range L.length).filter (hits L (f r))) := paired_map hys
              obtain ⟨idx, eidx⟩ : ∃ idx, idx = (List.range L.length).filter (hits L (f r)) := ⟨_, rfl⟩
              rw [← eidx] at eys
              rw [eys] at hD
              have sqG : Same Hq G := sG.trans del_sub
              dsimp only [gName]
              refine if_s (a := PyData.eqv (.list (idx.map fun (n : Nat) => PyData.int (n : Int))) (.list [])) (fun Q h => ?_) (fun hb2 H5 s5 => ?_) (fun hb2 H5 s5 => ?_)
              · exact ⟨_, rfl, Nat.zero_le _, fun z nz => ⟨_, .list [], .lst (.inl (.inl ((same_upd nz) _ _ hD))) (dp_nats idx), .lst (.inl (.inl upd_same)) .nil, nats_shaped idx, strs_shaped (xs := []) (fun x hxm => by cases hxm), _, rfl, h _ (same_upd nz)⟩⟩
              · have hnt : ¬ f r ∈ L.map (·.2) := fun ht => by
                  obtain ⟨k0, S0, _, r', h2⟩ := hits_one hLn ht
                  rw [eidx, h2] at hb2
                  cases hb2
                have sq5 : Same Hq H5 := sqG.trans s5
                have hf5 := sq5 _ _ hfq
                refine ⟨_, rfl, .inl ⟨rfl, _, .inl (.inl hf5)⟩, _, rfl, _, _, rfl, rfl, ⟨by omega, by omega, by decide⟩, _, rfl, (show (2 : Nat) ≤ sizeLine by decide), fun W nW => ?_⟩
                dsimp only
                rw [epow]
                have s6 : Same Hq (upd H5 W (.tup [.int ((2 ^ e.1 : Nat) : Int), X])) := sq5.trans (same_upd nW)
                have hf6 := s6 _ _ hfq
                have hWf : W ≠ f0 := (ne_of_none hf5 nW).symm
                refine ⟨f0, vs, _, rfl, rfl, hf6, small1000 (by omega), by rw [del_upd]; exact (s1.trans (del_mono sq)).trans (del_mono s6), ⟨_, upd_same, ?_⟩, _, _, _, _, _, rfl⟩
                rw [del_upd, addR_new hnt]
                unfold mapD at hvsq ⊢
                rw [List.map_append]
                exact papp (pmap hvsq fun _ _ z => z.same (del_mono s6)) (.cons ⟨W, X, rfl, .inl (.inl (by rw [del_ne hWf, upd_same])), dp_del hf6 hnl (Dp.same s6 hX), hsh⟩ .nil)
              · have ht : f r ∈ L.map (·.2) := by
                  apply Classical.byContradiction
                  intro hnt
                  rw [eidx, hits_no hnt] at hb2
                  cases hb2
                obtain ⟨k0, S0, hk0, r', h2⟩ := hits_one hLn ht
                rw [← eidx] at h2
                have sq5 : Same Hq H5 := sqG.trans s5
                have hf5 := sq5 _ _ hfq
                have hD5 := s5 _ _ hD
                rw [h2] at hD5
                have hk0l : k0 < L.length := (List.getElem?_eq_some_iff.mp hk0).1
                have hk0v : k0 < vs.length := by omega
                have hvk : vs[k0]? = some vs[k0] := List.getElem?_eq_getElem hk0v
                obtain ⟨p, hp, tt, z, ez, hT, hz, hzsh⟩ := pget hvsq hvk
                obtain ⟨q0, hq0, rfl⟩ := mapD_get hp
                rw [hk0] at hq0
                obtain rfl := Option.some.inj hq0
                have hS0 : S0 < 2 ^ e.1 := (hLa.pos _ (List.mem_of_getElem? hk0)).2
                have hatD : atI (natsV (k0 :: r')) 0 = some (.int ((k0 : Nat) : Int)) := (atI_nat (xs := natsV (k0 :: r')) (k := 0) (by unfold natsV; simp)).trans rfl
                have hatv : atI vs ((k0 : Nat) : Int) = some (.ref tt) := by rw [atI_nat hk0v, hvk, ez]
                have hT5 : SqT K H5 tt [.int ((S0 : Nat) : Int), z] := (del_sub.trans sq5).seqT hT
                refine ⟨_, rfl, _, rfl, D, _, 0, _, rfl, rfl, .inl (.inl hD5), hatD, f0, vs, _, _, rfl, rfl, .inl (.inl hf5), hatv, tt, _, 0, _, rfl, rfl, hT5, rfl, _, rfl, _, _, rfl, rfl, ⟨by omega, by omega, by decide⟩, _, _, rfl, rfl, _, rfl, (show (2 : Nat) ≤ sizeLine by decide), fun W nW => ?_⟩
                dsimp only
                have esum : ((S0 : Nat) : Int) + (1 : Int) * 2 ^ ((e.1 : Nat) : Int).toNat = ((S0 ||| 2 ^ e.1 : Nat) : Int) := by
                  rw [epow, ← add_or hS0]; rfl
                rw [esum]
                have s6 : Same Hq (upd H5 W (.tup [.int ((S0 ||| 2 ^ e.1 : Nat) : Int), X])) := sq5.trans (same_upd nW)
                have hf6 := s6 _ _ hfq
                have hWf : W ≠ f0 := (ne_of_none hf5 nW).symm
                refine ⟨_, rfl, _, rfl, D, _, 0, _, rfl, rfl, .inl (.inl ((same_upd nW) _ _ hD5)), hatD, f0, vs, _, k0, rfl, rfl, hf6, ?_, by rw [del_upd]; exact (s1.trans (del_mono sq)).trans (del_mono s6), ⟨_, upd_same, ?_⟩, _, _, _, _, _, rfl⟩
                · unfold ixN
                  rw [if_pos (by omega), if_pos (by omega), Int.toNat_natCast]
                · rw [del_upd, addR_in ht, set_up hLn hk0]
                  have em : mapD d (L.set k0 (S0 ||| 2 ^ e.1, f r)) = (mapD d L).set k0 (S0 ||| 2 ^ e.1, d (f r)) := by
                    unfold mapD
                    rw [List.map_set]
                  rw [em]
                  exact pset ⟨W, X, rfl, .inl (.inl (by rw [del_ne hWf, upd_same])), dp_del hf6 hnl (Dp.same s6 hX), hsh⟩ k0 (pmap hvsq fun _ _ z => z.same (del_mono s6))
      · have hno : look e.2 n = none := by
          rcases tr_look htk n with ⟨z, _⟩ | ⟨_, v, _, h2, _⟩
          · exact z
          · rw [h2] at hb; cases hb
        refine ⟨s1, ⟨vs, hf, ?_⟩, _, _, _, _, _, rfl⟩
        rw [e2, prs_snoc, hno]
        exact hvs
    · rintro σ H' ⟨s1, ⟨vs, hf, hvs⟩, v4, v5, v6, v7, v8, rfl⟩
      rw [hlen2, List.take_length] at hvs
      exact ⟨_, rfl, q H' f0 ((sB.trans s1).trans del_sub) ⟨vs, hf, pmap hvs fun _ _ z => z.same del_sub⟩⟩
end
end ML

set_option Elab.async false
set_option linter.all false
set_option maxRecDepth 100000
set_option maxHeartbeats 4000000
namespace ML
open PySem PySem.Spec PyProof.Rows L2 MM
def prD (p : Nat × PyData) : PyData := .tuple [.int (p.1 : Int), p.2]
theorem pr_dps {K : PySem.W.Frag} {H : Hp} : ∀ {vs : List V} {ps : List (Nat × PyData)}, Paired (PrEnt K H) vs ps → DpAll K H vs (ps.map prD)
  | _, _, .nil => .nil
  | _, _, .cons r t => by
    obtain ⟨tt, x, e, h1, h2, h3⟩ := r
    rw [e]
    exact .cons (.tup h1 (.cons (.int _) (.cons h2 .nil))) (pr_dps t)
theorem ty_seqT {K : PySem.W.Frag} {H : Hp} {a : Addr} {xs : List V} (h : SqT K H a xs) : TyX K H (.ref a) (.type "tuple") := by
  rcases h with (h | ⟨o, h⟩) | ⟨o, its, n, h1, h2, _⟩
  · exact .base (.tup h)
  · exact .fTuple h
  · exact .kTuple h1 h2
theorem prs_lay {ps : List (Nat × PyData)} (h : ∀ p ∈ ps, PyData.canLay0 p.2 = true ∧ PyData.depth p.2 ≤ 10) : PyData.canLay0 (.list (ps.map prD)) = true := lay_all prD ps fun p hp => by
  show (true && (PyData.canLay0 p.2 && true)) = true
  rw [(h p hp).1]; rfl
theorem prs_shaped {ps : List (Nat × PyData)} (h : ∀ p ∈ ps, PyData.canLay0 p.2 = true ∧ PyData.depth p.2 ≤ 10) : SeqAt.shaped (.list (ps.map prD)) = true := by
  refine shaped_mk (lay_all prD ps fun p hp => ?_) ?_
  · show (true && (PyData.canLay0 p.2 && true)) = true
    rw [(h p hp).1]; rfl
  · show PyData.depthAll (ps.map prD) + 1 ≤ 64
    have := depth_all prD 11 ps fun p hp => by
      show max 0 (max (PyData.depth p.2) 0) + 1 ≤ 11
      have := (h p hp).2
      omega
    omega
def spWhole : Sp := fun vs H Q _ => ∃ i : Int, vs = [.int i] ∧ Q (.bl true) H
def spPairs (K : PySem.W.Frag) : Sp := fun vs H Q _ => ∃ (a b : Addr) (ps : List (Nat × PyData)), vs = [.ref a, .ref b] ∧ PrAt K H a ps ∧ PrAt K H b ps ∧ (∀ p ∈ ps, PyData.canLay0 p.2 = true ∧ PyData.depth p.2 ≤ 10) ∧ ∀ H', Same (L2.del H a) H' → Q (.bl true) H'
section
variable {P : Program} {w : World} {K : PySem.W.Frag} {mg : Str → Option Value} {base : Heap}
theorem ok_l_whole (T : Txt K mg) : OkF P w K mg base CX0 1 "_law_whole" ["_law_found"] spWhole := by
  obtain ⟨fd, F⟩ := T.f_law_whole
  refine ⟨⟨fd, ?_, F.bindsN fun _ _ _ _ _ _ us hl => match us, hl with | [_], _ => rfl⟩, F.kp, T.g_law_whole⟩
  refine F.ok sc_law_whole (fun vs H Q E h => ?_) (fun cdv A outer s H vs Q E hr h => ?_)
  · obtain ⟨_, rfl, _⟩ := h
    rfl
  · obtain ⟨i, rfl, q⟩ := h
    refine ⟨_, PSs.nox (pss_one (ps_ret (pe_and (pe_callB call_isi (by rfl) T.b_isinstance (by decide +kernel) (pa_cons (pv 0) (pa_cons (pe_bltn (v := .ty "int") (by rfl) T.b_int (by decide +kernel) rfl) pa_nil))) (pe_one (pe_not (pe_callB call_isi (by rfl) T.b_isinstance (by decide +kernel) (pa_cons (pv 0) (pa_cons (pe_bltn (v := .ty "bool") (by rfl) T.b_bool (by decide +kernel) rfl) pa_nil)))))))), ?_⟩
    refine ⟨_, rfl, _, _, _, _, true, rfl, .ty "int", .base (.int i), kit_ty (by decide +kernel), _, rfl, iteT ?_⟩
    exact ⟨_, rfl, _, _, _, _, false, rfl, .ty "bool", .base (.int i), kit_ty (by decide +kernel), _, rfl, q⟩
theorem ok_l_pairs (T : Txt K mg) : OkF P w K mg base CX0 2 "_law_pairs" ["_law_told", "_law_due"] (spPairs K) := by
  obtain ⟨fd, F⟩ := T.f_law_pairs
  have O_law_whole := ok_l_whole (P := P) (w := w) (base := base) T
  refine ⟨⟨fd, ?_, F.bindsN fun _ _ _ _ _ _ us hl => match us, hl with | [_, _], _ => rfl⟩, F.kp, T.g_law_pairs⟩
  refine F.ok sc_law_pairs (fun vs H Q E h => ?_) (fun cdv A outer s H vs Q E hr h => ?_)
  · obtain ⟨_, _, _, rfl, _⟩ := h
    rfl
  · obtain ⟨a, b, ps, rfl, ⟨vs, ha, hvs⟩, ⟨us, hb, hus⟩, hps, q⟩ := h
    have nd := sc_law_pairs.nd
    refine ⟨_, PSs.nox (pss_cons (ps_if (PW.pt (pw_or (pt_not (pt_val (pe_callB call_isi (by rfl) T.b_isinstance (by decide +kernel) (pa_cons (pv 0) (pa_cons (pe_bltn (v := .ty "list") (by rfl) T.b_list (by decide +kernel) rfl) pa_nil))))) (pw_or1 (pt_cmpR (op_neD hr.units) (pv 0) (pv 1) (nomark _))))) (pss_one (ps_ret pe_bl)) pss_nil)
      (pss_cons (ps_for PassesOwn.never rfl (pi_list (pv 0)) (pg_nm 2 nd)
        (pss_one (ps_if (PW.pt (pw_or (pt_not (pt_val (pe_callB call_isi (by rfl) T.b_isinstance (by decide +kernel) (pa_cons (pv 2) (pa_cons (pe_bltn (v := .ty "tuple") (by rfl) T.b_tuple (by decide +kernel) rfl) pa_nil))))) (pw_or1 (pt_not (pt_val (pe_callD O_law_whole hr pass0 (pa_cons (pe_ix ix_tup (pv 2) pe_int (fun _ _ => rfl)) pa_nil))))))) (pss_one (ps_ret pe_bl)) pss_nil)))
      (pss_cons (ps_expr (pe_bm0 PySem.F.plainAttrs_list PySem.F.slot_list_clear PySem.F.type_list_clear mt_clear (pv 0)))
      (pss_one (ps_ret pe_bl))))), ?_⟩
    dsimp only [tSeq]
    have hdp : ∀ {c us}, H c = some (.lst us) → Paired (PrEnt K H) us ps → Dp K H (.ref c) (.list (ps.map prD)) := fun h r => .lst (.inl (.inl h)) (pr_dps r)
    have hrefl : PyData.eqv (.list (ps.map prD)) (.list (ps.map prD)) = true := PySem.SeqAt.eqv_refl _ (prs_lay hps)
    refine if_t (a := false) (fun Q h => or_t (a := false) (b := false) (fun Q h => ?_) (fun _ Q h => ?_) h) (fun z => by cases z) (fun _ => ?_)
    · exact ⟨_, rfl, _, _, _, _, true, rfl, .ty "list", .base (.lst ha), kit_ty (by decide +kernel), _, rfl, h⟩
    · exact ⟨_, rfl, _, rfl, _, _, hdp ha hvs, hdp hb hus, prs_shaped hps, prs_shaped hps, false, by rw [hrefl]; rfl, h⟩
    · refine ⟨_, rfl, a, rfl, ⟨vs, .inl (.inl ha)⟩, for_it walk_list (fun i σ H' => H' = H ∧ ∃ v2, σ = [some (.ref a), some (.ref b), v2]) ⟨rfl, none, rfl⟩ (fun i σ H' _ ⟨e, _⟩ => by rw [e]; exact .inl (.inl ha)) ?_ ?_⟩
      · rintro i x σ H1 H' hi ⟨rfl, v2, rfl⟩ ⟨rfl, hy⟩
        obtain ⟨p, hp, tt, z, rfl, hT, hz, hzsh⟩ := pget hvs hy
        refine if_t (a := false) (fun Q h => or_t (a := false) (b := false) (fun Q h => ?_) (fun _ Q h => ?_) h) (fun z => by cases z) (fun _ => ⟨rfl, _, rfl⟩)
        · exact ⟨_, rfl, _, _, _, _, true, rfl, .ty "tuple", ty_seqT hT, kit_ty (by decide +kernel), _, rfl, h⟩
        · exact ⟨_, rfl, tt, _, 0, _, rfl, rfl, hT, rfl, _, rfl, _, rfl, h⟩
      · rintro σ H' ⟨rfl, v2, rfl⟩
        refine ⟨_, rfl, .inl ⟨rfl, _, .inl (.inl ha)⟩, a, vs, rfl, rfl, ha, q _ fun c o hc => ?_⟩
        have c1 : c ≠ a := fun z => by rw [z, del_same] at hc; cases hc
        rw [upd_ne c1]
        rw [del_ne c1] at hc
        exact hc
end
/-! ### told_of -/
theorem passE {P : Program} {w : World} {X : Cx} : Passes (L2.CX P w) X E0 := fun _ _ _ _ _ _ _ c => by
  obtain ⟨_, _, _, _, _, _, _, _, _, _, _, _, h⟩ := c
  exact h.elim
theorem TB.lst {K : PySem.W.Frag} {H : Hp} {d : Addr} {xs : List V} (h : TB K H) (hd : H d = some (.lst xs)) : TB K (L2.del H d) := by
  intro p hp
  obtain ⟨ps, h1, h2, h3⟩ := h p hp
  have np : p.1 ≠ d := ne_of h1 hd (by intro z; cases z)
  refine ⟨ps, by rw [del_ne np]; exact h1, h2, fun pos cv e => ?_⟩
  obtain ⟨c, e1, e2⟩ := h3 pos cv e
  have nc : c ≠ d := ne_of e2 hd (by intro z; unfold LamX.CodeO at z; cases z)
  exact ⟨c, e1, by rw [del_ne nc]; exact e2⟩
/-- the choices that have the name -/
def hasN (fo : Fo) (n : Str) (k : Nat) : Bool := match fo[k]? with
  | some e => (look e.2 n).isSome
  | none => false
theorem hist_range : ∀ (fo : Fo) (n : Str), ((List.range fo.length).filter (hasN fo n)).map (fun k => (fo.map (·.1)).getD k 0) = (hist fo n).map (·.1) := fun fo n =>
  snoc_ind (P := fun fo => ((List.range fo.length).filter (hasN fo n)).map (fun k => (fo.map (·.1)).getD k 0) = (hist fo n).map (·.1)) rfl (fun l x ih => by
    have e1 : (List.range l.length).filter (hasN (l ++ [x]) n) = (List.range l.length).filter (hasN l n) := by
      refine List.filter_congr fun k hk => ?_
      have := List.mem_range.mp hk
      unfold hasN
      rw [List.getElem?_append_left this]
    have e2 : hasN (l ++ [x]) n l.length = (look x.2 n).isSome := by
      unfold hasN
      simp
    have e3 : ((List.range l.length).filter (hasN l n)).map (fun k => ((l ++ [x]).map (·.1)).getD k 0) = ((List.range l.length).filter (hasN l n)).map (fun k => (l.map (·.1)).getD k 0) := by
      refine List.map_congr_left fun k hk => ?_
      have := List.mem_range.mp (List.mem_filter.mp hk).1
      rw [List.getD_eq_getElem?_getD, List.getD_eq_getElem?_getD, List.map_append, List.getElem?_append_left (by rw [List.length_map]; exact this)]
    have e4 : ((l ++ [x]).map (·.1)).getD l.length 0 = x.1 := by
      rw [List.getD_eq_getElem?_getD, List.map_append]
      have : (l.map (·.1)).length = l.length := List.length_map _
      rw [List.getElem?_append_right (by omega), this]
      simp
    have e5 : ([l.length].filter (hasN (l ++ [x]) n)).map (fun k => ((l ++ [x]).map (·.1)).getD k 0) = List.map (fun y : Nat × Rec => y.1) (match look x.2 n with | some r => [(x.1, r)] | none => []) := by
      cases z : look x.2 n with
      | none =>
        have : [l.length].filter (hasN (l ++ [x]) n) = [] := by simp [e2, z]
        rw [this]; rfl
      | some r =>
        have : [l.length].filter (hasN (l ++ [x]) n) = [l.length] := by simp [e2, z]
        rw [this]
        show [((l ++ [x]).map (·.1)).getD l.length 0] = [x.1]
        rw [e4]
    have e0 : (l ++ [x]).length = l.length + 1 := by simp
    rw [e0, List.range_succ, List.filter_append, e1]
    refine List.map_append.trans ?_
    rw [e3, ih, e5, hist_snoc]
    exact List.map_append.symm) fo
theorem if_e {K : PySem.W.Frag} {tA : TT} {t u : TS} {D : Ends} {σ : L2.St} {H : Hp} {a : Bool} (hA : ∀ Q : Bool → Hp → Prop, (∀ H', LamX.ExtN H H' → TB K H' → Q a H') → tA σ H Q) (h1 : a = true → ∀ H', LamX.ExtN H H' → TB K H' → t D σ H') (h2 : a = false → ∀ H', LamX.ExtN H H' → TB K H' → u D σ H') : tIfS tA t u D σ H := by
  refine hA _ fun H' e k => ?_
  cases a with
  | false => exact iteF (h2 rfl H' e k)
  | true => exact iteT (h1 rfl H' e k)
def spToldOf (K : PySem.W.Frag) : Sp := fun vs H Q _ => ∃ (b fl : Addr) (n : Str) (fo : Fo), vs = [.ref b, .ref fl, .str n] ∧ BookAt K H b fo ∧ FoAt K H fl fo ∧ FoOk fo ∧ TB K H ∧ recsOf fo n ≠ [] ∧ ∀ H', LamX.ExtN H H' → TB K H' → Q (.bl true) H'
theorem FoAt.ext {K : PySem.W.Frag} {H H' : Hp} (e : LamX.ExtN H H') {f : Addr} {fo : Fo} (h : FoAt K H f fo) : FoAt K H' f fo := by
  obtain ⟨kvs, h1, h2⟩ := h
  refine ⟨kvs, e _ _ h1 (fun _ z => by cases z), pmap h2 fun kv x z => ?_⟩
  obtain ⟨z1, d, z2, kv2, z3, z4⟩ := z
  exact ⟨z1, d, z2, kv2, e _ _ z3 (fun _ z => by cases z), pmap z4 fun _ _ y => ⟨y.1, (Keep.ext e).dp y.2.1, y.2.2⟩⟩
section
variable {γ : Type} [DecidableEq γ] {f : Rec → γ} {d : γ → PyData}
theorem prs_small (hlay : ∀ r : Rec, r.ok → PyData.canLay0 (d (f r)) = true) (hdep : ∀ r : Rec, PyData.depth (d (f r)) ≤ 10) {fo : Fo} (h : FoOk fo) (n : Str) : ∀ p ∈ mapD d (prsOf f fo n), PyData.canLay0 p.2 = true ∧ PyData.depth p.2 ≤ 10 := fun p hp => by
  obtain ⟨q, hq, rfl⟩ := List.mem_map.mp hp
  have h1 := grp_mem _ q hq
  obtain ⟨x, hx, e⟩ := List.mem_map.mp h1
  obtain ⟨y, hy, rfl⟩ := List.mem_map.mp hx
  obtain ⟨z, hz, rfl⟩ := List.mem_map.mp hy
  have e' : f z.2 = q.2 := e
  show PyData.canLay0 (d q.2) = true ∧ PyData.depth (d q.2) ≤ 10
  rw [← e']
  exact ⟨hlay _ (h.hok z hz), hdep _⟩
end
theorem shaped_lay {d : PyData} (h : SeqAt.shaped d = true) : PyData.canLay0 d = true := by
  unfold SeqAt.shaped at h
  cases z : PyData.canLay0 d with
  | true => rfl
  | false => rw [z] at h; simp at h
theorem pl_depth (r : Rec) : PyData.depth (plD r.pl) ≤ 10 := by
  show max 0 (max 0 (max 0 0)) + 1 ≤ 10
  decide
theorem ct_depth10 (r : Rec) : PyData.depth r.ct.d ≤ 10 := by
  have := ct_depth r.ct
  omega
section
variable {P : Program} {w : World} {K : PySem.W.Frag} {mg : Str → Option Value} {base : Heap}
theorem ok_l_told_of (T : Txt K mg) (G : ExF K) (B : LamX.TabB base mg (blC K) (blT K)) : OkF P w K mg base CX0 10 "_law_told_of" ["_law_book_here", "_law_found", "_law_name"] (spToldOf K) := by
  obtain ⟨fd, F⟩ := T.f_law_told_of
  have O_Book_where := ok_where (P := P) (w := w) (base := base) T G
  have O_Book_places := ok_places (P := P) (w := w) (base := base) T G B
  have O_Book_contents := ok_contents (P := P) (w := w) (base := base) T G B
  have O_law_whole := ok_l_whole (P := P) (w := w) (base := base) T
  have O_law_pairs := ok_l_pairs (P := P) (w := w) (base := base) T
  have O_sort0 := ok_l_sorted (P := P) (w := w) (base := base) sel_pl T
  have O_sort1 := ok_l_sorted (P := P) (w := w) (base := base) sel_ct T
  refine ⟨⟨fd, ?_, F.bindsN fun _ _ _ _ _ _ us hl => match us, hl with | [_, _, _], _ => rfl⟩, F.kp, T.g_law_told_of⟩
  refine F.ok sc_law_told_of (fun vs H Q E h => ?_) (fun cdv A outer s H vs Q E hr h => ?_)
  · obtain ⟨_, _, _, _, rfl, _⟩ := h
    rfl
  · obtain ⟨b, fl, n, fo, rfl, hb, hfo, hok, hT, hne, q⟩ := h
    have nd := sc_law_told_of.nd
    have hu := hu_of hr
    refine ⟨_, PSs.nox (pss_cons (ps_sv 3 nd (pe_callB (cr_sum rfl) (by rfl) T.b_sum (by decide +kernel) (pa_cons (pe_lock (pe_lc (g := gName 6) (own := [("_law_number", 6)]) (by rfl) nd (pi_keys (pv 1)) (blkOk_by (own := [("_law_number", 6)]) (N := n_law_told_of) (sc := defScope s_law_told_of) (by decide +kernel)) (fun _ _ _ _ _ => (pg_nm 6 nd)) (fun _ _ _ _ _ => (pts_one (pt_cmp (pc_din hu (pv 2) (pe_dget hu (pv 1) (pv 6) (fun _ _ => rfl)))))) (fun _ _ _ _ _ => (pe_op op_shl pe_int (pv 6))))) pa_nil)))
      (pss_cons (ps_sv 4 nd (pe_methD (E := E0) (pv 0) O_Book_where hr passE (pa_cons (pv 2) pa_nil)))
      (pss_cons (ps_if (PW.pt (pw_or (pt_not (pt_val (pe_callD O_law_whole hr pass0 (pa_cons (pv 4) pa_nil)))) (pw_or1 (pt_cmpR op_ne (pv 4) (pv 3) (nomark _))))) (pss_one (ps_ret pe_bl)) pss_nil)
      (pss_cons (ps_for PassesOwn.never rfl (pi_range1 (by rfl) T.b_range (pa_cons pe_int pa_nil)) (pg_nm 5 nd)
        (pss_cons (ps_if (pt_not (pt_val (pe_callD O_law_pairs hr pass0 (pa_cons (pe_methD (E := E0) (pv 0) O_Book_places hr passE (pa_cons (pv 2) pa_nil)) (pa_cons (pe_callD O_sort0 hr pass0 (pa_cons (pv 1) (pa_cons (pv 2) (pa_cons pe_bl pa_nil)))) pa_nil))))) (pss_one (ps_ret pe_bl)) pss_nil)
        (pss_one (ps_if (pt_not (pt_val (pe_callD O_law_pairs hr pass0 (pa_cons (pe_methD (E := E0) (pv 0) O_Book_contents hr passE (pa_cons (pv 2) pa_nil)) (pa_cons (pe_callD O_sort1 hr pass0 (pa_cons (pv 1) (pa_cons (pv 2) (pa_cons pe_bl pa_nil)))) pa_nil))))) (pss_one (ps_ret pe_bl)) pss_nil))))
      (pss_one (ps_ret pe_bl)))))), ?_⟩
    dsimp only [tSeq]
    obtain ⟨kvs, hfl, hkvs⟩ := hfo
    refine ⟨fl, .dK kvs, hfl, trivial, fun od => ?_⟩
    obtain ⟨HL, eHL⟩ : ∃ HL, HL = upd H fl (.frz od (.dK kvs)) := ⟨_, rfl⟩
    rw [← eHL]
    have hLfl : HL fl = some (.frz od (.dK kvs)) := by rw [eHL, upd_same]
    have hklen : kvs.length = fo.length := hkvs.length
    have hfl256 := hok.len
    refine ⟨_, rfl, fl, od, rfl, .inl ⟨kvs, hLfl, fun D nD => ?_⟩⟩
    refine lc_gen walk_keys (hasN fo n) (fun k _ y => y = V.int ((2 ^ (fo.map (·.1)).getD k 0 : Nat) : Int)) (by omega) nD (fun _ _ _ _ _ z => z) (fun G sG => sG _ _ hLfl) ?_ ?_
    · rintro k x G0 G M no yes hk sG _ ⟨rfl, key, vv, hkv, rfl⟩
      obtain ⟨e, he, ek, td0, etd, htd0⟩ := pget hkvs hkv
      have ek' : key = .inl ((e.1 : Nat) : Int) := ek
      subst ek'
      have hem := List.mem_of_getElem? he
      obtain ⟨td, hv1, htr⟩ := fo_val hok hkvs hem
      have htdfl : td ≠ fl := fun z => by
        obtain ⟨kv2, h1, h2⟩ := htr
        rw [z, hfl] at h1
        have h1' : kvs = kv2 := by cases h1; rfl
        subst h1'
        obtain ⟨p, _, h3, _⟩ := pmem h2 (List.mem_of_getElem? hkv)
        cases h3
      have htrL : TrAt K HL td e.2 := by rw [eHL]; exact htr.put hfl (fun z => z) htdfl
      have sLG := sG.trans del_sub
      obtain ⟨tk, htd, htk⟩ := htrL.same sLG
      have hget : DGet G fl (.int ((e.1 : Nat) : Int)) (some (.ref td)) := .inl ⟨kvs, .inl ((e.1 : Nat) : Int), .inr ⟨od, sLG _ _ hLfl⟩, rfl, hv1.symm⟩
      have hp : hasN fo n k = (valV tk (.inr n)).isSome := by
        unfold hasN
        rw [he]
        rcases tr_look htk n with ⟨z1, z2⟩ | ⟨r, v, z1, z2, _⟩
        · show (look e.2 n).isSome = _
          rw [z1, z2]; rfl
        · show (look e.2 n).isSome = _
          rw [z1, z2]; rfl
      have hgd : (fo.map (·.1)).getD k 0 = e.1 := by rw [List.getD_eq_getElem?_getD, List.getElem?_map, he]; rfl
      have he256 := hok.lt e hem
      refine ⟨rfl, ?_⟩
      refine ⟨_, rfl, _, rfl, _, rfl, fl, _, rfl, hget, td, _, rfl, DGet.k (k := .inr n) htd, hasN fo n k, by rw [hp], ?_⟩
      cases hp2 : hasN fo n k with
      | false => exact iteF (no hp2 _ (Same.refl _))
      | true =>
        refine iteT ⟨_, rfl, _, _, rfl, rfl, ⟨by omega, by omega, by decide⟩, yes hp2 _ _ (Same.refl _) ?_⟩
        dsimp only
        rw [hgd, Int.toNat_natCast, Int.one_mul, Int.natCast_pow]; rfl
    · intro G ys sG hD hys
      rw [hklen] at hys
      have sLG := sG.trans del_sub
      have hdG := sLG _ _ hLfl
      obtain ⟨H1, eH1⟩ : ∃ H1, H1 = upd G fl (.dK kvs) := ⟨_, rfl⟩
      have s1 : Same H H1 := by rw [eH1]; rw [eHL] at sLG; exact unlock hfl sLG
      have hDfl : D ≠ fl := ne_of hD hdG (by intro z; cases z)
      have hD1 : H1 D = some (.lst ys) := by rw [eH1, upd_ne hDfl]; exact hD
      refine ⟨hdG, ?_⟩
      rw [← eH1]
      have eys : ys = (((hist fo n).map fun x => ((2 ^ x.1 : Nat) : Int))).map V.int := by
        have h1 := paired_map hys
        have h2 := congrArg (List.map fun m : Nat => V.int ((2 ^ m : Nat) : Int)) (hist_range fo n)
        rw [List.map_map, List.map_map] at h2
        rw [h1, List.map_map]
        exact h2
      have hsum : ((hist fo n).map fun x => ((2 ^ x.1 : Nat) : Int)).sum = ((orS (recsOf fo n) : Nat) : Int) := by
        have h1 := (orS_bits (hist fo n) 256 (hok.rising n) hok.hlt).2
        unfold recsOf
        rw [orS_grp, h1]
        generalize hist fo n = l
        induction l with
        | nil => rfl
        | cons x r ih =>
          rw [List.map_cons, List.map_cons, List.sum_cons, List.sum_cons, ih, Int.natCast_add]
      refine ⟨D, _, rfl, .inl (.inl (by rw [hD1, eys])), ?_⟩
      rw [hsum]
      dsimp only [gName]
      have hb1 := hb.ext (LamX.ExtN.of s1)
      have hno : recsOf fo n = [] → Out K H1 n E0 := fun z => absurd z hne
      have hb1' := hb1
      obtain ⟨dx, pn, d, bkv, hbo, hbd, hbk⟩ := hb1
      refine ⟨_, rfl, b, dx, _, rfl, hbo, rfl, _, rfl, b, n, fo, rfl, hb1', hok, fun _ => ?_, hno⟩
      dsimp only [gName]
      refine if_t (a := false) (fun Q h => or_t (a := false) (b := false) (fun Q h => ?_) (fun _ Q h => ?_) h) (fun z => by cases z) (fun _ => ?_)
      · exact ⟨_, rfl, _, rfl, _, rfl, h⟩
      · exact ⟨_, rfl, _, rfl, rfl, false, by rw [decide_eq_true rfl]; rfl, h⟩
      · have hT1 : TB K H1 := hT.same s1
        have hfo1 : FoAt K H1 fl fo := FoAt.same s1 ⟨kvs, hfl, hkvs⟩
        dsimp only [tNext]
        refine ⟨2, rfl, by decide, by decide, for_it (n := 2) walk_range0 (fun i σ H' => LamX.ExtN H1 H' ∧ TB K H' ∧ ∃ v3 v4 v5 v6, σ = [some (.ref b), some (.ref fl), some (.str n), v3, v4, v5, v6]) ⟨LamX.ExtN.refl _, hT1, _, _, none, none, rfl⟩ (fun _ _ _ _ _ => trivial) ?_ ?_⟩
        · rintro i x σ H0 H2 hi ⟨e2, hT2, v3, v4, v5, v6, rfl⟩ ⟨rfl, hxx⟩
          subst hxx
          dsimp only [tSeq, gName]
          have test : ∀ {H0 : Hp} {l : Addr} {ps : List (Nat × PyData)} {H3 H4 : Hp}, LamX.ExtN H0 H3 → TB K H3 → New H0 l → PrAt K H3 l ps → Same H3 H4 → ∀ H5, Same (L2.del H4 l) H5 → LamX.ExtN H0 H5 ∧ TB K H5 := fun {H0 l ps H3 H4} e3 t3 nw pr s4 H5 s5 => by
            obtain ⟨vs, hl, _⟩ := pr
            refine ⟨fun c o hc hn => ?_, ((t3.same s4).lst (s4 _ _ hl)).same s5⟩
            have hcl : c ≠ l := fun z => by
              rw [z] at hc
              obtain ⟨ps, z2⟩ := nw o hc
              exact hn ps z2
            exact s5 _ _ (by rw [del_ne hcl]; exact s4 _ _ (e3 _ _ hc hn))
          have hbook : ∀ {G}, LamX.ExtN H1 G → G b = some (.ins (He.ga K "Book") dx [("panel", pn), ("records", .ref d)]) := fun e => e _ _ hbo (fun _ z => by cases z)
          refine if_e (K := K) (a := false) (fun Q h => ?_) (fun z => by cases z) (fun _ H6 e6 t6 => ?_)
          · refine ⟨_, rfl, b, dx, _, rfl, hbook e2, rfl, _, rfl, b, n, fo, rfl, hb1'.ext e2, hok, hT2, fun _ H3 l e3 t3 nw pr => ?_, fun z => absurd z hne⟩
            refine ⟨_, rfl, _, rfl, fl, n, fo, rfl, hfo1.ext (e2.trans e3), hok, fun H4 l2 s4 pr2 => ?_⟩
            refine ⟨l, l2, _, rfl, pr.same s4, pr2, prs_small (fun r hr => shaped_lay (pl_shaped hr)) pl_depth hok n, fun H5 s5 => ⟨_, rfl, ?_⟩⟩
            obtain ⟨x1, x2⟩ := test e3 t3 nw pr s4 H5 s5
            exact h H5 x1 x2
          · dsimp only [tNext]
            have e16 := e2.trans e6
            refine if_e (K := K) (a := false) (fun Q h => ?_) (fun z => by cases z) (fun _ H7 e7 t7 => ⟨e16.trans e7, t7, _, _, _, _, rfl⟩)
            refine ⟨_, rfl, b, dx, _, rfl, hbook e16, rfl, _, rfl, b, n, fo, rfl, hb1'.ext e16, hok, t6, fun _ H3 l e3 t3 nw pr => ?_, fun z => absurd z hne⟩
            refine ⟨_, rfl, _, rfl, fl, n, fo, rfl, hfo1.ext (e16.trans e3), hok, fun H4 l2 s4 pr2 => ?_⟩
            refine ⟨l, l2, _, rfl, pr.same s4, pr2, prs_small (fun r hr => shaped_lay (ct_shaped hr.c)) ct_depth10 hok n, fun H5 s5 => ⟨_, rfl, ?_⟩⟩
            obtain ⟨x1, x2⟩ := test e3 t3 nw pr s4 H5 s5
            exact h H5 x1 x2
        · rintro σ H' ⟨e2, hT2, v3, v4, v5, v6, rfl⟩
          exact q H' ((LamX.ExtN.of s1).trans e2) hT2
end
end ML

set_option Elab.async false
set_option linter.all false
set_option maxRecDepth 100000
set_option maxHeartbeats 4000000
namespace ML
open PySem PySem.Spec PyProof.Rows L2 MM
/-- o.m(..) in a try: what it may let out is told at the slots -/
def tMethS (C : Addr) (m : Str) (sp : Sp) (E : L2.St → XK) (ta : TE) (t : TA) : TE := fun σ H Q => ta σ H fun x H1 => ∃ a dx fs, x = .ref a ∧ H1 a = some (.ins C dx fs) ∧ fs.lookup m = none ∧ t σ H1 fun vs H2 => sp (x :: vs) H2 Q (E σ)
section
variable {X : Cx} {k n : Nat} {C m : Str} {ps : List Str} {sp : Sp} {e o : Expr} {es : List Expr} {t : TA} {ta : TE} {p pos apos : Pos} {CX : CXT} {E : L2.St → XK}
theorem pe_methS {pl : Sem Bool} (ho : PE X o ta) (O : OkM X.prog X.w X.K X.mg X.base CX k C m ps sp) (hr : Room n X.A) (hx : ∀ σ, PassesAt CX X σ (E σ)) (ha : PA X (e :: es) t) (hk : k ≤ n := by decide)
    (hst : starEach (e :: es) X.env = (false, eval e X.env) :: starEach es X.env := by rfl) (hpl : (backTo pos (starEach es X.env)).any (·.1) = false := by rfl)
    (ht : eval (.Call (.Attribute o m apos) (e :: es) [] pos) X.env = (do
      let ov ← eval o X.env
      standAt apos.atName
      let (f, first) ← holding [ov] (getMethod ov m pl)
      callWith pos f first (backTo pos (starEach (e :: es) X.env)) (backToKw pos (keywordEach [] X.env))) := by rfl) :
    PE X (.Call (.Attribute o m apos) (e :: es) [] pos) (tMethS (He.ga X.K C) m sp E ta t) := by
  obtain ⟨fd, F, b⟩ := O.ex
  refine ⟨fun pins s σ H Q I h => PySem.W.methodCall_KW (pl := pl) (thn (ho.run pins s σ H _ I h) fun u s1 ⟨x, H1, I1, rx, a, dx, fs, ex, ea, l, q⟩ => ?_) ht⟩
  subst ex
  obtain rfl : u = Value.ref a := rx
  exact getmeth_ok I1 ea O.cl O.me l (PySem.W.callWith_K (first := [.ref a]) (h₀ := X.base) I.ok.mod.kin O.me.kp (thn (ha.run pos pins s1 σ H1 _ I1 q) fun us s2 ⟨vs, H2, I2, r, q2⟩ =>
    ⟨I2.kIn, run_fnS (us := .ref a :: us) (vs := .ref a :: vs) F (hr.mono hk) b (hx σ) I2 (.cons rfl r) q2⟩) hst hpl)
end
/-- isinstance(e, c), e the caught exception, an instance with a dict of the own class at D -/
def rIsED (K : PySem.W.Frag) (D a : Addr) (cls : Value) (d : Option Addr) : List V → Hp → VK → Prop := fun xs H Q => ∃ (c : V) (cv : Value) (b : Bool) (dd : Addr) (fs : List (Str × V)), xs = [.ref a, c] ∧ cls = .ref D ∧ d = some dd ∧ (∀ u, RelV c u → u = cv) ∧ PySem.W.kitOne K (.ref D) cv = some b ∧ H dd = some (.xd fs) ∧ Q (.bl b) H
theorem call_isED {X : Cx} {a D : Addr} {oe : Obj} {cls : Value} {d : Option Addr} {pn : List (Addr × Obj)} (C : ExcC X.K D) (hz : Zc cls d oe) (hf : ∃ vs, oe.data = .fields vs) :
    CallR (X.suite a ((a, oe) :: pn)) (.builtin "isinstance") (rIsED X.K D a cls d) := by
  rintro pins s σ H xs us Q I r ⟨c, cv, b, dd, fs, rfl, rfl, rfl, hcv, e, hdd, q⟩
  cases r with
  | cons rx rr =>
    cases rr with
    | cons rt rr =>
      cases rr
      cases rx
      obtain rfl := hcv _ rt
      obtain ⟨hget, _⟩ := I.pin (a, oe) (List.mem_append.mpr (.inl List.mem_cons_self))
      obtain ⟨vs, hv⟩ := hf
      obtain ⟨mA, hns, _⟩ := (show ObjOk X.prog X.w H s.heap dd (.xd fs) from I.hok dd _ hdd)
      obtain ⟨od, ho, _⟩ := lookIn_ns hns
      have J : PySem.W.InstAt s.heap a oe D (some od) := ⟨hget, hz.1, by unfold PySem.W.notCls; rw [hv] <;> rfl, by rw [hz.2]; exact ho⟩
      have hcl : (PySem.W.clsIn X.K D).isSome = true := by
        obtain ⟨cd, hc, _⟩ := PySem.W.any_some C.hd
        rw [hc]; rfl
      exact PySem.W.kia_one (PySem.W.kitx_exc hcl C.hg C.hk C.hs C.ha C.hn C.ht C.hm) I.kIn J e (fun z => nomatch z) fun tk => ⟨.bl b, H, I.kept (t' := tk) fun _ _ z => z, rfl, q⟩
def way (m : Str) (sp : Sp) (K : PySem.W.Frag) (k : Int) (W : WX) : TS := tIfS (tTest (tOp rEq (tVar 2) (tC (.int k)))) (tDrop (tMethS (He.ga K "Book") m sp (WE W) (tVar 0) (tCons (tVar 1) tNil))) tNext
def tBody (K : PySem.W.Frag) (W : WX) : TS := tSeq (way "where" (spWhere K) K 0 W) (tSeq (way "places" (spPl K Rec.pl plD) K 1 W) (way "contents" (spPl K Rec.ct Ct.d) K 2 W))
def tSuite (K : PySem.W.Frag) (a : Addr) (cls : Value) (d : Option Addr) : TS := tAsg (tTup (tCons (tXf a cls d (He.ga K "NoPart") "part" (tVar 4)) (tCons (tXf a cls d (He.ga K "NoPart") "choice" (tVar 4))
  (tCons (tCB (rIsED K (He.ga K "NoPart") a cls d) (tCons (tVar 4) (tCons (tC (.ref (He.ga K "EditError"))) tNil))) (tCons (tCB (rIsED K (He.ga K "NoPart") a cls d) (tCons (tVar 4) (tCons (tC (.ref (He.ga K "Doubled"))) tNil))) tNil))))) (gName 3)
structure ExG (K : PySem.W.Frag) : Prop where
  xf : XfC K (He.ga K "NoPart")
  ec : ExcC K (He.ga K "NoPart")
  kE : PySem.W.kitOne K (.ref (He.ga K "NoPart")) (.ref (He.ga K "EditError")) = some true
  kD : PySem.W.kitOne K (.ref (He.ga K "NoPart")) (.ref (He.ga K "Doubled")) = some false
def spRefused (K : PySem.W.Frag) : Sp := fun vs H Q _ => ∃ (b : Addr) (n : Str) (k : Nat) (fo : Fo), vs = [.ref b, .str n, .int (k : Int)] ∧ k < 3 ∧ BookAt K H b fo ∧ FoOk fo ∧ TB K H ∧ recsOf fo n = [] ∧ PyData.strOk n = true ∧ ∀ H', LamX.ExtN H H' → TB K H' → Q (.bl true) H'
section
variable {P : Program} {w : World} {K : PySem.W.Frag} {mg : Str → Option Value} {base : Heap}
theorem ok_l_refused (T : Txt K mg) (G : ExF K) (G2 : ExG K) (B : LamX.TabB base mg (blC K) (blT K)) : OkF P w K mg base CX0 10 "_law_refused" ["_law_book_here", "_law_name", "_law_way"] (spRefused K) := by
  obtain ⟨fd, F⟩ := T.f_law_refused
  have O_Book_where := ok_where (P := P) (w := w) (base := base) T G
  have O_Book_places := ok_places (P := P) (w := w) (base := base) T G B
  have O_Book_contents := ok_contents (P := P) (w := w) (base := base) T G B
  refine ⟨⟨fd, ?_, F.bindsN fun _ _ _ _ _ _ us hl => match us, hl with | [_, _, _], _ => rfl⟩, F.kp, T.g_law_refused⟩
  refine F.ok sc_law_refused (fun vs H Q E h => ?_) (fun cdv A outer s H vs Q E hr h => ?_)
  · obtain ⟨_, _, _, _, rfl, _⟩ := h
    rfl
  · obtain ⟨b, n, k, fo, rfl, hk3, hb, hok, hT, hno, hn, q⟩ := h
    have nd := sc_law_refused.nd
    refine ⟨_, PSs.nox (pss_cons (ps_sv 3 nd pe_non)
      (pss_cons (ps_try_as (i := 4) (tb := tBody K) (ts := tSuite K) (Wout := fun _ _ _ _ => False) rfl rfl nd rfl rfl ⟨rfl, by decide, .inl T.g_NoPart⟩ takes0
        (fun W pn xe tk _ => pss_cons (ps_if (pt_cmpR op_eq (pv 2) pe_int (nomark _)) (pss_one (ps_expr (pe_methS (E := WE W) (pv 0) O_Book_where hr (fun σ => passAt tk σ) (pa_cons (pv 1) pa_nil)))) pss_nil)
          (pss_cons (ps_if (pt_cmpR op_eq (pv 2) pe_int (nomark _)) (pss_one (ps_expr (pe_methS (E := WE W) (pv 0) O_Book_places hr (fun σ => passAt tk σ) (pa_cons (pv 1) pa_nil)))) pss_nil)
          (pss_one (ps_if (pt_cmpR op_eq (pv 2) pe_int (nomark _)) (pss_one (ps_expr (pe_methS (E := WE W) (pv 0) O_Book_contents hr (fun σ => passAt tk σ) (pa_cons (pv 1) pa_nil)))) pss_nil))))
        (fun a oe cls d pn hz hf => pss_one (ps_sv 3 nd (pe_tup (pa_cons (pe_xf G2.xf G.part hz hf (pv 4)) (pa_cons (pe_xf G2.xf G.choice hz hf (pv 4)) (pa_cons (pe_callB (call_isED G2.ec hz hf) (by rfl) T.b_isinstance (by decide +kernel) (pa_cons (pv 4) (pa_cons (pe_glob (v := .ref (He.ga K "EditError")) rfl T.g_EditError rfl) pa_nil)))
          (pa_cons (pe_callB (call_isED G2.ec hz hf) (by rfl) T.b_isinstance (by decide +kernel) (pa_cons (pv 4) (pa_cons (pe_glob (v := .ref (He.ga K "Doubled")) rfl T.g_Doubled rfl) pa_nil))) pa_nil))))))))
      (pss_one (ps_ret (pe_cmpR (op_eqD hr.units) (pv 3) (pe_tup (pa_cons (pv 1) (pa_cons pe_non (pa_cons pe_bl (pa_cons pe_bl pa_nil))))) (nomark _)))))), ?_⟩
    obtain ⟨D0, eD0⟩ : ∃ D0 : Ends, D0 = { nx := fun _ H' => Q V.non H', rt := Q } := ⟨_, rfl⟩
    have hrt : D0.rt = Q := by rw [eD0]
    obtain ⟨D, eD⟩ : ∃ D : Ends, D = { D0 with nx := fun σ' H' => tRet (tOp (rEqD K) (tVar 3) (tTup (tCons (tVar 1) (tCons (tC V.non) (tCons (tC (V.bl true)) (tCons (tC (V.bl false)) tNil)))))) D0 σ' H' } := ⟨_, rfl⟩
    suffices hgo : tBody K (wAs K (.ref (He.ga K "NoPart")) 4 (tSuite K) (fun _ _ _ _ => False) D) D [some (.ref b), some (.str n), some (.int (k : Int)), some .non, none] H by
      rw [eD, eD0] at hgo
      exact hgo
    have hshape : SeqAt.shaped (.tuple [.str n, .none, .bool true, .bool false]) = true := by
      refine shaped_mk ?_ (show (max 0 (max 0 (max 0 (max 0 0))) + 1 : Nat) ≤ 64 by decide)
      show (PyData.strOk n && (true && (true && (true && true)))) = true
      rw [hn]; rfl
    have fin : ∀ (H' : Hp) (U : Addr), Same H H' → H' U = some (.tup [.str n, .non, .bl true, .bl false]) → D.nx [some (.ref b), some (.str n), some (.int (k : Int)), some (.ref U), none] H' := fun H' U s hU => by
      rw [eD]
      have hd1 : ∀ {G : Hp} {c : Addr}, G c = some (.tup [.str n, .non, .bl true, .bl false]) → Dp K G (.ref c) (.tuple [.str n, .none, .bool true, .bool false]) := fun h => .tup (.inl (.inl h)) (.cons (.str n) (.cons .non (.cons (.bl true) (.cons (.bl false) .nil))))
      refine ⟨_, rfl, _, rfl, (show (4 : Nat) ≤ sizeLine by decide), fun W nW => ⟨_, _, hd1 ((same_upd nW) _ _ hU), hd1 upd_same, hshape, hshape, ?_⟩⟩
      rw [PySem.SeqAt.eqv_refl _ (shaped_lay hshape), hrt]
      exact q _ (LamX.ExtN.of (s.trans (same_upd nW))) (hT.same (s.trans (same_upd nW)))
    have catch_ : ∀ (H' : Hp) (d : Addr), Same H H' → H' d = some (.xd [("choice", .non), ("part", .str n)]) → wAs K (.ref (He.ga K "NoPart")) 4 (tSuite K) (fun _ _ _ _ => False) D (.ref (He.ga K "NoPart")) (some d) [some (.ref b), some (.str n), some (.int (k : Int)), some .non, none] H' := fun H' d s hd =>
      ⟨true, T.x_NoPart, fun _ a ha => ⟨_, rfl, rfl, rfl, d, _, .str n, rfl, hd, rfl, _, rfl, rfl, rfl, d, _, .non, rfl, hd, rfl, _, rfl, _, _, true, d, _, rfl, rfl, rfl, fun u h => h, G2.kE, hd, _, rfl, _, _, false, d, _, rfl, rfl, rfl, fun u h => h, G2.kD, hd, (show (4 : Nat) ≤ sizeLine by decide), fun U nU => fin _ U (s.trans (same_upd nU)) upd_same⟩, fun z => by cases z⟩
    have hb' := hb
    obtain ⟨dx, pn, dd, bkv, hbo, _⟩ := hb
    have abs_ : ∀ {p : Prop}, recsOf fo n ≠ [] → p := fun z => absurd hno z
    unfold tBody way
    dsimp only [tSeq]
    obtain rfl | rfl | rfl : k = 0 ∨ k = 1 ∨ k = 2 := by omega
    · refine if_t (a := true) (fun Q h => ⟨_, rfl, rfl, true, congrArg V.bl (decide_eq_true rfl), h⟩) (fun _ => ?_) (fun z => by cases z)
      exact ⟨_, rfl, b, dx, _, rfl, hbo, rfl, _, rfl, b, n, fo, rfl, hb', hok, fun z => abs_ z, fun _ H' d s hd => catch_ H' d s hd⟩
    · refine if_t (a := false) (fun Q h => ⟨_, rfl, rfl, false, by rw [decide_eq_false (fun z => by have := V.int.inj z; omega)], h⟩) (fun z => by cases z) (fun _ => ?_)
      dsimp only [tNext]
      refine if_t (a := true) (fun Q h => ⟨_, rfl, rfl, true, congrArg V.bl (decide_eq_true rfl), h⟩) (fun _ => ?_) (fun z => by cases z)
      exact ⟨_, rfl, b, dx, _, rfl, hbo, rfl, _, rfl, b, n, fo, rfl, hb', hok, hT, fun z => abs_ z, fun _ H' d s hd => catch_ H' d s hd⟩
    · refine if_t (a := false) (fun Q h => ⟨_, rfl, rfl, false, by rw [decide_eq_false (fun z => by have := V.int.inj z; omega)], h⟩) (fun z => by cases z) (fun _ => ?_)
      dsimp only [tNext]
      refine if_t (a := false) (fun Q h => ⟨_, rfl, rfl, false, by rw [decide_eq_false (fun z => by have := V.int.inj z; omega)], h⟩) (fun z => by cases z) (fun _ => ?_)
      dsimp only [tNext]
      refine if_t (a := true) (fun Q h => ⟨_, rfl, rfl, true, congrArg V.bl (decide_eq_true rfl), h⟩) (fun _ => ?_) (fun z => by cases z)
      exact ⟨_, rfl, b, dx, _, rfl, hbo, rfl, _, rfl, b, n, fo, rfl, hb', hok, hT, fun z => abs_ z, fun _ H' d s hd => catch_ H' d s hd⟩
end
end ML

set_option Elab.async false
set_option linter.all false
set_option maxRecDepth 100000
set_option maxHeartbeats 4000000
namespace ML
open PySem PySem.Spec PyProof.Rows L2 MM
theorem strOk_app {x y : Str} (hx : PyData.strOk x = true) (hy : PyData.strOk y = true) : PyData.strOk (x ++ y) = true := by
  have get : ∀ {z : Str}, PyData.strOk z = true → ∀ c ∈ z.cps.toList, c < 0x110000 := fun {z} h c hc => by
    have h2 : z.cps.all (· < 0x110000) = true := h
    rw [← Array.all_toList, List.all_eq_true] at h2
    exact of_decide_eq_true (h2 c hc)
  refine strOk_of fun c hc => ?_
  have h1 : c ∈ (x.cps ++ y.cps).toList := hc
  rw [Array.toList_append] at h1
  rcases List.mem_append.mp h1 with z | z
  · exact get hx c z
  · exact get hy c z
theorem recs_nil (fo : Fo) (n : Str) : recsOf fo n = [] ↔ hist fo n = [] := by
  unfold recsOf
  rw [grp_nil_iff]
  unfold bits
  exact List.map_eq_nil_iff
def spLaw (K : PySem.W.Frag) : Sp := fun vs H Q _ => ∃ (a : Addr) (cs : List Int), vs = [.ref a] ∧ SqL K H a (cs.map V.int) ∧ TB K H ∧ ∀ H', Q (.bl true) H'
section
variable {P : Program} {w : World} {K : PySem.W.Frag} {mg : Str → Option Value} {base : Heap}
theorem fn_law {fd : FuncData} (F : FnP K "law" "law" s_law [] (He.fAd K ("law", none)) fd) (T : Txt K mg) (G : ExF K) (G2 : ExG K) (B : LamX.TabB base mg (blC K) (blT K)) : FnOk P w K mg base CX0 12 (He.fAd K ("law", none)) fd ["_law_script"] (spLaw K) := by
  have O_law_cell := ok_cell_ (P := P) (w := w) (base := base) T
  have O_law_made := ok_l_made (P := P) (w := w) (base := base) T
  have O_law_book := ok_l_book (P := P) (w := w) (base := base) T B
  have O_law_told_of := ok_l_told_of (P := P) (w := w) (base := base) T G B
  have O_law_refused := ok_l_refused (P := P) (w := w) (base := base) T G G2 B
  refine F.ok sc_law (fun vs H Q E h => ?_) (fun cdv A outer s H vs Q E hr h => ?_)
  · obtain ⟨_, _, rfl, _⟩ := h
    rfl
  · obtain ⟨a, cs, rfl, hS, hT, q⟩ := h
    have nd := sc_law.nd
    have hu := hu_of hr
    refine ⟨_, PSs.nox (pss_cons (ps_asg (pe_callD O_law_made hr pass0 (pa_cons (pv 0) (pa_cons (pe_cmpR op_eq (pe_op op_mod (pe_callD O_law_cell hr pass0 (pa_cons (pv 0) (pa_cons pe_int pa_nil))) pe_int) pe_int (nomark _)) pa_nil))) (pg_lst (by rfl) (pgs_cons (pg_nm 1 nd) (pgs_cons (pg_nm 2 nd) (pgs_cons (pg_nm 3 nd) pgs_nil)))))
      (pss_cons (ps_sv 4 nd (pe_callD O_law_book hr pass0 (pa_cons (pv 1) (pa_cons (pv 3) pa_nil))))
      (pss_cons (ps_sv 5 nd (pe_lst (pa_cons pe_str (pa_cons (pe_op op_add_str (pe_ix ix_list (pv 2) pe_int (fun _ _ => rfl)) (pe_op op_mul_si pe_str (pe_callTy call_int1 (by rfl) T.b_int (by decide +kernel) (pa_cons (pe_cmpR op_lt (pe_callB call_len_str (by rfl) T.b_len PySem.boot_len (pa_cons (pe_ix ix_list (pv 2) pe_int (fun _ _ => rfl)) pa_nil)) pe_int (nomark _)) pa_nil)))) pa_nil))))
      (pss_cons (ps_for PassesOwn.never rfl (pi_list (pe_op op_cat (pv 2) (pv 5))) (pg_nm 6 nd)
        (pss_one (ps_if (pt_cmpR (op_neD hr.units) (pe_lock (pe_lc (g := gName 8) (own := [("_law_number", 8)]) (by rfl) nd (pi_keys (pv 3)) (blkOk_by (own := [("_law_number", 8)]) (N := n_law) (sc := defScope s_law) (by decide +kernel)) (fun _ _ _ _ _ => (pg_nm 8 nd)) (fun _ _ _ _ _ => (pts_one (pt_cmp (pc_din hu (pv 6) (pe_dget hu (pv 3) (pv 8) (fun _ _ => rfl)))))) (fun _ _ _ _ _ => (pv 8)))) (pe_lst pa_nil) (nomark _)) (pss_one (ps_if (pt_not (pt_val (pe_callD O_law_told_of hr pass0 (pa_cons (pv 4) (pa_cons (pv 3) (pa_cons (pv 6) pa_nil)))))) (pss_one (ps_ret pe_bl)) pss_nil)) (pss_one (ps_for PassesOwn.never rfl (pi_range1 (by rfl) T.b_range (pa_cons pe_int pa_nil)) (pg_nm 7 nd)
            (pss_one (ps_if (pt_not (pt_val (pe_callD O_law_refused hr pass0 (pa_cons (pv 4) (pa_cons (pv 6) (pa_cons (pv 7) pa_nil)))))) (pss_one (ps_ret pe_bl)) pss_nil)))))))
      (pss_one (ps_ret pe_bl)))))), ?_⟩
    dsimp only [tSeq]
    refine ⟨_, rfl, _, rfl, a, cs, 0, rfl, hS, fun c0 => ⟨_, _, rfl, rfl, (show (0 : Int) < 8 by decide), rfl, a, cs, _, rfl, hS, fun H1 ml sws rs ns names fo wl nl fl s1 hm => ?_⟩⟩
    refine ⟨ml, _, rfl, .inl (.inl hm.a), rfl, .ref wl, [.ref nl, .ref fl], rfl, .ref nl, [.ref fl], rfl, .ref fl, [], rfl, rfl, ?_⟩
    have hok := hm.fook
    have hT1 : TB K H1 := hT.same s1
    refine ⟨_, rfl, _, rfl, wl, fl, sws, rs, ns, fo, rfl, hm.w, hm.f, hm.key, hok, hT1, fun H2 b e2 t2 hb => ?_⟩
    have hnl2 := e2 _ _ hm.n (fun _ z => by cases z)
    have hl1 := hm.l1
    have hl8 := hm.l8
    obtain ⟨n0, nr, enames⟩ : ∃ n0 nr, names = n0 :: nr := by
      cases h : names with
      | nil => rw [h] at hl1; simp at hl1
      | cons x y => exact ⟨x, y, rfl⟩
    have hn0 : atI (names.map V.str) 0 = some (.str n0) := by
      rw [enames]
      exact (atI_nat (xs := (n0 :: nr).map V.str) (k := 0) (by simp)).trans rfl
    have hspelt := hm.ok n0 (by rw [enames]; simp)
    have hn0l := hspelt.le
    dsimp only [gName]
    refine ⟨_, rfl, nl, _, 0, _, rfl, rfl, .inl (.inl hnl2), hn0, _, rfl, nl, _, 0, _, rfl, rfl, .inl (.inl hnl2), hn0, n0, rfl, Nat.le_of_lt (small1000 (by omega)), _, _, rfl, rfl, .inr ⟨decide ((n0.length : Int) < 12), rfl, "x", decide ((n0.length : Int) < 12), rfl, rfl, by decide, n0, _, rfl, rfl, ?_, (show (2 : Nat) ≤ sizeLine by decide), fun sl nsl => ?_⟩⟩
    · have hx : (if decide ((n0.length : Int) < 12) = true then ("x" : Str) else Str.empty).length ≤ 1 := by
        cases decide ((n0.length : Int) < 12) <;> decide
      rw [sizeLine_eq]
      omega
    · obtain ⟨x0, ex0⟩ : ∃ x0 : Str, x0 = n0 ++ (if decide ((n0.length : Int) < 12) = true then ("x" : Str) else Str.empty) := ⟨_, rfl⟩
      have hx0 : PyData.strOk x0 = true := by
        rw [ex0]
        refine strOk_app hspelt.strOk ?_
        cases decide ((n0.length : Int) < 12)
        · exact strOk_of (by decide)
        · exact strOk_of (by decide)
      rw [← ex0]
      dsimp only [gName]
      obtain ⟨all, eall⟩ : ∃ all : List Str, all = names ++ [("" : Str), x0] := ⟨_, rfl⟩
      have hallok : ∀ n ∈ all, PyData.strOk n = true := fun n hn => by
        rw [eall] at hn
        rcases List.mem_append.mp hn with z | z
        · exact (hm.ok n z).strOk
        · rcases List.mem_cons.mp z with z | z
          · rw [z]; exact strOk_of (by decide)
          · rw [List.mem_singleton] at z
            rw [z]; exact hx0
      have s3 : Same H2 (upd H2 sl (.lst [V.str "", V.str x0])) := same_upd nsl
      refine ⟨_, rfl, _, rfl, nl, sl, _, _, rfl, rfl, s3 _ _ hnl2, upd_same, Nat.le_of_lt (small1000 (by rw [List.length_map]; show names.length + 2 ≤ 1000; omega)), fun al nal => ?_⟩
      have eal : names.map V.str ++ [V.str "", V.str x0] = all.map V.str := by rw [eall, List.map_append]; rfl
      rw [eal]
      obtain ⟨H3, eH3⟩ : ∃ H3, H3 = upd (upd H2 sl (.lst [V.str "", V.str x0])) al (.lst (all.map V.str)) := ⟨_, rfl⟩
      have s23 : Same H2 H3 := by rw [eH3]; exact s3.trans (same_upd nal)
      have hal : H3 al = some (.lst (all.map V.str)) := by rw [eH3, upd_same]
      rw [← eH3]
      have e13 : LamX.ExtN H1 H3 := e2.trans (.of s23)
      have hb3 : BookAt K H3 b fo := hb.ext (.of s23)
      have hf3 : FoAt K H3 fl fo := hm.f.ext e13
      refine ⟨al, rfl, ⟨_, .inl (.inl hal)⟩, for_it walk_list (fun i σ H' => LamX.ExtN H3 H' ∧ TB K H' ∧ ∃ v6 v7 v8, σ = [some (.ref a), some (.ref wl), some (.ref nl), some (.ref fl), some (.ref b), some (.ref sl), v6, v7, v8]) ⟨LamX.ExtN.refl _, t2.same s23, none, none, none, rfl⟩ (fun i σ H' _ ⟨e, _⟩ => .inl (.inl (e _ _ hal (fun _ z => by cases z)))) ?_ ?_⟩
      · rintro i x σ H4 H' hi ⟨e4, t4, v6, v7, v8, rfl⟩ ⟨rfl, hy⟩
        obtain ⟨n, hn, rfl⟩ := map_get hy
        have hnok := hallok n (List.mem_of_getElem? hn)
        have hb4 := hb3.ext e4
        have hf4 := hf3.ext e4
        obtain ⟨kvs, hfl, hkvs⟩ := hf4
        have hf4 : FoAt K H' fl fo := ⟨kvs, hfl, hkvs⟩
        have hklen : kvs.length = fo.length := hkvs.length
        have hfl256 := hok.len
        dsimp only [gName]
        refine if_s (a := !PyData.eqv (.list (((hist fo n).map (·.1)).map fun (m : Nat) => PyData.int (m : Int))) (.list [])) (fun Q h => ?_) (fun hb5 H5 s5 => ?_) (fun hb5 H5 s5 => ?_)
        · refine ⟨fl, .dK kvs, hfl, trivial, fun od => ?_⟩
          obtain ⟨HL, eHL⟩ : ∃ HL, HL = upd H' fl (.frz od (.dK kvs)) := ⟨_, rfl⟩
          rw [← eHL]
          have hLfl : HL fl = some (.frz od (.dK kvs)) := by rw [eHL, upd_same]
          refine ⟨_, rfl, fl, od, rfl, .inl ⟨kvs, hLfl, fun D nD => ?_⟩⟩
          refine lc_gen walk_keys (hasN fo n) (fun k _ y => y = V.int (((fo.map (·.1)).getD k 0 : Nat) : Int)) (by omega) nD (fun _ _ _ _ _ z => z) (fun G sG => sG _ _ hLfl) ?_ ?_
          · rintro k x G0 G M no yes hk sG _ ⟨rfl, key, vv, hkv, rfl⟩
            obtain ⟨e, he, ek, td0, etd, htd0⟩ := pget hkvs hkv
            have ek' : key = .inl ((e.1 : Nat) : Int) := ek
            subst ek'
            have hem := List.mem_of_getElem? he
            obtain ⟨td, hv1, htr⟩ := fo_val hok hkvs hem
            have htdfl : td ≠ fl := fun z => by
              obtain ⟨kv2, h1, h2⟩ := htr
              rw [z, hfl] at h1
              have h1' : kvs = kv2 := by cases h1; rfl
              subst h1'
              obtain ⟨p, _, h3, _⟩ := pmem h2 (List.mem_of_getElem? hkv)
              cases h3
            have htrL : TrAt K HL td e.2 := by rw [eHL]; exact htr.put hfl (fun z => z) htdfl
            have sLG := sG.trans del_sub
            obtain ⟨tk, htd, htk⟩ := htrL.same sLG
            have hget : DGet G fl (.int ((e.1 : Nat) : Int)) (some (.ref td)) := .inl ⟨kvs, .inl ((e.1 : Nat) : Int), .inr ⟨od, sLG _ _ hLfl⟩, rfl, hv1.symm⟩
            have hp : hasN fo n k = (valV tk (.inr n)).isSome := by
              unfold hasN
              rw [he]
              rcases tr_look htk n with ⟨z1, z2⟩ | ⟨r, v, z1, z2, _⟩
              · show (look e.2 n).isSome = _
                rw [z1, z2]; rfl
              · show (look e.2 n).isSome = _
                rw [z1, z2]; rfl
            have hgd : (fo.map (·.1)).getD k 0 = e.1 := by rw [List.getD_eq_getElem?_getD, List.getElem?_map, he]; rfl
            refine ⟨rfl, ?_⟩
            refine ⟨_, rfl, _, rfl, _, rfl, fl, _, rfl, hget, td, _, rfl, DGet.k (k := .inr n) htd, hasN fo n k, by rw [hp], ?_⟩
            cases hp2 : hasN fo n k with
            | false => exact iteF (no hp2 _ (Same.refl _))
            | true => exact iteT ⟨_, rfl, yes hp2 _ _ (Same.refl _) (by rw [hgd]; rfl)⟩
          · intro G ys sG hD hys
            rw [hklen] at hys
            have sLG := sG.trans del_sub
            have hdG := sLG _ _ hLfl
            obtain ⟨H6, eH6⟩ : ∃ H6, H6 = upd G fl (.dK kvs) := ⟨_, rfl⟩
            have s6 : Same H' H6 := by rw [eH6]; rw [eHL] at sLG; exact unlock hfl sLG
            have hDfl : D ≠ fl := ne_of hD hdG (by intro z; cases z)
            have hD6 : H6 D = some (.lst ys) := by rw [eH6, upd_ne hDfl]; exact hD
            have eys : ys = natsV ((hist fo n).map (·.1)) := by
              rw [paired_map hys, ← hist_range fo n]
              unfold natsV
              rw [List.map_map]; rfl
            rw [eys] at hD6
            refine ⟨hdG, ?_⟩
            rw [← eH6]
            exact ⟨Nat.zero_le _, fun z nz => ⟨_, .list [], .lst (.inl (.inl ((same_upd nz) _ _ hD6))) (dp_nats _), .lst (.inl (.inl upd_same)) .nil, nats_shaped _, strs_shaped (xs := []) (fun x hxm => by cases hxm), _, rfl, h _ (s6.trans (same_upd nz))⟩⟩
        · have hne : recsOf fo n ≠ [] := fun z => by
            rw [(recs_nil fo n).mp z] at hb5
            cases hb5
          refine if_e (K := K) (a := false) (fun Q h => ?_) (fun z => by cases z) (fun _ H7 e7 t7 => ⟨e4.trans ((LamX.ExtN.of s5).trans e7), t7, _, _, _, rfl⟩)
          exact ⟨_, rfl, _, rfl, _, rfl, b, fl, n, fo, rfl, hb4.ext (.of s5), hf4.same s5, hok, t4.same s5, hne, fun H7 e7 t7 => ⟨_, rfl, h H7 e7 t7⟩⟩
        · have hno : recsOf fo n = [] := by
            rw [recs_nil]
            cases z : hist fo n with
            | nil => rfl
            | cons x y => rw [z] at hb5; cases hb5
          refine ⟨3, rfl, by decide, by decide, for_it (n := 3) walk_range0 (fun j σ H6 => LamX.ExtN H5 H6 ∧ TB K H6 ∧ ∃ v7 v8, σ = [some (.ref a), some (.ref wl), some (.ref nl), some (.ref fl), some (.ref b), some (.ref sl), some (.str n), v7, v8]) ⟨LamX.ExtN.refl _, t4.same s5, v7, v8, rfl⟩ (fun _ _ _ _ _ => trivial) ?_ ?_⟩
          · rintro j x σ H6 H7 hj ⟨e6, t6, v7, v8, rfl⟩ ⟨rfl, hxx⟩
            subst hxx
            dsimp only [gName]
            refine if_e (K := K) (a := false) (fun Q h => ?_) (fun z => by cases z) (fun _ H8 e8 t8 => ⟨e6.trans e8, t8, _, _, rfl⟩)
            exact ⟨_, rfl, _, rfl, _, rfl, b, n, j, fo, rfl, hj, (hb4.ext (.of s5)).ext e6, hok, t6, hno, hnok, fun H8 e8 t8 => ⟨_, rfl, h H8 e8 t8⟩⟩
          · rintro σ H6 ⟨e6, t6, v7, v8, rfl⟩
            exact ⟨e4.trans ((LamX.ExtN.of s5).trans e6), t6, _, _, _, rfl⟩
      · rintro σ H' ⟨e4, t4, v6, v7, v8, rfl⟩
        exact q H'
end
end ML

set_option Elab.async false
set_option linter.all false
set_option maxRecDepth 100000
set_option maxHeartbeats 4000000
namespace ML
open PySem PySem.Spec PyProof.Rows L2
/-! ### what the head asks of the exceptions' classes -/
def oexCls (K : PySem.W.Frag) (C : Addr) : Bool := match K.lookup C with
  | some ⟨.type "type", _, .cls cd, sl⟩ => (match cd.mro, sl.toList with
    | .ref C' :: bm, [_, _, _, _, some (.builtin n), _] => C' == C && n == "ValueError.__new__" && !cd.hasDel && cd.hasDict && PySem.HandSPX.refsVE bm
    | _, _ => false)
  | _ => false
theorem oexCls_ok {K : PySem.W.Frag} {C : Addr} (q : oexCls K C = true) : ∃ nm q N bs bm sn sub ab col dd k0 k1 k2 k3 k5, K.lookup C = some (excClassObj nm q C N bs bm true sn sub ab col dd k0 k1 k2 k3 k5 "ValueError.__new__") ∧ PySem.HandSPX.refsVE bm = true := by
  unfold oexCls at q
  split at q
  · rename_i dd cd sl ho
    split at q
    · rename_i C' bm k0 k1 k2 k3 n k5 hm hs
      simp only [Bool.and_eq_true, beq_iff_eq, Bool.not_eq_true'] at q
      obtain ⟨⟨⟨⟨rfl, rfl⟩, hdel⟩, hdic⟩, ht⟩ := q
      obtain ⟨nm, bs, mro, ns, qn, hd, sn, sub, ab, col, del⟩ := cd
      dsimp only at hm hdel hdic
      subst hm hdel hdic
      have hsl : sl = #[k0, k1, k2, k3, some (.builtin "ValueError.__new__"), k5] := by
        obtain ⟨l⟩ := sl
        simp only at hs
        rw [hs]
      subst hsl
      exact ⟨nm, qn, ns, bs, bm, sn, sub, ab, col, dd, k0, k1, k2, k3, k5, ho, ht⟩
    · cases q
  · cases q
def leafIs (K : PySem.W.Frag) : Bool := match PySem.W.findCls K (.ref (He.ga K "LeafError")) (.type "type") "__init__" with
  | some (.val (.builtin i)) => i == "ValueError.__init__"
  | _ => false
theorem leafIs_ok {K : PySem.W.Frag} (h : leafIs K = true) : PySem.W.findCls K (.ref (He.ga K "LeafError")) (.type "type") "__init__" = some (.val (.builtin "ValueError.__init__")) := by
  unfold leafIs at h
  split at h
  · rename_i i e
    rw [e, beq_iff_eq.mp h]
  · cases h
def exB1 (K : PySem.W.Frag) : Bool := PySem.W.readsIn K (He.ga K "LeafError") (.type "type") && (leafIs K && (decide (PySem.W.specialIn K (.ref (He.ga K "LeafError")) "__getattribute__" = some (some (.builtin "type.__getattribute__"))) && (PySem.W.keepIn K (.ref (He.ga K "LeafError")) &&
  (oexCls K (He.ga K "NoPart") && (decide (PySem.W.findIn K (.ref (He.ga K "NoPart")) "__setattr__" = some (some (.builtin "object.__setattr__"))) && (decide (PySem.W.subIn K (.ref (He.ga K "NoPart")) (.type "BaseException") = some true) && (decide (PySem.W.typeIn K (.ref (He.ga K "NoPart")) = some (.type "type")) &&
  (PySem.W.keepIn K (.ref (He.ga K "NoPart")) && (decide (PySem.W.findIn K (.ref (He.ga K "NoPart")) "__init__" = some (some (.ref (He.fAd K ("EditError", some "__init__"))))) && (decide (PySem.W.typeIn K (.ref (He.fAd K ("EditError", some "__init__"))) = some (.type "function")) &&
  (decide (PySem.W.findIn K (.ref (He.ga K "NoPart")) "part" = some none) && decide (PySem.W.findIn K (.ref (He.ga K "NoPart")) "choice" = some none))))))))))))
def exB2 (K : PySem.W.Frag) : Bool := xfB K (He.ga K "NoPart") && (decide (PySem.W.findIn K (.ref (He.ga K "NoPart")) "__class__" = some (some (.builtin "object.__class__"))) && (decide (PySem.W.specialIn K (.builtin "object.__class__") "__get__" = some (some (.builtin "getset_descriptor.__get__"))) &&
  (decide (PySem.W.takesIn K (.builtin "object.__class__") = some true) && (decide (PySem.W.mroIn K (He.ga K "NoPart") (.type "object") = some true) && (decide (PySem.W.kitOne K (.ref (He.ga K "NoPart")) (.ref (He.ga K "EditError")) = some true) &&
  decide (PySem.W.kitOne K (.ref (He.ga K "NoPart")) (.ref (He.ga K "Doubled")) = some false))))))
def exB (K : PySem.W.Frag) : Bool := exB1 K && exB2 K
theorem exF_of {K : PySem.W.Frag} (h : exB K = true) : ExF K := by
  unfold exB exB1 at h
  simp only [Bool.and_eq_true, decide_eq_true_eq] at h
  obtain ⟨⟨h1, h2, h3, h4, h5, h6, h7, h8, h9, h10, h11, h12, h13⟩, _⟩ := h
  exact ⟨⟨.type "type", h1, leafIs_ok h2⟩, h3, h4, ⟨oexCls_ok h5, h6, h7, h8, h9⟩, h10, h11, h12, h13⟩
theorem exG_of {K : PySem.W.Frag} (h : exB K = true) : ExG K := by
  unfold exB exB2 at h
  simp only [Bool.and_eq_true, decide_eq_true_eq] at h
  obtain ⟨_, h1, h2, h3, h4, h5, h6, h7⟩ := h
  have x := xfB_ok h1
  exact ⟨x, ⟨x.ga, x.gg, x.exC, x.hdC, h2, h3, h4, h5⟩, h6, h7⟩
/-! ### the run -/
abbrev R : PySem.W.OpenRow := PySem.W.OpenLaw.row PySem.Challenge.rw_manyleaf_k32_places_and_contents
def tfs : List He.Defn := [("by_least", none)]
/-- the part of the heap that the facts speak of -/
def fragY (g : Addr → Option Obj) : PySem.W.Frag := He.frT g (He.asD g 4 ++ [cStatics])
abbrev AlY : Type := He.AlD × Bool
def obsY (g : Addr → Option Obj) : AlY := (He.obsD fas fns (fragY g), exB (fragY g) && He.tabsB g tfs (fragY g))
def valY : AlY := (He.valD fns, true)
structure SaysY (h : Heap) (K : PySem.W.Frag) : Prop where
  d : He.SaysD fas fns K
  ex : exB K = true
  hd : PySem.W.codeHdIn K (blC K) (blT K) = true
  out : K.lookup (blT K) = none
  empty : h.get? (blT K) = some { cls := .none, data := .fields #[] }
theorem saysY_of {h : Heap} (e : obsY h.get? = valY) : SaysY h (fragY h.get?) := by
  have e1 : He.obsD fas fns (fragY h.get?) = He.valD fns := congrArg Prod.fst e
  have e2 : (exB (fragY h.get?) && He.tabsB h.get? tfs (fragY h.get?)) = true := congrArg Prod.snd e
  obtain ⟨h1, h2⟩ := Bool.and_eq_true_iff.mp e2
  have h3 := List.all_eq_true.mp h2 ("by_least", none) (by unfold tfs; simp)
  obtain ⟨h4, h5⟩ := Bool.and_eq_true_iff.mp h3
  cases z : h.get? (blT (fragY h.get?)) with
  | none =>
    rw [z] at h5
    cases h5
  | some o =>
    rw [z] at h5
    exact ⟨e1, h1, h4, He.frT_none z h5, by rw [z, He.emptyTab_eq h5]⟩
def hk : PySem.W.Hook where
  α := AlY
  obs := fun s => obsY s.heap.get?
  val := fun _ => valY
  says := fun _ h => ∃ K : PySem.W.Frag, K.In h ∧ SaysY h K
  of := fun _ _ e => ⟨_, He.frT_in, saysY_of e⟩
  keeps := fun _ _ _ ⟨K, hK, c⟩ k => ⟨K, PySem.W.Frag.In.keeps hK k, ⟨c.d, c.ex, c.hd, c.out, k _ _ c.empty⟩⟩
def ob (s : PySem.W.SharedT) : AlY := obsY (HandSHeadRun.getT s)
theorem ob_eq (s : PySem.W.SharedT) : ob s = hk.obs s.abs := by
  have e : HandSHeadRun.getT s = s.abs.heap.get? := funext (HandSHeadRun.getT_eq s)
  unfold ob
  rw [e]
  rfl
def loose1 : List Str := ["_wall", "LeafError", "BadPanel", "NoChoice", "BadCond", "EditError", "NoPart", "Doubled", "Plain", "in_set", "choices_of", "least_choice", "LETTERS", "is_whole", "is_of", "is_word", "added_pair", "by_least", "Book", "gathered"]
def loose2 : List Str := ["MOST_SWITCHES", "MOST_SETTINGS", "MOST_CHOICES", "MOST_RULES", "are_settings", "are_switches", "Panel", "_law_cell", "_law_mix", "_law_spelt", "_law_switches", "_law_digits", "_law_total", "_law_rules", "_law_barred", "_law_world", "_law_text", "_law_content", "_law_tree", "_law_names", "_law_variant", "_law_plain", "_law_made", "_law_book", "_law_whole", "_law_sorted_out", "_law_pairs", "_law_told_of", "_law_refused"]
def loose : List Str := loose1 ++ loose2
end ML

set_option Elab.async false
set_option linter.all false
set_option maxRecDepth 100000
set_option maxHeartbeats 0
namespace ML
open PySem PySem.Spec PyProof.Rows L2
theorem run (w : World) : HandSHeadRun.RunEq R (PySem.W.view R.prog [56]) hk ob 20000 loose w := by
  intro os
  kernel_rfl
end ML

set_option Elab.async false
set_option linter.all false
set_option maxRecDepth 100000
set_option maxHeartbeats 0
namespace ML
open PySem PySem.Spec PyProof.Rows L2
/-! ### the end -/
theorem tb_start {K : PySem.W.Frag} {H : Hp} (h : H (blT K) = some (.tbl #[])) : TB K H := by
  intro p hp
  rw [List.mem_singleton] at hp
  subst hp
  exact ⟨#[], h, trivial, fun pos cv e => by cases e⟩
theorem law_at {w : World} {mg : Str → Option Value} {fa : Addr} {h : Heap} {K : PySem.W.Frag} (X : K.In h) (c : SaysY h K) (G : h.Ns mainGlobals mg) (hmg : mg ("law" : Str) = some (.ref fa)) :
    LamX.LawAtS PySem.Challenge.rw_manyleaf_k32_places_and_contents w K CX0 12 63 "_law_script" mg fa h := by
  have T : Txt K mg := txt_of X G (fun i f e => c.d.fact i e) (fun i d e => c.d.def_ i e)
  obtain ⟨fd, F⟩ := T.f_law
  have e := hmg.symm.trans T.g_law
  cases e
  have b := FunD.bindsA (ps := ["_law_script"]) F fun _ _ _ _ _ _ us hl => match us, hl with | [_], _ => rfl
  refine ⟨fd, [(blC K, blT K)], spLaw K, fun p hp => ?_, fun p hp => ?_, fun p hp => ?_, fun s v => b s [v] rfl, fun H a ns _ _ hH hS => ⟨a, ns, rfl, hS, tb_start (hH (blC K, blT K) (by simp)), fun _ => rfl⟩, fun base _ _ hB => fn_law F T (exF_of c.ex) (exG_of c.ex) (hB (blC K, blT K) (by simp))⟩
  · rw [List.mem_singleton] at hp
    subst hp
    exact c.empty
  · rw [List.mem_singleton] at hp
    subst hp
    exact c.out
  · rw [List.mem_singleton] at hp
    subst hp
    exact PySem.W.codeHd_of_K X c.hd
end ML
open PySem PySem.W PySem.Calls PyProof.Rows
theorem PySem.Challenge.cw_manyleaf_k32_places_and_contents_holds : PySem.Challenge.rw_manyleaf_k32_places_and_contents.Holds := by
  w_on; o_law
  refine HandSHeadRun.head_any (r := OpenLaw.row PySem.Challenge.rw_manyleaf_k32_places_and_contents) (q := view (OpenLaw.row PySem.Challenge.rw_manyleaf_k32_places_and_contents).prog [56]) (H := ML.hk) (ob := ML.ob) (M := 20000) (loose := ML.loose) (d := HandSHeadRun.topDef (OpenLaw.row PySem.Challenge.rw_manyleaf_k32_places_and_contents).prog 56) (kwd := []) ML.ob_eq
    (by kernel_rfl) (fun s => by kernel_rfl) ML.run (by kernel_rfl) (by kernel_rfl) (by kernel_rfl) (by rfl) (by first | assumption | decide +kernel) (by decide +kernel) ⟨rfl, rfl, rfl, rfl, rfl, by decide +kernel⟩ ?hw ?hc
  case hw => w_witness2
  case hc =>
    refine LamX.walk_ofTsE (l := PySem.Challenge.rw_manyleaf_k32_places_and_contents) (n := 63) (k := 12) (x := "_law_script") (CX := fun _ => L2.CX0) rfl (by decide) (by kernel_rfl) ⟨rfl, by decide, by decide⟩ ?F (fun _ _ _ _ _ z => z)
    intro w mg fa h Y G hmg0
    obtain ⟨K, KX, c⟩ := Y
    have hmg : mg ("law" : PySem.Str) = some (.ref fa) := by
      have e : (HandSHeadRun.topDef (OpenLaw.row PySem.Challenge.rw_manyleaf_k32_places_and_contents).prog 56).name = ("law" : PySem.Str) := by kernel_rfl
      rw [← e]
      exact hmg0
    exact ⟨K, KX, ML.law_at KX c G hmg⟩
