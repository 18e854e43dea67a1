import PyProof.Rows.All
import Wide.All
import OpenK.AllK
import Wide.FinOn
import HandS.ForMost
import HandS.Defaults
import HandS.Codes
import HandS.HeadHook1
import HandS.HeadHook2
import HandS.HeadHook3
import HandS.Property
import KE.KStateDown
import Lean
import HandS.Head0
import HandS.Head1
import HandS.Head2
import HandS.SetFor
import HandS.SetTxt0
import KE.KDictCopyH
import KE.KDictDisplayH
import HandS.DictTup
import KE.GoesEnum
import HandS.More
import KE.KSortTupG
import PyProof.Rows.SortWalk
import HandS.Walk
import HandS.DictComp
import HandS.IsInst
import HandS.Style
import HandS.Star
import HandS.TupAny
import HandS.Conv
import HandS.Steps
import HandS.WordsDict
import HandS.Flow
import HandS.HeadEnd
import PySem.Challenge.RW_wholeprint_k23_whole_ages_of_answers
set_option Elab.async false
set_option linter.all false
set_option maxRecDepth 100000
/-! the defs of the text by their places; the names of each by slot -/
namespace Wp
open PySem PySem.Spec PyProof.Rows L2
def top (i : Nat) : Stmt := PySem.Challenge.pw_wholeprint_k23_whole_ages_of_answers.main.body.getD i (.Pass ⟨0, 0, 0, 0⟩)
abbrev s_is_name : Stmt := top 23
abbrev n_is_name : List Str := ["value", "letter"]
theorem sc_is_name : FnScope n_is_name ["value"] (defScope s_is_name) := ⟨rfl, rfl, rfl, by decide +kernel, rfl, by decide +kernel, by decide +kernel⟩
abbrev s_is_number : Stmt := top 24
abbrev n_is_number : List Str := ["value"]
theorem sc_is_number : FnScope n_is_number ["value"] (defScope s_is_number) := ⟨rfl, rfl, rfl, by decide +kernel, rfl, by decide +kernel, by decide +kernel⟩
abbrev s_is_list : Stmt := top 25
abbrev n_is_list : List Str := ["value"]
theorem sc_is_list : FnScope n_is_list ["value"] (defScope s_is_list) := ⟨rfl, rfl, rfl, by decide +kernel, rfl, by decide +kernel, by decide +kernel⟩
abbrev s_is_ticks : Stmt := top 26
abbrev n_is_ticks : List Str := ["value"]
theorem sc_is_ticks : FnScope n_is_ticks ["value"] (defScope s_is_ticks) := ⟨rfl, rfl, rfl, by decide +kernel, rfl, by decide +kernel, by decide +kernel⟩
abbrev s_are_names : Stmt := top 27
abbrev n_are_names : List Str := ["value", "name"]
theorem sc_are_names : FnScope n_are_names ["value"] (defScope s_are_names) := ⟨rfl, rfl, rfl, by decide +kernel, rfl, by decide +kernel, by decide +kernel⟩
abbrev s_File_init : Stmt := inClass (top 28) 0
abbrev n_File_init : List Str := ["self", "naming", "refers", "hold", "keeps", "keep"]
theorem sc_File_init : FnScope n_File_init ["self", "naming", "refers", "hold", "keeps"] (defScope s_File_init) := ⟨rfl, rfl, rfl, by decide +kernel, rfl, by decide +kernel, by decide +kernel⟩
abbrev s_File_naming : Stmt := inClass (top 28) 1
abbrev n_File_naming : List Str := ["self"]
theorem sc_File_naming : FnScope n_File_naming ["self"] (defScope s_File_naming) := ⟨rfl, rfl, rfl, by decide +kernel, rfl, by decide +kernel, by decide +kernel⟩
abbrev s_File_refers : Stmt := inClass (top 28) 2
abbrev n_File_refers : List Str := ["self"]
theorem sc_File_refers : FnScope n_File_refers ["self"] (defScope s_File_refers) := ⟨rfl, rfl, rfl, by decide +kernel, rfl, by decide +kernel, by decide +kernel⟩
abbrev s_File_hold : Stmt := inClass (top 28) 3
abbrev n_File_hold : List Str := ["self"]
theorem sc_File_hold : FnScope n_File_hold ["self"] (defScope s_File_hold) := ⟨rfl, rfl, rfl, by decide +kernel, rfl, by decide +kernel, by decide +kernel⟩
abbrev s_File_keeps : Stmt := inClass (top 28) 4
abbrev n_File_keeps : List Str := ["self"]
theorem sc_File_keeps : FnScope n_File_keeps ["self"] (defScope s_File_keeps) := ⟨rfl, rfl, rfl, by decide +kernel, rfl, by decide +kernel, by decide +kernel⟩
abbrev s_all_below : Stmt := top 29
abbrev n_all_below : List Str := ["files", "name", "found", "line", "here"]
theorem sc_all_below : FnScope n_all_below ["files", "name"] (defScope s_all_below) := ⟨rfl, rfl, rfl, by decide +kernel, rfl, by decide +kernel, by decide +kernel⟩
abbrev s_tree_below : Stmt := top 30
abbrev n_tree_below : List Str := ["files", "entry", "found", "line", "here", "name"]
theorem sc_tree_below : FnScope n_tree_below ["files", "entry"] (defScope s_tree_below) := ⟨rfl, rfl, rfl, by decide +kernel, rfl, by decide +kernel, by decide +kernel⟩
abbrev s_need_files : Stmt := top 31
abbrev n_need_files : List Str := ["files", "name", "names", "other"]
theorem sc_need_files : FnScope n_need_files ["files"] (defScope s_need_files) := ⟨rfl, rfl, rfl, by decide +kernel, rfl, by decide +kernel, by decide +kernel⟩
abbrev s_is_entries : Stmt := top 32
abbrev n_is_entries : List Str := ["files", "value", "name"]
theorem sc_is_entries : FnScope n_is_entries ["files", "value"] (defScope s_is_entries) := ⟨rfl, rfl, rfl, by decide +kernel, rfl, by decide +kernel, by decide +kernel⟩
abbrev s_Site_init : Stmt := inClass (top 33) 0
abbrev n_Site_init : List Str := ["self", "files", "entries", "counts", "trees", "entry", "name"]
theorem sc_Site_init : FnScope n_Site_init ["self", "files", "entries", "counts"] (defScope s_Site_init) := ⟨rfl, rfl, rfl, by decide +kernel, rfl, by decide +kernel, by decide +kernel⟩
abbrev s_Site_entries : Stmt := inClass (top 33) 1
abbrev n_Site_entries : List Str := ["self"]
theorem sc_Site_entries : FnScope n_Site_entries ["self"] (defScope s_Site_entries) := ⟨rfl, rfl, rfl, by decide +kernel, rfl, by decide +kernel, by decide +kernel⟩
abbrev s_Site_counts : Stmt := inClass (top 33) 2
abbrev n_Site_counts : List Str := ["self"]
theorem sc_Site_counts : FnScope n_Site_counts ["self"] (defScope s_Site_counts) := ⟨rfl, rfl, rfl, by decide +kernel, rfl, by decide +kernel, by decide +kernel⟩
abbrev s_Site_caches : Stmt := inClass (top 33) 3
abbrev n_Site_caches : List Str := ["self", "file"]
theorem sc_Site_caches : FnScope n_Site_caches ["self"] (defScope s_Site_caches) := ⟨rfl, rfl, rfl, by decide +kernel, rfl, by decide +kernel, by decide +kernel⟩
abbrev s_Site_has : Stmt := inClass (top 33) 5
abbrev n_Site_has : List Str := ["self", "name"]
theorem sc_Site_has : FnScope n_Site_has ["self", "name"] (defScope s_Site_has) := ⟨rfl, rfl, rfl, by decide +kernel, rfl, by decide +kernel, by decide +kernel⟩
abbrev s_Site_item : Stmt := inClass (top 33) 6
abbrev n_Site_item : List Str := ["self", "name"]
theorem sc_Site_item : FnScope n_Site_item ["self", "name"] (defScope s_Site_item) := ⟨rfl, rfl, rfl, by decide +kernel, rfl, by decide +kernel, by decide +kernel⟩
abbrev s_Site_names : Stmt := inClass (top 33) 9
abbrev n_Site_names : List Str := ["self"]
theorem sc_Site_names : FnScope n_Site_names ["self"] (defScope s_Site_names) := ⟨rfl, rfl, rfl, by decide +kernel, rfl, by decide +kernel, by decide +kernel⟩
abbrev s_Site_need_file : Stmt := inClass (top 33) 10
abbrev n_Site_need_file : List Str := ["self", "name"]
theorem sc_Site_need_file : FnScope n_Site_need_file ["self", "name"] (defScope s_Site_need_file) := ⟨rfl, rfl, rfl, by decide +kernel, rfl, by decide +kernel, by decide +kernel⟩
abbrev s_Site_need_names : Stmt := inClass (top 33) 11
abbrev n_Site_need_names : List Str := ["self", "names", "at", "name"]
theorem sc_Site_need_names : FnScope n_Site_need_names ["self", "names"] (defScope s_Site_need_names) := ⟨rfl, rfl, rfl, by decide +kernel, rfl, by decide +kernel, by decide +kernel⟩
abbrev s_Site_closure : Stmt := inClass (top 33) 17
abbrev n_Site_closure : List Str := ["self", "names", "found", "line", "name", "here", "file"]
theorem sc_Site_closure : FnScope n_Site_closure ["self", "names"] (defScope s_Site_closure) := ⟨rfl, rfl, rfl, by decide +kernel, rfl, by decide +kernel, by decide +kernel⟩
abbrev s_is_some_files : Stmt := top 34
abbrev n_is_some_files : List Str := ["site", "value", "name"]
theorem sc_is_some_files : FnScope n_is_some_files ["site", "value"] (defScope s_is_some_files) := ⟨rfl, rfl, rfl, by decide +kernel, rfl, by decide +kernel, by decide +kernel⟩
abbrev s_made_kinds : Stmt := top 35
abbrev n_made_kinds : List Str := ["site", "kinds", "at", "kind"]
theorem sc_made_kinds : FnScope n_made_kinds ["site", "kinds"] (defScope s_made_kinds) := ⟨rfl, rfl, rfl, by decide +kernel, rfl, by decide +kernel, by decide +kernel⟩
abbrev s_made_steps : Stmt := top 36
abbrev n_made_steps : List Str := ["site", "steps", "step", "name"]
theorem sc_made_steps : FnScope n_made_steps ["site", "steps"] (defScope s_made_steps) := ⟨rfl, rfl, rfl, by decide +kernel, rfl, by decide +kernel, by decide +kernel⟩
abbrev s_Editions_init : Stmt := inClass (top 39) 0
abbrev n_Editions_init : List Str := ["self", "site", "changes", "at", "item", "name", "names"]
theorem sc_Editions_init : FnScope n_Editions_init ["self", "site", "changes"] (defScope s_Editions_init) := ⟨rfl, rfl, rfl, by decide +kernel, rfl, by decide +kernel, by decide +kernel⟩
abbrev s_Editions_len : Stmt := inClass (top 39) 2
abbrev n_Editions_len : List Str := ["self"]
theorem sc_Editions_len : FnScope n_Editions_len ["self"] (defScope s_Editions_len) := ⟨rfl, rfl, rfl, by decide +kernel, rfl, by decide +kernel, by decide +kernel⟩
abbrev s_Editions_changed : Stmt := inClass (top 39) 6
abbrev n_Editions_changed : List Str := ["self", "number"]
theorem sc_Editions_changed : FnScope n_Editions_changed ["self", "number"] (defScope s_Editions_changed) := ⟨rfl, rfl, rfl, by decide +kernel, rfl, by decide +kernel, by decide +kernel⟩
abbrev s_Editions_with_change : Stmt := inClass (top 39) 8
abbrev n_Editions_with_change : List Str := ["self", "names"]
theorem sc_Editions_with_change : FnScope n_Editions_with_change ["self", "names"] (defScope s_Editions_with_change) := ⟨rfl, rfl, rfl, by decide +kernel, rfl, by decide +kernel, by decide +kernel⟩
abbrev s_need_edition : Stmt := top 40
abbrev n_need_edition : List Str := ["editions", "number"]
theorem sc_need_edition : FnScope n_need_edition ["editions", "number"] (defScope s_need_edition) := ⟨rfl, rfl, rfl, by decide +kernel, rfl, by decide +kernel, by decide +kernel⟩
abbrev s_is_deed_form : Stmt := top 45
abbrev n_is_deed_form : List Str := ["value"]
theorem sc_is_deed_form : FnScope n_is_deed_form ["value"] (defScope s_is_deed_form) := ⟨rfl, rfl, rfl, by decide +kernel, rfl, by decide +kernel, by decide +kernel⟩
abbrev s_is_index : Stmt := top 46
abbrev n_is_index : List Str := ["value", "many"]
theorem sc_is_index : FnScope n_is_index ["value", "many"] (defScope s_is_index) := ⟨rfl, rfl, rfl, by decide +kernel, rfl, by decide +kernel, by decide +kernel⟩
abbrev s_Copy_init : Stmt := inClass (top 47) 0
abbrev n_Copy_init : List Str := ["self", "contents", "got", "given"]
theorem sc_Copy_init : FnScope n_Copy_init ["self", "contents", "got", "given"] (defScope s_Copy_init) := ⟨rfl, rfl, rfl, by decide +kernel, rfl, by decide +kernel, by decide +kernel⟩
abbrev s_Visit_init : Stmt := inClass (top 48) 0
abbrev n_Visit_init : List Str := ["self", "entry", "pages", "lost"]
theorem sc_Visit_init : FnScope n_Visit_init ["self", "entry", "pages", "lost"] (defScope s_Visit_init) := ⟨rfl, rfl, rfl, by decide +kernel, rfl, by decide +kernel, by decide +kernel⟩
abbrev s_Net_init : Stmt := inClass (top 49) 0
abbrev n_Net_init : List Str := ["self", "site", "kinds", "steps", "name", "cache"]
theorem sc_Net_init : FnScope n_Net_init ["self", "site", "kinds", "steps"] (defScope s_Net_init) := ⟨rfl, rfl, rfl, by decide +kernel, rfl, by decide +kernel, by decide +kernel⟩
abbrev s_Net_publishing : Stmt := inClass (top 49) 6
abbrev n_Net_publishing : List Str := ["self"]
theorem sc_Net_publishing : FnScope n_Net_publishing ["self"] (defScope s_Net_publishing) := ⟨rfl, rfl, rfl, by decide +kernel, rfl, by decide +kernel, by decide +kernel⟩
abbrev s_Net_need : Stmt := inClass (top 49) 7
abbrev n_Net_need : List Str := ["self", "deed"]
theorem sc_Net_need : FnScope n_Net_need ["self", "deed"] (defScope s_Net_need) := ⟨rfl, rfl, rfl, by decide +kernel, rfl, by decide +kernel, by decide +kernel⟩
abbrev s_Net_do : Stmt := inClass (top 49) 8
abbrev n_Net_do : List Str := ["self", "deed", "copies"]
theorem sc_Net_do : FnScope n_Net_do ["self", "deed"] (defScope s_Net_do) := ⟨rfl, rfl, rfl, by decide +kernel, rfl, by decide +kernel, by decide +kernel⟩
abbrev s_Net_done_there : Stmt := inClass (top 49) 9
abbrev n_Net_done_there : List Str := ["self", "deed", "names", "groups", "name", "step", "group", "numbers", "later", "number", "kept"]
theorem sc_Net_done_there : FnScope n_Net_done_there ["self", "deed"] (defScope s_Net_done_there) := ⟨rfl, rfl, rfl, by decide +kernel, rfl, by decide +kernel, by decide +kernel⟩
abbrev s_Net_put_copies : Stmt := inClass (top 49) 10
abbrev n_Net_put_copies : List Str := ["self", "cache", "copies", "ahead", "behind"]
theorem sc_Net_put_copies : FnScope n_Net_put_copies ["self", "cache", "copies"] (defScope s_Net_put_copies) := ⟨rfl, rfl, rfl, by decide +kernel, rfl, by decide +kernel, by decide +kernel⟩
abbrev s_Net_answer : Stmt := inClass (top 49) 11
abbrev n_Net_answer : List Str := ["self", "name", "number", "asked", "key", "found", "cache", "copies", "numbers", "more"]
theorem sc_Net_answer : FnScope n_Net_answer ["self", "name", "number"] (defScope s_Net_answer) := ⟨rfl, rfl, rfl, by decide +kernel, rfl, by decide +kernel, by decide +kernel⟩
abbrev s_Net_opened : Stmt := inClass (top 49) 12
abbrev n_Net_opened : List Str := ["self", "entry", "pages"]
theorem sc_Net_opened : FnScope n_Net_opened ["self", "entry"] (defScope s_Net_opened) := ⟨rfl, rfl, rfl, by decide +kernel, rfl, by decide +kernel, by decide +kernel⟩
abbrev s_Net_copies : Stmt := inClass (top 49) 15
abbrev n_Net_copies : List Str := ["self", "cache", "copies", "key", "copy"]
theorem sc_Net_copies : FnScope n_Net_copies ["self", "cache"] (defScope s_Net_copies) := ⟨rfl, rfl, rfl, by decide +kernel, rfl, by decide +kernel, by decide +kernel⟩
abbrev s_Net_piece : Stmt := inClass (top 49) 16
abbrev n_Net_piece : List Str := ["self", "reader", "pages", "name"]
theorem sc_Net_piece : FnScope n_Net_piece ["self", "reader"] (defScope s_Net_piece) := ⟨rfl, rfl, rfl, by decide +kernel, rfl, by decide +kernel, by decide +kernel⟩
abbrev s_copy_key : Stmt := top 50
abbrev n_copy_key : List Str := ["net", "name", "number"]
theorem sc_copy_key : FnScope n_copy_key ["net", "name", "number"] (defScope s_copy_key) := ⟨rfl, rfl, rfl, by decide +kernel, rfl, by decide +kernel, by decide +kernel⟩
abbrev s_is_fresh : Stmt := top 51
abbrev n_is_fresh : List Str := ["net", "cache", "name", "copy", "most", "begin"]
theorem sc_is_fresh : FnScope n_is_fresh ["net", "cache", "name", "copy"] (defScope s_is_fresh) := ⟨rfl, rfl, rfl, by decide +kernel, rfl, by decide +kernel, by decide +kernel⟩
abbrev s_visit_of : Stmt := top 52
abbrev n_visit_of : List Str := ["net", "reader"]
theorem sc_visit_of : FnScope n_visit_of ["net", "reader"] (defScope s_visit_of) := ⟨rfl, rfl, rfl, by decide +kernel, rfl, by decide +kernel, by decide +kernel⟩
abbrev s_is_possible : Stmt := top 54
abbrev n_is_possible : List Str := ["net", "deed", "word", "copies", "key"]
theorem sc_is_possible : FnScope n_is_possible ["net", "deed"] (defScope s_is_possible) := ⟨rfl, rfl, rfl, by decide +kernel, rfl, by decide +kernel, by decide +kernel⟩
abbrev s_l_begun : Stmt := top 56
abbrev n_l_begun : List Str := ["_law_script", "_law_wide", "_law_cell"]
theorem sc_l_begun : FnScope n_l_begun ["_law_script"] (defScope s_l_begun) := ⟨rfl, rfl, rfl, by decide +kernel, rfl, by decide +kernel, by decide +kernel⟩
abbrev s_l_blend : Stmt := top 57
abbrev n_l_blend : List Str := ["_law_draw", "_law_found", "_law_prime", "_law_blend_here", "_law_cell"]
theorem sc_l_blend : FnScope n_l_blend ["_law_draw"] (defScope s_l_blend) := ⟨rfl, rfl, rfl, by decide +kernel, rfl, by decide +kernel, by decide +kernel⟩
abbrev s_l_take : Stmt := top 58
abbrev n_l_take : List Str := ["_law_draw", "_law_size", "_law_found"]
theorem sc_l_take : FnScope n_l_take ["_law_draw", "_law_size"] (defScope s_l_take) := ⟨rfl, rfl, rfl, by decide +kernel, rfl, by decide +kernel, by decide +kernel⟩
abbrev s_l_pick : Stmt := top 59
abbrev n_l_pick : List Str := ["_law_draw", "_law_some"]
theorem sc_l_pick : FnScope n_l_pick ["_law_draw", "_law_some"] (defScope s_l_pick) := ⟨rfl, rfl, rfl, by decide +kernel, rfl, by decide +kernel, by decide +kernel⟩
abbrev s_l_shuffled : Stmt := top 60
abbrev n_l_shuffled : List Str := ["_law_draw", "_law_some", "_law_left", "_law_found"]
theorem sc_l_shuffled : FnScope n_l_shuffled ["_law_draw", "_law_some"] (defScope s_l_shuffled) := ⟨rfl, rfl, rfl, by decide +kernel, rfl, by decide +kernel, by decide +kernel⟩
abbrev s_l_ticks : Stmt := top 61
abbrev n_l_ticks : List Str := ["_law_draw", "_law_few"]
theorem sc_l_ticks : FnScope n_l_ticks ["_law_draw"] (defScope s_l_ticks) := ⟨rfl, rfl, rfl, by decide +kernel, rfl, by decide +kernel, by decide +kernel⟩
abbrev s_l_site : Stmt := top 62
abbrev n_l_site : List Str := ["_law_model_here", "_law_files", "_law_made", "_law_name"]
theorem sc_l_site : FnScope n_l_site ["_law_model_here"] (defScope s_l_site) := ⟨rfl, rfl, rfl, by decide +kernel, rfl, by decide +kernel, by decide +kernel⟩
abbrev s_l_below : Stmt := top 63
abbrev n_l_below : List Str := ["_law_files", "_law_name", "_law_found", "_law_at"]
theorem sc_l_below : FnScope n_l_below ["_law_files", "_law_name"] (defScope s_l_below) := ⟨rfl, rfl, rfl, by decide +kernel, rfl, by decide +kernel, by decide +kernel⟩
abbrev s_l_model : Stmt := top 64
abbrev n_l_model : List Str := ["_law_draw", "_law_most", "_law_some", "_law_names", "_law_files", "_law_roots", "_law_many", "_law_odds", "_law_refers", "_law_name", "_law_at", "_law_above", "_law_leaf", "_law_more", "_law_entries", "_law_root", "_law_naming", "_law_keeps", "_law_cache"]
theorem sc_l_model : FnScope n_l_model ["_law_draw", "_law_most"] (defScope s_l_model) := ⟨rfl, rfl, rfl, by decide +kernel, rfl, by decide +kernel, by decide +kernel⟩
abbrev s_l_age : Stmt := top 65
abbrev n_l_age : List Str := ["_law_model_here", "_law_name", "_law_keeps"]
theorem sc_l_age : FnScope n_l_age ["_law_model_here", "_law_name"] (defScope s_l_age) := ⟨rfl, rfl, rfl, by decide +kernel, rfl, by decide +kernel, by decide +kernel⟩
abbrev s_l_wait : Stmt := top 66
abbrev n_l_wait : List Str := ["_law_shown", "_law_ticks_here"]
theorem sc_l_wait : FnScope n_l_wait ["_law_shown", "_law_ticks_here"] (defScope s_l_wait) := ⟨rfl, rfl, rfl, by decide +kernel, rfl, by decide +kernel, by decide +kernel⟩
abbrev s_l_lost : Stmt := top 67
abbrev n_l_lost : List Str := ["_law_shown", "_law_most", "_law_name", "_law_cache", "_law_file", "_law_contents", "_law_got", "_law_given"]
theorem sc_l_lost : FnScope n_l_lost ["_law_shown", "_law_most", "_law_name"] (defScope s_l_lost) := ⟨rfl, rfl, rfl, by decide +kernel, rfl, by decide +kernel, by decide +kernel⟩
abbrev s_l_aged : Stmt := top 68
abbrev n_l_aged : List Str := ["_law_shown", "_law_model_here", "_law_name", "_law_ticks_here", "_law_keeps", "_law_passed", "_law_cache", "_law_keep", "_law_left", "_law_some"]
theorem sc_l_aged : FnScope n_l_aged ["_law_shown", "_law_model_here", "_law_name", "_law_ticks_here"] (defScope s_l_aged) := ⟨rfl, rfl, rfl, by decide +kernel, rfl, by decide +kernel, by decide +kernel⟩
abbrev s_l_opened : Stmt := top 69
abbrev n_l_opened : List Str := ["_law_shown", "_law_name"]
theorem sc_l_opened : FnScope n_l_opened ["_law_shown", "_law_name"] (defScope s_l_opened) := ⟨rfl, rfl, rfl, by decide +kernel, rfl, by decide +kernel, by decide +kernel⟩
abbrev s_l_right : Stmt := top 70
abbrev n_l_right : List Str := ["_law_draw", "_law_model_here", "_law_name", "_law_ticks_here", "_law_oldest", "_law_shown", "_law_file", "_law_turn", "_law_passed", "_law_is_due"]
theorem sc_l_right : FnScope n_l_right ["_law_draw", "_law_model_here", "_law_name", "_law_ticks_here"] (defScope s_l_right) := ⟨rfl, rfl, rfl, by decide +kernel, rfl, by decide +kernel, by decide +kernel⟩
abbrev s_law : Stmt := top 71
abbrev n_law : List Str := ["_law_script", "_law_draw", "_law_turn", "_law_model_here", "_law_name", "_law_oldest", "_law_some", "_law_ticks_here"]
theorem sc_law : FnScope n_law ["_law_script"] (defScope s_law) := ⟨rfl, rfl, rfl, by decide +kernel, rfl, by decide +kernel, by decide +kernel⟩
end Wp

set_option Elab.async false
set_option linter.all false
set_option maxRecDepth 100000
set_option maxHeartbeats 2000000
/-! the head's Hook: what the names of the module reach, by paths -/
namespace Wp
open PySem PySem.Spec PyProof.Rows L2 He
/-- a def by the way to it -/
structure DefP where
  way : PySem.W.Frag → Addr
  name : Str
  qual : Str
  params : Arguments
  body : List Stmt
  scope : Scope
  dfl : List Dv
def fnP (K : PySem.W.Frag) (a : Addr) : FnW := match K.lookup a with
  | some ⟨_, _, .func fd, _⟩ => some (fd.name, fd.qualname, fd.params, fd.body, fd.scope, fd.globals, fd.closure, fd.builtins)
  | _ => none
def DefP.told (d : DefP) : FnW := some (d.name, d.qual, d.params, .stmts d.body, d.scope, mainGlobals, [], builtinsNs)
def DefP.dvs (K : PySem.W.Frag) (d : DefP) : List V := d.dfl.map (Dv.v K)
def DefP.good (K : PySem.W.Frag) (d : DefP) : Bool := PySem.W.keepIn K (.ref (d.way K)) && (match K.lookup (d.way K) with
  | some ⟨_, _, .func fd, _⟩ => (PySem.W.codeIn K fd.code d.qual && dflB K fd.defaults (DefP.dvs K d))
  | _ => false)
theorem DefP.fun_ {K : PySem.W.Frag} {d : DefP} (e : fnP K (d.way K) = d.told) (c : d.good K = true) : ∃ fd, FunD K d.name d.qual d.params d.body d.scope (DefP.dvs K d) [] (d.way K) fd := by
  obtain ⟨kp, c2⟩ := ba c
  unfold fnP at e
  cases q : K.lookup (d.way K) with
  | none => rw [q] at e; cases e
  | some o =>
    obtain ⟨oc, od, dt, osl⟩ := o
    rw [q] at c2 e
    cases dt with
    | func fd =>
      obtain ⟨x1, x2, x3, x4, x5, x6, x7, x8, x9, x10, x11, x12, x13, x14, x15⟩ := fd
      have e2 : (some (x1, x2, x3, x4, x5, x6, x7, x15) : FnW) = some (d.name, d.qual, d.params, .stmts d.body, d.scope, mainGlobals, [], builtinsNs) := e
      simp only [Option.some.injEq, Prod.mk.injEq] at e2
      obtain ⟨h1, h2, h3, h4, h5, h6, h7, h8⟩ := e2
      subst h1 h2 h3 h4 h5 h6 h7 h8
      have c3 : (PySem.W.codeIn K x13 d.qual && dflB K x8 (DefP.dvs K d)) = true := c2
      obtain ⟨k1, k2⟩ := ba c3
      exact ⟨_, ⟨oc, od, x8, x9, x10, x11, x12, x13, x14, osl, rfl, q, k1, dflB_ok k2, .inl rfl⟩, kp⟩
    | _ => cases e
/-! the objects that are looked at -/
def codeG (g : Addr → Option Obj) (a : Addr) : List Addr := match g a with
  | some ⟨_, _, .func fd, _⟩ => a :: refV fd.code ++ (match fd.defaults with
    | .ref t => t :: (match g t with
      | some ⟨_, _, .seq its _, _⟩ => its.toList.flatMap refV
      | _ => [])
    | _ => [])
  | _ => [a]
def memG (g : Addr → Option Obj) (a : Addr) : List Addr := match g a with
  | some ⟨_, _, .fields vs, _⟩ => a :: (match vs.toList with
    | .ref f :: _ => codeG g f
    | _ => [])
  | _ => codeG g a
def topG (g : Addr → Option Obj) (a : Addr) : List Addr := match g a with
  | some ⟨_, _, .cls cd, _⟩ => a :: cd.ns :: (match g cd.ns with
    | some ⟨_, _, .dict es _, _⟩ => es.toList.flatMap fun e => (refV e.val).flatMap (memG g)
    | _ => [])
  | _ => codeG g a
def allG (names : List Str) (g : Addr → Option Obj) : List Addr := mainGlobals :: match g mainGlobals with
  | some ⟨_, _, .dict es _, _⟩ => es.toList.flatMap fun e => (match e.key with
    | .str x _ => (match names.contains x with
      | true => (refV e.val).flatMap (topG g)
      | false => [])
    | _ => [])
  | _ => []
/-! properties, tuples, dicts -/
def prpP (C f : Str) (K : PySem.W.Frag) : Addr := ma K (ga K C) f
def getP (C f : Str) (K : PySem.W.Frag) : Addr := match PySem.W.recIn K (prpP C f K) "property" with
  | some (.ref a :: _) => a
  | _ => 0
def prpB (K : PySem.W.Frag) (q : Str × Str) : Bool := eqO (PySem.W.findIn K (.ref (ga K q.1)) q.2) (some (some (.ref (prpP q.1 q.2 K)))) && (eqO (PySem.W.specialIn K (.ref (prpP q.1 q.2 K)) "__get__") (some (some (.builtin "property.__get__"))) &&
  (decide (PySem.W.takesIn K (.ref (prpP q.1 q.2 K)) = some true) && (match PySem.W.recIn K (prpP q.1 q.2 K) "property" with
    | some (.ref a :: _) => decide (a = getP q.1 q.2 K)
    | _ => false)))
theorem prpB_ok {K : PySem.W.Frag} {C f : Str} (h : prpB K (C, f) = true) : PropOf K (ga K C) f (prpP C f K) (getP C f K) := by
  obtain ⟨h1, h⟩ := ba h
  obtain ⟨h2, h⟩ := ba h
  obtain ⟨h3, h4⟩ := ba h
  refine ⟨eqO_ok h1, eqO_ok h2, of_decide_eq_true h3, ?_⟩
  have h5 : (match PySem.W.recIn K (prpP C f K) "property" with
    | some (.ref a :: _) => decide (a = getP C f K)
    | _ => false) = true := h4
  split at h5
  · rename_i a rest e
    exact ⟨rest, by rw [← of_decide_eq_true h5]; exact e⟩
  · cases h5
def tupP (K : PySem.W.Frag) (a : Addr) (vs : List Dv) : Bool := match K.lookup a with
  | some ⟨.type z, _, .seq its _, _⟩ => (decide (z = "tuple") && (decide (its.size ≤ sizeLine) && relAll (vs.map (Dv.v K)) its.toList))
  | _ => false
theorem tupP_ok {K : PySem.W.Frag} {a : Addr} {vs : List Dv} (h : tupP K a vs = true) (H : Hp) : SqT K H a (vs.map (Dv.v K)) := by
  unfold tupP at h
  split at h
  · rename_i z od its n osl q
    obtain ⟨h1, h2⟩ := ba h
    obtain ⟨h3, h4⟩ := ba h2
    exact .inr ⟨_, its, n, q, congrArg Value.type (of_decide_eq_true h1), rfl, of_decide_eq_true h3, relAll_ok h4⟩
  · cases h
def insB (K : PySem.W.Frag) (C : Addr) : Bool := eqO (PySem.W.findIn K (.ref C) "__class__") (some (some (.builtin "object.__class__"))) && (eqO (PySem.W.specialIn K (.builtin "object.__class__") "__get__") (some (some (.builtin "getset_descriptor.__get__"))) &&
  (decide (PySem.W.takesIn K (.builtin "object.__class__") = some true) && (decide (PySem.W.mroIn K C (.type "object") = some true) && decide (PySem.W.kitOne K (.ref C) (.ref C) = some true))))
/-! the Hook -/
structure HeadP where
  names : List Str
  fa : List Fa
  fn : List DefP
  pr : List (Str × Str)
  ex : PySem.W.Frag → Bool
  keys : List Str
abbrev AlP : Type := Bool × List FnW × Option (List (Option (Str × Int)))
def HeadP.see (d : HeadP) (K : PySem.W.Frag) : AlP := ((d.fa.all fun f => f.ok K) && ((d.fn.all fun f => f.good K) && ((d.pr.all fun q => prpB K q) && d.ex K)), d.fn.map (fun f => fnP K (f.way K)), dicW K (ga K "SIZES"))
def HeadP.due (d : HeadP) (w : World) : AlP := (true, d.fn.map DefP.told, some (keysIn w.params d.keys))
def HeadP.seeG (d : HeadP) (g : Addr → Option Obj) : AlP := d.see (frG g (allG d.names g))
def HeadP.Says (d : HeadP) (w : World) (K : PySem.W.Frag) : Prop := d.see K = d.due w
def HeadP.hook (d : HeadP) : PySem.W.Hook where
  α := AlP
  obs := fun s => d.seeG s.heap.get?
  val := fun w => d.due w
  says := fun w h => ∃ K : PySem.W.Frag, K.In h ∧ d.Says w K
  of := fun _ _ e => ⟨_, frG_in, e⟩
  keeps := fun _ _ _ ⟨K, hK, c⟩ k => ⟨K, PySem.W.Frag.In.keeps hK k, c⟩
theorem HeadP.seeG_eq {d : HeadP} {g : Addr → Option Obj} {s : Shared} (h : ∀ a, g a = s.heap.get? a) : d.seeG g = d.hook.obs s := by
  have e : g = s.heap.get? := funext h
  rw [e]
  rfl
section
variable {d : HeadP} {w : World} {K : PySem.W.Frag}
theorem HeadP.Says.all (c : d.Says w K) : (∀ f ∈ d.fa, f.ok K = true) ∧ (∀ f ∈ d.fn, f.good K = true) ∧ (∀ q ∈ d.pr, prpB K q = true) ∧ d.ex K = true := by
  have h : ((d.fa.all fun f => f.ok K) && ((d.fn.all fun f => f.good K) && ((d.pr.all fun q => prpB K q) && d.ex K))) = true := congrArg (fun z : AlP => z.1) c
  obtain ⟨h1, h⟩ := ba h
  obtain ⟨h2, h⟩ := ba h
  obtain ⟨h3, h4⟩ := ba h
  exact ⟨List.all_eq_true.mp h1, List.all_eq_true.mp h2, List.all_eq_true.mp h3, h4⟩
theorem HeadP.Says.fact (c : d.Says w K) (i : Nat) {f : Fa} (h : d.fa[i]? = some f) : f.ok K = true := c.all.1 f (List.mem_of_getElem? h)
theorem HeadP.Says.prop (c : d.Says w K) (i : Nat) {C f : Str} (h : d.pr[i]? = some (C, f)) : PropOf K (ga K C) f (prpP C f K) (getP C f K) := prpB_ok (c.all.2.2.1 _ (List.mem_of_getElem? h))
theorem HeadP.Says.more (c : d.Says w K) : d.ex K = true := c.all.2.2.2
theorem HeadP.Says.def_ (c : d.Says w K) (i : Nat) {f : DefP} (h : d.fn[i]? = some f) : ∃ fd, FunD K f.name f.qual f.params f.body f.scope (DefP.dvs K f) [] (f.way K) fd := by
  have e : d.fn.map (fun f => fnP K (f.way K)) = d.fn.map DefP.told := congrArg (fun z : AlP => z.2.1) c
  have e2 : (d.fn.map fun f => fnP K (f.way K))[i]? = (d.fn.map DefP.told)[i]? := by rw [e]
  rw [List.getElem?_map, List.getElem?_map, h] at e2
  exact DefP.fun_ (Option.some.inj e2) (c.all.2.1 f (List.mem_of_getElem? h))
theorem HeadP.Says.dict (c : d.Says w K) : ∃ es n, KDict K w (ga K "SIZES") es n := dicW_ok (ks := d.keys) (congrArg (fun z : AlP => z.2.2) c)
end
end Wp

set_option Elab.async false
set_option linter.all false
set_option maxRecDepth 100000
set_option maxHeartbeats 4000000
/-! what the head looks at -/
namespace Wp
open PySem PySem.Spec PyProof.Rows L2 He
def hdNames0 : List Str := ["is_number", "is_name", "is_list", "is_ticks", "are_names", "all_below", "tree_below", "need_files", "is_entries", "is_some_files"]
def hdNames1 : List Str := ["made_kinds", "made_steps", "need_edition", "is_deed_form", "is_index", "copy_key", "is_fresh", "visit_of", "is_possible", "_law_begun"]
def hdNames2 : List Str := ["_law_blend", "_law_take", "_law_pick", "_law_shuffled", "_law_ticks", "_law_age", "_law_wait", "_law_lost", "_law_aged", "_law_opened"]
def hdNames3 : List Str := ["_law_site", "_law_right", "_law_below", "_law_model", "law", "File", "Site", "Editions", "Copy", "Visit"]
def hdNames4 : List Str := ["Net", "NAMINGS", "WAYS_TO_COUNT", "SIZES"]
def hdNames : List Str := hdNames0 ++ (hdNames1 ++ (hdNames2 ++ (hdNames3 ++ (hdNames4))))
def hdFa0 : List Fa := [.free "isinstance", .free "len", .free "all", .free "max", .free "min", .free "sum", .free "sorted", .free "range", .free "enumerate", .free "set"]
def hdFa1 : List Fa := [.free "list", .free "tuple", .free "dict", .free "int", .free "str", .free "bool", .cls "File", .cls "Site", .cls "Editions", .cls "Copy"]
def hdFa2 : List Fa := [.cls "Visit", .cls "Net", .noat "File" "own_naming", .noat "File" "own_refers", .noat "File" "own_hold", .noat "File" "own_keeps", .noat "Site" "own_files", .noat "Site" "own_trees", .noat "Site" "own_counts", .noat "Editions" "own_site"]
def hdFa3 : List Fa := [.noat "Editions" "own_changed", .noat "Editions" "own_numbers", .noat "Copy" "contents", .noat "Copy" "got", .noat "Copy" "given", .noat "Visit" "entry", .noat "Visit" "pages", .noat "Visit" "lost", .noat "Net" "own_kinds", .noat "Net" "own_steps"]
def hdFa4 : List Fa := [.noat "Net" "own_site", .noat "Net" "own_tick", .noat "Net" "own_editions", .noat "Net" "own_left", .noat "Net" "own_finished", .noat "Net" "own_begun", .noat "Net" "own_server", .noat "Net" "own_copies", .noat "Net" "own_visits", .glo "File"]
def hdFa5 : List Fa := [.glo "Site", .glo "Editions", .glo "Copy", .glo "Visit", .glo "Net", .int "LONGEST_NAME" 8, .int "MOST_FILES" 8, .int "MOST_CACHES" 4, .int "MOST_KINDS" 5, .int "MOST_TICKS" 1000]
def hdFa6 : List Fa := [.int "MOST_CHANGES" 30, .int "MOST_EDITIONS" 31, .int "MOST_WAIT" 20000, .str "LETTERS" "abcdefghijklmnopqrstuvwxyz", .glo "NAMINGS", .glo "WAYS_TO_COUNT", .glo "SIZES", .glo "is_number", .glo "is_name", .glo "is_list"]
def hdFa7 : List Fa := [.glo "is_ticks", .glo "are_names", .glo "all_below", .glo "tree_below", .glo "need_files", .glo "is_entries", .glo "is_some_files", .glo "made_kinds", .glo "made_steps", .glo "need_edition"]
def hdFa8 : List Fa := [.glo "is_deed_form", .glo "is_index", .glo "copy_key", .glo "is_fresh", .glo "visit_of", .glo "is_possible", .glo "_law_begun", .glo "_law_blend", .glo "_law_take", .glo "_law_pick"]
def hdFa9 : List Fa := [.glo "_law_shuffled", .glo "_law_ticks", .glo "_law_age", .glo "_law_wait", .glo "_law_lost", .glo "_law_aged", .glo "_law_opened", .glo "_law_site", .glo "_law_right", .glo "_law_below"]
def hdFa10 : List Fa := [.glo "_law_model", .glo "law", .meth "Site" "__contains__", .meth "Site" "need_file", .meth "Site" "__getitem__", .meth "Site" "names", .meth "Site" "need_names", .meth "Site" "closure", .meth "Editions" "__len__", .meth "Editions" "changed"]
def hdFa11 : List Fa := [.meth "Editions" "with_change", .meth "Net" "need", .meth "Net" "put_copies", .meth "Net" "copies", .meth "Net" "piece", .meth "Net" "answer", .meth "Net" "opened", .meth "Net" "done_there", .meth "Net" "do", .mkr "File"]
def hdFa12 : List Fa := [.mkr "Site", .mkr "Editions", .mkr "Copy", .mkr "Visit", .mkr "Net"]
def hdFa : List Fa := hdFa0 ++ (hdFa1 ++ (hdFa2 ++ (hdFa3 ++ (hdFa4 ++ (hdFa5 ++ (hdFa6 ++ (hdFa7 ++ (hdFa8 ++ (hdFa9 ++ (hdFa10 ++ (hdFa11 ++ (hdFa12))))))))))))
def dp_is_number : DefP := ⟨fun K => ga K "is_number", "is_number", "is_number", defArgs s_is_number, defBody s_is_number, defScope s_is_number, []⟩
def dp_is_name : DefP := ⟨fun K => ga K "is_name", "is_name", "is_name", defArgs s_is_name, defBody s_is_name, defScope s_is_name, []⟩
def dp_is_list : DefP := ⟨fun K => ga K "is_list", "is_list", "is_list", defArgs s_is_list, defBody s_is_list, defScope s_is_list, []⟩
def dp_is_ticks : DefP := ⟨fun K => ga K "is_ticks", "is_ticks", "is_ticks", defArgs s_is_ticks, defBody s_is_ticks, defScope s_is_ticks, []⟩
def dp_are_names : DefP := ⟨fun K => ga K "are_names", "are_names", "are_names", defArgs s_are_names, defBody s_are_names, defScope s_are_names, []⟩
def dp_File_init : DefP := ⟨fun K => ma K (ga K "File") "__init__", "__init__", "File.__init__", defArgs s_File_init, defBody s_File_init, defScope s_File_init, [.adr (dflAt ("File", some "__init__") 0), .int 0, .adr (dflAt ("File", some "__init__") 2)]⟩
def dp_File_naming : DefP := ⟨getP "File" "naming", "naming", "File.naming", defArgs s_File_naming, defBody s_File_naming, defScope s_File_naming, []⟩
def dp_File_refers : DefP := ⟨getP "File" "refers", "refers", "File.refers", defArgs s_File_refers, defBody s_File_refers, defScope s_File_refers, []⟩
def dp_File_hold : DefP := ⟨getP "File" "hold", "hold", "File.hold", defArgs s_File_hold, defBody s_File_hold, defScope s_File_hold, []⟩
def dp_File_keeps : DefP := ⟨getP "File" "keeps", "keeps", "File.keeps", defArgs s_File_keeps, defBody s_File_keeps, defScope s_File_keeps, []⟩
def dp_all_below : DefP := ⟨fun K => ga K "all_below", "all_below", "all_below", defArgs s_all_below, defBody s_all_below, defScope s_all_below, []⟩
def dp_tree_below : DefP := ⟨fun K => ga K "tree_below", "tree_below", "tree_below", defArgs s_tree_below, defBody s_tree_below, defScope s_tree_below, []⟩
def dp_need_files : DefP := ⟨fun K => ga K "need_files", "need_files", "need_files", defArgs s_need_files, defBody s_need_files, defScope s_need_files, []⟩
def dp_is_entries : DefP := ⟨fun K => ga K "is_entries", "is_entries", "is_entries", defArgs s_is_entries, defBody s_is_entries, defScope s_is_entries, []⟩
def dp_Site_init : DefP := ⟨fun K => ma K (ga K "Site") "__init__", "__init__", "Site.__init__", defArgs s_Site_init, defBody s_Site_init, defScope s_Site_init, [.str "own"]⟩
def dp_Site_entries : DefP := ⟨getP "Site" "entries", "entries", "Site.entries", defArgs s_Site_entries, defBody s_Site_entries, defScope s_Site_entries, []⟩
def dp_Site_counts : DefP := ⟨getP "Site" "counts", "counts", "Site.counts", defArgs s_Site_counts, defBody s_Site_counts, defScope s_Site_counts, []⟩
def dp_Site_caches : DefP := ⟨getP "Site" "caches", "caches", "Site.caches", defArgs s_Site_caches, defBody s_Site_caches, defScope s_Site_caches, []⟩
def dp_Site_has : DefP := ⟨fun K => ma K (ga K "Site") "__contains__", "__contains__", "Site.__contains__", defArgs s_Site_has, defBody s_Site_has, defScope s_Site_has, []⟩
def dp_Site_need_file : DefP := ⟨fun K => ma K (ga K "Site") "need_file", "need_file", "Site.need_file", defArgs s_Site_need_file, defBody s_Site_need_file, defScope s_Site_need_file, []⟩
def dp_Site_item : DefP := ⟨fun K => ma K (ga K "Site") "__getitem__", "__getitem__", "Site.__getitem__", defArgs s_Site_item, defBody s_Site_item, defScope s_Site_item, []⟩
def dp_Site_names : DefP := ⟨fun K => ma K (ga K "Site") "names", "names", "Site.names", defArgs s_Site_names, defBody s_Site_names, defScope s_Site_names, []⟩
def dp_Site_need_names : DefP := ⟨fun K => ma K (ga K "Site") "need_names", "need_names", "Site.need_names", defArgs s_Site_need_names, defBody s_Site_need_names, defScope s_Site_need_names, []⟩
def dp_Site_closure : DefP := ⟨fun K => ma K (ga K "Site") "closure", "closure", "Site.closure", defArgs s_Site_closure, defBody s_Site_closure, defScope s_Site_closure, []⟩
def dp_is_some_files : DefP := ⟨fun K => ga K "is_some_files", "is_some_files", "is_some_files", defArgs s_is_some_files, defBody s_is_some_files, defScope s_is_some_files, []⟩
def dp_made_kinds : DefP := ⟨fun K => ga K "made_kinds", "made_kinds", "made_kinds", defArgs s_made_kinds, defBody s_made_kinds, defScope s_made_kinds, []⟩
def dp_made_steps : DefP := ⟨fun K => ga K "made_steps", "made_steps", "made_steps", defArgs s_made_steps, defBody s_made_steps, defScope s_made_steps, []⟩
def dp_Editions_init : DefP := ⟨fun K => ma K (ga K "Editions") "__init__", "__init__", "Editions.__init__", defArgs s_Editions_init, defBody s_Editions_init, defScope s_Editions_init, [.adr (dflAt ("Editions", some "__init__") 0)]⟩
def dp_Editions_len : DefP := ⟨fun K => ma K (ga K "Editions") "__len__", "__len__", "Editions.__len__", defArgs s_Editions_len, defBody s_Editions_len, defScope s_Editions_len, []⟩
def dp_need_edition : DefP := ⟨fun K => ga K "need_edition", "need_edition", "need_edition", defArgs s_need_edition, defBody s_need_edition, defScope s_need_edition, []⟩
def dp_Editions_changed : DefP := ⟨fun K => ma K (ga K "Editions") "changed", "changed", "Editions.changed", defArgs s_Editions_changed, defBody s_Editions_changed, defScope s_Editions_changed, []⟩
def dp_Editions_with_change : DefP := ⟨fun K => ma K (ga K "Editions") "with_change", "with_change", "Editions.with_change", defArgs s_Editions_with_change, defBody s_Editions_with_change, defScope s_Editions_with_change, []⟩
def dp_Copy_init : DefP := ⟨fun K => ma K (ga K "Copy") "__init__", "__init__", "Copy.__init__", defArgs s_Copy_init, defBody s_Copy_init, defScope s_Copy_init, []⟩
def dp_Visit_init : DefP := ⟨fun K => ma K (ga K "Visit") "__init__", "__init__", "Visit.__init__", defArgs s_Visit_init, defBody s_Visit_init, defScope s_Visit_init, []⟩
def dp_is_deed_form : DefP := ⟨fun K => ga K "is_deed_form", "is_deed_form", "is_deed_form", defArgs s_is_deed_form, defBody s_is_deed_form, defScope s_is_deed_form, []⟩
def dp_is_index : DefP := ⟨fun K => ga K "is_index", "is_index", "is_index", defArgs s_is_index, defBody s_is_index, defScope s_is_index, []⟩
def dp_copy_key : DefP := ⟨fun K => ga K "copy_key", "copy_key", "copy_key", defArgs s_copy_key, defBody s_copy_key, defScope s_copy_key, []⟩
def dp_is_fresh : DefP := ⟨fun K => ga K "is_fresh", "is_fresh", "is_fresh", defArgs s_is_fresh, defBody s_is_fresh, defScope s_is_fresh, []⟩
def dp_visit_of : DefP := ⟨fun K => ga K "visit_of", "visit_of", "visit_of", defArgs s_visit_of, defBody s_visit_of, defScope s_visit_of, []⟩
def dp_is_possible : DefP := ⟨fun K => ga K "is_possible", "is_possible", "is_possible", defArgs s_is_possible, defBody s_is_possible, defScope s_is_possible, []⟩
def dp_Net_need : DefP := ⟨fun K => ma K (ga K "Net") "need", "need", "Net.need", defArgs s_Net_need, defBody s_Net_need, defScope s_Net_need, []⟩
def dp_Net_init : DefP := ⟨fun K => ma K (ga K "Net") "__init__", "__init__", "Net.__init__", defArgs s_Net_init, defBody s_Net_init, defScope s_Net_init, []⟩
def dp_Net_publishing : DefP := ⟨getP "Net" "publishing", "publishing", "Net.publishing", defArgs s_Net_publishing, defBody s_Net_publishing, defScope s_Net_publishing, []⟩
def dp_Net_put_copies : DefP := ⟨fun K => ma K (ga K "Net") "put_copies", "put_copies", "Net.put_copies", defArgs s_Net_put_copies, defBody s_Net_put_copies, defScope s_Net_put_copies, []⟩
def dp_Net_copies : DefP := ⟨fun K => ma K (ga K "Net") "copies", "copies", "Net.copies", defArgs s_Net_copies, defBody s_Net_copies, defScope s_Net_copies, []⟩
def dp_Net_piece : DefP := ⟨fun K => ma K (ga K "Net") "piece", "piece", "Net.piece", defArgs s_Net_piece, defBody s_Net_piece, defScope s_Net_piece, []⟩
def dp_Net_answer : DefP := ⟨fun K => ma K (ga K "Net") "answer", "answer", "Net.answer", defArgs s_Net_answer, defBody s_Net_answer, defScope s_Net_answer, []⟩
def dp_Net_opened : DefP := ⟨fun K => ma K (ga K "Net") "opened", "opened", "Net.opened", defArgs s_Net_opened, defBody s_Net_opened, defScope s_Net_opened, []⟩
def dp_Net_done_there : DefP := ⟨fun K => ma K (ga K "Net") "done_there", "done_there", "Net.done_there", defArgs s_Net_done_there, defBody s_Net_done_there, defScope s_Net_done_there, []⟩
def dp_Net_do : DefP := ⟨fun K => ma K (ga K "Net") "do", "do", "Net.do", defArgs s_Net_do, defBody s_Net_do, defScope s_Net_do, []⟩
def dp_l_begun : DefP := ⟨fun K => ga K "_law_begun", "_law_begun", "_law_begun", defArgs s_l_begun, defBody s_l_begun, defScope s_l_begun, []⟩
def dp_l_blend : DefP := ⟨fun K => ga K "_law_blend", "_law_blend", "_law_blend", defArgs s_l_blend, defBody s_l_blend, defScope s_l_blend, []⟩
def dp_l_take : DefP := ⟨fun K => ga K "_law_take", "_law_take", "_law_take", defArgs s_l_take, defBody s_l_take, defScope s_l_take, []⟩
def dp_l_pick : DefP := ⟨fun K => ga K "_law_pick", "_law_pick", "_law_pick", defArgs s_l_pick, defBody s_l_pick, defScope s_l_pick, []⟩
def dp_l_shuffled : DefP := ⟨fun K => ga K "_law_shuffled", "_law_shuffled", "_law_shuffled", defArgs s_l_shuffled, defBody s_l_shuffled, defScope s_l_shuffled, []⟩
def dp_l_ticks : DefP := ⟨fun K => ga K "_law_ticks", "_law_ticks", "_law_ticks", defArgs s_l_ticks, defBody s_l_ticks, defScope s_l_ticks, []⟩
def dp_l_age : DefP := ⟨fun K => ga K "_law_age", "_law_age", "_law_age", defArgs s_l_age, defBody s_l_age, defScope s_l_age, []⟩
def dp_l_wait : DefP := ⟨fun K => ga K "_law_wait", "_law_wait", "_law_wait", defArgs s_l_wait, defBody s_l_wait, defScope s_l_wait, []⟩
def dp_l_lost : DefP := ⟨fun K => ga K "_law_lost", "_law_lost", "_law_lost", defArgs s_l_lost, defBody s_l_lost, defScope s_l_lost, []⟩
def dp_l_aged : DefP := ⟨fun K => ga K "_law_aged", "_law_aged", "_law_aged", defArgs s_l_aged, defBody s_l_aged, defScope s_l_aged, []⟩
def dp_l_opened : DefP := ⟨fun K => ga K "_law_opened", "_law_opened", "_law_opened", defArgs s_l_opened, defBody s_l_opened, defScope s_l_opened, []⟩
def dp_l_site : DefP := ⟨fun K => ga K "_law_site", "_law_site", "_law_site", defArgs s_l_site, defBody s_l_site, defScope s_l_site, []⟩
def dp_l_right : DefP := ⟨fun K => ga K "_law_right", "_law_right", "_law_right", defArgs s_l_right, defBody s_l_right, defScope s_l_right, []⟩
def dp_l_below : DefP := ⟨fun K => ga K "_law_below", "_law_below", "_law_below", defArgs s_l_below, defBody s_l_below, defScope s_l_below, []⟩
def dp_l_model : DefP := ⟨fun K => ga K "_law_model", "_law_model", "_law_model", defArgs s_l_model, defBody s_l_model, defScope s_l_model, []⟩
def dp_law : DefP := ⟨fun K => ga K "law", "law", "law", defArgs s_law, defBody s_law, defScope s_law, []⟩
def hdFn0 : List DefP := [dp_is_number, dp_is_name, dp_is_list, dp_is_ticks, dp_are_names, dp_File_init, dp_File_naming, dp_File_refers, dp_File_hold, dp_File_keeps]
def hdFn1 : List DefP := [dp_all_below, dp_tree_below, dp_need_files, dp_is_entries, dp_Site_init, dp_Site_entries, dp_Site_counts, dp_Site_caches, dp_Site_has, dp_Site_need_file]
def hdFn2 : List DefP := [dp_Site_item, dp_Site_names, dp_Site_need_names, dp_Site_closure, dp_is_some_files, dp_made_kinds, dp_made_steps, dp_Editions_init, dp_Editions_len, dp_need_edition]
def hdFn3 : List DefP := [dp_Editions_changed, dp_Editions_with_change, dp_Copy_init, dp_Visit_init, dp_is_deed_form, dp_is_index, dp_copy_key, dp_is_fresh, dp_visit_of, dp_is_possible]
def hdFn4 : List DefP := [dp_Net_need, dp_Net_init, dp_Net_publishing, dp_Net_put_copies, dp_Net_copies, dp_Net_piece, dp_Net_answer, dp_Net_opened, dp_Net_done_there, dp_Net_do]
def hdFn5 : List DefP := [dp_l_begun, dp_l_blend, dp_l_take, dp_l_pick, dp_l_shuffled, dp_l_ticks, dp_l_age, dp_l_wait, dp_l_lost, dp_l_aged]
def hdFn6 : List DefP := [dp_l_opened, dp_l_site, dp_l_right, dp_l_below, dp_l_model, dp_law]
def hdFn : List DefP := hdFn0 ++ (hdFn1 ++ (hdFn2 ++ (hdFn3 ++ (hdFn4 ++ (hdFn5 ++ (hdFn6))))))
def hdPr : List (Str × Str) := [("File", "naming"), ("File", "refers"), ("File", "hold"), ("File", "keeps"), ("Site", "entries"), ("Site", "counts"), ("Site", "caches"), ("Net", "publishing")]
def hdNe (K : PySem.W.Frag) : Bool := decide (ga K "File" ≠ ga K "Site") && (decide (ga K "File" ≠ ga K "Editions") && (decide (ga K "Site" ≠ ga K "Editions") && (decide (ga K "File" ≠ ga K "Copy") && (decide (ga K "Site" ≠ ga K "Copy") && (decide (ga K "Editions" ≠ ga K "Copy") && (decide (ga K "File" ≠ ga K "Visit") && (decide (ga K "Site" ≠ ga K "Visit") && (decide (ga K "Editions" ≠ ga K "Visit") && (decide (ga K "Copy" ≠ ga K "Visit") && (decide (ga K "File" ≠ ga K "Net") && (decide (ga K "Site" ≠ ga K "Net") && (decide (ga K "Editions" ≠ ga K "Net") && (decide (ga K "Copy" ≠ ga K "Net") && (decide (ga K "Visit" ≠ ga K "Net")))))))))))))))
def hdSz : List (Str × Dv) := [("begin", .int 2), ("step", .int 1), ("wait", .int 2), ("lose", .int 4), ("open", .int 2)]
def hdEx (K : PySem.W.Frag) : Bool := tupP K (ga K "NAMINGS") [.str "own", .str "plain"] && (tupP K (ga K "WAYS_TO_COUNT") [.str "own", .str "whole"] && (tupP K (dflAt ("Editions", some "__init__") 0 K) [] && (insB K (ga K "File") && (valsB K (ga K "SIZES") hdSz && hdNe K))))
def hd : HeadP := ⟨hdNames, hdFa, hdFn, hdPr, hdEx, ["begin", "step", "clear", "wait", "lose", "open", "fetch"]⟩
end Wp

set_option Elab.async false
set_option linter.all false
set_option maxRecDepth 100000
set_option maxHeartbeats 0
namespace WpHead
open PySem PySem.W PySem.Calls PyProof.Rows
abbrev R : OpenRow := OpenLaw.row PySem.Challenge.rw_wholeprint_k23_whole_ages_of_answers
abbrev qv : Program := view R.prog [71]
def names0 : List PySem.Str := [("_wall" : PySem.Str), ("PrintError" : PySem.Str), ("BadFile" : PySem.Str), ("BadSite" : PySem.Str), ("NoFile" : PySem.Str), ("NotEntry" : PySem.Str), ("BadChanges" : PySem.Str), ("NoContents" : PySem.Str), ("BadKinds" : PySem.Str), ("BadSteps" : PySem.Str)]
def names1 : List PySem.Str := [("BadDeed" : PySem.Str), ("NoCache" : PySem.Str), ("NoReader" : PySem.Str), ("LETTERS" : PySem.Str), ("LONGEST_NAME" : PySem.Str), ("MOST_FILES" : PySem.Str), ("MOST_CACHES" : PySem.Str), ("MOST_KINDS" : PySem.Str), ("MOST_TICKS" : PySem.Str), ("NAMINGS" : PySem.Str)]
def names2 : List PySem.Str := [("WAYS_TO_COUNT" : PySem.Str), ("is_name" : PySem.Str), ("is_number" : PySem.Str), ("is_list" : PySem.Str), ("is_ticks" : PySem.Str), ("are_names" : PySem.Str), ("File" : PySem.Str), ("all_below" : PySem.Str), ("tree_below" : PySem.Str), ("need_files" : PySem.Str)]
def names3 : List PySem.Str := [("is_entries" : PySem.Str), ("Site" : PySem.Str), ("is_some_files" : PySem.Str), ("made_kinds" : PySem.Str), ("made_steps" : PySem.Str), ("MOST_CHANGES" : PySem.Str), ("Editions" : PySem.Str), ("need_edition" : PySem.Str), ("MOST_EDITIONS" : PySem.Str), ("MOST_WAIT" : PySem.Str)]
def names4 : List PySem.Str := [("SIZES" : PySem.Str), ("is_deed_form" : PySem.Str), ("is_index" : PySem.Str), ("Copy" : PySem.Str), ("Visit" : PySem.Str), ("Net" : PySem.Str), ("copy_key" : PySem.Str), ("is_fresh" : PySem.Str), ("visit_of" : PySem.Str), ("can_fetch" : PySem.Str)]
def names5 : List PySem.Str := [("is_possible" : PySem.Str), ("_law_begun" : PySem.Str), ("_law_blend" : PySem.Str), ("_law_take" : PySem.Str), ("_law_pick" : PySem.Str), ("_law_shuffled" : PySem.Str), ("_law_ticks" : PySem.Str), ("_law_site" : PySem.Str), ("_law_below" : PySem.Str), ("_law_model" : PySem.Str)]
def names6 : List PySem.Str := [("_law_age" : PySem.Str), ("_law_wait" : PySem.Str), ("_law_lost" : PySem.Str), ("_law_aged" : PySem.Str), ("_law_opened" : PySem.Str), ("_law_right" : PySem.Str)]
def names : List PySem.Str := names0 ++ names1 ++ names2 ++ names3 ++ names4 ++ names5 ++ names6
def ob (s : SharedT) : Wp.AlP := Wp.hd.seeG (HandSHeadRun.getT s)
theorem ob_eq (s : SharedT) : ob s = Wp.hd.hook.obs s.abs := Wp.HeadP.seeG_eq (HandSHeadRun.getT_eq s)
def EqA (w : World) : Prop := ∀ os : OsState, (HandSHeadRun.endF (HandSHeadRun.stepQ (HandSHeadRun.denQ HandSHeadRun.tabQ) R.prog w) 20000 R.prog w os).map (fun s => (HandSHeadRun.looksF R.prog (boot_heap w.params) s.abs, HandSHeadRun.seenQ qv names (importedModules R.prog.main.body) (fun s => xlAt qv [] s && recOk R.toRowW.records s) s.abs)) = some (true, openGood qv names)
def EqB (w : World) : Prop := ∀ os : OsState, (HandSHeadRun.endF (HandSHeadRun.stepQ (HandSHeadRun.denQ HandSHeadRun.tabQ) R.prog w) 20000 R.prog w os).map ob = some (Wp.hd.due w)
theorem runA0 (w : World) : EqA (w.withFollow "special-get-raises" false) := by
  intro os
  kernel_rfl
theorem runA1 (w : World) : EqA (w.withFollow "special-get-raises" true) := by
  intro os
  kernel_rfl
theorem runB0 (w : World) : EqB (w.withFollow "special-get-raises" false) := by
  intro os
  kernel_rfl
theorem runB1 (w : World) : EqB (w.withFollow "special-get-raises" true) := by
  intro os
  kernel_rfl
theorem run (w : World) : HandSHeadRun.RunEq R qv Wp.hd.hook ob 20000 names w := by
  intro os
  have a : EqA w := byRow2 "special-get-raises" (P := EqA) runA0 runA1 w
  have b : EqB w := byRow2 "special-get-raises" (P := EqB) runB0 runB1 w
  have a := a os
  have b := b os
  obtain ⟨s, hs, ha⟩ := Option.map_eq_some_iff.mp a
  rw [hs] at b ⊢
  have hb : ob s = Wp.hd.due w := Option.some.inj b
  show some (_, _, ob s) = some (true, openGood qv names, Wp.hd.due w)
  rw [hb]
  obtain ⟨h1, h2⟩ := Prod.mk.inj ha
  exact congrArg some (Prod.ext h1 (Prod.ext h2 rfl))
end WpHead

set_option Elab.async false
set_option linter.all false
set_option maxRecDepth 100000
set_option maxHeartbeats 2000000
/-! own special methods: x in o, o[i], len(o) for an instance of the text's own class -/
namespace Wp
open PySem PySem.Spec PyProof.Rows L2
section
variable {X : Cx} {CX : CXT} {C g : Addr} {n : Nat} {fd : FuncData} {ps : List Str} {sp : Sp} {E : XK}
/-- the own method at g is found under the name and is a def -/
structure Spec1 (K : PySem.W.Frag) (C : Addr) (m : Str) (g : Addr) : Prop where
  at_ : PySem.W.findIn K (.ref C) m = some (some (.ref g))
  fn : PySem.W.isFn K (.ref g) = true
theorem run_at {A : Around} {pins : List (Addr × Obj)} {σ : L2.St} {H : Hp} {s : Shared} {Q : VK} {us : List Value} {ws : List V} (F : FnOk X.prog X.w X.K X.mg X.base CX n g fd ps sp) (hr : Room n A)
    (e0 : Env0 X.prog X.w X.K X.mg X.base A X.stack s H) (hb : Binds X.K fd ps []) (hx : Passes CX X E) (I : Inv X pins σ H s) (r : Vals ws us) (h : sp ws H Q E) :
    wpAny (model X.prog X.w) A (call (.ref g) us) (EP X pins σ Q) X.xe s := by
  have hl : (us ++ []).length = ps.length := by
    rw [List.append_nil, ← r.length]
    exact F.len _ _ _ _ h
  have hbb := hb s us I.kIn hl
  rw [List.append_nil] at hbb
  refine wpAny_call (codeAny_mono (F.run A X.stack s H ⟨us, []⟩ us ws Q E hr e0 hbb r h) fun r s' hq => ?_)
  cases r with
  | error e => exact hx pins σ H s e s' I hq
  | ok fl =>
    cases fl with
    | ret u => exact I.after hq
    | next => exact False.elim hq
    | brk => exact False.elim hq
    | cont => exact False.elim hq
/-- x in o -/
def rInOwn (C : Addr) (sp : Sp) (E : XK) (neg : Bool) : R2 := fun x y H Q => ∃ b dx fs, y = .ref b ∧ H b = some (.ins C dx fs) ∧ sp [.ref b, x] H (fun z H' => ∃ k, z = .bl k ∧ Q (.bl (if neg then !k else k)) H') E
theorem contains_own {pins : List (Addr × Obj)} {s : Shared} {σ : L2.St} {H : Hp} {x : V} {v : Value} {b dx : Addr} {fs : List (Str × V)} {Q : Bool → Hp → Prop} (S : Spec1 X.K C "__contains__" g)
    (F : FnOk X.prog X.w X.K X.mg X.base CX n g fd ps sp) (hr : Room n X.A) (hb : Binds X.K fd ps []) (hx : Passes CX X E) (I : Inv X pins σ H s) (rx : RelV x v) (hH : H b = some (.ins C dx fs))
    (q : sp [.ref b, x] H (fun z H' => ∃ k, z = .bl k ∧ Q k H') E) : wpAny (model X.prog X.w) X.A (contains (.ref b) v) (TP X pins σ Q) X.xe s := by
  obtain ⟨mA, O, _⟩ := ins_get I.hok hH
  obtain ⟨od, J, _⟩ := O.look
  have e0 : stdlibNamesSay? (.ref b) v = none := rfl
  unfold contains
  refine wpAny_holding ?_
  rw [e0]
  dsimp only
  refine wpAny_bind (wpAny_bind (J.type.here ((PySem.W.looks_findIn I.kIn S.at_).here ?_)))
  rw [if_neg (by simp)]
  refine wpAny_bind (m := callSpecialUnlessNone? (.ref b) (Str.ofString "__contains__") [v] _) ?_
  unfold callSpecialUnlessNone?
  refine wpAny_bind (wpAny_bind (J.type.here ((PySem.W.looks_findIn I.kIn S.at_).here ?_)))
  dsimp only
  refine wpAny_holding (wpAny_bind ((PySem.W.bind_fn I.kIn _ (beq_iff_eq.mp S.fn)).here ?_))
  dsimp only
  rw [if_neg (by simp)]
  refine wpAny_bind (thn (run_at (us := [.ref b, v]) (ws := [.ref b, x]) F hr I.env0 hb hx I (.cons rfl (.cons rx .nil)) q) fun w s' z => ?_)
  obtain ⟨z', H', I', rz, k, ez, qk⟩ := z
  subst ez
  cases rz
  exact wpAny_pure (wpAny_truthy_bool ⟨H', I', qk⟩)
theorem op_in_own (S : Spec1 X.K C "__contains__" g) (F : FnOk X.prog X.w X.K X.mg X.base CX n g fd ps sp) (hr : Room n X.A) (hb : Binds X.K fd ps []) (hx : Passes CX X E) : OpR X (compareOp .In) (rInOwn C sp E false) := by
  intro pins s σ H x y v u Q I rx ry h
  obtain ⟨b, dx, fs, rfl, hH, q⟩ := h
  cases ry
  show wpAny _ _ (contains (.ref b) v >>= fun r => pure (Value.bool r)) _ _ _
  refine wpAny_bind (thn (contains_own (Q := fun k H' => Q (.bl k) H') S F hr hb hx I rx hH q) fun k s' ⟨H', I', qk⟩ => wpAny_pure ⟨.bl k, H', I', rfl, qk⟩)
theorem op_notin_own (S : Spec1 X.K C "__contains__" g) (F : FnOk X.prog X.w X.K X.mg X.base CX n g fd ps sp) (hr : Room n X.A) (hb : Binds X.K fd ps []) (hx : Passes CX X E) : OpR X (compareOp .NotIn) (rInOwn C sp E true) := by
  intro pins s σ H x y v u Q I rx ry h
  obtain ⟨b, dx, fs, rfl, hH, q⟩ := h
  cases ry
  show wpAny _ _ (contains (.ref b) v >>= fun r => pure (Value.bool (!r))) _ _ _
  refine wpAny_bind (thn (contains_own (Q := fun k H' => Q (.bl (!k)) H') S F hr hb hx I rx hH q) fun k s' ⟨H', I', qk⟩ => wpAny_pure ⟨.bl (!k), H', I', rfl, qk⟩)
/-- o[i] -/
theorem entry_subs : entryFor table "lifetime.subscript" = some Builtin.«lifetime.subscript» := entryFor_of_fast (by kernel_rfl)
theorem under_subs (A : Around) (a : Args) : A.under (.builtin "lifetime.subscript" a) = A.in1 := Around.under_plain (by kernel_rfl) (by kernel_rfl)
/-- o[i], o an instance of the class at C with a def for it -/
def tIxOwn (C : Addr) (sp : Sp) (E : XK) (ta tb : TE) : TE := fun σ H Q => ta σ H fun x H1 => tb σ H1 fun y H2 => ∃ b dx fs, x = .ref b ∧ H2 b = some (.ins C dx fs) ∧ sp [.ref b, y] H2 Q E
theorem pe_ixOwn {a b : Expr} {ta tb : TE} {pos : Pos} (S : Spec1 X.K C "__getitem__" g) (hfn : ∃ oc od fd sl, X.K.lookup g = some ⟨oc, od, .func fd, sl⟩) (F : FnOk X.prog X.w X.K X.mg X.base CX n g fd ps sp) (hr : Room (n + 1) X.A) (hb : Binds X.K fd ps [])
    (hx : Passes CX X E) (ha : PE X a ta) (hbb : PE X b tb) (hs : ∀ o i, subscripted b true o i = runValue (.builtin "lifetime.subscript" ⟨[o, i], []⟩) := by intro _ _; rfl) : PE X (.Subscript a b pos) (tIxOwn C sp E ta tb) := by
  refine ⟨fun pins s σ H Q I h => ?_⟩
  refine Subscript_ (binT ha hbb I h fun v u s2 x y H2 I2 rx ry q => ?_)
  obtain ⟨p, dx, fs, rfl, hH, q⟩ := q
  cases rx
  obtain ⟨mA, O, _⟩ := ins_get I2.hok hH
  obtain ⟨od, J, _⟩ := O.look
  obtain ⟨oc, ood, fd2, sl, lk⟩ := hfn
  unfold subscriptTail
  refine wpAny_bind ?_
  rw [getitemInPython_of_ne (by intro z; cases z)]
  refine wpAny_bind (wpAny_bind (J.type.here ((PySem.W.looks_findIn I2.kIn S.at_).here ?_)))
  dsimp only
  refine wpAny_bind (wpAny_load (I2.kIn _ _ lk) ?_)
  refine wpAny_pure (wpAny_bind ?_)
  rw [hs]
  refine wpAny_runValue (codeAny_builtin entry_subs ?_)
  rw [under_subs]
  unfold Builtin.«lifetime.subscript»
  refine wpAny_bind (m := callSpecial? (.ref p) (Str.ofString "__getitem__") [u]) ?_
  refine PySem.W.special_fn I2.kIn J S.at_ (beq_iff_eq.mp S.fn) ?_
  refine thn (run_at (us := [.ref p, u]) (ws := [.ref p, y]) F hr.in1 I2.env0.in1 hb hx I2 (.cons rfl (.cons ry .nil)) q) fun w s' z => ?_
  refine wpAny_pure ?_
  exact wpAny_bind (wpAny_letTemporaryGo (wpAny_pure z))
/-- len(o) -/
def rLenOwn (C : Addr) (sp : Sp) (E : XK) : List V → Hp → VK → Prop := fun xs H Q => ∃ b dx fs, xs = [V.ref b] ∧ H b = some (.ins C dx fs) ∧ sp [.ref b] H (fun z H' => ∃ n : Int, z = .int n ∧ 0 ≤ n ∧ n < 2 ^ 63 ∧ Q (.int n) H') E
theorem call_lenOwn (S : Spec1 X.K C "__len__" g) (F : FnOk X.prog X.w X.K X.mg X.base CX n g fd ps sp) (hr : Room (n + 1) X.A) (hb : Binds X.K fd ps []) (hx : Passes CX X E) : CallR X (.builtin "len") (rLenOwn C sp E) := by
  intro pins s σ H xs us Q I r h
  obtain ⟨b, dx, fs, rfl, hH, q⟩ := h
  obtain ⟨u, rfl, ru⟩ := vals1 r
  cases ru
  obtain ⟨mA, O, _⟩ := ins_get I.hok hH
  obtain ⟨od, J, _⟩ := O.look
  refine Calls.call_function_entry kind_len plain_len entry_len (args_len1 _) ?_
  unfold Builtin.«len»
  refine wpAny_bind (m := oneArg "len" _) (wpAny_pure ?_)
  refine wpAny_bind (m := callSpecial? (.ref b) (Str.ofString "__len__")) ?_
  refine PySem.W.special_fn I.kIn J S.at_ (beq_iff_eq.mp S.fn) ?_
  refine thn (run_at (us := [.ref b]) (ws := [.ref b]) F hr.in1 I.env0.in1 hb hx I (.cons rfl .nil) q) fun w s' z => ?_
  obtain ⟨z', H', I', rz, k, ez, h0, h1, qk⟩ := z
  subst ez
  obtain ⟨t, rfl⟩ := rz
  refine wpAny_bind (wpAny_holding (wpAny_pure ?_))
  refine wpAny_bind (wpAny_letGo ?_)
  show wpAny _ _ (if k < 0 then _ else _) _ _ _
  rw [if_neg (by omega)]
  show wpAny _ _ (if k ≥ 2 ^ 63 then _ else _) _ _ _
  rw [if_neg (by omega)]
  exact wpAny_bind (wpAny_mkInt (wpAny_pure ⟨_, rfl, .int k, H', I'.tok _, ⟨_, rfl⟩, qk⟩))
end
end Wp

set_option Elab.async false
set_option linter.all false
set_option maxRecDepth 100000
set_option maxHeartbeats 4000000
/-! sets of texts: set(list), set(tuple), len, sorted; sorted of a tuple of texts, of a list of at most one item -/
namespace Wp
open PySem PySem.Spec PyProof.Rows L2
/-- the set at a holds the texts l, each once; its table rises and can be walked -/
def SS (P : Program) (w : World) (h : Heap) (a : Addr) (l : List Str) : Prop :=
  ∃ D : Froz.SD, h.get? a = some (Froz.sObj "set" D) ∧ Froz.TxOk P w D l ∧ l.Nodup ∧ l.length < scanBound ∧ Ris D.2.2.place.toList ∧ (w.params.followText "set-order" = true ∨ D.2.2.led = true)
theorem SS.at {P : Program} {w : World} {h h' : Heap} {a : Addr} {l : List Str} (R : SS P w h a l) (k : ∀ o, h.get? a = some o → h'.get? a = some o) : SS P w h' a l := by
  obtain ⟨D, ho, r⟩ := R
  exact ⟨D, k _ ho, r⟩
abbrev set0 (w : World) : Obj := { cls := .type "set", dict := none, data := .set #[] 0 (.fresh 0 0 (!w.params.followText "set-order")) }
theorem ss_new {P : Program} {w : World} {h : Heap} {a : Addr} (ho : h.get? a = some (set0 w)) : SS P w h a [] := by
  refine ⟨(#[], 0, .fresh 0 0 (!w.params.followText "set-order")), ho, Froz.TxOk.nil rfl, List.nodup_nil, by decide, List.Pairwise.nil, ?_⟩
  show _ ∨ (!w.params.followText "set-order") = true
  cases w.params.followText "set-order"
  · exact .inr rfl
  · exact .inl rfl
theorem tail_ris {ep : Nat} {es : Array (Int × Value)} {t : SetTable} {b : Bool} (r : Ris t.place.toList) : Ris (Froz.tailTx ep es t b).2.2.place.toList := by
  unfold Froz.tailTx
  split
  · exact relayAll_ris t es _
  · exact r
theorem tail_led {ep : Nat} {es : Array (Int × Value)} {t : SetTable} {b : Bool} : (Froz.tailTx ep es t b).2.2.led = t.led := by
  unfold Froz.tailTx
  split
  · exact relayAll_led t es _
  · rfl
theorem add_ris {h : Int} {v : Value} {D : Froz.SD} (r : Ris D.2.2.place.toList) : Ris (Froz.addTx h v D).2.2.place.toList := by
  unfold Froz.addTx
  refine tail_ris ?_
  have q := layNew_ris D.2.2 D.1 h v r
  split
  · exact q
  · exact q
theorem add_led {h : Int} {v : Value} {D : Froz.SD} : (Froz.addTx h v D).2.2.led = D.2.2.led := by
  unfold Froz.addTx
  rw [tail_led]
  have q := layNew_led D.2.2 D.1 h v
  split
  · exact q
  · exact q
section
variable {P : Program} {w : World} {A : Around} {E : Value → Shared → Prop} {s : Shared} {a : Addr} {l : List Str}
/-- a text that is there: nothing changes -/
theorem add_there {D : Froz.SD} {k : Str} {u : Tok} {Q : Bool → Shared → Prop} (ho : s.heap.get? a = some (Froz.sObj "set" D)) (F : Froz.TxOk P w D l) (hk : k ∈ l) (hb : l.length < scanBound) (h : Q false s) :
    wpAny (model P w) A (setAddHashed a (.str k u) (hashStr w k)) Q E s := by
  obtain ⟨es, ep, t⟩ := D
  have hd : (Froz.sObj "set" (es, ep, t)).data = .set es ep t := rfl
  have hf : t.fits es.size = true := F.fit
  have hel : ElemsOf (strKind P w) es.toList := F.el
  have hsz : es.size = l.length := F.sz
  have hkey : (strKind P w).is k (.str k u) = true := Froz.is_str k u
  obtain ⟨j, hj⟩ : ∃ j, List.findIdx? (fun e => (strKind P w).is k e.2) es.toList = some j := by
    cases hr : List.findIdx? (fun e => (strKind P w).is k e.2) es.toList with
    | some j => exact ⟨j, rfl⟩
    | none =>
      obtain ⟨e, he, q⟩ := (F.mem k).mp hk
      have c := List.findIdx?_eq_none_iff.mp hr e he
      rw [q] at c
      cases c
  unfold setAddHashed setAddHashedIn
  refine wpAny_holding (wpAny_bind (wpAny_setState_of ho hd hf ?_))
  dsimp only
  rw [byScan_of rfl (by omega) hel]
  simp only [↓reduceIte]
  unfold setAddByScan
  refine wpAny_bind (wpAny_bind (wpAny_rule (wpAny_bind (wpAny_setScan_of (knd := strKind P w) (k := k) hkey ho hd hf hel ?_))))
  rw [hj]
  exact wpAny_pure (wpAny_pure h)
/-- one text put in -/
theorem ss_add {k : Str} {u : Tok} {Q : Bool → Shared → Prop} (R : SS P w s.heap a l) (hb : l.length + 1 < scanBound)
    (h : ∀ b h', Heap.SameBut a s.heap h' → SS P w h' a (if k ∈ l then l else k :: l) → Q b { s with heap := h' }) : wpAny (model P w) A (setAddHashed a (.str k u) (hashStr w k)) Q E s := by
  obtain ⟨D, ho, F, nd, hl, r, led⟩ := R
  by_cases hk : k ∈ l
  · refine add_there ho F hk hl ?_
    have q := h false s.heap (Heap.SameBut.refl a s.heap)
    rw [if_pos hk] at q
    exact q ⟨D, ho, F, nd, hl, r, led⟩
  · refine Froz.add_x ho F hk hb ?_
    have q := h true _ (Heap.SameBut.update s.heap a (fun _ => Froz.sObj "set" (Froz.addTx (hashStr w k) (.str k u) D)))
    rw [if_neg hk] at q
    refine q ⟨_, Froz.get_upd _ ho rfl, Froz.add_ok u F, List.nodup_cons.mpr ⟨hk, nd⟩, hb, add_ris r, ?_⟩
    rw [add_led]
    exact led
/-- what the set holds behind these texts -/
def metS : List Str → List Str → List Str
  | l, [] => l
  | l, k :: r => metS (if k ∈ l then l else k :: l) r
theorem metS_len : ∀ (xs l : List Str), (metS l xs).length ≤ l.length + xs.length
  | [], l => by simp [metS]
  | k :: r, l => by
    have h := metS_len r (if k ∈ l then l else k :: l)
    show (metS (if k ∈ l then l else k :: l) r).length ≤ _
    split at h
    · rw [if_pos (by assumption), List.length_cons]
      omega
    · rw [if_neg (by assumption), List.length_cons]
      rw [List.length_cons] at h
      omega
theorem metS_mem : ∀ (xs l : List Str) (y : Str), y ∈ metS l xs ↔ y ∈ l ∨ y ∈ xs
  | [], l, y => by simp [metS]
  | k :: r, l, y => by
    show y ∈ metS (if k ∈ l then l else k :: l) r ↔ _
    rw [metS_mem r]
    split
    · rename_i h
      simp only [List.mem_cons]
      constructor
      · rintro (q | q)
        · exact .inl q
        · exact .inr (.inr q)
      · rintro (q | q | q)
        · exact .inl q
        · exact .inl (q ▸ h)
        · exact .inr q
    · simp only [List.mem_cons]
      constructor
      · rintro ((q | q) | q)
        · exact .inr (.inl q)
        · exact .inl q
        · exact .inr (.inr q)
      · rintro (q | q | q)
        · exact .inl (.inr q)
        · exact .inl (.inl q)
        · exact .inr q
theorem metS_nodup : ∀ (xs l : List Str), l.Nodup → (metS l xs).Nodup
  | [], l, h => h
  | k :: r, l, h => by
    refine metS_nodup r _ ?_
    split
    · exact h
    · exact List.nodup_cons.mpr ⟨by assumption, h⟩
/-- distinct texts: as many as were put in -/
theorem metS_all : ∀ (xs l : List Str), xs.Nodup → (∀ x ∈ xs, x ∉ l) → (metS l xs).length = l.length + xs.length
  | [], l, _, _ => rfl
  | k :: r, l, h, hd => by
    obtain ⟨h1, h2⟩ := List.nodup_cons.mp h
    have hk : k ∉ l := hd k List.mem_cons_self
    show (metS (if k ∈ l then l else k :: l) r).length = _
    rw [if_neg hk, metS_all r (k :: l) h2 fun x hx => ?_]
    · rw [List.length_cons, List.length_cons]
      omega
    · intro q
      rcases List.mem_cons.mp q with q | q
      · exact h1 (q ▸ hx)
      · exact hd x (List.mem_cons_of_mem _ hx) q
theorem metS_snoc : ∀ (xs l : List Str) (k : Str), metS l (xs ++ [k]) = if k ∈ metS l xs then metS l xs else k :: metS l xs
  | [], l, k => rfl
  | x :: r, l, k => by
    show metS (if x ∈ l then l else x :: l) (r ++ [k]) = _
    rw [metS_snoc r]
    rfl
/-- set.update's loop over these texts -/
theorem ss_loop {I : Addr} {fp wr : List Addr} {G : Array GenState → Array GenState → Prop} {n : Nat} {Pv : Nat → Value → Prop} {St : Nat → Shared → Prop} {R : Result → Shared → Prop}
    (W : WalksS P w A.in1 I fp wr G n Pv St) (S : Addr) (hSf : S ∉ fp) (xs : List Str) (hn : n = xs.length) (hb : xs.length + 1 < scanBound) (hval : ∀ i v, Pv i v → ∃ k t, xs[i]? = some k ∧ v = .str k t) :
    ∀ (k i : Nat) (s : Shared), n - i = k → i ≤ n → St i s → SS P w s.heap S (metS [] (xs.take i)) →
      (∀ s', Moved (S :: wr) G s s' → SS P w s'.heap S (metS [] xs) → R (.ok (.ret .none)) s') →
      codeAny (model P w) A (.builtin "set.update.loop" ⟨[.ref S, .ref I], []⟩) R s := by
  have hSw : S ∉ wr := fun h => hSf (W.sub _ h)
  have hsub : ∀ b ∈ wr, b ∈ S :: wr := fun b hb => List.mem_cons_of_mem _ hb
  intro k
  induction k with
  | zero =>
    intro i s hk hi hst hS hR
    obtain rfl : i = n := by omega
    refine codeAny_builtin F.entry_set_update_loop ?_
    rw [Around.under_plainId F.plain_set_update_loop _]
    show wpAny _ A.in1 (pyNext (.ref I) >>= _) _ _ s
    refine wpAny_bind (W.done s _ _ hst fun s' hm => ?_)
    rw [List.take_of_length_le (by omega)] at hS
    exact wpAny_pure (hR s' (hm.mono hsub) (hS.at fun o e => hm.heap S o hSw e))
  | succ k ih =>
    intro i s hk hi hst hS hR
    have hlt : i < n := by omega
    refine codeAny_builtin F.entry_set_update_loop ?_
    rw [Around.under_plainId F.plain_set_update_loop _]
    show wpAny _ A.in1 (pyNext (.ref I) >>= _) _ _ s
    refine wpAny_bind (W.item i s _ _ hlt hst fun v s' hP hst' hm => ?_)
    obtain ⟨z, t, hz, rfl⟩ := hval i v hP
    have hS' : SS P w s'.heap S (metS [] (xs.take i)) := hS.at fun o e => hm.heap S o hSw e
    show wpAny _ A.in1 (holding [Value.str z t] (setAdd S (.str z t)) >>= _) _ _ s'
    refine wpAny_bind (wpAny_holding ?_)
    unfold setAdd
    refine wpAny_holding (wpAny_bind ((strKind P w).pyHash (k := z) (Froz.is_str _ _) ?_))
    have hl : (metS [] (xs.take i)).length ≤ i := by
      have q := metS_len (xs.take i) []
      rw [List.length_take, List.length_nil] at q
      omega
    refine ss_add (s := { s' with toks := s'.toks + 1 }) hS' (by omega) fun b h' hsb hS2 => ?_
    have e : xs.take (i + 1) = xs.take i ++ [z] := by rw [List.take_add_one, hz]; rfl
    rw [← metS_snoc, ← e] at hS2
    refine wpAny_pure ⟨plainId_quiet F.plain_set_update_loop _, ih (i + 1) _ (by omega) hlt (W.frame _ s' _ _ hst' (Nat.le_succ _) fun b hb o e => ?_) hS2 fun s'' hm'' hS'' => ?_⟩
    · rw [hsb.2 b (fun h : b = S => hSf (by rw [← h]; exact hb))]; exact e
    · refine hR s'' (Moved.trans W.gtrans ((hm.mono hsub).then_heap (Nat.le_succ _) fun b o hb e => ?_) hm'') hS''
      rw [hsb.2 b (fun h : b = S => hb (by rw [h]; exact List.mem_cons_self))]; exact e
theorem strs_get : ∀ {us : List Value} {xs : List Str}, StrsAre us xs → ∀ {i : Nat} {v : Value}, us[i]? = some v → ∃ k t, xs[i]? = some k ∧ v = .str k t
  | _, _, .nil, i, v, h => by simp at h
  | _, _, .cons k t r, 0, v, h => by
    simp at h
    exact ⟨k, t, rfl, h.symm⟩
  | _, _, .cons k t r, i + 1, v, h => strs_get r (by simpa using h)

/-- set(x), by what set.__init__ does -/
theorem call_set_by {x : Value} {Q : Value → Shared → Prop}
    (h : wpAny (model P w) A.in1.in1 (Builtin.«set.__init__» ⟨[.ref s.heap.objs.size, x], []⟩) (fun fin s' => match fin with
      | .done f => wants (fun r s₂ => r = .none ∧ Q (.ref s.heap.objs.size) s₂) E (.ok f) s'
      | .again c' => c'.quiet = true ∧ codeAny (model P w) A.in1 c' (wants (fun r s₂ => r = .none ∧ Q (.ref s.heap.objs.size) s₂) E) s')
      (fun e s' => wants (fun r s₂ => r = .none ∧ Q (.ref s.heap.objs.size) s₂) E (.error e) s') { s with heap := s.heap.push (set0 w) }) : wpAny (model P w) A (call (.type "set") [x]) Q E s := by
  obtain ⟨c, tl, hmro⟩ := F.called_set.mro
  have hmade := F.called_set.made
  have hsub := F.called_set.sub
  have h1 := F.called_set.notType
  have h2 := F.called_set.canCreate
  have hct := F.typeCall_set_1 x
  refine wpAny_call (codeAny_of_tree ?_)
  show wpAny _ _ (callAny (.type "set") _) _ _ _
  refine wpAny_pure ⟨Code.quiet_builtin _ (by decide +kernel), codeAny_builtin F.entry_type_call ?_⟩
  rw [Around.under_plain (weight_type_call_type "set" [x] []) rfl]
  repeat (any_goals (first | assumption | wp_step))
  have hS : (s.heap.push (set0 w)).get? s.heap.objs.size = some (set0 w) := Heap.get?_push_size _ rfl
  refine codeAny_mono (code_set_led1 x (E := E) (Q₁ := fun o s₁ => o = .ref s.heap.objs.size ∧ s₁ = { s with heap := s.heap.push (set0 w) }) ⟨rfl, rfl⟩) fun r s₁ hr => ?_
  cases r with
  | error e => exact hr
  | ok fl =>
    cases fl with
    | ret o =>
      obtain ⟨rfl, rfl⟩ := hr
      have hT : Shared.TypeIs { s with heap := s.heap.push (set0 w) } (.ref s.heap.objs.size) "set" := ⟨_, hS, rfl⟩
      have hli := F.called_set.init.lookup
      have hbi := F.called_set.init.bind (.ref s.heap.objs.size)
      repeat (any_goals (first | assumption | wp_step))
      refine codeAny_mono (codeAny_call_builtin (R := wants (fun r s₂ => r = .none ∧ Q (.ref s.heap.objs.size) s₂) E) F.called_set.init.plain F.entry_set_init (check_set_init_1 hT h)) fun r₂ s₂ hr₂ => ?_
      cases r₂ with
      | error e => exact hr₂
      | ok fl₂ =>
        cases fl₂ with
        | ret r =>
          obtain ⟨rfl, q⟩ := hr₂
          repeat (any_goals (first | assumption | wp_step))
        | _ => exact hr₂.elim
    | _ => exact hr.elim

theorem call_set_list {l : Addr} {items : Array Value} {xs : List Str} {Q : Value → Shared → Prop} (hh : A.handled = none) (hl : s.heap.IsList l items) (hit : StrsAre items.toList xs) (hb : xs.length + 1 < scanBound)
    (h : ∀ (h' : Heap) (tk : Nat), SS P w h' s.heap.objs.size (metS [] xs) → (∀ b o, s.heap.get? b = some o → h'.get? b = some o) → Q (.ref s.heap.objs.size) { s with heap := h', toks := tk }) :
    wpAny (model P w) A (call (.type "set") [.ref l]) Q E s := by
  have hisz : items.size = xs.length := by rw [← StrsAre.len_eq hit, Array.length_toList]
  have hS : (s.heap.push (set0 w)).get? s.heap.objs.size = some (set0 w) := Heap.get?_push_size _ rfl
  refine call_set_by ?_
  have hl1 : (s.heap.push (set0 w)).IsList l items := hl.push _
  obtain ⟨⟨ocls, odict, odata, oslots⟩, hol, hcl, nl, hdl⟩ := id hl
  simp only at hcl hdl
  subst hcl hdl
  have hol' : (s.heap.push (set0 w)).get? l = some { cls := .type "list", dict := odict, data := .seq items nl, slots := oslots } := Heap.get?_push_of_some _ hol
  have hsls := F.sub_list_set
  have hslf := F.sub_list_frozenset
  have hne : (Value.type "list" == Value.type "dict") = false := by decide
  unfold Builtin.«set.__init__» noKeywords Builtin.Frozenset.updateFrom
  generalize hPI : pyIter = PI
  wp_walk
  subst hPI
  refine wpAny_pyIter_list hl1 (wpAny_bind (wpAny_runValue ?_))
  have hlS : l < s.heap.objs.size := Heap.lt_size hol
  have hz : (s.heap.push (set0 w)).objs.size = s.heap.objs.size + 1 := Heap.size_push ..
  have hneI : l ≠ (s.heap.push (set0 w)).objs.size := by rw [hz]; exact Nat.ne_of_lt (Nat.lt_succ_of_lt hlS)
  have hSf : s.heap.objs.size ∉ [(s.heap.push (set0 w)).objs.size, l] := by
    rw [hz]
    simp only [List.mem_cons, List.not_mem_nil, or_false, not_or]
    exact ⟨Nat.ne_of_lt (Nat.lt_succ_self _), Nat.ne_of_gt hlS⟩
  refine ss_loop ((Walks.list (A := A.in1.in1.in1) (by simp [hh]) _ l hneI items).toS) s.heap.objs.size hSf xs hisz hb (fun i v hv => strs_get hit (by rw [Array.getElem?_toList]; exact hv)) (items.size - 0) 0 _ (by omega) (Nat.zero_le _)
    ⟨⟨_, Heap.get?_push_size _ rfl, rfl, rfl⟩, (hl1.push _)⟩ (ss_new (Heap.get?_push_of_some _ hS)) fun s' hm hS' => ?_
  obtain ⟨h', g2, d', tk', os'⟩ := s'
  obtain rfl : g2 = s.gens := hm.gens
  obtain rfl : d' = s.drawn := hm.drawn
  obtain rfl : os' = s.os := hm.os
  refine wpAny_pure (wpAny_pure ⟨rfl, h h' tk' hS' fun b o e => ?_⟩)
  have hb0 : b < s.heap.objs.size := Heap.lt_size e
  refine hm.heap b o ?_ (Heap.get?_push_of_some _ (Heap.get?_push_of_some _ e))
  rw [hz]
  simp only [List.mem_cons, List.not_mem_nil, or_false, not_or]
  exact ⟨Nat.ne_of_lt hb0, Nat.ne_of_lt (Nat.lt_succ_of_lt hb0)⟩

theorem call_set_tuple {l : Addr} {items : Array Value} {xs : List Str} {Q : Value → Shared → Prop} (hh : A.handled = none) (hl : s.heap.IsTuple l items) (hit : StrsAre items.toList xs) (hb : xs.length + 1 < scanBound)
    (h : ∀ (h' : Heap) (tk : Nat), SS P w h' s.heap.objs.size (metS [] xs) → (∀ b o, s.heap.get? b = some o → h'.get? b = some o) → Q (.ref s.heap.objs.size) { s with heap := h', toks := tk }) :
    wpAny (model P w) A (call (.type "set") [.ref l]) Q E s := by
  have hisz : items.size = xs.length := by rw [← StrsAre.len_eq hit, Array.length_toList]
  have hS : (s.heap.push (set0 w)).get? s.heap.objs.size = some (set0 w) := Heap.get?_push_size _ rfl
  refine call_set_by ?_
  have hl1 : (s.heap.push (set0 w)).IsTuple l items := hl.push _
  obtain ⟨⟨ocls, odict, odata, oslots⟩, hol, hcl, nl, hdl⟩ := id hl
  simp only at hcl hdl
  subst hcl hdl
  have hol' : (s.heap.push (set0 w)).get? l = some { cls := .type "tuple", dict := odict, data := .seq items nl, slots := oslots } := Heap.get?_push_of_some _ hol
  have hsls := F.sub_tuple_set
  have hslf := F.sub_tuple_frozenset
  have hne : (Value.type "tuple" == Value.type "dict") = false := by decide
  unfold Builtin.«set.__init__» noKeywords Builtin.Frozenset.updateFrom
  generalize hPI : pyIter = PI
  wp_walk
  subst hPI
  refine wpAny_pyIter_tuple hl1 (wpAny_bind (wpAny_runValue ?_))
  have hlS : l < s.heap.objs.size := Heap.lt_size hol
  have hz : (s.heap.push (set0 w)).objs.size = s.heap.objs.size + 1 := Heap.size_push ..
  have hneI : l ≠ (s.heap.push (set0 w)).objs.size := by rw [hz]; exact Nat.ne_of_lt (Nat.lt_succ_of_lt hlS)
  have hSf : s.heap.objs.size ∉ [(s.heap.push (set0 w)).objs.size, l] := by
    rw [hz]
    simp only [List.mem_cons, List.not_mem_nil, or_false, not_or]
    exact ⟨Nat.ne_of_lt (Nat.lt_succ_self _), Nat.ne_of_gt hlS⟩
  refine ss_loop ((Walks.tuple (A := A.in1.in1.in1) (by simp [hh]) _ l hneI items).toS) s.heap.objs.size hSf xs hisz hb (fun i v hv => strs_get hit (by rw [Array.getElem?_toList]; exact hv)) (items.size - 0) 0 _ (by omega) (Nat.zero_le _)
    ⟨⟨_, Heap.get?_push_size _ rfl, rfl, rfl⟩, (hl1.push _)⟩ (ss_new (Heap.get?_push_of_some _ hS)) fun s' hm hS' => ?_
  obtain ⟨h', g2, d', tk', os'⟩ := s'
  obtain rfl : g2 = s.gens := hm.gens
  obtain rfl : d' = s.drawn := hm.drawn
  obtain rfl : os' = s.os := hm.os
  refine wpAny_pure (wpAny_pure ⟨rfl, h h' tk' hS' fun b o e => ?_⟩)
  have hb0 : b < s.heap.objs.size := Heap.lt_size e
  refine hm.heap b o ?_ (Heap.get?_push_of_some _ (Heap.get?_push_of_some _ e))
  rw [hz]
  simp only [List.mem_cons, List.not_mem_nil, or_false, not_or]
  exact ⟨Nat.ne_of_lt hb0, Nat.ne_of_lt (Nat.lt_succ_of_lt hb0)⟩

/-! ### sorted, by what is gathered -/
/-- all that stood is kept -/
structure Kpt (s s1 : Shared) : Prop where
  heap : ∀ b o, s.heap.get? b = some o → s1.heap.get? b = some o
  gens : s1.gens = s.gens
  os : s1.os = s.os
theorem sorted_gath {u : Value} {ss : List Str} {Q : Value → Shared → Prop} (hcol : ∀ R : List Value → Shared → Prop, (∀ vs ss' s1, Kpt s s1 → StrsAre vs ss' → ss'.Perm ss → R vs s1) → wpAny (model P w) A.in1 (collect u) R E s) (h64 : ss.length < 64)
    (h : ∀ (s1 s' : Shared) (out : Array Value) (ys : List Str) (c : Nat), Kpt s s1 → Kpt s1 s' → s'.heap.get? s1.heap.objs.size = some (seqObj "list" out c) → StrsAre out.toList ys → ys.Perm ss → sortedS ys = true → Q (.ref s1.heap.objs.size) s') :
    wpAny (model P w) A (call (.builtin "sorted") [u]) Q E s := by
  refine Calls.call_function_entry kind_sorted plain_sorted entry_sorted (args_sorted1 _) ?_
  unfold Builtin.«sorted»
  refine wpAny_bind (m := checkCount "sorted" 1 1 _) (wpAny_pure ?_)
  refine wpAny_bind (hcol _ fun vs ss' s1 k1 hS hp => ?_)
  have hvl : vs.length = ss.length := by rw [StrsAre.len_eq hS, hp.length_eq]
  refine wpAny_bind (wpAny_newList ?_ (by rw [hvl, sizeLine_eq]; omega))
  have hoL : (s1.heap.push (seqObj "list" vs.toArray 0)).get? s1.heap.objs.size = some (seqObj "list" vs.toArray 0) := Heap.get?_push_size _ rfl
  refine wpAny_bind (wpAny_holding (wpAny_call_entry slot_list_sort ⟨_, hoL, rfl⟩ entry_list_sort
    (list_sort_treeK strKind_oneLt (s := { s1 with heap := s1.heap.push (seqObj "list" vs.toArray 0) }) hoL hS.keysOf (fun v₁ v₂ rest e => keyKind_strs (by rw [← e]; exact hS)) (by rw [hvl]; exact h64) fun st' hp' hs => ⟨_, rfl, ?_⟩) (args_list_sort _)))
  obtain ⟨ys, g1, g2, g3⟩ := sorted_out_str hS hp' hs
  obtain ⟨c, hc⟩ := sortedHeap_at (vs := vs) (out := (arrOf st').map (·.2)) hoL
  refine wpAny_pure ⟨_, rfl, h s1 _ _ ys c k1 ⟨fun b u q => ?_, rfl, rfl⟩ hc g1 (g2.trans hp) g3⟩
  have hlt := Heap.lt_size q
  show (sortedHeap (s1.heap.push (seqObj "list" vs.toArray 0)) s1.heap.objs.size vs _).get? b = some u
  rw [sortedHeap_old (Nat.ne_of_lt hlt) (by rw [size_push']; exact Nat.lt_succ_of_lt hlt)]
  exact Heap.get?_push_of_some _ q
/-- the members of a set of texts -/
theorem nodup_perm : ∀ (l K : List Str), l.Nodup → (∀ x ∈ l, x ∈ K) → K.length = l.length → l.Perm K
  | [], K, _, _, hn => by
    cases K with
    | nil => exact List.Perm.refl _
    | cons a r => simp at hn
  | x :: r, K, hl, hs, hn => by
    obtain ⟨h1, h2⟩ := List.nodup_cons.mp hl
    have hx : x ∈ K := hs x List.mem_cons_self
    have p := List.perm_cons_erase hx
    refine (List.Perm.cons x (nodup_perm r (K.erase x) h2 (fun y hy => ?_) ?_)).trans p.symm
    · have hne : y ≠ x := fun e => h1 (e ▸ hy)
      exact (List.mem_erase_of_ne hne).mpr (hs y (List.mem_cons_of_mem _ hy))
    · have q := p.length_eq
      rw [List.length_cons] at q
      rw [List.length_cons] at hn
      omega
theorem perm_of_sub {K l : List Str} (hl : l.Nodup) (hs : ∀ x ∈ l, x ∈ K) (hn : K.length = l.length) : K.Perm l :=
  (nodup_perm l K hl hs hn).symm
theorem sorted_ss {l : List Str} {Q : Value → Shared → Prop} (R : SS P w s.heap a l) (hh : A.handled = none) (h64 : l.length < 64)
    (h : ∀ (s1 s' : Shared) (out : Array Value) (ys : List Str) (c : Nat), Kpt s s1 → Kpt s1 s' → s'.heap.get? s1.heap.objs.size = some (seqObj "list" out c) → StrsAre out.toList ys → ys.Perm l → sortedS ys = true → Q (.ref s1.heap.objs.size) s') :
    wpAny (model P w) A (call (.builtin "sorted") [.ref a]) Q E s := by
  obtain ⟨⟨es, ep, t⟩, ho, F, nd, hb, r, led⟩ := R
  have hsz : es.size = l.length := F.sz
  refine sorted_gath (ss := l) (fun R hR => ?_) h64 h
  refine collect_set (A := A.in1) hh ⟨_, ho, rfl, rfl⟩ F.fit (by rw [hsz]; exact hb) r led fun s' out k1 _ g1 o1 pm => ?_
  have key : ∀ e ∈ es.toList, ∃ k u, e.2 = Value.str k u := fun e he => by
    obtain ⟨⟨k, hk, _⟩, _⟩ := F.el e he
    obtain ⟨u, eu⟩ := Value.isStrOf_shape (x := k) (v := e.2) hk
    exact ⟨k, u, eu⟩
  have hso : StrsAre out (out.map strOf) := by
    refine strsAre_map out fun v hv => ?_
    obtain ⟨e, he, q⟩ := List.mem_map.mp (pm.mem_iff.mp hv)
    obtain ⟨k, u, z⟩ := key e he
    exact ⟨k, u, by rw [← q, z]⟩
  have hp : (out.map strOf).Perm l := by
    refine (pm.map strOf).trans (perm_of_sub nd (fun x hx => ?_) ?_)
    · obtain ⟨e, he, q⟩ := (F.mem x).mp hx
      obtain ⟨u, eu⟩ := Value.isStrOf_shape (x := x) (v := e.2) q
      exact List.mem_map.mpr ⟨e.2, List.mem_map.mpr ⟨e, he, rfl⟩, by rw [eu]; rfl⟩
    · rw [List.length_map, List.length_map, Array.length_toList]
      exact hsz
  exact hR out _ s' ⟨k1, g1, o1⟩ hso hp

end
/-! ### the rules by values -/
def SetS (P : Program) (w : World) (a : Addr) (l : List Str) : HO := .ext fun h => SS P w h a l
theorem setS_new {P : Program} {w : World} {H : Hp} {h : Heap} {a : Addr} {l : List Str} (R : SS P w h a l) : ObjOk P w H h a (SetS P w a l) := by
  have ⟨D, ho, _⟩ := R
  exact ⟨R, ⟨_, ho⟩, fun h1 h2 p k => p.at k⟩
section
variable {X : Cx}
/-- set(xs), xs a list or a tuple of texts -/
def rSetS (K : PySem.W.Frag) (P : Program) (w : World) : List V → Hp → VK → Prop := fun vs H Q => ∃ (l : Addr) (xs : List Str), vs = [.ref l] ∧ (SqL K H l (xs.map V.str) ∨ SqT K H l (xs.map V.str)) ∧ xs.length < 64 ∧
  ∀ p, H p = none → Q (.ref p) (upd H p (SetS P w p (metS [] xs)))
theorem cr_setS (hc : X.calm = true) : CallR X (.type "set") (rSetS X.K X.prog X.w) := by
  intro pins s σ H vs us Q I r h
  obtain ⟨l, xs, rfl, hl, h64, q⟩ := h
  rw [Vals.ref1 r]
  have fin : ∀ (h' : Heap) (tk : Nat), SS X.prog X.w h' s.heap.objs.size (metS [] xs) → (∀ b o, s.heap.get? b = some o → h'.get? b = some o) → EP X pins σ Q (.ref s.heap.objs.size) { s with heap := h', toks := tk } := fun h' tk R k =>
    ⟨.ref _, _, I.laid (t' := tk) k (Nat.le_refl _) (setS_new R), rfl, q _ (I.hok.fresh (Nat.le_refl _))⟩
  have hb : xs.length + 1 < scanBound := by unfold scanBound; omega
  rcases hl with hl | hl
  · obtain ⟨its, rv, pl, _⟩ := I.list hl
    exact call_set_list (I.ok.hd hc) pl.isList (by simpa using rv.strs) hb fin
  · obtain ⟨its, rv, pl, _⟩ := I.tuple hl
    exact call_set_tuple (I.ok.hd hc) pl (by simpa using rv.strs) hb fin
/-- len(s) -/
def rLenSS (P : Program) (w : World) : List V → Hp → VK → Prop := fun vs H Q => ∃ a l, vs = [.ref a] ∧ H a = some (SetS P w a l) ∧ Q (.int (l.length : Nat)) H
theorem cr_lenSS : CallR X (.builtin "len") (rLenSS X.prog X.w) := by
  intro pins s σ H vs us Q I r h
  obtain ⟨a, l, rfl, ha, q⟩ := h
  rw [Vals.ref1 r]
  obtain ⟨D, ho, F, nd, hb, _⟩ := (I.hok a _ ha).1
  have hsz : D.1.size = l.length := F.sz
  have hbn : l.length < 2 ^ 63 := Nat.lt_trans hb (by unfold scanBound; decide)
  refine call_len_set ho ⟨rfl, rfl, rfl⟩ rfl F.fit (by rw [hsz]; omega) ⟨.int (l.length : Nat), H, (I.tok _), ⟨_, by rw [hsz]⟩, q⟩
/-- sorted(s) -/
def rSortSS (P : Program) (w : World) : List V → Hp → VK → Prop := fun vs H Q => ∃ a l, vs = [.ref a] ∧ H a = some (SetS P w a l) ∧ l.length < 64 ∧
  ∀ (ys : List Str) (p : Addr), ys.Perm l → sortedS ys = true → H p = none → Q (.ref p) (upd H p (.lst (ys.map V.str)))
theorem inv_kpt {pins : List (Addr × Obj)} {σ : L2.St} {H : Hp} {s s' : Shared} (I : Inv X pins σ H s) (k : Kpt s s') : Inv X pins σ H s' :=
  I.call' (ch := []) k.os (Un.kept k.heap) (I.hok.kept k.heap) (by rw [k.gens]; exact I.bare) (fun _ z => nomatch z)
theorem inv_laid {pins : List (Addr × Obj)} {σ : L2.St} {H : Hp} {s s' : Shared} {p : Addr} {o : HO} (I : Inv X pins σ H s) (k : Kpt s s') (hp : s.heap.objs.size ≤ p) (new : ObjOk X.prog X.w (upd H p o) s'.heap p o) : Inv X pins σ (upd H p o) s' :=
  I.call' (ch := []) k.os (Un.laid k.heap hp (I.hok.fresh hp)) (I.hok.laid k.heap hp new) (by rw [k.gens]; exact I.bare) (fun _ z => nomatch z)
theorem sort_fin {pins : List (Addr × Obj)} {σ : L2.St} {H : Hp} {s s1 s' : Shared} {Q : VK} {out : Array Value} {ys : List Str} {c : Nat} (I : Inv X pins σ H s) (k : Kpt s s1) (k1 : Kpt s1 s')
    (h : s'.heap.get? s1.heap.objs.size = some (seqObj "list" out c)) (hs : StrsAre out.toList ys) (hl : ys.length < 64) (q : ∀ p, H p = none → Q (.ref p) (upd H p (.lst (ys.map V.str)))) : EP X pins σ Q (.ref s1.heap.objs.size) s' := by
  have I1 := inv_kpt I k
  have I2 : Inv X pins σ (upd H s1.heap.objs.size (.lst (ys.map V.str))) s' := inv_laid I1 k1 (Nat.le_refl _) ⟨by rw [List.length_map]; exact small64 hl, out.toList, c, vals_of_strs hs, by rw [Array.toArray_toList]; exact h⟩
  exact ⟨.ref _, _, I2, rfl, q _ (I1.hok.fresh (Nat.le_refl _))⟩
theorem cr_sortSS (hc : X.calm = true) : CallR X (.builtin "sorted") (rSortSS X.prog X.w) := by
  intro pins s σ H vs us Q I r h
  obtain ⟨a, l, rfl, ha, h64, q⟩ := h
  rw [Vals.ref1 r]
  refine sorted_ss (I.hok a _ ha).1 (I.ok.hd hc) h64 fun s1 s' out ys c k k1 h0 hs hp hr => ?_
  exact sort_fin I k k1 h0 hs (by rw [hp.length_eq]; exact h64) fun p hn => q ys p hp hr hn
/-- sorted(t), t a tuple of texts -/
def rSortT (K : PySem.W.Frag) : List V → Hp → VK → Prop := fun vs H Q => ∃ (a : Addr) (xs : List Str), vs = [.ref a] ∧ SqT K H a (xs.map V.str) ∧ xs.length < 64 ∧
  ∀ (ys : List Str) (p : Addr), ys.Perm xs → sortedS ys = true → H p = none → Q (.ref p) (upd H p (.lst (ys.map V.str)))
theorem cr_sortT : CallR X (.builtin "sorted") (rSortT X.K) := by
  intro pins s σ H vs us Q I r h
  obtain ⟨a, xs, rfl, ha, h64, q⟩ := h
  rw [Vals.ref1 r]
  obtain ⟨its, rv, ⟨o, ho, hc, n, hd⟩, hz⟩ := I.tuple ha
  have hS : StrsAre its.toArray.toList xs := by simpa using rv.strs
  refine sorted_gath (ss := xs) (fun R hR => ?_) h64 fun s1 s' out ys c k k1 h0 hs hp hr => sort_fin I k k1 h0 hs (by rw [hp.length_eq]; exact h64) fun p hn => q ys p hp hr hn
  exact wpAny_collect_seq a (.inr rfl) ho hc hd (fun h' k => hR _ xs _ ⟨k, rfl, rfl⟩ hS (List.Perm.refl _)) (by rw [List.size_toArray, ← rv.length]; exact hz)
end
end Wp

set_option Elab.async false
set_option linter.all false
set_option maxRecDepth 100000
set_option maxHeartbeats 2000000
/-! displays of dicts with two stars: the table of one dict put into another -/
namespace Wp
open PySem PySem.Spec PyProof.Rows L2
section
variable {prog : Program} {w : World} {A : Around} {E : Value → Shared → Prop} {s : Shared}
section
variable {K : Type} [DecidableEq K] {knd : KeyKind prog w K}
theorem dput_val {d : Addr} {kvs : List (K × Value)} {k : K} {key v : Value} {Q : Unit → Shared → Prop} (hkey : knd.is k key = true) (hm : s.heap.DictOf knd d kvs) (hsz : kvs.length ≤ sizeLine)
    (hQ : ∀ h', h'.DictOf knd d (stored kvs k v) → Heap.SameBut d s.heap h' → Q () { s with heap := h' }) : wpAny (model prog w) A (dictPut d (knd.hash k) key v) Q E s := by
  obtain ⟨o, es, ep, ho, hc, hd, hk, hp, hn⟩ := hm
  have hes : es.size ≤ sizeLine := by
    have e1 := hp.length
    have e2 : es.toList.length = es.size := by simp
    omega
  have hidx : (es.findIdx? fun e => knd.is k e.key) = kvs.findIdx? fun kv => decide (kv.1 = k) := by
    rw [← hp.findIdx k]
    obtain ⟨l⟩ := es
    simp
  unfold dictPut
  refine wpAny_bind (wpAny_dictFind_of hkey ho hd hk ?_)
  cases hi : es.findIdx? fun e => knd.is k e.key with
  | none =>
    have hnot : k ∉ kvs.map (·.1) := not_mem_of_findIdx_none (hidx ▸ hi)
    have hany : ¬ (kvs.any fun kv => decide (kv.1 = k)) = true := by
      rw [List.any_eq_true]
      rintro ⟨kv, hkv, he⟩
      exact hnot (List.mem_map.mpr ⟨kv, hkv, of_decide_eq_true he⟩)
    refine wpAny_updateDictKeys (hz := hes) ho hd (hQ _ ⟨_, _, ep + 1, Heap.get?_update_self _ ho (Obj.isFreed_of_dict (Obj.data_mapDictKeys hd _)), hc.mapDictKeys _, Obj.data_mapDictKeys hd _, hk.push hkey _, ?_, ?_⟩ (Heap.SameBut.update ..))
    · have := hp.append hkey (knd.hash k) v
      rw [stored, if_neg hany]
      obtain ⟨l⟩ := es
      simpa using this
    · rw [stored, if_neg hany, List.map_append, List.nodup_append]
      refine ⟨hn, by simp, fun a ha b hb e => ?_⟩
      simp only [List.map_cons, List.map_nil, List.mem_singleton] at hb
      exact hnot (by rw [← hb, ← e]; exact ha)
  | some i =>
    have ha := any_of_findIdx_some (hidx ▸ hi)
    refine wpAny_updateDict ho hd (hQ _ ⟨_, _, ep, Heap.get?_update_self _ ho (Obj.isFreed_of_dict (Obj.data_mapDict hd _)), hc.mapDict _, Obj.data_mapDict hd _, hk.modify _ _, ?_, ?_⟩ (Heap.SameBut.update ..))
    · have hl : (es.toList.findIdx? fun e => knd.is k e.key) = some i := by
        rw [← hi]
        obtain ⟨l⟩ := es
        simp
      have := hp.modify hn hl v
      rw [stored, if_pos ha]
      obtain ⟨l⟩ := es
      simpa using this
    · rw [stored, if_pos ha, keys_map_store]
      exact hn
/-- no key of such a dict is an object -/
theorem keys_flat {es : Array DictEntry} (hk : KeysOf knd es) {e : DictEntry} (he : e ∈ es.toList) : ∀ a, e.key ≠ .ref a := by
  intro a z
  obtain ⟨k, h1, _⟩ := hk e (by simpa using he)
  have := knd.byValue _ _ h1
  rw [z] at this
  cases this
theorem merge_val {d a : Addr} {kvs more : List (K × Value)} {Q : Unit → Shared → Prop} (hda : d ≠ a) (haS : (a == sysModules) = false) (hd : s.heap.DictOf knd d kvs) (ha : s.heap.DictOf knd a more) (hsz : kvs.length + more.length ≤ sizeLine)
    (hQ : ∀ h', h'.DictOf knd d (merged kvs more) → h'.DictOf knd a more → Heap.SameBut d s.heap h' → Q () { s with heap := h' }) : wpAny (model prog w) A (mergeMapping d (.ref a) false) Q E s := by
  obtain ⟨od, esd, epd, hod, hcd, hdd, hkd, hpd, hnd⟩ := id hd
  obtain ⟨oo, eso, epo, hoo, hco, hdo, hko, hpo, hno⟩ := id ha
  have hT : s.TypeIs (.ref a) "dict" := ⟨oo, hoo, hco.1⟩
  have hlen : more.length = eso.size := by rw [← hpo.length]; simp
  unfold mergeMapping
  refine wpAny_bind (wpAny_isInstance hT isSubtype_dict_dict ?_)
  rw [if_pos rfl]
  refine wpAny_bind (wpAny_specialOf hT F.slot_dict_iter.lookup (wpAny_bind (wpAny_pure ?_)))
  simp only [beq_self_eq_true]
  rw [if_neg (by rw [haS]; exact Bool.false_ne_true)]
  refine wpAny_bind (wpAny_dictEntries hod hdd ?_)
  have loop : ∀ s0 : Shared, s0 = s → wpAny (model prog w) A (do
      let size := (← dictEntries a).size
      let epoch ← dictEpoch a
      for i in List.range size do
        let some e := (← dictEntries a)[i]? | unsupported "dict.changed-during-merge"
        holding [e.key, e.val] do
          if false = true then
            if (← dictFind d e.key e.hash).isSome then rule "dict.merge.duplicate-key"; raiseNew (← newExc (.type "KeyError") [e.key])
          dictPut d e.hash e.key e.val
        if (← dictEpoch a) != epoch then unsupported "dict.changed-during-merge") Q E s0 := by
    rintro s0 rfl
    refine wpAny_bind (wpAny_dictEntries hoo hdo ?_)
    refine wpAny_bind (wpAny_dictEpoch hoo hdo ?_)
    refine wpAny_bind ?_
    refine wpAny_forIn_list _
      (fun rest _ s' => ∃ h' i, s' = { s0 with heap := h' } ∧ rest = (List.range eso.size).drop i ∧ i ≤ eso.size ∧ h'.DictOf knd d (merged kvs (more.take i)) ∧ h'.get? a = some oo ∧ Heap.SameBut d s0.heap h') _ ?_ ?_ _ _ ⟨s0.heap, 0, rfl, rfl, Nat.zero_le _, by simpa [merged] using hd, hoo, Heap.SameBut.refl _ _⟩
    · rintro x rest b s' ⟨h', i, rfl, hr, hi, hd', hoo', hs'⟩
      have hlt : i < eso.size := by
        rcases Nat.lt_or_ge i eso.size with h | h
        · exact h
        · rw [List.drop_eq_nil_of_le (by simpa using h)] at hr
          cases hr
      rw [List.drop_eq_getElem_cons (by simpa using hlt)] at hr
      simp only [List.getElem_range] at hr
      injection hr with hx hrest
      subst hx
      refine wpAny_bind (wpAny_dictEntries hoo' hdo ?_)
      rw [Array.getElem?_eq_getElem hlt]
      obtain ⟨⟨k, v⟩, hkv⟩ : ∃ kv, more[x]? = some kv := ⟨more[x]'(by rw [hlen]; exact hlt), List.getElem?_eq_getElem _⟩
      obtain ⟨hkey, hval⟩ := hpo.get? (e := eso[x]) (by simp [hlt]) hkv
      obtain ⟨k', hkey', hhash⟩ := hko eso[x] (Array.getElem_mem hlt)
      obtain rfl : k' = k := knd.inj _ _ _ hkey' hkey
      dsimp only
      refine wpAny_bind (wpAny_holding ?_)
      rw [if_neg Bool.false_ne_true, hhash, hval]
      have hmx : (merged kvs (more.take x)).length ≤ sizeLine := by
        have e1 := merged_length_le kvs (more.take x)
        have e2 : (more.take x).length ≤ more.length := by rw [List.length_take]; omega
        omega
      refine dput_val (s := { s0 with heap := h' }) hkey hd' hmx fun h'' hd'' hs'' => ?_
      have hoo'' : h''.get? a = some oo := (hs''.2 a (Ne.symm hda)).trans hoo'
      refine wpAny_bind (wpAny_dictEpoch hoo'' hdo ?_)
      rw [if_neg (by simp)]
      exact wpAny_pure (⟨h'', x + 1, rfl, hrest, hlt, by rw [merged_take_succ kvs more x (k', v) hkv]; exact hd'', hoo'', hs'.trans hs''⟩)
    · rintro b s' ⟨h', i, rfl, hr, hi, hd', hoo', hs'⟩
      have hin : i = eso.size := by
        rcases Nat.lt_or_ge i eso.size with h | h
        · rw [List.drop_eq_getElem_cons (by simpa using h)] at hr
          cases hr
        · omega
      rw [hin, ← hlen, List.take_length] at hd'
      exact wpAny_pure (hQ h' hd' ⟨oo, eso, epo, hoo', hco, hdo, hko, hpo, hno⟩ hs')
  split
  · refine wpAny_bind (wpAny_dictEntries hoo hdo ?_)
    refine wpAny_bind ?_
    rw [← Array.forIn_toList]
    refine wpAny_forIn_list _ (fun rest _ s' => s' = s ∧ ∀ e ∈ rest, e ∈ eso.toList) _ ?_ ?_ _ _ ⟨rfl, fun _ h => h⟩
    · rintro e rest b s' ⟨rfl, hall⟩
      have hf := keys_flat hko (hall e List.mem_cons_self)
      split
      · rename_i p hp
        exact absurd hp (hf p)
      · exact wpAny_pure ⟨rfl, fun x hx => hall x (List.mem_cons_of_mem _ hx)⟩
    · rintro b s' ⟨rfl, _⟩
      exact loop s' rfl
  · exact loop s rfl
end
section
variable {K : Type} [DecidableEq K] {knd : HeapKind prog w K}
theorem dput_ref {d a : Addr} {xs : List (K × Addr × Value)} {k : K} {v : Value} {Q : Unit → Shared → Prop} (hu : knd.room A) (hkey : knd.is s.heap k a) (hm : s.heap.DictOfH knd d xs) (hsz : xs.length ≤ sizeLine)
    (hQ : ∀ h', h'.DictOfH knd d (storedH xs k a v) → Heap.SameBut d s.heap h' → Q () { s with heap := h' }) : wpAny (model prog w) A (dictPut d (knd.hash k) (.ref a) v) Q E s := by
  obtain ⟨o, es, ep, ho, hc, hd, he, his, hn⟩ := hm
  have esz := size_of_entries he
  unfold dictPut
  refine wpAny_bind (wpAny_dictFind_heap hu hkey ho hd he his hn (fun hno => ?_) fun j p hj => ?_)
  · have hnot : k ∉ xs.map (·.1) := not_mem_keys_of_get hno
    refine wpAny_updateDictKeys (hz := by omega) ho hd (hQ _ ⟨_, _, ep + 1, Heap.get?_update_self _ ho (Obj.isFreed_of_dict (Obj.data_mapDictKeys hd _)), hc.mapDictKeys _, Obj.data_mapDictKeys hd _, ?_, ?_, ?_⟩ (Heap.SameBut.update ..))
    · rw [storedH_new (atKey_none_of_get hno)]
      simp [he, entryOfKey]
    · rw [storedH_new (atKey_none_of_get hno)]
      intro x hx
      rcases List.mem_append.mp hx with hx | hx
      · exact knd.keeps (his x hx) ho hd (Heap.SameBut.update ..)
      · obtain rfl := List.mem_singleton.mp hx
        exact knd.keeps hkey ho hd (Heap.SameBut.update ..)
    · rw [storedH_new (atKey_none_of_get hno), List.map_append, List.nodup_append]
      refine ⟨hn, by simp, fun x hx y hy e => ?_⟩
      simp only [List.map_cons, List.map_nil, List.mem_singleton] at hy
      exact hnot (by rw [← hy, ← e]; exact hx)
  · have hold := storedH_old (v := v) (a := a) (atKey_of_get hn hj)
    refine wpAny_updateDict ho hd (hQ _ ⟨_, _, ep, Heap.get?_update_self _ ho (Obj.isFreed_of_dict (Obj.data_mapDict hd _)), hc.mapDict _, Obj.data_mapDict hd _, ?_, ?_, ?_⟩ (Heap.SameBut.update ..))
    · rw [hold]
      have := modify_map_putAt (entryOfKey knd) (fun e : DictEntry => { e with val := v }) k v (fun _ _ => rfl) hn hj
      rw [← he] at this
      obtain ⟨l⟩ := es
      simpa using this
    · rw [hold]
      intro x hx
      obtain ⟨y, hy, rfl⟩ := List.mem_map.mp hx
      unfold putAt
      split <;> exact knd.keeps (his y hy) ho hd (Heap.SameBut.update ..)
    · rw [hold, keys_map_putAt]
      exact hn
theorem merge_ref {d o : Addr} {kvs more : List (K × Addr × Value)} {Q : Unit → Shared → Prop} (hu : knd.room A) (hdo : d ≠ o) (hoS : (o == sysModules) = false) (hd : s.heap.DictOfH knd d kvs) (ho : s.heap.DictOfH knd o more)
    (hty : ∀ x ∈ more, s.TypeIs (.ref x.2.1) "tuple") (hap : (more.map fun x => knd.hash x.1).Nodup) (hsz : kvs.length + more.length ≤ sizeLine)
    (hQ : ∀ h', h'.DictOfH knd d (storedAllH kvs more) → h'.DictOfH knd o more → Heap.SameBut d s.heap h' → Q () { s with heap := h' }) : wpAny (model prog w) A (mergeMapping d (.ref o) false) Q E s := by
  obtain ⟨od, esd, epd, hod, hcd, hdd, hed, hisd, hnd⟩ := id hd
  obtain ⟨oo, eso, epo, hoo, hco, hdo', heo, hiso, hno⟩ := id ho
  have hT : s.TypeIs (.ref o) "dict" := ⟨oo, hoo, hco.1⟩
  have hlen : eso.size = more.length := size_of_entries heo
  unfold mergeMapping
  refine wpAny_bind (wpAny_isInstance hT isSubtype_dict_dict ?_)
  rw [if_pos rfl]
  refine wpAny_bind (wpAny_specialOf hT F.slot_dict_iter.lookup (wpAny_bind (wpAny_pure ?_)))
  simp only [beq_self_eq_true]
  rw [if_neg (by rw [hoS]; exact Bool.false_ne_true)]
  refine wpAny_bind (wpAny_dictEntries hod hdd ?_)
  have loop : ∀ s0 : Shared, s0 = s → wpAny (model prog w) A (do
      let size := (← dictEntries o).size
      let epoch ← dictEpoch o
      for i in List.range size do
        let some e := (← dictEntries o)[i]? | unsupported "dict.changed-during-merge"
        holding [e.key, e.val] do
          if false = true then
            if (← dictFind d e.key e.hash).isSome then rule "dict.merge.duplicate-key"; raiseNew (← newExc (.type "KeyError") [e.key])
          dictPut d e.hash e.key e.val
        if (← dictEpoch o) != epoch then unsupported "dict.changed-during-merge") Q E s0 := by
    rintro s0 rfl
    refine wpAny_bind (wpAny_dictEntries hoo hdo' ?_)
    refine wpAny_bind (wpAny_dictEpoch hoo hdo' ?_)
    refine wpAny_bind ?_
    refine wpAny_forIn_list _
      (fun rest _ s' => ∃ h' i, s' = { s0 with heap := h' } ∧ rest = (List.range eso.size).drop i ∧ i ≤ eso.size ∧ h'.DictOfH knd d (storedAllH kvs (more.take i)) ∧ h'.DictOfH knd o more ∧ h'.get? o = some oo ∧ Heap.SameBut d s0.heap h') _ ?_ ?_ _ _ ⟨s0.heap, 0, rfl, rfl, Nat.zero_le _, by simpa [storedAllH] using hd, ho, hoo, Heap.SameBut.refl _ _⟩
    · rintro x rest b s' ⟨h', i, rfl, hr, hi, hd', ho', hoo', hs'⟩
      have hlt : i < eso.size := by
        rcases Nat.lt_or_ge i eso.size with h | h
        · exact h
        · rw [List.drop_eq_nil_of_le (by simpa using h)] at hr
          cases hr
      rw [List.drop_eq_getElem_cons (by simpa using hlt)] at hr
      simp only [List.getElem_range] at hr
      injection hr with hx hrest
      subst hx
      refine wpAny_bind (wpAny_dictEntries hoo' hdo' ?_)
      obtain ⟨⟨k, a, v⟩, hkv⟩ : ∃ kv, more[x]? = some kv := ⟨more[x]'(by rw [← hlen]; exact hlt), List.getElem?_eq_getElem _⟩
      rw [entry_at heo x, hkv]
      refine wpAny_bind (wpAny_holding ?_)
      rw [if_neg Bool.false_ne_true]
      have hmx : (storedAllH kvs (more.take x)).length ≤ sizeLine := by
        have e1 := storedAllH_length (more.take x) kvs
        have e2 : (more.take x).length ≤ more.length := by rw [List.length_take]; omega
        omega
      have hkey : knd.is h' k a := by
        obtain ⟨_, _, _, _, _, _, _, his', _⟩ := ho'
        exact his' (k, a, v) (List.mem_of_getElem? hkv)
      refine dput_ref (s := { s0 with heap := h' }) hu hkey hd' hmx fun h'' hd'' hs'' => ?_
      have hoo'' : h''.get? o = some oo := (hs''.2 o (Ne.symm hdo)).trans hoo'
      refine wpAny_bind (wpAny_dictEpoch hoo'' hdo' ?_)
      rw [if_neg (by simp)]
      exact wpAny_pure ⟨h'', x + 1, rfl, hrest, hlt, by rw [storedAllH_take_succ kvs more x (k, a, v) hkv]; exact hd'', ho'.notHere hd' hdo hs'', hoo'', hs'.trans hs''⟩
    · rintro b s' ⟨h', i, rfl, hr, hi, hd', ho', hoo', hs'⟩
      have hin : i = eso.size := by
        rcases Nat.lt_or_ge i eso.size with h | h
        · rw [List.drop_eq_getElem_cons (by simpa using h)] at hr
          cases hr
        · omega
      rw [hin, hlen, List.take_length] at hd'
      exact wpAny_pure (hQ h' hd' ho' hs')
  split
  · refine wpAny_bind (wpAny_dictEntries hoo hdo' ?_)
    refine wpAny_bind ?_
    rw [← Array.forIn_toList]
    refine wpAny_forIn_list _ (fun rest _ s' => s' = s ∧ ∀ e ∈ rest, KeyApart s eso e) _ ?_ ?_ _ _ ⟨rfl, keysApart heo hty hap⟩
    · rintro e rest b s' ⟨rfl, hall⟩
      have hrest : ∀ x ∈ rest, KeyApart s' eso x := fun x hx => hall x (List.mem_cons_of_mem _ hx)
      rcases hall e List.mem_cons_self with hv | ⟨a, hk, hTa, h1⟩
      · split
        · rename_i p hp
          rw [hp] at hv
          cases hv
        · exact wpAny_pure ⟨rfl, hrest⟩
      · rw [hk]
        dsimp only
        refine wpAny_bind (wpAny_specialOf hTa F.slot_tuple_eq.lookup ?_)
        refine wpAny_ite_split (fun _ => ?_) (fun _ => wpAny_pure ⟨rfl, hrest⟩)
        rw [if_neg (by omega)]
        exact wpAny_pure ⟨rfl, hrest⟩
    · rintro b s' ⟨rfl, _⟩
      exact loop s' rfl
  · exact loop s rfl
end
end
end Wp

set_option Elab.async false
set_option linter.all false
set_option maxRecDepth 100000
set_option maxHeartbeats 2000000
namespace Wp
open PySem PySem.Spec PyProof.Rows L2
theorem disp_kv (m k v : Sem Value) : dictDisplay [(none, m), (some k, v)] = (do
    let d ← alloc { cls := .type "dict", data := .dict #[] }
    let m ← holding [.ref d] m
    (((holding [.ref d, m] (mergeMapping d m false)).onRaise fun x => do let _ ← holding [.ref d, m, x] (runValue (.builtin "proto.let_go" {}))).tryCatch fun e => do
        if ← isInstance e (.type "AttributeError") then
          rule "dict.display.not-a-mapping"; raiseError "TypeError" s!"'{← typeNameOf m}' object is not a mapping"
        throw e).onRaise fun x => do let _ ← holding [.ref d, x] (runValue (.builtin "proto.let_go" {}))
    let sub ← holding [.ref d] (subDict [(k, v)])
    (holding [.ref d, .ref sub] (mergeMapping d (.ref sub) false)).onRaise fun x => do let _ ← holding [.ref d, x] (runValue (.builtin "proto.let_go" {}))
    pure (.ref d)) := by
  unfold dictDisplay
  simp
theorem disp_two (m n : Sem Value) : dictDisplay [(none, m), (none, n)] = (do
    let d ← alloc { cls := .type "dict", data := .dict #[] }
    let m ← holding [.ref d] m
    (((holding [.ref d, m] (mergeMapping d m false)).onRaise fun x => do let _ ← holding [.ref d, m, x] (runValue (.builtin "proto.let_go" {}))).tryCatch fun e => do
        if ← isInstance e (.type "AttributeError") then
          rule "dict.display.not-a-mapping"; raiseError "TypeError" s!"'{← typeNameOf m}' object is not a mapping"
        throw e).onRaise fun x => do let _ ← holding [.ref d, x] (runValue (.builtin "proto.let_go" {}))
    let m ← holding [.ref d] n
    (((holding [.ref d, m] (mergeMapping d m false)).onRaise fun x => do let _ ← holding [.ref d, m, x] (runValue (.builtin "proto.let_go" {}))).tryCatch fun e => do
        if ← isInstance e (.type "AttributeError") then
          rule "dict.display.not-a-mapping"; raiseError "TypeError" s!"'{← typeNameOf m}' object is not a mapping"
        throw e).onRaise fun x => do let _ ← holding [.ref d, x] (runValue (.builtin "proto.let_go" {}))
    pure (.ref d)) := by
  unfold dictDisplay
  simp
theorem eval_dictStarKV (a k v : Expr) (pos : Pos) (env : Env) : eval (.Dict [none, some k] [a, v] pos) env = (do
    standAt pos
    dictDisplay [(none, do let x ← eval a env; standAt pos; pure x), (some (eval k env), do let x ← eval v env; standAt pos; pure x)]) := rfl
theorem eval_dictStar2 (a b : Expr) (pos : Pos) (env : Env) : eval (.Dict [none, none] [a, b] pos) env = (do
    standAt pos
    dictDisplay [(none, do let x ← eval a env; standAt pos; pure x), (none, do let x ← eval b env; standAt pos; pure x)]) := rfl
/-- {**a, k: v}: dicts with keys of ints and texts -/
def tDsKV (ta tk tv : TE) : TE := fun σ H Q => ∀ d, H d = none → ta σ (upd H d (.dK [])) fun x H1 => ∃ p kvs, x = .ref p ∧ d ≠ p ∧ H1 p = some (.dK kvs) ∧ H1 d = some (.dK []) ∧ kvs.length < sizeLine ∧
  ∀ d2, (upd H1 d (.dK kvs)) d2 = none → tk σ (upd (upd H1 d (.dK kvs)) d2 (.dK [])) fun y H2 => tv σ H2 fun z H3 => ∃ k, y = kV k ∧ H3 d = some (.dK kvs) ∧ H3 d2 = some (.dK []) ∧ Q (.ref d) (upd (upd H3 d2 (.dK [(k, z)])) d (.dK (putK kvs k z)))
/-- {**a, **b} -/
def tDs2 (ta tb : TE) : TE := fun σ H Q => ∀ d, H d = none → ta σ (upd H d (.dK [])) fun x H1 => ∃ p kvs, x = .ref p ∧ d ≠ p ∧ H1 p = some (.dK kvs) ∧ H1 d = some (.dK []) ∧
  tb σ (upd H1 d (.dK kvs)) fun y H2 => ∃ q more, y = .ref q ∧ d ≠ q ∧ H2 q = some (.dK more) ∧ H2 d = some (.dK kvs) ∧ kvs.length + more.length ≤ sizeLine ∧ Q (.ref d) (upd H2 d (.dK (mergeK kvs more)))
section
variable {X : Cx} {a b k v : Expr} {pos : Pos} {ta tb tk tv : TE}
/-- the table of one put into the other, over the layer's invariant -/
theorem merge_inv {A : Around} {E : Value → Shared → Prop} {pins : List (Addr × Obj)} {σ : L2.St} {H : Hp} {s : Shared} {d p : Addr} {kvs more : List (Key × V)} {Q : Unit → Shared → Prop} (I : Inv X pins σ H s) (hd : H d = some (.dK kvs)) (hp : H p = some (.dK more)) (hdp : d ≠ p)
    (hl : kvs.length + more.length ≤ sizeLine) (h : ∀ s', Inv X pins σ (upd H d (.dK (mergeK kvs more))) s' → Q () s') : wpAny (model X.prog X.w) A (mergeMapping d (.ref p) false) Q E s := by
  obtain ⟨z, hs, vs, rel, dd⟩ := dk_of I.hok hd
  obtain ⟨z2, hs2, vs2, rel2, dd2⟩ := dk_of I.hok hp
  have e1 : kvs.length = vs.length := Paired.length rel
  have e2 : more.length = vs2.length := Paired.length rel2
  refine merge_val (knd := mixKind X.prog X.w) hdp hs2 dd dd2 (by omega) fun h' d' _ sb => h _ ?_
  have he : ∃ q, h'.get? d = some q := let ⟨q, _, _, hq, _⟩ := d'; ⟨q, hq⟩
  have hz := length_mergeK more kvs
  exact d_write I (by rw [hd]; exact True.intro) sb he (dk_new (by omega) hs (rel2.merge rel) d')
theorem mergeK_nil {kvs : List (Key × V)} (h : (kvs.map (·.1)).Nodup) : mergeK [] kvs = kvs := by
  have key : ∀ (more acc : List (Key × V)), ((acc ++ more).map (·.1)).Nodup → mergeK acc more = acc ++ more := by
    intro more
    induction more with
    | nil => intro acc _; simp [mergeK]
    | cons p r ih =>
      intro acc hn
      have hv : valV acc p.1 = none := by
        cases q : valV acc p.1 with
        | none => rfl
        | some x =>
          obtain ⟨y, hy, _⟩ := Option.map_eq_some_iff.mp q
          have h1 := List.mem_of_find?_eq_some hy
          have h2 : y.1 = p.1 := by simpa using List.find?_some hy
          rw [List.map_append, List.map_cons, List.nodup_append] at hn
          exact absurd h2 (hn.2.2 y.1 (List.mem_map.mpr ⟨y, h1, rfl⟩) p.1 List.mem_cons_self)
      show mergeK (putK acc p.1 p.2) r = _
      rw [putK_new _ hv, ih _ (by simpa using hn)]
      simp
  simpa using key kvs [] (by simpa using h)
theorem dk_nodup {P : Program} {w : World} {H : Hp} {h : Heap} {p : Addr} {kvs : List (Key × V)} (ok : HOk P w H h) (e : H p = some (.dK kvs)) : (kvs.map (·.1)).Nodup := by
  obtain ⟨z, hs, vs, rel, o, es, ep, h1, h2, h3, h4, h5, h6⟩ := dk_of ok e
  have : kvs.map (·.1) = vs.map (·.1) := by
    clear h5 h6 z e
    unfold KV at rel
    induction rel with
    | nil => rfl
    | cons r t ih => rw [List.map_cons, List.map_cons, r.1, ih]
  rw [this]
  exact h6
theorem pe_dsKV (ha : PE X a ta) (hk : PE X k tk) (hv : PE X v tv) : PE X (.Dict [none, some k] [a, v] pos) (tDsKV ta tk tv) := by
  refine ⟨fun pins s σ H Q I q => ?_⟩
  rw [eval_dictStarKV, disp_kv]
  refine wpAny_bind (wpAny_standAt ?_)
  refine wpAny_bind (wpAny_alloc ?_)
  have hn := I.hok.fresh (Nat.le_refl s.heap.objs.size)
  have I1 := I.laid (a := s.heap.objs.size) (o := .dK []) (h' := s.heap.push { cls := .type "dict", data := .dict #[] }) (t' := s.toks) (fun _ _ q => Heap.get?_push_of_some _ q) (Nat.le_refl _) (dk_empty s.heap I.big)
  generalize s.heap.objs.size = d at hn I1
  refine wpAny_bind (wpAny_holding (wpAny_bind (thn (ha.run pins _ σ _ _ I1 (q d hn)) fun u s2 ⟨x, H1, I2, rx, p, kvs, ex, hdp, hp, hd, hl, q2⟩ => wpAny_bind (wpAny_standAt (wpAny_pure ?_)))))
  subst ex
  obtain rfl : u = Value.ref p := rx
  refine wpAny_bind (wpAny_onRaise (wpAny_tryCatch (wpAny_onRaise (wpAny_holding (merge_inv I2 hd hp hdp (by simp; omega) fun s3 I3 => ?_)))))
  rw [mergeK_nil (dk_nodup I2.hok hp)] at I3
  refine wpAny_bind (wpAny_holding ?_)
  have hn2 := I3.hok.fresh (Nat.le_refl s3.heap.objs.size)
  have I4 := I3.laid (a := s3.heap.objs.size) (o := .dK []) (h' := s3.heap.push { cls := .type "dict", data := .dict #[] }) (t' := s3.toks) (fun _ _ q => Heap.get?_push_of_some _ q) (Nat.le_refl _) (dk_empty s3.heap I3.big)
  refine wpAny_subDict (knd := mixKind X.prog X.w) (by simp) ?_
  refine evalPairs_cons (thn (hk.run pins _ σ _ _ I4 (q2 _ hn2)) fun uk s5 ⟨y, H2, I5, ry, q5⟩ => wpAny_bind (thn (hv.run pins _ σ _ _ I5 q5) fun uv s6 ⟨z, H3, I6, rz, key, ek, hd3, hd4, q6⟩ => wpAny_bind (wpAny_standAt (wpAny_pure ?_))))
  subst ek
  refine evalPairs_nil ?_
  obtain ⟨z0, hs0, vs0, r0, dd0⟩ := dk_of I6.hok hd4
  cases r0
  refine ⟨[(key, uv)], ⟨kV_is ry, rfl, True.intro⟩, dd0, fun h' d' sb => ?_⟩
  have he : ∃ q, h'.get? s3.heap.objs.size = some q := let ⟨q, _, _, hq, _⟩ := d'; ⟨q, hq⟩
  have I7 : Inv X pins σ (upd H3 s3.heap.objs.size (.dK [(key, z)])) { s6 with heap := h', toks := s6.toks + [(uk, uv)].length } :=
    d_write I6 (by rw [hd4]; exact True.intro) sb he (dk_new (by show 1 ≤ sizeLine; decide) hs0 (.cons ⟨rfl, rz⟩ .nil) d')
  have hdn : d ≠ s3.heap.objs.size := ne_of_none (H := upd H1 d (.dK kvs)) upd_same hn2
  refine wpAny_bind (wpAny_onRaise (wpAny_holding (merge_inv I7 (d := d) (kvs := kvs) (more := [(key, z)]) (by rw [upd_ne hdn]; exact hd3) upd_same hdn (by simp; omega) fun s8 I8 => ?_)))
  exact wpAny_pure ⟨.ref d, _, I8, rfl, q6⟩
theorem pe_ds2 (ha : PE X a ta) (hb : PE X b tb) : PE X (.Dict [none, none] [a, b] pos) (tDs2 ta tb) := by
  refine ⟨fun pins s σ H Q I q => ?_⟩
  rw [eval_dictStar2, disp_two]
  refine wpAny_bind (wpAny_standAt ?_)
  refine wpAny_bind (wpAny_alloc ?_)
  have hn := I.hok.fresh (Nat.le_refl s.heap.objs.size)
  have I1 := I.laid (a := s.heap.objs.size) (o := .dK []) (h' := s.heap.push { cls := .type "dict", data := .dict #[] }) (t' := s.toks) (fun _ _ q => Heap.get?_push_of_some _ q) (Nat.le_refl _) (dk_empty s.heap I.big)
  generalize s.heap.objs.size = d at hn I1
  refine wpAny_bind (wpAny_holding (wpAny_bind (thn (ha.run pins _ σ _ _ I1 (q d hn)) fun u s2 ⟨x, H1, I2, rx, p, kvs, ex, hdp, hp, hd, q2⟩ => wpAny_bind (wpAny_standAt (wpAny_pure ?_)))))
  subst ex
  obtain rfl : u = Value.ref p := rx
  have hz : kvs.length ≤ sizeLine := (dk_of I2.hok hp).1
  refine wpAny_bind (wpAny_onRaise (wpAny_tryCatch (wpAny_onRaise (wpAny_holding (merge_inv I2 hd hp hdp (by simpa using hz) fun s3 I3 => ?_)))))
  rw [mergeK_nil (dk_nodup I2.hok hp)] at I3
  refine wpAny_bind (wpAny_holding (wpAny_bind (thn (hb.run pins _ σ _ _ I3 q2) fun u s4 ⟨y, H2, I4, ry, p2, more, ey, hdp2, hp2, hd2, hl, q4⟩ => wpAny_bind (wpAny_standAt (wpAny_pure ?_)))))
  subst ey
  obtain rfl : u = Value.ref p2 := ry
  refine wpAny_bind (wpAny_onRaise (wpAny_tryCatch (wpAny_onRaise (wpAny_holding (merge_inv I4 hd2 hp2 hdp2 hl fun s5 I5 => ?_)))))
  exact wpAny_pure ⟨.ref d, _, I5, rfl, q4⟩
end
end Wp

set_option Elab.async false
set_option linter.all false
set_option maxRecDepth 100000
set_option maxHeartbeats 2000000
/-! a dict with at most one entry, its key a tuple (text, None), its value an object -/
namespace Wp
open PySem PySem.Spec PyProof.Rows L2
abbrev cpk (P : Program) (w : World) : HeapKind P w (List Leaf) := tupleKind (leafKind P w)
def cpx (z : Str) : Option (Addr × Addr) → List (List Leaf × Addr × Value)
  | none => []
  | some (kt, c) => [([.text z, .none], kt, .ref c)]
def CpO (P : Program) (w : World) (d : Addr) (z : Str) (o : Option (Addr × Addr)) : HO := .ext fun h => (d == sysModules) = false ∧ ∃ ob es ep, h.get? d = some ob ∧ ob.ExactDict ∧ ob.data = .dict es ep ∧ es.toList = (cpx z o).map (entryOfKey (cpk P w))
/-- the key's tuple is there -/
def KtAt (H : Hp) (z : Str) (o : Option (Addr × Addr)) : Prop := ∀ kt c, o = some (kt, c) → H kt = some (.tup [.str z, .non])
theorem KtAt.none {H : Hp} {z : Str} : KtAt H z none := fun _ _ e => nomatch e
theorem KtAt.some {H : Hp} {z : Str} {kt c : Addr} (e : H kt = some (.tup [.str z, .non])) : KtAt H z (some (kt, c)) := fun _ _ h => by cases h; exact e
theorem cpx_nd (z : Str) : ∀ o : Option (Addr × Addr), ((cpx z o).map (·.1)).Nodup
  | none => List.nodup_nil
  | some (kt, c) => by simp [cpx]
theorem cpx_len (z : Str) : ∀ o : Option (Addr × Addr), (cpx z o).length ≤ 1
  | none => by simp [cpx]
  | some (kt, c) => by simp [cpx]
section
variable {P : Program} {w : World} {H : Hp} {h : Heap} {d b : Addr} {z : Str} {o : Option (Addr × Addr)}
theorem cp_key (ok : HOk P w H h) (e : H b = some (.tup [.str z, .non])) : (cpk P w).is h [.text z, .none] b := by
  obtain ⟨_, its, r, ob, h1, h2, n, h3⟩ := (show ObjOk P w H h b (.tup [.str z, .non]) from ok b _ e)
  refine ⟨ob, its.toArray, n, h1, h2, h3, ?_⟩
  show ItemsAre (leafKind P w) [.text z, .none] its
  cases r with
  | cons r1 r =>
    cases r with
    | cons r2 r =>
      cases r
      obtain ⟨t, rfl⟩ := r1
      cases r2
      exact .cons (by show Value.isStrOf z (.str z t) = true; simp [Value.isStrOf]) (.cons rfl .nil)
theorem cp_of (ok : HOk P w H h) (e : Rd H d (CpO P w d z o)) (k : KtAt H z o) : (d == sysModules) = false ∧ h.DictOfH (cpk P w) d (cpx z o) := by
  obtain ⟨⟨hs, ob, es, ep, h1, h2, h3, h4⟩, _⟩ := (show ObjOk P w H h d (CpO P w d z o) from rd_of ok e)
  refine ⟨hs, ob, es, ep, h1, h2, h3, h4, fun x hx => ?_, cpx_nd z o⟩
  cases o with
  | none => cases hx
  | some p =>
    obtain ⟨kt, c⟩ := p
    obtain rfl := List.mem_singleton.mp hx
    exact cp_key ok (k kt c rfl)
theorem cp_new (hs : (d == sysModules) = false) (dd : h.DictOfH (cpk P w) d (cpx z o)) : ObjOk P w H h d (CpO P w d z o) := by
  obtain ⟨ob, es, ep, h1, h2, h3, h4, h5, h6⟩ := dd
  exact ⟨⟨hs, ob, es, ep, h1, h2, h3, h4⟩, ⟨ob, h1⟩, fun g1 g2 ⟨a, ob, es, ep, b1, b2⟩ k => ⟨a, ob, es, ep, k _ b1, b2⟩⟩
theorem cp_empty (h : Heap) (hb : sysModules < h.objs.size) : ObjOk P w H (h.push { cls := .type "dict", data := .dict #[] }) h.objs.size (CpO P w h.objs.size z none) :=
  cp_new (beq_eq_false_iff_ne.mpr (Nat.ne_of_gt hb)) ⟨_, _, _, Heap.get?_push_size _ rfl, ⟨rfl, rfl, rfl⟩, rfl, rfl, (fun _ hx => nomatch hx), List.nodup_nil⟩
theorem cp_ty {s : Shared} (ok : HOk P w H s.heap) (k : KtAt H z o) : ∀ x ∈ cpx z o, s.TypeIs (.ref x.2.1) "tuple" := by
  intro x hx
  cases o with
  | none => cases hx
  | some p =>
    obtain ⟨kt, c⟩ := p
    obtain rfl := List.mem_singleton.mp hx
    obtain ⟨_, its, r, ob, h1, h2, n, h3⟩ := (show ObjOk P w H s.heap kt (.tup [.str z, .non]) from ok kt _ (k kt c rfl))
    exact ⟨ob, h1, h2⟩
theorem cp_hash : ((cpx z o).map fun x => (cpk P w).hash x.1).Nodup := by
  cases o with
  | none => exact List.nodup_nil
  | some p => simp [cpx]
theorem cp_at {k : List Leaf} (hk : k = [.text z, .none]) : atKey (cpx z o) k = o.map fun p => (p.1, .ref p.2) := by
  subst hk
  cases o with
  | none => rfl
  | some p => simp [cpx, atKey]
end
/-- {} as such a dict -/
def tCpNew (P : Program) (w : World) : TE := fun _ H Q => ∃ z, ∀ p, H p = none → Q (.ref p) (upd H p (CpO P w p z none))
section
variable {X : Cx}
theorem pe_cpnew {pos : Pos} : PE X (.Dict [] [] pos) (tCpNew X.prog X.w) := by
  refine ⟨fun pins s σ H Q I h => ?_⟩
  obtain ⟨z, h⟩ := h
  exact wpAny_Dict_empty ⟨.ref s.heap.objs.size, _, I.laid (a := s.heap.objs.size) (o := CpO X.prog X.w s.heap.objs.size z none) (t' := s.toks) (fun _ _ q => Heap.get?_push_of_some _ q) (Nat.le_refl _) (cp_empty s.heap I.big), rfl, h _ (I.hok.fresh (Nat.le_refl _))⟩
/-- key in d -/
def rCpIn (P : Program) (w : World) : R2 := fun x y H Q => ∃ b d z o, x = .ref b ∧ H b = some (.tup [.str z, .non]) ∧ y = .ref d ∧ H d = some (CpO P w d z o) ∧ KtAt H z o ∧ Q (.bl o.isSome) H
theorem op_cpIn (hu : X.A.units + 1 < cLine) : OpR X (compareOp .In) (rCpIn X.prog X.w) := by
  intro pins s σ H x y v u Q I rx ry h
  obtain ⟨b, d, z, o, rfl, hb, rfl, hd, kt, q⟩ := h
  cases rx
  cases ry
  obtain ⟨hs, dd⟩ := cp_of I.hok (.inl hd) kt
  refine wpAny_in_heap (knd := cpk X.prog X.w) (tupleKind_room_in1 hu) (cp_key I.hok hb) hs dd ?_
  rw [cp_at rfl]
  refine ⟨.bl o.isSome, H, I.tok _, ?_, q⟩
  cases o <;> rfl
/-- d[key], there -/
def rCpIx (P : Program) (w : World) : R2 := fun x y H Q => ∃ b d z kt c, x = .ref d ∧ H d = some (CpO P w d z (some (kt, c))) ∧ H kt = some (.tup [.str z, .non]) ∧ y = .ref b ∧ H b = some (.tup [.str z, .non]) ∧ Q (.ref c) H
theorem ix_cp (hu : X.A.units + 1 < cLine) : IxR X (rCpIx X.prog X.w) := by
  intro value slice pins s σ H x y v u Q I rx ry h hs
  obtain ⟨b, d, z, kt, c, rfl, hd, hk, rfl, hb, q⟩ := h
  cases rx
  cases ry
  obtain ⟨hy, dd⟩ := cp_of I.hok (.inl hd) (.some hk)
  exact subscriptTail_builtinR (x := .ref c) dd.typeIs PySem.F.slot_dict_getitem.lookup
    (wpAny_getItem_heap (knd := cpk X.prog X.w) (Q := fun r s' => r = .ref c ∧ EP X pins σ Q r s') (tupleKind_room_in1 hu) (cp_key I.hok hb) dd (cp_at rfl) ⟨rfl, .ref c, H, I.tok _, rfl, q⟩) hs
/-- dict(d) -/
def rCpDict (P : Program) (w : World) : List V → Hp → VK → Prop := fun xs H Q => ∃ d z o, xs = [.ref d] ∧ H d = some (CpO P w d z o) ∧ KtAt H z o ∧ ∀ p, H p = none → Q (.ref p) (upd H p (CpO P w p z o))
theorem hu2_of {A : Around} {k : Nat} (hr : Room k A) : A.units + 2 < cLine := by
  have := hr.un
  omega
theorem cr_cpDict (hu : X.A.units + 2 < cLine) : CallR X (.type "dict") (rCpDict X.prog X.w) := by
  intro pins s σ H xs us Q I r h
  obtain ⟨d, z, o, rfl, hd, kt, q⟩ := h
  obtain ⟨u, rfl, ru⟩ := vals1 r
  cases ru
  obtain ⟨hs, dd⟩ := cp_of I.hok (.inl hd) kt
  refine callType_codes (Q₁ := fun obj s₁ => obj = .ref s.heap.objs.size ∧ s₁ = { s with heap := s.heap.push { cls := .type "dict", data := .dict #[] } }) F.kt_called_dict (F.kt_typeCall_dict_1 _) F.entry_dict_init (kt_code_dict_new _ ⟨rfl, rfl⟩) ?_
  rintro obj s₁ ⟨rfl, rfl⟩
  have hp := I.hok.fresh (Nat.le_refl s.heap.objs.size)
  have I1 := I.laid (a := s.heap.objs.size) (o := CpO X.prog X.w s.heap.objs.size z none) (h' := s.heap.push { cls := .type "dict", data := .dict #[] }) (t' := s.toks) (fun _ _ q => Heap.get?_push_of_some _ q) (Nat.le_refl _) (cp_empty s.heap I.big)
  have hdp : s.heap.objs.size ≠ d := fun e => by rw [e, hd] at hp; cases hp
  obtain ⟨hs1, hnew⟩ := cp_of I1.hok (.inl upd_same) .none
  have kt1 : KtAt (upd H s.heap.objs.size (CpO X.prog X.w s.heap.objs.size z none)) z o := fun a c e => by
    rw [upd_ne (ne_of_none (kt a c e) hp)]
    exact kt a c e
  obtain ⟨hs2, hold⟩ := cp_of I1.hok (.inl (show (upd H s.heap.objs.size (CpO X.prog X.w s.heap.objs.size z none)) d = some (CpO X.prog X.w d z o) by rw [upd_ne hdp.symm]; exact hd)) kt1
  refine ⟨hnew.typeIs, F.args_dict_init_2 _ _, ?_⟩
  unfold Builtin.«dict.__init__»
  refine wpAny_bind ?_
  unfold Builtin.Dict.selfAndRest
  refine wpAny_bind (wpAny_notOrdered_dict hnew.typeIs ?_)
  show wpAny _ _ (pure (s.heap.objs.size, [Value.ref d])) _ _ _
  refine wpAny_pure ?_
  show wpAny _ _ (Builtin.Dict.updateFrom "dict.__init__" s.heap.objs.size (.ref d) [] .none) _ _ _
  unfold Builtin.Dict.updateFrom
  refine wpAny_bind (wpAny_typeOf hold.typeIs ?_)
  rw [if_neg (by decide)]
  refine wpAny_bind ?_
  unfold Builtin.Dict.merge
  refine wpAny_bind ?_
  unfold Builtin.Dict.readDirectly
  refine wpAny_bind (wpAny_isInstance hold.typeIs isSubtype_dict_dict ?_)
  simp only [Bool.not_true, Bool.false_eq_true, if_false]
  refine wpAny_bind (wpAny_specialOf hold.typeIs F.slot_dict_iter.lookup (wpAny_pure ?_))
  simp only [beq_self_eq_true, if_true]
  refine wpAny_bind (wpAny_pure ?_)
  have hl := cpx_len z o
  refine wpAny_mergeDict_heap (knd := cpk X.prog X.w) (hsz := by show 0 + _ ≤ _; rw [sizeLine_eq]; omega) (show X.A.units + 2 < cLine from hu) hdp hs hnew hold (.inr ⟨cp_ty I1.hok kt1, cp_hash⟩) fun h' hd' _ hs' => ?_
  show wpAny _ _ (Builtin.Dict.addKeywords s.heap.objs.size [] >>= _) _ _ _
  rw [show cpx z none = [] from rfl, storedAllH_nil_of_nodup _ (cpx_nd z o)] at hd'
  have he : ∃ q, h'.get? s.heap.objs.size = some q := let ⟨q, _, _, hq, _⟩ := hd'; ⟨q, hq⟩
  have I2 := d_write (t' := s.toks) (ob := CpO X.prog X.w s.heap.objs.size z o) I1 (a := s.heap.objs.size) (by rw [upd_same]; exact True.intro) hs' he (cp_new hs1 hd')
  rw [upd_upd] at I2
  exact wpAny_bind (wpAny_pure (wpAny_pure ⟨rfl, .ref s.heap.objs.size, _, I2, rfl, q _ hp⟩))
/-- d.pop(key), there -/
def rCpPop (P : Program) (w : World) : V → List V → Hp → VK → Prop := fun x xs H Q => ∃ d z kt c b, x = .ref d ∧ xs = [.ref b] ∧ H d = some (CpO P w d z (some (kt, c))) ∧ H kt = some (.tup [.str z, .non]) ∧ H b = some (.tup [.str z, .non]) ∧ Q (.ref c) (upd H d (CpO P w d z none))
theorem mt_cpPop (hu : X.A.units + 1 < cLine) : MtR X "dict.pop" (rCpPop X.prog X.w) := by
  intro pins s σ H x xs v us Q I rx rxs h
  obtain ⟨d, z, kt, c, b, rfl, rfl, hd, hk, hb, q⟩ := h
  cases rx
  obtain ⟨u1, rfl, r1⟩ := vals1 rxs
  cases r1
  obtain ⟨hs, dd⟩ := cp_of I.hok (.inl hd) (.some hk)
  have hkey := cp_key I.hok hb
  obtain ⟨ob, es, ep, ho, hc, hdat, he, his, hn⟩ := id dd
  have hpart : (keyPart (Value.ref b)).isSome = false := rfl
  refine call_meetsIn (S := fun A' R s' => A' = X.A ∧ s' = s ∧ ∀ u s2, EP X pins σ Q u s2 → R (.ok (.ret u)) s2) PySem.F.slot_dict_pop dd.typeIs PySem.F.entry_dict_pop (PySem.F.args_dict_pop_2 _ _) (.of_wp fun A R s0 hS => ?_) ⟨rfl, rfl, fun u s2 z => z⟩
  obtain ⟨rfl, rfl, hR⟩ := hS
  unfold Builtin.«dict.pop»
  refine wpAny_bind ?_
  unfold Builtin.Dict.keyAndDefault
  refine wpAny_bind (wpAny_notOrdered_dict dd.typeIs ?_)
  show wpAny _ _ (pure (d, Value.ref b, none)) _ _ s0
  refine wpAny_pure ?_
  simp only [hpart, Bool.false_eq_true, if_false]
  refine wpAny_bind (wpAny_dictEntries ho hdat (wpAny_bind (wpAny_pure ?_)))
  have hem : es.isEmpty = false := by
    have e := size_of_entries he
    rw [Array.isEmpty_eq_false_iff]
    intro z0
    rw [z0] at e
    cases e
  rw [hem]
  simp only [Bool.false_eq_true, if_false]
  refine wpAny_bind (DT.takeH (knd := cpk X.prog X.w) (k := [.text z, .none]) (tupleKind_room_in1 hu) hkey dd (by show 1 ≤ sizeLine; decide) (fun hno => ?_) fun p e hp hev h' hm' hs' => ?_)
  · rw [cp_at rfl] at hno
    cases hno
  · rw [cp_at rfl] at hp
    cases hp
    simp only [Option.isNone_some, Bool.false_eq_true, if_false]
    have hdr : DT.dropH (cpx z (some (kt, c))) [.text z, .none] = cpx z none := by simp [DT.dropH, cpx]
    rw [hdr] at hm'
    have hq : ∃ q, h'.get? d = some q := let ⟨q, _, _, hq, _⟩ := hm'; ⟨q, hq⟩
    refine wpAny_bind (wpAny_letGo (wpAny_pure ⟨e.val, rfl, ?_⟩))
    rw [hev]
    exact hR _ _ ⟨.ref c, _, d_write I (by rw [hd]; exact True.intro) hs' hq (cp_new hs hm'), rfl, q⟩
end
end Wp

set_option Elab.async false
set_option linter.all false
set_option maxRecDepth 100000
set_option maxHeartbeats 2000000
namespace Wp
open PySem PySem.Spec PyProof.Rows L2
/-- {**d, key: more} -/
def tCpS (P : Program) (w : World) (ta tk tv : TE) : TE := fun σ H Q => ∃ z, ∀ d, H d = none → ta σ (upd H d (CpO P w d z none)) fun x H1 => ∃ p o, x = .ref p ∧ d ≠ p ∧ H1 p = some (CpO P w p z o) ∧ KtAt H1 z o ∧ H1 d = some (CpO P w d z none) ∧
  ∀ d2, upd H1 d (CpO P w d z o) d2 = none → tk σ (upd (upd H1 d (CpO P w d z o)) d2 (CpO P w d2 z none)) fun y H2 => tv σ H2 fun v H3 => ∃ b c, y = .ref b ∧ v = .ref c ∧ H3 b = some (.tup [.str z, .non]) ∧ KtAt H3 z o ∧ H3 d = some (CpO P w d z o) ∧ H3 d2 = some (CpO P w d2 z none) ∧
    Q (.ref d) (upd (upd H3 d2 (CpO P w d2 z (some (b, c)))) d (CpO P w d z (some ((o.map (·.1)).getD b, c))))
section
variable {X : Cx}
theorem cp_stored {z : Str} {o : Option (Addr × Addr)} {b c : Addr} : storedAllH (cpx z o) (cpx z (some (b, c))) = cpx z (some ((o.map (·.1)).getD b, c)) := by
  cases o with
  | none => rfl
  | some p => simp [cpx, storedAllH, storedH, atKey, putAt]
theorem cp_merge {A : Around} {E : Value → Shared → Prop} {pins : List (Addr × Obj)} {σ : L2.St} {H : Hp} {s : Shared} {d p : Addr} {z : Str} {o o2 o3 : Option (Addr × Addr)} {Q : Unit → Shared → Prop} (hu : A.units < cLine) (I : Inv X pins σ H s) (hd : H d = some (CpO X.prog X.w d z o)) (hp : H p = some (CpO X.prog X.w p z o2)) (hdp : d ≠ p)
    (k1 : KtAt H z o) (k2 : KtAt H z o2) (e : storedAllH (cpx z o) (cpx z o2) = cpx z o3) (h : ∀ s', Inv X pins σ (upd H d (CpO X.prog X.w d z o3)) s' → Q () s') : wpAny (model X.prog X.w) A (mergeMapping d (.ref p) false) Q E s := by
  obtain ⟨hs, dd⟩ := cp_of I.hok (.inl hd) k1
  obtain ⟨hs2, dd2⟩ := cp_of I.hok (.inl hp) k2
  have l1 := cpx_len z o
  have l2 := cpx_len z o2
  refine merge_ref (knd := cpk X.prog X.w) hu hdp hs2 dd dd2 (cp_ty I.hok k2) cp_hash (by rw [sizeLine_eq]; omega) fun h' d' _ sb => h _ ?_
  rw [e] at d'
  have he : ∃ q, h'.get? d = some q := let ⟨q, _, _, hq, _⟩ := d'; ⟨q, hq⟩
  exact d_write I (by rw [hd]; exact True.intro) sb he (cp_new hs d')
theorem pe_cpS {a k v : Expr} {pos : Pos} {ta tk tv : TE} (hu : X.A.units + 1 < cLine) (ha : PE X a ta) (hk : PE X k tk) (hv : PE X v tv) : PE X (.Dict [none, some k] [a, v] pos) (tCpS X.prog X.w ta tk tv) := by
  have hu0 : X.A.units < cLine := by omega
  refine ⟨fun pins s σ H Q I q => ?_⟩
  obtain ⟨z, q⟩ := q
  rw [eval_dictStarKV, disp_kv]
  refine wpAny_bind (wpAny_standAt ?_)
  refine wpAny_bind (wpAny_alloc ?_)
  have hn := I.hok.fresh (Nat.le_refl s.heap.objs.size)
  have I1 := I.laid (a := s.heap.objs.size) (o := CpO X.prog X.w s.heap.objs.size z none) (h' := s.heap.push { cls := .type "dict", data := .dict #[] }) (t' := s.toks) (fun _ _ q => Heap.get?_push_of_some _ q) (Nat.le_refl _) (cp_empty s.heap I.big)
  generalize s.heap.objs.size = d at hn I1
  refine wpAny_bind (wpAny_holding (wpAny_bind (thn (ha.run pins _ σ _ _ I1 (q d hn)) fun u s2 ⟨x, H1, I2, rx, p, o, ex, hdp, hp, kt, hd, q2⟩ => wpAny_bind (wpAny_standAt (wpAny_pure ?_)))))
  subst ex
  obtain rfl : u = Value.ref p := rx
  refine wpAny_bind (wpAny_onRaise (wpAny_tryCatch (wpAny_onRaise (wpAny_holding (cp_merge (o3 := o) hu0 I2 hd hp hdp .none kt (by rw [show cpx z none = [] from rfl]; exact storedAllH_nil_of_nodup _ (cpx_nd z o)) fun s3 I3 => ?_)))))
  refine wpAny_bind (wpAny_holding ?_)
  have hn2 := I3.hok.fresh (Nat.le_refl s3.heap.objs.size)
  have I4 := I3.laid (a := s3.heap.objs.size) (o := CpO X.prog X.w s3.heap.objs.size z none) (h' := s3.heap.push { cls := .type "dict", data := .dict #[] }) (t' := s3.toks) (fun _ _ q => Heap.get?_push_of_some _ q) (Nat.le_refl _) (cp_empty s3.heap I3.big)
  refine wpAny_subDictH (knd := cpk X.prog X.w) hu0 (by simp) ?_
  refine evalPairs_cons (thn (hk.run pins _ σ _ _ I4 (q2 _ hn2)) fun uk s5 ⟨y, H2, I5, ry, q5⟩ => wpAny_bind (thn (hv.run pins _ σ _ _ I5 q5) fun uv s6 ⟨vv, H3, I6, rz, b, c, ey, ev, hb, kt3, hd3, hd4, q6⟩ => wpAny_bind (wpAny_standAt (wpAny_pure ?_))))
  subst ey ev
  obtain rfl : uk = Value.ref b := ry
  obtain rfl : uv = Value.ref c := rz
  refine evalPairs_nil ?_
  obtain ⟨hs4, dd4⟩ := cp_of I6.hok (.inl hd4) .none
  refine ⟨[([.text z, .none], b, .ref c)], ⟨rfl, rfl, cp_key I6.hok hb, True.intro⟩, dd4, fun h' tk d' sb => ?_⟩
  have he : ∃ q, h'.get? s3.heap.objs.size = some q := let ⟨q, _, _, hq, _⟩ := d'; ⟨q, hq⟩
  have I7 : Inv X pins σ (upd H3 s3.heap.objs.size (CpO X.prog X.w s3.heap.objs.size z (some (b, c)))) { s6 with heap := h', toks := tk } :=
    d_write I6 (by rw [hd4]; exact True.intro) sb he (cp_new hs4 d')
  have hdn : d ≠ s3.heap.objs.size := ne_of_none (H := upd H1 d (CpO X.prog X.w d z o)) upd_same hn2
  have up : ∀ {q : Addr} {xs : List V} {u : HO}, H3 q = some (.tup xs) → upd H3 s3.heap.objs.size u q = some (.tup xs) := fun {q xs u} e => by
    rw [upd_ne (ne_of e hd4 (fun z => nomatch z))]
    exact e
  refine wpAny_bind (wpAny_onRaise (wpAny_holding (cp_merge (o2 := some (b, c)) hu0 I7 (d := d) (by rw [upd_ne hdn]; exact hd3) upd_same hdn (fun a' c' e => up (kt3 a' c' e)) (.some (up hb)) cp_stored fun s8 I8 => ?_)))
  exact wpAny_pure ⟨.ref d, _, I8, rfl, q6⟩
/-! ### walked by its items -/
/-- the one entry of the locked dict at d -/
def Itcp (P : Program) (w : World) (d : Addr) (od : Obj) (z : Str) (o : Option (Addr × Addr)) : It :=
  ⟨fun i H => H d = some (.frz od (CpO P w d z o)) ∧ i = 0 ∧ o.isSome = true, fun i H v H' => ∃ T kt c, v = .ref T ∧ o = some (kt, c) ∧ H T = none ∧ H' = upd H T (.tup [.ref kt, .ref c]), fun i H => H d = some (.frz od (CpO P w d z o)) ∧ (o = none ∨ 1 ≤ i)⟩
theorem cp_frz {P : Program} {w : World} {H : Hp} {h : Heap} {d : Addr} {od : Obj} {z : Str} {o : Option (Addr × Addr)} (ok : HOk P w H h) (e : H d = some (.frz od (CpO P w d z o))) :
    (d == sysModules) = false ∧ h.get? d = some od ∧ od.ExactDict ∧ ∃ es ep, od.data = .dict es ep ∧ es.toList = (cpx z o).map (entryOfKey (cpk P w)) := by
  obtain ⟨hd, ⟨hs, ob, es, ep, h1, h2, h3, h4⟩, _⟩ := (show ObjOk P w H h d (.frz od (CpO P w d z o)) from ok d _ e)
  rw [hd] at h1
  cases h1
  exact ⟨hs, hd, h2, es, ep, h3, h4⟩
theorem turn_cp {P : Program} {w : World} {K : PySem.W.Frag} {elts : List Expr} {kk : Nat} {tpos : Pos} {d : Addr} {od : Obj} {z : Str} {o : Option (Addr × Addr)} {es : Array DictEntry} {ep : Nat} (it : Addr) (hod : od.data = .dict es ep) :
    Turn P w K (.Tuple elts kk tpos) (Itcp P w d od z o) [it] it (fun i h => ∃ ok ov, IsItemIter h it d i es.size ep ok ov) where
  mem := by simp
  obj := fun i h st b hb => by
    have e : b = it := by simpa using hb
    subst e
    obtain ⟨ok, ov, e⟩ := st
    exact ⟨_, e, fun v z => nomatch z⟩
  keep := fun i h h' st k => let ⟨ok, ov, e⟩ := st; ⟨ok, ov, k it (by simp) _ e⟩
  item := by
    intro X hP hw hK hc i pins s σ H E I hf st hg
    subst hP hw hK
    obtain ⟨hd, rfl, ho⟩ := hg
    obtain ⟨⟨kt, c⟩, rfl⟩ := Option.isSome_iff_exists.mp ho
    obtain ⟨hs, hgd, hx, es', ep', hdt, hes⟩ := cp_frz I.hok hd
    rw [hod] at hdt
    cases hdt
    obtain ⟨ok, ov, he⟩ := st
    have hlt : it < s.heap.objs.size := Heap.lt_size he
    have hsz : 0 < es.size := by
      have e := size_of_entries hes
      rw [e]
      show 0 < 1
      decide
    have h0 : es[0] = entryOfKey (cpk X.prog X.w) ([.text z, .none], kt, .ref c) := by
      have e := entry_at hes 0
      rw [Array.getElem?_eq_getElem hsz] at e
      exact Option.some.inj e
    refine DT.nextI he ⟨od, hgd, hx, hod⟩ hsz fun h' ho' hT hz hk => ?_
    refine ⟨_, rfl, wpAny_letOwnedTupleGo_items (s := { s with heap := h' }) ho' fun h'' he' sb => ?_⟩
    have hT2 : h''.get? s.heap.objs.size = some { cls := .type "tuple", data := .seq #[.ref kt, .ref c] } := by
      rw [(sb.2 _ (Nat.ne_of_gt hlt)).trans hT, h0]
      all_goals rfl
    have new : ObjOk X.prog X.w (upd H s.heap.objs.size (.tup [.ref kt, .ref c])) h'' s.heap.objs.size (.tup [.ref kt, .ref c]) :=
      ⟨by show 2 ≤ sizeLine; decide, [.ref kt, .ref c], .cons rfl (.cons rfl .nil), ⟨_, hT2, rfl, _, rfl⟩⟩
    have I1 : Inv X pins σ (upd H s.heap.objs.size (.tup [.ref kt, .ref c])) { s with heap := h'' } :=
      I.turnedNew (t' := s.toks) (ch := [it]) (fun b ob hb e => (sb.2 b (by simpa using hb)).trans (hk b ob (by simpa using hb) e)) hf (Nat.le_refl _) new
    refine ⟨.ref s.heap.objs.size, _, I1, rfl, ⟨_, kt, c, rfl, rfl, I.hok.fresh (Nat.le_refl _), rfl⟩, ⟨_, _, he'⟩, fun b hb => ?_⟩
    have e : b = it := by simpa using hb
    rw [e, upd_ne (Nat.ne_of_lt hlt)]
    exact (hf it (by simp)).1
  done := by
    intro X hP hw hK hc i pins s σ H E I hf st hg
    subst hP hw hK
    obtain ⟨hd, hi⟩ := hg
    obtain ⟨f0, f1, f2, f3, f4, f5⟩ := hf it (by simp)
    obtain ⟨hs, hgd, hx, es', ep', hdt, hes⟩ := cp_frz I.hok hd
    rw [hod] at hdt
    cases hdt
    obtain ⟨ok, ov, he⟩ := st
    have hge : es.size ≤ i := by
      have e := size_of_entries hes
      have l := cpx_len z o
      rcases hi with rfl | hi
      · rw [e]
        exact Nat.zero_le _
      · omega
    exact DT.endI (I.ok.hd hc) he ⟨od, hgd, hx, hod⟩ hge fun h' eb => ⟨rfl, I.turned (t' := s.toks) (fun b ob hb e => eb b ob hb e) f0 f1 f3 f4 f5⟩
  self := fun A i s Q E st h => let ⟨_, _, e⟩ := st; PySem.W.kcp_self e h
def iCp (P : Program) (w : World) (td : TE) : TI := fun σ H R => td σ H fun x H1 => ∃ d od z o, x = .ref d ∧ H1 d = some (.frz od (CpO P w d z o)) ∧ R (Itcp P w d od z o) H1
theorem pi_cp {elts : List Expr} {kk : Nat} {tpos apos cpos : Pos} {e : Expr} {td : TE} (he : PE X e td) (hbase : attributeBase e "items" X.env (eval e X.env) = eval e X.env := by rfl) (hline : (apos.endLine == cpos.line) = true := by rfl) :
    PI X (.Tuple elts kk tpos) (.Call (.Attribute e "items" apos) [] [] cpos) (iCp X.prog X.w td) := by
  refine ⟨fun pins s σ H R I h => ?_⟩
  refine wpAny_Call_method (T := "dict") (id := "dict.items") hbase rfl hline F.plainAttrs_dict F.slot_dict_items F.type_dict_items (thn (he.run pins s σ H _ I h) fun u s1 ⟨x, H1, I1, rx, d, od, z, o, ex, hd, q⟩ => ?_)
  subst ex
  obtain rfl : u = Value.ref d := rx
  obtain ⟨hs, hgd, hx, es, ep, hdt, hes⟩ := cp_frz I1.hok hd
  have raw : DT.Raw s1.heap d es ep := ⟨od, hgd, hx, hdt⟩
  refine ⟨raw.typeIs, fun b e => ?_, ?_⟩
  · cases e
    exact ⟨od, hgd, hx.2.1⟩
  · have I2 : Inv X pins σ H1 { s1 with heap := s1.heap.push { cls := .type "dict_items", data := .fields #[.ref d] } } := I1.kept (t' := s1.toks) fun b ob q => Heap.get?_push_of_some _ q
    have fin : wpAny (model X.prog X.w) X.A (pyIter (.ref s1.heap.objs.size)) (PIE X pins σ (.Tuple elts kk tpos) R) X.xe { s1 with heap := s1.heap.push { cls := .type "dict_items", data := .fields #[.ref d] } } :=
      DT.iterI (d := d) ⟨_, Heap.get?_push_size _ rfl, rfl, rfl⟩ (raw.push _) (pi_one (tk := s1.toks) I2 _ (turn_cp _ hdt) ⟨.none, .none, Heap.get?_push_size _ rfl⟩ q)
    show wpAny _ _ (callWith cpos (.builtin "dict.items") [.ref d] [] []) _ X.xe s1
    exact method_meetsIn F.slot_dict_items F.entry_dict_items rfl (PySem.evalArgs_none ⟨rfl, raw.typeIs, F.args_dict_items_1 _, _, DT.meetsItems (es := es) (ep := ep) hs, ⟨raw, fin⟩⟩)
end
end Wp

set_option Elab.async false
set_option linter.all false
set_option maxRecDepth 100000
set_option maxHeartbeats 2000000
/-! enumerate of a tuple, sum of a tuple, tuple of a dict, extend by a tuple, sorted of at most one tuple -/
namespace Wp
open PySem PySem.Spec PyProof.Rows L2
set_option maxHeartbeats 1000000 in
theorem meets_enum1 {v : Value} {o : Obj} {H : Heap → Prop} (B : Begins v o H) :
    Meets (Builtin.«enumerate.__new__» ⟨[.type "enumerate", v], []⟩) (fun _ R s => H s.heap ∧
      R (.ok (.ret (.ref (s.heap.push o).objs.size))) { s with heap := (s.heap.push o).push { cls := .type "enumerate", data := .fields #[.none, .bool false, .ref s.heap.objs.size, rawInt 0, .none, .none] } }) :=
  .of_wp fun prog w A R s h => by
    obtain ⟨hp, g, d, tk, os⟩ := s
    obtain ⟨h1, h⟩ := h
    have hsub := sub_enumerate
    have q1 : ∀ {A' : Around} {E : Value → Shared → Prop} {Q : Value → Shared → Prop}, Q (.ref hp.objs.size) ⟨hp.push o, g, d, tk, os⟩ → wpAny (model prog w) A' (pyIter v) Q E ⟨hp, g, d, tk, os⟩ :=
      fun q => B.iter prog w _ _ ⟨hp, g, d, tk, os⟩ _ h1 q
    wp_walk using q1
    refine wpAny_stack_any fun st => wpAny_pure ?_
    split
    · rename_i c _ _ _ _ _
      cases (c == Value.type "enumerate")
      · wp_walk using q1
        exact ⟨_, rfl, h⟩
      · wp_walk using q1
        exact ⟨_, rfl, h⟩
    · wp_walk using q1
      exact ⟨_, rfl, h⟩
section
variable {prog : Program} {w : World} {A : Around} {E : Value → Shared → Prop} {s : Shared}
theorem enum1_begins {v : Value} {o : Obj} {H : Heap → Prop} {Q : Value → Shared → Prop} (B : Begins v o H) (h1 : H s.heap)
    (h : ∀ h', IsEnum h' (s.heap.objs.size + 1) s.heap.objs.size 0 .none → h'.get? s.heap.objs.size = some o → h'.objs.size = s.heap.objs.size + 2 → (∀ b o, s.heap.get? b = some o → h'.get? b = some o) → Q (.ref (s.heap.objs.size + 1)) { s with heap := h' }) :
    wpAny (model prog w) A (call (.type "enumerate") [v]) Q E s := by
  refine callType_new F.called_enumerate (by decide) (F.typeCall_enumerate_1 _) (F.newCall_enumerate_1 _) (fun obj => F.args_object_init_2 obj _) F.entry_enumerate_new (meets_enum1 B) ⟨h1, ?_⟩
  have hz : (s.heap.push o).objs.size = s.heap.objs.size + 1 := Heap.size_push ..
  show _ ∧ _
  rw [hz]
  have he : IsEnum ((s.heap.push o).push { cls := .type "enumerate", data := .fields #[.none, .bool false, .ref s.heap.objs.size, rawInt 0, .none, .none] }) (s.heap.objs.size + 1) s.heap.objs.size 0 .none := by
    have := Heap.get?_push_size (s.heap.push o) (o := { cls := .type "enumerate", data := .fields #[.none, .bool false, .ref s.heap.objs.size, rawInt 0, .none, .none] }) rfl
    rw [hz] at this
    exact this
  refine ⟨⟨_, he, rfl⟩, h _ he (Heap.get?_push_of_some _ (Heap.get?_push_size _ B.free)) (by rw [Heap.size_push, hz]) fun b o x => Heap.get?_push_of_some _ (Heap.get?_push_of_some _ x)⟩
end
def IteT (K : PySem.W.Frag) (a : Addr) : It :=
  ⟨fun i H => ∃ (xs : List V) (x : V), SqT K H a xs ∧ xs[i]? = some x, fun i H v H' => ∃ T x, v = .ref T ∧ H T = none ∧ H' = upd H T (.tup [.int (i : Nat), x]) ∧ ∀ xs, SqT K H a xs → xs[i]? = some x, fun i H => ∃ xs : List V, SqT K H a xs ∧ xs.length = i⟩
theorem turn_enumT {P : Program} {w : World} {K : PySem.W.Frag} {elts : List Expr} {kk : Nat} {tpos : Pos} (a e it : Addr) :
    Turn P w K (.Tuple elts kk tpos) (IteT K a) [e, it] e (fun i h => (∃ old, IsEnum h e it ((i : Nat) : Int) old) ∧ h.IsTupleIter it a i ∧ e ≠ it ∧ e ≠ a ∧ it ≠ a) where
  mem := by simp
  obj := fun i h st b hb => by
    obtain ⟨⟨old, he⟩, ⟨o, ho, hc, hd⟩, _⟩ := st
    have e' : b = e ∨ b = it := by simpa using hb
    rcases e' with z | z
    · rw [z]
      exact ⟨_, he, fun v q => nomatch q⟩
    · rw [z]
      exact ⟨o, ho, fun v q => by rw [hd] at q; cases q⟩
  keep := fun i h h' st k => let ⟨⟨old, he⟩, hi, hne⟩ := st; ⟨⟨old, k e (by simp) _ he⟩, hi.at fun o q => k it (by simp) o q, hne⟩
  item := by
    intro X hP hw hK hc i pins s σ H E I hf st hg
    subst hP hw hK
    obtain ⟨⟨old, he⟩, hit, hne, hea, hia⟩ := st
    obtain ⟨xs, x, hq, hx⟩ := hg
    obtain ⟨its, rv, p, hz⟩ := I.tuple hq
    obtain ⟨u, hu, ru⟩ := rv.get hx
    have hel : e < s.heap.objs.size := Heap.lt_size he
    have hil : it < s.heap.objs.size := by obtain ⟨_, q, _⟩ := hit; exact Heap.lt_size q
    have hilt : i < its.toArray.size := by
      rw [List.size_toArray]
      exact (List.getElem?_eq_some_iff.mp hu).1
    refine wpAny_pyNext_enum_itemD (Draws.tuple (A := X.A.in1) (I.ok.hd hc) it a hia.symm its.toArray) he ⟨hit, p⟩ hilt hne (by simp [hne, hea]) fun y h' tk hy ho hit' hT hsz hk => ?_
    obtain rfl : y = u := by
      have e1 : its.toArray[i]? = some y := hy
      rw [List.getElem?_toArray, hu] at e1
      exact (Option.some.inj e1).symm
    refine ⟨_, rfl, wpAny_letOwnedTupleGo_enum (s := { s with heap := h', toks := tk + 1 }) ho fun h'' he' sb => ?_⟩
    have hT2 : h''.get? s.heap.objs.size = some { cls := .type "tuple", data := .seq #[.int i tk, y] } := (sb.2 _ (Nat.ne_of_gt hel)).trans hT
    have new : ObjOk X.prog X.w (upd H s.heap.objs.size (.tup [.int (i : Nat), x])) h'' s.heap.objs.size (.tup [.int (i : Nat), x]) :=
      ⟨by show 2 ≤ sizeLine; decide, [.int i tk, y], .cons ⟨_, rfl⟩ (.cons ru .nil), ⟨_, hT2, rfl, _, rfl⟩⟩
    have I1 : Inv X pins σ (upd H s.heap.objs.size (.tup [.int (i : Nat), x])) { s with heap := h'', toks := tk + 1 } :=
      I.turnedNew (ch := [e, it]) (fun b ob hb q => (sb.2 b (fun z => hb (by simp [z]))).trans (hk b ob (fun z => hb (by simp [z])) (fun z => hb (by simp [z])) q)) hf (Nat.le_refl _) new
    refine ⟨.ref s.heap.objs.size, _, I1, rfl, ⟨_, x, rfl, I.hok.fresh (Nat.le_refl _), rfl, fun ys hy => ?_⟩, ⟨⟨y, ?_⟩, hit'.1.at fun o q => (sb.2 it (Ne.symm hne)).trans q, hne, hea, hia⟩, fun b hb => ?_⟩
    · rw [I.tuple_inj hy hq]
      exact hx
    · have e1 : ((i + 1 : Nat) : Int) = (i : Int) + 1 := by omega
      rw [e1]
      exact he'
    · have hb' : b < s.heap.objs.size := by
        have e' : b = e ∨ b = it := by simpa using hb
        rcases e' with z | z
        · rw [z]
          exact hel
        · rw [z]
          exact hil
      rw [upd_ne (Nat.ne_of_lt hb')]
      exact (hf b hb).1
  done := by
    intro X hP hw hK hc i pins s σ H E I hf st hg
    subst hP hw hK
    obtain ⟨⟨old, he⟩, hit, hne, hea, hia⟩ := st
    obtain ⟨xs, hq, hx⟩ := hg
    obtain ⟨its, rv, p, hz⟩ := I.tuple hq
    obtain ⟨f0, f1, f2, f3, f4, f5⟩ := hf it (by simp)
    have hl := rv.length
    refine wpAny_pyNext_enum_endD (Draws.tuple (A := X.A.in1) (I.ok.hd hc) it a hia.symm its.toArray) he ⟨?_, p⟩ fun h' eb => ⟨rfl, I.turned (t' := s.toks) (fun b o hb q => eb b o hb q) f0 f1 f3 f4 f5⟩
    rw [List.size_toArray, ← hl, hx]
    exact hit
  self := fun A i s Q E st h => let ⟨⟨_, he⟩, _⟩ := st; wpAny_pyIter_enum he h
def iEnumT (K : PySem.W.Frag) (ta : TA) : TI := fun σ H R => ta σ H fun vs H1 => ∃ a xs, vs = [.ref a] ∧ SqT K H1 a xs ∧ R (IteT K a) H1
theorem pi_enumT {X : Cx} {e : Expr} {ta : TA} {p pos tpos : Pos} {elts : List Expr} {kk : Nat} (hg : Gl X "enumerate") (hm : X.mg "enumerate" = none) (ha : PA X [e] ta) (hs : starEach [e] X.env = [(false, eval e X.env)] := by rfl) :
    PI X (.Tuple elts kk tpos) (.Call (.Name "enumerate" p) [e] [] pos) (iEnumT X.K ta) := by
  refine ⟨fun pins s σ H R I h => ?_⟩
  refine Call_ (ld_blt I hg hm boot_enumerate (PyProof.Rows.callWith_type1 (thn (ha.run pos pins s σ H _ I h) fun us s1 ⟨vs, H1, I1, r1, q1⟩ => ?_) hs rfl))
  obtain ⟨a, xs, ex, hq, q⟩ := q1
  subst ex
  cases r1 with
  | cons r rr =>
    cases rr
    cases r
    obtain ⟨its, rv, p', hz⟩ := I1.tuple hq
    have hlt : a < s1.heap.objs.size := p'.lt
    refine enum1_begins (begins_tuple a its.toArray) p' fun h' he hit hsz hk => wpAny_pyIter_enum he ?_
    have I2 : Inv X pins σ H1 { s1 with heap := h' } := I1.kept (t' := s1.toks) hk
    refine ⟨s1.heap.objs.size + 1, [s1.heap.objs.size + 1, s1.heap.objs.size], _, _, H1, rfl, I2, turn_enumT a (s1.heap.objs.size + 1) s1.heap.objs.size, ⟨⟨.none, he⟩, ⟨_, hit, rfl, rfl⟩, Nat.succ_ne_self _, Nat.ne_of_gt (Nat.lt_succ_of_lt hlt), Nat.ne_of_gt hlt⟩, fun b hb => ?_, q⟩
    have e' : b = s1.heap.objs.size + 1 ∨ b = s1.heap.objs.size := by simpa using hb
    have hle : s1.heap.objs.size ≤ b := by
      rcases e' with z | z
      · rw [z]
        exact Nat.le_add_right _ _
      · rw [z]
        exact Nat.le_refl _
    exact I1.fpOk hle (I1.hok.fresh hle)
/-- either way of walking -/
theorem pi_or {X : Cx} {tg e : Expr} {t u : TI} (h : PI X tg e t) (h' : PI X tg e u) : PI X tg e (fun σ H R => t σ H R ∨ u σ H R) :=
  ⟨fun pins s σ H R I q => q.elim (h.run pins s σ H R I) (h'.run pins s σ H R I)⟩
theorem pe_or' {X : Cx} {e : Expr} {t u : TE} (h : PE X e t) (h' : PE X e u) : PE X e (fun σ H Q => t σ H Q ∨ u σ H Q) :=
  ⟨fun pins s σ H Q I q => q.elim (h.run pins s σ H Q I) (h'.run pins s σ H Q I)⟩
theorem ps_or' {X : Cx} {st : Stmt} {t u : TS} (h : PS X st t) (h' : PS X st u) : PS X st (fun D σ H => t D σ H ∨ u D σ H) :=
  ⟨fun pins s σ H D I q => q.elim (h.run pins s σ H D I) (h'.run pins s σ H D I)⟩
def tNo : TE := fun _ _ _ => False
/-- an expression that is not reached -/
theorem pe_no {X : Cx} {e : Expr} : PE X e tNo := ⟨fun _ _ _ _ _ _ q => q.elim⟩
set_option maxRecDepth 8000 in
set_option maxHeartbeats 1000000 in
open AutoSeq1 in
theorem ext_tup (l : Addr) (items : Array Value) (n : Nat) (b : Addr) (items2 : Array Value) (n2 : Nat) (dct : Option Addr) (sl : Array (Option Value)) (hs0 : ¬(!items.isEmpty && Builtin.List.listTooLong (items.size + items2.size)) = true) (hs1 : items.size ≤ sizeLine) (hs2 : items.size + items2.size ≤ sizeLine + 1) :
    Meets (Builtin.«list.extend» ⟨[.ref l, .ref b], []⟩) (fun _ R s => s.heap.get? l = some { cls := .type "list", dict := none, data := .seq items n, slots := #[] } ∧ s.heap.get? b = some { cls := .type "tuple", dict := dct, data := .seq items2 n2, slots := sl } ∧ R (.ok (.ret Value.none)) { s with heap := s.heap.update l (Obj.mapSeq fun x => x ++ items2), toks := s.toks }) :=
  .of_wp fun prog w A R s h => by
    obtain ⟨hp, g, d, tk, os⟩ := s
    obtain ⟨hl, hb, h⟩ := h
    have f1 := idx_int
    have f2 := AutoSeq1.sub_tuple_tuple
    have f3 := AutoSeq1.sub_list_list
    have f4 := AutoSeq1.sub_tuple_list
    have f5 := AutoSeq1.sub_list_tuple
    have hz' : (items ++ items2).size ≤ sizeLine + 1 := by rw [Array.size_append]; exact hs2
    wp_walk using (wpAny_updateSeq hl rfl (hz := hs1) (_hz' := hz')), wpAny_loadPart' hl, wpAny_loadPart' hb
    exact ⟨_, rfl, h⟩
section
variable {X : Cx}
/-- sum(t), t a tuple of ints -/
def rSumT (K : PySem.W.Frag) : List V → Hp → VK → Prop := fun vs H Q => ∃ (a : Addr) (ns : List Int), vs = [V.ref a] ∧ SqT K H a (ns.map V.int) ∧ Q (.int ns.sum) H
theorem cr_sumT (hc : X.calm = true) : CallR X (.builtin "sum") (rSumT X.K) := by
  intro pins s σ H vs us Q I r h
  obtain ⟨a, ns, rfl, hs, q⟩ := h
  obtain ⟨its, rv, hl, _⟩ := I.tuple hs
  rw [Vals.ref1 r]
  obtain ⟨xs, e⟩ := rv.ints.allInts.items
  have hn : numsOf (intItems xs).toList = ns := by rw [← e]; exact rv.ints.numsOf
  rw [nums_intItems] at hn
  have hT : s.heap.IsTuple a (intItems xs) := by rw [← e]; exact hl
  have hlt : a < s.heap.objs.size := hl.lt
  refine call_sum_walkG (wpAny_pyIter_tuple hT ?_)
  refine ⟨_, _, _, _, _, _, numAt xs, rfl, Walks.tuple (A := X.A.in1) (I.ok.hd hc) _ a (Nat.ne_of_lt hlt) (intItems xs), ⟨⟨_, Heap.get?_push_size _ rfl, rfl, rfl⟩, hT.push _⟩, (fun b hb => ?_), (fun _ _ => intItems_at), fun h' tk t' hk => ?_⟩
  · show b < (s.heap.push _).objs.size
    rw [Heap.size_push]
    rcases List.mem_cons.mp hb with rfl | hb
    · exact Nat.lt_succ_self _
    · obtain rfl := List.mem_singleton.mp hb
      exact Nat.lt_succ_of_lt hlt
  · have hk' : ∀ b o, s.heap.get? b = some o → h'.get? b = some o := fun b o e => hk b o (fun hm => by
      have z := List.mem_singleton.mp hm
      rw [z] at e
      exact absurd (Heap.lt_size e) (Nat.lt_irrefl _)) (Heap.get?_push_of_some _ e)
    refine ⟨.int ns.sum, H, I.kept hk', ⟨t', ?_⟩, q⟩
    show Value.int (preSum (numAt xs) (intItems xs).size) t' = _
    rw [show (intItems xs).size = xs.size by simp [intItems], preSum_eq, List.take_of_length_le (by simp), hn]
/-- xs.extend(t), t a tuple -/
def rExtT (K : PySem.W.Frag) : V → List V → Hp → VK → Prop := fun x vs H Q => ∃ l b xs zs, x = .ref l ∧ vs = [.ref b] ∧ H l = some (.lst xs) ∧ SqT K H b zs ∧ xs.length + zs.length ≤ sizeLine ∧ Q .non (upd H l (.lst (xs ++ zs)))
theorem mt_extT : MtM X "list.extend" (rExtT X.K) := by
  intro pins s σ H x vs v us Q I rx rv h
  obtain ⟨l, b, xs, zs, rfl, rfl, hH, hB, hz, q⟩ := h
  cases rx
  obtain ⟨u, rfl, ru⟩ := rv.one
  cases ru
  obtain ⟨z, its, n, r, hl, e⟩ := I.lstM hH
  obtain ⟨its2, r2, ⟨⟨c2, d2, dt2, s2⟩, e2, hc2, n2, hd2⟩, hz2⟩ := I.tuple hB
  have hl2 := r2.length
  have hsz : its.toArray.size + its2.toArray.size ≤ sizeLine := by rw [List.size_toArray, List.size_toArray]; omega
  have hlong : ¬ (!its.toArray.isEmpty && Builtin.List.listTooLong (its.toArray.size + its2.toArray.size)) = true := by
    rw [notLongL hsz, Bool.and_false]
    exact Bool.false_ne_true
  replace hc2 : c2 = .type "tuple" := hc2
  replace hd2 : dt2 = .seq its2.toArray n2 := hd2
  subst hc2 hd2
  refine call_meets F.slot_list_extend ⟨_, e, rfl⟩ F.entry_list_extend (F.args_list_extend_2 _ _)
    (ext_tup l its.toArray n b its2.toArray n2 d2 s2 hlong (by rw [List.size_toArray]; omega) (by omega)) ⟨e, e2, ?_⟩
  refine ⟨.non, _, I.lset (its' := its ++ its2) hH e (by simp) (r.append r2) ?_, rfl, q⟩
  rw [List.length_append]
  omega
/-- tuple(d): its keys -/
def rTupD : List V → Hp → VK → Prop := fun xs H Q => ∃ (a : Addr) (kvs : List (Key × V)), xs = [.ref a] ∧ Rd H a (.dK kvs) ∧ ∀ p, H p = none → Q (.ref p) (upd H p (.tup (kvs.map fun kv => kV kv.1)))
/-- sorted(l), at most one item, a tuple (text, int, int, int) -/
def rSort1 (K : PySem.W.Frag) : List V → Hp → VK → Prop := fun vs H Q => ∃ (a : Addr) (xs : List V), vs = [V.ref a] ∧ SqL K H a xs ∧ (xs = [] ∨ ∃ (t : Addr) (z : Str) (i j k : Int), xs = [.ref t] ∧ H t = some (.tup [.str z, .int i, .int j, .int k])) ∧ ∀ p, H p = none → Q (.ref p) (upd H p (.lst xs))
theorem cr_sort1 : CallR X (.builtin "sorted") (rSort1 X.K) := by
  intro pins s σ H vs us Q I r h
  obtain ⟨a, xs, rfl, ha, hx, q⟩ := h
  rw [Vals.ref1 r]
  obtain ⟨its, rv, pl, hz⟩ := I.list ha
  have one : ∀ fs, PyProof.Rows.TupsOf s.heap (fun i => decide (i = 0)) its fs → (∀ v, v ∈ its → ∃ l, PyProof.Rows.G.tupKeyC s.heap (fun i => decide (i = 0)) v = some l) → its.length ≤ 1 → wpAny (model X.prog X.w) X.A (call (.builtin "sorted") [.ref a]) (EP X pins σ Q) X.xe s := by
    intro fs ht hk h1
    refine PyProof.Rows.G.sorted_tups pl.isList ht hk (by rw [sizeLine_eq]; omega) fun st' hp _ _ => ?_
    obtain ⟨e, he⟩ := sortedAll_at s.heap its ((arrOf st').map (·.2))
    have h2 : ((arrOf st').map (·.2)).toList = its := by
      have p : (arrOf st').toList.Perm (its.zip its) := by
        have := Array.perm_iff_toList_perm.mp hp
        rwa [pairsOf_toList] at this
      rw [Array.toList_map]
      match its, h1, p with
      | [], _, p => rw [List.Perm.eq_nil p]; rfl
      | [v], _, p => rw [List.perm_singleton.mp p]; rfl
    have hn : H (s.heap.objs.size + 1) = none := I.hok.fresh (Nat.le_succ _)
    refine ⟨.ref (s.heap.objs.size + 1), _, I.laid (t' := s.toks) (fun b u q => sortedAll_old q) (Nat.le_succ _) (show ObjOk X.prog X.w _ _ _ (.lst xs) from ⟨by rw [rv.length, sizeLine_eq]; omega, ((arrOf st').map (·.2)).toList, e, by rw [h2]; exact rv, by rw [Array.toArray_toList]; exact he⟩), rfl, q _ hn⟩
  rcases hx with rfl | ⟨t, z, i, j, k, rfl, ht⟩
  · cases rv
    exact one [] .nil (fun v hv => nomatch hv) (Nat.zero_le _)
  · cases rv with
    | cons r1 r2 =>
      cases r2
      cases r1
      obtain ⟨_, ys, ry, o, ho, hc, n, hd⟩ := (show ObjOk X.prog X.w H s.heap t (.tup [.str z, .int i, .int j, .int k]) from I.hok t _ ht)
      match ys, ry with
      | [_, _, _, _], .cons ⟨t1, rfl⟩ (.cons ⟨t2, rfl⟩ (.cons ⟨t3, rfl⟩ (.cons ⟨t4, rfl⟩ .nil))) =>
        refine one [.str z t1] (.cons ⟨t, o, _, n, rfl, ho, hc, hd, rfl, (fun h0 => by simp at h0), fun _ => ⟨z, t1, rfl⟩⟩ .nil) (fun v hv => ?_) (Nat.le_refl _)
        obtain rfl := List.mem_singleton.mp hv
        refine ⟨[.inr z.cps.toList, .inl i, .inl j, .inl k], ?_⟩
        simp [PyProof.Rows.G.tupKeyC, PyProof.Rows.G.isTupObj, ho, hc, PyProof.Rows.tupKey, hd, PyProof.Rows.tupItems]
end
section
open PySem.W
variable {prog : Program} {w : World} {A : Around} {E : Value → Shared → Prop} {s : Shared} {T : String} {r d : Addr} {n : Nat} {P : Nat → Value → Prop} {OK : Heap → Prop}
theorem collect_kdl {R : List Value → Shared → Prop} (K : KdlSrc prog w T r d n P OK) (hh : A.handled = none) (hok : OK s.heap) (hn : n ≤ sizeLine)
    (h : ∀ (h' : Heap) (tk : Nat) (acc : Array Value), (∀ b o, s.heap.get? b = some o → h'.get? b = some o) → ItemsOf P acc n → R acc.toList { s with heap := h', toks := tk }) :
    wpAny (model prog w) A (collect (.ref r)) R E s := by
  obtain ⟨hr, hd⟩ := K.there _ hok
  unfold collect
  refine wpAny_bind (wpAny_runValue (codeAny_builtin entry_proto_collect' ?_))
  rw [Around.under_plainId PySem.F.plain_proto_collect _]
  show wpAny _ A.in1 (newList [] >>= fun l => again (.builtin "list.__iadd__" ⟨[l, .ref r], []⟩)) _ _ s
  refine wpAny_bind (wpAny_newObj_type ?_)
  refine wpAny_pure ⟨plainId_quiet PySem.F.plain_list_iadd _, codeAny_builtin entry_list_iadd' ?_⟩
  rw [Around.under_plainId PySem.F.plain_list_iadd _]
  have hS₁ : (s.heap.push { cls := .type "list", data := .seq ([] : List Value).toArray }).get? s.heap.objs.size = some { cls := .type "list", data := .seq #[] } := Heap.get?_push_size _ rfl
  show wpAny _ A.in1 (Builtin.List.listExtendWith (.ref s.heap.objs.size) (.ref r) (.ref s.heap.objs.size)) _ _ _
  have key := kdl_extend (A := A) (s := { s with heap := s.heap.push { cls := .type "list", data := .seq ([] : List Value).toArray } })
    (R := fun (q : Result) (s' : Shared) => ∃ (h' : Heap) (tk : Nat) (acc' : Array Value) (c' : Nat), q = .ok (.ret (.ref s.heap.objs.size)) ∧ s' = { s with heap := h', toks := tk } ∧
      (∀ b o, s.heap.get? b = some o → h'.get? b = some o) ∧ h'.get? s.heap.objs.size = some { cls := .type "list", dict := none, data := .seq acc' c', slots := #[] } ∧ ItemsOf P acc' n)
    K hh (K.keep _ _ hok fun b _ o e => Heap.get?_push_of_some _ e) s.heap.objs.size (Nat.ne_of_gt hr) (Nat.ne_of_gt hd) (.ref s.heap.objs.size) 0 hS₁
    (fun h' tk acc' c' hk hS' hacc => ⟨h', tk, acc', c', rfl, rfl, fun b o e => hk b o (Nat.ne_of_lt (Heap.lt_size e)) (Heap.get?_push_of_some _ e), hS', hacc⟩) hn
  refine wpAny_mono key (fun fin s' x => ?_) fun e s' x => ?_
  · cases fin with
    | done f =>
      obtain ⟨h', tk, acc', c', e, rfl, hk, hS', hacc⟩ := x
      cases e
      show wpAny _ A (load s.heap.objs.size >>= _) _ _ _
      exact wpAny_bind (wpAny_load hS' (wpAny_pure (h h' tk acc' hk hacc)))
    | again c₁ =>
      refine ⟨x.1, codeAny_mono x.2 fun q s₂ y => ?_⟩
      obtain ⟨h', tk, acc', c', rfl, rfl, hk, hS', hacc⟩ := y
      show wpAny _ A (load s.heap.objs.size >>= _) _ _ _
      exact wpAny_bind (wpAny_load hS' (wpAny_pure (h h' tk acc' hk hacc)))
  · obtain ⟨_, _, _, _, e', _⟩ := x
    cases e'
theorem code_tup_kdl {Q₁ : Value → Shared → Prop} (K : KdlSrc prog w T r d n P OK) (hh : A.handled = none) (hok : OK s.heap) (hn : n ≤ sizeLine)
    (h : ∀ (h' : Heap) (tk : Nat) (acc : Array Value), (∀ b o, s.heap.get? b = some o → h'.get? b = some o) → ItemsOf P acc n → Q₁ (.ref h'.objs.size) { s with heap := h'.push { cls := .type "tuple", data := .seq acc }, toks := tk }) :
    codeAny (model prog w) A (.call (.builtin "tuple.__new__") ⟨[.type "tuple", .ref r], []⟩) (wants Q₁ E) s := by
  refine codeAny_of_tree ?_
  show wpAny _ A.in1 (do checkBuiltinCall "tuple.__new__" ⟨[.type "tuple", .ref r], []⟩; again (.builtin "tuple.__new__" ⟨[.type "tuple", .ref r], []⟩)) _ _ s
  refine wpAny_bind (wpAny_of_eq (F.newCall_tuple_1 _) (wpAny_pure ⟨plainId_quiet F.plain_tuple_new _, codeAny_builtin F.entry_tuple_new ?_⟩))
  rw [Around.under_plainId F.plain_tuple_new _]
  have hsub := sub_tuple_self
  have hinit := init_tuple_lookup
  have hmh := madeHere_tuple
  have hTI := K.type s hok
  have hno := K.notTuple
  have hc : ∀ {R : List Value → Shared → Prop} {A' : Around} {E' : Value → Shared → Prop}, A'.handled = none → (∀ (h' : Heap) (tk : Nat) (acc : Array Value), (∀ b o, s.heap.get? b = some o → h'.get? b = some o) → ItemsOf P acc n → R acc.toList { s with heap := h', toks := tk }) → wpAny (model prog w) A' (collect (.ref r)) R E' s :=
    fun h1 h2 => collect_kdl K h1 hok hn h2
  wp_walk using wpAny_typeOf hTI, hc
  all_goals first
    | exact hh
    | (intro h' tk acc hk hacc
       refine wpAny_bind (wpAny_pure ?_)
       show wpAny _ _ (Builtin.Tuple.tupleExact acc.toList.toArray >>= fun v => ret v) _ _ _
       unfold Builtin.Tuple.tupleExact
       refine wpAny_bind (wpAny_newObj_type ?_ (by show acc.toList.toArray.size ≤ sizeLine; simp only [Array.toArray_toList]; rw [hacc.1]; exact hn))
       refine wpAny_pure ?_
       have e : acc.toList.toArray = acc := by simp
       rw [e]
       exact h h' tk acc hk hacc)
end
section
variable {X : Cx}
theorem cr_tupD (hcalm : X.calm = true) : CallR X (.type "tuple") rTupD := by
  intro pins s σ H xs us Q I r q
  obtain ⟨a, kvs, ex, hd, q⟩ := q
  subst ex
  obtain ⟨u, eu, rx⟩ := vals1 r
  subst eu
  cases rx
  obtain ⟨z, lo, vs, rel, dd⟩ := dk_rd I.hok hd
  obtain ⟨ep, hat⟩ := dd.dictAt
  have ek : (kvs.map fun kv => kV kv.1) = vs.map fun p => kV p.1 := by
    have e := congrArg (List.map kV) rel.keys
    rw [List.map_map, List.map_map] at e
    exact e
  refine callType_codes (Q₁ := fun obj s₁ => s₁.TypeIs obj "tuple" ∧ EP X pins σ Q obj s₁) F.called_tuple (F.typeCall_tuple_1 _) F.entry_object_init
    (code_tup_kdl (PySem.W.kdl_dict (knd := mixKind X.prog X.w) (kvs := vs) (ep := ep) lo) (I.ok.hd hcalm) hat (by rw [← rel.length]; exact z) fun h' tk acc hk hacc => ⟨⟨_, Heap.get?_push_size _ rfl, rfl⟩, ?_⟩) fun obj s₁ h₁ => ?_
  · have hv : Vals (vs.map fun p => kV p.1) acc.toList := keys_at (by rw [Array.length_toList]; exact hacc.1) fun j v e => hacc.2 j v (by rw [← Array.getElem?_toList]; exact e)
    have I1 : Inv X pins σ H { s with heap := h', toks := tk } := I.kept hk
    have I2 : Inv X pins σ (upd H h'.objs.size (.tup (kvs.map fun kv => kV kv.1))) { s with heap := h'.push { cls := .type "tuple", data := .seq acc }, toks := tk } :=
      I1.laid (t' := tk) (fun b o e => Heap.get?_push_of_some _ e) (Nat.le_refl _) (show ObjOk X.prog X.w _ _ _ (.tup (kvs.map fun kv => kV kv.1)) from ⟨by rw [List.length_map]; exact z, acc.toList, by rw [ek]; exact hv, by rw [Array.toArray_toList]; exact IsTup.new _ _⟩)
    exact ⟨.ref h'.objs.size, _, I2, rfl, q _ (I1.hok.fresh (Nat.le_refl _))⟩
  · exact ⟨h₁.1, F.args_object_init_2 obj _, object_init_meets F.called_tuple.init.lookup F.called_tuple.made (by decide) X.prog X.w X.A.in1 _ s₁ ⟨h₁.1, rfl, h₁.2⟩⟩
end
end Wp

set_option Elab.async false
set_option linter.all false
set_option maxRecDepth 100000
set_option maxHeartbeats 2000000
/-! frames; comprehensions by Walk; fields and methods in short -/
namespace Wp
open PySem PySem.Spec PyProof.Rows L2
/-- all but what stands at D -/
def But (D : Addr) (H H' : Hp) : Prop := ∀ p o, H p = some o → p ≠ D → H' p = some o
theorem But.refl (D : Addr) (H : Hp) : But D H H := fun _ _ h _ => h
theorem But.trans {D : Addr} {H H1 H2 : Hp} (a : But D H H1) (b : But D H1 H2) : But D H H2 := fun p o h n => b p o (a p o h n) n
theorem But.of {D : Addr} {H H' : Hp} (s : Same H H') : But D H H' := fun p o h _ => s p o h
theorem But.upd (D : Addr) (H : Hp) (o : HO) : But D H (upd H D o) := fun p q h n => by rw [upd_ne n]; exact h
theorem But.same {D : Addr} {H H' : Hp} (b : But D H H') (n : H D = none) : Same H H' := fun p o h => b p o h (ne_of_none h n)
theorem same_new {H : Hp} {p : Addr} {o : HO} (n : H p = none) : Same H (upd H p o) := fun q u h => by rw [upd_ne (ne_of_none h n)]; exact h
theorem Same.seqT {K : PySem.W.Frag} {H H' : Hp} {a : Addr} {xs : List V} (e : Same H H') (h : SqT K H a xs) : SqT K H' a xs := by
  rcases h with (h | ⟨o, h⟩) | h
  · exact .inl (.inl (e _ _ h))
  · exact .inl (.inr ⟨o, e _ _ h⟩)
  · exact .inr h
theorem But.seqT {K : PySem.W.Frag} {D : Addr} {H H' : Hp} {a : Addr} {xs : List V} (e : But D H H') (hD : ∃ o, H D = some o ∧ (∀ ys, o ≠ .tup ys) ∧ ∀ q u, o ≠ .frz q u) (h : SqT K H a xs) : SqT K H' a xs := by
  obtain ⟨o0, h0, h1, h2⟩ := hD
  rcases h with (h | ⟨o, h⟩) | h
  · exact .inl (.inl (e _ _ h (ne_of h h0 fun z => h1 _ z.symm)))
  · exact .inl (.inr ⟨o, e _ _ h (ne_of h h0 fun z => h2 _ _ z.symm)⟩)
  · exact .inr h
theorem zip_fun (ks : List Str) (ys : List V) (hl : ys.length = ks.length) (nd : ks.Nodup) : ∃ gv : Str → V, (ks.zip ys).map (fun p => ((Sum.inr p.1 : Key), p.2)) = ks.map (fun z => (Sum.inr z, gv z)) ∧ ∀ (i : Nat) (z : Str), ks[i]? = some z → ys[i]? = some (gv z) := by
  have key : ∀ (i : Nat) (z : Str), ks[i]? = some z → ys[i]? = some (ys.getD (ks.idxOf z) .non) := by
    intro i z e
    obtain ⟨hi, e1⟩ := List.getElem?_eq_some_iff.mp e
    have : ks.idxOf z = i := by
      have h1 : ks.idxOf z < ks.length := List.idxOf_lt_length_iff.mpr (e1 ▸ List.getElem_mem hi)
      have h2 : ks[ks.idxOf z] = z := List.getElem_idxOf h1
      rcases Nat.lt_trichotomy (ks.idxOf z) i with q | q | q
      · exact (List.pairwise_iff_getElem.mp nd _ _ h1 hi q (h2.trans e1.symm)).elim
      · exact q
      · exact (List.pairwise_iff_getElem.mp nd _ _ hi h1 q (e1.trans h2.symm)).elim
    rw [this]
    have h3 : i < ys.length := by omega
    simp [List.getD, h3]
  refine ⟨fun z => ys.getD (ks.idxOf z) .non, ?_, key⟩
  refine List.ext_getElem? fun i => ?_
  rw [List.getElem?_map, List.getElem?_map]
  cases e : ks[i]? with
  | none =>
    have h1 := List.getElem?_eq_none_iff.mp e
    rw [List.getElem?_eq_none (by simp; omega)]
    rfl
  | some z =>
    have h2 := key i z e
    have h3 : (ks.zip ys)[i]? = some (z, ys.getD (ks.idxOf z) .non) := by
      rw [List.getElem?_zip_eq_some]
      exact ⟨e, h2⟩
    rw [h3]
    rfl
/-- what such a table holds -/
theorem valK_map {ns : List Str} {g : Str → V} (z : Str) : valV (ns.map fun n => ((Sum.inr n : Key), g n)) (.inr z) = if z ∈ ns then some (g z) else none := by
  induction ns with
  | nil => rfl
  | cons n r ih =>
    rw [List.map_cons]
    by_cases h : n = z
    · subst h
      rw [valV_pos rfl, if_pos List.mem_cons_self]
    · rw [valV_neg (p := ((Sum.inr n : Key), g n)) (by intro e; exact h (Sum.inr.inj e)), ih]
      by_cases q : z ∈ r
      · rw [if_pos q, if_pos (List.mem_cons_of_mem _ q)]
      · rw [if_neg q, if_neg (fun m => by rcases List.mem_cons.mp m with e | e; exact h e.symm; exact q e)]
section
variable {J : It} {n : Nat} {G : Hp → Prop} {Y : Nat → Hp → V → Hp → Prop}
/-- a comprehension whose turns change nothing that stands: R tells each item -/
theorem lcR (w : Walk J n G Y) {g : TG} {te : TE} {vs : List Nat} {σ : L2.St} {H1 : Hp} {Q : VK} (R : Addr → Hp → Nat → V → Prop) (mono : ∀ {D H H' i y}, But D H H' → (∃ a, H D = some (.lst a)) → R D H i y → R D H' i y) (hG : ∀ H, Same H1 H → G H) (hY : ∀ i H x H', Y i H x H' → H' = H) (hn : n < sizeLine)
    (hs : ∀ D acc i x H, i < n → H1 D = none → H D = some (.lst acc) → Same H1 H → Y i H x H → ∀ k : V → Hp → Prop, (∀ y H4, Same H H4 → R D H4 i y → k y H4) → g x (wipe σ vs) H fun σ2 H2 => wipe σ2 vs = wipe σ vs ∧ te σ2 H2 k)
    (hd : ∀ D H' ys, H1 D = none → Same H1 H' → H' D = some (.lst ys) → ys.length = n → (∀ i y, ys[i]? = some y → R D H' i y) → Q (.ref D) H') (D : Addr) (hD : H1 D = none) :
    ∃ W : Nat → Nat → Hp → Prop, (∃ m, W 0 m (upd H1 D (.lst []))) ∧ ∀ i m H, W i m H →
      (J.stop i H ∧ Q (.ref D) H) ∨ (J.go i H ∧ ∃ Nx : Hp → Prop, (∀ H', Nx H' → ∃ m', m' < m ∧ W (i + 1) m' H') ∧ ∀ x H', J.yld i H x H' → g x (wipe σ vs) H' fun σ2 H2 => wipe σ2 vs = wipe σ vs ∧ tYes σ2 H2 fun b H3 =>
        if b = true then te σ2 H3 fun y H4 => ∃ acc, H4 D = some (.lst acc) ∧ acc.length < sizeLine ∧ Nx (upd H4 D (.lst (acc ++ [y]))) else Nx H3) := by
  refine ⟨fun i m H => m = n - i ∧ i ≤ n ∧ Same H1 H ∧ ∃ ys, H D = some (.lst ys) ∧ ys.length = i ∧ ∀ j y, ys[j]? = some y → R D H j y, ⟨n, by simp, Nat.zero_le _, same_new hD, [], upd_same, rfl, fun j y e => by simp at e⟩, ?_⟩
  rintro i m H ⟨rfl, hi, sm, ys, hys, hl, hR⟩
  by_cases hlt : i < n
  · refine .inr ⟨w.goes i H hlt (hG H sm), fun H' => i + 1 ≤ n ∧ Same H1 H' ∧ ∃ ys, H' D = some (.lst ys) ∧ ys.length = i + 1 ∧ ∀ j y, ys[j]? = some y → R D H' j y, fun H' p => ⟨n - (i + 1), by omega, rfl, p⟩, fun x H' y => ?_⟩
    have y1 := w.yields i H x H' hlt (hG H sm) y
    obtain rfl := hY i H x H' y1
    refine hs D ys i x H' hlt hD hys sm y1 _ fun y H4 s4 r4 => ⟨ys, s4 D _ hys, by omega, hlt, fun p o h => ?_, ys ++ [y], upd_same, by simp [hl], fun j z e => ?_⟩
    · rw [upd_ne (ne_of_none h hD)]
      exact s4 p o (sm p o h)
    · refine mono (But.upd D H4 _) ⟨_, s4 D _ hys⟩ ?_
      by_cases hj : j < ys.length
      · rw [List.getElem?_append_left hj] at e
        exact mono (But.of s4) ⟨_, hys⟩ (hR j z e)
      · rw [List.getElem?_append_right (by omega)] at e
        have hj0 : j - ys.length = 0 := by
          by_cases q : j - ys.length = 0
          · exact q
          · rw [List.getElem?_eq_none (by simp; omega)] at e
            cases e
        rw [hj0] at e
        cases e
        obtain rfl : j = i := by omega
        exact r4
  · have e : i = n := by omega
    subst e
    exact .inl ⟨w.stops H (hG H sm), hd D H ys hD sm hys hl hR⟩
/-- .. each item a plain value -/
theorem lcP (w : Walk J n G Y) {g : TG} {te : TE} {vs : List Nat} {σ : L2.St} {H1 : Hp} {Q : VK} (zs : List V) (hl : zs.length = n) (hG : ∀ H, Same H1 H → G H) (hY : ∀ i H x H', Y i H x H' → H' = H) (hn : n < sizeLine)
    (hs : ∀ i x z H, zs[i]? = some z → Same H1 H → Y i H x H → ∀ k : V → Hp → Prop, (∀ H4, Same H H4 → k z H4) → g x (wipe σ vs) H fun σ2 H2 => wipe σ2 vs = wipe σ vs ∧ te σ2 H2 k)
    (hd : ∀ D H', H1 D = none → Same H1 H' → H' D = some (.lst zs) → Q (.ref D) H') (D : Addr) (hD : H1 D = none) :
    ∃ W : Nat → Nat → Hp → Prop, (∃ m, W 0 m (upd H1 D (.lst []))) ∧ ∀ i m H, W i m H →
      (J.stop i H ∧ Q (.ref D) H) ∨ (J.go i H ∧ ∃ Nx : Hp → Prop, (∀ H', Nx H' → ∃ m', m' < m ∧ W (i + 1) m' H') ∧ ∀ x H', J.yld i H x H' → g x (wipe σ vs) H' fun σ2 H2 => wipe σ2 vs = wipe σ vs ∧ tYes σ2 H2 fun b H3 =>
        if b = true then te σ2 H3 fun y H4 => ∃ acc, H4 D = some (.lst acc) ∧ acc.length < sizeLine ∧ Nx (upd H4 D (.lst (acc ++ [y]))) else Nx H3) := by
  refine lcR w (fun _ _ i y => zs[i]? = some y) (fun _ _ h => h) hG hY hn (fun D acc i x H hi _ _ sm y k hk => ?_) (fun D H' ys h1 h2 h3 h4 h5 => hd D H' h1 h2 ?_) D hD
  · have e : zs[i]? = some zs[i] := List.getElem?_eq_getElem (by omega)
    exact hs i x _ H e sm y k fun H4 s4 => hk _ _ s4 e
  · have : ys = zs := by
      refine List.ext_getElem? fun i => ?_
      by_cases q : i < n
      · have e : ys[i]? = some ys[i] := List.getElem?_eq_getElem (by omega)
        rw [e]
        exact (h5 i _ e).symm
      · rw [List.getElem?_eq_none (by omega), List.getElem?_eq_none (by omega)]
    rw [← this]
    exact h3
/-- a dict comprehension with texts as keys -/
theorem dcR (w : Walk J n G Y) {g : TG} {tk tv : TE} {vs : List Nat} {σ : L2.St} {H1 : Hp} {Q : VK} (ks : List Str) (hk : ks.length = n) (nd : ks.Nodup) (R : Addr → Hp → Nat → V → Prop) (mono : ∀ {D H H' i y}, But D H H' → (∃ a, H D = some (.dK a)) → R D H i y → R D H' i y) (hG : ∀ H, Same H1 H → G H) (hY : ∀ i H x H', Y i H x H' → H' = H) (hn : n < sizeLine)
    (hs : ∀ D acc i x z H, ks[i]? = some z → H1 D = none → H D = some (.dK acc) → Same H1 H → Y i H x H → ∀ k : V → V → Hp → Prop, (∀ y H4, Same H H4 → R D H4 i y → k (.str z) y H4) → g x (wipe σ vs) H fun σ2 H2 => wipe σ2 vs = wipe σ vs ∧ tk σ2 H2 fun y H4 => tv σ2 H4 fun z H5 => k y z H5)
    (hd : ∀ D H' (gv : Str → V), H1 D = none → Same H1 H' → H' D = some (.dK (ks.map fun z => (Sum.inr z, gv z))) → (∀ i z, ks[i]? = some z → R D H' i (gv z)) → Q (.ref D) H') (D : Addr) (hD : H1 D = none) :
    ∃ W : Nat → Nat → Hp → Prop, (∃ m, W 0 m (upd H1 D (.dK []))) ∧ ∀ i m H, W i m H →
      (J.stop i H ∧ Q (.ref D) H) ∨ (J.go i H ∧ ∃ Nx : Hp → Prop, (∀ H', Nx H' → ∃ m', m' < m ∧ W (i + 1) m' H') ∧ ∀ x H', J.yld i H x H' → g x (wipe σ vs) H' fun σ2 H2 => wipe σ2 vs = wipe σ vs ∧ tYes σ2 H2 fun b H3 =>
        if b = true then tk σ2 H3 fun y H4 => tv σ2 H4 fun z H5 => ∃ kvs k, y = kV k ∧ H5 D = some (.dK kvs) ∧ kvs.length < sizeLine ∧ Nx (upd H5 D (.dK (putK kvs k z))) else Nx H3) := by
  refine ⟨fun i m H => m = n - i ∧ i ≤ n ∧ Same H1 H ∧ ∃ ys, H D = some (.dK (((ks.take i).zip ys).map fun p => (Sum.inr p.1, p.2))) ∧ ys.length = i ∧ ∀ j y, ys[j]? = some y → R D H j y, ⟨n, by simp, Nat.zero_le _, same_new hD, [], by simp [upd_same], rfl, fun j y e => by simp at e⟩, ?_⟩
  rintro i m H ⟨rfl, hi, sm, ys, hys, hl, hR⟩
  by_cases hlt : i < n
  · refine .inr ⟨w.goes i H hlt (hG H sm), fun H' => i + 1 ≤ n ∧ Same H1 H' ∧ ∃ ys, H' D = some (.dK (((ks.take (i + 1)).zip ys).map fun p => (Sum.inr p.1, p.2))) ∧ ys.length = i + 1 ∧ ∀ j y, ys[j]? = some y → R D H' j y, fun H' p => ⟨n - (i + 1), by omega, rfl, p⟩, fun x H' y => ?_⟩
    have y1 := w.yields i H x H' hlt (hG H sm) y
    obtain rfl := hY i H x H' y1
    have ez : ks[i]? = some ks[i] := List.getElem?_eq_getElem (by omega)
    have hz : (((ks.take i).zip ys).map fun p => ((Sum.inr p.1 : Key), p.2)).length = i := by simp; omega
    refine hs D _ i x _ H' ez hD hys sm y1 _ fun y H4 s4 r4 => ⟨_, .inr ks[i], rfl, s4 D _ hys, by omega, hlt, fun p o h => ?_, ys ++ [y], ?_, by simp [hl], fun j z e => ?_⟩
    · rw [upd_ne (ne_of_none h hD)]
      exact s4 p o (sm p o h)
    · have hv : valV (((ks.take i).zip ys).map fun p => ((Sum.inr p.1 : Key), p.2)) (.inr ks[i]) = none := by
        cases q : valV (((ks.take i).zip ys).map fun p => ((Sum.inr p.1 : Key), p.2)) (.inr ks[i]) with
        | none => rfl
        | some v =>
          obtain ⟨p, hp, _⟩ := Option.map_eq_some_iff.mp q
          have h1 := List.mem_of_find?_eq_some hp
          have h2 : p.1 = Sum.inr ks[i] := by simpa using List.find?_some hp
          obtain ⟨r, hr, rfl⟩ := List.mem_map.mp h1
          have h3 : r.1 = ks[i] := by simpa using h2
          have h4 : ks[i] ∈ ks.take i := by
            rw [← h3]
            exact (List.of_mem_zip (a := r.1) (b := r.2) hr).1
          obtain ⟨j, hj, ej⟩ := List.mem_iff_getElem.mp h4
          rw [List.length_take] at hj
          rw [List.getElem_take] at ej
          exact (List.pairwise_iff_getElem.mp nd j i (by omega) (by omega) (by omega) ej).elim
      rw [upd_same, putK_new _ hv]
      congr 2
      rw [List.take_add_one, ez]
      simp only [Option.toList]
      rw [List.zip_append (by simp; omega)]
      simp
    · refine mono (But.upd D H4 _) ⟨_, s4 D _ hys⟩ ?_
      by_cases hj : j < ys.length
      · rw [List.getElem?_append_left hj] at e
        exact mono (But.of s4) ⟨_, hys⟩ (hR j z e)
      · rw [List.getElem?_append_right (by omega)] at e
        have hj0 : j - ys.length = 0 := by
          by_cases q : j - ys.length = 0
          · exact q
          · rw [List.getElem?_eq_none (by simp; omega)] at e
            cases e
        rw [hj0] at e
        cases e
        obtain rfl : j = i := by omega
        exact r4
  · have e : i = n := by omega
    subst e
    rw [← hk, List.take_length] at hys
    obtain ⟨gv, e1, e2⟩ := zip_fun ks ys (by omega) nd
    rw [e1] at hys
    exact .inl ⟨w.stops H (hG H sm), hd D H gv hD sm hys fun j z ej => hR j _ (e2 j z ej)⟩
end
/-- what is of a kind stays -/
def Fr (P : HO → Prop) (H H' : Hp) : Prop := ∀ p o, H p = some o → P o → H' p = some o
theorem Fr.refl {P : HO → Prop} (H : Hp) : Fr P H H := fun _ _ h _ => h
theorem Fr.trans {P : HO → Prop} {H H1 H2 : Hp} (a : Fr P H H1) (b : Fr P H1 H2) : Fr P H H2 := fun p o h n => b p o (a p o h n) n
theorem Fr.of {P : HO → Prop} {H H' : Hp} (s : Same H H') : Fr P H H' := fun p o h _ => s p o h
theorem Fr.mono {P P' : HO → Prop} {H H' : Hp} (s : Fr P H H') (h : ∀ o, P' o → P o) : Fr P' H H' := fun p o e q => s p o e (h o q)
def nL (o : HO) : Prop := ∀ xs, o ≠ .lst xs
def nD (o : HO) : Prop := ∀ kvs, o ≠ .dK kvs
theorem But.frL {D : Addr} {H H' : Hp} (b : But D H H') (h : ∃ a, H D = some (.lst a)) : Fr nL H H' := fun p o e n => by
  obtain ⟨a, ha⟩ := h
  exact b p o e (ne_of e ha (n a))
theorem But.frD {D : Addr} {H H' : Hp} (b : But D H H') (h : ∃ a, H D = some (.dK a)) : Fr nD H H' := fun p o e n => by
  obtain ⟨a, ha⟩ := h
  exact b p o e (ne_of e ha (n a))
theorem yat_same {xs : List V} : ∀ i H x H', YAt xs i H x H' → H' = H := fun _ _ _ _ y => y.1
end Wp

set_option Elab.async false
set_option linter.all false
set_option maxRecDepth 100000
set_option maxHeartbeats 2000000
/-! fields, properties, own special methods by bundles; stations in a reading -/
namespace Wp
open PySem PySem.Spec PyProof.Rows L2
section
variable {X : Cx} {e a b : Expr} {ta tb t u : TE} {C : Addr} {f : Str} {pos : Pos}
theorem pe_imp (h : PE X e t) (k : ∀ σ H Q, u σ H Q → t σ H Q) : PE X e u := ⟨fun pins s σ H Q I q => h.run pins s σ H Q I (k σ H Q q)⟩
/-- a station: what holds of the value, whatever is wanted behind -/
def tUp (ta : TE) : TE := fun σ H Q => ∃ M : VK, ta σ H M ∧ ∀ v H', M v H' → Q v H'
theorem pe_up (h : PE X e ta) : PE X e (tUp ta) := ⟨fun pins s σ H Q I ⟨M, q, k⟩ => thn (h.run pins s σ H M I q) fun v s1 ⟨x, H1, I1, r, m⟩ => ⟨x, H1, I1, r, k x H1 m⟩⟩
def ttUp (ta : TT) : TT := fun σ H Q => ∃ M : Bool → Hp → Prop, ta σ H M ∧ ∀ v H', M v H' → Q v H'
theorem pt_up {ta : TT} (h : PT X e ta) : PT X e (ttUp ta) := ⟨fun pins s σ H Q I ⟨M, q, k⟩ => thn (h.run pins s σ H M I q) fun v s1 ⟨H1, I1, m⟩ => ⟨H1, I1, k v H1 m⟩⟩
/-- e.f, a field of an instance of the class at C -/
def tF (C : Addr) (f : Str) (ta : TE) : TE := fun σ H Q => ta σ H fun x H1 => ∃ a dx fs v, x = .ref a ∧ H1 a = some (.ins C dx fs) ∧ fs.lookup f = some v ∧ Q v H1
theorem pe_f (c : Cls X.K C) (na : NoAttr X.K C f) (he : PE X e ta) (hb : attributeBase e f X.env (eval e X.env) = eval e X.env := by rfl) : PE X (.Attribute e f pos) (tF C f ta) :=
  pe_imp (pe_fld (pe_up he) hb) fun σ H Q h => ⟨_, h, fun x H1 ⟨a, dx, fs, v, e1, e2, e3, q⟩ => ⟨a, C, dx, fs, v, e1, e2, c, na, e3, q⟩⟩
/-- o.f = e -/
def sF (C : Addr) (f : Str) (ta tv : TE) : TS := fun D σ H => tv σ H fun y H1 => ta σ H1 fun x H2 => ∃ a dx fs, x = .ref a ∧ H2 a = some (.ins C dx fs) ∧ fs.length < 1000 ∧ D.nx σ (upd H2 a (.ins C dx (putF f y fs)))
theorem ps_f {o value : Expr} {pos pos' : Pos} {tv : TE} (c : Cls X.K C) (na : NoAttr X.K C f) (ho : PE X o ta) (hv : PE X value tv) (hs : swapsWith value (some (.Attribute o f pos')) pos.line X.env = pure false := by rfl) : PS X (.Assign [.Attribute o f pos'] value pos) (sF C f ta tv) := by
  have h := ps_fld (pos := pos) (pos' := pos') (f := f) (pe_up ho) (pe_up hv) hs
  refine ⟨fun pins s σ H D I q => h.run pins s σ H D I ⟨_, q, fun y H1 q1 => ⟨_, q1, fun x H2 ⟨a, dx, fs, e1, e2, e3, q2⟩ => ⟨a, C, dx, fs, e1, e2, c, na, e3, q2⟩⟩⟩⟩
/-- a getter -/
structure Prp (P : Program) (w : World) (K : PySem.W.Frag) (mg : Str → Option Value) (base : Heap) (k : Nat) (C : Addr) (f : Str) (sp : Sp) : Prop where
  ex : ∃ (p g : Addr) (fd : FuncData) (ps : List Str), Cls K C ∧ PropOf K C f p g ∧ FnOk P w K mg base C8.CX0 k g fd ps sp ∧ Binds K fd ps []
theorem pe_pr {k j : Nat} {sp : Sp} (c : Prp X.prog X.w X.K X.mg X.base k C f sp) (hr : Room j X.A) (hk : k + 1 ≤ j) (he : PE X e ta) (hab : attributeBase e f X.env (eval e X.env) = eval e X.env := by rfl) : PE X (.Attribute e f pos) (tProp C sp [] C8.E0 ta) := by
  obtain ⟨p, g, fd, ps, cl, po, F, b⟩ := c.ex
  exact pe_prop he cl po F (hr.mono hk) b .nil (fun _ _ _ _ _ _ _ h => h.elim) hab
/-- an own special method -/
structure Spc (P : Program) (w : World) (K : PySem.W.Frag) (mg : Str → Option Value) (base : Heap) (k : Nat) (C : Addr) (m : Str) (sp : Sp) : Prop where
  ex : ∃ (g : Addr) (fd : FuncData) (ps : List Str), Spec1 K C m g ∧ (∃ oc od fd sl, K.lookup g = some ⟨oc, od, .func fd, sl⟩) ∧ FnOk P w K mg base C8.CX0 k g fd ps sp ∧ Binds K fd ps []
theorem op_has {k j : Nat} {sp : Sp} (c : Spc X.prog X.w X.K X.mg X.base k C "__contains__" sp) (hr : Room j X.A) (hk : k ≤ j) : OpR X (compareOp .In) (rInOwn C sp C8.E0 false) := by
  obtain ⟨g, fd, ps, S, _, F, b⟩ := c.ex
  exact op_in_own S F (hr.mono hk) b C8.pass0
theorem op_hasnt {k j : Nat} {sp : Sp} (c : Spc X.prog X.w X.K X.mg X.base k C "__contains__" sp) (hr : Room j X.A) (hk : k ≤ j) : OpR X (compareOp .NotIn) (rInOwn C sp C8.E0 true) := by
  obtain ⟨g, fd, ps, S, _, F, b⟩ := c.ex
  exact op_notin_own S F (hr.mono hk) b C8.pass0
theorem pe_own {k j : Nat} {sp : Sp} (c : Spc X.prog X.w X.K X.mg X.base k C "__getitem__" sp) (hr : Room j X.A) (hk : k + 1 ≤ j) (ha : PE X a ta) (hb : PE X b tb) (hs : ∀ o i, subscripted b true o i = runValue (.builtin "lifetime.subscript" ⟨[o, i], []⟩) := by intro _ _; rfl) : PE X (.Subscript a b pos) (tIxOwn C sp C8.E0 ta tb) := by
  obtain ⟨g, fd, ps, S, hfn, F, bb⟩ := c.ex
  exact pe_ixOwn S hfn F (hr.mono hk) bb C8.pass0 ha hb hs
theorem call_lenO {k j : Nat} {sp : Sp} (c : Spc X.prog X.w X.K X.mg X.base k C "__len__" sp) (hr : Room j X.A) (hk : k + 1 ≤ j) : CallR X (.builtin "len") (rLenOwn C sp C8.E0) := by
  obtain ⟨g, fd, ps, S, _, F, b⟩ := c.ex
  exact call_lenOwn S F (hr.mono hk) b C8.pass0
end
/-- a comparison's answer, either of two rules -/
theorem op_or {X : Cx} {f : Value → Value → Sem Value} {r r' : R2} (h : OpR X f r) (h' : OpR X f r') : OpR X f (fun x y H Q => r x y H Q ∨ r' x y H Q) := OpR.or h h'
end Wp
namespace Wp
open PySem PySem.Spec PyProof.Rows L2
section
variable {X : Cx}
def tiUp (wi : TI) : TI := fun σ H R => ∃ M : It → Hp → Prop, wi σ H M ∧ ∀ J H', M J H' → R J H'
theorem pi_up {tg e : Expr} {wi : TI} (h : PI X tg e wi) : PI X tg e (tiUp wi) :=
  ⟨fun pins s σ H R I ⟨M, q, k⟩ => thn (h.run pins s σ H M I q) fun v s1 q1 => thn q1 fun it s2 ⟨i, fp, tn, J, H', a, b, c, d, e, m⟩ => ⟨i, fp, tn, J, H', a, b, c, d, e, k J H' m⟩⟩
/-- [e for x in xs]: the turns change nothing that stands -/
def tLcR (wi : TI) (g : TG) (te : TE) (vs : List Nat) : TE := fun σ H Q => wi σ H fun J H1 => ∃ (n : Nat) (G : Hp → Prop) (Y : Nat → Hp → V → Hp → Prop) (R : Addr → Hp → Nat → V → Prop), Walk J n G Y ∧
  (∀ {D H H' i y}, But D H H' → (∃ a, H D = some (.lst a)) → R D H i y → R D H' i y) ∧ (∀ H, Same H1 H → G H) ∧ (∀ i H x H', Y i H x H' → H' = H) ∧ n < sizeLine ∧
  (∀ D acc i x H, i < n → H1 D = none → H D = some (.lst acc) → Same H1 H → Y i H x H → ∀ k : V → Hp → Prop, (∀ y H4, Same H H4 → R D H4 i y → k y H4) → g x (wipe σ vs) H fun σ2 H2 => wipe σ2 vs = wipe σ vs ∧ te σ2 H2 k) ∧
  ∀ D H' ys, H1 D = none → Same H1 H' → H' D = some (.lst ys) → ys.length = n → (∀ i y, ys[i]? = some y → R D H' i y) → Q (.ref D) H'
/-- .. each item a plain value -/
def tLcP (wi : TI) (g : TG) (te : TE) (vs : List Nat) : TE := fun σ H Q => wi σ H fun J H1 => ∃ (n : Nat) (G : Hp → Prop) (Y : Nat → Hp → V → Hp → Prop) (zs : List V), Walk J n G Y ∧
  zs.length = n ∧ (∀ H, Same H1 H → G H) ∧ (∀ i H x H', Y i H x H' → H' = H) ∧ n < sizeLine ∧
  (∀ i x z H, zs[i]? = some z → Same H1 H → Y i H x H → ∀ k : V → Hp → Prop, (∀ H4, Same H H4 → k z H4) → g x (wipe σ vs) H fun σ2 H2 => wipe σ2 vs = wipe σ vs ∧ te σ2 H2 k) ∧
  ∀ D H', H1 D = none → Same H1 H' → H' D = some (.lst zs) → Q (.ref D) H'
/-- {k: e for x in xs}, the keys texts -/
def tDcR (wi : TI) (g : TG) (tk tv : TE) (vs : List Nat) : TE := fun σ H Q => wi σ H fun J H1 => ∃ (n : Nat) (G : Hp → Prop) (Y : Nat → Hp → V → Hp → Prop) (ks : List Str) (R : Addr → Hp → Nat → V → Prop), Walk J n G Y ∧ ks.length = n ∧ ks.Nodup ∧
  (∀ {D H H' i y}, But D H H' → (∃ a, H D = some (.dK a)) → R D H i y → R D H' i y) ∧ (∀ H, Same H1 H → G H) ∧ (∀ i H x H', Y i H x H' → H' = H) ∧ n < sizeLine ∧
  (∀ D acc i x z H, ks[i]? = some z → H1 D = none → H D = some (.dK acc) → Same H1 H → Y i H x H → ∀ k : V → V → Hp → Prop, (∀ y H4, Same H H4 → R D H4 i y → k (.str z) y H4) → g x (wipe σ vs) H fun σ2 H2 => wipe σ2 vs = wipe σ vs ∧ tk σ2 H2 fun y H4 => tv σ2 H4 fun z H5 => k y z H5) ∧
  ∀ D H' (gv : Str → V), H1 D = none → Same H1 H' → H' D = some (.dK (ks.map fun z => (Sum.inr z, gv z))) → (∀ i z, ks[i]? = some z → R D H' i (gv z)) → Q (.ref D) H'
variable {elt kx vx tg iter : Expr} {scope : Scope} {own : List (Str × Nat)} {pos : Pos} {wi : TI} {g : TG} {te tk tv : TE}
theorem pe_lcR (hc : X.calm = true) (hN : X.N.Nodup) (hi : PI X tg iter wi) (ok : BlkOk X.N X.env.scope scope own)
    (hg : ∀ (s : Shared) (H : Hp) (C : Addr) (cl : List (Str × Addr)) (fp : List Addr), PG (X.blk s H scope (compEnvC scope cl C X.env) fp) tg g)
    (he : ∀ (s : Shared) (H : Hp) (C : Addr) (cl : List (Str × Addr)) (fp : List Addr), PE (X.blk s H scope (compEnvC scope cl C X.env) fp) elt te) (hs : ∀ x, foldedSetIterable iter X.env x = pure x := by intro _; rfl) :
    PE X (.ListComp elt [⟨tg, iter, [], 0⟩] scope pos) (tLcR wi g te (own.map (·.2))) := by
  refine pe_imp (pe_lc (ifs := []) (tt := tYes) hc hN (pi_up hi) ok hg (fun _ _ _ _ _ => pts_nil) he hs) fun σ H Q h => ⟨_, h, fun J H1 ⟨n, G, Y, R, w, mono, hG, hY, hn, hs, hd⟩ => ?_⟩
  exact lcR w R mono hG hY hn hs hd
theorem pe_lcP (hc : X.calm = true) (hN : X.N.Nodup) (hi : PI X tg iter wi) (ok : BlkOk X.N X.env.scope scope own)
    (hg : ∀ (s : Shared) (H : Hp) (C : Addr) (cl : List (Str × Addr)) (fp : List Addr), PG (X.blk s H scope (compEnvC scope cl C X.env) fp) tg g)
    (he : ∀ (s : Shared) (H : Hp) (C : Addr) (cl : List (Str × Addr)) (fp : List Addr), PE (X.blk s H scope (compEnvC scope cl C X.env) fp) elt te) (hs : ∀ x, foldedSetIterable iter X.env x = pure x := by intro _; rfl) :
    PE X (.ListComp elt [⟨tg, iter, [], 0⟩] scope pos) (tLcP wi g te (own.map (·.2))) := by
  refine pe_imp (pe_lc (ifs := []) (tt := tYes) hc hN (pi_up hi) ok hg (fun _ _ _ _ _ => pts_nil) he hs) fun σ H Q h => ⟨_, h, fun J H1 ⟨n, G, Y, zs, w, hl, hG, hY, hn, hs, hd⟩ => ?_⟩
  exact lcP w zs hl hG hY hn hs hd
theorem pe_dcR (hc : X.calm = true) (hN : X.N.Nodup) (hi : PI X tg iter wi) (ok : BlkOk X.N X.env.scope scope own)
    (hg : ∀ (s : Shared) (H : Hp) (C : Addr) (cl : List (Str × Addr)) (fp : List Addr), PG (X.blk s H scope (compEnvC scope cl C X.env) fp) tg g)
    (hk : ∀ (s : Shared) (H : Hp) (C : Addr) (cl : List (Str × Addr)) (fp : List Addr), PE (X.blk s H scope (compEnvC scope cl C X.env) fp) kx tk)
    (he : ∀ (s : Shared) (H : Hp) (C : Addr) (cl : List (Str × Addr)) (fp : List Addr), PE (X.blk s H scope (compEnvC scope cl C X.env) fp) vx tv) (hs : ∀ x, foldedSetIterable iter X.env x = pure x := by intro _; rfl) :
    PE X (.DictComp kx vx [⟨tg, iter, [], 0⟩] scope pos) (tDcR wi g tk tv (own.map (·.2))) := by
  refine pe_imp (pe_dc (ifs := []) (tt := tYes) hc hN (pi_up hi) ok hg (fun _ _ _ _ _ => pts_nil) hk he hs) fun σ H Q h => ⟨_, h, fun J H1 ⟨n, G, Y, ks, R, w, hk, nd, mono, hG, hY, hn, hs, hd⟩ => ?_⟩
  exact dcR w ks hk nd R mono hG hY hn hs hd
theorem ps_imp {st : Stmt} {t u : TS} (h : PS X st t) (k : ∀ D σ H, u D σ H → t D σ H) : PS X st u := ⟨fun pins s σ H D I q => h.run pins s σ H D I (k D σ H q)⟩
theorem ps_setLcR {i : Nat} {y : Str} {py spos : Pos} (hc : X.calm = true) (hN : X.N.Nodup) (hy : X.N[i]? = some y) (hyl : X.env.scope.names.lookup y = some .local)
    (hsw : swapsWith (.ListComp elt [⟨tg, iter, [], 0⟩] scope pos) (some (.Name y py)) spos.line X.env = pure true) (hi : PI X tg iter wi) (ok : BlkOk X.N X.env.scope scope own)
    (hg : ∀ (s : Shared) (H : Hp) (C : Addr) (cl : List (Str × Addr)) (fp : List Addr), PG (X.blk s H scope (compEnvC scope cl C X.env) fp) tg g)
    (he : ∀ (s : Shared) (H : Hp) (C : Addr) (cl : List (Str × Addr)) (fp : List Addr), PE (X.blk s H scope (compEnvC scope cl C X.env) fp) elt te) (hs : ∀ x, foldedSetIterable iter X.env x = pure x := by intro _; rfl) :
    PS X (.Assign [.Name y py] (.ListComp elt [⟨tg, iter, [], 0⟩] scope pos) spos) (tAsg (tLcR wi g te (own.map (·.2))) (gName i)) := by
  refine ps_imp (ps_setLc (ifs := []) (tt := tYes) hc hN hy hyl hsw (pi_up hi) ok hg (fun _ _ _ _ _ => pts_nil) he hs) fun D σ H h => ⟨_, h, fun J H1 ⟨n, G, Y, R, w, mono, hG, hY, hn, hs, hd⟩ => ?_⟩
  exact lcR (Q := fun x H1 => gName i x σ H1 D.nx) w R mono hG hY hn hs hd
theorem sw_trueD {kx vx : Expr} {gs : List Comprehension} {scope : Scope} {pos py : Pos} {y : Str} {l : Nat} {env : Env} (hk : env.scope.kind = .function) (hy : env.scope.names.lookup y = some .local) (hl : (py.line == pos.line) = true)
    (ha : (scope.names.any fun (n, k) => n == y && (k == .local || k == .cell)) = false) : swapsWith (.DictComp kx vx gs scope pos) (some (.Name y py)) l env = pure true := by
  have ky : env.kindOf y = some .local := hy
  have hb : env.blockKind = .function := by unfold Env.blockKind; rw [hk]; rfl
  unfold swapsWith
  simp only [hb, ky, ha, Expr.pos, hl]
  rfl
theorem ps_setDcR {i : Nat} {y : Str} {py spos : Pos} (hc : X.calm = true) (hN : X.N.Nodup) (hy : X.N[i]? = some y) (hyl : X.env.scope.names.lookup y = some .local)
    (hsw : swapsWith (.DictComp kx vx [⟨tg, iter, [], 0⟩] scope pos) (some (.Name y py)) spos.line X.env = pure true) (hi : PI X tg iter wi) (ok : BlkOk X.N X.env.scope scope own)
    (hg : ∀ (s : Shared) (H : Hp) (C : Addr) (cl : List (Str × Addr)) (fp : List Addr), PG (X.blk s H scope (compEnvC scope cl C X.env) fp) tg g)
    (hk : ∀ (s : Shared) (H : Hp) (C : Addr) (cl : List (Str × Addr)) (fp : List Addr), PE (X.blk s H scope (compEnvC scope cl C X.env) fp) kx tk)
    (he : ∀ (s : Shared) (H : Hp) (C : Addr) (cl : List (Str × Addr)) (fp : List Addr), PE (X.blk s H scope (compEnvC scope cl C X.env) fp) vx tv) (hs : ∀ x, foldedSetIterable iter X.env x = pure x := by intro _; rfl) :
    PS X (.Assign [.Name y py] (.DictComp kx vx [⟨tg, iter, [], 0⟩] scope pos) spos) (tAsg (tDcR wi g tk tv (own.map (·.2))) (gName i)) := by
  refine ⟨fun pins s σ H D I h => ?_⟩
  rw [exec_Assign_Name_used _ _ _ _ hsw]
  refine wpAny_bind (wpAny_standAt (wpAny_bind ?_))
  show wpAny _ X.A (do let _ ← comprehension (.DictComp kx vx [⟨tg, iter, [], 0⟩] scope pos) scope X.env (firstIterPos [⟨tg, iter, [], 0⟩] pos) newDict false (eval iter X.env) (some (assign (.Name y py) X.env))) _ _ s
  have h' : tDc (tiUp wi) g tYes tk tv (own.map (·.2)) σ H (fun x H1 => gName i x σ H1 D.nx) := ⟨_, h, fun J H1 ⟨n, G, Y, ks, R, w, hk, nd, mono, hG, hY, hn, hs, hd⟩ => dcR (Q := fun x H1 => gName i x σ H1 D.nx) w ks hk nd R mono hG hY hn hs hd⟩
  refine wpAny_bind (thn (dc_core (ifs := []) (Qf := fun _ s' => SP X pins D .next s') hc hN I (pi_up hi) ok hg (fun _ _ _ _ _ => pts_nil) hk he hs h' fun L C s' m H' I' q hn f => ?_) fun _ s' hq => wpAny_pure (wpAny_pure hq))
  show wpAny _ _ (assign (.Name y py) X.env (.ref L)) _ _ _
  refine wpAny_assign_Name (store_ok2 (v := V.ref L) I' hN hy (.inl hyl) rfl (fun s2 I2 ⟨a, sb, ha⟩ => ?_) (.inr hyl))
  obtain ⟨f0, f1, f2, f3, f4, f5⟩ := f
  have haC : C ≠ a := by
    rcases ha with z | z
    · rw [z]
      exact f1
    · exact fun e => f4 y a z e.symm
  refine ⟨m, hn.sameBut sb haC, fun h3 sb3 => ?_⟩
  exact ⟨_, H', I2.turned (t' := s2.toks) (fun b o hb e => (sb3.2 b hb).trans e) f0 f1 f3 f4 f5, q⟩
end
end Wp

set_option Elab.async false
set_option linter.all false
set_option maxRecDepth 100000
set_option maxHeartbeats 2000000
/-! the facts of the text; what stands in the heap for the data -/
namespace Wp
open PySem PySem.Spec PyProof.Rows L2
/-- the six classes -/
structure CA where
  F : Addr
  S : Addr
  E : Addr
  C : Addr
  V : Addr
  N : Addr
  nm : Addr
  wc : Addr
  sz : Addr
  e0 : Addr
abbrev letters : Str := "abcdefghijklmnopqrstuvwxyz"
structure Txt (K : PySem.W.Frag) (w : World) (mg : Str → Option Value) (c : CA) : Prop where
  b_isinstance : mg "isinstance" = none
  b_len : mg "len" = none
  b_all : mg "all" = none
  b_max : mg "max" = none
  b_min : mg "min" = none
  b_sum : mg "sum" = none
  b_sorted : mg "sorted" = none
  b_range : mg "range" = none
  b_enumerate : mg "enumerate" = none
  b_set : mg "set" = none
  b_list : mg "list" = none
  b_tuple : mg "tuple" = none
  b_dict : mg "dict" = none
  b_int : mg "int" = none
  b_str : mg "str" = none
  b_bool : mg "bool" = none
  cF : Cls K c.F
  cS : Cls K c.S
  cE : Cls K c.E
  cC : Cls K c.C
  cV : Cls K c.V
  cN : Cls K c.N
  aF_own_naming : NoAttr K c.F "own_naming"
  aF_own_refers : NoAttr K c.F "own_refers"
  aF_own_hold : NoAttr K c.F "own_hold"
  aF_own_keeps : NoAttr K c.F "own_keeps"
  aS_own_files : NoAttr K c.S "own_files"
  aS_own_trees : NoAttr K c.S "own_trees"
  aS_own_counts : NoAttr K c.S "own_counts"
  aE_own_site : NoAttr K c.E "own_site"
  aE_own_changed : NoAttr K c.E "own_changed"
  aE_own_numbers : NoAttr K c.E "own_numbers"
  aC_contents : NoAttr K c.C "contents"
  aC_got : NoAttr K c.C "got"
  aC_given : NoAttr K c.C "given"
  aV_entry : NoAttr K c.V "entry"
  aV_pages : NoAttr K c.V "pages"
  aV_lost : NoAttr K c.V "lost"
  aN_own_kinds : NoAttr K c.N "own_kinds"
  aN_own_steps : NoAttr K c.N "own_steps"
  aN_own_site : NoAttr K c.N "own_site"
  aN_own_tick : NoAttr K c.N "own_tick"
  aN_own_editions : NoAttr K c.N "own_editions"
  aN_own_left : NoAttr K c.N "own_left"
  aN_own_finished : NoAttr K c.N "own_finished"
  aN_own_begun : NoAttr K c.N "own_begun"
  aN_own_server : NoAttr K c.N "own_server"
  aN_own_copies : NoAttr K c.N "own_copies"
  aN_own_visits : NoAttr K c.N "own_visits"
  iF : C8.InsC K c.F
  m_File : mg "File" = some (.ref c.F)
  g_LONGEST_NAME : ∃ t, mg "LONGEST_NAME" = some (.int 8 t)
  g_MOST_FILES : ∃ t, mg "MOST_FILES" = some (.int 8 t)
  g_MOST_CACHES : ∃ t, mg "MOST_CACHES" = some (.int 4 t)
  g_MOST_KINDS : ∃ t, mg "MOST_KINDS" = some (.int 5 t)
  g_MOST_TICKS : ∃ t, mg "MOST_TICKS" = some (.int 1000 t)
  g_MOST_CHANGES : ∃ t, mg "MOST_CHANGES" = some (.int 30 t)
  g_MOST_EDITIONS : ∃ t, mg "MOST_EDITIONS" = some (.int 31 t)
  g_MOST_WAIT : ∃ t, mg "MOST_WAIT" = some (.int 20000 t)
  g_LETTERS : ∃ t, mg "LETTERS" = some (.str letters t)
  g_NAMINGS : mg "NAMINGS" = some (.ref c.nm)
  t_NAMINGS : ∀ H, SqT K H c.nm [.str "own", .str "plain"]
  g_WAYS_TO_COUNT : mg "WAYS_TO_COUNT" = some (.ref c.wc)
  t_WAYS_TO_COUNT : ∀ H, SqT K H c.wc [.str "own", .str "whole"]
  m_SIZES : mg "SIZES" = some (.ref c.sz)
  low : (c.sz == sysModules) = false
  l_SIZES : ∃ es n, K.lookup c.sz = some ⟨.type "dict", none, .dict es n, #[]⟩
  t_SIZES : ∀ q ∈ ([("begin", 2), ("step", 1), ("wait", 2), ("lose", 4), ("open", 2)] : List (Str × Int)), KDct K w c.sz q.1 (.int q.2)
  t_e0 : ∀ H, SqT K H c.e0 []
  neFS : c.F ≠ c.S
  neFE : c.F ≠ c.E
  neSE : c.S ≠ c.E
  neFC : c.F ≠ c.C
  neSC : c.S ≠ c.C
  neEC : c.E ≠ c.C
  neFV : c.F ≠ c.V
  neSV : c.S ≠ c.V
  neEV : c.E ≠ c.V
  neCV : c.C ≠ c.V
  neFN : c.F ≠ c.N
  neSN : c.S ≠ c.N
  neEN : c.E ≠ c.N
  neCN : c.C ≠ c.N
  neVN : c.V ≠ c.N
theorem pe_gi {X : Cx} {x : Str} {n : Int} {pos : Pos} (hg : Gl X x) (h : ∃ t, X.mg x = some (.int n t)) (hd : (x == ("__debug__" : Str)) = false := by decide) : PE X (.Name x pos) (tC (.int n)) := by
  obtain ⟨t, h⟩ := h
  exact pe_glob (hd := hd) hg h ⟨_, rfl⟩
theorem pe_gs {X : Cx} {x : Str} {n : Str} {pos : Pos} (hg : Gl X x) (h : ∃ t, X.mg x = some (.str n t)) (hd : (x == ("__debug__" : Str)) = false := by decide) : PE X (.Name x pos) (tC (.str n)) := by
  obtain ⟨t, h⟩ := h
  exact pe_glob (hd := hd) hg h ⟨_, rfl⟩
abbrev FnP (K : PySem.W.Frag) (x qual : Str) (st : Stmt) (f : Addr) (fd : FuncData) : Prop := FunD K x qual (defArgs st) (defBody st) (defScope st) [] [] f fd
end Wp

set_option Elab.async false
set_option linter.all false
set_option maxRecDepth 100000
set_option maxHeartbeats 2000000
/-! the data in the heap -/
namespace Wp
open PySem PySem.Spec PyProof.Rows L2
abbrev names8 : List Str := ["a", "ab", "b", "ever", "own", "plain", "q", "zzzzzzzz"]
def Nm (z : Str) : Prop := z ∈ names8
abbrev vt : Option Int → V
  | none => .non
  | some n => .int n
def Tk (o : Option Int) : Prop := ∀ n, o = some n → 0 ≤ n ∧ n ≤ 1000
structure Fd where
  own : Bool
  refs : List Str
  hold : Option Int
  keeps : List (Option Int)
abbrev nmv (b : Bool) : Str := if b = true then "own" else "plain"
def fileF (F : Fd) (r k : Addr) : List (Str × V) := [("own_naming", .str (nmv F.own)), ("own_refers", .ref r), ("own_hold", vt F.hold), ("own_keeps", .ref k)]
def FileAt (c : CA) (H : Hp) (p : Addr) (F : Fd) : Prop := ∃ dx r k, H p = some (.ins c.F dx (fileF F r k)) ∧ H r = some (.tup (F.refs.map V.str)) ∧ H k = some (.tup (F.keeps.map vt))
theorem FileAt.fr {c : CA} {P : HO → Prop} {H H' : Hp} {p : Addr} {F : Fd} (f : Fr P H H') (h1 : ∀ dx fs, P (.ins c.F dx fs)) (h2 : ∀ xs, P (.tup xs)) (h : FileAt c H p F) : FileAt c H' p F := by
  obtain ⟨dx, r, k, a, b, d⟩ := h
  exact ⟨dx, r, k, f _ _ a (h1 _ _), f _ _ b (h2 _), f _ _ d (h2 _)⟩
theorem FileAt.same {c : CA} {H H' : Hp} {p : Addr} {F : Fd} (s : Same H H') (h : FileAt c H p F) : FileAt c H' p F := h.fr (P := fun _ => True) (.of s) (fun _ _ => trivial) (fun _ => trivial)
/-- a dict from the names ns to Files -/
def FilesAt (c : CA) (H : Hp) (d : Addr) (ns : List Str) (fd : Str → Fd) : Prop := ∃ ps : Str → Addr, H d = some (.dK (ns.map fun n => (Sum.inr n, V.ref (ps n)))) ∧ ∀ n ∈ ns, FileAt c H (ps n) (fd n)
theorem FilesAt.fr {c : CA} {P : HO → Prop} {H H' : Hp} {d : Addr} {ns : List Str} {fd : Str → Fd} (f : Fr P H H') (h1 : ∀ dx fs, P (.ins c.F dx fs)) (h2 : ∀ xs, P (.tup xs)) (h3 : ∀ kvs, P (.dK kvs)) (h : FilesAt c H d ns fd) : FilesAt c H' d ns fd := by
  obtain ⟨ps, a, b⟩ := h
  exact ⟨ps, f _ _ a (h3 _), fun n hn => (b n hn).fr f h1 h2⟩
theorem FilesAt.same {c : CA} {H H' : Hp} {d : Addr} {ns : List Str} {fd : Str → Fd} (s : Same H H') (h : FilesAt c H d ns fd) : FilesAt c H' d ns fd := h.fr (P := fun _ => True) (.of s) (fun _ _ => trivial) (fun _ => trivial) (fun _ => trivial)
theorem nm_len {z : Str} (h : Nm z) : 1 ≤ (z.length : Int) ∧ (z.length : Int) ≤ 8 := by
  have : ∀ z ∈ names8, decide (1 ≤ (z.length : Int) ∧ (z.length : Int) ≤ 8) = true := by decide +kernel
  exact of_decide_eq_true (this z h)
theorem nm_let {z : Str} (h : Nm z) : ∀ (i : Nat) (ch : Nat), z.cps[i]? = some ch → ch ∈ letters.cps.toList := by
  have : ∀ z ∈ names8, (z.cps.toList.all fun ch => decide (ch ∈ letters.cps.toList)) = true := by decide +kernel
  intro i ch e
  have h2 := List.all_eq_true.mp (this z h) ch (Array.mem_toList_iff.mpr (Array.mem_of_getElem? e))
  exact of_decide_eq_true h2
end Wp

set_option Elab.async false
set_option linter.all false
set_option maxRecDepth 100000
set_option maxHeartbeats 2000000
/-! the promises of the small defs -/
namespace Wp
open PySem PySem.Spec PyProof.Rows L2
def Sq (K : PySem.W.Frag) (H : Hp) (a : Addr) (xs : List V) : Prop := SqL K H a xs ∨ SqT K H a xs
theorem Sq.same {K : PySem.W.Frag} {H H' : Hp} {a : Addr} {xs : List V} (s : Same H H') (h : Sq K H a xs) : Sq K H' a xs := h.elim (fun h => .inl (s.seq h)) (fun h => .inr (Wp.Same.seqT s h))
theorem ty_seq {K : PySem.W.Frag} {H : Hp} {a : Addr} {xs : List V} (h : Sq K H a xs) : ∃ t, TyX K H (.ref a) (.type t) ∧ (t = "list" ∨ t = "tuple") := by
  rcases h with ((h | ⟨o, h⟩) | ⟨o, its, n, h1, h2, h3, h4, h5⟩) | ((h | ⟨o, h⟩) | ⟨o, its, n, h1, h2, h3, h4⟩)
  · exact ⟨_, .base (.lst h), .inl rfl⟩
  · exact ⟨_, .base (.frz h), .inl rfl⟩
  · exact ⟨_, .kList h1 h2, .inl rfl⟩
  · exact ⟨_, .base (.tup h), .inr rfl⟩
  · exact ⟨_, .fTuple h, .inr rfl⟩
  · exact ⟨_, .kTuple h1 h2, .inr rfl⟩
theorem kit_seq {K : PySem.W.Frag} {t : String} (h : t = "list" ∨ t = "tuple") : PySem.W.kitAny K (.type t) [.type "list", .type "tuple"] = some true := by
  rcases h with rfl | rfl
  · exact kitAny_cons (kit_ty (b := "list") (r := true) (by decide +kernel)) (fun z => nomatch z) (fun _ => rfl)
  · exact kitAny_cons (kit_ty (b := "list") (r := false) (by decide +kernel)) (fun _ => kitAny_cons (kit_ty (b := "tuple") (r := true) (by decide +kernel)) (fun z => nomatch z) (fun _ => rfl)) (fun z => nomatch z)
def sp_is_number : Sp := fun vs H Q _ => ∃ n : Int, vs = [.int n] ∧ Q (.bl true) H
def sp_is_name : Sp := fun vs H Q _ => ∃ z : Str, vs = [.str z] ∧ Nm z ∧ ∀ H', Same H H' → Q (.bl true) H'
def sp_is_list (K : PySem.W.Frag) : Sp := fun vs H Q _ => ∃ a xs, vs = [.ref a] ∧ Sq K H a xs ∧ ∀ H', Same H H' → Q (.bl true) H'
def sp_is_ticks : Sp := fun vs H Q _ => ∃ t : Option Int, vs = [vt t] ∧ Tk t ∧ Q (.bl true) H
def sp_are_names (K : PySem.W.Frag) : Sp := fun vs H Q _ => ∃ (a : Addr) (zs : List Str), vs = [.ref a] ∧ Sq K H a (zs.map V.str) ∧ (∀ z ∈ zs, Nm z) ∧ zs.Nodup ∧ ∀ H', Same H H' → Q (.bl true) H'
theorem qT {Q : VK} {H : Hp} {p : Prop} [Decidable p] (h : p) (q : Q (.bl true) H) : Q (.bl (decide p)) H := by rw [decide_eq_true h]; exact q
theorem qF {Q : VK} {H : Hp} {p : Prop} [Decidable p] (h : ¬ p) (q : Q (.bl false) H) : Q (.bl (decide p)) H := by rw [decide_eq_false h]; exact q
theorem qnT {Q : VK} {H : Hp} {p : Prop} [Decidable p] (h : p) (q : Q (.bl false) H) : Q (.bl (!decide p)) H := by rw [decide_eq_true h]; exact q
theorem qnF {Q : VK} {H : Hp} {p : Prop} [Decidable p] (h : ¬ p) (q : Q (.bl true) H) : Q (.bl (!decide p)) H := by rw [decide_eq_false h]; exact q
theorem iT {p A B : Prop} [Decidable p] (h : p) (q : A) : if decide p = true then A else B := by rw [if_pos (decide_eq_true h)]; exact q
theorem iF {p A B : Prop} [Decidable p] (h : ¬ p) (q : B) : if decide p = true then A else B := by rw [if_neg (by rw [decide_eq_false h]; exact Bool.false_ne_true)]; exact q
theorem inT {p A B : Prop} [Decidable p] (h : p) (q : B) : if (!decide p) = true then A else B := by rw [decide_eq_true h]; exact iteF q
theorem inF {p A B : Prop} [Decidable p] (h : ¬ p) (q : A) : if (!decide p) = true then A else B := by rw [decide_eq_false h]; exact iteT q
theorem metS_0 {zs : List Str} (nd : zs.Nodup) : (metS [] zs).length = zs.length := by simpa using metS_all zs [] nd (by simp)
theorem all_true (n : Nat) : (List.replicate n true).all id = true := by simp
theorem nodup_le : ∀ (l K : List Str), l.Nodup → (∀ x ∈ l, x ∈ K) → l.length ≤ K.length
  | [], K, _, _ => Nat.zero_le _
  | x :: r, K, hl, hs => by
    obtain ⟨h1, h2⟩ := List.nodup_cons.mp hl
    have hx : x ∈ K := hs x List.mem_cons_self
    have ih := nodup_le r (K.erase x) h2 fun y hy => (List.mem_erase_of_ne (fun (e : y = x) => h1 (by rw [← e]; exact hy))).mpr (hs y (List.mem_cons_of_mem _ hy))
    rw [List.length_erase_of_mem hx] at ih
    have : 0 < K.length := List.length_pos_of_mem hx
    rw [List.length_cons]
    omega
theorem nodup_few {zs : List Str} (h : ∀ z ∈ zs, Nm z) (nd : zs.Nodup) : zs.length ≤ 8 := by
  exact nodup_le zs names8 nd h
end Wp

set_option Elab.async false
set_option linter.all false
set_option maxRecDepth 100000
set_option maxHeartbeats 2000000
/-! the names in their order -/
namespace Wp
open PySem PySem.Spec PyProof.Rows L2
def rk (z : Str) : Nat := names8.idxOf z
theorem rk_lt : ∀ x ∈ names8, ∀ y ∈ names8, ltCps x.cps.toList y.cps.toList = decide (rk x < rk y) := by decide +kernel
theorem rk_inj : ∀ x ∈ names8, ∀ y ∈ names8, rk x = rk y → x = y := by decide +kernel
theorem names8_nd : names8.Nodup := by decide +kernel
theorem names8_rk : names8.Pairwise fun x y => rk x < rk y := by decide +kernel
theorem rising_rk : ∀ (p : Str) (l : List Str), p ∈ names8 → (∀ z ∈ l, z ∈ names8) → risingS p l = true → (p :: l).Pairwise fun x y => rk x ≤ rk y
  | p, [], _, _, _ => by simp
  | p, x :: r, hp, hl, h => by
    have h' : (!ltCps x.cps.toList p.cps.toList && risingS x r) = true := h
    rw [Bool.and_eq_true, Bool.not_eq_true'] at h'
    have hx := hl x List.mem_cons_self
    have ih := rising_rk x r hx (fun z hz => hl z (List.mem_cons_of_mem _ hz)) h'.2
    rw [rk_lt x hx p hp] at h'
    have h1 : rk p ≤ rk x := by
      have := of_decide_eq_false h'.1
      omega
    refine List.pairwise_cons.mpr ⟨fun y hy => ?_, ih⟩
    rcases List.mem_cons.mp hy with rfl | hy
    · exact h1
    · exact Nat.le_trans h1 ((List.pairwise_cons.mp ih).1 y hy)
theorem sorted_rk {l : List Str} (hl : ∀ z ∈ l, Nm z) (h : sortedS l = true) : l.Pairwise fun x y => rk x ≤ rk y := by
  cases l with
  | nil => exact .nil
  | cons p r => exact rising_rk p r (hl p List.mem_cons_self) (fun z hz => hl z (List.mem_cons_of_mem _ hz)) h
theorem strict_eq : ∀ (l m : List Str), l.Pairwise (fun x y => rk x < rk y) → m.Pairwise (fun x y => rk x < rk y) → (∀ z, z ∈ l ↔ z ∈ m) → l = m
  | [], [], _, _, _ => rfl
  | [], y :: m, _, _, h => nomatch (h y).mpr List.mem_cons_self
  | x :: l, [], _, _, h => nomatch (h x).mp List.mem_cons_self
  | x :: l, y :: m, hl, hm, h => by
    obtain ⟨l1, l2⟩ := List.pairwise_cons.mp hl
    obtain ⟨m1, m2⟩ := List.pairwise_cons.mp hm
    have e : x = y := by
      rcases List.mem_cons.mp ((h x).mp List.mem_cons_self) with e | hx
      · exact e
      · rcases List.mem_cons.mp ((h y).mpr List.mem_cons_self) with e | hy
        · exact e.symm
        · have a := l1 y hy
          have b := m1 x hx
          omega
    subst e
    congr 1
    refine strict_eq l m l2 m2 fun z => ⟨fun hz => ?_, fun hz => ?_⟩
    · rcases List.mem_cons.mp ((h z).mp (List.mem_cons_of_mem _ hz)) with e | hz'
      · subst e
        exact absurd (l1 z hz) (Nat.lt_irrefl _)
      · exact hz'
    · rcases List.mem_cons.mp ((h z).mpr (List.mem_cons_of_mem _ hz)) with e | hz'
      · subst e
        exact absurd (m1 z hz) (Nat.lt_irrefl _)
      · exact hz'
/-- the names of zs in their order -/
def so (zs : List Str) : List Str := names8.filter fun z => decide (z ∈ zs)
theorem so_mem {zs : List Str} (h : ∀ z ∈ zs, Nm z) (z : Str) : z ∈ so zs ↔ z ∈ zs := by
  unfold so
  rw [List.mem_filter, decide_eq_true_eq]
  exact ⟨fun p => p.2, fun p => ⟨h z p, p⟩⟩
theorem so_nm {zs : List Str} : ∀ z ∈ so zs, Nm z := fun z h => (List.mem_filter.mp h).1
theorem so_nd (zs : List Str) : (so zs).Nodup := names8_nd.filter _
theorem so_rk (zs : List Str) : (so zs).Pairwise fun x y => rk x < rk y := names8_rk.filter _
theorem so_eq {zs ys : List Str} (h : ∀ z ∈ zs, Nm z) (nd : zs.Nodup) (p : ys.Perm zs) (s : sortedS ys = true) : ys = so zs := by
  have hy : ∀ z ∈ ys, Nm z := fun z hz => h z (p.mem_iff.mp hz)
  have ny : ys.Nodup := p.nodup_iff.mpr nd
  refine strict_eq ys (so zs) ?_ (so_rk zs) fun z => by rw [so_mem h, p.mem_iff]
  refine List.Pairwise.imp₂ (fun x y (a : rk x ≤ rk y) (b : rk x ≠ rk y) => by omega) (sorted_rk hy s) ?_
  refine List.Pairwise.imp_of_mem (fun {x y} hx hy' (a : x ≠ y) e => a (rk_inj x (hy x hx) y (hy y hy') e)) ny
theorem so_perm {zs : List Str} (h : ∀ z ∈ zs, Nm z) (nd : zs.Nodup) : (so zs).Perm zs :=
  nodup_perm (so zs) zs (so_nd zs) (fun x hx => (so_mem h x).mp hx) (Nat.le_antisymm (nodup_le zs (so zs) nd fun x hx => (so_mem h x).mpr hx) (nodup_le (so zs) zs (so_nd zs) fun x hx => (so_mem h x).mp hx))
theorem so_congr {a b : List Str} (h : ∀ z, z ∈ a ↔ z ∈ b) : so a = so b := by
  unfold so
  congr 1
  funext z
  exact decide_eq_decide.mpr (h z)
theorem so_so (a : List Str) : so (so a) = so a := by
  unfold so
  refine List.filter_congr fun z hz => decide_eq_decide.mpr ⟨fun p => of_decide_eq_true (List.mem_filter.mp p).2, fun p => List.mem_filter.mpr ⟨hz, decide_eq_true p⟩⟩
theorem so_len (a : List Str) : (so a).length ≤ 8 := Nat.le_trans (List.length_filter_le _ _) (by decide +kernel)
theorem so_one {z : Str} (h : Nm z) : so [z] = [z] := by
  have p := so_perm (zs := [z]) (by simpa using h) (by simp)
  exact List.perm_singleton.mp p
end Wp

set_option Elab.async false
set_option linter.all false
set_option maxRecDepth 100000
set_option maxHeartbeats 2000000
/-! promises about Files and Sites -/
namespace Wp
open PySem PySem.Spec PyProof.Rows L2
structure FdOk (F : Fd) : Prop where
  nm : ∀ z ∈ F.refs, Nm z
  nd : F.refs.Nodup
  h : Tk F.hold
  k : ∀ t ∈ F.keeps, Tk t
  few : F.keeps.length ≤ 4
  srt : so F.refs = F.refs
def sp_File_init (c : CA) : Sp := fun vs H Q _ => ∃ (p dx r k : Addr) (F : Fd), vs = [.ref p, .str (nmv F.own), .ref r, vt F.hold, .ref k] ∧ H p = some (.ins c.F dx []) ∧ H r = some (.tup (F.refs.map V.str)) ∧ H k = some (.tup (F.keeps.map vt)) ∧ FdOk F ∧
  ∀ H', FileAt c H' p F → But p H H' → Q .non H'
def sp_File_naming (c : CA) : Sp := fun vs H Q _ => ∃ (p : Addr) (F : Fd), vs = [.ref p] ∧ FileAt c H p F ∧ Q (.str (nmv F.own)) H
def sp_File_refers (c : CA) : Sp := fun vs H Q _ => ∃ (p : Addr) (F : Fd), vs = [.ref p] ∧ FileAt c H p F ∧ ∀ r, H r = some (.tup (F.refs.map V.str)) → Q (.ref r) H
def sp_File_hold (c : CA) : Sp := fun vs H Q _ => ∃ (p : Addr) (F : Fd), vs = [.ref p] ∧ FileAt c H p F ∧ Q (vt F.hold) H
def sp_File_keeps (c : CA) : Sp := fun vs H Q _ => ∃ (p : Addr) (F : Fd), vs = [.ref p] ∧ FileAt c H p F ∧ ∀ k, H k = some (.tup (F.keeps.map vt)) → Q (.ref k) H
end Wp

set_option Elab.async false
set_option linter.all false
set_option maxRecDepth 100000
set_option maxHeartbeats 2000000
/-! comparisons of lists of names; promises about the graph of files -/
namespace Wp
open PySem PySem.Spec PyProof.Rows L2
theorem strs_ok {li : List Str} (h : ∀ z ∈ li, Nm z) : PyData.canLayAll0 (li.map PyData.str) = true ∧ PyData.depthAll (li.map PyData.str) = 0 := by
  induction li with
  | nil => exact ⟨rfl, rfl⟩
  | cons x r ih =>
    obtain ⟨i1, i2⟩ := ih fun z hz => h z (List.mem_cons_of_mem _ hz)
    have : ∀ z ∈ names8, PyData.canLay0 (.str z) = true := by decide +kernel
    refine ⟨?_, ?_⟩
    · show (PyData.canLay0 (.str x) && PyData.canLayAll0 (r.map PyData.str)) = true
      rw [this x (h x List.mem_cons_self), i1]
      rfl
    · show max 0 (PyData.depthAll (r.map PyData.str)) = 0
      rw [i2]
      rfl
theorem shaped_strs {li : List Str} (h : ∀ z ∈ li, Nm z) : SeqAt.shaped (.list (li.map PyData.str)) = true := by
  obtain ⟨a, b⟩ := strs_ok h
  unfold SeqAt.shaped
  have e1 : PyData.canLay0 (.list (li.map PyData.str)) = true := a
  have e2 : PyData.depth (.list (li.map PyData.str)) = 1 := by show PyData.depthAll _ + 1 = 1; rw [b]
  rw [e1, e2]
  rfl
theorem ints_ok : ∀ ns : List Int, PyData.canLayAll0 (ns.map PyData.int) = true ∧ PyData.depthAll (ns.map PyData.int) = 0
  | [] => ⟨rfl, rfl⟩
  | n :: r => by
    obtain ⟨a, b⟩ := ints_ok r
    refine ⟨?_, ?_⟩
    · show (true && PyData.canLayAll0 (r.map PyData.int)) = true
      rw [a]
      rfl
    · show max 0 (PyData.depthAll (r.map PyData.int)) = 0
      rw [b]
      rfl
theorem shaped_ints (ns : List Int) : SeqAt.shaped (.list (ns.map PyData.int)) = true := by
  obtain ⟨a, b⟩ := ints_ok ns
  unfold SeqAt.shaped
  have e1 : PyData.canLay0 (.list (ns.map PyData.int)) = true := a
  have e2 : PyData.depth (.list (ns.map PyData.int)) = 1 := by show PyData.depthAll _ + 1 = 1; rw [b]
  rw [e1, e2]
  rfl
theorem dp_strs {K : PySem.W.Frag} {H : Hp} : ∀ li : List Str, DpAll K H (li.map V.str) (li.map PyData.str)
  | [] => .nil
  | x :: r => .cons (.str x) (dp_strs r)
theorem dp_ints {K : PySem.W.Frag} {H : Hp} : ∀ li : List Int, DpAll K H (li.map V.int) (li.map PyData.int)
  | [] => .nil
  | x :: r => .cons (.int x) (dp_ints r)
theorem eqvAll_nil : ∀ l : List PyData, PyData.eqvAll l [] = l.isEmpty
  | [] => rfl
  | _ :: _ => rfl
/-- xs != [], a list of names -/
theorem rNe_nil {K : PySem.W.Frag} {H : Hp} {a b : Addr} {li : List Str} {Q : VK} (ha : SqL K H a (li.map V.str)) (hb : H b = some (.lst [])) (nm : ∀ z ∈ li, Nm z) (q : Q (.bl (!li.isEmpty)) H) : rNeD K (.ref a) (.ref b) H Q := by
  refine ⟨_, _, .lst ha (dp_strs li), .lst (SqL.of hb) .nil, shaped_strs nm, rfl, ?_⟩
  show Q (.bl (!PyData.eqvAll (li.map PyData.str) [])) H
  rw [eqvAll_nil]
  cases li <;> exact q
theorem rNe_nilI {K : PySem.W.Frag} {H : Hp} {a b : Addr} {li : List Int} {Q : VK} (ha : SqL K H a (li.map V.int)) (hb : H b = some (.lst [])) (q : Q (.bl (!li.isEmpty)) H) : rNeD K (.ref a) (.ref b) H Q := by
  refine ⟨_, _, .lst ha (dp_ints li), .lst (SqL.of hb) .nil, shaped_ints li, rfl, ?_⟩
  show Q (.bl (!PyData.eqvAll (li.map PyData.int) [])) H
  rw [eqvAll_nil]
  cases li <;> exact q
/-! ### the graph of the files -/
structure Gr (ns : List Str) (fd : Str → Fd) : Prop where
  nm : ∀ z ∈ ns, Nm z
  nd : ns.Nodup
  ok : ∀ z ∈ ns, FdOk (fd z)
  cl : ∀ z ∈ ns, ∀ y ∈ (fd z).refs, y ∈ ns
  rank : ∃ r : Str → Nat, ∀ z ∈ ns, ∀ y ∈ (fd z).refs, r z < r y
def sp_all_below (c : CA) : Sp := fun vs H Q _ => ∃ (d : Addr) (n : Str) (ns : List Str) (fd : Str → Fd), vs = [.ref d, .str n] ∧ FilesAt c H d ns fd ∧ Gr ns fd ∧ n ∈ ns ∧
  ∀ (H' : Hp) (p : Addr) (fo : List Str), Same H H' → H p = none → H' p = some (.dK (fo.map fun z => (Sum.inr z, V.bl true))) → n ∉ fo → Q (.ref p) H'
/-- a forest below e: no file of S is referred to twice from S, and e from none -/
structure Tr (S : List Str) (fd : Str → Fd) (e : Str) : Prop where
  root : e ∈ S
  nd : S.Nodup
  nm : ∀ z ∈ S, Nm z
  cl : ∀ z ∈ S, ∀ y ∈ (fd z).refs, y ∈ S
  rn : ∀ z ∈ S, (fd z).refs.Nodup
  one : ∀ z ∈ S, ∀ x ∈ S, ∀ y, y ∈ (fd z).refs → y ∈ (fd x).refs → z = x
  top : ∀ z ∈ S, e ∉ (fd z).refs
def sp_tree_below (c : CA) : Sp := fun vs H Q _ => ∃ (d : Addr) (e : Str) (ns : List Str) (fd : Str → Fd) (S : List Str), vs = [.ref d, .str e] ∧ FilesAt c H d ns fd ∧ (∀ z ∈ S, z ∈ ns) ∧ Tr S fd e ∧
  ∀ H' p, Same H H' → H p = none → (∃ kvs, H' p = some (.dK kvs)) → Q (.ref p) H'
theorem fval {c : CA} {H : Hp} {d : Addr} {ns : List Str} {fd : Str → Fd} {z : Str} (h : FilesAt c H d ns fd) (hz : z ∈ ns) : ∃ p, DGet H d (.str z) (some (.ref p)) ∧ FileAt c H p (fd z) := by
  obtain ⟨ps, h1, h2⟩ := h
  refine ⟨ps z, ?_, h2 z hz⟩
  have := DGet.k (k := Sum.inr z) h1
  rw [valK_map, if_pos hz] at this
  exact this
theorem fval_in {c : CA} {H : Hp} {d : Addr} {ns : List Str} {fd : Str → Fd} {z : Str} (h : FilesAt c H d ns fd) : ∃ o, DGet H d (.str z) o ∧ o.isSome = decide (z ∈ ns) := by
  obtain ⟨ps, h1, h2⟩ := h
  refine ⟨_, DGet.k (k := Sum.inr z) h1, ?_⟩
  rw [valK_map]
  by_cases q : z ∈ ns
  · rw [if_pos q, decide_eq_true q]
    rfl
  · rw [if_neg q, decide_eq_false q]
    rfl
theorem valV_none {kvs : List (Key × V)} {k : Key} (h : k ∉ kvs.map (·.1)) : valV kvs k = none := by
  cases q : valV kvs k with
  | none => rfl
  | some v =>
    obtain ⟨p, hp, _⟩ := Option.map_eq_some_iff.mp q
    exact absurd (List.mem_map.mpr ⟨p, List.mem_of_find?_eq_some hp, by simpa using List.find?_some hp⟩) h
theorem upd_comm {H : Hp} {a b : Addr} {o u : HO} (h : a ≠ b) : upd (upd H a o) b u = upd (upd H b u) a o := by
  funext x
  unfold upd
  by_cases h1 : x = b
  · by_cases h2 : x = a
    · exact absurd (h2.symm.trans h1) h
    · simp [h1, h2, Ne.symm h]
  · simp [h1]
end Wp

set_option Elab.async false
set_option linter.all false
set_option maxRecDepth 100000
set_option maxHeartbeats 2000000
/-! loops that change nothing; promises about Sites -/
namespace Wp
open PySem PySem.Spec PyProof.Rows L2
theorem forS {J : It} {n : Nat} {G : Hp → Prop} {Y : Nat → Hp → V → Hp → Prop} (w : Walk J n G Y) {i : Nat} {tb : TS} {D : Ends} {σ : L2.St} {H : Hp} (hi : i < σ.length) (hG : ∀ H', Same H H' → G H') (hY : ∀ i H x H', Y i H x H' → H' = H)
    (hs : ∀ j x H2, j < n → Same H H2 → Y j H2 x H2 → ∀ k : L2.St → Hp → Prop, (∀ H3, Same H2 H3 → k (σ.set i (some x)) H3) → tb { D with nx := k, ct := k, bk := D.nx } (σ.set i (some x)) H2) (hd : ∀ (v : Option V) H2, Same H H2 → D.nx (σ.set i v) H2) :
    ∃ W : Nat → Nat → L2.St → Hp → Prop, (∃ m, W 0 m σ H) ∧ ∀ j m σ H, W j m σ H →
      (J.stop j H ∧ D.nx σ H) ∨ (J.go j H ∧ ∃ N : L2.St → Hp → Prop, (∀ σ' H', N σ' H' → ∃ m', m' < m ∧ W (j + 1) m' σ' H') ∧ ∀ x H', J.yld j H x H' → gName i x σ H' fun σ2 H2 => tb { D with nx := N, ct := N, bk := D.nx } σ2 H2) := by
  have e0 : σ = σ.set i σ[i] := (List.set_getElem_self hi).symm
  refine for_it w (fun _ σ' H' => ∃ v : Option V, σ' = σ.set i v ∧ Same H H') ⟨σ[i], e0, Same.refl H⟩ (fun _ _ H' _ ⟨_, _, s⟩ => hG H' s) ?_ ?_
  · rintro j x σ' H2 H3 hj ⟨v, rfl, s⟩ y
    obtain rfl := hY j H2 x H3 y
    have := hs j x H3 hj s y (fun σ'' H'' => ∃ v : Option V, σ'' = σ.set i v ∧ Same H H'') fun H4 s4 => ⟨some x, rfl, s.trans s4⟩
    show tb _ ((σ.set i v).set i (some x)) H3
    rw [List.set_set]
    exact this
  · rintro σ' H2 ⟨v, rfl, s⟩
    exact hd v H2 s
theorem inV_str (z : Str) (l : List Str) : inV (.str z) (l.map V.str) = decide (z ∈ l) := by
  induction l with
  | nil => rfl
  | cons a r ih =>
    have e : inV (.str z) ((a :: r).map V.str) = (eqV (.str a) (.str z) || inV (.str z) (r.map V.str)) := rfl
    rw [e, ih]
    by_cases h : a = z
    · subst h
      simp [eqV]
    · have h2 : ¬ z = a := fun q => h q.symm
      simp [eqV, h, h2]
def sp_need_files (c : CA) : Sp := fun vs H Q _ => ∃ (d : Addr) (ns : List Str) (fd : Str → Fd) (kc : Nat), vs = [.ref d] ∧ FilesAt c H d ns fd ∧ Gr ns fd ∧ 1 ≤ ns.length ∧ (∀ n ∈ ns, (fd n).keeps.length = kc) ∧ ∀ H', Same H H' → Q .non H'
def sp_is_entries (c : CA) : Sp := fun vs H Q _ => ∃ (d a : Addr) (ns : List Str) (fd : Str → Fd) (es : List Str), vs = [.ref d, .ref a] ∧ FilesAt c H d ns fd ∧ (∀ z ∈ ns, Nm z) ∧ H a = some (.tup (es.map V.str)) ∧ es.Nodup ∧ es ≠ [] ∧ (∀ e ∈ es, e ∈ ns ∧ (fd e).own = false) ∧ ∀ H', Same H H' → Q (.bl true) H'
end Wp

set_option Elab.async false
set_option linter.all false
set_option maxRecDepth 100000
set_option maxHeartbeats 2000000
/-! Sites -/
namespace Wp
open PySem PySem.Spec PyProof.Rows L2
structure Si where
  ns : List Str
  fd : Str → Fd
  es : List Str
  own : Bool
abbrev cnv (b : Bool) : Str := if b = true then "own" else "whole"
structure SiOk (S : Si) : Prop where
  g : Gr S.ns S.fd
  one : 1 ≤ S.ns.length
  kc : ∃ kc, ∀ n ∈ S.ns, (S.fd n).keeps.length = kc
  nd : S.es.Nodup
  ne : S.es ≠ []
  pl : ∀ e ∈ S.es, e ∈ S.ns ∧ (S.fd e).own = false
  tr : ∀ e ∈ S.es, ∃ S', (∀ z ∈ S', z ∈ S.ns) ∧ Tr S' S.fd e
def siteF (f t : Addr) (own : Bool) : List (Str × V) := [("own_files", .ref f), ("own_trees", .ref t), ("own_counts", .str (cnv own))]
def SiteAt (c : CA) (H : Hp) (s : Addr) (S : Si) : Prop := ∃ dx f t, H s = some (.ins c.S dx (siteF f t S.own)) ∧ FilesAt c H f (so S.ns) S.fd ∧ ∃ tv : Str → V, H t = some (.dK ((so S.es).map fun e => (Sum.inr e, tv e)))
theorem SiteAt.fr {c : CA} {P : HO → Prop} {H H' : Hp} {s : Addr} {S : Si} (f : Fr P H H') (h0 : ∀ dx fs, P (.ins c.S dx fs)) (h1 : ∀ dx fs, P (.ins c.F dx fs)) (h2 : ∀ xs, P (.tup xs)) (h3 : ∀ kvs, P (.dK kvs)) (h : SiteAt c H s S) : SiteAt c H' s S := by
  obtain ⟨dx, fi, t, a, b, tv, d⟩ := h
  exact ⟨dx, fi, t, f _ _ a (h0 _ _), b.fr f h1 h2 h3, tv, f _ _ d (h3 _)⟩
theorem SiteAt.same {c : CA} {H H' : Hp} {s : Addr} {S : Si} (f : Same H H') (h : SiteAt c H s S) : SiteAt c H' s S := h.fr (P := fun _ => True) (.of f) (fun _ _ => trivial) (fun _ _ => trivial) (fun _ => trivial) (fun _ => trivial)
def refA : V → Addr
  | .ref p => p
  | _ => 0
theorem files_gv {c : CA} {H : Hp} {f : Addr} {ns : List Str} {fd : Str → Fd} {gv : Str → V} (h : H f = some (.dK (ns.map fun z => (Sum.inr z, gv z)))) (hg : ∀ z ∈ ns, ∃ p, gv z = .ref p ∧ FileAt c H p (fd z)) : FilesAt c H f ns fd := by
  refine ⟨fun z => refA (gv z), ?_, fun z hz => ?_⟩
  · rw [h]
    congr 2
    refine List.map_congr_left fun z hz => ?_
    obtain ⟨p, e, _⟩ := hg z hz
    show (Sum.inr z, gv z) = (Sum.inr z, V.ref (refA (gv z)))
    rw [e]
    rfl
  · obtain ⟨p, e, hp⟩ := hg z hz
    show FileAt c H (refA (gv z)) (fd z)
    rw [e]
    exact hp
def sp_Site_init (c : CA) : Sp := fun vs H Q _ => ∃ (s dx d a : Addr) (S : Si), vs = [.ref s, .ref d, .ref a, .str (cnv S.own)] ∧ H s = some (.ins c.S dx []) ∧ FilesAt c H d S.ns S.fd ∧ H a = some (.tup (S.es.map V.str)) ∧ SiOk S ∧ ∀ H', SiteAt c H' s S → But s H H' → Q .non H'
def sp_Site_entries (c : CA) : Sp := fun vs H Q _ => ∃ (s : Addr) (S : Si), vs = [.ref s] ∧ SiteAt c H s S ∧ ∀ H' p, Same H H' → H' p = some (.tup ((so S.es).map V.str)) → Q (.ref p) H'
def sp_Site_counts (c : CA) : Sp := fun vs H Q _ => ∃ (s : Addr) (S : Si), vs = [.ref s] ∧ SiteAt c H s S ∧ Q (.str (cnv S.own)) H
def sp_Site_caches (c : CA) : Sp := fun vs H Q _ => ∃ (s : Addr) (S : Si) (kc : Nat), vs = [.ref s] ∧ SiteAt c H s S ∧ SiOk S ∧ (∀ n ∈ S.ns, (S.fd n).keeps.length = kc) ∧ ∀ H', Same H H' → Q (.int kc) H'
def sp_Site_has (c : CA) : Sp := fun vs H Q _ => ∃ (s : Addr) (S : Si) (z : Str), vs = [.ref s, .str z] ∧ SiteAt c H s S ∧ z ∈ so S.ns ∧ Q (.bl true) H
def sp_Site_item (c : CA) : Sp := fun vs H Q _ => ∃ (s : Addr) (S : Si) (z : Str), vs = [.ref s, .str z] ∧ SiteAt c H s S ∧ z ∈ so S.ns ∧ ∀ p, FileAt c H p (S.fd z) → Q (.ref p) H
def sp_Site_names (c : CA) : Sp := fun vs H Q _ => ∃ (s : Addr) (S : Si), vs = [.ref s] ∧ SiteAt c H s S ∧ ∀ p, H p = none → Q (.ref p) (upd H p (.lst ((so S.ns).map V.str)))
def sp_Site_need_file (c : CA) : Sp := fun vs H Q _ => ∃ (s : Addr) (S : Si) (z : Str), vs = [.ref s, .str z] ∧ SiteAt c H s S ∧ z ∈ so S.ns ∧ Q .non H
def sp_Site_need_names (K : PySem.W.Frag) (c : CA) : Sp := fun vs H Q _ => ∃ (s a : Addr) (S : Si) (z : Str), vs = [.ref s, .ref a] ∧ SiteAt c H s S ∧ H a = some (.tup [.str z]) ∧ z ∈ so S.ns ∧ ∀ H', Same H H' → Q .non H'
def sp_Site_closure (K : PySem.W.Frag) (c : CA) : Sp := fun vs H Q _ => ∃ (s a : Addr) (S : Si) (z : Str), vs = [.ref s, .ref a] ∧ SiteAt c H s S ∧ H a = some (.tup [.str z]) ∧ Nm z ∧ z ∈ so S.ns ∧ (S.fd z).own = false ∧ ∀ H' p, Same H H' → H' p = some (.tup [.str z]) → Q (.ref p) H'
end Wp

set_option Elab.async false
set_option linter.all false
set_option maxRecDepth 100000
set_option maxHeartbeats 2000000
/-! slices and sums of tuples in short; enumerate of a tuple -/
namespace Wp
open PySem PySem.Spec PyProof.Rows L2
theorem sIx_le (n d : Nat) (h : d ≤ n) (o : Option Int) (ho : ∀ v, o = some v → 0 ≤ v) : HT.sIx n d o ≤ n := by
  cases o with
  | none => exact h
  | some v =>
    have := ho v rfl
    show (if v < 0 then _ else min v.toNat n) ≤ n
    rw [if_neg (by omega)]
    exact Nat.min_le_right _ _
theorem cut_all {xs : List V} {lo hi : Option Int} (h : HT.sIx xs.length 0 lo = 0 ∧ HT.sIx xs.length xs.length hi = xs.length) : cutV xs lo hi = xs := by
  unfold cutV
  rw [h.1, h.2]
  simp
theorem slA {K : PySem.W.Frag} {H : Hp} {a : Addr} {xs : List V} {lo hi : Option Int} {Q : VK} (h : H a = some (.tup xs)) (q : ∀ p H', Same H H' → H' p = some (.tup (cutV xs lo hi)) → Q (.ref p) H') : rSlA K (.ref a) lo hi H Q := by
  refine ⟨a, xs, rfl, SqT.of h, fun w => ?_, fun _ p hp => q p _ (same_new hp) upd_same⟩
  exact q a H (Same.refl H) (by rw [cut_all w]; exact h)
theorem cut_to (xs : List V) (k : Nat) : cutV xs none (some (k : Int)) = xs.take k := by
  unfold cutV
  rw [HT.sIx_none, HT.sIx_nat]
  simp only [List.drop_zero, Nat.sub_zero]
  rw [List.take_eq_take_iff]
  omega
theorem cut_from (xs : List V) (k : Nat) : cutV xs (some (k : Int)) none = xs.drop k := by
  unfold cutV
  rw [HT.sIx_none, HT.sIx_nat]
  by_cases h : k ≤ xs.length
  · rw [Nat.min_eq_left h, List.take_of_length_le (by rw [List.length_drop]; omega)]
  · rw [Nat.min_eq_right (by omega), List.drop_length, List.drop_eq_nil_of_le (by omega)]
    simp
theorem catA {K : PySem.W.Frag} {H : Hp} {a b : Addr} {xs ys : List V} {Q : VK} (ha : H a = some (.tup xs)) (hb : H b = some (.tup ys)) (hz : xs.length + ys.length ≤ sizeLine) (q : ∀ p H', Same H H' → H' p = some (.tup (xs ++ ys)) → Q (.ref p) H') : rCatA K (.ref a) (.ref b) H Q := by
  refine ⟨a, b, xs, ys, rfl, rfl, SqT.of ha, SqT.of hb, hz, fun e => ?_, fun _ e => ?_, fun _ _ p hp => q p _ (same_new hp) upd_same⟩
  · exact q b H (Same.refl H) (by rw [e, List.nil_append]; exact hb)
  · exact q a H (Same.refl H) (by rw [e, List.append_nil]; exact ha)
theorem walk_enumT {K : PySem.W.Frag} {a : Addr} {xs : List V} : Walk (IteT K a) xs.length (fun H => SqT K H a xs) (YPair (fun i => some (.int (i : Nat))) (fun i => xs[i]?)) := by
  refine ⟨fun i _ hi q => ⟨xs, xs[i], q, by simp [hi]⟩, fun _ q => ⟨xs, q, rfl⟩, fun i H v H' _ q y => ?_⟩
  obtain ⟨T, x, h1, h2, h3, h4⟩ := y
  exact ⟨T, .int (i : Nat), x, h1, h2, h3, rfl, h4 xs q⟩
/-! ### rules by K, for the blocks of comprehensions -/
section
variable {X : Cx} {K : PySem.W.Frag} {P : Program} {w : World}
theorem lenK (e : X.K = K) : CallR X (.builtin "len") (fun xs H Q => ∃ p ys, xs = [.ref p] ∧ (SqL K H p ys ∨ SqT K H p ys) ∧ Q (.int ys.length) H) := by subst e; exact call_len_seq
theorem tupOfK (e : X.K = K) : CallR X (.type "tuple") (fun xs H Q => ∃ p ys, xs = [.ref p] ∧ ((SqL K H p ys ∧ ∀ l, H l = none → Q (.ref l) (upd H l (.tup ys))) ∨ (SqT K H p ys ∧ Q (.ref p) H))) := by subst e; exact call_tuple_of
theorem sortSK (e : X.K = K) : CallR X (.builtin "sorted") (rSortedS K) := by subst e; exact cr_sortedS
theorem sortTK (e : X.K = K) : CallR X (.builtin "sorted") (rSortT K) := by subst e; exact cr_sortT
theorem inSeqK (e : X.K = K) : OpR X (compareOp .In) (rIn K false) := by subst e; exact op_in_seq
theorem neDK (e : X.K = K) (hu : X.A.units + 64 < cLine) : OpR X (compareOp .NotEq) (rNeD K) := by subst e; exact op_neD hu
theorem ixTupK (e : X.K = K) : IxR X (rIxT K) := by subst e; exact ix_tup
theorem ixListK (e : X.K = K) : IxR X (rIxL K) := by subst e; exact ix_list
theorem piTupK (e : X.K = K) {tg l : Expr} {tl : TE} (h : PE X l tl) : PI X tg l (iTup K tl) := by subst e; exact pi_tup h
theorem piListK (e : X.K = K) {tg l : Expr} {tl : TE} (h : PE X l tl) : PI X tg l (iList K tl) := by subst e; exact pi_list h
theorem cpnewK (e : X.prog = P) (e2 : X.w = w) {pos : Pos} : PE X (.Dict [] [] pos) (tCpNew P w) := by subst e e2; exact pe_cpnew
end
end Wp

set_option Elab.async false
set_option linter.all false
set_option maxRecDepth 100000
set_option maxHeartbeats 2000000
/-! kinds, steps, Editions -/
namespace Wp
open PySem PySem.Spec PyProof.Rows L2
def sp_is_some_files (K : PySem.W.Frag) (c : CA) : Sp := fun vs H Q _ => ∃ (s a : Addr) (S : Si) (zs : List Str), vs = [.ref s, .ref a] ∧ SiteAt c H s S ∧ Sq K H a (zs.map V.str) ∧ zs ≠ [] ∧ zs.Nodup ∧ (∀ z ∈ zs, z ∈ so S.ns) ∧ ∀ H', Same H H' → Q (.bl true) H'
def sp_made_kinds (c : CA) : Sp := fun vs H Q _ => ∃ (s a b : Addr) (S : Si) (x : Str), vs = [.ref s, .ref a] ∧ SiteAt c H s S ∧ H a = some (.lst [.ref b]) ∧ H b = some (.lst [.str x]) ∧ x ∈ so S.ns ∧
  ∀ (H' : Hp) (p t : Addr), Same H H' → H' p = some (.tup [.ref t]) → H' t = some (.tup [.str x]) → Q (.ref p) H'
def sp_made_steps (c : CA) : Sp := fun vs H Q _ => ∃ (s a : Addr) (S : Si) (ps : List Addr), vs = [.ref s, .ref a] ∧ SiteAt c H s S ∧ S.ns ≠ [] ∧ H a = some (.lst (ps.map V.ref)) ∧ ps.length = (so S.ns).length ∧ (∀ (i : Nat) (p : Addr) (z : Str), ps[i]? = some p → (so S.ns)[i]? = some z → H p = some (.lst [.str z])) ∧
  ∀ (H' : Hp) (p : Addr) (ts : List V), Same H H' → H' p = some (.tup ts) → ts.length = (so S.ns).length → (∀ (i : Nat) (y : V) (z : Str), ts[i]? = some y → (so S.ns)[i]? = some z → ∃ t, y = .ref t ∧ H' t = some (.tup [.str z])) → Q (.ref p) H'
/-! ### Editions: of the site at s, changed at x or not yet -/
def edF (s ch nu : Addr) : List (Str × V) := [("own_site", .ref s), ("own_changed", .ref ch), ("own_numbers", .ref nu)]
def EdAt (c : CA) (H : Hp) (e s : Addr) (ch : Option Str) : Prop := ∃ dx cg nu t0 ts, H e = some (.ins c.E dx (edF s cg nu)) ∧ H cg = some (.tup (.ref t0 :: ts)) ∧ match ch with
  | none => ts = []
  | some x => ∃ t1, ts = [.ref t1] ∧ H t1 = some (.tup [.str x])
theorem EdAt.fr {c : CA} {P : HO → Prop} {H H' : Hp} {e s : Addr} {ch : Option Str} (f : Fr P H H') (h0 : ∀ dx fs, P (.ins c.E dx fs)) (h2 : ∀ xs, P (.tup xs)) (h : EdAt c H e s ch) : EdAt c H' e s ch := by
  obtain ⟨dx, cg, nu, t0, ts, a, b, d⟩ := h
  refine ⟨dx, cg, nu, t0, ts, f _ _ a (h0 _ _), f _ _ b (h2 _), ?_⟩
  cases ch with
  | none => exact d
  | some x =>
    obtain ⟨t1, e1, e2⟩ := d
    exact ⟨t1, e1, f _ _ e2 (h2 _)⟩
theorem EdAt.same {c : CA} {H H' : Hp} {e s : Addr} {ch : Option Str} (f : Same H H') (h : EdAt c H e s ch) : EdAt c H' e s ch := h.fr (P := fun _ => True) (.of f) (fun _ _ => trivial) (fun _ => trivial)
/-- the changes handed in: none, or one file that is plain -/
def ChAt (K : PySem.W.Frag) (H : Hp) (a : Addr) (S : Si) (ch : Option Str) : Prop := match ch with
  | none => SqT K H a []
  | some x => ∃ t, H a = some (.tup [.ref t]) ∧ H t = some (.tup [.str x]) ∧ x ∈ so S.ns ∧ (S.fd x).own = false
def sp_Ed_init (K : PySem.W.Frag) (c : CA) : Sp := fun vs H Q _ => ∃ (e dx s a : Addr) (S : Si) (ch : Option Str), vs = [.ref e, .ref s, .ref a] ∧ H e = some (.ins c.E dx []) ∧ SiteAt c H s S ∧ SiOk S ∧ ChAt K H a S ch ∧ ∀ H', EdAt c H' e s ch → But e H H' → Q .non H'
def sp_Ed_len (c : CA) : Sp := fun vs H Q _ => ∃ (e s : Addr) (ch : Option Str), vs = [.ref e] ∧ EdAt c H e s ch ∧ Q (.int (if ch.isSome = true then 2 else 1)) H
def sp_Ed_changed (c : CA) : Sp := fun vs H Q _ => ∃ (e s : Addr) (x : Str), vs = [.ref e, .int 1] ∧ EdAt c H e s (some x) ∧ ∀ t, H t = some (.tup [.str x]) → Q (.ref t) H
def sp_need_edition (c : CA) : Sp := fun vs H Q _ => ∃ (e s : Addr) (x : Str), vs = [.ref e, .int 1] ∧ EdAt c H e s (some x) ∧ Q .non H
def sp_Ed_with_change (K : PySem.W.Frag) (c : CA) : Sp := fun vs H Q _ => ∃ (e s a : Addr) (S : Si) (x : Str), vs = [.ref e, .ref a] ∧ EdAt c H e s none ∧ SiteAt c H s S ∧ SiOk S ∧ H a = some (.tup [.str x]) ∧ x ∈ so S.ns ∧ (S.fd x).own = false ∧ ∀ H' e', Same H H' → EdAt c H' e' s (some x) → Q (.ref e') H'
end Wp

set_option Elab.async false
set_option linter.all false
set_option maxRecDepth 100000
set_option maxHeartbeats 2000000
/-! what is no instance of a class stays while one is written -/
namespace Wp
open PySem PySem.Spec PyProof.Rows L2
def nI (C : Addr) (o : HO) : Prop := ∀ dx fs, o ≠ .ins C dx fs
theorem nI_tup {C : Addr} (xs : List V) : nI C (.tup xs) := fun _ _ h => nomatch h
theorem nI_lst {C : Addr} (xs : List V) : nI C (.lst xs) := fun _ _ h => nomatch h
theorem nI_dK {C : Addr} (kvs : List (Key × V)) : nI C (.dK kvs) := fun _ _ h => nomatch h
theorem nI_ext {C : Addr} (φ : Heap → Prop) : nI C (.ext φ) := fun _ _ h => nomatch h
theorem nI_ins {C D dx : Addr} {fs : List (Str × V)} (h : D ≠ C) : nI C (.ins D dx fs) := fun _ _ e => by
  injection e with e1
  exact h e1
theorem But.nI {e C dx : Addr} {fs : List (Str × V)} {H H' : Hp} (b : But e H H') (h : H e = some (.ins C dx fs)) : Fr (nI C) H H' := fun p o hp hn => b p o hp fun q => by
  subst q
  rw [h] at hp
  exact hn _ _ (Option.some.inj hp).symm
theorem SiteAt.nI {c : CA} {C : Addr} {H H' : Hp} {s : Addr} {S : Si} (f : Fr (Wp.nI C) H H') (h1 : c.S ≠ C) (h2 : c.F ≠ C) (h : SiteAt c H s S) : SiteAt c H' s S := h.fr f (fun _ _ => nI_ins h1) (fun _ _ => nI_ins h2) nI_tup nI_dK
theorem EdAt.nI {c : CA} {C : Addr} {H H' : Hp} {e s : Addr} {ch : Option Str} (f : Fr (Wp.nI C) H H') (h1 : c.E ≠ C) (h : EdAt c H e s ch) : EdAt c H' e s ch := h.fr f (fun _ _ => nI_ins h1) nI_tup
theorem seqT_nI {K : PySem.W.Frag} {C : Addr} {H H' : Hp} {a : Addr} {xs : List V} (e : Fr (Wp.nI C) H H') (h : SqT K H a xs) : SqT K H' a xs := by
  rcases h with (h | ⟨o, h⟩) | h
  · exact .inl (.inl (e _ _ h (nI_tup _)))
  · exact .inl (.inr ⟨o, e _ _ h (fun _ _ z => nomatch z)⟩)
  · exact .inr h
theorem mk_same {H : Hp} {x dx C : Addr} (nx : H x = none) (nd : H dx = none) : Same H (upd (upd H dx (.own x)) x (.ins C dx [])) := fun b o e => by
  rw [upd_ne (ne_of_none e nx), upd_ne (ne_of_none e nd)]
  exact e
theorem But.back {x : Addr} {H H1 H' : Hp} (b : But x H1 H') (s : Same H H1) (n : H x = none) : Same H H' := fun p o h => b p o (s p o h) (ne_of_none h n)
end Wp

set_option Elab.async false
set_option linter.all false
set_option maxRecDepth 100000
set_option maxHeartbeats 2000000
/-! copies, visits, nets -/
namespace Wp
open PySem PySem.Spec PyProof.Rows L2
structure Cp where
  con : Int
  got : Int
  giv : Int
def copyF (p : Cp) : List (Str × V) := [("contents", .int p.con), ("got", .int p.got), ("given", .int p.giv)]
def CopyAt (c : CA) (H : Hp) (a : Addr) (p : Cp) : Prop := ∃ dx, H a = some (.ins c.C dx (copyF p))
def sp_Copy_init (c : CA) : Sp := fun vs H Q _ => ∃ (a dx : Addr) (p : Cp), vs = [.ref a, .int p.con, .int p.got, .int p.giv] ∧ H a = some (.ins c.C dx []) ∧ ∀ H', CopyAt c H' a p → But a H H' → Q .non H'
def visF (x : Str) (pg l : Addr) : List (Str × V) := [("entry", .str x), ("pages", .ref pg), ("lost", .ref l)]
def sp_Visit_init (c : CA) : Sp := fun vs H Q _ => ∃ (a dx : Addr) (x : Str) (pg l : Addr), vs = [.ref a, .str x, .ref pg, .ref l] ∧ H a = some (.ins c.V dx []) ∧ ∀ H' dy, H' a = some (.ins c.V dy (visF x pg l)) → But a H H' → Q .non H'
def VisAt (c : CA) (H : Hp) (v : Addr) (x : Str) (con : Int) : Prop := ∃ dx pg l t tk, H v = some (.ins c.V dx (visF x pg l)) ∧ H pg = some (.dK [(Sum.inr x, .ref t)]) ∧ H t = some (.tup [.int con, .int tk])
/-- a cache's dict: nothing, or one copy -/
def CpAt (P : Program) (w : World) (c : CA) (H : Hp) (d : Addr) (x : Str) (o : Option Cp) : Prop := ∃ q : Option (Addr × Addr), H d = some (CpO P w d x q) ∧ KtAt H x q ∧ match o with
  | none => q = none
  | some p => ∃ kt ca, q = some (kt, ca) ∧ CopyAt c H ca p
structure Ns where
  tick : Int
  ph : Nat
  cps : List (Option Cp)
  vis : List Int
def netF (k st s : Addr) (tick : Int) (e lf fi be sv co vi : Addr) : List (Str × V) := [("own_kinds", .ref k), ("own_steps", .ref st), ("own_site", .ref s), ("own_tick", .int tick), ("own_editions", .ref e), ("own_left", .ref lf), ("own_finished", .ref fi), ("own_begun", .ref be), ("own_server", .ref sv), ("own_copies", .ref co), ("own_visits", .ref vi)]
def srvN (ph : Nat) : Int := if ph = 2 then 1 else 0
/-- what the net's fields hold; k .. vi: the addresses -/
structure NetIn (P : Program) (w : World) (c : CA) (H : Hp) (s : Addr) (S : Si) (x : Str) (N : Ns) (k st e lf fi be sv co vi : Addr) : Prop where
  site : SiteAt c H s S
  kinds : ∃ k0, H k = some (.tup [.ref k0]) ∧ H k0 = some (.tup [.str x])
  steps : ∃ ts : List V, H st = some (.tup ts) ∧ ts.length = (so S.ns).length ∧ ∀ (i : Nat) (y : V) (z : Str), ts[i]? = some y → (so S.ns)[i]? = some z → ∃ t, y = .ref t ∧ H t = some (.tup [.str z])
  eds : EdAt c H e s (if N.ph = 0 then none else some x)
  left : if N.ph = 1 then ∃ l1, H lf = some (.tup [.ref l1]) ∧ H l1 = some (.tup [.str x]) else H lf = some (.tup [])
  fin : ∃ fs, H fi = some (.tup fs) ∧ fs.length ≤ 1 ∧ (N.ph < 2 → fs = [])
  beg : H be = some (.tup (if N.ph = 0 then [] else [.int 0]))
  srv : ∃ gv : Str → V, H sv = some (.dK ((so S.ns).map fun z => (Sum.inr z, gv z))) ∧ ∃ t, gv x = .ref t ∧ H t = some (.tup [.int (srvN N.ph)])
  cops : ∃ ds : List Addr, H co = some (.tup (ds.map V.ref)) ∧ ds.length = N.cps.length ∧ ∀ (i : Nat) (d : Addr) (o : Option Cp), ds[i]? = some d → N.cps[i]? = some o → CpAt P w c H d x o
  viss : ∃ vs : List Addr, H vi = some (.tup (vs.map V.ref)) ∧ vs.length = N.vis.length ∧ ∀ (i : Nat) (v : Addr) (n : Int), vs[i]? = some v → N.vis[i]? = some n → VisAt c H v x n
def NetAt (P : Program) (w : World) (c : CA) (H : Hp) (n s : Addr) (S : Si) (x : Str) (N : Ns) : Prop := ∃ dx k st e lf fi be sv co vi, H n = some (.ins c.N dx (netF k st s N.tick e lf fi be sv co vi)) ∧ NetIn P w c H s S x N k st e lf fi be sv co vi
/-- what holds of the site, the entry and the net beside the heap -/
structure NOk (S : Si) (x : Str) (N : Ns) : Prop where
  ok : SiOk S
  ent : x ∈ S.es
  ph : N.ph ≤ 2
  cs : N.cps.length = (S.fd x).keeps.length
  vs : N.vis.length ≤ 1000
theorem NOk.ns {S : Si} {x : Str} {N : Ns} (o : NOk S x N) : x ∈ so S.ns := (so_mem o.ok.g.nm x).mpr (o.ok.pl x o.ent).1
theorem NOk.pl {S : Si} {x : Str} {N : Ns} (o : NOk S x N) : (S.fd x).own = false := (o.ok.pl x o.ent).2
theorem NOk.few {S : Si} {x : Str} {N : Ns} (o : NOk S x N) : N.cps.length ≤ 4 := by rw [o.cs]; exact (o.ok.g.ok x (o.ok.pl x o.ent).1).few
section
variable {P : Program} {w : World} {c : CA} {H H' : Hp}
theorem CopyAt.fr {R : HO → Prop} (f : Fr R H H') (h0 : ∀ dx fs, R (.ins c.C dx fs)) {a : Addr} {p : Cp} (h : CopyAt c H a p) : CopyAt c H' a p := let ⟨dx, h⟩ := h; ⟨dx, f _ _ h (h0 _ _)⟩
theorem CpAt.fr {R : HO → Prop} (f : Fr R H H') (h0 : ∀ dx fs, R (.ins c.C dx fs)) (h1 : ∀ xs, R (.tup xs)) (h2 : ∀ φ, R (.ext φ)) {d : Addr} {x : Str} {o : Option Cp} (h : CpAt P w c H d x o) : CpAt P w c H' d x o := by
  obtain ⟨q, a, b, r⟩ := h
  refine ⟨q, f _ _ a (h2 _), fun kt ca e => f _ _ (b kt ca e) (h1 _), ?_⟩
  cases o with
  | none => exact r
  | some p =>
    obtain ⟨kt, ca, e, h⟩ := r
    exact ⟨kt, ca, e, h.fr f h0⟩
theorem VisAt.fr {R : HO → Prop} (f : Fr R H H') (h0 : ∀ dx fs, R (.ins c.V dx fs)) (h1 : ∀ xs, R (.tup xs)) (h2 : ∀ kvs, R (.dK kvs)) {v : Addr} {x : Str} {n : Int} (h : VisAt c H v x n) : VisAt c H' v x n := by
  obtain ⟨dx, pg, l, t, tk, a, b, d⟩ := h
  exact ⟨dx, pg, l, t, tk, f _ _ a (h0 _ _), f _ _ b (h2 _), f _ _ d (h1 _)⟩
theorem NetIn.fr {w' : World} {mg : Str → Option Value} {K : PySem.W.Frag} (T : Txt K w' mg c) (f : Fr (nI c.N) H H') {s : Addr} {S : Si} {x : Str} {N : Ns} {k st e lf fi be sv co vi : Addr} (h : NetIn P w c H s S x N k st e lf fi be sv co vi) : NetIn P w c H' s S x N k st e lf fi be sv co vi := by
  refine ⟨h.site.nI f T.neSN T.neFN, ?_, ?_, h.eds.nI f T.neEN, ?_, ?_, f _ _ h.beg (nI_tup _), ?_, ?_, ?_⟩
  · obtain ⟨k0, a, b⟩ := h.kinds
    exact ⟨k0, f _ _ a (nI_tup _), f _ _ b (nI_tup _)⟩
  · obtain ⟨ts, a, b, d⟩ := h.steps
    refine ⟨ts, f _ _ a (nI_tup _), b, fun i y z e1 e2 => ?_⟩
    obtain ⟨t, e3, e4⟩ := d i y z e1 e2
    exact ⟨t, e3, f _ _ e4 (nI_tup _)⟩
  · have := h.left
    split
    · rename_i hp
      rw [if_pos hp] at this
      obtain ⟨l1, a, b⟩ := this
      exact ⟨l1, f _ _ a (nI_tup _), f _ _ b (nI_tup _)⟩
    · rename_i hp
      rw [if_neg hp] at this
      exact f _ _ this (nI_tup _)
  · obtain ⟨fs, a, b, d⟩ := h.fin
    exact ⟨fs, f _ _ a (nI_tup _), b, d⟩
  · obtain ⟨gv, a, t, b, d⟩ := h.srv
    exact ⟨gv, f _ _ a (nI_dK _), t, b, f _ _ d (nI_tup _)⟩
  · obtain ⟨ds, a, b, d⟩ := h.cops
    exact ⟨ds, f _ _ a (nI_tup _), b, fun i x o e1 e2 => (d i x o e1 e2).fr f (fun _ _ => nI_ins T.neCN) nI_tup nI_ext⟩
  · obtain ⟨vs, a, b, d⟩ := h.viss
    exact ⟨vs, f _ _ a (nI_tup _), b, fun i v n e1 e2 => (d i v n e1 e2).fr f (fun _ _ => nI_ins T.neVN) nI_tup nI_dK⟩
theorem NetAt.same {w' : World} {mg : Str → Option Value} {K : PySem.W.Frag} (T : Txt K w' mg c) (f : Same H H') {n s : Addr} {S : Si} {x : Str} {N : Ns} (h : NetAt P w c H n s S x N) : NetAt P w c H' n s S x N := by
  obtain ⟨dx, k, st, e, lf, fi, be, sv, co, vi, a, b⟩ := h
  exact ⟨dx, k, st, e, lf, fi, be, sv, co, vi, f _ _ a, b.fr T (.of f)⟩
end
end Wp

set_option Elab.async false
set_option linter.all false
set_option maxRecDepth 100000
set_option maxHeartbeats 2000000
/-! deeds -/
namespace Wp
open PySem PySem.Spec PyProof.Rows L2
/-- d.get(k, v) of a written dict, the key there -/
def tKGet (K : PySem.W.Frag) (w : World) (td ty tx : TE) : TE := fun σ H Q => td σ H fun x H1 => ∃ p, x = .ref p ∧ (p == sysModules) = false ∧ (∃ es n, K.lookup p = some ⟨.type "dict", none, .dict es n, #[]⟩) ∧ ty σ H1 fun y H2 => tx σ H2 fun z H3 => ∃ k v, y = .str k ∧ KDct K w p k v ∧ Q v H3
theorem pe_kget2 {X : Cx} {o e f : Expr} {apos cpos : Pos} {td ty tx : TE} (ho : PE X o td) (he : PE X e ty) (hf : PE X f tx) (m : M2 X o "get" apos e f cpos) : PE X (.Call (.Attribute o "get" apos) [e, f] [] cpos) (tKGet X.K X.w td ty tx) := by
  refine ⟨fun pins s σ H Q I h => ?_⟩
  refine wpAny_Call_method m.base m.few m.line PySem.F.plainAttrs_dict PySem.F.slot_dict_get PySem.F.type_dict_get (thn (ho.run pins s σ H _ I h) fun u s1 ⟨x, H1, I1, rx, p, ex, low, ⟨es, n, lk⟩, q1⟩ => ?_)
  subst ex
  obtain rfl : u = Value.ref p := rx
  have hp := I1.kIn _ _ lk
  refine ⟨⟨_, hp, rfl⟩, fun b e => by cases e; exact ⟨_, hp, rfl⟩, ?_⟩
  rw [m.trees]
  refine Calls.callWith_builtin rfl (Calls.evalArgs_plain (Calls.spliced_cons (thn (he.run pins s1 σ H1 _ I1 q1) fun iv s2 ⟨y, H2, I2, ry, q2⟩ =>
    Calls.spliced_cons (thn (hf.run pins s2 σ H2 _ I2 q2) fun fv s3 ⟨z, H3, I3, rz, k, v, ey, kd, q3⟩ => Calls.spliced_nil ?_))))
  subst ey
  obtain ⟨es', n', u0, lk', lit, hu, rv⟩ := kd
  obtain ⟨t, rfl⟩ := ry
  have mo := PySem.W.mapOf_K (prog := X.prog) (w := X.w) I3.kIn lk' lit
  refine call_meetsIn PySem.F.slot_dict_get mo.typeIs PySem.F.entry_dict_get (PySem.F.args_dict_get_3 _ _ _) (meets_dict_get_default (strKind X.prog X.w) p (strKind_is X.prog X.w k t) low fv) ⟨_, mo, ?_⟩
  rw [PySem.W.find_K lk' hu]
  exact ⟨v, H3, I3.tok _, rv, q3⟩
inductive Dd where
  | opn
  | beg
  | stp
  | wai (t : Int)
  | los (i : Nat) (con : Int)
def ddV (x : Str) : Dd → List V
  | .opn => [.str "open", .str x]
  | .beg => [.str "begin", .int 0]
  | .stp => [.str "step"]
  | .wai t => [.str "wait", .int t]
  | .los i con => [.str "lose", .int i, .str x, .int con]
def PosD (N : Ns) : Dd → Prop
  | .opn => True
  | .beg => N.ph = 0
  | .stp => N.ph = 1
  | .wai t => 1 ≤ t ∧ t ≤ 20000
  | .los i con => ∃ p, N.cps[i]? = some (some p) ∧ p.con = con
def freshB (own : Bool) (tick : Int) (kp : Option Int) (p : Cp) : Bool := match kp with
  | none => true
  | some k => decide (tick - (if own = true then p.got else p.giv) ≤ k)
def sp_is_deed_form : Sp := fun vs H Q _ => ∃ (a : Addr) (x : Str) (d : Dd), vs = [.ref a] ∧ H a = some (.tup (ddV x d)) ∧ Q (.bl true) H
def sp_is_index : Sp := fun vs H Q _ => ∃ (n m : Int), vs = [.int n, .int m] ∧ 0 ≤ n ∧ n < m ∧ Q (.bl true) H
def sp_copy_key (P : Program) (w : World) (c : CA) : Sp := fun vs H Q _ => ∃ (n s : Addr) (S : Si) (x : Str) (N : Ns) (v : V), vs = [.ref n, .str x, v] ∧ NetAt P w c H n s S x N ∧ NOk S x N ∧ ∀ H' p, Same H H' → H' p = some (.tup [.str x, .non]) → Q (.ref p) H'
def sp_is_fresh (P : Program) (w : World) (c : CA) : Sp := fun vs H Q _ => ∃ (n s a : Addr) (S : Si) (x : Str) (N : Ns) (i : Nat) (kp : Option Int) (p : Cp), vs = [.ref n, .int i, .str x, .ref a] ∧ NetAt P w c H n s S x N ∧ NOk S x N ∧ (S.fd x).keeps[i]? = some kp ∧ CopyAt c H a p ∧ Q (.bl (freshB S.own N.tick kp p)) H
def sp_visit_of (P : Program) (w : World) (c : CA) : Sp := fun vs H Q _ => ∃ (n s : Addr) (S : Si) (x : Str) (N : Ns) (i : Nat) (con : Int), vs = [.ref n, .int i] ∧ NetAt P w c H n s S x N ∧ N.vis[i]? = some con ∧ ∀ v, VisAt c H v x con → Q (.ref v) H
def sp_is_possible (P : Program) (w : World) (c : CA) : Sp := fun vs H Q _ => ∃ (n s a : Addr) (S : Si) (x : Str) (N : Ns) (d : Dd), vs = [.ref n, .ref a] ∧ NetAt P w c H n s S x N ∧ NOk S x N ∧ H a = some (.tup (ddV x d)) ∧ PosD N d ∧ ∀ H', Same H H' → Q (.bl true) H'
def sp_Net_need (P : Program) (w : World) (c : CA) : Sp := fun vs H Q _ => ∃ (n s a : Addr) (S : Si) (x : Str) (N : Ns) (d : Dd), vs = [.ref n, .ref a] ∧ NetAt P w c H n s S x N ∧ NOk S x N ∧ H a = some (.tup (ddV x d)) ∧ PosD N d ∧ ∀ H', Same H H' → Q .non H'
theorem left_d {P : Program} {w : World} {c : CA} {H : Hp} {K : PySem.W.Frag} {s : Addr} {S : Si} {x : Str} {N : Ns} {k st e lf fi be sv co vi : Addr} (h : NetIn P w c H s S x N k st e lf fi be sv co vi) (nx : Nm x) :
    ∃ d, Dp K H (.ref lf) d ∧ SeqAt.shaped d = true ∧ PyData.eqv d (.tuple []) = decide (N.ph ≠ 1) := by
  have hl := h.left
  by_cases hp : N.ph = 1
  · rw [if_pos hp] at hl
    obtain ⟨l1, h1, h2⟩ := hl
    have sh : ∀ z ∈ names8, SeqAt.shaped (.tuple [.tuple [.str z]]) = true := by decide +kernel
    refine ⟨.tuple [.tuple [.str x]], .tup (SqT.of h1) (.cons (.tup (SqT.of h2) (.cons (.str x) .nil)) .nil), sh x nx, ?_⟩
    rw [decide_eq_false (by simp [hp])]
    rfl
  · rw [if_neg hp] at hl
    refine ⟨.tuple [], .tup (SqT.of hl) .nil, rfl, ?_⟩
    rw [decide_eq_true hp]
    rfl
end Wp

set_option Elab.async false
set_option linter.all false
set_option maxRecDepth 100000
set_option maxHeartbeats 2000000
/-! promises of Net's defs -/
namespace Wp
open PySem PySem.Spec PyProof.Rows L2
def ns0 (S : Si) (x : Str) : Ns := ⟨0, 0, List.replicate (S.fd x).keeps.length none, []⟩
def sp_Net_init (P : Program) (w : World) (c : CA) : Sp := fun vs H Q _ => ∃ (n dx s k kb st : Addr) (S : Si) (x : Str) (ps : List Addr), vs = [.ref n, .ref s, .ref k, .ref st] ∧ H n = some (.ins c.N dx []) ∧ SiteAt c H s S ∧ SiOk S ∧ x ∈ S.es ∧ H k = some (.lst [.ref kb]) ∧ H kb = some (.lst [.str x]) ∧
  H st = some (.lst (ps.map V.ref)) ∧ ps.length = (so S.ns).length ∧ (∀ (i : Nat) (p : Addr) (z : Str), ps[i]? = some p → (so S.ns)[i]? = some z → H p = some (.lst [.str z])) ∧ ∀ H', NetAt P w c H' n s S x (ns0 S x) → But n H H' → Q .non H'
def sp_Net_publishing (P : Program) (w : World) (c : CA) : Sp := fun vs H Q _ => ∃ (n s : Addr) (S : Si) (x : Str) (N : Ns), vs = [.ref n] ∧ NetAt P w c H n s S x N ∧ NOk S x N ∧ ∀ H', Same H H' → Q (if N.ph = 1 then .int 1 else .non) H'
/-- cache i holds p from now on -/
def setC (N : Ns) (i : Nat) (o : Option Cp) : Ns := { N with cps := N.cps.set i o }
def sp_Net_put (P : Program) (w : World) (c : CA) : Sp := fun vs H Q _ => ∃ (n s d : Addr) (S : Si) (x : Str) (N : Ns) (i : Nat) (o : Option Cp), vs = [.ref n, .int i, .ref d] ∧ NetAt P w c H n s S x N ∧ NOk S x N ∧ i < N.cps.length ∧ CpAt P w c H d x o ∧
  ∀ H', NetAt P w c H' n s S x (setC N i o) → Fr (nI c.N) H H' → Q .non H'
/-- the way of an answer: the nearest copy that is fresh, or the server; the caches ahead get it -/
def look (own : Bool) (tick srv : Int) : List (Option Int) → List (Option Cp) → List (Option Cp) × Int × Int
  | kp :: ks, o :: os => match (match o with
      | some p => if freshB own tick kp p = true then some p else none
      | none => none) with
    | some p => (o :: os, p.con, p.giv)
    | none => let r := look own tick srv ks os; (some ⟨r.2.1, tick, r.2.2⟩ :: r.1, r.2)
  | _, os => (os, srv, tick)
def lookN (S : Si) (x : Str) (N : Ns) : List (Option Cp) × Int × Int := look S.own N.tick (srvN N.ph) (S.fd x).keeps N.cps
def sp_Net_answer (P : Program) (w : World) (c : CA) : Sp := fun vs H Q _ => ∃ (n s : Addr) (S : Si) (x : Str) (N : Ns), vs = [.ref n, .str x, .non] ∧ NetAt P w c H n s S x N ∧ NOk S x N ∧
  ∀ H', NetAt P w c H' n s S x { N with cps := (lookN S x N).1 } → Fr (nI c.N) H H' → Q (.int (lookN S x N).2.1) H'
/-- what a deed does -/
def eff (S : Si) (x : Str) (N : Ns) : Dd → Ns
  | .opn => { N with cps := (lookN S x N).1, vis := N.vis ++ [(lookN S x N).2.1] }
  | .beg => { N with ph := 1 }
  | .stp => { N with ph := 2 }
  | .wai t => { N with tick := N.tick + t }
  | .los i _ => setC N i none
def sp_Net_opened (P : Program) (w : World) (c : CA) : Sp := fun vs H Q _ => ∃ (n s : Addr) (S : Si) (x : Str) (N : Ns), vs = [.ref n, .str x] ∧ NetAt P w c H n s S x N ∧ NOk S x N ∧
  ∀ H', NetAt P w c H' n s S x (eff S x N .opn) → Fr (nI c.N) H H' → Q (.int (N.vis.length : Nat)) H'
def cpRow (x : Str) (H : Hp) (l : Addr) : Option Cp → Prop
  | none => H l = some (.lst [])
  | some p => ∃ t, H l = some (.lst [.ref t]) ∧ H t = some (.tup [.str x, .int p.con, .int p.got, .int p.giv])
def sp_Net_copies (P : Program) (w : World) (c : CA) : Sp := fun vs H Q _ => ∃ (n s : Addr) (S : Si) (x : Str) (N : Ns) (i : Nat) (o : Option Cp), vs = [.ref n, .int i] ∧ NetAt P w c H n s S x N ∧ NOk S x N ∧ N.cps[i]? = some o ∧
  ∀ H' l, Same H H' → cpRow x H' l o → Q (.ref l) H'
def sp_Net_piece (P : Program) (w : World) (c : CA) : Sp := fun vs H Q _ => ∃ (n s : Addr) (S : Si) (x : Str) (N : Ns) (i : Nat) (con : Int), vs = [.ref n, .int i] ∧ NetAt P w c H n s S x N ∧ NOk S x N ∧ N.vis[i]? = some con ∧ ∀ H' d, Same H H' → H' d = some (.dK [(Sum.inr x, .int con)]) → Q (.ref d) H'
/-- the deeds that are done on the server -/
def sp_Net_done (P : Program) (w : World) (c : CA) : Sp := fun vs H Q _ => ∃ (n s a : Addr) (S : Si) (x : Str) (N : Ns) (d : Dd), vs = [.ref n, .ref a] ∧ NetAt P w c H n s S x N ∧ NOk S x N ∧ H a = some (.tup (ddV x d)) ∧ PosD N d ∧ (d = .beg ∨ d = .stp) ∧
  ∀ H' v, NetAt P w c H' n s S x (eff S x N d) → Fr (nI c.N) H H' → Q v H'
def sp_Net_do (P : Program) (w : World) (c : CA) : Sp := fun vs H Q _ => ∃ (n s a : Addr) (S : Si) (x : Str) (N : Ns) (d : Dd), vs = [.ref n, .ref a] ∧ NetAt P w c H n s S x N ∧ NOk S x N ∧ H a = some (.tup (ddV x d)) ∧ PosD N d ∧
  ∀ H' v, NetAt P w c H' n s S x (eff S x N d) → Fr (nI c.N) H H' → (d = .opn → v = .int (N.vis.length : Nat)) → Q v H'
end Wp

set_option Elab.async false
set_option linter.all false
set_option maxRecDepth 100000
set_option maxHeartbeats 2000000
/-! a comprehension over the items of a cache's dict -/
namespace Wp
open PySem PySem.Spec PyProof.Rows L2
theorem pgTupK {X : Cx} {K : PySem.W.Frag} (e : X.K = K) {pos : Pos} {es : List Expr} {k : Nat} {t : TGs} {n : Nat} (hc : X.calm = true) (h : PGs X es t)
    (hn : (assignEach es X.env).length = n := by rfl) (hst : (assignEach es X.env).findIdx? (·.1) = none := by rfl) : PG X (.Tuple es k pos) (gTup K n t) := by subst e; exact pg_tup hc h hn hst
theorem lcCp {P : Program} {w : World} {d : Addr} {od : Obj} {z : Str} {o : Option (Addr × Addr)} {g : TG} {te : TE} {vs : List Nat} {σ : L2.St} {H1 : Hp} {Q : Addr → Hp → Prop} (hd : H1 d = some (.frz od (CpO P w d z o)))
    (h0 : o = none → ∀ D, H1 D = none → Q D (upd H1 D (.lst [])))
    (h1 : ∀ kt ca, o = some (kt, ca) → ∀ D T H2, H1 D = none → H2 D = some (.lst []) → Same H1 H2 → H2 T = some (.tup [.ref kt, .ref ca]) → ∀ k : V → Hp → Prop, (∀ y H4, Same H2 H4 → (∀ H5, Same H1 H5 → (∀ p o, H4 p = some o → p ≠ D → H5 p = some o) → H5 D = some (.lst [y]) → Q D H5) → k y H4) → g (.ref T) (wipe σ vs) H2 fun σ2 H3 => wipe σ2 vs = wipe σ vs ∧ te σ2 H3 k) (D : Addr) (hD : H1 D = none) :
    ∃ W : Nat → Nat → Hp → Prop, (∃ m, W 0 m (upd H1 D (.lst []))) ∧ ∀ i m H, W i m H →
      ((Itcp P w d od z o).stop i H ∧ Q D H) ∨ ((Itcp P w d od z o).go i H ∧ ∃ Nx : Hp → Prop, (∀ H', Nx H' → ∃ m', m' < m ∧ W (i + 1) m' H') ∧ ∀ x H', (Itcp P w d od z o).yld i H x H' → g x (wipe σ vs) H' fun σ2 H2 => wipe σ2 vs = wipe σ vs ∧ tYes σ2 H2 fun b H3 =>
        if b = true then te σ2 H3 fun y H4 => ∃ acc, H4 D = some (.lst acc) ∧ acc.length < sizeLine ∧ Nx (upd H4 D (.lst (acc ++ [y]))) else Nx H3) := by
  refine ⟨fun i m H => (i = 0 ∧ m = 1 ∧ H = upd H1 D (.lst [])) ∨ (i = 1 ∧ m = 0 ∧ H d = some (.frz od (CpO P w d z o)) ∧ Q D H), ⟨1, .inl ⟨rfl, rfl, rfl⟩⟩, ?_⟩
  have nD : d ≠ D := ne_of_none hd hD
  rintro i m H (⟨rfl, rfl, rfl⟩ | ⟨rfl, rfl, hf, q⟩)
  · have hd' : (upd H1 D (.lst [])) d = some (.frz od (CpO P w d z o)) := by rw [upd_ne nD]; exact hd
    cases o with
    | none => exact .inl ⟨⟨hd', .inl rfl⟩, h0 rfl D hD⟩
    | some q =>
      obtain ⟨kt, ca⟩ := q
      refine .inr ⟨⟨hd', rfl, rfl⟩, fun H => H d = some (.frz od (CpO P w d z (some (kt, ca)))) ∧ Q D H, fun H' h => ⟨0, by omega, .inr ⟨rfl, rfl, h⟩⟩, fun x H' y => ?_⟩
      obtain ⟨T, kt', ca', rfl, e, hT, rfl⟩ := y
      cases e
      have s1 : Same H1 (upd (upd H1 D (.lst [])) T (.tup [.ref kt, .ref ca])) := (same_new hD).trans (same_new hT)
      have hD2 : (upd (upd H1 D (.lst [])) T (.tup [.ref kt, .ref ca])) D = some (.lst []) := same_new hT _ _ upd_same
      refine h1 kt ca rfl D T _ hD hD2 s1 upd_same _ fun y H4 s4 q => ?_
      have s5 : Same H1 (upd H4 D (.lst ([] ++ [y]))) := fun p o h => by
        rw [upd_ne (ne_of_none h hD)]
        exact s4 p o (s1 p o h)
      exact ⟨[], s4 _ _ hD2, by rw [sizeLine_eq]; decide, s5 _ _ hd, q _ s5 (fun p o h n => by rw [upd_ne n]; exact h) upd_same⟩
  · exact .inl ⟨⟨hf, .inr (Nat.le_refl _)⟩, q⟩
end Wp

set_option Elab.async false
set_option linter.all false
set_option maxRecDepth 100000
set_option maxHeartbeats 2000000
/-! the way of an answer, in plain words -/
namespace Wp
open PySem PySem.Spec PyProof.Rows L2
def wcps (N : Ns) (cs : List (Option Cp)) : Ns := { N with cps := cs }
def freshAt (own : Bool) (tick : Int) (kp : Option Int) : Option Cp → Option Cp
  | some p => if freshB own tick kp p = true then some p else none
  | none => none
/-- the answer found after i caches -/
def lkAt (tick : Int) (os : List (Option Cp)) (i : Nat) (con giv : Int) : List (Option Cp) × Int × Int := (List.replicate i (some ⟨con, tick, giv⟩) ++ os.drop i, con, giv)
theorem look_cons (own : Bool) (tick srv : Int) (kp : Option Int) (ks : List (Option Int)) (o : Option Cp) (os : List (Option Cp)) : look own tick srv (kp :: ks) (o :: os) = match freshAt own tick kp o with
    | some p => (o :: os, p.con, p.giv)
    | none => let r := look own tick srv ks os; (some ⟨r.2.1, tick, r.2.2⟩ :: r.1, r.2) := by
  cases o <;> rfl
theorem look_miss {own : Bool} {tick srv : Int} : ∀ {ks : List (Option Int)} {os : List (Option Cp)}, ks.length = os.length → (∀ (j : Nat) kp o, ks[j]? = some kp → os[j]? = some o → freshAt own tick kp o = none) → look own tick srv ks os = lkAt tick os os.length srv tick
  | [], [], _, _ => by simp [look, lkAt]
  | [], _ :: _, l, _ => by simp at l
  | _ :: _, [], l, _ => by simp at l
  | kp :: ks, o :: os, l, h => by
    have h0 := h 0 kp o rfl rfl
    have ih := look_miss (own := own) (tick := tick) (srv := srv) (ks := ks) (os := os) (by simpa using l) fun j a b e1 e2 => h (j + 1) a b (by simpa using e1) (by simpa using e2)
    rw [look_cons, h0]
    simp only [ih, lkAt, List.length_cons, List.replicate_succ, List.drop_succ_cons, List.cons_append]
theorem look_hit {own : Bool} {tick srv : Int} : ∀ {ks : List (Option Int)} {os : List (Option Cp)} {i : Nat} {kp : Option Int} {o : Option Cp} {p : Cp}, ks[i]? = some kp → os[i]? = some o → freshAt own tick kp o = some p → (∀ (j : Nat) kp o, j < i → ks[j]? = some kp → os[j]? = some o → freshAt own tick kp o = none) → look own tick srv ks os = lkAt tick os i p.con p.giv
  | [], _, i, _, _, _, e1, _, _, _ => by simp at e1
  | _ :: _, [], i, _, _, _, _, e2, _, _ => by simp at e2
  | kq :: ks, oq :: os, 0, kp, o, p, e1, e2, e3, h => by
    simp only [List.getElem?_cons_zero, Option.some.injEq] at e1 e2
    subst e1 e2
    rw [look_cons, e3]
    simp [lkAt]
  | kq :: ks, oq :: os, i + 1, kp, o, p, e1, e2, e3, h => by
    have h0 := h 0 kq oq (Nat.succ_pos i) rfl rfl
    have ih := look_hit (own := own) (tick := tick) (srv := srv) (ks := ks) (os := os) (i := i) (by simpa using e1) (by simpa using e2) e3 fun j a b hj e1 e2 => h (j + 1) a b (by omega) (by simpa using e1) (by simpa using e2)
    rw [look_cons, h0]
    simp only [ih, lkAt, List.replicate_succ, List.drop_succ_cons, List.cons_append]
/-- a put at the first old place -/
theorem set_fill {α : Type} (v : α) (os : List α) (j : Nat) (h : j < os.length) : (List.replicate j v ++ os.drop j).set j v = List.replicate (j + 1) v ++ os.drop (j + 1) := by
  have e : os.drop j = os[j] :: os.drop (j + 1) := (List.getElem_cons_drop h).symm
  rw [e, List.set_append_right _ _ (by simp), List.length_replicate, Nat.sub_self, List.set_cons_zero, List.replicate_succ', List.append_assoc]
  rfl
theorem NOk.put {S : Si} {x : Str} {N : Ns} (h : NOk S x N) {cs : List (Option Cp)} (e : cs.length = N.cps.length) : NOk S x { N with cps := cs } := ⟨h.ok, h.ent, h.ph, by show cs.length = _; rw [e]; exact h.cs, h.vs⟩
theorem look_len (own : Bool) (tick srv : Int) : ∀ (ks : List (Option Int)) (os : List (Option Cp)), (look own tick srv ks os).1.length = os.length
  | [], os => rfl
  | _ :: _, [] => rfl
  | kp :: ks, o :: os => by
    rw [look_cons]
    cases freshAt own tick kp o with
    | some p => rfl
    | none => simp [look_len own tick srv ks os]
end Wp
namespace Wp
theorem iteT' {b : Bool} {p q : Prop} (h : b = true) (hp : p) : if b = true then p else q := by rw [if_pos h]; exact hp
theorem iteF' {b : Bool} {p q : Prop} (h : ¬ b = true) (hq : q) : if b = true then p else q := by rw [if_neg h]; exact hq
end Wp

set_option Elab.async false
set_option linter.all false
set_option maxRecDepth 100000
set_option maxHeartbeats 2000000
/-! a net beside a dict that stands empty -/
namespace Wp
open PySem PySem.Spec PyProof.Rows L2
def nE (C : Addr) (o : HO) : Prop := nI C o ∧ o ≠ .dK []
theorem nE_tup {C : Addr} (xs : List V) : nE C (.tup xs) := ⟨nI_tup xs, fun e => nomatch e⟩
theorem nE_ext {C : Addr} (φ : Heap → Prop) : nE C (.ext φ) := ⟨nI_ext φ, fun e => nomatch e⟩
theorem nE_ins {C D dx : Addr} {fs : List (Str × V)} (h : D ≠ C) : nE C (.ins D dx fs) := ⟨nI_ins h, fun e => nomatch e⟩
theorem nE_dK {C : Addr} {kvs : List (Key × V)} (h : kvs ≠ []) : nE C (.dK kvs) := ⟨nI_dK kvs, fun e => by cases e; exact h rfl⟩
theorem so_ne {l : List Str} (nm : ∀ z ∈ l, Nm z) (h : l ≠ []) : so l ≠ [] := fun e => by
  cases l with
  | nil => exact h rfl
  | cons z r =>
    have := (so_mem nm z).mpr List.mem_cons_self
    rw [e] at this
    cases this
section
variable {P : Program} {w : World} {c : CA} {H H' : Hp}
theorem SiteAt.nE {C : Addr} {s : Addr} {S : Si} (f : Fr (Wp.nE C) H H') (h1 : c.S ≠ C) (h2 : c.F ≠ C) (n1 : so S.ns ≠ []) (n2 : so S.es ≠ []) (h : SiteAt c H s S) : SiteAt c H' s S := by
  obtain ⟨dx, fi, t, a, ⟨ps, b1, b2⟩, tv, d⟩ := h
  exact ⟨dx, fi, t, f _ _ a (nE_ins h1), ⟨ps, f _ _ b1 (nE_dK (by simpa using n1)), fun n hn => (b2 n hn).fr f (fun _ _ => nE_ins h2) nE_tup⟩, tv, f _ _ d (nE_dK (by simpa using n2))⟩
theorem NetIn.nE {w' : World} {mg : Str → Option Value} {K : PySem.W.Frag} (T : Txt K w' mg c) (f : Fr (Wp.nE c.N) H H') {s : Addr} {S : Si} {x : Str} {N : Ns} (ok : SiOk S) (nx : so S.ns ≠ []) {k st e lf fi be sv co vi : Addr} (h : NetIn P w c H s S x N k st e lf fi be sv co vi) : NetIn P w c H' s S x N k st e lf fi be sv co vi := by
  refine ⟨h.site.nE f T.neSN T.neFN nx (so_ne (fun z hz => ok.g.nm z (ok.pl z hz).1) ok.ne), ?_, ?_, h.eds.fr f (fun _ _ => nE_ins T.neEN) nE_tup, ?_, ?_, f _ _ h.beg (nE_tup _), ?_, ?_, ?_⟩
  · obtain ⟨k0, a, b⟩ := h.kinds
    exact ⟨k0, f _ _ a (nE_tup _), f _ _ b (nE_tup _)⟩
  · obtain ⟨ts, a, b, d⟩ := h.steps
    refine ⟨ts, f _ _ a (nE_tup _), b, fun i y z e1 e2 => ?_⟩
    obtain ⟨t, e3, e4⟩ := d i y z e1 e2
    exact ⟨t, e3, f _ _ e4 (nE_tup _)⟩
  · have := h.left
    split
    · rename_i hp
      rw [if_pos hp] at this
      obtain ⟨l1, a, b⟩ := this
      exact ⟨l1, f _ _ a (nE_tup _), f _ _ b (nE_tup _)⟩
    · rename_i hp
      rw [if_neg hp] at this
      exact f _ _ this (nE_tup _)
  · obtain ⟨fs, a, b, d⟩ := h.fin
    exact ⟨fs, f _ _ a (nE_tup _), b, d⟩
  · obtain ⟨gv, a, t, b, d⟩ := h.srv
    exact ⟨gv, f _ _ a (nE_dK (by simpa using nx)), t, b, f _ _ d (nE_tup _)⟩
  · obtain ⟨ds, a, b, d⟩ := h.cops
    exact ⟨ds, f _ _ a (nE_tup _), b, fun i x o e1 e2 => (d i x o e1 e2).fr f (fun _ _ => nE_ins T.neCN) nE_tup nE_ext⟩
  · obtain ⟨vs, a, b, d⟩ := h.viss
    refine ⟨vs, f _ _ a (nE_tup _), b, fun i v n e1 e2 => ?_⟩
    obtain ⟨dx, pg, l, t, tk, a, b, d⟩ := d i v n e1 e2
    exact ⟨dx, pg, l, t, tk, f _ _ a (nE_ins T.neVN), f _ _ b (nE_dK (by simp)), f _ _ d (nE_tup _)⟩
end
end Wp
namespace Wp
open PySem PySem.Spec PyProof.Rows L2
theorem putK_at {v : V} {x : Str} {ns : List Str} {g : Str → V} (h : x ∈ ns) : putK (ns.map fun z => ((Sum.inr z : Key), g z)) (.inr x) v = ns.map fun z => ((Sum.inr z : Key), if z = x then v else g z) := by
  unfold putK
  rw [if_pos, List.map_map]
  · refine List.map_congr_left fun z hz => ?_
    show (if (Sum.inr z : Key) = Sum.inr x then ((Sum.inr z : Key), v) else (Sum.inr z, g z)) = _
    by_cases e : z = x
    · rw [if_pos (by rw [e]), if_pos e]
    · rw [if_neg (fun h => e (Sum.inr.inj h)), if_neg e]
  · rw [List.any_eq_true]
    exact ⟨_, List.mem_map.mpr ⟨x, h, rfl⟩, by simp⟩
end Wp
namespace Wp
open PySem PySem.Spec PyProof.Rows L2
/-- a method of a cache's dict -/
def tBMC (P : Program) (w : World) (r : V → List V → Hp → VK → Prop) (to : TE) (t : TA) : TE := fun σ H Q => to σ H fun x H1 => (∃ d z o, x = .ref d ∧ H1 d = some (CpO P w d z o)) ∧ t σ H1 fun xs H2 => r x xs H2 Q
theorem pe_bmCp {X : Cx} {o e : Expr} {es : List Expr} {to : TE} {t : TA} {name : Str} {apos cpos : Pos} {id : String} {r : V → List V → Hp → VK → Prop} (pa : PlainAttrs "dict") (slot : Slot "dict" name id) (hty : typeOf (.builtin id) = pure (.type "method_descriptor")) (hm : MtR X id r) (ho : PE X o to) (ha : PA X (e :: es) t)
    (hbase : attributeBase o name X.env (eval o X.env) = eval o X.env := by rfl)
    (hfew : ((backTo cpos (starEach (e :: es) X.env)).all (fun x => !x.1) && (backToKw cpos (keywordEach [] X.env)).all (fun x => x.1.isSome)
      && decide ((e :: es).length + ([] : List Keyword).length + (if ([] : List Keyword).isEmpty then 0 else 1) < 30)) = true := by rfl)
    (hline : (apos.endLine == cpos.line) = true := by rfl) (hs : starEach (e :: es) X.env = (false, eval e X.env) :: starEach es X.env := by rfl) (hplain : (backTo cpos (starEach es X.env)).any (·.1) = false := by rfl) :
    PE X (.Call (.Attribute o name apos) (e :: es) [] cpos) (tBMC X.prog X.w r to t) := by
  refine ⟨fun pins s σ H Q I h => ?_⟩
  refine wpAny_Call_method_late hbase hfew hline rfl (thn (ho.run pins s σ H _ I h) fun v s1 ⟨x, H1, I1, r1, ⟨d, z, oo, ex, hd⟩, q1⟩ => ?_)
  subst ex
  obtain rfl : v = Value.ref d := r1
  obtain ⟨⟨_, ob, es', ep, g, xd, _, _⟩, _⟩ := (show ObjOk X.prog X.w H1 s1.heap d (CpO X.prog X.w d z oo) from I1.hok d _ hd)
  refine ⟨"dict", id, pa, slot, hty, ⟨ob, g, xd.1⟩, fun a e2 => ?_, ?_⟩
  · cases e2
    exact ⟨ob, g, xd.2.1⟩
  have hA := ha.run cpos pins s1 σ H1 _ I1 q1
  rw [hs] at hA ⊢
  refine Calls.callWith_builtin (by show (false || (backTo cpos (starEach es X.env)).any (·.1)) = false; rw [hplain] <;> rfl) (Calls.evalArgs_plain ?_)
  exact thn hA fun us s2 ⟨vs, H2, I2, r2, q2⟩ => hm pins s2 σ H2 (V.ref d) vs _ us Q I2 (by exact rfl) r2 q2
end Wp

set_option Elab.async false
set_option linter.all false
set_option maxRecDepth 100000
set_option maxHeartbeats 2000000
/-! a draw is told by what it is, not by what it holds now -/
namespace Wp
open PySem PySem.Spec PyProof.Rows L2
/-- H2 tells other things of some of the addresses that may be written -/
structure Sw (H H2 : Hp) : Prop where
  non : ∀ b, H b = none ↔ H2 b = none
  own : ∀ b a, H b = some (.own a) ↔ H2 b = some (.own a)
  tup : ∀ b xs, H b = some (.tup xs) ↔ H2 b = some (.tup xs)
  frz : ∀ b o u, H b = some (.frz o u) ↔ H2 b = some (.frz o u)
  tbl : ∀ b ps, H b = some (.tbl ps) ↔ H2 b = some (.tbl ps)
theorem Sw.refl (H : Hp) : Sw H H := ⟨fun _ => .rfl, fun _ _ => .rfl, fun _ _ => .rfl, fun _ _ _ => .rfl, fun _ _ => .rfl⟩
theorem Sw.trans {H H1 H2 : Hp} (a : Sw H H1) (b : Sw H1 H2) : Sw H H2 := ⟨fun x => (a.non x).trans (b.non x), fun x y => (a.own x y).trans (b.own x y), fun x y => (a.tup x y).trans (b.tup x y), fun x y z => (a.frz x y z).trans (b.frz x y z), fun x y => (a.tbl x y).trans (b.tbl x y)⟩
theorem Sw.upd {H : Hp} {d : Addr} {o o' : HO} (h : H d = some o) (m : Mut (some o)) (m' : Mut (some o')) : Sw H (L2.upd H d o') := by
  have key : ∀ b u, ¬ Mut (some u) → (H b = some u ↔ (L2.upd H d o') b = some u) := fun b u nm => by
    by_cases e : b = d
    · subst e
      rw [upd_same, h]
      constructor <;> intro q <;> cases q
      · exact absurd m nm
      · exact absurd m' nm
    · rw [upd_ne e]
  refine ⟨fun b => ?_, fun b a => key b _ (fun h => h), fun b a => key b _ (fun h => h), fun b a u => key b _ (fun h => h), fun b a => key b _ (fun h => h)⟩
  by_cases e : b = d
  · subst e
    rw [upd_same, h]
    constructor <;> intro q <;> cases q
  · rw [upd_ne e]
theorem HOk.sw {P : Program} {w : World} {H H2 : Hp} {h : Heap} (ok : HOk P w H h) (s : Sw H H2) (k : ∀ a o, H2 a = some o → H a = some o ∨ ObjOk P w H2 h a o) : HOk P w H2 h := fun a o e => by
  rcases k a o e with h1 | h1
  · exact (ok a o h1).stay (fun _ _ _ q => q) (fun b q => (s.own b a).mp q) (fun b xs q => (s.tup b xs).mp q)
  · exact h1
theorem Un.sw {fs ex : List Addr} {H H2 H3 H4 : Hp} {h h' : Heap} (u : Un fs ex H2 H3 h h') (a : Sw H H2) (b : Sw H3 H4) : Un fs ex H H4 h h' :=
  ⟨fun x o e n => u.keep x o e ((a.non x).mp n), fun x o e n => u.slot x o e ((a.non x).mp n), fun x o e n nx => (b.non x).mp (u.free x o e ((a.non x).mp n) nx), u.there, fun x xs e => (b.tup x xs).mp (u.tups x xs ((a.tup x xs).mp e)), fun x o v e => (b.frz x o v).mp (u.frzs x o v ((a.frz x o v).mp e)),
    fun x ps e => by
      obtain ⟨more, q⟩ := u.tbls x ps ((a.tbl x ps).mp e)
      exact ⟨more, (b.tbl x _).mp q⟩⟩
/-- a def's promise with other words of the heap, before and behind -/
theorem ghost {P : Program} {w : World} {K : PySem.W.Frag} {mg : Str → Option Value} {base : Heap} {k : Nat} {f : Addr} {fd : FuncData} {ps : List Str} {spc sp : Sp} (F : FnOk P w K mg base C8.CX0 k f fd ps spc) (hl : ∀ vs H Q E, sp vs H Q E → vs.length = ps.length)
    (h : ∀ vs H Q E, sp vs H Q E → ∀ hp, HOk P w H hp → ∃ (H2 : Hp) (Q2 : VK), Sw H H2 ∧ HOk P w H2 hp ∧ spc vs H2 Q2 E ∧ ∀ v H3 hp', HOk P w H3 hp' → Q2 v H3 → ∃ H4, Sw H3 H4 ∧ HOk P w H4 hp' ∧ Q v H4) : FnOk P w K mg base C8.CX0 k f fd ps sp := by
  refine ⟨hl, fun A outer s H args us vs Q E hr he hb hv hs => ?_⟩
  obtain ⟨H2, Q2, sw, ok, hc, back⟩ := h vs H Q E hs _ he.hok
  have he2 : Env0 P w K mg base A outer s H2 := ⟨he.frames, he.mod, fun b o e => ⟨(he.bs b o e).1, (sw.non b).mp (he.bs b o e).2⟩, he.bsz, he.funs, fun b m => (sw.non b).mp (he.frf b m), ok, he.bare⟩
  refine codeAny_mono (F.run A outer s H2 args us vs Q2 E hr he2 hb hv hc) fun r s' hq => ?_
  cases r with
  | error e => exact hq
  | ok fl =>
    cases fl with
    | ret u =>
      obtain ⟨v, H3, os, bare, un, hok, r, q⟩ := hq
      obtain ⟨H4, sw2, ok4, q4⟩ := back v H3 _ hok q
      exact ⟨v, H4, os, bare, Un.sw un sw sw2, ok4, r, q4⟩
    | next => exact False.elim hq
    | brk => exact False.elim hq
    | cont => exact False.elim hq
def drK (wd cl : Addr) (r t : Int) : List (Key × V) := [(Sum.inr "wide", .ref wd), (Sum.inr "cells", .ref cl), (Sum.inr "rest", .int r), (Sum.inr "turn", .int t)]
def DrawO (P : Program) (w : World) (d wd cl : Addr) (m : Int) : HO := .ext fun h => ∃ r t : Int, 0 ≤ r ∧ (0 ≤ t ∧ t ≤ m) ∧ ObjOk P w (fun _ => none) h d (.dK (drK wd cl r t))
def WideO (P : Program) (w : World) (wd : Addr) : HO := .ext fun h => ∃ ns : List Int, (∀ n ∈ ns, 0 ≤ n) ∧ ObjOk P w (fun _ => none) h wd (.lst (ns.map V.int))
def CellO (P : Program) (w : World) (cl : Addr) (cs : List Int) : HO := .ext fun h => ObjOk P w (fun _ => none) h cl (.lst (cs.map V.int))
/-- what no draw changes -/
def nX (o : HO) : Prop := ∀ φ, o ≠ .ext φ
theorem nX_tup (xs : List V) : nX (.tup xs) := fun _ h => nomatch h
theorem nX_lst (xs : List V) : nX (.lst xs) := fun _ h => nomatch h
theorem nX_dK (kvs : List (Key × V)) : nX (.dK kvs) := fun _ h => nomatch h
theorem nX_ins {C dx : Addr} {fs : List (Str × V)} : nX (.ins C dx fs) := fun _ e => nomatch e
/-- a draw, told by what it is; m: no more turns than that -/
def DrawAt (P : Program) (w : World) (H : Hp) (d : Addr) (m : Int) : Prop := ∃ (wd cl : Addr) (cs : List Int), H d = some (DrawO P w d wd cl m) ∧ H wd = some (WideO P w wd) ∧ H cl = some (CellO P w cl cs) ∧ d ≠ wd ∧ wd ≠ cl ∧ d ≠ cl
theorem DrawAt.same {P : Program} {w : World} {H H' : Hp} {d : Addr} {m : Int} (s : Same H H') (h : DrawAt P w H d m) : DrawAt P w H' d m := by
  obtain ⟨wd, cl, cs, a, b, c, e⟩ := h
  exact ⟨wd, cl, cs, s _ _ a, s _ _ b, s _ _ c, e⟩
theorem DrawAt.up {P : Program} {w : World} {H : Hp} {d p : Addr} {m : Int} {o : HO} (n : ∀ φ, H p ≠ some (.ext φ)) (h : DrawAt P w H d m) : DrawAt P w (upd H p o) d m := by
  obtain ⟨wd, cl, cs, a, b, c, e⟩ := h
  have k : ∀ q φ, H q = some (.ext φ) → (upd H p o) q = some (.ext φ) := fun q φ hq => by
    rw [upd_ne (fun e => n φ (by rw [← e]; exact hq))]
    exact hq
  exact ⟨wd, cl, cs, k _ _ a, k _ _ b, k _ _ c, e⟩
theorem cell_ok {P : Program} {w : World} {H : Hp} {h : Heap} {cl : Addr} {cs : List Int} (x : ObjOk P w H h cl (.lst (cs.map V.int))) : ObjOk P w H h cl (CellO P w cl cs) := by
  refine ⟨x, ?_, fun h1 h2 x k => ObjOk.stay x (fun b u e q => ?_) (fun _ q => q) (fun _ _ q => q)⟩
  · obtain ⟨_, _, _, _, e⟩ := x
    exact ⟨_, e⟩
  · rcases e with rfl | e
    · exact k u q
    · cases e
theorem draw_ok {P : Program} {w : World} {H : Hp} {h : Heap} {d wd cl : Addr} {r t m : Int} (hr : 0 ≤ r) (ht : 0 ≤ t ∧ t ≤ m) (x : ObjOk P w H h d (.dK (drK wd cl r t))) : ObjOk P w H h d (DrawO P w d wd cl m) := by
  refine ⟨⟨r, t, hr, ht, x⟩, ?_, fun h1 h2 ⟨r, t, hr, ht, x⟩ k => ⟨r, t, hr, ht, x.stay (fun b u e q => ?_) (fun _ q => q) (fun _ _ q => q)⟩⟩
  · obtain ⟨_, _, _, _, o, _, _, e, _⟩ := x
    exact ⟨o, e⟩
  · rcases e with rfl | e
    · exact k u q
    · cases e
theorem wide_ok {P : Program} {w : World} {H : Hp} {h : Heap} {wd : Addr} {ns : List Int} (hn : ∀ n ∈ ns, 0 ≤ n) (x : ObjOk P w H h wd (.lst (ns.map V.int))) : ObjOk P w H h wd (WideO P w wd) := by
  refine ⟨⟨ns, hn, x⟩, ?_, fun h1 h2 ⟨ns, hn, x⟩ k => ⟨ns, hn, x.stay (fun b u e q => ?_) (fun _ q => q) (fun _ _ q => q)⟩⟩
  · obtain ⟨_, _, _, _, e⟩ := x
    exact ⟨_, e⟩
  · rcases e with rfl | e
    · exact k u q
    · cases e
/-- the draw as it stands -/
structure Draw0 (H : Hp) (d wd cl : Addr) (cs ns : List Int) (r t : Int) : Prop where
  hd : H d = some (.dK (drK wd cl r t))
  hwd : H wd = some (.lst (ns.map V.int))
  hcl : H cl = some (.lst (cs.map V.int))
  r0 : 0 ≤ r
  t0 : 0 ≤ t
  ns0 : ∀ n ∈ ns, 0 ≤ n
  ndw : d ≠ wd
  nwc : wd ≠ cl
theorem Draw0.ndc {H : Hp} {d wd cl : Addr} {cs ns : List Int} {r t : Int} (h : Draw0 H d wd cl cs ns r t) : cl ≠ d := fun e => by
  have := h.hcl
  rw [e, h.hd] at this
  cases this
/-- but the two -/
def But2 (d wd : Addr) (H H' : Hp) : Prop := ∀ p o, H p = some o → p ≠ d → p ≠ wd → H' p = some o
theorem But2.refl (d wd : Addr) (H : Hp) : But2 d wd H H := fun _ _ h _ _ => h
theorem But2.trans {d wd : Addr} {H H1 H2 : Hp} (a : But2 d wd H H1) (b : But2 d wd H1 H2) : But2 d wd H H2 := fun p o h n1 n2 => b p o (a p o h n1 n2) n1 n2
theorem But2.of {d wd : Addr} {H H1 : Hp} (a : Same H H1) : But2 d wd H H1 := fun p o h _ _ => a p o h
theorem But2.d {d wd : Addr} {H : Hp} (o : HO) : But2 d wd H (upd H d o) := fun p q h n1 _ => by rw [upd_ne n1]; exact h
theorem But2.w {d wd : Addr} {H : Hp} (o : HO) : But2 d wd H (upd H wd o) := fun p q h _ n2 => by rw [upd_ne n2]; exact h
theorem Draw0.same {H H' : Hp} {d wd cl : Addr} {cs ns : List Int} {r t : Int} (h : Draw0 H d wd cl cs ns r t) (s : Same H H') : Draw0 H' d wd cl cs ns r t := ⟨s _ _ h.hd, s _ _ h.hwd, s _ _ h.hcl, h.r0, h.t0, h.ns0, h.ndw, h.nwc⟩
theorem Draw0.put {H : Hp} {d wd cl : Addr} {cs ns : List Int} {r t r' t' : Int} (h : Draw0 H d wd cl cs ns r t) (hr : 0 ≤ r') (ht : 0 ≤ t') : Draw0 (upd H d (.dK (drK wd cl r' t'))) d wd cl cs ns r' t' :=
  ⟨upd_same, by rw [upd_ne h.ndw.symm]; exact h.hwd, by rw [upd_ne h.ndc]; exact h.hcl, hr, ht, h.ns0, h.ndw, h.nwc⟩
theorem Draw0.pop {H : Hp} {d wd cl : Addr} {cs ns ns' : List Int} {r t : Int} (h : Draw0 H d wd cl cs ns r t) (hn : ∀ n ∈ ns', 0 ≤ n) : Draw0 (upd H wd (.lst (ns'.map V.int))) d wd cl cs ns' r t :=
  ⟨by rw [upd_ne h.ndw]; exact h.hd, upd_same, by rw [upd_ne h.nwc.symm]; exact h.hcl, h.r0, h.t0, hn, h.ndw, h.nwc⟩
def sp_begun (P : Program) (w : World) (K : PySem.W.Frag) : Sp := fun vs H Q _ => ∃ (a : Addr) (cs : List Int), vs = [.ref a] ∧ SqL K H a (cs.map V.int) ∧ cs.length ≤ 1000 ∧ ∀ H' d, Same H H' → DrawAt P w H' d 0 → Q (.ref d) H'
def sp_begun0 (K : PySem.W.Frag) : Sp := fun vs H Q _ => ∃ (a : Addr) (cs : List Int), vs = [.ref a] ∧ SqL K H a (cs.map V.int) ∧ cs.length ≤ 1000 ∧ ∀ H' d wd cl ns, Same H H' → H d = none → H wd = none → H cl = none → Draw0 H' d wd cl cs ns 0 0 → Q (.ref d) H'
def sp_blend0 : Sp := fun vs H Q _ => ∃ (d wd cl : Addr) (cs ns : List Int) (r t : Int), vs = [.ref d] ∧ Draw0 H d wd cl cs ns r t ∧ t < 1000000000 ∧ ∀ H' k, Draw0 H' d wd cl cs ns r (t + 1) → But2 d wd H H' → 0 ≤ k → Q (.int k) H'
def sp_take0 : Sp := fun vs H Q _ => ∃ (d wd cl : Addr) (cs ns : List Int) (r t sz : Int), vs = [.ref d, .int sz] ∧ Draw0 H d wd cl cs ns r t ∧ t < 1000000000 ∧ 1 ≤ sz ∧ sz < 1000000 ∧ ∀ H' k ns' r' t', Draw0 H' d wd cl cs ns' r' t' → t' ≤ t + 1 → But2 d wd H H' → 0 ≤ k → k < sz → Q (.int k) H'
def sp_take (P : Program) (w : World) : Sp := fun vs H Q _ => ∃ (d : Addr) (sz m : Int), vs = [.ref d, .int sz] ∧ DrawAt P w H d m ∧ m < 1000000000 ∧ 1 ≤ sz ∧ sz < 1000000 ∧ ∀ H' k, Fr nX H H' → DrawAt P w H' d (m + 1) → 0 ≤ k → k < sz → Q (.int k) H'
theorem Draw0.ok3 {P : Program} {w : World} {H : Hp} {h : Heap} {d wd cl : Addr} {o1 o2 o3 : HO} (ok : HOk P w H h) (n1 : d ≠ wd) (n2 : wd ≠ cl) (n3 : d ≠ cl) {u1 u2 u3 : HO} (h1 : H d = some u1) (h2 : H wd = some u2) (h3 : H cl = some u3) (m1 : Mut (some u1)) (m2 : Mut (some u2)) (m3 : Mut (some u3)) (k1 : Mut (some o1)) (k2 : Mut (some o2)) (k3 : Mut (some o3))
    (x1 : ∀ H', ObjOk P w H' h d o1) (x2 : ∀ H', ObjOk P w H' h wd o2) (x3 : ∀ H', ObjOk P w H' h cl o3) : ∃ H2, Sw H H2 ∧ HOk P w H2 h ∧ H2 d = some o1 ∧ H2 wd = some o2 ∧ H2 cl = some o3 ∧ (∀ p o, H p = some o → p ≠ d → p ≠ wd → p ≠ cl → H2 p = some o) ∧ ∀ p o, H2 p = some o → p ≠ d → p ≠ wd → p ≠ cl → H p = some o := by
  have sw1 := Sw.upd (o' := o1) h1 m1 k1
  have h2' : (upd H d o1) wd = some u2 := by rw [upd_ne n1.symm]; exact h2
  have sw2 := Sw.upd (o' := o2) h2' m2 k2
  have h3' : (upd (upd H d o1) wd o2) cl = some u3 := by rw [upd_ne n2.symm, upd_ne n3.symm]; exact h3
  have sw3 := Sw.upd (o' := o3) h3' m3 k3
  have sw := (sw1.trans sw2).trans sw3
  refine ⟨_, sw, HOk.sw ok sw fun b o e => ?_, ?_, ?_, upd_same, fun p o hp a1 a2 a3 => ?_, fun p o hp a1 a2 a3 => ?_⟩
  · by_cases e1 : b = cl
    · subst e1
      rw [upd_same] at e
      cases e
      exact .inr (x3 _)
    · rw [upd_ne e1] at e
      by_cases e2 : b = wd
      · subst e2
        rw [upd_same] at e
        cases e
        exact .inr (x2 _)
      · rw [upd_ne e2] at e
        by_cases e3 : b = d
        · subst e3
          rw [upd_same] at e
          cases e
          exact .inr (x1 _)
        · rw [upd_ne e3] at e
          exact .inl e
  · rw [upd_ne n3, upd_ne n1]
    exact upd_same
  · rw [upd_ne n2]
    exact upd_same
  · rw [upd_ne a3, upd_ne a2, upd_ne a1]
    exact hp
  · rw [upd_ne a3, upd_ne a2, upd_ne a1] at hp
    exact hp
theorem to_draw {P : Program} {w : World} {H : Hp} {h : Heap} {d wd cl : Addr} {cs ns : List Int} {r t m : Int} (hD : Draw0 H d wd cl cs ns r t) (ok : HOk P w H h) (hm : t ≤ m) :
    ∃ H2, Sw H H2 ∧ HOk P w H2 h ∧ H2 d = some (DrawO P w d wd cl m) ∧ H2 wd = some (WideO P w wd) ∧ H2 cl = some (CellO P w cl cs) ∧ (∀ p o, H p = some o → p ≠ d → p ≠ wd → p ≠ cl → H2 p = some o) ∧ ∀ p o, H2 p = some o → p ≠ d → p ≠ wd → p ≠ cl → H p = some o :=
  Draw0.ok3 ok hD.ndw hD.nwc hD.ndc.symm hD.hd hD.hwd hD.hcl trivial trivial trivial trivial trivial trivial (fun H' => draw_ok hD.r0 ⟨hD.t0, hm⟩ (H := H') (ok _ _ hD.hd)) (fun H' => wide_ok hD.ns0 (H := H') (ok _ _ hD.hwd)) (fun H' => cell_ok (H := H') (ok _ _ hD.hcl))
theorem of_draw {P : Program} {w : World} {H : Hp} {h : Heap} {d wd cl : Addr} {cs : List Int} {m : Int} (ok : HOk P w H h) (h1 : H d = some (DrawO P w d wd cl m)) (h2 : H wd = some (WideO P w wd)) (h3 : H cl = some (CellO P w cl cs)) (n1 : d ≠ wd) (n2 : wd ≠ cl) (n3 : d ≠ cl) :
    ∃ ns r t H2, Sw H H2 ∧ HOk P w H2 h ∧ Draw0 H2 d wd cl cs ns r t ∧ t ≤ m ∧ (∀ p o, H p = some o → p ≠ d → p ≠ wd → p ≠ cl → H2 p = some o) ∧ ∀ p o, H2 p = some o → p ≠ d → p ≠ wd → p ≠ cl → H p = some o := by
  obtain ⟨⟨r, t, hr, ⟨ht0, htm⟩, x1⟩, _⟩ := ok _ _ h1
  obtain ⟨⟨ns, hn, x2⟩, _⟩ := ok _ _ h2
  obtain ⟨x3, _⟩ := ok _ _ h3
  obtain ⟨H2, sw, ok2, a1, a2, a3, b1, b2⟩ := Draw0.ok3 ok n1 n2 n3 h1 h2 h3 trivial trivial trivial (o1 := .dK (drK wd cl r t)) (o2 := .lst (ns.map V.int)) (o3 := .lst (cs.map V.int)) trivial trivial trivial (fun _ => x1) (fun _ => x2) (fun _ => x3)
  exact ⟨ns, r, t, H2, sw, ok2, ⟨a1, a2, a3, hr, ht0, hn, n1, n2⟩, htm, b1, b2⟩
theorem ghost_begun {P : Program} {w : World} {K : PySem.W.Frag} {mg : Str → Option Value} {base : Heap} {k : Nat} {f : Addr} {fd : FuncData} {ps : List Str} (F : FnOk P w K mg base C8.CX0 k f fd ps (sp_begun0 K)) : FnOk P w K mg base C8.CX0 k f fd ps (sp_begun P w K) := by
  have hl : ∀ vs H Q E, sp_begun P w K vs H Q E → vs.length = ps.length := fun vs H Q E h => by
    obtain ⟨a, cs, rfl, h1, h2, _⟩ := h
    exact F.len _ H (fun _ _ => True) E ⟨a, cs, rfl, h1, h2, fun _ _ _ _ _ _ _ _ _ _ => trivial⟩
  refine ghost F hl fun vs H Q E h hp ok => ?_
  obtain ⟨a, cs, rfl, h1, h2, q⟩ := h
  refine ⟨H, fun v H3 => ∃ d wd cl ns, v = .ref d ∧ Same H H3 ∧ H d = none ∧ H wd = none ∧ H cl = none ∧ Draw0 H3 d wd cl cs ns 0 0, .refl H, ok, ⟨a, cs, rfl, h1, h2, fun H' d wd cl ns s n1 n2 n3 hd => ⟨d, wd, cl, ns, rfl, s, n1, n2, n3, hd⟩⟩, ?_⟩
  rintro v H3 hp' ok3 ⟨d, wd, cl, ns, rfl, s, n1, n2, n3, hD⟩
  obtain ⟨H4, sw, ok4, x1, x2, x3, x4, _⟩ := to_draw hD ok3 (m := 0) (Int.le_refl _)
  refine ⟨H4, sw, ok4, q _ d (fun p o hp => ?_) ⟨wd, cl, cs, x1, x2, x3, hD.ndw, hD.nwc, hD.ndc.symm⟩⟩
  exact x4 p o (s p o hp) (ne_of_none hp n1) (ne_of_none hp n2) (ne_of_none hp n3)
theorem ghost_take {P : Program} {w : World} {K : PySem.W.Frag} {mg : Str → Option Value} {base : Heap} {k : Nat} {f : Addr} {fd : FuncData} {ps : List Str} (F : FnOk P w K mg base C8.CX0 k f fd ps sp_take0) (hps : ps.length = 2) : FnOk P w K mg base C8.CX0 k f fd ps (sp_take P w) := by
  refine ghost F (fun vs H Q E h => by obtain ⟨d, sz, m, rfl, _⟩ := h; rw [hps]; rfl) fun vs H Q E h hp ok => ?_
  obtain ⟨d, sz, m, rfl, ⟨wd, cl, cs, a1, a2, a3, n1, n2, n3⟩, hm, h1, h2, q⟩ := h
  obtain ⟨ns, r, t, H2, sw, ok2, hD, htm, b1, b2⟩ := of_draw ok a1 a2 a3 n1 n2 n3
  refine ⟨H2, fun v H3 => ∃ k ns' r' t', v = .int k ∧ Draw0 H3 d wd cl cs ns' r' t' ∧ t' ≤ t + 1 ∧ But2 d wd H2 H3 ∧ 0 ≤ k ∧ k < sz, sw, ok2, ⟨d, wd, cl, cs, ns, r, t, sz, rfl, hD, by omega, h1, h2, fun H' k ns' r' t' hd ht hb k0 k1 => ⟨k, ns', r', t', rfl, hd, ht, hb, k0, k1⟩⟩, ?_⟩
  rintro v H3 hp' ok3 ⟨k, ns', r', t', rfl, hD3, ht, hb, k0, k1⟩
  obtain ⟨H4, sw4, ok4, x1, x2, x3, x4, _⟩ := to_draw hD3 ok3 (m := m + 1) (by omega)
  refine ⟨H4, sw4, ok4, q _ k (fun p o hp no => ?_) ⟨wd, cl, cs, x1, x2, x3, n1, n2, n3⟩ k0 k1⟩
  have e1 : p ≠ d := fun e => by rw [e, a1] at hp; exact no _ (Option.some.inj hp).symm
  have e2 : p ≠ wd := fun e => by rw [e, a2] at hp; exact no _ (Option.some.inj hp).symm
  have e3 : p ≠ cl := fun e => by rw [e, a3] at hp; exact no _ (Option.some.inj hp).symm
  exact x4 p o (hb p o (b1 p o hp e1 e2 e3) e1 e2) e1 e2 e3
end Wp
namespace Wp
open PySem PySem.Spec PyProof.Rows L2
theorem dr_wide {wd cl : Addr} {r t : Int} : valV (drK wd cl r t) (.inr "wide") = some (.ref wd) := rfl
theorem dr_cells {wd cl : Addr} {r t : Int} : valV (drK wd cl r t) (.inr "cells") = some (.ref cl) := rfl
theorem dr_rest {wd cl : Addr} {r t : Int} : valV (drK wd cl r t) (.inr "rest") = some (.int r) := rfl
theorem dr_turn {wd cl : Addr} {r t : Int} : valV (drK wd cl r t) (.inr "turn") = some (.int t) := rfl
theorem dr_prest {wd cl : Addr} {r t r' : Int} : putK (drK wd cl r t) (.inr "rest") (.int r') = drK wd cl r' t := rfl
theorem dr_pturn {wd cl : Addr} {r t t' : Int} : putK (drK wd cl r t) (.inr "turn") (.int t') = drK wd cl r t' := rfl
theorem dr_begun {wd cl : Addr} : mergeK [] [((Sum.inr "wide" : Key), V.ref wd), (Sum.inr "cells", V.ref cl), (Sum.inr "rest", V.int 0), (Sum.inr "turn", V.int 0)] = drK wd cl 0 0 := rfl
end Wp

set_option Elab.async false
set_option linter.all false
set_option maxRecDepth 100000
set_option maxHeartbeats 2000000
/-! promises of the law's draws -/
namespace Wp
open PySem PySem.Spec PyProof.Rows L2
theorem SqL.nX {K : PySem.W.Frag} {H H' : Hp} {a : Addr} {xs : List V} (f : Fr Wp.nX H H') (h : SqL K H a xs) : SqL K H' a xs := by
  rcases h with (h | ⟨o, h⟩) | h
  · exact .inl (.inl (f _ _ h (nX_lst _)))
  · exact .inl (.inr ⟨o, f _ _ h (fun _ e => nomatch e)⟩)
  · exact .inr h
def sp_pick (P : Program) (w : World) (K : PySem.W.Frag) : Sp := fun vs H Q _ => ∃ (d a : Addr) (xs : List V) (m : Int), vs = [.ref d, .ref a] ∧ DrawAt P w H d m ∧ m < 1000000000 ∧ SqL K H a xs ∧ xs ≠ [] ∧ xs.length < 1000000 ∧
  ∀ (H' : Hp) (i : Nat) (v : V), Fr Wp.nX H H' → DrawAt P w H' d (m + 1) → xs[i]? = some v → Q v H'
def sp_shuffled (P : Program) (w : World) (K : PySem.W.Frag) : Sp := fun vs H Q _ => ∃ (d a : Addr) (zs : List Str) (m : Int), vs = [.ref d, .ref a] ∧ DrawAt P w H d m ∧ m + zs.length < 1000000000 ∧ SqL K H a (zs.map V.str) ∧ zs.length ≤ 1000 ∧ (∀ z ∈ zs, Nm z) ∧
  ∀ (H' : Hp) (l : Addr) (ys : List Str), Fr Wp.nX H H' → DrawAt P w H' d (m + zs.length) → ys.Perm zs → H' l = some (.lst (ys.map V.str)) → Q (.ref l) H'
def sp_ticks (P : Program) (w : World) : Sp := fun vs H Q _ => ∃ (d : Addr) (m : Int), vs = [.ref d] ∧ DrawAt P w H d m ∧ m + 4 < 1000000000 ∧ ∀ (H' : Hp) (o : Option Int), Fr Wp.nX H H' → DrawAt P w H' d (m + 4) → Tk o → Q (vt o) H'
theorem Fr.up {R : HO → Prop} {H H1 : Hp} (f : Fr R H H1) {p : Addr} {o : HO} (n : H p = none) : Fr R H (upd H1 p o) := fun b u h r => by
  rw [upd_ne (ne_of_none h n)]
  exact f b u h r
end Wp
namespace Wp
theorem map_erase {α β : Type} (f : α → β) : ∀ (l : List α) (i : Nat), (l.map f).eraseIdx i = (l.eraseIdx i).map f
  | [], _ => rfl
  | _ :: _, 0 => rfl
  | a :: r, i + 1 => by
    show f a :: (r.map f).eraseIdx i = f a :: (r.eraseIdx i).map f
    rw [map_erase f r i]
theorem perm_erase {α : Type} : ∀ {l : List α} {i : Nat} (h : i < l.length), (l[i] :: l.eraseIdx i).Perm l
  | [], _, h => absurd h (Nat.not_lt_zero _)
  | _ :: _, 0, _ => .refl _
  | a :: r, i + 1, h => by
    have ih := perm_erase (l := r) (i := i) (Nat.lt_of_succ_lt_succ h)
    exact (List.Perm.swap a (r[i]'(Nat.lt_of_succ_lt_succ h)) (r.eraseIdx i)).trans (ih.cons a)
end Wp

set_option Elab.async false
set_option linter.all false
set_option maxRecDepth 100000
set_option maxHeartbeats 2000000
/-! promises of the law's defs over a net -/
namespace Wp
open PySem PySem.Spec PyProof.Rows L2
/-- the table of files in a model -/
def FTab (H : Hp) (fl : Addr) (S : Si) : Prop := ∃ ps : Str → Addr, H fl = some (.dK (S.ns.map fun z => (Sum.inr z, V.ref (ps z)))) ∧ ∀ z ∈ S.ns, ∃ r k, H (ps z) = some (.tup [.str (nmv (S.fd z).own), .ref r, vt (S.fd z).hold, .ref k]) ∧ H r = some (.tup ((S.fd z).refs.map V.str)) ∧ H k = some (.tup ((S.fd z).keeps.map vt))
def ModelAt (H : Hp) (mo : Addr) (S : Si) : Prop := ∃ fl el, H mo = some (.dK [(Sum.inr "files", .ref fl), (Sum.inr "entries", .ref el), (Sum.inr "counts", .str (cnv S.own))]) ∧ FTab H fl S ∧ H el = some (.tup (S.es.map V.str))
theorem FTab.fr {R : HO → Prop} {H H' : Hp} (f : Fr R H H') (h1 : ∀ xs, R (.tup xs)) (h2 : ∀ kvs, R (.dK kvs)) {fl : Addr} {S : Si} (h : FTab H fl S) : FTab H' fl S := by
  obtain ⟨ps, a, b⟩ := h
  refine ⟨ps, f _ _ a (h2 _), fun z hz => ?_⟩
  obtain ⟨r, k, x, y, w⟩ := b z hz
  exact ⟨r, k, f _ _ x (h1 _), f _ _ y (h1 _), f _ _ w (h1 _)⟩
theorem ModelAt.fr {R : HO → Prop} {H H' : Hp} (f : Fr R H H') (h1 : ∀ xs, R (.tup xs)) (h2 : ∀ kvs, R (.dK kvs)) {mo : Addr} {S : Si} (h : ModelAt H mo S) : ModelAt H' mo S := by
  obtain ⟨fl, el, a, b, d⟩ := h
  exact ⟨fl, el, f _ _ a (h2 _), b.fr f h1 h2, f _ _ d (h1 _)⟩
theorem FTab.same {H H' : Hp} (s : Same H H') {fl : Addr} {S : Si} (h : FTab H fl S) : FTab H' fl S := h.fr (R := fun _ => True) (.of s) (fun _ => trivial) (fun _ => trivial)
theorem ModelAt.same {H H' : Hp} (s : Same H H') {mo : Addr} {S : Si} (h : ModelAt H mo S) : ModelAt H' mo S := h.fr (R := fun _ => True) (.of s) (fun _ => trivial) (fun _ => trivial)
theorem FTab.get {H : Hp} {fl : Addr} {S : Si} {z : Str} (h : FTab H fl S) (hz : z ∈ S.ns) : ∃ p r k, DGet H fl (.str z) (some (.ref p)) ∧ H p = some (.tup [.str (nmv (S.fd z).own), .ref r, vt (S.fd z).hold, .ref k]) ∧ H r = some (.tup ((S.fd z).refs.map V.str)) ∧ H k = some (.tup ((S.fd z).keeps.map vt)) := by
  obtain ⟨ps, a, b⟩ := h
  obtain ⟨r, k, x, y, w⟩ := b z hz
  refine ⟨ps z, r, k, ?_, x, y, w⟩
  have := DGet.k (k := Sum.inr z) a
  rw [valK_map, if_pos hz] at this
  exact this
theorem mo_files {fl el : Addr} {c : Str} : valV [((Sum.inr "files" : Key), V.ref fl), (Sum.inr "entries", .ref el), (Sum.inr "counts", .str c)] (.inr "files") = some (.ref fl) := rfl
theorem mo_entries {fl el : Addr} {c : Str} : valV [((Sum.inr "files" : Key), V.ref fl), (Sum.inr "entries", .ref el), (Sum.inr "counts", .str c)] (.inr "entries") = some (.ref el) := rfl
theorem mo_counts {fl el : Addr} {c : Str} : valV [((Sum.inr "files" : Key), V.ref fl), (Sum.inr "entries", .ref el), (Sum.inr "counts", .str c)] (.inr "counts") = some (.str c) := rfl
/-- how old an answer can get -/
def AgeOf (own : Bool) (ks : List (Option Int)) (o : Option Int) : Prop := (none ∈ ks ∧ o = none) ∨ ∃ (vs : List Int) (m : Int), ks = vs.map some ∧ o = some m ∧ if own = true then m = vs.sum else (m ∈ 0 :: vs ∧ ∀ y ∈ 0 :: vs, y ≤ m)
def sp_age : Sp := fun vs H Q _ => ∃ (mo : Addr) (x : Str) (S : Si), vs = [.ref mo, .str x] ∧ ModelAt H mo S ∧ x ∈ S.ns ∧ (S.fd x).keeps.length ≤ 4 ∧ ∀ H' o, Same H H' → AgeOf S.own (S.fd x).keeps o → Q (vt o) H'
def effW (N : Ns) (t : Int) : Ns := if 0 < t then { N with tick := N.tick + t } else N
def lostN (N : Ns) (k : Nat) : Ns := { N with cps := List.replicate k none ++ N.cps.drop k }
def sp_wait (P : Program) (w : World) (c : CA) : Sp := fun vs H Q _ => ∃ (n s : Addr) (S : Si) (x : Str) (N : Ns) (t : Int), vs = [.ref n, .int t] ∧ NetAt P w c H n s S x N ∧ NOk S x N ∧ t ≤ 20000 ∧ ∀ H', NetAt P w c H' n s S x (effW N t) → Fr (nI c.N) H H' → Q .non H'
def sp_lost (P : Program) (w : World) (c : CA) : Sp := fun vs H Q _ => ∃ (n s : Addr) (S : Si) (x : Str) (N : Ns) (k : Nat), vs = [.ref n, .int k, .str x] ∧ NetAt P w c H n s S x N ∧ NOk S x N ∧ k ≤ N.cps.length ∧ ∀ H', NetAt P w c H' n s S x (lostN N k) → Fr (nI c.N) H H' → Q .non H'
/-- what is waited for at a cache -/
def waitAt (own : Bool) (T passed : Int) (kp : Option Int) : Int := match kp with
  | none => T - passed
  | some k => if own = true then (if T - passed < k then T - passed else k) else (if T ≤ k then T - passed else 0)
def agedStep (S : Si) (x : Str) (T : Int) (i : Nat) (kp : Option Int) (a : Ns × Int) : Ns × Int :=
  let t := waitAt S.own T a.2 kp
  let N2 := lostN (effW a.1 t) i
  (if 0 < i then eff S x N2 .opn else N2, a.2 + t)
/-- the caches below i, the farthest first -/
def agedR (S : Si) (x : Str) (T : Int) : Nat → Ns × Int → Ns × Int
  | 0, a => a
  | i + 1, a => agedR S x T i (agedStep S x T i ((S.fd x).keeps.getD i none) a)
def sp_aged (P : Program) (w : World) (c : CA) : Sp := fun vs H Q _ => ∃ (n s mo : Addr) (S : Si) (x : Str) (N : Ns) (T : Int), vs = [.ref n, .ref mo, .str x, .int T] ∧ NetAt P w c H n s S x N ∧ NOk S x N ∧ ModelAt H mo S ∧ x ∈ S.ns ∧ 0 ≤ T ∧ T ≤ 20000 ∧ N.vis.length ≤ 100 ∧
  ∀ H', NetAt P w c H' n s S x (agedR S x T (S.fd x).keeps.length (N, 0)).1 → Fr (nI c.N) H H' → Q (.int (agedR S x T (S.fd x).keeps.length (N, 0)).2) H'
def sp_lopened (P : Program) (w : World) (c : CA) : Sp := fun vs H Q _ => ∃ (n s : Addr) (S : Si) (x : Str) (N : Ns), vs = [.ref n, .str x] ∧ NetAt P w c H n s S x N ∧ NOk S x N ∧ N.vis.length < 1000 ∧ ∀ H', NetAt P w c H' n s S x (eff S x N .opn) → Fr (nI c.N) H H' → Q (.int (lookN S x N).2.1) H'
end Wp
namespace Wp
open PySem PySem.Spec PyProof.Rows L2
theorem inV_non : ∀ ks : List (Option Int), inV .non (ks.map vt) = decide (none ∈ ks)
  | [] => rfl
  | none :: r => by
    show (true || inV .non (r.map vt)) = _
    simp
  | some n :: r => by
    show (false || inV .non (r.map vt)) = _
    rw [inV_non r]
    simp
theorem flat_vt : ∀ ks : List (Option Int), (ks.map vt).all flatV = true
  | [] => rfl
  | none :: r => flat_vt r
  | some _ :: r => flat_vt r
theorem ks_vals : ∀ {ks : List (Option Int)}, none ∉ ks → ∃ vs : List Int, ks = vs.map some
  | [], _ => ⟨[], rfl⟩
  | none :: r, h => absurd List.mem_cons_self h
  | some n :: r, h => by
    obtain ⟨vs, rfl⟩ := ks_vals (ks := r) fun m => h (List.mem_cons_of_mem _ m)
    exact ⟨n :: vs, rfl⟩
theorem vt_some (vs : List Int) : (vs.map some).map vt = vs.map V.int := by rw [List.map_map]; rfl
theorem lost_len (N : Ns) (k : Nat) (h : k ≤ N.cps.length) : (lostN N k).cps.length = N.cps.length := by
  show (List.replicate k none ++ N.cps.drop k).length = _
  rw [List.length_append, List.length_replicate, List.length_drop]
  omega
theorem lost_at (N : Ns) (k : Nat) (h : k < N.cps.length) : (lostN N k).cps[k]? = N.cps[k]? := by
  show (List.replicate k none ++ N.cps.drop k)[k]? = _
  rw [List.getElem?_append_right (by simp), List.length_replicate, Nat.sub_self, List.getElem?_drop, Nat.add_zero]
theorem lost_succ (N : Ns) (k : Nat) (h : k < N.cps.length) : setC (lostN N k) k none = lostN N (k + 1) := by
  show Ns.mk N.tick N.ph ((List.replicate k none ++ N.cps.drop k).set k none) N.vis = Ns.mk N.tick N.ph (List.replicate (k + 1) none ++ N.cps.drop (k + 1)) N.vis
  rw [set_fill _ _ _ h]
theorem lost_none (N : Ns) (k : Nat) (h : N.cps[k]? = some none) : lostN N (k + 1) = lostN N k := by
  have hk := (List.getElem?_eq_some_iff.mp h)
  obtain ⟨hk1, hk2⟩ := hk
  show Ns.mk N.tick N.ph (List.replicate (k + 1) none ++ N.cps.drop (k + 1)) N.vis = Ns.mk N.tick N.ph (List.replicate k none ++ N.cps.drop k) N.vis
  rw [← List.getElem_cons_drop hk1, hk2, List.replicate_succ', List.append_assoc]
  rfl
theorem lost_zero (N : Ns) : lostN N 0 = N := rfl
end Wp
namespace Wp
open PySem PySem.Spec PyProof.Rows L2
theorem rev_rg {n i : Nat} (h : i < n) : ((rgV 0 (n : Int)).reverse)[i]? = some (.int ((n - 1 - i : Nat) : Int)) := by
  have hl : (rgV 0 (n : Int)).length = n := by rw [rgV_length]; omega
  rw [List.getElem?_reverse (by omega), hl]
  unfold rgV
  rw [List.getElem?_map, List.getElem?_range (by omega)]
  show some (V.int (0 + _)) = _
  rw [Int.zero_add]
theorem NOk.w {S : Si} {x : Str} {N : Ns} (h : NOk S x N) (t : Int) : NOk S x (effW N t) := by
  unfold effW
  split
  · exact ⟨h.ok, h.ent, h.ph, h.cs, h.vs⟩
  · exact h
theorem NOk.l {S : Si} {x : Str} {N : Ns} (h : NOk S x N) {k : Nat} (hk : k ≤ N.cps.length) : NOk S x (lostN N k) := h.put (lost_len N k hk)
theorem NOk.o {S : Si} {x : Str} {N : Ns} (h : NOk S x N) (hv : N.vis.length < 1000) : NOk S x (eff S x N .opn) := by
  refine ⟨h.ok, h.ent, h.ph, ?_, ?_⟩
  · show (lookN S x N).1.length = _
    unfold lookN
    rw [look_len]
    exact h.cs
  · show (N.vis ++ [_]).length ≤ 1000
    rw [List.length_append]
    show _ + 1 ≤ _
    omega
theorem effW_cps (N : Ns) (t : Int) : (effW N t).cps = N.cps := by unfold effW; split <;> rfl
theorem effW_vis (N : Ns) (t : Int) : (effW N t).vis = N.vis := by unfold effW; split <;> rfl
theorem waitAt_le {own : Bool} {T p : Int} {kp : Option Int} (h : p ≤ T) (hk : Tk kp) : 0 ≤ waitAt own T p kp ∧ waitAt own T p kp ≤ T - p := by
  cases kp with
  | none => exact ⟨by show 0 ≤ T - p; omega, Int.le_refl _⟩
  | some k =>
    have := (hk k rfl).1
    show 0 ≤ (if own = true then (if T - p < k then T - p else k) else (if T ≤ k then T - p else 0)) ∧ (if own = true then (if T - p < k then T - p else k) else (if T ≤ k then T - p else 0)) ≤ T - p
    split <;> split <;> omega
end Wp

set_option Elab.async false
set_option linter.all false
set_option maxRecDepth 100000
set_option maxHeartbeats 2000000
/-! promises of _law_site, _law_right -/
namespace Wp
open PySem PySem.Spec PyProof.Rows L2
def sp_lsite (c : CA) : Sp := fun vs H Q _ => ∃ (mo : Addr) (S : Si), vs = [.ref mo] ∧ ModelAt H mo S ∧ SiOk S ∧ ∀ H' s, Same H H' → SiteAt c H' s S → Q (.ref s) H'
/-- behind the replacement -/
def nsR (S : Si) (x : Str) : Ns := eff S x (eff S x (eff S x (ns0 S x) .opn) .beg) .stp
def nsF (S : Si) (x : Str) (T : Int) : Ns := let A := agedR S x T (S.fd x).keeps.length (nsR S x, 0); effW A.1 (T - A.2)
def dueB (n : Nat) (o : Option Int) (T : Int) : Bool := decide (0 < n) && (match o with | none => true | some a => decide (T ≤ a))
def sp_lright (c : CA) : Sp := fun vs H Q _ => ∃ (d mo : Addr) (x : Str) (S : Si) (T : Int), vs = [.ref d, .ref mo, .str x, .int T] ∧ ModelAt H mo S ∧ SiOk S ∧ x ∈ S.es ∧ 0 ≤ T ∧ T ≤ 20000 ∧
  (lookN S x (ns0 S x)).2.1 = 0 ∧ (∀ o, AgeOf S.own (S.fd x).keeps o → decide ((lookN S x (nsF S x T)).2.1 = 0) = dueB (S.fd x).keeps.length o T) ∧ ∀ H', Fr (nI c.N) H H' → Q (.bl true) H'
end Wp
namespace Wp
open PySem PySem.Spec PyProof.Rows L2
theorem rows_of {K : PySem.W.Frag} {c : CA} {H : Hp} {fd : Str → Fd} : ∀ {ns : List Str} {ys : List V}, ys.length = ns.length → (∀ (i : Nat) (y : V), ys[i]? = some y → ∃ t z p, y = .ref t ∧ ns[i]? = some z ∧ H t = some (.tup [.str z, .ref p]) ∧ FileAt c H p (fd z)) →
    ∃ (ts : List Addr) (qs : List V), ys = ts.map V.ref ∧ qs.length = ns.length ∧ Paired (fun t (kv : Key × V) => SqT K H t [kV kv.1, kv.2]) ts ((ns.zip qs).map fun zq => ((Sum.inr zq.1 : Key), zq.2)) ∧ ∀ (i : Nat) z q, ns[i]? = some z → qs[i]? = some q → ∃ p, q = .ref p ∧ FileAt c H p (fd z)
  | [], [], _, _ => ⟨[], [], rfl, rfl, .nil, fun i z q e => by simp at e⟩
  | [], _ :: _, l, _ => by simp at l
  | _ :: _, [], l, _ => by simp at l
  | n :: r, y :: ys, l, h => by
    obtain ⟨ts, qs, e1, e2, e3, e4⟩ := rows_of (K := K) (ns := r) (ys := ys) (by simpa using l) fun i y' e => h (i + 1) y' (by simpa using e)
    obtain ⟨t, z, p, rfl, ez, ht, hp⟩ := h 0 y rfl
    simp only [List.getElem?_cons_zero, Option.some.injEq] at ez
    subst ez
    refine ⟨t :: ts, .ref p :: qs, by rw [e1]; rfl, by simp [e2], .cons (SqT.of ht) e3, fun i z q a b => ?_⟩
    cases i with
    | zero =>
      simp only [List.getElem?_cons_zero, Option.some.injEq] at a b
      subst a b
      exact ⟨p, rfl, hp⟩
    | succ i => exact e4 i z q (by simpa using a) (by simpa using b)
/-- .. the keys differ, so the dict of the pairs tells each file -/
theorem files_rows {c : CA} {H : Hp} {fd : Str → Fd} {ns : List Str} {qs : List V} {f : Addr} (nd : ns.Nodup) (hl : qs.length = ns.length) (hf : H f = some (.dK (mergeK [] ((ns.zip qs).map fun zq => ((Sum.inr zq.1 : Key), zq.2))))) (h : ∀ (i : Nat) z q, ns[i]? = some z → qs[i]? = some q → ∃ p, q = .ref p ∧ FileAt c H p (fd z)) : FilesAt c H f ns fd := by
  obtain ⟨gv, e1, e2⟩ := zip_fun ns qs hl nd
  rw [e1] at hf
  have nd2 : ((ns.map fun z => ((Sum.inr z : Key), gv z)).map (·.1)).Nodup := by
    rw [List.map_map]
    exact List.Pairwise.map (R := fun a b => a ≠ b) (Sum.inr : Str → Key) (fun a b h e => h (Sum.inr.inj e)) nd
  rw [mergeK_nil nd2] at hf
  refine files_gv hf fun z hz => ?_
  obtain ⟨i, hi, e⟩ := List.mem_iff_getElem.mp hz
  have e3 : ns[i]? = some z := by rw [List.getElem?_eq_getElem hi, e]
  exact h i z _ e3 (e2 i z e3)
end Wp
namespace Wp
open PySem PySem.Spec PyProof.Rows L2
theorem refs_of {R : Nat → Addr → Prop} : ∀ {ys : List V}, (∀ (i : Nat) (y : V), ys[i]? = some y → ∃ p, y = .ref p ∧ R i p) → ∃ ps : List Addr, ys = ps.map V.ref ∧ ∀ (i : Nat) p, ps[i]? = some p → R i p
  | [], _ => ⟨[], rfl, fun i p e => by simp at e⟩
  | y :: ys, h => by
    obtain ⟨p, rfl, hp⟩ := h 0 y rfl
    obtain ⟨ps, rfl, hps⟩ := refs_of (R := fun i p => R (i + 1) p) (ys := ys) fun i y' e => h (i + 1) y' (by simpa using e)
    refine ⟨p :: ps, rfl, fun i q e => ?_⟩
    cases i with
    | zero => cases e; exact hp
    | succ i => exact hps i q (by simpa using e)
theorem agedR_ok {S : Si} {x : Str} {T : Int} (hk : ∀ kp ∈ (S.fd x).keeps, Tk kp) : ∀ (i : Nat) (a : Ns × Int), NOk S x a.1 → 0 ≤ a.2 → a.2 ≤ T → a.1.vis.length + i ≤ 1000 → i ≤ a.1.cps.length →
    NOk S x (agedR S x T i a).1 ∧ 0 ≤ (agedR S x T i a).2 ∧ (agedR S x T i a).2 ≤ T ∧ (agedR S x T i a).1.vis.length ≤ a.1.vis.length + i
  | 0, a, h, h0, h1, hv, _ => ⟨h, h0, h1, Nat.le_refl _⟩
  | i + 1, a, h, h0, h1, hv, hi => by
    have hcs := h.cs
    have htk : Tk ((S.fd x).keeps.getD i none) := by
      rw [List.getD_eq_getElem?_getD, List.getElem?_eq_getElem (by omega)]
      exact hk _ (List.getElem_mem _)
    obtain ⟨w0, w1⟩ := waitAt_le (own := S.own) h1 htk
    have ok1 := h.w (waitAt S.own T a.2 ((S.fd x).keeps.getD i none))
    have hi2 : i ≤ (effW a.1 (waitAt S.own T a.2 ((S.fd x).keeps.getD i none))).cps.length := by rw [effW_cps]; omega
    have ok2 := ok1.l hi2
    have hv2 : (lostN (effW a.1 (waitAt S.own T a.2 ((S.fd x).keeps.getD i none))) i).vis.length = a.1.vis.length := by
      show (effW a.1 _).vis.length = _
      rw [effW_vis]
    have hc2 : (lostN (effW a.1 (waitAt S.own T a.2 ((S.fd x).keeps.getD i none))) i).cps.length = a.1.cps.length := by rw [lost_len _ _ hi2, effW_cps]
    have key : NOk S x (agedStep S x T i ((S.fd x).keeps.getD i none) a).1 ∧ (agedStep S x T i ((S.fd x).keeps.getD i none) a).1.vis.length ≤ a.1.vis.length + 1 ∧ (agedStep S x T i ((S.fd x).keeps.getD i none) a).1.cps.length = a.1.cps.length := by
      show NOk S x (if 0 < i then eff S x (lostN (effW a.1 (waitAt S.own T a.2 ((S.fd x).keeps.getD i none))) i) .opn else lostN (effW a.1 (waitAt S.own T a.2 ((S.fd x).keeps.getD i none))) i) ∧ (if 0 < i then eff S x (lostN (effW a.1 (waitAt S.own T a.2 ((S.fd x).keeps.getD i none))) i) .opn else lostN (effW a.1 (waitAt S.own T a.2 ((S.fd x).keeps.getD i none))) i).vis.length ≤ _ ∧ (if 0 < i then eff S x (lostN (effW a.1 (waitAt S.own T a.2 ((S.fd x).keeps.getD i none))) i) .opn else lostN (effW a.1 (waitAt S.own T a.2 ((S.fd x).keeps.getD i none))) i).cps.length = _
      by_cases h0 : 0 < i
      · rw [if_pos h0]
        refine ⟨ok2.o (by omega), ?_, ?_⟩
        · show ((lostN _ i).vis ++ [_]).length ≤ _
          rw [List.length_append, hv2]
          exact Nat.le_refl _
        · show (lookN S x _).1.length = _
          unfold lookN
          rw [look_len]
          exact hc2
      · rw [if_neg h0]
        exact ⟨ok2, by omega, hc2⟩
    obtain ⟨k1, k2, k3⟩ := key
    have h2 : (agedStep S x T i ((S.fd x).keeps.getD i none) a).2 = a.2 + waitAt S.own T a.2 ((S.fd x).keeps.getD i none) := rfl
    obtain ⟨r1, r2, r3, r4⟩ := agedR_ok (T := T) hk i (agedStep S x T i ((S.fd x).keeps.getD i none) a) k1 (by rw [h2]; omega) (by rw [h2]; omega) (by omega) (by omega)
    exact ⟨r1, r2, r3, by show (agedR S x T i (agedStep S x T i ((S.fd x).keeps.getD i none) a)).1.vis.length ≤ _; omega⟩
theorem ns0_ok {S : Si} {x : Str} (ok : SiOk S) (hx : x ∈ S.es) : NOk S x (ns0 S x) := ⟨ok, hx, by show 0 ≤ 2; decide, by show (List.replicate _ _).length = _; rw [List.length_replicate], by show 0 ≤ 1000; decide⟩
theorem NOk.b {S : Si} {x : Str} {N : Ns} (h : NOk S x N) : NOk S x (eff S x N .beg) := ⟨h.ok, h.ent, by show 1 ≤ 2; decide, h.cs, h.vs⟩
theorem NOk.s {S : Si} {x : Str} {N : Ns} (h : NOk S x N) : NOk S x (eff S x N .stp) := ⟨h.ok, h.ent, by show 2 ≤ 2; decide, h.cs, h.vs⟩
end Wp

set_option Elab.async false
set_option linter.all false
set_option maxRecDepth 100000
set_option maxHeartbeats 2000000
/-! the ages, in plain words -/
namespace Wp
/-- what is passed at the caches of the list, the farthest first -/
def psF (own : Bool) (T : Int) : List (Option Int) → Int
  | [] => 0
  | kp :: r => psF own T r + waitAt own T (psF own T r) kp
theorem psF_bd {own : Bool} {T : Int} (hT : 0 ≤ T) : ∀ {ks : List (Option Int)}, (∀ kp ∈ ks, Tk kp) → 0 ≤ psF own T ks ∧ psF own T ks ≤ T
  | [], _ => ⟨Int.le_refl _, hT⟩
  | kp :: r, h => by
    have ih := psF_bd (own := own) hT (ks := r) fun k m => h k (List.mem_cons_of_mem _ m)
    have w := waitAt_le (own := own) ih.2 (h kp List.mem_cons_self)
    show 0 ≤ psF own T r + waitAt own T (psF own T r) kp ∧ psF own T r + waitAt own T (psF own T r) kp ≤ T
    omega
theorem psF_none {T : Int} (hT : 0 ≤ T) : ∀ {ks : List (Option Int)}, (∀ kp ∈ ks, Tk kp) → none ∈ ks → psF true T ks = T
  | [], _, h => by cases h
  | kp :: r, hk, h => by
    have bd := psF_bd (own := true) hT (ks := r) fun k m => hk k (List.mem_cons_of_mem _ m)
    cases kp with
    | none =>
      show psF true T r + (T - psF true T r) = T
      omega
    | some k =>
      have h' : none ∈ r := by simpa using h
      have ih := psF_none hT (ks := r) (fun k m => hk k (List.mem_cons_of_mem _ m)) h'
      have k0 := (hk (some k) List.mem_cons_self k rfl).1
      show psF true T r + (if T - psF true T r < k then T - psF true T r else k) = T
      rw [ih]
      split <;> omega
theorem psF_some {T : Int} (hT : 0 ≤ T) : ∀ {vs : List Int}, (∀ v ∈ vs, 0 ≤ v) → psF true T (vs.map some) = min T vs.sum
  | [], _ => by
    show (0 : Int) = min T 0
    omega
  | v :: r, h => by
    have ih := psF_some hT (vs := r) fun k m => h k (List.mem_cons_of_mem _ m)
    have v0 := h v List.mem_cons_self
    show psF true T (r.map some) + (if T - psF true T (r.map some) < v then T - psF true T (r.map some) else v) = _
    rw [ih, List.sum_cons]
    split <;> omega
def bigB (T : Int) : Option Int → Bool
  | none => true
  | some k => decide (T ≤ k)
theorem psF_whole {T : Int} : ∀ {ks : List (Option Int)}, psF false T ks = if ks.any (bigB T) = true then T else 0
  | [] => rfl
  | kp :: r => by
    have ih := psF_whole (T := T) (ks := r)
    show psF false T r + waitAt false T (psF false T r) kp = if (bigB T kp || r.any (bigB T)) = true then T else 0
    cases kp with
    | none =>
      show psF false T r + (T - psF false T r) = if (true || r.any (bigB T)) = true then T else 0
      rw [Bool.true_or, if_pos rfl]
      omega
    | some k =>
      show psF false T r + (if T ≤ k then T - psF false T r else 0) = if (decide (T ≤ k) || r.any (bigB T)) = true then T else 0
      by_cases hk : T ≤ k
      · rw [if_pos hk, decide_eq_true hk, Bool.true_or, if_pos rfl]
        omega
      · rw [if_neg hk, decide_eq_false hk, ih]
        simp
/-! ### the way of an answer when all the copies are of the first contents -/
def frAt (own : Bool) (tick : Int) (ks : List (Option Int)) (os : List (Option Cp)) (j : Nat) : Prop := ∃ kp o p, ks[j]? = some kp ∧ os[j]? = some o ∧ freshAt own tick kp o = some p
theorem first_of {Q : Nat → Prop} : ∀ {n : Nat}, Q n → ∃ m, m ≤ n ∧ Q m ∧ ∀ j, j < m → ¬ Q j := by
  intro n
  induction n using Nat.strongRecOn with
  | ind n ih =>
    intro h
    by_cases e : ∃ j, j < n ∧ Q j
    · obtain ⟨j, hj, hq⟩ := e
      obtain ⟨m, h1, h2, h3⟩ := ih j hj hq
      exact ⟨m, by omega, h2, h3⟩
    · exact ⟨n, Nat.le_refl _, h, fun j hj hq => e ⟨j, hj, hq⟩⟩
theorem look_first {own : Bool} {tick srv : Int} {ks : List (Option Int)} {os : List (Option Cp)} (hall : ∀ (j : Nat) p, os[j]? = some (some p) → p.con = 0 ∧ p.giv = 0) {j : Nat} (hj : frAt own tick ks os j) :
    ∃ m, m ≤ j ∧ frAt own tick ks os m ∧ (∀ l, l < m → ¬ frAt own tick ks os l) ∧ look own tick srv ks os = lkAt tick os m 0 0 := by
  obtain ⟨m, h1, h2, h3⟩ := first_of (Q := frAt own tick ks os) hj
  refine ⟨m, h1, h2, h3, ?_⟩
  obtain ⟨kp, o, p, e1, e2, e3⟩ := h2
  have hp : o = some p := by
    cases o with
    | none => cases e3
    | some q =>
      have : (if freshB own tick kp q = true then some q else none) = some p := e3
      by_cases hf : freshB own tick kp q = true
      · rw [if_pos hf] at this
        exact this
      · rw [if_neg hf] at this
        cases this
  subst hp
  obtain ⟨c0, g0⟩ := hall m p e2
  rw [look_hit e1 e2 e3 fun l kp' o' hl a b => ?_, c0, g0]
  cases hf : freshAt own tick kp' o' with
  | none => rfl
  | some q => exact absurd ⟨kp', o', q, a, b, hf⟩ (h3 l hl)
theorem look_con {own : Bool} {tick srv : Int} {ks : List (Option Int)} {os : List (Option Cp)} (hl : ks.length = os.length) (hall : ∀ (j : Nat) p, os[j]? = some (some p) → p.con = 0 ∧ p.giv = 0) :
    ((∃ j, frAt own tick ks os j) ∧ (look own tick srv ks os).2.1 = 0) ∨ ((¬ ∃ j, frAt own tick ks os j) ∧ (look own tick srv ks os).2.1 = srv) := by
  by_cases h : ∃ j, frAt own tick ks os j
  · obtain ⟨j, hj⟩ := h
    obtain ⟨m, _, _, _, e⟩ := look_first (srv := srv) hall hj
    exact .inl ⟨⟨j, hj⟩, by rw [e]; rfl⟩
  · refine .inr ⟨h, ?_⟩
    rw [look_miss hl fun j kp o a b => ?_]
    · rfl
    · cases hf : freshAt own tick kp o with
      | none => rfl
      | some q => exact absurd ⟨j, kp, o, q, a, b, hf⟩ h
end Wp

set_option Elab.async false
set_option linter.all false
set_option maxRecDepth 100000
set_option maxHeartbeats 2000000
/-! the net while its answer gets old -/
namespace Wp
open PySem
structure Run (S : Si) (x : Str) (T : Int) (i : Nat) (N : Ns) (ps : Int) : Prop where
  tick : N.tick = ps
  ph : N.ph = 2
  len : N.cps.length = (S.fd x).keeps.length
  ps : ps = psF S.own T ((S.fd x).keeps.drop i)
  all : ∀ j, j < (S.fd x).keeps.length → ∃ g, N.cps[j]? = some (some ⟨0, g, 0⟩) ∧ (S.own = true → g = psF true T ((S.fd x).keeps.drop (max (j + 1) i)))
theorem Run.hall {S : Si} {x : Str} {T : Int} {i : Nat} {N : Ns} {ps : Int} (r : Run S x T i N ps) : ∀ (j : Nat) p, N.cps[j]? = some (some p) → p.con = 0 ∧ p.giv = 0 := fun j p e => by
  obtain ⟨g, e2, _⟩ := r.all j (by rw [← r.len]; exact (List.getElem?_eq_some_iff.mp e).1)
  rw [e] at e2
  cases e2
  exact ⟨rfl, rfl⟩
theorem effW_tick {N : Ns} {t : Int} (h : 0 ≤ t) : (effW N t).tick = N.tick + t := by
  unfold effW
  split
  · rfl
  · omega
theorem effW_ph (N : Ns) (t : Int) : (effW N t).ph = N.ph := by unfold effW; split <;> rfl
theorem lost_lt (N : Ns) (k j : Nat) (h : j < k) (hk : k ≤ N.cps.length) : (lostN N k).cps[j]? = some none := by
  show (List.replicate k none ++ N.cps.drop k)[j]? = _
  rw [List.getElem?_append_left (by rw [List.length_replicate]; exact h), List.getElem?_replicate, if_pos h]
theorem lost_ge (N : Ns) (k j : Nat) (h : k ≤ j) : (lostN N k).cps[j]? = N.cps[j]? := by
  show (List.replicate k none ++ N.cps.drop k)[j]? = _
  rw [List.getElem?_append_right (by rw [List.length_replicate]; exact h), List.length_replicate, List.getElem?_drop]
  congr 1
  omega
theorem fresh_none {own : Bool} {tick : Int} {kp : Option Int} {p : Cp} : ¬ freshAt own tick kp none = some p := fun h => by cases h
theorem fresh_some {own : Bool} {tick : Int} {kp : Option Int} {p : Cp} (h : freshB own tick kp p = true) : freshAt own tick kp (some p) = some p := by
  show (if _ then _ else _) = _
  rw [if_pos h]
theorem fresh_of {own : Bool} {tick : Int} {kp : Option Int} {p q : Cp} (h : freshAt own tick kp (some p) = some q) : freshB own tick kp p = true := by
  by_cases e : freshB own tick kp p = true
  · exact e
  · have : (if freshB own tick kp p = true then some p else none) = some q := h
    rw [if_neg e] at this
    cases this
theorem drop_at {ks : List (Option Int)} {i : Nat} {kp : Option Int} (e : ks[i]? = some kp) : ks.drop i = kp :: ks.drop (i + 1) := by
  obtain ⟨h, e1⟩ := List.getElem?_eq_some_iff.mp e
  rw [← List.getElem_cons_drop h, e1]
theorem run_step {S : Si} {x : Str} {T : Int} (hT : 0 ≤ T) (hk : ∀ kp ∈ (S.fd x).keeps, Tk kp) {i : Nat} (hi : i < (S.fd x).keeps.length) {N : Ns} {ps : Int} (r : Run S x T (i + 1) N ps) :
    Run S x T i (agedStep S x T i ((S.fd x).keeps.getD i none) (N, ps)).1 (agedStep S x T i ((S.fd x).keeps.getD i none) (N, ps)).2 := by
  obtain ⟨kp, ek⟩ : ∃ kp, (S.fd x).keeps[i]? = some kp := ⟨_, List.getElem?_eq_getElem hi⟩
  have htk := hk kp (List.mem_of_getElem? ek)
  have hd := drop_at ek
  have hsub : ∀ m, ∀ k ∈ (S.fd x).keeps.drop m, Tk k := fun m k h => hk k (List.mem_of_mem_drop h)
  have bd := psF_bd (own := S.own) hT (hsub (i + 1))
  rw [← r.ps] at bd
  rw [List.getD_eq_getElem?_getD, ek]
  show Run S x T i (if 0 < i then eff S x (lostN (effW N (waitAt S.own T ps kp)) i) .opn else lostN (effW N (waitAt S.own T ps kp)) i) (ps + waitAt S.own T ps kp)
  obtain ⟨w0, w1⟩ := waitAt_le (own := S.own) bd.2 htk
  have eps : ps + waitAt S.own T ps kp = psF S.own T ((S.fd x).keeps.drop i) := by
    rw [hd]
    show _ = psF S.own T ((S.fd x).keeps.drop (i + 1)) + waitAt S.own T (psF S.own T ((S.fd x).keeps.drop (i + 1))) kp
    rw [← r.ps]
  generalize ht : waitAt S.own T ps kp = t at w0 w1 eps
  have hlen1 : (effW N t).cps.length = (S.fd x).keeps.length := by rw [effW_cps]; exact r.len
  have htick : (lostN (effW N t) i).tick = ps + t := by
    show (effW N t).tick = _
    rw [effW_tick w0, r.tick]
  have hph : (lostN (effW N t) i).ph = 2 := by
    show (effW N t).ph = _
    rw [effW_ph, r.ph]
  have hlen : (lostN (effW N t) i).cps.length = (S.fd x).keeps.length := by rw [lost_len _ _ (by omega), hlen1]
  have hge : ∀ j, i ≤ j → j < (S.fd x).keeps.length → ∃ g, (lostN (effW N t) i).cps[j]? = some (some ⟨0, g, 0⟩) ∧ (S.own = true → g = psF true T ((S.fd x).keeps.drop (j + 1))) := fun j h1 h2 => by
    obtain ⟨g, e1, e2⟩ := r.all j h2
    refine ⟨g, by rw [lost_ge _ _ _ h1, effW_cps]; exact e1, fun ho => ?_⟩
    rw [e2 ho]
    congr 2
    omega
  by_cases h0 : 0 < i
  · rw [if_pos h0]
    generalize hN2 : lostN (effW N t) i = N2 at htick hph hlen hge
    have hlt : ∀ j, j < i → N2.cps[j]? = some none := fun j h => by rw [← hN2]; exact lost_lt _ _ _ h (by omega)
    have hall : ∀ (j : Nat) p, N2.cps[j]? = some (some p) → p.con = 0 ∧ p.giv = 0 := fun j p e => by
      by_cases hj : j < i
      · rw [hlt j hj] at e
        cases e
      · obtain ⟨g, e2, _⟩ := hge j (by omega) (by rw [← hlen]; exact (List.getElem?_eq_some_iff.mp e).1)
        rw [e] at e2
        cases e2
        exact ⟨rfl, rfl⟩
    -- a fresh one
    have hfr : ∃ j, (S.own = true → j = i) ∧ frAt S.own N2.tick (S.fd x).keeps N2.cps j := by
      by_cases ho : S.own = true
      · obtain ⟨g, e1, e2⟩ := hge i (Nat.le_refl _) hi
        have hg := e2 ho
        rw [← ho, ← r.ps] at hg
        rw [hg] at e1
        refine ⟨i, fun _ => rfl, kp, _, _, ek, e1, fresh_some ?_⟩
        rw [htick]
        cases kp with
        | none => rfl
        | some k =>
          show decide (ps + t - (if S.own = true then ps else 0) ≤ k) = true
          rw [if_pos ho]
          refine decide_eq_true ?_
          have et : (if S.own = true then (if T - ps < k then T - ps else k) else (if T ≤ k then T - ps else 0)) = t := ht
          rw [if_pos ho] at et
          split at et <;> omega
      · have ho' : S.own = false := by simpa using ho
        rw [ho', psF_whole] at eps
        by_cases ha : ((S.fd x).keeps.drop i).any (bigB T) = true
        · rw [if_pos ha] at eps
          obtain ⟨kq, hm, hb⟩ := List.any_eq_true.mp ha
          obtain ⟨l, hl, el⟩ := List.mem_iff_getElem.mp hm
          have el2 : (S.fd x).keeps[i + l]? = some kq := by
            rw [← List.getElem?_drop, List.getElem?_eq_getElem hl, el]
          obtain ⟨g, e1, _⟩ := hge (i + l) (by omega) (List.getElem?_eq_some_iff.mp el2).1
          refine ⟨i + l, fun h => absurd h ho, kq, _, _, el2, e1, fresh_some ?_⟩
          rw [htick, eps]
          cases kq with
          | none => rfl
          | some k =>
            show decide (T - (if S.own = true then g else 0) ≤ k) = true
            rw [if_neg ho]
            have : decide (T ≤ k) = true := hb
            exact decide_eq_true (by have := of_decide_eq_true this; omega)
        · rw [if_neg ha] at eps
          obtain ⟨g, e1, _⟩ := hge i (Nat.le_refl _) hi
          refine ⟨i, fun _ => rfl, kp, _, _, ek, e1, fresh_some ?_⟩
          rw [htick, eps]
          cases kp with
          | none => rfl
          | some k =>
            show decide (0 - (if S.own = true then g else 0) ≤ k) = true
            rw [if_neg ho]
            have := (htk k rfl).1
            exact decide_eq_true (by omega)
    obtain ⟨j, hj1, hj2⟩ := hfr
    obtain ⟨m, hm1, hm2, hm3, hlk⟩ := look_first (srv := srvN N2.ph) hall hj2
    have hmi : i ≤ m := by
      apply Nat.le_of_not_lt
      intro h
      obtain ⟨kq, o, p, _, b, c⟩ := hm2
      rw [hlt m h] at b
      cases b
      exact fresh_none c
    have hmn : m < (S.fd x).keeps.length := by
      obtain ⟨kq, o, p, a, _, _⟩ := hm2
      exact (List.getElem?_eq_some_iff.mp a).1
    have hcps : (eff S x N2 .opn).cps = List.replicate m (some ⟨0, ps + t, 0⟩) ++ N2.cps.drop m := by
      show (look S.own N2.tick (srvN N2.ph) (S.fd x).keeps N2.cps).1 = _
      rw [hlk, ← htick]
      rfl
    refine ⟨htick, hph, ?_, eps, fun l hl => ?_⟩
    · rw [hcps, List.length_append, List.length_replicate, List.length_drop]
      omega
    · rw [hcps]
      by_cases hlm : l < m
      · refine ⟨ps + t, by rw [List.getElem?_append_left (by rw [List.length_replicate]; exact hlm), List.getElem?_replicate, if_pos hlm], fun ho => ?_⟩
        have := hj1 ho
        have emi : m = i := by omega
        have e5 : max (l + 1) i = i := by omega
        rw [e5, eps, ho]
      · obtain ⟨g, e1, e2⟩ := hge l (by omega) hl
        refine ⟨g, ?_, fun ho => ?_⟩
        · rw [List.getElem?_append_right (by rw [List.length_replicate]; omega), List.length_replicate, List.getElem?_drop]
          rw [show m + (l - m) = l by omega]
          exact e1
        · rw [e2 ho]
          congr 2
          omega
  · rw [if_neg h0]
    obtain rfl : i = 0 := by omega
    refine ⟨htick, hph, hlen, eps, fun l hl => ?_⟩
    obtain ⟨g, e1, e2⟩ := hge l (Nat.zero_le _) hl
    refine ⟨g, e1, fun ho => ?_⟩
    rw [e2 ho]
    congr 2
theorem run_all {S : Si} {x : Str} {T : Int} (hT : 0 ≤ T) (hk : ∀ kp ∈ (S.fd x).keeps, Tk kp) : ∀ (i : Nat), i ≤ (S.fd x).keeps.length → ∀ {N : Ns} {ps : Int}, Run S x T i N ps → Run S x T 0 (agedR S x T i (N, ps)).1 (agedR S x T i (N, ps)).2
  | 0, _, _, _, r => r
  | i + 1, hi, N, ps, r => run_all hT hk i (by omega) (run_step hT hk (by omega) r)
end Wp

set_option Elab.async false
set_option linter.all false
set_option maxRecDepth 100000
set_option maxHeartbeats 2000000
/-! the answer at the end -/
namespace Wp
open PySem
theorem look_ns0 (S : Si) (x : Str) : lookN S x (ns0 S x) = lkAt 0 (ns0 S x).cps (S.fd x).keeps.length 0 0 := by
  have hl : (ns0 S x).cps.length = (S.fd x).keeps.length := by show (List.replicate _ _).length = _; rw [List.length_replicate]
  show look S.own 0 0 (S.fd x).keeps (ns0 S x).cps = _
  rw [look_miss hl.symm fun j kp o a b => ?_, hl]
  obtain rfl : o = none := List.eq_of_mem_replicate (List.mem_of_getElem? b)
  rfl
theorem first_zero (S : Si) (x : Str) : (lookN S x (ns0 S x)).2.1 = 0 := by rw [look_ns0]; rfl
theorem run_nsR (S : Si) (x : Str) (T : Int) : Run S x T (S.fd x).keeps.length (nsR S x) 0 := by
  have hc : (nsR S x).cps = List.replicate (S.fd x).keeps.length (some ⟨0, 0, 0⟩) := by
    show (lookN S x (ns0 S x)).1 = _
    rw [look_ns0]
    show List.replicate _ _ ++ (List.replicate (S.fd x).keeps.length none).drop (S.fd x).keeps.length = _
    rw [List.drop_replicate, Nat.sub_self]
    simp
  refine ⟨rfl, rfl, by rw [hc, List.length_replicate], by rw [List.drop_length]; rfl, fun j hj => ⟨0, by rw [hc, List.getElem?_replicate, if_pos hj], fun _ => ?_⟩⟩
  rw [List.drop_of_length_le (by omega)]
  rfl
theorem sum_nn : ∀ {vs : List Int}, (∀ v ∈ vs, 0 ≤ v) → 0 ≤ vs.sum
  | [], _ => Int.le_refl _
  | v :: r, h => by
    have ih := sum_nn (vs := r) fun k m => h k (List.mem_cons_of_mem _ m)
    have := h v List.mem_cons_self
    rw [List.sum_cons]
    omega
theorem sum_drop : ∀ {vs : List Int} (j : Nat), (∀ v ∈ vs, 0 ≤ v) → (vs.drop j).sum ≤ vs.sum
  | vs, 0, _ => Int.le_refl _
  | [], _ + 1, _ => Int.le_refl _
  | v :: r, j + 1, h => by
    have ih := sum_drop (vs := r) j fun k m => h k (List.mem_cons_of_mem _ m)
    have := h v List.mem_cons_self
    rw [List.sum_cons]
    show (r.drop j).sum ≤ _
    omega
theorem right_math {S : Si} {x : Str} {T : Int} (hT : 0 ≤ T) (hk : ∀ kp ∈ (S.fd x).keeps, Tk kp) (o : Option Int) (ha : AgeOf S.own (S.fd x).keeps o) : decide ((lookN S x (nsF S x T)).2.1 = 0) = dueB (S.fd x).keeps.length o T := by
  have r := run_all hT hk _ (Nat.le_refl _) (run_nsR S x T)
  generalize hA : agedR S x T (S.fd x).keeps.length (nsR S x, 0) = A at r
  have eF : nsF S x T = effW A.1 (T - A.2) := by
    show effW (agedR S x T (S.fd x).keeps.length (nsR S x, 0)).1 (T - (agedR S x T (S.fd x).keeps.length (nsR S x, 0)).2) = _
    rw [hA]
  have hps : A.2 ≤ T := by
    rw [r.ps]
    exact (psF_bd hT fun kp h => hk kp (List.mem_of_mem_drop h)).2
  have etick : (nsF S x T).tick = T := by
    rw [eF, effW_tick (by omega), r.tick]
    omega
  have eph : (nsF S x T).ph = 2 := by rw [eF, effW_ph, r.ph]
  have ecps : (nsF S x T).cps = A.1.cps := by rw [eF, effW_cps]
  have hl : (S.fd x).keeps.length = A.1.cps.length := r.len.symm
  have elook : lookN S x (nsF S x T) = look S.own T 1 (S.fd x).keeps A.1.cps := by
    show look S.own (nsF S x T).tick (srvN (nsF S x T).ph) (S.fd x).keeps (nsF S x T).cps = _
    rw [etick, eph, ecps]
    rfl
  rw [elook]
  -- fresh iff due
  have key : (∃ j, frAt S.own T (S.fd x).keeps A.1.cps j) ↔ dueB (S.fd x).keeps.length o T = true := by
    have frj : ∀ j kp g, (S.fd x).keeps[j]? = some kp → A.1.cps[j]? = some (some ⟨0, g, 0⟩) → (frAt S.own T (S.fd x).keeps A.1.cps j ↔ freshB S.own T kp ⟨0, g, 0⟩ = true) := fun j kp g e1 e2 => by
      constructor
      · rintro ⟨kp', o', p, a, b, c⟩
        rw [e1] at a
        rw [e2] at b
        cases a
        cases b
        exact fresh_of c
      · exact fun h => ⟨kp, _, _, e1, e2, fresh_some h⟩
    by_cases hown : S.own = true
    · -- the sum
      rw [hown] at ha
      rcases ha with ⟨hn, rfl⟩ | ⟨vs, m, hvs, rfl, hm⟩
      · have hpos : 0 < (S.fd x).keeps.length := List.length_pos_of_mem hn
        have hdue : dueB (S.fd x).keeps.length none T = true := by
          unfold dueB
          rw [decide_eq_true hpos]
          rfl
        rw [hdue]
        refine ⟨fun _ => rfl, fun _ => ?_⟩
        obtain ⟨g, e1, e2⟩ := r.all 0 hpos
        obtain ⟨kp, ek⟩ : ∃ kp, (S.fd x).keeps[0]? = some kp := ⟨_, List.getElem?_eq_getElem hpos⟩
        refine ⟨0, (frj 0 kp g ek e1).mpr ?_⟩
        cases kp with
        | none => rfl
        | some k =>
          have hd := drop_at ek
          rw [List.drop_zero] at hd
          have hn' : none ∈ (S.fd x).keeps.drop 1 := by
            rw [hd] at hn
            simpa using hn
          have hg := e2 hown
          rw [show max (0 + 1) 0 = 1 from rfl, psF_none hT (fun kp h => hk kp (List.mem_of_mem_drop h)) hn'] at hg
          have k0 := (hk (some k) (List.mem_of_getElem? ek) k rfl).1
          show decide (T - (if S.own = true then g else 0) ≤ k) = true
          rw [if_pos hown, hg]
          exact decide_eq_true (by omega)
      · rw [if_pos rfl] at hm
        subst hm
        have hv : ∀ v ∈ vs, 0 ≤ v := fun v h => (hk (some v) (by rw [hvs]; exact List.mem_map.mpr ⟨v, h, rfl⟩) v rfl).1
        have hlen : (S.fd x).keeps.length = vs.length := by rw [hvs, List.length_map]
        have hgj : ∀ j, j < vs.length → ∃ v, vs[j]? = some v ∧ A.1.cps[j]? = some (some ⟨0, min T (vs.drop (j + 1)).sum, 0⟩) := fun j hj => by
          obtain ⟨g, e1, e2⟩ := r.all j (by omega)
          have hg := e2 hown
          rw [show max (j + 1) 0 = j + 1 by omega, hvs, ← List.map_drop, psF_some hT fun v h => hv v (List.mem_of_mem_drop h)] at hg
          rw [hg] at e1
          exact ⟨_, List.getElem?_eq_getElem hj, e1⟩
        have frk : ∀ j v, vs[j]? = some v → A.1.cps[j]? = some (some ⟨0, min T (vs.drop (j + 1)).sum, 0⟩) → (frAt S.own T (S.fd x).keeps A.1.cps j ↔ T - min T (vs.drop (j + 1)).sum ≤ v) := fun j v e1 e2 => by
          rw [frj j (some v) _ (by rw [hvs, List.getElem?_map, e1]; rfl) e2]
          show decide (T - (if S.own = true then min T (vs.drop (j + 1)).sum else 0) ≤ v) = true ↔ _
          rw [if_pos hown, decide_eq_true_iff]
        have hdue : dueB (S.fd x).keeps.length (some vs.sum) T = true ↔ 0 < vs.length ∧ T ≤ vs.sum := by
          unfold dueB
          rw [hlen, Bool.and_eq_true, decide_eq_true_iff]
          show _ ∧ decide (T ≤ vs.sum) = true ↔ _
          rw [decide_eq_true_iff]
        rw [hdue]
        constructor
        · rintro ⟨j, hj⟩
          have hj2 : j < vs.length := by
            obtain ⟨kp, o', p, a, _, _⟩ := hj
            rw [← hlen]
            exact (List.getElem?_eq_some_iff.mp a).1
          obtain ⟨v, e1, e2⟩ := hgj j hj2
          have h3 := (frk j v e1 e2).mp hj
          have h4 : vs.drop j = v :: vs.drop (j + 1) := by
            obtain ⟨h, e⟩ := List.getElem?_eq_some_iff.mp e1
            rw [← List.getElem_cons_drop h, e]
          have h5 := sum_drop j hv
          rw [h4, List.sum_cons] at h5
          have h6 := sum_drop (j + 1) hv
          exact ⟨by omega, by omega⟩
        · rintro ⟨hpos, hle⟩
          obtain ⟨v, e1, e2⟩ := hgj 0 hpos
          refine ⟨0, (frk 0 v e1 e2).mpr ?_⟩
          have h4 : vs = v :: vs.drop 1 := by
            obtain ⟨h, e⟩ := List.getElem?_eq_some_iff.mp e1
            rw [← e, List.getElem_cons_drop h, List.drop_zero]
          have h5 : vs.sum = v + (vs.drop 1).sum := by
            have := congrArg List.sum h4
            rw [List.sum_cons] at this
            exact this
          have h6 := hv v (List.mem_of_getElem? e1)
          show T - min T (vs.drop 1).sum ≤ v
          omega
    · -- the greatest
      have hown' : S.own = false := by simpa using hown
      rw [hown'] at ha
      have frk : ∀ j kp, (S.fd x).keeps[j]? = some kp → (frAt S.own T (S.fd x).keeps A.1.cps j ↔ bigB T kp = true) := fun j kp e1 => by
        obtain ⟨g, e2, _⟩ := r.all j (List.getElem?_eq_some_iff.mp e1).1
        rw [frj j kp g e1 e2]
        cases kp with
        | none => exact Iff.rfl
        | some k =>
          show decide (T - (if S.own = true then g else 0) ≤ k) = true ↔ decide (T ≤ k) = true
          rw [if_neg hown, decide_eq_true_iff, decide_eq_true_iff]
          omega
      rcases ha with ⟨hn, rfl⟩ | ⟨vs, m, hvs, rfl, hm⟩
      · have hpos : 0 < (S.fd x).keeps.length := List.length_pos_of_mem hn
        have hdue : dueB (S.fd x).keeps.length none T = true := by
          unfold dueB
          rw [decide_eq_true hpos]
          rfl
        rw [hdue]
        refine ⟨fun _ => rfl, fun _ => ?_⟩
        obtain ⟨j, hj, e⟩ := List.mem_iff_getElem.mp hn
        exact ⟨j, (frk j none (by rw [List.getElem?_eq_getElem hj, e])).mpr rfl⟩
      · rw [if_neg (by decide)] at hm
        obtain ⟨hm1, hm2⟩ := hm
        have hv : ∀ v ∈ vs, 0 ≤ v := fun v h => (hk (some v) (by rw [hvs]; exact List.mem_map.mpr ⟨v, h, rfl⟩) v rfl).1
        have hlen : (S.fd x).keeps.length = vs.length := by rw [hvs, List.length_map]
        have hdue : dueB (S.fd x).keeps.length (some m) T = true ↔ 0 < vs.length ∧ T ≤ m := by
          unfold dueB
          rw [hlen, Bool.and_eq_true, decide_eq_true_iff]
          show _ ∧ decide (T ≤ m) = true ↔ _
          rw [decide_eq_true_iff]
        rw [hdue]
        constructor
        · rintro ⟨j, hj⟩
          obtain ⟨kp, o', p, a, _, _⟩ := id hj
          have hb := (frk j kp a).mp hj
          rw [hvs, List.getElem?_map] at a
          obtain ⟨v, ev, e3⟩ := Option.map_eq_some_iff.mp a
          cases e3
          have : decide (T ≤ v) = true := hb
          have h1 := of_decide_eq_true this
          have h2 := hm2 v (List.mem_cons_of_mem _ (List.mem_of_getElem? ev))
          exact ⟨Nat.lt_of_le_of_lt (Nat.zero_le _) (List.getElem?_eq_some_iff.mp ev).1, by omega⟩
        · rintro ⟨hpos, hle⟩
          have : ∃ v ∈ vs, T ≤ v := by
            rcases List.mem_cons.mp hm1 with e | e
            · refine ⟨vs[0], List.getElem_mem _, ?_⟩
              have := hv vs[0] (List.getElem_mem _)
              omega
            · exact ⟨m, e, hle⟩
          obtain ⟨v, hv1, hv2⟩ := this
          obtain ⟨j, hj, e⟩ := List.mem_iff_getElem.mp hv1
          exact ⟨j, (frk j (some v) (by rw [hvs, List.getElem?_map, List.getElem?_eq_getElem hj, e]; rfl)).mpr (decide_eq_true hv2)⟩
  rcases look_con (srv := 1) hl r.hall with ⟨h1, h2⟩ | ⟨h1, h2⟩
  · rw [h2, key.mp h1]
    rfl
  · rw [h2]
    have : dueB (S.fd x).keeps.length o T = false := by
      cases h : dueB (S.fd x).keeps.length o T with
      | false => rfl
      | true => exact absurd (key.mpr h) h1
    rw [this]
    rfl
end Wp

set_option Elab.async false
set_option linter.all false
set_option maxRecDepth 100000
set_option maxHeartbeats 2000000
/-! the law's model: the references while they are drawn -/
namespace Wp
open PySem PySem.Spec PyProof.Rows L2
/-- the dict of references: each name has a list of two, the second the list of names -/
def RefAt (H : Hp) (rf : Addr) (zs : List Str) (ch : Str → List Str) : Prop := ∃ pa la : Str → Addr, H rf = some (.dK (zs.map fun z => (Sum.inr z, V.ref (pa z)))) ∧ (∀ z ∈ zs, H (pa z) = some (.lst [.str "", .ref (la z)]) ∧ H (la z) = some (.lst ((ch z).map V.str))) ∧ (∀ z ∈ zs, ∀ y ∈ zs, la z = la y → z = y) ∧ (∀ z ∈ zs, ∀ y ∈ zs, pa z ≠ la y)
theorem RefAt.fr {R : HO → Prop} {H H' : Hp} (f : Fr R H H') (h1 : ∀ xs, R (.lst xs)) (h2 : ∀ kvs, R (.dK kvs)) {rf : Addr} {zs : List Str} {ch : Str → List Str} (h : RefAt H rf zs ch) : RefAt H' rf zs ch := by
  obtain ⟨pa, la, a, b, d, e⟩ := h
  exact ⟨pa, la, f _ _ a (h2 _), fun z hz => ⟨f _ _ (b z hz).1 (h1 _), f _ _ (b z hz).2 (h1 _)⟩, d, e⟩
theorem RefAt.same {H H' : Hp} (s : Same H H') {rf : Addr} {zs : List Str} {ch : Str → List Str} (h : RefAt H rf zs ch) : RefAt H' rf zs ch := h.fr (R := fun _ => True) (.of s) (fun _ => trivial) (fun _ => trivial)
theorem RefAt.get {H : Hp} {rf : Addr} {zs : List Str} {ch : Str → List Str} {z : Str} (h : RefAt H rf zs ch) (hz : z ∈ zs) : ∃ p l, DGet H rf (.str z) (some (.ref p)) ∧ H p = some (.lst [.str "", .ref l]) ∧ H l = some (.lst ((ch z).map V.str)) := by
  obtain ⟨pa, la, a, b, _, _⟩ := h
  refine ⟨pa z, la z, ?_, b z hz⟩
  have := DGet.k (k := Sum.inr z) a
  rw [valK_map, if_pos hz] at this
  exact this
/-- the references so far: a forest, each file behind the one that refers to it -/
structure Fo (zs : List Str) (ch : Str → List Str) : Prop where
  nd : zs.Nodup
  cl : ∀ z ∈ zs, ∀ y ∈ ch z, y ∈ zs
  rn : ∀ z ∈ zs, (ch z).Nodup
  one : ∀ z ∈ zs, ∀ x ∈ zs, ∀ y, y ∈ ch z → y ∈ ch x → z = x
  rk : ∀ z ∈ zs, ∀ y ∈ ch z, zs.idxOf z < zs.idxOf y
def sp_lbelow : Sp := fun vs H Q _ => ∃ (rf : Addr) (x : Str) (zs : List Str) (ch : Str → List Str), vs = [.ref rf, .str x] ∧ RefAt H rf zs ch ∧ x ∈ zs ∧ Fo zs ch ∧ (∀ z ∈ zs, x ∉ ch z) ∧ (∀ z ∈ zs, Nm z) ∧
  ∀ (H' : Hp) (l : Addr) (bs : List Str), Same H H' → H' l = some (.lst (bs.map V.str)) → bs.Nodup → x ∈ bs → (∀ z ∈ bs, z ∈ zs ∧ ∀ y ∈ ch z, y ∈ bs) → Q (.ref l) H'
/-! the list of what is below: its first n are done -/
structure Bl (zs : List Str) (ch : Str → List Str) (x : Str) (n : Nat) (bs : List Str) : Prop where
  eq : bs = x :: (bs.take n).flatMap ch
  nd : bs.Nodup
  sub : ∀ z ∈ bs, z ∈ zs
theorem Bl.step {zs : List Str} {ch : Str → List Str} {x : Str} (fo : Fo zs ch) (rn : ∀ z ∈ zs, x ∉ ch z) {n : Nat} {bs : List Str} (b : Bl zs ch x n bs) {z : Str} (hz : bs[n]? = some z) : Bl zs ch x (n + 1) (bs ++ ch z) := by
  obtain ⟨hn, ez⟩ := List.getElem?_eq_some_iff.mp hz
  have hzm : z ∈ bs := List.mem_of_getElem? hz
  have hzz := b.sub z hzm
  have ht : (bs ++ ch z).take (n + 1) = bs.take n ++ [z] := by
    rw [List.take_append_of_le_length (by omega), List.take_succ, hz]
    rfl
  refine ⟨?_, ?_, fun y hy => ?_⟩
  · rw [ht, List.flatMap_append, List.flatMap_singleton, ← List.cons_append, ← b.eq]
  · rw [List.nodup_append]
    refine ⟨b.nd, fo.rn z hzz, fun a ha y hy e => ?_⟩
    subst e
    rw [b.eq] at ha
    rcases List.mem_cons.mp ha with rfl | ha
    · exact rn z hzz hy
    · obtain ⟨u, hu, hau⟩ := List.mem_flatMap.mp ha
      have huz := b.sub u (List.mem_of_mem_take hu)
      have := fo.one u huz z hzz a hau hy
      subst this
      obtain ⟨i, hi, ei⟩ := List.mem_iff_getElem.mp hu
      rw [List.getElem_take] at ei
      rw [List.length_take] at hi
      have h1 : bs[i]? = some u := by rw [List.getElem?_eq_getElem (by omega), ei]
      have := (List.getElem?_inj (by omega) b.nd).mp (h1.trans hz.symm)
      omega
  · rcases List.mem_append.mp hy with h | h
    · exact b.sub y h
    · exact fo.cl z hzz y h
theorem Bl.done {zs : List Str} {ch : Str → List Str} {x : Str} {n : Nat} {bs : List Str} (b : Bl zs ch x n bs) (h : bs.length ≤ n) : x ∈ bs ∧ ∀ z ∈ bs, z ∈ zs ∧ ∀ y ∈ ch z, y ∈ bs := by
  have e := b.eq
  rw [List.take_of_length_le h] at e
  refine ⟨by rw [e]; exact List.mem_cons_self, fun z hz => ⟨b.sub z hz, fun y hy => ?_⟩⟩
  rw [e]
  exact List.mem_cons_of_mem _ (List.mem_flatMap.mpr ⟨z, hz, hy⟩)
theorem Bl.len {zs : List Str} {ch : Str → List Str} {x : Str} {n : Nat} {bs : List Str} (b : Bl zs ch x n bs) (nm : ∀ z ∈ zs, Nm z) : bs.length ≤ 8 := nodup_few (fun z h => nm z (b.sub z h)) b.nd
end Wp

set_option Elab.async false
set_option linter.all false
set_option maxRecDepth 100000
set_option maxHeartbeats 2000000
/-! promise of _law_model; the references in plain words -/
namespace Wp
open PySem PySem.Spec PyProof.Rows L2
def sp_lmodel (P : Program) (w : World) : Sp := fun vs H Q _ => ∃ (d : Addr) (m : Int), vs = [.ref d, .int 8] ∧ DrawAt P w H d m ∧ m + 1000 < 1000000000 ∧ ∀ (H' : Hp) (mo : Addr) (S : Si) (m' : Int), Fr nX H H' → DrawAt P w H' d m' → m' ≤ m + 1000 → ModelAt H' mo S → SiOk S → Q (.ref mo) H'
def updF (ch : Str → List Str) (a : Str) (l : List Str) : Str → List Str := fun z => if z = a then l else ch z
theorem updF_same {ch : Str → List Str} {a : Str} {l : List Str} : updF ch a l a = l := if_pos rfl
theorem updF_ne {ch : Str → List Str} {a z : Str} {l : List Str} (h : z ≠ a) : updF ch a l z = ch z := if_neg h
theorem updF_mem {ch : Str → List Str} {a : Str} {b : Str} {z y : Str} : y ∈ updF ch a (ch a ++ [b]) z ↔ y ∈ ch z ∨ (z = a ∧ y = b) := by
  by_cases h : z = a
  · subst h
    rw [updF_same, List.mem_append, List.mem_singleton]
    simp
  · rw [updF_ne h]
    simp [h]
/-- the references when the first k names have been placed -/
structure Gf (zs : List Str) (k : Nat) (ro : List Str) (ch : Str → List Str) : Prop where
  nd : zs.Nodup
  rsub : ∀ r ∈ ro, r ∈ zs.take k
  csub : ∀ z y, y ∈ ch z → z ∈ zs ∧ y ∈ zs.take k ∧ zs.idxOf z < zs.idxOf y
  rn : ∀ z, (ch z).Nodup
  one : ∀ z x y, y ∈ ch z → y ∈ ch x → z = x
  rno : ∀ r ∈ ro, ∀ z, r ∉ ch z
theorem not_take {zs : List Str} (nd : zs.Nodup) {k : Nat} {y : Str} (e : zs[k]? = some y) : y ∉ zs.take k := fun h => by
  obtain ⟨i, hi, ei⟩ := List.mem_iff_getElem.mp h
  rw [List.getElem_take] at ei
  rw [List.length_take] at hi
  have h1 : zs[i]? = some y := by rw [List.getElem?_eq_getElem (by omega), ei]
  have := (List.getElem?_inj (by omega) nd).mp (h1.trans e.symm)
  omega
theorem take_succ_mem {zs : List Str} {k : Nat} {y z : Str} (e : zs[k]? = some y) : z ∈ zs.take (k + 1) ↔ z ∈ zs.take k ∨ z = y := by
  rw [List.take_succ, e, List.mem_append]
  simp
theorem idx_at {zs : List Str} (nd : zs.Nodup) {k : Nat} {y : Str} (e : zs[k]? = some y) : zs.idxOf y = k := by
  have hm := List.mem_of_getElem? e
  have h1 := List.idxOf_lt_length_of_mem hm
  have h2 : zs[zs.idxOf y]? = some y := by rw [List.getElem?_eq_getElem h1, List.getElem_idxOf]
  exact (List.getElem?_inj h1 nd).mp (h2.trans e.symm)
theorem idx_take {zs : List Str} (nd : zs.Nodup) {k : Nat} {y : Str} (h : y ∈ zs.take k) : zs.idxOf y < k := by
  obtain ⟨i, hi, ei⟩ := List.mem_iff_getElem.mp h
  rw [List.getElem_take] at ei
  rw [List.length_take] at hi
  have h1 : zs[i]? = some y := by rw [List.getElem?_eq_getElem (by omega), ei]
  rw [idx_at nd h1]
  omega
theorem Gf.start {zs : List Str} (nd : zs.Nodup) {z0 : Str} (e : zs[0]? = some z0) : Gf zs 1 [z0] fun _ => [] :=
  ⟨nd, fun r h => by
    rw [List.mem_singleton] at h
    subst h
    exact (take_succ_mem e).mpr (.inr rfl), (fun _ _ h => nomatch h), (fun _ => List.Pairwise.nil), (fun _ _ _ h => nomatch h), (fun _ _ _ h => nomatch h)⟩
theorem Gf.root {zs : List Str} {k : Nat} {ro : List Str} {ch : Str → List Str} (g : Gf zs k ro ch) {y : Str} (e : zs[k]? = some y) : Gf zs (k + 1) (ro ++ [y]) ch := by
  refine ⟨g.nd, fun r h => ?_, fun z x h => ?_, g.rn, g.one, fun r h z hz => ?_⟩
  · rcases List.mem_append.mp h with h | h
    · exact (take_succ_mem e).mpr (.inl (g.rsub r h))
    · exact (take_succ_mem e).mpr (.inr (List.mem_singleton.mp h))
  · obtain ⟨a, b, c⟩ := g.csub z x h
    exact ⟨a, (take_succ_mem e).mpr (.inl b), c⟩
  · rcases List.mem_append.mp h with h | h
    · exact g.rno r h z hz
    · rw [List.mem_singleton] at h
      subst h
      exact not_take g.nd e (g.csub z r hz).2.1
theorem Gf.child {zs : List Str} {k : Nat} {ro : List Str} {ch : Str → List Str} (g : Gf zs k ro ch) {a y : Str} (ha : a ∈ zs.take k) (e : zs[k]? = some y) : Gf zs (k + 1) ro (updF ch a (ch a ++ [y])) := by
  have ny : ∀ z, y ∉ ch z := fun z h => not_take g.nd e (g.csub z y h).2.1
  refine ⟨g.nd, fun r h => (take_succ_mem e).mpr (.inl (g.rsub r h)), fun z x h => ?_, fun z => ?_, fun z x u h1 h2 => ?_, fun r h z hz => ?_⟩
  · rcases updF_mem.mp h with h | ⟨rfl, rfl⟩
    · obtain ⟨a, b, c⟩ := g.csub z x h
      exact ⟨a, (take_succ_mem e).mpr (.inl b), c⟩
    · refine ⟨List.mem_of_mem_take ha, (take_succ_mem e).mpr (.inr rfl), ?_⟩
      rw [idx_at g.nd e]
      exact idx_take g.nd ha
  · by_cases hz : z = a
    · subst hz
      rw [updF_same, List.nodup_append]
      refine ⟨g.rn z, by simp, fun u hu v hv e' => ?_⟩
      rw [List.mem_singleton] at hv
      subst e'
      subst hv
      exact ny z hu
    · rw [updF_ne hz]
      exact g.rn z
  · rcases updF_mem.mp h1 with k1 | ⟨a1, a2⟩ <;> rcases updF_mem.mp h2 with k2 | ⟨b1, b2⟩
    · exact g.one z x u k1 k2
    · rw [b2] at k1
      exact absurd k1 (ny z)
    · rw [a2] at k2
      exact absurd k2 (ny x)
    · exact a1.trans b1.symm
  · rcases updF_mem.mp hz with hz | ⟨rfl, rfl⟩
    · exact g.rno r h z hz
    · exact not_take g.nd e (g.rsub r h)
/-- what the site asks of the references -/
structure Rg (zs : List Str) (ch : Str → List Str) : Prop where
  cl : ∀ z ∈ zs, ∀ y ∈ ch z, y ∈ zs
  rn : ∀ z ∈ zs, (ch z).Nodup
  rk : ∃ r : Str → Nat, ∀ z ∈ zs, ∀ y ∈ ch z, r z < r y
  tr : ∀ e ∈ zs, ∃ S' : List Str, (∀ z ∈ S', z ∈ zs) ∧ e ∈ S' ∧ S'.Nodup ∧ (∀ z ∈ S', ∀ y ∈ ch z, y ∈ S') ∧ (∀ z ∈ S', ∀ x ∈ S', ∀ y, y ∈ ch z → y ∈ ch x → z = x) ∧ ∀ z ∈ S', e ∉ ch z
theorem Gf.done {zs ro : List Str} {ch : Str → List Str} {k : Nat} (g : Gf zs k ro ch) : Rg zs ch := by
  refine ⟨fun z hz y h => List.mem_of_mem_take (g.csub z y h).2.1, fun z _ => g.rn z, ⟨zs.idxOf, fun z _ y h => (g.csub z y h).2.2⟩, fun e he => ⟨zs.filter fun z => decide (zs.idxOf e ≤ zs.idxOf z), fun z h => (List.mem_filter.mp h).1, List.mem_filter.mpr ⟨he, by simp⟩, g.nd.filter _, fun z h y hy => ?_, fun z _ x _ y h1 h2 => g.one z x y h1 h2, fun z h hy => ?_⟩⟩
  · have h1 := of_decide_eq_true (List.mem_filter.mp h).2
    have h2 := (g.csub z y hy)
    exact List.mem_filter.mpr ⟨List.mem_of_mem_take h2.2.1, decide_eq_true (by omega)⟩
  · have h1 := of_decide_eq_true (List.mem_filter.mp h).2
    have h2 := (g.csub z e hy).2.2
    omega
theorem Gf.leaf {zs ro bs : List Str} {ch : Str → List Str} {k : Nat} (g : Gf zs k ro ch) {R lf : Str} (hR : R ∈ ro) (hl : lf ∈ zs) (h0 : ch lf = []) (h1 : lf ∉ ro) (hb : lf ∉ bs) (bnd : bs.Nodup) (bR : R ∈ bs) (bcl : ∀ z ∈ bs, z ∈ zs ∧ ∀ y ∈ ch z, y ∈ bs) : Rg zs (updF ch R (ch R ++ [lf])) := by
  have nR : R ≠ lf := fun e => h1 (e ▸ hR)
  have hRz : R ∈ zs := (bcl R bR).1
  have rk : ∀ z ∈ zs, ∀ y ∈ updF ch R (ch R ++ [lf]) z, (if z = lf then zs.length + 1 else zs.idxOf z) < (if y = lf then zs.length + 1 else zs.idxOf y) := fun z hz y hy => by
    have hzl := List.idxOf_lt_length_of_mem hz
    rcases updF_mem.mp hy with hy | ⟨rfl, rfl⟩
    · have nz : z ≠ lf := fun e => by rw [e, h0] at hy; cases hy
      rw [if_neg nz]
      have := (g.csub z y hy).2.2
      by_cases e : y = lf
      · rw [if_pos e]; omega
      · rw [if_neg e]; exact this
    · rw [if_neg nR, if_pos rfl]
      omega
  have cl : ∀ z ∈ zs, ∀ y ∈ updF ch R (ch R ++ [lf]) z, y ∈ zs := fun z hz y hy => by
    rcases updF_mem.mp hy with hy | ⟨rfl, rfl⟩
    · exact List.mem_of_mem_take (g.csub z y hy).2.1
    · exact hl
  refine ⟨cl, fun z _ => ?_, ⟨_, rk⟩, fun e he => ?_⟩
  · by_cases hz : z = R
    · subst hz
      rw [updF_same, List.nodup_append]
      refine ⟨g.rn z, by simp, fun u hu v hv e' => ?_⟩
      rw [List.mem_singleton] at hv
      subst e'
      subst hv
      exact hb ((bcl z bR).2 u hu)
    · rw [updF_ne hz]
      exact g.rn z
  by_cases eR : e = R
  · subst eR
    refine ⟨lf :: bs, fun z h => ?_, List.mem_cons_of_mem _ bR, List.nodup_cons.mpr ⟨hb, bnd⟩, fun z h y hy => ?_, fun z hz x hx y h2 h3 => ?_, fun z h hy => ?_⟩
    · rcases List.mem_cons.mp h with rfl | h
      · exact hl
      · exact (bcl z h).1
    · rcases updF_mem.mp hy with k1 | ⟨_, a2⟩
      · rcases List.mem_cons.mp h with e1 | h
        · rw [e1, h0] at k1; cases k1
        · exact List.mem_cons_of_mem _ ((bcl z h).2 y k1)
      · rw [a2]
        exact List.mem_cons_self
    · have nolf : ∀ u ∈ lf :: bs, lf ∉ ch u := fun u hu hm => by
        rcases List.mem_cons.mp hu with rfl | hu
        · rw [h0] at hm; cases hm
        · exact hb ((bcl u hu).2 lf hm)
      rcases updF_mem.mp h2 with k1 | ⟨a1, a2⟩ <;> rcases updF_mem.mp h3 with k2 | ⟨b1, b2⟩
      · exact g.one z x y k1 k2
      · rw [b2] at k1
        exact absurd k1 (nolf z hz)
      · rw [a2] at k2
        exact absurd k2 (nolf x hx)
      · exact a1.trans b1.symm
    · rcases updF_mem.mp hy with hy | ⟨_, e2⟩
      · exact g.rno e hR z hy
      · exact nR e2
  · refine ⟨zs.filter fun z => decide (z ≠ R) && decide ((if e = lf then zs.length + 1 else zs.idxOf e) ≤ (if z = lf then zs.length + 1 else zs.idxOf z)), fun z h => (List.mem_filter.mp h).1, List.mem_filter.mpr ⟨he, ?_⟩, g.nd.filter _, fun z h y hy => ?_, fun z hz x hx y h2 h3 => ?_, fun z h hy => ?_⟩
    · rw [decide_eq_true eR]
      simp
    · obtain ⟨hz, h2⟩ := List.mem_filter.mp h
      rw [Bool.and_eq_true] at h2
      have h3 := of_decide_eq_true h2.1
      have h4 := of_decide_eq_true h2.2
      have h5 := rk z hz y hy
      have h6 : y ≠ R := fun e => by
        rcases updF_mem.mp hy with hy | ⟨e2, _⟩
        · exact g.rno y (e ▸ hR) z hy
        · exact h3 e2
      refine List.mem_filter.mpr ⟨cl z hz y hy, ?_⟩
      rw [decide_eq_true h6, Bool.true_and]
      exact decide_eq_true (by omega)
    · have nz : ∀ u, u ∈ zs.filter (fun z => decide (z ≠ R) && decide ((if e = lf then zs.length + 1 else zs.idxOf e) ≤ (if z = lf then zs.length + 1 else zs.idxOf z))) → u ≠ R := fun u hu => by
        have h2 := (List.mem_filter.mp hu).2
        rw [Bool.and_eq_true] at h2
        exact of_decide_eq_true h2.1
      rcases updF_mem.mp h2 with h2 | ⟨e1, _⟩
      · rcases updF_mem.mp h3 with h3 | ⟨e1, _⟩
        · exact g.one z x y h2 h3
        · exact absurd e1 (nz x hx)
      · exact absurd e1 (nz z hz)
    · obtain ⟨hz, h2⟩ := List.mem_filter.mp h
      rw [Bool.and_eq_true] at h2
      have h4 := of_decide_eq_true h2.2
      have h5 := rk z hz e hy
      omega
end Wp

set_option Elab.async false
set_option linter.all false
set_option maxRecDepth 100000
set_option maxHeartbeats 2000000
/-! from the references to the site -/
namespace Wp
open PySem PySem.Spec PyProof.Rows L2
theorem Rg.site {zs ys : List Str} {ch : Str → List Str} {fd : Str → Fd} {es : List Str} {own : Bool} {many : Nat} (nm : ∀ z ∈ zs, Nm z) (h1 : 1 ≤ zs.length) (nd : zs.Nodup) (p : ys.Perm zs) (rg : Rg zs ch)
    (hfd : ∀ z ∈ ys, (fd z).refs = so (ch z) ∧ Tk (fd z).hold ∧ (∀ t ∈ (fd z).keeps, Tk t) ∧ (fd z).keeps.length = many) (hm : many ≤ 4) (end_ : es.Nodup) (ene : es ≠ []) (esub : ∀ e ∈ es, e ∈ zs ∧ (fd e).own = false) : SiOk ⟨ys, fd, es, own⟩ := by
  have yz : ∀ z, z ∈ ys ↔ z ∈ zs := fun z => p.mem_iff
  have chm : ∀ z ∈ zs, ∀ y, y ∈ so (ch z) ↔ y ∈ ch z := fun z hz y => so_mem (fun u hu => nm u (rg.cl z hz u hu)) y
  have rf : ∀ z ∈ zs, (fd z).refs = so (ch z) := fun z hz => (hfd z ((yz z).mpr hz)).1
  refine ⟨⟨fun z hz => nm z ((yz z).mp hz), p.nodup_iff.mpr nd, fun z hz => ?_, fun z hz y hy => ?_, ?_⟩, ?_, ⟨many, fun n hn => (hfd n hn).2.2.2⟩, end_, ene, fun e he => ⟨(yz e).mpr (esub e he).1, (esub e he).2⟩, fun e he => ?_⟩
  · obtain ⟨a, b, c, d⟩ := hfd z hz
    exact ⟨fun y hy => by rw [a] at hy; exact so_nm y hy, by rw [a]; exact so_nd _, b, c, (by show (fd z).keeps.length ≤ 4; omega), by rw [a]; exact so_so _⟩
  · have hz' := (yz z).mp hz
    rw [rf z hz', chm z hz'] at hy
    exact (yz y).mpr (rg.cl z hz' y hy)
  · obtain ⟨r, hr⟩ := rg.rk
    refine ⟨r, fun z hz y hy => ?_⟩
    have hz' := (yz z).mp hz
    rw [show (fd z).refs = so (ch z) from rf z hz', chm z hz'] at hy
    exact hr z hz' y hy
  · show 1 ≤ ys.length
    rw [p.length_eq]
    exact h1
  · obtain ⟨S', a1, a2, a3, a4, a5, a6⟩ := rg.tr e (esub e he).1
    have mm : ∀ z ∈ S', ∀ y, y ∈ (fd z).refs ↔ y ∈ ch z := fun z hz y => by rw [rf z (a1 z hz), chm z (a1 z hz)]
    refine ⟨S', fun z hz => (yz z).mpr (a1 z hz), ⟨a2, a3, fun z hz => nm z (a1 z hz), fun z hz y hy => a4 z hz y ((mm z hz y).mp hy), fun z hz => ?_, fun z hz x hx y h2 h3 => a5 z hz x hx y ((mm z hz y).mp h2) ((mm x hx y).mp h3), fun z hz h => a6 z hz ((mm z hz e).mp h)⟩⟩
    show (fd z).refs.Nodup
    rw [rf z (a1 z hz)]
    exact so_nd _
end Wp

set_option Elab.async false
set_option linter.all false
set_option maxRecDepth 100000
set_option maxHeartbeats 2000000
/-! the dict of references as it grows -/
namespace Wp
open PySem PySem.Spec PyProof.Rows L2
/-- p is not told of in H, but as a draw -/
def Fh (H : Hp) (p : Addr) : Prop := ∀ o, H p = some o → ¬ nX o
theorem Fh.of {H H' : Hp} (f : Fr nX H H') {p : Addr} (n : H' p = none) : Fh H p := fun o e x => by
  have := f p o e x
  rw [n] at this
  cases this
theorem Fr.upF {H H1 : Hp} (f : Fr nX H H1) {p : Addr} {o : HO} (n : Fh H p) : Fr nX H (upd H1 p o) := fun b u h r => by
  rw [upd_ne (fun e : b = p => n u (by rw [← e]; exact h) r)]
  exact f b u h r
/-- .. its lists are younger than H0 -/
def RefN (H0 H : Hp) (rf : Addr) (zs : List Str) (ch : Str → List Str) : Prop := ∃ pa la : Str → Addr, H rf = some (.dK (zs.map fun z => (Sum.inr z, V.ref (pa z)))) ∧ (∀ z ∈ zs, H (pa z) = some (.lst [.str "", .ref (la z)]) ∧ H (la z) = some (.lst ((ch z).map V.str))) ∧ (∀ z ∈ zs, ∀ y ∈ zs, la z = la y → z = y) ∧ (∀ z ∈ zs, ∀ y ∈ zs, pa z ≠ la y) ∧ ∀ z ∈ zs, Fh H0 (la z)
theorem RefN.at {H0 H : Hp} {rf : Addr} {zs : List Str} {ch : Str → List Str} (h : RefN H0 H rf zs ch) : RefAt H rf zs ch := by
  obtain ⟨pa, la, a, b, d, e, _⟩ := h
  exact ⟨pa, la, a, b, d, e⟩
theorem RefN.fr {R : HO → Prop} {H0 H H' : Hp} (f : Fr R H H') (h1 : ∀ xs, R (.lst xs)) (h2 : ∀ kvs, R (.dK kvs)) {rf : Addr} {zs : List Str} {ch : Str → List Str} (h : RefN H0 H rf zs ch) : RefN H0 H' rf zs ch := by
  obtain ⟨pa, la, a, b, d, e, g⟩ := h
  exact ⟨pa, la, f _ _ a (h2 _), fun z hz => ⟨f _ _ (b z hz).1 (h1 _), f _ _ (b z hz).2 (h1 _)⟩, d, e, g⟩
theorem RefN.same {H0 H H' : Hp} (s : Same H H') {rf : Addr} {zs : List Str} {ch : Str → List Str} (h : RefN H0 H rf zs ch) : RefN H0 H' rf zs ch := h.fr (R := fun _ => True) (.of s) (fun _ => trivial) (fun _ => trivial)
theorem RefN.app {H0 H : Hp} {rf : Addr} {zs : List Str} {ch : Str → List Str} (h : RefN H0 H rf zs ch) {a : Str} (ha : a ∈ zs) (y : Str) : ∃ p l, DGet H rf (.str a) (some (.ref p)) ∧ H p = some (.lst [.str "", .ref l]) ∧ H l = some (.lst ((ch a).map V.str)) ∧ Fh H0 l ∧
    RefN H0 (upd H l (.lst ((ch a).map V.str ++ [.str y]))) rf zs (updF ch a (ch a ++ [y])) := by
  obtain ⟨pa, la, h1, h2, h3, h4, h5⟩ := h
  refine ⟨pa a, la a, ?_, (h2 a ha).1, (h2 a ha).2, h5 a ha, pa, la, ?_, fun z hz => ⟨?_, ?_⟩, h3, h4, h5⟩
  · have := DGet.k (k := Sum.inr a) h1
    rw [valK_map, if_pos ha] at this
    exact this
  · rw [upd_ne (fun e => by rw [e, (h2 a ha).2] at h1; cases h1)]
    exact h1
  · rw [upd_ne (h4 z hz a ha)]
    exact (h2 z hz).1
  · by_cases e : z = a
    · subst e
      rw [upd_same, updF_same, List.map_append]
      rfl
    · rw [updF_ne e, upd_ne (fun e2 => e (h3 z hz a ha e2))]
      exact (h2 z hz).2
theorem idx_fun {α : Type} (d : α) {zs : List Str} {xs : List α} (nd : zs.Nodup) (hl : xs.length = zs.length) : ∃ g : Str → α, ∀ (i : Nat) z, zs[i]? = some z → xs[i]? = some (g z) := by
  refine ⟨fun z => xs.getD (zs.idxOf z) d, fun i z e => ?_⟩
  have hi := (List.getElem?_eq_some_iff.mp e).1
  show xs[i]? = some (xs.getD (zs.idxOf z) d)
  rw [idx_at nd e, List.getD_eq_getElem?_getD, List.getElem?_eq_getElem (by omega)]
  rfl
/-- the rows that the comprehension makes: (tuple, list of two, list) -/
structure Rows3 (H1 H : Hp) (D : Addr) (zs : List Str) (pl : List (Addr × Addr × Addr)) : Prop where
  row : ∀ (i : Nat) (q : Addr × Addr × Addr) z, pl[i]? = some q → zs[i]? = some z → H q.1 = some (.tup [.str z, .ref q.2.1]) ∧ H q.2.1 = some (.lst [.str "", .ref q.2.2]) ∧ H q.2.2 = some (.lst [])
  new : ∀ q ∈ pl, H1 q.2.2 = none ∧ q.2.2 ≠ D ∧ q.2.1 ≠ D
  inj : (pl.map fun q => q.2.2).Nodup
theorem Rows3.same {H1 H H' : Hp} {D : Addr} {zs : List Str} {pl : List (Addr × Addr × Addr)} (r : Rows3 H1 H D zs pl) (s : ∀ p o, H p = some o → p ≠ D → H' p = some o) (hD : ∃ xs, H D = some (.lst xs)) : Rows3 H1 H' D zs pl := by
  refine ⟨fun i q z e1 e2 => ?_, r.new, r.inj⟩
  obtain ⟨a, b, c⟩ := r.row i q z e1 e2
  obtain ⟨n1, n2, n3⟩ := r.new q (List.mem_of_getElem? e1)
  obtain ⟨xs, hx⟩ := hD
  exact ⟨s _ _ a (fun e => by rw [e, hx] at a; cases a), s _ _ b n3, s _ _ c n2⟩
theorem Rows3.ref {K : PySem.W.Frag} {H0 H1 H : Hp} {D : Addr} {zs : List Str} {pl : List (Addr × Addr × Addr)} (r : Rows3 H1 H D zs pl) (nd : zs.Nodup) (hl : pl.length = zs.length) (h0 : ∀ p, H1 p = none → Fh H0 p) :
    ∃ kvs : List (Key × V), Paired (fun t (kv : Key × V) => SqT K H t [kV kv.1, kv.2]) (pl.map fun q => q.1) kvs ∧ ∀ rf, H rf = none → RefN H0 (upd H rf (.dK (mergeK [] kvs))) rf zs fun _ => [] := by
  obtain ⟨g, hg⟩ := idx_fun (0, 0, 0) nd hl
  refine ⟨zs.map fun z => (Sum.inr z, V.ref (g z).2.1), ?_, fun rf hrf => ?_⟩
  · have key : ∀ (i : Nat) (zs' : List Str) (pl' : List (Addr × Addr × Addr)), zs' = zs.drop i → pl' = pl.drop i → Paired (fun t (kv : Key × V) => SqT K H t [kV kv.1, kv.2]) (pl'.map fun q => q.1) (zs'.map fun z => ((Sum.inr z : Key), V.ref (g z).2.1)) := by
      intro i zs' pl' e1 e2
      induction zs' generalizing i pl' with
      | nil =>
        have : pl.length ≤ i := by
          have := congrArg List.length e1
          rw [List.length_drop] at this
          simp at this
          omega
        rw [e2, List.drop_of_length_le this]
        exact .nil
      | cons z zr ih =>
        have hi : i < zs.length := by
          have := congrArg List.length e1
          rw [List.length_drop] at this
          simp at this
          omega
        have ez : zs[i]? = some z := by
          have := congrArg (fun l => l[0]?) e1
          rw [List.getElem?_drop, Nat.add_zero] at this
          exact this.symm
        have eq := hg i z ez
        have e3 : pl.drop i = g z :: pl.drop (i + 1) := by
          obtain ⟨h, e⟩ := List.getElem?_eq_some_iff.mp eq
          rw [← List.getElem_cons_drop h, e]
        rw [e2, e3]
        refine .cons (SqT.of (r.row i _ z eq ez).1) (ih (i + 1) _ ?_ rfl)
        have := congrArg List.tail e1
        rw [List.tail_drop] at this
        exact this
    exact key 0 zs pl rfl rfl
  · have nd2 : ((zs.map fun z => ((Sum.inr z : Key), V.ref (g z).2.1)).map (·.1)).Nodup := by
      rw [List.map_map]
      exact List.Pairwise.map (R := fun a b => a ≠ b) (Sum.inr : Str → Key) (fun a b h e => h (Sum.inr.inj e)) nd
    rw [mergeK_nil nd2]
    have at' : ∀ z ∈ zs, ∃ i, zs[i]? = some z ∧ pl[i]? = some (g z) := fun z hz => by
      obtain ⟨i, hi, e⟩ := List.mem_iff_getElem.mp hz
      have e1 : zs[i]? = some z := by rw [List.getElem?_eq_getElem hi, e]
      exact ⟨i, e1, hg i z e1⟩
    refine ⟨fun z => (g z).2.1, fun z => (g z).2.2, upd_same, fun z hz => ?_, fun z hz y hy e => ?_, fun z hz y hy e => ?_, fun z hz => ?_⟩
    · obtain ⟨i, e1, e2⟩ := at' z hz
      obtain ⟨a, b, c⟩ := r.row i _ z e2 e1
      exact ⟨same_new hrf _ _ b, same_new hrf _ _ c⟩
    · obtain ⟨i, e1, e2⟩ := at' z hz
      obtain ⟨j, e3, e4⟩ := at' y hy
      have h1 : (pl.map fun q => q.2.2)[i]? = some (g z).2.2 := by rw [List.getElem?_map, e2]; rfl
      have h2 : (pl.map fun q => q.2.2)[j]? = some (g y).2.2 := by rw [List.getElem?_map, e4]; rfl
      have hij := (List.getElem?_inj (List.getElem?_eq_some_iff.mp h1).1 r.inj).mp (h1.trans ((congrArg some e).trans h2.symm))
      subst hij
      rw [e1] at e3
      exact Option.some.inj e3
    · obtain ⟨i, e1, e2⟩ := at' z hz
      obtain ⟨j, e3, e4⟩ := at' y hy
      have a := (r.row i _ z e2 e1).2.1
      have b := (r.row j _ y e4 e3).2.2
      have e' : (g z).2.1 = (g y).2.2 := e
      rw [e', b] at a
      cases a
    · obtain ⟨i, e1, e2⟩ := at' z hz
      exact h0 _ (r.new _ (List.mem_of_getElem? e2)).1
end Wp
namespace Wp
open PySem PySem.Spec PyProof.Rows L2
theorem rEq_nil {K : PySem.W.Frag} {H : Hp} {a b : Addr} {li : List Str} {Q : VK} (ha : SqL K H a (li.map V.str)) (hb : H b = some (.lst [])) (nm : ∀ z ∈ li, Nm z) (q : Q (.bl li.isEmpty) H) : rEqD K (.ref a) (.ref b) H Q := by
  refine ⟨_, _, .lst ha (dp_strs li), .lst (SqL.of hb) .nil, shaped_strs nm, rfl, ?_⟩
  show Q (.bl (PyData.eqvAll (li.map PyData.str) [])) H
  rw [eqvAll_nil]
  cases li <;> exact q
end Wp
namespace Wp
open PySem PySem.Spec PyProof.Rows L2
theorem at_back {xs : List V} {v : V} (h : xs[xs.length - 1]? = some v) : atI xs (-1) = some v := by
  have hl : 0 < xs.length := by
    have := (List.getElem?_eq_some_iff.mp h).1
    omega
  have e : ixN xs.length (-1) = some (xs.length - 1) := by
    unfold ixN
    rw [if_neg (by omega), if_pos (by omega)]
    congr 1
    omega
  unfold atI
  rw [e]
  exact h
end Wp
namespace Wp
open PySem PySem.Spec PyProof.Rows L2
theorem FTab.put {H : Hp} {fl : Addr} {l : List Str} {fd : Str → Fd} {es : List Str} {o : Bool} (h : FTab H fl ⟨l, fd, es, o⟩) {z : Str} (nz : z ∉ l) {F : Fd} {t r k : Addr} (ht : H t = some (.tup [.str (nmv F.own), .ref r, vt F.hold, .ref k])) (hr : H r = some (.tup (F.refs.map V.str))) (hk : H k = some (.tup (F.keeps.map vt))) :
    ∃ kvs, H fl = some (.dK kvs) ∧ kvs.length = l.length ∧ FTab (upd H fl (.dK (putK kvs (Sum.inr z) (.ref t)))) fl ⟨l ++ [z], fun y => if y = z then F else fd y, es, o⟩ := by
  obtain ⟨ps, a, b⟩ := h
  refine ⟨_, a, by rw [List.length_map], fun y => if y = z then t else ps y, ?_, fun y hy => ?_⟩
  · have hn : valV (l.map fun z => ((Sum.inr z : Key), V.ref (ps z))) (Sum.inr z) = none := by rw [valK_map, if_neg nz]
    rw [upd_same, putK_new _ hn, List.map_append]
    congr 3
    · refine List.map_congr_left fun y hy => ?_
      show ((Sum.inr y : Key), V.ref (ps y)) = (Sum.inr y, V.ref (if y = z then t else ps y))
      rw [if_neg (fun e : y = z => nz (by rw [← e]; exact hy))]
    · show [((Sum.inr z : Key), V.ref t)] = [(Sum.inr z, V.ref (if z = z then t else ps z))]
      rw [if_pos rfl]
  · have up : ∀ p xs, H p = some (.tup xs) → (upd H fl (.dK (putK (l.map fun z => ((Sum.inr z : Key), V.ref (ps z))) (Sum.inr z) (.ref t)))) p = some (.tup xs) := fun p xs hp => by
      rw [upd_ne (fun e => by rw [e, a] at hp; cases hp)]
      exact hp
    by_cases e : y = z
    · subst e
      refine ⟨r, k, ?_, ?_, ?_⟩
      · show upd _ _ _ (if y = y then t else ps y) = some (.tup [.str (nmv (if y = y then F else fd y).own), .ref r, vt (if y = y then F else fd y).hold, .ref k])
        rw [if_pos rfl, if_pos rfl]
        exact up _ _ ht
      · show _ = some (HO.tup ((if y = y then F else fd y).refs.map V.str))
        rw [if_pos rfl]
        exact up _ _ hr
      · show _ = some (HO.tup ((if y = y then F else fd y).keeps.map vt))
        rw [if_pos rfl]
        exact up _ _ hk
    · have hyl : y ∈ l := by
        rcases List.mem_append.mp hy with h | h
        · exact h
        · exact absurd (List.mem_singleton.mp h) e
      obtain ⟨r', k', x1, x2, x3⟩ := b y hyl
      refine ⟨r', k', ?_, ?_, ?_⟩
      · show upd _ _ _ (if y = z then t else ps y) = some (.tup [.str (nmv (if y = z then F else fd y).own), .ref r', vt (if y = z then F else fd y).hold, .ref k'])
        rw [if_neg e, if_neg e]
        exact up _ _ x1
      · show _ = some (HO.tup ((if y = z then F else fd y).refs.map V.str))
        rw [if_neg e]
        exact up _ _ x2
      · show _ = some (HO.tup ((if y = z then F else fd y).keeps.map vt))
        rw [if_neg e]
        exact up _ _ x3
theorem FTab.nil {H : Hp} {fl : Addr} {fd : Str → Fd} {es : List Str} {o : Bool} (h : H fl = some (.dK [])) : FTab H fl ⟨[], fd, es, o⟩ := ⟨fun _ => 0, h, fun z hz => by cases hz⟩
end Wp

set_option Elab.async false
set_option linter.all false
set_option maxRecDepth 100000
set_option maxHeartbeats 2000000
/-! the references, the table of files: beside a dict that is written -/
namespace Wp
open PySem PySem.Spec PyProof.Rows L2
theorem RefN.len {H0 H : Hp} {rf : Addr} {zs : List Str} {ch : Str → List Str} (h : RefN H0 H rf zs ch) {fl : Addr} {kvs : List (Key × V)} (hf : H fl = some (.dK kvs)) (hl : kvs.length < zs.length) : rf ≠ fl := fun e => by
  obtain ⟨pa, la, a, _⟩ := h
  rw [e, hf] at a
  have := HO.dK.inj (Option.some.inj a)
  rw [this, List.length_map] at hl
  omega
theorem RefN.put {H0 H : Hp} {rf : Addr} {zs : List Str} {ch : Str → List Str} (h : RefN H0 H rf zs ch) {fl : Addr} {kvs kvs' : List (Key × V)} (hf : H fl = some (.dK kvs)) (hl : kvs.length < zs.length) : RefN H0 (upd H fl (.dK kvs')) rf zs ch := by
  have ne := h.len hf hl
  obtain ⟨pa, la, a, b, d, e, g⟩ := h
  have nl : ∀ (q : Addr) xs, H q = some (.lst xs) → q ≠ fl := fun q xs hq e => by rw [e, hf] at hq; cases hq
  refine ⟨pa, la, ?_, fun z hz => ⟨?_, ?_⟩, d, e, g⟩
  · rw [upd_ne ne]
    exact a
  · rw [upd_ne (nl _ _ (b z hz).1)]
    exact (b z hz).1
  · rw [upd_ne (nl _ _ (b z hz).2)]
    exact (b z hz).2
theorem FTab.putD {H : Hp} {fl p : Addr} {S : Si} {kvs : List (Key × V)} (h : FTab H fl S) (hp : H p = some (.dK [])) (hne : 1 ≤ S.ns.length) : FTab (upd H p (.dK kvs)) fl S := by
  obtain ⟨ps, a, b⟩ := h
  have ne : fl ≠ p := fun e => by
    rw [e, hp] at a
    have := congrArg List.length (HO.dK.inj (Option.some.inj a))
    rw [List.length_map, List.length_nil] at this
    omega
  have nl : ∀ (q : Addr) xs, H q = some (.tup xs) → q ≠ p := fun q xs hq e => by rw [e, hp] at hq; cases hq
  refine ⟨ps, by rw [upd_ne ne]; exact a, fun z hz => ?_⟩
  obtain ⟨r, k, x1, x2, x3⟩ := b z hz
  refine ⟨r, k, ?_, ?_, ?_⟩
  · rw [upd_ne (nl _ _ x1)]
    exact x1
  · rw [upd_ne (nl _ _ x2)]
    exact x2
  · rw [upd_ne (nl _ _ x3)]
    exact x3
end Wp

set_option Elab.async false
set_option linter.all false
set_option maxRecDepth 100000
set_option maxHeartbeats 2000000
/-! the promise of law -/
namespace Wp
open PySem PySem.Spec PyProof.Rows L2
def sp_law (K : PySem.W.Frag) : Sp := fun vs H Q _ => ∃ (a : Addr) (ns : List Int), vs = [.ref a] ∧ SqL K H a (ns.map V.int) ∧ ns.length ≤ 63 ∧ ∀ H', Q (.bl true) H'
theorem DrawAt.fr {P : Program} {w : World} {R : HO → Prop} {H H' : Hp} {d : Addr} {m : Int} (h : DrawAt P w H d m) (f : Fr R H H') (h1 : ∀ φ, R (.ext φ)) : DrawAt P w H' d m := by
  obtain ⟨wd, cl, cs, a, b, e, n⟩ := h
  exact ⟨wd, cl, cs, f _ _ a (h1 _), f _ _ b (h1 _), f _ _ e (h1 _), n⟩
theorem sum_le (vs : List Int) (h : ∀ v ∈ vs, 0 ≤ v ∧ v ≤ 1000) : 0 ≤ vs.sum ∧ vs.sum ≤ 1000 * (vs.length : Int) := by
  induction vs with
  | nil => exact ⟨Int.le_refl _, Int.le_refl _⟩
  | cons v r ih =>
    obtain ⟨h1, h2⟩ := ih fun u hu => h u (List.mem_cons_of_mem _ hu)
    obtain ⟨h3, h4⟩ := h v List.mem_cons_self
    rw [List.sum_cons, List.length_cons]
    omega
theorem age_le {own : Bool} {ks : List (Option Int)} {o : Option Int} (hk : ∀ t ∈ ks, Tk t) (hl : ks.length ≤ 4) (ha : AgeOf own ks o) {a : Int} (e : o = some a) : 0 ≤ a ∧ a ≤ 4000 := by
  rcases ha with ⟨_, h⟩ | ⟨vs, m, rfl, h, hm⟩
  · rw [h] at e; cases e
  · rw [h] at e
    cases e
    have hv : ∀ v ∈ vs, 0 ≤ v ∧ v ≤ 1000 := fun v hv => hk (some v) (List.mem_map.mpr ⟨v, hv, rfl⟩) v rfl
    rw [List.length_map] at hl
    by_cases ho : own = true
    · rw [if_pos ho] at hm
      have := sum_le vs hv
      omega
    · rw [if_neg ho] at hm
      rcases List.mem_cons.mp hm.1 with h0 | h0
      · omega
      · have := hv _ h0
        omega
end Wp

set_option Elab.async false
set_option linter.all false
set_option maxRecDepth 100000
set_option maxHeartbeats 4000000
/-! the facts of the text -/
namespace Wp
open PySem PySem.Spec PyProof.Rows L2 He
def caK (K : PySem.W.Frag) : CA := ⟨ga K "File", ga K "Site", ga K "Editions", ga K "Copy", ga K "Visit", ga K "Net", ga K "NAMINGS", ga K "WAYS_TO_COUNT", ga K "SIZES", dflAt ("Editions", some "__init__") 0 K⟩
theorem hd_txt {w : World} {K : PySem.W.Frag} {h : Heap} {mg : Str → Option Value} (X : K.In h) (G : h.Ns mainGlobals mg) (c : hd.Says w K) : Txt K w mg (caK K) := by
  have e0 : hdEx K = true := c.more
  obtain ⟨e1, e2⟩ := ba e0
  obtain ⟨e2, e3⟩ := ba e2
  obtain ⟨e3, e4⟩ := ba e3
  obtain ⟨e4, e5⟩ := ba e4
  obtain ⟨e5, e6⟩ := ba e5
  obtain ⟨es, n, kd⟩ := c.dict
  obtain ⟨ne0, r0⟩ := ba e6
  obtain ⟨ne1, r1⟩ := ba r0
  obtain ⟨ne2, r2⟩ := ba r1
  obtain ⟨ne3, r3⟩ := ba r2
  obtain ⟨ne4, r4⟩ := ba r3
  obtain ⟨ne5, r5⟩ := ba r4
  obtain ⟨ne6, r6⟩ := ba r5
  obtain ⟨ne7, r7⟩ := ba r6
  obtain ⟨ne8, r8⟩ := ba r7
  obtain ⟨ne9, r9⟩ := ba r8
  obtain ⟨ne10, r10⟩ := ba r9
  obtain ⟨ne11, r11⟩ := ba r10
  obtain ⟨ne12, r12⟩ := ba r11
  obtain ⟨ne13, r13⟩ := ba r12
  have ne14 := r13
  refine {
    b_isinstance := free_ok X G (c.fact 0 (f := .free "isinstance") rfl),
    b_len := free_ok X G (c.fact 1 (f := .free "len") rfl),
    b_all := free_ok X G (c.fact 2 (f := .free "all") rfl),
    b_max := free_ok X G (c.fact 3 (f := .free "max") rfl),
    b_min := free_ok X G (c.fact 4 (f := .free "min") rfl),
    b_sum := free_ok X G (c.fact 5 (f := .free "sum") rfl),
    b_sorted := free_ok X G (c.fact 6 (f := .free "sorted") rfl),
    b_range := free_ok X G (c.fact 7 (f := .free "range") rfl),
    b_enumerate := free_ok X G (c.fact 8 (f := .free "enumerate") rfl),
    b_set := free_ok X G (c.fact 9 (f := .free "set") rfl),
    b_list := free_ok X G (c.fact 10 (f := .free "list") rfl),
    b_tuple := free_ok X G (c.fact 11 (f := .free "tuple") rfl),
    b_dict := free_ok X G (c.fact 12 (f := .free "dict") rfl),
    b_int := free_ok X G (c.fact 13 (f := .free "int") rfl),
    b_str := free_ok X G (c.fact 14 (f := .free "str") rfl),
    b_bool := free_ok X G (c.fact 15 (f := .free "bool") rfl),
    cF := cls_ok (c.fact 16 (f := .cls "File") rfl),
    cS := cls_ok (c.fact 17 (f := .cls "Site") rfl),
    cE := cls_ok (c.fact 18 (f := .cls "Editions") rfl),
    cC := cls_ok (c.fact 19 (f := .cls "Copy") rfl),
    cV := cls_ok (c.fact 20 (f := .cls "Visit") rfl),
    cN := cls_ok (c.fact 21 (f := .cls "Net") rfl),
    aF_own_naming := noat_ok (c.fact 22 (f := .noat "File" "own_naming") rfl),
    aF_own_refers := noat_ok (c.fact 23 (f := .noat "File" "own_refers") rfl),
    aF_own_hold := noat_ok (c.fact 24 (f := .noat "File" "own_hold") rfl),
    aF_own_keeps := noat_ok (c.fact 25 (f := .noat "File" "own_keeps") rfl),
    aS_own_files := noat_ok (c.fact 26 (f := .noat "Site" "own_files") rfl),
    aS_own_trees := noat_ok (c.fact 27 (f := .noat "Site" "own_trees") rfl),
    aS_own_counts := noat_ok (c.fact 28 (f := .noat "Site" "own_counts") rfl),
    aE_own_site := noat_ok (c.fact 29 (f := .noat "Editions" "own_site") rfl),
    aE_own_changed := noat_ok (c.fact 30 (f := .noat "Editions" "own_changed") rfl),
    aE_own_numbers := noat_ok (c.fact 31 (f := .noat "Editions" "own_numbers") rfl),
    aC_contents := noat_ok (c.fact 32 (f := .noat "Copy" "contents") rfl),
    aC_got := noat_ok (c.fact 33 (f := .noat "Copy" "got") rfl),
    aC_given := noat_ok (c.fact 34 (f := .noat "Copy" "given") rfl),
    aV_entry := noat_ok (c.fact 35 (f := .noat "Visit" "entry") rfl),
    aV_pages := noat_ok (c.fact 36 (f := .noat "Visit" "pages") rfl),
    aV_lost := noat_ok (c.fact 37 (f := .noat "Visit" "lost") rfl),
    aN_own_kinds := noat_ok (c.fact 38 (f := .noat "Net" "own_kinds") rfl),
    aN_own_steps := noat_ok (c.fact 39 (f := .noat "Net" "own_steps") rfl),
    aN_own_site := noat_ok (c.fact 40 (f := .noat "Net" "own_site") rfl),
    aN_own_tick := noat_ok (c.fact 41 (f := .noat "Net" "own_tick") rfl),
    aN_own_editions := noat_ok (c.fact 42 (f := .noat "Net" "own_editions") rfl),
    aN_own_left := noat_ok (c.fact 43 (f := .noat "Net" "own_left") rfl),
    aN_own_finished := noat_ok (c.fact 44 (f := .noat "Net" "own_finished") rfl),
    aN_own_begun := noat_ok (c.fact 45 (f := .noat "Net" "own_begun") rfl),
    aN_own_server := noat_ok (c.fact 46 (f := .noat "Net" "own_server") rfl),
    aN_own_copies := noat_ok (c.fact 47 (f := .noat "Net" "own_copies") rfl),
    aN_own_visits := noat_ok (c.fact 48 (f := .noat "Net" "own_visits") rfl),
    iF := ?iF,
    m_File := glo_ok X G (c.fact 49 (f := .glo "File") rfl),
    g_LONGEST_NAME := int_ok X G (c.fact 55 (f := .int "LONGEST_NAME" 8) rfl),
    g_MOST_FILES := int_ok X G (c.fact 56 (f := .int "MOST_FILES" 8) rfl),
    g_MOST_CACHES := int_ok X G (c.fact 57 (f := .int "MOST_CACHES" 4) rfl),
    g_MOST_KINDS := int_ok X G (c.fact 58 (f := .int "MOST_KINDS" 5) rfl),
    g_MOST_TICKS := int_ok X G (c.fact 59 (f := .int "MOST_TICKS" 1000) rfl),
    g_MOST_CHANGES := int_ok X G (c.fact 60 (f := .int "MOST_CHANGES" 30) rfl),
    g_MOST_EDITIONS := int_ok X G (c.fact 61 (f := .int "MOST_EDITIONS" 31) rfl),
    g_MOST_WAIT := int_ok X G (c.fact 62 (f := .int "MOST_WAIT" 20000) rfl),
    g_LETTERS := str_ok X G (c.fact 63 (f := .str "LETTERS" "abcdefghijklmnopqrstuvwxyz") rfl),
    g_NAMINGS := glo_ok X G (c.fact 64 (f := .glo "NAMINGS") rfl),
    t_NAMINGS := fun H => tupP_ok (vs := [.str "own", .str "plain"]) e1 H,
    g_WAYS_TO_COUNT := glo_ok X G (c.fact 65 (f := .glo "WAYS_TO_COUNT") rfl),
    t_WAYS_TO_COUNT := fun H => tupP_ok (vs := [.str "own", .str "whole"]) e2 H,
    m_SIZES := glo_ok X G (c.fact 66 (f := .glo "SIZES") rfl),
    low := kd.low,
    l_SIZES := ⟨es, n, kd.at_⟩,
    t_SIZES := ?sz,
    t_e0 := fun H => tupP_ok (vs := []) e3 H,
    neFS := of_decide_eq_true ne0,
    neFE := of_decide_eq_true ne1,
    neSE := of_decide_eq_true ne2,
    neFC := of_decide_eq_true ne3,
    neSC := of_decide_eq_true ne4,
    neEC := of_decide_eq_true ne5,
    neFV := of_decide_eq_true ne6,
    neSV := of_decide_eq_true ne7,
    neEV := of_decide_eq_true ne8,
    neCV := of_decide_eq_true ne9,
    neFN := of_decide_eq_true ne10,
    neSN := of_decide_eq_true ne11,
    neEN := of_decide_eq_true ne12,
    neCN := of_decide_eq_true ne13,
    neVN := of_decide_eq_true ne14 }
  case iF =>
    obtain ⟨i1, i⟩ := ba e4
    obtain ⟨i2, i⟩ := ba i
    obtain ⟨i3, i⟩ := ba i
    obtain ⟨i4, i5⟩ := ba i
    exact ⟨cls_ok (c.fact 16 (f := .cls "File") rfl), eqO_ok i1, eqO_ok i2, of_decide_eq_true i3, of_decide_eq_true i4, of_decide_eq_true i5⟩
  case sz =>
    have one : ∀ (x : Str) (i : Int), (x, Dv.int i) ∈ hdSz → KDct K w (ga K "SIZES") x (.int i) := fun x i hx => by
      obtain ⟨u, u1, u2⟩ := valsB_ok e5 hx
      exact ⟨es, n, u, kd.at_, kd.lit, u1, u2⟩
    intro q hq
    simp only [List.mem_cons, List.not_mem_nil, or_false] at hq
    rcases hq with rfl | rfl | rfl | rfl | rfl
    · exact one "begin" 2 (List.mem_cons_self)
    · exact one "step" 1 (List.mem_cons_of_mem _ List.mem_cons_self)
    · exact one "wait" 2 (List.mem_cons_of_mem _ (List.mem_cons_of_mem _ List.mem_cons_self))
    · exact one "lose" 4 (List.mem_cons_of_mem _ (List.mem_cons_of_mem _ (List.mem_cons_of_mem _ List.mem_cons_self)))
    · exact one "open" 2 (List.mem_cons_of_mem _ (List.mem_cons_of_mem _ (List.mem_cons_of_mem _ (List.mem_cons_of_mem _ List.mem_cons_self))))
end Wp

set_option Elab.async false
set_option linter.all false
set_option maxRecDepth 100000
set_option maxHeartbeats 2000000
namespace Wp
open PySem PySem.Spec PyProof.Rows L2
section
variable {P : Program} {w : World} {K : PySem.W.Frag} {mg : Str → Option Value} {base : Heap} {c : CA}

/-- is_number -/
theorem w_is_number {f : Addr} {fd : FuncData} {ks : List (Str × V)} {dvs : List V} (F : FunD K "is_number" "is_number" (defArgs s_is_number) (defBody s_is_number) (defScope s_is_number) dvs ks f fd) (T : Txt K w mg c)  : FnOk P w K mg base C8.CX0 1 f fd ["value"] (sp_is_number) := by
  refine F.ok sc_is_number (fun vs H Q E h => ?_) (fun cdv A outer s H vs Q E hr h => ?_)
  · obtain ⟨n, rfl, q⟩ := h
    rfl
  · obtain ⟨n, rfl, q⟩ := h
    have hu := hu_of hr
    have hu2 := hu2_of hr
    refine ⟨_, PSs.nox ((pss_one (ps_ret (pe_and (pe_callB call_isi rfl T.b_isinstance (by decide +kernel) (pa_cons (pv 0) (pa_cons (pe_bltn (v := .ty "int") rfl T.b_int (by decide +kernel) rfl) pa_nil))) (pe_one (pe_not (pe_callB call_isi rfl T.b_isinstance (by decide +kernel) (pa_cons (pv 0) (pa_cons (pe_bltn (v := .ty "bool") rfl T.b_bool (by decide +kernel) rfl) pa_nil))))))))), ?_⟩
    refine ⟨_, rfl, _, _, _, _, true, rfl, .ty "int", .base (.int _), kit_ty (by decide +kernel), true, rfl, ?_⟩
    refine iteT ?_
    refine ⟨_, rfl, _, _, _, _, false, rfl, .ty "bool", .base (.int _), kit_ty (by decide +kernel), false, rfl, ?_⟩
    exact q

/-- is_name -/
theorem w_is_name {f : Addr} {fd : FuncData} {ks : List (Str × V)} {dvs : List V} (F : FunD K "is_name" "is_name" (defArgs s_is_name) (defBody s_is_name) (defScope s_is_name) dvs ks f fd) (T : Txt K w mg c)  : FnOk P w K mg base C8.CX0 1 f fd ["value"] (sp_is_name) := by
  refine F.ok sc_is_name (fun vs H Q E h => ?_) (fun cdv A outer s H vs Q E hr h => ?_)
  · obtain ⟨z, rfl, hz, q⟩ := h
    rfl
  · obtain ⟨z, rfl, hz, q⟩ := h
    have hu := hu_of hr
    have hu2 := hu2_of hr
    refine ⟨_, PSs.nox ((pss_cons (ps_if (PW.pt (pw_or (pt_not (pt_val (pe_callB call_isi rfl T.b_isinstance (by decide +kernel) (pa_cons (pv 0) (pa_cons (pe_bltn (v := .ty "str") rfl T.b_str (by decide +kernel) rfl) pa_nil))))) (pw_or1 (pt_not (pt_chain op_le op_le pe_int (pe_callB call_len_str rfl T.b_len (by decide +kernel) (pa_cons (pv 0) pa_nil)) (pe_gi rfl T.g_LONGEST_NAME)))))) (pss_one (ps_ret pe_bl)) pss_nil)
      (pss_one (ps_ret (pe_callB (cr_all rfl) rfl T.b_all (by decide +kernel) (pa_cons (pe_lcP (own := [("letter", 1)]) rfl sc_is_name.nd (pi_str (pv 0)) (blkOk_by (own := [("letter", 1)]) (N := n_is_name) (sc := defScope s_is_name) (by decide +kernel)) (fun _ _ _ _ _ => (pg_name (i := 1) sc_is_name.nd rfl (Or.inl rfl))) (fun _ _ _ _ _ => (pe_cmpR op_inS (pv 1) (pe_gs rfl T.g_LETTERS) (by rfl)))) pa_nil)))))), ?_⟩
    refine ⟨_, rfl, _, _, _, _, true, rfl, .ty "str", .base (.str _), kit_ty (by decide +kernel), true, rfl, ?_⟩
    refine iteF ?_
    have hl := nm_len hz
    refine ⟨_, rfl, _, rfl, (by rw [sizeLine_eq]; omega), _, _, rfl, rfl, _, rfl, ?_⟩
    refine ite2 (fun _ => ?_) (fun h => absurd (decide_eq_true hl.1) h)
    refine ⟨_, _, rfl, rfl, _, rfl, ?_⟩
    rw [decide_eq_true hl.2]
    refine iteF ?_
    refine ⟨_, rfl, _, rfl, _, _, _, List.replicate z.length (.bl true), walk_str (z := z), by simp; rfl, fun _ _ => trivial, fun _ _ _ _ y => y.1, (by have := sizeLine_eq; show z.length < _; omega), fun i x y H1 e sm yy k hk => ?_, fun D H' hD sm hL => ?_⟩
    · obtain ⟨_, ch, h1, rfl⟩ := yy
      refine ⟨rfl, _, rfl, ch, letters, rfl, rfl, ?_⟩
      rw [decide_eq_true (nm_let hz i ch h1)]
      obtain rfl : y = .bl true := by
        have := List.mem_of_getElem? e
        exact List.eq_of_mem_replicate this
      exact hk _ (Same.refl _)
    · refine ⟨D, List.replicate z.length true, rfl, SqL.of (by rw [List.map_replicate]; exact hL), ?_⟩
      rw [all_true]
      exact q _ sm

/-- is_list -/
theorem w_is_list {f : Addr} {fd : FuncData} {ks : List (Str × V)} {dvs : List V} (F : FunD K "is_list" "is_list" (defArgs s_is_list) (defBody s_is_list) (defScope s_is_list) dvs ks f fd) (T : Txt K w mg c)  : FnOk P w K mg base C8.CX0 1 f fd ["value"] (sp_is_list K) := by
  refine F.ok sc_is_list (fun vs H Q E h => ?_) (fun cdv A outer s H vs Q E hr h => ?_)
  · obtain ⟨a, xs, rfl, hS, q⟩ := h
    rfl
  · obtain ⟨a, xs, rfl, hS, q⟩ := h
    have hu := hu_of hr
    have hu2 := hu2_of hr
    refine ⟨_, PSs.nox ((pss_one (ps_ret (pe_callB call_isiT rfl T.b_isinstance (by decide +kernel) (pa_cons (pv 0) (pa_cons (pe_tup (pa_cons (pe_bltn (v := .ty "list") rfl T.b_list (by decide +kernel) rfl) (pa_cons (pe_bltn (v := .ty "tuple") rfl T.b_tuple (by decide +kernel) rfl) pa_nil))) pa_nil)))))), ?_⟩
    refine ⟨_, rfl, (by show 2 ≤ sizeLine; decide), fun p hp => ?_⟩
    obtain ⟨t, ty, ht⟩ := ty_seq (hS.same (same_new (o := .tup [.ty "list", .ty "tuple"]) hp))
    exact ⟨.ref a, p, _, .type t, _, true, rfl, upd_same, .cons (.ty _) (.cons (.ty _) .nil), ty, kit_seq ht, q _ (same_new hp)⟩

/-- is_ticks -/
theorem w_is_ticks {f : Addr} {fd : FuncData} {ks : List (Str × V)} {dvs : List V} (F : FunD K "is_ticks" "is_ticks" (defArgs s_is_ticks) (defBody s_is_ticks) (defScope s_is_ticks) dvs ks f fd) (T : Txt K w mg c) (c_is_number : C8.Cal P w K mg base 1 "is_number" (sp_is_number) []) : FnOk P w K mg base C8.CX0 2 f fd ["value"] (sp_is_ticks) := by
  refine F.ok sc_is_ticks (fun vs H Q E h => ?_) (fun cdv A outer s H vs Q E hr h => ?_)
  · obtain ⟨t, rfl, ht, q⟩ := h
    rfl
  · obtain ⟨t, rfl, ht, q⟩ := h
    have hu := hu_of hr
    have hu2 := hu2_of hr
    refine ⟨_, PSs.nox ((pss_one (ps_ret (pe_or (pe_cmpR op_isN (pv 0) pe_non (nomark _)) (pe_one (pe_and (C8.pe_c c_is_number hr (by decide) rfl (pa_cons (pv 0) pa_nil)) (pe_one (pe_chain op_le op_le pe_int (pv 0) (pe_gi rfl T.g_MOST_TICKS))))))))), ?_⟩
    cases t with
    | none =>
      refine ⟨_, rfl, rfl, _, rfl, ?_⟩
      exact iteT q
    | some n =>
      obtain ⟨h0, h1⟩ := ht n rfl
      refine ⟨_, rfl, rfl, _, rfl, ?_⟩
      refine iteF ?_
      refine ⟨_, rfl, n, rfl, true, rfl, ?_⟩
      refine iteT ?_
      refine ⟨_, rfl, _, _, rfl, rfl, _, rfl, ?_⟩
      rw [decide_eq_true h0]
      refine iteT ?_
      exact ⟨_, _, rfl, rfl, qT h1 q⟩

/-- are_names -/
theorem w_are_names {f : Addr} {fd : FuncData} {ks : List (Str × V)} {dvs : List V} (F : FunD K "are_names" "are_names" (defArgs s_are_names) (defBody s_are_names) (defScope s_are_names) dvs ks f fd) (T : Txt K w mg c) (c_is_name : C8.Cal P w K mg base 1 "is_name" (sp_is_name) []) (c_is_list : C8.Cal P w K mg base 1 "is_list" (sp_is_list K) []) : FnOk P w K mg base C8.CX0 2 f fd ["value"] (sp_are_names K) := by
  refine F.ok sc_are_names (fun vs H Q E h => ?_) (fun cdv A outer s H vs Q E hr h => ?_)
  · obtain ⟨a, zs, rfl, hS, nm, nd, q⟩ := h
    rfl
  · obtain ⟨a, zs, rfl, hS, nm, nd, q⟩ := h
    have hu := hu_of hr
    have hu2 := hu2_of hr
    refine ⟨_, PSs.nox ((pss_cons (ps_if (PW.pt (pw_or (pt_not (pt_val (C8.pe_c c_is_list hr (by decide) rfl (pa_cons (pv 0) pa_nil)))) (pw_or1 (pt_not (pt_val (pe_callB (cr_all rfl) rfl T.b_all (by decide +kernel) (pa_cons (pe_lcP (own := [("name", 1)]) rfl sc_are_names.nd (pi_or (pi_list (pv 0)) (pi_tup (pv 0))) (blkOk_by (own := [("name", 1)]) (N := n_are_names) (sc := defScope s_are_names) (by decide +kernel)) (fun _ _ _ _ _ => (pg_name (i := 1) sc_are_names.nd rfl (Or.inl rfl))) (fun _ _ _ _ _ => (C8.pe_c c_is_name hr (by decide) rfl (pa_cons (pv 1) pa_nil)))) pa_nil))))))) (pss_one (ps_ret pe_bl)) pss_nil)
      (pss_one (ps_ret (pe_cmpR op_eq (pe_callB cr_lenSS rfl T.b_len (by decide +kernel) (pa_cons (pe_callTy (cr_setS rfl) rfl T.b_set (by decide +kernel) (pa_cons (pv 0) pa_nil)) pa_nil)) (pe_callB call_len_seq rfl T.b_len (by decide +kernel) (pa_cons (pv 0) pa_nil)) (nomark _)))))), ?_⟩
    refine ⟨_, rfl, a, _, rfl, hS, fun H1 s1 => ⟨true, rfl, iteF ?_⟩⟩
    have hS1 := hS.same s1
    have hfew := nodup_few nm nd
    have hn : (zs.map V.str).length < sizeLine := by rw [List.length_map, sizeLine_eq]; omega
    have rest : ∀ H', Same H1 H' → tRet (tOp rEq (tCB (rLenSS P w) (tCons (tCB (rSetS K P w) (tCons (tVar 0) tNil)) tNil)) (tCB (fun xs H Q => ∃ p ys, xs = [.ref p] ∧ (SqL K H p ys ∨ SqT K H p ys) ∧ Q (.int ys.length) H) (tCons (tVar 0) tNil))) { nx := fun _ H' => Q .non H', rt := Q } (L2.start n_are_names [.ref a]) H' := by
      intro H' s2
      have hS2 := hS1.same s2
      refine ⟨_, rfl, a, zs, rfl, hS2, by omega, fun p hp => ?_⟩
      exact ⟨p, _, rfl, upd_same, _, rfl, a, _, rfl, hS2.same (same_new hp), rfl, qT (by rw [metS_0 nd, List.length_map]) (q _ (Same.trans s1 (Same.trans s2 (same_new hp))))⟩
    rcases hS1 with hL | hT
    · refine .inl ⟨_, rfl, a, rfl, ⟨_, hL⟩, _, _, _, List.replicate (zs.map V.str).length (.bl true), walk_list, by simp, fun H s => Same.seq s hL, yat_same, hn, fun i x y H2 e sm yy k hk => ?_, fun D H' hD sm hL => ?_⟩
      · obtain ⟨_, ez⟩ := yy
        rw [List.getElem?_map] at ez
        obtain ⟨z, e1, rfl⟩ := Option.map_eq_some_iff.mp ez
        obtain rfl : y = .bl true := List.eq_of_mem_replicate (List.mem_of_getElem? e)
        exact ⟨rfl, _, rfl, z, rfl, nm z (List.mem_of_getElem? e1), fun H4 s4 => hk _ s4⟩
      · refine ⟨D, List.replicate zs.length true, rfl, SqL.of (by rw [List.map_replicate]; simpa using hL), _, rfl, ?_⟩
        rw [all_true]
        exact iteF (rest H' sm)
    · refine .inr ⟨_, rfl, a, rfl, ⟨_, hT⟩, _, _, _, List.replicate (zs.map V.str).length (.bl true), walk_tup, by simp, fun H s => Wp.Same.seqT s hT, yat_same, hn, fun i x y H2 e sm yy k hk => ?_, fun D H' hD sm hL => ?_⟩
      · obtain ⟨_, ez⟩ := yy
        rw [List.getElem?_map] at ez
        obtain ⟨z, e1, rfl⟩ := Option.map_eq_some_iff.mp ez
        obtain rfl : y = .bl true := List.eq_of_mem_replicate (List.mem_of_getElem? e)
        exact ⟨rfl, _, rfl, z, rfl, nm z (List.mem_of_getElem? e1), fun H4 s4 => hk _ s4⟩
      · refine ⟨D, List.replicate zs.length true, rfl, SqL.of (by rw [List.map_replicate]; simpa using hL), _, rfl, ?_⟩
        rw [all_true]
        exact iteF (rest H' sm)

/-- File.__init__ -/
theorem w_File_init {f : Addr} {fd : FuncData} {ks : List (Str × V)} {dvs : List V} (F : FunD K "__init__" "File.__init__" (defArgs s_File_init) (defBody s_File_init) (defScope s_File_init) dvs ks f fd) (T : Txt K w mg c) (c_are_names : C8.Cal P w K mg base 2 "are_names" (sp_are_names K) []) (c_is_ticks : C8.Cal P w K mg base 2 "is_ticks" (sp_is_ticks) []) (c_is_list : C8.Cal P w K mg base 1 "is_list" (sp_is_list K) []) : FnOk P w K mg base C8.CX0 3 f fd ["self", "naming", "refers", "hold", "keeps"] (sp_File_init c) := by
  refine F.ok sc_File_init (fun vs H Q E h => ?_) (fun cdv A outer s H vs Q E hr h => ?_)
  · obtain ⟨p, dx, r, k, F, rfl, hp, hr1, hk1, ok, q⟩ := h
    rfl
  · obtain ⟨p, dx, r, k, F, rfl, hp, hr1, hk1, ok, q⟩ := h
    have hu := hu_of hr
    have hu2 := hu2_of hr
    refine ⟨_, PSs.nox ((pss_cons (ps_if (PW.pt (pw_or (pt_not (pt_val (pe_callB call_isi rfl T.b_isinstance (by decide +kernel) (pa_cons (pv 1) (pa_cons (pe_bltn (v := .ty "str") rfl T.b_str (by decide +kernel) rfl) pa_nil))))) (pw_or1 (pt_cmpR op_notIn_seq (pv 1) (pe_glob (v := .ref c.nm) rfl T.g_NAMINGS rfl) (by rfl))))) (pss_one ps_never) pss_nil)
      (pss_cons (ps_if (pt_not (pt_val (C8.pe_c c_are_names hr (by decide) rfl (pa_cons (pv 2) pa_nil)))) (pss_one ps_never) pss_nil)
      (pss_cons (ps_if (pt_not (pt_val (C8.pe_c c_is_ticks hr (by decide) rfl (pa_cons (pv 3) pa_nil)))) (pss_one ps_never) pss_nil)
      (pss_cons (ps_if (PW.pt (pw_or (pt_not (pt_val (C8.pe_c c_is_list hr (by decide) rfl (pa_cons (pv 4) pa_nil)))) (pw_or (pt_cmpR op_gt (pe_callB call_len_seq rfl T.b_len (by decide +kernel) (pa_cons (pv 4) pa_nil)) (pe_gi rfl T.g_MOST_CACHES) (nomark _)) (pw_or1 (pt_not (pt_val (pe_callB (cr_all rfl) rfl T.b_all (by decide +kernel) (pa_cons (pe_lcP (own := [("keep", 5)]) rfl sc_File_init.nd (pi_tup (pv 4)) (blkOk_by (own := [("keep", 5)]) (N := n_File_init) (sc := defScope s_File_init) (by decide +kernel)) (fun _ _ _ _ _ => (pg_name (i := 5) sc_File_init.nd rfl (Or.inl rfl))) (fun _ _ _ _ _ => (C8.pe_c c_is_ticks hr (by decide) rfl (pa_cons (pv 5) pa_nil)))) pa_nil)))))))) (pss_one ps_never) pss_nil)
      (pss_cons (ps_f T.cF T.aF_own_naming (pv 0) (pv 1))
      (pss_cons (ps_f T.cF T.aF_own_refers (pv 0) (pe_callTy call_tuple_of rfl T.b_tuple (by decide +kernel) (pa_cons (pe_callB cr_sortT rfl T.b_sorted (by decide +kernel) (pa_cons (pv 2) pa_nil)) pa_nil)))
      (pss_cons (ps_f T.cF T.aF_own_hold (pv 0) (pv 3))
      (pss_one (ps_f T.cF T.aF_own_keeps (pv 0) (pe_callTy call_tuple_of rfl T.b_tuple (by decide +kernel) (pa_cons (pv 4) pa_nil)))))))))))), ?_⟩
    refine ⟨_, rfl, _, _, _, _, true, rfl, .ty "str", .base (.str _), kit_ty (by decide +kernel), true, rfl, iteF ?_⟩
    refine ⟨_, rfl, c.nm, _, rfl, .inr (T.t_NAMINGS _), rfl, rfl, _, rfl, ?_⟩
    have e0 : inV (.str (nmv F.own)) [.str "own", .str "plain"] = true := by cases F.own <;> decide +kernel
    rw [show (!inV (.str (nmv F.own)) [.str "own", .str "plain"]) = false by rw [e0]; rfl]
    refine iteF ?_
    refine ⟨_, rfl, r, F.refs, rfl, .inr (SqT.of hr1), ok.nm, ok.nd, fun H1 s1 => ⟨true, rfl, iteF ?_⟩⟩
    refine ⟨_, rfl, F.hold, rfl, ok.h, true, rfl, iteF ?_⟩
    refine ⟨_, rfl, k, _, rfl, .inr (SqT.of (s1 _ _ hk1)), fun H2 s2 => ⟨true, rfl, iteF ?_⟩⟩
    have hk2 := s2 _ _ (s1 _ _ hk1)
    refine ⟨_, rfl, k, _, rfl, .inr (SqT.of hk2), _, _, rfl, rfl, _, rfl, iF (by have := ok.few; rw [List.length_map]; omega) ?_⟩
    have hn : (F.keeps.map vt).length < sizeLine := by have := ok.few; rw [List.length_map, sizeLine_eq]; omega
    refine ⟨_, rfl, k, rfl, ⟨_, SqT.of hk2⟩, _, _, _, List.replicate (F.keeps.map vt).length (.bl true), walk_tup, by simp, fun H s => Wp.Same.seqT s (SqT.of hk2), yat_same, hn, fun i x y H3 e sm yy kk hkk => ?_, fun D H' hD sm hL => ?_⟩
    · obtain ⟨_, ez⟩ := yy
      rw [List.getElem?_map] at ez
      obtain ⟨z, e1, rfl⟩ := Option.map_eq_some_iff.mp ez
      obtain rfl : y = .bl true := List.eq_of_mem_replicate (List.mem_of_getElem? e)
      exact ⟨rfl, _, rfl, z, rfl, ok.k z (List.mem_of_getElem? e1), hkk _ (Same.refl _)⟩
    refine ⟨D, List.replicate F.keeps.length true, rfl, SqL.of (by rw [List.map_replicate]; simpa using hL), _, rfl, ?_⟩
    rw [all_true]
    refine iteF ?_
    have s3 : Same H H' := s1.trans (s2.trans sm)
    have hp3 := s3 _ _ hp
    refine ⟨_, rfl, _, rfl, p, dx, [], rfl, hp3, (by decide), ?_⟩
    -- own_refers
    have hr2 : (upd H' p (.ins c.F dx (putF "own_naming" (.str (nmv F.own)) []))) r = some (.tup (F.refs.map V.str)) := by
      rw [upd_ne (ne_of (s3 _ _ hr1) hp3 (fun z => nomatch z))]
      exact s3 _ _ hr1
    refine ⟨_, rfl, r, F.refs, rfl, SqT.of hr2, (by have := nodup_few ok.nm ok.nd; omega), fun ys l hp1 hs1 hl => ?_⟩
    obtain rfl : ys = F.refs := (so_eq ok.nm ok.nd hp1 hs1).trans ok.srt
    refine ⟨l, _, rfl, .inl ⟨SqL.of upd_same, fun t ht => ?_⟩⟩
    have hpl : p ≠ l := ne_of_none (H := upd H' p (.ins c.F dx (putF "own_naming" (.str (nmv F.own)) []))) upd_same hl
    have hpt : p ≠ t := ne_of_none (H := upd (upd H' p (.ins c.F dx (putF "own_naming" (.str (nmv F.own)) []))) l (.lst (F.refs.map V.str))) (by rw [upd_ne hpl]; exact upd_same) ht
    refine ⟨_, rfl, p, dx, _, rfl, (by rw [upd_ne hpt, upd_ne hpl]; exact upd_same), (by show 1 < 1000; decide), ?_⟩
    refine ⟨_, rfl, _, rfl, p, dx, _, rfl, upd_same, (by show 2 < 1000; decide), ?_⟩
    have hkl : k ≠ p := ne_of (s3 _ _ hk1) hp3 (fun z => nomatch z)
    have keep : ∀ b o, H b = some o → b ≠ p → b ≠ l ∧ b ≠ t ∧ H' b = some o := by
      intro b o e hb
      have e1 := s3 b o e
      have hbl : b ≠ l := ne_of_none (H := upd H' p (.ins c.F dx (putF "own_naming" (.str (nmv F.own)) []))) (by rw [upd_ne hb]; exact e1) hl
      exact ⟨hbl, ne_of_none (H := upd (upd H' p (.ins c.F dx (putF "own_naming" (.str (nmv F.own)) []))) l (.lst (F.refs.map V.str))) (by rw [upd_ne hbl, upd_ne hb]; exact e1) ht, e1⟩
    obtain ⟨k1, k2, k3⟩ := keep k _ hk1 hkl
    refine ⟨_, rfl, k, _, rfl, .inr ⟨SqT.of (by rw [upd_ne hkl, upd_ne hkl, upd_ne k2, upd_ne k1, upd_ne hkl]; exact k3), ?_⟩⟩
    refine ⟨_, rfl, p, dx, _, rfl, upd_same, (by show 3 < 1000; decide), ?_⟩
    refine q _ ⟨dx, t, k, by rw [upd_same]; rfl, by rw [upd_ne hpt.symm, upd_ne hpt.symm, upd_ne hpt.symm, upd_same], by rw [upd_ne hkl, upd_ne hkl, upd_ne hkl, upd_ne k2, upd_ne k1, upd_ne hkl]; exact k3⟩ fun b o e hb => ?_
    obtain ⟨b1, b2, b3⟩ := keep b o e hb
    rw [upd_ne hb, upd_ne hb, upd_ne hb, upd_ne b2, upd_ne b1, upd_ne hb]
    exact b3

/-- File.naming -/
theorem w_File_naming {f : Addr} {fd : FuncData} {ks : List (Str × V)} {dvs : List V} (F : FunD K "naming" "File.naming" (defArgs s_File_naming) (defBody s_File_naming) (defScope s_File_naming) dvs ks f fd) (T : Txt K w mg c)  : FnOk P w K mg base C8.CX0 1 f fd ["self"] (sp_File_naming c) := by
  refine F.ok sc_File_naming (fun vs H Q E h => ?_) (fun cdv A outer s H vs Q E hr h => ?_)
  · obtain ⟨p, F, rfl, ⟨dx, r, k, h1, h2, h3⟩, q⟩ := h
    rfl
  · obtain ⟨p, F, rfl, ⟨dx, r, k, h1, h2, h3⟩, q⟩ := h
    have hu := hu_of hr
    have hu2 := hu2_of hr
    refine ⟨_, PSs.nox ((pss_one (ps_ret (pe_f T.cF T.aF_own_naming (pv 0))))), ?_⟩
    exact ⟨_, rfl, p, dx, _, _, rfl, h1, rfl, q⟩

/-- File.refers -/
theorem w_File_refers {f : Addr} {fd : FuncData} {ks : List (Str × V)} {dvs : List V} (F : FunD K "refers" "File.refers" (defArgs s_File_refers) (defBody s_File_refers) (defScope s_File_refers) dvs ks f fd) (T : Txt K w mg c)  : FnOk P w K mg base C8.CX0 1 f fd ["self"] (sp_File_refers c) := by
  refine F.ok sc_File_refers (fun vs H Q E h => ?_) (fun cdv A outer s H vs Q E hr h => ?_)
  · obtain ⟨p, F, rfl, ⟨dx, r, k, h1, h2, h3⟩, q⟩ := h
    rfl
  · obtain ⟨p, F, rfl, ⟨dx, r, k, h1, h2, h3⟩, q⟩ := h
    have hu := hu_of hr
    have hu2 := hu2_of hr
    refine ⟨_, PSs.nox ((pss_one (ps_ret (pe_f T.cF T.aF_own_refers (pv 0))))), ?_⟩
    exact ⟨_, rfl, p, dx, _, _, rfl, h1, rfl, q _ h2⟩

/-- File.hold -/
theorem w_File_hold {f : Addr} {fd : FuncData} {ks : List (Str × V)} {dvs : List V} (F : FunD K "hold" "File.hold" (defArgs s_File_hold) (defBody s_File_hold) (defScope s_File_hold) dvs ks f fd) (T : Txt K w mg c)  : FnOk P w K mg base C8.CX0 1 f fd ["self"] (sp_File_hold c) := by
  refine F.ok sc_File_hold (fun vs H Q E h => ?_) (fun cdv A outer s H vs Q E hr h => ?_)
  · obtain ⟨p, F, rfl, ⟨dx, r, k, h1, h2, h3⟩, q⟩ := h
    rfl
  · obtain ⟨p, F, rfl, ⟨dx, r, k, h1, h2, h3⟩, q⟩ := h
    have hu := hu_of hr
    have hu2 := hu2_of hr
    refine ⟨_, PSs.nox ((pss_one (ps_ret (pe_f T.cF T.aF_own_hold (pv 0))))), ?_⟩
    exact ⟨_, rfl, p, dx, _, _, rfl, h1, rfl, q⟩

/-- File.keeps -/
theorem w_File_keeps {f : Addr} {fd : FuncData} {ks : List (Str × V)} {dvs : List V} (F : FunD K "keeps" "File.keeps" (defArgs s_File_keeps) (defBody s_File_keeps) (defScope s_File_keeps) dvs ks f fd) (T : Txt K w mg c)  : FnOk P w K mg base C8.CX0 1 f fd ["self"] (sp_File_keeps c) := by
  refine F.ok sc_File_keeps (fun vs H Q E h => ?_) (fun cdv A outer s H vs Q E hr h => ?_)
  · obtain ⟨p, F, rfl, ⟨dx, r, k, h1, h2, h3⟩, q⟩ := h
    rfl
  · obtain ⟨p, F, rfl, ⟨dx, r, k, h1, h2, h3⟩, q⟩ := h
    have hu := hu_of hr
    have hu2 := hu2_of hr
    refine ⟨_, PSs.nox ((pss_one (ps_ret (pe_f T.cF T.aF_own_keeps (pv 0))))), ?_⟩
    exact ⟨_, rfl, p, dx, _, _, rfl, h1, rfl, q _ h3⟩

end
end Wp

set_option Elab.async false
set_option linter.all false
set_option maxRecDepth 100000
set_option maxHeartbeats 2000000
namespace Wp
open PySem PySem.Spec PyProof.Rows L2
section
variable {P : Program} {w : World} {K : PySem.W.Frag} {mg : Str → Option Value} {base : Heap} {c : CA}

/-- all_below -/
theorem w_all_below {f : Addr} {fd : FuncData} {ks : List (Str × V)} {dvs : List V} (F : FunD K "all_below" "all_below" (defArgs s_all_below) (defBody s_all_below) (defScope s_all_below) dvs ks f fd) (T : Txt K w mg c) (p_File_refers : Prp P w K mg base 1 c.F "refers" (sp_File_refers c)) : FnOk P w K mg base C8.CX0 3 f fd ["files", "name"] (sp_all_below c) := by
  refine F.ok sc_all_below (fun vs H Q E h => ?_) (fun cdv A outer s H vs Q E hr h => ?_)
  · obtain ⟨d, n, ns, fd, rfl, hf, g, hn, q⟩ := h
    rfl
  · obtain ⟨d, n, ns, fd, rfl, hf, g, hn, q⟩ := h
    have hu := hu_of hr
    have hu2 := hu2_of hr
    refine ⟨_, PSs.nox ((pss_cons (ps_par (i := 2) (j := 3) rfl sc_all_below.nd rfl rfl (by decide) rfl rfl (pa_cons pe_dnewK (pa_cons (pe_callTy call_list_of rfl T.b_list (by decide +kernel) (pa_cons (pe_pr p_File_refers hr (by decide) (pe_dget hu (pv 0) (pv 1) (fun _ _ => rfl))) pa_nil)) pa_nil)) (by rfl))
      (pss_cons (ps_while PassesOwn.never (pt_cmpR (op_neD hr.units) (pv 3) (pe_lst pa_nil) (nomark _))
        (pss_cons (ps_set (i := 4) sc_all_below.nd rfl (Or.inl rfl) (pe_bm0 PySem.F.plainAttrs_list PySem.F.slot_list_pop PySem.F.type_list_pop mt_pop (pv 3)))
        (pss_one (ps_if (pt_cmp (pc_dnotin hu (pv 4) (pv 2))) (pss_cons (ps_dput hu (pv 2) (pv 4) pe_bl rfl)
          (pss_one (ps_expr (pe_bm PySem.F.plainAttrs_list PySem.F.slot_list_extend PySem.F.type_list_extend mt_extT (pv 3) (pa_cons (pe_pr p_File_refers hr (by decide) (pe_dget hu (pv 0) (pv 4) (fun _ _ => rfl))) pa_nil))))) pss_nil))))
      (pss_one (ps_ret (pv 2)))))), ?_⟩
    obtain ⟨rk1, hrk⟩ := g.rank
    intro p hp
    obtain ⟨pn, g1, f1⟩ := fval (hf.same (same_new (o := .dK []) hp)) hn
    refine ⟨_, rfl, _, rfl, d, _, rfl, g1, pn, ?_⟩
    obtain ⟨dxn, rn, kn, fn1, fn2, fn3⟩ := id f1
    refine ⟨dxn, _, rfl, fn1, pn, fd n, rfl, f1, fun r hr1 => ?_⟩
    refine ⟨r, _, rfl, .inr (SqT.of hr1), fun l hl => ?_⟩
    have hpl : p ≠ l := ne_of_none (H := upd H p (.dK [])) upd_same hl
    have hl0 : H l = none := by rw [upd_ne (Ne.symm hpl)] at hl; exact hl
    refine ⟨_, _, rfl, ?_⟩
    have okn := g.ok n hn
    refine ⟨fun m σ H1 => ∃ (fo li : List Str) (x : Option V), σ = [some (.ref d), some (.str n), some (.ref p), some (.ref l), x] ∧ Same H H1 ∧ H1 p = some (.dK (fo.map fun z => (Sum.inr z, V.bl true))) ∧ H1 l = some (.lst (li.map V.str)) ∧ fo.Nodup ∧ (∀ z ∈ fo, z ∈ ns ∧ rk1 n < rk1 z) ∧ (∀ z ∈ li, z ∈ ns ∧ rk1 n < rk1 z) ∧ li.length ≤ 8 * fo.length + 8 ∧ m = 9 * (8 - fo.length) + li.length,
      ⟨_, [], (fd n).refs, none, rfl, (same_new hp).trans (same_new hl), by rw [upd_ne hpl]; exact upd_same, upd_same, List.nodup_nil, (fun z hz => nomatch hz), fun z hz => ⟨g.cl n hn z hz, hrk n hn z hz⟩, by have := nodup_few okn.nm okn.nd; simp only [List.length_nil]; omega, rfl⟩, ?_⟩
    rintro m σ H1 ⟨fo, li, x, rfl, s1, h1, h2, nf, hfo, hli, hll, rfl⟩
    have hfo8 : fo.length ≤ 8 := nodup_few (fun z hz => g.nm z (hfo z hz).1) nf
    refine ⟨_, rfl, (by show 0 ≤ sizeLine; decide), fun e he => rNe_nil (SqL.of (by rw [upd_ne (ne_of_none h2 he)]; exact h2)) upd_same (fun z hz => g.nm z (hli z hz).1) ⟨_, rfl, ?_⟩⟩
    have s2 : Same H (upd H1 e (.lst [])) := s1.trans (same_new he)
    have h1' : (upd H1 e (.lst [])) p = _ := (upd_ne (ne_of_none h1 he)).trans h1
    have h2' : (upd H1 e (.lst [])) l = _ := (upd_ne (ne_of_none h2 he)).trans h2
    rcases List.eq_nil_or_concat li with rfl | ⟨li0, y, rfl⟩
    · refine iteF ?_
      exact ⟨_, rfl, q _ p fo s2 hp h1' fun hm => Nat.lt_irrefl _ (hfo n hm).2⟩
    rw [show (!(li0.concat y).isEmpty) = true by simp]
    refine iteT ?_
    refine ⟨fun σ' H' => ∃ m', m' < 9 * (8 - fo.length) + (li0.concat y).length ∧ ∃ (fo li : List Str) (x : Option V), σ' = [some (.ref d), some (.str n), some (.ref p), some (.ref l), x] ∧ Same H H' ∧ H' p = some (.dK (fo.map fun z => (Sum.inr z, V.bl true))) ∧ H' l = some (.lst (li.map V.str)) ∧ fo.Nodup ∧ (∀ z ∈ fo, z ∈ ns ∧ rk1 n < rk1 z) ∧ (∀ z ∈ li, z ∈ ns ∧ rk1 n < rk1 z) ∧ li.length ≤ 8 * fo.length + 8 ∧ m' = 9 * (8 - fo.length) + li.length, fun σ' H' z => z, ?_⟩
    simp only [List.concat_eq_append, List.length_append, List.length_cons, List.length_nil] at hll ⊢
    obtain ⟨hy1, hy2⟩ := hli y (by simp)
    refine ⟨_, rfl, .inl ⟨rfl, _, SqL.of h2'⟩, l, _, .str y, rfl, rfl, h2', by simp, ?_⟩
    have e1 : ((li0.concat y).map V.str).dropLast = li0.map V.str := by simp
    have hlp : l ≠ p := Ne.symm hpl
    have sm : ∀ o, Same H (upd (upd H1 e (.lst [])) l o) := fun o b u hb => by rw [upd_ne (ne_of_none hb hl0)]; exact s2 b u hb
    refine ⟨_, rfl, _, rfl, p, _, rfl, DGet.k (k := Sum.inr y) (by rw [upd_ne hpl]; exact h1'), _, rfl, ?_⟩
    rw [valK_map]
    by_cases hy : y ∈ fo
    · rw [if_pos hy]
      refine iteF ?_
      refine ⟨_, ?_, fo, li0, some (.str y), rfl, sm _, by rw [upd_ne hpl]; exact h1', by rw [upd_same, e1], nf, hfo, fun z hz => hli z (by simp [hz]), by omega, rfl⟩
      omega
    · rw [if_neg hy]
      refine iteT ?_
      refine ⟨_, rfl, _, rfl, p, _, rfl, DPut.k (k := Sum.inr y) (by rw [upd_ne hpl]; exact h1') (by rw [List.length_map, sizeLine_eq]; omega), ?_⟩
      have hv : valV (fo.map fun z => ((Sum.inr z : Key), V.bl true)) (.inr y) = none := by rw [valK_map, if_neg hy]
      have ep : putK (fo.map fun z => ((Sum.inr z : Key), V.bl true)) (.inr y) (.bl true) = (fo ++ [y]).map fun z => (Sum.inr z, V.bl true) := by rw [putK_new _ hv]; simp
      rw [ep, e1]
      have s3 : Same H (upd (upd (upd H1 e (.lst [])) l (.lst (li0.map V.str))) p (.dK ((fo ++ [y]).map fun z => (Sum.inr z, V.bl true)))) := fun b u hb => by rw [upd_ne (ne_of_none hb hp)]; exact sm _ b u hb
      obtain ⟨py, g2, f2⟩ := fval (hf.same s3) hy1
      obtain ⟨dxy, ry, ky, fy1, fy2, fy3⟩ := id f2
      have hl3 : (upd (upd (upd H1 e (.lst [])) l (.lst (li0.map V.str))) p (.dK ((fo ++ [y]).map fun z => (Sum.inr z, V.bl true)))) l = some (.lst (li0.map V.str)) := by rw [upd_ne hlp]; exact upd_same
      have oky := g.ok y hy1
      have hly := nodup_few oky.nm oky.nd
      refine ⟨_, rfl, .inl ⟨rfl, _, SqL.of hl3⟩, _, rfl, _, rfl, d, _, rfl, g2, py, dxy, _, rfl, fy1, py, fd y, rfl, f2, fun r2 hr2 => ?_⟩
      refine ⟨l, r2, _, _, rfl, rfl, hl3, SqT.of hr2, by rw [List.length_map, List.length_map, sizeLine_eq]; omega, ?_⟩
      refine ⟨_, ?_, fo ++ [y], li0 ++ (fd y).refs, some (.str y), rfl, fun b u hb => by rw [upd_ne (ne_of_none hb hl0)]; exact s3 b u hb, by rw [upd_ne hpl]; exact upd_same, by rw [upd_same, List.map_append], ?_, ?_, ?_, ?_, rfl⟩
      · have h9 : (fo ++ [y]).length ≤ 8 := nodup_few (zs := fo ++ [y]) (fun z hz => by rcases List.mem_append.mp hz with h | h; exact g.nm z (hfo z h).1; exact g.nm z (by rw [List.mem_singleton.mp h]; exact hy1)) (List.nodup_append.mpr ⟨nf, by simp, fun a ha b hb e => hy (by rw [← List.mem_singleton.mp hb, ← e]; exact ha)⟩)
        simp only [List.length_append, List.length_cons, List.length_nil] at h9 ⊢
        omega
      · exact List.nodup_append.mpr ⟨nf, by simp, fun a ha b hb e => hy (by rw [← List.mem_singleton.mp hb, ← e]; exact ha)⟩
      · intro z hz
        rcases List.mem_append.mp hz with h | h
        · exact hfo z h
        · rw [List.mem_singleton.mp h]
          exact ⟨hy1, hy2⟩
      · intro z hz
        rcases List.mem_append.mp hz with h | h
        · exact hli z (by simp [h])
        · exact ⟨g.cl y hy1 z h, Nat.lt_trans hy2 (hrk y hy1 z h)⟩
      · simp only [List.length_append, List.length_cons, List.length_nil]
        omega

/-- tree_below -/
theorem w_tree_below {f : Addr} {fd : FuncData} {ks : List (Str × V)} {dvs : List V} (F : FunD K "tree_below" "tree_below" (defArgs s_tree_below) (defBody s_tree_below) (defScope s_tree_below) dvs ks f fd) (T : Txt K w mg c) (p_File_refers : Prp P w K mg base 1 c.F "refers" (sp_File_refers c)) : FnOk P w K mg base C8.CX0 3 f fd ["files", "entry"] (sp_tree_below c) := by
  refine F.ok sc_tree_below (fun vs H Q E h => ?_) (fun cdv A outer s H vs Q E hr h => ?_)
  · obtain ⟨d, e, ns, fd, S, rfl, hf, hS, g, q⟩ := h
    rfl
  · obtain ⟨d, e, ns, fd, S, rfl, hf, hS, g, q⟩ := h
    have hu := hu_of hr
    have hu2 := hu2_of hr
    refine ⟨_, PSs.nox ((pss_cons (ps_par (i := 2) (j := 3) rfl sc_tree_below.nd rfl rfl (by decide) rfl rfl (pa_cons (pe_disp (pps_cons (pv 1) pe_non pps_nil) (by rfl) (by rfl) (fun z => by cases z) (by decide)) (pa_cons (pe_lst (pa_cons (pv 1) pa_nil)) pa_nil)) (by rfl))
      (pss_cons (ps_while PassesOwn.never (pt_cmpR (op_neD hr.units) (pv 3) (pe_lst pa_nil) (nomark _))
        (pss_cons (ps_set (i := 4) sc_tree_below.nd rfl (Or.inl rfl) (pe_bm0 PySem.F.plainAttrs_list PySem.F.slot_list_pop PySem.F.type_list_pop mt_pop (pv 3)))
        (pss_one (ps_for PassesOwn.never rfl (pi_tup (pe_pr p_File_refers hr (by decide) (pe_dget hu (pv 0) (pv 4) (fun _ _ => rfl)))) (pg_name (i := 5) sc_tree_below.nd rfl (Or.inl rfl))
          (pss_cons (ps_if (pt_cmp (pc_din hu (pv 5) (pv 2))) (pss_one (ps_ret pe_non)) pss_nil)
          (pss_cons (ps_dput hu (pv 2) (pv 5) (pv 4) rfl)
          (pss_one (ps_expr (pe_bm PySem.F.plainAttrs_list PySem.F.slot_list_append PySem.F.type_list_append mt_append (pv 3) (pa_cons (pv 5) pa_nil))))))))))
      (pss_one (ps_ret (pv 2)))))), ?_⟩
    refine fun p hp => ⟨_, rfl, upd_same, [(.inr e, .non)], rfl, (by show 1 ≤ 15; decide), _, rfl, by show 1 ≤ sizeLine; decide, fun l hl => ⟨_, _, rfl, ?_⟩⟩
    rw [upd_upd] at hl ⊢
    have hpl : p ≠ l := ne_of_none (H := upd H p (.dK (mergeK [] [(.inr e, .non)]))) upd_same hl
    have hlp := Ne.symm hpl
    have hl0 : H l = none := by rw [upd_ne hlp] at hl; exact hl
    have keyW : ∀ (Pz fo li : List Str), fo.Nodup → (∀ z, z ∈ fo ↔ z ∈ Pz ∨ z ∈ li) → Pz.Nodup → (∀ z ∈ Pz, z ∉ li) → (∀ z ∈ fo, z ∈ S) → Pz.length ≤ 8 := fun Pz fo li _ h2 h3 _ h5 => nodup_few (fun z hz => g.nm z (h5 z ((h2 z).mpr (.inl hz)))) h3
    refine ⟨fun m σ H1 => ∃ (Pz fo li : List Str) (kvs : List (Key × V)) (x y : Option V), σ = [some (.ref d), some (.str e), some (.ref p), some (.ref l), x, y] ∧ Same H H1 ∧ H1 p = some (.dK kvs) ∧ kvs.map (·.1) = fo.map Sum.inr ∧ H1 l = some (.lst (li.map V.str)) ∧ fo.Nodup ∧ (∀ z, z ∈ fo ↔ z ∈ Pz ∨ z ∈ li) ∧ Pz.Nodup ∧ li.Nodup ∧ (∀ z ∈ Pz, z ∉ li) ∧ (∀ z ∈ fo, z ∈ S) ∧ (∀ z ∈ fo, z ≠ e → ∃ x ∈ Pz, z ∈ (fd x).refs) ∧ m = 8 - Pz.length,
      ⟨_, [], [e], [e], _, none, none, rfl, (same_new hp).trans (same_new hl), by rw [upd_ne hpl]; exact upd_same, rfl, upd_same, by simp, by simp, by simp, by simp, by simp, fun z hz => by rw [List.mem_singleton.mp hz]; exact g.root, fun z hz hne => absurd (List.mem_singleton.mp hz) hne, rfl⟩, ?_⟩
    rintro m σ H1 ⟨Pz, fo, li, kvs, x, yy, rfl, s1, h1, hk, h2, nf, hmem, nP, nli, hdis, hfS, hpar, rfl⟩
    have hP8 := keyW Pz fo li nf hmem nP hdis hfS
    have hliS : ∀ z ∈ li, z ∈ S := fun z hz => hfS z ((hmem z).mpr (.inr hz))
    refine ⟨_, rfl, (by show 0 ≤ sizeLine; decide), fun a0 he => rNe_nil (SqL.of (by rw [upd_ne (ne_of_none h2 he)]; exact h2)) upd_same (fun z hz => g.nm z (hliS z hz)) ⟨_, rfl, ?_⟩⟩
    have s2 : Same H (upd H1 a0 (.lst [])) := s1.trans (same_new he)
    have h1' : (upd H1 a0 (.lst [])) p = _ := (upd_ne (ne_of_none h1 he)).trans h1
    have h2' : (upd H1 a0 (.lst [])) l = _ := (upd_ne (ne_of_none h2 he)).trans h2
    rcases List.eq_nil_or_concat li with rfl | ⟨li0, y, rfl⟩
    · refine iteF ?_
      exact ⟨_, rfl, q _ p s2 hp ⟨_, h1'⟩⟩
    rw [show (!(li0.concat y).isEmpty) = true by simp]
    refine iteT ?_
    simp only [List.concat_eq_append] at *
    refine ⟨fun σ' H' => ∃ m', m' < 8 - Pz.length ∧ ∃ (Pz fo li : List Str) (kvs : List (Key × V)) (x y : Option V), σ' = [some (.ref d), some (.str e), some (.ref p), some (.ref l), x, y] ∧ Same H H' ∧ H' p = some (.dK kvs) ∧ kvs.map (·.1) = fo.map Sum.inr ∧ H' l = some (.lst (li.map V.str)) ∧ fo.Nodup ∧ (∀ z, z ∈ fo ↔ z ∈ Pz ∨ z ∈ li) ∧ Pz.Nodup ∧ li.Nodup ∧ (∀ z ∈ Pz, z ∉ li) ∧ (∀ z ∈ fo, z ∈ S) ∧ (∀ z ∈ fo, z ≠ e → ∃ x ∈ Pz, z ∈ (fd x).refs) ∧ m' = 8 - Pz.length, fun σ' H' z => z, ?_⟩
    have hyS : y ∈ S := hliS y (by simp)
    have hyP : y ∉ Pz := fun h => hdis y h (by simp)
    have hyli : y ∉ li0 := fun h => by
      rw [List.nodup_append] at nli
      exact nli.2.2 y h y (by simp) rfl
    have nli0 : li0.Nodup := (List.nodup_append.mp nli).1
    refine ⟨_, rfl, .inl ⟨rfl, _, SqL.of h2'⟩, l, _, .str y, rfl, rfl, h2', by simp, ?_⟩
    have e1 : ((li0 ++ [y]).map V.str).dropLast = li0.map V.str := by simp
    rw [e1]
    have sm : Same H (upd (upd H1 a0 (.lst [])) l (.lst (li0.map V.str))) := fun b u hb => by rw [upd_ne (ne_of_none hb hl0)]; exact s2 b u hb
    obtain ⟨py, g2, f2⟩ := fval (hf.same sm) (hS y hyS)
    obtain ⟨dxy, ry, ky, fy1, fy2, fy3⟩ := id f2
    refine ⟨_, rfl, _, rfl, d, _, rfl, g2, py, dxy, _, rfl, fy1, py, fd y, rfl, f2, fun r2 hr2 => ?_⟩
    have hrn := g.rn y hyS
    -- the loop over the references
    refine ⟨r2, rfl, ⟨_, SqT.of hr2⟩, for_it (walk_tup (xs := (fd y).refs.map V.str)) (fun i σ H2 => ∃ (kvs : List (Key × V)) (v : Option V), σ = [some (.ref d), some (.str e), some (.ref p), some (.ref l), some (.str y), v] ∧ Same H H2 ∧ H2 r2 = some (.tup ((fd y).refs.map V.str)) ∧ H2 p = some (.dK kvs) ∧ kvs.map (·.1) = (fo ++ (fd y).refs.take i).map Sum.inr ∧ H2 l = some (.lst ((li0 ++ (fd y).refs.take i).map V.str)))
      ⟨kvs, _, rfl, sm, hr2, by rw [upd_ne hpl]; exact h1', by rw [hk]; simp, by rw [upd_same]; simp⟩ (fun i σ H2 _ ⟨_, _, _, _, h, _⟩ => SqT.of h) ?_ ?_⟩
    · rintro i xx σ H2 H3 hi ⟨kv2, v, rfl, s3, k1, k2, k3, k4⟩ ⟨rfl, ex⟩
      rw [List.getElem?_map] at ex
      obtain ⟨z, ez, rfl⟩ := Option.map_eq_some_iff.mp ex
      rw [List.length_map] at hi
      have hz : z ∈ (fd y).refs := List.mem_of_getElem? ez
      have hzS : z ∈ S := g.cl y hyS z hz
      have hze : z ≠ e := fun h => g.top y hyS (by rw [← h]; exact hz)
      have hznew : z ∉ fo ++ (fd y).refs.take i := by
        intro hm
        rcases List.mem_append.mp hm with h | h
        · obtain ⟨w1, hw1, hw2⟩ := hpar z h hze
          have hw := g.one w1 (hfS w1 ((hmem w1).mpr (.inl hw1))) y hyS z hw2 hz
          exact hyP (by rw [← hw]; exact hw1)
        · obtain ⟨j, hj, ej⟩ := List.mem_iff_getElem.mp h
          rw [List.length_take] at hj
          rw [List.getElem_take] at ej
          obtain ⟨hi2, ei⟩ := List.getElem?_eq_some_iff.mp ez
          exact List.pairwise_iff_getElem.mp hrn j i (by omega) hi2 (by omega) (ej.trans ei.symm)
      have hvn : valV kv2 (.inr z) = none := valV_none fun hm => by
        rw [k3] at hm
        obtain ⟨w1, hw1, ew⟩ := List.mem_map.mp hm
        cases ew
        exact hznew hw1
      refine ⟨_, rfl, _, rfl, p, _, rfl, DGet.k (k := Sum.inr z) k2, _, rfl, ?_⟩
      rw [hvn]
      refine iteF ?_
      have hsz : kv2.length ≤ 64 := by
        have := congrArg List.length k3
        simp only [List.length_map, List.length_append, List.length_take] at this
        have h1 := nodup_few (fun z hz => g.nm z (hfS z hz)) nf
        have h2 := nodup_few (zs := (fd y).refs) (fun z hz => g.nm z (g.cl y hyS z hz)) hrn
        omega
      refine ⟨_, rfl, _, rfl, _, rfl, p, _, rfl, DPut.k (k := Sum.inr z) k2 (by rw [sizeLine_eq]; omega), ?_⟩
      have k4' : (upd H3 p (.dK (putK kv2 (.inr z) (.str y)))) l = some (.lst ((li0 ++ (fd y).refs.take i).map V.str)) := by rw [upd_ne hlp]; exact k4
      refine ⟨_, rfl, .inl ⟨rfl, _, SqL.of k4'⟩, _, rfl, l, _, _, rfl, rfl, k4', ?_, ?_⟩
      · have h2 := nodup_few (zs := (fd y).refs) (fun z hz => g.nm z (g.cl y hyS z hz)) hrn
        have h3 := nodup_few (zs := li0) (fun z hz => g.nm z (hliS z (by simp [hz]))) nli0
        rw [List.length_map, List.length_append, List.length_take, sizeLine_eq]
        omega
      · refine ⟨_, _, rfl, fun b u hb => by rw [upd_ne (ne_of_none hb hl0), upd_ne (ne_of_none hb hp)]; exact s3 b u hb, ?_, by rw [upd_ne hpl]; exact upd_same, ?_, ?_⟩
        · rw [upd_ne (ne_of k1 k4 (fun z => nomatch z)), upd_ne (ne_of k1 k2 (fun z => nomatch z))]
          exact k1
        · rw [putK_new _ hvn, List.map_append, k3, List.take_add_one, ez]
          simp
        · rw [upd_same, List.take_add_one, ez]
          simp
    · rintro σ H2 ⟨kv2, v, rfl, s3, k1, k2, k3, k4⟩
      rw [List.length_map, List.take_length] at k3 k4
      have nfo : ∀ z ∈ (fd y).refs, z ∉ fo := fun z hz h => by
        have hze : z ≠ e := fun h => g.top y hyS (by rw [← h]; exact hz)
        obtain ⟨w1, hw1, hw2⟩ := hpar z h hze
        have hw := g.one w1 (hfS w1 ((hmem w1).mpr (.inl hw1))) y hyS z hw2 hz
        exact hyP (by rw [← hw]; exact hw1)
      have hyfo : y ∈ fo := (hmem y).mpr (.inr (by simp))
      have hP9 : (Pz ++ [y]).length ≤ 8 := nodup_few (fun z hz => by
        rcases List.mem_append.mp hz with h | h
        · exact g.nm z (hfS z ((hmem z).mpr (.inl h)))
        · rw [List.mem_singleton.mp h]
          exact g.nm y hyS) (List.nodup_append.mpr ⟨nP, by simp, fun a ha b hb e => hyP (by rw [← List.mem_singleton.mp hb, ← e]; exact ha)⟩)
      simp only [List.length_append, List.length_cons, List.length_nil] at hP9
      refine ⟨_, ?_, Pz ++ [y], fo ++ (fd y).refs, li0 ++ (fd y).refs, kv2, _, _, rfl, s3, k2, k3, k4, ?_, ?_, ?_, ?_, ?_, ?_, ?_, rfl⟩
      · simp only [List.length_append, List.length_cons, List.length_nil]
        omega
      · exact List.nodup_append.mpr ⟨nf, hrn, fun a ha b hb e => nfo b hb (by rw [← e]; exact ha)⟩
      · intro z
        simp only [List.mem_append, List.mem_singleton, hmem z]
        constructor
        · rintro ((h | h | h) | h)
          · exact .inl (.inl h)
          · exact .inr (.inl h)
          · exact .inl (.inr h)
          · exact .inr (.inr h)
        · rintro ((h | h) | h | h)
          · exact .inl (.inl h)
          · exact .inl (.inr (.inr h))
          · exact .inl (.inr (.inl h))
          · exact .inr h
      · exact List.nodup_append.mpr ⟨nP, by simp, fun a ha b hb e => hyP (by rw [← List.mem_singleton.mp hb, ← e]; exact ha)⟩
      · exact List.nodup_append.mpr ⟨nli0, hrn, fun a ha b hb e => nfo b hb ((hmem b).mpr (.inr (by rw [← e]; simp [ha])))⟩
      · intro z hz hm
        rcases List.mem_append.mp hz with h | h
        · rcases List.mem_append.mp hm with h' | h'
          · exact hdis z h (by simp [h'])
          · exact nfo z h' ((hmem z).mpr (.inl h))
        · rw [List.mem_singleton.mp h] at hm
          rcases List.mem_append.mp hm with h' | h'
          · exact hyli h'
          · exact nfo y h' hyfo
      · intro z hz
        rcases List.mem_append.mp hz with h | h
        · exact hfS z h
        · exact g.cl y hyS z h
      · intro z hz hne
        rcases List.mem_append.mp hz with h | h
        · obtain ⟨w1, hw1, hw2⟩ := hpar z h hne
          exact ⟨w1, by simp [hw1], hw2⟩
        · exact ⟨y, by simp, h⟩

end
end Wp

set_option Elab.async false
set_option linter.all false
set_option maxRecDepth 100000
set_option maxHeartbeats 2000000
namespace Wp
open PySem PySem.Spec PyProof.Rows L2
section
variable {P : Program} {w : World} {K : PySem.W.Frag} {mg : Str → Option Value} {base : Heap} {c : CA}

/-- need_files -/
theorem w_need_files {f : Addr} {fd : FuncData} {ks : List (Str × V)} {dvs : List V} (F : FunD K "need_files" "need_files" (defArgs s_need_files) (defBody s_need_files) (defScope s_need_files) dvs ks f fd) (T : Txt K w mg c) (c_is_name : C8.Cal P w K mg base 1 "is_name" (sp_is_name) []) (p_File_refers : Prp P w K mg base 1 c.F "refers" (sp_File_refers c)) (p_File_keeps : Prp P w K mg base 1 c.F "keeps" (sp_File_keeps c)) (c_all_below : C8.Cal P w K mg base 3 "all_below" (sp_all_below c) []) : FnOk P w K mg base C8.CX0 4 f fd ["files"] (sp_need_files c) := by
  refine F.ok sc_need_files (fun vs H Q E h => ?_) (fun cdv A outer s H vs Q E hr h => ?_)
  · obtain ⟨d, ns, fd, kc, rfl, hf, g, h1, hkc, q⟩ := h
    rfl
  · obtain ⟨d, ns, fd, kc, rfl, hf, g, h1, hkc, q⟩ := h
    have hu := hu_of hr
    have hu2 := hu2_of hr
    refine ⟨_, PSs.nox ((pss_cons (ps_if (PW.pt (pw_or (pt_not (pt_val (pe_callB call_isi rfl T.b_isinstance (by decide +kernel) (pa_cons (pv 0) (pa_cons (pe_bltn (v := .ty "dict") rfl T.b_dict (by decide +kernel) rfl) pa_nil))))) (pw_or (pt_not (pt_chain op_le op_le pe_int (pe_callB call_lenD rfl T.b_len (by decide +kernel) (pa_cons (pv 0) pa_nil)) (pe_gi rfl T.g_MOST_FILES))) (pw_or1 (pt_not (pt_val (pe_callB (cr_all rfl) rfl T.b_all (by decide +kernel) (pa_cons (pe_lock (pe_lcP (own := [("name", 1)]) rfl sc_need_files.nd (pi_keys (pv 0)) (blkOk_by (own := [("name", 1)]) (N := n_need_files) (sc := defScope s_need_files) (by decide +kernel)) (fun _ _ _ _ _ => (pg_name (i := 1) sc_need_files.nd rfl (Or.inl rfl))) (fun _ _ _ _ _ => (C8.pe_c c_is_name hr (by decide) rfl (pa_cons (pv 1) pa_nil))))) pa_nil)))))))) (pss_one ps_never) pss_nil)
      (pss_cons (ps_set (i := 2) sc_need_files.nd rfl (Or.inl rfl) (pe_callB (call_sortedD rfl) rfl T.b_sorted (by decide +kernel) (pa_cons (pv 0) pa_nil)))
      (pss_cons (ps_for PassesOwn.never rfl (pi_list (pv 2)) (pg_name (i := 1) sc_need_files.nd rfl (Or.inl rfl))
        (pss_one (ps_if (pt_not (pt_val (pe_callB (C8.call_isC T.iF) rfl T.b_isinstance (by decide +kernel) (pa_cons (pe_dget hu (pv 0) (pv 1) (fun _ _ => rfl)) (pa_cons (pe_glob (v := .ref c.F) rfl T.m_File rfl) pa_nil))))) (pss_one ps_never) pss_nil)))
      (pss_cons (ps_for PassesOwn.never rfl (pi_list (pv 2)) (pg_name (i := 1) sc_need_files.nd rfl (Or.inl rfl))
        (pss_one (ps_if (PW.pt (pw_or (pt_cmpR op_in_seq (pv 1) (pe_pr p_File_refers hr (by decide) (pe_dget hu (pv 0) (pv 1) (fun _ _ => rfl))) (by rfl)) (pw_or1 (pt_not (pt_val (pe_callB (cr_all rfl) rfl T.b_all (by decide +kernel) (pa_cons (pe_lcP (own := [("other", 3)]) rfl sc_need_files.nd (pi_tup (pe_pr p_File_refers hr (by decide) (pe_dget hu (pv 0) (pv 1) (fun _ _ => rfl)))) (blkOk_by (own := [("other", 3)]) (N := n_need_files) (sc := defScope s_need_files) (by decide +kernel)) (fun _ _ _ _ _ => (pg_name (i := 3) sc_need_files.nd rfl (Or.inl rfl))) (fun _ _ _ _ _ => (pe_cmp (pc_din hu (pv 3) (pv 0)) rfl))) pa_nil))))))) (pss_one ps_never) pss_nil)))
      (pss_cons (ps_for PassesOwn.never rfl (pi_list (pv 2)) (pg_name (i := 1) sc_need_files.nd rfl (Or.inl rfl))
        (pss_one (ps_if (pt_cmpR op_ne (pe_callB call_len_seq rfl T.b_len (by decide +kernel) (pa_cons (pe_pr p_File_keeps hr (by decide) (pe_dget hu (pv 0) (pv 1) (fun _ _ => rfl))) pa_nil)) (pe_callB call_len_seq rfl T.b_len (by decide +kernel) (pa_cons (pe_pr p_File_keeps hr (by decide) (pe_dget hu (pv 0) (pe_ix ix_list (pv 2) pe_int (fun _ _ => rfl)) (fun _ _ => rfl))) pa_nil)) (nomark _)) (pss_one ps_never) pss_nil)))
      (pss_one (ps_for PassesOwn.never rfl (pi_list (pv 2)) (pg_name (i := 1) sc_need_files.nd rfl (Or.inl rfl))
        (pss_one (ps_if (pt_cmp (pc_din hu (pv 1) (C8.pe_c c_all_below hr (by decide) rfl (pa_cons (pv 0) (pa_cons (pv 1) pa_nil))))) (pss_one ps_never) pss_nil)))))))))), ?_⟩
    obtain ⟨ps, hd, hps⟩ := id hf
    have h8 : ns.length ≤ 8 := nodup_few g.nm g.nd
    have hl : ((ns.map fun n => ((Sum.inr n : Key), V.ref (ps n))).length : Int) = ns.length := by rw [List.length_map]
    refine ⟨_, rfl, _, _, _, _, true, rfl, .ty "dict", .base (.dK hd), kit_ty (by decide +kernel), true, rfl, iteF ?_⟩
    refine ⟨_, rfl, d, _, rfl, hd, _, _, rfl, rfl, _, rfl, ?_⟩
    refine ite2 (fun _ => ?_) (fun h => absurd (decide_eq_true (by rw [hl]; omega)) h)
    refine ⟨_, _, rfl, rfl, _, rfl, ?_⟩
    rw [decide_eq_true (by rw [hl]; omega)]
    refine iteF ?_
    refine ⟨d, _, hd, True.intro, fun od => ?_⟩
    have hfrz : ∀ H', Same (upd H d (.frz od (.dK (ns.map fun n => (Sum.inr n, V.ref (ps n)))))) H' → H' d = some (.frz od (.dK (ns.map fun n => (Sum.inr n, V.ref (ps n))))) := fun H' s => s _ _ upd_same
    refine ⟨_, rfl, d, od, rfl, .inl ⟨_, upd_same, ?_⟩⟩
    refine ⟨_, _, _, List.replicate (ns.map fun n => ((Sum.inr n : Key), V.ref (ps n))).length (.bl true), walk_keys, by simp, hfrz, fun _ _ _ _ y => y.1, (by rw [List.length_map, sizeLine_eq]; omega), fun i x y H2 e sm yy k hk => ?_, fun D H' hD sm hL => ?_⟩
    · obtain ⟨_, kk, vv, e1, rfl⟩ := yy
      rw [List.getElem?_map] at e1
      obtain ⟨z, e2, e3⟩ := Option.map_eq_some_iff.mp e1
      cases e3
      obtain rfl : y = .bl true := List.eq_of_mem_replicate (List.mem_of_getElem? e)
      exact ⟨rfl, _, rfl, z, rfl, g.nm z (List.mem_of_getElem? e2), fun H4 s4 => hk _ s4⟩
    have sH : Same H (upd H' d (.dK (ns.map fun n => (Sum.inr n, V.ref (ps n))))) := fun b o hb => by
      by_cases e : b = d
      · subst e
        rw [hd] at hb
        rw [upd_same]
        exact hb
      · rw [upd_ne e]
        exact sm b o (by rw [upd_ne e]; exact hb)
    have hDd : D ≠ d := fun e => by rw [e, upd_same] at hD; cases hD
    refine ⟨hfrz H' sm, D, List.replicate ns.length true, rfl, SqL.of (by rw [upd_ne hDd, List.map_replicate]; simpa using hL), _, rfl, ?_⟩
    rw [all_true]
    refine iteF ?_
    have hd2 := sH _ _ hd
    generalize upd H' d (.dK (ns.map fun n => (Sum.inr n, V.ref (ps n)))) = Ha at sH hd2
    clear hL hD sm hDd
    refine ⟨_, rfl, d, _, ns, rfl, .inl hd2, by rw [List.map_map]; rfl, by omega, fun ys l hp1 hs1 hl1 => ?_⟩
    obtain rfl : ys = so ns := so_eq g.nm g.nd hp1 hs1
    have sL : Same H (upd Ha l (.lst ((so ns).map V.str))) := sH.trans (same_new hl1)
    have hL1 : (upd Ha l (.lst ((so ns).map V.str))) l = some (.lst ((so ns).map V.str)) := upd_same
    generalize upd Ha l (.lst ((so ns).map V.str)) = Hb at sL hL1
    have mem : ∀ (j : Nat) (x : V), ((so ns).map V.str)[j]? = some x → ∃ z, x = .str z ∧ z ∈ ns := by
      intro j x e
      rw [List.getElem?_map] at e
      obtain ⟨z, e1, rfl⟩ := Option.map_eq_some_iff.mp e
      exact ⟨z, rfl, (so_mem g.nm z).mp (List.mem_of_getElem? e1)⟩
    -- isinstance(files[name], File)
    refine ⟨_, rfl, l, rfl, ⟨_, SqL.of hL1⟩, forS walk_list (by show 1 < 4; decide) (fun _ s => s.seq (SqL.of hL1)) yat_same (fun j x H2 _ s2 y k hk => ?_) fun v1 H2 s2 => ?_⟩
    · obtain ⟨_, ex⟩ := y
      obtain ⟨z, rfl, hz⟩ := mem j x ex
      obtain ⟨p, g1, f1⟩ := fval (hf.same (sL.trans s2)) hz
      obtain ⟨dx, r, kp, f2, _, _⟩ := id f1
      refine ⟨_, rfl, _, rfl, d, _, rfl, g1, p, dx, _, rfl, f2, true, rfl, iteF ?_⟩
      exact hk _ (Same.refl _)
    have sA := sL.trans s2
    have hL2 := s2 _ _ hL1
    -- the references
    refine ⟨_, rfl, l, rfl, ⟨_, SqL.of hL2⟩, forS walk_list (by show 1 < 4; decide) (fun _ s => s.seq (SqL.of hL2)) yat_same (fun j x H3 _ s3 y k hk => ?_) fun v2 H3 s3 => ?_⟩
    · obtain ⟨_, ex⟩ := y
      obtain ⟨z, rfl, hz⟩ := mem j x ex
      have hfz := hf.same (sA.trans s3)
      obtain ⟨p, g1, f1⟩ := fval hfz hz
      obtain ⟨dx, r, kp, f2, f3, _⟩ := id f1
      have hnz : z ∉ (fd z).refs := fun h => by
        obtain ⟨rk1, hrk⟩ := g.rank
        exact Nat.lt_irrefl _ (hrk z hz z h)
      have hin : inV (.str z) ((fd z).refs.map V.str) = false := by rw [inV_str, decide_eq_false hnz]
      refine ⟨_, rfl, _, rfl, _, rfl, d, _, rfl, g1, p, dx, _, rfl, f2, p, fd z, rfl, f1, fun r1 hr1 => ?_⟩
      refine ⟨r1, _, rfl, .inr (SqT.of hr1), rfl, by simp [flatV], _, rfl, ?_⟩
      show if (if false = true then _ else inV (.str z) ((fd z).refs.map V.str)) = true then _ else _
      rw [hin]
      refine iteF ?_
      refine ⟨_, rfl, _, rfl, d, _, rfl, g1, p, dx, _, rfl, f2, p, fd z, rfl, f1, fun r2 hr2 => ?_⟩
      have hfew := nodup_few (g.ok z hz).nm (g.ok z hz).nd
      refine ⟨r2, rfl, ⟨_, SqT.of hr2⟩, _, _, _, List.replicate ((fd z).refs.map V.str).length (.bl true), walk_tup, by simp, fun H s => Wp.Same.seqT s (SqT.of hr2), yat_same, (by rw [List.length_map, sizeLine_eq]; omega), fun i x y H4 e sm yy k2 hk2 => ?_, fun D H' hD sm hLL => ?_⟩
      · obtain ⟨_, ez⟩ := yy
        rw [List.getElem?_map] at ez
        obtain ⟨o, e1, rfl⟩ := Option.map_eq_some_iff.mp ez
        obtain rfl : y = .bl true := List.eq_of_mem_replicate (List.mem_of_getElem? e)
        obtain ⟨w1, gw, hw⟩ := fval_in (z := o) (hfz.same sm)
        refine ⟨rfl, _, rfl, _, rfl, d, _, rfl, gw, ?_⟩
        rw [hw, decide_eq_true (g.cl z hz o (List.mem_of_getElem? e1))]
        exact hk2 _ (Same.refl _)
      refine ⟨D, List.replicate (fd z).refs.length true, rfl, SqL.of (by rw [List.map_replicate]; simpa using hLL), _, rfl, ?_⟩
      rw [all_true]
      exact iteF (hk _ sm)
    have sB := sA.trans s3
    have hL3 := s3 _ _ hL2
    obtain ⟨n0, nr, hso⟩ : ∃ a b, so ns = a :: b := by
      cases e : so ns with
      | nil =>
        have := (so_perm g.nm g.nd).length_eq
        rw [e] at this
        simp at this
        omega
      | cons a b => exact ⟨a, b, rfl⟩
    have hn0 : n0 ∈ ns := (so_mem g.nm n0).mp (by rw [hso]; exact List.mem_cons_self)
    refine ⟨_, rfl, l, rfl, ⟨_, SqL.of hL3⟩, forS walk_list (by show 1 < 4; decide) (fun _ s => s.seq (SqL.of hL3)) yat_same (fun j x H4 _ s4 y k hk => ?_) fun v3 H4 s4 => ?_⟩
    · obtain ⟨_, ex⟩ := y
      obtain ⟨z, rfl, hz⟩ := mem j x ex
      have hfz := hf.same (sB.trans s4)
      obtain ⟨p, g1, f1⟩ := fval hfz hz
      obtain ⟨dx, r, kp, f2, _, _⟩ := id f1
      obtain ⟨p0, g10, f10⟩ := fval hfz hn0
      obtain ⟨dx0, r0, kp0, f20, _, _⟩ := id f10
      refine ⟨_, rfl, _, rfl, d, _, rfl, g1, p, dx, _, rfl, f2, p, fd z, rfl, f1, fun k1 hk1 => ⟨k1, _, rfl, .inr (SqT.of hk1), ?_⟩⟩
      refine ⟨_, rfl, _, rfl, l, _, _, .str n0, rfl, rfl, SqL.of (s4 _ _ hL3), by rw [hso]; exact atI_nat (j := 0) rfl, d, _, rfl, g10, p0, dx0, _, rfl, f20, p0, fd n0, rfl, f10, fun k2 hk2 => ⟨k2, _, rfl, .inr (SqT.of hk2), ?_⟩⟩
      refine ⟨rfl, _, rfl, inT (by rw [List.length_map, List.length_map, hkc z hz, hkc n0 hn0]) ?_⟩
      exact hk _ (Same.refl _)
    have sC := sB.trans s4
    have hL4 := s4 _ _ hL3
    refine ⟨_, rfl, l, rfl, ⟨_, SqL.of hL4⟩, forS walk_list (by show 1 < 4; decide) (fun _ s => s.seq (SqL.of hL4)) yat_same (fun j x H5 _ s5 y k hk => ?_) fun v4 H5 s5 => ?_⟩
    · obtain ⟨_, ex⟩ := y
      obtain ⟨z, rfl, hz⟩ := mem j x ex
      have hfz := hf.same (sC.trans s5)
      refine ⟨_, rfl, _, rfl, _, rfl, d, z, ns, fd, rfl, hfz, g, hz, fun H6 p fo s6 _ h6 hno => ?_⟩
      refine ⟨p, _, rfl, DGet.k (k := Sum.inr z) h6, _, rfl, ?_⟩
      rw [valK_map, if_neg hno]
      exact iteF (hk _ s6)
    exact q _ (sC.trans s5)

/-- is_entries -/
theorem w_is_entries {f : Addr} {fd : FuncData} {ks : List (Str × V)} {dvs : List V} (F : FunD K "is_entries" "is_entries" (defArgs s_is_entries) (defBody s_is_entries) (defScope s_is_entries) dvs ks f fd) (T : Txt K w mg c) (c_are_names : C8.Cal P w K mg base 2 "are_names" (sp_are_names K) []) (p_File_naming : Prp P w K mg base 1 c.F "naming" (sp_File_naming c)) : FnOk P w K mg base C8.CX0 3 f fd ["files", "value"] (sp_is_entries c) := by
  refine F.ok sc_is_entries (fun vs H Q E h => ?_) (fun cdv A outer s H vs Q E hr h => ?_)
  · obtain ⟨d, a, ns, fd, es, rfl, hf, nm, ha, nd, ne, hes, q⟩ := h
    rfl
  · obtain ⟨d, a, ns, fd, es, rfl, hf, nm, ha, nd, ne, hes, q⟩ := h
    have hu := hu_of hr
    have hu2 := hu2_of hr
    refine ⟨_, PSs.nox ((pss_cons (ps_if (PW.pt (pw_or (pt_not (pt_val (C8.pe_c c_are_names hr (by decide) rfl (pa_cons (pv 1) pa_nil)))) (pw_or1 (pt_cmpR op_eq (pe_callB call_len_seq rfl T.b_len (by decide +kernel) (pa_cons (pv 1) pa_nil)) pe_int (nomark _))))) (pss_one (ps_ret pe_bl)) pss_nil)
      (pss_one (ps_ret (pe_callB (cr_all rfl) rfl T.b_all (by decide +kernel) (pa_cons (pe_lcP (own := [("name", 2)]) rfl sc_is_entries.nd (pi_tup (pv 1)) (blkOk_by (own := [("name", 2)]) (N := n_is_entries) (sc := defScope s_is_entries) (by decide +kernel)) (fun _ _ _ _ _ => (pg_name (i := 2) sc_is_entries.nd rfl (Or.inl rfl))) (fun _ _ _ _ _ => (pe_and (pe_cmp (pc_din hu (pv 2) (pv 0)) rfl) (pe_one (pe_cmpR op_eq (pe_pr p_File_naming hr (by decide) (pe_dget hu (pv 0) (pv 2) (fun _ _ => rfl))) pe_str (nomark _)))))) pa_nil)))))), ?_⟩
    have nme : ∀ e ∈ es, Nm e := fun e he => nm e (hes e he).1
    have h8 := nodup_few nme nd
    refine ⟨_, rfl, a, es, rfl, .inr (SqT.of ha), nme, nd, fun H1 s1 => ⟨true, rfl, iteF ?_⟩⟩
    have ha1 := s1 _ _ ha
    refine ⟨_, rfl, a, _, rfl, .inr (SqT.of ha1), rfl, _, rfl, iF (by rw [List.length_map]; intro h; injection h with h; exact ne (List.length_eq_zero_iff.mp (by omega))) ?_⟩
    refine ⟨_, rfl, a, rfl, ⟨_, SqT.of ha1⟩, _, _, _, List.replicate (es.map V.str).length (.bl true), walk_tup, by simp, fun H s => Wp.Same.seqT s (SqT.of ha1), yat_same, (by rw [List.length_map, sizeLine_eq]; omega), fun i x y H4 e sm yy k2 hk2 => ?_, fun D H' hD sm hLL => ?_⟩
    · obtain ⟨_, ez⟩ := yy
      rw [List.getElem?_map] at ez
      obtain ⟨z, e1, rfl⟩ := Option.map_eq_some_iff.mp ez
      obtain rfl : y = .bl true := List.eq_of_mem_replicate (List.mem_of_getElem? e)
      obtain ⟨h1, h2⟩ := hes z (List.mem_of_getElem? e1)
      have hfz := hf.same (s1.trans sm)
      obtain ⟨w1, gw, hw⟩ := fval_in (z := z) hfz
      obtain ⟨p, g1, f1⟩ := fval hfz h1
      obtain ⟨dx, r, kp, f2, _, _⟩ := id f1
      refine ⟨rfl, _, rfl, _, rfl, d, _, rfl, gw, _, rfl, ?_⟩
      rw [hw, decide_eq_true h1]
      refine iteT ?_
      refine ⟨_, rfl, _, rfl, d, _, rfl, g1, p, dx, _, rfl, f2, p, fd z, rfl, f1, rfl, qT ?_ (hk2 _ (Same.refl _))⟩
      rw [h2]
      rfl
    refine ⟨D, List.replicate es.length true, rfl, SqL.of (by rw [List.map_replicate]; simpa using hLL), ?_⟩
    rw [all_true]
    exact q _ (s1.trans sm)

/-- Site.__init__ -/
theorem w_Site_init {f : Addr} {fd : FuncData} {ks : List (Str × V)} {dvs : List V} (F : FunD K "__init__" "Site.__init__" (defArgs s_Site_init) (defBody s_Site_init) (defScope s_Site_init) dvs ks f fd) (T : Txt K w mg c) (c_need_files : C8.Cal P w K mg base 4 "need_files" (sp_need_files c) []) (c_is_entries : C8.Cal P w K mg base 3 "is_entries" (sp_is_entries c) []) (c_tree_below : C8.Cal P w K mg base 3 "tree_below" (sp_tree_below c) []) : FnOk P w K mg base C8.CX0 5 f fd ["self", "files", "entries", "counts"] (sp_Site_init c) := by
  refine F.ok sc_Site_init (fun vs H Q E h => ?_) (fun cdv A outer s H vs Q E hr h => ?_)
  · obtain ⟨s0, dx0, d, a, S, rfl, hs0, hf, ha, ok, q⟩ := h
    rfl
  · obtain ⟨s0, dx0, d, a, S, rfl, hs0, hf, ha, ok, q⟩ := h
    have hu := hu_of hr
    have hu2 := hu2_of hr
    refine ⟨_, PSs.nox ((pss_cons (ps_expr (C8.pe_c c_need_files hr (by decide) rfl (pa_cons (pv 1) pa_nil)))
      (pss_cons (ps_if (pt_not (pt_val (C8.pe_c c_is_entries hr (by decide) rfl (pa_cons (pv 1) (pa_cons (pv 2) pa_nil))))) (pss_one ps_never) pss_nil)
      (pss_cons (ps_setDcR (i := 4) (own := [("entry", 5)]) rfl sc_Site_init.nd rfl rfl (sw_trueD rfl rfl rfl (by decide +kernel)) (pi_list (pe_callB cr_sortT rfl T.b_sorted (by decide +kernel) (pa_cons (pv 2) pa_nil))) (blkOk_by (own := [("entry", 5)]) (N := n_Site_init) (sc := defScope s_Site_init) (by decide +kernel)) (fun _ _ _ _ _ => (pg_name (i := 5) sc_Site_init.nd rfl (Or.inl rfl))) (fun _ _ _ _ _ => (pv 5)) (fun _ _ _ _ _ => (C8.pe_c c_tree_below hr (by decide) rfl (pa_cons (pv 1) (pa_cons (pv 5) pa_nil)))))
      (pss_cons (ps_lock (ps_for PassesOwn.never rfl (pi_keys (pv 4)) (pg_name (i := 5) sc_Site_init.nd rfl (Or.inl rfl))
        (pss_one (ps_if (pt_cmpR op_isN (pe_dget hu (pv 4) (pv 5) (fun _ _ => rfl)) pe_non (nomark _)) (pss_one ps_never) pss_nil))))
      (pss_cons (ps_if (PW.pt (pw_or (pt_not (pt_val (pe_callB call_isi rfl T.b_isinstance (by decide +kernel) (pa_cons (pv 3) (pa_cons (pe_bltn (v := .ty "str") rfl T.b_str (by decide +kernel) rfl) pa_nil))))) (pw_or1 (pt_cmpR op_notIn_seq (pv 3) (pe_glob (v := .ref c.wc) rfl T.g_WAYS_TO_COUNT rfl) (by rfl))))) (pss_one ps_never) pss_nil)
      (pss_cons (ps_f T.cS T.aS_own_files (pv 0) (pe_dcR (own := [("name", 6)]) rfl sc_Site_init.nd (pi_list (pe_callB (call_sortedD rfl) rfl T.b_sorted (by decide +kernel) (pa_cons (pv 1) pa_nil))) (blkOk_by (own := [("name", 6)]) (N := n_Site_init) (sc := defScope s_Site_init) (by decide +kernel)) (fun _ _ _ _ _ => (pg_name (i := 6) sc_Site_init.nd rfl (Or.inl rfl))) (fun _ _ _ _ _ => (pv 6)) (fun _ _ _ _ _ => (pe_dget hu (pv 1) (pv 6) (fun _ _ => rfl)))))
      (pss_cons (ps_f T.cS T.aS_own_trees (pv 0) (pv 4))
      (pss_one (ps_f T.cS T.aS_own_counts (pv 0) (pv 3))))))))))), ?_⟩
    obtain ⟨kc, hkc⟩ := ok.kc
    have nme : ∀ e ∈ S.es, Nm e := fun e he => ok.g.nm e (ok.pl e he).1
    have h8 := nodup_few nme ok.nd
    have h8n := nodup_few ok.g.nm ok.g.nd
    refine ⟨_, rfl, d, S.ns, S.fd, kc, rfl, hf, ok.g, ok.one, hkc, fun H1 s1 => ?_⟩
    refine ⟨_, rfl, _, rfl, d, a, S.ns, S.fd, S.es, rfl, hf.same s1, ok.g.nm, s1 _ _ ha, ok.nd, ok.ne, ok.pl, fun H2 s2 => ⟨true, rfl, iteF ?_⟩⟩
    have sA := s1.trans s2
    -- the trees
    refine ⟨_, rfl, a, S.es, rfl, SqT.of (sA _ _ ha), by omega, fun ys l hp1 hs1 hl1 => ?_⟩
    obtain rfl : ys = so S.es := so_eq nme ok.nd hp1 hs1
    have sB : Same H (upd H2 l (.lst ((so S.es).map V.str))) := sA.trans (same_new hl1)
    refine ⟨l, rfl, ⟨_, SqL.of upd_same⟩, _, _, _, so S.es, fun D H i y => ∃ p, y = .ref p, walk_list, by simp, so_nd _, fun _ _ h => h, fun H s => s.seq (SqL.of upd_same), yat_same, (by rw [List.length_map, sizeLine_eq]; have := so_len S.es; omega), fun D acc i x z H3 e hD hDa sm y k hk => ?_, fun t H3 gv ht sC hT hgv => ?_⟩
    · obtain ⟨_, ez⟩ := y
      rw [List.getElem?_map, e] at ez
      cases ez
      have he : z ∈ S.es := (so_mem nme z).mp (List.mem_of_getElem? e)
      obtain ⟨S', h1, h2⟩ := ok.tr z he
      exact ⟨rfl, _, rfl, _, rfl, _, rfl, d, z, S.ns, S.fd, S', rfl, hf.same (sB.trans sm), h1, h2, fun H4 p s4 _ _ => hk _ _ s4 ⟨p, rfl⟩⟩
    have sD := sB.trans sC
    -- no tree is None
    refine ⟨t, _, hT, True.intro, fun od => ?_⟩
    have hfrz : ∀ H', Same (upd H3 t (.frz od (.dK ((so S.es).map fun z => (Sum.inr z, gv z))))) H' → H' t = some (.frz od (.dK ((so S.es).map fun z => (Sum.inr z, gv z)))) := fun H' s => s _ _ upd_same
    refine ⟨_, rfl, t, od, rfl, .inl ⟨_, upd_same, forS walk_keys (by show 5 < 7; decide) hfrz (fun _ _ _ _ y => y.1) (fun j x H4 _ s4 y k hk => ?_) fun v1 H4 s4 => ?_⟩⟩
    · obtain ⟨_, kk, vv, e1, rfl⟩ := y
      rw [List.getElem?_map] at e1
      obtain ⟨z, e2, e3⟩ := Option.map_eq_some_iff.mp e1
      cases e3
      have g1 : DGet H4 t (.str z) (some (gv z)) := by
        have : DGet H4 t (kV (Sum.inr z)) (valV ((so S.es).map fun z => (Sum.inr z, gv z)) (Sum.inr z)) := .inl ⟨_, Sum.inr z, .inr ⟨od, hfrz H4 s4⟩, rfl, rfl⟩
        rw [valK_map, if_pos (List.mem_of_getElem? e2)] at this
        exact this
      obtain ⟨p, ep⟩ := hgv _ z e2
      refine ⟨_, rfl, _, rfl, t, _, rfl, g1, rfl, _, rfl, iF (by rw [ep]; exact fun h => nomatch h) (hk _ (Same.refl _))⟩
    refine ⟨hfrz H4 s4, ?_⟩
    have sE : Same H3 (upd H4 t (.dK ((so S.es).map fun z => (Sum.inr z, gv z)))) := fun b o hb => by
      by_cases e : b = t
      · subst e
        rw [hT] at hb
        rw [upd_same]
        exact hb
      · rw [upd_ne e]
        exact s4 b o (by rw [upd_ne e]; exact hb)
    have hT5 := sE _ _ hT
    generalize upd H4 t (.dK ((so S.es).map fun z => (Sum.inr z, gv z))) = H5 at sE hT5
    clear s4 hfrz
    have sF := sD.trans sE
    refine ⟨_, rfl, _, _, _, _, true, rfl, .ty "str", .base (.str _), kit_ty (by decide +kernel), true, rfl, iteF ?_⟩
    refine ⟨_, rfl, c.wc, _, rfl, .inr (T.t_WAYS_TO_COUNT _), rfl, rfl, _, rfl, ?_⟩
    have e0 : inV (.str (cnv S.own)) [.str "own", .str "whole"] = true := by cases S.own <;> decide +kernel
    rw [show (!inV (.str (cnv S.own)) [.str "own", .str "whole"]) = false by rw [e0]; rfl]
    refine iteF ?_
    -- own_files
    obtain ⟨ps, hd, hps⟩ := id (hf.same sF)
    refine ⟨_, rfl, d, _, S.ns, rfl, .inl hd, by rw [List.map_map]; rfl, by omega, fun ys l2 hp2 hs2 hl2 => ?_⟩
    obtain rfl : ys = so S.ns := so_eq ok.g.nm ok.g.nd hp2 hs2
    have sG : Same H (upd H5 l2 (.lst ((so S.ns).map V.str))) := sF.trans (same_new hl2)
    refine ⟨l2, rfl, ⟨_, SqL.of upd_same⟩, _, _, _, so S.ns, fun D H i y => ∃ p, y = .ref p ∧ ∀ z, (so S.ns)[i]? = some z → FileAt c H p (S.fd z), walk_list, by simp, so_nd _, fun {D H H' i y} b hD h => ?_, fun H s => s.seq (SqL.of upd_same), yat_same, (by rw [List.length_map, sizeLine_eq]; have := so_len S.ns; omega), fun D acc i x z H6 e hD hDa sm y k hk => ?_, fun f6 H6 gv6 hf6 sH hF6 hg6 => ?_⟩
    · obtain ⟨p, e, h⟩ := h
      exact ⟨p, e, fun z hz => (h z hz).fr (b.frD hD) (fun _ _ _ => by intro z; cases z) (fun _ _ => by intro z; cases z)⟩
    · obtain ⟨_, ez⟩ := y
      rw [List.getElem?_map, e] at ez
      cases ez
      have hz : z ∈ S.ns := (so_mem ok.g.nm z).mp (List.mem_of_getElem? e)
      obtain ⟨p, g1, f1⟩ := fval (hf.same (sG.trans sm)) hz
      exact ⟨rfl, _, rfl, _, rfl, _, rfl, d, _, rfl, g1, hk _ _ (Same.refl _) ⟨p, rfl, fun z' e' => by rw [e] at e'; cases e'; exact f1⟩⟩
    have sI : Same H H6 := sG.trans sH
    have hs6 := sI _ _ hs0
    have hT6 : H6 t = _ := sH _ _ (same_new hl2 _ _ hT5)
    have hFiles : FilesAt c H6 f6 (so S.ns) S.fd := files_gv hF6 fun z hz => by
      obtain ⟨i, hi, ei⟩ := List.mem_iff_getElem.mp hz
      have e : (so S.ns)[i]? = some z := by rw [List.getElem?_eq_getElem hi, ei]
      obtain ⟨p, e1, h1⟩ := hg6 i z e
      exact ⟨p, e1, h1 z e⟩
    refine ⟨_, rfl, s0, dx0, _, rfl, hs6, by decide, ?_⟩
    refine ⟨_, rfl, _, rfl, s0, dx0, _, rfl, upd_same, by show 1 < 1000; decide, ?_⟩
    refine ⟨_, rfl, _, rfl, s0, dx0, _, rfl, upd_same, by show 2 < 1000; decide, ?_⟩
    have bu : ∀ o1 o2 o3, But s0 H6 (upd (upd (upd H6 s0 o1) s0 o2) s0 o3) := fun o1 o2 o3 b o hb hne => by
      rw [upd_ne hne, upd_ne hne, upd_ne hne]
      exact hb
    refine q _ ⟨dx0, f6, t, by rw [upd_same]; rfl, ?_, gv, ?_⟩ ((But.of sI).trans (bu _ _ _))
    · refine hFiles.fr (P := fun o => o ≠ .ins c.S dx0 []) (fun b o hb hne => bu _ _ _ b o hb fun e => ?_) (fun dx fs => ?_) (fun _ => fun h => nomatch h) (fun _ => fun h => nomatch h)
      · subst e
        rw [hs6] at hb
        exact hne (Option.some.inj hb).symm
      · intro h
        injection h with h1
        exact T.neFS h1
    · exact bu _ _ _ t _ hT6 (ne_of hT6 hs6 (fun h => nomatch h))

end
end Wp

set_option Elab.async false
set_option linter.all false
set_option maxRecDepth 100000
set_option maxHeartbeats 2000000
namespace Wp
open PySem PySem.Spec PyProof.Rows L2
section
variable {P : Program} {w : World} {K : PySem.W.Frag} {mg : Str → Option Value} {base : Heap} {c : CA}

/-- Site.entries -/
theorem w_Site_entries {f : Addr} {fd : FuncData} {ks : List (Str × V)} {dvs : List V} (F : FunD K "entries" "Site.entries" (defArgs s_Site_entries) (defBody s_Site_entries) (defScope s_Site_entries) dvs ks f fd) (T : Txt K w mg c)  : FnOk P w K mg base C8.CX0 1 f fd ["self"] (sp_Site_entries c) := by
  refine F.ok sc_Site_entries (fun vs H Q E h => ?_) (fun cdv A outer s H vs Q E hr h => ?_)
  · obtain ⟨s0, S, rfl, hS, q⟩ := h
    rfl
  · obtain ⟨s0, S, rfl, hS, q⟩ := h
    have hu := hu_of hr
    have hu2 := hu2_of hr
    refine ⟨_, PSs.nox ((pss_one (ps_ret (pe_callTy (cr_tupD rfl) rfl T.b_tuple (by decide +kernel) (pa_cons (pe_f T.cS T.aS_own_trees (pv 0)) pa_nil))))), ?_⟩
    obtain ⟨dx, f0, t0, h1, hf, tv, ht⟩ := id hS

    refine ⟨_, rfl, s0, dx, _, _, rfl, h1, rfl, t0, _, rfl, .inl ht, fun p hp => ?_⟩
    exact q _ p (same_new hp) (by rw [upd_same, List.map_map]; rfl)

/-- Site.counts -/
theorem w_Site_counts {f : Addr} {fd : FuncData} {ks : List (Str × V)} {dvs : List V} (F : FunD K "counts" "Site.counts" (defArgs s_Site_counts) (defBody s_Site_counts) (defScope s_Site_counts) dvs ks f fd) (T : Txt K w mg c)  : FnOk P w K mg base C8.CX0 1 f fd ["self"] (sp_Site_counts c) := by
  refine F.ok sc_Site_counts (fun vs H Q E h => ?_) (fun cdv A outer s H vs Q E hr h => ?_)
  · obtain ⟨s0, S, rfl, hS, q⟩ := h
    rfl
  · obtain ⟨s0, S, rfl, hS, q⟩ := h
    have hu := hu_of hr
    have hu2 := hu2_of hr
    refine ⟨_, PSs.nox ((pss_one (ps_ret (pe_f T.cS T.aS_own_counts (pv 0))))), ?_⟩
    obtain ⟨dx, f0, t0, h1, hf, tv, ht⟩ := id hS

    exact ⟨_, rfl, s0, dx, _, _, rfl, h1, rfl, q⟩

/-- Site.caches -/
theorem w_Site_caches {f : Addr} {fd : FuncData} {ks : List (Str × V)} {dvs : List V} (F : FunD K "caches" "Site.caches" (defArgs s_Site_caches) (defBody s_Site_caches) (defScope s_Site_caches) dvs ks f fd) (T : Txt K w mg c) (p_File_keeps : Prp P w K mg base 1 c.F "keeps" (sp_File_keeps c)) : FnOk P w K mg base C8.CX0 3 f fd ["self"] (sp_Site_caches c) := by
  refine F.ok sc_Site_caches (fun vs H Q E h => ?_) (fun cdv A outer s H vs Q E hr h => ?_)
  · obtain ⟨s0, S, kc, rfl, hS, ok, hkc, q⟩ := h
    rfl
  · obtain ⟨s0, S, kc, rfl, hS, ok, hkc, q⟩ := h
    have hu := hu_of hr
    have hu2 := hu2_of hr
    refine ⟨_, PSs.nox ((pss_one (ps_ret (pe_callB (cr_max rfl) rfl T.b_max (by decide +kernel) (pa_cons (pe_lock (pe_lcP (own := [("file", 1)]) rfl sc_Site_caches.nd (pi_values (pe_f T.cS T.aS_own_files (pv 0))) (blkOk_by (own := [("file", 1)]) (N := n_Site_caches) (sc := defScope s_Site_caches) (by decide +kernel)) (fun _ _ _ _ _ => (pg_name (i := 1) sc_Site_caches.nd rfl (Or.inl rfl))) (fun _ _ _ _ _ => (pe_callB (lenK (K := K) rfl) rfl T.b_len (by decide +kernel) (pa_cons (pe_pr p_File_keeps hr (by decide) (pv 1)) pa_nil))))) pa_nil))))), ?_⟩
    obtain ⟨dx, f0, t0, h1, hf, tv, ht⟩ := id hS

    obtain ⟨ps, hd, hps⟩ := id hf
    refine ⟨f0, _, hd, True.intro, fun od => ?_⟩
    have hne : s0 ≠ f0 := ne_of h1 hd (fun z => nomatch z)
    have hfrz : ∀ H', Same (upd H f0 (.frz od (.dK ((so S.ns).map fun n => (Sum.inr n, V.ref (ps n)))))) H' → H' f0 = some (.frz od (.dK ((so S.ns).map fun n => (Sum.inr n, V.ref (ps n))))) := fun H' s => s _ _ upd_same
    have l8 := so_len S.ns
    refine ⟨_, rfl, s0, dx, _, _, rfl, by rw [upd_ne hne]; exact h1, rfl, f0, od, _, rfl, upd_same, ?_⟩
    refine ⟨_, _, _, List.replicate ((so S.ns).map fun n => ((Sum.inr n : Key), V.ref (ps n))).length (.int kc), walk_values, by simp, hfrz, fun _ _ _ _ y => y.1, (by rw [List.length_map, sizeLine_eq]; omega), fun i x y H2 e sm yy k hk => ?_, fun D H' hD sm hL => ?_⟩
    · obtain ⟨_, kk, e1⟩ := yy
      rw [List.getElem?_map] at e1
      obtain ⟨z, e2, e3⟩ := Option.map_eq_some_iff.mp e1
      cases e3
      obtain rfl : y = .int kc := List.eq_of_mem_replicate (List.mem_of_getElem? e)
      have hz := List.mem_of_getElem? e2
      have f1 : FileAt c H2 (ps z) (S.fd z) := (hps z hz).fr (P := fun o => (∀ kv, o ≠ .dK kv)) (fun b o hb hn => sm b o (by rw [upd_ne (ne_of hb hd (hn _))]; exact hb)) (fun _ _ _ => by intro h; cases h) (fun _ _ => by intro h; cases h)
      obtain ⟨dx1, r1, k1, g1, g2, g3⟩ := id f1
      refine ⟨rfl, _, rfl, ps z, dx1, _, rfl, g1, ps z, S.fd z, rfl, f1, fun k3 hk3 => ⟨k3, _, rfl, .inr (SqT.of hk3), ?_⟩⟩
      rw [List.length_map, hkc z ((so_mem ok.g.nm z).mp hz)]
      exact hk _ (Same.refl _)
    have hDd : D ≠ f0 := fun e => by rw [e, upd_same] at hD; cases hD
    have sH : Same H (upd H' f0 (.dK ((so S.ns).map fun n => (Sum.inr n, V.ref (ps n))))) := fun b o hb => by
      by_cases e : b = f0
      · subst e
        rw [hd] at hb
        rw [upd_same]
        exact hb
      · rw [upd_ne e]
        exact sm b o (by rw [upd_ne e]; exact hb)
    have hln : (so S.ns).length = S.ns.length := (so_perm ok.g.nm ok.g.nd).length_eq
    have h1n := ok.one
    refine ⟨hfrz H' sm, D, List.replicate (so S.ns).length (kc : Int), rfl, SqL.of (by rw [upd_ne hDd, List.map_replicate]; simpa using hL), by rw [List.length_replicate]; omega, fun m hm _ => ?_⟩
    obtain rfl := List.eq_of_mem_replicate hm
    exact q _ sH

/-- Site.__contains__ -/
theorem w_Site_has {f : Addr} {fd : FuncData} {ks : List (Str × V)} {dvs : List V} (F : FunD K "__contains__" "Site.__contains__" (defArgs s_Site_has) (defBody s_Site_has) (defScope s_Site_has) dvs ks f fd) (T : Txt K w mg c)  : FnOk P w K mg base C8.CX0 1 f fd ["self", "name"] (sp_Site_has c) := by
  refine F.ok sc_Site_has (fun vs H Q E h => ?_) (fun cdv A outer s H vs Q E hr h => ?_)
  · obtain ⟨s0, S, z, rfl, hS, hz, q⟩ := h
    rfl
  · obtain ⟨s0, S, z, rfl, hS, hz, q⟩ := h
    have hu := hu_of hr
    have hu2 := hu2_of hr
    refine ⟨_, PSs.nox ((pss_one (ps_ret (pe_and (pe_callB call_isi rfl T.b_isinstance (by decide +kernel) (pa_cons (pv 1) (pa_cons (pe_bltn (v := .ty "str") rfl T.b_str (by decide +kernel) rfl) pa_nil))) (pe_one (pe_cmp (pc_din hu (pv 1) (pe_f T.cS T.aS_own_files (pv 0))) rfl)))))), ?_⟩
    obtain ⟨dx, f0, t0, h1, hf, tv, ht⟩ := id hS

    refine ⟨_, rfl, _, _, _, _, true, rfl, .ty "str", .base (.str _), kit_ty (by decide +kernel), true, rfl, iteT ?_⟩
    obtain ⟨o, g1, g2⟩ := fval_in (z := z) hf
    refine ⟨_, rfl, _, rfl, s0, dx, _, _, rfl, h1, rfl, f0, _, rfl, g1, ?_⟩
    rw [g2, decide_eq_true hz]
    exact q

/-- Site.need_file -/
theorem w_Site_need_file {f : Addr} {fd : FuncData} {ks : List (Str × V)} {dvs : List V} (F : FunD K "need_file" "Site.need_file" (defArgs s_Site_need_file) (defBody s_Site_need_file) (defScope s_Site_need_file) dvs ks f fd) (T : Txt K w mg c) (o_Site_has : Spc P w K mg base 1 c.S "__contains__" (sp_Site_has c)) : FnOk P w K mg base C8.CX0 3 f fd ["self", "name"] (sp_Site_need_file c) := by
  refine F.ok sc_Site_need_file (fun vs H Q E h => ?_) (fun cdv A outer s H vs Q E hr h => ?_)
  · obtain ⟨s0, S, z, rfl, hS, hz, q⟩ := h
    rfl
  · obtain ⟨s0, S, z, rfl, hS, hz, q⟩ := h
    have hu := hu_of hr
    have hu2 := hu2_of hr
    refine ⟨_, PSs.nox ((pss_one (ps_if (pt_cmpR (op_hasnt o_Site_has hr (by decide)) (pv 1) (pv 0) (by rfl)) (pss_one ps_never) pss_nil))), ?_⟩
    obtain ⟨dx, f0, t0, h1, hf, tv, ht⟩ := id hS

    exact ⟨_, rfl, _, rfl, s0, dx, _, rfl, h1, s0, S, z, rfl, hS, hz, true, rfl, _, rfl, iteF q⟩

/-- Site.__getitem__ -/
theorem w_Site_item {f : Addr} {fd : FuncData} {ks : List (Str × V)} {dvs : List V} (F : FunD K "__getitem__" "Site.__getitem__" (defArgs s_Site_item) (defBody s_Site_item) (defScope s_Site_item) dvs ks f fd) (T : Txt K w mg c) (m_Site_need_file : C8.Met P w K mg base 3 c.S "need_file" (sp_Site_need_file c) []) : FnOk P w K mg base C8.CX0 4 f fd ["self", "name"] (sp_Site_item c) := by
  refine F.ok sc_Site_item (fun vs H Q E h => ?_) (fun cdv A outer s H vs Q E hr h => ?_)
  · obtain ⟨s0, S, z, rfl, hS, hz, q⟩ := h
    rfl
  · obtain ⟨s0, S, z, rfl, hS, hz, q⟩ := h
    have hu := hu_of hr
    have hu2 := hu2_of hr
    refine ⟨_, PSs.nox ((pss_cons (ps_expr (C8.pe_mt m_Site_need_file hr (by decide) (pv 0) (pa_cons (pv 1) pa_nil)))
      (pss_one (ps_ret (pe_dget hu (pe_f T.cS T.aS_own_files (pv 0)) (pv 1) (fun _ _ => rfl)))))), ?_⟩
    obtain ⟨dx, f0, t0, h1, hf, tv, ht⟩ := id hS

    obtain ⟨p, g1, f1⟩ := fval hf hz
    exact ⟨_, rfl, s0, dx, _, rfl, h1, rfl, _, rfl, s0, S, z, rfl, hS, hz, _, rfl, s0, dx, _, _, rfl, h1, rfl, _, rfl, f0, _, rfl, g1, q p f1⟩

/-- Site.names -/
theorem w_Site_names {f : Addr} {fd : FuncData} {ks : List (Str × V)} {dvs : List V} (F : FunD K "names" "Site.names" (defArgs s_Site_names) (defBody s_Site_names) (defScope s_Site_names) dvs ks f fd) (T : Txt K w mg c)  : FnOk P w K mg base C8.CX0 1 f fd ["self"] (sp_Site_names c) := by
  refine F.ok sc_Site_names (fun vs H Q E h => ?_) (fun cdv A outer s H vs Q E hr h => ?_)
  · obtain ⟨s0, S, rfl, hS, q⟩ := h
    rfl
  · obtain ⟨s0, S, rfl, hS, q⟩ := h
    have hu := hu_of hr
    have hu2 := hu2_of hr
    refine ⟨_, PSs.nox ((pss_one (ps_ret (pe_callTy (call_listD rfl) rfl T.b_list (by decide +kernel) (pa_cons (pe_f T.cS T.aS_own_files (pv 0)) pa_nil))))), ?_⟩
    obtain ⟨dx, f0, t0, h1, hf, tv, ht⟩ := id hS

    obtain ⟨ps, hd, hps⟩ := id hf
    refine ⟨_, rfl, s0, dx, _, _, rfl, h1, rfl, f0, _, rfl, .inl hd, fun p hp => ?_⟩
    rw [List.map_map]
    exact q p hp

/-- Site.need_names -/
theorem w_Site_need_names {f : Addr} {fd : FuncData} {ks : List (Str × V)} {dvs : List V} (F : FunD K "need_names" "Site.need_names" (defArgs s_Site_need_names) (defBody s_Site_need_names) (defScope s_Site_need_names) dvs ks f fd) (T : Txt K w mg c) (c_is_list : C8.Cal P w K mg base 1 "is_list" (sp_is_list K) []) (o_Site_has : Spc P w K mg base 1 c.S "__contains__" (sp_Site_has c)) : FnOk P w K mg base C8.CX0 3 f fd ["self", "names"] (sp_Site_need_names K c) := by
  refine F.ok sc_Site_need_names (fun vs H Q E h => ?_) (fun cdv A outer s H vs Q E hr h => ?_)
  · obtain ⟨s0, a, S, z, rfl, hS, ha, hz, q⟩ := h
    rfl
  · obtain ⟨s0, a, S, z, rfl, hS, ha, hz, q⟩ := h
    have hu := hu_of hr
    have hu2 := hu2_of hr
    refine ⟨_, PSs.nox ((pss_cons (ps_if (pt_not (pt_val (C8.pe_c c_is_list hr (by decide) rfl (pa_cons (pv 1) pa_nil)))) (pss_one ps_never) pss_nil)
      (pss_one (ps_for PassesOwn.never rfl (pi_enumT rfl T.b_enumerate (pa_cons (pv 1) pa_nil)) (pg_tup rfl (pgs_cons (pg_name (i := 2) sc_Site_need_names.nd rfl (Or.inl rfl)) (pgs_cons (pg_name (i := 3) sc_Site_need_names.nd rfl (Or.inl rfl)) pgs_nil)))
        (pss_one (ps_if (PW.pt (pw_or (pt_cmpR (op_hasnt o_Site_has hr (by decide)) (pv 3) (pv 0) (by rfl)) (pw_or1 (pt_cmpR op_in_seq (pv 3) (pe_slice sl_tupA (pv 1) po_none (po_some (pv 2))) (by rfl))))) (pss_one ps_never) pss_nil)))))), ?_⟩
    obtain ⟨dx, f0, t0, h1, hf, tv, ht⟩ := id hS

    refine ⟨_, rfl, a, _, rfl, .inr (SqT.of ha), fun H1 s1 => ⟨true, rfl, iteF ?_⟩⟩
    have ha1 := s1 _ _ ha
    refine ⟨_, rfl, a, _, rfl, SqT.of ha1, for_it (walk_enumT (xs := [.str z])) (fun i σ H2 => ∃ v w, σ = [some (.ref s0), some (.ref a), v, w] ∧ Same H H2 ∧ SqT K H2 a [.str z]) ⟨_, _, rfl, s1, SqT.of ha1⟩ (fun i σ H2 _ ⟨_, _, _, _, h⟩ => h) ?_ ?_⟩
    · rintro i x σ H2 H3 hi ⟨v, w, rfl, s2, hs2⟩ ⟨Tp, x1, x2, rfl, hT, rfl, e1, e2⟩
      obtain rfl : i = 0 := by
        have : i < 1 := hi
        omega
      cases e1
      cases e2
      have s3 : Same H (upd H2 Tp (.tup [.int ((0 : Nat) : Int), .str z])) := s2.trans (same_new hT)
      have hS3 := hS.same s3
      obtain ⟨dx3, f3, t3, h3, _⟩ := id hS3
      refine ⟨Tp, _, rfl, SqT.of upd_same, rfl, _, _, rfl, _, _, rfl, rfl, ?_⟩
      refine ⟨_, rfl, _, rfl, s0, dx3, _, rfl, h3, s0, S, z, rfl, hS3, hz, true, rfl, _, rfl, iteF ?_⟩
      refine ⟨_, rfl, _, rfl, _, rfl, _, rfl, slA (s3 _ _ ha) fun p H4 s4 h4 => ?_⟩
      have e3 : cutV [V.str z] none (some ((0 : Nat) : Int)) = [] := by rw [cut_to]; rfl
      rw [e3] at h4
      refine ⟨p, [], rfl, .inr (SqT.of h4), rfl, rfl, _, rfl, ?_⟩
      refine iteF ?_
      exact ⟨_, _, rfl, s3.trans s4, SqT.of ((s3.trans s4) _ _ ha)⟩
    · rintro σ H2 ⟨v, w, rfl, s2, _⟩
      exact q _ s2

/-- Site.closure -/
theorem w_Site_closure {f : Addr} {fd : FuncData} {ks : List (Str × V)} {dvs : List V} (F : FunD K "closure" "Site.closure" (defArgs s_Site_closure) (defBody s_Site_closure) (defScope s_Site_closure) dvs ks f fd) (T : Txt K w mg c) (m_Site_need_names : C8.Met P w K mg base 3 c.S "need_names" (sp_Site_need_names K c) []) (p_File_naming : Prp P w K mg base 1 c.F "naming" (sp_File_naming c)) : FnOk P w K mg base C8.CX0 4 f fd ["self", "names"] (sp_Site_closure K c) := by
  refine F.ok sc_Site_closure (fun vs H Q E h => ?_) (fun cdv A outer s H vs Q E hr h => ?_)
  · obtain ⟨s0, a, S, z, rfl, hS, ha, nz, hz, hpl, q⟩ := h
    rfl
  · obtain ⟨s0, a, S, z, rfl, hS, ha, nz, hz, hpl, q⟩ := h
    have hu := hu_of hr
    have hu2 := hu2_of hr
    refine ⟨_, PSs.nox ((pss_cons (ps_expr (C8.pe_mt m_Site_need_names hr (by decide) (pv 0) (pa_cons (pv 1) pa_nil)))
      (pss_cons (ps_par (i := 2) (j := 3) rfl sc_Site_closure.nd rfl rfl (by decide) rfl rfl (pa_cons (pe_dcR (own := [("name", 4)]) rfl sc_Site_closure.nd (pi_tup (pv 1)) (blkOk_by (own := [("name", 4)]) (N := n_Site_closure) (sc := defScope s_Site_closure) (by decide +kernel)) (fun _ _ _ _ _ => (pg_name (i := 4) sc_Site_closure.nd rfl (Or.inl rfl))) (fun _ _ _ _ _ => (pv 4)) (fun _ _ _ _ _ => pe_bl)) (pa_cons (pe_callTy call_list_of rfl T.b_list (by decide +kernel) (pa_cons (pv 1) pa_nil)) pa_nil)) (by rfl))
      (pss_cons (ps_while PassesOwn.never (pt_cmpR (op_neD hr.units) (pv 3) (pe_lst pa_nil) (nomark _))
        (pss_cons (ps_set (i := 5) sc_Site_closure.nd rfl (Or.inl rfl) (pe_bm0 PySem.F.plainAttrs_list PySem.F.slot_list_pop PySem.F.type_list_pop mt_pop (pv 3)))
        (pss_one (ps_if (pt_cmpR op_eq (pe_pr p_File_naming hr (by decide) (pe_dget hu (pe_f T.cS T.aS_own_files (pv 0)) (pv 5) (fun _ _ => rfl))) pe_str (nomark _)) (pss_one ps_never) pss_nil))))
      (pss_one (ps_ret (pe_callTy call_tuple_of rfl T.b_tuple (by decide +kernel) (pa_cons (pe_callB (call_sortedD rfl) rfl T.b_sorted (by decide +kernel) (pa_cons (pv 2) pa_nil)) pa_nil)))))))), ?_⟩
    obtain ⟨dx, f0, t0, h1, hf, tv, ht⟩ := id hS

    refine ⟨_, rfl, s0, dx, _, rfl, h1, rfl, _, rfl, s0, a, S, z, rfl, hS, ha, hz, fun H1 s1 => ?_⟩
    have ha1 := s1 _ _ ha
    refine ⟨_, rfl, a, rfl, ⟨_, SqT.of ha1⟩, _, _, _, [z], fun D H i y => y = .bl true, walk_tup (xs := [.str z]), rfl, by simp, fun _ _ h => h, fun H s => Wp.Same.seqT s (SqT.of ha1), yat_same, (by show 1 < sizeLine; decide), fun D acc i x z1 H3 e hD hDa sm y k hk => ?_, fun p H2 gv hp s2 hP hgv => ?_⟩
    · obtain ⟨_, ez⟩ := y
      obtain rfl : i = 0 := by
        have := (List.getElem?_eq_some_iff.mp e).1
        simp at this
        exact this
      cases e
      cases ez
      exact ⟨rfl, _, rfl, hk _ _ (Same.refl _) rfl⟩
    have sA := s1.trans s2
    refine ⟨_, rfl, a, _, rfl, .inr (SqT.of (sA _ _ ha)), fun l hl => ⟨_, _, rfl, ?_⟩⟩
    have hpl2 : p ≠ l := ne_of_none hP hl
    have hl0 : H l = none := sA.free hl
    have hgz : gv z = .bl true := hgv 0 z rfl
    refine ⟨fun m σ H3 => ∃ (li : List Str) (v w u : Option V), σ = [some (.ref s0), some (.ref a), some (.ref p), some (.ref l), v, w, u] ∧ Same H H3 ∧ H3 p = some (.dK [(Sum.inr z, .bl true)]) ∧ H3 l = some (.lst (li.map V.str)) ∧ (li = [z] ∨ li = []) ∧ m = li.length,
      ⟨_, [z], none, none, none, rfl, sA.trans (same_new hl), by rw [upd_ne hpl2, hP]; show some (HO.dK [(Sum.inr z, gv z)]) = _; rw [hgz], upd_same, .inl rfl, rfl⟩, ?_⟩
    rintro m σ H3 ⟨li, v, w, u, rfl, s3, k1, k2, hli, rfl⟩
    have nm : ∀ y ∈ li, Nm y := by
      intro y hy
      rcases hli with rfl | rfl
      · rw [List.mem_singleton.mp hy]
        exact nz
      · cases hy
    refine ⟨_, rfl, (by show 0 ≤ sizeLine; decide), fun e he => rNe_nil (SqL.of (by rw [upd_ne (ne_of_none k2 he)]; exact k2)) upd_same nm ⟨_, rfl, ?_⟩⟩
    have s4 : Same H (upd H3 e (.lst [])) := s3.trans (same_new he)
    have k1' : (upd H3 e (.lst [])) p = _ := (upd_ne (ne_of_none k1 he)).trans k1
    have k2' : (upd H3 e (.lst [])) l = _ := (upd_ne (ne_of_none k2 he)).trans k2
    rcases hli with rfl | rfl
    · refine iteT ?_
      refine ⟨fun σ' H' => ∃ m', m' < 1 ∧ ∃ (li : List Str) (v w u : Option V), σ' = [some (.ref s0), some (.ref a), some (.ref p), some (.ref l), v, w, u] ∧ Same H H' ∧ H' p = some (.dK [(Sum.inr z, .bl true)]) ∧ H' l = some (.lst (li.map V.str)) ∧ (li = [z] ∨ li = []) ∧ m' = li.length, fun σ' H' z => z, ?_⟩
      refine ⟨_, rfl, .inl ⟨rfl, _, SqL.of k2'⟩, l, _, .str z, rfl, rfl, k2', rfl, ?_⟩
      have sm : Same H (upd (upd H3 e (.lst [])) l (.lst (([z].map V.str).dropLast))) := fun b o hb => by rw [upd_ne (ne_of_none hb hl0)]; exact s4 b o hb
      have hS5 := hS.same sm
      obtain ⟨dx5, f5, t5, h5, hf5, _⟩ := id hS5
      obtain ⟨pz, g1, f1⟩ := fval hf5 hz
      obtain ⟨dz, rz, kz, fz, _⟩ := id f1
      refine ⟨_, rfl, s0, dx5, _, _, rfl, h5, rfl, _, rfl, f5, _, rfl, g1, pz, dz, _, rfl, fz, pz, S.fd z, rfl, f1, rfl, _, rfl, iF ?_ ?_⟩
      · rw [hpl]
        exact fun h => absurd h (by decide +kernel)
      · exact ⟨0, Nat.one_pos, [], _, _, _, rfl, sm, by rw [upd_ne hpl2]; exact k1', upd_same, .inr rfl, rfl⟩
    · refine iteF ?_
      refine ⟨_, rfl, p, _, [z], rfl, .inl k1', rfl, (by show 1 < 64; decide), fun ys t hp1 _ ht2 => ?_⟩
      obtain rfl := List.perm_singleton.mp hp1
      exact ⟨t, _, rfl, .inl ⟨SqL.of upd_same, fun tt htt => q _ tt (s4.trans ((same_new ht2).trans (same_new htt))) upd_same⟩⟩

end
end Wp

set_option Elab.async false
set_option linter.all false
set_option maxRecDepth 100000
set_option maxHeartbeats 2000000
namespace Wp
open PySem PySem.Spec PyProof.Rows L2
section
variable {P : Program} {w : World} {K : PySem.W.Frag} {mg : Str → Option Value} {base : Heap} {c : CA}

/-- is_some_files -/
theorem w_is_some_files {f : Addr} {fd : FuncData} {ks : List (Str × V)} {dvs : List V} (F : FunD K "is_some_files" "is_some_files" (defArgs s_is_some_files) (defBody s_is_some_files) (defScope s_is_some_files) dvs ks f fd) (T : Txt K w mg c) (o_Site_has : Spc P w K mg base 1 c.S "__contains__" (sp_Site_has c)) (c_is_list : C8.Cal P w K mg base 1 "is_list" (sp_is_list K) []) : FnOk P w K mg base C8.CX0 3 f fd ["site", "value"] (sp_is_some_files K c) := by
  refine F.ok sc_is_some_files (fun vs H Q E h => ?_) (fun cdv A outer s H vs Q E hr h => ?_)
  · obtain ⟨s0, a, S, zs, rfl, hS, hq, ne, nd, hz, q⟩ := h
    rfl
  · obtain ⟨s0, a, S, zs, rfl, hS, hq, ne, nd, hz, q⟩ := h
    have hu := hu_of hr
    have hu2 := hu2_of hr
    refine ⟨_, PSs.nox ((pss_cons (ps_if (PW.pt (pw_or (pt_not (pt_val (C8.pe_c c_is_list hr (by decide) rfl (pa_cons (pv 1) pa_nil)))) (pw_or (pt_cmpR op_eq (pe_callB call_len_seq rfl T.b_len (by decide +kernel) (pa_cons (pv 1) pa_nil)) pe_int (nomark _)) (pw_or1 (pt_not (pt_val (pe_callB (cr_all rfl) rfl T.b_all (by decide +kernel) (pa_cons (pe_lcP (own := [("name", 2)]) rfl sc_is_some_files.nd (pi_or (pi_list (pv 1)) (pi_tup (pv 1))) (blkOk_by (own := [("name", 2)]) (N := n_is_some_files) (sc := defScope s_is_some_files) (by decide +kernel)) (fun _ _ _ _ _ => (pg_name (i := 2) sc_is_some_files.nd rfl (Or.inl rfl))) (fun _ _ _ _ _ => (pe_cmpR (op_has o_Site_has hr (by decide)) (pv 2) (pv 0) (by rfl)))) pa_nil)))))))) (pss_one (ps_ret pe_bl)) pss_nil)
      (pss_one (ps_ret (pe_cmpR op_eq (pe_callB cr_lenSS rfl T.b_len (by decide +kernel) (pa_cons (pe_callTy (cr_setS rfl) rfl T.b_set (by decide +kernel) (pa_cons (pv 1) pa_nil)) pa_nil)) (pe_callB call_len_seq rfl T.b_len (by decide +kernel) (pa_cons (pv 1) pa_nil)) (nomark _)))))), ?_⟩
    have nm : ∀ z ∈ zs, Nm z := fun z h => so_nm z (hz z h)
    have hfew := nodup_few nm nd
    have hn : (zs.map V.str).length < sizeLine := by rw [List.length_map, sizeLine_eq]; omega
    refine ⟨_, rfl, a, _, rfl, hq, fun H1 s1 => ⟨true, rfl, iteF ?_⟩⟩
    have hq1 := hq.same s1
    have hne : ¬ V.int ((zs.map V.str).length : Nat) = V.int 0 := by
      rw [List.length_map]
      intro h
      injection h with h
      exact ne (List.length_eq_zero_iff.mp (by omega))
    refine ⟨_, rfl, a, _, rfl, hq1, rfl, _, rfl, iF hne ?_⟩
    have rest : ∀ H', Same H1 H' → tRet (tOp rEq (tCB (rLenSS P w) (tCons (tCB (rSetS K P w) (tCons (tVar 1) tNil)) tNil)) (tCB (fun xs H Q => ∃ p ys, xs = [.ref p] ∧ (SqL K H p ys ∨ SqT K H p ys) ∧ Q (.int ys.length) H) (tCons (tVar 1) tNil))) { nx := fun _ H' => Q .non H', rt := Q } (L2.start n_is_some_files [.ref s0, .ref a]) H' := by
      intro H' s2
      have hS2 := hq1.same s2
      refine ⟨_, rfl, a, zs, rfl, hS2, by omega, fun p hp => ?_⟩
      exact ⟨p, _, rfl, upd_same, _, rfl, a, _, rfl, hS2.same (same_new hp), rfl, qT (by rw [metS_0 nd, List.length_map]) (q _ (Same.trans s1 (Same.trans s2 (same_new hp))))⟩
    rcases hq1 with hL | hT
    · refine .inl ⟨_, rfl, a, rfl, ⟨_, hL⟩, _, _, _, List.replicate (zs.map V.str).length (.bl true), walk_list, by simp, fun H s => Same.seq s hL, yat_same, hn, fun i x y H2 e sm yy k hk => ?_, fun D H' hD sm hL => ?_⟩
      · obtain ⟨_, ez⟩ := yy
        rw [List.getElem?_map] at ez
        obtain ⟨z, e1, rfl⟩ := Option.map_eq_some_iff.mp ez
        obtain rfl : y = .bl true := List.eq_of_mem_replicate (List.mem_of_getElem? e)
        have hS3 := hS.same (s1.trans sm)
        obtain ⟨dx3, f3, t3, h3, _⟩ := id hS3
        exact ⟨rfl, _, rfl, _, rfl, s0, dx3, _, rfl, h3, s0, S, z, rfl, hS3, hz z (List.mem_of_getElem? e1), true, rfl, hk _ (Same.refl _)⟩
      · refine ⟨D, List.replicate zs.length true, rfl, SqL.of (by rw [List.map_replicate]; simpa using hL), _, rfl, ?_⟩
        rw [all_true]
        exact iteF (rest H' sm)
    · refine .inr ⟨_, rfl, a, rfl, ⟨_, hT⟩, _, _, _, List.replicate (zs.map V.str).length (.bl true), walk_tup, by simp, fun H s => Wp.Same.seqT s hT, yat_same, hn, fun i x y H2 e sm yy k hk => ?_, fun D H' hD sm hL => ?_⟩
      · obtain ⟨_, ez⟩ := yy
        rw [List.getElem?_map] at ez
        obtain ⟨z, e1, rfl⟩ := Option.map_eq_some_iff.mp ez
        obtain rfl : y = .bl true := List.eq_of_mem_replicate (List.mem_of_getElem? e)
        have hS3 := hS.same (s1.trans sm)
        obtain ⟨dx3, f3, t3, h3, _⟩ := id hS3
        exact ⟨rfl, _, rfl, _, rfl, s0, dx3, _, rfl, h3, s0, S, z, rfl, hS3, hz z (List.mem_of_getElem? e1), true, rfl, hk _ (Same.refl _)⟩
      · refine ⟨D, List.replicate zs.length true, rfl, SqL.of (by rw [List.map_replicate]; simpa using hL), _, rfl, ?_⟩
        rw [all_true]
        exact iteF (rest H' sm)

/-- made_kinds -/
theorem w_made_kinds {f : Addr} {fd : FuncData} {ks : List (Str × V)} {dvs : List V} (F : FunD K "made_kinds" "made_kinds" (defArgs s_made_kinds) (defBody s_made_kinds) (defScope s_made_kinds) dvs ks f fd) (T : Txt K w mg c) (c_is_list : C8.Cal P w K mg base 1 "is_list" (sp_is_list K) []) (c_is_some_files : C8.Cal P w K mg base 3 "is_some_files" (sp_is_some_files K c) []) : FnOk P w K mg base C8.CX0 4 f fd ["site", "kinds"] (sp_made_kinds c) := by
  refine F.ok sc_made_kinds (fun vs H Q E h => ?_) (fun cdv A outer s H vs Q E hr h => ?_)
  · obtain ⟨s0, a, b, S, x, rfl, hS, ha, hb, hx, q⟩ := h
    rfl
  · obtain ⟨s0, a, b, S, x, rfl, hS, ha, hb, hx, q⟩ := h
    have hu := hu_of hr
    have hu2 := hu2_of hr
    refine ⟨_, PSs.nox ((pss_cons (ps_if (PW.pt (pw_or (pt_not (pt_val (C8.pe_c c_is_list hr (by decide) rfl (pa_cons (pv 1) pa_nil)))) (pw_or1 (pt_not (pt_chain op_le op_le pe_int (pe_callB call_len_seq rfl T.b_len (by decide +kernel) (pa_cons (pv 1) pa_nil)) (pe_gi rfl T.g_MOST_KINDS)))))) (pss_one ps_never) pss_nil)
      (pss_cons (ps_for PassesOwn.never rfl (pi_enum rfl T.b_enumerate (pa_cons (pv 1) pa_nil)) (pg_tup rfl (pgs_cons (pg_name (i := 2) sc_made_kinds.nd rfl (Or.inl rfl)) (pgs_cons (pg_name (i := 3) sc_made_kinds.nd rfl (Or.inl rfl)) pgs_nil)))
        (pss_one (ps_if (pt_not (pt_val (C8.pe_c c_is_some_files hr (by decide) rfl (pa_cons (pv 0) (pa_cons (pv 3) pa_nil))))) (pss_one ps_never) pss_nil)))
      (pss_one (ps_ret (pe_callTy call_tuple_of rfl T.b_tuple (by decide +kernel) (pa_cons (pe_lcR (own := [("kind", 3)]) rfl sc_made_kinds.nd (pi_list (pv 1)) (blkOk_by (own := [("kind", 3)]) (N := n_made_kinds) (sc := defScope s_made_kinds) (by decide +kernel)) (fun _ _ _ _ _ => (pg_name (i := 3) sc_made_kinds.nd rfl (Or.inl rfl))) (fun _ _ _ _ _ => (pe_callTy (tupOfK (K := K) rfl) rfl T.b_tuple (by decide +kernel) (pa_cons (pe_callB (sortSK (K := K) rfl) rfl T.b_sorted (by decide +kernel) (pa_cons (pv 3) pa_nil)) pa_nil)))) pa_nil))))))), ?_⟩
    have nx := so_nm x hx
    refine ⟨_, rfl, a, _, rfl, .inl (SqL.of ha), fun H1 s1 => ⟨true, rfl, iteF ?_⟩⟩
    refine ⟨_, rfl, a, _, rfl, .inl (SqL.of (s1 _ _ ha)), _, _, rfl, rfl, _, rfl, ?_⟩
    refine ite2 (fun _ => ?_) (fun h => absurd (show decide ((1 : Int) ≤ ((1 : Nat) : Int)) = true by decide) h)
    refine ⟨_, _, rfl, rfl, _, rfl, iteF ?_⟩
    refine ⟨_, rfl, a, _, rfl, SqL.of (s1 _ _ ha), for_it (walk_enum (xs := [.ref b])) (fun i σ H2 => ∃ v w, σ = [some (.ref s0), some (.ref a), v, w] ∧ Same H H2) ⟨_, _, rfl, s1⟩ (fun i σ H2 _ ⟨_, _, _, s⟩ => SqL.of (s _ _ ha)) ?_ ?_⟩
    · rintro i y σ H2 H3 hi ⟨v, w, rfl, s2⟩ ⟨Tp, x1, x2, rfl, hT, rfl, e1, e2⟩
      obtain rfl : i = 0 := by
        have : i < 1 := hi
        omega
      cases e1
      cases e2
      have s3 : Same H (upd H2 Tp (.tup [.int ((0 : Nat) : Int), .ref b])) := s2.trans (same_new hT)
      refine ⟨Tp, _, rfl, SqT.of upd_same, rfl, _, _, rfl, _, _, rfl, rfl, ?_⟩
      exact ⟨_, rfl, _, rfl, s0, b, S, [x], rfl, hS.same s3, .inl (SqL.of (s3 _ _ hb)), by simp, by simp, by simpa using hx, fun H4 s4 => ⟨true, rfl, iteF ⟨_, _, rfl, s3.trans s4⟩⟩⟩
    rintro σ H2 ⟨v, w, rfl, s2⟩
    have ha2 := s2 _ _ ha
    refine ⟨_, rfl, a, rfl, ⟨_, SqL.of ha2⟩, 1, _, _, fun D H i y => ∃ t, y = .ref t ∧ H t = some (.tup [.str x]), walk_list (xs := [.ref b]), fun {D H H' i y} bb hD h => ?_, fun H s => s.seq (SqL.of ha2), yat_same, (by decide), fun D acc i y H3 hi hD hDa sm yy k hk => ?_, fun D H3 ys hD s3 h3 hl hR => ?_⟩
    · obtain ⟨t, e, h⟩ := h
      exact ⟨t, e, bb.frL hD _ _ h (fun _ => by intro z; cases z)⟩
    · obtain ⟨_, ez⟩ := yy
      obtain rfl : i = 0 := by omega
      cases ez
      have hb3 := sm _ _ (s2 _ _ hb)
      refine ⟨rfl, _, rfl, b, [x], rfl, SqL.of hb3, (by show 1 < 64; decide), fun zs l hp _ hl => ?_⟩
      obtain rfl := List.perm_singleton.mp hp
      exact ⟨l, _, rfl, .inl ⟨SqL.of upd_same, fun t ht => hk _ _ ((same_new hl).trans (same_new ht)) ⟨t, rfl, upd_same⟩⟩⟩
    match ys, hl with
    | [y], _ =>
      obtain ⟨t, rfl, ht⟩ := hR 0 y rfl
      exact ⟨D, _, rfl, .inl ⟨SqL.of h3, fun p hp => q _ p t (s2.trans (s3.trans (same_new hp))) upd_same (same_new hp _ _ ht)⟩⟩

/-- made_steps -/
theorem w_made_steps {f : Addr} {fd : FuncData} {ks : List (Str × V)} {dvs : List V} (F : FunD K "made_steps" "made_steps" (defArgs s_made_steps) (defBody s_made_steps) (defScope s_made_steps) dvs ks f fd) (T : Txt K w mg c) (c_is_some_files : C8.Cal P w K mg base 3 "is_some_files" (sp_is_some_files K c) []) (c_is_list : C8.Cal P w K mg base 1 "is_list" (sp_is_list K) []) (m_Site_names : C8.Met P w K mg base 1 c.S "names" (sp_Site_names c) []) : FnOk P w K mg base C8.CX0 4 f fd ["site", "steps"] (sp_made_steps c) := by
  refine F.ok sc_made_steps (fun vs H Q E h => ?_) (fun cdv A outer s H vs Q E hr h => ?_)
  · obtain ⟨s0, a, S, ps, rfl, hS, hne, ha, hl, hps, q⟩ := h
    rfl
  · obtain ⟨s0, a, S, ps, rfl, hS, hne, ha, hl, hps, q⟩ := h
    have hu := hu_of hr
    have hu2 := hu2_of hr
    refine ⟨_, PSs.nox ((pss_cons (ps_if (PW.pt (pw_or (pt_not (pt_val (C8.pe_c c_is_list hr (by decide) rfl (pa_cons (pv 1) pa_nil)))) (pw_or1 (pt_not (pt_val (pe_callB (cr_all rfl) rfl T.b_all (by decide +kernel) (pa_cons (pe_lcP (own := [("step", 2)]) rfl sc_made_steps.nd (pi_list (pv 1)) (blkOk_by (own := [("step", 2)]) (N := n_made_steps) (sc := defScope s_made_steps) (by decide +kernel)) (fun _ _ _ _ _ => (pg_name (i := 2) sc_made_steps.nd rfl (Or.inl rfl))) (fun _ _ _ _ _ => (C8.pe_c c_is_some_files hr (by decide) rfl (pa_cons (pv 0) (pa_cons (pv 2) pa_nil))))) pa_nil))))))) (pss_one ps_never) pss_nil)
      (pss_cons (ps_if (pt_cmpR (op_neD hr.units) (pe_callB cr_sortedS rfl T.b_sorted (by decide +kernel) (pa_cons (pe_lc2 (own := [("step", 2), ("name", 3)]) (vs1 := [3]) rfl sc_made_steps.nd (pi_list (pv 1)) (blkOk_by (own := [("step", 2), ("name", 3)]) (N := n_made_steps) (sc := defScope s_made_steps) (by decide +kernel)) (by decide) (fun _ _ _ _ _ => (pg_name (i := 2) sc_made_steps.nd rfl (Or.inl rfl))) (fun _ _ _ _ _ => pts_nil) (fun _ _ _ _ _ => (piListK (K := K) rfl (pv 2))) (fun _ _ _ _ _ => (pg_name (i := 3) sc_made_steps.nd rfl (Or.inl rfl))) (fun _ _ _ _ _ => pts_nil) (fun _ _ _ _ _ => (pv 3))) pa_nil)) (C8.pe_mt0 m_Site_names hr (by decide) (pv 0)) (nomark _)) (pss_one ps_never) pss_nil)
      (pss_one (ps_ret (pe_callTy call_tuple_of rfl T.b_tuple (by decide +kernel) (pa_cons (pe_lcR (own := [("step", 2)]) rfl sc_made_steps.nd (pi_list (pv 1)) (blkOk_by (own := [("step", 2)]) (N := n_made_steps) (sc := defScope s_made_steps) (by decide +kernel)) (fun _ _ _ _ _ => (pg_name (i := 2) sc_made_steps.nd rfl (Or.inl rfl))) (fun _ _ _ _ _ => (pe_callTy (tupOfK (K := K) rfl) rfl T.b_tuple (by decide +kernel) (pa_cons (pe_callB (sortSK (K := K) rfl) rfl T.b_sorted (by decide +kernel) (pa_cons (pv 2) pa_nil)) pa_nil)))) pa_nil))))))), ?_⟩
    have l8 := so_len S.ns
    have nd := so_nd S.ns
    have hat : ∀ (i : Nat) (y : V) H3, Same H H3 → (ps.map V.ref)[i]? = some y → ∃ p z, y = .ref p ∧ (so S.ns)[i]? = some z ∧ H3 p = some (.lst [.str z]) := by
      intro i y H3 s3 e
      rw [List.getElem?_map] at e
      obtain ⟨p, e1, rfl⟩ := Option.map_eq_some_iff.mp e
      have hi := (List.getElem?_eq_some_iff.mp e1).1
      have e2 : (so S.ns)[i]? = some (so S.ns)[i] := List.getElem?_eq_getElem (by omega)
      exact ⟨p, _, rfl, e2, s3 _ _ (hps i p _ e1 e2)⟩
    have hn : (ps.map V.ref).length < sizeLine := by rw [List.length_map, sizeLine_eq]; omega
    refine ⟨_, rfl, a, _, rfl, .inl (SqL.of ha), fun H1 s1 => ⟨true, rfl, iteF ?_⟩⟩
    have ha1 := s1 _ _ ha
    refine ⟨_, rfl, a, rfl, ⟨_, SqL.of ha1⟩, _, _, _, List.replicate (ps.map V.ref).length (.bl true), walk_list, by simp, fun H s => s.seq (SqL.of ha1), yat_same, hn, fun i x y H2 e sm yy k hk => ?_, fun D H2 hD sm hL => ?_⟩
    · obtain ⟨_, ez⟩ := yy
      obtain ⟨p, z, rfl, e2, h2⟩ := hat i x H2 (s1.trans sm) ez
      obtain rfl : y = .bl true := List.eq_of_mem_replicate (List.mem_of_getElem? e)
      exact ⟨rfl, _, rfl, _, rfl, s0, p, S, [z], rfl, hS.same (s1.trans sm), .inl (SqL.of h2), by simp, by simp, by simpa using List.mem_of_getElem? e2, fun H4 s4 => hk _ s4⟩
    refine ⟨D, List.replicate ps.length true, rfl, SqL.of (by rw [List.map_replicate]; simpa using hL), _, rfl, ?_⟩
    rw [all_true]
    refine iteF ?_
    have s2 := s1.trans sm
    clear hL hD
    have ha2 := s2 _ _ ha
    -- the names of all steps
    refine ⟨_, rfl, a, rfl, ⟨_, SqL.of ha2⟩, fun D hD => ?_⟩
    refine ⟨fun i m H3 => m = (so S.ns).length - i ∧ i ≤ (so S.ns).length ∧ Same H2 H3 ∧ H3 D = some (.lst (((so S.ns).take i).map V.str)), ⟨_, rfl, Nat.zero_le _, same_new hD, by rw [upd_same]; rfl⟩, ?_⟩
    rintro i m H3 ⟨rfl, hi, s3, hD3⟩
    have hS23 := s2.trans s3
    have ha3 := hS23 _ _ ha
    by_cases hlt : i < (so S.ns).length
    · refine .inr ⟨⟨_, .ref ps[i], SqL.of ha3, by rw [List.getElem?_map, List.getElem?_eq_getElem (by omega)]; rfl⟩, fun H' => i + 1 ≤ (so S.ns).length ∧ Same H2 H' ∧ H' D = some (.lst (((so S.ns).take (i + 1)).map V.str)), fun H' p => ⟨(so S.ns).length - (i + 1), by omega, rfl, p⟩, fun x H4 yy => ?_⟩
      obtain ⟨rfl, hy⟩ := yy
      obtain ⟨p, z, rfl, e2, h2⟩ := hat i x H4 hS23 (hy _ (SqL.of ha3))
      refine ⟨rfl, _, rfl, p, rfl, ⟨_, SqL.of h2⟩, fun j k H5 => (j = 0 ∧ k = 1 ∧ H5 = H4) ∨ (j = 1 ∧ k = 0 ∧ Same H2 H5 ∧ H5 D = some (.lst (((so S.ns).take (i + 1)).map V.str)) ∧ SqL K H5 p [.str z]), ⟨1, .inl ⟨rfl, rfl, rfl⟩⟩, ?_⟩
      rintro j k H5 (⟨rfl, rfl, rfl⟩ | ⟨rfl, rfl, s5, h5, q5⟩)
      · refine .inr ⟨⟨_, .str z, SqL.of h2, rfl⟩, fun H' => Same H2 H' ∧ H' D = some (.lst (((so S.ns).take (i + 1)).map V.str)) ∧ SqL K H' p [.str z], fun H' p' => ⟨0, Nat.one_pos, .inr ⟨rfl, rfl, p'⟩⟩, fun y H6 yy => ?_⟩
        obtain ⟨rfl, hy2⟩ := yy
        have ey := hy2 _ (SqL.of h2)
        cases ey
        have hpD : p ≠ D := fun e => by
          have h0 := s2 _ _ (hps i p z (by
            have := hy _ (SqL.of ha3)
            rw [List.getElem?_map] at this
            obtain ⟨p', e1, e3⟩ := Option.map_eq_some_iff.mp this
            cases e3
            exact e1) e2)
          rw [e, hD] at h0
          cases h0
        refine ⟨rfl, _, rfl, _, hD3, by rw [List.length_map, List.length_take, sizeLine_eq]; omega, fun b o hb => ?_, ?_, ?_⟩
        · rw [upd_ne (ne_of_none hb hD)]
          exact s3 b o hb
        · rw [upd_same, List.take_add_one, e2]
          simp
        · exact SqL.of (by rw [upd_ne hpD]; exact h2)
      · exact .inl ⟨⟨_, q5, Nat.le_refl _⟩, hlt, s5, h5⟩
    obtain rfl : i = (so S.ns).length := by omega
    rw [List.take_length] at hD3
    refine .inl ⟨⟨_, SqL.of ha3, by rw [List.length_map]; omega⟩, D, so S.ns, rfl, SqL.of hD3, by omega, fun ys l hp hs hl1 => ?_⟩
    obtain rfl : ys = so S.ns := (so_eq so_nm nd hp hs).trans (so_so _)
    have s4 : Same H (upd H3 l (.lst ((so S.ns).map V.str))) := hS23.trans (same_new hl1)
    have hS4 := hS.same s4
    obtain ⟨dx4, f4, t4, h4, _⟩ := id hS4
    refine ⟨_, rfl, s0, dx4, _, rfl, h4, rfl, s0, S, rfl, hS4, fun r hr4 => ?_⟩
    have hl5 : (upd (upd H3 l (.lst ((so S.ns).map V.str))) r (.lst ((so S.ns).map V.str))) l = some (.lst ((so S.ns).map V.str)) := same_new hr4 _ _ upd_same
    refine ⟨.list ((so S.ns).map PyData.str), .list ((so S.ns).map PyData.str), .lst (SqL.of hl5) (dp_strs _), .lst (SqL.of upd_same) (dp_strs _), shaped_strs so_nm, shaped_strs so_nm, _, rfl, ?_⟩
    rw [SeqAt.eqv_refl _ (SeqAt.canLay_of_shaped (shaped_strs so_nm))]
    refine iteF ?_
    have s5 := s4.trans (same_new (o := .lst ((so S.ns).map V.str)) hr4)
    generalize upd (upd H3 l (.lst ((so S.ns).map V.str))) r (.lst ((so S.ns).map V.str)) = H6 at s5
    have ha6 := s5 _ _ ha
    refine ⟨_, rfl, a, rfl, ⟨_, SqL.of ha6⟩, _, _, _, fun D H i y => ∀ z, (so S.ns)[i]? = some z → ∃ t, y = .ref t ∧ H t = some (.tup [.str z]), walk_list, fun {D H H' i y} bb hD h => ?_, fun H s => s.seq (SqL.of ha6), yat_same, hn, fun D acc i y H7 hi hD hDa sm yy k hk => ?_, fun D H7 ys hD s7 h7 hl7 hR => ?_⟩
    · intro z hz
      obtain ⟨t, e, h⟩ := h z hz
      exact ⟨t, e, bb.frL hD _ _ h (fun _ => by intro z; cases z)⟩
    · obtain ⟨_, ez⟩ := yy
      obtain ⟨p, z, rfl, e2, h2⟩ := hat i y H7 (s5.trans sm) ez
      refine ⟨rfl, _, rfl, p, [z], rfl, SqL.of h2, (by show 1 < 64; decide), fun zs l hp _ hl => ?_⟩
      obtain rfl := List.perm_singleton.mp hp
      exact ⟨l, _, rfl, .inl ⟨SqL.of upd_same, fun t ht => hk _ _ ((same_new hl).trans (same_new ht)) fun z' hz' => by rw [e2] at hz'; cases hz'; exact ⟨t, rfl, upd_same⟩⟩⟩
    refine ⟨D, _, rfl, .inl ⟨SqL.of h7, fun p hp => q _ p ys (s5.trans (s7.trans (same_new hp))) upd_same (by rw [hl7, List.length_map]; exact hl) fun i y z e1 e2 => ?_⟩⟩
    obtain ⟨t, e, h⟩ := hR i y e1 z e2
    exact ⟨t, e, same_new hp _ _ h⟩

end
end Wp

set_option Elab.async false
set_option linter.all false
set_option maxRecDepth 100000
set_option maxHeartbeats 2000000
namespace Wp
open PySem PySem.Spec PyProof.Rows L2
section
variable {P : Program} {w : World} {K : PySem.W.Frag} {mg : Str → Option Value} {base : Heap} {c : CA}

/-- Editions.__init__ -/
theorem w_Editions_init {f : Addr} {fd : FuncData} {ks : List (Str × V)} {dvs : List V} (F : FunD K "__init__" "Editions.__init__" (defArgs s_Editions_init) (defBody s_Editions_init) (defScope s_Editions_init) dvs ks f fd) (T : Txt K w mg c) (c_is_list : C8.Cal P w K mg base 1 "is_list" (sp_is_list K) []) (c_is_some_files : C8.Cal P w K mg base 3 "is_some_files" (sp_is_some_files K c) []) (m_Site_closure : C8.Met P w K mg base 4 c.S "closure" (sp_Site_closure K c) []) (m_Site_names : C8.Met P w K mg base 1 c.S "names" (sp_Site_names c) []) : FnOk P w K mg base C8.CX0 5 f fd ["self", "site", "changes"] (sp_Ed_init K c) := by
  refine F.ok sc_Editions_init (fun vs H Q E h => ?_) (fun cdv A outer s H vs Q E hr h => ?_)
  · obtain ⟨e, dx, s0, a, S, ch, rfl, he, hS, ok, hch, q⟩ := h
    rfl
  · obtain ⟨e, dx, s0, a, S, ch, rfl, he, hS, ok, hch, q⟩ := h
    have hu := hu_of hr
    have hu2 := hu2_of hr
    refine ⟨_, PSs.nox ((pss_cons (ps_if (PW.pt (pw_or (pt_not (pt_val (C8.pe_c c_is_list hr (by decide) rfl (pa_cons (pv 2) pa_nil)))) (pw_or1 (pt_cmpR op_gt (pe_callB call_len_seq rfl T.b_len (by decide +kernel) (pa_cons (pv 2) pa_nil)) (pe_gi rfl T.g_MOST_CHANGES) (nomark _))))) (pss_one ps_never) pss_nil)
      (pss_cons (ps_for PassesOwn.never rfl (pi_enumT rfl T.b_enumerate (pa_cons (pv 2) pa_nil)) (pg_tup rfl (pgs_cons (pg_name (i := 3) sc_Editions_init.nd rfl (Or.inr rfl)) (pgs_cons (pg_name (i := 4) sc_Editions_init.nd rfl (Or.inl rfl)) pgs_nil)))
        (pss_one (ps_if (pt_not (pt_val (C8.pe_c c_is_some_files hr (by decide) rfl (pa_cons (pv 1) (pa_cons (pv 4) pa_nil))))) (pss_one ps_never) pss_nil)))
      (pss_cons (ps_f T.cE T.aE_own_site (pv 0) (pv 1))
      (pss_cons (ps_f T.cE T.aE_own_changed (pv 0) (pe_tup (pa_cons (pe_callTy call_tuple_of rfl T.b_tuple (by decide +kernel) (pa_cons (C8.pe_mt0 m_Site_names hr (by decide) (pv 1)) pa_nil)) (StX.pa_star (pe_lcR (own := [("item", 4)]) rfl sc_Editions_init.nd (pi_tup (pv 2)) (blkOk_by (own := [("item", 4)]) (N := n_Editions_init) (sc := defScope s_Editions_init) (by decide +kernel)) (fun _ _ _ _ _ => (pg_name (i := 4) sc_Editions_init.nd rfl (Or.inl rfl))) (fun _ _ _ _ _ => (C8.pe_mt m_Site_closure hr (by decide) (pv 1) (pa_cons (pv 4) pa_nil)))) pa_nil))))
      (pss_cons (ps_f T.cE T.aE_own_numbers (pv 0) (pe_lst (pa_cons (pe_dcR (own := [("name", 5)]) rfl sc_Editions_init.nd (pi_list (C8.pe_mt0 m_Site_names hr (by decide) (pv 1))) (blkOk_by (own := [("name", 5)]) (N := n_Editions_init) (sc := defScope s_Editions_init) (by decide +kernel)) (fun _ _ _ _ _ => (pg_name (i := 5) sc_Editions_init.nd rfl (Or.inl rfl))) (fun _ _ _ _ _ => (pv 5)) (fun _ _ _ _ _ => pe_int)) pa_nil)))
      (pss_one (ps_for PassesOwn.never rfl (pi_enumT rfl T.b_enumerate (pa_cons (pe_slice sl_tupA (pe_f T.cE T.aE_own_changed (pv 0)) (po_some pe_int) po_none) pa_nil)) (pg_tup rfl (pgs_cons (pg_name (i := 3) sc_Editions_init.nd rfl (Or.inr rfl)) (pgs_cons (pg_name (i := 6) sc_Editions_init.nd rfl (Or.inl rfl)) pgs_nil)))
        (pss_one (ps_expr (pe_bm PySem.F.plainAttrs_list PySem.F.slot_list_append PySem.F.type_list_append mt_append (pe_f T.cE T.aE_own_numbers (pv 0)) (pa_cons (pe_ds2 (pe_ix ix_list (pe_f T.cE T.aE_own_numbers (pv 0)) (pe_un un_neg pe_int) (fun _ _ => rfl)) (pe_dcR (own := [("name", 5)]) rfl sc_Editions_init.nd (pi_tup (pv 6)) (blkOk_by (own := [("name", 5)]) (N := n_Editions_init) (sc := defScope s_Editions_init) (by decide +kernel)) (fun _ _ _ _ _ => (pg_name (i := 5) sc_Editions_init.nd rfl (Or.inl rfl))) (fun _ _ _ _ _ => (pv 5)) (fun _ _ _ _ _ => (pe_op op_add (pv 3) pe_int)))) pa_nil)))))))))))), ?_⟩
    obtain ⟨xs, hxs, hx1, hx2, hx3⟩ : ∃ xs, SqT K H a xs ∧ xs.length ≤ 1 ∧ (∀ (i : Nat) (y : V), xs[i]? = some y → ∃ t x, y = .ref t ∧ ch = some x ∧ H t = some (.tup [.str x]) ∧ x ∈ so S.ns ∧ (S.fd x).own = false) ∧ (∀ x, ch = some x → xs.length = 1) := by
      cases ch with
      | none => exact ⟨[], hch, by simp, fun i y h => by simp at h, fun x h => nomatch h⟩
      | some x =>
        obtain ⟨t, h1, h2, h3, h4⟩ := hch
        refine ⟨[.ref t], SqT.of h1, by simp, fun i y h => ?_, fun _ _ => rfl⟩
        obtain rfl : i = 0 := by
          have := (List.getElem?_eq_some_iff.mp h).1
          simp at this
          exact this
        cases h
        exact ⟨t, x, rfl, rfl, h2, h3, h4⟩
    refine ⟨_, rfl, a, _, rfl, .inr hxs, fun H1 s1 => ⟨true, rfl, iteF ?_⟩⟩
    refine ⟨_, rfl, a, _, rfl, .inr (Wp.Same.seqT s1 hxs), _, _, rfl, rfl, _, rfl, iF (by omega) ?_⟩
    refine ⟨_, rfl, a, _, rfl, Wp.Same.seqT s1 hxs, for_it walk_enumT (fun i σ H2 => ∃ v w, σ = [some (.ref e), some (.ref s0), some (.ref a), v, w, none, none] ∧ Same H H2) ⟨_, _, rfl, s1⟩ (fun i σ H2 _ ⟨_, _, _, s⟩ => Wp.Same.seqT s hxs) ?_ ?_⟩
    · rintro i y σ H2 H3 hi ⟨v, w, rfl, s2⟩ ⟨Tp, x1, x2, rfl, hT, rfl, e1, e2⟩
      cases e1
      obtain ⟨t, x, rfl, hc1, ht, hx, hpl⟩ := hx2 i x2 e2
      have s3 : Same H (upd H2 Tp (.tup [.int ((i : Nat) : Int), .ref t])) := s2.trans (same_new hT)
      refine ⟨Tp, _, rfl, SqT.of upd_same, rfl, _, _, rfl, _, _, rfl, rfl, ?_⟩
      exact ⟨_, rfl, _, rfl, s0, t, S, [x], rfl, hS.same s3, .inr (SqT.of (s3 _ _ ht)), by simp, by simp, by simpa using hx, fun H4 s4 => ⟨true, rfl, iteF ⟨_, _, rfl, s3.trans s4⟩⟩⟩
    rintro σ H2 ⟨v, w, rfl, s2⟩
    have he2 := s2 _ _ he
    refine ⟨_, rfl, _, rfl, e, dx, [], rfl, he2, by decide, ?_⟩
    have b3 : But e H (upd H2 e (.ins c.E dx (putF "own_site" (.ref s0) []))) := (But.of s2).trans (But.upd e H2 _)
    have he3 : (upd H2 e (.ins c.E dx (putF "own_site" (.ref s0) []))) e = some (.ins c.E dx [("own_site", .ref s0)]) := upd_same
    generalize upd H2 e (.ins c.E dx (putF "own_site" (.ref s0) [])) = H3 at b3 he3
    clear s2 he2
    have f3 := b3.nI he
    have hS3 := hS.nI f3 T.neSE T.neFE
    obtain ⟨dxS, fS, tS, hs3, _⟩ := id hS3
    refine ⟨_, rfl, s0, dxS, _, rfl, hs3, rfl, s0, S, rfl, hS3, fun l0 hl0 => ⟨l0, _, rfl, .inl ⟨SqL.of upd_same, fun t0 ht0 => ?_⟩⟩⟩
    have s4 : Same H3 (upd (upd H3 l0 (.lst ((so S.ns).map V.str))) t0 (.tup ((so S.ns).map V.str))) := (same_new hl0).trans (same_new ht0)
    generalize upd (upd H3 l0 (.lst ((so S.ns).map V.str))) t0 (.tup ((so S.ns).map V.str)) = H4 at s4
    have f4 : Fr (nI c.E) H H4 := f3.trans (.of s4)
    have hx4 := seqT_nI f4 hxs
    refine ⟨_, rfl, a, rfl, ⟨_, hx4⟩, _, _, _, fun D H i y => ∃ t x, y = .ref t ∧ ch = some x ∧ H t = some (.tup [.str x]), walk_tup, fun {D H H' i y} bb hD h => ?_, fun H s => Wp.Same.seqT s hx4, yat_same, (by rw [sizeLine_eq]; omega), fun D acc i y H5 hi hD hDa sm yy k hk => ?_, fun D H5 ys hD s5 h5 hl5 hR => ?_⟩
    · obtain ⟨t, x, e1, e2, h⟩ := h
      exact ⟨t, x, e1, e2, bb.frL hD _ _ h (fun _ => by intro z; cases z)⟩
    · obtain ⟨_, ez⟩ := yy
      obtain ⟨t, x, rfl, hc1, ht, hx, hpl⟩ := hx2 i y ez
      have f5 : Fr (nI c.E) H H5 := f4.trans (.of sm)
      have hS5 := hS.nI f5 T.neSE T.neFE
      obtain ⟨dxS, fS, tS, hs5, _⟩ := id hS5
      exact ⟨rfl, _, rfl, s0, dxS, _, rfl, hs5, rfl, _, rfl, s0, t, S, x, rfl, hS5, f5 _ _ ht (nI_tup _), so_nm x hx, hx, hpl, fun H6 p s6 hp => hk _ _ s6 ⟨p, x, rfl, hc1, hp⟩⟩
    refine ⟨D, ys, rfl, .inr (SqL.of h5), by rw [List.append_nil]; show ys.length + 1 ≤ _; rw [sizeLine_eq]; omega, fun cg hcg => ?_⟩
    simp only [List.append_nil]
    have s6 : Same H3 (upd H5 cg (.tup (.ref t0 :: ys))) := s4.trans (s5.trans (same_new hcg))
    refine ⟨_, rfl, e, dx, _, rfl, s6 _ _ he3, by show 1 < 1000; decide, ?_⟩
    have hcg6 : (upd H5 cg (.tup (.ref t0 :: ys))) cg = some (.tup (.ref t0 :: ys)) := upd_same
    have hR6 : ∀ (i : Nat) (y : V), ys[i]? = some y → ∃ t x, y = .ref t ∧ ch = some x ∧ (upd H5 cg (.tup (.ref t0 :: ys))) t = some (.tup [.str x]) := fun i y h => by
      obtain ⟨t, x, e1, e2, h⟩ := hR i y h
      exact ⟨t, x, e1, e2, same_new hcg _ _ h⟩
    generalize upd H5 cg (.tup (.ref t0 :: ys)) = H6 at s6 hcg6 hR6
    clear hR h5 s5 hcg
    have he6 := s6 _ _ he3
    have b7 : But e H (upd H6 e (.ins c.E dx (putF "own_changed" (.ref cg) [("own_site", .ref s0)]))) := (b3.trans (But.of s6)).trans (But.upd e H6 _)
    have fr7 := (But.upd e H6 (.ins c.E dx (putF "own_changed" (.ref cg) [("own_site", .ref s0)]))).nI he6
    have he7 : (upd H6 e (.ins c.E dx (putF "own_changed" (.ref cg) [("own_site", .ref s0)]))) e = some (.ins c.E dx [("own_site", .ref s0), ("own_changed", .ref cg)]) := upd_same
    have hcg7 := fr7 _ _ hcg6 (nI_tup _)
    have hR7 : ∀ (i : Nat) (y : V), ys[i]? = some y → ∃ t x, y = .ref t ∧ ch = some x ∧ (upd H6 e (.ins c.E dx (putF "own_changed" (.ref cg) [("own_site", .ref s0)]))) t = some (.tup [.str x]) := fun i y h => by
      obtain ⟨t, x, e1, e2, h⟩ := hR6 i y h
      exact ⟨t, x, e1, e2, fr7 _ _ h (nI_tup _)⟩
    generalize upd H6 e (.ins c.E dx (putF "own_changed" (.ref cg) [("own_site", .ref s0)])) = H7 at b7 he7 hcg7 hR7
    clear fr7 hcg6 hR6 he6 s6
    have f7 := b7.nI he
    have hS7 := hS.nI f7 T.neSE T.neFE
    obtain ⟨dxS, fS, tS, hs7, _⟩ := id hS7
    have l8 := so_len S.ns
    -- own_numbers
    refine ⟨_, rfl, s0, dxS, _, rfl, hs7, rfl, s0, S, rfl, hS7, fun l hl => ?_⟩
    refine ⟨l, rfl, ⟨_, SqL.of upd_same⟩, _, _, _, so S.ns, fun _ _ _ _ => True, walk_list, by simp, so_nd _, fun _ _ h => h, fun H s => s.seq (SqL.of upd_same), yat_same, (by rw [List.length_map, sizeLine_eq]; omega), fun D acc i x z H8 e1 hD hDa sm yy k hk => ?_, fun d0 H8 gv hd0 s8 hD8 _ => ?_⟩
    · obtain ⟨_, ez⟩ := yy
      rw [List.getElem?_map, e1] at ez
      cases ez
      exact ⟨rfl, _, rfl, hk _ _ (Same.refl _) trivial⟩
    refine ⟨by show 1 ≤ sizeLine; decide, fun nu hnu => ?_⟩
    have s9 : Same H7 (upd H8 nu (.lst [.ref d0])) := (same_new hl).trans (s8.trans (same_new hnu))
    have hnu9 : (upd H8 nu (.lst [.ref d0])) nu = some (.lst ([] ++ [.ref d0])) := upd_same
    have hd9 := same_new (o := .lst [.ref d0]) hnu _ _ hD8
    have hnuH7 : H7 nu = none := ((same_new hl).trans s8).free hnu
    generalize upd H8 nu (.lst [.ref d0]) = H9 at s9 hnu9 hd9
    clear s8 hD8
    refine ⟨_, rfl, e, dx, _, rfl, s9 _ _ he7, by show 2 < 1000; decide, ?_⟩
    have he9 := s9 _ _ he7
    have fr10 := (But.upd e H9 (.ins c.E dx (putF "own_numbers" (.ref nu) [("own_site", .ref s0), ("own_changed", .ref cg)]))).nI he9
    have b10 : But e H (upd H9 e (.ins c.E dx (putF "own_numbers" (.ref nu) [("own_site", .ref s0), ("own_changed", .ref cg)]))) := (b7.trans (But.of s9)).trans (But.upd e H9 _)
    have he10 : (upd H9 e (.ins c.E dx (putF "own_numbers" (.ref nu) [("own_site", .ref s0), ("own_changed", .ref cg)]))) e = some (.ins c.E dx (edF s0 cg nu)) := upd_same
    have hcg10 := fr10 _ _ (s9 _ _ hcg7) (nI_tup _)
    have hR10 : ∀ (i : Nat) (y : V), ys[i]? = some y → ∃ t x, y = .ref t ∧ ch = some x ∧ (upd H9 e (.ins c.E dx (putF "own_numbers" (.ref nu) [("own_site", .ref s0), ("own_changed", .ref cg)]))) t = some (.tup [.str x]) := fun i y h => by
      obtain ⟨t, x, e1, e2, h⟩ := hR7 i y h
      exact ⟨t, x, e1, e2, fr10 _ _ (s9 _ _ h) (nI_tup _)⟩
    have hnu10 := fr10 _ _ hnu9 (nI_lst _)
    have hd10 := fr10 _ _ hd9 (nI_dK _)
    have hnuH : ∀ b o, H b = some o → b ≠ e → b ≠ nu := fun b o hb hbe => ne_of_none (b7 b o hb hbe) hnuH7
    generalize upd H9 e (.ins c.E dx (putF "own_numbers" (.ref nu) [("own_site", .ref s0), ("own_changed", .ref cg)])) = H10 at b10 he10 hcg10 hR10 hnu10 hd10
    clear fr10 he9 hR7
    -- the loop
    refine ⟨_, rfl, e, dx, _, _, rfl, he10, rfl, _, rfl, ?_⟩
    show tNoPart _ _ _
    unfold tNoPart
    refine slA hcg10 fun pp H11 s11 h11 => ?_
    rw [show (1 : Int) = ((1 : Nat) : Int) from rfl, cut_from] at h11
    have h11' : H11 pp = some (.tup ys) := h11
    have fin : ∀ H12, H12 e = some (.ins c.E dx (edF s0 cg nu)) → H12 cg = some (.tup (.ref t0 :: ys)) → (∀ (i : Nat) (y : V), ys[i]? = some y → ∃ t x, y = .ref t ∧ ch = some x ∧ H12 t = some (.tup [.str x])) → EdAt c H12 e s0 ch := by
      intro H12 k1 k2 k3
      refine ⟨dx, cg, nu, t0, ys, k1, k2, ?_⟩
      have hlx : ys.length = xs.length := hl5
      cases hc : ch with
      | none =>
        match ys, k3 with
        | [], _ => rfl
        | y :: r, k3 =>
          obtain ⟨t, x, _, e2, _⟩ := k3 0 y rfl
          rw [hc] at e2
          cases e2
      | some x =>
        have := hx3 x hc
        match ys, k3, hlx with
        | [y], k3, _ =>
          obtain ⟨t, x', e1, e2, h⟩ := k3 0 y rfl
          rw [hc] at e2
          cases e2
          exact ⟨t, by rw [e1], h⟩
        | [], _, hlx => simp at hlx; omega
        | _ :: _ :: _, _, hlx => simp at hlx; omega
    refine ⟨pp, _, rfl, SqT.of h11', for_it (walk_enumT (xs := ys)) (fun i σ H2 => ∃ v' u ds d kvs, σ = [some (.ref e), some (.ref s0), some (.ref a), v', w, none, u] ∧ But e H H2 ∧ H2 e = some (.ins c.E dx (edF s0 cg nu)) ∧ H2 cg = some (.tup (.ref t0 :: ys)) ∧ (∀ (i : Nat) (y : V), ys[i]? = some y → ∃ t x, y = .ref t ∧ ch = some x ∧ H2 t = some (.tup [.str x])) ∧ H2 nu = some (.lst (ds ++ [.ref d])) ∧ ds.length = i ∧ H2 d = some (.dK kvs) ∧ kvs.length ≤ 8 + i ∧ H2 pp = some (.tup ys))
      ⟨_, _, [], d0, _, rfl, b10.trans (But.of s11), s11 _ _ he10, s11 _ _ hcg10, fun i y h => (by obtain ⟨t, x, e1, e2, h⟩ := hR10 i y h; exact ⟨t, x, e1, e2, s11 _ _ h⟩), s11 _ _ hnu10, rfl, s11 _ _ hd10, by rw [List.length_map]; omega, h11'⟩ (fun i σ H2 _ ⟨_, _, _, _, _, _, _, _, _, _, _, _, _, _, h⟩ => SqT.of h) ?_ ?_⟩
    · rintro i y σ H2 H3' hi ⟨v', u, ds, d, kvs, rfl, k1, k2, k3, k4, k5, k6, k7, k8, k9⟩ ⟨Tp, x1, x2, rfl, hT, rfl, e1, e2⟩
      cases e1
      obtain ⟨t, x, rfl, hc1, ht⟩ := k4 i x2 e2
      have sT : Same H2 (upd H2 Tp (.tup [.int ((i : Nat) : Int), .ref t])) := same_new hT
      refine ⟨Tp, _, rfl, SqT.of upd_same, rfl, _, _, rfl, _, _, rfl, rfl, ?_⟩
      generalize upd H2 Tp (.tup [.int ((i : Nat) : Int), .ref t]) = H4' at sT
      refine ⟨_, rfl, e, dx, _, _, rfl, sT _ _ k2, rfl, .inl ⟨rfl, _, SqL.of (sT _ _ k5)⟩, ?_⟩
      intro D hD
      have sD : Same H4' (upd H4' D (.dK [])) := same_new hD
      have sTD := sT.trans sD
      have hDd : D ≠ d := fun h => by rw [h, sT _ _ k7] at hD; cases hD
      refine ⟨_, rfl, e, dx, _, _, rfl, sTD _ _ k2, rfl, _, rfl, nu, _, _, .ref d, rfl, rfl, SqL.of (sTD _ _ k5), atI_last ds (.ref d), ?_⟩
      refine ⟨d, kvs, rfl, hDd, sTD _ _ k7, upd_same, ?_⟩
      rw [upd_upd]
      have sE : Same H4' (upd H4' D (.dK kvs)) := same_new hD
      have sTE := sT.trans sE
      refine ⟨_, rfl, t, rfl, ⟨_, SqT.of (sTE _ _ ht)⟩, 1, _, _, [x], fun _ _ _ _ => True, walk_tup (xs := [.str x]), rfl, by simp, fun _ _ h => h, fun H s => SqT.of (s _ _ (sTE _ _ ht)), yat_same, (by decide), fun D acc j x3 z H8 e1 hD hDa sm yy k hk => ?_, fun q0 H8 gv hq0 s8 hq8 _ => ?_⟩
      · obtain ⟨_, ez⟩ := yy
        obtain rfl : j = 0 := by
          have := (List.getElem?_eq_some_iff.mp e1).1
          simp at this
          exact this
        cases e1
        cases ez
        exact ⟨rfl, _, rfl, _, rfl, _, _, rfl, rfl, hk _ _ (Same.refl _) trivial⟩
      have sT8 := sTE.trans s8
      have hDq : D ≠ q0 := fun h => by rw [← h, upd_same] at hq0; cases hq0
      refine ⟨q0, _, rfl, hDq, hq8, s8 _ _ upd_same, by rw [sizeLine_eq]; show kvs.length + 1 ≤ _; omega, ?_⟩
      have hnuD : nu ≠ D := ne_of_none (sT _ _ k5) hD
      have k5' : (upd H8 D (.dK (mergeK kvs ([x].map fun z => (Sum.inr z, gv z))))) nu = some (.lst (ds ++ [.ref d])) := by rw [upd_ne hnuD]; exact sT8 _ _ k5
      refine ⟨nu, _, _, rfl, rfl, k5', by rw [List.length_append, sizeLine_eq]; show ds.length + 1 < _; have : i < ys.length := hi; omega, ?_⟩
      have hlast : ∀ b o, H2 b = some o → b ≠ nu → (upd (upd H8 D (.dK (mergeK kvs ([x].map fun z => (Sum.inr z, gv z))))) nu (.lst ((ds ++ [.ref d]) ++ [.ref D]))) b = some o := fun b o hb hne => by
        rw [upd_ne hne, upd_ne (ne_of_none (sT _ _ hb) hD)]
        exact sT8 _ _ hb
      have nn : ∀ {b o}, H2 b = some o → (∀ xs, o ≠ .lst xs) → b ≠ nu := fun hb hn => ne_of hb k5 (hn _)
      refine ⟨_, _, ds ++ [.ref d], D, mergeK kvs ([x].map fun z => (Sum.inr z, gv z)), rfl, fun b o hb hbe => hlast _ _ (k1 _ _ hb hbe) (hnuH b o hb hbe), hlast _ _ k2 (nn k2 (fun _ h => nomatch h)), hlast _ _ k3 (nn k3 (fun _ h => nomatch h)), fun j y h => ?_, upd_same, by rw [List.length_append]; show ds.length + 1 = _; omega, ?_, ?_, hlast _ _ k9 (nn k9 (fun _ h => nomatch h))⟩
      · obtain ⟨t', x', e1, e2, h⟩ := k4 j y h
        exact ⟨t', x', e1, e2, hlast _ _ h (nn h (fun _ h => nomatch h))⟩
      · rw [upd_ne hnuD.symm]
        exact upd_same
      · have := length_mergeK ([x].map fun z => ((Sum.inr z : Key), gv z)) kvs
        simp only [List.map_cons, List.map_nil, List.length_cons, List.length_nil] at this ⊢
        omega
    rintro σ H12 ⟨v', u, ds, d, kvs, rfl, k1, k2, k3, k4, k5, k6, k7, k8, k9⟩
    exact q _ (fin H12 k2 k3 k4) k1

end
end Wp

set_option Elab.async false
set_option linter.all false
set_option maxRecDepth 100000
set_option maxHeartbeats 2000000
namespace Wp
open PySem PySem.Spec PyProof.Rows L2
section
variable {P : Program} {w : World} {K : PySem.W.Frag} {mg : Str → Option Value} {base : Heap} {c : CA}

/-- Editions.__len__ -/
theorem w_Editions_len {f : Addr} {fd : FuncData} {ks : List (Str × V)} {dvs : List V} (F : FunD K "__len__" "Editions.__len__" (defArgs s_Editions_len) (defBody s_Editions_len) (defScope s_Editions_len) dvs ks f fd) (T : Txt K w mg c)  : FnOk P w K mg base C8.CX0 1 f fd ["self"] (sp_Ed_len c) := by
  refine F.ok sc_Editions_len (fun vs H Q E h => ?_) (fun cdv A outer s H vs Q E hr h => ?_)
  · obtain ⟨e, s0, ch, rfl, hE, q⟩ := h
    rfl
  · obtain ⟨e, s0, ch, rfl, hE, q⟩ := h
    have hu := hu_of hr
    have hu2 := hu2_of hr
    refine ⟨_, PSs.nox ((pss_one (ps_ret (pe_callB call_len_seq rfl T.b_len (by decide +kernel) (pa_cons (pe_f T.cE T.aE_own_changed (pv 0)) pa_nil))))), ?_⟩
    obtain ⟨dx, cg, nu, t0, ts, h1, h2, h3⟩ := id hE
    refine ⟨_, rfl, e, dx, _, _, rfl, h1, rfl, cg, _, rfl, .inr (SqT.of h2), ?_⟩
    cases ch with
    | none =>
      subst h3
      exact q
    | some x =>
      obtain ⟨t1, rfl, _⟩ := h3
      exact q

/-- need_edition -/
theorem w_need_edition {f : Addr} {fd : FuncData} {ks : List (Str × V)} {dvs : List V} (F : FunD K "need_edition" "need_edition" (defArgs s_need_edition) (defBody s_need_edition) (defScope s_need_edition) dvs ks f fd) (T : Txt K w mg c) (c_is_number : C8.Cal P w K mg base 1 "is_number" (sp_is_number) []) : FnOk P w K mg base C8.CX0 2 f fd ["editions", "number"] (sp_need_edition c) := by
  refine F.ok sc_need_edition (fun vs H Q E h => ?_) (fun cdv A outer s H vs Q E hr h => ?_)
  · obtain ⟨e, s0, x, rfl, hE, q⟩ := h
    rfl
  · obtain ⟨e, s0, x, rfl, hE, q⟩ := h
    have hu := hu_of hr
    have hu2 := hu2_of hr
    refine ⟨_, PSs.nox ((pss_one (ps_if (PW.pt (pw_or (pt_not (pt_val (C8.pe_c c_is_number hr (by decide) rfl (pa_cons (pv 1) pa_nil)))) (pw_or1 (pt_not (pt_chain op_le op_lt pe_int (pv 1) (pe_callB call_len_seq rfl T.b_len (by decide +kernel) (pa_cons (pe_f T.cE T.aE_own_changed (pv 0)) pa_nil))))))) (pss_one ps_never) pss_nil))), ?_⟩
    obtain ⟨dx, cg, nu, t0, ts, h1, h2, t1, rfl, h4⟩ := id hE
    refine ⟨_, rfl, 1, rfl, true, rfl, iteF ?_⟩
    refine ⟨_, rfl, _, _, rfl, rfl, _, rfl, ?_⟩
    refine ite2 (fun _ => ?_) (fun h => absurd (show decide ((0 : Int) ≤ 1) = true by decide) h)
    exact ⟨_, rfl, e, dx, _, _, rfl, h1, rfl, cg, _, rfl, .inr (SqT.of h2), _, _, rfl, rfl, _, rfl, iteF q⟩

/-- Editions.changed -/
theorem w_Editions_changed {f : Addr} {fd : FuncData} {ks : List (Str × V)} {dvs : List V} (F : FunD K "changed" "Editions.changed" (defArgs s_Editions_changed) (defBody s_Editions_changed) (defScope s_Editions_changed) dvs ks f fd) (T : Txt K w mg c) (c_need_edition : C8.Cal P w K mg base 2 "need_edition" (sp_need_edition c) []) : FnOk P w K mg base C8.CX0 3 f fd ["self", "number"] (sp_Ed_changed c) := by
  refine F.ok sc_Editions_changed (fun vs H Q E h => ?_) (fun cdv A outer s H vs Q E hr h => ?_)
  · obtain ⟨e, s0, x, rfl, hE, q⟩ := h
    rfl
  · obtain ⟨e, s0, x, rfl, hE, q⟩ := h
    have hu := hu_of hr
    have hu2 := hu2_of hr
    refine ⟨_, PSs.nox ((pss_cons (ps_expr (C8.pe_c c_need_edition hr (by decide) rfl (pa_cons (pv 0) (pa_cons (pv 1) pa_nil))))
      (pss_one (ps_ret (pe_ix ix_tup (pe_f T.cE T.aE_own_changed (pv 0)) (pv 1) (fun _ _ => rfl)))))), ?_⟩
    obtain ⟨dx, cg, nu, t0, ts, h1, h2, t1, rfl, h4⟩ := id hE
    exact ⟨_, rfl, _, rfl, e, s0, x, rfl, hE, _, rfl, e, dx, _, _, rfl, h1, rfl, _, rfl, cg, _, _, .ref t1, rfl, rfl, SqT.of h2, atI_nat (j := 1) rfl, q t1 h4⟩

/-- Editions.with_change -/
theorem w_Editions_with_change {f : Addr} {fd : FuncData} {ks : List (Str × V)} {dvs : List V} (F : FunD K "with_change" "Editions.with_change" (defArgs s_Editions_with_change) (defBody s_Editions_with_change) (defScope s_Editions_with_change) dvs ks f fd) (T : Txt K w mg c) (c_is_some_files : C8.Cal P w K mg base 3 "is_some_files" (sp_is_some_files K c) []) (k_Editions : C8.Mak P w K mg base 5 "Editions" c.E (sp_Ed_init K c) []) : FnOk P w K mg base C8.CX0 7 f fd ["self", "names"] (sp_Ed_with_change K c) := by
  refine F.ok sc_Editions_with_change (fun vs H Q E h => ?_) (fun cdv A outer s H vs Q E hr h => ?_)
  · obtain ⟨e, s0, a, S, x, rfl, hE, hS, ok, ha, hx, hpl, q⟩ := h
    rfl
  · obtain ⟨e, s0, a, S, x, rfl, hE, hS, ok, ha, hx, hpl, q⟩ := h
    have hu := hu_of hr
    have hu2 := hu2_of hr
    refine ⟨_, PSs.nox ((pss_cons (ps_if (pt_not (pt_val (C8.pe_c c_is_some_files hr (by decide) rfl (pa_cons (pe_f T.cE T.aE_own_site (pv 0)) (pa_cons (pv 1) pa_nil))))) (pss_one ps_never) pss_nil)
      (pss_cons (ps_if (pt_cmpR op_gt (pe_callB call_len_seq rfl T.b_len (by decide +kernel) (pa_cons (pe_f T.cE T.aE_own_changed (pv 0)) pa_nil)) (pe_gi rfl T.g_MOST_CHANGES) (nomark _)) (pss_one ps_never) pss_nil)
      (pss_one (ps_ret (C8.pe_mk k_Editions hr (by decide) rfl (pa_cons (pe_f T.cE T.aE_own_site (pv 0)) (pa_cons (pe_op op_catA (pe_slice sl_tupA (pe_f T.cE T.aE_own_changed (pv 0)) (po_some pe_int) po_none) (pe_tup (pa_cons (pe_callTy call_tuple_of rfl T.b_tuple (by decide +kernel) (pa_cons (pv 1) pa_nil)) pa_nil))) pa_nil)))))))), ?_⟩
    obtain ⟨dx, cg, nu, t0, ts, h1, h2, rfl⟩ := id hE
    refine ⟨_, rfl, e, dx, _, _, rfl, h1, rfl, _, rfl, s0, a, S, [x], rfl, hS, .inr (SqT.of ha), by simp, by simp, by simpa using hx, fun H1 s1 => ⟨true, rfl, iteF ?_⟩⟩
    refine ⟨_, rfl, e, dx, _, _, rfl, s1 _ _ h1, rfl, cg, _, rfl, .inr (SqT.of (s1 _ _ h2)), _, _, rfl, rfl, _, rfl, iteF ?_⟩
    refine ⟨_, rfl, e, dx, _, _, rfl, s1 _ _ h1, rfl, ?_⟩
    refine ⟨_, rfl, e, dx, _, _, rfl, s1 _ _ h1, rfl, _, rfl, ?_⟩
    show tNoPart _ _ _
    unfold tNoPart
    refine slA (s1 _ _ h2) fun p2 H2 s2 k2 => ?_
    rw [show (1 : Int) = ((1 : Nat) : Int) from rfl, cut_from] at k2
    have k2' : H2 p2 = some (.tup []) := k2
    have s12 := s1.trans s2
    refine ⟨_, rfl, a, _, rfl, .inr ⟨SqT.of (s12 _ _ ha), ?_⟩⟩
    refine ⟨by show 1 ≤ sizeLine; decide, fun p3 hp3 => ?_⟩
    have s13 := s12.trans (same_new (o := .tup [.ref a]) hp3)
    refine catA (same_new hp3 _ _ k2') upd_same (by show 0 + 1 ≤ sizeLine; decide) fun p4 H4 s4 k4 => ?_
    have s14 := s13.trans s4
    intro y dy hy hdy hne
    have sm := mk_same (C := c.E) hy hdy
    have s15 := s14.trans sm
    refine ⟨y, dy, s0, p4, S, some x, rfl, upd_same, hS.same s15, ok, ⟨a, sm _ _ k4, s15 _ _ ha, hx, hpl⟩, fun H6 hE6 b6 => ⟨rfl, ?_⟩⟩
    exact q _ y (b6.back s15 (s14.free hy)) hE6

/-- Copy.__init__ -/
theorem w_Copy_init {f : Addr} {fd : FuncData} {ks : List (Str × V)} {dvs : List V} (F : FunD K "__init__" "Copy.__init__" (defArgs s_Copy_init) (defBody s_Copy_init) (defScope s_Copy_init) dvs ks f fd) (T : Txt K w mg c)  : FnOk P w K mg base C8.CX0 1 f fd ["self", "contents", "got", "given"] (sp_Copy_init c) := by
  refine F.ok sc_Copy_init (fun vs H Q E h => ?_) (fun cdv A outer s H vs Q E hr h => ?_)
  · obtain ⟨p, dx, q0, rfl, hp, q⟩ := h
    rfl
  · obtain ⟨p, dx, q0, rfl, hp, q⟩ := h
    have hu := hu_of hr
    have hu2 := hu2_of hr
    refine ⟨_, PSs.nox ((pss_cons (ps_f T.cC T.aC_contents (pv 0) (pv 1))
      (pss_cons (ps_f T.cC T.aC_got (pv 0) (pv 2))
      (pss_one (ps_f T.cC T.aC_given (pv 0) (pv 3)))))), ?_⟩
    refine ⟨_, rfl, _, rfl, p, dx, [], rfl, hp, by decide, ?_⟩
    refine ⟨_, rfl, _, rfl, p, dx, _, rfl, upd_same, by show 1 < 1000; decide, ?_⟩
    refine ⟨_, rfl, _, rfl, p, dx, _, rfl, upd_same, by show 2 < 1000; decide, ?_⟩
    refine q _ ⟨dx, by rw [upd_same]; rfl⟩ fun b o h hne => ?_
    rw [upd_ne hne, upd_ne hne, upd_ne hne]
    exact h

/-- Visit.__init__ -/
theorem w_Visit_init {f : Addr} {fd : FuncData} {ks : List (Str × V)} {dvs : List V} (F : FunD K "__init__" "Visit.__init__" (defArgs s_Visit_init) (defBody s_Visit_init) (defScope s_Visit_init) dvs ks f fd) (T : Txt K w mg c)  : FnOk P w K mg base C8.CX0 1 f fd ["self", "entry", "pages", "lost"] (sp_Visit_init c) := by
  refine F.ok sc_Visit_init (fun vs H Q E h => ?_) (fun cdv A outer s H vs Q E hr h => ?_)
  · obtain ⟨p, dx, x, pg, l, rfl, hp, q⟩ := h
    rfl
  · obtain ⟨p, dx, x, pg, l, rfl, hp, q⟩ := h
    have hu := hu_of hr
    have hu2 := hu2_of hr
    refine ⟨_, PSs.nox ((pss_cons (ps_f T.cV T.aV_entry (pv 0) (pv 1))
      (pss_cons (ps_f T.cV T.aV_pages (pv 0) (pv 2))
      (pss_one (ps_f T.cV T.aV_lost (pv 0) (pv 3)))))), ?_⟩
    refine ⟨_, rfl, _, rfl, p, dx, [], rfl, hp, by decide, ?_⟩
    refine ⟨_, rfl, _, rfl, p, dx, _, rfl, upd_same, by show 1 < 1000; decide, ?_⟩
    refine ⟨_, rfl, _, rfl, p, dx, _, rfl, upd_same, by show 2 < 1000; decide, ?_⟩
    refine q _ dx (by rw [upd_same]; rfl) fun b o h hne => ?_
    rw [upd_ne hne, upd_ne hne, upd_ne hne]
    exact h

end
end Wp

set_option Elab.async false
set_option linter.all false
set_option maxRecDepth 100000
set_option maxHeartbeats 2000000
namespace Wp
open PySem PySem.Spec PyProof.Rows L2
section
variable {P : Program} {w : World} {K : PySem.W.Frag} {mg : Str → Option Value} {base : Heap} {c : CA}

/-- is_deed_form -/
theorem w_is_deed_form {f : Addr} {fd : FuncData} {ks : List (Str × V)} {dvs : List V} (F : FunD K "is_deed_form" "is_deed_form" (defArgs s_is_deed_form) (defBody s_is_deed_form) (defScope s_is_deed_form) dvs ks f fd) (T : Txt K w mg c)  : FnOk P w K mg base C8.CX0 1 f fd ["value"] (sp_is_deed_form) := by
  refine F.ok sc_is_deed_form (fun vs H Q E h => ?_) (fun cdv A outer s H vs Q E hr h => ?_)
  · obtain ⟨a, x, d, rfl, ha, q⟩ := h
    rfl
  · obtain ⟨a, x, d, rfl, ha, q⟩ := h
    have hu := hu_of hr
    have hu2 := hu2_of hr
    refine ⟨_, PSs.nox ((pss_cons (ps_if (PW.pt (pw_or (pt_not (pt_val (pe_callB call_isi rfl T.b_isinstance (by decide +kernel) (pa_cons (pv 0) (pa_cons (pe_bltn (v := .ty "tuple") rfl T.b_tuple (by decide +kernel) rfl) pa_nil))))) (pw_or (pt_cmpR op_eq (pe_callB call_len_seq rfl T.b_len (by decide +kernel) (pa_cons (pv 0) pa_nil)) pe_int (nomark _)) (pw_or1 (pt_not (pt_val (pe_callB call_isi rfl T.b_isinstance (by decide +kernel) (pa_cons (pe_ix ix_tup (pv 0) pe_int (fun _ _ => rfl)) (pa_cons (pe_bltn (v := .ty "str") rfl T.b_str (by decide +kernel) rfl) pa_nil))))))))) (pss_one (ps_ret pe_bl)) pss_nil)
      (pss_one (ps_ret (pe_cmpR op_eq (pe_kget2 (pe_glob (v := .ref c.sz) rfl T.m_SIZES rfl) (pe_ix ix_tup (pv 0) pe_int (fun _ _ => rfl)) pe_int ⟨rfl, rfl, rfl, rfl⟩) (pe_callB call_len_seq rfl T.b_len (by decide +kernel) (pa_cons (pv 0) pa_nil)) (nomark _)))))), ?_⟩
    have hl : ∃ (wd : Str) (r : List V), ddV x d = .str wd :: r ∧ (wd, ((ddV x d).length : Int)) ∈ ([("begin", 2), ("step", 1), ("wait", 2), ("lose", 4), ("open", 2)] : List (Str × Int)) := by
      cases d <;> exact ⟨_, _, rfl, by simp [ddV]⟩
    obtain ⟨wd, r, e1, hm⟩ := hl
    refine ⟨_, rfl, _, _, _, _, true, rfl, .ty "tuple", .base (.tup ha), kit_ty (by decide +kernel), true, rfl, iteF ?_⟩
    refine ⟨_, rfl, a, _, rfl, .inr (SqT.of ha), rfl, _, rfl, iF (by rw [e1]; intro h; injection h with h; simp at h; omega) ?_⟩
    refine ⟨_, rfl, a, _, _, .str wd, rfl, rfl, SqT.of ha, (by rw [e1]; exact atI_nat (j := 0) rfl), ?_⟩
    refine ⟨_, _, _, _, true, rfl, .ty "str", .base (.str _), kit_ty (by decide +kernel), true, rfl, iteF ?_⟩
    obtain ⟨es, n, hK⟩ := T.l_SIZES
    refine ⟨c.sz, rfl, T.low, ⟨es, n, hK⟩, _, rfl, a, _, _, .str wd, rfl, rfl, SqT.of ha, (by rw [e1]; exact atI_nat (j := 0) rfl), ?_⟩
    exact ⟨wd, _, rfl, T.t_SIZES _ hm, _, rfl, a, _, rfl, .inr (SqT.of ha), rfl, qT rfl q⟩

/-- is_index -/
theorem w_is_index {f : Addr} {fd : FuncData} {ks : List (Str × V)} {dvs : List V} (F : FunD K "is_index" "is_index" (defArgs s_is_index) (defBody s_is_index) (defScope s_is_index) dvs ks f fd) (T : Txt K w mg c) (c_is_number : C8.Cal P w K mg base 1 "is_number" (sp_is_number) []) : FnOk P w K mg base C8.CX0 2 f fd ["value", "many"] (sp_is_index) := by
  refine F.ok sc_is_index (fun vs H Q E h => ?_) (fun cdv A outer s H vs Q E hr h => ?_)
  · obtain ⟨n, m, rfl, h0, h1, q⟩ := h
    rfl
  · obtain ⟨n, m, rfl, h0, h1, q⟩ := h
    have hu := hu_of hr
    have hu2 := hu2_of hr
    refine ⟨_, PSs.nox ((pss_one (ps_ret (pe_and (C8.pe_c c_is_number hr (by decide) rfl (pa_cons (pv 0) pa_nil)) (pe_one (pe_chain op_le op_lt pe_int (pv 0) (pv 1))))))), ?_⟩
    refine ⟨_, rfl, n, rfl, true, rfl, iteT ?_⟩
    refine ⟨_, rfl, _, _, rfl, rfl, _, rfl, ?_⟩
    rw [decide_eq_true h0]
    refine iteT ?_
    exact ⟨_, rfl, _, _, rfl, rfl, qT h1 q⟩

/-- copy_key -/
theorem w_copy_key {f : Addr} {fd : FuncData} {ks : List (Str × V)} {dvs : List V} (F : FunD K "copy_key" "copy_key" (defArgs s_copy_key) (defBody s_copy_key) (defScope s_copy_key) dvs ks f fd) (T : Txt K w mg c) (p_File_naming : Prp P w K mg base 1 c.F "naming" (sp_File_naming c)) (o_Site_item : Spc P w K mg base 4 c.S "__getitem__" (sp_Site_item c)) : FnOk P w K mg base C8.CX0 6 f fd ["net", "name", "number"] (sp_copy_key P w c) := by
  refine F.ok sc_copy_key (fun vs H Q E h => ?_) (fun cdv A outer s H vs Q E hr h => ?_)
  · obtain ⟨n, s0, S, x, N, v, rfl, hN, ok, q⟩ := h
    rfl
  · obtain ⟨n, s0, S, x, N, v, rfl, hN, ok, q⟩ := h
    have hu := hu_of hr
    have hu2 := hu2_of hr
    refine ⟨_, PSs.nox ((pss_one (ps_ret (pe_tup (pa_cons (pv 1) (pa_cons (pe_ifExp (pt_cmpR op_eq (pe_pr p_File_naming hr (by decide) (pe_own o_Site_item hr (by decide) (pe_f T.cN T.aN_own_site (pv 0)) (pv 1))) pe_str (nomark _)) (pv 2) pe_non) pa_nil)))))), ?_⟩
    obtain ⟨dx, k, st, e, lf, fi, be, sv, co, vi, h1, hI⟩ := id hN
    obtain ⟨dxS, fS, tS, hs, hfS, _⟩ := id hI.site
    refine ⟨_, rfl, _, rfl, n, dx, _, _, rfl, h1, rfl, _, rfl, s0, dxS, _, rfl, hs, s0, S, x, rfl, hI.site, ok.ns, fun p fp => ?_⟩
    obtain ⟨dxF, rF, kF, f1, _⟩ := id fp
    refine ⟨p, dxF, _, rfl, f1, p, S.fd x, rfl, fp, rfl, _, rfl, iF (by rw [ok.pl]; exact fun h => absurd h (by decide +kernel)) ?_⟩
    exact ⟨by show 2 ≤ sizeLine; decide, fun t ht => q _ t (same_new ht) upd_same⟩

/-- is_fresh -/
theorem w_is_fresh {f : Addr} {fd : FuncData} {ks : List (Str × V)} {dvs : List V} (F : FunD K "is_fresh" "is_fresh" (defArgs s_is_fresh) (defBody s_is_fresh) (defScope s_is_fresh) dvs ks f fd) (T : Txt K w mg c) (p_File_keeps : Prp P w K mg base 1 c.F "keeps" (sp_File_keeps c)) (o_Site_item : Spc P w K mg base 4 c.S "__getitem__" (sp_Site_item c)) (p_Site_counts : Prp P w K mg base 1 c.S "counts" (sp_Site_counts c)) : FnOk P w K mg base C8.CX0 6 f fd ["net", "cache", "name", "copy"] (sp_is_fresh P w c) := by
  refine F.ok sc_is_fresh (fun vs H Q E h => ?_) (fun cdv A outer s H vs Q E hr h => ?_)
  · obtain ⟨n, s0, a, S, x, N, i, kp, p, rfl, hN, ok, hk, ha, q⟩ := h
    rfl
  · obtain ⟨n, s0, a, S, x, N, i, kp, p, rfl, hN, ok, hk, ha, q⟩ := h
    have hu := hu_of hr
    have hu2 := hu2_of hr
    refine ⟨_, PSs.nox ((pss_cons (ps_set (i := 4) sc_is_fresh.nd rfl (Or.inl rfl) (pe_ix ix_tup (pe_pr p_File_keeps hr (by decide) (pe_own o_Site_item hr (by decide) (pe_f T.cN T.aN_own_site (pv 0)) (pv 2))) (pv 1) (fun _ _ => rfl)))
      (pss_cons (ps_set (i := 5) sc_is_fresh.nd rfl (Or.inl rfl) (pe_ifExp (pt_cmpR op_eq (pe_pr p_Site_counts hr (by decide) (pe_f T.cN T.aN_own_site (pv 0))) pe_str (nomark _)) (pe_f T.cC T.aC_got (pv 3)) (pe_f T.cC T.aC_given (pv 3))))
      (pss_one (ps_ret (pe_or (pe_cmpR op_isN (pv 4) pe_non (nomark _)) (pe_one (pe_cmpR op_le (pe_op op_sub (pe_f T.cN T.aN_own_tick (pv 0)) (pv 5)) (pv 4) (nomark _))))))))), ?_⟩
    obtain ⟨dx, k, st, e, lf, fi, be, sv, co, vi, h1, hI⟩ := id hN
    obtain ⟨dxS, fS, tS, hs, hfS, _⟩ := id hI.site
    obtain ⟨dxC, hC⟩ := id ha
    refine ⟨_, rfl, n, dx, _, _, rfl, h1, rfl, _, rfl, s0, dxS, _, rfl, hs, s0, S, x, rfl, hI.site, ok.ns, fun pf fp => ?_⟩
    obtain ⟨dxF, rF, kF, f1, _⟩ := id fp
    refine ⟨pf, dxF, _, rfl, f1, pf, S.fd x, rfl, fp, fun kk hkk => ?_⟩
    refine ⟨_, rfl, kk, _, _, vt kp, rfl, rfl, SqT.of hkk, atI_nat (by rw [List.getElem?_map, hk]; rfl), ?_⟩
    refine ⟨_, rfl, n, dx, _, _, rfl, h1, rfl, s0, dxS, _, rfl, hs, s0, S, rfl, hI.site, rfl, _, rfl, ?_⟩
    have e0 : (V.str (cnv S.own) = V.str "own") ↔ S.own = true := by
      cases S.own
      · simp only [Bool.false_eq_true, iff_false]
        exact fun h => absurd h (by decide +kernel)
      · simp
    have rest : ∀ (b : Int), b = (if S.own = true then p.got else p.giv) → tRet (tOrV (tOp (fun x y H Q => y = .non ∧ Q (.bl (decide (x = .non))) H) (tVar 4) (tC .non)) (tOp (rI0 fun i j => .bl (decide (i ≤ j))) (tOp (rI0 fun i j => .int (i - j)) (tF c.N "own_tick" (tVar 0)) (tVar 5)) (tVar 4))) { nx := fun _ H' => Q .non H', rt := Q } [some (.ref n), some (.int i), some (.str x), some (.ref a), some (vt kp), some (.int b)] H := by
      intro b hb
      cases kp with
      | none =>
        refine ⟨_, rfl, rfl, _, rfl, ?_⟩
        exact iteT q
      | some kv =>
        refine ⟨_, rfl, rfl, _, rfl, ?_⟩
        refine iteF ?_
        refine ⟨_, rfl, n, dx, _, _, rfl, h1, rfl, _, rfl, _, _, rfl, rfl, _, rfl, _, _, rfl, rfl, ?_⟩
        have : freshB S.own N.tick (some kv) p = decide (N.tick - b ≤ kv) := by rw [hb]; rfl
        rw [this] at q
        exact q
    by_cases ho : S.own = true
    · refine iT (e0.mpr ho) ?_
      refine ⟨_, rfl, a, dxC, _, _, rfl, hC, rfl, ?_⟩
      exact rest p.got (by rw [if_pos ho])
    · refine iF (fun h => ho (e0.mp h)) ?_
      refine ⟨_, rfl, a, dxC, _, _, rfl, hC, rfl, ?_⟩
      exact rest p.giv (by rw [if_neg ho])

/-- visit_of -/
theorem w_visit_of {f : Addr} {fd : FuncData} {ks : List (Str × V)} {dvs : List V} (F : FunD K "visit_of" "visit_of" (defArgs s_visit_of) (defBody s_visit_of) (defScope s_visit_of) dvs ks f fd) (T : Txt K w mg c) (c_is_index : C8.Cal P w K mg base 2 "is_index" (sp_is_index) []) : FnOk P w K mg base C8.CX0 3 f fd ["net", "reader"] (sp_visit_of P w c) := by
  refine F.ok sc_visit_of (fun vs H Q E h => ?_) (fun cdv A outer s H vs Q E hr h => ?_)
  · obtain ⟨n, s0, S, x, N, i, con, rfl, hN, hi, q⟩ := h
    rfl
  · obtain ⟨n, s0, S, x, N, i, con, rfl, hN, hi, q⟩ := h
    have hu := hu_of hr
    have hu2 := hu2_of hr
    refine ⟨_, PSs.nox ((pss_cons (ps_if (pt_not (pt_val (C8.pe_c c_is_index hr (by decide) rfl (pa_cons (pv 1) (pa_cons (pe_callB call_len_seq rfl T.b_len (by decide +kernel) (pa_cons (pe_f T.cN T.aN_own_visits (pv 0)) pa_nil)) pa_nil))))) (pss_one ps_never) pss_nil)
      (pss_one (ps_ret (pe_ix ix_tup (pe_f T.cN T.aN_own_visits (pv 0)) (pv 1) (fun _ _ => rfl)))))), ?_⟩
    obtain ⟨dx, k, st, e, lf, fi, be, sv, co, vi, h1, hI⟩ := id hN
    obtain ⟨vs, hv, hl, hat⟩ := hI.viss
    have hlt := (List.getElem?_eq_some_iff.mp hi).1
    have e1 : vs[i]? = some vs[i] := List.getElem?_eq_getElem (by omega)
    refine ⟨_, rfl, _, rfl, n, dx, _, _, rfl, h1, rfl, vi, _, rfl, .inr (SqT.of hv), _, _, rfl, by omega, (by rw [List.length_map]; omega), true, rfl, iteF ?_⟩
    exact ⟨_, rfl, n, dx, _, _, rfl, h1, rfl, _, rfl, vi, _, _, .ref vs[i], rfl, rfl, SqT.of hv, atI_nat (by rw [List.getElem?_map, e1]; rfl), q _ (hat i _ _ e1 hi)⟩

end
end Wp

set_option Elab.async false
set_option linter.all false
set_option maxRecDepth 100000
set_option maxHeartbeats 2000000
namespace Wp
open PySem PySem.Spec PyProof.Rows L2
section
variable {P : Program} {w : World} {K : PySem.W.Frag} {mg : Str → Option Value} {base : Heap} {c : CA}

/-- is_possible -/
theorem w_is_possible {f : Addr} {fd : FuncData} {ks : List (Str × V)} {dvs : List V} (F : FunD K "is_possible" "is_possible" (defArgs s_is_possible) (defBody s_is_possible) (defScope s_is_possible) dvs ks f fd) (T : Txt K w mg c) (c_is_index : C8.Cal P w K mg base 2 "is_index" (sp_is_index) []) (o_Ed_len : Spc P w K mg base 1 c.E "__len__" (sp_Ed_len c)) (c_is_number : C8.Cal P w K mg base 1 "is_number" (sp_is_number) []) (p_Site_entries : Prp P w K mg base 1 c.S "entries" (sp_Site_entries c)) (o_Site_has : Spc P w K mg base 1 c.S "__contains__" (sp_Site_has c)) (c_copy_key : C8.Cal P w K mg base 6 "copy_key" (sp_copy_key P w c) []) : FnOk P w K mg base C8.CX0 7 f fd ["net", "deed"] (sp_is_possible P w c) := by
  refine F.ok sc_is_possible (fun vs H Q E h => ?_) (fun cdv A outer s H vs Q E hr h => ?_)
  · obtain ⟨n, s0, a, S, x, N, d, rfl, hN, ok, ha, hd, q⟩ := h
    rfl
  · obtain ⟨n, s0, a, S, x, N, d, rfl, hN, ok, ha, hd, q⟩ := h
    have hu := hu_of hr
    have hu2 := hu2_of hr
    refine ⟨_, PSs.nox ((pss_cons (ps_set (i := 2) sc_is_possible.nd rfl (Or.inl rfl) (pe_ix ix_tup (pv 1) pe_int (fun _ _ => rfl)))
      (pss_cons (ps_if (pt_cmpR op_eq (pv 2) pe_str (nomark _)) (pss_one (ps_ret (pe_and (pe_cmpR (op_eqD hr.units) (pe_f T.cN T.aN_own_left (pv 0)) (pe_tup pa_nil) (nomark _)) (pe_and (pe_cmpR op_lt (pe_callB (call_lenO o_Ed_len hr (by decide)) rfl T.b_len (by decide +kernel) (pa_cons (pe_f T.cN T.aN_own_editions (pv 0)) pa_nil)) (pe_gi rfl T.g_MOST_EDITIONS) (nomark _)) (pe_one (C8.pe_c c_is_index hr (by decide) rfl (pa_cons (pe_ix ix_tup (pv 1) pe_int (fun _ _ => rfl)) (pa_cons (pe_callB call_len_seq rfl T.b_len (by decide +kernel) (pa_cons (pe_f T.cN T.aN_own_kinds (pv 0)) pa_nil)) pa_nil)))))))) pss_nil)
      (pss_cons (ps_if (pt_cmpR op_eq (pv 2) pe_str (nomark _)) (pss_one (ps_ret (pe_cmpR (op_neD hr.units) (pe_f T.cN T.aN_own_left (pv 0)) (pe_tup pa_nil) (nomark _)))) pss_nil)
      (pss_cons (ps_if (pt_cmpR op_eq (pv 2) pe_str (nomark _)) (pss_one (ps_ret (pe_and (C8.pe_c c_is_number hr (by decide) rfl (pa_cons (pe_ix ix_tup (pv 1) pe_int (fun _ _ => rfl)) pa_nil)) (pe_one (pe_chain op_le op_le pe_int (pe_ix ix_tup (pv 1) pe_int (fun _ _ => rfl)) (pe_gi rfl T.g_MOST_WAIT)))))) pss_nil)
      (pss_cons (ps_if (pt_cmpR op_eq (pv 2) pe_str (nomark _)) (pss_one (ps_ret (pe_and (pe_cmpR (op_has o_Site_has hr (by decide)) (pe_ix ix_tup (pv 1) pe_int (fun _ _ => rfl)) (pe_f T.cN T.aN_own_site (pv 0)) (by rfl)) (pe_one (pe_cmpR op_in_seq (pe_ix ix_tup (pv 1) pe_int (fun _ _ => rfl)) (pe_pr p_Site_entries hr (by decide) (pe_f T.cN T.aN_own_site (pv 0))) (by rfl)))))) pss_nil)
      (pss_cons (ps_if (pt_cmpR op_eq (pv 2) pe_str (nomark _)) (pss_one ps_never) pss_nil)
      (pss_cons (ps_if (pt_cmpR op_eq (pv 2) pe_str (nomark _)) (pss_one ps_never) pss_nil)
      (pss_cons (ps_if (PW.pt (pw_or (pt_not (pt_val (C8.pe_c c_is_index hr (by decide) rfl (pa_cons (pe_ix ix_tup (pv 1) pe_int (fun _ _ => rfl)) (pa_cons (pe_callB call_len_seq rfl T.b_len (by decide +kernel) (pa_cons (pe_f T.cN T.aN_own_copies (pv 0)) pa_nil)) pa_nil))))) (pw_or (pt_cmpR (op_hasnt o_Site_has hr (by decide)) (pe_ix ix_tup (pv 1) pe_int (fun _ _ => rfl)) (pe_f T.cN T.aN_own_site (pv 0)) (by rfl)) (pw_or1 (pt_not (pt_val (C8.pe_c c_is_number hr (by decide) rfl (pa_cons (pe_ix ix_tup (pv 1) pe_int (fun _ _ => rfl)) pa_nil)))))))) (pss_one (ps_ret pe_bl)) pss_nil)
      (pss_cons (ps_par (i := 3) (j := 4) rfl sc_is_possible.nd rfl rfl (by decide) rfl rfl (pa_cons (pe_ix ix_tup (pe_f T.cN T.aN_own_copies (pv 0)) (pe_ix ix_tup (pv 1) pe_int (fun _ _ => rfl)) (fun _ _ => rfl)) (pa_cons (C8.pe_c c_copy_key hr (by decide) rfl (pa_cons (pv 0) (pa_cons (pe_ix ix_tup (pv 1) pe_int (fun _ _ => rfl)) (pa_cons (pe_ix ix_tup (pv 1) pe_int (fun _ _ => rfl)) pa_nil)))) pa_nil)) (by rfl))
      (pss_one (ps_ret (pe_and (pe_cmpR (op_cpIn hu) (pv 4) (pv 3) (by rfl)) (pe_one (pe_cmpR op_eq (pe_f T.cC T.aC_contents (pe_ix (ix_cp hu) (pv 3) (pv 4) (fun _ _ => rfl))) (pe_ix ix_tup (pv 1) pe_int (fun _ _ => rfl)) (nomark _)))))))))))))))), ?_⟩
    obtain ⟨dx, k, st, e, lf, fi, be, sv, co, vi, h1, hI⟩ := id hN
    obtain ⟨dxS, fS, tS, hs, hfS, _⟩ := id hI.site
    have nx := so_nm x ok.ns
    cases d with
    | beg =>
      refine ⟨_, rfl, a, _, _, .str "begin", rfl, rfl, SqT.of ha, atI_nat (j := 0) rfl, ?_⟩
      refine ⟨_, rfl, rfl, _, rfl, iT rfl ?_⟩
      refine ⟨_, rfl, n, dx, _, _, rfl, h1, rfl, (by show 0 ≤ sizeLine; decide), fun p hp => ?_⟩
      have s1 := same_new (o := .tup []) hp
      obtain ⟨dl, d1, d2, d3⟩ := left_d (K := K) (hI.fr T (.of s1)) nx
      refine ⟨dl, .tuple [], d1, .tup (SqT.of upd_same) .nil, d2, rfl, _, rfl, ?_⟩
      rw [d3, decide_eq_true (show N.ph ≠ 1 by rw [show N.ph = 0 from hd]; decide)]
      refine iteT ?_
      have h1' := s1 _ _ h1
      have hE := hI.eds.same s1
      rw [if_pos (show N.ph = 0 from hd)] at hE
      obtain ⟨dxE, cg, nu, t0, ts, hE1, _⟩ := id hE
      refine ⟨_, rfl, n, dx, _, _, rfl, h1', rfl, e, dxE, _, rfl, hE1, e, s0, _, rfl, hE, ?_⟩
      refine ⟨_, rfl, by decide, by decide, _, _, rfl, rfl, _, rfl, iteT ?_⟩
      obtain ⟨k0, hk, _⟩ := hI.kinds
      exact ⟨_, rfl, a, _, _, .int 0, rfl, rfl, SqT.of (s1 _ _ ha), atI_nat (j := 1) rfl, _, rfl, n, dx, _, _, rfl, h1', rfl, k, _, rfl, .inr (SqT.of (s1 _ _ hk)), _, _, rfl, by decide, by show (0 : Int) < 1; decide, q _ s1⟩
    | stp =>
      refine ⟨_, rfl, a, _, _, .str "step", rfl, rfl, SqT.of ha, atI_nat (j := 0) rfl, ?_⟩
      refine ⟨_, rfl, rfl, _, rfl, iF (by decide +kernel) ?_⟩
      refine ⟨_, rfl, rfl, _, rfl, iT rfl ?_⟩
      refine ⟨_, rfl, n, dx, _, _, rfl, h1, rfl, (by show 0 ≤ sizeLine; decide), fun p hp => ?_⟩
      have s1 := same_new (o := .tup []) hp
      obtain ⟨dl, d1, d2, d3⟩ := left_d (K := K) (hI.fr T (.of s1)) nx
      refine ⟨dl, .tuple [], d1, .tup (SqT.of upd_same) .nil, d2, rfl, ?_⟩
      rw [d3, decide_eq_false (show ¬ N.ph ≠ 1 by rw [show N.ph = 1 from hd]; decide)]
      exact q _ s1
    | wai t =>
      refine ⟨_, rfl, a, _, _, .str "wait", rfl, rfl, SqT.of ha, atI_nat (j := 0) rfl, ?_⟩
      refine ⟨_, rfl, rfl, _, rfl, iF (by decide +kernel) ?_⟩
      refine ⟨_, rfl, rfl, _, rfl, iF (by decide +kernel) ?_⟩
      refine ⟨_, rfl, rfl, _, rfl, iT rfl ?_⟩
      obtain ⟨h0, h2⟩ : 1 ≤ t ∧ t ≤ 20000 := hd
      refine ⟨_, rfl, a, _, _, .int t, rfl, rfl, SqT.of ha, atI_nat (j := 1) rfl, t, rfl, true, rfl, iteT ?_⟩
      refine ⟨_, rfl, a, _, _, .int t, rfl, rfl, SqT.of ha, atI_nat (j := 1) rfl, _, _, rfl, rfl, _, rfl, ?_⟩
      rw [decide_eq_true h0]
      refine iteT ?_
      exact ⟨_, _, rfl, rfl, qT h2 (q _ (Same.refl _))⟩
    | opn =>
      refine ⟨_, rfl, a, _, _, .str "open", rfl, rfl, SqT.of ha, atI_nat (j := 0) rfl, ?_⟩
      refine ⟨_, rfl, rfl, _, rfl, iF (by decide +kernel) ?_⟩
      refine ⟨_, rfl, rfl, _, rfl, iF (by decide +kernel) ?_⟩
      refine ⟨_, rfl, rfl, _, rfl, iF (by decide +kernel) ?_⟩
      refine ⟨_, rfl, rfl, _, rfl, iT rfl ?_⟩
      refine ⟨_, rfl, a, _, _, .str x, rfl, rfl, SqT.of ha, atI_nat (j := 1) rfl, _, rfl, n, dx, _, _, rfl, h1, rfl, s0, dxS, _, rfl, hs, s0, S, x, rfl, hI.site, ok.ns, true, rfl, _, rfl, iteT ?_⟩
      refine ⟨_, rfl, a, _, _, .str x, rfl, rfl, SqT.of ha, atI_nat (j := 1) rfl, _, rfl, n, dx, _, _, rfl, h1, rfl, s0, dxS, _, rfl, hs, s0, S, rfl, hI.site, fun H1 p s1 hp => ?_⟩
      refine ⟨p, _, rfl, .inr (SqT.of hp), rfl, by simp [flatV], ?_⟩
      show Q (.bl (if false = true then _ else inV (.str x) ((so S.es).map V.str))) H1
      rw [inV_str, decide_eq_true ((so_mem (fun z hz => ok.ok.g.nm z (ok.ok.pl z hz).1) x).mpr ok.ent)]
      exact q _ s1
    | los i con =>
      refine ⟨_, rfl, a, _, _, .str "lose", rfl, rfl, SqT.of ha, atI_nat (j := 0) rfl, ?_⟩
      refine ⟨_, rfl, rfl, _, rfl, iF (by decide +kernel) ?_⟩
      refine ⟨_, rfl, rfl, _, rfl, iF (by decide +kernel) ?_⟩
      refine ⟨_, rfl, rfl, _, rfl, iF (by decide +kernel) ?_⟩
      refine ⟨_, rfl, rfl, _, rfl, iF (by decide +kernel) ?_⟩
      refine ⟨_, rfl, rfl, _, rfl, iF (by decide +kernel) ?_⟩
      refine ⟨_, rfl, rfl, _, rfl, iF (by decide +kernel) ?_⟩
      obtain ⟨p, hp, rfl⟩ : ∃ p, N.cps[i]? = some (some p) ∧ p.con = con := hd
      obtain ⟨ds, hco, hl, hat⟩ := hI.cops
      have hlt := (List.getElem?_eq_some_iff.mp hp).1
      have e1 : ds[i]? = some ds[i] := List.getElem?_eq_getElem (by omega)
      refine ⟨_, rfl, a, _, _, .int i, rfl, rfl, SqT.of ha, atI_nat (j := 1) rfl, _, rfl, n, dx, _, _, rfl, h1, rfl, co, _, rfl, .inr (SqT.of hco), _, _, rfl, by omega, (by rw [List.length_map]; omega), true, rfl, iteF ?_⟩
      refine ⟨_, rfl, a, _, _, .str x, rfl, rfl, SqT.of ha, atI_nat (j := 2) rfl, _, rfl, n, dx, _, _, rfl, h1, rfl, s0, dxS, _, rfl, hs, s0, S, x, rfl, hI.site, ok.ns, true, rfl, _, rfl, iteF ?_⟩
      refine ⟨_, rfl, a, _, _, .int p.con, rfl, rfl, SqT.of ha, atI_nat (j := 3) rfl, p.con, rfl, true, rfl, iteF ?_⟩
      refine ⟨_, rfl, n, dx, _, _, rfl, h1, rfl, _, rfl, a, _, _, .int i, rfl, rfl, SqT.of ha, atI_nat (j := 1) rfl, co, _, _, .ref ds[i], rfl, rfl, SqT.of hco, atI_nat (by rw [List.getElem?_map, e1]; rfl), ?_⟩
      refine ⟨_, rfl, _, rfl, a, _, _, .str x, rfl, rfl, SqT.of ha, atI_nat (j := 2) rfl, _, rfl, a, _, _, .int p.con, rfl, rfl, SqT.of ha, atI_nat (j := 3) rfl, n, s0, S, x, N, _, rfl, hN, ok, fun H1 kp s1 hkp => ?_⟩
      obtain ⟨q1, c1, c2, kt, ca, rfl, c3⟩ := hat i _ _ e1 hp
      have c1' := s1 _ _ c1
      have kt' := s1 _ _ (c2 kt ca rfl)
      obtain ⟨dxC, hC⟩ := id c3
      refine ⟨_, _, rfl, ?_⟩
      refine ⟨_, rfl, _, rfl, kp, ds[i], x, _, rfl, hkp, rfl, c1', .some kt', _, rfl, iteT ?_⟩
      exact ⟨_, rfl, _, rfl, kp, ds[i], x, kt, ca, rfl, c1', kt', rfl, hkp, ca, dxC, _, _, rfl, s1 _ _ hC, rfl, _, rfl, a, _, _, .int p.con, rfl, rfl, SqT.of (s1 _ _ ha), atI_nat (j := 3) rfl, rfl, qT rfl (q _ s1)⟩

/-- Net.need -/
theorem w_Net_need {f : Addr} {fd : FuncData} {ks : List (Str × V)} {dvs : List V} (F : FunD K "need" "Net.need" (defArgs s_Net_need) (defBody s_Net_need) (defScope s_Net_need) dvs ks f fd) (T : Txt K w mg c) (c_is_possible : C8.Cal P w K mg base 7 "is_possible" (sp_is_possible P w c) []) (c_is_deed_form : C8.Cal P w K mg base 1 "is_deed_form" (sp_is_deed_form) []) : FnOk P w K mg base C8.CX0 8 f fd ["self", "deed"] (sp_Net_need P w c) := by
  refine F.ok sc_Net_need (fun vs H Q E h => ?_) (fun cdv A outer s H vs Q E hr h => ?_)
  · obtain ⟨n, s0, a, S, x, N, d, rfl, hN, ok, ha, hd, q⟩ := h
    rfl
  · obtain ⟨n, s0, a, S, x, N, d, rfl, hN, ok, ha, hd, q⟩ := h
    have hu := hu_of hr
    have hu2 := hu2_of hr
    refine ⟨_, PSs.nox ((pss_one (ps_if (PW.pt (pw_or (pt_not (pt_val (C8.pe_c c_is_deed_form hr (by decide) rfl (pa_cons (pv 1) pa_nil)))) (pw_or1 (pt_not (pt_val (C8.pe_c c_is_possible hr (by decide) rfl (pa_cons (pv 0) (pa_cons (pv 1) pa_nil)))))))) (pss_one ps_never) pss_nil))), ?_⟩
    refine ⟨_, rfl, a, x, d, rfl, ha, true, rfl, iteF ?_⟩
    exact ⟨_, rfl, _, rfl, n, s0, a, S, x, N, d, rfl, hN, ok, ha, hd, fun H1 s1 => ⟨true, rfl, iteF (q _ s1)⟩⟩

end
end Wp

set_option Elab.async false
set_option linter.all false
set_option maxRecDepth 100000
set_option maxHeartbeats 2000000
namespace Wp
open PySem PySem.Spec PyProof.Rows L2
section
variable {P : Program} {w : World} {K : PySem.W.Frag} {mg : Str → Option Value} {base : Heap} {c : CA}

/-- Net.__init__ -/
theorem w_Net_init {f : Addr} {fd : FuncData} {ks : List (Str × V)} {dvs : List V} (F : FunD K "__init__" "Net.__init__" (defArgs s_Net_init) (defBody s_Net_init) (defScope s_Net_init) dvs ks f fd) (T : Txt K w mg c) (c_made_kinds : C8.Cal P w K mg base 4 "made_kinds" (sp_made_kinds c) []) (c_made_steps : C8.Cal P w K mg base 4 "made_steps" (sp_made_steps c) []) (k_Editions : C8.Mak P w K mg base 5 "Editions" c.E (sp_Ed_init K c) [.ref c.e0]) (m_Site_names : C8.Met P w K mg base 1 c.S "names" (sp_Site_names c) []) (p_Site_caches : Prp P w K mg base 3 c.S "caches" (sp_Site_caches c)) : FnOk P w K mg base C8.CX0 7 f fd ["self", "site", "kinds", "steps"] (sp_Net_init P w c) := by
  refine F.ok sc_Net_init (fun vs H Q E h => ?_) (fun cdv A outer s H vs Q E hr h => ?_)
  · obtain ⟨n, dx, s0, k0, kb, st0, S, x, ps, rfl, hn, hS, ok, hx, hk, hkb, hst, hpl2, hps, q⟩ := h
    rfl
  · obtain ⟨n, dx, s0, k0, kb, st0, S, x, ps, rfl, hn, hS, ok, hx, hk, hkb, hst, hpl2, hps, q⟩ := h
    have hu := hu_of hr
    have hu2 := hu2_of hr
    refine ⟨_, PSs.nox ((pss_cons (ps_f T.cN T.aN_own_kinds (pv 0) (C8.pe_c c_made_kinds hr (by decide) rfl (pa_cons (pv 1) (pa_cons (pv 2) pa_nil))))
      (pss_cons (ps_f T.cN T.aN_own_steps (pv 0) (C8.pe_c c_made_steps hr (by decide) rfl (pa_cons (pv 1) (pa_cons (pv 3) pa_nil))))
      (pss_cons (ps_f T.cN T.aN_own_site (pv 0) (pv 1))
      (pss_cons (ps_f T.cN T.aN_own_tick (pv 0) pe_int)
      (pss_cons (ps_f T.cN T.aN_own_editions (pv 0) (C8.pe_mk k_Editions hr (by decide) rfl (pa_cons (pv 1) pa_nil)))
      (pss_cons (ps_f T.cN T.aN_own_left (pv 0) (pe_tup pa_nil))
      (pss_cons (ps_f T.cN T.aN_own_finished (pv 0) (pe_tup pa_nil))
      (pss_cons (ps_f T.cN T.aN_own_begun (pv 0) (pe_tup pa_nil))
      (pss_cons (ps_f T.cN T.aN_own_server (pv 0) (pe_dcR (own := [("name", 4)]) rfl sc_Net_init.nd (pi_list (C8.pe_mt0 m_Site_names hr (by decide) (pv 1))) (blkOk_by (own := [("name", 4)]) (N := n_Net_init) (sc := defScope s_Net_init) (by decide +kernel)) (fun _ _ _ _ _ => (pg_name (i := 4) sc_Net_init.nd rfl (Or.inl rfl))) (fun _ _ _ _ _ => (pv 4)) (fun _ _ _ _ _ => (pe_tup (pa_cons pe_int pa_nil)))))
      (pss_cons (ps_f T.cN T.aN_own_copies (pv 0) (pe_callTy call_tuple_of rfl T.b_tuple (by decide +kernel) (pa_cons (pe_lcR (own := [("cache", 5)]) rfl sc_Net_init.nd (pi_range1 rfl T.b_range (pa_cons (pe_pr p_Site_caches hr (by decide) (pv 1)) pa_nil)) (blkOk_by (own := [("cache", 5)]) (N := n_Net_init) (sc := defScope s_Net_init) (by decide +kernel)) (fun _ _ _ _ _ => (pg_name (i := 5) sc_Net_init.nd rfl (Or.inl rfl))) (fun _ _ _ _ _ => (cpnewK (P := P) (w := w) rfl rfl))) pa_nil)))
      (pss_one (ps_f T.cN T.aN_own_visits (pv 0) (pe_tup pa_nil)))))))))))))), ?_⟩
    have nx : x ∈ so S.ns := (so_mem ok.g.nm x).mpr (ok.pl x hx).1
    have hpl := (ok.pl x hx).2
    obtain ⟨kc, hkc⟩ := ok.kc
    have hkx : (S.fd x).keeps.length = kc := hkc x (ok.pl x hx).1
    have hne : S.ns ≠ [] := fun h => by have := ok.one; rw [h] at this; simp at this
    have l8 := so_len S.ns
    refine ⟨_, rfl, _, rfl, s0, k0, kb, S, x, rfl, hS, hk, hkb, nx, fun H1 k1 kt1 s1 hk1 hkt1 => ?_⟩
    have hn1 := s1 _ _ hn
    refine ⟨_, rfl, n, dx, _, rfl, hn1, by decide, ?_⟩
    have b2 := But.upd n H1 (.ins c.N dx (putF "own_kinds" (.ref k1) []))
    have f2 := b2.nI hn1
    have hn2 : (upd H1 n (.ins c.N dx (putF "own_kinds" (.ref k1) []))) n = some (.ins c.N dx [("own_kinds", .ref k1)]) := upd_same
    generalize upd H1 n (.ins c.N dx (putF "own_kinds" (.ref k1) [])) = H2 at b2 f2 hn2
    have a2 : Fr (nI c.N) H H2 := (Fr.of s1).trans f2
    refine ⟨_, rfl, _, rfl, s0, st0, S, ps, rfl, hS.nI a2 T.neSN T.neFN, hne, a2 _ _ hst (nI_lst _), hpl2, fun i p z e1 e2 => a2 _ _ (hps i p z e1 e2) (nI_lst _), fun H3 st1 ts s3 hst1 hts hat => ?_⟩
    have hn3 := s3 _ _ hn2
    refine ⟨_, rfl, n, dx, _, rfl, hn3, by show 1 < 1000; decide, ?_⟩
    have b4 := But.upd n H3 (.ins c.N dx (putF "own_steps" (.ref st1) [("own_kinds", .ref k1)]))
    have f4 := b4.nI hn3
    have hn4 : (upd H3 n (.ins c.N dx (putF "own_steps" (.ref st1) [("own_kinds", .ref k1)]))) n = some (.ins c.N dx [("own_kinds", .ref k1), ("own_steps", .ref st1)]) := upd_same
    generalize upd H3 n (.ins c.N dx (putF "own_steps" (.ref st1) [("own_kinds", .ref k1)])) = H4 at b4 f4 hn4
    refine ⟨_, rfl, _, rfl, n, dx, _, rfl, hn4, by show 2 < 1000; decide, ?_⟩
    have b5 := But.upd n H4 (.ins c.N dx (putF "own_site" (.ref s0) [("own_kinds", .ref k1), ("own_steps", .ref st1)]))
    have f5 := b5.nI hn4
    have hn5 : (upd H4 n (.ins c.N dx (putF "own_site" (.ref s0) [("own_kinds", .ref k1), ("own_steps", .ref st1)]))) n = some (.ins c.N dx [("own_kinds", .ref k1), ("own_steps", .ref st1), ("own_site", .ref s0)]) := upd_same
    generalize upd H4 n (.ins c.N dx (putF "own_site" (.ref s0) [("own_kinds", .ref k1), ("own_steps", .ref st1)])) = H5 at b5 f5 hn5
    refine ⟨_, rfl, n, dx, _, rfl, hn5, by show 3 < 1000; decide, ?_⟩
    have b6 := But.upd n H5 (.ins c.N dx (putF "own_tick" (.int 0) [("own_kinds", .ref k1), ("own_steps", .ref st1), ("own_site", .ref s0)]))
    have f6 := b6.nI hn5
    have hn6 : (upd H5 n (.ins c.N dx (putF "own_tick" (.int 0) [("own_kinds", .ref k1), ("own_steps", .ref st1), ("own_site", .ref s0)]))) n = some (.ins c.N dx [("own_kinds", .ref k1), ("own_steps", .ref st1), ("own_site", .ref s0), ("own_tick", .int 0)]) := upd_same
    generalize upd H5 n (.ins c.N dx (putF "own_tick" (.int 0) [("own_kinds", .ref k1), ("own_steps", .ref st1), ("own_site", .ref s0)])) = H6 at b6 f6 hn6
    have a6 : Fr (nI c.N) H H6 := a2.trans ((Fr.of s3).trans (f4.trans (f5.trans f6)))
    refine ⟨_, rfl, fun e1 de1 he1 hde1 _ => ?_⟩
    have sm := mk_same (C := c.E) he1 hde1
    refine ⟨e1, de1, s0, c.e0, S, none, rfl, upd_same, (hS.nI a6 T.neSN T.neFN).same sm, ok, T.t_e0 _, fun H7 hE7 bE => ⟨rfl, ?_⟩⟩
    have s7 : Same H6 H7 := bE.back sm he1
    have hn7 := s7 _ _ hn6
    refine ⟨_, rfl, n, dx, _, rfl, hn7, by show 4 < 1000; decide, ?_⟩
    have b8 := But.upd n H7 (.ins c.N dx (putF "own_editions" (.ref e1) [("own_kinds", .ref k1), ("own_steps", .ref st1), ("own_site", .ref s0), ("own_tick", .int 0)]))
    have f8 := b8.nI hn7
    have hn8 : (upd H7 n (.ins c.N dx (putF "own_editions" (.ref e1) [("own_kinds", .ref k1), ("own_steps", .ref st1), ("own_site", .ref s0), ("own_tick", .int 0)]))) n = some (.ins c.N dx [("own_kinds", .ref k1), ("own_steps", .ref st1), ("own_site", .ref s0), ("own_tick", .int 0), ("own_editions", .ref e1)]) := upd_same
    generalize upd H7 n (.ins c.N dx (putF "own_editions" (.ref e1) [("own_kinds", .ref k1), ("own_steps", .ref st1), ("own_site", .ref s0), ("own_tick", .int 0)])) = H8 at b8 f8 hn8
    refine ⟨by show 0 ≤ sizeLine; decide, fun lf hlf => ?_⟩
    have s9 := same_new (o := .tup []) hlf
    have hlf9 : (upd H8 lf (.tup [])) lf = some (.tup []) := upd_same
    generalize upd H8 lf (.tup []) = H9 at s9 hlf9
    have hn9 := s9 _ _ hn8
    refine ⟨_, rfl, n, dx, _, rfl, hn9, by show 5 < 1000; decide, ?_⟩
    have b10 := But.upd n H9 (.ins c.N dx (putF "own_left" (.ref lf) [("own_kinds", .ref k1), ("own_steps", .ref st1), ("own_site", .ref s0), ("own_tick", .int 0), ("own_editions", .ref e1)]))
    have f10 := b10.nI hn9
    have hn10 : (upd H9 n (.ins c.N dx (putF "own_left" (.ref lf) [("own_kinds", .ref k1), ("own_steps", .ref st1), ("own_site", .ref s0), ("own_tick", .int 0), ("own_editions", .ref e1)]))) n = some (.ins c.N dx [("own_kinds", .ref k1), ("own_steps", .ref st1), ("own_site", .ref s0), ("own_tick", .int 0), ("own_editions", .ref e1), ("own_left", .ref lf)]) := upd_same
    generalize upd H9 n (.ins c.N dx (putF "own_left" (.ref lf) [("own_kinds", .ref k1), ("own_steps", .ref st1), ("own_site", .ref s0), ("own_tick", .int 0), ("own_editions", .ref e1)])) = H10 at b10 f10 hn10
    refine ⟨by show 0 ≤ sizeLine; decide, fun fi hfi => ?_⟩
    have s11 := same_new (o := .tup []) hfi
    have hfi11 : (upd H10 fi (.tup [])) fi = some (.tup []) := upd_same
    generalize upd H10 fi (.tup []) = H11 at s11 hfi11
    have hn11 := s11 _ _ hn10
    refine ⟨_, rfl, n, dx, _, rfl, hn11, by show 6 < 1000; decide, ?_⟩
    have b12 := But.upd n H11 (.ins c.N dx (putF "own_finished" (.ref fi) [("own_kinds", .ref k1), ("own_steps", .ref st1), ("own_site", .ref s0), ("own_tick", .int 0), ("own_editions", .ref e1), ("own_left", .ref lf)]))
    have f12 := b12.nI hn11
    have hn12 : (upd H11 n (.ins c.N dx (putF "own_finished" (.ref fi) [("own_kinds", .ref k1), ("own_steps", .ref st1), ("own_site", .ref s0), ("own_tick", .int 0), ("own_editions", .ref e1), ("own_left", .ref lf)]))) n = some (.ins c.N dx [("own_kinds", .ref k1), ("own_steps", .ref st1), ("own_site", .ref s0), ("own_tick", .int 0), ("own_editions", .ref e1), ("own_left", .ref lf), ("own_finished", .ref fi)]) := upd_same
    generalize upd H11 n (.ins c.N dx (putF "own_finished" (.ref fi) [("own_kinds", .ref k1), ("own_steps", .ref st1), ("own_site", .ref s0), ("own_tick", .int 0), ("own_editions", .ref e1), ("own_left", .ref lf)])) = H12 at b12 f12 hn12
    refine ⟨by show 0 ≤ sizeLine; decide, fun be hbe => ?_⟩
    have s13 := same_new (o := .tup []) hbe
    have hbe13 : (upd H12 be (.tup [])) be = some (.tup []) := upd_same
    generalize upd H12 be (.tup []) = H13 at s13 hbe13
    have hn13 := s13 _ _ hn12
    refine ⟨_, rfl, n, dx, _, rfl, hn13, by show 7 < 1000; decide, ?_⟩
    have b14 := But.upd n H13 (.ins c.N dx (putF "own_begun" (.ref be) [("own_kinds", .ref k1), ("own_steps", .ref st1), ("own_site", .ref s0), ("own_tick", .int 0), ("own_editions", .ref e1), ("own_left", .ref lf), ("own_finished", .ref fi)]))
    have f14 := b14.nI hn13
    have hn14 : (upd H13 n (.ins c.N dx (putF "own_begun" (.ref be) [("own_kinds", .ref k1), ("own_steps", .ref st1), ("own_site", .ref s0), ("own_tick", .int 0), ("own_editions", .ref e1), ("own_left", .ref lf), ("own_finished", .ref fi)]))) n = some (.ins c.N dx [("own_kinds", .ref k1), ("own_steps", .ref st1), ("own_site", .ref s0), ("own_tick", .int 0), ("own_editions", .ref e1), ("own_left", .ref lf), ("own_finished", .ref fi), ("own_begun", .ref be)]) := upd_same
    generalize upd H13 n (.ins c.N dx (putF "own_begun" (.ref be) [("own_kinds", .ref k1), ("own_steps", .ref st1), ("own_site", .ref s0), ("own_tick", .int 0), ("own_editions", .ref e1), ("own_left", .ref lf), ("own_finished", .ref fi)])) = H14 at b14 f14 hn14
    have a8 : Fr (nI c.N) H H8 := a6.trans ((Fr.of s7).trans f8)
    have a14 : Fr (nI c.N) H8 H14 := (Fr.of s9).trans (f10.trans ((Fr.of s11).trans (f12.trans ((Fr.of s13).trans f14))))
    have hS14 := hS.nI (a8.trans a14) T.neSN T.neFN
    obtain ⟨dxS, fS, tS, hs14, _⟩ := id hS14
    refine ⟨_, rfl, s0, dxS, _, rfl, hs14, rfl, s0, S, rfl, hS14, fun l hl => ?_⟩
    refine ⟨l, rfl, ⟨_, SqL.of upd_same⟩, _, _, _, so S.ns, fun D H i y => ∃ t, y = .ref t ∧ H t = some (.tup [.int 0]), walk_list, by simp, so_nd _, fun {D H H' i y} b hD h => ?_, fun H s => s.seq (SqL.of upd_same), yat_same, (by rw [List.length_map, sizeLine_eq]; omega), fun D acc i y z H8' e1' hD hDa sm' yy k hk' => ?_, fun sv H15 gv hsv s15 hsv15 hgv => ?_⟩
    · obtain ⟨t, e, h⟩ := h
      exact ⟨t, e, b.frD hD _ _ h (fun _ => by intro z; cases z)⟩
    · obtain ⟨_, ez⟩ := yy
      rw [List.getElem?_map, e1'] at ez
      cases ez
      exact ⟨rfl, _, rfl, by show 1 ≤ sizeLine; decide, fun t ht => hk' _ _ (same_new ht) ⟨t, rfl, upd_same⟩⟩
    have s15' := (same_new (o := .lst ((so S.ns).map V.str)) hl).trans s15
    have hn15 := s15' _ _ hn14
    have hgx : ∃ t, gv x = .ref t ∧ H15 t = some (.tup [.int 0]) := by
      obtain ⟨i, hi, ei⟩ := List.mem_iff_getElem.mp nx
      exact hgv i x (by rw [List.getElem?_eq_getElem hi, ei])
    refine ⟨_, rfl, n, dx, _, rfl, hn15, by show 8 < 1000; decide, ?_⟩
    have b16 := But.upd n H15 (.ins c.N dx (putF "own_server" (.ref sv) [("own_kinds", .ref k1), ("own_steps", .ref st1), ("own_site", .ref s0), ("own_tick", .int 0), ("own_editions", .ref e1), ("own_left", .ref lf), ("own_finished", .ref fi), ("own_begun", .ref be)]))
    have f16 := b16.nI hn15
    have hn16 : (upd H15 n (.ins c.N dx (putF "own_server" (.ref sv) [("own_kinds", .ref k1), ("own_steps", .ref st1), ("own_site", .ref s0), ("own_tick", .int 0), ("own_editions", .ref e1), ("own_left", .ref lf), ("own_finished", .ref fi), ("own_begun", .ref be)]))) n = some (.ins c.N dx [("own_kinds", .ref k1), ("own_steps", .ref st1), ("own_site", .ref s0), ("own_tick", .int 0), ("own_editions", .ref e1), ("own_left", .ref lf), ("own_finished", .ref fi), ("own_begun", .ref be), ("own_server", .ref sv)]) := upd_same
    generalize upd H15 n (.ins c.N dx (putF "own_server" (.ref sv) [("own_kinds", .ref k1), ("own_steps", .ref st1), ("own_site", .ref s0), ("own_tick", .int 0), ("own_editions", .ref e1), ("own_left", .ref lf), ("own_finished", .ref fi), ("own_begun", .ref be)])) = H16 at b16 f16 hn16
    have a16 : Fr (nI c.N) H H16 := (a8.trans a14).trans ((Fr.of s15').trans f16)
    have hS16 := hS.nI a16 T.neSN T.neFN
    obtain ⟨dxS, fS, tS, hs16, _⟩ := id hS16
    have k4 : kc ≤ 4 := by rw [← hkx]; exact (ok.g.ok x (ok.pl x hx).1).few
    refine ⟨_, rfl, s0, dxS, _, rfl, hs16, s0, S, kc, rfl, hS16, ok, hkc, fun H17 s17 => ?_⟩
    refine ⟨(kc : Int), rfl, by omega, by omega, ?_⟩
    refine ⟨_, _, _, fun D H i y => ∃ d, y = .ref d ∧ H d = some (CpO P w d x none), walk_range (lo := 0) (n := (kc : Int).toNat), fun {D H H' i y} b hD h => ?_, fun _ _ => trivial, fun _ _ _ _ y => y.1, (by rw [sizeLine_eq]; omega), fun D acc i y H18 hi hD hDa sm' yy k hk' => ?_, fun D H18 ys hD s18 h18 hl18 hR => ?_⟩
    · obtain ⟨d, e, h⟩ := h
      exact ⟨d, e, b.frL hD _ _ h (fun _ => by intro z; cases z)⟩
    · exact ⟨rfl, x, fun p hp => hk' _ _ (same_new hp) ⟨p, rfl, upd_same⟩⟩
    refine ⟨D, _, rfl, .inl ⟨SqL.of h18, fun co hco => ?_⟩⟩
    have s19 : Same H16 (upd H18 co (.tup ys)) := s17.trans (s18.trans (same_new hco))
    have hco19 : (upd H18 co (.tup ys)) co = some (.tup ys) := upd_same
    have hR19 : ∀ (i : Nat) (y : V), ys[i]? = some y → ∃ d, y = .ref d ∧ (upd H18 co (.tup ys)) d = some (CpO P w d x none) := fun i y e => by
      obtain ⟨d, e1, h⟩ := hR i y e
      exact ⟨d, e1, same_new hco _ _ h⟩
    generalize upd H18 co (.tup ys) = H19 at s19 hco19 hR19
    have hn19 := s19 _ _ hn16
    refine ⟨_, rfl, n, dx, _, rfl, hn19, by show 9 < 1000; decide, ?_⟩
    have b20 := But.upd n H19 (.ins c.N dx (putF "own_copies" (.ref co) [("own_kinds", .ref k1), ("own_steps", .ref st1), ("own_site", .ref s0), ("own_tick", .int 0), ("own_editions", .ref e1), ("own_left", .ref lf), ("own_finished", .ref fi), ("own_begun", .ref be), ("own_server", .ref sv)]))
    have f20 := b20.nI hn19
    have hn20 : (upd H19 n (.ins c.N dx (putF "own_copies" (.ref co) [("own_kinds", .ref k1), ("own_steps", .ref st1), ("own_site", .ref s0), ("own_tick", .int 0), ("own_editions", .ref e1), ("own_left", .ref lf), ("own_finished", .ref fi), ("own_begun", .ref be), ("own_server", .ref sv)]))) n = some (.ins c.N dx [("own_kinds", .ref k1), ("own_steps", .ref st1), ("own_site", .ref s0), ("own_tick", .int 0), ("own_editions", .ref e1), ("own_left", .ref lf), ("own_finished", .ref fi), ("own_begun", .ref be), ("own_server", .ref sv), ("own_copies", .ref co)]) := upd_same
    generalize upd H19 n (.ins c.N dx (putF "own_copies" (.ref co) [("own_kinds", .ref k1), ("own_steps", .ref st1), ("own_site", .ref s0), ("own_tick", .int 0), ("own_editions", .ref e1), ("own_left", .ref lf), ("own_finished", .ref fi), ("own_begun", .ref be), ("own_server", .ref sv)])) = H20 at b20 f20 hn20
    refine ⟨by show 0 ≤ sizeLine; decide, fun vi hvi => ?_⟩
    have s21 := same_new (o := .tup []) hvi
    have hvi21 : (upd H20 vi (.tup [])) vi = some (.tup []) := upd_same
    generalize upd H20 vi (.tup []) = H21 at s21 hvi21
    have hn21 := s21 _ _ hn20
    refine ⟨_, rfl, n, dx, _, rfl, hn21, by show 10 < 1000; decide, ?_⟩
    have b22 := But.upd n H21 (.ins c.N dx (putF "own_visits" (.ref vi) [("own_kinds", .ref k1), ("own_steps", .ref st1), ("own_site", .ref s0), ("own_tick", .int 0), ("own_editions", .ref e1), ("own_left", .ref lf), ("own_finished", .ref fi), ("own_begun", .ref be), ("own_server", .ref sv), ("own_copies", .ref co)]))
    have f22 := b22.nI hn21
    have hn22 : (upd H21 n (.ins c.N dx (putF "own_visits" (.ref vi) [("own_kinds", .ref k1), ("own_steps", .ref st1), ("own_site", .ref s0), ("own_tick", .int 0), ("own_editions", .ref e1), ("own_left", .ref lf), ("own_finished", .ref fi), ("own_begun", .ref be), ("own_server", .ref sv), ("own_copies", .ref co)]))) n = some (.ins c.N dx [("own_kinds", .ref k1), ("own_steps", .ref st1), ("own_site", .ref s0), ("own_tick", .int 0), ("own_editions", .ref e1), ("own_left", .ref lf), ("own_finished", .ref fi), ("own_begun", .ref be), ("own_server", .ref sv), ("own_copies", .ref co), ("own_visits", .ref vi)]) := upd_same
    generalize upd H21 n (.ins c.N dx (putF "own_visits" (.ref vi) [("own_kinds", .ref k1), ("own_steps", .ref st1), ("own_site", .ref s0), ("own_tick", .int 0), ("own_editions", .ref e1), ("own_left", .ref lf), ("own_finished", .ref fi), ("own_begun", .ref be), ("own_server", .ref sv), ("own_copies", .ref co)])) = H22 at b22 f22 hn22
    have z20 : Fr (nI c.N) H20 H22 := (Fr.of s21).trans f22
    have z19 : Fr (nI c.N) H19 H22 := f20.trans z20
    have z16 : Fr (nI c.N) H16 H22 := (Fr.of s19).trans z19
    have z15 : Fr (nI c.N) H15 H22 := f16.trans z16
    have z14 : Fr (nI c.N) H14 H22 := (Fr.of s15').trans z15
    have z13 : Fr (nI c.N) H13 H22 := f14.trans z14
    have z11 : Fr (nI c.N) H11 H22 := f12.trans ((Fr.of s13).trans z13)
    have z9 : Fr (nI c.N) H9 H22 := f10.trans ((Fr.of s11).trans z11)
    have z7 : Fr (nI c.N) H7 H22 := f8.trans ((Fr.of s9).trans z9)
    have z3 : Fr (nI c.N) H3 H22 := f4.trans (f5.trans (f6.trans ((Fr.of s7).trans z7)))
    have z1 : Fr (nI c.N) H1 H22 := f2.trans ((Fr.of s3).trans z3)
    have z0 : Fr (nI c.N) H H22 := (Fr.of s1).trans z1
    have ball : But n H H22 := (But.of s1).trans (b2.trans ((But.of s3).trans (b4.trans (b5.trans (b6.trans ((But.of s7).trans (b8.trans ((But.of s9).trans (b10.trans ((But.of s11).trans (b12.trans ((But.of s13).trans (b14.trans ((But.of s15').trans (b16.trans ((But.of s19).trans (b20.trans ((But.of s21).trans b22))))))))))))))))))
    obtain ⟨tx, gx1, gx2⟩ := hgx
    have hlys : ys.length = kc := by rw [hl18]; omega
    refine q _ ⟨dx, k1, st1, e1, lf, fi, be, sv, co, vi, hn22, ?_⟩ ball
    refine ⟨hS.nI z0 T.neSN T.neFN, ⟨kt1, z1 _ _ hk1 (nI_tup _), z1 _ _ hkt1 (nI_tup _)⟩, ⟨ts, z3 _ _ hst1 (nI_tup _), hts, fun i y z e1' e2 => ?_⟩, hE7.nI z7 T.neEN, z9 _ _ hlf9 (nI_tup _), ⟨[], z11 _ _ hfi11 (nI_tup _), by decide, fun _ => rfl⟩, z13 _ _ hbe13 (nI_tup _), ⟨gv, z15 _ _ hsv15 (nI_dK _), tx, gx1, z15 _ _ gx2 (nI_tup _)⟩, ?_, ⟨[], z20.trans (.refl _) |> fun _ => f22 _ _ hvi21 (nI_tup _), rfl, fun i v m e => by simp at e⟩⟩
    · obtain ⟨t, e3, h⟩ := hat i y z e1' e2
      exact ⟨t, e3, z3 _ _ h (nI_tup _)⟩
    · have hys : ∃ ds : List Addr, ys = ds.map V.ref ∧ ∀ (i : Nat) (d : Addr), ds[i]? = some d → H19 d = some (CpO P w d x none) := by
        clear hco19 h18 hlys hl18 hR z19 s19 hn19
        induction ys with
        | nil => exact ⟨[], rfl, fun i d e => by simp at e⟩
        | cons y r ih =>
          obtain ⟨d, rfl, hd⟩ := hR19 0 y rfl
          obtain ⟨ds, rfl, h⟩ := ih fun i y e => hR19 (i + 1) y (by simpa using e)
          refine ⟨d :: ds, rfl, fun i d' e => ?_⟩
          cases i with
          | zero => cases e; exact hd
          | succ i => exact h i d' (by simpa using e)
      obtain ⟨ds, rfl, hds⟩ := hys
      rw [List.length_map] at hlys
      refine ⟨ds, z19 _ _ hco19 (nI_tup _), by show ds.length = (List.replicate _ _).length; rw [List.length_replicate, hlys, hkx], fun i d o e1' e2 => ?_⟩
      obtain rfl : o = none := List.eq_of_mem_replicate (List.mem_of_getElem? e2)
      exact ⟨none, z19 _ _ (hds i d e1') (nI_ext _), .none, rfl⟩

end
end Wp

set_option Elab.async false
set_option linter.all false
set_option maxRecDepth 100000
set_option maxHeartbeats 2000000
namespace Wp
open PySem PySem.Spec PyProof.Rows L2
section
variable {P : Program} {w : World} {K : PySem.W.Frag} {mg : Str → Option Value} {base : Heap} {c : CA}

/-- Net.publishing -/
theorem w_Net_publishing {f : Addr} {fd : FuncData} {ks : List (Str × V)} {dvs : List V} (F : FunD K "publishing" "Net.publishing" (defArgs s_Net_publishing) (defBody s_Net_publishing) (defScope s_Net_publishing) dvs ks f fd) (T : Txt K w mg c)  : FnOk P w K mg base C8.CX0 1 f fd ["self"] (sp_Net_publishing P w c) := by
  refine F.ok sc_Net_publishing (fun vs H Q E h => ?_) (fun cdv A outer s H vs Q E hr h => ?_)
  · obtain ⟨n, s0, S, x, N, rfl, hN, ok, q⟩ := h
    rfl
  · obtain ⟨n, s0, S, x, N, rfl, hN, ok, q⟩ := h
    have hu := hu_of hr
    have hu2 := hu2_of hr
    refine ⟨_, PSs.nox ((pss_one (ps_ret (pe_ifExp (pt_cmpR (op_neD hr.units) (pe_f T.cN T.aN_own_left (pv 0)) (pe_tup pa_nil) (nomark _)) (pe_callB call_len_seq rfl T.b_len (by decide +kernel) (pa_cons (pe_f T.cN T.aN_own_begun (pv 0)) pa_nil)) pe_non)))), ?_⟩
    obtain ⟨dx, k, st, e, lf, fi, be, sv, co, vi, h1, hI⟩ := id hN

    have nx := so_nm x ok.ns
    refine ⟨_, rfl, n, dx, _, _, rfl, h1, rfl, (by show 0 ≤ sizeLine; decide), fun p hp => ?_⟩
    have s1 := same_new (o := .tup []) hp
    obtain ⟨dl, d1, d2, d3⟩ := left_d (K := K) (hI.fr T (.of s1)) nx
    refine ⟨dl, .tuple [], d1, .tup (SqT.of upd_same) .nil, d2, rfl, _, rfl, ?_⟩
    rw [d3]
    have q1 := q _ s1
    by_cases hp1 : N.ph = 1
    · rw [decide_eq_false (show ¬ N.ph ≠ 1 by simp [hp1])]
      rw [if_pos hp1] at q1
      refine iteT ?_
      have hb := s1 _ _ hI.beg
      rw [if_neg (by rw [hp1]; decide)] at hb
      exact ⟨_, rfl, n, dx, _, _, rfl, s1 _ _ h1, rfl, be, _, rfl, .inr (SqT.of hb), q1⟩
    · rw [decide_eq_true hp1]
      rw [if_neg hp1] at q1
      exact iteF q1

/-- Net.put_copies -/
theorem w_Net_put_copies {f : Addr} {fd : FuncData} {ks : List (Str × V)} {dvs : List V} (F : FunD K "put_copies" "Net.put_copies" (defArgs s_Net_put_copies) (defBody s_Net_put_copies) (defScope s_Net_put_copies) dvs ks f fd) (T : Txt K w mg c)  : FnOk P w K mg base C8.CX0 1 f fd ["self", "cache", "copies"] (sp_Net_put P w c) := by
  refine F.ok sc_Net_put_copies (fun vs H Q E h => ?_) (fun cdv A outer s H vs Q E hr h => ?_)
  · obtain ⟨n, s0, d, S, x, N, i, o, rfl, hN, ok, hi, hd, q⟩ := h
    rfl
  · obtain ⟨n, s0, d, S, x, N, i, o, rfl, hN, ok, hi, hd, q⟩ := h
    have hu := hu_of hr
    have hu2 := hu2_of hr
    refine ⟨_, PSs.nox ((pss_cons (ps_par (i := 3) (j := 4) rfl sc_Net_put_copies.nd rfl rfl (by decide) rfl rfl (pa_cons (pe_slice sl_tupA (pe_f T.cN T.aN_own_copies (pv 0)) po_none (po_some (pv 1))) (pa_cons (pe_slice sl_tupA (pe_f T.cN T.aN_own_copies (pv 0)) (po_some (pe_op op_add (pv 1) pe_int)) po_none) pa_nil)) (by rfl))
      (pss_one (ps_f T.cN T.aN_own_copies (pv 0) (pe_op op_catA (pe_op op_catA (pv 3) (pe_tup (pa_cons (pv 2) pa_nil))) (pv 4)))))), ?_⟩
    obtain ⟨dx, k, st, e, lf, fi, be, sv, co, vi, h1, hI⟩ := id hN

    obtain ⟨ds, hco, hl, hat⟩ := hI.cops
    have few := ok.few
    refine ⟨_, rfl, n, dx, _, _, rfl, h1, rfl, ?_⟩
    show tNoPart _ _ _
    unfold tNoPart
    refine ⟨_, rfl, _, rfl, slA hco fun pa H1 s1 hpa => ?_⟩
    rw [cut_to] at hpa
    refine ⟨_, rfl, n, dx, _, _, rfl, s1 _ _ h1, rfl, _, rfl, _, _, rfl, rfl, _, rfl, ?_⟩

    refine slA (K := K) (lo := some ((i : Int) + 1)) (hi := none) (s1 _ _ hco) fun pb H2 s2 hpb => ?_
    rw [show ((i : Int) + 1) = ((i + 1 : Nat) : Int) by omega, cut_from] at hpb
    have hpa2 := s2 _ _ hpa
    refine ⟨_, _, rfl, ?_⟩
    have s12 := s1.trans s2
    refine ⟨_, rfl, _, rfl, by show 1 ≤ sizeLine; decide, fun pc hpc => ?_⟩
    have hpc3 : (upd H2 pc (.tup [.ref d])) pc = some (.tup [.ref d]) := upd_same
    have s3 := s12.trans (same_new (o := .tup [.ref d]) hpc)
    refine catA (same_new hpc _ _ hpa2) hpc3 (by rw [List.length_take, List.length_map, sizeLine_eq]; show min i ds.length + 1 ≤ _; omega) fun pd H4 s4 hpd => ?_
    have s34 := s3.trans s4
    refine ⟨_, rfl, catA hpd (s4 _ _ (same_new hpc _ _ hpb)) (by rw [List.length_append, List.length_take, List.length_drop, List.length_map, sizeLine_eq]; show min i ds.length + 1 + _ ≤ _; omega) fun pe H5 s5 hpe => ?_⟩
    have s15 := s34.trans s5
    have e1 : (ds.map V.ref).take i ++ [.ref d] ++ (ds.map V.ref).drop (i + 1) = (ds.set i d).map V.ref := by
      rw [List.map_set, List.set_eq_take_append_cons_drop, if_pos (by rw [List.length_map]; omega)]
      simp
    rw [e1] at hpe
    have h5 := s15 _ _ h1
    refine ⟨_, rfl, n, dx, _, rfl, h5, by show 11 < 1000; decide, ?_⟩
    have b6 := But.upd n H5 (.ins c.N dx (putF "own_copies" (.ref pe) (netF k st s0 N.tick e lf fi be sv co vi)))
    have f6 : Fr (nI c.N) H (upd H5 n (.ins c.N dx (putF "own_copies" (.ref pe) (netF k st s0 N.tick e lf fi be sv co vi)))) := (Fr.of s15).trans (b6.nI h5)
    have f56 := b6.nI h5
    refine q _ ⟨dx, k, st, e, lf, fi, be, sv, pe, vi, by rw [upd_same]; rfl, ?_⟩ f6
    have hI6 := hI.fr T f6
    refine ⟨hI6.site, hI6.kinds, hI6.steps, hI6.eds, hI6.left, hI6.fin, hI6.beg, hI6.srv, ⟨ds.set i d, f56 _ _ hpe (nI_tup _), by show (ds.set i d).length = (N.cps.set i o).length; rw [List.length_set, List.length_set, hl], fun j d' o' e2 e3 => ?_⟩, hI6.viss⟩
    have e3' : (N.cps.set i o)[j]? = some o' := e3
    by_cases hj : i = j
    · subst hj
      rw [List.getElem?_set_self (by omega)] at e2
      rw [List.getElem?_set_self hi] at e3'
      cases e2
      cases e3'
      exact hd.fr f6 (fun _ _ => nI_ins T.neCN) nI_tup nI_ext
    · rw [List.getElem?_set_ne hj] at e2 e3'
      exact (hat j d' o' e2 e3').fr f6 (fun _ _ => nI_ins T.neCN) nI_tup nI_ext

end
end Wp

set_option Elab.async false
set_option linter.all false
set_option maxRecDepth 100000
set_option maxHeartbeats 2000000
namespace Wp
open PySem PySem.Spec PyProof.Rows L2
section
variable {P : Program} {w : World} {K : PySem.W.Frag} {mg : Str → Option Value} {base : Heap} {c : CA}

/-- Net.copies -/
theorem w_Net_copies {f : Addr} {fd : FuncData} {ks : List (Str × V)} {dvs : List V} (F : FunD K "copies" "Net.copies" (defArgs s_Net_copies) (defBody s_Net_copies) (defScope s_Net_copies) dvs ks f fd) (T : Txt K w mg c) (c_is_index : C8.Cal P w K mg base 2 "is_index" (sp_is_index) []) : FnOk P w K mg base C8.CX0 3 f fd ["self", "cache"] (sp_Net_copies P w c) := by
  refine F.ok sc_Net_copies (fun vs H Q E h => ?_) (fun cdv A outer s H vs Q E hr h => ?_)
  · obtain ⟨n, s0, S, x, N, i, o, rfl, hN, ok, ho, q⟩ := h
    rfl
  · obtain ⟨n, s0, S, x, N, i, o, rfl, hN, ok, ho, q⟩ := h
    have hu := hu_of hr
    have hu2 := hu2_of hr
    refine ⟨_, PSs.nox ((pss_cons (ps_if (pt_not (pt_val (C8.pe_c c_is_index hr (by decide) rfl (pa_cons (pv 1) (pa_cons (pe_callB call_len_seq rfl T.b_len (by decide +kernel) (pa_cons (pe_f T.cN T.aN_own_copies (pv 0)) pa_nil)) pa_nil))))) (pss_one ps_never) pss_nil)
      (pss_cons (ps_set (i := 2) sc_Net_copies.nd rfl (Or.inl rfl) (pe_ix ix_tup (pe_f T.cN T.aN_own_copies (pv 0)) (pv 1) (fun _ _ => rfl)))
      (pss_one (ps_ret (pe_callB cr_sort1 rfl T.b_sorted (by decide +kernel) (pa_cons (pe_lock (pe_lc (own := [("key", 3), ("copy", 4)]) rfl sc_Net_copies.nd (pi_cp (pv 2)) (blkOk_by (own := [("key", 3), ("copy", 4)]) (N := n_Net_copies) (sc := defScope s_Net_copies) (by decide +kernel)) (fun _ _ _ _ _ => (pgTupK (K := K) (n := 2) rfl rfl (pgs_cons (pg_name (i := 3) sc_Net_copies.nd rfl (Or.inl rfl)) (pgs_cons (pg_name (i := 4) sc_Net_copies.nd rfl (Or.inl rfl)) pgs_nil)))) (fun _ _ _ _ _ => pts_nil) (fun _ _ _ _ _ => (pe_tup (pa_cons (pe_ix (ixTupK (K := K) rfl) (pv 3) pe_int (fun _ _ => rfl)) (pa_cons (pe_f T.cC T.aC_contents (pv 4)) (pa_cons (pe_f T.cC T.aC_got (pv 4)) (pa_cons (pe_f T.cC T.aC_given (pv 4)) pa_nil)))))))) pa_nil))))))), ?_⟩
    obtain ⟨dx, k, st, e, lf, fi, be, sv, co, vi, h1, hI⟩ := id hN

    obtain ⟨ds, hco, hl, hat⟩ := hI.cops
    have hi := (List.getElem?_eq_some_iff.mp ho).1
    have e1 : ds[i]? = some ds[i] := List.getElem?_eq_getElem (by omega)
    obtain ⟨q1, c1, c2, c3⟩ := hat i _ _ e1 ho
    refine ⟨_, rfl, _, rfl, n, dx, _, _, rfl, h1, rfl, co, _, rfl, .inr (SqT.of hco), _, _, rfl, by omega, (by rw [List.length_map]; omega), true, rfl, iteF ?_⟩
    refine ⟨_, rfl, n, dx, _, _, rfl, h1, rfl, _, rfl, co, _, _, .ref ds[i], rfl, rfl, SqT.of hco, atI_nat (by rw [List.getElem?_map, e1]; rfl), ?_⟩
    refine ⟨ds[i], _, c1, trivial, fun od => ?_⟩
    refine ⟨_, rfl, ds[i], od, x, q1, rfl, upd_same, ?_⟩
    refine lcCp upd_same (fun e0 D hD => ?_) (fun kt ca e0 D T2 H2 hD hD2 s2 hT2 k hk => ?_)
    · have hdn : D ≠ ds[i] := (ne_of_none (b := D) upd_same hD).symm
      have hDn : H D = none := by rw [upd_ne hdn] at hD; exact hD
      refine ⟨by rw [upd_ne hdn.symm]; exact upd_same, ?_⟩
      have s1 : Same H (upd (upd (upd H ds[i] (.frz od (CpO P w ds[i] x q1))) D (.lst [])) ds[i] (CpO P w ds[i] x q1)) := fun p o' h => by
        by_cases hp : p = ds[i]
        · subst hp
          rw [upd_same, ← c1, h]
        · rw [upd_ne hp, upd_ne (ne_of_none h hDn), upd_ne hp]
          exact h
      have hD1 : (upd (upd (upd H ds[i] (.frz od (CpO P w ds[i] x q1))) D (.lst [])) ds[i] (CpO P w ds[i] x q1)) D = some (.lst []) := by rw [upd_ne hdn]; exact upd_same
      refine ⟨D, [], rfl, SqL.of hD1, .inl rfl, fun l hl => ?_⟩
      have eo : o = none := by
        cases o with
        | none => rfl
        | some p => obtain ⟨kt, ca, e2, _⟩ := c3; rw [e0] at e2; cases e2
      subst eo
      exact q _ l (s1.trans (same_new hl)) upd_same
    · obtain ⟨p, rfl⟩ : ∃ p, o = some p := by
        cases o with
        | none => rw [show q1 = none from c3] at e0; cases e0
        | some p => exact ⟨p, rfl⟩
      obtain ⟨kt', ca', e2, dxC, hC⟩ := c3
      rw [e0] at e2
      cases e2
      subst e0
      have hdn : D ≠ ds[i] := (ne_of_none (b := D) upd_same hD).symm
      have hDn : H D = none := by rw [upd_ne hdn] at hD; exact hD
      have hkt := c2 kt ca rfl
      have up : ∀ p o', H p = some o' → p ≠ ds[i] → H2 p = some o' := fun p o' h hp => s2 p o' (by rw [upd_ne hp]; exact h)
      have nkt : kt ≠ ds[i] := fun e => by rw [e, c1] at hkt; cases hkt
      have nca : ca ≠ ds[i] := fun e => by rw [e, c1] at hC; cases hC
      refine ⟨T2, _, rfl, SqT.of hT2, rfl, _, _, rfl, _, _, rfl, rfl, rfl, ?_⟩
      refine ⟨_, rfl, kt, _, _, .str x, rfl, rfl, SqT.of (up _ _ hkt nkt), atI_nat (j := 0) rfl, ?_⟩
      have hC2 := up _ _ hC nca
      refine ⟨_, rfl, ca, dxC, _, _, rfl, hC2, rfl, _, rfl, ca, dxC, _, _, rfl, hC2, rfl, _, rfl, ca, dxC, _, _, rfl, hC2, rfl, ?_⟩
      refine ⟨by show 4 ≤ sizeLine; decide, fun t ht => hk _ _ (same_new ht) fun H5 s5 k5 hD5 => ?_⟩
      have hd5 := s5 _ _ upd_same
      refine ⟨hd5, ?_⟩
      have ht5 : H5 t = some (.tup [.str x, .int p.con, .int p.got, .int p.giv]) := k5 t _ upd_same (fun e => by rw [e, hD2] at ht; cases ht)
      have ntd : t ≠ ds[i] := fun e => by rw [e, hd5] at ht5; cases ht5
      have s1 : Same H (upd H5 ds[i] (CpO P w ds[i] x (some (kt, ca)))) := fun p o' h => by
        by_cases hp : p = ds[i]
        · subst hp
          rw [upd_same, ← c1, h]
        · rw [upd_ne hp]
          exact s5 p o' (by rw [upd_ne hp]; exact h)
      have hD6 : (upd H5 ds[i] (CpO P w ds[i] x (some (kt, ca)))) D = some (.lst [.ref t]) := by rw [upd_ne hdn]; exact hD5
      have ht6 : (upd H5 ds[i] (CpO P w ds[i] x (some (kt, ca)))) t = some (.tup [.str x, .int p.con, .int p.got, .int p.giv]) := by rw [upd_ne ntd]; exact ht5
      refine ⟨D, _, rfl, SqL.of hD6, .inr ⟨t, x, p.con, p.got, p.giv, rfl, ht6⟩, fun l hl => ?_⟩
      exact q _ l (s1.trans (same_new hl)) ⟨t, upd_same, same_new hl _ _ ht6⟩

/-- Net.piece -/
theorem w_Net_piece {f : Addr} {fd : FuncData} {ks : List (Str × V)} {dvs : List V} (F : FunD K "piece" "Net.piece" (defArgs s_Net_piece) (defBody s_Net_piece) (defScope s_Net_piece) dvs ks f fd) (T : Txt K w mg c) (c_visit_of : C8.Cal P w K mg base 3 "visit_of" (sp_visit_of P w c) []) : FnOk P w K mg base C8.CX0 4 f fd ["self", "reader"] (sp_Net_piece P w c) := by
  refine F.ok sc_Net_piece (fun vs H Q E h => ?_) (fun cdv A outer s H vs Q E hr h => ?_)
  · obtain ⟨n, s0, S, x, N, i, con, rfl, hN, ok, hv, q⟩ := h
    rfl
  · obtain ⟨n, s0, S, x, N, i, con, rfl, hN, ok, hv, q⟩ := h
    have hu := hu_of hr
    have hu2 := hu2_of hr
    refine ⟨_, PSs.nox ((pss_cons (ps_set (i := 2) sc_Net_piece.nd rfl (Or.inr rfl) (pe_f T.cV T.aV_pages (C8.pe_c c_visit_of hr (by decide) rfl (pa_cons (pv 0) (pa_cons (pv 1) pa_nil)))))
      (pss_one (ps_ret (pe_dcR (own := [("name", 3)]) rfl sc_Net_piece.nd (pi_list (pe_callB (call_sortedD rfl) rfl T.b_sorted (by decide +kernel) (pa_cons (pv 2) pa_nil))) (blkOk_by (own := [("name", 3)]) (N := n_Net_piece) (sc := defScope s_Net_piece) (by decide +kernel)) (fun _ _ _ _ _ => (pg_name (i := 3) sc_Net_piece.nd rfl (Or.inl rfl))) (fun _ _ _ _ _ => (pv 3)) (fun _ _ _ _ _ => (pe_ix (ixTupK (K := K) rfl) (pe_dget hu (pv 2) (pv 3) (fun _ _ => rfl)) pe_int (fun _ _ => rfl)))))))), ?_⟩
    refine ⟨_, rfl, _, rfl, n, s0, S, x, N, i, con, rfl, hN, hv, fun v hV => ?_⟩
    obtain ⟨dx, pg, l, t, tk, a, b, d⟩ := id hV
    refine ⟨v, dx, _, _, rfl, a, rfl, ?_⟩
    refine ⟨_, rfl, pg, _, [x], rfl, .inl b, rfl, by show 1 < 64; decide, fun ys lp hpm _ hlp => ?_⟩
    obtain rfl : ys = [x] := List.perm_singleton.mp hpm
    have s1 := same_new (o := .lst (List.map V.str [x])) hlp
    have hl1 : (upd H lp (.lst (List.map V.str [x]))) lp = some (.lst (List.map V.str [x])) := upd_same
    generalize upd H lp (.lst (List.map V.str [x])) = H1 at s1 hl1
    refine ⟨lp, rfl, ⟨_, SqL.of hl1⟩, _, _, _, [x], fun D H i y => y = .int con, walk_list, by simp, by simp, fun {D H H' i y} _ _ h => h, fun H s => s.seq (SqL.of hl1), yat_same, (by show 1 < sizeLine; decide), fun D acc i y z H2 e1 hD hDa sm yy k hk => ?_, fun D H2 gv hD s2 hD2 hgv => ?_⟩
    · obtain ⟨_, ez⟩ := yy
      have hz : z = x := by
        have := List.mem_of_getElem? e1
        simpa using this
      subst hz
      rw [List.getElem?_map, e1] at ez
      cases ez
      have b2 := sm _ _ (s1 _ _ b)
      have d2 := sm _ _ (s1 _ _ d)
      have g1 : DGet H2 pg (.str z) (some (.ref t)) := by
        have := DGet.k (k := Sum.inr z) b2
        rw [valV_pos rfl] at this
        exact this
      exact ⟨rfl, _, rfl, _, rfl, _, rfl, pg, _, rfl, g1, t, _, _, .int con, rfl, rfl, SqT.of d2, atI_nat (j := 0) rfl, hk _ _ (Same.refl _) rfl⟩
    · have e := hgv 0 x rfl
      rw [List.map_cons, List.map_nil, e] at hD2
      exact q _ _ (s1.trans s2) hD2

end
end Wp

set_option Elab.async false
set_option linter.all false
set_option maxRecDepth 100000
set_option maxHeartbeats 2000000
namespace Wp
open PySem PySem.Spec PyProof.Rows L2
section
variable {P : Program} {w : World} {K : PySem.W.Frag} {mg : Str → Option Value} {base : Heap} {c : CA}

/-- Net.answer -/
theorem w_Net_answer {f : Addr} {fd : FuncData} {ks : List (Str × V)} {dvs : List V} (F : FunD K "answer" "Net.answer" (defArgs s_Net_answer) (defBody s_Net_answer) (defScope s_Net_answer) dvs ks f fd) (T : Txt K w mg c) (c_copy_key : C8.Cal P w K mg base 6 "copy_key" (sp_copy_key P w c) []) (c_is_fresh : C8.Cal P w K mg base 6 "is_fresh" (sp_is_fresh P w c) []) (k_Copy : C8.Mak P w K mg base 1 "Copy" c.C (sp_Copy_init c) []) (m_Net_put_copies : C8.Met P w K mg base 1 c.N "put_copies" (sp_Net_put P w c) []) : FnOk P w K mg base C8.CX0 7 f fd ["self", "name", "number"] (sp_Net_answer P w c) := by
  refine F.ok sc_Net_answer (fun vs H Q E h => ?_) (fun cdv A outer s H vs Q E hr h => ?_)
  · obtain ⟨n, s0, S, x, N, rfl, hN, ok, q⟩ := h
    rfl
  · obtain ⟨n, s0, S, x, N, rfl, hN, ok, q⟩ := h
    have hu := hu_of hr
    have hu2 := hu2_of hr
    refine ⟨_, PSs.nox ((pss_cons (ps_par (i := 3) (j := 4) rfl sc_Net_answer.nd rfl rfl (by decide) rfl rfl (pa_cons (pe_lst pa_nil) (pa_cons (C8.pe_c c_copy_key hr (by decide) rfl (pa_cons (pv 0) (pa_cons (pv 1) (pa_cons (pv 2) pa_nil)))) pa_nil)) (by rfl))
      (pss_cons (ps_set (i := 5) sc_Net_answer.nd rfl (Or.inl rfl) pe_non)
      (C8.pss_cut (ps_for PassesOwn.never rfl (pi_enumT rfl T.b_enumerate (pa_cons (pe_f T.cN T.aN_own_copies (pv 0)) pa_nil)) (pg_tup rfl (pgs_cons (pg_name (i := 6) sc_Net_answer.nd rfl (Or.inl rfl)) (pgs_cons (pg_name (i := 7) sc_Net_answer.nd rfl (Or.inl rfl)) pgs_nil)))
        (pss_cons (ps_if (PW.pt (pw_and (pt_cmpR (op_cpIn hu) (pv 4) (pv 7) (by rfl)) (pw_and1 (pt_val (C8.pe_c c_is_fresh hr (by decide) rfl (pa_cons (pv 0) (pa_cons (pv 6) (pa_cons (pv 1) (pa_cons (pe_ix (ix_cp hu) (pv 7) (pv 4) (fun _ _ => rfl)) pa_nil))))))))) (pss_cons (ps_set (i := 5) sc_Net_answer.nd rfl (Or.inl rfl) (pe_ix (ix_cp hu) (pv 7) (pv 4) (fun _ _ => rfl)))
          (pss_one ps_break)) pss_nil)
        (pss_one (ps_expr (pe_bm PySem.F.plainAttrs_list PySem.F.slot_list_append PySem.F.type_list_append mt_append (pv 3) (pa_cons (pv 6) pa_nil))))))
      (C8.pss_cut (ps_if (pt_cmpR op_isN (pv 5) pe_non (nomark _)) (pss_cons (ps_set (i := 8) sc_Net_answer.nd rfl (Or.inl rfl) (pe_dget hu (pe_f T.cN T.aN_own_server (pv 0)) (pv 1) (fun _ _ => rfl)))
        (pss_cons (ps_if (PW.pt (pw_and (pt_cmpR op_notN (pv 2) pe_non (nomark _)) (pw_and1 (pt_cmpR op_notIn_seq (pv 2) (pv 8) (by rfl))))) (pss_one (ps_ret pe_non)) pss_nil)
        (pss_one (ps_set (i := 5) sc_Net_answer.nd rfl (Or.inl rfl) (C8.pe_mk k_Copy hr (by decide) rfl (pa_cons (pe_ifExp (pt_cmpR op_isN (pv 2) pe_non (nomark _)) (pe_ix ix_tup (pv 8) pe_int (fun _ _ => rfl)) (pv 2)) (pa_cons (pe_f T.cN T.aN_own_tick (pv 0)) (pa_cons (pe_f T.cN T.aN_own_tick (pv 0)) pa_nil)))))))) pss_nil)
      (C8.pss_cut (ps_for PassesOwn.never rfl (pi_list (pv 3)) (pg_name (i := 6) sc_Net_answer.nd rfl (Or.inl rfl))
        (pss_cons (ps_set (i := 9) sc_Net_answer.nd rfl (Or.inl rfl) (C8.pe_mk k_Copy hr (by decide) rfl (pa_cons (pe_f T.cC T.aC_contents (pv 5)) (pa_cons (pe_f T.cN T.aN_own_tick (pv 0)) (pa_cons (pe_f T.cC T.aC_given (pv 5)) pa_nil)))))
        (pss_one (ps_expr (C8.pe_mt m_Net_put_copies hr (by decide) (pv 0) (pa_cons (pv 6) (pa_cons (pe_cpS hu (pe_ix ix_tup (pe_f T.cN T.aN_own_copies (pv 0)) (pv 6) (fun _ _ => rfl)) (pv 4) (pv 9)) pa_nil)))))))
      (pss_one (ps_ret (pe_f T.cC T.aC_contents (pv 5)))))))))), ?_⟩
    obtain ⟨dx, k, st, e, lf, fi, be, sv, co, vi, h1, hI⟩ := id hN

    obtain ⟨ds, hco, hl, hat⟩ := id hI.cops
    have lk : (S.fd x).keeps.length = N.cps.length := ok.cs.symm
    have few := ok.few
    refine ⟨by show 0 ≤ sizeLine; decide, fun la hla => ?_⟩
    have sA : Same H (upd H la (.lst [])) := same_new hla
    have hlaA : (upd H la (.lst [])) la = some (.lst []) := upd_same
    generalize upd H la (.lst []) = HA at sA hlaA
    refine ⟨_, rfl, _, rfl, _, rfl, n, s0, S, x, N, .non, rfl, hN.same T sA, ok, fun HB kp sB hkp => ⟨_, _, rfl, ?_⟩⟩
    have hlaB := sB _ _ hlaA
    have sAB := sA.trans sB
    refine ⟨fun σ' H' => ∃ (i : Nat) (fo : V) (a b d e : Option V), σ' = [some (.ref n), some (.str x), some .non, some (.ref la), some (.ref kp), some fo, a, b, d, e] ∧ Same H H' ∧ H' kp = some (.tup [.str x, .non]) ∧ H' la = some (.lst ((List.range i).map fun (j : Nat) => V.int (j : Int))) ∧ i ≤ N.cps.length ∧
      ((∃ ca p, fo = .ref ca ∧ CopyAt c H' ca p ∧ lookN S x N = lkAt N.tick N.cps i p.con p.giv) ∨ (fo = .non ∧ lookN S x N = lkAt N.tick N.cps i (srvN N.ph) N.tick)), ?_, fun σ' HC hm => ?_⟩
    · refine ⟨_, rfl, n, dx, _, _, rfl, sAB _ _ h1, rfl, co, _, rfl, SqT.of (sAB _ _ hco), ?_⟩
      refine for_it (walk_enumT (xs := ds.map V.ref)) (fun i σ' H' => ∃ (a b : Option V), σ' = [some (.ref n), some (.str x), some .non, some (.ref la), some (.ref kp), some .non, a, b, none, none] ∧ Same H H' ∧ H' kp = some (.tup [.str x, .non]) ∧ H' la = some (.lst ((List.range i).map fun (j : Nat) => V.int (j : Int))) ∧ ∀ (j : Nat) kq o, j < i → (S.fd x).keeps[j]? = some kq → N.cps[j]? = some o → freshAt S.own N.tick kq o = none) ⟨none, none, rfl, sAB, hkp, hlaB, fun j _ _ h => absurd h (Nat.not_lt_zero j)⟩ ?_ ?_ ?_
      · rintro i σ' H' hi ⟨a, b, rfl, sm, hk', hl', hf⟩
        exact SqT.of (sm _ _ hco)
      · rintro i v σ' H3 H4 hi ⟨a, b, rfl, sm, hk', hl', hf⟩ ⟨T2, v1, v2, rfl, hT2, rfl, e1, e2⟩
        rw [List.length_map] at hi
        cases e1
        have ei : ds[i]? = some ds[i] := List.getElem?_eq_getElem hi
        have e2 : (ds.map V.ref)[i]? = some v2 := e2
        rw [List.getElem?_map, ei] at e2
        cases e2
        obtain ⟨kq, ek⟩ : ∃ kq, (S.fd x).keeps[i]? = some kq := ⟨_, List.getElem?_eq_getElem (by omega)⟩
        obtain ⟨o, eo⟩ : ∃ o, N.cps[i]? = some o := ⟨_, List.getElem?_eq_getElem (by omega)⟩
        have s4 := same_new (o := .tup [.int (i : Int), .ref ds[i]]) hT2
        have hT4 : (upd H3 T2 (.tup [.int (i : Int), .ref ds[i]])) T2 = some (.tup [.int (i : Int), .ref ds[i]]) := upd_same
        generalize upd H3 T2 (.tup [.int (i : Int), .ref ds[i]]) = H4 at s4 hT4
        have s04 := sm.trans s4
        have hk4 := s4 _ _ hk'
        have hl4 := s4 _ _ hl'
        have hN4 := hN.same T s04
        obtain ⟨q1, c1, c2, c3⟩ := (hat i _ _ ei eo).fr (Fr.of s04) (R := nI c.N) (fun _ _ => nI_ins T.neCN) nI_tup nI_ext
        -- not fresh here: on to the next
        have next : freshAt S.own N.tick kq o = none → ∀ (a b : Option V), ∃ (a' b' : Option V), [some (.ref n), some (.str x), some .non, some (.ref la), some (.ref kp), some .non, a, b, none, none] = [some (.ref n), some (.str x), some .non, some (.ref la), some (.ref kp), some .non, a', b', none, none] ∧ Same H (upd H4 la (.lst ((List.range i).map (fun (j : Nat) => V.int (j : Int)) ++ [.int i]))) ∧ (upd H4 la (.lst ((List.range i).map (fun (j : Nat) => V.int (j : Int)) ++ [.int i]))) kp = some (.tup [.str x, .non]) ∧ (upd H4 la (.lst ((List.range i).map (fun (j : Nat) => V.int (j : Int)) ++ [.int i]))) la = some (.lst ((List.range (i + 1)).map fun (j : Nat) => V.int (j : Int))) ∧ ∀ (j : Nat) kq o, j < i + 1 → (S.fd x).keeps[j]? = some kq → N.cps[j]? = some o → freshAt S.own N.tick kq o = none := fun hno a b => by
          refine ⟨a, b, rfl, fun p o' h => ?_, ?_, ?_, fun j kq' o' hj e1 e2 => ?_⟩
          · rw [upd_ne (ne_of_none h hla)]
            exact s04 p o' h
          · rw [upd_ne (fun e => by rw [e, hl4] at hk4; cases hk4)]
            exact hk4
          · rw [upd_same, List.range_succ, List.map_append]
            rfl
          · by_cases hji : j = i
            · rw [hji, ek] at e1
              rw [hji, eo] at e2
              cases e1
              cases e2
              exact hno
            · exact hf j kq' o' (by omega) e1 e2
        refine ⟨T2, _, rfl, SqT.of hT4, rfl, _, _, rfl, _, _, rfl, rfl, ?_⟩
        have ap : ∀ (h : freshAt S.own N.tick kq o = none), _ := fun h => next h (some (.int (i : Int))) (some (.ref ds[i]))
        cases o with
        | none =>
          obtain rfl : q1 = none := c3
          refine ⟨_, rfl, _, rfl, kp, ds[i], x, none, rfl, hk4, rfl, c1, .none, _, rfl, iteF ?_⟩
          refine iteF ?_
          refine ⟨_, rfl, .inl ⟨rfl, _, SqL.of hl4⟩, _, rfl, la, _, _, rfl, rfl, hl4, ?_, ap rfl⟩
          rw [List.length_map, List.length_range, sizeLine_eq]; omega
        | some p =>
          obtain ⟨kt, ca, rfl, hC⟩ := c3
          have hkt := c2 kt ca rfl
          refine ⟨_, rfl, _, rfl, kp, ds[i], x, _, rfl, hk4, rfl, c1, .some hkt, _, rfl, iteT ?_⟩
          refine ⟨_, rfl, _, rfl, _, rfl, _, rfl, _, rfl, kp, ds[i], x, kt, ca, rfl, c1, hkt, rfl, hk4, ?_⟩
          refine ⟨n, s0, ca, S, x, N, i, kq, p, rfl, hN4, ok, ek, hC, _, rfl, ?_⟩
          by_cases hfr : freshB S.own N.tick kq p = true
          · refine iteT' hfr ?_
            refine ⟨_, rfl, _, rfl, kp, ds[i], x, kt, ca, rfl, c1, hkt, rfl, hk4, ?_⟩
            exact ⟨i, .ref ca, _, _, _, _, rfl, s04, hk4, hl4, by omega, .inl ⟨ca, p, rfl, hC, look_hit ek eo (by show (if _ then _ else _) = _; rw [if_pos hfr]) hf⟩⟩
          · refine iteF' hfr ?_
            refine ⟨_, rfl, .inl ⟨rfl, _, SqL.of hl4⟩, _, rfl, la, _, _, rfl, rfl, hl4, ?_, ap (by show (if _ then _ else _) = _; rw [if_neg hfr])⟩
            rw [List.length_map, List.length_range, sizeLine_eq]; omega
      · rintro σ' H3 ⟨a, b, rfl, sm, hk', hl', hf⟩
        rw [List.length_map] at hl' hf
        refine ⟨ds.length, .non, a, b, none, none, rfl, sm, hk', hl', by omega, .inr ⟨rfl, ?_⟩⟩
        rw [hl]
        rw [hl] at hf
        exact look_miss lk fun j kq o e1 e2 => hf j kq o (List.getElem?_eq_some_iff.mp e2).1 e1 e2
    · obtain ⟨i, fo, a0, b0, d0, e0, rfl, sC, hkC, hlC, hiN, hf⟩ := hm
      have hNC := hN.same T sC
      refine ⟨fun σ' H' => ∃ (ca : Addr) (p : Cp) (a b d e : Option V), σ' = [some (.ref n), some (.str x), some .non, some (.ref la), some (.ref kp), some (.ref ca), a, b, d, e] ∧ Same H H' ∧ H' kp = some (.tup [.str x, .non]) ∧ H' la = some (.lst ((List.range i).map fun (j : Nat) => V.int (j : Int))) ∧ CopyAt c H' ca p ∧ lookN S x N = lkAt N.tick N.cps i p.con p.giv, ?_, fun σ' HD hm2 => ?_⟩
      · rcases hf with ⟨ca, p, rfl, hC, hlk⟩ | ⟨rfl, hlk⟩
        · refine ⟨_, rfl, rfl, _, rfl, ?_⟩
          refine iteF ?_
          exact ⟨ca, p, _, _, _, _, rfl, sC, hkC, hlC, hC, hlk⟩
        · refine ⟨_, rfl, rfl, _, rfl, ?_⟩
          refine iteT ?_
          have h1C := sC _ _ h1
          obtain ⟨gv, hsv, t, ht, htt⟩ := hI.srv
          have hsvC := sC _ _ hsv
          have httC := sC _ _ htt
          have g1 : DGet HC sv (.str x) (some (.ref t)) := by
            have := DGet.k (k := Sum.inr x) hsvC
            rw [valK_map, if_pos ok.ns, ht] at this
            exact this
          refine ⟨_, rfl, n, dx, _, _, rfl, h1C, rfl, _, rfl, sv, _, rfl, g1, ?_⟩
          refine ⟨_, rfl, rfl, _, rfl, iteF ?_⟩
          refine iteF ?_
          refine ⟨_, rfl, rfl, _, rfl, iteT ?_⟩
          refine ⟨_, rfl, t, _, _, .int (srvN N.ph), rfl, rfl, SqT.of httC, atI_nat (j := 0) rfl, ?_⟩
          refine ⟨_, rfl, n, dx, _, _, rfl, h1C, rfl, _, rfl, n, dx, _, _, rfl, h1C, rfl, fun y dy hy hdy _ => ?_⟩
          refine ⟨y, dy, ⟨srvN N.ph, N.tick, N.tick⟩, rfl, upd_same, fun H5 hC5 bC => ⟨rfl, ?_⟩⟩
          have sm := mk_same (C := c.C) hy hdy
          have s5 : Same HC H5 := bC.back sm hy
          exact ⟨y, _, _, _, _, _, rfl, sC.trans s5, s5 _ _ hkC, s5 _ _ hlC, hC5, hlk⟩
      · obtain ⟨ca, p, a1, b1, d1, e1, rfl, sD, hkD, hlD, hCD, hlk⟩ := hm2
        refine ⟨fun σ' H' => ∃ (a b d e : Option V), σ' = [some (.ref n), some (.str x), some .non, some (.ref la), some (.ref kp), some (.ref ca), a, b, d, e] ∧ NetAt P w c H' n s0 S x (wcps N (List.replicate i (some (Cp.mk p.con N.tick p.giv)) ++ N.cps.drop i)) ∧ Fr (nI c.N) H H' ∧ CopyAt c H' ca p, ?_, fun σ' HF hm3 => ?_⟩
        · refine ⟨_, rfl, la, rfl, ⟨_, SqL.of hlD⟩, ?_⟩
          refine for_it (walk_list (xs := (List.range i).map fun (j : Nat) => V.int (j : Int))) (fun j σ' H' => ∃ (a b d e : Option V), σ' = [some (.ref n), some (.str x), some .non, some (.ref la), some (.ref kp), some (.ref ca), a, b, d, e] ∧ NetAt P w c H' n s0 S x (wcps N (List.replicate j (some (Cp.mk p.con N.tick p.giv)) ++ N.cps.drop j)) ∧ Fr (nI c.N) HD H') ⟨_, _, _, _, rfl, hN.same T sD, .refl _⟩ ?_ ?_ ?_
          · rintro j σ' H' hj ⟨a, b, d, e, rfl, _, f⟩
            exact SqL.of (f _ _ hlD (nI_lst _))
          · rintro j v σ' H4 H3 hj ⟨a, b, d, e, rfl, hN', f⟩ ⟨rfl, ez⟩
            rw [List.length_map, List.length_range] at hj
            rw [List.getElem?_map, List.getElem?_eq_getElem (by rw [List.length_range]; exact hj), List.getElem_range] at ez
            cases ez
            obtain ⟨dx', k', st', e', lf', fi', be', sv', co', vi', h3, hI3⟩ := id hN'
            obtain ⟨ds', hco', hl', hat'⟩ := id hI3.cops
            have hll : (wcps N (List.replicate j (some (Cp.mk p.con N.tick p.giv)) ++ N.cps.drop j)).cps.length = N.cps.length := by show (List.replicate j _ ++ N.cps.drop j).length = _; rw [List.length_append, List.length_replicate, List.length_drop]; omega
            have ok' : NOk S x (wcps N (List.replicate j (some (Cp.mk p.con N.tick p.giv)) ++ N.cps.drop j)) := ok.put hll
            have hjd : j < ds'.length := by rw [hl', hll]; omega
            have ei : ds'[j]? = some ds'[j] := List.getElem?_eq_getElem hjd
            obtain ⟨o, eo⟩ : ∃ o, (wcps N (List.replicate j (some (Cp.mk p.con N.tick p.giv)) ++ N.cps.drop j)).cps[j]? = some o := ⟨_, List.getElem?_eq_getElem (by omega)⟩
            obtain ⟨q1, c1, c2, c3⟩ := hat' j _ _ ei eo
            have hC3 := hCD.fr f fun _ _ => nI_ins T.neCN
            obtain ⟨dxC, hC3'⟩ := id hC3
            have hk3 := f _ _ hkD (nI_tup _)
            refine ⟨_, rfl, ca, dxC, _, _, rfl, hC3', rfl, _, rfl, n, dx', _, _, rfl, h3, rfl, _, rfl, ca, dxC, _, _, rfl, hC3', rfl, fun y dy hy hdy _ => ?_⟩
            refine ⟨y, dy, ⟨p.con, N.tick, p.giv⟩, rfl, upd_same, fun H5 hC5 bC => ⟨rfl, ?_⟩⟩
            have s5 : Same H3 H5 := bC.back (mk_same (C := c.C) hy hdy) hy
            refine ⟨_, rfl, n, dx', _, rfl, s5 _ _ h3, rfl, _, rfl, x, fun d1 hd1 => ?_⟩
            have s6 := same_new (o := CpO P w d1 x none) hd1
            have hd6 : (upd H5 d1 (CpO P w d1 x none)) d1 = some (CpO P w d1 x none) := upd_same
            have s36 := s5.trans s6
            refine ⟨_, rfl, n, dx', _, _, rfl, s36 _ _ h3, rfl, _, rfl, co', _, _, .ref ds'[j], rfl, rfl, SqT.of (s36 _ _ hco'), atI_nat (by rw [List.getElem?_map, ei]; rfl), ?_⟩
            have kt6 : KtAt (upd H5 d1 (CpO P w d1 x none)) x q1 := fun kt ca e => s36 _ _ (c2 kt ca e)
            have nd : ds'[j] ≠ d1 := ne_of_none (s5 _ _ c1) hd1
            refine ⟨ds'[j], q1, rfl, nd.symm, s36 _ _ c1, kt6, hd6, fun d2 hd2 => ?_⟩
            have n21 : d2 ≠ d1 := fun e => by rw [e, upd_same] at hd2; cases hd2
            have hd2' : (upd H5 d1 (CpO P w d1 x none)) d2 = none := by rw [upd_ne n21] at hd2; exact hd2
            have up7 : ∀ a o, H5 a = some o → (upd (upd (upd H5 d1 (CpO P w d1 x none)) d1 (CpO P w d1 x q1)) d2 (CpO P w d2 x none)) a = some o := fun a o h => by
              rw [upd_ne (ne_of_none (s6 _ _ h) hd2'), upd_ne (ne_of_none h hd1)]
              exact s6 _ _ h
            have hk7 := up7 _ _ (s5 _ _ hk3)
            have kt7 : KtAt (upd (upd (upd H5 d1 (CpO P w d1 x none)) d1 (CpO P w d1 x q1)) d2 (CpO P w d2 x none)) x q1 := fun kt ca e => up7 _ _ (s5 _ _ (c2 kt ca e))
            refine ⟨_, rfl, _, rfl, kp, y, rfl, rfl, hk7, kt7, by rw [upd_ne n21.symm]; exact upd_same, upd_same, ?_⟩
            have up8 : Same H5 (upd (upd (upd (upd (upd H5 d1 (CpO P w d1 x none)) d1 (CpO P w d1 x q1)) d2 (CpO P w d2 x none)) d2 (CpO P w d2 x (some (kp, y)))) d1 (CpO P w d1 x (some ((q1.map (·.1)).getD kp, y)))) := fun a o h => by
              rw [upd_ne (ne_of_none h hd1), upd_ne (ne_of_none (s6 _ _ h) hd2')]
              exact up7 _ _ h
            have hd8 : (upd (upd (upd (upd (upd H5 d1 (CpO P w d1 x none)) d1 (CpO P w d1 x q1)) d2 (CpO P w d2 x none)) d2 (CpO P w d2 x (some (kp, y)))) d1 (CpO P w d1 x (some ((q1.map (·.1)).getD kp, y)))) d1 = some (CpO P w d1 x (some ((q1.map (·.1)).getD kp, y))) := upd_same
            have s38 := s5.trans up8
            have hCp : CpAt P w c (upd (upd (upd (upd (upd H5 d1 (CpO P w d1 x none)) d1 (CpO P w d1 x q1)) d2 (CpO P w d2 x none)) d2 (CpO P w d2 x (some (kp, y)))) d1 (CpO P w d1 x (some ((q1.map (·.1)).getD kp, y)))) d1 x (some (Cp.mk p.con N.tick p.giv)) := by
              refine ⟨_, hd8, ?_, _, y, rfl, hC5.fr (R := fun _ => True) (Fr.of up8) (fun _ _ => trivial)⟩
              cases q1 with
              | none => exact .some (up8 _ _ (s5 _ _ hk3))
              | some z => exact .some (up8 _ _ (s5 _ _ (c2 z.1 z.2 rfl)))
            refine ⟨n, s0, d1, S, x, _, j, _, rfl, hN'.same T s38, ok', by rw [hll]; omega, hCp, fun H9 hN9 f9 => ?_⟩
            refine ⟨_, _, _, _, rfl, ?_, f.trans ((Fr.of s38).trans f9)⟩
            have es : setC (wcps N (List.replicate j (some (Cp.mk p.con N.tick p.giv)) ++ N.cps.drop j)) j (some (Cp.mk p.con N.tick p.giv)) = wcps N (List.replicate (j + 1) (some (Cp.mk p.con N.tick p.giv)) ++ N.cps.drop (j + 1)) := by
              show Ns.mk N.tick N.ph _ N.vis = Ns.mk N.tick N.ph _ N.vis
              rw [← set_fill _ _ _ (by omega)]
              rfl
            rw [es] at hN9
            exact hN9
          · rintro σ' H' ⟨a, b, d, e, rfl, hN', f⟩
            rw [List.length_map, List.length_range] at hN'
            exact ⟨a, b, d, e, rfl, hN', (Fr.of sD).trans f, hCD.fr f fun _ _ => nI_ins T.neCN⟩
        · obtain ⟨a, b, d, e, rfl, hNF, fF, dxC, hCF⟩ := hm3
          rw [hlk] at q
          exact ⟨_, rfl, ca, dxC, _, _, rfl, hCF, rfl, q _ hNF fF⟩

end
end Wp

set_option Elab.async false
set_option linter.all false
set_option maxRecDepth 100000
set_option maxHeartbeats 2000000
namespace Wp
open PySem PySem.Spec PyProof.Rows L2
section
variable {P : Program} {w : World} {K : PySem.W.Frag} {mg : Str → Option Value} {base : Heap} {c : CA}

/-- Net.opened -/
theorem w_Net_opened {f : Addr} {fd : FuncData} {ks : List (Str × V)} {dvs : List V} (F : FunD K "opened" "Net.opened" (defArgs s_Net_opened) (defBody s_Net_opened) (defScope s_Net_opened) dvs ks f fd) (T : Txt K w mg c) (m_Net_answer : C8.Met P w K mg base 7 c.N "answer" (sp_Net_answer P w c) []) (k_Visit : C8.Mak P w K mg base 1 "Visit" c.V (sp_Visit_init c) []) : FnOk P w K mg base C8.CX0 8 f fd ["self", "entry"] (sp_Net_opened P w c) := by
  refine F.ok sc_Net_opened (fun vs H Q E h => ?_) (fun cdv A outer s H vs Q E hr h => ?_)
  · obtain ⟨n, s0, S, x, N, rfl, hN, ok, q⟩ := h
    rfl
  · obtain ⟨n, s0, S, x, N, rfl, hN, ok, q⟩ := h
    have hu := hu_of hr
    have hu2 := hu2_of hr
    refine ⟨_, PSs.nox ((pss_cons (ps_set (i := 2) sc_Net_opened.nd rfl (Or.inl rfl) (pe_disp (pps_cons (pv 1) (pe_tup (pa_cons (C8.pe_mt m_Net_answer hr (by decide) (pv 0) (pa_cons (pv 1) (pa_cons pe_non pa_nil))) (pa_cons (pe_f T.cN T.aN_own_tick (pv 0)) pa_nil))) pps_nil) (by rfl) (by rfl) (fun z => by cases z) (by decide)))
      (pss_cons (ps_f T.cN T.aN_own_visits (pv 0) (pe_op op_catA (pe_f T.cN T.aN_own_visits (pv 0)) (pe_tup (pa_cons (C8.pe_mk k_Visit hr (by decide) rfl (pa_cons (pv 1) (pa_cons (pv 2) (pa_cons (pe_tup pa_nil) pa_nil)))) pa_nil))))
      (pss_one (ps_ret (pe_op op_sub (pe_callB call_len_seq rfl T.b_len (by decide +kernel) (pa_cons (pe_f T.cN T.aN_own_visits (pv 0)) pa_nil)) pe_int)))))), ?_⟩
    obtain ⟨dx, k, st, e, lf, fi, be, sv, co, vi, h1, hI⟩ := id hN
    refine fun pg hpg => ⟨_, rfl, ?_⟩
    have sA := same_new (o := .dK []) hpg
    have hpgA : (upd H pg (.dK [])) pg = some (.dK []) := upd_same
    generalize upd H pg (.dK []) = HA at sA hpgA
    refine ⟨_, rfl, n, dx, _, rfl, sA _ _ h1, rfl, _, rfl, n, s0, S, x, N, rfl, hN.same T sA, ok, fun HB hNB fB => ?_⟩
    obtain ⟨dx2, k2, st2, e2, lf2, fi2, be2, sv2, co2, vi2, h2, hI2⟩ := id hNB
    have hpgB := fB _ _ hpgA (nI_dK _)
    refine ⟨_, rfl, n, dx2, _, _, rfl, h2, rfl, by show 2 ≤ sizeLine; decide, fun t ht => ⟨same_new ht _ _ hpgB, [(Sum.inr x, .ref t)], rfl, by show 1 ≤ 15; decide, ?_⟩⟩
    have httC : (upd (upd HB t (.tup [.int (lookN S x N).2.1, .int N.tick])) pg (.dK (mergeK [] [((Sum.inr x : Key), V.ref t)]))) t = some (.tup [.int (lookN S x N).2.1, .int N.tick]) := by
      rw [upd_ne (fun e => by rw [← e, ht] at hpgB; cases hpgB)]
      exact upd_same
    have hpgC : (upd (upd HB t (.tup [.int (lookN S x N).2.1, .int N.tick])) pg (.dK (mergeK [] [((Sum.inr x : Key), V.ref t)]))) pg = some (.dK [((Sum.inr x : Key), V.ref t)]) := upd_same
    have nx : so S.ns ≠ [] := fun e => by have := ok.ns; rw [e] at this; cases this
    have fC : Fr (nE c.N) HB (upd (upd HB t (.tup [.int (lookN S x N).2.1, .int N.tick])) pg (.dK (mergeK [] [((Sum.inr x : Key), V.ref t)]))) := fun p o h no => by
      rw [upd_ne (fun e => by rw [e, hpgB] at h; exact no.2 (Option.some.inj h).symm), upd_ne (ne_of_none h ht)]
      exact h
    have f0 : Fr (nI c.N) H (upd (upd HB t (.tup [.int (lookN S x N).2.1, .int N.tick])) pg (.dK (mergeK [] [((Sum.inr x : Key), V.ref t)]))) := fun p o h no => by
      have np := ne_of_none h hpg
      have hB := fB _ _ (sA _ _ h) no
      rw [upd_ne np, upd_ne (ne_of_none hB ht)]
      exact hB
    have h2C : (upd (upd HB t (.tup [.int (lookN S x N).2.1, .int N.tick])) pg (.dK (mergeK [] [((Sum.inr x : Key), V.ref t)]))) n = some (.ins c.N dx2 (netF k2 st2 s0 N.tick e2 lf2 fi2 be2 sv2 co2 vi2)) := by
      rw [upd_ne (fun e => by rw [e, hpgB] at h2; cases h2), upd_ne (ne_of_none h2 ht)]
      exact h2
    have hI3 := hI2.nE T fC ok.ok nx
    generalize (upd (upd HB t (.tup [.int (lookN S x N).2.1, .int N.tick])) pg (.dK (mergeK [] [((Sum.inr x : Key), V.ref t)]))) = HC at httC hpgC fC f0 h2C hI3
    obtain ⟨vs, hvi, hvl, hvat⟩ := id hI3.viss
    refine ⟨_, rfl, n, dx2, _, _, rfl, h2C, rfl, _, rfl, _, rfl, by show 0 ≤ sizeLine; decide, fun em hem => ?_⟩
    refine fun y dy hy hdy _ => ⟨y, dy, x, pg, em, rfl, upd_same, fun HD dy2 hy2 bV => ⟨rfl, by show 1 ≤ sizeLine; decide, fun tv htv => ?_⟩⟩
    have sD : Same HC HD := (same_new hem).trans (bV.back (mk_same (C := c.V) hy hdy) hy)
    have lv : vs.length ≤ 1000 := by have := ok.vs; have e : vs.length = N.vis.length := hvl; omega
    refine catA (same_new htv _ _ (sD _ _ hvi)) upd_same (by rw [List.length_map, sizeLine_eq]; show vs.length + 1 ≤ _; omega) fun pd H4 s4 hpd => ?_
    have sDv := (same_new (o := .tup [.ref y]) htv).trans s4
    have sC4 := sD.trans sDv
    have h4 := sC4 _ _ h2C
    refine ⟨_, rfl, n, dx2, _, rfl, h4, by show 11 < 1000; decide, ?_⟩
    have b5 := But.upd n H4 (.ins c.N dx2 (putF "own_visits" (.ref pd) (netF k2 st2 s0 N.tick e2 lf2 fi2 be2 sv2 co2 vi2)))
    have f5 := b5.nI h4
    have h5 : (upd H4 n (.ins c.N dx2 (putF "own_visits" (.ref pd) (netF k2 st2 s0 N.tick e2 lf2 fi2 be2 sv2 co2 vi2)))) n = some (.ins c.N dx2 (netF k2 st2 s0 N.tick e2 lf2 fi2 be2 sv2 co2 pd)) := upd_same
    generalize upd H4 n (.ins c.N dx2 (putF "own_visits" (.ref pd) (netF k2 st2 s0 N.tick e2 lf2 fi2 be2 sv2 co2 vi2))) = H5 at f5 h5
    have hpd5 := f5 _ _ hpd (nI_tup _)
    refine ⟨_, rfl, n, dx2, _, _, rfl, h5, rfl, pd, _, rfl, .inr (SqT.of hpd5), _, _, rfl, rfl, ?_⟩
    have el : (((vs.map V.ref ++ [V.ref y]).length : Nat) : Int) - 1 = (N.vis.length : Nat) := by
      have e : vs.length = N.vis.length := hvl
      rw [List.length_append, List.length_map, e]
      simp
    show Q (.int ((((vs.map V.ref ++ [V.ref y]).length : Nat) : Int) - 1)) H5
    rw [el]
    have fC5 : Fr (nI c.N) HC H5 := (Fr.of sC4).trans f5
    have fD5 : Fr (nI c.N) HD H5 := (Fr.of sDv).trans f5
    refine q _ ⟨dx2, k2, st2, e2, lf2, fi2, be2, sv2, co2, pd, h5, ?_⟩ (f0.trans fC5)
    have hI5 := hI3.fr T fC5
    refine ⟨hI5.site, hI5.kinds, hI5.steps, hI5.eds, hI5.left, hI5.fin, hI5.beg, hI5.srv, hI5.cops, ⟨vs ++ [y], by rw [List.map_append]; exact hpd5, ?_, fun i v m ei em' => ?_⟩⟩
    · show (vs ++ [y]).length = (N.vis ++ [(lookN S x N).2.1]).length
      rw [List.length_append, List.length_append, show vs.length = N.vis.length from hvl]
      rfl
    · have em'' : (N.vis ++ [(lookN S x N).2.1])[i]? = some m := em'
      by_cases hi : i < vs.length
      · rw [List.getElem?_append_left hi] at ei
        rw [List.getElem?_append_left (by rw [← show vs.length = N.vis.length from hvl]; exact hi)] at em''
        exact (hvat i v m ei em'').fr fC5 (fun _ _ => nI_ins T.neVN) nI_tup nI_dK
      · have hn : i = vs.length := by
          have := (List.getElem?_eq_some_iff.mp ei).1
          rw [List.length_append] at this
          simp at this
          omega
        subst hn
        rw [List.getElem?_append_right (Nat.le_refl _), Nat.sub_self] at ei
        cases ei
        rw [show vs.length = N.vis.length from hvl, List.getElem?_append_right (Nat.le_refl _), Nat.sub_self] at em''
        cases em''
        exact ⟨dy2, pg, em, t, N.tick, fD5 _ _ hy2 (nI_ins T.neVN), fC5 _ _ hpgC (nI_dK _), fC5 _ _ httC (nI_tup _)⟩

/-- Net.done_there -/
theorem w_Net_done_there {f : Addr} {fd : FuncData} {ks : List (Str × V)} {dvs : List V} (F : FunD K "done_there" "Net.done_there" (defArgs s_Net_done_there) (defBody s_Net_done_there) (defScope s_Net_done_there) dvs ks f fd) (T : Txt K w mg c) (m_Ed_with_change : C8.Met P w K mg base 7 c.E "with_change" (sp_Ed_with_change K c) []) (m_Ed_changed : C8.Met P w K mg base 3 c.E "changed" (sp_Ed_changed c) []) (p_File_naming : Prp P w K mg base 1 c.F "naming" (sp_File_naming c)) (o_Site_item : Spc P w K mg base 4 c.S "__getitem__" (sp_Site_item c)) : FnOk P w K mg base C8.CX0 8 f fd ["self", "deed"] (sp_Net_done P w c) := by
  refine F.ok sc_Net_done_there (fun vs H Q E h => ?_) (fun cdv A outer s H vs Q E hr h => ?_)
  · obtain ⟨n, s0, a, S, x, N, d, rfl, hN, ok, ha, hd, hbs, q⟩ := h
    rfl
  · obtain ⟨n, s0, a, S, x, N, d, rfl, hN, ok, ha, hd, hbs, q⟩ := h
    have hu := hu_of hr
    have hu2 := hu2_of hr
    refine ⟨_, PSs.nox ((pss_cons (ps_if (pt_cmpR op_eq (pe_ix ix_tup (pv 1) pe_int (fun _ _ => rfl)) pe_str (nomark _)) (pss_cons (ps_f T.cN T.aN_own_editions (pv 0) (C8.pe_mt m_Ed_with_change hr (by decide) (pe_f T.cN T.aN_own_editions (pv 0)) (pa_cons (pe_ix ix_tup (pe_f T.cN T.aN_own_kinds (pv 0)) (pe_ix ix_tup (pv 1) pe_int (fun _ _ => rfl)) (fun _ _ => rfl)) pa_nil)))
        (pss_cons (ps_f T.cN T.aN_own_begun (pv 0) (pe_op op_catA (pe_f T.cN T.aN_own_begun (pv 0)) (pe_tup (pa_cons (pe_ix ix_tup (pv 1) pe_int (fun _ _ => rfl)) pa_nil))))
        (pss_cons (ps_set (i := 2) sc_Net_done_there.nd rfl (Or.inr rfl) (C8.pe_mt m_Ed_changed hr (by decide) (pe_f T.cN T.aN_own_editions (pv 0)) (pa_cons (pe_callB call_len_seq rfl T.b_len (by decide +kernel) (pa_cons (pe_f T.cN T.aN_own_begun (pv 0)) pa_nil)) pa_nil)))
        (pss_cons (ps_setLcR (i := 3) (own := [("step", 5)]) rfl sc_Net_done_there.nd rfl rfl (sw_true rfl rfl rfl (by decide +kernel)) (pi_tup (pe_f T.cN T.aN_own_steps (pv 0))) (blkOk_by (own := [("step", 5)]) (N := n_Net_done_there) (sc := defScope s_Net_done_there) (by decide +kernel)) (fun _ _ _ _ _ => (pg_name (i := 5) sc_Net_done_there.nd rfl (Or.inl rfl))) (fun _ _ _ _ _ => (pe_callTy (tupOfK (K := K) rfl) rfl T.b_tuple (by decide +kernel) (pa_cons (pe_lc (own := [("name", 4)]) rfl sc_Net_done_there.nd (piTupK (K := K) rfl (pv 5)) (blkOk_by (own := [("name", 4)]) (N := n_Net_done_there) (by rfl)) (fun _ _ _ _ _ => (pg_name (i := 4) sc_Net_done_there.nd rfl (Or.inl rfl))) (fun _ _ _ _ _ => (pts_one (pt_cmpR (inSeqK (K := K) rfl) (pv 4) (pv 2) (by rfl)))) (fun _ _ _ _ _ => (pv 4))) pa_nil))))
        (pss_cons (ps_f T.cN T.aN_own_left (pv 0) (pe_callTy call_tuple_of rfl T.b_tuple (by decide +kernel) (pa_cons (pe_lc (own := [("group", 6)]) rfl sc_Net_done_there.nd (pi_list (pv 3)) (blkOk_by (own := [("group", 6)]) (N := n_Net_done_there) (sc := defScope s_Net_done_there) (by decide +kernel)) (fun _ _ _ _ _ => (pg_name (i := 6) sc_Net_done_there.nd rfl (Or.inl rfl))) (fun _ _ _ _ _ => (pts_one (pt_cmpR (neDK (K := K) rfl hr.units) (pv 6) (pe_tup pa_nil) (nomark _)))) (fun _ _ _ _ _ => (pv 6))) pa_nil)))
        (pss_one (ps_ret (pe_callB call_len_seq rfl T.b_len (by decide +kernel) (pa_cons (pe_f T.cN T.aN_own_begun (pv 0)) pa_nil))))))))) pss_nil)
      (pss_cons (ps_if (pt_cmpR op_eq (pe_ix ix_tup (pv 1) pe_int (fun _ _ => rfl)) pe_str (nomark _)) (pss_cons (ps_set (i := 7) sc_Net_done_there.nd rfl (Or.inl rfl) (pe_dget hu (pe_f T.cN T.aN_own_server (pv 0)) (pe_ix ix_tup (pv 1) pe_int (fun _ _ => rfl)) (fun _ _ => rfl)))
        (pss_cons (ps_set (i := 8) sc_Net_done_there.nd rfl (Or.inl rfl) (pe_callTy call_tuple_of rfl T.b_tuple (by decide +kernel) (pa_cons (pe_lc (own := [("number", 9)]) rfl sc_Net_done_there.nd (pi_tup (pv 7)) (blkOk_by (own := [("number", 9)]) (N := n_Net_done_there) (sc := defScope s_Net_done_there) (by decide +kernel)) (fun _ _ _ _ _ => (pg_name (i := 9) sc_Net_done_there.nd rfl (Or.inl rfl))) (fun _ _ _ _ _ => (pts_one (pt_cmpR op_ne (pv 9) (pe_ix (ixTupK (K := K) rfl) (pv 1) pe_int (fun _ _ => rfl)) (nomark _)))) (fun _ _ _ _ _ => (pv 9))) pa_nil)))
        (pss_cons (ps_f T.cN T.aN_own_server (pv 0) (pe_dsKV (pe_f T.cN T.aN_own_server (pv 0)) (pe_ix ix_tup (pv 1) pe_int (fun _ _ => rfl)) (pv 8)))
        (pss_one (ps_ret pe_non))))) pss_nil)
      (pss_cons (ps_asg (pe_tup (pa_cons (pe_ix ix_tup (pe_f T.cN T.aN_own_left (pv 0)) pe_int (fun _ _ => rfl)) (pa_cons (pe_callB call_len_seq rfl T.b_len (by decide +kernel) (pa_cons (pe_f T.cN T.aN_own_begun (pv 0)) pa_nil)) pa_nil))) (pg_tup rfl (pgs_cons (pg_name (i := 2) sc_Net_done_there.nd rfl (Or.inr rfl)) (pgs_cons (pg_name (i := 9) sc_Net_done_there.nd rfl (Or.inl rfl)) pgs_nil))))
      (pss_cons (ps_for PassesOwn.never rfl (pi_tup (pv 2)) (pg_name (i := 4) sc_Net_done_there.nd rfl (Or.inl rfl))
        (pss_cons (ps_set (i := 10) sc_Net_done_there.nd rfl (Or.inl rfl) (pe_ifExp (pt_cmpR op_eq (pe_pr p_File_naming hr (by decide) (pe_own o_Site_item hr (by decide) (pe_f T.cN T.aN_own_site (pv 0)) (pv 4))) pe_str (nomark _)) (pe_dget hu (pe_f T.cN T.aN_own_server (pv 0)) (pv 4) (fun _ _ => rfl)) (pe_tup pa_nil)))
        (pss_one (ps_f T.cN T.aN_own_server (pv 0) (pe_dsKV (pe_f T.cN T.aN_own_server (pv 0)) (pv 4) (pe_op op_catA (pv 10) (pe_tup (pa_cons (pv 9) pa_nil))))))))
      (pss_cons (ps_f T.cN T.aN_own_left (pv 0) (pe_slice sl_tupA (pe_f T.cN T.aN_own_left (pv 0)) (po_some pe_int) po_none))
      (pss_cons (ps_if (pt_cmpR (op_eqD hr.units) (pe_f T.cN T.aN_own_left (pv 0)) (pe_tup pa_nil) (nomark _)) (pss_one (ps_f T.cN T.aN_own_finished (pv 0) (pe_op op_catA (pe_f T.cN T.aN_own_finished (pv 0)) (pe_tup (pa_cons (pe_f T.cN T.aN_own_tick (pv 0)) pa_nil))))) pss_nil)
      (pss_one (ps_ret (pv 2)))))))))), ?_⟩
    obtain ⟨dx, k, st, e, lf, fi, be, sv, co, vi, h1, hI⟩ := id hN
    rcases hbs with rfl | rfl
    · refine ⟨_, rfl, a, _, _, .str "begin", rfl, rfl, SqT.of ha, atI_nat (j := 0) rfl, ?_⟩
      refine ⟨rfl, _, rfl, iT rfl ?_⟩
      have hp : N.ph = 0 := hd
      obtain ⟨k0, hk, hk0⟩ := hI.kinds
      obtain ⟨ts, hst, hstl, hstat⟩ := hI.steps
      have nm := so_nm x ok.ns
      have hE := hI.eds
      rw [if_pos hp] at hE
      obtain ⟨dxE, cg, nu, t0, ts0, hE1, _⟩ := id hE
      have ha1 := SqT.of (K := K) ha
      refine ⟨_, rfl, n, dx, _, _, rfl, h1, rfl, e, dxE, _, rfl, hE1, rfl, _, rfl, n, dx, _, _, rfl, h1, rfl, _, rfl, a, _, _, .int 0, rfl, rfl, SqT.of ha, atI_nat (j := 1) rfl, k, _, _, .ref k0, rfl, rfl, SqT.of hk, atI_nat (j := 0) rfl, ?_⟩
      refine ⟨e, s0, k0, S, x, rfl, hE, hI.site, ok.ok, hk0, ok.ns, ok.pl, fun H1 e1 s1 hE1' => ?_⟩
      have h1' := s1 _ _ h1
      refine ⟨_, rfl, n, dx, _, rfl, h1', by show 11 < 1000; decide, ?_⟩
      have f2 := (But.upd n H1 (.ins c.N dx (putF "own_editions" (.ref e1) (netF k st s0 N.tick e lf fi be sv co vi)))).nI h1'
      have h2 : (upd H1 n (.ins c.N dx (putF "own_editions" (.ref e1) (netF k st s0 N.tick e lf fi be sv co vi)))) n = some (.ins c.N dx (netF k st s0 N.tick e1 lf fi be sv co vi)) := upd_same
      generalize upd H1 n (.ins c.N dx (putF "own_editions" (.ref e1) (netF k st s0 N.tick e lf fi be sv co vi))) = H2 at f2 h2
      have f02 : Fr (nI c.N) H H2 := (Fr.of s1).trans f2
      have hbe2 := f02 _ _ hI.beg (nI_tup _)
      rw [if_pos hp] at hbe2
      refine ⟨_, rfl, n, dx, _, _, rfl, h2, rfl, _, rfl, a, _, _, .int 0, rfl, rfl, SqT.of (f02 _ _ ha (nI_tup _)), atI_nat (j := 1) rfl, by show 1 ≤ sizeLine; decide, fun tb htb => ?_⟩
      have s3 := same_new (o := .tup [.int 0]) htb
      refine catA (s3 _ _ hbe2) upd_same (by show 1 ≤ sizeLine; decide) fun be1 H3 s3' hbe3 => ?_
      have s23 := s3.trans s3'
      have h3 := s23 _ _ h2
      refine ⟨_, rfl, n, dx, _, rfl, h3, by show 11 < 1000; decide, ?_⟩
      have f4 := (But.upd n H3 (.ins c.N dx (putF "own_begun" (.ref be1) (netF k st s0 N.tick e1 lf fi be sv co vi)))).nI h3
      have h4 : (upd H3 n (.ins c.N dx (putF "own_begun" (.ref be1) (netF k st s0 N.tick e1 lf fi be sv co vi)))) n = some (.ins c.N dx (netF k st s0 N.tick e1 lf fi be1 sv co vi)) := upd_same
      generalize upd H3 n (.ins c.N dx (putF "own_begun" (.ref be1) (netF k st s0 N.tick e1 lf fi be sv co vi))) = H4 at f4 h4
      have f24 : Fr (nI c.N) H2 H4 := (Fr.of s23).trans f4
      have f04 : Fr (nI c.N) H H4 := f02.trans f24
      have hbe4 := f4 _ _ hbe3 (nI_tup _)
      have hE4 : EdAt c H4 e1 s0 (some x) := (hE1'.nI f2 T.neEN).nI f24 T.neEN
      obtain ⟨dxE4, cg4, nu4, t04, ts4, hE4', _⟩ := id hE4
      refine ⟨_, rfl, n, dx, _, _, rfl, h4, rfl, e1, dxE4, _, rfl, hE4', rfl, _, rfl, n, dx, _, _, rfl, h4, rfl, be1, _, rfl, .inr (SqT.of hbe4), ?_⟩
      refine ⟨e1, s0, x, rfl, hE4, fun tc htc => ?_⟩
      have hst4 := f04 _ _ hst (nI_tup _)
      have htsat : ∀ (i : Nat) (y : V) (z : Str), ts[i]? = some y → (so S.ns)[i]? = some z → ∃ t, y = .ref t ∧ H4 t = some (.tup [.str z]) := fun i y z e1 e2 => by
        obtain ⟨t, e3, h⟩ := hstat i y z e1 e2
        exact ⟨t, e3, f04 _ _ h (nI_tup _)⟩
      have l8 := so_len S.ns
      -- the groups
      refine ⟨_, rfl, n, dx, _, _, rfl, h4, rfl, st, rfl, ⟨_, SqT.of hst4⟩, _, _, _, fun D H i y => ∃ t z, y = .ref t ∧ (so S.ns)[i]? = some z ∧ H t = some (.tup (if z = x then [.str x] else [])), walk_tup, fun {D H H' i y} b hD h => ?_, fun H s => SqT.of (s _ _ hst4), yat_same, (by rw [sizeLine_eq]; omega), fun D acc i y H5 hi hD hDa sm yy kk hkk => ?_, fun D H7 ys hD s7 h7 hl7 hR7 => ?_⟩
      · obtain ⟨t, z, e1, e2, h⟩ := h
        exact ⟨t, z, e1, e2, b.frL hD _ _ h (fun _ => by intro z; cases z)⟩
      · obtain ⟨_, ez⟩ := yy
        have ei : (so S.ns)[i]? = some ((so S.ns)[i]'(by omega)) := List.getElem?_eq_getElem (by omega)
        generalize (so S.ns)[i]'(by omega) = z at ei
        obtain ⟨t, rfl, ht⟩ := htsat i y z ez ei
        have ht5 := sm _ _ ht
        have htc5 := sm _ _ htc
        refine ⟨rfl, ?_⟩
        refine ⟨_, rfl, t, rfl, ⟨_, SqT.of ht5⟩, fun D2 hD2 => ?_⟩
        refine lc_it (walk_tup (xs := [.str z])) (fun j H' => Same H5 H' ∧ H' D2 = some (.lst (if j = 1 ∧ z = x then [.str x] else []))) ⟨same_new hD2, by rw [upd_same]; simp⟩ (fun j H' _ h => SqT.of (h.1 _ _ ht5)) ?_ ?_
        · rintro j v H8 H6 hj ⟨s6, h6⟩ ⟨rfl, ez2⟩
          obtain rfl : j = 0 := by have : j < 1 := hj; omega
          cases ez2
          refine ⟨rfl, _, rfl, _, rfl, tc, _, rfl, .inr (SqT.of (s6 _ _ htc5)), rfl, by simp [flatV], ?_⟩
          have ev : (if false = true then !inV (V.str z) [V.str x] else inV (V.str z) [V.str x]) = decide (z = x) := by
            show inV (.str z) ([x].map V.str) = _
            rw [inV_str]
            simp
          refine ⟨_, rfl, ?_⟩
          rw [ev]
          by_cases hz : z = x
          · rw [decide_eq_true hz]
            refine iteT ⟨_, rfl, _, h6, ?_, fun p o h => ?_, ?_⟩
            · rw [if_neg (by omega)]
              rw [sizeLine_eq]; show 0 < _; omega
            · rw [upd_ne (ne_of_none h hD2)]
              exact s6 p o h
            · rw [upd_same, if_neg (by omega), if_pos ⟨rfl, hz⟩, hz]
              rfl
          · rw [decide_eq_false hz]
            refine iteF ⟨s6, ?_⟩
            rw [h6, if_neg (by omega), if_neg (fun h => hz h.2)]
        · rintro H8 ⟨s8, h8⟩
          refine ⟨D2, _, rfl, .inl ⟨SqL.of h8, fun l hl => ?_⟩⟩
          refine hkk _ _ (s8.trans (same_new hl)) ⟨l, z, rfl, ei, ?_⟩
          rw [upd_same]
          by_cases hz : z = x
          · rw [if_pos hz, if_pos ⟨rfl, hz⟩]
          · rw [if_neg hz, if_neg (fun h => hz h.2)]
      · obtain ⟨i0, hi0, e0⟩ := List.mem_iff_getElem.mp ok.ns
        have e0' : (so S.ns)[i0]? = some x := by rw [List.getElem?_eq_getElem hi0, e0]
        obtain ⟨y0, ey0⟩ : ∃ y0, ys[i0]? = some y0 := ⟨_, List.getElem?_eq_getElem (by omega)⟩
        obtain ⟨tx, zx, rfl, ezx, htx⟩ := hR7 i0 y0 ey0
        rw [e0'] at ezx
        cases ezx
        rw [if_pos rfl] at htx
        refine ⟨_, rfl, D, rfl, ⟨_, SqL.of h7⟩, fun D3 hD3 => ?_⟩
        refine lc_it (walk_list (xs := ys)) (fun j H' => Same H7 H' ∧ H' D3 = some (.lst (if i0 < j then [.ref tx] else []))) ⟨same_new hD3, by rw [upd_same, if_neg (by omega)]⟩ (fun j H' _ h => SqL.of (h.1 _ _ h7)) ?_ ?_
        · rintro j v H9 H8 hj ⟨s8, h8⟩ ⟨rfl, ev⟩
          obtain ⟨t, z, rfl, ez, ht⟩ := hR7 j v ev
          refine ⟨rfl, _, rfl, by show 0 ≤ sizeLine; decide, fun em hem => ?_⟩
          have s9 := same_new (o := .tup []) hem
          have hem9 : (upd H8 em (.tup [])) em = some (.tup []) := upd_same
          generalize upd H8 em (.tup []) = H9 at s9 hem9
          have ht9 := s9 _ _ (s8 _ _ ht)
          have h9 := s9 _ _ h8
          by_cases hz : z = x
          · subst hz
            have hji : j = i0 := by
              exact (List.getElem?_inj (List.getElem?_eq_some_iff.mp ez).1 (so_nd S.ns)).mp (ez.trans e0'.symm)
            subst hji
            rw [if_pos rfl] at ht9
            have sh : ∀ z ∈ names8, SeqAt.shaped (.tuple [.str z]) = true := by decide +kernel
            refine ⟨.tuple [.str z], .tuple [], .tup (SqT.of ht9) (.cons (.str z) .nil), .tup (SqT.of hem9) .nil, sh z nm, rfl, _, rfl, ?_⟩
            refine iteT ⟨_, rfl, _, h9, ?_, fun p o h => ?_, ?_⟩
            · rw [if_neg (by omega), sizeLine_eq]; show 0 < _; omega
            · rw [upd_ne (ne_of_none h hD3)]
              exact s9 p o (s8 p o h)
            · rw [upd_same, if_neg (by omega), if_pos (by omega)]
              rw [ey0] at ev
              cases ev
              rfl
          · rw [if_neg hz] at ht9
            refine ⟨.tuple [], .tuple [], .tup (SqT.of ht9) .nil, .tup (SqT.of hem9) .nil, rfl, rfl, _, rfl, ?_⟩
            refine iteF ⟨s8.trans s9, ?_⟩
            rw [h9]
            have hji : j ≠ i0 := fun e => by
              rw [e, e0'] at ez
              cases ez
              exact hz rfl
            by_cases hlt : i0 < j
            · rw [if_pos hlt, if_pos (by omega)]
            · rw [if_neg hlt, if_neg (by omega)]
        · rintro H8 ⟨s8, h8⟩
          rw [if_pos (by omega)] at h8
          refine ⟨D3, _, rfl, .inl ⟨SqL.of h8, fun lf1 hlf1 => ?_⟩⟩
          have s9 := same_new (o := .tup [.ref tx]) hlf1
          have hlf9 : (upd H8 lf1 (.tup [.ref tx])) lf1 = some (.tup [.ref tx]) := upd_same
          generalize upd H8 lf1 (.tup [.ref tx]) = H9 at s9 hlf9
          have s79 := s8.trans s9
          have s49 := s7.trans s79
          have h9 := s49 _ _ h4
          refine ⟨_, rfl, n, dx, _, rfl, h9, by show 11 < 1000; decide, ?_⟩
          have f10 := (But.upd n H9 (.ins c.N dx (putF "own_left" (.ref lf1) (netF k st s0 N.tick e1 lf fi be1 sv co vi)))).nI h9
          have h10 : (upd H9 n (.ins c.N dx (putF "own_left" (.ref lf1) (netF k st s0 N.tick e1 lf fi be1 sv co vi)))) n = some (.ins c.N dx (netF k st s0 N.tick e1 lf1 fi be1 sv co vi)) := upd_same
          generalize upd H9 n (.ins c.N dx (putF "own_left" (.ref lf1) (netF k st s0 N.tick e1 lf fi be1 sv co vi))) = H10 at f10 h10
          have f410 : Fr (nI c.N) H4 H10 := (Fr.of s49).trans f10
          have f710 : Fr (nI c.N) H7 H10 := (Fr.of s79).trans f10
          have fall := f04.trans f410
          have hbeF := f410 _ _ hbe4 (nI_tup _)
          refine ⟨_, rfl, n, dx, _, _, rfl, h10, rfl, be1, _, rfl, .inr (SqT.of hbeF), ?_⟩
          have hI10 := hI.fr T fall
          have hfin := hI10.fin
          have hsrv := hI10.srv
          refine q _ _ ⟨dx, k, st, e1, lf1, fi, be1, sv, co, vi, h10, ⟨hI10.site, hI10.kinds, hI10.steps, hE4.nI f410 T.neEN, ⟨tx, f10 _ _ hlf9 (nI_tup _), f710 _ _ htx (nI_tup _)⟩, ?_, hbeF, ?_, hI10.cops, hI10.viss⟩⟩ fall
          · obtain ⟨fs, a1, a2, a3⟩ := hfin
            exact ⟨fs, a1, a2, fun _ => a3 (by omega)⟩
          · obtain ⟨gv, a1, t, a2, a3⟩ := hsrv
            have e9 : srvN N.ph = srvN 1 := by rw [hp]; rfl
            rw [e9] at a3
            exact ⟨gv, a1, t, a2, a3⟩
    · refine ⟨_, rfl, a, _, _, .str "step", rfl, rfl, SqT.of ha, atI_nat (j := 0) rfl, ?_⟩
      refine ⟨rfl, _, rfl, iF (by decide +kernel) ?_⟩
      refine ⟨_, rfl, a, _, _, .str "step", rfl, rfl, SqT.of ha, atI_nat (j := 0) rfl, ?_⟩
      refine ⟨rfl, _, rfl, iF (by decide +kernel) ?_⟩
      have hp : N.ph = 1 := hd
      have hlf := hI.left
      rw [if_pos hp] at hlf
      obtain ⟨l1, hlf, hl1⟩ := hlf
      have hbe := hI.beg
      rw [if_neg (by omega)] at hbe
      obtain ⟨fs, hfi, hfs, hfs2⟩ := hI.fin
      obtain rfl : fs = [] := hfs2 (by omega)
      obtain ⟨gv, hsv, t0, hgx, ht0⟩ := hI.srv
      have l8 := so_len S.ns
      refine ⟨_, rfl, n, dx, _, _, rfl, h1, rfl, lf, _, _, .ref l1, rfl, rfl, SqT.of hlf, atI_nat (j := 0) rfl, _, rfl, n, dx, _, _, rfl, h1, rfl, be, _, rfl, .inr (SqT.of hbe), by show 2 ≤ sizeLine; decide, fun tp htp => ⟨tp, _, rfl, SqT.of upd_same, rfl, _, _, rfl, _, _, rfl, rfl, ?_⟩⟩
      have sA := same_new (o := .tup [.ref l1, .int 1]) htp
      generalize upd H tp (.tup [.ref l1, .int 1]) = HA at sA
      have hl1A := sA _ _ hl1
      refine ⟨_, rfl, l1, rfl, ⟨_, SqT.of hl1A⟩, ?_⟩
      refine for_it (walk_tup (xs := [.str x])) (fun j σ' H' => (j = 0 → σ' = [some (.ref n), some (.ref a), some (.ref l1), none, none, none, none, none, none, some (.int 1), none] ∧ H' = HA) ∧ Fr (nI c.N) HA H' ∧ (j = 1 → (∃ (a4 a10 : Option V), σ' = [some (.ref n), some (.ref a), some (.ref l1), none, a4, none, none, none, none, some (.int 1), a10]) ∧ ∃ (sv1 t1 : Addr) (gv1 : Str → V), H' n = some (.ins c.N dx (netF k st s0 N.tick e lf fi be sv1 co vi)) ∧ H' sv1 = some (.dK ((so S.ns).map fun z => (Sum.inr z, gv1 z))) ∧ gv1 x = .ref t1 ∧ H' t1 = some (.tup [.int 1]))) ⟨fun _ => ⟨rfl, rfl⟩, Same.refl _ |> Fr.of, fun h => nomatch h⟩ ?_ ?_ ?_
      · rintro j σ' H' hj ⟨_, f, _⟩
        exact SqT.of (f _ _ hl1A (nI_tup _))
      · rintro j v σ' H4 H3 hj ⟨p0, _, _⟩ ⟨rfl, ez⟩
        obtain rfl : j = 0 := by have : j < 1 := hj; omega
        cases ez
        obtain ⟨rfl, rfl⟩ := p0 rfl
        have h1A := sA _ _ h1
        have hsvA := sA _ _ hsv
        obtain ⟨dxS, fS, tS, hs, hfS, _⟩ := id (hI.site.same sA)
        have hSA := hI.site.same sA
        refine ⟨_, rfl, n, dx, _, _, rfl, h1A, rfl, _, rfl, s0, dxS, _, rfl, hs, s0, S, x, rfl, hSA, ok.ns, fun p fp => ?_⟩
        obtain ⟨dxF, rF, kF, f1, _⟩ := id fp
        refine ⟨p, dxF, _, rfl, f1, p, S.fd x, rfl, fp, rfl, _, rfl, iF (by rw [ok.pl]; exact fun h => absurd h (by decide +kernel)) ?_⟩
        refine ⟨by show 0 ≤ sizeLine; decide, fun kp hkp => ?_⟩
        have sB := same_new (o := .tup []) hkp
        have hkpB : (upd H3 kp (.tup [])) kp = some (.tup []) := upd_same
        generalize upd H3 kp (.tup []) = HB at sB hkpB
        refine fun d1 hd1 => ?_
        have s6 := same_new (o := .dK []) hd1
        have hsvB := sB _ _ hsvA
        refine ⟨_, rfl, n, dx, _, _, rfl, s6 _ _ (sB _ _ h1A), rfl, sv, _, rfl, (ne_of_none hsvB hd1).symm, s6 _ _ hsvB, upd_same, by rw [List.length_map, sizeLine_eq]; omega, fun d2 hd2 => ?_⟩
        have n21 : d2 ≠ d1 := fun e => by rw [e, upd_same] at hd2; cases hd2
        have hd2' : (upd HB d1 (.dK [])) d2 = none := by rw [upd_ne n21] at hd2; exact hd2
        have up7 : Same HB (upd (upd (upd HB d1 (.dK [])) d1 (.dK ((so S.ns).map fun z => (Sum.inr z, gv z)))) d2 (.dK [])) := fun a o h => by
          rw [upd_ne (ne_of_none (s6 _ _ h) hd2'), upd_ne (ne_of_none h hd1)]
          exact s6 _ _ h
        have h17 : (upd (upd (upd HB d1 (.dK [])) d1 (.dK ((so S.ns).map fun z => (Sum.inr z, gv z)))) d2 (.dK [])) d1 = some (.dK ((so S.ns).map fun z => (Sum.inr z, gv z))) := by rw [upd_ne n21.symm]; exact upd_same
        have h27 : (upd (upd (upd HB d1 (.dK [])) d1 (.dK ((so S.ns).map fun z => (Sum.inr z, gv z)))) d2 (.dK [])) d2 = some (.dK []) := upd_same
        generalize upd (upd (upd HB d1 (.dK [])) d1 (.dK ((so S.ns).map fun z => (Sum.inr z, gv z)))) d2 (.dK []) = H7 at up7 h17 h27
        refine ⟨_, rfl, _, rfl, _, rfl, by show 1 ≤ sizeLine; decide, fun tn htn => ?_⟩
        have s8 := same_new (o := .tup [.int 1]) htn
        refine catA (s8 _ _ (up7 _ _ hkpB)) upd_same (by show 1 ≤ sizeLine; decide) fun tk H9 s9 htk => ?_
        have s79 := s8.trans s9
        refine ⟨Sum.inr x, rfl, s79 _ _ h17, s79 _ _ h27, ?_⟩
        have up10 : Same HB (upd (upd H9 d2 (.dK [((Sum.inr x : Key), V.ref tk)])) d1 (.dK (putK ((so S.ns).map fun z => ((Sum.inr z : Key), gv z)) (Sum.inr x) (.ref tk)))) := fun a o h => by
          rw [upd_ne (ne_of_none h hd1), upd_ne (ne_of_none (s6 _ _ h) hd2')]
          exact s79 _ _ (up7 _ _ h)
        have htk10 : (upd (upd H9 d2 (.dK [((Sum.inr x : Key), V.ref tk)])) d1 (.dK (putK ((so S.ns).map fun z => ((Sum.inr z : Key), gv z)) (Sum.inr x) (.ref tk)))) tk = some (.tup [.int 1]) := by
          rw [upd_ne (fun e => by rw [e, s79 _ _ h17] at htk; cases htk), upd_ne (fun e => by rw [e, s79 _ _ h27] at htk; cases htk)]
          exact htk
        have hd10 : (upd (upd H9 d2 (.dK [((Sum.inr x : Key), V.ref tk)])) d1 (.dK (putK ((so S.ns).map fun z => ((Sum.inr z : Key), gv z)) (Sum.inr x) (.ref tk)))) d1 = some (.dK ((so S.ns).map fun z => ((Sum.inr z : Key), if z = x then V.ref tk else gv z))) := by
          rw [upd_same, putK_at ok.ns]
        generalize upd (upd H9 d2 (.dK [((Sum.inr x : Key), V.ref tk)])) d1 (.dK (putK ((so S.ns).map fun z => ((Sum.inr z : Key), gv z)) (Sum.inr x) (.ref tk))) = HC at up10 htk10 hd10
        have sC := sB.trans up10
        have hnC := sC _ _ h1A
        refine ⟨_, rfl, n, dx, _, rfl, hnC, by show 11 < 1000; decide, ?_⟩
        refine ⟨fun h => absurd h (by decide), ?_, fun _ => ⟨⟨_, _, rfl⟩, d1, tk, fun z => if z = x then .ref tk else gv z, upd_same, ?_, if_pos rfl, ?_⟩⟩
        · exact (Fr.of sC).trans ((But.upd n HC _).nI hnC)
        · exact (But.upd n HC _).nI hnC _ _ hd10 (nI_dK _)
        · exact (But.upd n HC _).nI hnC _ _ htk10 (nI_tup _)
      · rintro σ' H3 ⟨_, f3, p1⟩
        obtain ⟨⟨a4, a10, rfl⟩, sv1, t1, gv1, h3, hsv3, hgx3, ht3⟩ := p1 rfl
        have f03 : Fr (nI c.N) H H3 := (Fr.of sA).trans f3
        have hlf3 := f03 _ _ hlf (nI_tup _)
        refine ⟨_, rfl, n, dx, _, _, rfl, h3, rfl, _, rfl, ?_⟩
        show tNoPart _ _ _
        unfold tNoPart
        refine slA (K := K) (lo := some 1) (hi := none) hlf3 fun pl H5 s5 hpl => ?_
        rw [show (1 : Int) = ((1 : Nat) : Int) from rfl, cut_from] at hpl
        have h5 := s5 _ _ h3
        refine ⟨_, rfl, n, dx, _, rfl, h5, by show 11 < 1000; decide, ?_⟩
        have f6 := (But.upd n H5 (.ins c.N dx (putF "own_left" (.ref pl) (netF k st s0 N.tick e lf fi be sv1 co vi)))).nI h5
        have h6 : (upd H5 n (.ins c.N dx (putF "own_left" (.ref pl) (netF k st s0 N.tick e lf fi be sv1 co vi)))) n = some (.ins c.N dx (netF k st s0 N.tick e pl fi be sv1 co vi)) := upd_same
        generalize upd H5 n (.ins c.N dx (putF "own_left" (.ref pl) (netF k st s0 N.tick e lf fi be sv1 co vi))) = H6 at f6 h6
        have hpl6 := f6 _ _ hpl (nI_tup _)
        refine ⟨_, rfl, n, dx, _, _, rfl, h6, rfl, by show 0 ≤ sizeLine; decide, fun em hem => ⟨.tuple [], .tuple [], .tup (SqT.of (same_new hem _ _ hpl6)) .nil, .tup (SqT.of upd_same) .nil, rfl, rfl, _, rfl, iteT ?_⟩⟩
        have s7 := same_new (o := .tup []) hem
        generalize upd H6 em (.tup []) = H7 at s7
        have h7 := s7 _ _ h6
        have f07 : Fr (nI c.N) H H7 := f03.trans ((Fr.of s5).trans (f6.trans (Fr.of s7)))
        refine ⟨_, rfl, n, dx, _, _, rfl, h7, rfl, _, rfl, n, dx, _, _, rfl, h7, rfl, by show 1 ≤ sizeLine; decide, fun tt htt => ?_⟩
        have s8 := same_new (o := .tup [.int N.tick]) htt
        refine catA (s8 _ _ (f07 _ _ hfi (nI_tup _))) upd_same (by show 1 ≤ sizeLine; decide) fun fi1 H9 s9 hfi9 => ?_
        have s79 := s8.trans s9
        have h9 := s79 _ _ h7
        refine ⟨_, rfl, n, dx, _, rfl, h9, by show 11 < 1000; decide, ?_⟩
        have f10 := (But.upd n H9 (.ins c.N dx (putF "own_finished" (.ref fi1) (netF k st s0 N.tick e pl fi be sv1 co vi)))).nI h9
        have h10 : (upd H9 n (.ins c.N dx (putF "own_finished" (.ref fi1) (netF k st s0 N.tick e pl fi be sv1 co vi)))) n = some (.ins c.N dx (netF k st s0 N.tick e pl fi1 be sv1 co vi)) := upd_same
        generalize upd H9 n (.ins c.N dx (putF "own_finished" (.ref fi1) (netF k st s0 N.tick e pl fi be sv1 co vi))) = H10 at f10 h10
        have f710 : Fr (nI c.N) H7 H10 := (Fr.of s79).trans f10
        have f610 : Fr (nI c.N) H6 H10 := (Fr.of s7).trans f710
        have f310 : Fr (nI c.N) H3 H10 := (Fr.of s5).trans (f6.trans f610)
        have fall := f03.trans f310
        have hI10 := hI.fr T fall
        have hE10 := hI10.eds
        rw [if_neg (by omega)] at hE10
        have hb10 := hI10.beg
        rw [if_neg (by omega)] at hb10
        refine ⟨_, rfl, q _ _ ⟨dx, k, st, e, pl, fi1, be, sv1, co, vi, h10, ⟨hI10.site, hI10.kinds, hI10.steps, hE10, f610 _ _ hpl6 (nI_tup _), ⟨_, f10 _ _ hfi9 (nI_tup _), by show 1 ≤ 1; decide, fun h => absurd (show (2 : Nat) < 2 from h) (by decide)⟩, hb10, ⟨gv1, f310 _ _ hsv3 (nI_dK _), t1, hgx3, f310 _ _ ht3 (nI_tup _)⟩, hI10.cops, hI10.viss⟩⟩ fall⟩

/-- Net.do -/
theorem w_Net_do {f : Addr} {fd : FuncData} {ks : List (Str × V)} {dvs : List V} (F : FunD K "do" "Net.do" (defArgs s_Net_do) (defBody s_Net_do) (defScope s_Net_do) dvs ks f fd) (T : Txt K w mg c) (m_Net_need : C8.Met P w K mg base 8 c.N "need" (sp_Net_need P w c) []) (m_Net_done_there : C8.Met P w K mg base 8 c.N "done_there" (sp_Net_done P w c) []) (c_copy_key : C8.Cal P w K mg base 6 "copy_key" (sp_copy_key P w c) []) (m_Net_put_copies : C8.Met P w K mg base 1 c.N "put_copies" (sp_Net_put P w c) []) (m_Net_opened : C8.Met P w K mg base 8 c.N "opened" (sp_Net_opened P w c) []) : FnOk P w K mg base C8.CX0 9 f fd ["self", "deed"] (sp_Net_do P w c) := by
  refine F.ok sc_Net_do (fun vs H Q E h => ?_) (fun cdv A outer s H vs Q E hr h => ?_)
  · obtain ⟨n, s0, a, S, x, N, d, rfl, hN, ok, ha, hd, q⟩ := h
    rfl
  · obtain ⟨n, s0, a, S, x, N, d, rfl, hN, ok, ha, hd, q⟩ := h
    have hu := hu_of hr
    have hu2 := hu2_of hr
    refine ⟨_, PSs.nox ((pss_cons (ps_expr (C8.pe_mt m_Net_need hr (by decide) (pv 0) (pa_cons (pv 1) pa_nil)))
      (pss_cons (ps_if (pt_cmpR op_in_seq (pe_ix ix_tup (pv 1) pe_int (fun _ _ => rfl)) (pe_tup (pa_cons pe_str (pa_cons pe_str (pa_cons pe_str pa_nil)))) (by rfl)) (pss_one (ps_ret (C8.pe_mt m_Net_done_there hr (by decide) (pv 0) (pa_cons (pv 1) pa_nil)))) pss_nil)
      (pss_cons (ps_if (pt_cmpR op_eq (pe_ix ix_tup (pv 1) pe_int (fun _ _ => rfl)) pe_str (nomark _)) (pss_cons (ps_fldaug (pv 0) (pe_ix ix_tup (pv 1) pe_int (fun _ _ => rfl)) in_add)
        (pss_one (ps_ret pe_non))) pss_nil)
      (pss_cons (ps_if (pt_cmpR op_eq (pe_ix ix_tup (pv 1) pe_int (fun _ _ => rfl)) pe_str (nomark _)) (pss_cons (ps_set (i := 2) sc_Net_do.nd rfl (Or.inl rfl) (pe_callTy (cr_cpDict hu2) rfl T.b_dict (by decide +kernel) (pa_cons (pe_ix ix_tup (pe_f T.cN T.aN_own_copies (pv 0)) (pe_ix ix_tup (pv 1) pe_int (fun _ _ => rfl)) (fun _ _ => rfl)) pa_nil)))
        (pss_cons (ps_expr (pe_bmCp PySem.F.plainAttrs_dict PySem.F.slot_dict_pop PySem.F.type_dict_pop (mt_cpPop hu) (pv 2) (pa_cons (C8.pe_c c_copy_key hr (by decide) rfl (pa_cons (pv 0) (pa_cons (pe_ix ix_tup (pv 1) pe_int (fun _ _ => rfl)) (pa_cons (pe_ix ix_tup (pv 1) pe_int (fun _ _ => rfl)) pa_nil)))) pa_nil)))
        (pss_cons (ps_expr (C8.pe_mt m_Net_put_copies hr (by decide) (pv 0) (pa_cons (pe_ix ix_tup (pv 1) pe_int (fun _ _ => rfl)) (pa_cons (pv 2) pa_nil))))
        (pss_one (ps_ret pe_non))))) pss_nil)
      (pss_one (ps_ret (pe_ifExp (pt_cmpR op_eq (pe_ix ix_tup (pv 1) pe_int (fun _ _ => rfl)) pe_str (nomark _)) (C8.pe_mt m_Net_opened hr (by decide) (pv 0) (pa_cons (pe_ix ix_tup (pv 1) pe_int (fun _ _ => rfl)) pa_nil)) pe_no)))))))), ?_⟩
    obtain ⟨dx, k, st, e, lf, fi, be, sv, co, vi, h1, hI⟩ := id hN
    refine ⟨_, rfl, n, dx, _, rfl, h1, rfl, _, rfl, n, s0, a, S, x, N, d, rfl, hN, ok, ha, hd, fun H0 s0' => ?_⟩
    have ha0 := s0' _ _ ha
    cases d with
    | beg =>
      refine ⟨_, rfl, a, _, _, .str "begin", rfl, rfl, SqT.of ha0, atI_nat (j := 0) rfl, by show 3 ≤ sizeLine; decide, fun tp htp => ?_⟩
      have s1 := s0'.trans (same_new (o := .tup [.str "begin", .str "step", .str "clear"]) htp)
      refine ⟨tp, _, rfl, .inr (SqT.of upd_same), rfl, by simp [flatV], _, rfl, ?_⟩
      refine iteT' (by decide +kernel) ?_
      generalize upd H0 tp (.tup [.str "begin", .str "step", .str "clear"]) = H1 at s1
      have ha1 := s1 _ _ ha
      have h11 := s1 _ _ h1
      have hN1 := hN.same T s1
      exact ⟨_, rfl, n, dx, _, rfl, h11, rfl, _, rfl, n, s0, a, S, x, N, _, rfl, hN1, ok, ha1, hd, .inl rfl, fun H' v hN2 f2 => q _ v hN2 ((Fr.of s1).trans f2) (fun e => nomatch e)⟩
    | stp =>
      refine ⟨_, rfl, a, _, _, .str "step", rfl, rfl, SqT.of ha0, atI_nat (j := 0) rfl, by show 3 ≤ sizeLine; decide, fun tp htp => ?_⟩
      have s1 := s0'.trans (same_new (o := .tup [.str "begin", .str "step", .str "clear"]) htp)
      refine ⟨tp, _, rfl, .inr (SqT.of upd_same), rfl, by simp [flatV], _, rfl, ?_⟩
      refine iteT' (by decide +kernel) ?_
      generalize upd H0 tp (.tup [.str "begin", .str "step", .str "clear"]) = H1 at s1
      have ha1 := s1 _ _ ha
      have h11 := s1 _ _ h1
      have hN1 := hN.same T s1
      exact ⟨_, rfl, n, dx, _, rfl, h11, rfl, _, rfl, n, s0, a, S, x, N, _, rfl, hN1, ok, ha1, hd, .inr rfl, fun H' v hN2 f2 => q _ v hN2 ((Fr.of s1).trans f2) (fun e => nomatch e)⟩
    | wai t =>
      refine ⟨_, rfl, a, _, _, .str "wait", rfl, rfl, SqT.of ha0, atI_nat (j := 0) rfl, by show 3 ≤ sizeLine; decide, fun tp htp => ?_⟩
      have s1 := s0'.trans (same_new (o := .tup [.str "begin", .str "step", .str "clear"]) htp)
      refine ⟨tp, _, rfl, .inr (SqT.of upd_same), rfl, by simp [flatV], _, rfl, ?_⟩
      refine iteF' (by decide +kernel) ?_
      generalize upd H0 tp (.tup [.str "begin", .str "step", .str "clear"]) = H1 at s1
      have ha1 := s1 _ _ ha
      have h11 := s1 _ _ h1
      have hN1 := hN.same T s1
      refine ⟨_, rfl, a, _, _, .str "wait", rfl, rfl, SqT.of ha1, atI_nat (j := 0) rfl, ?_⟩
      refine ⟨rfl, _, rfl, iT rfl ?_⟩
      refine ⟨_, rfl, n, c.N, dx, _, .int N.tick, rfl, h11, T.cN, T.aN_own_tick, rfl, ?_⟩
      refine ⟨_, rfl, a, _, _, .int t, rfl, rfl, SqT.of ha1, atI_nat (j := 1) rfl, ?_⟩
      refine ⟨N.tick, t, rfl, rfl, dx, _, h11, by show 11 < 1000; decide, ?_⟩
      have f2 := (But.upd n H1 (.ins c.N dx (putF "own_tick" (.int (N.tick + t)) (netF k st s0 N.tick e lf fi be sv co vi)))).nI h11
      have fall : Fr (nI c.N) H _ := (Fr.of s1).trans f2
      have hIF := hI.fr T fall
      exact q _ _ ⟨dx, k, st, e, lf, fi, be, sv, co, vi, by rw [upd_same]; rfl, ⟨hIF.site, hIF.kinds, hIF.steps, hIF.eds, hIF.left, hIF.fin, hIF.beg, hIF.srv, hIF.cops, hIF.viss⟩⟩ fall (fun e => nomatch e)
    | opn =>
      refine ⟨_, rfl, a, _, _, .str "open", rfl, rfl, SqT.of ha0, atI_nat (j := 0) rfl, by show 3 ≤ sizeLine; decide, fun tp htp => ?_⟩
      have s1 := s0'.trans (same_new (o := .tup [.str "begin", .str "step", .str "clear"]) htp)
      refine ⟨tp, _, rfl, .inr (SqT.of upd_same), rfl, by simp [flatV], _, rfl, ?_⟩
      refine iteF' (by decide +kernel) ?_
      generalize upd H0 tp (.tup [.str "begin", .str "step", .str "clear"]) = H1 at s1
      have ha1 := s1 _ _ ha
      have h11 := s1 _ _ h1
      have hN1 := hN.same T s1
      refine ⟨_, rfl, a, _, _, .str "open", rfl, rfl, SqT.of ha1, atI_nat (j := 0) rfl, ?_⟩
      refine ⟨rfl, _, rfl, iF (by decide +kernel) ?_⟩
      refine ⟨_, rfl, a, _, _, .str "open", rfl, rfl, SqT.of ha1, atI_nat (j := 0) rfl, ?_⟩
      refine ⟨rfl, _, rfl, iF (by decide +kernel) ?_⟩
      refine ⟨_, rfl, a, _, _, .str "open", rfl, rfl, SqT.of ha1, atI_nat (j := 0) rfl, ?_⟩
      refine ⟨rfl, _, rfl, iT rfl ?_⟩
      refine ⟨_, rfl, n, dx, _, rfl, h11, rfl, _, rfl, a, _, _, .str x, rfl, rfl, SqT.of ha1, atI_nat (j := 1) rfl, n, s0, S, x, N, rfl, hN1, ok, fun H' hN2 f2 => ?_⟩
      exact q _ _ hN2 ((Fr.of s1).trans f2) fun _ => rfl
    | los i con =>
      refine ⟨_, rfl, a, _, _, .str "lose", rfl, rfl, SqT.of ha0, atI_nat (j := 0) rfl, by show 3 ≤ sizeLine; decide, fun tp htp => ?_⟩
      have s1 := s0'.trans (same_new (o := .tup [.str "begin", .str "step", .str "clear"]) htp)
      refine ⟨tp, _, rfl, .inr (SqT.of upd_same), rfl, by simp [flatV], _, rfl, ?_⟩
      refine iteF' (by decide +kernel) ?_
      generalize upd H0 tp (.tup [.str "begin", .str "step", .str "clear"]) = H1 at s1
      have ha1 := s1 _ _ ha
      have h11 := s1 _ _ h1
      have hN1 := hN.same T s1
      refine ⟨_, rfl, a, _, _, .str "lose", rfl, rfl, SqT.of ha1, atI_nat (j := 0) rfl, ?_⟩
      refine ⟨rfl, _, rfl, iF (by decide +kernel) ?_⟩
      refine ⟨_, rfl, a, _, _, .str "lose", rfl, rfl, SqT.of ha1, atI_nat (j := 0) rfl, ?_⟩
      refine ⟨rfl, _, rfl, iT rfl ?_⟩
      obtain ⟨p, hp, rfl⟩ : ∃ p, N.cps[i]? = some (some p) ∧ p.con = con := hd
      have hI1 := hI.fr T (Fr.of s1)
      obtain ⟨ds, hco, hl, hat⟩ := id hI1.cops
      have hlt := (List.getElem?_eq_some_iff.mp hp).1
      have ei : ds[i]? = some ds[i] := List.getElem?_eq_getElem (by omega)
      obtain ⟨q1, c1, c2, kt, ca, rfl, c3⟩ := hat i _ _ ei hp
      have hkt := c2 kt ca rfl
      refine ⟨_, rfl, n, dx, _, _, rfl, h11, rfl, _, rfl, a, _, _, .int i, rfl, rfl, SqT.of ha1, atI_nat (j := 1) rfl, co, _, _, .ref ds[i], rfl, rfl, SqT.of hco, atI_nat (by rw [List.getElem?_map, ei]; rfl), ?_⟩
      refine ⟨ds[i], x, _, rfl, c1, c2, fun cp hcp => ?_⟩
      have s2 := same_new (o := CpO P w cp x (some (kt, ca))) hcp
      have hcp2 : (upd H1 cp (CpO P w cp x (some (kt, ca)))) cp = some (CpO P w cp x (some (kt, ca))) := upd_same
      have s02 := s1.trans s2
      refine ⟨_, rfl, ⟨cp, x, _, rfl, hcp2⟩, _, rfl, _, rfl, a, _, _, .str x, rfl, rfl, SqT.of (s2 _ _ ha1), atI_nat (j := 2) rfl, _, rfl, a, _, _, .int p.con, rfl, rfl, SqT.of (s2 _ _ ha1), atI_nat (j := 3) rfl, n, s0, S, x, N, _, rfl, hN.same T s02, ok, fun H3 kp s3 hkp => ?_⟩
      have s23 := s2.trans s3
      have hcp3 := s3 _ _ hcp2
      refine ⟨cp, x, kt, ca, kp, rfl, rfl, hcp3, s23 _ _ hkt, hkp, ?_⟩
      have s4 : Same H1 (upd H3 cp (CpO P w cp x none)) := fun p o h => by
        rw [upd_ne (ne_of_none h hcp)]
        exact s23 _ _ h
      have s04 := s1.trans s4
      refine ⟨_, rfl, n, dx, _, rfl, s4 _ _ h11, rfl, _, rfl, a, _, _, .int i, rfl, rfl, SqT.of (s4 _ _ ha1), atI_nat (j := 1) rfl, _, rfl, n, s0, cp, S, x, N, i, none, rfl, hN.same T s04, ok, hlt, ⟨none, upd_same, .none, rfl⟩, fun H5 hN5 f5 => ?_⟩
      exact q _ _ hN5 ((Fr.of s04).trans f5) (fun e => nomatch e)

end
end Wp

set_option Elab.async false
set_option linter.all false
set_option maxRecDepth 100000
set_option maxHeartbeats 2000000
namespace Wp
open PySem PySem.Spec PyProof.Rows L2
section
variable {P : Program} {w : World} {K : PySem.W.Frag} {mg : Str → Option Value} {base : Heap} {c : CA}

/-- _law_begun -/
theorem w_l_begun {f : Addr} {fd : FuncData} {ks : List (Str × V)} {dvs : List V} (F : FunD K "_law_begun" "_law_begun" (defArgs s_l_begun) (defBody s_l_begun) (defScope s_l_begun) dvs ks f fd) (T : Txt K w mg c)  : FnOk P w K mg base C8.CX0 1 f fd ["_law_script"] (sp_begun0 K) := by
  refine F.ok sc_l_begun (fun vs H Q E h => ?_) (fun cdv A outer s H vs Q E hr h => ?_)
  · obtain ⟨a, cs, rfl, hs, hl, q⟩ := h
    rfl
  · obtain ⟨a, cs, rfl, hs, hl, q⟩ := h
    have hu := hu_of hr
    have hu2 := hu2_of hr
    refine ⟨_, PSs.nox ((pss_cons (ps_setLc (i := 1) (own := [("_law_cell", 2)]) rfl sc_l_begun.nd rfl rfl (sw_true rfl rfl rfl (by decide +kernel)) (pi_list (pv 0)) (blkOk_by (own := [("_law_cell", 2)]) (N := n_l_begun) (sc := defScope s_l_begun) (by decide +kernel)) (fun _ _ _ _ _ => (pg_name (i := 2) sc_l_begun.nd rfl (Or.inl rfl))) (fun _ _ _ _ _ => (pts_one (pt_cmpR op_ge (pv 2) (pe_op op_pow pe_int pe_int) (nomark _)))) (fun _ _ _ _ _ => (pe_op op_sub (pv 2) (pe_op op_pow pe_int pe_int))))
      (pss_one (ps_ret (pe_disp (pps_cons pe_str (pv 1) (pps_cons pe_str (pe_callTy call_list_of rfl T.b_list (by decide +kernel) (pa_cons (pv 0) pa_nil)) (pps_cons pe_str pe_int (pps_cons pe_str pe_int pps_nil)))) (by rfl) (by rfl) (fun z => by cases z) (by decide)))))), ?_⟩
    have hpow : (10 : Int) ^ ((18 : Int).toNat) = 1000000000000000000 := by decide +kernel
    refine ⟨_, rfl, a, rfl, ⟨_, hs⟩, fun D hD => ?_⟩
    refine lc_it (walk_list (xs := cs.map V.int)) (fun j H' => Same H H' ∧ ∃ ns : List Int, (∀ n ∈ ns, 0 ≤ n) ∧ ns.length ≤ j ∧ H' D = some (.lst (ns.map V.int))) ⟨same_new hD, [], (fun n h => by cases h), Nat.le_refl _, upd_same⟩ (fun j H' _ h => h.1.seq hs) ?_ ?_
    · rintro j v H2 H1 hj ⟨s1, ns, hn, hnl, hD1⟩ ⟨rfl, ev⟩
      rw [List.length_map] at hj
      rw [List.getElem?_map, List.getElem?_eq_getElem hj] at ev
      cases ev
      generalize cs[j] = z
      refine ⟨rfl, _, rfl, 10, 18, rfl, rfl, ⟨by decide, by decide, by decide⟩, z, _, rfl, rfl, _, rfl, ?_⟩
      rw [hpow]
      by_cases hz : (1000000000000000000 : Int) ≤ z
      · rw [decide_eq_true hz]
        refine iteT ⟨_, rfl, 10, 18, rfl, rfl, ⟨by decide, by decide, by decide⟩, z, _, rfl, rfl, ns.map V.int, hD1, by rw [List.length_map, sizeLine_eq]; omega, fun p o h => ?_, ns ++ [z - 1000000000000000000], ?_, ?_, ?_⟩
        · rw [upd_ne (ne_of_none h hD)]
          exact s1 p o h
        · intro m hm
          rcases List.mem_append.mp hm with h | h
          · exact hn m h
          · rw [List.mem_singleton] at h
            omega
        · rw [List.length_append]
          show ns.length + 1 ≤ j + 1
          omega
        · rw [upd_same, hpow, List.map_append]
          rfl
      · rw [decide_eq_false hz]
        exact iteF ⟨s1, ns, hn, by omega, hD1⟩
    · rintro H1 ⟨s1, ns, hn, hnl, hD1⟩
      rw [List.length_map] at hnl
      refine fun p hp => ?_
      have s2 := same_new (o := .dK []) hp
      have hp2 : (upd H1 p (.dK [])) p = some (.dK []) := upd_same
      generalize upd H1 p (.dK []) = H2 at s2 hp2
      refine ⟨_, rfl, _, rfl, a, cs.map V.int, rfl, .inl ((s1.trans s2).seq hs), fun l hl2 => ?_⟩
      have s3 := same_new (o := .lst (cs.map V.int)) hl2
      have hl3 : (upd H2 l (.lst (cs.map V.int))) l = some (.lst (cs.map V.int)) := upd_same
      generalize upd H2 l (.lst (cs.map V.int)) = H3 at s3 hl3
      have hp3 := s3 _ _ hp2
      have hD3 := s3 _ _ (s2 _ _ hD1)
      refine ⟨hp3, [((Sum.inr "wide" : Key), V.ref D), (Sum.inr "cells", V.ref l), (Sum.inr "rest", V.int 0), (Sum.inr "turn", V.int 0)], rfl, by show 4 ≤ 15; decide, ?_⟩
      have nDp : D ≠ p := fun e => by rw [e, hp3] at hD3; cases hD3
      have nlp : l ≠ p := fun e => by rw [e, hp3] at hl3; cases hl3
      have hp0 : H p = none := by
        cases e : H p with
        | none => rfl
        | some o => rw [s1 p o e] at hp; cases hp
      have hl0 : H l = none := by
        cases e : H l with
        | none => rfl
        | some o => rw [s2 _ _ (s1 _ _ e)] at hl2; cases hl2
      have nDl : D ≠ l := fun e => by
        rw [← e] at hl2
        rw [s2 _ _ hD1] at hl2
        cases hl2
      refine q _ p D l ns (fun b o h => ?_) hp0 hD hl0 ⟨upd_same, ?_, ?_, Int.le_refl _, Int.le_refl _, hn, nDp.symm, nDl⟩
      · rw [upd_ne (ne_of_none h hp0)]
        exact s3 _ _ (s2 _ _ (s1 _ _ h))
      · rw [upd_ne nDp]
        exact hD3
      · rw [upd_ne nlp]
        exact hl3

/-- _law_blend -/
theorem w_l_blend {f : Addr} {fd : FuncData} {ks : List (Str × V)} {dvs : List V} (F : FunD K "_law_blend" "_law_blend" (defArgs s_l_blend) (defBody s_l_blend) (defScope s_l_blend) dvs ks f fd) (T : Txt K w mg c)  : FnOk P w K mg base C8.CX0 1 f fd ["_law_draw"] (sp_blend0) := by
  refine F.ok sc_l_blend (fun vs H Q E h => ?_) (fun cdv A outer s H vs Q E hr h => ?_)
  · obtain ⟨d, wd, cl, cs, ns, r, t, rfl, hD, ht, q⟩ := h
    rfl
  · obtain ⟨d, wd, cl, cs, ns, r, t, rfl, hD, ht, q⟩ := h
    have hu := hu_of hr
    have hu2 := hu2_of hr
    refine ⟨_, PSs.nox ((pss_cons (ps_dput hu (pv 0) pe_str (pe_op op_add (pe_dget hu (pv 0) pe_str (fun _ _ => rfl)) pe_int) rfl)
      (pss_cons (ps_set (i := 1) sc_l_blend.nd rfl (Or.inl rfl) pe_int)
      (pss_cons (ps_for PassesOwn.never rfl (pi_list (pe_lst (pa_cons pe_int (pa_cons pe_int (pa_cons pe_int (pa_cons pe_int (pa_cons pe_int (pa_cons pe_int pa_nil)))))))) (pg_name (i := 2) sc_l_blend.nd rfl (Or.inl rfl))
        (pss_cons (ps_set (i := 3) sc_l_blend.nd rfl (Or.inl rfl) (pe_op op_add (pe_op op_mul pe_int (pe_dget hu (pv 0) pe_str (fun _ _ => rfl))) (pe_op op_fdiv (pv 2) pe_int)))
        (pss_cons (ps_for PassesOwn.never rfl (pi_list (pe_dget hu (pv 0) pe_str (fun _ _ => rfl))) (pg_name (i := 4) sc_l_blend.nd rfl (Or.inl rfl))
          (pss_one (ps_set (i := 3) sc_l_blend.nd rfl (Or.inl rfl) (pe_op op_mod (pe_callTy call_int1 rfl T.b_int (by decide +kernel) (pa_cons (pe_op op_add (pe_op op_mul (pv 3) pe_int) (pv 4)) pa_nil)) (pv 2)))))
        (pss_one (ps_set (i := 1) sc_l_blend.nd rfl (Or.inl rfl) (pe_op op_add (pe_op op_mul (pv 1) pe_int) (pe_op op_mod (pe_callTy call_int1 rfl T.b_int (by decide +kernel) (pa_cons (pe_op op_pow (pv 3) pe_int) pa_nil)) (pv 2))))))))
      (pss_one (ps_ret (pv 1))))))), ?_⟩
    have ht0 := hD.t0
    refine ⟨_, rfl, d, .int t, rfl, DGet.k (k := Sum.inr "turn") hD.hd, t, 1, rfl, rfl, ?_⟩
    refine ⟨_, rfl, d, _, rfl, DPut.k (k := Sum.inr "turn") hD.hd (by show 4 < sizeLine; decide), ?_⟩
    have hD1 : Draw0 (upd H d (.dK (drK wd cl r (t + 1)))) d wd cl cs ns r (t + 1) := hD.put hD.r0 (by omega)
    have b1 := But2.d (d := d) (wd := wd) (H := H) (.dK (drK wd cl r (t + 1)))
    show tSeq _ _ _ _ (upd H d (.dK (drK wd cl r (t + 1))))
    generalize upd H d (.dK (drK wd cl r (t + 1))) = H1 at hD1 b1
    refine ⟨by show 6 ≤ sizeLine; decide, fun lp hlp => ?_⟩
    have s2 := same_new (o := .lst [.int 2147483629, .int 2147483587, .int 2147483579, .int 2147483563, .int 2147483549, .int 2147483543]) hlp
    have hl2 : (upd H1 lp (.lst [.int 2147483629, .int 2147483587, .int 2147483579, .int 2147483563, .int 2147483549, .int 2147483543])) lp = some (.lst [.int 2147483629, .int 2147483587, .int 2147483579, .int 2147483563, .int 2147483549, .int 2147483543]) := upd_same
    have hD2 := hD1.same s2
    have b2 := b1.trans (But2.of s2)
    generalize upd H1 lp (.lst [.int 2147483629, .int 2147483587, .int 2147483579, .int 2147483563, .int 2147483549, .int 2147483543]) = H2 at s2 hl2 hD2 b2
    refine ⟨lp, rfl, ⟨_, SqL.of hl2⟩, ?_⟩
    refine for_it (walk_list (xs := [.int 2147483629, .int 2147483587, .int 2147483579, .int 2147483563, .int 2147483549, .int 2147483543])) (fun j σ' H' => H' = H2 ∧ ∃ (v : Int) (a2 a3 a4 : Option V), 0 ≤ v ∧ σ' = [some (.ref d), some (.int v), a2, a3, a4]) ⟨rfl, 0, none, none, none, Int.le_refl _, rfl⟩ (fun j σ' H' _ h => by rw [h.1]; exact SqL.of hl2) ?_ ?_
    · rintro j x σ' H4 H3 hj ⟨rfl, v, a2, a3, a4, hv, rfl⟩ ⟨rfl, ex⟩
      have hx : ∃ p : Int, x = .int p ∧ 0 < p ∧ p < 2147483648 := by
        have hm := List.mem_of_getElem? ex
        simp only [List.mem_cons, List.not_mem_nil, or_false] at hm
        rcases hm with rfl | rfl | rfl | rfl | rfl | rfl <;> exact ⟨_, rfl, by decide, by decide⟩
      obtain ⟨p, rfl, hp0, hp1⟩ := hx
      refine ⟨_, rfl, d, .int (t + 1), rfl, DGet.k (k := Sum.inr "turn") hD2.hd, 88001, t + 1, rfl, rfl, .inl ⟨by decide, by decide⟩, _, rfl, p, 23, rfl, rfl, ⟨by decide, by decide⟩, _, _, rfl, rfl, ?_⟩
      have hu0 : 0 ≤ 88001 * (t + 1) + p / 23 ∧ 88001 * (t + 1) + p / 23 < 9223372036854775808 := by omega
      refine ⟨_, rfl, d, .ref cl, rfl, DGet.k (k := Sum.inr "cells") hD2.hd, cl, rfl, ⟨_, SqL.of hD2.hcl⟩, ?_⟩
      refine for_it (walk_list (xs := cs.map V.int)) (fun j σ' H' => H' = H3 ∧ ∃ (u : Int) (a4 : Option V), (0 ≤ u ∧ u < 9223372036854775808) ∧ σ' = [some (.ref d), some (.int v), some (.int p), some (.int u), a4]) ⟨rfl, 88001 * (t + 1) + p / 23, a4, hu0, rfl⟩ (fun j σ' H' _ h => by rw [h.1]; exact SqL.of hD2.hcl) ?_ ?_
      · rintro j x σ' H6 H5 hj ⟨rfl, u, a4', hu, rfl⟩ ⟨rfl, ex⟩
        rw [List.length_map] at hj
        rw [List.getElem?_map, List.getElem?_eq_getElem hj] at ex
        cases ex
        generalize cs[j] = z
        refine ⟨_, rfl, u, 69623, rfl, rfl, .inr ⟨by decide, by decide⟩, _, rfl, _, _, rfl, rfl, .inl ⟨_, rfl, _, rfl, _, p, rfl, rfl, hp0, ?_⟩⟩
        have h1 := Int.emod_nonneg (u * 69623 + z) (show p ≠ 0 by omega)
        have h2 := Int.emod_lt_of_pos (u * 69623 + z) hp0
        exact ⟨rfl, _, _, ⟨h1, by omega⟩, rfl⟩
      · rintro σ' H5 ⟨rfl, u, a4', hu, rfl⟩
        refine ⟨_, rfl, v, 2147483647, rfl, rfl, .inr ⟨by decide, by decide⟩, _, rfl, u, 5, rfl, rfl, ⟨by decide, by decide, by omega⟩, .inl ⟨_, rfl, _, rfl, _, p, rfl, rfl, hp0, _, _, rfl, rfl, ?_⟩⟩
        have h1 := Int.emod_nonneg (u ^ (5 : Int).toNat) (show p ≠ 0 by omega)
        exact ⟨rfl, _, _, _, _, by omega, rfl⟩
    · rintro σ' H3 ⟨rfl, v, a2, a3, a4, hv, rfl⟩
      exact ⟨_, rfl, q _ v hD2 b2 hv⟩

/-- _law_take -/
theorem w_l_take {f : Addr} {fd : FuncData} {ks : List (Str × V)} {dvs : List V} (F : FunD K "_law_take" "_law_take" (defArgs s_l_take) (defBody s_l_take) (defScope s_l_take) dvs ks f fd) (T : Txt K w mg c) (c_l_blend : C8.Cal P w K mg base 1 "_law_blend" (sp_blend0) []) : FnOk P w K mg base C8.CX0 2 f fd ["_law_draw", "_law_size"] (sp_take0) := by
  refine F.ok sc_l_take (fun vs H Q E h => ?_) (fun cdv A outer s H vs Q E hr h => ?_)
  · obtain ⟨d, wd, cl, cs, ns, r, t, sz, rfl, hD, ht, hsz, hsz2, q⟩ := h
    rfl
  · obtain ⟨d, wd, cl, cs, ns, r, t, sz, rfl, hD, ht, hsz, hsz2, q⟩ := h
    have hu := hu_of hr
    have hu2 := hu2_of hr
    refine ⟨_, PSs.nox ((C8.pss_cut (ps_if (pt_cmpR op_eq (pe_dget hu (pv 0) pe_str (fun _ _ => rfl)) pe_int (nomark _)) (pss_one (ps_dput hu (pv 0) pe_str (pe_ifExp (pt_cmpR (op_neD hr.units) (pe_dget hu (pv 0) pe_str (fun _ _ => rfl)) (pe_lst pa_nil) (nomark _)) (pe_bm PySem.F.plainAttrs_list PySem.F.slot_list_pop PySem.F.type_list_pop mt_popAt (pe_dget hu (pv 0) pe_str (fun _ _ => rfl)) (pa_cons pe_int pa_nil)) (C8.pe_c c_l_blend hr (by decide) rfl (pa_cons (pv 0) pa_nil))) rfl)) pss_nil)
      (pss_cons (ps_set (i := 2) sc_l_take.nd rfl (Or.inl rfl) (pe_op op_mod (pe_callTy call_int1 rfl T.b_int (by decide +kernel) (pa_cons (pe_dget hu (pv 0) pe_str (fun _ _ => rfl)) pa_nil)) (pv 1)))
      (pss_cons (ps_dput hu (pv 0) pe_str (pe_op op_fdiv (pe_dget hu (pv 0) pe_str (fun _ _ => rfl)) (pv 1)) rfl)
      (pss_one (ps_ret (pv 2))))))), ?_⟩
    refine ⟨fun σ' H' => ∃ (ns1 : List Int) (r1 t1 : Int), σ' = [some (.ref d), some (.int sz), none] ∧ Draw0 H' d wd cl cs ns1 r1 t1 ∧ t1 ≤ t + 1 ∧ But2 d wd H H', ?_, fun σ' H1 hm => ?_⟩
    · refine ⟨_, rfl, d, .int r, rfl, DGet.k (k := Sum.inr "rest") hD.hd, rfl, _, rfl, ?_⟩
      by_cases hr : r = 0
      · refine iteT' (by rw [hr]; rfl) ?_
        refine ⟨_, rfl, d, .ref wd, rfl, DGet.k (k := Sum.inr "wide") hD.hd, by show 0 ≤ sizeLine; decide, fun el hel => ?_⟩
        have s1 := same_new (o := .lst []) hel
        have hel1 : (upd H el (.lst [])) el = some (.lst []) := upd_same
        have hD1 := hD.same s1
        have b1 := But2.of (d := d) (wd := wd) s1
        generalize upd H el (.lst []) = H1 at s1 hel1 hD1 b1
        refine rNe_nilI (li := ns) (SqL.of hD1.hwd) hel1 ⟨_, rfl, ?_⟩
        cases ns with
        | nil =>
          refine iteF ?_
          refine ⟨_, rfl, d, wd, cl, cs, [], r, t, rfl, hD1, ht, fun H2 k hD2 b2 k0 => ?_⟩
          refine ⟨_, rfl, d, _, rfl, DPut.k (k := Sum.inr "rest") hD2.hd (by show 4 < sizeLine; decide), ?_⟩
          exact ⟨[], k, t + 1, rfl, hD2.put k0 hD2.t0, Int.le_refl _, (b1.trans b2).trans (But2.d _)⟩
        | cons z zs =>
          refine iteT ?_
          have hz : 0 ≤ z := hD.ns0 z List.mem_cons_self
          refine ⟨_, rfl, d, .ref wd, rfl, DGet.k (k := Sum.inr "wide") hD1.hd, .inl ⟨rfl, _, SqL.of hD1.hwd⟩, wd, _, 0, 0, .int z, rfl, rfl, hD1.hwd, by decide, by decide, seqIndex_of (by decide) (by simp), rfl, ?_⟩
          have hD2 : Draw0 (upd H1 wd (.lst (zs.map V.int))) d wd cl cs zs r t := hD1.pop fun n hn => hD.ns0 n (List.mem_cons_of_mem _ hn)
          have b2 := b1.trans (But2.w (H := H1) (.lst (zs.map V.int)))
          refine ⟨_, rfl, d, _, rfl, DPut.k (k := Sum.inr "rest") hD2.hd (by show 4 < sizeLine; decide), ?_⟩
          exact ⟨zs, z, t, rfl, hD2.put hz hD2.t0, by omega, b2.trans (But2.d _)⟩
      · refine iteF' (by simpa using hr) ?_
        exact ⟨ns, r, t, rfl, hD, by omega, But2.refl _ _ _⟩
    · obtain ⟨ns1, r1, t1, rfl, hD1, ht1, b1⟩ := hm
      have h1 := Int.emod_nonneg r1 (show sz ≠ 0 by omega)
      have h2 := Int.emod_lt_of_pos r1 (show 0 < sz by omega)
      have h3 := Int.ediv_nonneg hD1.r0 (show 0 ≤ sz by omega)
      refine ⟨_, rfl, d, .int r1, rfl, DGet.k (k := Sum.inr "rest") hD1.hd, .inl ⟨_, rfl, _, rfl, r1, sz, rfl, rfl, by omega, ?_⟩⟩
      refine ⟨_, rfl, d, .int r1, rfl, DGet.k (k := Sum.inr "rest") hD1.hd, _, rfl, r1, sz, rfl, rfl, ⟨by omega, by omega⟩, _, rfl, d, _, rfl, DPut.k (k := Sum.inr "rest") hD1.hd (by show 4 < sizeLine; decide), ?_⟩
      exact ⟨_, rfl, q _ _ ns1 _ t1 (hD1.put h3 hD1.t0) ht1 (b1.trans (But2.d _)) h1 h2⟩

end
end Wp

set_option Elab.async false
set_option linter.all false
set_option maxRecDepth 100000
set_option maxHeartbeats 2000000
namespace Wp
open PySem PySem.Spec PyProof.Rows L2
section
variable {P : Program} {w : World} {K : PySem.W.Frag} {mg : Str → Option Value} {base : Heap} {c : CA}

/-- _law_pick -/
theorem w_l_pick {f : Addr} {fd : FuncData} {ks : List (Str × V)} {dvs : List V} (F : FunD K "_law_pick" "_law_pick" (defArgs s_l_pick) (defBody s_l_pick) (defScope s_l_pick) dvs ks f fd) (T : Txt K w mg c) (c_l_take : C8.Cal P w K mg base 2 "_law_take" (sp_take P w) []) : FnOk P w K mg base C8.CX0 3 f fd ["_law_draw", "_law_some"] (sp_pick P w K) := by
  refine F.ok sc_l_pick (fun vs H Q E h => ?_) (fun cdv A outer s H vs Q E hr h => ?_)
  · obtain ⟨d, a, xs, m, rfl, hD, hm, hs, hne, hl, q⟩ := h
    rfl
  · obtain ⟨d, a, xs, m, rfl, hD, hm, hs, hne, hl, q⟩ := h
    have hu := hu_of hr
    have hu2 := hu2_of hr
    refine ⟨_, PSs.nox ((pss_one (ps_ret (pe_ix ix_list (pv 1) (C8.pe_c c_l_take hr (by decide) rfl (pa_cons (pv 0) (pa_cons (pe_callB call_len_seq rfl T.b_len (by decide +kernel) (pa_cons (pv 1) pa_nil)) pa_nil))) (fun _ _ => rfl))))), ?_⟩
    have hl : 0 < xs.length := List.length_pos_iff.mpr hne
    refine ⟨_, rfl, _, rfl, _, rfl, a, xs, rfl, .inl hs, d, _, m, rfl, hD, hm, by omega, by omega, fun H1 k f1 hD1 k0 k1 => ?_⟩
    have hk : k.toNat < xs.length := by omega
    have ek : ((k.toNat : Nat) : Int) = k := Int.toNat_of_nonneg k0
    generalize k.toNat = i at hk ek
    subst ek
    exact ⟨a, xs, _, xs[i], rfl, rfl, SqL.nX f1 hs, atI_nat (List.getElem?_eq_getElem hk), q H1 i _ f1 hD1 (List.getElem?_eq_getElem hk)⟩

/-- _law_shuffled -/
theorem w_l_shuffled {f : Addr} {fd : FuncData} {ks : List (Str × V)} {dvs : List V} (F : FunD K "_law_shuffled" "_law_shuffled" (defArgs s_l_shuffled) (defBody s_l_shuffled) (defScope s_l_shuffled) dvs ks f fd) (T : Txt K w mg c) (c_l_take : C8.Cal P w K mg base 2 "_law_take" (sp_take P w) []) : FnOk P w K mg base C8.CX0 3 f fd ["_law_draw", "_law_some"] (sp_shuffled P w K) := by
  refine F.ok sc_l_shuffled (fun vs H Q E h => ?_) (fun cdv A outer s H vs Q E hr h => ?_)
  · obtain ⟨d, a, zs, m, rfl, hD, hm, hs, hl, nm, q⟩ := h
    rfl
  · obtain ⟨d, a, zs, m, rfl, hD, hm, hs, hl, nm, q⟩ := h
    have hu := hu_of hr
    have hu2 := hu2_of hr
    refine ⟨_, PSs.nox ((pss_cons (ps_par (i := 2) (j := 3) rfl sc_l_shuffled.nd rfl rfl (by decide) rfl rfl (pa_cons (pe_callTy call_list_of rfl T.b_list (by decide +kernel) (pa_cons (pv 1) pa_nil)) (pa_cons (pe_lst pa_nil) pa_nil)) (by rfl))
      (pss_cons (ps_while PassesOwn.never (pt_cmpR (op_neD hr.units) (pv 2) (pe_lst pa_nil) (nomark _))
        (pss_one (ps_expr (pe_bm PySem.F.plainAttrs_list PySem.F.slot_list_append PySem.F.type_list_append mt_append (pv 3) (pa_cons (pe_bm PySem.F.plainAttrs_list PySem.F.slot_list_pop PySem.F.type_list_pop mt_popAt (pv 2) (pa_cons (C8.pe_c c_l_take hr (by decide) rfl (pa_cons (pv 0) (pa_cons (pe_callB call_len_seq rfl T.b_len (by decide +kernel) (pa_cons (pv 2) pa_nil)) pa_nil))) pa_nil)) pa_nil)))))
      (pss_one (ps_ret (pv 3)))))), ?_⟩
    refine ⟨_, rfl, a, _, rfl, .inl hs, fun L hL => ?_⟩
    have s1 := same_new (o := .lst (zs.map V.str)) hL
    have hL1 : (upd H L (.lst (zs.map V.str))) L = some (.lst (zs.map V.str)) := upd_same
    generalize upd H L (.lst (zs.map V.str)) = H1 at s1 hL1
    refine ⟨by show 0 ≤ sizeLine; decide, fun F1 hF => ?_⟩
    have s2 := same_new (o := .lst []) hF
    have hF2 : (upd H1 F1 (.lst [])) F1 = some (.lst []) := upd_same
    generalize upd H1 F1 (.lst []) = H2 at s2 hF2
    have nFL : F1 ≠ L := fun e => by rw [e, hL1] at hF; cases hF
    have hF0 : H F1 = none := by
      cases e : H F1 with
      | none => rfl
      | some o => rw [s1 _ _ e] at hF; cases hF
    refine ⟨_, _, rfl, ?_⟩
    refine ⟨fun cnt σ' H' => ∃ li fo : List Str, cnt = li.length ∧ σ' = [some (.ref d), some (.ref a), some (.ref L), some (.ref F1)] ∧ Fr Wp.nX H H' ∧ DrawAt P w H' d (m + fo.length) ∧ H' L = some (.lst (li.map V.str)) ∧ H' F1 = some (.lst (fo.map V.str)) ∧ (fo ++ li).Perm zs, ⟨zs.length, zs, [], rfl, rfl, (Fr.of s1).trans (Fr.of s2), ?_, s2 _ _ hL1, hF2, .refl _⟩, ?_⟩
    · have e : m + (([] : List Str).length : Int) = m := by simp
      rw [e]
      exact (hD.same s1).same s2
    · rintro cnt σ' H3 ⟨li, fo, rfl, rfl, f3, hD3, hL3, hF3, hp⟩
      have hlen : fo.length + li.length = zs.length := by rw [← List.length_append]; exact hp.length_eq
      refine ⟨_, rfl, by show 0 ≤ sizeLine; decide, fun el hel => ?_⟩
      have s4 := same_new (o := .lst []) hel
      have hL4 := s4 _ _ hL3
      have hF4 := s4 _ _ hF3
      refine rNe_nil (SqL.of hL4) upd_same (fun z hz => nm z (hp.mem_iff.mp (List.mem_append_right _ hz))) ?_
      have hD4 := hD3.same s4
      have f4 : Fr Wp.nX H _ := f3.trans (Fr.of s4)
      generalize upd H3 el (.lst []) = H4 at s4 hL4 hF4 hD4 f4
      refine ⟨_, rfl, ?_⟩
      by_cases hnil : li = []
      · subst hnil
        refine iteF' (by simp) ?_
        refine ⟨_, rfl, q H4 F1 fo f4 ?_ (by simpa using hp) hF4⟩
        rw [List.length_nil, Nat.add_zero] at hlen
        rw [← hlen]
        exact hD4
      · have hpos : 0 < li.length := List.length_pos_iff.mpr hnil
        refine iteT' (by cases li with | nil => exact absurd rfl hnil | cons _ _ => rfl) ⟨_, fun _ _ h => h, ?_⟩
        refine ⟨_, rfl, .inl ⟨rfl, _, SqL.of hF4⟩, _, rfl, .inl ⟨rfl, _, SqL.of hL4⟩, _, rfl, _, rfl, L, _, rfl, .inl (SqL.of hL4), d, _, m + fo.length, rfl, hD4, by omega, by rw [List.length_map]; omega, by rw [List.length_map]; omega, fun H5 k f5 hD5 k0 k1 => ?_⟩
        rw [List.length_map] at k1
        have hL5 := f5 _ _ hL4 (nX_lst _)
        have hF5 := f5 _ _ hF4 (nX_lst _)
        have hk : k.toNat < li.length := by omega
        refine ⟨L, _, k, k.toNat, .str li[k.toNat], rfl, rfl, hL5, by omega, by omega, seqIndex_of k0 (by rw [List.length_map]; exact k1), by rw [List.getElem?_map, List.getElem?_eq_getElem hk]; rfl, ?_⟩
        refine ⟨F1, _, _, rfl, rfl, by rw [upd_ne nFL]; exact hF5, by rw [List.length_map, sizeLine_eq]; omega, ?_⟩
        refine ⟨li.length - 1, by omega, li.eraseIdx k.toNat, fo ++ [li[k.toNat]], by rw [List.length_eraseIdx_of_lt hk], rfl, ((f4.trans f5).up hL).up hF0, ?_, ?_, ?_, ?_⟩
        · have e : m + ((fo ++ [li[k.toNat]]).length : Int) = m + fo.length + 1 := by rw [List.length_append]; simp; omega
          rw [e]
          refine (hD5.up fun φ e => ?_).up fun φ e => ?_
          · rw [hL5] at e; cases e
          · rw [upd_ne nFL, hF5] at e; cases e
        · rw [upd_ne nFL.symm, upd_same, map_erase]
        · rw [upd_same, List.map_append]
          rfl
        · have h1 := (perm_erase hk)
          rw [List.append_assoc]
          exact (List.Perm.append_left fo (h1 : ([li[k.toNat]] ++ li.eraseIdx k.toNat).Perm li)).trans hp

/-- _law_ticks -/
theorem w_l_ticks {f : Addr} {fd : FuncData} {ks : List (Str × V)} {dvs : List V} (F : FunD K "_law_ticks" "_law_ticks" (defArgs s_l_ticks) (defBody s_l_ticks) (defScope s_l_ticks) dvs ks f fd) (T : Txt K w mg c) (c_l_pick : C8.Cal P w K mg base 3 "_law_pick" (sp_pick P w K) []) (c_l_take : C8.Cal P w K mg base 2 "_law_take" (sp_take P w) []) : FnOk P w K mg base C8.CX0 4 f fd ["_law_draw"] (sp_ticks P w) := by
  refine F.ok sc_l_ticks (fun vs H Q E h => ?_) (fun cdv A outer s H vs Q E hr h => ?_)
  · obtain ⟨d, m, rfl, hD, hm, q⟩ := h
    rfl
  · obtain ⟨d, m, rfl, hD, hm, q⟩ := h
    have hu := hu_of hr
    have hu2 := hu2_of hr
    refine ⟨_, PSs.nox ((pss_cons (ps_set (i := 1) sc_l_ticks.nd rfl (Or.inl rfl) (C8.pe_c c_l_pick hr (by decide) rfl (pa_cons (pv 0) (pa_cons (pe_lst (pa_cons pe_int (pa_cons pe_int (pa_cons pe_int (pa_cons pe_int (pa_cons pe_int (pa_cons pe_int (pa_cons (C8.pe_c c_l_take hr (by decide) rfl (pa_cons (pv 0) (pa_cons pe_int pa_nil))) (pa_cons (C8.pe_c c_l_take hr (by decide) rfl (pa_cons (pv 0) (pa_cons pe_int pa_nil))) (pa_cons pe_int pa_nil)))))))))) pa_nil))))
      (pss_one (ps_ret (pe_ifExp (pt_cmpR op_eq (C8.pe_c c_l_take hr (by decide) rfl (pa_cons (pv 0) (pa_cons pe_int pa_nil))) pe_int (nomark _)) pe_non (pv 1)))))), ?_⟩
    refine ⟨_, rfl, _, rfl, d, 41, m, rfl, hD, by omega, by omega, by omega, fun H1 k1 f1 hD1 a1 b1 => ?_⟩
    refine ⟨_, rfl, d, 1001, m + 1, rfl, hD1, by omega, by omega, by omega, fun H2 k2 f2 hD2 a2 b2 => ?_⟩
    refine ⟨by show 9 ≤ sizeLine; decide, fun lp hlp => ?_⟩
    have s3 := same_new (o := .lst [.int 0, .int 0, .int 1, .int 2, .int 3, .int 7, .int k1, .int k2, .int 1000]) hlp
    refine ⟨d, lp, _, m + 1 + 1, rfl, hD2.same s3, by omega, SqL.of upd_same, (fun h => nomatch h), by show 9 < 1000000; decide, fun H4 i v f4 hD4 ev => ?_⟩
    have f04 : Fr Wp.nX H H4 := f1.trans (f2.trans ((Fr.of s3).trans f4))
    have hv : ∃ n : Int, v = .int n ∧ 0 ≤ n ∧ n ≤ 1000 := by
      have hm := List.mem_of_getElem? ev
      simp only [List.mem_cons, List.not_mem_nil, or_false] at hm
      rcases hm with rfl | rfl | rfl | rfl | rfl | rfl | rfl | rfl | rfl <;> exact ⟨_, rfl, by omega, by omega⟩
    obtain ⟨few, rfl, few0, few1⟩ := hv
    refine ⟨_, rfl, d, 12, m + 1 + 1 + 1, rfl, hD4, by omega, by omega, by omega, fun H5 k5 f5 hD5 a5 b5 => ⟨rfl, _, rfl, ?_⟩⟩
    have e5 : m + 1 + 1 + 1 + 1 = m + 4 := by omega
    rw [e5] at hD5
    by_cases h0 : k5 = 0
    · exact iteT' (by rw [h0]; rfl) (q H5 none (f04.trans f5) hD5 (fun n h => nomatch h))
    · exact iteF' (by simpa using h0) ⟨_, rfl, q H5 (some few) (f04.trans f5) hD5 (fun n h => by cases h; exact ⟨few0, few1⟩)⟩

end
end Wp

set_option Elab.async false
set_option linter.all false
set_option maxRecDepth 100000
set_option maxHeartbeats 2000000
namespace Wp
open PySem PySem.Spec PyProof.Rows L2
section
variable {P : Program} {w : World} {K : PySem.W.Frag} {mg : Str → Option Value} {base : Heap} {c : CA}

/-- _law_age -/
theorem w_l_age {f : Addr} {fd : FuncData} {ks : List (Str × V)} {dvs : List V} (F : FunD K "_law_age" "_law_age" (defArgs s_l_age) (defBody s_l_age) (defScope s_l_age) dvs ks f fd) (T : Txt K w mg c)  : FnOk P w K mg base C8.CX0 1 f fd ["_law_model_here", "_law_name"] (sp_age) := by
  refine F.ok sc_l_age (fun vs H Q E h => ?_) (fun cdv A outer s H vs Q E hr h => ?_)
  · obtain ⟨mo, x, S, rfl, hM, hx, h4, q⟩ := h
    rfl
  · obtain ⟨mo, x, S, rfl, hM, hx, h4, q⟩ := h
    have hu := hu_of hr
    have hu2 := hu2_of hr
    refine ⟨_, PSs.nox ((pss_cons (ps_set (i := 2) sc_l_age.nd rfl (Or.inl rfl) (pe_ix ix_tup (pe_dget hu (pe_dget hu (pv 0) pe_str (fun _ _ => rfl)) (pv 1) (fun _ _ => rfl)) pe_int (fun _ _ => rfl)))
      (pss_cons (ps_if (pt_cmpR op_in_seq pe_non (pv 2) (by rfl)) (pss_one (ps_ret pe_non)) pss_nil)
      (pss_one (ps_ret (pe_ifExp (pt_cmpR op_eq (pe_dget hu (pv 0) pe_str (fun _ _ => rfl)) pe_str (nomark _)) (pe_callB (cr_sumT rfl) rfl T.b_sum (by decide +kernel) (pa_cons (pv 2) pa_nil)) (pe_callB (cr_max rfl) rfl T.b_max (by decide +kernel) (pa_cons (pe_op op_cat (pe_lst (pa_cons pe_int pa_nil)) (pe_callTy call_list_of rfl T.b_list (by decide +kernel) (pa_cons (pv 2) pa_nil))) pa_nil)))))))), ?_⟩
    obtain ⟨fl, el, h1, hT, hel⟩ := id hM
    obtain ⟨p, r, k, g1, hp, hr', hk⟩ := hT.get hx
    refine ⟨_, rfl, mo, .ref fl, rfl, DGet.k (k := Sum.inr "files") h1, _, rfl, fl, .ref p, rfl, g1, p, _, _, .ref k, rfl, rfl, SqT.of hp, atI_nat (j := 3) rfl, ?_⟩
    refine ⟨_, rfl, k, _, rfl, .inr (SqT.of hk), rfl, flat_vt _, _, rfl, ?_⟩
    by_cases hn : none ∈ (S.fd x).keeps
    · refine iteT' (by show inV .non _ = true; rw [inV_non]; exact decide_eq_true hn) ?_
      exact q H none (Same.refl _) (.inl ⟨hn, rfl⟩)
    · refine iteF' (by show ¬ inV .non _ = true; rw [inV_non, decide_eq_false hn]; decide) ?_
      obtain ⟨vs, hvs⟩ := ks_vals hn
      have hk2 := hk
      rw [hvs, vt_some] at hk2
      refine ⟨_, rfl, mo, .str _, rfl, DGet.k (k := Sum.inr "counts") h1, rfl, _, rfl, ?_⟩
      by_cases ho : S.own = true
      · refine iteT' (by rw [ho]; decide +kernel) ?_
        exact ⟨_, rfl, k, vs, rfl, SqT.of hk2, q H (some vs.sum) (Same.refl _) (.inr ⟨vs, vs.sum, hvs, rfl, by rw [if_pos ho]⟩)⟩
      · have ho' : S.own = false := by simpa using ho
        refine iteF' (by rw [ho']; decide +kernel) ?_
        refine ⟨by show 1 ≤ sizeLine; decide, fun l1 hl1 => ?_⟩
        have s1 := same_new (o := .lst [.int 0]) hl1
        refine ⟨_, rfl, k, _, rfl, .inr (SqT.of (s1 _ _ hk2)), fun l2 hl2 => ?_⟩
        have s2 := same_new (o := .lst (vs.map V.int)) hl2
        have hlv : vs.length ≤ 4 := by rw [hvs, List.length_map] at h4; exact h4
        refine ⟨l1, l2, _, _, rfl, rfl, s2 _ _ upd_same, upd_same, by rw [List.length_map, sizeLine_eq]; show 1 + _ ≤ _; omega, fun l3 hl3 => ?_⟩
        refine ⟨l3, 0 :: vs, rfl, SqL.of upd_same, by show 0 < vs.length + 1; omega, fun m hm hall => ?_⟩
        exact q _ (some m) ((s1.trans s2).trans (same_new hl3)) (.inr ⟨vs, m, hvs, rfl, by rw [if_neg ho]; exact ⟨hm, hall⟩⟩)

/-- _law_wait -/
theorem w_l_wait {f : Addr} {fd : FuncData} {ks : List (Str × V)} {dvs : List V} (F : FunD K "_law_wait" "_law_wait" (defArgs s_l_wait) (defBody s_l_wait) (defScope s_l_wait) dvs ks f fd) (T : Txt K w mg c) (m_Net_do : C8.Met P w K mg base 9 c.N "do" (sp_Net_do P w c) []) : FnOk P w K mg base C8.CX0 10 f fd ["_law_shown", "_law_ticks_here"] (sp_wait P w c) := by
  refine F.ok sc_l_wait (fun vs H Q E h => ?_) (fun cdv A outer s H vs Q E hr h => ?_)
  · obtain ⟨n, s0, S, x, N, t, rfl, hN, ok, ht, q⟩ := h
    rfl
  · obtain ⟨n, s0, S, x, N, t, rfl, hN, ok, ht, q⟩ := h
    have hu := hu_of hr
    have hu2 := hu2_of hr
    refine ⟨_, PSs.nox ((pss_one (ps_if (pt_cmpR op_gt (pv 1) pe_int (nomark _)) (pss_one (ps_expr (C8.pe_mt m_Net_do hr (by decide) (pv 0) (pa_cons (pe_tup (pa_cons pe_str (pa_cons (pv 1) pa_nil))) pa_nil)))) pss_nil))), ?_⟩
    obtain ⟨dx, k, st, e, lf, fi, be, sv, co, vi, h1, hI⟩ := id hN
    refine ⟨_, rfl, t, 0, rfl, rfl, _, rfl, ?_⟩
    by_cases h0 : 0 < t
    · refine iteT' (decide_eq_true h0) ?_
      refine ⟨_, rfl, n, dx, _, rfl, h1, rfl, _, rfl, by show 2 ≤ sizeLine; decide, fun tp htp => ?_⟩
      have s1 := same_new (o := .tup [.str "wait", .int t]) htp
      refine ⟨n, s0, tp, S, x, N, .wai t, rfl, hN.same T s1, ok, upd_same, ⟨by omega, ht⟩, fun H' v hN' f' _ => ?_⟩
      refine q H' ?_ ((Fr.of s1).trans f')
      unfold effW
      rw [if_pos h0]
      exact hN'
    · refine iteF' (by simpa using h0) ?_
      refine q H ?_ (Fr.of (Same.refl _))
      unfold effW
      rw [if_neg h0]
      exact hN

/-- _law_lost -/
theorem w_l_lost {f : Addr} {fd : FuncData} {ks : List (Str × V)} {dvs : List V} (F : FunD K "_law_lost" "_law_lost" (defArgs s_l_lost) (defBody s_l_lost) (defScope s_l_lost) dvs ks f fd) (T : Txt K w mg c) (m_Net_copies : C8.Met P w K mg base 3 c.N "copies" (sp_Net_copies P w c) []) (m_Net_do : C8.Met P w K mg base 9 c.N "do" (sp_Net_do P w c) []) : FnOk P w K mg base C8.CX0 10 f fd ["_law_shown", "_law_most", "_law_name"] (sp_lost P w c) := by
  refine F.ok sc_l_lost (fun vs H Q E h => ?_) (fun cdv A outer s H vs Q E hr h => ?_)
  · obtain ⟨n, s0, S, x, N, k, rfl, hN, ok, hk, q⟩ := h
    rfl
  · obtain ⟨n, s0, S, x, N, k, rfl, hN, ok, hk, q⟩ := h
    have hu := hu_of hr
    have hu2 := hu2_of hr
    refine ⟨_, PSs.nox ((pss_one (ps_for PassesOwn.never rfl (pi_range1 rfl T.b_range (pa_cons (pv 1) pa_nil)) (pg_name (i := 3) sc_l_lost.nd rfl (Or.inl rfl))
        (pss_one (ps_for PassesOwn.never rfl (pi_list (C8.pe_mt m_Net_copies hr (by decide) (pv 0) (pa_cons (pv 3) pa_nil))) (pg_tup rfl (pgs_cons (pg_name (i := 4) sc_l_lost.nd rfl (Or.inl rfl)) (pgs_cons (pg_name (i := 5) sc_l_lost.nd rfl (Or.inl rfl)) (pgs_cons (pg_name (i := 6) sc_l_lost.nd rfl (Or.inl rfl)) (pgs_cons (pg_name (i := 7) sc_l_lost.nd rfl (Or.inl rfl)) pgs_nil)))))
          (pss_one (ps_if (pt_cmpR op_eq (pv 4) (pv 2) (nomark _)) (pss_one (ps_expr (C8.pe_mt m_Net_do hr (by decide) (pv 0) (pa_cons (pe_tup (pa_cons pe_str (pa_cons (pv 3) (pa_cons (pv 2) (pa_cons (pv 5) pa_nil))))) pa_nil)))) pss_nil))))))), ?_⟩
    have few := ok.few
    refine ⟨_, rfl, (k : Int), rfl, by omega, by omega, ?_⟩
    refine for_it (walk_range (lo := 0) (n := (k : Int).toNat)) (fun i σ' H' => NetAt P w c H' n s0 S x (lostN N i) ∧ Fr (nI c.N) H H' ∧ ∃ (a3 a4 a5 a6 a7 : Option V), σ' = [some (.ref n), some (.int k), some (.str x), a3, a4, a5, a6, a7]) ⟨hN, Fr.of (Same.refl _), _, _, _, _, _, rfl⟩ (fun _ _ _ _ _ => trivial) ?_ ?_
    · rintro i v σ' H2 H1 hi ⟨hN1, f1, a3, a4, a5, a6, a7, rfl⟩ ⟨rfl, rfl⟩
      show gName 3 (V.int ((0 : Int) + (i : Nat))) _ _ _
      rw [show (0 : Int) + (i : Nat) = ((i : Nat) : Int) by omega]
      have hi' : i < N.cps.length := by omega
      have ok1 : NOk S x (lostN N i) := ok.put (lost_len N i (by omega))
      obtain ⟨o, eo⟩ : ∃ o, N.cps[i]? = some o := ⟨_, List.getElem?_eq_getElem hi'⟩
      have eo' := (lost_at N i hi').trans eo
      obtain ⟨dx, k', st, e, lf, fi, be, sv, co, vi, h1, hI⟩ := id hN1
      refine ⟨_, rfl, n, dx, _, rfl, h1, rfl, _, rfl, n, s0, S, x, _, i, o, rfl, hN1, ok1, eo', fun H3 l s3 hrow => ?_⟩
      have hN3 := hN1.same T s3
      have f3 : Fr (nI c.N) H H3 := f1.trans (Fr.of s3)
      cases o with
      | none =>
        have hl : H3 l = some (.lst []) := hrow
        refine ⟨l, rfl, ⟨_, SqL.of hl⟩, ?_⟩
        refine for_it (walk_list (xs := [])) (fun j σ' H' => H' = H3 ∧ σ' = [some (.ref n), some (.int k), some (.str x), some (.int i), a4, a5, a6, a7]) ⟨rfl, rfl⟩ (fun j σ' H' _ h => by rw [h.1]; exact SqL.of hl) (fun j v σ' H5 H4 hj => absurd hj (Nat.not_lt_zero _)) ?_
        rintro σ' H4 ⟨rfl, rfl⟩
        refine ⟨?_, f3, _, _, _, _, _, rfl⟩
        rw [lost_none N i eo]
        exact hN3
      | some p =>
        obtain ⟨t, hl, ht⟩ : ∃ t, H3 l = some (.lst [.ref t]) ∧ H3 t = some (.tup [.str x, .int p.con, .int p.got, .int p.giv]) := hrow
        refine ⟨l, rfl, ⟨_, SqL.of hl⟩, ?_⟩
        refine for_it (walk_list (xs := [.ref t])) (fun j σ' H' => H' l = some (.lst [.ref t]) ∧ (j = 0 → H' = H3 ∧ σ' = [some (.ref n), some (.int k), some (.str x), some (.int i), a4, a5, a6, a7]) ∧ (j = 1 → NetAt P w c H' n s0 S x (lostN N (i + 1)) ∧ Fr (nI c.N) H H' ∧ ∃ (a3 a4 a5 a6 a7 : Option V), σ' = [some (.ref n), some (.int k), some (.str x), a3, a4, a5, a6, a7])) ⟨hl, fun _ => ⟨rfl, rfl⟩, fun h => absurd h (by decide)⟩ (fun j σ' H' _ h => SqL.of h.1) ?_ ?_
        · rintro j v σ' H5 H4 hj ⟨_, p0, _⟩ ⟨rfl, ez⟩
          obtain rfl : j = 0 := by have : j < 1 := hj; omega
          cases ez
          obtain ⟨rfl, rfl⟩ := p0 rfl
          refine ⟨t, _, rfl, SqT.of ht, rfl, _, _, rfl, _, _, rfl, _, _, rfl, _, _, rfl, rfl, ?_⟩
          refine ⟨_, rfl, _, rfl, rfl, _, rfl, ?_⟩
          refine iteT' (by simp) ?_
          obtain ⟨dx, k', st, e, lf, fi, be, sv, co, vi, h1, hI⟩ := id hN3
          refine ⟨_, rfl, n, dx, _, rfl, h1, rfl, _, rfl, _, rfl, _, rfl, by show 4 ≤ sizeLine; decide, fun tp htp => ?_⟩
          have s5 := same_new (o := .tup [.str "lose", .int i, .str x, .int p.con]) htp
          refine ⟨n, s0, tp, S, x, lostN N i, .los i p.con, rfl, hN3.same T s5, ok1, upd_same, ⟨p, eo', rfl⟩, fun H6 v hN6 f6 _ => ?_⟩
          have f56 : Fr (nI c.N) H4 H6 := (Fr.of s5).trans f6
          have hN6' : NetAt P w c H6 n s0 S x (setC (lostN N i) i none) := hN6
          rw [lost_succ N i hi'] at hN6'
          exact ⟨f56 _ _ hl (nI_lst _), fun h => absurd h (by decide), fun _ => ⟨hN6', f3.trans f56, _, _, _, _, _, rfl⟩⟩
        · rintro σ' H4 ⟨_, _, p1⟩
          exact p1 rfl
    · rintro σ' H1 ⟨hN1, f1, _⟩
      have e : (k : Int).toNat = k := by omega
      rw [e] at hN1
      exact q H1 hN1 f1

/-- _law_aged -/
theorem w_l_aged {f : Addr} {fd : FuncData} {ks : List (Str × V)} {dvs : List V} (F : FunD K "_law_aged" "_law_aged" (defArgs s_l_aged) (defBody s_l_aged) (defScope s_l_aged) dvs ks f fd) (T : Txt K w mg c) (c_l_wait : C8.Cal P w K mg base 10 "_law_wait" (sp_wait P w c) []) (c_l_lost : C8.Cal P w K mg base 10 "_law_lost" (sp_lost P w c) []) (m_Net_do : C8.Met P w K mg base 9 c.N "do" (sp_Net_do P w c) []) : FnOk P w K mg base C8.CX0 11 f fd ["_law_shown", "_law_model_here", "_law_name", "_law_ticks_here"] (sp_aged P w c) := by
  refine F.ok sc_l_aged (fun vs H Q E h => ?_) (fun cdv A outer s H vs Q E hr h => ?_)
  · obtain ⟨n, s0, mo, S, x, N, T0, rfl, hN, ok, hM, hx, hT0, hT1, hv, q⟩ := h
    rfl
  · obtain ⟨n, s0, mo, S, x, N, T0, rfl, hN, ok, hM, hx, hT0, hT1, hv, q⟩ := h
    have hu := hu_of hr
    have hu2 := hu2_of hr
    refine ⟨_, PSs.nox ((pss_cons (ps_par (i := 4) (j := 5) rfl sc_l_aged.nd rfl rfl (by decide) rfl rfl (pa_cons (pe_ix ix_tup (pe_dget hu (pe_dget hu (pv 1) pe_str (fun _ _ => rfl)) (pv 2) (fun _ _ => rfl)) pe_int (fun _ _ => rfl)) (pa_cons pe_int pa_nil)) (by rfl))
      (pss_cons (ps_for PassesOwn.never rfl (pi_list (pe_revL (pe_listRg rfl rfl T.b_list (prg_1 rfl T.b_range (pe_callB call_len_seq rfl T.b_len (by decide +kernel) (pa_cons (pv 4) pa_nil)))))) (pg_name (i := 6) sc_l_aged.nd rfl (Or.inl rfl))
        (pss_cons (ps_set (i := 7) sc_l_aged.nd rfl (Or.inl rfl) (pe_ix ix_tup (pv 4) (pv 6) (fun _ _ => rfl)))
        (pss_cons (ps_set (i := 8) sc_l_aged.nd rfl (Or.inl rfl) (pe_op op_sub (pv 3) (pv 5)))
        (C8.pss_cut (ps_set (i := 9) sc_l_aged.nd rfl (Or.inl rfl) (pe_ifExp (PW.pt (pw_or (pt_cmpR op_isN (pv 7) pe_non (nomark _)) (pw_or1 (pt_cmpR op_lt (pv 8) (pv 7) (nomark _))))) (pv 8) (pv 7)))
        (C8.pss_cut (ps_if (pt_cmpR op_eq (pe_dget hu (pv 1) pe_str (fun _ _ => rfl)) pe_str (nomark _)) (pss_one (ps_set (i := 9) sc_l_aged.nd rfl (Or.inl rfl) (pe_ifExp (PW.pt (pw_or (pt_cmpR op_isN (pv 7) pe_non (nomark _)) (pw_or1 (pt_cmpR op_le (pv 3) (pv 7) (nomark _))))) (pv 8) pe_int))) pss_nil)
        (pss_cons (ps_expr (C8.pe_c c_l_wait hr (by decide) rfl (pa_cons (pv 0) (pa_cons (pv 9) pa_nil))))
        (pss_cons (ps_set (i := 5) sc_l_aged.nd rfl (Or.inl rfl) (pe_op op_add (pv 5) (pv 9)))
        (pss_cons (ps_expr (C8.pe_c c_l_lost hr (by decide) rfl (pa_cons (pv 0) (pa_cons (pv 6) (pa_cons (pv 2) pa_nil)))))
        (pss_one (ps_if (pt_cmpR op_gt (pv 6) pe_int (nomark _)) (pss_one (ps_expr (C8.pe_mt m_Net_do hr (by decide) (pv 0) (pa_cons (pe_tup (pa_cons pe_str (pa_cons (pv 2) pa_nil))) pa_nil)))) pss_nil))))))))))
      (pss_one (ps_ret (pv 5)))))), ?_⟩
    have few := ok.few
    have lk : (S.fd x).keeps.length = N.cps.length := ok.cs.symm
    obtain ⟨fl, el, h1, hT, hel⟩ := id hM
    obtain ⟨p, r, k, g1, hp, hr', hk⟩ := hT.get hx
    refine ⟨_, rfl, mo, .ref fl, rfl, DGet.k (k := Sum.inr "files") h1, _, rfl, fl, .ref p, rfl, g1, p, _, _, .ref k, rfl, rfl, SqT.of hp, atI_nat (j := 3) rfl, _, _, rfl, ?_⟩
    refine ⟨_, rfl, k, _, rfl, .inr (SqT.of hk), _, rfl, .of_le (by omega) (by rw [List.length_map]; omega) (by omega) (by omega), fun l1 hl1 => ?_⟩
    rw [List.length_map] at *
    have s1 := same_new (o := .lst (rgV 0 ((S.fd x).keeps.length : Nat))) hl1
    refine ⟨l1, _, rfl, SqL.of upd_same, fun l2 hl2 => ?_⟩
    have s2 := same_new (o := .lst (rgV 0 ((S.fd x).keeps.length : Nat)).reverse) hl2
    have hl22 : (upd (upd H l1 (.lst (rgV 0 ((S.fd x).keeps.length : Nat)))) l2 (.lst (rgV 0 ((S.fd x).keeps.length : Nat)).reverse)) l2 = some (.lst (rgV 0 ((S.fd x).keeps.length : Nat)).reverse) := upd_same
    have s12 := s1.trans s2
    generalize upd (upd H l1 (.lst (rgV 0 ((S.fd x).keeps.length : Nat)))) l2 (.lst (rgV 0 ((S.fd x).keeps.length : Nat)).reverse) = H2 at s12 hl22
    refine ⟨l2, rfl, ⟨_, SqL.of hl22⟩, ?_⟩
    have hkeep : ∀ kp ∈ (S.fd x).keeps, Tk kp := (ok.ok.g.ok x (ok.ok.pl x ok.ent).1).k
    refine for_it (walk_list (xs := (rgV 0 ((S.fd x).keeps.length : Nat)).reverse)) (fun i σ' H' => ∃ (N' : Ns) (ps : Int) (a6 a7 a8 a9 : Option V), NetAt P w c H' n s0 S x N' ∧ NOk S x N' ∧ Fr (nI c.N) H2 H' ∧ 0 ≤ ps ∧ ps ≤ T0 ∧ N'.vis.length ≤ 100 + i ∧ agedR S x T0 (S.fd x).keeps.length (N, 0) = agedR S x T0 ((S.fd x).keeps.length - i) (N', ps) ∧ σ' = [some (.ref n), some (.ref mo), some (.str x), some (.int T0), some (.ref k), some (.int ps), a6, a7, a8, a9]) ⟨N, 0, none, none, none, none, hN.same T s12, ok, Fr.of (Same.refl _), Int.le_refl _, hT0, by omega, rfl, rfl⟩ ?_ ?_ ?_
    · rintro i σ' H' hi ⟨N', ps, a6, a7, a8, a9, _, _, f, _⟩
      exact SqL.of (f _ _ hl22 (nI_lst _))
    · rintro i v σ' H4 H3 hi ⟨N', ps, a6, a7, a8, a9, hN3, ok3, f3, hp0, hp1, hv3, hag, rfl⟩ ⟨rfl, ev⟩
      have hi' : i < (S.fd x).keeps.length := by
        rw [List.length_reverse, rgV_length] at hi
        omega
      rw [rev_rg hi'] at ev
      cases ev
      obtain ⟨j, hj⟩ : ∃ j, j = (S.fd x).keeps.length - 1 - i := ⟨_, rfl⟩
      rw [← hj]
      have hjl : j < (S.fd x).keeps.length := by omega
      obtain ⟨kp, ekp⟩ : ∃ kp, (S.fd x).keeps[j]? = some kp := ⟨_, List.getElem?_eq_getElem hjl⟩
      have htk := hkeep kp (List.mem_of_getElem? ekp)
      have hk3 := f3 _ _ (s12 _ _ hk) (nI_tup _)
      have h13 := f3 _ _ (s12 _ _ h1) (nI_dK _)
      have hmj : ((S.fd x).keeps.map vt)[j]? = some (vt kp) := by rw [List.getElem?_map, ekp]; rfl
      refine ⟨_, rfl, _, rfl, k, _, _, vt kp, rfl, rfl, SqT.of hk3, atI_nat hmj, ?_⟩
      refine ⟨_, rfl, _, rfl, T0, ps, rfl, rfl, ?_⟩
      refine ⟨fun σ' H' => H3 = H' ∧ σ' = [some (.ref n), some (.ref mo), some (.str x), some (.int T0), some (.ref k), some (.int ps), some (.int j), some (vt kp), some (.int (T0 - ps)), some (.int (waitAt true T0 ps kp))], ?_, fun σ' H' hm => ?_⟩
      · refine ⟨_, rfl, rfl, _, rfl, ?_⟩
        cases kp with
        | none =>
          refine iteT' rfl ?_
          exact iteT ⟨_, rfl, rfl, rfl⟩
        | some kv =>
          refine iteF' (fun h => nomatch (of_decide_eq_true h)) ?_
          refine ⟨_, rfl, _, rfl, T0 - ps, kv, rfl, rfl, _, rfl, ?_⟩
          have ew : waitAt true T0 ps (some kv) = if T0 - ps < kv then T0 - ps else kv := rfl
          rw [ew]
          by_cases h : T0 - ps < kv
          · rw [if_pos h]
            exact iteT' (decide_eq_true h) ⟨_, rfl, rfl, rfl⟩
          · rw [if_neg h]
            exact iteF' (by simpa using h) ⟨_, rfl, rfl, rfl⟩
      · obtain ⟨rfl, rfl⟩ := hm
        refine ⟨fun σ' H' => H3 = H' ∧ σ' = [some (.ref n), some (.ref mo), some (.str x), some (.int T0), some (.ref k), some (.int ps), some (.int j), some (vt kp), some (.int (T0 - ps)), some (.int (waitAt S.own T0 ps kp))], ?_, fun σ' H' hm => ?_⟩
        · refine ⟨_, rfl, mo, .str _, rfl, DGet.k (k := Sum.inr "counts") h13, rfl, _, rfl, ?_⟩
          by_cases ho : S.own = true
          · refine iteF' (by rw [ho]; decide +kernel) ?_
            rw [ho]
            exact ⟨rfl, rfl⟩
          · have ho' : S.own = false := by simpa using ho
            refine iteT' (by rw [ho']; decide +kernel) ?_
            rw [ho']
            refine ⟨_, rfl, rfl, _, rfl, ?_⟩
            cases kp with
            | none =>
              refine iteT' rfl ?_
              exact iteT ⟨_, rfl, rfl, rfl⟩
            | some kv =>
              refine iteF' (fun h => nomatch (of_decide_eq_true h)) ?_
              refine ⟨_, rfl, _, rfl, T0, kv, rfl, rfl, _, rfl, ?_⟩
              have ew : waitAt false T0 ps (some kv) = if T0 ≤ kv then T0 - ps else 0 := rfl
              rw [ew]
              by_cases h : T0 ≤ kv
              · rw [if_pos h]
                exact iteT' (decide_eq_true h) ⟨_, rfl, rfl, rfl⟩
              · rw [if_neg h]
                exact iteF' (by simpa using h) ⟨rfl, rfl⟩
        · obtain ⟨rfl, rfl⟩ := hm
          obtain ⟨w0, w1⟩ := waitAt_le (own := S.own) hp1 htk
          refine ⟨_, rfl, _, rfl, n, s0, S, x, N', _, rfl, hN3, ok3, by omega, fun H5 hN5 f5 => ?_⟩
          refine ⟨_, rfl, _, rfl, ps, _, rfl, rfl, ?_⟩
          have ok5 := ok3.w (waitAt S.own T0 ps kp)
          have lj : j ≤ (effW N' (waitAt S.own T0 ps kp)).cps.length := by rw [effW_cps, ok3.cs]; omega
          refine ⟨_, rfl, _, rfl, _, rfl, n, s0, S, x, _, j, rfl, hN5, ok5, lj, fun H6 hN6 f6 => ?_⟩
          have ok6 := ok5.l lj
          have hv6 : (lostN (effW N' (waitAt S.own T0 ps kp)) j).vis.length ≤ 100 + i := by
            show (effW N' (waitAt S.own T0 ps kp)).vis.length ≤ _
            rw [effW_vis]
            exact hv3
          have f36 : Fr (nI c.N) H2 H6 := f3.trans (f5.trans f6)
          have hstep : agedR S x T0 (S.fd x).keeps.length (N, 0) = agedR S x T0 ((S.fd x).keeps.length - (i + 1)) (agedStep S x T0 j kp (N', ps)) := by
            rw [hag]
            have e1 : (S.fd x).keeps.length - i = j + 1 := by omega
            have e2 : (S.fd x).keeps.length - (i + 1) = j := by omega
            rw [e1, e2]
            show agedR S x T0 j (agedStep S x T0 j ((S.fd x).keeps.getD j none) (N', ps)) = _
            rw [List.getD_eq_getElem?_getD, ekp]
            rfl
          refine ⟨_, rfl, (j : Int), 0, rfl, rfl, _, rfl, ?_⟩
          by_cases h0 : 0 < j
          · refine iteT' (decide_eq_true (by omega)) ?_
            obtain ⟨dx6, k6, st6, e6, lf6, fi6, be6, sv6, co6, vi6, h6, hI6⟩ := id hN6
            refine ⟨_, rfl, n, dx6, _, rfl, h6, rfl, _, rfl, by show 2 ≤ sizeLine; decide, fun tp htp => ?_⟩
            have s7 := same_new (o := .tup [.str "open", .str x]) htp
            refine ⟨n, s0, tp, S, x, _, .opn, rfl, hN6.same T s7, ok6, upd_same, trivial, fun H8 v8 hN8 f8 _ => ?_⟩
            refine ⟨_, _, _, _, _, _, hN8, ok6.o (by omega), f36.trans ((Fr.of s7).trans f8), by omega, by omega, ?_, ?_, rfl⟩
            · show ((lostN (effW N' (waitAt S.own T0 ps kp)) j).vis ++ [_]).length ≤ _
              rw [List.length_append]
              show _ + 1 ≤ _
              omega
            · rw [hstep]
              show agedR S x T0 _ ((if 0 < j then eff S x (lostN (effW N' (waitAt S.own T0 ps kp)) j) .opn else lostN (effW N' (waitAt S.own T0 ps kp)) j), ps + waitAt S.own T0 ps kp) = _
              rw [if_pos h0]
          · refine iteF' (by simpa using h0) ?_
            refine ⟨_, _, _, _, _, _, hN6, ok6, f36, by omega, by omega, by omega, ?_, rfl⟩
            rw [hstep]
            show agedR S x T0 _ ((if 0 < j then eff S x (lostN (effW N' (waitAt S.own T0 ps kp)) j) .opn else lostN (effW N' (waitAt S.own T0 ps kp)) j), ps + waitAt S.own T0 ps kp) = _
            rw [if_neg h0]
    · rintro σ' H3 ⟨N', ps, a6, a7, a8, a9, hN3, ok3, f3, hp0, hp1, hv3, hag, rfl⟩
      have e : (S.fd x).keeps.length - (rgV 0 ((S.fd x).keeps.length : Nat)).reverse.length = 0 := by rw [List.length_reverse, rgV_length]; omega
      rw [e] at hag
      have q' := q H3
      rw [hag] at q'
      exact ⟨_, rfl, q' hN3 ((Fr.of s12).trans f3)⟩

/-- _law_opened -/
theorem w_l_opened {f : Addr} {fd : FuncData} {ks : List (Str × V)} {dvs : List V} (F : FunD K "_law_opened" "_law_opened" (defArgs s_l_opened) (defBody s_l_opened) (defScope s_l_opened) dvs ks f fd) (T : Txt K w mg c) (m_Net_piece : C8.Met P w K mg base 4 c.N "piece" (sp_Net_piece P w c) []) (m_Net_do : C8.Met P w K mg base 9 c.N "do" (sp_Net_do P w c) []) : FnOk P w K mg base C8.CX0 10 f fd ["_law_shown", "_law_name"] (sp_lopened P w c) := by
  refine F.ok sc_l_opened (fun vs H Q E h => ?_) (fun cdv A outer s H vs Q E hr h => ?_)
  · obtain ⟨n, s0, S, x, N, rfl, hN, ok, hv, q⟩ := h
    rfl
  · obtain ⟨n, s0, S, x, N, rfl, hN, ok, hv, q⟩ := h
    have hu := hu_of hr
    have hu2 := hu2_of hr
    refine ⟨_, PSs.nox ((pss_one (ps_ret (pe_dget hu (C8.pe_mt m_Net_piece hr (by decide) (pv 0) (pa_cons (C8.pe_mt m_Net_do hr (by decide) (pv 0) (pa_cons (pe_tup (pa_cons pe_str (pa_cons (pv 1) pa_nil))) pa_nil)) pa_nil)) (pv 1) (fun _ _ => rfl))))), ?_⟩
    obtain ⟨dx, k, st, e, lf, fi, be, sv, co, vi, h1, hI⟩ := id hN
    refine ⟨_, rfl, n, dx, _, rfl, h1, rfl, _, rfl, n, dx, _, rfl, h1, rfl, _, rfl, by show 2 ≤ sizeLine; decide, fun tp htp => ?_⟩
    have s1 := same_new (o := .tup [.str "open", .str x]) htp
    refine ⟨n, s0, tp, S, x, N, .opn, rfl, hN.same T s1, ok, upd_same, trivial, fun H2 v hN2 f2 hv2 => ?_⟩
    obtain rfl := hv2 rfl
    refine ⟨n, s0, S, x, _, N.vis.length, (lookN S x N).2.1, rfl, hN2, ok.o hv, ?_, fun H3 d s3 hd => ?_⟩
    · show (N.vis ++ [(lookN S x N).2.1])[N.vis.length]? = _
      rw [List.getElem?_append_right (Nat.le_refl _), Nat.sub_self]
      rfl
    · have g1 : DGet H3 d (.str x) (some (.int (lookN S x N).2.1)) := by
        have := DGet.k (k := Sum.inr x) hd
        rw [valV_pos rfl] at this
        exact this
      exact ⟨_, rfl, d, _, rfl, g1, q H3 (hN2.same T s3) ((Fr.of s1).trans (f2.trans (Fr.of s3)))⟩

end
end Wp

set_option Elab.async false
set_option linter.all false
set_option maxRecDepth 100000
set_option maxHeartbeats 2000000
namespace Wp
open PySem PySem.Spec PyProof.Rows L2
section
variable {P : Program} {w : World} {K : PySem.W.Frag} {mg : Str → Option Value} {base : Heap} {c : CA}

/-- _law_site -/
theorem w_l_site {f : Addr} {fd : FuncData} {ks : List (Str × V)} {dvs : List V} (F : FunD K "_law_site" "_law_site" (defArgs s_l_site) (defBody s_l_site) (defScope s_l_site) dvs ks f fd) (T : Txt K w mg c) (k_File : C8.Mak P w K mg base 3 "File" c.F (sp_File_init c) []) (k_Site : C8.Mak P w K mg base 5 "Site" c.S (sp_Site_init c) []) : FnOk P w K mg base C8.CX0 7 f fd ["_law_model_here"] (sp_lsite c) := by
  refine F.ok sc_l_site (fun vs H Q E h => ?_) (fun cdv A outer s H vs Q E hr h => ?_)
  · obtain ⟨mo, S, rfl, hM, ok, q⟩ := h
    rfl
  · obtain ⟨mo, S, rfl, hM, ok, q⟩ := h
    have hu := hu_of hr
    have hu2 := hu2_of hr
    refine ⟨_, PSs.nox ((pss_cons (ps_set (i := 1) sc_l_site.nd rfl (Or.inr rfl) (pe_dget hu (pv 0) pe_str (fun _ _ => rfl)))
      (pss_cons (ps_set (i := 2) sc_l_site.nd rfl (Or.inl rfl) (pe_callTy (call_dictP rfl) rfl T.b_dict (by decide +kernel) (pa_cons (pe_lock (pe_lcR (own := [("_law_name", 3)]) rfl sc_l_site.nd (pi_keys (pv 1)) (blkOk_by (own := [("_law_name", 3)]) (N := n_l_site) (sc := defScope s_l_site) (by decide +kernel)) (fun _ _ _ _ _ => (pg_name (i := 3) sc_l_site.nd rfl (Or.inl rfl))) (fun _ _ _ _ _ => (pe_tup (pa_cons (pv 3) (pa_cons (C8.pe_mk k_File hr (by decide) rfl (pa_cons (pe_ix (ixTupK (K := K) rfl) (pe_dget hu (pv 1) (pv 3) (fun _ _ => rfl)) pe_int (fun _ _ => rfl)) (pa_cons (pe_ix (ixTupK (K := K) rfl) (pe_dget hu (pv 1) (pv 3) (fun _ _ => rfl)) pe_int (fun _ _ => rfl)) (pa_cons (pe_ix (ixTupK (K := K) rfl) (pe_dget hu (pv 1) (pv 3) (fun _ _ => rfl)) pe_int (fun _ _ => rfl)) (pa_cons (pe_ix (ixTupK (K := K) rfl) (pe_dget hu (pv 1) (pv 3) (fun _ _ => rfl)) pe_int (fun _ _ => rfl)) pa_nil))))) pa_nil)))))) pa_nil)))
      (pss_one (ps_ret (C8.pe_mk k_Site hr (by decide) rfl (pa_cons (pv 2) (pa_cons (pe_dget hu (pv 0) pe_str (fun _ _ => rfl)) (pa_cons (pe_dget hu (pv 0) pe_str (fun _ _ => rfl)) pa_nil))))))))), ?_⟩
    obtain ⟨fl, el, h1, hT, hel⟩ := id hM
    obtain ⟨ps, hfl, hps⟩ := id hT
    have l8 : S.ns.length ≤ 8 := nodup_few ok.g.nm ok.g.nd
    refine ⟨_, rfl, mo, .ref fl, rfl, DGet.k (k := Sum.inr "files") h1, ?_⟩
    refine ⟨fl, _, hfl, trivial, fun od => ?_⟩
    have hfrz : ∀ H', Same (upd H fl (.frz od (.dK (S.ns.map fun n => (Sum.inr n, V.ref (ps n)))))) H' → H' fl = some (.frz od (.dK (S.ns.map fun n => (Sum.inr n, V.ref (ps n))))) := fun H' s => s _ _ upd_same
    have up : ∀ H', Same (upd H fl (.frz od (.dK (S.ns.map fun n => (Sum.inr n, V.ref (ps n)))))) H' → ∀ p xs, H p = some (.tup xs) → H' p = some (.tup xs) := fun H' s p xs hp => s _ _ (by rw [upd_ne (fun e => by rw [e, hfl] at hp; cases hp)]; exact hp)
    refine ⟨_, rfl, fl, od, rfl, .inl ⟨_, upd_same, ?_⟩⟩
    refine ⟨_, _, _, fun D H i y => ∃ t z p, y = .ref t ∧ S.ns[i]? = some z ∧ H t = some (.tup [.str z, .ref p]) ∧ FileAt c H p (S.fd z), walk_keys, fun {D H H' i y} b hD h => ?_, hfrz, fun _ _ _ _ y => y.1, (by rw [List.length_map, sizeLine_eq]; omega), fun D acc i y H4 hi hD hDa s4 yy kk hkk => ?_, fun D H5 ys hD s5 h5 hl5 hR5 => ?_⟩
    · obtain ⟨t, z, p, e1, e2, ht, hp⟩ := h
      exact ⟨t, z, p, e1, e2, b.frL hD _ _ ht (fun _ => by intro z; cases z), hp.fr (b.frL hD) (fun _ _ _ e => nomatch e) (fun _ _ e => nomatch e)⟩
    · obtain ⟨_, kx, vx, e1, rfl⟩ := yy
      rw [List.getElem?_map] at e1
      obtain ⟨z, e2, e3⟩ := Option.map_eq_some_iff.mp e1
      cases e3
      have hz : z ∈ S.ns := List.mem_of_getElem? e2
      obtain ⟨r, k, hp, hr', hk⟩ := hps z hz
      have hp4 := up H4 s4 _ _ hp
      have g1 : DGet H4 fl (.str z) (some (.ref (ps z))) := by
        have : DGet H4 fl (kV (Sum.inr z)) (valV (S.ns.map fun z => (Sum.inr z, V.ref (ps z))) (Sum.inr z)) := .inl ⟨_, Sum.inr z, .inr ⟨od, hfrz H4 s4⟩, rfl, rfl⟩
        rw [valK_map, if_pos hz] at this
        exact this
      refine ⟨rfl, _, rfl, _, rfl, _, rfl, fl, _, rfl, g1, ps z, _, _, _, rfl, rfl, SqT.of hp4, atI_nat (j := 0) rfl, ?_⟩
      refine ⟨_, rfl, _, rfl, fl, _, rfl, g1, ps z, _, _, _, rfl, rfl, SqT.of hp4, atI_nat (j := 1) rfl, ?_⟩
      refine ⟨_, rfl, _, rfl, fl, _, rfl, g1, ps z, _, _, _, rfl, rfl, SqT.of hp4, atI_nat (j := 2) rfl, ?_⟩
      refine ⟨_, rfl, _, rfl, fl, _, rfl, g1, ps z, _, _, _, rfl, rfl, SqT.of hp4, atI_nat (j := 3) rfl, fun y dy hy hdy _ => ?_⟩
      have sm := mk_same (C := c.F) hy hdy
      refine ⟨y, dy, r, k, S.fd z, rfl, upd_same, sm _ _ (up H4 s4 _ _ hr'), sm _ _ (up H4 s4 _ _ hk), ok.g.ok z hz, fun H6 hF6 bF => ⟨rfl, ?_⟩⟩
      have s6 : Same H4 H6 := bF.back sm hy
      refine ⟨by show 2 ≤ sizeLine; decide, fun t ht => hkk _ _ (s6.trans (same_new ht)) ⟨t, z, y, rfl, e2, upd_same, hF6.same (same_new ht)⟩⟩
    · rw [List.length_map] at hl5
      have hDf : D ≠ fl := fun e => by rw [e, upd_same] at hD; cases hD
      refine ⟨hfrz H5 s5, ?_⟩
      have sH : Same H (upd H5 fl (.dK (S.ns.map fun n => (Sum.inr n, V.ref (ps n))))) := fun b o hb => by
        by_cases e : b = fl
        · subst e
          rw [hfl] at hb
          rw [upd_same]
          exact hb
        · rw [upd_ne e]
          exact s5 b o (by rw [upd_ne e]; exact hb)
      have h56 : ∀ p o, H5 p = some o → p ≠ fl → (upd H5 fl (.dK (S.ns.map fun n => (Sum.inr n, V.ref (ps n))))) p = some o := fun p o h n => by rw [upd_ne n]; exact h
      have hf5 := hfrz H5 s5
      have nf : ∀ p o, H5 p = some o → (∀ a b, o ≠ .frz a b) → p ≠ fl := fun p o h n e => by
        rw [e, hf5] at h
        exact n _ _ (Option.some.inj h).symm
      have hR6 : ∀ (i : Nat) (y : V), ys[i]? = some y → ∃ t z p, y = .ref t ∧ S.ns[i]? = some z ∧ (upd H5 fl (.dK (S.ns.map fun n => (Sum.inr n, V.ref (ps n))))) t = some (.tup [.str z, .ref p]) ∧ FileAt c (upd H5 fl (.dK (S.ns.map fun n => (Sum.inr n, V.ref (ps n))))) p (S.fd z) := fun i y e => by
        obtain ⟨t, z, p, e1, e2, ht, dxF, r, k, x1, x2, x3⟩ := hR5 i y e
        exact ⟨t, z, p, e1, e2, h56 _ _ ht (nf _ _ ht (fun _ _ e => nomatch e)), dxF, r, k, h56 _ _ x1 (nf _ _ x1 (fun _ _ e => nomatch e)), h56 _ _ x2 (nf _ _ x2 (fun _ _ e => nomatch e)), h56 _ _ x3 (nf _ _ x3 (fun _ _ e => nomatch e))⟩
      have hD6 := h56 _ _ h5 hDf
      generalize upd H5 fl (.dK (S.ns.map fun n => (Sum.inr n, V.ref (ps n)))) = H6 at sH hR6 hD6
      obtain ⟨ts, qs, rfl, hql, hpd, hqf⟩ := rows_of (K := K) hl5 hR6
      refine ⟨D, ts, _, rfl, SqL.of hD6, hpd, fun f hf => ?_⟩
      have s7 := same_new (o := .dK (mergeK [] ((S.ns.zip qs).map fun zq => ((Sum.inr zq.1 : Key), zq.2)))) hf
      have hFs := files_rows (c := c) ok.g.nd hql (upd_same (H := H6) (a := f)) fun i z q a b => by
        obtain ⟨p, e, hp⟩ := hqf i z q a b
        exact ⟨p, e, hp.same s7⟩
      generalize upd H6 f (.dK (mergeK [] ((S.ns.zip qs).map fun zq => ((Sum.inr zq.1 : Key), zq.2)))) = H7 at s7 hFs
      have s07 := sH.trans s7
      have h17 := s07 _ _ h1
      refine ⟨_, rfl, _, rfl, mo, .ref el, rfl, DGet.k (k := Sum.inr "entries") h17, _, rfl, mo, .str _, rfl, DGet.k (k := Sum.inr "counts") h17, fun y dy hy hdy _ => ?_⟩
      have sm := mk_same (C := c.S) hy hdy
      refine ⟨y, dy, f, el, S, rfl, upd_same, hFs.same sm, sm _ _ (s07 _ _ hel), ok, fun H8 hS8 bS => ⟨rfl, ?_⟩⟩
      exact q H8 y (s07.trans (bS.back sm hy)) hS8

/-- _law_right -/
theorem w_l_right {f : Addr} {fd : FuncData} {ks : List (Str × V)} {dvs : List V} (F : FunD K "_law_right" "_law_right" (defArgs s_l_right) (defBody s_l_right) (defScope s_l_right) dvs ks f fd) (T : Txt K w mg c) (c_l_age : C8.Cal P w K mg base 1 "_law_age" (sp_age) []) (k_Net : C8.Mak P w K mg base 7 "Net" c.N (sp_Net_init P w c) []) (c_l_site : C8.Cal P w K mg base 7 "_law_site" (sp_lsite c) []) (c_l_opened : C8.Cal P w K mg base 10 "_law_opened" (sp_lopened P w c) []) (m_Net_do : C8.Met P w K mg base 9 c.N "do" (sp_Net_do P w c) []) (p_Net_publishing : Prp P w K mg base 1 c.N "publishing" (sp_Net_publishing P w c)) (c_l_aged : C8.Cal P w K mg base 11 "_law_aged" (sp_aged P w c) []) (c_l_wait : C8.Cal P w K mg base 10 "_law_wait" (sp_wait P w c) []) : FnOk P w K mg base C8.CX0 12 f fd ["_law_draw", "_law_model_here", "_law_name", "_law_ticks_here"] (sp_lright c) := by
  refine F.ok sc_l_right (fun vs H Q E h => ?_) (fun cdv A outer s H vs Q E hr h => ?_)
  · obtain ⟨d, mo, x, S, T0, rfl, hM, ok, hx, hT0, hT1, hm0, hm1, q⟩ := h
    rfl
  · obtain ⟨d, mo, x, S, T0, rfl, hM, ok, hx, hT0, hT1, hm0, hm1, q⟩ := h
    have hu := hu_of hr
    have hu2 := hu2_of hr
    refine ⟨_, PSs.nox ((pss_cons (ps_set (i := 4) sc_l_right.nd rfl (Or.inl rfl) (C8.pe_c c_l_age hr (by decide) rfl (pa_cons (pv 1) (pa_cons (pv 2) pa_nil))))
      (pss_cons (ps_set (i := 5) sc_l_right.nd rfl (Or.inl rfl) (C8.pe_mk k_Net hr (by decide) rfl (pa_cons (C8.pe_c c_l_site hr (by decide) rfl (pa_cons (pv 1) pa_nil)) (pa_cons (pe_lst (pa_cons (pe_lst (pa_cons (pv 2) pa_nil)) pa_nil)) (pa_cons (pe_lcR (own := [("_law_file", 6)]) rfl sc_l_right.nd (pi_list (pe_callB (call_sortedD rfl) rfl T.b_sorted (by decide +kernel) (pa_cons (pe_dget hu (pv 1) pe_str (fun _ _ => rfl)) pa_nil))) (blkOk_by (own := [("_law_file", 6)]) (N := n_l_right) (sc := defScope s_l_right) (by decide +kernel)) (fun _ _ _ _ _ => (pg_name (i := 6) sc_l_right.nd rfl (Or.inl rfl))) (fun _ _ _ _ _ => (pe_lst (pa_cons (pv 6) pa_nil)))) pa_nil)))))
      (pss_cons (ps_if (pt_cmpR op_ne (C8.pe_c c_l_opened hr (by decide) rfl (pa_cons (pv 5) (pa_cons (pv 2) pa_nil))) pe_int (nomark _)) (pss_one (ps_ret pe_bl)) pss_nil)
      (pss_cons (ps_expr (C8.pe_mt m_Net_do hr (by decide) (pv 5) (pa_cons (pe_tup (pa_cons pe_str (pa_cons pe_int pa_nil))) pa_nil)))
      (pss_cons (ps_for PassesOwn.never rfl (pi_range1 rfl T.b_range (pa_cons pe_int pa_nil)) (pg_name (i := 7) sc_l_right.nd rfl (Or.inl rfl))
        (pss_one (ps_if (pt_cmpR op_notN (pe_pr p_Net_publishing hr (by decide) (pv 5)) pe_non (nomark _)) (pss_one (ps_expr (C8.pe_mt m_Net_do hr (by decide) (pv 5) (pa_cons (pe_tup (pa_cons pe_str pa_nil)) pa_nil)))) pss_nil)))
      (pss_cons (ps_set (i := 8) sc_l_right.nd rfl (Or.inl rfl) (C8.pe_c c_l_aged hr (by decide) rfl (pa_cons (pv 5) (pa_cons (pv 1) (pa_cons (pv 2) (pa_cons (pv 3) pa_nil))))))
      (pss_cons (ps_expr (C8.pe_c c_l_wait hr (by decide) rfl (pa_cons (pv 5) (pa_cons (pe_op op_sub (pv 3) (pv 8)) pa_nil))))
      (C8.pss_cut (ps_set (i := 9) sc_l_right.nd rfl (Or.inl rfl) (pe_and (pe_cmpR op_gt (pe_callB call_len_seq rfl T.b_len (by decide +kernel) (pa_cons (pe_ix ix_tup (pe_dget hu (pe_dget hu (pv 1) pe_str (fun _ _ => rfl)) (pv 2) (fun _ _ => rfl)) pe_int (fun _ _ => rfl)) pa_nil)) pe_int (nomark _)) (pe_one (pe_or (pe_cmpR op_isN (pv 4) pe_non (nomark _)) (pe_one (pe_cmpR op_le (pv 3) (pv 4) (nomark _)))))))
      (pss_one (ps_ret (pe_cmpR op_eq (pe_cmpR op_eq (C8.pe_c c_l_opened hr (by decide) rfl (pa_cons (pv 5) (pa_cons (pv 2) pa_nil))) pe_int (nomark _)) (pv 9) (nomark _))))))))))))), ?_⟩
    have hxn := (ok.pl x hx).1
    have hxs : x ∈ so S.ns := (so_mem ok.g.nm x).mpr hxn
    have l8 : S.ns.length ≤ 8 := nodup_few ok.g.nm ok.g.nd
    have l8' := so_len S.ns
    have fok := ok.g.ok x hxn
    have few := fok.few
    refine ⟨_, rfl, _, rfl, mo, x, S, rfl, hM, hxn, few, fun H1 o s1 ha => ?_⟩
    refine ⟨_, rfl, mo, S, rfl, hM.same s1, ok, fun H2 s0 s2 hS2 => ?_⟩
    refine ⟨_, rfl, by show 1 ≤ sizeLine; decide, fun kb hkb => ⟨by show 1 ≤ sizeLine; decide, fun k1 hk1 => ?_⟩⟩
    have s3 := same_new (o := .lst [.str x]) hkb
    have hkb3 : (upd H2 kb (.lst [.str x])) kb = some (.lst [.str x]) := upd_same
    generalize upd H2 kb (.lst [.str x]) = H3 at s3 hkb3 hk1
    have s4 := same_new (o := .lst [.ref kb]) hk1
    have hk4 : (upd H3 k1 (.lst [.ref kb])) k1 = some (.lst [.ref kb]) := upd_same
    have hkb4 := s4 _ _ hkb3
    generalize upd H3 k1 (.lst [.ref kb]) = H4 at s4 hk4 hkb4
    have s24 := s3.trans s4
    have s04 := (s1.trans s2).trans s24
    obtain ⟨fl, el, hmo, hT, hel⟩ := hM.same s04
    obtain ⟨ps0, hfl, hps0⟩ := id hT
    refine ⟨_, rfl, mo, .ref fl, rfl, DGet.k (k := Sum.inr "files") hmo, fl, _, S.ns, rfl, .inl hfl, by rw [List.map_map]; rfl, by omega, fun ys lp hpm hsort hlp => ?_⟩
    obtain rfl : ys = so S.ns := so_eq ok.g.nm ok.g.nd hpm hsort
    have s5 := same_new (o := .lst ((so S.ns).map V.str)) hlp
    have hlp5 : (upd H4 lp (.lst ((so S.ns).map V.str))) lp = some (.lst ((so S.ns).map V.str)) := upd_same
    generalize upd H4 lp (.lst ((so S.ns).map V.str)) = H5 at s5 hlp5
    refine ⟨lp, rfl, ⟨_, SqL.of hlp5⟩, _, _, _, fun D H i y => ∃ p z, y = .ref p ∧ p ≠ D ∧ (so S.ns)[i]? = some z ∧ H p = some (.lst [.str z]), walk_list, fun {D H H' i y} b hD h => ?_, fun H s => SqL.of (s _ _ hlp5), yat_same, (by rw [List.length_map, sizeLine_eq]; omega), fun D acc i y H6 hi hD hDa s6 yy kk hkk => ?_, fun D H7 ys hD s7 h7 hl7 hR7 => ?_⟩
    · obtain ⟨p, z, e1, e2, e3, h⟩ := h
      exact ⟨p, z, e1, e2, e3, b _ _ h e2⟩
    · obtain ⟨_, ez⟩ := yy
      rw [List.length_map] at hi
      have e1 : (so S.ns)[i]? = some ((so S.ns)[i]'hi) := List.getElem?_eq_getElem hi
      rw [List.getElem?_map, e1] at ez
      cases ez
      refine ⟨rfl, _, rfl, by show 1 ≤ sizeLine; decide, fun p hp => hkk _ _ (same_new hp) ⟨p, _, rfl, (fun e => by rw [e, hDa] at hp; cases hp), e1, upd_same⟩⟩
    obtain ⟨ps, rfl, hps⟩ := refs_of (ys := ys) (R := fun i p => ∃ z, (so S.ns)[i]? = some z ∧ H7 p = some (.lst [.str z])) fun i y e => by
      obtain ⟨p, z, e1, _, e3, h⟩ := hR7 i y e
      exact ⟨p, e1, z, e3, h⟩
    have s47 := s5.trans s7
    refine fun n dn hn hdn _ => ?_
    have sm := mk_same (C := c.N) hn hdn
    have s27 := s24.trans s47
    refine ⟨n, dn, s0, k1, kb, D, S, x, ps, rfl, upd_same, (hS2.same s27).same sm, ok, hx, sm _ _ (s47 _ _ hk4), sm _ _ (s47 _ _ hkb4), sm _ _ h7, by rw [List.length_map, List.length_map] at hl7; exact hl7, fun i p z e1 e2 => ?_, fun H8 hN8 b8 => ⟨rfl, ?_⟩⟩
    · obtain ⟨z', e3, h⟩ := hps i p e1
      rw [e2] at e3
      cases e3
      exact sm _ _ h
    have s78 : Same H7 H8 := b8.back sm hn
    have s08 : Same H H8 := (s04.trans s47).trans s78
    have ok0 := ns0_ok ok hx
    -- the first answer
    refine ⟨_, rfl, _, rfl, n, s0, S, x, _, rfl, hN8, ok0, by show 0 < 1000; decide, fun H9 hN9 f9 => ⟨rfl, _, rfl, ?_⟩⟩
    rw [hm0]
    refine iteF' (by decide) ?_
    have ok1 := ok0.o (by show 0 < 1000; decide)
    have f09 : Fr (nI c.N) H H9 := (Fr.of s08).trans f9
    obtain ⟨dx9, k9, st9, e9, lf9, fi9, be9, sv9, co9, vi9, h9, hI9⟩ := id hN9
    refine ⟨_, rfl, n, dx9, _, rfl, h9, rfl, by show 2 ≤ sizeLine; decide, fun tp htp => ?_⟩
    have s10 := same_new (o := .tup [.str "begin", .int 0]) htp
    refine ⟨n, s0, tp, S, x, _, .beg, rfl, hN9.same T s10, ok1, upd_same, rfl, fun H11 v11 hN11 f11 _ => ?_⟩
    have ok2 := ok1.b
    have f011 : Fr (nI c.N) H H11 := f09.trans ((Fr.of s10).trans f11)
    have ok3 := ok2.s
    refine ⟨9, rfl, by decide, by decide, ?_⟩
    refine for_it (walk_range (lo := 0) (n := (9 : Int).toNat)) (fun i σ' H' => (∃ a7 : Option V, σ' = [some (.ref d), some (.ref mo), some (.str x), some (.int T0), some (vt o), some (.ref n), none, a7, none, none]) ∧ Fr (nI c.N) H H' ∧ NetAt P w c H' n s0 S x (if i = 0 then eff S x (eff S x (ns0 S x) .opn) .beg else nsR S x)) ⟨⟨none, rfl⟩, f011, hN11⟩ (fun _ _ _ _ _ => trivial) ?_ ?_
    · rintro i v σ' H13 H12 hi ⟨⟨a7, rfl⟩, f12, hN12⟩ ⟨rfl, rfl⟩
      by_cases h0 : i = 0
      · subst h0
        rw [if_pos rfl] at hN12
        obtain ⟨dx, k, st, e, lf, fi, be, sv, co, vi, h12, hI12⟩ := id hN12
        refine ⟨_, rfl, n, dx, _, rfl, h12, n, s0, S, x, _, rfl, hN12, ok2, fun H14 s14 => ⟨rfl, _, rfl, ?_⟩⟩
        refine iteT' rfl ?_
        have hN14 := hN12.same T s14
        refine ⟨_, rfl, n, dx, _, rfl, s14 _ _ h12, rfl, by show 1 ≤ sizeLine; decide, fun tp htp => ?_⟩
        have s15 := same_new (o := .tup [.str "step"]) htp
        refine ⟨n, s0, tp, S, x, _, .stp, rfl, hN14.same T s15, ok2, upd_same, rfl, fun H16 v16 hN16 f16 _ => ?_⟩
        exact ⟨⟨_, rfl⟩, f12.trans ((Fr.of (s14.trans s15)).trans f16), hN16⟩
      · rw [if_neg h0] at hN12
        obtain ⟨dx, k, st, e, lf, fi, be, sv, co, vi, h12, hI12⟩ := id hN12
        refine ⟨_, rfl, n, dx, _, rfl, h12, n, s0, S, x, _, rfl, hN12, ok3, fun H14 s14 => ⟨rfl, _, rfl, ?_⟩⟩
        refine iteF' (by show ¬ (!decide ((if (2 : Nat) = 1 then V.int 1 else V.non) = V.non)) = true; decide) ?_
        exact ⟨⟨_, rfl⟩, f12.trans (Fr.of s14), hN12.same T s14⟩
    · rintro σ' H12 ⟨⟨a7, rfl⟩, f12, hN12⟩
      have hN12' : NetAt P w c H12 n s0 S x (nsR S x) := hN12
      have hM12 : ModelAt H12 mo S := hM.fr f12 nI_tup nI_dK
      refine ⟨_, rfl, _, rfl, _, rfl, _, rfl, n, s0, mo, S, x, _, T0, rfl, hN12', ok3, hM12, hxn, hT0, hT1, by show 1 ≤ 100; decide, fun H14 hN14 f14 => ?_⟩
      obtain ⟨a1, a2, a3, a4⟩ := agedR_ok (S := S) (x := x) (T := T0) fok.k (S.fd x).keeps.length (nsR S x, 0) ok3 (Int.le_refl _) hT0 (by show 1 + _ ≤ _; omega) (Nat.le_of_eq ok3.cs.symm)
      refine ⟨_, rfl, _, rfl, _, rfl, T0, _, rfl, rfl, n, s0, S, x, _, _, rfl, hN14, a1, by omega, fun H15 hN15 f15 => ?_⟩
      have okF := a1.w (T0 - (agedR S x T0 (S.fd x).keeps.length (nsR S x, 0)).2)
      have f015 : Fr (nI c.N) H H15 := f12.trans (f14.trans f15)
      obtain ⟨fl, el, hmo', hT', hel'⟩ := hM.fr f015 nI_tup nI_dK
      obtain ⟨p, r, k, g1, hp, hr', hk⟩ := hT'.get hxn
      refine ⟨fun σ' H' => H15 = H' ∧ ∃ a8, σ' = [some (.ref d), some (.ref mo), some (.str x), some (.int T0), some (vt o), some (.ref n), none, a7, a8, some (.bl (dueB (S.fd x).keeps.length o T0))], ?_, fun σ' H' hm => ?_⟩
      · refine ⟨_, rfl, mo, .ref fl, rfl, DGet.k (k := Sum.inr "files") hmo', _, rfl, fl, .ref p, rfl, g1, p, _, _, .ref k, rfl, rfl, SqT.of hp, atI_nat (j := 3) rfl, k, _, rfl, .inr (SqT.of hk), _, 0, rfl, rfl, _, rfl, ?_⟩
        rw [List.length_map]
        by_cases hz : 0 < (S.fd x).keeps.length
        · refine iteT' (decide_eq_true (by omega)) ?_
          refine ⟨_, rfl, rfl, _, rfl, ?_⟩
          unfold dueB
          rw [decide_eq_true hz]
          cases o with
          | none => exact iteT' rfl ⟨rfl, _, rfl⟩
          | some a =>
            refine iteF' (fun h => nomatch (of_decide_eq_true h)) ?_
            exact ⟨_, rfl, _, rfl, T0, a, rfl, rfl, rfl, _, rfl⟩
        · refine iteF' (by simpa using hz) ?_
          unfold dueB
          rw [decide_eq_false hz]
          exact ⟨rfl, _, rfl⟩
      · obtain ⟨rfl, a8, rfl⟩ := hm
        refine ⟨_, rfl, _, rfl, n, s0, S, x, _, rfl, hN15, okF, ?_, fun H16 hN16 f16 => ⟨rfl, _, rfl, rfl, ?_⟩⟩
        · rw [effW_vis]
          have : (nsR S x, (0 : Int)).1.vis.length = 1 := rfl
          omega
        · have e := hm1 o ha
          have e2 : decide (V.int (lookN S x (nsF S x T0)).2.1 = V.int 0) = decide ((lookN S x (nsF S x T0)).2.1 = 0) := by
            by_cases h : (lookN S x (nsF S x T0)).2.1 = 0
            · rw [h]; rfl
            · rw [decide_eq_false h, decide_eq_false (fun h' => h (V.int.inj h'))]
          have e3 : decide (V.bl (decide (V.int (lookN S x (nsF S x T0)).2.1 = V.int 0)) = V.bl (dueB (S.fd x).keeps.length o T0)) = true := by
            rw [e2, e]
            exact decide_eq_true rfl
          have qq := q H16 (f015.trans f16)
          rw [← e3] at qq
          exact qq

end
end Wp

set_option Elab.async false
set_option linter.all false
set_option maxRecDepth 100000
set_option maxHeartbeats 2000000
namespace Wp
open PySem PySem.Spec PyProof.Rows L2
section
variable {P : Program} {w : World} {K : PySem.W.Frag} {mg : Str → Option Value} {base : Heap} {c : CA}

/-- _law_below -/
theorem w_l_below {f : Addr} {fd : FuncData} {ks : List (Str × V)} {dvs : List V} (F : FunD K "_law_below" "_law_below" (defArgs s_l_below) (defBody s_l_below) (defScope s_l_below) dvs ks f fd) (T : Txt K w mg c)  : FnOk P w K mg base C8.CX0 1 f fd ["_law_files", "_law_name"] (sp_lbelow) := by
  refine F.ok sc_l_below (fun vs H Q E h => ?_) (fun cdv A outer s H vs Q E hr h => ?_)
  · obtain ⟨rf, x, zs, ch, rfl, hR, hx, fo, rn, nm, q⟩ := h
    rfl
  · obtain ⟨rf, x, zs, ch, rfl, hR, hx, fo, rn, nm, q⟩ := h
    have hu := hu_of hr
    have hu2 := hu2_of hr
    refine ⟨_, PSs.nox ((pss_cons (ps_par (i := 2) (j := 3) rfl sc_l_below.nd rfl rfl (by decide) rfl rfl (pa_cons (pe_lst (pa_cons (pv 1) pa_nil)) (pa_cons pe_int pa_nil)) (by rfl))
      (pss_cons (ps_while PassesOwn.never (pt_cmpR op_lt (pv 3) (pe_callB call_len_seq rfl T.b_len (by decide +kernel) (pa_cons (pv 2) pa_nil)) (nomark _))
        (pss_one (ps_par (i := 2) (j := 3) rfl sc_l_below.nd rfl rfl (by decide) rfl rfl (pa_cons (pe_op op_cat (pv 2) (pe_callTy call_list_of rfl T.b_list (by decide +kernel) (pa_cons (pe_ix ix_list (pe_dget hu (pv 0) (pe_ix ix_list (pv 2) (pv 3) (fun _ _ => rfl)) (fun _ _ => rfl)) pe_int (fun _ _ => rfl)) pa_nil))) (pa_cons (pe_op op_add (pv 3) pe_int) pa_nil)) (by rfl))))
      (pss_one (ps_ret (pv 2)))))), ?_⟩
    refine ⟨_, rfl, by show 1 ≤ sizeLine; decide, fun l0 hl0 => ⟨_, _, rfl, ?_⟩⟩
    refine ⟨fun m σ' H' => ∃ (n : Nat) (bs : List Str) (l : Addr), m = 8 - n ∧ Same H H' ∧ H' l = some (.lst (bs.map V.str)) ∧ Bl zs ch x n bs ∧ σ' = [some (.ref rf), some (.str x), some (.ref l), some (.int n)], ⟨8, 0, [x], l0, rfl, same_new hl0, upd_same, ⟨by simp, by simp, fun z h => by simp at h; rw [h]; exact hx⟩, rfl⟩, ?_⟩
    rintro m σ' H1 ⟨n, bs, l, rfl, s1, hl, hb, rfl⟩
    have h8 := hb.len nm
    refine ⟨_, rfl, _, rfl, l, _, rfl, .inl (SqL.of hl), n, _, rfl, rfl, _, rfl, ?_⟩
    rw [List.length_map]
    by_cases hn : n < bs.length
    · refine iteT' (decide_eq_true (by omega)) ⟨_, fun _ _ h => h, ?_⟩
      obtain ⟨z, ez⟩ : ∃ z, bs[n]? = some z := ⟨_, List.getElem?_eq_getElem hn⟩
      have hz := hb.sub z (List.mem_of_getElem? ez)
      obtain ⟨p, lz, g1, hp, hlz⟩ := (hR.same s1).get hz
      have hc8 : (ch z).length ≤ 8 := nodup_few (fun y h => nm y (fo.cl z hz y h)) (fo.rn z hz)
      refine ⟨_, rfl, _, rfl, _, rfl, _, rfl, l, _, _, .str z, rfl, rfl, SqL.of hl, atI_nat (by rw [List.getElem?_map, ez]; rfl), rf, .ref p, rfl, g1, p, _, _, .ref lz, rfl, rfl, SqL.of hp, atI_nat (j := 1) rfl, lz, _, rfl, .inl (SqL.of hlz), fun l2 hl2 => ?_⟩
      have s2 := same_new (o := .lst ((ch z).map V.str)) hl2
      refine ⟨l, l2, _, _, rfl, rfl, s2 _ _ hl, upd_same, by rw [List.length_map, List.length_map, sizeLine_eq]; omega, fun l3 hl3 => ?_⟩
      have s3 := same_new (o := .lst (bs.map V.str ++ (ch z).map V.str)) hl3
      refine ⟨_, rfl, n, 1, rfl, rfl, _, _, rfl, 8 - (n + 1), by omega, n + 1, bs ++ ch z, l3, rfl, (s1.trans s2).trans s3, ?_, hb.step fo rn ez, rfl⟩
      rw [upd_same, List.map_append]
    · refine iteF' (by simpa using hn) ?_
      obtain ⟨d1, d2⟩ := hb.done (by omega)
      exact ⟨_, rfl, q H1 l bs s1 hl hb.nd d1 d2⟩

end
end Wp

set_option Elab.async false
set_option linter.all false
set_option maxRecDepth 100000
set_option maxHeartbeats 2000000
namespace Wp
open PySem PySem.Spec PyProof.Rows L2
section
variable {P : Program} {w : World} {K : PySem.W.Frag} {mg : Str → Option Value} {base : Heap} {c : CA}

/-- _law_model -/
theorem w_l_model {f : Addr} {fd : FuncData} {ks : List (Str × V)} {dvs : List V} (F : FunD K "_law_model" "_law_model" (defArgs s_l_model) (defBody s_l_model) (defScope s_l_model) dvs ks f fd) (T : Txt K w mg c) (c_l_take : C8.Cal P w K mg base 2 "_law_take" (sp_take P w) []) (c_l_shuffled : C8.Cal P w K mg base 3 "_law_shuffled" (sp_shuffled P w K) []) (c_l_pick : C8.Cal P w K mg base 3 "_law_pick" (sp_pick P w K) []) (c_l_below : C8.Cal P w K mg base 1 "_law_below" (sp_lbelow) []) (c_l_ticks : C8.Cal P w K mg base 4 "_law_ticks" (sp_ticks P w) []) : FnOk P w K mg base C8.CX0 5 f fd ["_law_draw", "_law_most"] (sp_lmodel P w) := by
  refine F.ok sc_l_model (fun vs H Q E h => ?_) (fun cdv A outer s H vs Q E hr h => ?_)
  · obtain ⟨d, m, rfl, hD, hm, q⟩ := h
    rfl
  · obtain ⟨d, m, rfl, hD, hm, q⟩ := h
    have hu := hu_of hr
    have hu2 := hu2_of hr
    refine ⟨_, PSs.nox ((pss_cons (ps_set (i := 2) sc_l_model.nd rfl (Or.inl rfl) (pe_lst (pa_cons pe_str (pa_cons pe_str (pa_cons pe_str (pa_cons pe_str (pa_cons pe_str (pa_cons pe_str (pa_cons pe_str (pa_cons pe_str pa_nil))))))))))
      (pss_cons (ps_par (i := 3) (j := 4) rfl sc_l_model.nd rfl rfl (by decide) rfl rfl (pa_cons (pe_slice sl_list (C8.pe_c c_l_shuffled hr (by decide) rfl (pa_cons (pv 0) (pa_cons (pv 2) pa_nil))) po_none (po_some (pe_op op_add pe_int (C8.pe_c c_l_take hr (by decide) rfl (pa_cons (pv 0) (pa_cons (pv 1) pa_nil)))))) (pa_cons pe_dnewK pa_nil)) (by rfl))
      (pss_cons (ps_par3 (i := 5) (j := 6) (l := 7) rfl sc_l_model.nd rfl rfl rfl (by decide) (by decide) (by decide) rfl rfl rfl (pa_cons (pe_slice sl_list (pv 3) po_none (po_some pe_int)) (pa_cons (C8.pe_c c_l_pick hr (by decide) rfl (pa_cons (pv 0) (pa_cons (pe_lst (pa_cons pe_int (pa_cons pe_int (pa_cons pe_int (pa_cons pe_int (pa_cons pe_int (pa_cons pe_int (pa_cons pe_int pa_nil)))))))) pa_nil))) (pa_cons (C8.pe_c c_l_pick hr (by decide) rfl (pa_cons (pv 0) (pa_cons (pe_lst (pa_cons pe_int (pa_cons pe_int (pa_cons pe_int (pa_cons pe_int (pa_cons pe_int pa_nil)))))) pa_nil))) pa_nil))) (by rfl))
      (C8.pss_cut (ps_set (i := 8) sc_l_model.nd rfl (Or.inl rfl) (pe_callTy (call_dictP rfl) rfl T.b_dict (by decide +kernel) (pa_cons (pe_lc (own := [("_law_name", 9)]) rfl sc_l_model.nd (pi_list (pv 3)) (blkOk_by (own := [("_law_name", 9)]) (N := n_l_model) (sc := defScope s_l_model) (by decide +kernel)) (fun _ _ _ _ _ => (pg_name (i := 9) sc_l_model.nd rfl (Or.inl rfl))) (fun _ _ _ _ _ => pts_nil) (fun _ _ _ _ _ => (pe_tup (pa_cons (pv 9) (pa_cons (pe_lst (pa_cons pe_str (pa_cons (pe_lst pa_nil) pa_nil))) pa_nil))))) pa_nil)))
      (C8.pss_cut (ps_for PassesOwn.never rfl (pi_range2 rfl T.b_range (pa_cons pe_int (pa_cons (pe_callB call_len_seq rfl T.b_len (by decide +kernel) (pa_cons (pv 3) pa_nil)) pa_nil))) (pg_name (i := 10) sc_l_model.nd rfl (Or.inl rfl))
        (pss_cons (ps_set (i := 11) sc_l_model.nd rfl (Or.inl rfl) (C8.pe_c c_l_pick hr (by decide) rfl (pa_cons (pv 0) (pa_cons (pe_slice sl_list (pv 3) po_none (po_some (pv 10))) pa_nil))))
        (pss_one (ps_if (pt_cmpR op_eq (C8.pe_c c_l_take hr (by decide) rfl (pa_cons (pv 0) (pa_cons pe_int pa_nil))) pe_int (nomark _)) (pss_one (ps_set (i := 5) sc_l_model.nd rfl (Or.inl rfl) (pe_op op_cat (pv 5) (pe_lst (pa_cons (pe_ix ix_list (pv 3) (pv 10) (fun _ _ => rfl)) pa_nil))))) (pss_one (ps_expr (pe_bm PySem.F.plainAttrs_list PySem.F.slot_list_append PySem.F.type_list_append mt_append (pe_ix ix_list (pe_dget hu (pv 8) (pv 11) (fun _ _ => rfl)) pe_int (fun _ _ => rfl)) (pa_cons (pe_ix ix_list (pv 3) (pv 10) (fun _ _ => rfl)) pa_nil))))))))
      (pss_cons (ps_set (i := 12) sc_l_model.nd rfl (Or.inl rfl) (C8.pe_c c_l_pick hr (by decide) rfl (pa_cons (pv 0) (pa_cons (pv 3) pa_nil))))
      (C8.pss_cut (ps_if (PW.pt (pw_and (pt_cmpR (op_eqD hr.units) (pe_ix ix_list (pe_dget hu (pv 8) (pv 12) (fun _ _ => rfl)) pe_int (fun _ _ => rfl)) (pe_lst pa_nil) (nomark _)) (pw_and (pt_cmpR op_notIn_seq (pv 12) (pv 5) (by rfl)) (pw_and1 (pt_cmpR op_notIn_seq (pv 12) (C8.pe_c c_l_below hr (by decide) rfl (pa_cons (pv 8) (pa_cons (pe_ix ix_list (pv 5) (pe_un un_neg pe_int) (fun _ _ => rfl)) pa_nil))) (by rfl)))))) (pss_one (ps_expr (pe_bm PySem.F.plainAttrs_list PySem.F.slot_list_append PySem.F.type_list_append mt_append (pe_ix ix_list (pe_dget hu (pv 8) (pe_ix ix_list (pv 5) (pe_un un_neg pe_int) (fun _ _ => rfl)) (fun _ _ => rfl)) pe_int (fun _ _ => rfl)) (pa_cons (pv 12) pa_nil)))) pss_nil)
      (pss_cons (ps_set (i := 13) sc_l_model.nd rfl (Or.inl rfl) (C8.pe_c c_l_pick hr (by decide) rfl (pa_cons (pv 0) (pa_cons (pe_lst (pa_cons (pe_ix ix_list (pv 5) pe_int (fun _ _ => rfl)) (pa_cons (pe_ix ix_list (pv 5) pe_int (fun _ _ => rfl)) (pa_cons (pe_ix ix_list (pv 5) (pe_un un_neg pe_int) (fun _ _ => rfl)) (pa_cons (C8.pe_c c_l_pick hr (by decide) rfl (pa_cons (pv 0) (pa_cons (pv 3) pa_nil))) pa_nil))))) pa_nil))))
      (C8.pss_cut (ps_set (i := 14) sc_l_model.nd rfl (Or.inl rfl) (pe_callB (cr_sortSS rfl) rfl T.b_sorted (by decide +kernel) (pa_cons (pe_callTy (cr_setS rfl) rfl T.b_set (by decide +kernel) (pa_cons (pe_op op_cat (pe_lc (own := [("_law_root", 15)]) rfl sc_l_model.nd (pi_list (pv 5)) (blkOk_by (own := [("_law_root", 15)]) (N := n_l_model) (sc := defScope s_l_model) (by decide +kernel)) (fun _ _ _ _ _ => (pg_name (i := 15) sc_l_model.nd rfl (Or.inl rfl))) (fun _ _ _ _ _ => (pts_one (pt_cmpR op_gt (C8.pe_c c_l_take hr (by decide) rfl (pa_cons (pv 0) (pa_cons pe_int pa_nil))) pe_int (nomark _)))) (fun _ _ _ _ _ => (pv 15))) (pe_lst (pa_cons (pe_ix ix_list (pv 5) pe_int (fun _ _ => rfl)) (pa_cons (pv 13) pa_nil)))) pa_nil)) pa_nil)))
      (C8.pss_cut (ps_for PassesOwn.never rfl (pi_list (C8.pe_c c_l_shuffled hr (by decide) rfl (pa_cons (pv 0) (pa_cons (pv 3) pa_nil)))) (pg_name (i := 9) sc_l_model.nd rfl (Or.inl rfl))
        (C8.pss_cut (ps_set (i := 16) sc_l_model.nd rfl (Or.inl rfl) (pe_ifExp (PW.pt (pw_or (pt_cmpR op_in_seq (pv 9) (pv 14) (by rfl)) (pw_or1 (pt_cmpR op_eq (C8.pe_c c_l_take hr (by decide) rfl (pa_cons (pv 0) (pa_cons (pv 7) pa_nil))) pe_int (nomark _))))) pe_str pe_str))
        (pss_cons (ps_set (i := 17) sc_l_model.nd rfl (Or.inl rfl) (pe_callTy call_tuple_of rfl T.b_tuple (by decide +kernel) (pa_cons (pe_lc (own := [("_law_cache", 18)]) rfl sc_l_model.nd (pi_range1 rfl T.b_range (pa_cons (pv 6) pa_nil)) (blkOk_by (own := [("_law_cache", 18)]) (N := n_l_model) (sc := defScope s_l_model) (by decide +kernel)) (fun _ _ _ _ _ => (pg_name (i := 18) sc_l_model.nd rfl (Or.inl rfl))) (fun _ _ _ _ _ => pts_nil) (fun _ _ _ _ _ => (C8.pe_c c_l_ticks hr (by decide) rfl (pa_cons (pv 0) pa_nil)))) pa_nil)))
        (pss_one (ps_dput hu (pv 4) (pv 9) (pe_tup (pa_cons (pv 16) (pa_cons (pe_callTy call_tuple_of rfl T.b_tuple (by decide +kernel) (pa_cons (pe_callB cr_sortedS rfl T.b_sorted (by decide +kernel) (pa_cons (pe_ix ix_list (pe_dget hu (pv 8) (pv 9) (fun _ _ => rfl)) pe_int (fun _ _ => rfl)) pa_nil)) pa_nil)) (pa_cons (C8.pe_c c_l_ticks hr (by decide) rfl (pa_cons (pv 0) pa_nil)) (pa_cons (pv 17) pa_nil))))) rfl)))))
      (pss_one (ps_ret (pe_disp (pps_cons pe_str (pv 4) (pps_cons pe_str (pe_callTy call_tuple_of rfl T.b_tuple (by decide +kernel) (pa_cons (pv 14) pa_nil)) (pps_cons pe_str (C8.pe_c c_l_pick hr (by decide) rfl (pa_cons (pv 0) (pa_cons (pe_lst (pa_cons pe_str (pa_cons pe_str pa_nil))) pa_nil))) pps_nil))) (by rfl) (by rfl) (fun z => by cases z) (by decide))))))))))))))), ?_⟩
    refine ⟨by show 8 ≤ sizeLine; decide, fun l0 hl0 => ?_⟩
    have s0 := same_new (o := .lst (names8.map V.str)) hl0
    have hl0' : (upd H l0 (.lst (names8.map V.str))) l0 = some (.lst (names8.map V.str)) := upd_same
    have n8 : names8.map V.str = [.str "a", .str "ab", .str "b", .str "ever", .str "own", .str "plain", .str "q", .str "zzzzzzzz"] := rfl
    rw [← n8]
    generalize upd H l0 (.lst (names8.map V.str)) = Ha at s0 hl0'
    refine ⟨_, rfl, _, rfl, d, l0, names8, m, rfl, hD.same s0, by show m + 8 < _; omega, SqL.of hl0', by decide, fun z h => h, fun H1 l1 ys f1 hD1 hperm hl1 => ?_⟩
    show tNoPart _ _ _
    unfold tNoPart
    refine ⟨_, rfl, _, rfl, d, 8, m + 8, rfl, hD1, by omega, by decide, by decide, fun H2 k f2 hD2 k0 k1 => ?_⟩
    refine ⟨1, k, rfl, rfl, _, rfl, l1, _, rfl, SqL.of (f2 _ _ hl1 (nX_lst _)), fun nl hnl => ?_⟩
    obtain ⟨kn, rfl⟩ : ∃ kn : Nat, k = kn := ⟨k.toNat, by omega⟩
    have ecut : cutV (ys.map V.str) none (some (1 + (kn : Int))) = (ys.take (1 + kn)).map V.str := by
      rw [show (1 : Int) + (kn : Int) = ((1 + kn : Nat) : Int) by omega, cut_to, List.map_take]
    rw [ecut]
    have ynd : ys.Nodup := hperm.nodup_iff.mpr (by decide +kernel)
    have ylen : ys.length = 8 := hperm.length_eq
    obtain ⟨zs, hzs⟩ : ∃ zs, zs = ys.take (1 + kn) := ⟨_, rfl⟩
    rw [← hzs]
    have nd : zs.Nodup := by rw [hzs]; exact ynd.sublist (List.take_sublist _ _)
    have nm : ∀ z ∈ zs, Nm z := fun z hz => hperm.mem_iff.mp (List.mem_of_mem_take (by rw [hzs] at hz; exact hz))
    have zlen : 1 ≤ zs.length ∧ zs.length ≤ 8 := by rw [hzs, List.length_take]; omega
    clear hzs ecut
    have s3 := same_new (o := .lst (zs.map V.str)) hnl
    have hnl3 : (upd H2 nl (.lst (zs.map V.str))) nl = some (.lst (zs.map V.str)) := upd_same
    have hD3 := hD2.same s3
    have f03 : Fr Wp.nX H (upd H2 nl (.lst (zs.map V.str))) := (Fr.of s0).trans (f1.trans (f2.trans (Fr.of s3)))
    generalize upd H2 nl (.lst (zs.map V.str)) = H3 at s3 hnl3 hD3 f03
    refine fun fl hfl => ⟨_, _, rfl, ?_⟩
    have s4 := same_new (o := .dK []) hfl
    have hfl4 : (upd H3 fl (.dK [])) fl = some (.dK []) := upd_same
    have hnl4 := s4 _ _ hnl3
    have hD4 := hD3.same s4
    have f04 : Fr Wp.nX H (upd H3 fl (.dK [])) := f03.trans (Fr.of s4)
    have hfl0 : Fh H fl := Fh.of f03 hfl
    generalize upd H3 fl (.dK []) = H4 at s4 hfl4 hnl4 hD4 f04
    obtain ⟨z0, ez0⟩ : ∃ z0, zs[0]? = some z0 := ⟨_, List.getElem?_eq_getElem (by omega)⟩
    refine ⟨_, rfl, 1, rfl, nl, _, rfl, SqL.of hnl4, fun rl hrl => ?_⟩
    have ecut : cutV (zs.map V.str) none (some 1) = [z0].map V.str := by
      rw [show (1 : Int) = ((1 : Nat) : Int) from rfl, cut_to]
      cases zs with
      | nil => simp at ez0
      | cons a r => simp at ez0; rw [ez0]; rfl
    rw [ecut]
    clear ecut
    have s5 := same_new (o := .lst ([z0].map V.str)) hrl
    have hrl5 : (upd H4 rl (.lst ([z0].map V.str))) rl = some (.lst ([z0].map V.str)) := upd_same
    have hfl5 := s5 _ _ hfl4
    have hnl5 := s5 _ _ hnl4
    have hD5 := hD4.same s5
    have f05 : Fr Wp.nX H (upd H4 rl (.lst ([z0].map V.str))) := f04.trans (Fr.of s5)
    generalize upd H4 rl (.lst ([z0].map V.str)) = H5 at s5 hrl5 hfl5 hnl5 hD5 f05
    refine ⟨_, rfl, by show 7 ≤ sizeLine; decide, fun lm hlm => ?_⟩
    have s6 := same_new (o := .lst [.int 0, .int 1, .int 1, .int 2, .int 2, .int 3, .int 4]) hlm
    refine ⟨d, lm, _, m + 8 + 1, rfl, hD5.same s6, by omega, SqL.of upd_same, (fun h => nomatch h), by show 7 < 1000000; decide, fun H7 i7 v7 f7 hD7 e7 => ?_⟩
    have hmany : ∃ mn : Nat, v7 = .int mn ∧ mn ≤ 4 := by
      have hm := List.mem_of_getElem? e7
      simp only [List.mem_cons, List.not_mem_nil, or_false] at hm
      rcases hm with rfl | rfl | rfl | rfl | rfl | rfl | rfl
      · exact ⟨0, rfl, by decide⟩
      · exact ⟨1, rfl, by decide⟩
      · exact ⟨1, rfl, by decide⟩
      · exact ⟨2, rfl, by decide⟩
      · exact ⟨2, rfl, by decide⟩
      · exact ⟨3, rfl, by decide⟩
      · exact ⟨4, rfl, by decide⟩
    obtain ⟨mn, rfl, hmn⟩ := hmany
    have f57 : Fr Wp.nX H5 H7 := (Fr.of s6).trans f7
    refine ⟨_, rfl, by show 5 ≤ sizeLine; decide, fun lo hlo => ?_⟩
    have s8 := same_new (o := .lst [.int 2, .int 3, .int 3, .int 4, .int 9]) hlo
    refine ⟨d, lo, _, m + 8 + 1 + 1, rfl, hD7.same s8, by omega, SqL.of upd_same, (fun h => nomatch h), by show 5 < 1000000; decide, fun H9 i9 v9 f9 hD9 e9 => ?_⟩
    have hodd : ∃ od : Int, v9 = .int od ∧ 1 ≤ od ∧ od < 10 := by
      have hm := List.mem_of_getElem? e9
      simp only [List.mem_cons, List.not_mem_nil, or_false] at hm
      rcases hm with rfl | rfl | rfl | rfl | rfl <;> exact ⟨_, rfl, by decide, by decide⟩
    obtain ⟨od, rfl, hod0, hod1⟩ := hodd
    have f59 : Fr Wp.nX H5 H9 := f57.trans ((Fr.of s8).trans f9)
    have hnl9 := f59 _ _ hnl5 (nX_lst _)
    have hrl9 := f59 _ _ hrl5 (nX_lst _)
    have hfl9 := f59 _ _ hfl5 (nX_dK _)
    have f09 : Fr Wp.nX H H9 := f05.trans f59
    rw [show m + 8 + 1 + 1 + 1 = m + 11 by omega] at hD9
    refine ⟨_, _, _, rfl, ?_⟩
    clear hD7 hD5 hD4 hD3 hD2 hD1 e7 e9 f57 f59
    refine ⟨fun σ' H' => ∃ rf : Addr, σ' = [some (.ref d), some (.int 8), some (.ref l0), some (.ref nl), some (.ref fl), some (.ref rl), some (.int (mn : Nat)), some (.int od), some (.ref rf), none, none, none, none, none, none, none, none, none, none] ∧ Fr Wp.nX H H' ∧ DrawAt P w H' d (m + 11) ∧ H' nl = some (.lst (zs.map V.str)) ∧ H' fl = some (.dK []) ∧ H' rl = some (.lst ([z0].map V.str)) ∧ RefN H H' rf zs fun _ => [], ?_, fun σ' HA hmA => ?_⟩
    · refine ⟨_, rfl, nl, rfl, ⟨_, SqL.of hnl9⟩, fun D hDn => ?_⟩
      refine lc_it (walk_list (xs := zs.map V.str)) (fun j H' => ∃ pl : List (Addr × Addr × Addr), pl.length = j ∧ Same H9 H' ∧ H' D = some (.lst (pl.map fun q => V.ref q.1)) ∧ Rows3 H9 H' D zs pl) ⟨[], rfl, same_new hDn, upd_same, ⟨fun i q z e => by simp at e, fun q h => by simp at h, by simp⟩⟩ (fun j H' _ ⟨_, _, s, _⟩ => SqL.of (s _ _ hnl9)) ?_ ?_
      · rintro j v HB HA hj ⟨pl, hpl, sA, hDA, rw3⟩ ⟨rfl, ev⟩
        rw [List.length_map] at hj
        have ez : zs[j]? = some zs[j] := List.getElem?_eq_getElem hj
        rw [List.getElem?_map, ez] at ev
        cases ev
        refine ⟨rfl, _, rfl, by show 0 ≤ sizeLine; decide, fun l hl => ⟨by show 2 ≤ sizeLine; decide, fun p hp => ⟨by show 2 ≤ sizeLine; decide, fun t ht => ?_⟩⟩⟩
        have t1 := same_new (o := .lst []) hl
        have l1' : (upd HA l (.lst [])) l = some (.lst []) := upd_same
        have t2 := same_new (o := .lst [.str "", .ref l]) hp
        have t3 := same_new (o := .tup [.str zs[j], .ref p]) ht
        have p2' : (upd (upd HA l (.lst [])) p (.lst [.str "", .ref l])) p = some (.lst [.str "", .ref l]) := upd_same
        have sall := (t1.trans t2).trans t3
        have hlD : l ≠ D := fun e => by rw [e, hDA] at hl; cases hl
        have hpD : p ≠ D := fun e => by rw [e, t1 _ _ hDA] at hp; cases hp
        have htD : t ≠ D := fun e => by rw [e, t2 _ _ (t1 _ _ hDA)] at ht; cases ht
        refine ⟨_, sall _ _ hDA, by rw [List.length_map, hpl, sizeLine_eq]; omega, pl ++ [(t, p, l)], by rw [List.length_append, hpl]; rfl, fun b o h => ?_, ?_, ?_⟩
        · rw [upd_ne (ne_of_none h hDn)]
          exact sall _ _ (sA _ _ h)
        · rw [upd_same, List.map_append]
          rfl
        · refine Rows3.same (H := upd (upd (upd HA l (.lst [])) p (.lst [.str "", .ref l])) t (.tup [.str zs[j], .ref p])) ?_ (fun b o h n => by rw [upd_ne n]; exact h) ⟨_, sall _ _ hDA⟩
          have r0 := rw3.same (fun b o h _ => sall b o h) ⟨_, hDA⟩
          refine ⟨fun i q z e1 e2 => ?_, fun q hq => ?_, ?_⟩
          · by_cases hi : i < pl.length
            · rw [List.getElem?_append_left hi] at e1
              exact r0.row i q z e1 e2
            · have hil : i = pl.length := by
                have := (List.getElem?_eq_some_iff.mp e1).1
                rw [List.length_append] at this
                simp at this
                omega
              subst hil
              rw [List.getElem?_append_right (Nat.le_refl _), Nat.sub_self] at e1
              cases e1
              rw [hpl, ez] at e2
              cases e2
              exact ⟨upd_same, t3 _ _ p2', t3 _ _ (t2 _ _ l1')⟩
          · rcases List.mem_append.mp hq with h | h
            · exact rw3.new q h
            · rw [List.mem_singleton] at h
              subst h
              refine ⟨?_, hlD, hpD⟩
              cases e : H9 l with
              | none => rfl
              | some o => rw [sA _ _ e] at hl; cases hl
          · rw [List.map_append, List.nodup_append]
            refine ⟨rw3.inj, by simp, fun a ha b hb e => ?_⟩
            simp at hb
            subst hb
            subst e
            obtain ⟨q, hq, e2⟩ := List.mem_map.mp ha
            obtain ⟨i, hi, e3⟩ := List.mem_iff_getElem.mp hq
            have h1 : pl[i]? = some q := by rw [List.getElem?_eq_getElem hi, e3]
            have h2 := (rw3.row i q zs[i] h1 (List.getElem?_eq_getElem (by omega))).2.2
            rw [e2, hl] at h2
            cases h2
      · rintro HB ⟨pl, hpl, sB, hDB, rw3⟩
        rw [List.length_map] at hpl
        obtain ⟨kvs, hpd, href⟩ := rw3.ref (K := K) (H0 := H) nd hpl fun p hp => Fh.of f09 hp
        refine ⟨D, _, kvs, rfl, by rw [List.map_map]; exact SqL.of hDB, hpd, fun rf hrf => ?_⟩
        have s10 := sB.trans (same_new (o := .dK (mergeK [] kvs)) hrf)
        exact ⟨rf, rfl, f09.trans (Fr.of s10), hD9.same s10, s10 _ _ hnl9, s10 _ _ hfl9, s10 _ _ hrl9, href rf hrf⟩
    · obtain ⟨rf, rfl, fA, hDA, hnlA, hflA, hrlA, hRA⟩ := hmA
      refine ⟨fun σ' H' => ∃ (rl2 : Addr) (ro : List Str) (ch : Str → List Str) (m2 : Int) (a10 a11 : Option V), σ' = [some (.ref d), some (.int 8), some (.ref l0), some (.ref nl), some (.ref fl), some (.ref rl2), some (.int (mn : Nat)), some (.int od), some (.ref rf), none, a10, a11, none, none, none, none, none, none, none] ∧ Fr Wp.nX H H' ∧ DrawAt P w H' d m2 ∧ m2 ≤ m + 27 ∧ H' nl = some (.lst (zs.map V.str)) ∧ H' fl = some (.dK []) ∧ H' rl2 = some (.lst (ro.map V.str)) ∧ RefN H H' rf zs ch ∧ Gf zs zs.length ro ch ∧ ro[0]? = some z0 ∧ ro.length ≤ 8, ?_, fun σ' HB hmB => ?_⟩
      · refine ⟨_, rfl, nl, _, rfl, .inl (SqL.of hnlA), 1, _, rfl, ⟨by decide, by decide, by rw [List.length_map]; omega, by rw [List.length_map]; omega⟩, ?_⟩
        rw [List.length_map]
        refine for_it (walk_range (lo := 1) (n := ((zs.length : Int) - 1).toNat)) (fun i σ' H' => ∃ (rl2 : Addr) (ro : List Str) (ch : Str → List Str) (m2 : Int) (a10 a11 : Option V), σ' = [some (.ref d), some (.int 8), some (.ref l0), some (.ref nl), some (.ref fl), some (.ref rl2), some (.int (mn : Nat)), some (.int od), some (.ref rf), none, a10, a11, none, none, none, none, none, none, none] ∧ Fr Wp.nX H H' ∧ DrawAt P w H' d m2 ∧ m2 ≤ m + 11 + 2 * (i : Int) ∧ H' nl = some (.lst (zs.map V.str)) ∧ H' fl = some (.dK []) ∧ H' rl2 = some (.lst (ro.map V.str)) ∧ RefN H H' rf zs ch ∧ Gf zs (i + 1) ro ch ∧ ro[0]? = some z0 ∧ ro.length ≤ i + 1) ⟨rl, [z0], fun _ => [], m + 11, none, none, rfl, fA, hDA, by omega, hnlA, hflA, hrlA, hRA, Gf.start nd ez0, rfl, Nat.le_refl _⟩ (fun _ _ _ _ _ => trivial) ?_ ?_
        · rintro i v σ' H3 H2 hi ⟨rl2, ro, ch, m2, a10, a11, rfl, f2, hD2, hm2, hnl2, hfl2, hrl2, hR2, g, hro, hrl⟩ ⟨rfl, rfl⟩
          have hi' : i + 1 < zs.length := by omega
          have ek : zs[i + 1]? = some zs[i + 1] := List.getElem?_eq_getElem hi'
          show gName 10 (V.int ((1 : Int) + (i : Nat))) _ _ _
          rw [show (1 : Int) + (i : Nat) = ((i + 1 : Nat) : Int) by omega]
          refine ⟨_, rfl, _, rfl, _, rfl, _, rfl, nl, _, rfl, SqL.of hnl2, fun ab hab => ?_⟩
          rw [cut_to]
          have s3 := same_new (o := .lst ((zs.map V.str).take (i + 1))) hab
          refine ⟨d, ab, _, m2, rfl, hD2.same s3, by omega, SqL.of upd_same, ?_, ?_, fun H4 i4 v4 f4 hD4 e4 => ?_⟩
          · intro h
            have := congrArg List.length h
            rw [List.length_take, List.length_map, List.length_nil] at this
            omega
          · rw [List.length_take, List.length_map]; omega
          have f34 : Fr Wp.nX H2 H4 := (Fr.of s3).trans f4
          rw [← List.map_take, List.getElem?_map] at e4
          obtain ⟨a, ea, rfl⟩ := Option.map_eq_some_iff.mp e4
          have ham : a ∈ zs.take (i + 1) := List.mem_of_getElem? ea
          have haz : a ∈ zs := List.mem_of_mem_take ham
          have f04 := f2.trans f34
          refine ⟨_, rfl, d, 5, m2 + 1, rfl, hD4, by omega, by decide, by decide, fun H5 k5 f5 hD5 k50 k51 => ⟨rfl, _, rfl, ?_⟩⟩
          have f25 := f34.trans f5
          have f05 := f2.trans f25
          have hnl5 := f25 _ _ hnl2 (nX_lst _)
          have hfl5 := f25 _ _ hfl2 (nX_dK _)
          have hrl5 := f25 _ _ hrl2 (nX_lst _)
          have hR5 := hR2.fr f25 nX_lst nX_dK
          by_cases h0 : k5 = 0
          · refine iteT' (by rw [h0]; rfl) ?_
            refine ⟨_, rfl, _, rfl, _, rfl, nl, _, _, .str zs[i + 1], rfl, rfl, SqL.of hnl5, atI_nat (by rw [List.getElem?_map, ek]; rfl), by show 1 ≤ sizeLine; decide, fun l1 hl1 => ?_⟩
            have s6 := same_new (o := .lst [.str zs[i + 1]]) hl1
            have hrol : ro.length ≤ 8 := by omega
            refine ⟨rl2, l1, _, _, rfl, rfl, s6 _ _ hrl5, upd_same, by rw [List.length_map, sizeLine_eq]; show _ + 1 ≤ _; omega, fun rl3 hrl3 => ?_⟩
            have s7 := s6.trans (same_new (o := .lst (ro.map V.str ++ [.str zs[i + 1]])) hrl3)
            refine ⟨rl3, ro ++ [zs[i + 1]], ch, m2 + 1 + 1, _, _, rfl, f05.trans (Fr.of s7), hD5.same s7, by omega, s7 _ _ hnl5, s7 _ _ hfl5, by rw [upd_same, List.map_append]; rfl, hR5.same s7, g.root ek, ?_, by rw [List.length_append]; show _ + 1 ≤ _; omega⟩
            rw [List.getElem?_append_left (List.getElem?_eq_some_iff.mp hro).1]
            exact hro
          · refine iteF' (by simpa using h0) ?_
            obtain ⟨p, l, g1, hp, hl, hl00, hRn⟩ := hR5.app haz zs[i + 1]
            have hz0 : ∀ z, z0 ∉ ch z := g.rno z0 (List.mem_of_getElem? hro)
            have nel : ∀ (q : Addr) (us : List Str), H5 q = some (.lst (us.map V.str)) → z0 ∈ us → q ≠ l := fun q us hq hz e => by
              rw [e, hl] at hq
              have h1 := HO.lst.inj (Option.some.inj hq)
              have h2 : V.str z0 ∈ (ch a).map V.str := by rw [h1]; exact List.mem_map.mpr ⟨z0, hz, rfl⟩
              obtain ⟨u, hu, e2⟩ := List.mem_map.mp h2
              cases e2
              exact hz0 a hu
            have hca : (ch a).length ≤ 8 := nodup_few (fun y hy => nm y (List.mem_of_mem_take (g.csub a y hy).2.1)) (g.rn a)
            refine ⟨_, rfl, _, rfl, rf, .ref p, rfl, g1, p, _, _, .ref l, rfl, rfl, SqL.of hp, atI_nat (j := 1) rfl, .inl ⟨rfl, _, SqL.of hl⟩, _, rfl, _, rfl, nl, _, _, .str zs[i + 1], rfl, rfl, SqL.of hnl5, atI_nat (by rw [List.getElem?_map, ek]; rfl), l, _, _, rfl, rfl, hl, by rw [List.length_map, sizeLine_eq]; omega, ?_⟩
            refine ⟨rl2, ro, _, m2 + 1 + 1, _, _, rfl, Fr.upF f05 hl00, hD5.up (fun φ e => by rw [hl] at e; cases e), by omega, ?_, ?_, ?_, hRn, g.child ham ek, hro, by omega⟩
            · rw [upd_ne (nel nl zs hnl5 (List.mem_of_getElem? ez0))]
              exact hnl5
            · rw [upd_ne (fun e => by rw [e, hl] at hfl5; cases hfl5)]
              exact hfl5
            · rw [upd_ne (nel rl2 ro hrl5 (List.mem_of_getElem? hro))]
              exact hrl5
        · rintro σ' H2 ⟨rl2, ro, ch, m2, a10, a11, rfl, f2, hD2, hm2, hnl2, hfl2, hrl2, hR2, g, hro, hrl⟩
          have e : ((zs.length : Int) - 1).toNat + 1 = zs.length := by omega
          rw [e] at g
          exact ⟨rl2, ro, ch, m2, a10, a11, rfl, f2, hD2, by omega, hnl2, hfl2, hrl2, hR2, g, hro, by omega⟩
      · obtain ⟨rl2, ro, ch, m2, a10, a11, rfl, fB, hDB, hmB2, hnlB, hflB, hrlB, hRB, g, hro, hrolen⟩ := hmB
        refine ⟨_, rfl, _, rfl, d, nl, _, m2, rfl, hDB, by omega, SqL.of hnlB, (fun h => by have := congrArg List.length h; rw [List.length_map, List.length_nil] at this; omega), by rw [List.length_map]; omega, fun HC i v fC hDC ev => ?_⟩
        rw [List.getElem?_map] at ev
        obtain ⟨lf, elf, rfl⟩ := Option.map_eq_some_iff.mp ev
        have hlf : lf ∈ zs := List.mem_of_getElem? elf
        have fC0 := fB.trans fC
        have hnlC := fC _ _ hnlB (nX_lst _)
        have hflC := fC _ _ hflB (nX_dK _)
        have hrlC := fC _ _ hrlB (nX_lst _)
        have hRC := hRB.fr fC nX_lst nX_dK
        have chnm : ∀ z, ∀ y ∈ ch z, Nm y := fun z y hy => nm y (List.mem_of_mem_take (g.csub z y hy).2.1)
        have romem : ∀ r ∈ ro, r ∈ zs := fun r hr => List.mem_of_mem_take (g.rsub r hr)
        have hropos : 0 < ro.length := (List.getElem?_eq_some_iff.mp hro).1
        obtain ⟨R, eR⟩ : ∃ R, ro[ro.length - 1]? = some R := ⟨_, List.getElem?_eq_getElem (by omega)⟩
        have hRro : R ∈ ro := List.mem_of_getElem? eR
        have hRz := romem R hRro
        have eRv : atI (ro.map V.str) (-1) = some (.str R) := at_back (by rw [List.length_map, List.getElem?_map, eR]; rfl)
        refine ⟨fun σ' H' => ∃ ch' : Str → List Str, σ' = [some (.ref d), some (.int 8), some (.ref l0), some (.ref nl), some (.ref fl), some (.ref rl2), some (.int (mn : Nat)), some (.int od), some (.ref rf), none, a10, a11, some (.str lf), none, none, none, none, none, none] ∧ Fr Wp.nX H H' ∧ DrawAt P w H' d (m2 + 1) ∧ H' nl = some (.lst (zs.map V.str)) ∧ H' fl = some (.dK []) ∧ H' rl2 = some (.lst (ro.map V.str)) ∧ RefN H H' rf zs ch' ∧ Rg zs ch', ?_, fun σ' HD hmD => ?_⟩
        · obtain ⟨p, l, g1, hp, hl⟩ := hRC.at.get hlf
          refine ⟨_, rfl, _, rfl, rf, .ref p, rfl, g1, p, _, _, .ref l, rfl, rfl, SqL.of hp, atI_nat (j := 1) rfl, by show 0 ≤ sizeLine; decide, fun el hel => ?_⟩
          have s1 := same_new (o := .lst []) hel
          refine rEq_nil (SqL.of (s1 _ _ hl)) upd_same (chnm lf) ⟨_, rfl, ?_⟩
          have stay : ∀ H', Same HC H' → ∃ ch' : Str → List Str, [some (.ref d), some (.int 8), some (.ref l0), some (.ref nl), some (.ref fl), some (.ref rl2), some (.int (mn : Nat)), some (.int od), some (.ref rf), none, a10, a11, some (.str lf), none, none, none, none, none, none] = [some (.ref d), some (.int 8), some (.ref l0), some (.ref nl), some (.ref fl), some (.ref rl2), some (.int (mn : Nat)), some (.int od), some (.ref rf), none, a10, a11, some (.str lf), none, none, none, none, none, none] ∧ Fr Wp.nX H H' ∧ DrawAt P w H' d (m2 + 1) ∧ H' nl = some (.lst (zs.map V.str)) ∧ H' fl = some (.dK []) ∧ H' rl2 = some (.lst (ro.map V.str)) ∧ RefN H H' rf zs ch' ∧ Rg zs ch' := fun H' s => ⟨ch, rfl, fC0.trans (Fr.of s), hDC.same s, s _ _ hnlC, s _ _ hflC, s _ _ hrlC, hRC.same s, g.done⟩
          by_cases h0 : ch lf = []
          · refine iteT' (by rw [h0]; rfl) ?_
            refine ⟨_, rfl, _, rfl, rl2, _, rfl, .inl (SqL.of (s1 _ _ hrlC)), rfl, by simp [flatV], _, rfl, ?_⟩
            by_cases h1 : lf ∈ ro
            · refine iteF' (by show ¬ (!inV (.str lf) (ro.map V.str)) = true; rw [inV_str, decide_eq_true h1]; decide) ?_
              exact iteF (stay _ s1)
            · refine iteT' (by show (!inV (.str lf) (ro.map V.str)) = true; rw [inV_str, decide_eq_false h1]; rfl) ?_
              refine ⟨_, rfl, _, rfl, _, rfl, 1, rfl, rl2, _, _, .str R, rfl, rfl, SqL.of (s1 _ _ hrlC), eRv, rf, R, zs, ch, rfl, hRC.at.same s1, hRz, ⟨g.nd, fun z hz y hy => List.mem_of_mem_take (g.csub z y hy).2.1, fun z _ => g.rn z, fun z _ x _ y => g.one z x y, fun z _ y hy => (g.csub z y hy).2.2⟩, fun z _ => g.rno R hRro z, nm, fun HE bl bs sE hbl bnd bR bcl => ?_⟩
              refine ⟨bl, _, rfl, .inl (SqL.of hbl), rfl, by simp [flatV], _, rfl, ?_⟩
              by_cases hb : lf ∈ bs
              · refine iteF' (by show ¬ (!inV (.str lf) (bs.map V.str)) = true; rw [inV_str, decide_eq_true hb]; decide) ?_
                exact stay _ (s1.trans sE)
              · refine iteT' (by show (!inV (.str lf) (bs.map V.str)) = true; rw [inV_str, decide_eq_false hb]; rfl) ?_
                have s2 := s1.trans sE
                have hnlE := s2 _ _ hnlC
                have hflE := s2 _ _ hflC
                have hrlE := s2 _ _ hrlC
                obtain ⟨p2, l2, g2, hp2, hl2, hl20, hRn⟩ := (hRC.same s2).app hRz lf
                have hz0 : ∀ z, z0 ∉ ch z := g.rno z0 (List.mem_of_getElem? hro)
                have nel : ∀ (q : Addr) (us : List Str), HE q = some (.lst (us.map V.str)) → z0 ∈ us → q ≠ l2 := fun q us hq hz e => by
                  rw [e, hl2] at hq
                  have h1 := HO.lst.inj (Option.some.inj hq)
                  have h2 : V.str z0 ∈ (ch R).map V.str := by rw [h1]; exact List.mem_map.mpr ⟨z0, hz, rfl⟩
                  obtain ⟨u, hu, e2⟩ := List.mem_map.mp h2
                  cases e2
                  exact hz0 R hu
                have hcR : (ch R).length ≤ 8 := nodup_few (chnm R) (g.rn R)
                refine ⟨_, rfl, _, rfl, 1, rfl, rl2, _, _, .str R, rfl, rfl, SqL.of hrlE, eRv, rf, .ref p2, rfl, g2, p2, _, _, .ref l2, rfl, rfl, SqL.of hp2, atI_nat (j := 1) rfl, .inl ⟨rfl, _, SqL.of hl2⟩, _, rfl, l2, _, _, rfl, rfl, hl2, by rw [List.length_map, sizeLine_eq]; omega, ?_⟩
                refine ⟨_, rfl, Fr.upF (fC0.trans (Fr.of s2)) hl20, (hDC.same s2).up (fun φ e => by rw [hl2] at e; cases e), ?_, ?_, ?_, hRn, g.leaf hRro hlf h0 h1 hb bnd bR bcl⟩
                · rw [upd_ne (nel nl zs hnlE (List.mem_of_getElem? ez0))]
                  exact hnlE
                · rw [upd_ne (fun e => by rw [e, hl2] at hflE; cases hflE)]
                  exact hflE
                · rw [upd_ne (nel rl2 ro hrlE (List.mem_of_getElem? hro))]
                  exact hrlE
          · refine iteF' (by cases h : ch lf with | nil => exact absurd h h0 | cons _ _ => exact fun e => nomatch e) ?_
            exact iteF (stay _ s1)
        · obtain ⟨ch', rfl, fD, hDD, hnlD, hflD, hrlD, hRD, rg⟩ := hmD
          have hz0z := romem z0 (List.mem_of_getElem? hro)
          refine ⟨_, rfl, _, rfl, rl2, _, _, .str z0, rfl, rfl, SqL.of hrlD, atI_nat (j := 0) (by rw [List.getElem?_map, hro]; rfl), _, rfl, rl2, _, _, .str z0, rfl, rfl, SqL.of hrlD, atI_nat (j := 0) (by rw [List.getElem?_map, hro]; rfl), _, rfl, 1, rfl, rl2, _, _, .str R, rfl, rfl, SqL.of hrlD, eRv, ?_⟩
          refine ⟨_, rfl, _, rfl, d, nl, _, m2 + 1, rfl, hDD, by omega, SqL.of hnlD, (fun h => by have := congrArg List.length h; rw [List.length_map, List.length_nil] at this; omega), by rw [List.length_map]; omega, fun HE iE vE fE hDE evE => ?_⟩
          rw [List.getElem?_map] at evE
          obtain ⟨nmx, enmx, rfl⟩ := Option.map_eq_some_iff.mp evE
          refine ⟨by show 4 ≤ sizeLine; decide, fun lp hlp => ?_⟩
          have sE := same_new (o := .lst [.str z0, .str z0, .str R, .str nmx]) hlp
          refine ⟨d, lp, _, m2 + 1 + 1, rfl, hDE.same sE, by omega, SqL.of upd_same, (fun h => nomatch h), by show 4 < 1000000; decide, fun HF iF vF fF hDF evF => ?_⟩
          have hmo : ∃ mo, vF = .str mo ∧ mo ∈ zs := by
            have hm := List.mem_of_getElem? evF
            simp only [List.mem_cons, List.not_mem_nil, or_false] at hm
            rcases hm with rfl | rfl | rfl | rfl
            · exact ⟨_, rfl, hz0z⟩
            · exact ⟨_, rfl, hz0z⟩
            · exact ⟨_, rfl, hRz⟩
            · exact ⟨_, rfl, List.mem_of_getElem? enmx⟩
          obtain ⟨mo, rfl, hmoz⟩ := hmo
          have fDF : Fr Wp.nX HD HF := fE.trans ((Fr.of sE).trans fF)
          have hnlF := fDF _ _ hnlD (nX_lst _)
          have hflF := fDF _ _ hflD (nX_dK _)
          have hrlF := fDF _ _ hrlD (nX_lst _)
          have hRF := hRD.fr fDF nX_lst nX_dK
          have f0F := fD.trans fDF
          refine ⟨fun σ' H' => ∃ (el : Addr) (es : List Str) (m3 : Int), σ' = [some (.ref d), some (.int 8), some (.ref l0), some (.ref nl), some (.ref fl), some (.ref rl2), some (.int (mn : Nat)), some (.int od), some (.ref rf), none, a10, a11, some (.str lf), some (.str mo), some (.ref el), none, none, none, none] ∧ Fr Wp.nX H H' ∧ DrawAt P w H' d m3 ∧ m3 ≤ m + 50 ∧ H' nl = some (.lst (zs.map V.str)) ∧ H' fl = some (.dK []) ∧ RefN H H' rf zs ch' ∧ H' el = some (.lst (es.map V.str)) ∧ es.Nodup ∧ es ≠ [] ∧ (∀ e ∈ es, e ∈ zs), ?_, fun σ' HG hmG => ?_⟩
          · refine ⟨_, rfl, rl2, rfl, ⟨_, SqL.of hrlF⟩, fun D hDn => ?_⟩
            refine lc_it (walk_list (xs := ro.map V.str)) (fun j H' => ∃ acc : List Str, (∀ y ∈ acc, y ∈ ro) ∧ acc.length ≤ j ∧ Fr Wp.nX HF H' ∧ ∃ mj : Int, DrawAt P w H' d mj ∧ mj ≤ m2 + 3 + j ∧ H' D = some (.lst (acc.map V.str))) ⟨[], (fun y h => by cases h), Nat.le_refl _, Fr.of (same_new hDn), m2 + 1 + 1 + 1, hDF.same (same_new hDn), by omega, upd_same⟩ (fun j H' _ ⟨_, _, _, f, _⟩ => SqL.of (f _ _ hrlF (nX_lst _))) ?_ ?_
            · rintro j v H2 H1 hj ⟨acc, hacc, hal, f1, mj, hD1, hmj, hDl⟩ ⟨rfl, ev⟩
              rw [List.length_map] at hj
              rw [List.getElem?_map, List.getElem?_eq_getElem hj] at ev
              cases ev
              refine ⟨rfl, _, rfl, d, 4, mj, rfl, hD1, by omega, by decide, by decide, fun H3 k3 f3 hD3 k30 k31 => ⟨k3, 0, rfl, rfl, _, rfl, ?_⟩⟩
              have hDl3 := f3 _ _ hDl (nX_lst _)
              have fF3 := f1.trans f3
              by_cases h0 : 0 < k3
              · refine iteT' (decide_eq_true h0) ⟨_, rfl, _, hDl3, by rw [List.length_map, sizeLine_eq]; omega, acc ++ [ro[j]], fun y hy => ?_, by rw [List.length_append]; show _ + 1 ≤ _; omega, Fr.upF fF3 (Fh.of (Fr.of (Same.refl _)) hDn), mj + 1, hD3.up (fun φ e => by rw [hDl3] at e; cases e), by omega, by rw [upd_same, List.map_append]; rfl⟩
                rcases List.mem_append.mp hy with h | h
                · exact hacc y h
                · rw [List.mem_singleton] at h
                  subst h
                  exact List.getElem_mem _
              · exact iteF' (by simpa using h0) ⟨acc, hacc, by omega, fF3, mj + 1, hD3, by omega, hDl3⟩
            · rintro H1 ⟨acc, hacc, hal, f1, mj, hD1, hmj, hDl⟩
              rw [List.length_map] at hal hmj
              have hrl1 := f1 _ _ hrlF (nX_lst _)
              refine ⟨_, rfl, rl2, _, _, .str z0, rfl, rfl, SqL.of hrl1, atI_nat (j := 0) (by rw [List.getElem?_map, hro]; rfl), _, rfl, by show 2 ≤ sizeLine; decide, fun l2 hl2 => ?_⟩
              have s2 := same_new (o := .lst [.str z0, .str mo]) hl2
              refine ⟨D, l2, _, _, rfl, rfl, s2 _ _ hDl, upd_same, by rw [List.length_map, sizeLine_eq]; show _ + 2 ≤ _; omega, fun l3 hl3 => ?_⟩
              have s3 := same_new (o := .lst (acc.map V.str ++ [.str z0, .str mo])) hl3
              have el3 : acc.map V.str ++ [V.str z0, .str mo] = (acc ++ [z0, mo]).map V.str := by rw [List.map_append]; rfl
              refine ⟨l3, acc ++ [z0, mo], rfl, .inl (by rw [← el3]; exact SqL.of upd_same), by rw [List.length_append]; show _ + 2 < 64; omega, fun st hst => ?_⟩
              have s4 := same_new (o := SetS P w st (metS [] (acc ++ [z0, mo]))) hst
              refine ⟨st, _, rfl, upd_same, ?_, fun es el hperm hsort hel => ?_⟩
              · have := metS_len (acc ++ [z0, mo]) []
                rw [List.length_append] at this
                simp at this
                omega
              have s5 := same_new (o := .lst (es.map V.str)) hel
              have s15 := ((s2.trans s3).trans s4).trans s5
              have fF1 := f1.trans (Fr.of s15)
              have mem : ∀ y, y ∈ es ↔ y ∈ acc ++ [z0, mo] := fun y => by rw [hperm.mem_iff, metS_mem]; simp
              refine ⟨el, es, mj, rfl, f0F.trans fF1, hD1.same s15, by omega, fF1 _ _ hnlF (nX_lst _), fF1 _ _ hflF (nX_dK _), hRF.fr fF1 nX_lst nX_dK, upd_same, hperm.nodup_iff.mpr (metS_nodup _ _ .nil), fun h => ?_, fun e he => ?_⟩
              · have := (mem z0).mpr (by simp)
                rw [h] at this
                cases this
              · rcases List.mem_append.mp ((mem e).mp he) with h | h
                · exact romem e (hacc e h)
                · simp at h
                  rcases h with rfl | rfl
                  · exact hz0z
                  · exact hmoz
          · obtain ⟨el, es, m3, rfl, fG, hDG, hm3, hnlG, hflG, hRG, helG, esnd, esne, essub⟩ := hmG
            refine ⟨fun σ' H' => ∃ (lys : List Str) (fdx : Str → Fd) (m4 : Int) (a9 a16 a17 : Option V), σ' = [some (.ref d), some (.int 8), some (.ref l0), some (.ref nl), some (.ref fl), some (.ref rl2), some (.int (mn : Nat)), some (.int od), some (.ref rf), a9, a10, a11, some (.str lf), some (.str mo), some (.ref el), none, a16, a17, none] ∧ Fr Wp.nX H H' ∧ DrawAt P w H' d m4 ∧ m4 ≤ m + 400 ∧ H' el = some (.lst (es.map V.str)) ∧ lys.Perm zs ∧ FTab H' fl ⟨lys, fdx, es, false⟩ ∧ (∀ z ∈ lys, (fdx z).refs = so (ch' z) ∧ Tk (fdx z).hold ∧ (∀ t ∈ (fdx z).keeps, Tk t) ∧ (fdx z).keeps.length = mn) ∧ ∀ e ∈ es, e ∈ lys → (fdx e).own = false, ?_, fun σ' HI hmI => ?_⟩
            · refine ⟨_, rfl, _, rfl, d, nl, zs, m3, rfl, hDG, by omega, SqL.of hnlG, by omega, nm, fun HH lp lys fH hDH hperm hlp => ?_⟩
              have lynd : lys.Nodup := hperm.nodup_iff.mpr nd
              have lylen : lys.length = zs.length := hperm.length_eq
              have lysub : ∀ z ∈ lys, z ∈ zs := fun z hz => hperm.mem_iff.mp hz
              refine ⟨lp, rfl, ⟨_, SqL.of hlp⟩, ?_⟩
              refine for_it (walk_list (xs := lys.map V.str)) (fun i σ' H' => ∃ (fdx : Str → Fd) (m4 : Int) (a9 a16 a17 : Option V), σ' = [some (.ref d), some (.int 8), some (.ref l0), some (.ref nl), some (.ref fl), some (.ref rl2), some (.int (mn : Nat)), some (.int od), some (.ref rf), a9, a10, a11, some (.str lf), some (.str mo), some (.ref el), none, a16, a17, none] ∧ Fr Wp.nX H H' ∧ DrawAt P w H' d m4 ∧ m4 ≤ m + 58 + 21 * (i : Int) ∧ H' el = some (.lst (es.map V.str)) ∧ H' lp = some (.lst (lys.map V.str)) ∧ RefN H H' rf zs ch' ∧ FTab H' fl ⟨lys.take i, fdx, es, false⟩ ∧ (∀ z ∈ lys.take i, (fdx z).refs = so (ch' z) ∧ Tk (fdx z).hold ∧ (∀ t ∈ (fdx z).keeps, Tk t) ∧ (fdx z).keeps.length = mn) ∧ ∀ e ∈ es, e ∈ lys.take i → (fdx e).own = false) ⟨fun _ => ⟨false, [], none, []⟩, m3 + zs.length, none, none, none, rfl, fG.trans fH, hDH, by omega, fH _ _ helG (nX_lst _), hlp, hRG.fr fH nX_lst nX_dK, FTab.nil (fH _ _ hflG (nX_dK _)), (fun z h => by cases h), (fun e _ h => by cases h)⟩ (fun i σ' H' _ h => ?_) ?_ ?_
              · obtain ⟨_, _, _, _, _, _, _, _, _, _, h, _⟩ := h
                exact SqL.of h
              · rintro i v σ' H3 H2 hi ⟨fdx, m4, a9, a16, a17, rfl, f2, hD2, hm4, hel2, hlp2, hR2, hT2, hfd, hown⟩ ⟨rfl, ev⟩
                rw [List.length_map] at hi
                have ey : lys[i]? = some lys[i] := List.getElem?_eq_getElem hi
                rw [List.getElem?_map, ey] at ev
                cases ev
                generalize lys[i] = y at ey
                have hyl : y ∈ lys := List.mem_of_getElem? ey
                have hyz := lysub y hyl
                have ntk : y ∉ lys.take i := not_take lynd ey
                refine ⟨fun σ' H' => ∃ (o : Bool) (m5 : Int), σ' = [some (.ref d), some (.int 8), some (.ref l0), some (.ref nl), some (.ref fl), some (.ref rl2), some (.int (mn : Nat)), some (.int od), some (.ref rf), some (.str y), a10, a11, some (.str lf), some (.str mo), some (.ref el), none, some (.str (nmv o)), a17, none] ∧ Fr Wp.nX H2 H' ∧ DrawAt P w H' d m5 ∧ m5 ≤ m4 + 1 ∧ (y ∈ es → o = false), ?_, fun σ' H4 hm4' => ?_⟩
                · refine ⟨_, rfl, _, rfl, el, _, rfl, .inl (SqL.of hel2), rfl, by simp [flatV], _, rfl, ?_⟩
                  by_cases he : y ∈ es
                  · refine iteT' (by show inV (.str y) (es.map V.str) = true; rw [inV_str]; exact decide_eq_true he) ?_
                    exact iteT ⟨false, m4, rfl, .refl _, hD2, by omega, fun _ => rfl⟩
                  · refine iteF' (by show ¬ inV (.str y) (es.map V.str) = true; rw [inV_str, decide_eq_false he]; decide) ?_
                    refine ⟨_, rfl, _, rfl, d, od, m4, rfl, hD2, by omega, hod0, by omega, fun H4 k4 f4 hD4 k40 k41 => ⟨rfl, _, rfl, ?_⟩⟩
                    by_cases h0 : k4 = 0
                    · exact iteT' (by rw [h0]; rfl) ⟨false, m4 + 1, rfl, f4, hD4, by omega, fun _ => rfl⟩
                    · exact iteF' (by simpa using h0) ⟨true, m4 + 1, rfl, f4, hD4, by omega, fun h => absurd h he⟩
                · obtain ⟨o, m5, rfl, f4, hD4, hm5, hoe⟩ := hm4'
                  have f04 := f2.trans f4
                  have hel4 := f4 _ _ hel2 (nX_lst _)
                  have hlp4 := f4 _ _ hlp2 (nX_lst _)
                  have hR4 := hR2.fr f4 nX_lst nX_dK
                  have hT4 := hT2.fr f4 nX_tup nX_dK
                  refine ⟨_, rfl, (mn : Int), rfl, by omega, by omega, fun D hDn => ?_⟩
                  refine lc_it (walk_range (lo := 0) (n := (mn : Int).toNat)) (fun j H' => ∃ (ks : List (Option Int)) (mj : Int), ks.length = j ∧ (∀ t ∈ ks, Tk t) ∧ Fr Wp.nX H4 H' ∧ DrawAt P w H' d mj ∧ mj ≤ m5 + 4 * (j : Int) ∧ H' D = some (.lst (ks.map vt))) ⟨[], m5, rfl, (fun t h => by cases h), Fr.of (same_new hDn), hD4.same (same_new hDn), by omega, upd_same⟩ (fun _ _ _ _ => trivial) ?_ ?_
                  · rintro j v H6 H5 hj ⟨ks, mj, hkl, hkt, f5, hD5, hmj, hDl⟩ ⟨rfl, rfl⟩
                    refine ⟨rfl, _, rfl, d, mj, rfl, hD5, by omega, fun H7 t f7 hD7 ht => ?_⟩
                    have hDl7 := f7 _ _ hDl (nX_lst _)
                    refine ⟨_, hDl7, by rw [List.length_map, sizeLine_eq]; omega, ks ++ [t], mj + 4, by rw [List.length_append, hkl]; rfl, fun u hu => ?_, Fr.upF (f5.trans f7) (Fh.of (Fr.of (Same.refl _)) hDn), hD7.up (fun φ e => by rw [hDl7] at e; cases e), by omega, by rw [upd_same, List.map_append]; rfl⟩
                    rcases List.mem_append.mp hu with h | h
                    · exact hkt u h
                    · rw [List.mem_singleton] at h
                      subst h
                      exact ht
                  · rintro H5 ⟨ks, mj, hkl, hkt, f5, hD5, hmj, hDl⟩
                    have hkl' : ks.length = mn := by omega
                    refine ⟨D, ks.map vt, rfl, .inl ⟨SqL.of hDl, fun tp htp => ?_⟩⟩
                    have s6 := same_new (o := .tup (ks.map vt)) htp
                    have htp6 : (upd H5 tp (.tup (ks.map vt))) tp = some (.tup (ks.map vt)) := upd_same
                    have hD6 := hD5.same s6
                    have f46 : Fr Wp.nX H4 (upd H5 tp (.tup (ks.map vt))) := f5.trans (Fr.of s6)
                    show tSeq _ _ _ _ (upd H5 tp (.tup (ks.map vt)))
                    generalize upd H5 tp (.tup (ks.map vt)) = H6 at htp6 hD6 f46
                    have hR6 := hR4.fr f46 nX_lst nX_dK
                    have hT6 := hT4.fr f46 nX_tup nX_dK
                    obtain ⟨p, l, g1, hp, hl⟩ := hR6.at.get hyz
                    have chn : ∀ u ∈ ch' y, Nm u := fun u hu => nm u (rg.cl y hyz u hu)
                    have chl : (ch' y).length ≤ 8 := nodup_few chn (rg.rn y hyz)
                    refine ⟨_, rfl, _, rfl, _, rfl, rf, .ref p, rfl, g1, p, _, _, .ref l, rfl, rfl, SqL.of hp, atI_nat (j := 1) rfl, l, ch' y, rfl, SqL.of hl, by omega, fun ys q hpm hsort hq => ?_⟩
                    obtain rfl : ys = so (ch' y) := so_eq chn (rg.rn y hyz) hpm hsort
                    have s7 := same_new (o := .lst ((so (ch' y)).map V.str)) hq
                    refine ⟨q, _, rfl, .inl ⟨SqL.of upd_same, fun tq htq => ?_⟩⟩
                    have s8 := s7.trans (same_new (o := .tup ((so (ch' y)).map V.str)) htq)
                    have htq8 : (upd (upd H6 q (.lst ((so (ch' y)).map V.str))) tq (.tup ((so (ch' y)).map V.str))) tq = some (.tup ((so (ch' y)).map V.str)) := upd_same
                    generalize upd (upd H6 q (.lst ((so (ch' y)).map V.str))) tq (.tup ((so (ch' y)).map V.str)) = H8 at s8 htq8
                    refine ⟨_, rfl, d, mj, rfl, hD6.same s8, by omega, fun H9 t f9 hD9 ht => ?_⟩
                    refine ⟨_, rfl, by show 4 ≤ sizeLine; decide, fun tt htt => ?_⟩
                    have s10 := same_new (o := .tup [.str (nmv o), .ref tq, vt t, .ref tp]) htt
                    have htt10 : (upd H9 tt (.tup [.str (nmv o), .ref tq, vt t, .ref tp])) tt = some (.tup [.str (nmv o), .ref tq, vt t, .ref tp]) := upd_same
                    have f6a : Fr Wp.nX H6 (upd H9 tt (.tup [.str (nmv o), .ref tq, vt t, .ref tp])) := (Fr.of s8).trans (f9.trans (Fr.of s10))
                    have htqa := s10 _ _ (f9 _ _ htq8 (nX_tup _))
                    have hDa := hD9.same s10
                    generalize upd H9 tt (.tup [.str (nmv o), .ref tq, vt t, .ref tp]) = Ha at htt10 f6a htqa hDa
                    have htpa := f6a _ _ htp6 (nX_tup _)
                    have f4a := f46.trans f6a
                    have hela := f4a _ _ hel4 (nX_lst _)
                    have hlpa := f4a _ _ hlp4 (nX_lst _)
                    have hRa := hR4.fr f4a nX_lst nX_dK
                    have hTa := hT4.fr f4a nX_tup nX_dK
                    obtain ⟨kvs, hfla, hkvl, hTb⟩ := hTa.put ntk (F := ⟨o, so (ch' y), t, ks⟩) htt10 htqa htpa
                    have hfl_ne : ∀ (b : Addr) xs, Ha b = some (.lst xs) → b ≠ fl := fun b xs hb e => by rw [e, hfla] at hb; cases hb
                    refine ⟨_, rfl, _, rfl, fl, _, rfl, DPut.k (k := Sum.inr y) hfla (by rw [hkvl, List.length_take, sizeLine_eq]; omega), ?_⟩
                    have etake : lys.take (i + 1) = lys.take i ++ [y] := by rw [List.take_succ, ey]; rfl
                    refine ⟨_, mj + 4, _, _, _, rfl, Fr.upF (f04.trans f4a) hfl0, hDa.up (fun φ e => by rw [hfla] at e; cases e), by omega, ?_, ?_, ?_, by rw [etake]; exact hTb, fun z hz => ?_, fun e he hz => ?_⟩
                    · rw [upd_ne (hfl_ne _ _ hela)]
                      exact hela
                    · rw [upd_ne (hfl_ne _ _ hlpa)]
                      exact hlpa
                    · exact hRa.put hfla (by rw [hkvl, List.length_take]; omega)
                    · show (if z = y then (⟨o, so (ch' y), t, ks⟩ : Fd) else fdx z).refs = _ ∧ Tk (if z = y then (⟨o, so (ch' y), t, ks⟩ : Fd) else fdx z).hold ∧ (∀ u ∈ (if z = y then (⟨o, so (ch' y), t, ks⟩ : Fd) else fdx z).keeps, Tk u) ∧ (if z = y then (⟨o, so (ch' y), t, ks⟩ : Fd) else fdx z).keeps.length = mn
                      by_cases e : z = y
                      · subst e
                        rw [if_pos rfl]
                        exact ⟨rfl, ht, hkt, hkl'⟩
                      · rw [if_neg e]
                        rw [etake] at hz
                        rcases List.mem_append.mp hz with h | h
                        · exact hfd z h
                        · exact absurd (List.mem_singleton.mp h) e
                    · show (if e = y then (⟨o, so (ch' y), t, ks⟩ : Fd) else fdx e).own = false
                      by_cases e1 : e = y
                      · subst e1
                        rw [if_pos rfl]
                        exact hoe he
                      · rw [if_neg e1]
                        rw [etake] at hz
                        rcases List.mem_append.mp hz with h | h
                        · exact hown e he h
                        · exact absurd (List.mem_singleton.mp h) e1
              · rintro σ' H2 ⟨fdx, m4, a9, a16, a17, rfl, f2, hD2, hm4, hel2, hlp2, hR2, hT2, hfd, hown⟩
                rw [List.length_map] at hm4
                rw [List.length_map, List.take_length] at hT2 hfd hown
                exact ⟨lys, fdx, m4, a9, a16, a17, rfl, f2, hD2, by omega, hel2, hperm, hT2, hfd, hown⟩
            · obtain ⟨lys, fdx, m4, a9, a16, a17, rfl, f2, hD2, hm4, hel2, hperm, hT2, hfd, hown⟩ := hmI
              refine fun p hp => ?_
              have s3 := same_new (o := .dK []) hp
              have hp3 : (upd HI p (.dK [])) p = some (.dK []) := upd_same
              have hD3 := hD2.same s3
              have hel3 := s3 _ _ hel2
              have hT3 := hT2.same s3
              generalize upd HI p (.dK []) = H3 at s3 hp3 hD3 hel3 hT3
              refine ⟨_, rfl, _, rfl, el, es.map V.str, rfl, .inl ⟨SqL.of hel3, fun et het => ?_⟩⟩
              have s4 := same_new (o := .tup (es.map V.str)) het
              have het4 : (upd H3 et (.tup (es.map V.str))) et = some (.tup (es.map V.str)) := upd_same
              generalize upd H3 et (.tup (es.map V.str)) = H4 at s4 het4
              refine ⟨_, rfl, by show 2 ≤ sizeLine; decide, fun cl hcl => ?_⟩
              have s5 := s4.trans (same_new (o := .lst [.str "own", .str "whole"]) hcl)
              have het5 := (same_new (o := .lst [.str "own", .str "whole"]) hcl) _ _ het4
              refine ⟨d, cl, _, m4, rfl, hD3.same s5, by omega, SqL.of upd_same, (fun h => nomatch h), by show 2 < 1000000; decide, fun H9 i9 v9 f9 hD9 e9 => ?_⟩
              have hown9 : ∃ ow : Bool, v9 = .str (cnv ow) := by
                have hm := List.mem_of_getElem? e9
                simp only [List.mem_cons, List.not_mem_nil, or_false] at hm
                rcases hm with rfl | rfl
                · exact ⟨true, rfl⟩
                · exact ⟨false, rfl⟩
              obtain ⟨ow, rfl⟩ := hown9
              have f39 : Fr Wp.nX H3 H9 := (Fr.of s5).trans f9
              have hp9 := f39 _ _ hp3 (nX_dK _)
              have het9 := f9 _ _ het5 (nX_tup _)
              have hT9 := hT3.fr f39 nX_tup nX_dK
              have f09 : Fr Wp.nX H H9 := f2.trans ((Fr.of s3).trans f39)
              have hpI : Fh H p := Fh.of f2 hp
              refine ⟨hp9, [((Sum.inr "files" : Key), V.ref fl), (Sum.inr "entries", V.ref et), (Sum.inr "counts", V.str (cnv ow))], rfl, by show 3 ≤ 15; decide, ?_⟩
              refine q _ p ⟨lys, fdx, es, ow⟩ (m4 + 1) (Fr.upF f09 hpI) (hD9.up (fun φ e => by rw [hp9] at e; cases e)) (by omega) ⟨fl, et, upd_same, ?_, ?_⟩ (Rg.site nm zlen.1 nd hperm rg hfd hmn esnd esne fun e he => ⟨essub e he, hown e he (hperm.mem_iff.mpr (essub e he))⟩)
              · have hT9' : FTab H9 fl ⟨lys, fdx, es, ow⟩ := hT9
                exact hT9'.putD hp9 (by show 1 ≤ lys.length; rw [hperm.length_eq]; exact zlen.1)
              · rw [upd_ne (fun e => by rw [e, hp9] at het9; cases het9)]
                exact het9

end
end Wp

set_option Elab.async false
set_option linter.all false
set_option maxRecDepth 100000
set_option maxHeartbeats 2000000
namespace Wp
open PySem PySem.Spec PyProof.Rows L2
section
variable {P : Program} {w : World} {K : PySem.W.Frag} {mg : Str → Option Value} {base : Heap} {c : CA}

/-- law -/
theorem w_law {f : Addr} {fd : FuncData} {ks : List (Str × V)} {dvs : List V} (F : FunD K "law" "law" (defArgs s_law) (defBody s_law) (defScope s_law) dvs ks f fd) (T : Txt K w mg c) (c_l_begun : C8.Cal P w K mg base 1 "_law_begun" (sp_begun P w K) []) (c_l_model : C8.Cal P w K mg base 5 "_law_model" (sp_lmodel P w) []) (c_l_pick : C8.Cal P w K mg base 3 "_law_pick" (sp_pick P w K) []) (c_l_age : C8.Cal P w K mg base 1 "_law_age" (sp_age) []) (c_l_take : C8.Cal P w K mg base 2 "_law_take" (sp_take P w) []) (c_l_right : C8.Cal P w K mg base 12 "_law_right" (sp_lright c) []) : FnOk P w K mg base C8.CX0 13 f fd ["_law_script"] (sp_law K) := by
  refine F.ok sc_law (fun vs H Q E h => ?_) (fun cdv A outer s H vs Q E hr h => ?_)
  · obtain ⟨a, ns, rfl, hS, hns, q⟩ := h
    rfl
  · obtain ⟨a, ns, rfl, hS, hns, q⟩ := h
    have hu := hu_of hr
    have hu2 := hu2_of hr
    refine ⟨_, PSs.nox ((pss_cons (ps_set (i := 1) sc_law.nd rfl (Or.inl rfl) (C8.pe_c c_l_begun hr (by decide) rfl (pa_cons (pv 0) pa_nil)))
      (pss_cons (ps_for PassesOwn.never rfl (pi_range1 rfl T.b_range (pa_cons (pe_op op_add pe_int (pe_callB (call_min2 rfl) rfl T.b_min (by decide +kernel) (pa_cons (pe_callB call_len_seq rfl T.b_len (by decide +kernel) (pa_cons (pv 0) pa_nil)) (pa_cons pe_int pa_nil)))) pa_nil)) (pg_name (i := 2) sc_law.nd rfl (Or.inl rfl))
        (pss_cons (ps_set (i := 3) sc_law.nd rfl (Or.inl rfl) (C8.pe_c c_l_model hr (by decide) rfl (pa_cons (pv 1) (pa_cons pe_int pa_nil))))
        (pss_cons (ps_set (i := 4) sc_law.nd rfl (Or.inl rfl) (C8.pe_c c_l_pick hr (by decide) rfl (pa_cons (pv 1) (pa_cons (pe_callTy call_list_of rfl T.b_list (by decide +kernel) (pa_cons (pe_dget hu (pv 3) pe_str (fun _ _ => rfl)) pa_nil)) pa_nil))))
        (pss_cons (ps_set (i := 5) sc_law.nd rfl (Or.inl rfl) (C8.pe_c c_l_age hr (by decide) rfl (pa_cons (pv 3) (pa_cons (pv 4) pa_nil))))
        (pss_cons (ps_set (i := 6) sc_law.nd rfl (Or.inl rfl) (pe_lst (pa_cons pe_int (pa_cons pe_int (pa_cons (C8.pe_c c_l_take hr (by decide) rfl (pa_cons (pv 1) (pa_cons pe_int pa_nil))) pa_nil)))))
        (C8.pss_cut (ps_if (pt_cmpR op_notN (pv 5) pe_non (nomark _)) (pss_one (ps_set (i := 6) sc_law.nd rfl (Or.inl rfl) (pe_op op_cat (pv 6) (pe_lst (pa_cons (pv 5) (pa_cons (pe_op op_add (pv 5) pe_int) (pa_cons (C8.pe_c c_l_take hr (by decide) rfl (pa_cons (pv 1) (pa_cons (pe_op op_add (pv 5) pe_int) pa_nil))) (pa_cons (pe_op op_add (pe_op op_add (pv 5) pe_int) (C8.pe_c c_l_take hr (by decide) rfl (pa_cons (pv 1) (pa_cons pe_int pa_nil)))) pa_nil)))))))) pss_nil)
        (pss_one (ps_for PassesOwn.never rfl (pi_list (pv 6)) (pg_name (i := 7) sc_law.nd rfl (Or.inl rfl))
          (pss_one (ps_if (pt_not (pt_val (C8.pe_c c_l_right hr (by decide) rfl (pa_cons (pv 1) (pa_cons (pv 3) (pa_cons (pv 4) (pa_cons (pv 7) pa_nil))))))) (pss_one (ps_ret pe_bl)) pss_nil))))))))))
      (pss_one (ps_ret pe_bl))))), ?_⟩
    refine ⟨_, rfl, a, ns, rfl, hS, by omega, fun H1 d s1 hD1 => ?_⟩
    have hS1 := s1.seq hS
    refine ⟨_, rfl, a, _, rfl, .inl hS1, _, 10, rfl, 2, _, rfl, rfl, _, rfl, ?_⟩
    rw [List.length_map]
    generalize hnn : (2 + if (10 : Int) < (ns.length : Int) then 10 else (ns.length : Int)) = nn
    have hn0 : 0 ≤ nn ∧ nn ≤ 12 := by
      rw [← hnn]
      split <;> omega
    refine ⟨by omega, by omega, ?_⟩
    refine for_it (walk_range (lo := 0) (n := nn.toNat)) (fun i σ' H' => ∃ (m1 : Int) (a2 a3 a4 a5 a6 a7 : Option V), σ' = [some (.ref a), some (.ref d), a2, a3, a4, a5, a6, a7] ∧ DrawAt P w H' d m1 ∧ m1 ≤ 2000 * (i : Int)) ⟨0, none, none, none, none, none, none, rfl, hD1, by omega⟩ (fun _ _ _ _ _ => trivial) ?_ ?_
    · rintro i v σ' H3 H2 hi ⟨m1, a2, a3, a4, a5, a6, a7, rfl, hD2, hm1⟩ ⟨rfl, rfl⟩
      refine ⟨_, rfl, d, m1, rfl, hD2, by omega, fun H4 mo S m4 f4 hD4 hm4 hM4 ok => ?_⟩
      obtain ⟨fl, el, hmo, hT, hel⟩ := id hM4
      have l8 : S.ns.length ≤ 8 := nodup_few ok.g.nm ok.g.nd
      have es8 : S.es.length ≤ 8 := nodup_few (fun z hz => ok.g.nm z (ok.pl z hz).1) ok.nd
      refine ⟨_, rfl, _, rfl, mo, .ref el, rfl, DGet.k (k := Sum.inr "entries") hmo, el, S.es.map V.str, rfl, .inr (SqT.of hel), fun l hl => ?_⟩
      have s5 := same_new (o := .lst (S.es.map V.str)) hl
      refine ⟨d, l, _, m4, rfl, hD4.same s5, by omega, SqL.of upd_same, (fun h => ok.ne (List.map_eq_nil_iff.mp h)), by rw [List.length_map]; omega, fun H6 i6 v6 f6 hD6 e6 => ?_⟩
      rw [List.getElem?_map] at e6
      obtain ⟨x, ex, rfl⟩ := Option.map_eq_some_iff.mp e6
      have hx : x ∈ S.es := List.mem_of_getElem? ex
      have hxn := (ok.pl x hx).1
      have fok := ok.g.ok x hxn
      have hM6 := (hM4.same s5).fr f6 nX_tup nX_dK
      refine ⟨_, rfl, _, rfl, mo, x, S, rfl, hM6, hxn, fok.few, fun H7 o s7 ha => ?_⟩
      refine ⟨_, rfl, d, 50, m4 + 1, rfl, hD6.same s7, by omega, by decide, by decide, fun H8 k f8 hD8 k0 k1 => ⟨by show 3 ≤ sizeLine; decide, fun ls hls => ?_⟩⟩
      have s9 := same_new (o := .lst [.int 0, .int 1, .int k]) hls
      have hls9 : (upd H8 ls (.lst [.int 0, .int 1, .int k])) ls = some (.lst ([0, 1, k].map V.int)) := upd_same
      have hM9 := ((hM6.same s7).fr f8 nX_tup nX_dK).same s9
      have hD9 := hD8.same s9
      generalize upd H8 ls (.lst [.int 0, .int 1, .int k]) = H9 at hls9 hM9 hD9
      have hob : ∀ a, o = some a → 0 ≤ a ∧ a ≤ 4000 := fun a e => age_le fok.k fok.few ha e
      refine ⟨fun σ' H' => ∃ (lt : Addr) (ts : List Int) (m5 : Int), σ' = [some (.ref a), some (.ref d), some (.int ((0 : Int) + (i : Nat))), some (.ref mo), some (.str x), some (vt o), some (.ref lt), a7] ∧ DrawAt P w H' d m5 ∧ m5 ≤ m4 + 8 ∧ ModelAt H' mo S ∧ H' lt = some (.lst (ts.map V.int)) ∧ ∀ t ∈ ts, 0 ≤ t ∧ t ≤ 20000, ?_, fun σ' HA hmA => ?_⟩
      · refine ⟨_, rfl, rfl, _, rfl, ?_⟩
        cases o with
        | none => exact iteF' (by show ¬ (!decide (V.non = V.non)) = true; decide) ⟨ls, [0, 1, k], m4 + 1 + 1, rfl, hD9, by omega, hM9, hls9, fun t ht => by simp at ht; omega⟩
        | some b =>
          obtain ⟨b0, b1⟩ := hob b rfl
          refine iteT' rfl ?_
          refine ⟨_, rfl, _, rfl, _, rfl, b, 1, rfl, rfl, _, rfl, _, rfl, b, 1, rfl, rfl, d, b + 1, m4 + 1 + 1, rfl, hD9, by omega, by omega, by omega, fun HB k2 fB hDB k20 k21 => ?_⟩
          refine ⟨_, rfl, b, 1, rfl, rfl, _, rfl, d, 9, m4 + 1 + 1 + 1, rfl, hDB, by omega, by decide, by decide, fun HC k3 fC hDC k30 k31 => ?_⟩
          refine ⟨b + 1, k3, rfl, rfl, by show 4 ≤ sizeLine; decide, fun l4 hl4 => ?_⟩
          have sD := same_new (o := .lst [.int b, .int (b + 1), .int k2, .int (b + 1 + k3)]) hl4
          have hlsC := fC _ _ (fB _ _ hls9 (nX_lst _)) (nX_lst _)
          refine ⟨ls, l4, _, _, rfl, rfl, sD _ _ hlsC, upd_same, by show 7 ≤ sizeLine; decide, fun l5 hl5 => ?_⟩
          have sE := sD.trans (same_new (o := .lst ([0, 1, k].map V.int ++ [.int b, .int (b + 1), .int k2, .int (b + 1 + k3)])) hl5)
          refine ⟨l5, [0, 1, k, b, b + 1, k2, b + 1 + k3], m4 + 1 + 1 + 1 + 1, rfl, hDC.same sE, by omega, ((hM9.fr fB nX_tup nX_dK).fr fC nX_tup nX_dK).same sE, upd_same, fun t ht => ?_⟩
          simp only [List.mem_cons, List.not_mem_nil, or_false] at ht
          rcases ht with rfl | rfl | rfl | rfl | rfl | rfl | rfl <;> omega
      · obtain ⟨lt, ts, m5, rfl, hDA, hm5, hMA, hltA, hts⟩ := hmA
        refine ⟨_, rfl, lt, rfl, ⟨_, SqL.of hltA⟩, ?_⟩
        refine for_it (walk_list (xs := ts.map V.int)) (fun j σ' H' => ∃ a7 : Option V, σ' = [some (.ref a), some (.ref d), some (.int ((0 : Int) + (i : Nat))), some (.ref mo), some (.str x), some (vt o), some (.ref lt), a7] ∧ DrawAt P w H' d m5 ∧ ModelAt H' mo S ∧ H' lt = some (.lst (ts.map V.int))) ⟨a7, rfl, hDA, hMA, hltA⟩ (fun j σ' H' _ h => ?_) ?_ ?_
        · obtain ⟨_, _, _, _, h⟩ := h
          exact SqL.of h
        · rintro j v σ' HC HB hj ⟨a7, rfl, hDB, hMB, hltB⟩ ⟨rfl, ev⟩
          rw [List.length_map] at hj
          rw [List.getElem?_map, List.getElem?_eq_getElem hj] at ev
          cases ev
          obtain ⟨t0, t1⟩ := hts ts[j] (List.getElem_mem hj)
          generalize ts[j] = t at t0 t1
          refine ⟨_, rfl, _, rfl, _, rfl, _, rfl, d, mo, x, S, t, rfl, hMB, ok, hx, t0, t1, first_zero S x, fun o' ha' => right_math t0 fok.k o' ha', fun HD fD => ⟨_, rfl, ?_⟩⟩
          refine iteF' (by decide) ?_
          exact ⟨_, rfl, hDB.fr fD (fun φ dx fs e => nomatch e), hMB.fr fD nI_tup nI_dK, fD _ _ hltB (nI_lst _)⟩
        · rintro σ' HB ⟨a7, rfl, hDB, hMB, hltB⟩
          refine ⟨m5, _, _, _, _, _, _, rfl, hDB, ?_⟩
          omega
    · rintro σ' H2 _
      exact q H2

end
end Wp

set_option Elab.async false
set_option linter.all false
set_option maxRecDepth 100000
set_option maxHeartbeats 4000000
/-! each def keeps its promise -/
namespace Wp
open PySem PySem.Spec PyProof.Rows L2 He
section
variable {P : Program} {w : World} {K : PySem.W.Frag} {mg : Str → Option Value} {base : Heap}
theorem bn_is_number {f : Addr} {fd : FuncData} (F : FunD K "is_number" "is_number" (defArgs s_is_number) (defBody s_is_number) (defScope s_is_number) [] [] f fd) : Binds K fd ["value"] [] :=
  F.bindsN fun _ _ _ _ _ _ us hl => match us, hl with | [_], _ => rfl
theorem bn_is_name {f : Addr} {fd : FuncData} (F : FunD K "is_name" "is_name" (defArgs s_is_name) (defBody s_is_name) (defScope s_is_name) [] [] f fd) : Binds K fd ["value"] [] :=
  F.bindsN fun _ _ _ _ _ _ us hl => match us, hl with | [_], _ => rfl
theorem bn_is_list {f : Addr} {fd : FuncData} (F : FunD K "is_list" "is_list" (defArgs s_is_list) (defBody s_is_list) (defScope s_is_list) [] [] f fd) : Binds K fd ["value"] [] :=
  F.bindsN fun _ _ _ _ _ _ us hl => match us, hl with | [_], _ => rfl
theorem bn_is_ticks {f : Addr} {fd : FuncData} (F : FunD K "is_ticks" "is_ticks" (defArgs s_is_ticks) (defBody s_is_ticks) (defScope s_is_ticks) [] [] f fd) : Binds K fd ["value"] [] :=
  F.bindsN fun _ _ _ _ _ _ us hl => match us, hl with | [_], _ => rfl
theorem bn_are_names {f : Addr} {fd : FuncData} (F : FunD K "are_names" "are_names" (defArgs s_are_names) (defBody s_are_names) (defScope s_are_names) [] [] f fd) : Binds K fd ["value"] [] :=
  F.bindsN fun _ _ _ _ _ _ us hl => match us, hl with | [_], _ => rfl
theorem bn_File_init {f : Addr} {fd : FuncData} (F : FunD K "__init__" "File.__init__" (defArgs s_File_init) (defBody s_File_init) (defScope s_File_init) (DefP.dvs K dp_File_init) [] f fd) : Binds K fd ["self", "naming", "refers", "hold", "keeps"] [] := by
  obtain ⟨ds, d1, d2⟩ := F.binds1 (ps := ["self", "naming", "refers", "hold", "keeps"]) 5 3 (by simp [DefP.dvs, dp_File_init]) (by rfl) (fun _ _ _ _ _ _ _ us its hl hi => match us, its, hl, hi with | [_, _, _, _, _], [_, _, _], _, _ => ⟨_, rfl, rfl⟩)
  cases d1
  exact d2
theorem bn_File_naming {f : Addr} {fd : FuncData} (F : FunD K "naming" "File.naming" (defArgs s_File_naming) (defBody s_File_naming) (defScope s_File_naming) [] [] f fd) : Binds K fd ["self"] [] :=
  F.bindsN fun _ _ _ _ _ _ us hl => match us, hl with | [_], _ => rfl
theorem bn_File_refers {f : Addr} {fd : FuncData} (F : FunD K "refers" "File.refers" (defArgs s_File_refers) (defBody s_File_refers) (defScope s_File_refers) [] [] f fd) : Binds K fd ["self"] [] :=
  F.bindsN fun _ _ _ _ _ _ us hl => match us, hl with | [_], _ => rfl
theorem bn_File_hold {f : Addr} {fd : FuncData} (F : FunD K "hold" "File.hold" (defArgs s_File_hold) (defBody s_File_hold) (defScope s_File_hold) [] [] f fd) : Binds K fd ["self"] [] :=
  F.bindsN fun _ _ _ _ _ _ us hl => match us, hl with | [_], _ => rfl
theorem bn_File_keeps {f : Addr} {fd : FuncData} (F : FunD K "keeps" "File.keeps" (defArgs s_File_keeps) (defBody s_File_keeps) (defScope s_File_keeps) [] [] f fd) : Binds K fd ["self"] [] :=
  F.bindsN fun _ _ _ _ _ _ us hl => match us, hl with | [_], _ => rfl
theorem bn_all_below {f : Addr} {fd : FuncData} (F : FunD K "all_below" "all_below" (defArgs s_all_below) (defBody s_all_below) (defScope s_all_below) [] [] f fd) : Binds K fd ["files", "name"] [] :=
  F.bindsN fun _ _ _ _ _ _ us hl => match us, hl with | [_, _], _ => rfl
theorem bn_tree_below {f : Addr} {fd : FuncData} (F : FunD K "tree_below" "tree_below" (defArgs s_tree_below) (defBody s_tree_below) (defScope s_tree_below) [] [] f fd) : Binds K fd ["files", "entry"] [] :=
  F.bindsN fun _ _ _ _ _ _ us hl => match us, hl with | [_, _], _ => rfl
theorem bn_need_files {f : Addr} {fd : FuncData} (F : FunD K "need_files" "need_files" (defArgs s_need_files) (defBody s_need_files) (defScope s_need_files) [] [] f fd) : Binds K fd ["files"] [] :=
  F.bindsN fun _ _ _ _ _ _ us hl => match us, hl with | [_], _ => rfl
theorem bn_is_entries {f : Addr} {fd : FuncData} (F : FunD K "is_entries" "is_entries" (defArgs s_is_entries) (defBody s_is_entries) (defScope s_is_entries) [] [] f fd) : Binds K fd ["files", "value"] [] :=
  F.bindsN fun _ _ _ _ _ _ us hl => match us, hl with | [_, _], _ => rfl
theorem bn_Site_init {f : Addr} {fd : FuncData} (F : FunD K "__init__" "Site.__init__" (defArgs s_Site_init) (defBody s_Site_init) (defScope s_Site_init) (DefP.dvs K dp_Site_init) [] f fd) : Binds K fd ["self", "files", "entries", "counts"] [] := by
  obtain ⟨ds, d1, d2⟩ := F.binds1 (ps := ["self", "files", "entries", "counts"]) 4 1 (by simp [DefP.dvs, dp_Site_init]) (by rfl) (fun _ _ _ _ _ _ _ us its hl hi => match us, its, hl, hi with | [_, _, _, _], [_], _, _ => ⟨_, rfl, rfl⟩)
  cases d1
  exact d2
theorem bn_Site_entries {f : Addr} {fd : FuncData} (F : FunD K "entries" "Site.entries" (defArgs s_Site_entries) (defBody s_Site_entries) (defScope s_Site_entries) [] [] f fd) : Binds K fd ["self"] [] :=
  F.bindsN fun _ _ _ _ _ _ us hl => match us, hl with | [_], _ => rfl
theorem bn_Site_counts {f : Addr} {fd : FuncData} (F : FunD K "counts" "Site.counts" (defArgs s_Site_counts) (defBody s_Site_counts) (defScope s_Site_counts) [] [] f fd) : Binds K fd ["self"] [] :=
  F.bindsN fun _ _ _ _ _ _ us hl => match us, hl with | [_], _ => rfl
theorem bn_Site_caches {f : Addr} {fd : FuncData} (F : FunD K "caches" "Site.caches" (defArgs s_Site_caches) (defBody s_Site_caches) (defScope s_Site_caches) [] [] f fd) : Binds K fd ["self"] [] :=
  F.bindsN fun _ _ _ _ _ _ us hl => match us, hl with | [_], _ => rfl
theorem bn_Site_has {f : Addr} {fd : FuncData} (F : FunD K "__contains__" "Site.__contains__" (defArgs s_Site_has) (defBody s_Site_has) (defScope s_Site_has) [] [] f fd) : Binds K fd ["self", "name"] [] :=
  F.bindsN fun _ _ _ _ _ _ us hl => match us, hl with | [_, _], _ => rfl
theorem bn_Site_need_file {f : Addr} {fd : FuncData} (F : FunD K "need_file" "Site.need_file" (defArgs s_Site_need_file) (defBody s_Site_need_file) (defScope s_Site_need_file) [] [] f fd) : Binds K fd ["self", "name"] [] :=
  F.bindsN fun _ _ _ _ _ _ us hl => match us, hl with | [_, _], _ => rfl
theorem bn_Site_item {f : Addr} {fd : FuncData} (F : FunD K "__getitem__" "Site.__getitem__" (defArgs s_Site_item) (defBody s_Site_item) (defScope s_Site_item) [] [] f fd) : Binds K fd ["self", "name"] [] :=
  F.bindsN fun _ _ _ _ _ _ us hl => match us, hl with | [_, _], _ => rfl
theorem bn_Site_names {f : Addr} {fd : FuncData} (F : FunD K "names" "Site.names" (defArgs s_Site_names) (defBody s_Site_names) (defScope s_Site_names) [] [] f fd) : Binds K fd ["self"] [] :=
  F.bindsN fun _ _ _ _ _ _ us hl => match us, hl with | [_], _ => rfl
theorem bn_Site_need_names {f : Addr} {fd : FuncData} (F : FunD K "need_names" "Site.need_names" (defArgs s_Site_need_names) (defBody s_Site_need_names) (defScope s_Site_need_names) [] [] f fd) : Binds K fd ["self", "names"] [] :=
  F.bindsN fun _ _ _ _ _ _ us hl => match us, hl with | [_, _], _ => rfl
theorem bn_Site_closure {f : Addr} {fd : FuncData} (F : FunD K "closure" "Site.closure" (defArgs s_Site_closure) (defBody s_Site_closure) (defScope s_Site_closure) [] [] f fd) : Binds K fd ["self", "names"] [] :=
  F.bindsN fun _ _ _ _ _ _ us hl => match us, hl with | [_, _], _ => rfl
theorem bn_is_some_files {f : Addr} {fd : FuncData} (F : FunD K "is_some_files" "is_some_files" (defArgs s_is_some_files) (defBody s_is_some_files) (defScope s_is_some_files) [] [] f fd) : Binds K fd ["site", "value"] [] :=
  F.bindsN fun _ _ _ _ _ _ us hl => match us, hl with | [_, _], _ => rfl
theorem bn_made_kinds {f : Addr} {fd : FuncData} (F : FunD K "made_kinds" "made_kinds" (defArgs s_made_kinds) (defBody s_made_kinds) (defScope s_made_kinds) [] [] f fd) : Binds K fd ["site", "kinds"] [] :=
  F.bindsN fun _ _ _ _ _ _ us hl => match us, hl with | [_, _], _ => rfl
theorem bn_made_steps {f : Addr} {fd : FuncData} (F : FunD K "made_steps" "made_steps" (defArgs s_made_steps) (defBody s_made_steps) (defScope s_made_steps) [] [] f fd) : Binds K fd ["site", "steps"] [] :=
  F.bindsN fun _ _ _ _ _ _ us hl => match us, hl with | [_, _], _ => rfl
theorem bn_Editions_init {f : Addr} {fd : FuncData} (F : FunD K "__init__" "Editions.__init__" (defArgs s_Editions_init) (defBody s_Editions_init) (defScope s_Editions_init) (DefP.dvs K dp_Editions_init) [] f fd) : Binds K fd ["self", "site", "changes"] [] := by
  obtain ⟨ds, d1, d2⟩ := F.binds1 (ps := ["self", "site", "changes"]) 3 1 (by simp [DefP.dvs, dp_Editions_init]) (by rfl) (fun _ _ _ _ _ _ _ us its hl hi => match us, its, hl, hi with | [_, _, _], [_], _, _ => ⟨_, rfl, rfl⟩)
  cases d1
  exact d2
theorem bd_Editions_init {f : Addr} {fd : FuncData} (F : FunD K "__init__" "Editions.__init__" (defArgs s_Editions_init) (defBody s_Editions_init) (defScope s_Editions_init) (DefP.dvs K dp_Editions_init) [] f fd) : ∃ ds, Vals [.ref (caK K).e0] ds ∧ Binds K fd ["self", "site", "changes"] ds :=
  F.binds1 (ps := ["self", "site", "changes"]) 2 0 (by simp [DefP.dvs, dp_Editions_init]) (by rfl) (fun _ _ _ _ _ _ _ us its hl hi => match us, its, hl, hi with | [_, _], [_], _, _ => ⟨_, rfl, rfl⟩)
theorem bn_Editions_len {f : Addr} {fd : FuncData} (F : FunD K "__len__" "Editions.__len__" (defArgs s_Editions_len) (defBody s_Editions_len) (defScope s_Editions_len) [] [] f fd) : Binds K fd ["self"] [] :=
  F.bindsN fun _ _ _ _ _ _ us hl => match us, hl with | [_], _ => rfl
theorem bn_need_edition {f : Addr} {fd : FuncData} (F : FunD K "need_edition" "need_edition" (defArgs s_need_edition) (defBody s_need_edition) (defScope s_need_edition) [] [] f fd) : Binds K fd ["editions", "number"] [] :=
  F.bindsN fun _ _ _ _ _ _ us hl => match us, hl with | [_, _], _ => rfl
theorem bn_Editions_changed {f : Addr} {fd : FuncData} (F : FunD K "changed" "Editions.changed" (defArgs s_Editions_changed) (defBody s_Editions_changed) (defScope s_Editions_changed) [] [] f fd) : Binds K fd ["self", "number"] [] :=
  F.bindsN fun _ _ _ _ _ _ us hl => match us, hl with | [_, _], _ => rfl
theorem bn_Editions_with_change {f : Addr} {fd : FuncData} (F : FunD K "with_change" "Editions.with_change" (defArgs s_Editions_with_change) (defBody s_Editions_with_change) (defScope s_Editions_with_change) [] [] f fd) : Binds K fd ["self", "names"] [] :=
  F.bindsN fun _ _ _ _ _ _ us hl => match us, hl with | [_, _], _ => rfl
theorem bn_Copy_init {f : Addr} {fd : FuncData} (F : FunD K "__init__" "Copy.__init__" (defArgs s_Copy_init) (defBody s_Copy_init) (defScope s_Copy_init) [] [] f fd) : Binds K fd ["self", "contents", "got", "given"] [] :=
  F.bindsN fun _ _ _ _ _ _ us hl => match us, hl with | [_, _, _, _], _ => rfl
theorem bn_Visit_init {f : Addr} {fd : FuncData} (F : FunD K "__init__" "Visit.__init__" (defArgs s_Visit_init) (defBody s_Visit_init) (defScope s_Visit_init) [] [] f fd) : Binds K fd ["self", "entry", "pages", "lost"] [] :=
  F.bindsN fun _ _ _ _ _ _ us hl => match us, hl with | [_, _, _, _], _ => rfl
theorem bn_is_deed_form {f : Addr} {fd : FuncData} (F : FunD K "is_deed_form" "is_deed_form" (defArgs s_is_deed_form) (defBody s_is_deed_form) (defScope s_is_deed_form) [] [] f fd) : Binds K fd ["value"] [] :=
  F.bindsN fun _ _ _ _ _ _ us hl => match us, hl with | [_], _ => rfl
theorem bn_is_index {f : Addr} {fd : FuncData} (F : FunD K "is_index" "is_index" (defArgs s_is_index) (defBody s_is_index) (defScope s_is_index) [] [] f fd) : Binds K fd ["value", "many"] [] :=
  F.bindsN fun _ _ _ _ _ _ us hl => match us, hl with | [_, _], _ => rfl
theorem bn_copy_key {f : Addr} {fd : FuncData} (F : FunD K "copy_key" "copy_key" (defArgs s_copy_key) (defBody s_copy_key) (defScope s_copy_key) [] [] f fd) : Binds K fd ["net", "name", "number"] [] :=
  F.bindsN fun _ _ _ _ _ _ us hl => match us, hl with | [_, _, _], _ => rfl
theorem bn_is_fresh {f : Addr} {fd : FuncData} (F : FunD K "is_fresh" "is_fresh" (defArgs s_is_fresh) (defBody s_is_fresh) (defScope s_is_fresh) [] [] f fd) : Binds K fd ["net", "cache", "name", "copy"] [] :=
  F.bindsN fun _ _ _ _ _ _ us hl => match us, hl with | [_, _, _, _], _ => rfl
theorem bn_visit_of {f : Addr} {fd : FuncData} (F : FunD K "visit_of" "visit_of" (defArgs s_visit_of) (defBody s_visit_of) (defScope s_visit_of) [] [] f fd) : Binds K fd ["net", "reader"] [] :=
  F.bindsN fun _ _ _ _ _ _ us hl => match us, hl with | [_, _], _ => rfl
theorem bn_is_possible {f : Addr} {fd : FuncData} (F : FunD K "is_possible" "is_possible" (defArgs s_is_possible) (defBody s_is_possible) (defScope s_is_possible) [] [] f fd) : Binds K fd ["net", "deed"] [] :=
  F.bindsN fun _ _ _ _ _ _ us hl => match us, hl with | [_, _], _ => rfl
theorem bn_Net_need {f : Addr} {fd : FuncData} (F : FunD K "need" "Net.need" (defArgs s_Net_need) (defBody s_Net_need) (defScope s_Net_need) [] [] f fd) : Binds K fd ["self", "deed"] [] :=
  F.bindsN fun _ _ _ _ _ _ us hl => match us, hl with | [_, _], _ => rfl
theorem bn_Net_init {f : Addr} {fd : FuncData} (F : FunD K "__init__" "Net.__init__" (defArgs s_Net_init) (defBody s_Net_init) (defScope s_Net_init) [] [] f fd) : Binds K fd ["self", "site", "kinds", "steps"] [] :=
  F.bindsN fun _ _ _ _ _ _ us hl => match us, hl with | [_, _, _, _], _ => rfl
theorem bn_Net_publishing {f : Addr} {fd : FuncData} (F : FunD K "publishing" "Net.publishing" (defArgs s_Net_publishing) (defBody s_Net_publishing) (defScope s_Net_publishing) [] [] f fd) : Binds K fd ["self"] [] :=
  F.bindsN fun _ _ _ _ _ _ us hl => match us, hl with | [_], _ => rfl
theorem bn_Net_put_copies {f : Addr} {fd : FuncData} (F : FunD K "put_copies" "Net.put_copies" (defArgs s_Net_put_copies) (defBody s_Net_put_copies) (defScope s_Net_put_copies) [] [] f fd) : Binds K fd ["self", "cache", "copies"] [] :=
  F.bindsN fun _ _ _ _ _ _ us hl => match us, hl with | [_, _, _], _ => rfl
theorem bn_Net_copies {f : Addr} {fd : FuncData} (F : FunD K "copies" "Net.copies" (defArgs s_Net_copies) (defBody s_Net_copies) (defScope s_Net_copies) [] [] f fd) : Binds K fd ["self", "cache"] [] :=
  F.bindsN fun _ _ _ _ _ _ us hl => match us, hl with | [_, _], _ => rfl
theorem bn_Net_piece {f : Addr} {fd : FuncData} (F : FunD K "piece" "Net.piece" (defArgs s_Net_piece) (defBody s_Net_piece) (defScope s_Net_piece) [] [] f fd) : Binds K fd ["self", "reader"] [] :=
  F.bindsN fun _ _ _ _ _ _ us hl => match us, hl with | [_, _], _ => rfl
theorem bn_Net_answer {f : Addr} {fd : FuncData} (F : FunD K "answer" "Net.answer" (defArgs s_Net_answer) (defBody s_Net_answer) (defScope s_Net_answer) [] [] f fd) : Binds K fd ["self", "name", "number"] [] :=
  F.bindsN fun _ _ _ _ _ _ us hl => match us, hl with | [_, _, _], _ => rfl
theorem bn_Net_opened {f : Addr} {fd : FuncData} (F : FunD K "opened" "Net.opened" (defArgs s_Net_opened) (defBody s_Net_opened) (defScope s_Net_opened) [] [] f fd) : Binds K fd ["self", "entry"] [] :=
  F.bindsN fun _ _ _ _ _ _ us hl => match us, hl with | [_, _], _ => rfl
theorem bn_Net_done_there {f : Addr} {fd : FuncData} (F : FunD K "done_there" "Net.done_there" (defArgs s_Net_done_there) (defBody s_Net_done_there) (defScope s_Net_done_there) [] [] f fd) : Binds K fd ["self", "deed"] [] :=
  F.bindsN fun _ _ _ _ _ _ us hl => match us, hl with | [_, _], _ => rfl
theorem bn_Net_do {f : Addr} {fd : FuncData} (F : FunD K "do" "Net.do" (defArgs s_Net_do) (defBody s_Net_do) (defScope s_Net_do) [] [] f fd) : Binds K fd ["self", "deed"] [] :=
  F.bindsN fun _ _ _ _ _ _ us hl => match us, hl with | [_, _], _ => rfl
theorem bn_l_begun {f : Addr} {fd : FuncData} (F : FunD K "_law_begun" "_law_begun" (defArgs s_l_begun) (defBody s_l_begun) (defScope s_l_begun) [] [] f fd) : Binds K fd ["_law_script"] [] :=
  F.bindsN fun _ _ _ _ _ _ us hl => match us, hl with | [_], _ => rfl
theorem bn_l_blend {f : Addr} {fd : FuncData} (F : FunD K "_law_blend" "_law_blend" (defArgs s_l_blend) (defBody s_l_blend) (defScope s_l_blend) [] [] f fd) : Binds K fd ["_law_draw"] [] :=
  F.bindsN fun _ _ _ _ _ _ us hl => match us, hl with | [_], _ => rfl
theorem bn_l_take {f : Addr} {fd : FuncData} (F : FunD K "_law_take" "_law_take" (defArgs s_l_take) (defBody s_l_take) (defScope s_l_take) [] [] f fd) : Binds K fd ["_law_draw", "_law_size"] [] :=
  F.bindsN fun _ _ _ _ _ _ us hl => match us, hl with | [_, _], _ => rfl
theorem bn_l_pick {f : Addr} {fd : FuncData} (F : FunD K "_law_pick" "_law_pick" (defArgs s_l_pick) (defBody s_l_pick) (defScope s_l_pick) [] [] f fd) : Binds K fd ["_law_draw", "_law_some"] [] :=
  F.bindsN fun _ _ _ _ _ _ us hl => match us, hl with | [_, _], _ => rfl
theorem bn_l_shuffled {f : Addr} {fd : FuncData} (F : FunD K "_law_shuffled" "_law_shuffled" (defArgs s_l_shuffled) (defBody s_l_shuffled) (defScope s_l_shuffled) [] [] f fd) : Binds K fd ["_law_draw", "_law_some"] [] :=
  F.bindsN fun _ _ _ _ _ _ us hl => match us, hl with | [_, _], _ => rfl
theorem bn_l_ticks {f : Addr} {fd : FuncData} (F : FunD K "_law_ticks" "_law_ticks" (defArgs s_l_ticks) (defBody s_l_ticks) (defScope s_l_ticks) [] [] f fd) : Binds K fd ["_law_draw"] [] :=
  F.bindsN fun _ _ _ _ _ _ us hl => match us, hl with | [_], _ => rfl
theorem bn_l_age {f : Addr} {fd : FuncData} (F : FunD K "_law_age" "_law_age" (defArgs s_l_age) (defBody s_l_age) (defScope s_l_age) [] [] f fd) : Binds K fd ["_law_model_here", "_law_name"] [] :=
  F.bindsN fun _ _ _ _ _ _ us hl => match us, hl with | [_, _], _ => rfl
theorem bn_l_wait {f : Addr} {fd : FuncData} (F : FunD K "_law_wait" "_law_wait" (defArgs s_l_wait) (defBody s_l_wait) (defScope s_l_wait) [] [] f fd) : Binds K fd ["_law_shown", "_law_ticks_here"] [] :=
  F.bindsN fun _ _ _ _ _ _ us hl => match us, hl with | [_, _], _ => rfl
theorem bn_l_lost {f : Addr} {fd : FuncData} (F : FunD K "_law_lost" "_law_lost" (defArgs s_l_lost) (defBody s_l_lost) (defScope s_l_lost) [] [] f fd) : Binds K fd ["_law_shown", "_law_most", "_law_name"] [] :=
  F.bindsN fun _ _ _ _ _ _ us hl => match us, hl with | [_, _, _], _ => rfl
theorem bn_l_aged {f : Addr} {fd : FuncData} (F : FunD K "_law_aged" "_law_aged" (defArgs s_l_aged) (defBody s_l_aged) (defScope s_l_aged) [] [] f fd) : Binds K fd ["_law_shown", "_law_model_here", "_law_name", "_law_ticks_here"] [] :=
  F.bindsN fun _ _ _ _ _ _ us hl => match us, hl with | [_, _, _, _], _ => rfl
theorem bn_l_opened {f : Addr} {fd : FuncData} (F : FunD K "_law_opened" "_law_opened" (defArgs s_l_opened) (defBody s_l_opened) (defScope s_l_opened) [] [] f fd) : Binds K fd ["_law_shown", "_law_name"] [] :=
  F.bindsN fun _ _ _ _ _ _ us hl => match us, hl with | [_, _], _ => rfl
theorem bn_l_site {f : Addr} {fd : FuncData} (F : FunD K "_law_site" "_law_site" (defArgs s_l_site) (defBody s_l_site) (defScope s_l_site) [] [] f fd) : Binds K fd ["_law_model_here"] [] :=
  F.bindsN fun _ _ _ _ _ _ us hl => match us, hl with | [_], _ => rfl
theorem bn_l_right {f : Addr} {fd : FuncData} (F : FunD K "_law_right" "_law_right" (defArgs s_l_right) (defBody s_l_right) (defScope s_l_right) [] [] f fd) : Binds K fd ["_law_draw", "_law_model_here", "_law_name", "_law_ticks_here"] [] :=
  F.bindsN fun _ _ _ _ _ _ us hl => match us, hl with | [_, _, _, _], _ => rfl
theorem bn_l_below {f : Addr} {fd : FuncData} (F : FunD K "_law_below" "_law_below" (defArgs s_l_below) (defBody s_l_below) (defScope s_l_below) [] [] f fd) : Binds K fd ["_law_files", "_law_name"] [] :=
  F.bindsN fun _ _ _ _ _ _ us hl => match us, hl with | [_, _], _ => rfl
theorem bn_l_model {f : Addr} {fd : FuncData} (F : FunD K "_law_model" "_law_model" (defArgs s_l_model) (defBody s_l_model) (defScope s_l_model) [] [] f fd) : Binds K fd ["_law_draw", "_law_most"] [] :=
  F.bindsN fun _ _ _ _ _ _ us hl => match us, hl with | [_, _], _ => rfl
theorem bn_law {f : Addr} {fd : FuncData} (F : FunD K "law" "law" (defArgs s_law) (defBody s_law) (defScope s_law) [] [] f fd) : Binds K fd ["_law_script"] [] :=
  F.bindsN fun _ _ _ _ _ _ us hl => match us, hl with | [_], _ => rfl
end
end Wp

set_option Elab.async false
set_option linter.all false
set_option maxRecDepth 100000
set_option maxHeartbeats 4000000
/-! law keeps its promise -/
namespace Wp
open PySem PySem.Spec PyProof.Rows L2 He
theorem hd_all {P : Program} {w : World} {K : PySem.W.Frag} {h : Heap} {mg : Str → Option Value} (X : K.In h) (G : h.Ns mainGlobals mg) (cc : hd.Says w K) :
    ∃ fd : FuncData, (∀ (s : Shared) (u : Value), BindsTo s fd ⟨[u], []⟩ [("_law_script", u)]) ∧ ∀ base : Heap, FnOk P w K mg base C8.CX0 13 (ga K "law") fd ["_law_script"] (sp_law K) := by
  have T := hd_txt X G cc
  have c := cc
  obtain ⟨fd_is_number, F_is_number⟩ := c.def_ 0 (f := dp_is_number) rfl
  obtain ⟨fd_is_name, F_is_name⟩ := c.def_ 1 (f := dp_is_name) rfl
  obtain ⟨fd_is_list, F_is_list⟩ := c.def_ 2 (f := dp_is_list) rfl
  obtain ⟨fd_is_ticks, F_is_ticks⟩ := c.def_ 3 (f := dp_is_ticks) rfl
  obtain ⟨fd_are_names, F_are_names⟩ := c.def_ 4 (f := dp_are_names) rfl
  obtain ⟨fd_File_init, F_File_init⟩ := c.def_ 5 (f := dp_File_init) rfl
  obtain ⟨fd_File_naming, F_File_naming⟩ := c.def_ 6 (f := dp_File_naming) rfl
  obtain ⟨fd_File_refers, F_File_refers⟩ := c.def_ 7 (f := dp_File_refers) rfl
  obtain ⟨fd_File_hold, F_File_hold⟩ := c.def_ 8 (f := dp_File_hold) rfl
  obtain ⟨fd_File_keeps, F_File_keeps⟩ := c.def_ 9 (f := dp_File_keeps) rfl
  obtain ⟨fd_all_below, F_all_below⟩ := c.def_ 10 (f := dp_all_below) rfl
  obtain ⟨fd_tree_below, F_tree_below⟩ := c.def_ 11 (f := dp_tree_below) rfl
  obtain ⟨fd_need_files, F_need_files⟩ := c.def_ 12 (f := dp_need_files) rfl
  obtain ⟨fd_is_entries, F_is_entries⟩ := c.def_ 13 (f := dp_is_entries) rfl
  obtain ⟨fd_Site_init, F_Site_init⟩ := c.def_ 14 (f := dp_Site_init) rfl
  obtain ⟨fd_Site_entries, F_Site_entries⟩ := c.def_ 15 (f := dp_Site_entries) rfl
  obtain ⟨fd_Site_counts, F_Site_counts⟩ := c.def_ 16 (f := dp_Site_counts) rfl
  obtain ⟨fd_Site_caches, F_Site_caches⟩ := c.def_ 17 (f := dp_Site_caches) rfl
  obtain ⟨fd_Site_has, F_Site_has⟩ := c.def_ 18 (f := dp_Site_has) rfl
  obtain ⟨fd_Site_need_file, F_Site_need_file⟩ := c.def_ 19 (f := dp_Site_need_file) rfl
  obtain ⟨fd_Site_item, F_Site_item⟩ := c.def_ 20 (f := dp_Site_item) rfl
  obtain ⟨fd_Site_names, F_Site_names⟩ := c.def_ 21 (f := dp_Site_names) rfl
  obtain ⟨fd_Site_need_names, F_Site_need_names⟩ := c.def_ 22 (f := dp_Site_need_names) rfl
  obtain ⟨fd_Site_closure, F_Site_closure⟩ := c.def_ 23 (f := dp_Site_closure) rfl
  obtain ⟨fd_is_some_files, F_is_some_files⟩ := c.def_ 24 (f := dp_is_some_files) rfl
  obtain ⟨fd_made_kinds, F_made_kinds⟩ := c.def_ 25 (f := dp_made_kinds) rfl
  obtain ⟨fd_made_steps, F_made_steps⟩ := c.def_ 26 (f := dp_made_steps) rfl
  obtain ⟨fd_Editions_init, F_Editions_init⟩ := c.def_ 27 (f := dp_Editions_init) rfl
  obtain ⟨fd_Editions_len, F_Editions_len⟩ := c.def_ 28 (f := dp_Editions_len) rfl
  obtain ⟨fd_need_edition, F_need_edition⟩ := c.def_ 29 (f := dp_need_edition) rfl
  obtain ⟨fd_Editions_changed, F_Editions_changed⟩ := c.def_ 30 (f := dp_Editions_changed) rfl
  obtain ⟨fd_Editions_with_change, F_Editions_with_change⟩ := c.def_ 31 (f := dp_Editions_with_change) rfl
  obtain ⟨fd_Copy_init, F_Copy_init⟩ := c.def_ 32 (f := dp_Copy_init) rfl
  obtain ⟨fd_Visit_init, F_Visit_init⟩ := c.def_ 33 (f := dp_Visit_init) rfl
  obtain ⟨fd_is_deed_form, F_is_deed_form⟩ := c.def_ 34 (f := dp_is_deed_form) rfl
  obtain ⟨fd_is_index, F_is_index⟩ := c.def_ 35 (f := dp_is_index) rfl
  obtain ⟨fd_copy_key, F_copy_key⟩ := c.def_ 36 (f := dp_copy_key) rfl
  obtain ⟨fd_is_fresh, F_is_fresh⟩ := c.def_ 37 (f := dp_is_fresh) rfl
  obtain ⟨fd_visit_of, F_visit_of⟩ := c.def_ 38 (f := dp_visit_of) rfl
  obtain ⟨fd_is_possible, F_is_possible⟩ := c.def_ 39 (f := dp_is_possible) rfl
  obtain ⟨fd_Net_need, F_Net_need⟩ := c.def_ 40 (f := dp_Net_need) rfl
  obtain ⟨fd_Net_init, F_Net_init⟩ := c.def_ 41 (f := dp_Net_init) rfl
  obtain ⟨fd_Net_publishing, F_Net_publishing⟩ := c.def_ 42 (f := dp_Net_publishing) rfl
  obtain ⟨fd_Net_put_copies, F_Net_put_copies⟩ := c.def_ 43 (f := dp_Net_put_copies) rfl
  obtain ⟨fd_Net_copies, F_Net_copies⟩ := c.def_ 44 (f := dp_Net_copies) rfl
  obtain ⟨fd_Net_piece, F_Net_piece⟩ := c.def_ 45 (f := dp_Net_piece) rfl
  obtain ⟨fd_Net_answer, F_Net_answer⟩ := c.def_ 46 (f := dp_Net_answer) rfl
  obtain ⟨fd_Net_opened, F_Net_opened⟩ := c.def_ 47 (f := dp_Net_opened) rfl
  obtain ⟨fd_Net_done_there, F_Net_done_there⟩ := c.def_ 48 (f := dp_Net_done_there) rfl
  obtain ⟨fd_Net_do, F_Net_do⟩ := c.def_ 49 (f := dp_Net_do) rfl
  obtain ⟨fd_l_begun, F_l_begun⟩ := c.def_ 50 (f := dp_l_begun) rfl
  obtain ⟨fd_l_blend, F_l_blend⟩ := c.def_ 51 (f := dp_l_blend) rfl
  obtain ⟨fd_l_take, F_l_take⟩ := c.def_ 52 (f := dp_l_take) rfl
  obtain ⟨fd_l_pick, F_l_pick⟩ := c.def_ 53 (f := dp_l_pick) rfl
  obtain ⟨fd_l_shuffled, F_l_shuffled⟩ := c.def_ 54 (f := dp_l_shuffled) rfl
  obtain ⟨fd_l_ticks, F_l_ticks⟩ := c.def_ 55 (f := dp_l_ticks) rfl
  obtain ⟨fd_l_age, F_l_age⟩ := c.def_ 56 (f := dp_l_age) rfl
  obtain ⟨fd_l_wait, F_l_wait⟩ := c.def_ 57 (f := dp_l_wait) rfl
  obtain ⟨fd_l_lost, F_l_lost⟩ := c.def_ 58 (f := dp_l_lost) rfl
  obtain ⟨fd_l_aged, F_l_aged⟩ := c.def_ 59 (f := dp_l_aged) rfl
  obtain ⟨fd_l_opened, F_l_opened⟩ := c.def_ 60 (f := dp_l_opened) rfl
  obtain ⟨fd_l_site, F_l_site⟩ := c.def_ 61 (f := dp_l_site) rfl
  obtain ⟨fd_l_right, F_l_right⟩ := c.def_ 62 (f := dp_l_right) rfl
  obtain ⟨fd_l_below, F_l_below⟩ := c.def_ 63 (f := dp_l_below) rfl
  obtain ⟨fd_l_model, F_l_model⟩ := c.def_ 64 (f := dp_l_model) rfl
  obtain ⟨fd_law, F_law⟩ := c.def_ 65 (f := dp_law) rfl
  refine ⟨fd_law, fun s v => (FunD.bindsA (ps := ["_law_script"]) F_law fun _ _ _ _ _ _ us hl => match us, hl with | [_], _ => rfl) s [v] rfl, fun base => ?_⟩
  have wk_is_number : FnOk P w K mg base C8.CX0 1 (ga K "is_number") fd_is_number ["value"] (sp_is_number) := w_is_number F_is_number T 
  have c_is_number : C8.Cal P w K mg base 1 "is_number" (sp_is_number) [] := ⟨_, _, _, [], wk_is_number, glo_ok X G (c.fact 67 (f := .glo "is_number") rfl), F_is_number.kp, bn_is_number F_is_number, .nil⟩
  have wk_is_name : FnOk P w K mg base C8.CX0 1 (ga K "is_name") fd_is_name ["value"] (sp_is_name) := w_is_name F_is_name T 
  have c_is_name : C8.Cal P w K mg base 1 "is_name" (sp_is_name) [] := ⟨_, _, _, [], wk_is_name, glo_ok X G (c.fact 68 (f := .glo "is_name") rfl), F_is_name.kp, bn_is_name F_is_name, .nil⟩
  have wk_is_list : FnOk P w K mg base C8.CX0 1 (ga K "is_list") fd_is_list ["value"] (sp_is_list K) := w_is_list F_is_list T 
  have c_is_list : C8.Cal P w K mg base 1 "is_list" (sp_is_list K) [] := ⟨_, _, _, [], wk_is_list, glo_ok X G (c.fact 69 (f := .glo "is_list") rfl), F_is_list.kp, bn_is_list F_is_list, .nil⟩
  have wk_is_ticks : FnOk P w K mg base C8.CX0 2 (ga K "is_ticks") fd_is_ticks ["value"] (sp_is_ticks) := w_is_ticks F_is_ticks T c_is_number
  have c_is_ticks : C8.Cal P w K mg base 2 "is_ticks" (sp_is_ticks) [] := ⟨_, _, _, [], wk_is_ticks, glo_ok X G (c.fact 70 (f := .glo "is_ticks") rfl), F_is_ticks.kp, bn_is_ticks F_is_ticks, .nil⟩
  have wk_are_names : FnOk P w K mg base C8.CX0 2 (ga K "are_names") fd_are_names ["value"] (sp_are_names K) := w_are_names F_are_names T c_is_name c_is_list
  have c_are_names : C8.Cal P w K mg base 2 "are_names" (sp_are_names K) [] := ⟨_, _, _, [], wk_are_names, glo_ok X G (c.fact 71 (f := .glo "are_names") rfl), F_are_names.kp, bn_are_names F_are_names, .nil⟩
  have wk_File_init : FnOk P w K mg base C8.CX0 3 (ma K (ga K "File") "__init__") fd_File_init ["self", "naming", "refers", "hold", "keeps"] (sp_File_init (caK K)) := w_File_init F_File_init T c_are_names c_is_ticks c_is_list
  have k_File : C8.Mak P w K mg base 3 "File" (caK K).F (sp_File_init (caK K)) [] := ⟨_, _, _, [], mkr_ok (c.fact 119 (f := .mkr "File") rfl), wk_File_init, glo_ok X G (c.fact 49 (f := .glo "File") rfl), bn_File_init F_File_init, .nil⟩
  have wk_File_naming : FnOk P w K mg base C8.CX0 1 (getP "File" "naming" K) fd_File_naming ["self"] (sp_File_naming (caK K)) := w_File_naming F_File_naming T 
  have p_File_naming : Prp P w K mg base 1 (caK K).F "naming" (sp_File_naming (caK K)) := ⟨_, _, _, _, T.cF, c.prop 0 rfl, wk_File_naming, bn_File_naming F_File_naming⟩
  have wk_File_refers : FnOk P w K mg base C8.CX0 1 (getP "File" "refers" K) fd_File_refers ["self"] (sp_File_refers (caK K)) := w_File_refers F_File_refers T 
  have p_File_refers : Prp P w K mg base 1 (caK K).F "refers" (sp_File_refers (caK K)) := ⟨_, _, _, _, T.cF, c.prop 1 rfl, wk_File_refers, bn_File_refers F_File_refers⟩
  have wk_File_hold : FnOk P w K mg base C8.CX0 1 (getP "File" "hold" K) fd_File_hold ["self"] (sp_File_hold (caK K)) := w_File_hold F_File_hold T 
  have p_File_hold : Prp P w K mg base 1 (caK K).F "hold" (sp_File_hold (caK K)) := ⟨_, _, _, _, T.cF, c.prop 2 rfl, wk_File_hold, bn_File_hold F_File_hold⟩
  have wk_File_keeps : FnOk P w K mg base C8.CX0 1 (getP "File" "keeps" K) fd_File_keeps ["self"] (sp_File_keeps (caK K)) := w_File_keeps F_File_keeps T 
  have p_File_keeps : Prp P w K mg base 1 (caK K).F "keeps" (sp_File_keeps (caK K)) := ⟨_, _, _, _, T.cF, c.prop 3 rfl, wk_File_keeps, bn_File_keeps F_File_keeps⟩
  have wk_all_below : FnOk P w K mg base C8.CX0 3 (ga K "all_below") fd_all_below ["files", "name"] (sp_all_below (caK K)) := w_all_below F_all_below T p_File_refers
  have c_all_below : C8.Cal P w K mg base 3 "all_below" (sp_all_below (caK K)) [] := ⟨_, _, _, [], wk_all_below, glo_ok X G (c.fact 72 (f := .glo "all_below") rfl), F_all_below.kp, bn_all_below F_all_below, .nil⟩
  have wk_tree_below : FnOk P w K mg base C8.CX0 3 (ga K "tree_below") fd_tree_below ["files", "entry"] (sp_tree_below (caK K)) := w_tree_below F_tree_below T p_File_refers
  have c_tree_below : C8.Cal P w K mg base 3 "tree_below" (sp_tree_below (caK K)) [] := ⟨_, _, _, [], wk_tree_below, glo_ok X G (c.fact 73 (f := .glo "tree_below") rfl), F_tree_below.kp, bn_tree_below F_tree_below, .nil⟩
  have wk_need_files : FnOk P w K mg base C8.CX0 4 (ga K "need_files") fd_need_files ["files"] (sp_need_files (caK K)) := w_need_files F_need_files T c_is_name p_File_refers p_File_keeps c_all_below
  have c_need_files : C8.Cal P w K mg base 4 "need_files" (sp_need_files (caK K)) [] := ⟨_, _, _, [], wk_need_files, glo_ok X G (c.fact 74 (f := .glo "need_files") rfl), F_need_files.kp, bn_need_files F_need_files, .nil⟩
  have wk_is_entries : FnOk P w K mg base C8.CX0 3 (ga K "is_entries") fd_is_entries ["files", "value"] (sp_is_entries (caK K)) := w_is_entries F_is_entries T c_are_names p_File_naming
  have c_is_entries : C8.Cal P w K mg base 3 "is_entries" (sp_is_entries (caK K)) [] := ⟨_, _, _, [], wk_is_entries, glo_ok X G (c.fact 75 (f := .glo "is_entries") rfl), F_is_entries.kp, bn_is_entries F_is_entries, .nil⟩
  have wk_Site_init : FnOk P w K mg base C8.CX0 5 (ma K (ga K "Site") "__init__") fd_Site_init ["self", "files", "entries", "counts"] (sp_Site_init (caK K)) := w_Site_init F_Site_init T c_need_files c_is_entries c_tree_below
  have k_Site : C8.Mak P w K mg base 5 "Site" (caK K).S (sp_Site_init (caK K)) [] := ⟨_, _, _, [], mkr_ok (c.fact 120 (f := .mkr "Site") rfl), wk_Site_init, glo_ok X G (c.fact 50 (f := .glo "Site") rfl), bn_Site_init F_Site_init, .nil⟩
  have wk_Site_entries : FnOk P w K mg base C8.CX0 1 (getP "Site" "entries" K) fd_Site_entries ["self"] (sp_Site_entries (caK K)) := w_Site_entries F_Site_entries T 
  have p_Site_entries : Prp P w K mg base 1 (caK K).S "entries" (sp_Site_entries (caK K)) := ⟨_, _, _, _, T.cS, c.prop 4 rfl, wk_Site_entries, bn_Site_entries F_Site_entries⟩
  have wk_Site_counts : FnOk P w K mg base C8.CX0 1 (getP "Site" "counts" K) fd_Site_counts ["self"] (sp_Site_counts (caK K)) := w_Site_counts F_Site_counts T 
  have p_Site_counts : Prp P w K mg base 1 (caK K).S "counts" (sp_Site_counts (caK K)) := ⟨_, _, _, _, T.cS, c.prop 5 rfl, wk_Site_counts, bn_Site_counts F_Site_counts⟩
  have wk_Site_caches : FnOk P w K mg base C8.CX0 3 (getP "Site" "caches" K) fd_Site_caches ["self"] (sp_Site_caches (caK K)) := w_Site_caches F_Site_caches T p_File_keeps
  have p_Site_caches : Prp P w K mg base 3 (caK K).S "caches" (sp_Site_caches (caK K)) := ⟨_, _, _, _, T.cS, c.prop 6 rfl, wk_Site_caches, bn_Site_caches F_Site_caches⟩
  have wk_Site_has : FnOk P w K mg base C8.CX0 1 (ma K (ga K "Site") "__contains__") fd_Site_has ["self", "name"] (sp_Site_has (caK K)) := w_Site_has F_Site_has T 
  have me_Site_has := meth_ok (c.fact 102 (f := .meth "Site" "__contains__") rfl)
  have lk_Site_has : ∃ oc od fd sl, K.lookup (ma K (ga K "Site") "__contains__") = some ⟨oc, od, .func fd, sl⟩ := by
    obtain ⟨oc, od, _, _, _, _, _, _, _, sl, _, q, _⟩ := F_Site_has.ex
    exact ⟨_, _, _, _, q⟩
  have o_Site_has : Spc P w K mg base 1 (caK K).S "__contains__" (sp_Site_has (caK K)) := ⟨_, _, _, ⟨me_Site_has.at_, me_Site_has.fn⟩, lk_Site_has, wk_Site_has, bn_Site_has F_Site_has⟩
  have wk_Site_need_file : FnOk P w K mg base C8.CX0 3 (ma K (ga K "Site") "need_file") fd_Site_need_file ["self", "name"] (sp_Site_need_file (caK K)) := w_Site_need_file F_Site_need_file T o_Site_has
  have m_Site_need_file : C8.Met P w K mg base 3 (caK K).S "need_file" (sp_Site_need_file (caK K)) [] := ⟨_, _, _, [], T.cS, meth_ok (c.fact 103 (f := .meth "Site" "need_file") rfl), wk_Site_need_file, bn_Site_need_file F_Site_need_file, .nil⟩
  have wk_Site_item : FnOk P w K mg base C8.CX0 4 (ma K (ga K "Site") "__getitem__") fd_Site_item ["self", "name"] (sp_Site_item (caK K)) := w_Site_item F_Site_item T m_Site_need_file
  have me_Site_item := meth_ok (c.fact 104 (f := .meth "Site" "__getitem__") rfl)
  have lk_Site_item : ∃ oc od fd sl, K.lookup (ma K (ga K "Site") "__getitem__") = some ⟨oc, od, .func fd, sl⟩ := by
    obtain ⟨oc, od, _, _, _, _, _, _, _, sl, _, q, _⟩ := F_Site_item.ex
    exact ⟨_, _, _, _, q⟩
  have o_Site_item : Spc P w K mg base 4 (caK K).S "__getitem__" (sp_Site_item (caK K)) := ⟨_, _, _, ⟨me_Site_item.at_, me_Site_item.fn⟩, lk_Site_item, wk_Site_item, bn_Site_item F_Site_item⟩
  have wk_Site_names : FnOk P w K mg base C8.CX0 1 (ma K (ga K "Site") "names") fd_Site_names ["self"] (sp_Site_names (caK K)) := w_Site_names F_Site_names T 
  have m_Site_names : C8.Met P w K mg base 1 (caK K).S "names" (sp_Site_names (caK K)) [] := ⟨_, _, _, [], T.cS, meth_ok (c.fact 105 (f := .meth "Site" "names") rfl), wk_Site_names, bn_Site_names F_Site_names, .nil⟩
  have wk_Site_need_names : FnOk P w K mg base C8.CX0 3 (ma K (ga K "Site") "need_names") fd_Site_need_names ["self", "names"] (sp_Site_need_names K (caK K)) := w_Site_need_names F_Site_need_names T c_is_list o_Site_has
  have m_Site_need_names : C8.Met P w K mg base 3 (caK K).S "need_names" (sp_Site_need_names K (caK K)) [] := ⟨_, _, _, [], T.cS, meth_ok (c.fact 106 (f := .meth "Site" "need_names") rfl), wk_Site_need_names, bn_Site_need_names F_Site_need_names, .nil⟩
  have wk_Site_closure : FnOk P w K mg base C8.CX0 4 (ma K (ga K "Site") "closure") fd_Site_closure ["self", "names"] (sp_Site_closure K (caK K)) := w_Site_closure F_Site_closure T m_Site_need_names p_File_naming
  have m_Site_closure : C8.Met P w K mg base 4 (caK K).S "closure" (sp_Site_closure K (caK K)) [] := ⟨_, _, _, [], T.cS, meth_ok (c.fact 107 (f := .meth "Site" "closure") rfl), wk_Site_closure, bn_Site_closure F_Site_closure, .nil⟩
  have wk_is_some_files : FnOk P w K mg base C8.CX0 3 (ga K "is_some_files") fd_is_some_files ["site", "value"] (sp_is_some_files K (caK K)) := w_is_some_files F_is_some_files T o_Site_has c_is_list
  have c_is_some_files : C8.Cal P w K mg base 3 "is_some_files" (sp_is_some_files K (caK K)) [] := ⟨_, _, _, [], wk_is_some_files, glo_ok X G (c.fact 76 (f := .glo "is_some_files") rfl), F_is_some_files.kp, bn_is_some_files F_is_some_files, .nil⟩
  have wk_made_kinds : FnOk P w K mg base C8.CX0 4 (ga K "made_kinds") fd_made_kinds ["site", "kinds"] (sp_made_kinds (caK K)) := w_made_kinds F_made_kinds T c_is_list c_is_some_files
  have c_made_kinds : C8.Cal P w K mg base 4 "made_kinds" (sp_made_kinds (caK K)) [] := ⟨_, _, _, [], wk_made_kinds, glo_ok X G (c.fact 77 (f := .glo "made_kinds") rfl), F_made_kinds.kp, bn_made_kinds F_made_kinds, .nil⟩
  have wk_made_steps : FnOk P w K mg base C8.CX0 4 (ga K "made_steps") fd_made_steps ["site", "steps"] (sp_made_steps (caK K)) := w_made_steps F_made_steps T c_is_some_files c_is_list m_Site_names
  have c_made_steps : C8.Cal P w K mg base 4 "made_steps" (sp_made_steps (caK K)) [] := ⟨_, _, _, [], wk_made_steps, glo_ok X G (c.fact 78 (f := .glo "made_steps") rfl), F_made_steps.kp, bn_made_steps F_made_steps, .nil⟩
  have wk_Editions_init : FnOk P w K mg base C8.CX0 5 (ma K (ga K "Editions") "__init__") fd_Editions_init ["self", "site", "changes"] (sp_Ed_init K (caK K)) := w_Editions_init F_Editions_init T c_is_list c_is_some_files m_Site_closure m_Site_names
  have k_Editions : C8.Mak P w K mg base 5 "Editions" (caK K).E (sp_Ed_init K (caK K)) [] := ⟨_, _, _, [], mkr_ok (c.fact 121 (f := .mkr "Editions") rfl), wk_Editions_init, glo_ok X G (c.fact 51 (f := .glo "Editions") rfl), bn_Editions_init F_Editions_init, .nil⟩
  obtain ⟨ds_E, dv_E, bd_E⟩ := bd_Editions_init F_Editions_init
  have kd_Editions : C8.Mak P w K mg base 5 "Editions" (caK K).E (sp_Ed_init K (caK K)) [.ref (caK K).e0] := ⟨_, _, _, ds_E, mkr_ok (c.fact 121 (f := .mkr "Editions") rfl), wk_Editions_init, glo_ok X G (c.fact 51 (f := .glo "Editions") rfl), bd_E, dv_E⟩
  have wk_Editions_len : FnOk P w K mg base C8.CX0 1 (ma K (ga K "Editions") "__len__") fd_Editions_len ["self"] (sp_Ed_len (caK K)) := w_Editions_len F_Editions_len T 
  have me_Editions_len := meth_ok (c.fact 108 (f := .meth "Editions" "__len__") rfl)
  have lk_Editions_len : ∃ oc od fd sl, K.lookup (ma K (ga K "Editions") "__len__") = some ⟨oc, od, .func fd, sl⟩ := by
    obtain ⟨oc, od, _, _, _, _, _, _, _, sl, _, q, _⟩ := F_Editions_len.ex
    exact ⟨_, _, _, _, q⟩
  have o_Ed_len : Spc P w K mg base 1 (caK K).E "__len__" (sp_Ed_len (caK K)) := ⟨_, _, _, ⟨me_Editions_len.at_, me_Editions_len.fn⟩, lk_Editions_len, wk_Editions_len, bn_Editions_len F_Editions_len⟩
  have wk_need_edition : FnOk P w K mg base C8.CX0 2 (ga K "need_edition") fd_need_edition ["editions", "number"] (sp_need_edition (caK K)) := w_need_edition F_need_edition T c_is_number
  have c_need_edition : C8.Cal P w K mg base 2 "need_edition" (sp_need_edition (caK K)) [] := ⟨_, _, _, [], wk_need_edition, glo_ok X G (c.fact 79 (f := .glo "need_edition") rfl), F_need_edition.kp, bn_need_edition F_need_edition, .nil⟩
  have wk_Editions_changed : FnOk P w K mg base C8.CX0 3 (ma K (ga K "Editions") "changed") fd_Editions_changed ["self", "number"] (sp_Ed_changed (caK K)) := w_Editions_changed F_Editions_changed T c_need_edition
  have m_Ed_changed : C8.Met P w K mg base 3 (caK K).E "changed" (sp_Ed_changed (caK K)) [] := ⟨_, _, _, [], T.cE, meth_ok (c.fact 109 (f := .meth "Editions" "changed") rfl), wk_Editions_changed, bn_Editions_changed F_Editions_changed, .nil⟩
  have wk_Editions_with_change : FnOk P w K mg base C8.CX0 7 (ma K (ga K "Editions") "with_change") fd_Editions_with_change ["self", "names"] (sp_Ed_with_change K (caK K)) := w_Editions_with_change F_Editions_with_change T c_is_some_files k_Editions
  have m_Ed_with_change : C8.Met P w K mg base 7 (caK K).E "with_change" (sp_Ed_with_change K (caK K)) [] := ⟨_, _, _, [], T.cE, meth_ok (c.fact 110 (f := .meth "Editions" "with_change") rfl), wk_Editions_with_change, bn_Editions_with_change F_Editions_with_change, .nil⟩
  have wk_Copy_init : FnOk P w K mg base C8.CX0 1 (ma K (ga K "Copy") "__init__") fd_Copy_init ["self", "contents", "got", "given"] (sp_Copy_init (caK K)) := w_Copy_init F_Copy_init T 
  have k_Copy : C8.Mak P w K mg base 1 "Copy" (caK K).C (sp_Copy_init (caK K)) [] := ⟨_, _, _, [], mkr_ok (c.fact 122 (f := .mkr "Copy") rfl), wk_Copy_init, glo_ok X G (c.fact 52 (f := .glo "Copy") rfl), bn_Copy_init F_Copy_init, .nil⟩
  have wk_Visit_init : FnOk P w K mg base C8.CX0 1 (ma K (ga K "Visit") "__init__") fd_Visit_init ["self", "entry", "pages", "lost"] (sp_Visit_init (caK K)) := w_Visit_init F_Visit_init T 
  have k_Visit : C8.Mak P w K mg base 1 "Visit" (caK K).V (sp_Visit_init (caK K)) [] := ⟨_, _, _, [], mkr_ok (c.fact 123 (f := .mkr "Visit") rfl), wk_Visit_init, glo_ok X G (c.fact 53 (f := .glo "Visit") rfl), bn_Visit_init F_Visit_init, .nil⟩
  have wk_is_deed_form : FnOk P w K mg base C8.CX0 1 (ga K "is_deed_form") fd_is_deed_form ["value"] (sp_is_deed_form) := w_is_deed_form F_is_deed_form T 
  have c_is_deed_form : C8.Cal P w K mg base 1 "is_deed_form" (sp_is_deed_form) [] := ⟨_, _, _, [], wk_is_deed_form, glo_ok X G (c.fact 80 (f := .glo "is_deed_form") rfl), F_is_deed_form.kp, bn_is_deed_form F_is_deed_form, .nil⟩
  have wk_is_index : FnOk P w K mg base C8.CX0 2 (ga K "is_index") fd_is_index ["value", "many"] (sp_is_index) := w_is_index F_is_index T c_is_number
  have c_is_index : C8.Cal P w K mg base 2 "is_index" (sp_is_index) [] := ⟨_, _, _, [], wk_is_index, glo_ok X G (c.fact 81 (f := .glo "is_index") rfl), F_is_index.kp, bn_is_index F_is_index, .nil⟩
  have wk_copy_key : FnOk P w K mg base C8.CX0 6 (ga K "copy_key") fd_copy_key ["net", "name", "number"] (sp_copy_key P w (caK K)) := w_copy_key F_copy_key T p_File_naming o_Site_item
  have c_copy_key : C8.Cal P w K mg base 6 "copy_key" (sp_copy_key P w (caK K)) [] := ⟨_, _, _, [], wk_copy_key, glo_ok X G (c.fact 82 (f := .glo "copy_key") rfl), F_copy_key.kp, bn_copy_key F_copy_key, .nil⟩
  have wk_is_fresh : FnOk P w K mg base C8.CX0 6 (ga K "is_fresh") fd_is_fresh ["net", "cache", "name", "copy"] (sp_is_fresh P w (caK K)) := w_is_fresh F_is_fresh T p_File_keeps o_Site_item p_Site_counts
  have c_is_fresh : C8.Cal P w K mg base 6 "is_fresh" (sp_is_fresh P w (caK K)) [] := ⟨_, _, _, [], wk_is_fresh, glo_ok X G (c.fact 83 (f := .glo "is_fresh") rfl), F_is_fresh.kp, bn_is_fresh F_is_fresh, .nil⟩
  have wk_visit_of : FnOk P w K mg base C8.CX0 3 (ga K "visit_of") fd_visit_of ["net", "reader"] (sp_visit_of P w (caK K)) := w_visit_of F_visit_of T c_is_index
  have c_visit_of : C8.Cal P w K mg base 3 "visit_of" (sp_visit_of P w (caK K)) [] := ⟨_, _, _, [], wk_visit_of, glo_ok X G (c.fact 84 (f := .glo "visit_of") rfl), F_visit_of.kp, bn_visit_of F_visit_of, .nil⟩
  have wk_is_possible : FnOk P w K mg base C8.CX0 7 (ga K "is_possible") fd_is_possible ["net", "deed"] (sp_is_possible P w (caK K)) := w_is_possible F_is_possible T c_is_index o_Ed_len c_is_number p_Site_entries o_Site_has c_copy_key
  have c_is_possible : C8.Cal P w K mg base 7 "is_possible" (sp_is_possible P w (caK K)) [] := ⟨_, _, _, [], wk_is_possible, glo_ok X G (c.fact 85 (f := .glo "is_possible") rfl), F_is_possible.kp, bn_is_possible F_is_possible, .nil⟩
  have wk_Net_need : FnOk P w K mg base C8.CX0 8 (ma K (ga K "Net") "need") fd_Net_need ["self", "deed"] (sp_Net_need P w (caK K)) := w_Net_need F_Net_need T c_is_possible c_is_deed_form
  have m_Net_need : C8.Met P w K mg base 8 (caK K).N "need" (sp_Net_need P w (caK K)) [] := ⟨_, _, _, [], T.cN, meth_ok (c.fact 111 (f := .meth "Net" "need") rfl), wk_Net_need, bn_Net_need F_Net_need, .nil⟩
  have wk_Net_init : FnOk P w K mg base C8.CX0 7 (ma K (ga K "Net") "__init__") fd_Net_init ["self", "site", "kinds", "steps"] (sp_Net_init P w (caK K)) := w_Net_init F_Net_init T c_made_kinds c_made_steps kd_Editions m_Site_names p_Site_caches
  have k_Net : C8.Mak P w K mg base 7 "Net" (caK K).N (sp_Net_init P w (caK K)) [] := ⟨_, _, _, [], mkr_ok (c.fact 124 (f := .mkr "Net") rfl), wk_Net_init, glo_ok X G (c.fact 54 (f := .glo "Net") rfl), bn_Net_init F_Net_init, .nil⟩
  have wk_Net_publishing : FnOk P w K mg base C8.CX0 1 (getP "Net" "publishing" K) fd_Net_publishing ["self"] (sp_Net_publishing P w (caK K)) := w_Net_publishing F_Net_publishing T 
  have p_Net_publishing : Prp P w K mg base 1 (caK K).N "publishing" (sp_Net_publishing P w (caK K)) := ⟨_, _, _, _, T.cN, c.prop 7 rfl, wk_Net_publishing, bn_Net_publishing F_Net_publishing⟩
  have wk_Net_put_copies : FnOk P w K mg base C8.CX0 1 (ma K (ga K "Net") "put_copies") fd_Net_put_copies ["self", "cache", "copies"] (sp_Net_put P w (caK K)) := w_Net_put_copies F_Net_put_copies T 
  have m_Net_put_copies : C8.Met P w K mg base 1 (caK K).N "put_copies" (sp_Net_put P w (caK K)) [] := ⟨_, _, _, [], T.cN, meth_ok (c.fact 112 (f := .meth "Net" "put_copies") rfl), wk_Net_put_copies, bn_Net_put_copies F_Net_put_copies, .nil⟩
  have wk_Net_copies : FnOk P w K mg base C8.CX0 3 (ma K (ga K "Net") "copies") fd_Net_copies ["self", "cache"] (sp_Net_copies P w (caK K)) := w_Net_copies F_Net_copies T c_is_index
  have m_Net_copies : C8.Met P w K mg base 3 (caK K).N "copies" (sp_Net_copies P w (caK K)) [] := ⟨_, _, _, [], T.cN, meth_ok (c.fact 113 (f := .meth "Net" "copies") rfl), wk_Net_copies, bn_Net_copies F_Net_copies, .nil⟩
  have wk_Net_piece : FnOk P w K mg base C8.CX0 4 (ma K (ga K "Net") "piece") fd_Net_piece ["self", "reader"] (sp_Net_piece P w (caK K)) := w_Net_piece F_Net_piece T c_visit_of
  have m_Net_piece : C8.Met P w K mg base 4 (caK K).N "piece" (sp_Net_piece P w (caK K)) [] := ⟨_, _, _, [], T.cN, meth_ok (c.fact 114 (f := .meth "Net" "piece") rfl), wk_Net_piece, bn_Net_piece F_Net_piece, .nil⟩
  have wk_Net_answer : FnOk P w K mg base C8.CX0 7 (ma K (ga K "Net") "answer") fd_Net_answer ["self", "name", "number"] (sp_Net_answer P w (caK K)) := w_Net_answer F_Net_answer T c_copy_key c_is_fresh k_Copy m_Net_put_copies
  have m_Net_answer : C8.Met P w K mg base 7 (caK K).N "answer" (sp_Net_answer P w (caK K)) [] := ⟨_, _, _, [], T.cN, meth_ok (c.fact 115 (f := .meth "Net" "answer") rfl), wk_Net_answer, bn_Net_answer F_Net_answer, .nil⟩
  have wk_Net_opened : FnOk P w K mg base C8.CX0 8 (ma K (ga K "Net") "opened") fd_Net_opened ["self", "entry"] (sp_Net_opened P w (caK K)) := w_Net_opened F_Net_opened T m_Net_answer k_Visit
  have m_Net_opened : C8.Met P w K mg base 8 (caK K).N "opened" (sp_Net_opened P w (caK K)) [] := ⟨_, _, _, [], T.cN, meth_ok (c.fact 116 (f := .meth "Net" "opened") rfl), wk_Net_opened, bn_Net_opened F_Net_opened, .nil⟩
  have wk_Net_done_there : FnOk P w K mg base C8.CX0 8 (ma K (ga K "Net") "done_there") fd_Net_done_there ["self", "deed"] (sp_Net_done P w (caK K)) := w_Net_done_there F_Net_done_there T m_Ed_with_change m_Ed_changed p_File_naming o_Site_item
  have m_Net_done_there : C8.Met P w K mg base 8 (caK K).N "done_there" (sp_Net_done P w (caK K)) [] := ⟨_, _, _, [], T.cN, meth_ok (c.fact 117 (f := .meth "Net" "done_there") rfl), wk_Net_done_there, bn_Net_done_there F_Net_done_there, .nil⟩
  have wk_Net_do : FnOk P w K mg base C8.CX0 9 (ma K (ga K "Net") "do") fd_Net_do ["self", "deed"] (sp_Net_do P w (caK K)) := w_Net_do F_Net_do T m_Net_need m_Net_done_there c_copy_key m_Net_put_copies m_Net_opened
  have m_Net_do : C8.Met P w K mg base 9 (caK K).N "do" (sp_Net_do P w (caK K)) [] := ⟨_, _, _, [], T.cN, meth_ok (c.fact 118 (f := .meth "Net" "do") rfl), wk_Net_do, bn_Net_do F_Net_do, .nil⟩
  have w0_l_begun : FnOk P w K mg base C8.CX0 1 (ga K "_law_begun") fd_l_begun ["_law_script"] (sp_begun0 K) := w_l_begun F_l_begun T 
  have wk_l_begun : FnOk P w K mg base C8.CX0 1 (ga K "_law_begun") fd_l_begun ["_law_script"] (sp_begun P w K) := ghost_begun w0_l_begun
  have c_l_begun : C8.Cal P w K mg base 1 "_law_begun" (sp_begun P w K) [] := ⟨_, _, _, [], wk_l_begun, glo_ok X G (c.fact 86 (f := .glo "_law_begun") rfl), F_l_begun.kp, bn_l_begun F_l_begun, .nil⟩
  have wk_l_blend : FnOk P w K mg base C8.CX0 1 (ga K "_law_blend") fd_l_blend ["_law_draw"] (sp_blend0) := w_l_blend F_l_blend T 
  have c_l_blend : C8.Cal P w K mg base 1 "_law_blend" (sp_blend0) [] := ⟨_, _, _, [], wk_l_blend, glo_ok X G (c.fact 87 (f := .glo "_law_blend") rfl), F_l_blend.kp, bn_l_blend F_l_blend, .nil⟩
  have w0_l_take : FnOk P w K mg base C8.CX0 2 (ga K "_law_take") fd_l_take ["_law_draw", "_law_size"] (sp_take0) := w_l_take F_l_take T c_l_blend
  have wk_l_take : FnOk P w K mg base C8.CX0 2 (ga K "_law_take") fd_l_take ["_law_draw", "_law_size"] (sp_take P w) := ghost_take w0_l_take rfl
  have c_l_take : C8.Cal P w K mg base 2 "_law_take" (sp_take P w) [] := ⟨_, _, _, [], wk_l_take, glo_ok X G (c.fact 88 (f := .glo "_law_take") rfl), F_l_take.kp, bn_l_take F_l_take, .nil⟩
  have wk_l_pick : FnOk P w K mg base C8.CX0 3 (ga K "_law_pick") fd_l_pick ["_law_draw", "_law_some"] (sp_pick P w K) := w_l_pick F_l_pick T c_l_take
  have c_l_pick : C8.Cal P w K mg base 3 "_law_pick" (sp_pick P w K) [] := ⟨_, _, _, [], wk_l_pick, glo_ok X G (c.fact 89 (f := .glo "_law_pick") rfl), F_l_pick.kp, bn_l_pick F_l_pick, .nil⟩
  have wk_l_shuffled : FnOk P w K mg base C8.CX0 3 (ga K "_law_shuffled") fd_l_shuffled ["_law_draw", "_law_some"] (sp_shuffled P w K) := w_l_shuffled F_l_shuffled T c_l_take
  have c_l_shuffled : C8.Cal P w K mg base 3 "_law_shuffled" (sp_shuffled P w K) [] := ⟨_, _, _, [], wk_l_shuffled, glo_ok X G (c.fact 90 (f := .glo "_law_shuffled") rfl), F_l_shuffled.kp, bn_l_shuffled F_l_shuffled, .nil⟩
  have wk_l_ticks : FnOk P w K mg base C8.CX0 4 (ga K "_law_ticks") fd_l_ticks ["_law_draw"] (sp_ticks P w) := w_l_ticks F_l_ticks T c_l_pick c_l_take
  have c_l_ticks : C8.Cal P w K mg base 4 "_law_ticks" (sp_ticks P w) [] := ⟨_, _, _, [], wk_l_ticks, glo_ok X G (c.fact 91 (f := .glo "_law_ticks") rfl), F_l_ticks.kp, bn_l_ticks F_l_ticks, .nil⟩
  have wk_l_age : FnOk P w K mg base C8.CX0 1 (ga K "_law_age") fd_l_age ["_law_model_here", "_law_name"] (sp_age) := w_l_age F_l_age T 
  have c_l_age : C8.Cal P w K mg base 1 "_law_age" (sp_age) [] := ⟨_, _, _, [], wk_l_age, glo_ok X G (c.fact 92 (f := .glo "_law_age") rfl), F_l_age.kp, bn_l_age F_l_age, .nil⟩
  have wk_l_wait : FnOk P w K mg base C8.CX0 10 (ga K "_law_wait") fd_l_wait ["_law_shown", "_law_ticks_here"] (sp_wait P w (caK K)) := w_l_wait F_l_wait T m_Net_do
  have c_l_wait : C8.Cal P w K mg base 10 "_law_wait" (sp_wait P w (caK K)) [] := ⟨_, _, _, [], wk_l_wait, glo_ok X G (c.fact 93 (f := .glo "_law_wait") rfl), F_l_wait.kp, bn_l_wait F_l_wait, .nil⟩
  have wk_l_lost : FnOk P w K mg base C8.CX0 10 (ga K "_law_lost") fd_l_lost ["_law_shown", "_law_most", "_law_name"] (sp_lost P w (caK K)) := w_l_lost F_l_lost T m_Net_copies m_Net_do
  have c_l_lost : C8.Cal P w K mg base 10 "_law_lost" (sp_lost P w (caK K)) [] := ⟨_, _, _, [], wk_l_lost, glo_ok X G (c.fact 94 (f := .glo "_law_lost") rfl), F_l_lost.kp, bn_l_lost F_l_lost, .nil⟩
  have wk_l_aged : FnOk P w K mg base C8.CX0 11 (ga K "_law_aged") fd_l_aged ["_law_shown", "_law_model_here", "_law_name", "_law_ticks_here"] (sp_aged P w (caK K)) := w_l_aged F_l_aged T c_l_wait c_l_lost m_Net_do
  have c_l_aged : C8.Cal P w K mg base 11 "_law_aged" (sp_aged P w (caK K)) [] := ⟨_, _, _, [], wk_l_aged, glo_ok X G (c.fact 95 (f := .glo "_law_aged") rfl), F_l_aged.kp, bn_l_aged F_l_aged, .nil⟩
  have wk_l_opened : FnOk P w K mg base C8.CX0 10 (ga K "_law_opened") fd_l_opened ["_law_shown", "_law_name"] (sp_lopened P w (caK K)) := w_l_opened F_l_opened T m_Net_piece m_Net_do
  have c_l_opened : C8.Cal P w K mg base 10 "_law_opened" (sp_lopened P w (caK K)) [] := ⟨_, _, _, [], wk_l_opened, glo_ok X G (c.fact 96 (f := .glo "_law_opened") rfl), F_l_opened.kp, bn_l_opened F_l_opened, .nil⟩
  have wk_l_site : FnOk P w K mg base C8.CX0 7 (ga K "_law_site") fd_l_site ["_law_model_here"] (sp_lsite (caK K)) := w_l_site F_l_site T k_File k_Site
  have c_l_site : C8.Cal P w K mg base 7 "_law_site" (sp_lsite (caK K)) [] := ⟨_, _, _, [], wk_l_site, glo_ok X G (c.fact 97 (f := .glo "_law_site") rfl), F_l_site.kp, bn_l_site F_l_site, .nil⟩
  have wk_l_right : FnOk P w K mg base C8.CX0 12 (ga K "_law_right") fd_l_right ["_law_draw", "_law_model_here", "_law_name", "_law_ticks_here"] (sp_lright (caK K)) := w_l_right F_l_right T c_l_age k_Net c_l_site c_l_opened m_Net_do p_Net_publishing c_l_aged c_l_wait
  have c_l_right : C8.Cal P w K mg base 12 "_law_right" (sp_lright (caK K)) [] := ⟨_, _, _, [], wk_l_right, glo_ok X G (c.fact 98 (f := .glo "_law_right") rfl), F_l_right.kp, bn_l_right F_l_right, .nil⟩
  have wk_l_below : FnOk P w K mg base C8.CX0 1 (ga K "_law_below") fd_l_below ["_law_files", "_law_name"] (sp_lbelow) := w_l_below F_l_below T 
  have c_l_below : C8.Cal P w K mg base 1 "_law_below" (sp_lbelow) [] := ⟨_, _, _, [], wk_l_below, glo_ok X G (c.fact 99 (f := .glo "_law_below") rfl), F_l_below.kp, bn_l_below F_l_below, .nil⟩
  have wk_l_model : FnOk P w K mg base C8.CX0 5 (ga K "_law_model") fd_l_model ["_law_draw", "_law_most"] (sp_lmodel P w) := w_l_model F_l_model T c_l_take c_l_shuffled c_l_pick c_l_below c_l_ticks
  have c_l_model : C8.Cal P w K mg base 5 "_law_model" (sp_lmodel P w) [] := ⟨_, _, _, [], wk_l_model, glo_ok X G (c.fact 100 (f := .glo "_law_model") rfl), F_l_model.kp, bn_l_model F_l_model, .nil⟩
  have wk_law : FnOk P w K mg base C8.CX0 13 (ga K "law") fd_law ["_law_script"] (sp_law K) := w_law F_law T c_l_begun c_l_model c_l_pick c_l_age c_l_take c_l_right
  exact wk_law
theorem hd_at {w : World} {K : PySem.W.Frag} {h : Heap} {mg : Str → Option Value} (X : K.In h) (G : h.Ns mainGlobals mg) (c : hd.Says w K) : mg "law" = some (.ref (ga K "law")) := glo_ok X G (c.fact 101 (f := .glo "law") rfl)
end Wp

set_option Elab.async false
set_option linter.all false
set_option maxRecDepth 100000
set_option maxHeartbeats 0
open PySem PySem.W PySem.Calls PyProof.Rows
theorem PySem.Challenge.cw_wholeprint_k23_whole_ages_of_answers_holds : PySem.Challenge.rw_wholeprint_k23_whole_ages_of_answers.Holds := by
  w_on; o_law
  refine HandSHeadRun.head_any (r := WpHead.R) (q := WpHead.qv) (H := Wp.hd.hook) (ob := WpHead.ob) (M := 20000) (loose := WpHead.names) (d := HandSHeadRun.topDef WpHead.R.prog 71) (kwd := []) WpHead.ob_eq
    (by kernel_rfl) (fun s => by kernel_rfl) WpHead.run (by kernel_rfl) (by kernel_rfl) (by kernel_rfl) (by rfl) (by first | assumption | decide +kernel) (by decide +kernel) ⟨rfl, rfl, rfl, rfl, rfl, by decide +kernel⟩ ?hw ?hc
  case hw => w_witness2
  case hc =>
    refine L2.walk_ofE (l := PySem.Challenge.rw_wholeprint_k23_whole_ages_of_answers) (n := 63) (k := 13) (x := "_law_script") (CX := C8.CX0) rfl (by decide) (by kernel_rfl) ⟨rfl, by decide, by decide⟩ ?F (fun _ _ _ _ z => z)
    intro w mg fa h Y G hmg0
    obtain ⟨K, KX, c⟩ := Y
    have hmg : mg ("law" : PySem.Str) = some (.ref fa) := by
      have e : (HandSHeadRun.topDef WpHead.R.prog 71).name = ("law" : PySem.Str) := by kernel_rfl
      rw [← e]
      exact hmg0
    obtain ⟨fd, hb, hF⟩ := Wp.hd_all (P := (PySem.Challenge.rw_wholeprint_k23_whole_ages_of_answers).prog) KX G c
    have ea : fa = He.ga K "law" := by
      have h1 := hmg.symm.trans (Wp.hd_at KX G c)
      exact PySem.Value.ref.inj (Option.some.inj h1)
    subst ea
    exact ⟨K, fd, Wp.sp_law K, KX, hb, fun H a ns hl _ hS => ⟨a, ns, rfl, hS, hl, fun _ => rfl⟩, fun base _ _ => hF base⟩
