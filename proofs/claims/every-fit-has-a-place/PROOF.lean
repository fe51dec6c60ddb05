import PyProof.Rows.All
import Wide.All
import OpenK.AllK
import Wide.FinOn
import HandS.HeadEnd
import HandS.HeadWalk
import HandS.HeadHook4
import HandS.HeadNt
import HandS.ForMost
import KE.KStateDown
import HandS.Head0
import HandS.Head1
import HandS.Head2
import HandS.Style
import HandS.Conv
import HandS.RevRange
import HandS.Wide
import HandS.WideBits
import HandS.Codes
import HandS.Star
import HandS.ClsMeth
import HandS.Walk
import KE.KCallOwn
import HandS.SlotsOwn
import HandS.Deep
import HandS.Words
import HandS.List
import KE.KSuper
import KE.KExcSuper
import HandS.ExcInit
import HandS.ExcField
import HandS.WordsExc
import HandS.GenList
import KE.DataCmp
import KE.KEqDeep
import KE.KEqSeq
import HandS.IsInst
import HandS.ExcIs
import HandS.Lambda
import KE.KExcIs
import PySem.Challenge.RW_latelink_k40_whole_every_fit_has_a_place
set_option Elab.async false
set_option linter.all false
set_option maxRecDepth 100000

section
/-! LKText -/
namespace LK
open PySem L2
def top (i : Nat) : Stmt := PySem.Challenge.pw_latelink_k40_whole_every_fit_has_a_place.main.body.getD i (.Pass ⟨0, 0, 0, 0⟩)
abbrev s_check_size : Stmt := top 18
abbrev N_check_size : List Str := ["size"]
theorem sc_check_size : FnScope N_check_size ["size"] (defScope s_check_size) := ⟨rfl, rfl, rfl, by decide +kernel, rfl, by decide +kernel, by decide +kernel⟩
abbrev s_check_operation : Stmt := top 19
abbrev N_check_operation : List Str := ["size", "operation", "index"]
theorem sc_check_operation : FnScope N_check_operation ["size", "operation", "index"] (defScope s_check_operation) := ⟨rfl, rfl, rfl, by decide +kernel, rfl, by decide +kernel, by decide +kernel⟩
abbrev s_fact_is_right : Stmt := top 22
abbrev N_fact_is_right : List Str := ["size", "fact", "word", "node", "link"]
theorem sc_fact_is_right : FnScope N_fact_is_right ["size", "fact"] (defScope s_fact_is_right) := ⟨rfl, rfl, rfl, by decide +kernel, rfl, by decide +kernel, by decide +kernel⟩
abbrev s_check_facts : Stmt := top 23
abbrev N_check_facts : List Str := ["size", "facts", "index", "fact"]
theorem sc_check_facts : FnScope N_check_facts ["size", "facts"] (defScope s_check_facts) := ⟨rfl, rfl, rfl, by decide +kernel, rfl, by decide +kernel, by decide +kernel⟩
abbrev s_Links_init : Stmt := inClass (top 30) 1
abbrev N_Links_init : List Str := ["self", "size"]
theorem sc_Links_init : FnScope N_Links_init ["self", "size"] (defScope s_Links_init) := ⟨rfl, rfl, rfl, by decide +kernel, rfl, by decide +kernel, by decide +kernel⟩
abbrev s_Links_built : Stmt := inClass (top 30) 2
abbrev N_Links_built : List Str := ["size", "lefts", "rights", "flags", "links"]
theorem sc_Links_built : FnScope N_Links_built ["size", "lefts", "rights", "flags"] (defScope s_Links_built) := ⟨rfl, rfl, rfl, by decide +kernel, rfl, by decide +kernel, by decide +kernel⟩
abbrev s_Links_left : Stmt := inClass (top 30) 4
abbrev N_Links_left : List Str := ["self", "node"]
theorem sc_Links_left : FnScope N_Links_left ["self", "node"] (defScope s_Links_left) := ⟨rfl, rfl, rfl, by decide +kernel, rfl, by decide +kernel, by decide +kernel⟩
abbrev s_Links_right : Stmt := inClass (top 30) 5
abbrev N_Links_right : List Str := ["self", "node"]
theorem sc_Links_right : FnScope N_Links_right ["self", "node"] (defScope s_Links_right) := ⟨rfl, rfl, rfl, by decide +kernel, rfl, by decide +kernel, by decide +kernel⟩
abbrev s_Links_is_out : Stmt := inClass (top 30) 6
abbrev N_Links_is_out : List Str := ["self", "node"]
theorem sc_Links_is_out : FnScope N_Links_is_out ["self", "node"] (defScope s_Links_is_out) := ⟨rfl, rfl, rfl, by decide +kernel, rfl, by decide +kernel, by decide +kernel⟩
abbrev s_Links_outs : Stmt := inClass (top 30) 7
abbrev N_Links_outs : List Str := ["self", "node"]
theorem sc_Links_outs : FnScope N_Links_outs ["self"] (defScope s_Links_outs) := ⟨rfl, rfl, rfl, by decide +kernel, rfl, by decide +kernel, by decide +kernel⟩
abbrev s_Links_apply : Stmt := inClass (top 30) 9
abbrev N_Links_apply : List Str := ["self", "operation"]
theorem sc_Links_apply : FnScope N_Links_apply ["self", "operation"] (defScope s_Links_apply) := ⟨rfl, rfl, rfl, by decide +kernel, rfl, by decide +kernel, by decide +kernel⟩
abbrev s_Links_apply_at : Stmt := inClass (top 30) 10
abbrev N_Links_apply_at : List Str := ["self", "operation", "index", "node", "is_unlink", "low", "high"]
theorem sc_Links_apply_at : FnScope N_Links_apply_at ["self", "operation", "index"] (defScope s_Links_apply_at) := ⟨rfl, rfl, rfl, by decide +kernel, rfl, by decide +kernel, by decide +kernel⟩
abbrev s_Links_copy : Stmt := inClass (top 30) 15
abbrev N_Links_copy : List Str := ["self"]
theorem sc_Links_copy : FnScope N_Links_copy ["self"] (defScope s_Links_copy) := ⟨rfl, rfl, rfl, by decide +kernel, rfl, by decide +kernel, by decide +kernel⟩
abbrev s_parent_of : Stmt := top 34
abbrev N_parent_of : List Str := ["links", "node", "low", "high"]
theorem sc_parent_of : FnScope N_parent_of ["links", "node"] (defScope s_parent_of) := ⟨rfl, rfl, rfl, by decide +kernel, rfl, by decide +kernel, by decide +kernel⟩
abbrev s_parents_of : Stmt := top 35
abbrev N_parents_of : List Str := ["links", "parents", "node"]
theorem sc_parents_of : FnScope N_parents_of ["links"] (defScope s_parents_of) := ⟨rfl, rfl, rfl, by decide +kernel, rfl, by decide +kernel, by decide +kernel⟩
abbrev s_Forest_init : Stmt := inClass (top 37) 0
abbrev N_Forest_init : List Str := ["self", "size"]
theorem sc_Forest_init : FnScope N_Forest_init ["self", "size"] (defScope s_Forest_init) := ⟨rfl, rfl, rfl, by decide +kernel, rfl, by decide +kernel, by decide +kernel⟩
abbrev s_Forest_grown : Stmt := inClass (top 37) 3
abbrev N_Forest_grown : List Str := ["links", "forest"]
theorem sc_Forest_grown : FnScope N_Forest_grown ["links"] (defScope s_Forest_grown) := ⟨rfl, rfl, rfl, by decide +kernel, rfl, by decide +kernel, by decide +kernel⟩
abbrev s_Forest_after : Stmt := inClass (top 37) 4
abbrev N_Forest_after : List Str := ["cls", "size", "removal", "index", "node", "links"]
theorem sc_Forest_after : FnScope N_Forest_after ["cls", "size", "removal"] (defScope s_Forest_after) := ⟨rfl, rfl, rfl, by decide +kernel, rfl, by decide +kernel, by decide +kernel⟩
abbrev s_Forest_contains : Stmt := inClass (top 37) 6
abbrev N_Forest_contains : List Str := ["self", "node"]
theorem sc_Forest_contains : FnScope N_Forest_contains ["self", "node"] (defScope s_Forest_contains) := ⟨rfl, rfl, rfl, by decide +kernel, rfl, by decide +kernel, by decide +kernel⟩
abbrev s_Forest_str : Stmt := inClass (top 37) 7
abbrev N_Forest_str : List Str := ["self", "begins", "ends", "node", "first", "last", "words", "sign"]
theorem sc_Forest_str : FnScope N_Forest_str ["self"] (defScope s_Forest_str) := ⟨rfl, rfl, rfl, by decide +kernel, rfl, by decide +kernel, by decide +kernel⟩
abbrev s_note_link : Stmt := top 39
abbrev N_note_link : List Str := ["given", "node", "link"]
theorem sc_note_link : FnScope N_note_link ["given", "node", "link"] (defScope s_note_link) := ⟨rfl, rfl, rfl, by decide +kernel, rfl, by decide +kernel, by decide +kernel⟩
abbrev s_Known_init : Stmt := inClass (top 40) 0
abbrev N_Known_init : List Str := ["self", "facts", "fact", "word"]
theorem sc_Known_init : FnScope N_Known_init ["self", "facts"] (defScope s_Known_init) := ⟨rfl, rfl, rfl, by decide +kernel, rfl, by decide +kernel, by decide +kernel⟩
abbrev s_Known_links_agree : Stmt := inClass (top 40) 1
abbrev N_Known_links_agree : List Str := ["self", "node", "low", "high"]
theorem sc_Known_links_agree : FnScope N_Known_links_agree ["self", "node", "low", "high"] (defScope s_Known_links_agree) := ⟨rfl, rfl, rfl, by decide +kernel, rfl, by decide +kernel, by decide +kernel⟩
abbrev s_Known_may_be_root : Stmt := inClass (top 40) 2
abbrev N_Known_may_be_root : List Str := ["self", "node", "low", "high"]
theorem sc_Known_may_be_root : FnScope N_Known_may_be_root ["self", "node", "low", "high"] (defScope s_Known_may_be_root) := ⟨rfl, rfl, rfl, by decide +kernel, rfl, by decide +kernel, by decide +kernel⟩
abbrev s_Known_may_be_neighbours : Stmt := inClass (top 40) 3
abbrev N_Known_may_be_neighbours : List Str := ["self", "low", "high"]
theorem sc_Known_may_be_neighbours : FnScope N_Known_may_be_neighbours ["self", "low", "high"] (defScope s_Known_may_be_neighbours) := ⟨rfl, rfl, rfl, by decide +kernel, rfl, by decide +kernel, by decide +kernel⟩
abbrev s_FitTable_init : Stmt := inClass (top 41) 0
abbrev N_FitTable_init : List Str := ["self", "size", "facts", "_"]
theorem sc_FitTable_init : FnScope N_FitTable_init ["self", "size", "facts"] (defScope s_FitTable_init) := ⟨rfl, rfl, rfl, by decide +kernel, rfl, by decide +kernel, by decide +kernel⟩
abbrev s_FitTable_fill_trees : Stmt := inClass (top 41) 1
abbrev N_FitTable_fill_trees : List Str := ["self", "width", "low", "high", "ways", "node"]
theorem sc_FitTable_fill_trees : FnScope N_FitTable_fill_trees ["self"] (defScope s_FitTable_fill_trees) := ⟨rfl, rfl, rfl, by decide +kernel, rfl, by decide +kernel, by decide +kernel⟩
abbrev s_FitTable_fill_chains : Stmt := inClass (top 41) 2
abbrev N_FitTable_fill_chains : List Str := ["self", "low", "ways", "high"]
theorem sc_FitTable_fill_chains : FnScope N_FitTable_fill_chains ["self"] (defScope s_FitTable_fill_chains) := ⟨rfl, rfl, rfl, by decide +kernel, rfl, by decide +kernel, by decide +kernel⟩
abbrev s_FitTable_rooted : Stmt := inClass (top 41) 3
abbrev N_FitTable_rooted : List Str := ["self", "node", "low", "high"]
theorem sc_FitTable_rooted : FnScope N_FitTable_rooted ["self", "node", "low", "high"] (defScope s_FitTable_rooted) := ⟨rfl, rfl, rfl, by decide +kernel, rfl, by decide +kernel, by decide +kernel⟩
abbrev s_FitTable_continued : Stmt := inClass (top 41) 4
abbrev N_FitTable_continued : List Str := ["self", "low", "high"]
theorem sc_FitTable_continued : FnScope N_FitTable_continued ["self", "low", "high"] (defScope s_FitTable_continued) := ⟨rfl, rfl, rfl, by decide +kernel, rfl, by decide +kernel, by decide +kernel⟩
abbrev s_FitTable_tree_at : Stmt := inClass (top 41) 5
abbrev N_FitTable_tree_at : List Str := ["self", "low", "high", "place", "found", "waiting", "node", "before", "behind"]
theorem sc_FitTable_tree_at : FnScope N_FitTable_tree_at ["self", "low", "high", "place"] (defScope s_FitTable_tree_at) := ⟨rfl, rfl, rfl, by decide +kernel, rfl, by decide +kernel, by decide +kernel⟩
abbrev s_FitTable_member : Stmt := inClass (top 41) 6
abbrev N_FitTable_member : List Str := ["self", "place", "removal", "low", "high", "tree_place"]
theorem sc_FitTable_member : FnScope N_FitTable_member ["self", "place"] (defScope s_FitTable_member) := ⟨rfl, rfl, rfl, by decide +kernel, rfl, by decide +kernel, by decide +kernel⟩
abbrev s_count_fits : Stmt := top 42
abbrev N_count_fits : List Str := ["size", "facts"]
theorem sc_count_fits : FnScope N_count_fits ["size", "facts"] (defScope s_count_fits) := ⟨rfl, rfl, rfl, by decide +kernel, rfl, by decide +kernel, by decide +kernel⟩
abbrev s_fit_at : Stmt := top 43
abbrev N_fit_at : List Str := ["size", "facts", "place", "table"]
theorem sc_fit_at : FnScope N_fit_at ["size", "facts", "place"] (defScope s_fit_at) := ⟨rfl, rfl, rfl, by decide +kernel, rfl, by decide +kernel, by decide +kernel⟩
abbrev s_each_fit : Stmt := top 44
abbrev N_each_fit : List Str := ["size", "facts", "table", "place"]

abbrev s_status : Stmt := top 45
abbrev N_status : List Str := ["size", "facts", "fact", "many", "agreeing"]
theorem sc_status : FnScope N_status ["size", "facts", "fact"] (defScope s_status) := ⟨rfl, rfl, rfl, by decide +kernel, rfl, by decide +kernel, by decide +kernel⟩
abbrev s_BadPlace_init : Stmt := inClass (top 11) 0
abbrev N_BadPlace_init : List Str := ["self", "place"]

abbrev s_NoFit_init : Stmt := inClass (top 14) 0
abbrev N_NoFit_init : List Str := ["self", "size"]

abbrev s_l_purse : Stmt := top 47
abbrev N_l_purse : List Str := ["_law_script", "_law_cells", "_law_rest", "_law_cell"]
theorem sc_l_purse : FnScope N_l_purse ["_law_script"] (defScope s_l_purse) := ⟨rfl, rfl, rfl, by decide +kernel, rfl, by decide +kernel, by decide +kernel⟩
abbrev s_l_draw : Stmt := top 48
abbrev N_l_draw : List Str := ["_law_purse_here", "_law_many", "_law_value", "_law_step", "_law_cells", "_law_one", "_law_two", "_law_three"]
theorem sc_l_draw : FnScope N_l_draw ["_law_purse_here", "_law_many"] (defScope s_l_draw) := ⟨rfl, rfl, rfl, by decide +kernel, rfl, by decide +kernel, by decide +kernel⟩
abbrev s_l_removal : Stmt := top 49
abbrev N_l_removal : List Str := ["_law_purse_here", "_law_size", "_law_nodes", "_law_removal_here", "_law_k"]
theorem sc_l_removal : FnScope N_l_removal ["_law_purse_here", "_law_size"] (defScope s_l_removal) := ⟨rfl, rfl, rfl, by decide +kernel, rfl, by decide +kernel, by decide +kernel⟩
abbrev s_l_near : Stmt := top 50
abbrev N_l_near : List Str := ["_law_purse_here", "_law_size", "_law_removal_here", "_law_pick", "_law_near_here", "_law_first", "_law_second", "_law_kept"]
theorem sc_l_near : FnScope N_l_near ["_law_purse_here", "_law_size", "_law_removal_here"] (defScope s_l_near) := ⟨rfl, rfl, rfl, by decide +kernel, rfl, by decide +kernel, by decide +kernel⟩
abbrev s_l_played : Stmt := top 51
abbrev N_l_played : List Str := ["_law_size", "_law_removal_here", "_law_node", "_law_lefts", "_law_rights", "_law_outs"]
theorem sc_l_played : FnScope N_l_played ["_law_size", "_law_removal_here"] (defScope s_l_played) := ⟨rfl, rfl, rfl, by decide +kernel, rfl, by decide +kernel, by decide +kernel⟩
abbrev s_l_read : Stmt := top 52
abbrev N_l_read : List Str := ["_law_size", "_law_text", "_law_node", "_law_roots", "_law_removal_here", "_law_free", "_law_sign"]
theorem sc_l_read : FnScope N_l_read ["_law_size", "_law_text"] (defScope s_l_read) := ⟨rfl, rfl, rfl, by decide +kernel, rfl, by decide +kernel, by decide +kernel⟩
abbrev s_l_key : Stmt := top 53
abbrev N_l_key : List Str := ["_law_size", "_law_world", "_law_keys", "_law_low", "_law_high", "_law_ranges", "_law_pair", "_law_root"]
theorem sc_l_key : FnScope N_l_key ["_law_size", "_law_world"] (defScope s_l_key) := ⟨rfl, rfl, rfl, by decide +kernel, rfl, by decide +kernel, by decide +kernel⟩
abbrev s_l_true : Stmt := top 54
abbrev N_l_true : List Str := ["_law_world", "_law_fact"]
theorem sc_l_true : FnScope N_l_true ["_law_world", "_law_fact"] (defScope s_l_true) := ⟨rfl, rfl, rfl, by decide +kernel, rfl, by decide +kernel, by decide +kernel⟩
abbrev s_l_all : Stmt := top 55
abbrev N_l_all : List Str := ["_law_size", "_law_world", "_law_facts_here", "_law_node", "_law_word"]
theorem sc_l_all : FnScope N_l_all ["_law_size", "_law_world"] (defScope s_l_all) := ⟨rfl, rfl, rfl, by decide +kernel, rfl, by decide +kernel, by decide +kernel⟩
abbrev s_l_facts : Stmt := top 56
abbrev N_l_facts : List Str := ["_law_purse_here", "_law_size", "_law_worlds", "_law_pool", "_law_many", "_law_facts_here", "_law_fact", "_law_k"]
theorem sc_l_facts : FnScope N_l_facts ["_law_purse_here", "_law_size", "_law_worlds"] (defScope s_l_facts) := ⟨rfl, rfl, rfl, by decide +kernel, rfl, by decide +kernel, by decide +kernel⟩
abbrev s_l_caught : Stmt := top 57
abbrev N_l_caught : List Str := ["_law_call", "raised", "_law_marks", "_law_value"]
theorem sc_l_caught : FnScope N_l_caught ["_law_call"] (defScope s_l_caught) := ⟨rfl, rfl, rfl, by decide +kernel, rfl, by decide +kernel, by decide +kernel⟩
abbrev s_l_integer : Stmt := top 58
abbrev N_l_integer : List Str := ["_law_value"]
theorem sc_l_integer : FnScope N_l_integer ["_law_value"] (defScope s_l_integer) := ⟨rfl, rfl, rfl, by decide +kernel, rfl, by decide +kernel, by decide +kernel⟩
abbrev s_l_refused : Stmt := top 59
abbrev N_l_refused : List Str := ["_law_told", "_law_kind", "_law_value"]
theorem sc_l_refused : FnScope N_l_refused ["_law_told", "_law_kind", "_law_value"] (defScope s_l_refused) := ⟨rfl, rfl, rfl, by decide +kernel, rfl, by decide +kernel, by decide +kernel⟩
abbrev s_l_parts : Stmt := top 60
abbrev N_l_parts : List Str := ["_law_size", "_law_facts_here", "_law_parts_here", "_law_marks", "_law_total", "_law_many", "_law_k", "_law_told"]
theorem sc_l_parts : FnScope N_l_parts ["_law_size", "_law_facts_here", "_law_parts_here", "_law_marks", "_law_total"] (defScope s_l_parts) := ⟨rfl, rfl, rfl, by decide +kernel, rfl, by decide +kernel, by decide +kernel⟩
abbrev s_l_totals : Stmt := top 61
abbrev N_l_totals : List Str := ["_law_purse_here", "_law_size", "_law_worlds", "_law_facts_here", "_law_total", "_law_due", "_law_k", "_law_rows", "_law_node", "_law_parts_here", "_law_marks", "_law_part", "_law_link"]
theorem sc_l_totals : FnScope N_l_totals ["_law_purse_here", "_law_size", "_law_worlds", "_law_facts_here", "_law_total"] (defScope s_l_totals) := ⟨rfl, rfl, rfl, by decide +kernel, rfl, by decide +kernel, by decide +kernel⟩
abbrev s_l_key_of : Stmt := top 62
abbrev N_l_key_of : List Str := ["_law_size", "_law_facts_here", "_law_fit", "_law_removal_here", "_law_world", "_law_fact"]
theorem sc_l_key_of : FnScope N_l_key_of ["_law_size", "_law_facts_here", "_law_fit"] (defScope s_l_key_of) := ⟨rfl, rfl, rfl, by decide +kernel, rfl, by decide +kernel, by decide +kernel⟩
abbrev s_l_places : Stmt := top 63
abbrev N_l_places : List Str := ["_law_purse_here", "_law_size", "_law_facts_here", "_law_total", "_law_place", "_law_places_here", "_law_one", "_law_keys", "_law_k", "_law_odd", "_law_passed"]
theorem sc_l_places : FnScope N_l_places ["_law_purse_here", "_law_size", "_law_facts_here", "_law_total"] (defScope s_l_places) := ⟨rfl, rfl, rfl, by decide +kernel, rfl, by decide +kernel, by decide +kernel⟩
abbrev s_l_found : Stmt := top 64
abbrev N_l_found : List Str := ["_law_size", "_law_facts_here", "_law_world", "_law_total", "_law_due", "_law_low", "_law_high", "_law_turn", "_law_place", "_law_told"]
theorem sc_l_found : FnScope N_l_found ["_law_size", "_law_facts_here", "_law_world", "_law_total"] (defScope s_l_found) := ⟨rfl, rfl, rfl, by decide +kernel, rfl, by decide +kernel, by decide +kernel⟩
abbrev s_l_is : Stmt := top 65
abbrev N_l_is : List Str := ["_law_size", "_law_facts_here", "_law_fact", "_law_words", "_law_told"]
theorem sc_l_is : FnScope N_l_is ["_law_size", "_law_facts_here", "_law_fact", "_law_words"] (defScope s_l_is) := ⟨rfl, rfl, rfl, by decide +kernel, rfl, by decide +kernel, by decide +kernel⟩
abbrev s_l_witnessed : Stmt := top 66
abbrev N_l_witnessed : List Str := ["_law_purse_here", "_law_size", "_law_worlds", "_law_facts_here", "_law_fact", "_law_asked", "_law_unlike", "_law_words", "_law_both", "_law_node", "_law_k"]
theorem sc_l_witnessed : FnScope N_l_witnessed ["_law_purse_here", "_law_size", "_law_worlds", "_law_facts_here"] (defScope s_l_witnessed) := ⟨rfl, rfl, rfl, by decide +kernel, rfl, by decide +kernel, by decide +kernel⟩
abbrev s_l_crossing : Stmt := top 67
abbrev N_l_crossing : List Str := ["_law_purse_here", "_law_size", "_law_world", "_law_facts_here", "_law_node", "_law_low", "_law_high", "_law_given", "_law_below", "_law_far"]
theorem sc_l_crossing : FnScope N_l_crossing ["_law_purse_here", "_law_size", "_law_world", "_law_facts_here"] (defScope s_l_crossing) := ⟨rfl, rfl, rfl, by decide +kernel, rfl, by decide +kernel, by decide +kernel⟩
abbrev s_l_listed : Stmt := top 68
abbrev N_l_listed : List Str := ["_law_size", "_law_facts_here", "_law_world", "_law_more", "_law_given", "_law_passed", "_law_fits", "_law_keys", "_law_k", "_law_fit", "_law_node"]
theorem sc_l_listed : FnScope N_l_listed ["_law_size", "_law_facts_here", "_law_world"] (defScope s_l_listed) := ⟨rfl, rfl, rfl, by decide +kernel, rfl, by decide +kernel, by decide +kernel⟩
abbrev s_l_law : Stmt := top 69
abbrev N_l_law : List Str := ["_law_script", "_law_purse_here", "_law_size", "_law_shape", "_law_removal_here", "_law_worlds", "_law_facts_here", "_law_passed", "_law_total", "_law_both"]
theorem sc_l_law : FnScope N_l_law ["_law_script"] (defScope s_l_law) := ⟨rfl, rfl, rfl, by decide +kernel, rfl, by decide +kernel, by decide +kernel⟩
end LK
end

section
/-! LKHeadB1 -/
set_option maxHeartbeats 4000000
namespace LK
open PySem PySem.Spec PyProof.Rows L2
open He (ga ma)
abbrev FnZ : Type := Option (Str × Str × Arguments × FuncBody × Scope × Addr × Addr)
def fnZ (K : PySem.W.Frag) (a : Addr) : FnZ := match K.lookup a with
  | some ⟨_, _, .func fd, _⟩ => some (fd.name, fd.qualname, fd.params, fd.body, fd.scope, fd.globals, fd.builtins)
  | _ => none
structure DefM where
  at_ : PySem.W.Frag → Addr
  name : Str
  qual : Str
  st : Stmt
def DefM.val (d : DefM) : FnZ := some (d.name, d.qual, defArgs d.st, .stmts (defBody d.st), defScope d.st, mainGlobals, builtinsNs)
def isNoneV : Value → Bool
  | .none => true
  | _ => false
def plainB (K : PySem.W.Frag) (a : Addr) (q : Str) : Bool := PySem.W.keepIn K (.ref a) && (match K.lookup a with
  | some ⟨_, _, .func fd, _⟩ => fd.closure.isEmpty && (isNoneV fd.defaults && PySem.W.codeIn K fd.code q)
  | _ => false)
/-! ### the exception classes -/
def oexB (K : PySem.W.Frag) (C : Addr) : Bool := match K.lookup C with
  | some ⟨.type "type", _, .cls cd, sl⟩ => (match cd.mro, sl.toList with
    | .ref C' :: bm, [_, _, _, _, some (.builtin n), _] => decide (C' = C) && (decide (n = "ValueError.__new__") && (!cd.hasDel && (cd.hasDict && PySem.HandSPX.refsVE bm)))
    | _, _ => false)
  | _ => false
def oexF (K : PySem.W.Frag) (C : Addr) : Bool := oexB K C && (He.eqO (PySem.W.findIn K (.ref C) "__setattr__") (some (some (.builtin "object.__setattr__"))) && (decide (PySem.W.subIn K (.ref C) (.type "BaseException") = some true) && (decide (PySem.W.typeIn K (.ref C) = some (.type "type")) && PySem.W.keepIn K (.ref C))))
def initB (K : PySem.W.Frag) (C f : Addr) (q file0 : Str) : Bool := match K.lookup f with
  | some ⟨_, _, .func fd, _⟩ => (match fd.closure, fd.defaults, fd.code with
    | [(n, cc)], .none, .ref cda => decide (n = "__class__") && (PySem.W.codeIn K (.ref cda) q && ((match K.lookup cc with
      | some ⟨_, _, .cell (some (.ref D)), _⟩ => decide (D = C)
      | _ => false) && (match K.lookup cda with
      | some ⟨_, _, .fields vs, _⟩ => (match (vs[2]? : Option Value) with
        | some (.str file _) => file0 == file
        | _ => false)
      | _ => false)))
    | _, _, _ => false)
  | _ => false
def einitB (K : PySem.W.Frag) (C f : Addr) (q file0 : Str) : Bool := initB K C f q file0 && (He.eqO (PySem.W.ks_superIn K C C "__init__") (some (some (.builtin "ValueError.__init__"))) && (decide (PySem.W.subIn K (.ref C) (.type "ValueError") = some true) && (decide (PySem.W.mroIn K C (.ref C) = some true) && He.eqO (PySem.W.nsIn K cStatics "thirdparty.any") (some none))))
/-! ### what else of an exception class, for the catcher -/
def excB (K : PySem.W.Frag) (C : Addr) : Bool := He.eqO (PySem.W.findIn K (.ref C) "__getattribute__") (some (some (.builtin "BaseException.__getattribute__"))) && (He.eqO (PySem.W.findIn K (.ref C) "__getattr__") (some none) && (decide (PySem.W.subIn K (.ref C) (.type "BaseException") = some true) && (PySem.W.hasDictIn K C &&
  (He.eqO (PySem.W.findIn K (.ref C) "__class__") (some (some (.builtin "object.__class__"))) && (He.eqO (PySem.W.specialIn K (.builtin "object.__class__") "__get__") (some (some (.builtin "getset_descriptor.__get__"))) && (decide (PySem.W.takesIn K (.builtin "object.__class__") = some true) && decide (PySem.W.mroIn K C (.type "object") = some true)))))))
def cauB (K : PySem.W.Frag) (C LE LG BS BF : Addr) : Bool := excB K C && (decide (PySem.W.exmOne K (.ref C) (.ref LE) = some true) && (decide (PySem.W.kitOne K (.ref C) (.ref LG) = some false) && (decide (PySem.W.kitOne K (.ref C) (.type "ValueError") = some true) && decide (PySem.W.kitAny K (.ref C) [.ref BS, .ref BF] = some false))))
/-! ### own classes -/
def clsB (K : PySem.W.Frag) (C : Addr) (as : List Str) : Bool := (PySem.W.plainGet K C Str.empty && (PySem.W.hasDictIn K C && (PySem.W.plainOver K C && He.eqO (PySem.W.findIn K (.ref C) "__setattr__") (some (some (.builtin "object.__setattr__")))))) && as.all fun f => He.eqO (PySem.W.findIn K (.ref C) f) (some none)
def methB (K : PySem.W.Frag) (C : Addr) (m : Str) : Bool := He.eqO (PySem.W.findIn K (.ref C) m) (some (some (.ref (ma K C m)))) && (PySem.W.isFn K (.ref (ma K C m)) && PySem.W.keepIn K (.ref (ma K C m)))
def mkB (K : PySem.W.Frag) (C : Addr) : Bool := PySem.W.makesIn K C && (He.eqO (PySem.W.findIn K (.ref C) "__init__") (some (some (.ref (ma K C "__init__")))) && (PySem.W.isFn K (.ref (ma K C "__init__")) && PySem.W.keepIn K (.ref C)))
def readB (K : PySem.W.Frag) (C : Addr) : Bool := PySem.W.readsIn K C (.type "type") && He.eqO (PySem.W.specialIn K (.ref C) "__getattribute__") (some (some (.builtin "type.__getattribute__")))
def fisB (K : PySem.W.Frag) (C : Addr) : Bool := He.eqO (PySem.W.findIn K (.ref C) "__class__") (some (some (.builtin "object.__class__"))) && (He.eqO (PySem.W.specialIn K (.builtin "object.__class__") "__get__") (some (some (.builtin "getset_descriptor.__get__"))) && (decide (PySem.W.takesIn K (.builtin "object.__class__") = some true) && (decide (PySem.W.mroIn K C (.type "object") = some true) && decide (PySem.W.kitOne K (.ref C) (.ref C) = some true))))
end LK
end

section
/-! LKHeadB2 -/
set_option maxHeartbeats 4000000
namespace LK
open PySem PySem.Spec PyProof.Rows L2
open He (ga ma)
def fns : List DefM := [
  ⟨fun K => ga K "check_size", "check_size", "check_size", s_check_size⟩,
  ⟨fun K => ga K "check_operation", "check_operation", "check_operation", s_check_operation⟩,
  ⟨fun K => ga K "fact_is_right", "fact_is_right", "fact_is_right", s_fact_is_right⟩,
  ⟨fun K => ma K (ga K "Links") "__init__", "__init__", "Links.__init__", s_Links_init⟩,
  ⟨fun K => He5.wf K (ga K "Links") "staticmethod" "built", "built", "Links.built", s_Links_built⟩,
  ⟨fun K => ma K (ga K "Links") "left", "left", "Links.left", s_Links_left⟩,
  ⟨fun K => ma K (ga K "Links") "right", "right", "Links.right", s_Links_right⟩,
  ⟨fun K => ma K (ga K "Links") "is_out", "is_out", "Links.is_out", s_Links_is_out⟩,
  ⟨fun K => ma K (ga K "Links") "outs", "outs", "Links.outs", s_Links_outs⟩,
  ⟨fun K => ma K (ga K "Links") "apply_at", "apply_at", "Links.apply_at", s_Links_apply_at⟩,
  ⟨fun K => ma K (ga K "Links") "apply", "apply", "Links.apply", s_Links_apply⟩,
  ⟨fun K => ma K (ga K "Links") "copy", "copy", "Links.copy", s_Links_copy⟩,
  ⟨fun K => ga K "parent_of", "parent_of", "parent_of", s_parent_of⟩,
  ⟨fun K => ga K "parents_of", "parents_of", "parents_of", s_parents_of⟩,
  ⟨fun K => ma K (ga K "Forest") "__init__", "__init__", "Forest.__init__", s_Forest_init⟩,
  ⟨fun K => He5.wf K (ga K "Forest") "staticmethod" "grown", "grown", "Forest.grown", s_Forest_grown⟩,
  ⟨fun K => ma K (ga K "Forest") "__contains__", "__contains__", "Forest.__contains__", s_Forest_contains⟩,
  ⟨fun K => He5.wf K (ga K "Forest") "classmethod" "after", "after", "Forest.after", s_Forest_after⟩,
  ⟨fun K => ma K (ga K "Forest") "__str__", "__str__", "Forest.__str__", s_Forest_str⟩,
  ⟨fun K => ga K "check_facts", "check_facts", "check_facts", s_check_facts⟩,
  ⟨fun K => ga K "note_link", "note_link", "note_link", s_note_link⟩,
  ⟨fun K => ma K (ga K "Known") "__init__", "__init__", "Known.__init__", s_Known_init⟩,
  ⟨fun K => ma K (ga K "Known") "links_agree", "links_agree", "Known.links_agree", s_Known_links_agree⟩,
  ⟨fun K => ma K (ga K "Known") "may_be_root", "may_be_root", "Known.may_be_root", s_Known_may_be_root⟩,
  ⟨fun K => ma K (ga K "Known") "may_be_neighbours", "may_be_neighbours", "Known.may_be_neighbours", s_Known_may_be_neighbours⟩,
  ⟨fun K => ma K (ga K "FitTable") "rooted", "rooted", "FitTable.rooted", s_FitTable_rooted⟩,
  ⟨fun K => ma K (ga K "FitTable") "continued", "continued", "FitTable.continued", s_FitTable_continued⟩,
  ⟨fun K => ma K (ga K "FitTable") "fill_trees", "fill_trees", "FitTable.fill_trees", s_FitTable_fill_trees⟩,
  ⟨fun K => ma K (ga K "FitTable") "fill_chains", "fill_chains", "FitTable.fill_chains", s_FitTable_fill_chains⟩,
  ⟨fun K => ma K (ga K "FitTable") "__init__", "__init__", "FitTable.__init__", s_FitTable_init⟩,
  ⟨fun K => ma K (ga K "FitTable") "tree_at", "tree_at", "FitTable.tree_at", s_FitTable_tree_at⟩,
  ⟨fun K => ma K (ga K "FitTable") "member", "member", "FitTable.member", s_FitTable_member⟩,
  ⟨fun K => ga K "count_fits", "count_fits", "count_fits", s_count_fits⟩,
  ⟨fun K => ga K "fit_at", "fit_at", "fit_at", s_fit_at⟩,
  ⟨fun K => ga K "status", "status", "status", s_status⟩,
  ⟨fun K => ga K "each_fit", "each_fit", "each_fit", s_each_fit⟩,
  ⟨fun K => ga K "_law_draw", "_law_draw", "_law_draw", s_l_draw⟩,
  ⟨fun K => ga K "_law_purse", "_law_purse", "_law_purse", s_l_purse⟩,
  ⟨fun K => ga K "_law_removal", "_law_removal", "_law_removal", s_l_removal⟩,
  ⟨fun K => ga K "_law_near", "_law_near", "_law_near", s_l_near⟩,
  ⟨fun K => ga K "_law_played", "_law_played", "_law_played", s_l_played⟩,
  ⟨fun K => ga K "_law_true", "_law_true", "_law_true", s_l_true⟩,
  ⟨fun K => ga K "_law_all", "_law_all", "_law_all", s_l_all⟩,
  ⟨fun K => ga K "_law_facts", "_law_facts", "_law_facts", s_l_facts⟩,
  ⟨fun K => ga K "_law_key", "_law_key", "_law_key", s_l_key⟩,
  ⟨fun K => ga K "_law_read", "_law_read", "_law_read", s_l_read⟩,
  ⟨fun K => ga K "_law_integer", "_law_integer", "_law_integer", s_l_integer⟩,
  ⟨fun K => ga K "_law_refused", "_law_refused", "_law_refused", s_l_refused⟩,
  ⟨fun K => ga K "_law_key_of", "_law_key_of", "_law_key_of", s_l_key_of⟩,
  ⟨fun K => ga K "_law_found", "_law_found", "_law_found", s_l_found⟩,
  ⟨fun K => ga K "_law_is", "_law_is", "_law_is", s_l_is⟩,
  ⟨fun K => ga K "_law_parts", "_law_parts", "_law_parts", s_l_parts⟩,
  ⟨fun K => ga K "_law_totals", "_law_totals", "_law_totals", s_l_totals⟩,
  ⟨fun K => ga K "_law_crossing", "_law_crossing", "_law_crossing", s_l_crossing⟩,
  ⟨fun K => ga K "_law_listed", "_law_listed", "_law_listed", s_l_listed⟩,
  ⟨fun K => ga K "_law_places", "_law_places", "_law_places", s_l_places⟩,
  ⟨fun K => ga K "_law_caught", "_law_caught", "_law_caught", s_l_caught⟩,
  ⟨fun K => ga K "_law_witnessed", "_law_witnessed", "_law_witnessed", s_l_witnessed⟩,
  ⟨fun K => ga K "law", "law", "law", s_l_law⟩]
def xfns : List DefM := [⟨fun K => ma K (ga K "BadPlace") "__init__", "__init__", "BadPlace.__init__", s_BadPlace_init⟩, ⟨fun K => ma K (ga K "NoFit") "__init__", "__init__", "NoFit.__init__", s_NoFit_init⟩]
def frees : List Str := [("len" : Str), ("int" : Str), ("bool" : Str), ("abs" : Str), ("min" : Str), ("sum" : Str), ("sorted" : Str), ("divmod" : Str), ("list" : Str), ("isinstance" : Str), ("str" : Str), ("range" : Str), ("enumerate" : Str), ("reversed" : Str), ("ValueError" : Str), ("super" : Str)]
def glos : List Str := [("Links" : Str), ("Forest" : Str), ("Known" : Str), ("FitTable" : Str), ("BadPlace" : Str), ("NoFit" : Str), ("LinkError" : Str), ("LogError" : Str), ("BadSize" : Str), ("BadFact" : Str), ("check_size" : Str), ("check_operation" : Str), ("fact_is_right" : Str), ("parent_of" : Str), ("parents_of" : Str), ("check_facts" : Str), ("note_link" : Str), ("count_fits" : Str), ("fit_at" : Str), ("status" : Str), ("each_fit" : Str), ("_law_draw" : Str), ("_law_purse" : Str), ("_law_removal" : Str), ("_law_near" : Str), ("_law_played" : Str), ("_law_true" : Str), ("_law_all" : Str), ("_law_facts" : Str), ("_law_key" : Str), ("_law_read" : Str), ("_law_integer" : Str), ("_law_refused" : Str), ("_law_key_of" : Str), ("_law_found" : Str), ("_law_is" : Str), ("_law_parts" : Str), ("_law_totals" : Str), ("_law_crossing" : Str), ("_law_listed" : Str), ("_law_places" : Str), ("_law_caught" : Str), ("_law_witnessed" : Str), ("law" : Str)]
def meths : List (Str × Str) := [(("Links" : Str), ("left" : Str)), (("Links" : Str), ("right" : Str)), (("Links" : Str), ("is_out" : Str)), (("Links" : Str), ("outs" : Str)), (("Links" : Str), ("apply_at" : Str)), (("Links" : Str), ("apply" : Str)), (("Links" : Str), ("copy" : Str)), (("Forest" : Str), ("__contains__" : Str)), (("Forest" : Str), ("__str__" : Str)), (("Known" : Str), ("links_agree" : Str)), (("Known" : Str), ("may_be_root" : Str)), (("Known" : Str), ("may_be_neighbours" : Str)), (("FitTable" : Str), ("rooted" : Str)), (("FitTable" : Str), ("continued" : Str)), (("FitTable" : Str), ("fill_trees" : Str)), (("FitTable" : Str), ("fill_chains" : Str)), (("FitTable" : Str), ("tree_at" : Str)), (("FitTable" : Str), ("member" : Str))]
def own4 : List (Str × List Str) := [(("Links" : Str), [("size" : Str), ("_lefts" : Str), ("_rights" : Str), ("_flags" : Str)]), (("Forest" : Str), [("size" : Str), ("_links" : Str), ("_parents" : Str)]), (("Known" : Str), [("must_be_in" : Str), ("must_be_out" : Str), ("given_lefts" : Str), ("given_rights" : Str)]), (("FitTable" : Str), [("size" : Str), ("known" : Str), ("tree_counts" : Str), ("chain_counts" : Str), ("fit_count" : Str)])]
def mostB (K : PySem.W.Frag) : Bool := match PySem.W.nsIn K mainGlobals "MOST_NODES" with
  | some (some (.int j _)) => decide (j = 60)
  | _ => false
/-- the code object of the def at f -/
def cdA (K : PySem.W.Frag) (f : Addr) : Addr := match K.lookup f with
  | some ⟨_, _, .func fd, _⟩ => (match fd.code with | .ref c => c | _ => 0)
  | _ => 0
def cdB (K : PySem.W.Frag) (f : Addr) : Bool := match K.lookup f with
  | some ⟨_, _, .func fd, _⟩ => (match fd.code with | .ref _ => true | _ => false)
  | _ => false
def excFB (K : PySem.W.Frag) (x p q file0 : Str) : Bool := oexF K (ga K x) && (He.eqO (PySem.W.findIn K (.ref (ga K x)) p) (some none) && (He.eqO (PySem.W.findIn K (.ref (ga K x)) "__init__") (some (some (.ref (ma K (ga K x) "__init__")))) && (decide (PySem.W.typeIn K (.ref (ma K (ga K x) "__init__")) = some (.type "function")) && (einitB K (ga K x) (ma K (ga K x) "__init__") q file0 && cauB K (ga K x) (ga K "LinkError") (ga K "LogError") (ga K "BadSize") (ga K "BadFact")))))
def B (K : PySem.W.Frag) (file0 : Str) (tp tw : Addr) : Bool :=
  (frees.all fun x => He.eqO (PySem.W.nsIn K mainGlobals x) (some none)) && ((glos.all fun x => He.eqO (PySem.W.nsIn K mainGlobals x) (some (some (.ref (ga K x))))) && ((fns.all fun d => plainB K (d.at_ K) d.qual) && (mostB K &&
  ((own4.all fun p => clsB K (ga K p.1) p.2 && mkB K (ga K p.1)) && ((meths.all fun p => methB K (ga K p.1) p.2) && (readB K (ga K "Links") && (readB K (ga K "Forest") && (He5.wrapB K (ga K "Links") "staticmethod" "staticmethod.__get__" "built" && (He5.wrapB K (ga K "Forest") "staticmethod" "staticmethod.__get__" "grown" &&
  (He5.wrapB K (ga K "Forest") "classmethod" "classmethod.__get__" "after" && (PySem.W.fnIn K (He5.wf K (ga K "Forest") "classmethod" "after") && (fisB K (ga K "Forest") && (excFB K "BadPlace" "place" "BadPlace.__init__" file0 && (excFB K "NoFit" "size" "NoFit.__init__" file0 &&
  (decide (PySem.W.kitOne K (.ref (ga K "BadPlace")) (.ref (ga K "BadPlace")) = some true) && (decide (PySem.W.kitOne K (.ref (ga K "BadPlace")) (.ref (ga K "NoFit")) = some false) && (decide (PySem.W.kitOne K (.ref (ga K "NoFit")) (.ref (ga K "BadPlace")) = some false) && (decide (PySem.W.kitOne K (.ref (ga K "NoFit")) (.ref (ga K "NoFit")) = some true) &&
  (cdB K (ga K "_law_places") && (cdB K (ga K "_law_witnessed") && (PySem.W.codeHdIn K (cdA K (ga K "_law_places")) tp && (PySem.W.codeHdIn K (cdA K (ga K "_law_witnessed")) tw && (decide (tp ≠ tw) && ((K.lookup tp).isNone && (K.lookup tw).isNone))))))))))))))))))))))))
end LK
end

section
/-! LKHook -/
set_option maxHeartbeats 0
namespace LK
open PySem PySem.W PySem.Calls PyProof.Rows
open He (ga ma frG)
abbrev R : OpenRow := OpenLaw.row PySem.Challenge.rw_latelink_k40_whole_every_fit_has_a_place
abbrev qv : Program := view R.prog [69]
def names : List PySem.Str := ([("_wall" : PySem.Str), ("LinkError" : PySem.Str), ("LogError" : PySem.Str), ("BadOperation" : PySem.Str), ("Illegal" : PySem.Str), ("BadSize" : PySem.Str), ("BadNode" : PySem.Str), ("BadText" : PySem.Str), ("BadDump" : PySem.Str), ("BadRemoval" : PySem.Str), ("BadPlace" : PySem.Str), ("BadFact" : PySem.Str), ("NotChecked" : PySem.Str), ("NoFit" : PySem.Str), ("MOST_NODES" : PySem.Str), ("MOST_DIGITS" : PySem.Str), ("check_size" : PySem.Str), ("check_operation" : PySem.Str), ("is_number" : PySem.Str), ("fact_is_right" : PySem.Str), ("check_facts" : PySem.Str), ("PARTS" : PySem.Str), ("_numbers" : PySem.Str), ("_read_rights" : PySem.Str), ("_read_lefts" : PySem.Str), ("_read_outs" : PySem.Str), ("Links" : PySem.Str), ("root_of" : PySem.Str), ("has_trees" : PySem.Str), ("parent_of" : PySem.Str)] : List PySem.Str) ++ ([("parents_of" : PySem.Str), ("followers" : PySem.Str), ("Forest" : PySem.Str), ("note_link" : PySem.Str), ("Known" : PySem.Str), ("FitTable" : PySem.Str), ("count_fits" : PySem.Str), ("fit_at" : PySem.Str), ("each_fit" : PySem.Str), ("status" : PySem.Str), ("_law_purse" : PySem.Str), ("_law_draw" : PySem.Str), ("_law_removal" : PySem.Str), ("_law_near" : PySem.Str), ("_law_played" : PySem.Str), ("_law_read" : PySem.Str), ("_law_key" : PySem.Str), ("_law_true" : PySem.Str), ("_law_all" : PySem.Str), ("_law_facts" : PySem.Str), ("_law_caught" : PySem.Str), ("_law_integer" : PySem.Str), ("_law_refused" : PySem.Str), ("_law_parts" : PySem.Str), ("_law_totals" : PySem.Str), ("_law_key_of" : PySem.Str), ("_law_places" : PySem.Str), ("_law_found" : PySem.Str), ("_law_is" : PySem.Str), ("_law_witnessed" : PySem.Str), ("_law_crossing" : PySem.Str), ("_law_listed" : PySem.Str)] : List PySem.Str)
abbrev file0 : PySem.Str := R.prog.main.file
abbrev Al : Type := Bool × List FnZ × List FnZ × List (Option Obj)
def emptyTab : Obj := { cls := .none, data := .fields #[] }
/-- where what the facts look at stands (behind the top's run): the globals, the classes and their dicts, the wrapped methods, the exceptions' inits, the defs with their code objects -/
def spots : List Addr := [3, 497, 496, 689, 688, 738, 737, 795, 794, 212, 211, 275, 274, 31, 30, 44, 43, 107, 106, 233, 232, 361, 579, 589, 209, 272, 208, 271, 197, 260, 2, 284, 283, 291, 290, 305, 304, 352, 351, 359, 358, 379, 378, 386, 385, 393, 392, 398, 397, 419, 418, 412, 411, 454, 453, 522, 521, 529, 528, 550, 549, 577, 576, 604, 603, 587, 586, 611, 610, 312, 311, 700, 699, 714, 713, 721, 720, 728, 727, 735, 734, 771, 770, 778, 777, 759, 758, 764, 763, 754, 753, 785, 784, 792, 791, 806, 805, 813, 812, 827, 826, 820, 819, 839, 838, 832, 831, 846, 845, 853, 852, 858, 857, 879, 878, 884, 883, 889, 888, 872, 871, 865, 864, 903, 902, 910, 909, 929, 928, 941, 940, 948, 947, 917, 916, 922, 921, 960, 959, 965, 964, 934, 933, 896, 895, 953, 952, 972, 971]
def obsG (g : Addr → Option Obj) : Al :=
  let K := frG g spots
  (B K file0 931 950, fns.map (fun d => fnZ K (d.at_ K)), xfns.map (fun d => fnZ K (d.at_ K)), [g 931, g 950])
def valM : Al := (true, fns.map DefM.val, xfns.map DefM.val, [some emptyTab, some emptyTab])
def hk : Hook where
  α := Al
  obs := fun s => obsG s.heap.get?
  val := fun _ => valM
  says := fun _ h => ∃ (K : Frag) (tp tw : Addr), K.In h ∧ (B K file0 tp tw, fns.map (fun d => fnZ K (d.at_ K)), xfns.map (fun d => fnZ K (d.at_ K)), [h.get? tp, h.get? tw]) = valM
  of := fun _ _ e => ⟨_, _, _, He.frG_in, e⟩
  keeps := fun _ h h' ⟨K, tp, tw, hK, c⟩ k => by
    refine ⟨K, tp, tw, Frag.In.keeps hK k, ?_⟩
    have c4 : [h.get? tp, h.get? tw] = [some emptyTab, some emptyTab] := congrArg (fun z : Al => z.2.2.2) c
    have e1 : h.get? tp = some emptyTab := by injection c4
    have e2 : h.get? tw = some emptyTab := by injection c4 with _ q; injection q
    rw [k _ _ e1, k _ _ e2, ← e1]
    rw [e2, ← e1] at c
    exact c
def ob (s : SharedT) : Al := obsG (HandSHeadRun.getT s)
theorem ob_eq (s : SharedT) : ob s = hk.obs s.abs := by
  have e : HandSHeadRun.getT s = s.abs.heap.get? := funext (HandSHeadRun.getT_eq s)
  unfold ob
  rw [e] <;> rfl
end LK
end

section
/-! LKRun -/
set_option maxHeartbeats 0
namespace LK
open PySem PySem.W PySem.Calls PyProof.Rows
theorem run (w : World) : HandSHeadRun.RunEq R qv hk ob 60000 names w := by
  intro os
  kernel_rfl
end LK
end

section
/-! LKMath1 -/
namespace LK

/-! ### facts, trees, chains -/
inductive Ft where
  | inn (x : Nat) | out (x : Nat) | lf (x l : Nat) | rt (x r : Nat)
deriving DecidableEq
def Ft.ok (n : Nat) : Ft → Prop
  | .inn x => 1 ≤ x ∧ x ≤ n
  | .out x => 1 ≤ x ∧ x ≤ n
  | .lf x l => 1 ≤ x ∧ x ≤ n + 1 ∧ l < x
  | .rt x r => x ≤ n ∧ x < r ∧ r ≤ n + 1
inductive Tr where
  | nil : Tr
  | node (l : Tr) (x : Nat) (r : Tr) : Tr
abbrev Ch := List (Tr × Nat)

/-- a standing by its links and flags -/
structure Wd where
  L : Nat → Int
  R : Nat → Int
  O : Nat → Bool
def put {α : Type} (f : Nat → α) (k : Nat) (v : α) : Nat → α := fun j => if j = k then v else f j
theorem put_same {α : Type} {f : Nat → α} {k : Nat} {v : α} : put f k v k = v := by simp [put]
theorem put_ne {α : Type} {f : Nat → α} {k j : Nat} {v : α} (h : j ≠ k) : put f k v j = f j := by simp [put, h]
def wd0 : Wd := ⟨fun i => (i : Int) - 1, fun i => (i : Int) + 1, fun _ => false⟩
def unl (W : Wd) (x : Nat) : Wd := ⟨put W.L (W.R x).toNat (W.L x), put W.R (W.L x).toNat (W.R x), put W.O x true⟩
def play (rem : List Nat) : Wd := rem.foldl unl wd0

/-- the tree t stands over the nodes between a and b -/
def TreeOn (W : Wd) : Tr → Nat → Nat → Prop
  | .nil, a, b => b = a + 1
  | .node l x r, a, b => W.L x = (a : Int) ∧ W.R x = (b : Int) ∧ W.O x = true ∧ TreeOn W l a x ∧ TreeOn W r x b
def ChainOn (W : Wd) (n : Nat) : Ch → Nat → Prop
  | [], low => low = n + 1
  | (t, h) :: c, low => TreeOn W t low h ∧ W.R low = (h : Int) ∧ W.L h = (low : Int) ∧ W.O h = false ∧ ChainOn W n c h
structure Stand (W : Wd) (n : Nat) (c : Ch) : Prop where
  o0 : W.O 0 = false
  l0 : W.L 0 = -1
  rn : W.R (n + 1) = (n : Int) + 2
  ch : ChainOn W n c 0

theorem TreeOn.lt {W : Wd} : ∀ {t : Tr} {a b : Nat}, TreeOn W t a b → a < b
  | .nil, a, b, h => by unfold TreeOn at h; omega
  | .node l x r, a, b, h => by
    obtain ⟨_, _, _, h1, h2⟩ := h
    have := h1.lt; have := h2.lt; omega
theorem TreeOn.congr {W W' : Wd} : ∀ {t : Tr} {a b : Nat}, TreeOn W t a b → (∀ j, a < j → j < b → W'.L j = W.L j ∧ W'.R j = W.R j ∧ W'.O j = W.O j) → TreeOn W' t a b
  | .nil, a, b, h, _ => h
  | .node l x r, a, b, h, k => by
    obtain ⟨hl, hr, ho, h1, h2⟩ := h
    have l1 := h1.lt; have l2 := h2.lt
    obtain ⟨k1, k2, k3⟩ := k x l1 l2
    exact ⟨k1.trans hl, k2.trans hr, k3.trans ho, h1.congr fun j p q => k j p (by omega), h2.congr fun j p q => k j (by omega) q⟩
theorem ChainOn.le {W : Wd} {n : Nat} : ∀ {c : Ch} {low : Nat}, ChainOn W n c low → low ≤ n + 1
  | [], low, h => by unfold ChainOn at h; omega
  | (t, x) :: c, low, h => by
    obtain ⟨h1, _, _, _, h2⟩ := h
    have := h1.lt; have := h2.le; omega
theorem ChainOn.congr {W W' : Wd} {n : Nat} : ∀ {c : Ch} {low : Nat}, ChainOn W n c low → (∀ j, low < j → j ≤ n + 1 → W'.L j = W.L j ∧ W'.O j = W.O j) → (∀ j, low ≤ j → j ≤ n → W'.R j = W.R j) → ChainOn W' n c low
  | [], low, h, _, _ => h
  | (t, x) :: c, low, h, k, kr => by
    obtain ⟨h1, hr, hl, ho, h2⟩ := h
    have l1 := h1.lt; have l2 := h2.le
    obtain ⟨k1, k3⟩ := k x l1 l2
    exact ⟨h1.congr fun j p q => ⟨(k j p (by omega)).1, kr j (by omega) (by omega), (k j p (by omega)).2⟩, (kr low (Nat.le_refl _) (by omega)).trans hr, k1.trans hl, k3.trans ho, h2.congr (fun j p q => k j (by omega) q) fun j p q => kr j (by omega) q⟩

/-- behind an unlink: two neighbours' trees become one -/
def merge (x : Nat) : Ch → Ch
  | (t, h) :: (t', h') :: c => if h = x then (.node t x t', h') :: c else (t, h) :: merge x ((t', h') :: c)
  | c => c
theorem in_chain {W : Wd} {n x : Nat} : ∀ {c : Ch} {low : Nat}, ChainOn W n c low → low < x → x ≤ n → W.O x = false → 
    ∃ (t t' : Tr) (a b : Nat), TreeOn W t a x ∧ TreeOn W t' x b ∧ W.L x = (a : Int) ∧ W.R x = (b : Int) ∧ low ≤ a ∧ b ≤ n + 1 := by
  intro c
  induction c with
  | nil => intro low h h1 h2 _; unfold ChainOn at h; omega
  | cons p c ih =>
    intro low h h1 h2 ho
    obtain ⟨t, hh⟩ := p
    obtain ⟨q1, qr, ql, qo, q2⟩ := h
    have l1 := q1.lt; have l2 := q2.le
    have notin : ∀ {t : Tr} {a b : Nat}, TreeOn W t a b → a < x → x < b → False := by
      intro t
      induction t with
      | nil => intro a b h p q; unfold TreeOn at h; omega
      | node l y r i1 i2 =>
        intro a b h p q
        obtain ⟨_, _, oo, e1, e2⟩ := h
        rcases Nat.lt_trichotomy x y with z | z | z
        · exact i1 e1 p z
        · subst z; rw [ho] at oo; cases oo
        · exact i2 e2 z q
    rcases Nat.lt_trichotomy x hh with z | z | z
    · exact (notin q1 h1 z).elim
    · subst z
      cases c with
      | nil => unfold ChainOn at q2; omega
      | cons p' c' =>
        obtain ⟨t', h'⟩ := p'
        obtain ⟨r1, rr, rl, ro, r2⟩ := q2
        have := r2.le
        exact ⟨t, t', low, h', q1, r1, ql, rr, Nat.le_refl _, this⟩
    · obtain ⟨t, t', a, b, g1, g2, g3, g4, g5, g6⟩ := ih q2 z h2 ho
      exact ⟨t, t', a, b, g1, g2, g3, g4, by omega, g6⟩
theorem unl_chain {W : Wd} {n x : Nat} : ∀ {c : Ch} {low : Nat}, ChainOn W n c low → low < x → x ≤ n → W.O x = false → ChainOn (unl W x) n (merge x c) low := by
  intro c
  induction c with
  | nil => intro low h h1 h2 _; unfold ChainOn at h; omega
  | cons p c ih =>
    intro low h h1 h2 ho
    obtain ⟨a0, b0, aa, bb, ta, tb, eL, eR, gla, gbn⟩ := in_chain h h1 h2 ho
    have la := ta.lt; have lb := tb.lt
    have eLn : (W.L x).toNat = aa := by rw [eL]; rfl
    have eRn : (W.R x).toNat = bb := by rw [eR]; rfl
    have vL : ∀ j, (unl W x).L j = if j = bb then (aa : Int) else W.L j := fun j => by simp only [unl, put, eRn, eL]
    have vR : ∀ j, (unl W x).R j = if j = aa then (bb : Int) else W.R j := fun j => by simp only [unl, put, eLn, eR]
    have vO : ∀ j, (unl W x).O j = if j = x then true else W.O j := fun j => by simp only [unl, put]
    obtain ⟨t, hh⟩ := p
    obtain ⟨q1, qr, ql, qo, q2⟩ := h
    have l1 := q1.lt; have l2 := q2.le
    cases c with
    | nil =>
      unfold ChainOn at q2
      -- the range up to the tail holds x: not possible, x is in
      exfalso
      have notin : ∀ {t : Tr} {a b : Nat}, TreeOn W t a b → a < x → x < b → False := by
        intro t
        induction t with
        | nil => intro a b h p q; unfold TreeOn at h; omega
        | node l y r i1 i2 =>
          intro a b h p q
          obtain ⟨_, _, oo, e1, e2⟩ := h
          rcases Nat.lt_trichotomy x y with z | z | z
          · exact i1 e1 p z
          · subst z; rw [ho] at oo; cases oo
          · exact i2 e2 z q
      exact notin q1 h1 (by omega)
    | cons p' c' =>
      obtain ⟨t', h'⟩ := p'
      unfold merge
      by_cases hx : hh = x
      · rw [if_pos hx]
        subst hx
        obtain ⟨r1, rr, rl, ro, r2⟩ := q2
        have l3 := r1.lt; have l4 := r2.le
        have eaa : aa = low := by rw [eL] at ql; omega
        have ebb : bb = h' := by rw [eR] at rr; omega
        subst eaa ebb
        refine ⟨⟨by rw [vL, if_neg (by omega)]; exact eL, by rw [vR, if_neg (by omega)]; exact eR, by rw [vO, if_pos rfl], ?_, ?_⟩, by rw [vR, if_pos rfl], by rw [vL, if_pos rfl], by rw [vO, if_neg (by omega)]; exact ro, ?_⟩
        · exact q1.congr fun j p q => ⟨by rw [vL, if_neg (by omega)], by rw [vR, if_neg (by omega)], by rw [vO, if_neg (by omega)]⟩
        · exact r1.congr fun j p q => ⟨by rw [vL, if_neg (by omega)], by rw [vR, if_neg (by omega)], by rw [vO, if_neg (by omega)]⟩
        · exact r2.congr (fun j p q => ⟨by rw [vL, if_neg (by omega)], by rw [vO, if_neg (by omega)]⟩) fun j p q => by rw [vR, if_neg (by omega)]
      · rw [if_neg hx]
        have hlt : hh < x := by
          rcases Nat.lt_trichotomy x hh with z | z | z
          · exfalso
            have notin : ∀ {t : Tr} {a b : Nat}, TreeOn W t a b → a < x → x < b → False := by
              intro t
              induction t with
              | nil => intro a b h p q; unfold TreeOn at h; omega
              | node l y r i1 i2 =>
                intro a b h p q
                obtain ⟨_, _, oo, e1, e2⟩ := h
                rcases Nat.lt_trichotomy x y with z | z | z
                · exact i1 e1 p z
                · subst z; rw [ho] at oo; cases oo
                · exact i2 e2 z q
            exact notin q1 h1 z
          · exact absurd z.symm hx
          · exact z
        obtain ⟨_, _, a2, b2, ta2, tb2, eL2, eR2, gla2, gbn2⟩ := in_chain q2 hlt h2 ho
        have e1 : aa = a2 := by rw [eL] at eL2; omega
        have e2 : bb = b2 := by rw [eR] at eR2; omega
        refine ⟨q1.congr fun j p q => ⟨by rw [vL, if_neg (by omega)], by rw [vR, if_neg (by omega)], by rw [vO, if_neg (by omega)]⟩, by rw [vR, if_neg (by omega)]; exact qr, by rw [vL, if_neg (by omega)]; exact ql, by rw [vO, if_neg hx]; exact qo, ?_⟩
        exact ih q2 hlt h2 ho
theorem unl_stand {W : Wd} {n x : Nat} {c : Ch} (h : Stand W n c) (h1 : 1 ≤ x) (h2 : x ≤ n) (ho : W.O x = false) : Stand (unl W x) n (merge x c) := by
  obtain ⟨_, _, aa, bb, ta, tb, eL, eR, _, gbn⟩ := in_chain h.ch h1 h2 ho
  have la := ta.lt; have lb := tb.lt
  have eLn : (W.L x).toNat = aa := by rw [eL]; rfl
  have eRn : (W.R x).toNat = bb := by rw [eR]; rfl
  refine ⟨?_, ?_, ?_, unl_chain h.ch h1 h2 ho⟩
  · show put W.O x true 0 = false
    rw [put_ne (by omega)]; exact h.o0
  · show put W.L (W.R x).toNat (W.L x) 0 = -1
    rw [eRn, put_ne (by omega)]; exact h.l0
  · show put W.R (W.L x).toNat (W.R x) (n + 1) = _
    rw [eLn, put_ne (by omega)]; exact h.rn
/-- the whole list -/
def whole : Nat → Nat → Ch
  | 0, _ => []
  | k + 1, low => (.nil, low + 1) :: whole k (low + 1)
theorem whole_chain {n : Nat} : ∀ {k low : Nat}, low + k = n + 1 → ChainOn wd0 n (whole k low) low
  | 0, low, h => by unfold whole ChainOn; omega
  | k + 1, low, h => ⟨rfl, by simp [wd0], by simp [wd0], rfl, whole_chain (by omega)⟩
theorem whole_stand (n : Nat) : Stand wd0 n (whole (n + 1) 0) := ⟨rfl, rfl, by simp [wd0]; omega, whole_chain (by omega)⟩
theorem unl_O {W : Wd} {x j : Nat} : (unl W x).O j = if j = x then true else W.O j := by simp only [unl, put]
theorem play_stand {n : Nat} : ∀ (rem : List Nat) {W : Wd} {c : Ch}, Stand W n c → rem.Nodup → (∀ x ∈ rem, 1 ≤ x ∧ x ≤ n ∧ W.O x = false) → ∃ c', Stand (rem.foldl unl W) n c'
  | [], W, c, h, _, _ => ⟨c, h⟩
  | x :: rem, W, c, h, nd, k => by
    obtain ⟨k1, k2, k3⟩ := k x List.mem_cons_self
    have nd' := List.nodup_cons.mp nd
    refine play_stand rem (unl_stand h k1 k2 k3) nd'.2 fun y hy => ?_
    obtain ⟨j1, j2, j3⟩ := k y (List.mem_cons_of_mem _ hy)
    refine ⟨j1, j2, ?_⟩
    rw [unl_O, if_neg (fun e : y = x => nd'.1 (e ▸ hy))]; exact j3
theorem play_any {n : Nat} {rem : List Nat} (nd : rem.Nodup) (h : ∀ x ∈ rem, 1 ≤ x ∧ x ≤ n) : ∃ c, Stand (play rem) n c :=
  play_stand rem (whole_stand n) nd fun x hx => ⟨(h x hx).1, (h x hx).2, rfl⟩

/-! ### the order in which a tree's nodes are unlinked -/
def post : Tr → List Nat
  | .nil => []
  | .node l x r => post l ++ post r ++ [x]
def rpre : Tr → List Nat
  | .nil => []
  | .node l x r => x :: (rpre r ++ rpre l)
theorem rpre_rev : ∀ t : Tr, (rpre t).reverse = post t
  | .nil => rfl
  | .node l x r => by simp [rpre, post, rpre_rev l, rpre_rev r]
def chPost : Ch → List Nat
  | [] => []
  | (t, _) :: c => post t ++ chPost c
/-- a tree's, a chain's form, without links -/
def TreeF : Tr → Nat → Nat → Prop
  | .nil, a, b => b = a + 1
  | .node l x r, a, b => TreeF l a x ∧ TreeF r x b
def ChainF (n : Nat) : Ch → Nat → Prop
  | [], low => low = n + 1
  | (t, h) :: c, low => TreeF t low h ∧ ChainF n c h
theorem TreeF.lt : ∀ {t : Tr} {a b : Nat}, TreeF t a b → a < b
  | .nil, a, b, h => by unfold TreeF at h; omega
  | .node l x r, a, b, h => by
    obtain ⟨h1, h2⟩ := h
    have := h1.lt; have := h2.lt; omega
theorem ChainF.le {n : Nat} : ∀ {c : Ch} {low : Nat}, ChainF n c low → low ≤ n + 1
  | [], low, h => by unfold ChainF at h; omega
  | (t, x) :: c, low, h => by
    obtain ⟨h1, h2⟩ := h
    have := h1.lt; have := h2.le; omega
theorem TreeOn.form {W : Wd} : ∀ {t : Tr} {a b : Nat}, TreeOn W t a b → TreeF t a b
  | .nil, _, _, h => h
  | .node l x r, _, _, h => ⟨h.2.2.2.1.form, h.2.2.2.2.form⟩
theorem ChainOn.form {W : Wd} {n : Nat} : ∀ {c : Ch} {low : Nat}, ChainOn W n c low → ChainF n c low
  | [], _, h => h
  | (t, x) :: c, _, h => ⟨h.1.form, h.2.2.2.2.form⟩
theorem post_mem : ∀ {t : Tr} {a b : Nat}, TreeF t a b → ∀ x ∈ post t, a < x ∧ x < b
  | .nil, _, _, _, x, hx => by simp [post] at hx
  | .node l y r, a, b, h, x, hx => by
    obtain ⟨h1, h2⟩ := h
    have l1 := h1.lt; have l2 := h2.lt
    simp only [post, List.mem_append, List.mem_singleton] at hx
    rcases hx with (hx | hx) | hx
    · have := post_mem h1 x hx; omega
    · have := post_mem h2 x hx; omega
    · omega
theorem post_nodup : ∀ {t : Tr} {a b : Nat}, TreeF t a b → (post t).Nodup
  | .nil, _, _, _ => by simp [post]
  | .node l y r, a, b, h => by
    obtain ⟨h1, h2⟩ := h
    have l1 := h1.lt; have l2 := h2.lt
    have m1 := post_mem h1; have m2 := post_mem h2
    simp only [post]
    rw [List.nodup_append, List.nodup_append]
    refine ⟨⟨post_nodup h1, post_nodup h2, fun x hx z hz e => ?_⟩, by simp, fun x hx z hz e => ?_⟩
    · have := m1 x hx; have := m2 z hz; omega
    · rw [List.mem_singleton] at hz
      rcases List.mem_append.mp hx with hx | hx
      · have := m1 x hx; omega
      · have := m2 x hx; omega
theorem chPost_mem {n : Nat} : ∀ {c : Ch} {low : Nat}, ChainF n c low → ∀ x ∈ chPost c, low < x ∧ x ≤ n
  | [], _, _, x, hx => by simp [chPost] at hx
  | (t, h) :: c, low, k, x, hx => by
    obtain ⟨h1, h2⟩ := k
    have l1 := h1.lt; have l2 := h2.le
    rcases List.mem_append.mp (show x ∈ post t ++ chPost c from hx) with hx | hx
    · have := post_mem h1 x hx; omega
    · have := chPost_mem h2 x hx; omega
theorem chPost_nodup {n : Nat} : ∀ {c : Ch} {low : Nat}, ChainF n c low → (chPost c).Nodup
  | [], _, _ => by simp [chPost]
  | (t, h) :: c, low, k => by
    obtain ⟨h1, h2⟩ := k
    have m1 := post_mem h1; have m2 := chPost_mem h2
    show (post t ++ chPost c).Nodup
    rw [List.nodup_append]
    refine ⟨post_nodup h1, chPost_nodup h2, fun x hx z hz e => ?_⟩
    have := m1 x hx; have := m2 z hz; omega

/-! ### the tree by its order: over the nodes between a and b, all in, each linked to its neighbours -/
def Flat (W : Wd) (a b : Nat) : Prop := (∀ j, a ≤ j → j < b → W.R j = (j : Int) + 1) ∧ (∀ j, a < j → j ≤ b → W.L j = (j : Int) - 1) ∧ ∀ j, a < j → j < b → W.O j = false
/-- what unlinking the tree's nodes leaves: the tree, its ends linked, all else kept -/
structure Grown (W W' : Wd) (t : Tr) (a b : Nat) : Prop where
  tree : TreeOn W' t a b
  ra : W'.R a = (b : Int)
  lb : W'.L b = (a : Int)
  oL : ∀ j, ¬ (a < j ∧ j ≤ b) → W'.L j = W.L j
  oR : ∀ j, ¬ (a ≤ j ∧ j < b) → W'.R j = W.R j
  oO : ∀ j, ¬ (a < j ∧ j < b) → W'.O j = W.O j
theorem foldl_grown : ∀ {t : Tr} {a b : Nat} {W : Wd}, TreeF t a b → Flat W a b → Grown W ((post t).foldl unl W) t a b
  | .nil, a, b, W, h, f => by
    unfold TreeF at h
    subst h
    obtain ⟨f1, f2, _⟩ := f
    exact ⟨rfl, by rw [show (post Tr.nil).foldl unl W = W from rfl, f1 a (Nat.le_refl _) (by omega)]; omega, by rw [show (post Tr.nil).foldl unl W = W from rfl, f2 (a + 1) (by omega) (by omega)]; omega, fun _ _ => rfl, fun _ _ => rfl, fun _ _ => rfl⟩
  | .node l x r, a, b, W, h, f => by
    obtain ⟨h1, h2⟩ := h
    have l1 := h1.lt; have l2 := h2.lt
    obtain ⟨f1, f2, f3⟩ := f
    have G1 := foldl_grown (W := W) h1 ⟨fun j p q => f1 j p (by omega), fun j p q => f2 j p (by omega), fun j p q => f3 j p (by omega)⟩
    generalize eW1 : (post l).foldl unl W = W1 at G1
    have G2 := foldl_grown (W := W1) h2 ⟨fun j p q => by rw [G1.oR j (by omega)]; exact f1 j (by omega) q, fun j p q => by rw [G1.oL j (by omega)]; exact f2 j (by omega) q, fun j p q => by rw [G1.oO j (by omega)]; exact f3 j (by omega) q⟩
    generalize eW2 : (post r).foldl unl W1 = W2 at G2
    have e : (post (.node l x r)).foldl unl W = unl W2 x := by
      simp only [post, List.foldl_append, List.foldl_cons, List.foldl_nil, eW1, eW2]
    rw [e]
    have xL : W2.L x = (a : Int) := by rw [G2.oL x (by omega)]; exact G1.lb
    have xR : W2.R x = (b : Int) := G2.ra
    have eLn : (W2.L x).toNat = a := by rw [xL]; rfl
    have eRn : (W2.R x).toNat = b := by rw [xR]; rfl
    have vL : ∀ j, (unl W2 x).L j = if j = b then (a : Int) else W2.L j := fun j => by simp only [unl, put, eRn, xL]
    have vR : ∀ j, (unl W2 x).R j = if j = a then (b : Int) else W2.R j := fun j => by simp only [unl, put, eLn, xR]
    have vO : ∀ j, (unl W2 x).O j = if j = x then true else W2.O j := fun j => by simp only [unl, put]
    refine ⟨⟨by rw [vL, if_neg (by omega)]; exact xL, by rw [vR, if_neg (by omega)]; exact xR, by rw [vO, if_pos rfl], ?_, ?_⟩, by rw [vR, if_pos rfl], by rw [vL, if_pos rfl], fun j p => ?_, fun j p => ?_, fun j p => ?_⟩
    · refine G1.tree.congr fun j p q => ⟨?_, ?_, ?_⟩
      · rw [vL, if_neg (by omega), G2.oL j (by omega)]
      · rw [vR, if_neg (by omega), G2.oR j (by omega)]
      · rw [vO, if_neg (by omega), G2.oO j (by omega)]
    · refine G2.tree.congr fun j p q => ⟨?_, ?_, ?_⟩
      · rw [vL, if_neg (by omega)]
      · rw [vR, if_neg (by omega)]
      · rw [vO, if_neg (by omega)]
    · rw [vL, if_neg (by omega), G2.oL j (by omega), G1.oL j (by omega)]
    · rw [vR, if_neg (by omega), G2.oR j (by omega), G1.oR j (by omega)]
    · rw [vO, if_neg (by omega), G2.oO j (by omega), G1.oO j (by omega)]
theorem foldl_chain {n : Nat} : ∀ {c : Ch} {low : Nat} {W : Wd}, ChainF n c low → Flat W low (n + 1) → W.O (n + 1) = false →
    ChainOn ((chPost c).foldl unl W) n c low ∧ (∀ j, j ≤ low → ((chPost c).foldl unl W).L j = W.L j ∧ ((chPost c).foldl unl W).O j = W.O j) ∧ (∀ j, (j < low ∨ n < j) → ((chPost c).foldl unl W).R j = W.R j)
  | [], low, W, h, f, _ => ⟨h, fun _ _ => ⟨rfl, rfl⟩, fun _ _ => rfl⟩
  | (t, x) :: c, low, W, h, f, on => by
    obtain ⟨h1, h2⟩ := h
    have l1 := h1.lt; have l2 := h2.le
    obtain ⟨f1, f2, f3⟩ := f
    have G1 := foldl_grown (W := W) h1 ⟨fun j p q => f1 j p (by omega), fun j p q => f2 j p (by omega), fun j p q => f3 j p (by omega)⟩
    have e : (chPost ((t, x) :: c)).foldl unl W = (chPost c).foldl unl ((post t).foldl unl W) := by
      show (post t ++ chPost c).foldl unl W = _
      rw [List.foldl_append]
    rw [e]
    generalize (post t).foldl unl W = W1 at G1
    have hxo : W.O x = false := by
      by_cases hx : x = n + 1
      · rw [hx]; exact on
      · exact f3 x l1 (by omega)
    obtain ⟨k1, k2, k3⟩ := foldl_chain (W := W1) h2 ⟨fun j p q => by rw [G1.oR j (by omega)]; exact f1 j (by omega) q, fun j p q => by rw [G1.oL j (by omega)]; exact f2 j (by omega) q, fun j p q => by rw [G1.oO j (by omega)]; exact f3 j (by omega) q⟩ (by rw [G1.oO _ (by omega)]; exact on)
    refine ⟨⟨G1.tree.congr fun j p q => ⟨(k2 j (by omega)).1, k3 j (.inl q), (k2 j (by omega)).2⟩, ?_, ?_, ?_, k1⟩, fun j p => ?_, fun j p => ?_⟩
    · rw [k3 low (.inl l1)]; exact G1.ra
    · rw [(k2 x (Nat.le_refl _)).1]; exact G1.lb
    · rw [(k2 x (Nat.le_refl _)).2, G1.oO x (by omega)]; exact hxo
    · obtain ⟨e1, e2⟩ := k2 j (by omega)
      rw [e1, e2]
      exact ⟨G1.oL j (by omega), G1.oO j (by omega)⟩
    · rw [k3 j (by omega)]
      exact G1.oR j (by omega)
theorem play_post {n : Nat} {c : Ch} (h : ChainF n c 0) : Stand (play (chPost c)) n c := by
  obtain ⟨k1, k2, k3⟩ := foldl_chain (W := wd0) h ⟨fun _ _ _ => rfl, fun _ _ _ => rfl, fun _ _ _ => rfl⟩ rfl
  refine ⟨(k2 0 (Nat.le_refl _)).2, (k2 0 (Nat.le_refl _)).1, ?_, k1⟩
  show ((chPost c).foldl unl wd0).R (n + 1) = _
  rw [k3 (n + 1) (.inr (Nat.lt_succ_self _))]
  simp [wd0]; omega
end LK
end

section
/-! LKMath2 -/
namespace LK

/-! ### all trees, all chains, in their order -/
def trsF (ok : Nat → Nat → Nat → Bool) : Nat → Nat → Nat → List Tr
  | 0, _, _ => [.nil]
  | f + 1, a, b => if b ≤ a + 1 then [.nil] else
      (List.range' (a + 1) (b - a - 1)).flatMap fun x => if ok x a b = true then (trsF ok f a x).flatMap fun l => (trsF ok f x b).map fun r => .node l x r else []
theorem flatMap_congr' {α β : Type} {f g : α → List β} : ∀ {l : List α}, (∀ x ∈ l, f x = g x) → l.flatMap f = l.flatMap g
  | [], _ => rfl
  | x :: l, h => by
    rw [List.flatMap_cons, List.flatMap_cons, h x List.mem_cons_self, flatMap_congr' fun y hy => h y (List.mem_cons_of_mem _ hy)]
theorem mem_range'_1 {x s k : Nat} : x ∈ List.range' s k ↔ s ≤ x ∧ x < s + k := by
  rw [List.mem_range'_1]
theorem trsF_fuel {ok : Nat → Nat → Nat → Bool} : ∀ (f g a b : Nat), b - a ≤ f → b - a ≤ g → trsF ok f a b = trsF ok g a b
  | 0, 0, _, _, _, _ => rfl
  | 0, g + 1, a, b, h, _ => by
    unfold trsF
    rw [if_pos (by omega)]
  | f + 1, 0, a, b, _, h => by
    unfold trsF
    rw [if_pos (by omega)]
  | f + 1, g + 1, a, b, h1, h2 => by
    unfold trsF
    by_cases hb : b ≤ a + 1
    · rw [if_pos hb, if_pos hb]
    · rw [if_neg hb, if_neg hb]
      refine flatMap_congr' fun x hx => ?_
      rw [mem_range'_1] at hx
      rw [trsF_fuel f g a x (by omega) (by omega), trsF_fuel f g x b (by omega) (by omega)]
def trs (ok : Nat → Nat → Nat → Bool) (a b : Nat) : List Tr := trsF ok (b - a) a b
def rootedL (ok : Nat → Nat → Nat → Bool) (x a b : Nat) : List Tr := if ok x a b = true then (trs ok a x).flatMap fun l => (trs ok x b).map fun r => .node l x r else []
theorem trs_nil {ok : Nat → Nat → Nat → Bool} {a b : Nat} (h : b ≤ a + 1) : trs ok a b = [.nil] := by
  unfold trs
  cases e : b - a with
  | zero => rfl
  | succ f => unfold trsF; rw [if_pos h]
theorem trs_eq {ok : Nat → Nat → Nat → Bool} {a b : Nat} (h : a + 1 < b) : trs ok a b = (List.range' (a + 1) (b - a - 1)).flatMap fun x => rootedL ok x a b := by
  unfold trs
  cases e : b - a with
  | zero => omega
  | succ f =>
    show (if b ≤ a + 1 then _ else _) = _
    rw [if_neg (by omega)]
    rw [← e]
    refine flatMap_congr' fun x hx => ?_
    rw [mem_range'_1] at hx
    unfold rootedL trs
    rw [trsF_fuel f (x - a) a x (by omega) (Nat.le_refl _), trsF_fuel f (b - x) x b (by omega) (Nat.le_refl _)]
def tc (ok : Nat → Nat → Nat → Bool) (a b : Nat) : Nat := (trs ok a b).length
def rc (ok : Nat → Nat → Nat → Bool) (x a b : Nat) : Nat := if ok x a b = true then tc ok a x * tc ok x b else 0
theorem len_prod {α β γ : Type} (As : List α) (Bs : List β) (g : α → β → γ) : (As.flatMap fun a => Bs.map (g a)).length = As.length * Bs.length := by
  induction As with
  | nil => simp
  | cons a As ih => rw [List.flatMap_cons, List.length_append, List.length_map, ih, List.length_cons, Nat.add_mul]; omega
theorem len_rootedL {ok : Nat → Nat → Nat → Bool} {x a b : Nat} : (rootedL ok x a b).length = rc ok x a b := by
  unfold rootedL rc tc
  split
  · exact len_prod _ _ _
  · rfl
theorem len_flatMap' {α β : Type} (f : α → List β) : ∀ l : List α, (l.flatMap f).length = (l.map fun x => (f x).length).sum
  | [] => rfl
  | x :: l => by rw [List.flatMap_cons, List.length_append, List.map_cons, List.sum_cons, len_flatMap' f l]
theorem tc_nil {ok : Nat → Nat → Nat → Bool} {a b : Nat} (h : b ≤ a + 1) : tc ok a b = 1 := by unfold tc; rw [trs_nil h]; rfl
theorem tc_eq {ok : Nat → Nat → Nat → Bool} {a b : Nat} (h : a + 1 < b) : tc ok a b = ((List.range' (a + 1) (b - a - 1)).map fun x => rc ok x a b).sum := by
  unfold tc
  rw [trs_eq h, len_flatMap']
  congr 1
  exact List.map_congr_left fun x _ => len_rootedL

def chsF (ok : Nat → Nat → Nat → Bool) (okn : Nat → Nat → Bool) (n : Nat) : Nat → Nat → List Ch
  | 0, _ => [[]]
  | f + 1, low => if n + 1 ≤ low then [[]] else
      (List.range' (low + 1) (n + 1 - low)).flatMap fun h => if okn low h = true then (trs ok low h).flatMap fun t => (chsF ok okn n f h).map fun c => (t, h) :: c else []
theorem chsF_fuel {ok : Nat → Nat → Nat → Bool} {okn : Nat → Nat → Bool} {n : Nat} : ∀ (f g low : Nat), n + 1 - low ≤ f → n + 1 - low ≤ g → chsF ok okn n f low = chsF ok okn n g low
  | 0, 0, _, _, _ => rfl
  | 0, g + 1, low, h, _ => by
    unfold chsF
    rw [if_pos (by omega)]
  | f + 1, 0, low, _, h => by
    unfold chsF
    rw [if_pos (by omega)]
  | f + 1, g + 1, low, h1, h2 => by
    unfold chsF
    by_cases hb : n + 1 ≤ low
    · rw [if_pos hb, if_pos hb]
    · rw [if_neg hb, if_neg hb]
      refine flatMap_congr' fun x hx => ?_
      rw [mem_range'_1] at hx
      rw [chsF_fuel f g x (by omega) (by omega)]
def chs (ok : Nat → Nat → Nat → Bool) (okn : Nat → Nat → Bool) (n low : Nat) : List Ch := chsF ok okn n (n + 1 - low) low
def contL (ok : Nat → Nat → Nat → Bool) (okn : Nat → Nat → Bool) (n low h : Nat) : List Ch := if okn low h = true then (trs ok low h).flatMap fun t => (chs ok okn n h).map fun c => (t, h) :: c else []
section
variable {ok : Nat → Nat → Nat → Bool} {okn : Nat → Nat → Bool} {n : Nat}
theorem chs_nil {low : Nat} (h : n + 1 ≤ low) : chs ok okn n low = [[]] := by
  unfold chs
  rw [show n + 1 - low = 0 by omega]; rfl
theorem chs_eq {low : Nat} (h : low < n + 1) : chs ok okn n low = (List.range' (low + 1) (n + 1 - low)).flatMap fun x => contL ok okn n low x := by
  unfold chs
  cases e : n + 1 - low with
  | zero => omega
  | succ f =>
    show (if n + 1 ≤ low then _ else _) = _
    rw [if_neg (by omega), ← e]
    refine flatMap_congr' fun x hx => ?_
    rw [mem_range'_1] at hx
    unfold contL chs
    rw [chsF_fuel f (n + 1 - x) x (by omega) (Nat.le_refl _)]
end
def cc (ok : Nat → Nat → Nat → Bool) (okn : Nat → Nat → Bool) (n low : Nat) : Nat := (chs ok okn n low).length
def nc (ok : Nat → Nat → Nat → Bool) (okn : Nat → Nat → Bool) (n low h : Nat) : Nat := if okn low h = true then tc ok low h * cc ok okn n h else 0
section
variable {ok : Nat → Nat → Nat → Bool} {okn : Nat → Nat → Bool} {n : Nat}
theorem len_contL {low h : Nat} : (contL ok okn n low h).length = nc ok okn n low h := by
  unfold contL nc tc cc
  split
  · exact len_prod _ _ _
  · rfl
theorem cc_nil {low : Nat} (h : n + 1 ≤ low) : cc ok okn n low = 1 := by unfold cc; rw [chs_nil h]; rfl
theorem cc_eq {low : Nat} (h : low < n + 1) : cc ok okn n low = ((List.range' (low + 1) (n + 1 - low)).map fun x => nc ok okn n low x).sum := by
  unfold cc
  rw [chs_eq h, len_flatMap']
  congr 1
  exact List.map_congr_left fun x _ => len_contL
end

/-! ### the item at a place -/
theorem get_prod {α β γ : Type} {As : List α} {Bs : List β} {g : α → β → γ} {i j : Nat} {a : α} {b : β} (ha : As[i]? = some a) (hb : Bs[j]? = some b) : (As.flatMap fun a => Bs.map (g a))[i * Bs.length + j]? = some (g a b) := by
  induction As generalizing i with
  | nil => simp at ha
  | cons a0 As ih =>
    have hj : j < Bs.length := (List.getElem?_eq_some_iff.mp hb).1
    rw [List.flatMap_cons]
    cases i with
    | zero =>
      simp only [List.getElem?_cons_zero, Option.some.injEq] at ha
      subst ha
      rw [Nat.zero_mul, Nat.zero_add, List.getElem?_append_left (by rw [List.length_map]; exact hj), List.getElem?_map, hb]; rfl
    | succ i =>
      rw [List.getElem?_append_right (by rw [List.length_map, Nat.add_mul]; omega), List.length_map]
      rw [show (i + 1) * Bs.length + j - Bs.length = i * Bs.length + j by rw [Nat.add_mul]; omega]
      exact ih (by simpa using ha)
theorem prod_at {α β γ : Type} {As : List α} {Bs : List β} {g : α → β → γ} {p : Nat} {z : γ} (h : (As.flatMap fun a => Bs.map (g a))[p]? = some z) :
    0 < Bs.length ∧ ∃ a b, As[p / Bs.length]? = some a ∧ Bs[p % Bs.length]? = some b ∧ z = g a b := by
  have hp : p < As.length * Bs.length := by
    have := (List.getElem?_eq_some_iff.mp h).1
    rw [len_prod] at this; exact this
  have h0 : 0 < Bs.length := by
    rcases Nat.eq_zero_or_pos Bs.length with e | e
    · rw [e] at hp; simp at hp
    · exact e
  have h1 : p / Bs.length < As.length := (Nat.div_lt_iff_lt_mul h0).mpr hp
  have h2 : p % Bs.length < Bs.length := Nat.mod_lt _ h0
  refine ⟨h0, As[p / Bs.length], Bs[p % Bs.length], List.getElem?_eq_getElem h1, List.getElem?_eq_getElem h2, ?_⟩
  have e := get_prod (g := g) (List.getElem?_eq_getElem h1) (List.getElem?_eq_getElem h2)
  rw [Nat.mul_comm, Nat.div_add_mod, h] at e
  exact Option.some.inj e
/-- the search for the part in which a place lies -/
theorem scan_next {α : Type} {f : Nat → List α} {x k p : Nat} {z : α} (h : ((List.range' x k).flatMap f)[p]? = some z) (hp : (f x).length ≤ p) :
    ∃ k', k = k' + 1 ∧ 0 < k' ∧ ((List.range' (x + 1) k').flatMap f)[p - (f x).length]? = some z := by
  cases k with
  | zero => simp at h
  | succ k =>
    rw [List.range'_succ, List.flatMap_cons, List.getElem?_append_right hp] at h
    cases k with
    | zero => simp at h
    | succ k => exact ⟨k + 1, rfl, Nat.succ_pos _, h⟩
theorem scan_here {α : Type} {f : Nat → List α} {x k p : Nat} {z : α} (h : ((List.range' x k).flatMap f)[p]? = some z) (hp : p < (f x).length) : (f x)[p]? = some z := by
  cases k with
  | zero => simp at h
  | succ k =>
    rw [List.range'_succ, List.flatMap_cons, List.getElem?_append_left hp] at h
    exact h
theorem rooted_at {ok : Nat → Nat → Nat → Bool} {x a b p : Nat} {t : Tr} (h : (rootedL ok x a b)[p]? = some t) :
    0 < tc ok x b ∧ ∃ l r, (trs ok a x)[p / tc ok x b]? = some l ∧ (trs ok x b)[p % tc ok x b]? = some r ∧ t = .node l x r := by
  unfold rootedL at h
  split at h
  · obtain ⟨h0, l, r, h1, h2, h3⟩ := prod_at h
    exact ⟨h0, l, r, h1, h2, h3⟩
  · simp at h
theorem cont_at {ok : Nat → Nat → Nat → Bool} {okn : Nat → Nat → Bool} {n low h p : Nat} {c : Ch} (e : (contL ok okn n low h)[p]? = some c) :
    0 < cc ok okn n h ∧ ∃ t d, (trs ok low h)[p / cc ok okn n h]? = some t ∧ (chs ok okn n h)[p % cc ok okn n h]? = some d ∧ c = (t, h) :: d := by
  unfold contL at e
  split at e
  · obtain ⟨h0, l, r, h1, h2, h3⟩ := prod_at e
    exact ⟨h0, l, r, h1, h2, h3⟩
  · simp at e

/-! ### what is allowed is a part of all -/
def okT (ok : Nat → Nat → Nat → Bool) : Tr → Nat → Nat → Bool
  | .nil, _, _ => true
  | .node l x r, a, b => ok x a b && (okT ok l a x && okT ok r x b)
def okC (ok : Nat → Nat → Nat → Bool) (okn : Nat → Nat → Bool) : Ch → Nat → Bool
  | [], _ => true
  | (t, h) :: c, low => okn low h && (okT ok t low h && okC ok okn c h)
abbrev top3 : Nat → Nat → Nat → Bool := fun _ _ _ => true
abbrev top2 : Nat → Nat → Bool := fun _ _ => true
theorem filter_prod {α β γ : Type} {As : List α} {Bs : List β} {g : α → β → γ} {P : γ → Bool} {pA : α → Bool} {pB : β → Bool} (h : ∀ a b, P (g a b) = (pA a && pB b)) :
    (As.flatMap fun a => Bs.map (g a)).filter P = (As.filter pA).flatMap fun a => (Bs.filter pB).map (g a) := by
  induction As with
  | nil => rfl
  | cons a As ih =>
    rw [List.flatMap_cons, List.filter_append, ih, List.filter_cons]
    have e : (Bs.map (g a)).filter P = if pA a = true then (Bs.filter pB).map (g a) else [] := by
      rw [List.filter_map]
      cases q : pA a with
      | true =>
        rw [if_pos rfl]
        congr 1
        refine List.filter_congr fun b _ => ?_
        show P (g a b) = pB b
        rw [h, q, Bool.true_and]
      | false =>
        rw [if_neg Bool.false_ne_true]
        have : Bs.filter (P ∘ g a) = [] := by
          rw [List.filter_eq_nil_iff]
          intro b _
          show ¬ P (g a b) = true
          rw [h, q, Bool.false_and]; exact Bool.false_ne_true
        rw [this]; rfl
    rw [e]
    split
    · rw [List.flatMap_cons]
    · rfl
theorem trs_filter {ok : Nat → Nat → Nat → Bool} : ∀ (w a b : Nat), b - a ≤ w → trs ok a b = (trs top3 a b).filter fun t => okT ok t a b
  | 0, a, b, h => by rw [trs_nil (by omega), trs_nil (by omega)]; rfl
  | w + 1, a, b, h => by
    by_cases hb : b ≤ a + 1
    · rw [trs_nil hb, trs_nil hb]; rfl
    · rw [trs_eq (by omega), trs_eq (by omega), List.filter_flatMap]
      refine flatMap_congr' fun x hx => ?_
      rw [mem_range'_1] at hx
      unfold rootedL
      rw [if_pos rfl]
      cases q : ok x a b with
      | false =>
        rw [if_neg Bool.false_ne_true]
        symm
        rw [List.filter_eq_nil_iff]
        intro t ht
        obtain ⟨l, _, ht⟩ := List.mem_flatMap.mp ht
        obtain ⟨r, _, rfl⟩ := List.mem_map.mp ht
        show ¬ (ok x a b && _) = true
        rw [q, Bool.false_and]; exact Bool.false_ne_true
      | true =>
        rw [if_pos rfl, trs_filter w a x (by omega), trs_filter w x b (by omega)]
        symm
        refine filter_prod fun l r => ?_
        show (ok x a b && _) = _
        rw [q, Bool.true_and]
theorem chs_filter {ok : Nat → Nat → Nat → Bool} {okn : Nat → Nat → Bool} {n : Nat} : ∀ (w low : Nat), n + 1 - low ≤ w → chs ok okn n low = (chs top3 top2 n low).filter fun c => okC ok okn c low
  | 0, low, h => by rw [chs_nil (by omega), chs_nil (by omega)]; rfl
  | w + 1, low, h => by
    by_cases hb : n + 1 ≤ low
    · rw [chs_nil hb, chs_nil hb]; rfl
    · rw [chs_eq (by omega), chs_eq (by omega), List.filter_flatMap]
      refine flatMap_congr' fun x hx => ?_
      rw [mem_range'_1] at hx
      unfold contL
      rw [if_pos rfl]
      cases q : okn low x with
      | false =>
        rw [if_neg Bool.false_ne_true]
        symm
        rw [List.filter_eq_nil_iff]
        intro t ht
        obtain ⟨l, _, ht⟩ := List.mem_flatMap.mp ht
        obtain ⟨r, _, rfl⟩ := List.mem_map.mp ht
        show ¬ (okn low x && _) = true
        rw [q, Bool.false_and]; exact Bool.false_ne_true
      | true =>
        rw [if_pos rfl, trs_filter _ low x (Nat.le_refl _), chs_filter w x (by omega)]
        symm
        refine filter_prod fun l r => ?_
        show (okn low x && _) = _
        rw [q, Bool.true_and]
/-! ### members -/
theorem trs_mem : ∀ {t : Tr} {a b : Nat}, TreeF t a b → t ∈ trs top3 a b
  | .nil, a, b, h => by
    unfold TreeF at h
    rw [trs_nil (by omega)]; simp
  | .node l x r, a, b, h => by
    obtain ⟨h1, h2⟩ := h
    have l1 := h1.lt; have l2 := h2.lt
    rw [trs_eq (by omega)]
    refine List.mem_flatMap.mpr ⟨x, mem_range'_1.mpr (by omega), ?_⟩
    unfold rootedL
    rw [if_pos rfl]
    exact List.mem_flatMap.mpr ⟨l, trs_mem h1, List.mem_map.mpr ⟨r, trs_mem h2, rfl⟩⟩
theorem trs_form {ok : Nat → Nat → Nat → Bool} : ∀ {t : Tr} {a b : Nat}, a < b → t ∈ trs ok a b → TreeF t a b
  | .nil, a, b, hab, h => by
    by_cases hb : b ≤ a + 1
    · show b = a + 1; omega
    · exfalso
      rw [trs_eq (by omega)] at h
      obtain ⟨x, _, h⟩ := List.mem_flatMap.mp h
      unfold rootedL at h
      split at h
      · obtain ⟨l, _, h⟩ := List.mem_flatMap.mp h
        obtain ⟨r, _, h⟩ := List.mem_map.mp h
        cases h
      · simp at h
  | .node l x r, a, b, hab, h => by
    by_cases hb : b ≤ a + 1
    · rw [trs_nil hb] at h; simp at h
    · rw [trs_eq (by omega)] at h
      obtain ⟨y, hy, h⟩ := List.mem_flatMap.mp h
      rw [mem_range'_1] at hy
      unfold rootedL at h
      split at h
      · obtain ⟨l', h1, h⟩ := List.mem_flatMap.mp h
        obtain ⟨r', h2, h⟩ := List.mem_map.mp h
        injection h with e1 e2 e3
        rw [e1, e2] at h1
        rw [e3, e2] at h2
        rw [e2] at hy
        exact ⟨trs_form (by omega) h1, trs_form (by omega) h2⟩
      · simp at h
theorem chs_mem {n : Nat} : ∀ {c : Ch} {low : Nat}, ChainF n c low → c ∈ chs top3 top2 n low
  | [], low, h => by
    unfold ChainF at h
    rw [chs_nil (by omega)]; simp
  | (t, x) :: c, low, h => by
    obtain ⟨h1, h2⟩ := h
    have l1 := h1.lt; have l2 := h2.le
    rw [chs_eq (by omega)]
    refine List.mem_flatMap.mpr ⟨x, mem_range'_1.mpr (by omega), ?_⟩
    unfold contL
    rw [if_pos rfl]
    exact List.mem_flatMap.mpr ⟨t, trs_mem h1, List.mem_map.mpr ⟨c, chs_mem h2, rfl⟩⟩
theorem chs_form {ok : Nat → Nat → Nat → Bool} {okn : Nat → Nat → Bool} {n : Nat} : ∀ {c : Ch} {low : Nat}, low ≤ n + 1 → c ∈ chs ok okn n low → ChainF n c low
  | [], low, hl, h => by
    by_cases hb : n + 1 ≤ low
    · show low = n + 1; omega
    · exfalso
      rw [chs_eq (by omega)] at h
      obtain ⟨x, _, h⟩ := List.mem_flatMap.mp h
      unfold contL at h
      split at h
      · obtain ⟨l, _, h⟩ := List.mem_flatMap.mp h
        obtain ⟨r, _, h⟩ := List.mem_map.mp h
        cases h
      · simp at h
  | (t, x) :: c, low, hl, h => by
    by_cases hb : n + 1 ≤ low
    · rw [chs_nil hb] at h; simp at h
    · rw [chs_eq (by omega)] at h
      obtain ⟨y, hy, h⟩ := List.mem_flatMap.mp h
      rw [mem_range'_1] at hy
      unfold contL at h
      split at h
      · obtain ⟨l', h1, h⟩ := List.mem_flatMap.mp h
        obtain ⟨r', h2, h⟩ := List.mem_map.mp h
        injection h with e1 e2
        injection e1 with e3 e4
        rw [e3, e4] at h1
        rw [e2, e4] at h2
        rw [e4] at hy
        exact ⟨trs_form (by omega) h1, chs_form (by omega) h2⟩
      · simp at h

/-! ### facts: where they are looked at -/
def okRt : Ft → Nat → Nat → Nat → Bool
  | .inn y, x, _, _ => !decide (y = x)
  | .out _, _, _, _ => true
  | .lf y l, x, a, _ => !decide (y = x) || decide (l = a)
  | .rt y r, x, _, b => !decide (y = x) || decide (r = b)
def okNb : Ft → Nat → Nat → Bool
  | .inn _, _, _ => true
  | .out y, _, b => !decide (y = b)
  | .lf y l, a, b => !decide (y = b) || decide (l = a)
  | .rt y r, a, b => !decide (y = a) || decide (r = b)
def okR (fs : List Ft) : Nat → Nat → Nat → Bool := fun x a b => fs.all fun f => okRt f x a b
def okN (fs : List Ft) : Nat → Nat → Bool := fun a b => fs.all fun f => okNb f a b
def holds (W : Wd) : Ft → Bool
  | .inn x => !W.O x
  | .out x => W.O x
  | .lf x l => decide (W.L x = (l : Int))
  | .rt x r => decide (W.R x = (r : Int))
def satC (f : Ft) (c : Ch) : Bool := okC (okRt f) (okNb f) c 0
def Ft.at_ : Ft → Nat
  | .inn x => x
  | .out x => x
  | .lf x _ => x
  | .rt x _ => x
def Ft.isRt : Ft → Bool
  | .rt _ _ => true
  | _ => false
theorem okT_holds {W : Wd} {f : Ft} : ∀ {t : Tr} {a b : Nat}, TreeOn W t a b → (okT (okRt f) t a b = true ↔ (a < f.at_ → f.at_ < b → holds W f = true))
  | .nil, a, b, h => by
    unfold TreeOn at h
    constructor
    · intro _ p q; omega
    · intro _; rfl
  | .node l x r, a, b, h => by
    obtain ⟨hL, hR, hO, h1, h2⟩ := h
    have l1 := h1.lt; have l2 := h2.lt
    have i1 := okT_holds (f := f) h1
    have i2 := okT_holds (f := f) h2
    have here : okRt f x a b = true ↔ (f.at_ = x → holds W f = true) := by
      cases f with
      | inn y =>
        simp only [okRt, Ft.at_, holds, Bool.not_eq_true', decide_eq_false_iff_not]
        constructor
        · intro p q; exact absurd q p
        · intro p q; have := p q; rw [q, hO] at this; cases this
      | out y =>
        simp only [okRt, Ft.at_, holds]
        constructor
        · intro _ q; rw [q]; exact hO
        · intro _; trivial
      | lf y z =>
        simp only [okRt, Ft.at_, holds, Bool.or_eq_true, Bool.not_eq_true', decide_eq_false_iff_not, decide_eq_true_eq]
        constructor
        · rintro (p | p) q
          · exact absurd q p
          · rw [q, hL, p]
        · intro p
          by_cases q : y = x
          · have := p q; rw [q, hL] at this; right; omega
          · left; exact q
      | rt y z =>
        simp only [okRt, Ft.at_, holds, Bool.or_eq_true, Bool.not_eq_true', decide_eq_false_iff_not, decide_eq_true_eq]
        constructor
        · rintro (p | p) q
          · exact absurd q p
          · rw [q, hR, p]
        · intro p
          by_cases q : y = x
          · have := p q; rw [q, hR] at this; right; omega
          · left; exact q
    show (okRt f x a b && (okT (okRt f) l a x && okT (okRt f) r x b)) = true ↔ _
    rw [Bool.and_eq_true, Bool.and_eq_true, here, i1, i2]
    constructor
    · rintro ⟨k0, k1, k2⟩ p q
      rcases Nat.lt_trichotomy f.at_ x with z | z | z
      · exact k1 p z
      · exact k0 z
      · exact k2 z q
    · intro k
      exact ⟨fun z => k (by omega) (by omega), fun p z => k p (by omega), fun p z => k (by omega) z⟩
theorem okC_holds {W : Wd} {n : Nat} {f : Ft} (hf : f.ok n) : ∀ {c : Ch} {low : Nat}, ChainOn W n c low →
    (okC (okRt f) (okNb f) c low = true ↔ ((low < f.at_ → holds W f = true) ∧ (f.at_ = low → f.isRt = true → holds W f = true)))
  | [], low, h => by
    unfold ChainOn at h
    constructor
    · intro _
      refine ⟨fun p => ?_, fun p q => ?_⟩
      · exfalso; cases f <;> simp only [Ft.ok, Ft.at_] at hf p <;> omega
      · exfalso; cases f <;> simp only [Ft.ok, Ft.at_, Ft.isRt] at hf p q <;> first | omega | cases q
    · intro _; rfl
  | (t, x) :: c, low, h => by
    obtain ⟨h1, hR, hL, hO, h2⟩ := h
    have l1 := h1.lt; have l2 := h2.le
    have i1 := okT_holds (f := f) h1
    have i2 := okC_holds hf h2
    have here : okNb f low x = true ↔ ((f.at_ = x → f.isRt = false → holds W f = true) ∧ (f.at_ = low → f.isRt = true → holds W f = true)) := by
      cases f with
      | inn y =>
        simp only [okNb, Ft.at_, holds]
        constructor
        · intro _
          exact ⟨fun q _ => by rw [q, hO]; rfl, fun _ q => Bool.noConfusion q⟩
        · intro _; trivial
      | out y =>
        simp only [okNb, Ft.at_, holds, Bool.not_eq_true', decide_eq_false_iff_not]
        constructor
        · intro p
          exact ⟨fun q => absurd q p, fun _ q => Bool.noConfusion q⟩
        · intro p q
          have := p.1 q rfl
          rw [q, hO] at this; cases this
      | lf y z =>
        simp only [okNb, Ft.at_, holds, Bool.or_eq_true, Bool.not_eq_true', decide_eq_false_iff_not, decide_eq_true_eq]
        constructor
        · rintro (p | p)
          · exact ⟨fun q => absurd q p, fun _ q => Bool.noConfusion q⟩
          · exact ⟨fun q _ => by rw [q, hL, p], fun _ q => Bool.noConfusion q⟩
        · intro p
          by_cases q : y = x
          · have := p.1 q rfl; rw [q, hL] at this; right; omega
          · left; exact q
      | rt y z =>
        simp only [okNb, Ft.at_, holds, Bool.or_eq_true, Bool.not_eq_true', decide_eq_false_iff_not, decide_eq_true_eq]
        constructor
        · rintro (p | p)
          · exact ⟨fun _ q => Bool.noConfusion q, fun q => absurd q p⟩
          · exact ⟨fun _ q => Bool.noConfusion q, fun q _ => by rw [q, hR, p]⟩
        · intro p
          by_cases q : y = low
          · have := p.2 q rfl; rw [q, hR] at this; right; omega
          · left; exact q
    show (okNb f low x && (okT (okRt f) t low x && okC (okRt f) (okNb f) c x)) = true ↔ _
    rw [Bool.and_eq_true, Bool.and_eq_true, here, i1, i2]
    constructor
    · rintro ⟨⟨k0, k0'⟩, k1, k2, k3⟩
      refine ⟨fun p => ?_, k0'⟩
      rcases Nat.lt_trichotomy f.at_ x with z | z | z
      · exact k1 p z
      · cases q : f.isRt with
        | true => exact k3 z q
        | false => exact k0 z q
      · exact k2 z
    · rintro ⟨k1, k2⟩
      exact ⟨⟨fun z _ => k1 (by omega), k2⟩, fun p z => k1 p, fun z => k1 (by omega), fun z _ => k1 (by omega)⟩
theorem satC_holds {W : Wd} {n : Nat} {c : Ch} {f : Ft} (h : Stand W n c) (hf : f.ok n) : satC f c = holds W f := by
  have k := okC_holds hf h.ch
  have e : (okC (okRt f) (okNb f) c 0 = true) ↔ holds W f = true := by
    rw [k]
    constructor
    · rintro ⟨k1, k2⟩
      rcases Nat.eq_zero_or_pos f.at_ with z | z
      · refine k2 z ?_
        cases f <;> simp only [Ft.ok, Ft.at_, Ft.isRt] at hf z ⊢ <;> omega
      · exact k1 z
    · intro p
      exact ⟨fun _ => p, fun _ _ => p⟩
  unfold satC
  cases p : okC (okRt f) (okNb f) c 0 with
  | true => exact (e.mp p).symm
  | false =>
    cases q : holds W f with
    | true => rw [e.mpr q] at p; cases p
    | false => rfl
theorem okT_all (fs : List Ft) : ∀ (t : Tr) (a b : Nat), okT (okR fs) t a b = fs.all fun f => okT (okRt f) t a b
  | .nil, a, b => (List.all_eq_true.mpr fun f _ => rfl).symm
  | .node l x r, a, b => by
    show (okR fs x a b && (okT (okR fs) l a x && okT (okR fs) r x b)) = _
    rw [okT_all fs l, okT_all fs r]
    unfold okR
    induction fs with
    | nil => rfl
    | cons f fs ih =>
      simp only [List.all_cons]
      rw [← ih]
      show _ = ((okRt f x a b && (okT (okRt f) l a x && okT (okRt f) r x b)) && _)
      cases okRt f x a b <;> cases okT (okRt f) l a x <;> cases okT (okRt f) r x b <;> simp
theorem okC_all (fs : List Ft) : ∀ (c : Ch) (low : Nat), okC (okR fs) (okN fs) c low = fs.all fun f => okC (okRt f) (okNb f) c low
  | [], low => (List.all_eq_true.mpr fun f _ => rfl).symm
  | (t, h) :: c, low => by
    show (okN fs low h && (okT (okR fs) t low h && okC (okR fs) (okN fs) c h)) = _
    rw [okT_all fs t, okC_all fs c]
    unfold okN
    induction fs with
    | nil => rfl
    | cons f fs ih =>
      simp only [List.all_cons]
      rw [← ih]
      show _ = ((okNb f low h && (okT (okRt f) t low h && okC (okRt f) (okNb f) c h)) && _)
      cases okNb f low h <;> cases okT (okRt f) t low h <;> cases okC (okRt f) (okNb f) c h <;> simp

/-! ### the fits -/
def allCh (n : Nat) : List Ch := chs top3 top2 n 0
def fits (n : Nat) (fs : List Ft) : List Ch := chs (okR fs) (okN fs) n 0
theorem fits_eq (n : Nat) (fs : List Ft) : fits n fs = (allCh n).filter fun c => fs.all fun f => satC f c := by
  unfold fits allCh
  rw [chs_filter (n + 1) 0 (by omega)]
  congr 1
  funext c
  exact okC_all fs c 0
theorem fits_snoc (n : Nat) (fs : List Ft) (f : Ft) : fits n (fs ++ [f]) = (fits n fs).filter (satC f) := by
  rw [fits_eq, fits_eq, List.filter_filter]
  congr 1
  funext c
  rw [List.all_append]
  simp [Bool.and_comm]
theorem fits_form {n : Nat} {fs : List Ft} {c : Ch} (h : c ∈ fits n fs) : ChainF n c 0 := chs_form (by omega) h
theorem fits_mem {n : Nat} {fs : List Ft} {W : Wd} {c : Ch} (h : Stand W n c) (hf : ∀ f ∈ fs, f.ok n) (ht : ∀ f ∈ fs, holds W f = true) : c ∈ fits n fs := by
  rw [fits_eq, List.mem_filter]
  refine ⟨chs_mem h.ch.form, ?_⟩
  rw [List.all_eq_true]
  intro f m
  rw [satC_holds h (hf f m)]
  exact ht f m
theorem fits_sat {n : Nat} {fs : List Ft} {c : Ch} (h : c ∈ fits n fs) {f : Ft} (hf : f ∈ fs) : satC f c = true := by
  rw [fits_eq, List.mem_filter] at h
  exact List.all_eq_true.mp h.2 f hf
end LK
end

section
/-! LKMath3 -/
namespace LK

/-! ### keys and their order -/
def lexLt : List Int → List Int → Bool
  | [], [] => false
  | [], _ :: _ => true
  | _ :: _, [] => false
  | x :: xs, y :: ys => if x = y then lexLt xs ys else decide (x < y)
theorem lexLt_irrefl : ∀ l : List Int, lexLt l l = false
  | [] => rfl
  | x :: l => by unfold lexLt; rw [if_pos rfl]; exact lexLt_irrefl l
theorem lexLt_asymm : ∀ {l m : List Int}, lexLt l m = true → lexLt m l = false
  | [], [], h => by cases h
  | [], _ :: _, _ => rfl
  | _ :: _, [], h => by cases h
  | x :: l, y :: m, h => by
    unfold lexLt at h ⊢
    by_cases e : x = y
    · rw [if_pos e] at h; rw [if_pos e.symm]; exact lexLt_asymm h
    · rw [if_neg e] at h; rw [if_neg (fun z => e z.symm)]
      have := of_decide_eq_true h
      exact decide_eq_false (by omega)
theorem lexLt_pre (k : List Int) (s s' : List Int) : lexLt (k ++ s) (k ++ s') = lexLt s s' := by
  induction k with
  | nil => rfl
  | cons x k ih =>
    have e : lexLt (x :: (k ++ s)) (x :: (k ++ s')) = if x = x then lexLt (k ++ s) (k ++ s') else decide (x < x) := rfl
    show lexLt (x :: (k ++ s)) (x :: (k ++ s')) = _
    rw [e, if_pos rfl]; exact ih
theorem lexLt_app : ∀ {k k' : List Int} (s s' : List Int), k.length = k'.length → lexLt k k' = true → lexLt (k ++ s) (k' ++ s') = true
  | [], [], _, _, _, h => by cases h
  | [], _ :: _, _, _, e, _ => by cases e
  | _ :: _, [], _, _, e, _ => by cases e
  | x :: k, y :: k', s, s', e, h => by
    show lexLt (x :: (k ++ s)) (y :: (k' ++ s')) = true
    unfold lexLt at h ⊢
    by_cases q : x = y
    · rw [if_pos q] at h ⊢
      exact lexLt_app s s' (by simpa using e) h
    · rw [if_neg q] at h ⊢; exact h
def preKey : Tr → Nat → List Int
  | .nil, _ => []
  | .node l x r, a => ((x : Int) - a) :: (preKey l a ++ preKey r x)
def chKey : Ch → Nat → List Int
  | [], _ => []
  | (t, h) :: c, low => ((h : Int) - low - 1) :: (preKey t low ++ chKey c h)
theorem preKey_len : ∀ {t : Tr} {a b : Nat}, TreeF t a b → (preKey t a).length + 1 = b - a
  | .nil, a, b, h => by unfold TreeF at h; simp [preKey]; omega
  | .node l x r, a, b, h => by
    obtain ⟨h1, h2⟩ := h
    have l1 := h1.lt; have l2 := h2.lt
    have := preKey_len h1; have := preKey_len h2
    simp only [preKey, List.length_cons, List.length_append]
    omega
theorem pw_prod {α β γ : Type} {As : List α} {Bs : List β} {g : α → β → γ} {R : γ → γ → Prop} {RA : α → α → Prop} {RB : β → β → Prop} (hA : As.Pairwise RA) (hB : Bs.Pairwise RB)
    (h1 : ∀ a ∈ As, ∀ b ∈ Bs, ∀ b' ∈ Bs, RB b b' → R (g a b) (g a b')) (h2 : ∀ a ∈ As, ∀ a' ∈ As, ∀ b ∈ Bs, ∀ b' ∈ Bs, RA a a' → R (g a b) (g a' b')) : (As.flatMap fun a => Bs.map (g a)).Pairwise R := by
  rw [List.pairwise_flatMap]
  refine ⟨fun a ha => ?_, ?_⟩
  · rw [List.pairwise_map]
    exact hB.imp_of_mem fun hb hb' r => h1 a ha _ hb _ hb' r
  · refine hA.imp_of_mem fun {a a'} ha ha' r x hx y hy => ?_
    obtain ⟨b, hb, rfl⟩ := List.mem_map.mp hx
    obtain ⟨b', hb', rfl⟩ := List.mem_map.mp hy
    exact h2 a ha a' ha' b hb b' hb' r
theorem pw_range' : ∀ (k s : Nat), (List.range' s k).Pairwise (· < ·)
  | 0, _ => by simp
  | k + 1, s => by
    rw [List.range'_succ, List.pairwise_cons]
    refine ⟨fun y hy => ?_, pw_range' k (s + 1)⟩
    rw [mem_range'_1] at hy; omega
theorem trs_sorted {ok : Nat → Nat → Nat → Bool} : ∀ (w a b : Nat), b - a ≤ w → (trs ok a b).Pairwise fun t u => lexLt (preKey t a) (preKey u a) = true
  | 0, a, b, h => by rw [trs_nil (by omega)]; simp
  | w + 1, a, b, h => by
    by_cases hb : b ≤ a + 1
    · rw [trs_nil hb]; simp
    · rw [trs_eq (by omega), List.pairwise_flatMap]
      refine ⟨fun x hx => ?_, ?_⟩
      · rw [mem_range'_1] at hx
        unfold rootedL
        split
        · refine pw_prod (trs_sorted w a x (by omega)) (trs_sorted w x b (by omega)) (fun l hl r hr r' hr' q => ?_) fun l hl l' hl' r hr r' hr' q => ?_
          · show lexLt (_ :: (preKey l a ++ preKey r x)) (_ :: (preKey l a ++ preKey r' x)) = true
            unfold lexLt
            rw [if_pos rfl, lexLt_pre]; exact q
          · show lexLt (_ :: (preKey l a ++ preKey r x)) (_ :: (preKey l' a ++ preKey r' x)) = true
            unfold lexLt
            rw [if_pos rfl]
            have e1 := preKey_len (trs_form (by omega) hl)
            have e2 := preKey_len (trs_form (by omega) hl')
            exact lexLt_app _ _ (by omega) q
        · exact List.Pairwise.nil
      · refine (pw_range' _ _).imp_of_mem fun {x y} hx hy hxy t ht u hu => ?_
        unfold rootedL at ht hu
        split at ht
        · split at hu
          · obtain ⟨l, _, ht⟩ := List.mem_flatMap.mp ht
            obtain ⟨r, _, rfl⟩ := List.mem_map.mp ht
            obtain ⟨l', _, hu⟩ := List.mem_flatMap.mp hu
            obtain ⟨r', _, rfl⟩ := List.mem_map.mp hu
            show lexLt (((x : Int) - a) :: _) (((y : Int) - a) :: _) = true
            unfold lexLt
            rw [if_neg (by omega)]
            exact decide_eq_true (by omega)
          · simp at hu
        · simp at ht
theorem chs_sorted {ok : Nat → Nat → Nat → Bool} {okn : Nat → Nat → Bool} {n : Nat} : ∀ (w low : Nat), n + 1 - low ≤ w → (chs ok okn n low).Pairwise fun c d => lexLt (chKey c low) (chKey d low) = true
  | 0, low, h => by rw [chs_nil (by omega)]; simp
  | w + 1, low, h => by
    by_cases hb : n + 1 ≤ low
    · rw [chs_nil hb]; simp
    · rw [chs_eq (by omega), List.pairwise_flatMap]
      refine ⟨fun x hx => ?_, ?_⟩
      · rw [mem_range'_1] at hx
        unfold contL
        split
        · refine pw_prod (trs_sorted _ low x (Nat.le_refl _)) (chs_sorted w x (by omega)) (fun l hl r hr r' hr' q => ?_) fun l hl l' hl' r hr r' hr' q => ?_
          · show lexLt (_ :: (preKey l low ++ chKey r x)) (_ :: (preKey l low ++ chKey r' x)) = true
            unfold lexLt
            rw [if_pos rfl, lexLt_pre]; exact q
          · show lexLt (_ :: (preKey l low ++ chKey r x)) (_ :: (preKey l' low ++ chKey r' x)) = true
            unfold lexLt
            rw [if_pos rfl]
            have e1 := preKey_len (trs_form (by omega) hl)
            have e2 := preKey_len (trs_form (by omega) hl')
            exact lexLt_app _ _ (by omega) q
        · exact List.Pairwise.nil
      · refine (pw_range' _ _).imp_of_mem fun {x y} hx hy hxy t ht u hu => ?_
        unfold contL at ht hu
        split at ht
        · split at hu
          · obtain ⟨l, _, ht⟩ := List.mem_flatMap.mp ht
            obtain ⟨r, _, rfl⟩ := List.mem_map.mp ht
            obtain ⟨l', _, hu⟩ := List.mem_flatMap.mp hu
            obtain ⟨r', _, rfl⟩ := List.mem_map.mp hu
            show lexLt (((x : Int) - low - 1) :: _) (((y : Int) - low - 1) :: _) = true
            unfold lexLt
            rw [if_neg (by omega)]
            exact decide_eq_true (by omega)
          · simp at hu
        · simp at ht
theorem fits_sorted (n : Nat) (fs : List Ft) : (fits n fs).Pairwise fun c d => lexLt (chKey c 0) (chKey d 0) = true := chs_sorted (n + 1) 0 (by omega)
theorem fits_lt {n : Nat} {fs : List Ft} {i j : Nat} {c d : Ch} (hc : (fits n fs)[i]? = some c) (hd : (fits n fs)[j]? = some d) (h : i < j) : lexLt (chKey c 0) (chKey d 0) = true := by
  obtain ⟨h1, rfl⟩ := List.getElem?_eq_some_iff.mp hc
  obtain ⟨h2, rfl⟩ := List.getElem?_eq_some_iff.mp hd
  exact List.pairwise_iff_getElem.mp (fits_sorted n fs) i j h1 h2 h

/-! ### between a node and its link all nodes are out and linked within -/
theorem TreeOn.within {W : Wd} : ∀ {t : Tr} {a b : Nat}, TreeOn W t a b → ∀ x, a < x → x < b → W.O x = true ∧ (a : Int) ≤ W.L x ∧ W.L x < x ∧ (x : Int) < W.R x ∧ W.R x ≤ b
  | .nil, a, b, h, x, p, q => by unfold TreeOn at h; omega
  | .node l y r, a, b, h, x, p, q => by
    obtain ⟨hL, hR, hO, h1, h2⟩ := h
    have l1 := h1.lt; have l2 := h2.lt
    rcases Nat.lt_trichotomy x y with z | z | z
    · obtain ⟨k1, k2, k3, k4, k5⟩ := h1.within x p z
      exact ⟨k1, k2, k3, k4, by omega⟩
    · subst z
      exact ⟨hO, by omega, by omega, by omega, by omega⟩
    · obtain ⟨k1, k2, k3, k4, k5⟩ := h2.within x z q
      exact ⟨k1, by omega, k3, k4, k5⟩
theorem TreeOn.crossL {W : Wd} : ∀ {t : Tr} {a b : Nat}, TreeOn W t a b → ∀ y low : Nat, a < y → y < b → W.L y = (low : Int) → ∀ x, low < x → x < y → W.O x = true ∧ (low : Int) ≤ W.L x ∧ W.R x ≤ y
  | .nil, a, b, h, y, low, p, q, _, _, _, _ => by unfold TreeOn at h; omega
  | .node l z r, a, b, h, y, low, p, q, e, x, p', q' => by
    obtain ⟨hL, hR, hO, h1, h2⟩ := h
    rcases Nat.lt_trichotomy y z with w | w | w
    · exact h1.crossL y low p w e x p' q'
    · subst w
      have : a = low := by omega
      subst this
      obtain ⟨k1, k2, k3, k4, k5⟩ := h1.within x p' q'
      exact ⟨k1, k2, k5⟩
    · exact h2.crossL y low w q e x p' q'
theorem TreeOn.crossR {W : Wd} : ∀ {t : Tr} {a b : Nat}, TreeOn W t a b → ∀ y high : Nat, a < y → y < b → W.R y = (high : Int) → ∀ x, y < x → x < high → W.O x = true ∧ (y : Int) ≤ W.L x ∧ W.R x ≤ high
  | .nil, a, b, h, y, low, p, q, _, _, _, _ => by unfold TreeOn at h; omega
  | .node l z r, a, b, h, y, high, p, q, e, x, p', q' => by
    obtain ⟨hL, hR, hO, h1, h2⟩ := h
    rcases Nat.lt_trichotomy y z with w | w | w
    · exact h1.crossR y high p w e x p' q'
    · subst w
      have : b = high := by omega
      subst this
      obtain ⟨k1, k2, k3, k4, k5⟩ := h2.within x p' q'
      exact ⟨k1, k2, k5⟩
    · exact h2.crossR y high w q e x p' q'
theorem ChainOn.crossL {W : Wd} {n : Nat} : ∀ {c : Ch} {s : Nat}, ChainOn W n c s → ∀ y low : Nat, s < y → y ≤ n + 1 → W.L y = (low : Int) → ∀ x, low < x → x < y → W.O x = true ∧ (low : Int) ≤ W.L x ∧ W.R x ≤ y
  | [], s, h, y, low, p, q, _, _, _, _ => by unfold ChainOn at h; omega
  | (t, z) :: c, s, h, y, low, p, q, e, x, p', q' => by
    obtain ⟨h1, hR, hL, hO, h2⟩ := h
    rcases Nat.lt_trichotomy y z with w | w | w
    · exact h1.crossL y low p w e x p' q'
    · subst w
      have : s = low := by omega
      subst this
      obtain ⟨k1, k2, k3, k4, k5⟩ := h1.within x p' q'
      exact ⟨k1, k2, k5⟩
    · exact h2.crossL y low w q e x p' q'
theorem ChainOn.crossR {W : Wd} {n : Nat} : ∀ {c : Ch} {s : Nat}, ChainOn W n c s → ∀ y high : Nat, s ≤ y → y ≤ n → W.R y = (high : Int) → ∀ x, y < x → x < high → W.O x = true ∧ (y : Int) ≤ W.L x ∧ W.R x ≤ high
  | [], s, h, y, low, p, q, _, _, _, _ => by unfold ChainOn at h; omega
  | (t, z) :: c, s, h, y, high, p, q, e, x, p', q' => by
    obtain ⟨h1, hR, hL, hO, h2⟩ := h
    have l1 := h1.lt
    by_cases w0 : y = s
    · subst w0
      have : z = high := by omega
      subst this
      obtain ⟨k1, k2, k3, k4, k5⟩ := h1.within x p' q'
      exact ⟨k1, k2, k5⟩
    · by_cases w : y < z
      · exact h1.crossR y high (by omega) w e x p' q'
      · exact h2.crossR y high (by omega) q e x p' q'
/-- links of a standing: within bounds -/
theorem ChainOn.links {W : Wd} {n : Nat} : ∀ {c : Ch} {s : Nat}, ChainOn W n c s → (∀ y, s < y → y ≤ n + 1 → 0 ≤ W.L y ∧ W.L y < y) ∧ (∀ y, s ≤ y → y ≤ n → (y : Int) < W.R y ∧ W.R y ≤ (n : Int) + 1)
  | [], s, h => by
    unfold ChainOn at h
    exact ⟨fun y p q => by omega, fun y p q => by omega⟩
  | (t, z) :: c, s, h => by
    obtain ⟨h1, hR, hL, hO, h2⟩ := h
    have l1 := h1.lt; have l2 := h2.le
    obtain ⟨i1, i2⟩ := h2.links
    refine ⟨fun y p q => ?_, fun y p q => ?_⟩
    · rcases Nat.lt_trichotomy y z with w | w | w
      · obtain ⟨k1, k2, k3, k4, k5⟩ := h1.within y p w
        exact ⟨by omega, k3⟩
      · subst w; omega
      · exact i1 y w q
    · by_cases w0 : y = s
      · subst w0; omega
      · by_cases w : y < z
        · obtain ⟨k1, k2, k3, k4, k5⟩ := h1.within y (by omega) w
          exact ⟨k4, by omega⟩
        · exact i2 y (by omega) q
theorem Stand.tailO {W : Wd} {n : Nat} {c : Ch} (h : Stand W n c) : W.O (n + 1) = false := by
  have : ∀ {c : Ch} {s : Nat}, ChainOn W n c s → W.O s = false → W.O (n + 1) = false := by
    intro c
    induction c with
    | nil => intro s h ho; unfold ChainOn at h; rw [← h]; exact ho
    | cons p c ih =>
      intro s h ho
      obtain ⟨t, z⟩ := p
      obtain ⟨_, _, _, hO, h2⟩ := h
      exact ih h2 hO
  exact this h.ch h.o0
theorem Stand.left {W : Wd} {n : Nat} {c : Ch} (h : Stand W n c) {y : Nat} (h1 : 1 ≤ y) (h2 : y ≤ n + 1) : ∃ l : Nat, W.L y = (l : Int) ∧ l < y := by
  obtain ⟨k1, k2⟩ := h.ch.links.1 y h1 h2
  exact ⟨(W.L y).toNat, by omega, by omega⟩
theorem Stand.right {W : Wd} {n : Nat} {c : Ch} (h : Stand W n c) {y : Nat} (h2 : y ≤ n) : ∃ r : Nat, W.R y = (r : Int) ∧ y < r ∧ r ≤ n + 1 := by
  obtain ⟨k1, k2⟩ := h.ch.links.2 y (Nat.zero_le _) h2
  exact ⟨(W.R y).toNat, by omega, by omega, by omega⟩
/-- a chain has one standing's data: two standings of one chain agree where facts look -/
theorem stand_of {n : Nat} {fs : List Ft} {c : Ch} (h : c ∈ fits n fs) : Stand (play (chPost c)) n c := play_post (fits_form h)

/-! ### numbers of fits -/
theorem length_filter_eq {α : Type} {p : α → Bool} : ∀ {l : List α}, (l.filter p).length = l.length ↔ ∀ x ∈ l, p x = true := by
  intro l
  exact List.length_filter_eq_length_iff
theorem count_sure {n : Nat} {fs : List Ft} {f : Ft} : (fits n (fs ++ [f])).length = (fits n fs).length ↔ ∀ c ∈ fits n fs, satC f c = true := by
  rw [fits_snoc]; exact length_filter_eq
theorem count_never {n : Nat} {fs : List Ft} {f : Ft} : (fits n (fs ++ [f])).length = 0 ↔ ∀ c ∈ fits n fs, satC f c = false := by
  rw [fits_snoc, List.length_eq_zero_iff, List.filter_eq_nil_iff]
  constructor
  · intro h c hc
    have := h c hc
    cases e : satC f c with
    | true => exact absurd e this
    | false => rfl
  · intro h c hc
    rw [h c hc]; exact Bool.false_ne_true
/-- parts of which each standing fits just one -/
theorem sum_zero {β : Type} : ∀ ps : List β, (ps.map fun _ => 0).sum = 0
  | [] => rfl
  | _ :: ps => by rw [List.map_cons, List.sum_cons, sum_zero ps]
theorem sum_step {α β : Type} (sat : β → α → Bool) (x : α) (l : List α) : ∀ ps : List β, (ps.map fun p => ((x :: l).filter (sat p)).length).sum = (ps.map fun p => (l.filter (sat p)).length).sum + ps.countP (fun p => sat p x)
  | [] => rfl
  | p :: ps => by
    rw [List.map_cons, List.map_cons, List.sum_cons, List.sum_cons, List.countP_cons, sum_step sat x l ps, List.filter_cons]
    split
    · rw [List.length_cons]; omega
    · omega
theorem sum_parts {α : Type} {β : Type} (sat : β → α → Bool) (ps : List β) : ∀ (l : List α), (∀ x ∈ l, ps.countP (fun p => sat p x) = 1) → (ps.map fun p => (l.filter (sat p)).length).sum = l.length
  | [], _ => sum_zero ps
  | x :: l, h => by
    rw [sum_step, sum_parts sat ps l fun y hy => h y (List.mem_cons_of_mem _ hy), h x List.mem_cons_self, List.length_cons]
theorem count_parts {n : Nat} {fs ps : List Ft} (h : ∀ c ∈ fits n fs, ps.countP (fun p => satC p c) = 1) : (ps.map fun p => (fits n (fs ++ [p])).length).sum = (fits n fs).length := by
  have e := sum_parts (fun p c => satC p c) ps (fits n fs) h
  rw [← e]
  congr 1
  refine List.map_congr_left fun p _ => ?_
  rw [fits_snoc]
theorem countP_one {β : Type} {p : β → Bool} {b : β} : ∀ {l : List β}, l.Nodup → b ∈ l → p b = true → (∀ x ∈ l, p x = true → x = b) → l.countP p = 1
  | [], _, h, _, _ => by simp at h
  | x :: l, nd, hb, hp, hu => by
    obtain ⟨n1, n2⟩ := List.nodup_cons.mp nd
    rw [List.countP_cons]
    rcases List.mem_cons.mp hb with e | hb'
    · subst e
      have : l.countP p = 0 := by
        rw [List.countP_eq_zero]
        intro y hy q
        exact n1 ((hu y (List.mem_cons_of_mem _ hy) q) ▸ hy)
      rw [this, hp]; rfl
    · have hx : p x = false := by
        cases e : p x with
        | false => rfl
        | true => exact absurd ((hu x List.mem_cons_self e) ▸ hb') n1
      rw [countP_one n2 hb' hp fun y hy => hu y (List.mem_cons_of_mem _ hy), hx]; rfl
/-- in or out; each left link; each right link -/
theorem parts_inout {n : Nat} {fs : List Ft} {x : Nat} (h : (Ft.inn x).ok n) : ∀ c ∈ fits n fs, [Ft.inn x, Ft.out x].countP (fun p => satC p c) = 1 := fun c hc => by
  have s := stand_of hc
  rw [List.countP_cons, List.countP_cons, List.countP_nil, satC_holds s h, satC_holds s (f := .out x) h]
  show 0 + (if (play (chPost c)).O x = true then 1 else 0) + (if (!(play (chPost c)).O x) = true then 1 else 0) = 1
  rcases Bool.eq_false_or_eq_true ((play (chPost c)).O x) with e | e <;> simp [e]
theorem parts_left {n : Nat} {fs : List Ft} {y : Nat} (h1 : 1 ≤ y) (h2 : y ≤ n + 1) : ∀ c ∈ fits n fs, ((List.range' 0 y).map fun l => Ft.lf y l).countP (fun p => satC p c) = 1 := fun c hc => by
  have s := stand_of hc
  obtain ⟨l, e, hl⟩ := s.left h1 h2
  refine countP_one (b := Ft.lf y l) ?_ (List.mem_map.mpr ⟨l, mem_range'_1.mpr (by omega), rfl⟩) ?_ fun z hz hs => ?_
  · rw [List.Nodup, List.pairwise_map]
    exact (pw_range' _ _).imp fun {a b} hab q => by injection q; omega
  · rw [satC_holds s (f := .lf y l) ⟨h1, h2, hl⟩]
    exact decide_eq_true e
  · obtain ⟨l', hl', rfl⟩ := List.mem_map.mp hz
    rw [mem_range'_1] at hl'
    rw [satC_holds s (f := .lf y l') ⟨h1, h2, by omega⟩] at hs
    have : (play (chPost c)).L y = (l' : Int) := of_decide_eq_true hs
    rw [show l' = l by omega]
theorem parts_right {n : Nat} {fs : List Ft} {y : Nat} (h2 : y ≤ n) : ∀ c ∈ fits n fs, ((List.range' (y + 1) (n + 1 - y)).map fun l => Ft.rt y l).countP (fun p => satC p c) = 1 := fun c hc => by
  have s := stand_of hc
  obtain ⟨l, e, hl, hl2⟩ := s.right h2
  refine countP_one (b := Ft.rt y l) ?_ (List.mem_map.mpr ⟨l, mem_range'_1.mpr (by omega), rfl⟩) ?_ fun z hz hs => ?_
  · rw [List.Nodup, List.pairwise_map]
    exact (pw_range' _ _).imp fun {a b} hab q => by injection q; omega
  · rw [satC_holds s (f := .rt y l) ⟨h2, hl, hl2⟩]
    exact decide_eq_true e
  · obtain ⟨l', hl', rfl⟩ := List.mem_map.mp hz
    rw [mem_range'_1] at hl'
    rw [satC_holds s (f := .rt y l') ⟨h2, by omega, by omega⟩] at hs
    have : (play (chPost c)).R y = (l' : Int) := of_decide_eq_true hs
    rw [show l' = l by omega]

/-! ### the numbers without facts -/
def clist : Nat → List Nat
  | 0 => []
  | 1 => [1]
  | k + 2 => clist (k + 1) ++ [(List.zipWith (· * ·) (clist (k + 1)) (clist (k + 1)).reverse).sum]
theorem clist_len : ∀ k, (clist k).length = k
  | 0 => rfl
  | 1 => rfl
  | k + 2 => by unfold clist; rw [List.length_append, clist_len (k + 1)]; rfl
/-- the k-th number: of the trees over a range of k + 1 -/
def cw (k : Nat) : Nat := (clist (k + 1)).getD k 0
theorem clist_get : ∀ {m k : Nat}, k < m → (clist m)[k]? = some (cw k)
  | 0, k, h => by omega
  | 1, k, h => by
    have : k = 0 := by omega
    subst this; rfl
  | m + 2, k, h => by
    by_cases e : k = m + 1
    · subst e
      unfold cw
      rw [List.getD_eq_getElem?_getD]
      have : m + 1 < (clist (m + 1 + 1)).length := by rw [clist_len]; omega
      rw [List.getElem?_eq_getElem this]; rfl
    · have hk : k < m + 1 := by omega
      unfold clist
      rw [List.getElem?_append_left (by rw [clist_len]; omega)]
      exact clist_get hk
theorem cw_zero : cw 0 = 1 := rfl
theorem cw_succ (k : Nat) : cw (k + 1) = ((List.range' 0 (k + 1)).map fun i => cw i * cw (k - i)).sum := by
  have e : cw (k + 1) = (List.zipWith (· * ·) (clist (k + 1)) (clist (k + 1)).reverse).sum := by
    unfold cw
    show (clist (k + 1) ++ [_]).getD (k + 1) 0 = _
    rw [List.getD_eq_getElem?_getD, List.getElem?_append_right (by rw [clist_len]; exact Nat.le_refl _), clist_len]
    simp
  rw [e]
  congr 1
  refine List.ext_getElem? fun i => ?_
  by_cases hi : i < k + 1
  · rw [List.getElem?_zipWith, clist_get hi, List.getElem?_reverse (by rw [clist_len]; exact hi), clist_len, clist_get (by omega), List.getElem?_map, List.getElem?_range' hi]
    show some (cw i * cw (k + 1 - 1 - i)) = some (cw (0 + 1 * i) * cw (k - (0 + 1 * i)))
    rw [show 0 + 1 * i = i by omega, show k + 1 - 1 - i = k - i by omega]
  · rw [List.getElem?_eq_none_iff.mpr (by simp [clist_len]; omega), List.getElem?_eq_none_iff.mpr (by simp; omega)]
theorem tc_top : ∀ (w a b : Nat), b - a ≤ w → a < b → tc top3 a b = cw (b - a - 1)
  | 0, a, b, h, hab => by omega
  | w + 1, a, b, h, hab => by
    by_cases hb : b ≤ a + 1
    · rw [tc_nil hb, show b - a - 1 = 0 by omega]; rfl
    · rw [tc_eq (by omega)]
      obtain ⟨k, hk⟩ : ∃ k, b - a - 1 = k + 1 := ⟨b - a - 2, by omega⟩
      rw [hk, cw_succ]
      congr 1
      refine List.ext_getElem? fun i => ?_
      by_cases hi : i < k + 1
      · rw [List.getElem?_map, List.getElem?_map, List.getElem?_range' hi, List.getElem?_range' hi]
        show some (rc top3 (a + 1 + 1 * i) a b) = some (cw (0 + 1 * i) * cw (k - (0 + 1 * i)))
        unfold rc
        rw [if_pos rfl, tc_top w a _ (by omega) (by omega), tc_top w _ b (by omega) (by omega)]
        rw [show a + 1 + 1 * i - a - 1 = 0 + 1 * i by omega, show b - (a + 1 + 1 * i) - 1 = k - (0 + 1 * i) by omega]
      · rw [List.getElem?_eq_none_iff.mpr (by simp; omega), List.getElem?_eq_none_iff.mpr (by simp; omega)]
theorem cc_top {n : Nat} : ∀ (w low : Nat), n + 1 - low ≤ w → low ≤ n + 1 → cc top3 top2 n low = cw (n + 1 - low)
  | 0, low, h, hl => by rw [cc_nil (by omega), show n + 1 - low = 0 by omega]; rfl
  | w + 1, low, h, hl => by
    by_cases hb : n + 1 ≤ low
    · rw [cc_nil hb, show n + 1 - low = 0 by omega]; rfl
    · rw [cc_eq (by omega)]
      obtain ⟨k, hk⟩ : ∃ k, n + 1 - low = k + 1 := ⟨n - low, by omega⟩
      rw [hk, cw_succ]
      congr 1
      refine List.ext_getElem? fun i => ?_
      by_cases hi : i < k + 1
      · rw [List.getElem?_map, List.getElem?_map, List.getElem?_range' hi, List.getElem?_range' hi]
        show some (nc top3 top2 n low (low + 1 + 1 * i)) = some (cw (0 + 1 * i) * cw (k - (0 + 1 * i)))
        unfold nc
        rw [if_pos rfl, tc_top _ low _ (Nat.le_refl _) (by omega), cc_top w _ (by omega) (by omega)]
        rw [show low + 1 + 1 * i - low - 1 = 0 + 1 * i by omega, show n + 1 - (low + 1 + 1 * i) = k - (0 + 1 * i) by omega]
      · rw [List.getElem?_eq_none_iff.mpr (by simp; omega), List.getElem?_eq_none_iff.mpr (by simp; omega)]
def due : Nat → Nat
  | 0 => 1
  | k + 1 => due k * (4 * (k + 1) - 2) / (k + 2)
theorem due_all : ∀ n, n ≤ 60 → cw (n + 1) = due (n + 1) := by
  have h : (List.range 61).all (fun n => decide ((clist 62).getD (n + 1) 0 = due (n + 1))) = true := by decide +kernel
  intro n hn
  have e := List.all_eq_true.mp h n (List.mem_range.mpr (by omega))
  have e := of_decide_eq_true e
  rw [← e, List.getD_eq_getElem?_getD, clist_get (by omega)]; rfl
theorem cw_small : ∀ k, k ≤ 61 → cw k < 2 ^ 120 := by
  have h : (List.range 62).all (fun n => decide ((clist 62).getD n 0 < 2 ^ 120)) = true := by decide +kernel
  intro n hn
  have e := List.all_eq_true.mp h n (List.mem_range.mpr (by omega))
  have e := of_decide_eq_true e
  rw [List.getD_eq_getElem?_getD, clist_get (by omega)] at e
  exact e
theorem cw_tiny : ∀ k, k ≤ 15 → cw k < 2 ^ 40 := by
  have h : (List.range 16).all (fun n => decide ((clist 16).getD n 0 < 2 ^ 40)) = true := by decide +kernel
  intro n hn
  have e := List.all_eq_true.mp h n (List.mem_range.mpr (by omega))
  have e := of_decide_eq_true e
  rw [List.getD_eq_getElem?_getD, clist_get (by omega)] at e
  exact e
theorem all_len (n : Nat) : (allCh n).length = cw (n + 1) := cc_top (n + 1) 0 (by omega) (by omega)
theorem fits_nil (n : Nat) : fits n [] = allCh n := by
  rw [fits_eq]
  exact List.filter_eq_self.mpr fun _ _ => rfl
theorem fits_le (n : Nat) (fs : List Ft) : (fits n fs).length ≤ cw (n + 1) := by
  rw [fits_eq, ← all_len n]; exact List.length_filter_le ..
theorem tc_le {ok : Nat → Nat → Nat → Bool} {a b : Nat} (h : a < b) : tc ok a b ≤ cw (b - a - 1) := by
  rw [← tc_top (b - a) a b (Nat.le_refl _) h]
  unfold tc
  rw [trs_filter (b - a) a b (Nat.le_refl _)]
  exact List.length_filter_le ..
theorem cc_le {ok : Nat → Nat → Nat → Bool} {okn : Nat → Nat → Bool} {n low : Nat} (h : low ≤ n + 1) : cc ok okn n low ≤ cw (n + 1 - low) := by
  rw [← cc_top (n + 1 - low) low (Nat.le_refl _) h]
  unfold cc
  rw [chs_filter (n + 1 - low) low (Nat.le_refl _)]
  exact List.length_filter_le ..
end LK
end

section
/-! LKCore -/
namespace LK
open PySem PySem.Spec PyProof.Rows L2

/-! ### what the module's names are -/
structure Tx (mg : Str → Option Value) : Prop where
  len : mg "len" = none
  int : mg "int" = none
  bool : mg "bool" = none
  abs : mg "abs" = none
  min : mg "min" = none
  sum : mg "sum" = none
  sorted : mg "sorted" = none
  divmod : mg "divmod" = none
  list : mg "list" = none
  isinstance : mg "isinstance" = none
  str : mg "str" = none
  range : mg "range" = none
  enumerate : mg "enumerate" = none
  reversed : mg "reversed" = none
  ValueError : mg "ValueError" = none
  most : ∃ u, mg "MOST_NODES" = some u ∧ RelV (.int 60) u

/-! ### defs, methods, classes: callable -/
section
variable (P : Program) (w : World) (K : PySem.W.Frag) (mg : Str → Option Value) (base : Heap)
structure Cal (k : Nat) (x : Str) (sp : Sp) : Prop where
  ex : ∃ (f : Addr) (fd : FuncData) (ps : List Str), FnOk P w K mg base CX0 k f fd ps sp ∧ mg x = some (.ref f) ∧ PySem.W.keepIn K (.ref f) = true ∧ Binds K fd ps []
structure Met (k : Nat) (C : Addr) (m : Str) (sp : Sp) : Prop where
  ex : ∃ (f : Addr) (fd : FuncData) (ps : List Str), Cls K C ∧ Meth K C m f ∧ FnOk P w K mg base CX0 k f fd ps sp ∧ Binds K fd ps []
structure Mak (k : Nat) (x : Str) (C : Addr) (sp : Sp) : Prop where
  ex : ∃ (f : Addr) (fd : FuncData) (ps : List Str), L2.Mk K C f ∧ FnOk P w K mg base CX0 k f fd ps sp ∧ mg x = some (.ref C) ∧ Binds K fd ps []
/-- a staticmethod m of the class at C: its record, its def -/
structure Sta (k : Nat) (C : Addr) (m : Str) (sp : Sp) : Prop where
  ex : ∃ (mc : Value) (p f : Addr) (fd : FuncData) (ps : List Str), ClX.CRead K C mc ∧ PySem.W.findCls K (.ref C) mc m = some (.get (.builtin "staticmethod.__get__") (.ref p) .none (.ref C)) ∧ (∃ rest, PySem.W.recIn K p "staticmethod" = some (.ref f :: rest)) ∧
    PySem.W.keepIn K (.ref f) = true ∧ FnOk P w K mg base CX0 k f fd ps sp ∧ Binds K fd ps []
/-- a classmethod -/
structure Clm (k : Nat) (C : Addr) (m : Str) (sp : Sp) : Prop where
  ex : ∃ (mc : Value) (p f : Addr) (fd : FuncData) (ps : List Str), ClX.CRead K C mc ∧ ClX.CMet K C mc m p f ∧ FnOk P w K mg base CX0 k f fd ps sp ∧ Binds K fd ps []
end
section
variable {X : Cx} {k j : Nat} {C : Addr} {x m : Str} {sp : Sp} {p pos apos : Pos} {e o : Expr} {es : List Expr} {ta : TE} {t : TA}
theorem pe_c (c : Cal X.prog X.w X.K X.mg X.base k x sp) (hr : Room j X.A) (hk : k ≤ j) (hg : Gl X x) (ha : PA X (e :: es) t)
    (hdb : (x == ("__debug__" : Str)) = false := by decide) (he : starEach (e :: es) X.env = (false, eval e X.env) :: starEach es X.env := by rfl) (hpl : (backTo pos (starEach es X.env)).any (·.1) = false := by rfl) :
    PE X (.Call (.Name x p) (e :: es) [] pos) (tCall sp [] E0 t) := by
  obtain ⟨f, fd, ps, F, hm, kp, b⟩ := c.ex
  exact pe_call F (hr.mono hk) hg hm kp b .nil pass0 ha hdb he hpl
theorem pe_mk (c : Mak X.prog X.w X.K X.mg X.base k x C sp) (hr : Room j X.A) (hk : k + 1 ≤ j) (hg : Gl X x) (ha : PA X (e :: es) t)
    (hdb : (x == ("__debug__" : Str)) = false := by decide) (he : starEach (e :: es) X.env = (false, eval e X.env) :: starEach es X.env := by rfl) (hpl : (backTo pos (starEach es X.env)).any (·.1) = false := by rfl) :
    PE X (.Call (.Name x p) (e :: es) [] pos) (tMake C sp [] E0 t) := by
  obtain ⟨f, fd, ps, M, F, hm, b⟩ := c.ex
  exact pe_make M F (hr.mono hk) hg hm b .nil pass0 ha hdb he hpl
theorem pe_mt {pl : Sem Bool} (c : Met X.prog X.w X.K X.mg X.base k C m sp) (hr : Room j X.A) (hk : k ≤ j) (he : PE X o ta) (ha : PA X (e :: es) t)
    (hst : starEach (e :: es) X.env = (false, eval e X.env) :: starEach es X.env := by rfl) (hpl : (backTo pos (starEach es X.env)).any (·.1) = false := by rfl)
    (ht : eval (.Call (.Attribute o m apos) (e :: es) [] pos) X.env = (do
      let ov ← eval o X.env
      standAt apos.atName
      let (f, first) ← holding [ov] (getMethod ov m pl)
      callWith pos f first (backTo pos (starEach (e :: es) X.env)) (backToKw pos (keywordEach [] X.env))) := by rfl) :
    PE X (.Call (.Attribute o m apos) (e :: es) [] pos) (tMeth C m sp [] E0 ta t) := by
  obtain ⟨f, fd, ps, hc, hm, F, b⟩ := c.ex
  exact pe_meth (pl := pl) he hc hm F (hr.mono hk) b .nil pass0 ha hst hpl ht
theorem pe_mt0 {pl : Sem Bool} (c : Met X.prog X.w X.K X.mg X.base k C m sp) (hr : Room j X.A) (hk : k ≤ j) (he : PE X o ta)
    (ht : eval (.Call (.Attribute o m apos) [] [] pos) X.env = (do
      let ov ← eval o X.env
      standAt apos.atName
      let (f, first) ← holding [ov] (getMethod ov m pl)
      callWith pos f first (backTo pos (starEach [] X.env)) (backToKw pos (keywordEach [] X.env))) := by rfl) :
    PE X (.Call (.Attribute o m apos) [] [] pos) (tMeth C m sp [] E0 ta tNil) := by
  obtain ⟨f, fd, ps, hc, hm, F, b⟩ := c.ex
  exact pe_meth0 (pl := pl) he hc hm F (hr.mono hk) b .nil pass0 ht
/-- C.m(..), m a staticmethod -/
def tSta (C : Addr) (sp : Sp) (ta : TE) (t : TA) : TE := fun σ H Q => ta σ H fun x H1 => x = .ref C ∧ t σ H1 fun vs H2 => sp (vs ++ []) H2 Q E0
theorem pe_sta {pl : Sem Bool} (c : Sta X.prog X.w X.K X.mg X.base k C m sp) (hr : Room j X.A) (hk : k ≤ j) (he : PE X o ta) (ha : PA X (e :: es) t)
    (hst : starEach (e :: es) X.env = (false, eval e X.env) :: starEach es X.env := by rfl) (hpl : (backTo pos (starEach es X.env)).any (·.1) = false := by rfl)
    (ht : eval (.Call (.Attribute o m apos) (e :: es) [] pos) X.env = (do
      let ov ← eval o X.env
      standAt apos.atName
      let (f, first) ← holding [ov] (getMethod ov m pl)
      callWith pos f first (backTo pos (starEach (e :: es) X.env)) (backToKw pos (keywordEach [] X.env))) := by rfl) :
    PE X (.Call (.Attribute o m apos) (e :: es) [] pos) (tSta C sp ta t) := by
  obtain ⟨mc, p, f, fd, ps, r, fc, ⟨rest, hp⟩, kp, F, b⟩ := c.ex
  refine ⟨fun pins s σ H Q I h => ?_⟩
  refine PySem.W.methodCall_KW (pl := pl) (thn (he.run pins s σ H _ I h) fun u s1 ⟨x, H1, I1, rx, ex, q⟩ => ?_) ht
  subst ex
  obtain rfl : u = Value.ref C := rx
  refine PySem.W.method_cls I1.kIn r.ga (PySem.W.cls_bind I1.kIn r.rd fc ?_)
  refine wpAny_call (PySem.W.sm_get (s := { s1 with toks := s1.toks + 1 }) I1.kIn hp (PySem.W.handed_on rfl ?_))
  have I2 := I1.tok (s1.toks + 1)
  refine PySem.W.callWith_K (first := []) (h₀ := X.base) I.ok.mod.kin kp (thn (ha.run pos pins _ σ H1 _ I2 q) fun us s2 ⟨vs, H2, I3, r, q2⟩ => ⟨I3.kIn, ?_⟩) hst hpl
  exact run_fn F (hr.mono hk) b .nil pass0 I3 r q2
/-- C.m(..), m a classmethod -/
theorem pe_clm {pl : Sem Bool} (c : Clm X.prog X.w X.K X.mg X.base k C m sp) (hr : Room j X.A) (hk : k ≤ j) (he : PE X o ta) (ha : PA X (e :: es) t)
    (hst : starEach (e :: es) X.env = (false, eval e X.env) :: starEach es X.env := by rfl) (hpl : (backTo pos (starEach es X.env)).any (·.1) = false := by rfl)
    (ht : eval (.Call (.Attribute o m apos) (e :: es) [] pos) X.env = (do
      let ov ← eval o X.env
      standAt apos.atName
      let (f, first) ← holding [ov] (getMethod ov m pl)
      callWith pos f first (backTo pos (starEach (e :: es) X.env)) (backToKw pos (keywordEach [] X.env))) := by rfl) :
    PE X (.Call (.Attribute o m apos) (e :: es) [] pos) (ClX.tCMeth C (fun vs H Q E => sp (vs ++ []) H Q E) E0 ta t) := by
  obtain ⟨mc, p, f, fd, ps, r, cm, F, b⟩ := c.ex
  refine ClX.pe_cmeth (pl := pl) he r cm (CX := CX0) (k := k) (E := E0) (fun A outer s H us vs Q E hr e0 rv hs => ?_) (hr.mono hk) pass0 ha hst hpl ht
  have r2 : Vals (vs ++ []) (us ++ []) := rv.append .nil
  have hl : (us ++ []).length = ps.length := by rw [← r2.length]; exact F.len _ _ _ _ hs
  exact F.run A outer s H ⟨us, []⟩ (us ++ []) (vs ++ []) Q E hr e0 (b s us (e0.mod.kin.keeps fun b o e => (e0.bs b o e).1) hl) r2 hs
end
section
variable {P : Program} {w : World} {K : PySem.W.Frag} {mg : Str → Option Value} {base : Heap}
/-- how a def's arguments bind -/
def Bd (x qual : Str) (st : Stmt) (ps : List Str) : Prop := ∀ (kV doc pm : Value) (an : Option Addr) (cdv ct : Value) (us : List Value), us.length = ps.length → bindArgs (PySem.W.fnOf x qual (defArgs st) (defBody st) (defScope st) .none kV doc pm an cdv ct) ⟨us, []⟩ = pure (ps.zip us)
/-- what the head tells of a def: of a global's, of a method, of a staticmethod, of a classmethod -/
def Dn (K : PySem.W.Frag) (mg : Str → Option Value) (x : Str) (st : Stmt) : Prop := ∃ f fd, Fun K x x st f fd ∧ mg x = some (.ref f)
def Md (K : PySem.W.Frag) (C : Addr) (m qual : Str) (st : Stmt) : Prop := ∃ f fd, Cls K C ∧ Meth K C m f ∧ Fun K m qual st f fd
def Id (K : PySem.W.Frag) (mg : Str → Option Value) (x : Str) (C : Addr) (qual : Str) (st : Stmt) : Prop := ∃ f fd, L2.Mk K C f ∧ Fun K "__init__" qual st f fd ∧ mg x = some (.ref C)
def Sd (K : PySem.W.Frag) (C : Addr) (m qual : Str) (st : Stmt) : Prop := ∃ mc p f fd, ClX.CRead K C mc ∧ PySem.W.findCls K (.ref C) mc m = some (.get (.builtin "staticmethod.__get__") (.ref p) .none (.ref C)) ∧ (∃ rest, PySem.W.recIn K p "staticmethod" = some (.ref f :: rest)) ∧ Fun K m qual st f fd
def Cd (K : PySem.W.Frag) (C : Addr) (m qual : Str) (st : Stmt) : Prop := ∃ mc p f fd, ClX.CRead K C mc ∧ ClX.CMet K C mc m p f ∧ Fun K m qual st f fd
abbrev Body (P : Program) (w : World) (K : PySem.W.Frag) (mg : Str → Option Value) (base : Heap) (qual : Str) (st : Stmt) (N : List Str) (k : Nat) (sp : Sp) : Prop :=
  ∀ (f : Addr) (cdv : Value) (A : Around) (outer : List Env) (s : Shared) (H : Hp) (vs : List V) (Q : VK) (E : XK), Room k (A.deeper (envOfC qual (defScope st) s.heap.objs.size f cdv)) → sp vs H Q E →
      ∃ t, PSs (cxOf CX0 P w K mg base N qual (defScope st) f cdv A outer s H E).nox (defBody st) t ∧ t { nx := fun _ H' => Q .non H', rt := Q } (start N vs) H
theorem cal_of {x : Str} {st : Stmt} {N ps : List Str} {k : Nat} {sp : Sp} (D : Dn K mg x st) (S : FnScope N ps (defScope st)) (b : Bd x x st ps) (len : ∀ vs H Q E, sp vs H Q E → vs.length = ps.length) (hb : Body P w K mg base x st N k sp) : Cal P w K mg base (k + 1) x sp := by
  obtain ⟨f, fd, F, hm⟩ := D
  exact ⟨f, fd, ps, F.ok S len (hb f), hm, F.kp, F.binds b⟩
theorem met_of {C : Addr} {m qual : Str} {st : Stmt} {N ps : List Str} {k : Nat} {sp : Sp} (D : Md K C m qual st) (S : FnScope N ps (defScope st)) (b : Bd m qual st ps) (len : ∀ vs H Q E, sp vs H Q E → vs.length = ps.length) (hb : Body P w K mg base qual st N k sp) : Met P w K mg base (k + 1) C m sp := by
  obtain ⟨f, fd, c, hm, F⟩ := D
  exact ⟨f, fd, ps, c, hm, F.ok S len (hb f), F.binds b⟩
theorem mak_of {C : Addr} {x qual : Str} {st : Stmt} {N ps : List Str} {k : Nat} {sp : Sp} (D : Id K mg x C qual st) (S : FnScope N ps (defScope st)) (b : Bd "__init__" qual st ps) (len : ∀ vs H Q E, sp vs H Q E → vs.length = ps.length) (hb : Body P w K mg base qual st N k sp) : Mak P w K mg base (k + 1) x C sp := by
  obtain ⟨f, fd, M, F, hm⟩ := D
  exact ⟨f, fd, ps, M, F.ok S len (hb f), hm, F.binds b⟩
theorem sta_of {C : Addr} {m qual : Str} {st : Stmt} {N ps : List Str} {k : Nat} {sp : Sp} (D : Sd K C m qual st) (S : FnScope N ps (defScope st)) (b : Bd m qual st ps) (len : ∀ vs H Q E, sp vs H Q E → vs.length = ps.length) (hb : Body P w K mg base qual st N k sp) : Sta P w K mg base (k + 1) C m sp := by
  obtain ⟨mc, p, f, fd, r, fc, hp, F⟩ := D
  exact ⟨mc, p, f, fd, ps, r, fc, hp, F.kp, F.ok S len (hb f), F.binds b⟩
theorem clm_of {C : Addr} {m qual : Str} {st : Stmt} {N ps : List Str} {k : Nat} {sp : Sp} (D : Cd K C m qual st) (S : FnScope N ps (defScope st)) (b : Bd m qual st ps) (len : ∀ vs H Q E, sp vs H Q E → vs.length = ps.length) (hb : Body P w K mg base qual st N k sp) : Clm P w K mg base (k + 1) C m sp := by
  obtain ⟨mc, p, f, fd, r, cm, F⟩ := D
  exact ⟨mc, p, f, fd, ps, r, cm, F.ok S len (hb f), F.binds b⟩
end

/-! ### lists by functions -/
def tabI (N : Nat) (f : Nat → Int) : List V := (List.range N).map fun i => .int (f i)
def tabB (N : Nat) (f : Nat → Bool) : List V := (List.range N).map fun i => .bl (f i)
theorem tabI_len {N : Nat} {f : Nat → Int} : (tabI N f).length = N := by simp [tabI]
theorem tabB_len {N : Nat} {f : Nat → Bool} : (tabB N f).length = N := by simp [tabB]
theorem tabI_get {N : Nat} {f : Nat → Int} {i : Nat} (h : i < N) : (tabI N f)[i]? = some (.int (f i)) := by simp [tabI, h]
theorem tabB_get {N : Nat} {f : Nat → Bool} {i : Nat} (h : i < N) : (tabB N f)[i]? = some (.bl (f i)) := by simp [tabB, h]
theorem tabI_set {N : Nat} {f : Nat → Int} {k : Nat} {v : Int} : (tabI N f).set k (.int v) = tabI N (put f k v) := by
  refine List.ext_getElem? fun i => ?_
  by_cases hi : i < N
  · rw [tabI_get hi, List.getElem?_set]
    by_cases e : k = i
    · subst e; rw [if_pos rfl, if_pos (by rw [tabI_len]; exact hi), put_same]
    · rw [if_neg e, tabI_get hi, put_ne (fun z => e z.symm)]
  · rw [List.getElem?_eq_none_iff.mpr (by rw [List.length_set, tabI_len]; omega), List.getElem?_eq_none_iff.mpr (by rw [tabI_len]; omega)]
theorem tabB_set {N : Nat} {f : Nat → Bool} {k : Nat} {v : Bool} : (tabB N f).set k (.bl v) = tabB N (put f k v) := by
  refine List.ext_getElem? fun i => ?_
  by_cases hi : i < N
  · rw [tabB_get hi, List.getElem?_set]
    by_cases e : k = i
    · subst e; rw [if_pos rfl, if_pos (by rw [tabB_len]; exact hi), put_same]
    · rw [if_neg e, tabB_get hi, put_ne (fun z => e z.symm)]
  · rw [List.getElem?_eq_none_iff.mpr (by rw [List.length_set, tabB_len]; omega), List.getElem?_eq_none_iff.mpr (by rw [tabB_len]; omega)]
theorem tabI_at {N : Nat} {f : Nat → Int} {z : Int} {i : Nat} (e : z = (i : Int)) (h : i < N) : atI (tabI N f) z = some (.int (f i)) := at_of e (tabI_get h)
theorem tabB_at {N : Nat} {f : Nat → Bool} {z : Int} {i : Nat} (e : z = (i : Int)) (h : i < N) : atI (tabB N f) z = some (.bl (f i)) := at_of e (tabB_get h)
theorem ixN_nat {n i : Nat} {z : Int} (e : z = (i : Int)) (h : i < n) : ixN n z = some i := by
  subst e
  unfold ixN
  rw [if_pos (by omega), if_pos (by omega)]; simp
theorem tabI_congr {N : Nat} {f g : Nat → Int} (h : ∀ i, i < N → f i = g i) : tabI N f = tabI N g := List.map_congr_left fun i hi => by rw [h i (List.mem_range.mp hi)]
theorem tabB_congr {N : Nat} {f g : Nat → Bool} (h : ∀ i, i < N → f i = g i) : tabB N f = tabB N g := List.map_congr_left fun i hi => by rw [h i (List.mem_range.mp hi)]

/-! ### heaps -/
theorem Same.upd {H H1 : Hp} {p : Addr} {o : HO} (e : Same H H1) (h : H1 p = none) : Same H (upd H1 p o) := fun b u q => by
  rw [upd_ne (ne_of_none (e b u q) h)]; exact e b u q
theorem Same.new {H : Hp} {p : Addr} {o : HO} (h : H p = none) : Same H (L2.upd H p o) := Same.upd (Same.refl H) h
theorem upd_none {H : Hp} {p b : Addr} {o : HO} (h : L2.upd H p o b = none) : H b = none ∧ b ≠ p := by
  by_cases e : b = p
  · subst e; rw [upd_same] at h; cases h
  · rw [upd_ne e] at h; exact ⟨h, e⟩
/-- a write at what did not stand ahead -/
theorem Same.write {H H1 : Hp} {p : Addr} {o : HO} (e : Same H H1) (h : H p = none) : Same H (L2.upd H1 p o) := fun b u q => by
  rw [upd_ne (ne_of_none q h)]; exact e b u q
/-! ### facts in the heap -/
def ftV : Ft → List V
  | .inn x => [.str "in", .int x]
  | .out x => [.str "out", .int x]
  | .lf x l => [.str "left", .int x, .int l]
  | .rt x r => [.str "right", .int x, .int r]
def FtAt (H : Hp) (t : Addr) (f : Ft) : Prop := H t = some (.tup (ftV f))
structure FL (H : Hp) (a : Addr) (fs : List Ft) : Prop where
  ex : ∃ ts : List Addr, H a = some (.lst (ts.map V.ref)) ∧ Paired (FtAt H) ts fs
theorem Paired.len {α β : Type} {F : α → β → Prop} {l : List α} {m : List β} (p : Paired F l m) : l.length = m.length := by
  induction p with
  | nil => rfl
  | cons _ _ ih => simp [ih]
theorem Paired.at_ {α β : Type} {F : α → β → Prop} {l : List α} {m : List β} (p : Paired F l m) : ∀ {i : Nat} {a : α}, l[i]? = some a → ∃ b, m[i]? = some b ∧ F a b := by
  induction p with
  | nil => intro i a h; simp at h
  | cons r _ ih =>
    intro i a h
    cases i with
    | zero => simp at h; subst h; exact ⟨_, rfl, r⟩
    | succ i => simpa using ih (by simpa using h)
theorem Paired.app {α β : Type} {F : α → β → Prop} {l l' : List α} {m m' : List β} (p : Paired F l m) (q : Paired F l' m') : Paired F (l ++ l') (m ++ m') := by
  induction p with
  | nil => exact q
  | cons r _ ih => exact .cons r ih
theorem FL.same {H H' : Hp} {a : Addr} {fs : List Ft} (e : Same H H') (h : FL H a fs) : FL H' a fs := by
  obtain ⟨ts, h1, h2⟩ := h
  exact ⟨ts, e _ _ h1, L2.Paired.mapP h2 fun t f q => e _ _ q⟩
end LK
end

section
/-! LKBind -/
namespace LK
open PySem L2
theorem bd_check_size : Bd "check_size" "check_size" s_check_size ["size"] := fun _ _ _ _ _ _ us hl => match us, hl with | [_], _ => rfl
theorem bd_check_operation : Bd "check_operation" "check_operation" s_check_operation ["size", "operation", "index"] := fun _ _ _ _ _ _ us hl => match us, hl with | [_, _, _], _ => rfl
theorem bd_fact_is_right : Bd "fact_is_right" "fact_is_right" s_fact_is_right ["size", "fact"] := fun _ _ _ _ _ _ us hl => match us, hl with | [_, _], _ => rfl
theorem bd_check_facts : Bd "check_facts" "check_facts" s_check_facts ["size", "facts"] := fun _ _ _ _ _ _ us hl => match us, hl with | [_, _], _ => rfl
theorem bd_Links_init : Bd "__init__" "Links.__init__" s_Links_init ["self", "size"] := fun _ _ _ _ _ _ us hl => match us, hl with | [_, _], _ => rfl
theorem bd_Links_built : Bd "built" "Links.built" s_Links_built ["size", "lefts", "rights", "flags"] := fun _ _ _ _ _ _ us hl => match us, hl with | [_, _, _, _], _ => rfl
theorem bd_Links_left : Bd "left" "Links.left" s_Links_left ["self", "node"] := fun _ _ _ _ _ _ us hl => match us, hl with | [_, _], _ => rfl
theorem bd_Links_right : Bd "right" "Links.right" s_Links_right ["self", "node"] := fun _ _ _ _ _ _ us hl => match us, hl with | [_, _], _ => rfl
theorem bd_Links_is_out : Bd "is_out" "Links.is_out" s_Links_is_out ["self", "node"] := fun _ _ _ _ _ _ us hl => match us, hl with | [_, _], _ => rfl
theorem bd_Links_outs : Bd "outs" "Links.outs" s_Links_outs ["self"] := fun _ _ _ _ _ _ us hl => match us, hl with | [_], _ => rfl
theorem bd_Links_apply : Bd "apply" "Links.apply" s_Links_apply ["self", "operation"] := fun _ _ _ _ _ _ us hl => match us, hl with | [_, _], _ => rfl
theorem bd_Links_apply_at : Bd "apply_at" "Links.apply_at" s_Links_apply_at ["self", "operation", "index"] := fun _ _ _ _ _ _ us hl => match us, hl with | [_, _, _], _ => rfl
theorem bd_Links_copy : Bd "copy" "Links.copy" s_Links_copy ["self"] := fun _ _ _ _ _ _ us hl => match us, hl with | [_], _ => rfl
theorem bd_parent_of : Bd "parent_of" "parent_of" s_parent_of ["links", "node"] := fun _ _ _ _ _ _ us hl => match us, hl with | [_, _], _ => rfl
theorem bd_parents_of : Bd "parents_of" "parents_of" s_parents_of ["links"] := fun _ _ _ _ _ _ us hl => match us, hl with | [_], _ => rfl
theorem bd_Forest_init : Bd "__init__" "Forest.__init__" s_Forest_init ["self", "size"] := fun _ _ _ _ _ _ us hl => match us, hl with | [_, _], _ => rfl
theorem bd_Forest_grown : Bd "grown" "Forest.grown" s_Forest_grown ["links"] := fun _ _ _ _ _ _ us hl => match us, hl with | [_], _ => rfl
theorem bd_Forest_after : Bd "after" "Forest.after" s_Forest_after ["cls", "size", "removal"] := fun _ _ _ _ _ _ us hl => match us, hl with | [_, _, _], _ => rfl
theorem bd_Forest_contains : Bd "__contains__" "Forest.__contains__" s_Forest_contains ["self", "node"] := fun _ _ _ _ _ _ us hl => match us, hl with | [_, _], _ => rfl
theorem bd_Forest_str : Bd "__str__" "Forest.__str__" s_Forest_str ["self"] := fun _ _ _ _ _ _ us hl => match us, hl with | [_], _ => rfl
theorem bd_note_link : Bd "note_link" "note_link" s_note_link ["given", "node", "link"] := fun _ _ _ _ _ _ us hl => match us, hl with | [_, _, _], _ => rfl
theorem bd_Known_init : Bd "__init__" "Known.__init__" s_Known_init ["self", "facts"] := fun _ _ _ _ _ _ us hl => match us, hl with | [_, _], _ => rfl
theorem bd_Known_links_agree : Bd "links_agree" "Known.links_agree" s_Known_links_agree ["self", "node", "low", "high"] := fun _ _ _ _ _ _ us hl => match us, hl with | [_, _, _, _], _ => rfl
theorem bd_Known_may_be_root : Bd "may_be_root" "Known.may_be_root" s_Known_may_be_root ["self", "node", "low", "high"] := fun _ _ _ _ _ _ us hl => match us, hl with | [_, _, _, _], _ => rfl
theorem bd_Known_may_be_neighbours : Bd "may_be_neighbours" "Known.may_be_neighbours" s_Known_may_be_neighbours ["self", "low", "high"] := fun _ _ _ _ _ _ us hl => match us, hl with | [_, _, _], _ => rfl
theorem bd_FitTable_init : Bd "__init__" "FitTable.__init__" s_FitTable_init ["self", "size", "facts"] := fun _ _ _ _ _ _ us hl => match us, hl with | [_, _, _], _ => rfl
theorem bd_FitTable_fill_trees : Bd "fill_trees" "FitTable.fill_trees" s_FitTable_fill_trees ["self"] := fun _ _ _ _ _ _ us hl => match us, hl with | [_], _ => rfl
theorem bd_FitTable_fill_chains : Bd "fill_chains" "FitTable.fill_chains" s_FitTable_fill_chains ["self"] := fun _ _ _ _ _ _ us hl => match us, hl with | [_], _ => rfl
theorem bd_FitTable_rooted : Bd "rooted" "FitTable.rooted" s_FitTable_rooted ["self", "node", "low", "high"] := fun _ _ _ _ _ _ us hl => match us, hl with | [_, _, _, _], _ => rfl
theorem bd_FitTable_continued : Bd "continued" "FitTable.continued" s_FitTable_continued ["self", "low", "high"] := fun _ _ _ _ _ _ us hl => match us, hl with | [_, _, _], _ => rfl
theorem bd_FitTable_tree_at : Bd "tree_at" "FitTable.tree_at" s_FitTable_tree_at ["self", "low", "high", "place"] := fun _ _ _ _ _ _ us hl => match us, hl with | [_, _, _, _], _ => rfl
theorem bd_FitTable_member : Bd "member" "FitTable.member" s_FitTable_member ["self", "place"] := fun _ _ _ _ _ _ us hl => match us, hl with | [_, _], _ => rfl
theorem bd_count_fits : Bd "count_fits" "count_fits" s_count_fits ["size", "facts"] := fun _ _ _ _ _ _ us hl => match us, hl with | [_, _], _ => rfl
theorem bd_fit_at : Bd "fit_at" "fit_at" s_fit_at ["size", "facts", "place"] := fun _ _ _ _ _ _ us hl => match us, hl with | [_, _, _], _ => rfl
theorem bd_status : Bd "status" "status" s_status ["size", "facts", "fact"] := fun _ _ _ _ _ _ us hl => match us, hl with | [_, _, _], _ => rfl
theorem bd_l_purse : Bd "_law_purse" "_law_purse" s_l_purse ["_law_script"] := fun _ _ _ _ _ _ us hl => match us, hl with | [_], _ => rfl
theorem bd_l_draw : Bd "_law_draw" "_law_draw" s_l_draw ["_law_purse_here", "_law_many"] := fun _ _ _ _ _ _ us hl => match us, hl with | [_, _], _ => rfl
theorem bd_l_removal : Bd "_law_removal" "_law_removal" s_l_removal ["_law_purse_here", "_law_size"] := fun _ _ _ _ _ _ us hl => match us, hl with | [_, _], _ => rfl
theorem bd_l_near : Bd "_law_near" "_law_near" s_l_near ["_law_purse_here", "_law_size", "_law_removal_here"] := fun _ _ _ _ _ _ us hl => match us, hl with | [_, _, _], _ => rfl
theorem bd_l_played : Bd "_law_played" "_law_played" s_l_played ["_law_size", "_law_removal_here"] := fun _ _ _ _ _ _ us hl => match us, hl with | [_, _], _ => rfl
theorem bd_l_read : Bd "_law_read" "_law_read" s_l_read ["_law_size", "_law_text"] := fun _ _ _ _ _ _ us hl => match us, hl with | [_, _], _ => rfl
theorem bd_l_key : Bd "_law_key" "_law_key" s_l_key ["_law_size", "_law_world"] := fun _ _ _ _ _ _ us hl => match us, hl with | [_, _], _ => rfl
theorem bd_l_true : Bd "_law_true" "_law_true" s_l_true ["_law_world", "_law_fact"] := fun _ _ _ _ _ _ us hl => match us, hl with | [_, _], _ => rfl
theorem bd_l_all : Bd "_law_all" "_law_all" s_l_all ["_law_size", "_law_world"] := fun _ _ _ _ _ _ us hl => match us, hl with | [_, _], _ => rfl
theorem bd_l_facts : Bd "_law_facts" "_law_facts" s_l_facts ["_law_purse_here", "_law_size", "_law_worlds"] := fun _ _ _ _ _ _ us hl => match us, hl with | [_, _, _], _ => rfl
theorem bd_l_caught : Bd "_law_caught" "_law_caught" s_l_caught ["_law_call"] := fun _ _ _ _ _ _ us hl => match us, hl with | [_], _ => rfl
theorem bd_l_integer : Bd "_law_integer" "_law_integer" s_l_integer ["_law_value"] := fun _ _ _ _ _ _ us hl => match us, hl with | [_], _ => rfl
theorem bd_l_refused : Bd "_law_refused" "_law_refused" s_l_refused ["_law_told", "_law_kind", "_law_value"] := fun _ _ _ _ _ _ us hl => match us, hl with | [_, _, _], _ => rfl
theorem bd_l_parts : Bd "_law_parts" "_law_parts" s_l_parts ["_law_size", "_law_facts_here", "_law_parts_here", "_law_marks", "_law_total"] := fun _ _ _ _ _ _ us hl => match us, hl with | [_, _, _, _, _], _ => rfl
theorem bd_l_totals : Bd "_law_totals" "_law_totals" s_l_totals ["_law_purse_here", "_law_size", "_law_worlds", "_law_facts_here", "_law_total"] := fun _ _ _ _ _ _ us hl => match us, hl with | [_, _, _, _, _], _ => rfl
theorem bd_l_key_of : Bd "_law_key_of" "_law_key_of" s_l_key_of ["_law_size", "_law_facts_here", "_law_fit"] := fun _ _ _ _ _ _ us hl => match us, hl with | [_, _, _], _ => rfl
theorem bd_l_places : Bd "_law_places" "_law_places" s_l_places ["_law_purse_here", "_law_size", "_law_facts_here", "_law_total"] := fun _ _ _ _ _ _ us hl => match us, hl with | [_, _, _, _], _ => rfl
theorem bd_l_found : Bd "_law_found" "_law_found" s_l_found ["_law_size", "_law_facts_here", "_law_world", "_law_total"] := fun _ _ _ _ _ _ us hl => match us, hl with | [_, _, _, _], _ => rfl
theorem bd_l_is : Bd "_law_is" "_law_is" s_l_is ["_law_size", "_law_facts_here", "_law_fact", "_law_words"] := fun _ _ _ _ _ _ us hl => match us, hl with | [_, _, _, _], _ => rfl
theorem bd_l_witnessed : Bd "_law_witnessed" "_law_witnessed" s_l_witnessed ["_law_purse_here", "_law_size", "_law_worlds", "_law_facts_here"] := fun _ _ _ _ _ _ us hl => match us, hl with | [_, _, _, _], _ => rfl
theorem bd_l_crossing : Bd "_law_crossing" "_law_crossing" s_l_crossing ["_law_purse_here", "_law_size", "_law_world", "_law_facts_here"] := fun _ _ _ _ _ _ us hl => match us, hl with | [_, _, _, _], _ => rfl
theorem bd_l_listed : Bd "_law_listed" "_law_listed" s_l_listed ["_law_size", "_law_facts_here", "_law_world"] := fun _ _ _ _ _ _ us hl => match us, hl with | [_, _, _], _ => rfl
theorem bd_l_law : Bd "law" "law" s_l_law ["_law_script"] := fun _ _ _ _ _ _ us hl => match us, hl with | [_], _ => rfl
end LK
end

section
/-! LKWalk1 -/
set_option maxHeartbeats 2000000
namespace LK
open PySem PySem.Spec PyProof.Rows L2
section
variable {P : Program} {w : World} {K : PySem.W.Frag} {mg : Str → Option Value} {base : Heap}
theorem dT {p : Prop} [Decidable p] (h : p) : V.bl (decide p) = V.bl true := congrArg V.bl (decide_eq_true h)
theorem dF {p : Prop} [Decidable p] (h : ¬ p) : V.bl (decide p) = V.bl false := congrArg V.bl (decide_eq_false h)
theorem nF {p : Prop} [Decidable p] (h : p) : V.bl (!decide p) = V.bl false := by rw [decide_eq_true h]; rfl
theorem nT {p : Prop} [Decidable p] (h : ¬ p) : V.bl (!decide p) = V.bl true := by rw [decide_eq_false h]; rfl

theorem vint_ne {a b : Int} (h : a ≠ b) : ¬ V.int a = V.int b := fun e => h (by injection e)
theorem vstr_ne {a b : Str} (h : a ≠ b) : ¬ V.str a = V.str b := fun e => h (by injection e)
theorem retB {Q : VK} {H : Hp} {p : Prop} [Decidable p] (h : p) (q : Q (.bl true) H) : Q (.bl (decide p)) H := by rw [decide_eq_true h]; exact q

def sp_check_size : Sp := fun vs H Q _ => ∃ n : Int, vs = [.int n] ∧ 0 ≤ n ∧ n ≤ 60 ∧ Q .non H
theorem w_check_size (T : Tx mg) (D : Dn K mg "check_size" s_check_size) : Cal P w K mg base 1 "check_size" sp_check_size := by
  refine cal_of D sc_check_size bd_check_size (fun vs H Q E h => ?_) fun f cdv A outer s H vs Q E hr h => ?_
  · obtain ⟨n, rfl, _⟩ := h; rfl
  · obtain ⟨n, rfl, h0, h1, hq⟩ := h
    refine ⟨_, pss_one (ps_if (pt_not (pt_chain op_le op_le pe_int (pv 0) (C8.pe_gc rfl T.most))) (pss_one ps_never) pss_nil), ?_⟩
    refine ⟨_, rfl, _, _, rfl, rfl, true, dT h0, iteT ⟨_, _, rfl, rfl, true, dT h1, iteF hq⟩⟩
def sp_check_operation : Sp := fun vs H Q _ => ∃ n o i : Int, vs = [.int n, .int o, .int i] ∧ o ≠ 0 ∧ (if o < 0 then -o else o) ≤ n ∧ Q .non H
theorem w_check_operation (T : Tx mg) (D : Dn K mg "check_operation" s_check_operation) : Cal P w K mg base 1 "check_operation" sp_check_operation := by
  refine cal_of D sc_check_operation bd_check_operation (fun vs H Q E h => ?_) fun f cdv A outer s H vs Q E hr h => ?_
  · obtain ⟨n, o, i, rfl, _⟩ := h; rfl
  · obtain ⟨n, o, i, rfl, h0, h1, hq⟩ := h
    refine ⟨_, pss_one (ps_if (PW.pt (pw_or (pt_cmpR op_eq (pv 1) pe_int (nomark _)) (pw_or1 (pt_cmpR op_gt (pe_callB call_abs (by rfl) T.abs (by decide +kernel) (pa_cons (pv 1) pa_nil)) (pv 0) (nomark _))))) (pss_one ps_never) pss_nil), ?_⟩
    refine ⟨_, rfl, rfl, false, dF (fun e => h0 (by injection e)), iteF ⟨_, rfl, _, rfl, _, rfl, _, _, rfl, rfl, false, dF (by omega), iteF hq⟩⟩

/-! ### facts -/
def sp_fact_is_right : Sp := fun vs H Q _ => ∃ (n : Nat) (t : Addr) (f : Ft), vs = [.int n, .ref t] ∧ FtAt H t f ∧ f.ok n ∧ ∀ H', Same H H' → Q (.bl true) H'
theorem in_strs {a b c : Str} (h : c = a ∨ c = b) : inV (.str c) [.str a, .str b] = true := by
  unfold inV
  rcases h with rfl | rfl
  · simp [eqV]
  · simp [eqV]
theorem w_fact_is_right (T : Tx mg) (D : Dn K mg "fact_is_right" s_fact_is_right) : Cal P w K mg base 1 "fact_is_right" sp_fact_is_right := by
  refine cal_of D sc_fact_is_right bd_fact_is_right (fun vs H Q E h => ?_) fun f cdv A outer s H vs Q E hr h => ?_
  · obtain ⟨n, t, f, rfl, _⟩ := h; rfl
  · obtain ⟨n, t, ft, rfl, ht, hf, hq⟩ := h
    refine ⟨_, (pss_cons
    (ps_if (pt_cmpR op_eq (pe_callB call_len_seq (by rfl) T.len PySem.boot_len (pa_cons (pv 1) pa_nil)) pe_int (nomark _)) (pss_cons
    (ps_asg (pv 1) (pg_tup rfl (pgs_cons (pg_name (i := 2) sc_fact_is_right.nd rfl (Or.inl rfl)) (pgs_cons (pg_name (i := 3) sc_fact_is_right.nd rfl (Or.inl rfl)) pgs_nil)))) (pss_one
    (ps_ret (pe_and (pe_cmpR op_in_seq (pv 2) (pe_tup (pa_cons pe_str (pa_cons pe_str pa_nil))) (by rfl)) (pe_one (pe_chain op_le op_le pe_int (pv 3) (pv 0))))))) pss_nil) (pss_cons
    (ps_if (pt_cmpR op_eq (pe_callB call_len_seq (by rfl) T.len PySem.boot_len (pa_cons (pv 1) pa_nil)) pe_int (nomark _)) (pss_cons
    (ps_asg (pv 1) (pg_tup rfl (pgs_cons (pg_name (i := 2) sc_fact_is_right.nd rfl (Or.inl rfl)) (pgs_cons (pg_name (i := 3) sc_fact_is_right.nd rfl (Or.inl rfl)) (pgs_cons (pg_name (i := 4) sc_fact_is_right.nd rfl (Or.inl rfl)) pgs_nil))))) (pss_cons
    (ps_if (pt_cmpR op_eq (pv 2) pe_str (nomark _)) (pss_one
    (ps_ret (pe_and (pe_chain op_le op_le pe_int (pv 3) (pe_op op_add (pv 0) pe_int)) (pe_one (pe_chain op_le op_lt pe_int (pv 4) (pv 3)))))) pss_nil) (pss_one
    (ps_if (pt_cmpR op_eq (pv 2) pe_str (nomark _)) (pss_one
    (ps_ret (pe_and (pe_chain op_le op_le pe_int (pv 3) (pv 0)) (pe_one (pe_chain op_lt op_le (pv 3) (pv 4) (pe_op op_add (pv 0) pe_int)))))) pss_nil)))) pss_nil) (pss_one
    (ps_ret pe_bl)))), ?_⟩
    cases ft with
    | inn x =>
      obtain ⟨h1, h2⟩ := hf
      refine ⟨_, rfl, t, _, rfl, .inr (SqT.of ht), rfl, true, dT rfl, iteT ?_⟩
      refine ⟨_, rfl, t, _, rfl, SqT.of ht, rfl, _, _, rfl, _, _, rfl, rfl, ?_⟩
      refine ⟨_, rfl, by show 2 ≤ sizeLine; decide, fun p hp => ⟨p, _, rfl, .inr (SqT.of upd_same), rfl, rfl, true, congrArg V.bl (in_strs (.inl rfl)), iteT ?_⟩⟩
      refine ⟨_, rfl, _, _, rfl, rfl, true, dT (by omega), iteT ⟨_, rfl, _, _, rfl, rfl, ?_⟩⟩
      exact retB (Q := Q) (by omega) (hq _ (Same.new hp))
    | out x =>
      obtain ⟨h1, h2⟩ := hf
      refine ⟨_, rfl, t, _, rfl, .inr (SqT.of ht), rfl, true, dT rfl, iteT ?_⟩
      refine ⟨_, rfl, t, _, rfl, SqT.of ht, rfl, _, _, rfl, _, _, rfl, rfl, ?_⟩
      refine ⟨_, rfl, by show 2 ≤ sizeLine; decide, fun p hp => ⟨p, _, rfl, .inr (SqT.of upd_same), rfl, rfl, true, congrArg V.bl (in_strs (.inr rfl)), iteT ?_⟩⟩
      refine ⟨_, rfl, _, _, rfl, rfl, true, dT (by omega), iteT ⟨_, rfl, _, _, rfl, rfl, ?_⟩⟩
      exact retB (Q := Q) (by omega) (hq _ (Same.new hp))
    | lf x l =>
      obtain ⟨f1, f2, f3⟩ := hf
      refine ⟨_, rfl, t, _, rfl, .inr (SqT.of ht), rfl, false, dF (vint_ne (by show (3 : Int) ≠ 2; decide)), iteF ?_⟩
      refine ⟨_, rfl, t, _, rfl, .inr (SqT.of ht), rfl, true, dT rfl, iteT ?_⟩
      refine ⟨_, rfl, t, _, rfl, SqT.of ht, rfl, _, _, rfl, _, _, rfl, _, _, rfl, rfl, ?_⟩
      refine ⟨_, rfl, rfl, true, dT rfl, iteT ?_⟩
      refine ⟨_, rfl, _, _, rfl, rfl, true, dT (by omega), iteT ⟨_, rfl, _, _, rfl, rfl, _, _, rfl, rfl, true, dT (by omega), iteT ?_⟩⟩
      refine ⟨_, rfl, _, _, rfl, rfl, true, dT (by omega), iteT ⟨_, rfl, _, _, rfl, rfl, ?_⟩⟩
      exact retB (Q := Q) (by omega) (hq _ (Same.refl H))
    | rt x r =>
      obtain ⟨f1, f2, f3⟩ := hf
      refine ⟨_, rfl, t, _, rfl, .inr (SqT.of ht), rfl, false, dF (vint_ne (by show (3 : Int) ≠ 2; decide)), iteF ?_⟩
      refine ⟨_, rfl, t, _, rfl, .inr (SqT.of ht), rfl, true, dT rfl, iteT ?_⟩
      refine ⟨_, rfl, t, _, rfl, SqT.of ht, rfl, _, _, rfl, _, _, rfl, _, _, rfl, rfl, ?_⟩
      refine ⟨_, rfl, rfl, false, dF (vstr_ne (by decide +kernel)), iteF ?_⟩
      refine ⟨_, rfl, rfl, true, dT rfl, iteT ?_⟩
      refine ⟨_, rfl, _, _, rfl, rfl, true, dT (by omega), iteT ⟨_, rfl, _, _, rfl, rfl, true, dT (by omega), iteT ?_⟩⟩
      refine ⟨_, rfl, _, rfl, _, _, rfl, rfl, true, dT (by omega), iteT ⟨_, rfl, _, _, rfl, rfl, _, _, rfl, rfl, ?_⟩⟩
      exact retB (Q := Q) (by omega) (hq _ (Same.refl H))
def sp_check_facts : Sp := fun vs H Q _ => ∃ (n : Nat) (a : Addr) (fs : List Ft), vs = [.int n, .ref a] ∧ FL H a fs ∧ n ≤ 60 ∧ (∀ f ∈ fs, f.ok n) ∧ ∀ H', Same H H' → Q .non H'
end
end LK
end

section
/-! LKWalk2 -/
set_option maxHeartbeats 2000000
namespace LK
open PySem PySem.Spec PyProof.Rows L2

theorem sizeLine_ge {n : Nat} (h : n ≤ 100000) : n ≤ sizeLine := Nat.le_trans h (by decide)
theorem sizeLine_gt {n : Nat} (h : n ≤ 100000) : n < sizeLine := Nat.lt_of_le_of_lt h (by decide)
theorem rep1 {α : Type} (k : Nat) (v : α) : (List.replicate k [v]).flatten = List.replicate k v := by
  induction k with
  | zero => rfl
  | succ k ih => rw [List.replicate_succ, List.flatten_cons, ih, List.replicate_succ]; rfl
theorem rep_tabI {N : Nat} {z : Int} {v : Int} (e : z = (N : Int)) : (List.replicate z.toNat [V.int v]).flatten = tabI N fun _ => v := by
  subst e
  rw [rep1, show ((N : Int)).toNat = N from rfl]
  refine List.ext_getElem? fun i => ?_
  by_cases h : i < N
  · rw [tabI_get h, List.getElem?_replicate, if_pos h]
  · rw [List.getElem?_eq_none_iff.mpr (by simp; omega), List.getElem?_eq_none_iff.mpr (by rw [tabI_len]; omega)]
theorem rep_tabB {N : Nat} {z : Int} {v : Bool} (e : z = (N : Int)) : (List.replicate z.toNat [V.bl v]).flatten = tabB N fun _ => v := by
  subst e
  rw [rep1, show ((N : Int)).toNat = N from rfl]
  refine List.ext_getElem? fun i => ?_
  by_cases h : i < N
  · rw [tabB_get h, List.getElem?_replicate, if_pos h]
  · rw [List.getElem?_eq_none_iff.mpr (by simp; omega), List.getElem?_eq_none_iff.mpr (by rw [tabB_len]; omega)]
theorem rg_tabI {N : Nat} {a b : Int} (e : b - a = (N : Int)) : rgV a b = tabI N fun i => a + (i : Nat) := by
  unfold rgV tabI
  rw [e]; rfl

/-! ### Links objects -/
structure CLk (K : PySem.W.Frag) (C : Addr) : Prop where
  cl : Cls K C
  size : NoAttr K C "size"
  lefts : NoAttr K C "_lefts"
  rights : NoAttr K C "_rights"
  flags : NoAttr K C "_flags"
def lkF (n : Nat) (l r o : Addr) : List (Str × V) := [("size", .int n), ("_lefts", .ref l), ("_rights", .ref r), ("_flags", .ref o)]
structure LkO (C : Addr) (H : Hp) (a dx l r o : Addr) (n : Nat) (W : Wd) : Prop where
  ob : H a = some (.ins C dx (lkF n l r o))
  hl : H l = some (.lst (tabI (n + 2) W.L))
  hr : H r = some (.lst (tabI (n + 2) W.R))
  ho : H o = some (.lst (tabB (n + 2) W.O))
/-- read: a standing W of size n at a -/
def LkR (C : Addr) (H : Hp) (a : Addr) (n : Nat) (W : Wd) : Prop := ∃ dx l r o, LkO C H a dx l r o n W
/-- made behind H0, to be written -/
structure LkF (C : Addr) (H0 H : Hp) (a : Addr) (n : Nat) (W : Wd) : Prop where
  sm : Same H0 H
  fr : H0 a = none
  ex : ∃ dx l r o, LkO C H a dx l r o n W ∧ H0 l = none ∧ H0 r = none ∧ H0 o = none ∧ l ≠ r
theorem LkF.rd {C : Addr} {H0 H : Hp} {a : Addr} {n : Nat} {W : Wd} (h : LkF C H0 H a n W) : LkR C H a n W := by
  obtain ⟨dx, l, r, o, q, _⟩ := h.ex
  exact ⟨dx, l, r, o, q⟩
theorem LkO.same {C : Addr} {H H' : Hp} {a dx l r o : Addr} {n : Nat} {W : Wd} (e : Same H H') (h : LkO C H a dx l r o n W) : LkO C H' a dx l r o n W := ⟨e _ _ h.ob, e _ _ h.hl, e _ _ h.hr, e _ _ h.ho⟩
theorem LkR.same {C : Addr} {H H' : Hp} {a : Addr} {n : Nat} {W : Wd} (e : Same H H') (h : LkR C H a n W) : LkR C H' a n W := by
  obtain ⟨dx, l, r, o, q⟩ := h
  exact ⟨dx, l, r, o, q.same e⟩
section
variable {P : Program} {w : World} {K : PySem.W.Frag} {mg : Str → Option Value} {base : Heap} {C : Addr}

def sp_Links_init (C : Addr) : Sp := fun vs H Q _ => ∃ (H0 : Hp) (p dx : Addr) (n : Nat), vs = [.ref p, .int n] ∧ Same H0 H ∧ H0 p = none ∧ H p = some (.ins C dx []) ∧ n ≤ 60 ∧ ∀ H', LkF C H0 H' p n wd0 → Q .non H'
theorem w_Links_init (T : Tx mg) (TC : CLk K C) (D : Id K mg "Links" C "Links.__init__" s_Links_init) (c_check_size : Cal P w K mg base 1 "check_size" sp_check_size) : Mak P w K mg base 2 "Links" C (sp_Links_init C) := by
  refine mak_of D sc_Links_init bd_Links_init (fun vs H Q E h => ?_) fun f cdv A outer s H vs Q E hr h => ?_
  · obtain ⟨H0, p, dx, n, rfl, _⟩ := h; rfl
  · obtain ⟨H0, p, dx, n, rfl, s0, p0, hp, hn, k⟩ := h
    refine ⟨_, (pss_cons
    (ps_expr (pe_c c_check_size hr (by decide) rfl (pa_cons (pv 1) pa_nil))) (pss_cons
    (ps_fld (pv 0) (pv 1) rfl) (pss_cons
    (ps_fld (pv 0) (pe_listRg rfl rfl T.list (prg_2 rfl T.range (pe_un un_neg pe_int) (pe_op op_add (pv 1) pe_int))) rfl) (pss_cons
    (ps_fld (pv 0) (pe_listRg rfl rfl T.list (prg_2 rfl T.range pe_int (pe_op op_add (pv 1) pe_int))) rfl) (pss_one
    (ps_fld (pv 0) (pe_op op_rep (pe_lst (pa_cons pe_bl pa_nil)) (pe_op op_add (pv 1) pe_int)) rfl)))))), ?_⟩
    refine ⟨_, rfl, n, rfl, by omega, by omega, ?_⟩
    refine ⟨_, rfl, _, rfl, p, C, dx, _, rfl, hp, TC.cl, TC.size, (by show 0 < 1000; decide), ?_⟩
    refine ⟨_, rfl, _, rfl, _, _, rfl, rfl, _, _, rfl, rfl, ⟨by decide, by decide, by omega, by omega, by omega⟩, fun l hl => ?_⟩
    obtain ⟨hl0, npl⟩ := upd_none hl
    refine ⟨_, rfl, p, C, dx, _, rfl, by rw [upd_ne npl.symm]; exact upd_same, TC.cl, TC.lefts, (by show 1 < 1000; decide), ?_⟩
    refine ⟨_, rfl, _, _, rfl, rfl, _, _, rfl, rfl, ⟨by decide, by decide, by omega, by omega, by omega⟩, fun r hrr => ?_⟩
    obtain ⟨hr1, npr⟩ := upd_none hrr
    obtain ⟨hr2, nlr⟩ := upd_none hr1
    obtain ⟨hr0, _⟩ := upd_none hr2
    refine ⟨_, rfl, p, C, dx, _, rfl, by rw [upd_ne npr.symm]; exact upd_same, TC.cl, TC.rights, (by show 2 < 1000; decide), ?_⟩
    refine ⟨by show 1 ≤ sizeLine; decide, fun q hq => ?_⟩
    refine ⟨_, rfl, _, _, rfl, rfl, q, _, _, rfl, rfl, upd_same, by omega, by omega, sizeLine_ge (by show 1 * _ ≤ _; omega), fun o ho => ?_⟩
    obtain ⟨ho1, nqo⟩ := upd_none ho
    obtain ⟨hq1, npq⟩ := upd_none hq
    obtain ⟨hq2, nrq⟩ := upd_none hq1
    obtain ⟨hq3, _⟩ := upd_none hq2
    obtain ⟨hq4, nlq⟩ := upd_none hq3
    obtain ⟨hq0, _⟩ := upd_none hq4
    obtain ⟨ho2, npo⟩ := upd_none ho1
    obtain ⟨ho3, nro⟩ := upd_none ho2
    obtain ⟨ho4, _⟩ := upd_none ho3
    obtain ⟨ho5, nlo⟩ := upd_none ho4
    obtain ⟨ho0, _⟩ := upd_none ho5
    refine ⟨_, rfl, p, C, dx, _, rfl, by simp only [upd_ne npo.symm, upd_ne npq.symm]; exact upd_same, TC.cl, TC.flags, (by show 3 < 1000; decide), k _ ⟨?_, p0, dx, l, r, o, ⟨upd_same, ?_, ?_, ?_⟩, s0.free hl0, s0.free hr0, s0.free ho0, nlr.symm⟩⟩
    · refine Same.write (Same.write ?_ (s0.free ho0)) p0
      refine Same.write (Same.write (Same.write (Same.write (Same.write (Same.write s0 p0) (s0.free hl0)) p0) (s0.free hr0)) p0) (s0.free hq0)
    · rw [upd_ne npl, upd_ne nlo.symm, upd_ne nlq.symm, upd_ne npl, upd_ne nlr.symm, upd_ne npl, upd_same, rg_tabI (N := n + 2) (by omega)]
      exact congrArg (fun z => some (HO.lst z)) (tabI_congr fun i _ => by simp only [wd0]; omega)
    · rw [upd_ne npr, upd_ne nro.symm, upd_ne nrq.symm, upd_ne npr, upd_same, rg_tabI (N := n + 2) (by omega)]
      exact congrArg (fun z => some (HO.lst z)) (tabI_congr fun i _ => by simp only [wd0]; omega)
    · rw [upd_ne npo, upd_same, rep_tabB (N := n + 2) (by omega)]
      rfl
theorem same_made {H : Hp} {x dx C : Addr} (nx : H x = none) (nd : H dx = none) : Same H (L2.upd (L2.upd H dx (.own x)) x (.ins C dx [])) := fun b o e => by
  rw [upd_ne (ne_of_none e nx), upd_ne (ne_of_none e nd)]; exact e
def sp_Links_built (C : Addr) : Sp := fun vs H Q _ => ∃ (n : Nat) (W : Wd) (l r o : Addr), vs = [.int n, .ref l, .ref r, .ref o] ∧ H l = some (.lst (tabI (n + 2) W.L)) ∧ H r = some (.lst (tabI (n + 2) W.R)) ∧ H o = some (.lst (tabB (n + 2) W.O)) ∧ n ≤ 60 ∧
  ∀ H' p, LkF C H H' p n W → Q (.ref p) H'
theorem w_Links_built (T : Tx mg) (TC : CLk K C) (D : Sd K C "built" "Links.built" s_Links_built) (c_Links_init : Mak P w K mg base 2 "Links" C (sp_Links_init C)) : Sta P w K mg base 4 C "built" (sp_Links_built C) := by
  refine sta_of D sc_Links_built bd_Links_built (fun vs H Q E h => ?_) fun f cdv A outer s H vs Q E hr h => ?_
  · obtain ⟨n, W, l, r, o, rfl, _⟩ := h; rfl
  · obtain ⟨n, W, l, r, o, rfl, hl, hrr, ho, hn, k⟩ := h
    refine ⟨_, (pss_cons
    (ps_set (i := 4) sc_Links_built.nd rfl (Or.inl rfl) (pe_mk c_Links_init hr (by decide) rfl (pa_cons (pv 0) pa_nil))) (pss_cons
    (ps_fld (pv 4) (pe_callTy call_list_of (by rfl) T.list (by decide +kernel) (pa_cons (pv 1) pa_nil)) rfl) (pss_cons
    (ps_fld (pv 4) (pe_callTy call_list_of (by rfl) T.list (by decide +kernel) (pa_cons (pv 2) pa_nil)) rfl) (pss_cons
    (ps_fld (pv 4) (pe_callTy call_list_of (by rfl) T.list (by decide +kernel) (pa_cons (pv 3) pa_nil)) rfl) (pss_one
    (ps_ret (pv 4))))))), ?_⟩
    refine ⟨_, rfl, fun x dx nx ndx nex => ⟨H, x, dx, n, rfl, same_made nx ndx, nx, upd_same, hn, fun H1 R1 => ⟨rfl, ?_⟩⟩⟩
    obtain ⟨s1, _, dx1, l1, r1, o1, ⟨ob1, _, _, _⟩, fl1, fr1, fo1, _⟩ := R1
    -- the left links
    refine ⟨_, rfl, l, _, rfl, .inl (SqL.of (s1 _ _ hl)), fun a ha => ?_⟩
    have nxa : x ≠ a := ne_of_none ob1 ha
    refine ⟨_, rfl, x, C, dx1, _, rfl, by rw [upd_ne nxa]; exact ob1, TC.cl, TC.lefts, (by show 4 < 1000; decide), ?_⟩
    obtain ⟨H2, e2, s2, ob2, ha2⟩ : ∃ H2, L2.upd (L2.upd H1 a (.lst (tabI (n + 2) W.L))) x (.ins C dx1 (lkF n a r1 o1)) = H2 ∧ Same H H2 ∧ H2 x = some (.ins C dx1 (lkF n a r1 o1)) ∧ H2 a = some (.lst (tabI (n + 2) W.L)) :=
      ⟨_, rfl, Same.write (Same.write s1 (s1.free ha)) nx, upd_same, by rw [upd_ne nxa.symm]; exact upd_same⟩
    have fa : H a = none := s1.free ha
    rw [show putF "_lefts" (V.ref a) (lkF n l1 r1 o1) = lkF n a r1 o1 from rfl, e2]
    -- the right links
    refine ⟨_, rfl, r, _, rfl, .inl (SqL.of (s2 _ _ hrr)), fun b hb => ?_⟩
    have nxb : x ≠ b := ne_of_none ob2 hb
    have nab : a ≠ b := ne_of_none ha2 hb
    refine ⟨_, rfl, x, C, dx1, _, rfl, by rw [upd_ne nxb]; exact ob2, TC.cl, TC.rights, (by show 4 < 1000; decide), ?_⟩
    obtain ⟨H3, e3, s3, ob3, ha3, hb3⟩ : ∃ H3, L2.upd (L2.upd H2 b (.lst (tabI (n + 2) W.R))) x (.ins C dx1 (lkF n a b o1)) = H3 ∧ Same H H3 ∧ H3 x = some (.ins C dx1 (lkF n a b o1)) ∧ H3 a = some (.lst (tabI (n + 2) W.L)) ∧ H3 b = some (.lst (tabI (n + 2) W.R)) :=
      ⟨_, rfl, Same.write (Same.write s2 (s2.free hb)) nx, upd_same, by rw [upd_ne nxa.symm, upd_ne nab]; exact ha2, by rw [upd_ne nxb.symm]; exact upd_same⟩
    have fb : H b = none := s2.free hb
    rw [show putF "_rights" (V.ref b) (lkF n a r1 o1) = lkF n a b o1 from rfl, e3]
    -- the flags
    refine ⟨_, rfl, o, _, rfl, .inl (SqL.of (s3 _ _ ho)), fun c hc => ?_⟩
    have nxc : x ≠ c := ne_of_none ob3 hc
    have nac : a ≠ c := ne_of_none ha3 hc
    have nbc : b ≠ c := ne_of_none hb3 hc
    refine ⟨_, rfl, x, C, dx1, _, rfl, by rw [upd_ne nxc]; exact ob3, TC.cl, TC.flags, (by show 4 < 1000; decide), ?_⟩
    refine ⟨_, rfl, k _ _ ⟨Same.write (Same.write s3 (s3.free hc)) nx, nx, dx1, a, b, c, ⟨upd_same, ?_, ?_, ?_⟩, fa, fb, s3.free hc, nab⟩⟩
    · rw [upd_ne nxa.symm, upd_ne nac]; exact ha3
    · rw [upd_ne nxb.symm, upd_ne nbc]; exact hb3
    · rw [upd_ne nxc.symm]; exact upd_same
/-! reading -/
def sp_Links_left (C : Addr) : Sp := fun vs H Q _ => ∃ (a : Addr) (n : Nat) (W : Wd) (i : Nat), vs = [.ref a, .int i] ∧ LkR C H a n W ∧ 1 ≤ i ∧ i ≤ n + 1 ∧ Q (.int (W.L i)) H
theorem w_Links_left (TC : CLk K C) (D : Md K C "left" "Links.left" s_Links_left) : Met P w K mg base 1 C "left" (sp_Links_left C) := by
  refine met_of D sc_Links_left bd_Links_left (fun vs H Q E h => ?_) fun f cdv A outer s H vs Q E hr h => ?_
  · obtain ⟨a, n, W, i, rfl, _⟩ := h; rfl
  · obtain ⟨a, n, W, i, rfl, ⟨dx, l, r, o, R⟩, h1, h2, k⟩ := h
    refine ⟨_, (pss_cons
    (ps_if (pt_not (pt_chain op_le op_le pe_int (pv 1) (pe_op op_add (pe_fld (pv 0) rfl) pe_int))) (pss_one ps_never) pss_nil) (pss_one
    (ps_ret (pe_ix ix_list (pe_fld (pv 0) rfl) (pv 1) (fun _ _ => rfl))))), ?_⟩
    refine ⟨_, rfl, _, _, rfl, rfl, true, dT (by omega), iteT ⟨_, rfl, a, C, dx, _, _, rfl, R.ob, TC.cl, TC.size, rfl, _, _, rfl, rfl, _, _, rfl, rfl, true, dT (by omega), iteF ?_⟩⟩
    exact ⟨_, rfl, a, C, dx, _, _, rfl, R.ob, TC.cl, TC.lefts, rfl, _, rfl, l, _, _, _, rfl, rfl, SqL.of R.hl, tabI_at rfl (by omega), k⟩
def sp_Links_right (C : Addr) : Sp := fun vs H Q _ => ∃ (a : Addr) (n : Nat) (W : Wd) (i : Nat), vs = [.ref a, .int i] ∧ LkR C H a n W ∧ i ≤ n ∧ Q (.int (W.R i)) H
theorem w_Links_right (TC : CLk K C) (D : Md K C "right" "Links.right" s_Links_right) : Met P w K mg base 1 C "right" (sp_Links_right C) := by
  refine met_of D sc_Links_right bd_Links_right (fun vs H Q E h => ?_) fun f cdv A outer s H vs Q E hr h => ?_
  · obtain ⟨a, n, W, i, rfl, _⟩ := h; rfl
  · obtain ⟨a, n, W, i, rfl, ⟨dx, l, r, o, R⟩, h2, k⟩ := h
    refine ⟨_, (pss_cons
    (ps_if (pt_not (pt_chain op_le op_le pe_int (pv 1) (pe_fld (pv 0) rfl))) (pss_one ps_never) pss_nil) (pss_one
    (ps_ret (pe_ix ix_list (pe_fld (pv 0) rfl) (pv 1) (fun _ _ => rfl))))), ?_⟩
    refine ⟨_, rfl, _, _, rfl, rfl, true, dT (by omega), iteT ⟨_, rfl, a, C, dx, _, _, rfl, R.ob, TC.cl, TC.size, rfl, _, _, rfl, rfl, true, dT (by omega), iteF ?_⟩⟩
    exact ⟨_, rfl, a, C, dx, _, _, rfl, R.ob, TC.cl, TC.rights, rfl, _, rfl, r, _, _, _, rfl, rfl, SqL.of R.hr, tabI_at rfl (by omega), k⟩
def sp_Links_is_out (C : Addr) : Sp := fun vs H Q _ => ∃ (a : Addr) (n : Nat) (W : Wd) (i : Nat), vs = [.ref a, .int i] ∧ LkR C H a n W ∧ i ≤ n + 1 ∧ Q (.bl (W.O i)) H
theorem w_Links_is_out (TC : CLk K C) (D : Md K C "is_out" "Links.is_out" s_Links_is_out) : Met P w K mg base 1 C "is_out" (sp_Links_is_out C) := by
  refine met_of D sc_Links_is_out bd_Links_is_out (fun vs H Q E h => ?_) fun f cdv A outer s H vs Q E hr h => ?_
  · obtain ⟨a, n, W, i, rfl, _⟩ := h; rfl
  · obtain ⟨a, n, W, i, rfl, ⟨dx, l, r, o, R⟩, h2, k⟩ := h
    refine ⟨_, (pss_cons
    (ps_if (pt_not (pt_chain op_le op_le pe_int (pv 1) (pe_op op_add (pe_fld (pv 0) rfl) pe_int))) (pss_one ps_never) pss_nil) (pss_one
    (ps_ret (pe_ix ix_list (pe_fld (pv 0) rfl) (pv 1) (fun _ _ => rfl))))), ?_⟩
    refine ⟨_, rfl, _, _, rfl, rfl, true, dT (by omega), iteT ⟨_, rfl, a, C, dx, _, _, rfl, R.ob, TC.cl, TC.size, rfl, _, _, rfl, rfl, _, _, rfl, rfl, true, dT (by omega), iteF ?_⟩⟩
    exact ⟨_, rfl, a, C, dx, _, _, rfl, R.ob, TC.cl, TC.flags, rfl, _, rfl, o, _, _, _, rfl, rfl, SqL.of R.ho, tabB_at rfl (by omega), k⟩
/-- the nodes below m that are out -/
def outsL (O : Nat → Bool) (k : Nat) : List Nat := (List.range' 1 k).filter O
theorem outsL_succ {O : Nat → Bool} {k : Nat} : outsL O (k + 1) = outsL O k ++ if O (k + 1) = true then [k + 1] else [] := by
  unfold outsL
  rw [List.range'_1_concat, List.filter_append]
  congr 1
  rw [show 1 + k = k + 1 by omega, List.filter_cons]
  split <;> rfl
def sp_Links_outs (C : Addr) : Sp := fun vs H Q _ => ∃ (a : Addr) (n : Nat) (W : Wd), vs = [.ref a] ∧ LkR C H a n W ∧ n ≤ 60 ∧ ∀ H' p, Same H H' → H p = none → H' p = some (.lst ((outsL W.O n).map fun i => .int (i : Nat))) → Q (.ref p) H'
theorem w_Links_outs (T : Tx mg) (TC : CLk K C) (D : Md K C "outs" "Links.outs" s_Links_outs) : Met P w K mg base 1 C "outs" (sp_Links_outs C) := by
  refine met_of D sc_Links_outs bd_Links_outs (fun vs H Q E h => ?_) fun f cdv A outer s H vs Q E hr h => ?_
  · obtain ⟨a, n, W, rfl, _⟩ := h; rfl
  · obtain ⟨a, n, W, rfl, ⟨dx, l, r, o, R⟩, h2, k⟩ := h
    refine ⟨_, (pss_one
    (ps_ret (pe_lc (own := [("node", 1)]) (g := gName 1) (tt := tB (tOp (rIxL K) (tFld K (tVar 0) "_flags") (tVar 1))) (by rfl) sc_Links_outs.nd (pi_range2 rfl T.range (pa_cons pe_int (pa_cons (pe_op op_add (pe_fld (pv 0) rfl) pe_int) pa_nil))) (blkOk_by (own := [("node", 1)]) (N := N_Links_outs) (sc := defScope s_Links_outs) (by decide +kernel)) (fun _ _ _ _ _ => pg_name (i := 1) sc_Links_outs.nd rfl (Or.inl rfl)) (fun _ _ _ _ _ => pts_one (pt_val (pe_ix ix_list (pe_fld (pv 0) rfl) (pv 1) (fun _ _ => rfl)))) (fun _ _ _ _ _ => (pv 1))))), ?_⟩
    refine ⟨_, rfl, a, C, dx, _, _, rfl, R.ob, TC.cl, TC.size, rfl, _, _, rfl, rfl, _, _, rfl, ⟨by omega, by omega, by omega, by omega⟩, fun D hD => ?_⟩
    have en : ((n : Int) + 1 - 1).toNat = n := by omega
    rw [en]
    refine lc_range (lo := 1) (n := n) (Pv := fun i H' => Same H H' ∧ H' D = some (.lst ((outsL W.O i).map fun i => .int (i : Nat)))) ⟨Same.new hD, upd_same⟩ (fun i H' hi ⟨s1, hD1⟩ => ?_) fun H' ⟨s1, hD1⟩ => k _ _ s1 hD hD1
    have R1 := R.same s1
    refine ⟨rfl, _, rfl, a, C, dx, _, _, rfl, R1.ob, TC.cl, TC.flags, rfl, _, rfl, o, _, _, _, rfl, rfl, SqL.of R1.ho, tabB_at (i := i + 1) (by omega) (by omega), _, rfl, ?_⟩
    rw [outsL_succ]
    refine ite2 (fun e => ?_) (fun e => ?_)
    · refine ⟨_, rfl, _, hD1, sizeLine_gt ?_, Same.write s1 hD, ?_⟩
      · rw [List.length_map]
        exact Nat.le_trans (Nat.le_trans (List.length_filter_le _ _) (by rw [List.length_range']; exact Nat.le_of_lt hi)) (by omega)
      · rw [if_pos e, List.map_append, upd_same]
        show some (HO.lst (_ ++ [V.int (1 + (i : Int))])) = some (HO.lst (_ ++ [V.int ((i + 1 : Nat) : Int)]))
        rw [show (1 : Int) + i = ((i + 1 : Nat) : Int) by omega]
    · rw [if_neg e, List.append_nil]
      exact ⟨s1, hD1⟩
end
end LK
end

section
/-! LKWalk3 -/
set_option maxHeartbeats 2000000
namespace LK
open PySem PySem.Spec PyProof.Rows L2
section
variable {P : Program} {w : World} {K : PySem.W.Frag} {mg : Str → Option Value} {base : Heap} {C : Addr}
theorem cvv {R : V → Hp → Prop} {v v' : V} {H : Hp} (e : v = v') (h : R v' H) : R v H := e ▸ h
/-- x may be unlinked -/
structure CanUn (W : Wd) (n x : Nat) : Prop where
  lo : 1 ≤ x
  hi : x ≤ n
  inn : W.O x = false
  ex : ∃ a b : Nat, W.L x = (a : Int) ∧ W.R x = (b : Int) ∧ a < x ∧ x < b ∧ b ≤ n + 1
theorem CanUn.of {W : Wd} {n x : Nat} {c : Ch} (h : Stand W n c) (h1 : 1 ≤ x) (h2 : x ≤ n) (ho : W.O x = false) : CanUn W n x := by
  obtain ⟨_, _, a, b, ta, tb, eL, eR, _, g⟩ := in_chain h.ch h1 h2 ho
  exact ⟨h1, h2, ho, a, b, eL, eR, ta.lt, tb.lt, g⟩
def sp_Links_apply_at (C : Addr) : Sp := fun vs H Q _ => ∃ (H0 : Hp) (p : Addr) (n : Nat) (W : Wd) (x : Nat) (i : Int), vs = [.ref p, .int (-(x : Int)), .int i] ∧ LkF C H0 H p n W ∧ CanUn W n x ∧ ∀ H', LkF C H0 H' p n (unl W x) → Q .non H'
theorem w_Links_apply_at (T : Tx mg) (TC : CLk K C) (D : Md K C "apply_at" "Links.apply_at" s_Links_apply_at) (c_check_operation : Cal P w K mg base 1 "check_operation" sp_check_operation) : Met P w K mg base 2 C "apply_at" (sp_Links_apply_at C) := by
  refine met_of D sc_Links_apply_at bd_Links_apply_at (fun vs H Q E h => ?_) fun f cdv A outer s H vs Q E hr h => ?_
  · obtain ⟨H0, p, n, W, x, i, rfl, _⟩ := h; rfl
  · obtain ⟨H0, p, n, W, x, i, rfl, F, ⟨x1, xn, xo, aa, bb, eL, eR, lax, lxb, lbn⟩, k⟩ := h
    obtain ⟨s0, p0, dx, l, r, o, R, l0, r0, o0, nlr⟩ := F
    refine ⟨_, (pss_cons
    (ps_expr (pe_c c_check_operation hr (by decide) rfl (pa_cons (pe_fld (pv 0) rfl) (pa_cons (pv 1) (pa_cons (pv 2) pa_nil))))) (pss_cons
    (ps_set (i := 3) sc_Links_apply_at.nd rfl (Or.inl rfl) (pe_callB call_abs (by rfl) T.abs (by decide +kernel) (pa_cons (pv 1) pa_nil))) (pss_cons
    (ps_set (i := 4) sc_Links_apply_at.nd rfl (Or.inl rfl) (pe_cmpR op_lt (pv 1) pe_int (nomark _))) (pss_cons
    (ps_if (pt_cmpR op_eq (pe_ix ix_list (pe_fld (pv 0) rfl) (pv 3) (fun _ _ => rfl)) (pv 4) (nomark _)) (pss_one ps_never) pss_nil) (pss_cons
    (ps_set (i := 5) sc_Links_apply_at.nd rfl (Or.inl rfl) (pe_ix ix_list (pe_fld (pv 0) rfl) (pv 3) (fun _ _ => rfl))) (pss_cons
    (ps_set (i := 6) sc_Links_apply_at.nd rfl (Or.inl rfl) (pe_ix ix_list (pe_fld (pv 0) rfl) (pv 3) (fun _ _ => rfl))) (pss_cons
    (ps_asg (pe_ifExp (pt_val (pv 4)) (pv 6) (pv 3)) (pg_sub (pe_fld (pv 0) rfl) (pv 5) set_list)) (pss_cons
    (ps_asg (pe_ifExp (pt_val (pv 4)) (pv 5) (pv 3)) (pg_sub (pe_fld (pv 0) rfl) (pv 6) set_list)) (pss_one
    (ps_asg (pv 4) (pg_sub (pe_fld (pv 0) rfl) (pv 3) set_list))))))))))), ?_⟩
    refine ⟨_, rfl, p, C, dx, _, _, rfl, R.ob, TC.cl, TC.size, rfl, _, rfl, _, rfl, _, _, _, rfl, by omega, by rw [if_pos (by omega)]; omega, ?_⟩
    refine ⟨_, rfl, _, rfl, ?_⟩
    rw [show (if (-(x : Int)) < 0 then -(-(x : Int)) else -(x : Int)) = (x : Int) by rw [if_pos (by omega)]; omega]
    refine ⟨_, rfl, _, _, rfl, rfl, ?_⟩
    dsimp only
    rw [show decide ((-(x : Int)) < 0) = true from decide_eq_true (by omega)]
    refine ⟨_, rfl, p, C, dx, _, _, rfl, R.ob, TC.cl, TC.flags, rfl, _, rfl, o, _, _, _, rfl, rfl, SqL.of R.ho, tabB_at rfl (by omega), _, rfl, rfl, false, dF (by rw [xo]; exact fun e => by cases e), iteF ?_⟩
    refine ⟨_, rfl, p, C, dx, _, _, rfl, R.ob, TC.cl, TC.lefts, rfl, _, rfl, l, _, _, _, rfl, rfl, SqL.of R.hl, tabI_at rfl (by omega), ?_⟩
    refine ⟨_, rfl, p, C, dx, _, _, rfl, R.ob, TC.cl, TC.rights, rfl, _, rfl, r, _, _, _, rfl, rfl, SqL.of R.hr, tabI_at rfl (by omega), ?_⟩
    rw [eL, eR]
    have npl : p ≠ l := ne_of R.ob R.hl (fun e => by cases e)
    have npr : p ≠ r := ne_of R.ob R.hr (fun e => by cases e)
    have npo : p ≠ o := ne_of R.ob R.ho (fun e => by cases e)
    have ibt : ∀ {N : Nat} {g : Nat → Int} {h : Nat → Bool}, HO.lst (tabI (N + 2) g) ≠ HO.lst (tabB (N + 2) h) := fun {N g h} e => by
      injection e with e
      have e2 := congrArg (fun z : List V => z[0]?) e
      simp only [tabI_get (show 0 < N + 2 by omega), tabB_get (show 0 < N + 2 by omega)] at e2
      cases e2
    have nlo : l ≠ o := ne_of R.hl R.ho ibt
    have nro : r ≠ o := ne_of R.hr R.ho ibt
    -- self._rights[low] = high
    refine ⟨_, rfl, true, rfl, iteT ⟨_, rfl, ?_⟩⟩
    refine ⟨_, rfl, p, C, dx, _, _, rfl, R.ob, TC.cl, TC.rights, rfl, _, rfl, r, _, _, aa, rfl, rfl, R.hr, ixN_nat rfl (by rw [tabI_len]; omega), ?_⟩
    rw [tabI_set]
    -- self._lefts[high] = low
    refine ⟨_, rfl, true, rfl, iteT ⟨_, rfl, ?_⟩⟩
    refine ⟨_, rfl, p, C, dx, _, _, rfl, by rw [upd_ne npr]; exact R.ob, TC.cl, TC.lefts, rfl, _, rfl, l, _, _, bb, rfl, rfl, by rw [upd_ne nlr]; exact R.hl, ixN_nat rfl (by rw [tabI_len]; omega), ?_⟩
    rw [tabI_set]
    -- self._flags[node] = is_unlink
    refine ⟨_, rfl, _, rfl, p, C, dx, _, _, rfl, by rw [upd_ne npl, upd_ne npr]; exact R.ob, TC.cl, TC.flags, rfl, _, rfl, o, _, _, x, rfl, rfl, by rw [upd_ne nlo.symm, upd_ne nro.symm]; exact R.ho, ixN_nat rfl (by rw [tabB_len]; omega), ?_⟩
    rw [tabB_set]
    refine k _ ⟨Same.write (Same.write (Same.write s0 r0) l0) o0, p0, dx, l, r, o, ⟨?_, ?_, ?_, ?_⟩, l0, r0, o0, nlr⟩
    · rw [upd_ne npo, upd_ne npl, upd_ne npr]; exact R.ob
    · rw [upd_ne nlo, upd_same]
      unfold unl
      rw [eL, eR]; rfl
    · rw [upd_ne nro, upd_ne nlr.symm, upd_same]
      unfold unl
      rw [eL, eR]; rfl
    · rw [upd_same]; rfl
def sp_Links_apply (C : Addr) : Sp := fun vs H Q _ => ∃ (H0 : Hp) (p : Addr) (n : Nat) (W : Wd) (x : Nat), vs = [.ref p, .int (-(x : Int))] ∧ LkF C H0 H p n W ∧ CanUn W n x ∧ ∀ H', LkF C H0 H' p n (unl W x) → Q .non H'
theorem w_Links_apply (D : Md K C "apply" "Links.apply" s_Links_apply) (c_Links_apply_at : Met P w K mg base 2 C "apply_at" (sp_Links_apply_at C)) : Met P w K mg base 3 C "apply" (sp_Links_apply C) := by
  refine met_of D sc_Links_apply bd_Links_apply (fun vs H Q E h => ?_) fun f cdv A outer s H vs Q E hr h => ?_
  · obtain ⟨H0, p, n, W, x, rfl, _⟩ := h; rfl
  · obtain ⟨H0, p, n, W, x, rfl, F, U, k⟩ := h
    refine ⟨_, (pss_one
    (ps_expr (pe_mt c_Links_apply_at hr (by decide) (pv 0) (pa_cons (pv 1) (pa_cons pe_int pa_nil))))), ?_⟩
    obtain ⟨dx, l, r, o, R, _⟩ := F.ex
    exact ⟨_, rfl, p, dx, _, rfl, R.ob, rfl, _, rfl, H0, p, n, W, x, _, rfl, F, U, k⟩
def sp_Links_copy (C : Addr) : Sp := fun vs H Q _ => ∃ (a : Addr) (n : Nat) (W : Wd), vs = [.ref a] ∧ LkR C H a n W ∧ n ≤ 60 ∧ ∀ H' p, LkF C H H' p n W → Q (.ref p) H'
theorem w_Links_copy (TC : CLk K C) (mC : mg "Links" = some (.ref C)) (D : Md K C "copy" "Links.copy" s_Links_copy) (c_Links_built : Sta P w K mg base 4 C "built" (sp_Links_built C)) : Met P w K mg base 5 C "copy" (sp_Links_copy C) := by
  refine met_of D sc_Links_copy bd_Links_copy (fun vs H Q E h => ?_) fun f cdv A outer s H vs Q E hr h => ?_
  · obtain ⟨a, n, W, rfl, _⟩ := h; rfl
  · obtain ⟨a, n, W, rfl, ⟨dx, l, r, o, R⟩, hn, k⟩ := h
    refine ⟨_, (pss_one
    (ps_ret (pe_sta c_Links_built hr (by decide) (pe_glob (v := .ref C) rfl mC rfl) (pa_cons (pe_fld (pv 0) rfl) (pa_cons (pe_fld (pv 0) rfl) (pa_cons (pe_fld (pv 0) rfl) (pa_cons (pe_fld (pv 0) rfl) pa_nil))))))), ?_⟩
    refine ⟨rfl, _, rfl, a, C, dx, _, _, rfl, R.ob, TC.cl, TC.size, rfl, ?_⟩
    refine ⟨_, rfl, a, C, dx, _, _, rfl, R.ob, TC.cl, TC.lefts, rfl, ?_⟩
    refine ⟨_, rfl, a, C, dx, _, _, rfl, R.ob, TC.cl, TC.rights, rfl, ?_⟩
    refine ⟨_, rfl, a, C, dx, _, _, rfl, R.ob, TC.cl, TC.flags, rfl, ?_⟩
    exact ⟨n, W, l, r, o, rfl, R.hl, R.hr, R.ho, hn, k⟩

/-! ### parents -/
/-- all links within bounds -/
structure Bnd (W : Wd) (n : Nat) : Prop where
  l : ∀ i, 1 ≤ i → i ≤ n + 1 → ∃ a : Nat, W.L i = (a : Int) ∧ a < i
  r : ∀ i, i ≤ n → ∃ b : Nat, W.R i = (b : Int) ∧ i < b ∧ b ≤ n + 1
  o0 : W.O 0 = false
  on : W.O (n + 1) = false
theorem Bnd.of {W : Wd} {n : Nat} {c : Ch} (h : Stand W n c) : Bnd W n := ⟨fun i h1 h2 => h.left h1 h2, fun i h1 => h.right h1, h.o0, h.tailO⟩
def sp_parent_of (C : Addr) : Sp := fun vs H Q _ => ∃ (a : Addr) (n : Nat) (W : Wd) (i : Nat), vs = [.ref a, .int i] ∧ LkR C H a n W ∧ Bnd W n ∧ 1 ≤ i ∧ i ≤ n ∧ ∀ v : Int, 0 ≤ v → Q (.int v) H
theorem w_parent_of (D : Dn K mg "parent_of" s_parent_of) (c_Links_left : Met P w K mg base 1 C "left" (sp_Links_left C)) (c_Links_right : Met P w K mg base 1 C "right" (sp_Links_right C)) (c_Links_is_out : Met P w K mg base 1 C "is_out" (sp_Links_is_out C)) : Cal P w K mg base 2 "parent_of" (sp_parent_of C) := by
  refine cal_of D sc_parent_of bd_parent_of (fun vs H Q E h => ?_) fun f cdv A outer s H vs Q E hr h => ?_
  · obtain ⟨a, n, W, i, rfl, _⟩ := h; rfl
  · obtain ⟨a, n, W, i, rfl, R, B, h1, h2, k⟩ := h
    refine ⟨_, (pss_cons
    (ps_set (i := 2) sc_parent_of.nd rfl (Or.inl rfl) (pe_mt c_Links_left hr (by decide) (pv 0) (pa_cons (pv 1) pa_nil))) (pss_cons
    (ps_set (i := 3) sc_parent_of.nd rfl (Or.inl rfl) (pe_mt c_Links_right hr (by decide) (pv 0) (pa_cons (pv 1) pa_nil))) (pss_cons
    (ps_if (PW.pt (pw_and (pt_val (pe_mt c_Links_is_out hr (by decide) (pv 0) (pa_cons (pv 3) pa_nil))) (pw_and1 (pt_cmpR op_eq (pe_mt c_Links_left hr (by decide) (pv 0) (pa_cons (pv 3) pa_nil)) (pv 2) (nomark _))))) (pss_one
    (ps_ret (pv 3))) pss_nil) (pss_cons
    (ps_if (PW.pt (pw_and (pt_val (pe_mt c_Links_is_out hr (by decide) (pv 0) (pa_cons (pv 2) pa_nil))) (pw_and1 (pt_cmpR op_eq (pe_mt c_Links_right hr (by decide) (pv 0) (pa_cons (pv 2) pa_nil)) (pv 3) (nomark _))))) (pss_one
    (ps_ret (pv 2))) pss_nil) (pss_one
    (ps_ret pe_int)))))), ?_⟩
    obtain ⟨dx, l, r, o, RO⟩ := id R
    obtain ⟨aa, eL, la⟩ := B.l i h1 (by omega)
    obtain ⟨bb, eR, lb, lbn⟩ := B.r i h2
    refine ⟨_, rfl, a, dx, _, rfl, RO.ob, rfl, _, rfl, a, n, W, i, rfl, R, h1, by omega, ?_⟩
    refine ⟨_, rfl, a, dx, _, rfl, RO.ob, rfl, _, rfl, a, n, W, i, rfl, R, h2, ?_⟩
    rw [eL, eR]
    -- the first test
    refine ⟨_, rfl, a, dx, _, rfl, RO.ob, rfl, _, rfl, a, n, W, bb, rfl, R, lbn, _, rfl, ?_⟩
    cases eo : W.O bb with
    | true =>
      have hb : bb ≤ n := by
        by_cases e : bb = n + 1
        · rw [e, B.on] at eo; cases eo
        · omega
      refine iteT ⟨_, rfl, a, dx, _, rfl, RO.ob, rfl, _, rfl, a, n, W, bb, rfl, R, by omega, by omega, _, rfl, ?_⟩
      obtain ⟨cc, eC, _⟩ := B.l bb (by omega) (by omega)
      rw [eC]
      refine ⟨rfl, _, rfl, ite2 (fun _ => ⟨_, rfl, k _ (by omega)⟩) fun _ => ?_⟩
      refine ⟨_, rfl, a, dx, _, rfl, RO.ob, rfl, _, rfl, a, n, W, aa, rfl, R, by omega, _, rfl, ?_⟩
      cases eo2 : W.O aa with
      | true =>
        refine iteT ⟨_, rfl, a, dx, _, rfl, RO.ob, rfl, _, rfl, a, n, W, aa, rfl, R, by omega, _, rfl, ?_⟩
        obtain ⟨dd, eD, _⟩ := B.r aa (by omega)
        rw [eD]
        exact ⟨rfl, _, rfl, ite2 (fun _ => ⟨_, rfl, k _ (by omega)⟩) fun _ => k _ (by omega)⟩
      | false => exact iteF (iteF (k _ (by omega)))
    | false =>
      refine iteF (iteF ?_)
      refine ⟨_, rfl, a, dx, _, rfl, RO.ob, rfl, _, rfl, a, n, W, aa, rfl, R, by omega, _, rfl, ?_⟩
      cases eo2 : W.O aa with
      | true =>
        refine iteT ⟨_, rfl, a, dx, _, rfl, RO.ob, rfl, _, rfl, a, n, W, aa, rfl, R, by omega, _, rfl, ?_⟩
        obtain ⟨dd, eD, _⟩ := B.r aa (by omega)
        rw [eD]
        exact ⟨rfl, _, rfl, ite2 (fun _ => ⟨_, rfl, k _ (by omega)⟩) fun _ => k _ (by omega)⟩
      | false => exact iteF (iteF (k _ (by omega)))
end
end LK
end

section
/-! LKRules -/
set_option maxHeartbeats 2000000
namespace LK
open PySem PySem.Spec PyProof.Rows L2
/-! ### a text times a number -/
def repS (z : Str) (k : Nat) : Str := ⟨((List.replicate k z.cps.toList).flatten).toArray⟩
theorem rep_fold (c : Array Nat) : ∀ (k : Nat) (acc : Array Nat), (List.replicate k c).foldl (· ++ ·) acc = acc ++ ((List.replicate k c.toList).flatten).toArray
  | 0, acc => by simp
  | k + 1, acc => by
    rw [List.replicate_succ, List.foldl_cons, rep_fold c k, List.replicate_succ, List.flatten_cons, Array.append_assoc]
    congr 1
    refine Array.toList_inj.mp ?_
    simp
theorem repS_eq (z : Str) (k : Nat) : (⟨(List.replicate k z.cps).foldl (· ++ ·) #[]⟩ : Str) = repS z k := by
  unfold repS
  rw [rep_fold]; simp
section
variable {X : Cx}
theorem op_mul_str : OpR X (binaryOp .Mult) (fun x y H Q => ∃ (z : Str) (k : Nat), x = .str z ∧ y = .int (k : Int) ∧ 0 < z.length ∧ k ≤ 1000 ∧ z.length ≤ 1000 ∧ Q (.str (repS z k)) H) := by
  intro pins s σ H x y v u Q I rx ry h
  obtain ⟨z, k, rfl, rfl, hz, hk, hl, q⟩ := h
  obtain ⟨t, rfl⟩ := rx
  obtain ⟨t', rfl⟩ := ry
  have fin : ∀ (t2 : Tok), EP X pins σ Q (.str (repS z k) t2) { s with toks := s.toks + 1 } := fun t2 => ⟨.str (repS z k), H, I.tok _, ⟨_, rfl⟩, q⟩
  have hprod : z.length * k ≤ 1000000 := Nat.le_trans (Nat.mul_le_mul hl hk) (by decide)
  refine PySem.P.mul_str ?_ ?_ ?_ ?_
  · rw [decide_eq_false (by omega), decide_eq_false (by omega)]; rfl
  · intro h1 _ h2
    have : (2 ^ 63 - 1 : Int) / (k : Int) ≥ 1000 := by
      rw [ge_iff_le, Int.le_ediv_iff_mul_le (by omega)]
      omega
    omega
  · intro h1 _
    rw [show ((k : Int)).toNat = k from rfl]
    show decide (_ > sizeLine) = false
    exact decide_eq_false (Nat.not_lt.mpr (Nat.le_trans hprod (by decide)))
  · by_cases h1 : (k : Int) < 1
    · rw [if_pos h1]
      have : k = 0 := by omega
      subst this
      exact ⟨by decide, fin _⟩
    · rw [if_neg h1]
      by_cases h2 : ((k : Int) == 1 || z.length == 0) = true
      · rw [if_pos h2]
        have : k = 1 := by
          simp at h2
          omega
        subst this
        have e : repS z 1 = z := by
          unfold repS
          simp
        rw [e] at q
        exact ⟨.str z, H, I, ⟨_, rfl⟩, q⟩
      · rw [if_neg h2, repS_eq]
        refine ⟨?_, fin _⟩
        show ((repS z k).cps.size ≤ sizeLine)
        unfold repS
        simp only [List.size_toArray, List.length_flatten, List.map_replicate, List.sum_replicate_nat, Array.length_toList]
        exact Nat.le_trans (by rw [Nat.mul_comm]; exact hprod) (by decide)
end
/-! ### v in x, x an instance whose class has a __contains__; str(x) -/
section
variable {M : Model} {A : Around} {E : Value → Shared → Prop} {s : Shared} {K : PySem.W.Frag} {x C f : Addr} {ox : Obj} {od : Option Obj}
theorem contains_fn {v : Value} {Q : Bool → Shared → Prop} (X : K.In s.heap) (I : PySem.W.InstAt s.heap x ox C od) (hs : PySem.W.findIn K (.ref C) "__contains__" = some (some (.ref f))) (hf : PySem.W.typeIn K (.ref f) = some (.type "function"))
    (h : wpAny M A (call (.ref f) [.ref x, v]) (fun r s' => wpAny M A (truthy r) Q E s') E s) : wpAny M A (contains (.ref x) v) Q E s := by
  unfold contains
  refine wpAny_holding ?_
  show wpAny M A (specialOf (.ref x) "__contains__" >>= _) Q E s
  refine wpAny_bind (m := specialOf (.ref x) "__contains__") (wpAny_bind (I.type.here ((PySem.W.looks_findIn X hs).here ?_)))
  refine wpAny_ite_false (by rfl) ?_
  refine wpAny_bind (m := callSpecialUnlessNone? (.ref x) "__contains__" [v] _) ?_
  unfold callSpecialUnlessNone?
  refine wpAny_bind (m := specialOf (.ref x) "__contains__") (wpAny_bind (I.type.here ((PySem.W.looks_findIn X hs).here ?_)))
  refine wpAny_holding (wpAny_bind ((PySem.W.bind_fn X _ hf).here ?_))
  refine wpAny_ite_false (by rfl) ?_
  exact wpAny_bind (wpAny_mono h (fun r s' q => wpAny_pure q) fun _ _ y => y)
end
section
variable {X : Cx} {k : Nat} {C : Addr} {sp : Sp}
theorem op_in_own (c : Met X.prog X.w X.K X.mg X.base k C "__contains__" sp) {j : Nat} (hr : Room j X.A) (hk : k ≤ j) : OpR X (compareOp .In) (fun x y H Q => ∃ a dx fs, y = .ref a ∧ H a = some (.ins C dx fs) ∧ sp [y, x] H (fun v H' => ∃ b, v = .bl b ∧ Q (.bl b) H') E0) := by
  obtain ⟨f, fd, ps, hc, hm, F, b⟩ := c.ex
  intro pins s σ H x y v u Q I rx ry h
  obtain ⟨a, dx, fs, rfl, ea, q⟩ := h
  cases (show u = Value.ref a from ry)
  obtain ⟨mA, O, _, _, _, _⟩ := ins_get I.hok ea
  obtain ⟨od, J, _⟩ := O.look
  show wpAny _ _ (do return Value.bool (← contains (.ref a) v)) _ _ s
  refine wpAny_bind (contains_fn I.kIn J hm.at_ (beq_iff_eq.mp hm.fn) ?_)
  refine wpAny_mono (wpAny_call (SlX.run_at (us := [.ref a, v]) (ws := [.ref a, x]) (F.raw b .nil) (hr.mono hk) I.env0 pass0 I (.cons rfl (.cons rx .nil)) q)) (fun w s' z => ?_) fun _ _ x => x
  obtain ⟨z', H', I', rz, b, ei, qz⟩ := z
  subst ei
  cases (show w = Value.bool b from rz)
  exact wpAny_truthy_bool (wpAny_pure ⟨.bl b, H', I', rfl, qz⟩)
theorem call_strOwn (c : Met X.prog X.w X.K X.mg X.base k C "__str__" sp) {j : Nat} (hr : Room j X.A) (hk : k + 2 ≤ j) : CallR X (.type "str") (fun xs H Q => ∃ a dx fs, xs = [.ref a] ∧ H a = some (.ins C dx fs) ∧ sp [.ref a] H (fun v H' => ∃ z, v = .str z ∧ Q (.str z) H') E0) := by
  obtain ⟨f, fd, ps, hc, hm, F, b⟩ := c.ex
  intro pins s σ H xs us Q I r h
  obtain ⟨a, dx, fs, rfl, ea, q⟩ := h
  obtain ⟨u, rfl, ru⟩ := r.one
  cases (show u = Value.ref a from ru)
  obtain ⟨mA, O, _, _, _, _⟩ := ins_get I.hok ea
  obtain ⟨od, J, _⟩ := O.look
  have hr0 : Room (k + 2) X.A := hr.mono hk
  have hr2 : Room k X.A.in1.in1 := (show Room (k + 1) X.A.in1 from Room.in1 hr0).in1
  refine PySem.W.kso_call hr2.units0 I.kIn J hm.at_ hm.fn ?_
  refine wpAny_mono (wpAny_call (SlX.run_at (us := [.ref a]) (ws := [.ref a]) (F.raw b .nil) hr2 I.env0.in1.in1 pass0 I (.cons rfl .nil) q)) (fun w s' z => ?_) fun _ _ x => x
  obtain ⟨z', H', I', rz, y, ei, qz⟩ := z
  subst ei
  obtain ⟨t, e⟩ := (show ∃ t, w = Value.str y t from rz)
  cases e
  exact ⟨.str y, H', I', ⟨t, rfl⟩, qz⟩
end
end LK
end

section
/-! LKWalk4 -/
set_option maxHeartbeats 2000000
namespace LK
open PySem PySem.Spec PyProof.Rows L2
theorem mem_outsL {O : Nat → Bool} {n x : Nat} : x ∈ outsL O n ↔ 1 ≤ x ∧ x ≤ n ∧ O x = true := by
  unfold outsL
  rw [List.mem_filter, mem_range'_1]
  constructor
  · rintro ⟨⟨h1, h2⟩, h3⟩; exact ⟨h1, by omega, h3⟩
  · rintro ⟨h1, h2, h3⟩; exact ⟨⟨h1, by omega⟩, h3⟩
theorem map_at {α : Type} {l : List α} {g : α → V} {i : Nat} {v : V} (h : (l.map g)[i]? = some v) : ∃ x, l[i]? = some x ∧ v = g x := by
  rw [List.getElem?_map] at h
  cases e : l[i]? with
  | none => rw [e] at h; cases h
  | some x => rw [e] at h; exact ⟨x, rfl, (Option.some.inj h).symm⟩
theorem mem_take_succ {α : Type} {l : List α} {i : Nat} {x y : α} (h : l[i]? = some x) : y ∈ l.take (i + 1) ↔ y ∈ l.take i ∨ y = x := by
  rw [List.take_add_one, h]; simp
section
variable {P : Program} {w : World} {K : PySem.W.Frag} {mg : Str → Option Value} {base : Heap} {CL CF : Addr}
def sp_parents_of (C : Addr) : Sp := fun vs H Q _ => ∃ (a : Addr) (n : Nat) (W : Wd), vs = [.ref a] ∧ LkR C H a n W ∧ Bnd W n ∧ n ≤ 60 ∧
  ∀ H' p prs, Same H H' → H p = none → H' p = some (.lst (tabI (n + 2) prs)) → (∀ i, 1 ≤ i → i ≤ n → (0 ≤ prs i ↔ W.O i = true)) → Q (.ref p) H'
theorem w_parents_of (TC : CLk K CL) (D : Dn K mg "parents_of" s_parents_of) (c_Links_outs : Met P w K mg base 1 CL "outs" (sp_Links_outs CL)) (c_parent_of : Cal P w K mg base 2 "parent_of" (sp_parent_of CL)) : Cal P w K mg base 3 "parents_of" (sp_parents_of CL) := by
  refine cal_of D sc_parents_of bd_parents_of (fun vs H Q E h => ?_) fun f cdv A outer s H vs Q E hr h => ?_
  · obtain ⟨a, n, W, rfl, _⟩ := h; rfl
  · obtain ⟨a, n, W, rfl, R, B, hn, k⟩ := h
    refine ⟨_, (pss_cons
    (ps_set (i := 1) sc_parents_of.nd rfl (Or.inl rfl) (pe_op op_rep (pe_lst (pa_cons (pe_un un_neg pe_int) pa_nil)) (pe_op op_add (pe_fld (pv 0) rfl) pe_int))) (pss_cons
    (ps_for PassesOwn.never rfl (pi_list (pe_mt0 c_Links_outs hr (by decide) (pv 0))) (pg_name (i := 2) sc_parents_of.nd rfl (Or.inl rfl)) (pss_one
    (ps_asg (pe_c c_parent_of hr (by decide) rfl (pa_cons (pv 0) (pa_cons (pv 2) pa_nil))) (pg_sub (pv 1) (pv 2) set_list)))) (pss_one
    (ps_ret (pv 1))))), ?_⟩
    obtain ⟨dx, l, r, o, RO⟩ := id R
    refine ⟨_, rfl, by show 1 ≤ sizeLine; decide, fun q hq => ?_⟩
    have sq : Same H (L2.upd H q (.lst [V.int (-1)])) := Same.new hq
    refine ⟨_, rfl, a, CL, dx, _, _, rfl, sq _ _ RO.ob, TC.cl, TC.size, rfl, _, _, rfl, rfl, q, _, _, rfl, rfl, upd_same, by omega, by omega, sizeLine_ge (by show 1 * _ ≤ _; omega), fun p hp => ?_⟩
    obtain ⟨hp0, nqp⟩ := upd_none hp
    rw [rep_tabI (N := n + 2) (by omega)]
    obtain ⟨H1, e1, s1, h1⟩ : ∃ H1, L2.upd (L2.upd H q (.lst [V.int (-1)])) p (.lst (tabI (n + 2) fun _ => -1)) = H1 ∧ Same H H1 ∧ H1 p = some (.lst (tabI (n + 2) fun _ => -1)) := ⟨_, rfl, Same.write sq hp0, upd_same⟩
    show tSeq _ _ _ _ (L2.upd (L2.upd H q (.lst [V.int (-1)])) p (.lst (tabI (n + 2) fun _ => -1)))
    rw [e1]
    refine ⟨_, rfl, a, dx, _, rfl, s1 _ _ RO.ob, rfl, a, n, W, rfl, R.same s1, hn, fun H2 d s2 hd hd2 => ⟨d, rfl, ⟨_, SqL.of hd2⟩, ?_⟩⟩
    have ndp : d ≠ p := (ne_of_none h1 hd).symm
    have fd : H d = none := s1.free hd
    refine for_list (K := K) (a := d) (xs := (outsL W.O n).map fun i => V.int (i : Nat)) (fun i σ H' => ∃ prs v, σ = [some (.ref a), some (.ref p), v] ∧ Same H H' ∧ H' d = some (.lst ((outsL W.O n).map fun i => V.int (i : Nat))) ∧ H' p = some (.lst (tabI (n + 2) prs)) ∧ ∀ j, (0 ≤ prs j ↔ j ∈ (outsL W.O n).take i))
      ⟨fun _ => -1, _, rfl, s1.trans s2, hd2, s2 _ _ h1, fun j => by simp⟩ (fun i σ H' _ ⟨_, _, _, _, h, _⟩ => SqL.of h) ?_ ?_
    · rintro i x σ H' hi ⟨prs, v, rfl, s3, hd3, hp3, hj⟩
      obtain ⟨x, hx, rfl⟩ := map_at hi
      obtain ⟨m1, m2, m3⟩ := mem_outsL.mp (List.mem_of_getElem? hx)
      refine ⟨_, rfl, _, rfl, a, n, W, x, rfl, R.same s3, B, m1, m2, fun z hz => ?_⟩
      refine ⟨_, rfl, _, rfl, p, _, _, x, rfl, rfl, hp3, ixN_nat rfl (by rw [tabI_len]; omega), ?_⟩
      rw [tabI_set]
      refine ⟨put prs x z, _, rfl, Same.write s3 hp0, by rw [upd_ne ndp]; exact hd3, upd_same, fun j => ?_⟩
      rw [mem_take_succ hx, ← hj j]
      by_cases e : j = x
      · subst e; rw [put_same]; exact ⟨fun _ => .inr rfl, fun _ => hz⟩
      · rw [put_ne e]; exact ⟨fun z => .inl z, fun z => z.resolve_right e⟩
    · rintro σ H' ⟨prs, v, rfl, s3, hd3, hp3, hj⟩
      refine ⟨_, rfl, k _ _ _ s3 hp0 hp3 fun i i1 i2 => ?_⟩
      rw [hj i, List.length_map, List.take_length, mem_outsL]
      exact ⟨fun z => z.2.2, fun z => ⟨i1, i2, z⟩⟩

/-! ### Forest objects -/
structure CFo (K : PySem.W.Frag) (C : Addr) : Prop where
  cl : Cls K C
  size : NoAttr K C "size"
  links : NoAttr K C "_links"
  parents : NoAttr K C "_parents"
def foF (n : Nat) (l p : Addr) : List (Str × V) := [("size", .int n), ("_links", .ref l), ("_parents", .ref p)]
/-- a forest at a: its standing W -/
def FoR (CL CF : Addr) (H : Hp) (a : Addr) (n : Nat) (W : Wd) : Prop := ∃ dx l p prs, H a = some (.ins CF dx (foF n l p)) ∧ LkR CL H l n W ∧ H p = some (.lst (tabI (n + 2) prs)) ∧ (∀ i, 1 ≤ i → i ≤ n → (0 ≤ prs i ↔ W.O i = true))
theorem FoR.same {H H' : Hp} {a : Addr} {n : Nat} {W : Wd} (e : Same H H') (h : FoR CL CF H a n W) : FoR CL CF H' a n W := by
  obtain ⟨dx, l, p, prs, h1, h2, h3, h4⟩ := h
  exact ⟨dx, l, p, prs, e _ _ h1, h2.same e, e _ _ h3, h4⟩
def sp_Forest_init (CL CF : Addr) : Sp := fun vs H Q _ => ∃ (H0 : Hp) (p dx : Addr) (n : Nat), vs = [.ref p, .int n] ∧ Same H0 H ∧ H0 p = none ∧ H p = some (.ins CF dx []) ∧ n ≤ 60 ∧ ∀ H' l q, Same H0 H' → H' p = some (.ins CF dx (foF n l q)) → Q .non H'
theorem w_Forest_init (TC : CFo K CF) (D : Id K mg "Forest" CF "Forest.__init__" s_Forest_init) (c_check_size : Cal P w K mg base 1 "check_size" sp_check_size) (c_Links_init : Mak P w K mg base 2 "Links" CL (sp_Links_init CL)) : Mak P w K mg base 4 "Forest" CF (sp_Forest_init CL CF) := by
  refine mak_of D sc_Forest_init bd_Forest_init (fun vs H Q E h => ?_) fun f cdv A outer s H vs Q E hr h => ?_
  · obtain ⟨H0, p, dx, n, rfl, _⟩ := h; rfl
  · obtain ⟨H0, p, dx, n, rfl, s0, p0, hp, hn, k⟩ := h
    refine ⟨_, (pss_cons
    (ps_expr (pe_c c_check_size hr (by decide) rfl (pa_cons (pv 1) pa_nil))) (pss_cons
    (ps_fld (pv 0) (pv 1) rfl) (pss_cons
    (ps_fld (pv 0) (pe_mk c_Links_init hr (by decide) rfl (pa_cons (pv 1) pa_nil)) rfl) (pss_one
    (ps_fld (pv 0) (pe_op op_rep (pe_lst (pa_cons (pe_un un_neg pe_int) pa_nil)) (pe_op op_add (pv 1) pe_int)) rfl))))), ?_⟩
    refine ⟨_, rfl, n, rfl, by omega, by omega, ?_⟩
    refine ⟨_, rfl, _, rfl, p, CF, dx, _, rfl, hp, TC.cl, TC.size, (by show 0 < 1000; decide), ?_⟩
    obtain ⟨H1, e1, s1, h1⟩ : ∃ H1, L2.upd H p (.ins CF dx (putF "size" (.int n) [])) = H1 ∧ Same H0 H1 ∧ H1 p = some (.ins CF dx (putF "size" (.int n) [])) := ⟨_, rfl, Same.write s0 p0, upd_same⟩
    rw [e1]
    refine ⟨_, rfl, fun x dx2 nx ndx nex => ⟨H1, x, dx2, n, rfl, same_made nx ndx, nx, upd_same, hn, fun H2 R2 => ⟨rfl, ?_⟩⟩⟩
    have h2 := R2.sm _ _ h1
    refine ⟨_, rfl, p, CF, dx, _, rfl, h2, TC.cl, TC.links, (by show 1 < 1000; decide), ?_⟩
    have s3 : Same H0 (L2.upd H2 p (.ins CF dx (putF "_links" (.ref x) (putF "size" (.int n) [])))) := Same.write (s1.trans R2.sm) p0
    refine ⟨_, rfl, by show 1 ≤ sizeLine; decide, fun q hq => ⟨_, rfl, _, _, rfl, rfl, q, _, _, rfl, rfl, upd_same, by omega, by omega, sizeLine_ge (by show 1 * _ ≤ _; omega), fun o ho => ?_⟩⟩
    obtain ⟨hq1, npq⟩ := upd_none hq
    obtain ⟨ho1, nqo⟩ := upd_none ho
    obtain ⟨ho2, npo⟩ := upd_none ho1
    refine ⟨_, rfl, p, CF, dx, _, rfl, by rw [upd_ne npo.symm, upd_ne npq.symm]; exact upd_same, TC.cl, TC.parents, (by show 2 < 1000; decide), k _ x o ?_ upd_same⟩
    exact Same.write (Same.write (Same.write s3 (s3.free hq)) (s3.free ho1)) p0
def sp_Forest_grown (CL CF : Addr) : Sp := fun vs H Q _ => ∃ (a : Addr) (n : Nat) (W : Wd), vs = [.ref a] ∧ LkR CL H a n W ∧ Bnd W n ∧ n ≤ 60 ∧ ∀ H' p, Same H H' → H p = none → FoR CL CF H' p n W → Q (.ref p) H'
theorem w_Forest_grown (TL : CLk K CL) (TC : CFo K CF) (D : Sd K CF "grown" "Forest.grown" s_Forest_grown) (c_Forest_init : Mak P w K mg base 4 "Forest" CF (sp_Forest_init CL CF)) (c_Links_copy : Met P w K mg base 5 CL "copy" (sp_Links_copy CL))
    (c_parents_of : Cal P w K mg base 3 "parents_of" (sp_parents_of CL)) : Sta P w K mg base 6 CF "grown" (sp_Forest_grown CL CF) := by
  refine sta_of D sc_Forest_grown bd_Forest_grown (fun vs H Q E h => ?_) fun f cdv A outer s H vs Q E hr h => ?_
  · obtain ⟨a, n, W, rfl, _⟩ := h; rfl
  · obtain ⟨a, n, W, rfl, R, B, hn, k⟩ := h
    refine ⟨_, (pss_cons
    (ps_set (i := 1) sc_Forest_grown.nd rfl (Or.inl rfl) (pe_mk c_Forest_init hr (by decide) rfl (pa_cons (pe_fld (pv 0) rfl) pa_nil))) (pss_cons
    (ps_fld (pv 1) (pe_mt0 c_Links_copy hr (by decide) (pv 0)) rfl) (pss_cons
    (ps_fld (pv 1) (pe_c c_parents_of hr (by decide) rfl (pa_cons (pv 0) pa_nil)) rfl) (pss_one
    (ps_ret (pv 1)))))), ?_⟩
    obtain ⟨dx, l, r, o, RO⟩ := id R
    refine ⟨_, rfl, a, CL, dx, _, _, rfl, RO.ob, TL.cl, TL.size, rfl, fun x dx2 nx ndx nex => ⟨H, x, dx2, n, rfl, same_made nx ndx, nx, upd_same, hn, fun H1 l1 q1 s1 h1 => ⟨rfl, ?_⟩⟩⟩
    have R1 := R.same s1
    refine ⟨_, rfl, a, dx, _, rfl, s1 _ _ RO.ob, rfl, a, n, W, rfl, R1, hn, fun H2 c F2 => ?_⟩
    have h2 := F2.sm _ _ h1
    refine ⟨_, rfl, x, CF, dx2, _, rfl, h2, TC.cl, TC.links, (by show 3 < 1000; decide), ?_⟩
    rw [show putF "_links" (V.ref c) (foF n l1 q1) = foF n c q1 from rfl]
    have nxc : ∀ b o, H2 b = some o → (∀ C d f, o ≠ .ins C d f) → b ≠ x := fun b o e z q => by
      rw [q, h2] at e
      exact z _ _ _ (Option.some.inj e).symm
    obtain ⟨H3, e3, s3, h3, L3⟩ : ∃ H3, L2.upd H2 x (.ins CF dx2 (foF n c q1)) = H3 ∧ Same H H3 ∧ H3 x = some (.ins CF dx2 (foF n c q1)) ∧ LkR CL H3 c n W := by
      refine ⟨_, rfl, Same.write (s1.trans F2.sm) nx, upd_same, ?_⟩
      obtain ⟨dc, lc, rc, oc, RC, _⟩ := F2.ex
      have ncx : c ≠ x := fun e => by
        have z := F2.fr
        rw [e, h1] at z; cases z
      exact ⟨dc, lc, rc, oc, by rw [upd_ne ncx]; exact RC.ob, by rw [upd_ne (nxc _ _ RC.hl (fun _ _ _ z => by cases z))]; exact RC.hl, by rw [upd_ne (nxc _ _ RC.hr (fun _ _ _ z => by cases z))]; exact RC.hr, by rw [upd_ne (nxc _ _ RC.ho (fun _ _ _ z => by cases z))]; exact RC.ho⟩
    rw [e3]
    refine ⟨_, rfl, a, n, W, rfl, R.same s3, B, hn, fun H4 q prs s4 q0 hq hj => ?_⟩
    have h4 := s4 _ _ h3
    have nqx : q ≠ x := fun e => by rw [e, h3] at q0; cases q0
    refine ⟨_, rfl, x, CF, dx2, _, rfl, h4, TC.cl, TC.parents, (by show 3 < 1000; decide), ?_⟩
    rw [show putF "_parents" (V.ref q) (foF n c q1) = foF n c q from rfl]
    refine ⟨_, rfl, k _ _ (Same.write (s3.trans s4) nx) nx ⟨dx2, c, q, prs, upd_same, ?_, by rw [upd_ne nqx]; exact hq, hj⟩⟩
    have nx4 : ∀ b o, H4 b = some o → (∀ C d f, o ≠ .ins C d f) → b ≠ x := fun b o e z q => by
      rw [q, h4] at e
      exact z _ _ _ (Option.some.inj e).symm
    have ncx : c ≠ x := fun e => by
      have z := F2.fr
      rw [e, h1] at z; cases z
    obtain ⟨dc, lc, rc, oc, RC⟩ := L3.same s4
    exact ⟨dc, lc, rc, oc, by rw [upd_ne ncx]; exact RC.ob, by rw [upd_ne (nx4 _ _ RC.hl (fun _ _ _ z => by cases z))]; exact RC.hl, by rw [upd_ne (nx4 _ _ RC.hr (fun _ _ _ z => by cases z))]; exact RC.hr, by rw [upd_ne (nx4 _ _ RC.ho (fun _ _ _ z => by cases z))]; exact RC.ho⟩
def sp_Forest_contains (CL CF : Addr) : Sp := fun vs H Q _ => ∃ (a : Addr) (n : Nat) (W : Wd) (i : Nat), vs = [.ref a, .int i] ∧ FoR CL CF H a n W ∧ 1 ≤ i ∧ i ≤ n ∧ Q (.bl (W.O i)) H
theorem w_Forest_contains (TC : CFo K CF) (D : Md K CF "__contains__" "Forest.__contains__" s_Forest_contains) : Met P w K mg base 1 CF "__contains__" (sp_Forest_contains CL CF) := by
  refine met_of D sc_Forest_contains bd_Forest_contains (fun vs H Q E h => ?_) fun f cdv A outer s H vs Q E hr h => ?_
  · obtain ⟨a, n, W, i, rfl, _⟩ := h; rfl
  · obtain ⟨a, n, W, i, rfl, ⟨dx, l, p, prs, h1, h2, h3, h4⟩, i1, i2, k⟩ := h
    refine ⟨_, (pss_one
    (ps_ret (pe_and (pe_chain op_le op_le pe_int (pv 1) (pe_fld (pv 0) rfl)) (pe_one (pe_cmpR op_ge (pe_ix ix_list (pe_fld (pv 0) rfl) (pv 1) (fun _ _ => rfl)) pe_int (nomark _)))))), ?_⟩
    refine ⟨_, rfl, _, _, rfl, rfl, true, dT (by omega), iteT ⟨_, rfl, a, CF, dx, _, _, rfl, h1, TC.cl, TC.size, rfl, _, _, rfl, rfl, true, dT (by omega), iteT ?_⟩⟩
    refine ⟨_, rfl, a, CF, dx, _, _, rfl, h1, TC.cl, TC.parents, rfl, _, rfl, p, _, _, _, rfl, rfl, SqL.of h3, tabI_at rfl (by omega), _, _, rfl, rfl, ?_⟩
    have e : decide (0 ≤ prs i) = W.O i := by
      rw [Bool.eq_iff_iff, decide_eq_true_iff]; exact h4 i i1 i2
    show Q (.bl (decide (0 ≤ prs i))) H
    rw [e]; exact k
end
end LK
end

section
/-! LKWalk5 -/
set_option maxHeartbeats 2000000
namespace LK
open PySem PySem.Spec PyProof.Rows L2
theorem foldl_O : ∀ (rem : List Nat) (W : Wd) (j : Nat), (rem.foldl unl W).O j = true ↔ (j ∈ rem ∨ W.O j = true)
  | [], W, j => by simp
  | x :: rem, W, j => by
    rw [List.foldl_cons, foldl_O rem, unl_O, List.mem_cons]
    by_cases e : j = x
    · rw [if_pos e]; simp [e]
    · rw [if_neg e]; simp [e]
theorem play_O {rem : List Nat} {j : Nat} : (play rem).O j = true ↔ j ∈ rem := by
  unfold play
  rw [foldl_O]; simp [wd0]
theorem play_succ {rem : List Nat} {i x : Nat} (h : rem[i]? = some x) : play (rem.take (i + 1)) = unl (play (rem.take i)) x := by
  unfold play
  rw [List.take_add_one, h, List.foldl_append]; rfl
/-- a removal: nodes, none twice -/
structure Rem (n : Nat) (rem : List Nat) : Prop where
  nd : rem.Nodup
  rg : ∀ x ∈ rem, 1 ≤ x ∧ x ≤ n
theorem Rem.stand {n : Nat} {rem : List Nat} (h : Rem n rem) : ∃ c, Stand (play rem) n c := play_any h.nd h.rg
theorem Rem.take {n : Nat} {rem : List Nat} (h : Rem n rem) (i : Nat) : Rem n (rem.take i) := ⟨h.nd.sublist (List.take_sublist _ _), fun x hx => h.rg x (List.mem_of_mem_take hx)⟩
theorem nodup_take {rem : List Nat} (h : rem.Nodup) {i x : Nat} (e : rem[i]? = some x) : x ∉ rem.take i := fun hx => by
  obtain ⟨j, hj, ej⟩ := List.mem_iff_getElem.mp hx
  rw [List.length_take] at hj
  rw [List.getElem_take] at ej
  obtain ⟨hi, ei⟩ := List.getElem?_eq_some_iff.mp e
  have := (List.getElem_inj h).mp (ej.trans ei.symm)
  omega
theorem Rem.can {n : Nat} {rem : List Nat} (h : Rem n rem) {i x : Nat} (e : rem[i]? = some x) : CanUn (play (rem.take i)) n x := by
  obtain ⟨c, hc⟩ := (h.take i).stand
  obtain ⟨h1, h2⟩ := h.rg x (List.mem_of_getElem? e)
  refine CanUn.of hc h1 h2 ?_
  cases q : (play (rem.take i)).O x with
  | false => rfl
  | true => exact absurd (play_O.mp q) (nodup_take h.nd e)
theorem nodup_len : ∀ (n : Nat) (l : List Nat), l.Nodup → (∀ x ∈ l, 1 ≤ x ∧ x ≤ n) → l.length ≤ n
  | 0, [], _, _ => Nat.le_refl _
  | 0, x :: l, _, h => by have := h x List.mem_cons_self; omega
  | n + 1, l, nd, h => by
    have ih := nodup_len n (l.erase (n + 1)) (nd.erase _) fun x hx => by
      have h1 := h x (List.mem_of_mem_erase hx)
      have h2 : x ≠ n + 1 := ((List.Nodup.mem_erase_iff nd).mp hx).1
      omega
    rw [List.length_erase] at ih
    split at ih <;> omega
theorem Rem.len {n : Nat} {rem : List Nat} (h : Rem n rem) : rem.length ≤ n := nodup_len n rem h.nd h.rg
abbrev intL (l : List Nat) : List V := l.map fun i => V.int (i : Nat)
theorem cut_take (xs : List V) (i : Nat) : cutV xs none (some (i : Int)) = xs.take i := by
  unfold cutV
  rw [HT.sIx_none, HT.sIx_nat, List.drop_zero, Nat.sub_zero]
  by_cases h : i ≤ xs.length
  · rw [Nat.min_eq_left h]
  · rw [Nat.min_eq_right (by omega), List.take_of_length_le (Nat.le_refl _), List.take_of_length_le (by omega)]
theorem inV_ints {x : Nat} {l : List Nat} : inV (.int (x : Nat)) (intL l) = decide (x ∈ l) := by
  unfold inV intL
  induction l with
  | nil => rfl
  | cons y l ih =>
    rw [List.map_cons, List.any_cons, ih]
    show (((y : Int)) == (x : Int) || decide (x ∈ l)) = decide (x ∈ y :: l)
    rw [Bool.eq_iff_iff, Bool.or_eq_true, beq_iff_eq, decide_eq_true_iff, decide_eq_true_iff, List.mem_cons]
    constructor
    · rintro (h | h)
      · left; omega
      · right; exact h
    · rintro (h | h)
      · left; omega
      · right; exact h
theorem flat_ints {l : List Nat} : (intL l).all flatV = true := by
  rw [List.all_eq_true]
  intro v hv
  obtain ⟨x, _, rfl⟩ := List.mem_map.mp hv
  rfl
section
variable {P : Program} {w : World} {K : PySem.W.Frag} {mg : Str → Option Value} {base : Heap} {CL CF : Addr}
def sp_Forest_after (CL CF : Addr) : Sp := fun vs H Q _ => ∃ (a : Addr) (n : Nat) (rem : List Nat), vs = [.ref CF, .int n, .ref a] ∧ H a = some (.lst (intL rem)) ∧ n ≤ 60 ∧ Rem n rem ∧ ∀ H' p, Same H H' → H p = none → FoR CL CF H' p n (play rem) → Q (.ref p) H'
theorem w_Forest_after (T : Tx mg) (D : Cd K CF "after" "Forest.after" s_Forest_after) (c_check_size : Cal P w K mg base 1 "check_size" sp_check_size) (c_Links_init : Mak P w K mg base 2 "Links" CL (sp_Links_init CL))
    (c_Links_apply : Met P w K mg base 3 CL "apply" (sp_Links_apply CL)) (c_Forest_grown : Sta P w K mg base 6 CF "grown" (sp_Forest_grown CL CF)) : Clm P w K mg base 7 CF "after" (sp_Forest_after CL CF) := by
  refine clm_of D sc_Forest_after bd_Forest_after (fun vs H Q E h => ?_) fun f cdv A outer s H vs Q E hr h => ?_
  · obtain ⟨a, n, rem, rfl, _⟩ := h; rfl
  · obtain ⟨a, n, rem, rfl, ha, hn, hrem, k⟩ := h
    refine ⟨_, (pss_cons
    (ps_expr (pe_c c_check_size hr (by decide) rfl (pa_cons (pv 1) pa_nil))) (pss_cons
    (ps_for PassesOwn.never rfl (pi_enum (by rfl) T.enumerate (pa_cons (pv 2) pa_nil)) (pg_tup rfl (pgs_cons (pg_name (i := 3) sc_Forest_after.nd rfl (Or.inl rfl)) (pgs_cons (pg_name (i := 4) sc_Forest_after.nd rfl (Or.inl rfl)) pgs_nil))) (pss_one
    (ps_if (PW.pt (pw_or (pt_not (pt_chain op_le op_le pe_int (pv 4) (pv 1))) (pw_or1 (pt_cmpR op_in_seq (pv 4) (pe_slice sl_list (pv 2) po_none (po_some (pv 3))) (by rfl))))) (pss_one ps_never) pss_nil))) (pss_cons
    (ps_set (i := 5) sc_Forest_after.nd rfl (Or.inl rfl) (pe_mk c_Links_init hr (by decide) rfl (pa_cons (pv 1) pa_nil))) (pss_cons
    (ps_for PassesOwn.never rfl (pi_list (pv 2)) (pg_name (i := 4) sc_Forest_after.nd rfl (Or.inl rfl)) (pss_one
    (ps_expr (pe_mt c_Links_apply hr (by decide) (pv 5) (pa_cons (pe_un un_neg (pv 4)) pa_nil))))) (pss_one
    (ps_ret (pe_sta c_Forest_grown hr (by decide) (pv 0) (pa_cons (pv 5) pa_nil)))))))), ?_⟩
    refine ⟨_, rfl, n, rfl, by omega, by omega, ?_⟩
    refine ⟨_, rfl, a, _, rfl, SqL.of ha, for_it (walk_enum (xs := intL rem)) (fun i σ H' => ∃ u v, σ = [some (.ref CF), some (.int n), some (.ref a), u, v, none] ∧ Same H H') ⟨_, _, rfl, Same.refl H⟩ (fun i σ H' _ ⟨_, _, _, s1⟩ => SqL.of (s1 _ _ ha)) ?_ ?_⟩
    · rintro i x σ H' H'' hi ⟨u, v, rfl, s1⟩ ⟨t, y, z, rfl, ht, rfl, ey, ez⟩
      obtain rfl := Option.some.inj ey
      obtain ⟨nd, hx, rfl⟩ := map_at ez
      obtain ⟨r1, r2⟩ := hrem.rg nd (List.mem_of_getElem? hx)
      have s2 : Same H (L2.upd H' t (.tup [.int (i : Nat), .int (nd : Nat)])) := Same.upd s1 ht
      refine ⟨t, _, rfl, SqT.of upd_same, rfl, _, _, rfl, _, _, rfl, rfl, ?_⟩
      refine ⟨_, rfl, _, _, rfl, rfl, true, dT (by omega), iteT ⟨_, rfl, _, _, rfl, rfl, true, dT (by omega), iteF ?_⟩⟩
      refine ⟨_, rfl, _, rfl, _, rfl, _, rfl, a, _, rfl, SqL.of (s2 _ _ ha), fun q hq => ?_⟩
      rw [cut_take]
      refine ⟨q, _, rfl, .inl (SqL.of upd_same), rfl, ?_, false, ?_, iteF ⟨_, _, rfl, Same.upd s2 hq⟩⟩
      · rw [← List.map_take]; exact flat_ints
      · show V.bl (inV (.int (nd : Nat)) ((intL rem).take i)) = V.bl false
        rw [← List.map_take, inV_ints, decide_eq_false (nodup_take hrem.nd hx)]
    · rintro σ H1 ⟨u, v, rfl, s1⟩
      refine ⟨_, rfl, fun x dx nx ndx nex => ⟨H1, x, dx, n, rfl, same_made nx ndx, nx, upd_same, hn, fun H2 F2 => ⟨rfl, ?_⟩⟩⟩
      refine ⟨_, rfl, a, rfl, ⟨_, SqL.of (F2.sm _ _ (s1 _ _ ha))⟩, for_list (K := K) (a := a) (xs := intL rem) (fun i σ H' => ∃ u v, σ = [some (.ref CF), some (.int n), some (.ref a), u, v, some (.ref x)] ∧ LkF CL H1 H' x n (play (rem.take i))) ⟨_, _, rfl, F2⟩
        (fun i σ H' _ ⟨_, _, _, F⟩ => SqL.of (F.sm _ _ (s1 _ _ ha))) ?_ ?_⟩
      · rintro i z σ H' hi ⟨u, v, rfl, F⟩
        obtain ⟨nd, hx, rfl⟩ := map_at hi
        obtain ⟨dx2, l, r, o, R, _⟩ := F.ex
        refine ⟨_, rfl, x, dx2, _, rfl, R.ob, rfl, _, rfl, _, rfl, H1, x, n, _, nd, rfl, F, hrem.can hx, fun H3 F3 => ?_⟩
        rw [← play_succ hx] at F3
        exact ⟨_, _, rfl, F3⟩
      · rintro σ H3 ⟨u, v, rfl, F⟩
        rw [List.length_map, List.take_length] at F
        obtain ⟨c, hc⟩ := hrem.stand
        refine ⟨_, rfl, rfl, _, rfl, x, n, _, rfl, F.rd, Bnd.of hc, hn, fun H4 p s4 hp FR => ?_⟩
        exact k _ _ ((s1.trans F.sm).trans s4) ((s1.trans F.sm).free hp) FR
end
end LK
end

section
/-! LKWalk6 -/
set_option maxHeartbeats 4000000
namespace LK
open PySem PySem.Spec PyProof.Rows L2
/-! ### the text of a standing -/
def beg (W : Wd) (l : List Nat) (v : Nat) : Nat := l.countP fun x => decide (W.L x + 1 = (v : Int))
def fin (W : Wd) (l : List Nat) (v : Nat) : Nat := l.countP fun x => decide (W.R x - 1 = (v : Int))
def wordC (W : Wd) (n v : Nat) : List Nat := List.replicate (beg W (outsL W.O n) v) 40 ++ [if W.O v = true then 42 else 46] ++ List.replicate (fin W (outsL W.O n) v) 41
def textW (W : Wd) (n : Nat) : List Nat := (List.range' 1 n).flatMap (wordC W n)
def wordS (W : Wd) (n v : Nat) : Str := repS "(" (beg W (outsL W.O n) v) ++ (if W.O v = true then ("*" : Str) else (".":Str)) ++ repS ")" (fin W (outsL W.O n) v)
theorem rep_one (c k : Nat) : (List.replicate k [c]).flatten = List.replicate k c := rep1 k c
theorem wordS_cps (W : Wd) (n v : Nat) : (wordS W n v).cps.toList = wordC W n v := by
  show (((repS "(" _).cps ++ (if W.O v = true then ("*" : Str) else ".").cps) ++ (repS ")" _).cps).toList = _
  rw [Array.toList_append, Array.toList_append]
  have e1 : ∀ k, (repS "(" k).cps.toList = List.replicate k 40 := fun k => by
    show (List.replicate k [40]).flatten.toArray.toList = _
    rw [List.toList_toArray]
    exact rep_one 40 k
  have e2 : ∀ k, (repS ")" k).cps.toList = List.replicate k 41 := fun k => by
    show (List.replicate k [41]).flatten.toArray.toList = _
    rw [List.toList_toArray]
    exact rep_one 41 k
  rw [e1, e2]
  unfold wordC
  congr 2
  split <;> rfl
theorem join_nil : ∀ ys : List Str, (Str.join "" ys).cps.toList = ys.flatMap fun y => y.cps.toList
  | [] => rfl
  | [x] => by simp [Str.join]
  | x :: y :: r => by
    show ((x.cps ++ ("" : Str).cps) ++ (Str.join "" (y :: r)).cps).toList = _
    rw [Array.toList_append, Array.toList_append, join_nil (y :: r), List.flatMap_cons, show ("" : Str).cps.toList = [] from rfl, List.append_nil, List.flatMap_cons, List.flatMap_cons]
theorem outsL_len {O : Nat → Bool} {n : Nat} : (outsL O n).length ≤ n := by
  unfold outsL
  exact Nat.le_trans (List.length_filter_le _ _) (by rw [List.length_range']; exact Nat.le_refl _)
theorem beg_le {W : Wd} {n v : Nat} : beg W (outsL W.O n) v ≤ n := Nat.le_trans List.countP_le_length outsL_len
theorem fin_le {W : Wd} {n v : Nat} : fin W (outsL W.O n) v ≤ n := Nat.le_trans List.countP_le_length outsL_len
theorem wordS_len {W : Wd} {n v : Nat} (hn : n ≤ 60) : (wordS W n v).length ≤ 121 := by
  have e : (wordS W n v).length = (wordC W n v).length := by
    rw [← wordS_cps, Array.length_toList]; rfl
  rw [e]
  unfold wordC
  have h1 := beg_le (W := W) (n := n) (v := v)
  have h2 := fin_le (W := W) (n := n) (v := v)
  simp only [List.length_append, List.length_replicate, List.length_singleton]
  omega
theorem len_app (x y : Str) : (x ++ y).length = x.length + y.length := by
  show (x.cps ++ y.cps).size = _
  rw [Array.size_append]; rfl
theorem ite_tC {b : Bool} {v v' : V} {σ : L2.St} {H : Hp} {Q : VK} (h : tC (if b = true then v else v') σ H Q) : if b = true then tC v σ H Q else tC v' σ H Q := by
  split <;> rename_i e <;> simpa [e] using h
theorem sum_le_mul {l : List Nat} {b : Nat} (h : ∀ z ∈ l, z ≤ b) : l.sum ≤ l.length * b := by
  induction l with
  | nil => simp
  | cons x l ih =>
    rw [List.sum_cons, List.length_cons, Nat.add_mul]
    have := h x List.mem_cons_self
    have := ih fun z hz => h z (List.mem_cons_of_mem _ hz)
    omega
theorem count_succ {l : List Nat} {i x : Nat} (h : l[i]? = some x) (p : Nat → Bool) : (l.take (i + 1)).countP p = (l.take i).countP p + if p x = true then 1 else 0 := by
  rw [List.take_add_one, h, List.countP_append]
  simp [List.countP_cons]
section
variable {P : Program} {w : World} {K : PySem.W.Frag} {mg : Str → Option Value} {base : Heap} {CL CF : Addr}
def sp_Forest_str (CL CF : Addr) : Sp := fun vs H Q _ => ∃ (a : Addr) (n : Nat) (W : Wd), vs = [.ref a] ∧ FoR CL CF H a n W ∧ Bnd W n ∧ n ≤ 60 ∧ ∀ H' z, Same H H' → z.cps.toList = textW W n → Q (.str z) H'
theorem w_Forest_str (T : Tx mg) (TC : CFo K CF) (D : Md K CF "__str__" "Forest.__str__" s_Forest_str) (c_Links_outs : Met P w K mg base 1 CL "outs" (sp_Links_outs CL)) (c_Links_left : Met P w K mg base 1 CL "left" (sp_Links_left CL))
    (c_Links_right : Met P w K mg base 1 CL "right" (sp_Links_right CL)) (c_Forest_contains : Met P w K mg base 1 CF "__contains__" (sp_Forest_contains CL CF)) : Met P w K mg base 2 CF "__str__" (sp_Forest_str CL CF) := by
  refine met_of D sc_Forest_str bd_Forest_str (fun vs H Q E h => ?_) fun f cdv A outer s H vs Q E hr h => ?_
  · obtain ⟨a, n, W, rfl, _⟩ := h; rfl
  · obtain ⟨a, n, W, rfl, FR, B, hn, k⟩ := h
    refine ⟨_, (pss_cons
    (ps_set (i := 1) sc_Forest_str.nd rfl (Or.inl rfl) (pe_op op_rep (pe_lst (pa_cons pe_int pa_nil)) (pe_op op_add (pe_fld (pv 0) rfl) pe_int))) (pss_cons
    (ps_set (i := 2) sc_Forest_str.nd rfl (Or.inl rfl) (pe_op op_rep (pe_lst (pa_cons pe_int pa_nil)) (pe_op op_add (pe_fld (pv 0) rfl) pe_int))) (pss_cons
    (ps_for PassesOwn.never rfl (pi_list (pe_mt0 c_Links_outs hr (by decide) (pe_fld (pv 0) rfl))) (pg_name (i := 3) sc_Forest_str.nd rfl (Or.inl rfl)) (pss_cons
    (ps_set (i := 4) sc_Forest_str.nd rfl (Or.inl rfl) (pe_op op_add (pe_mt c_Links_left hr (by decide) (pe_fld (pv 0) rfl) (pa_cons (pv 3) pa_nil)) pe_int)) (pss_cons
    (ps_set (i := 5) sc_Forest_str.nd rfl (Or.inl rfl) (pe_op op_sub (pe_mt c_Links_right hr (by decide) (pe_fld (pv 0) rfl) (pa_cons (pv 3) pa_nil)) pe_int)) (pss_cons
    (ps_asg (pe_op op_add (pe_ix ix_list (pv 1) (pv 4) (fun _ _ => rfl)) pe_int) (pg_sub (pv 1) (pv 4) set_list)) (pss_one
    (ps_asg (pe_op op_add (pe_ix ix_list (pv 2) (pv 5) (fun _ _ => rfl)) pe_int) (pg_sub (pv 2) (pv 5) set_list))))))) (pss_cons
    (ps_set (i := 6) sc_Forest_str.nd rfl (Or.inl rfl) (pe_lst pa_nil)) (pss_cons
    (ps_for PassesOwn.never rfl (pi_range2 rfl T.range (pa_cons pe_int (pa_cons (pe_op op_add (pe_fld (pv 0) rfl) pe_int) pa_nil))) (pg_name (i := 3) sc_Forest_str.nd rfl (Or.inl rfl)) (pss_cons
    (ps_set (i := 7) sc_Forest_str.nd rfl (Or.inl rfl) (pe_ifExp (pt_cmpR (op_in_own c_Forest_contains hr (by decide)) (pv 3) (pv 0) (by rfl)) pe_str pe_str)) (pss_one
    (ps_expr (pe_bm PySem.F.plainAttrs_list PySem.F.slot_list_append PySem.F.type_list_append mt_append (pv 6) (pa_cons (pe_op op_add_str (pe_op op_add_str (pe_op op_mul_str pe_str (pe_ix ix_list (pv 1) (pv 3) (fun _ _ => rfl))) (pv 7)) (pe_op op_mul_str pe_str (pe_ix ix_list (pv 2) (pv 3) (fun _ _ => rfl)))) pa_nil)))))) (pss_one
    (ps_ret (pe_join pe_str (pv 6))))))))), ?_⟩
    obtain ⟨dx, lk, pp, prs, ob, ⟨dxl, ll, lr, lo, RO⟩, hp, hprs⟩ := id FR
    -- begins
    refine ⟨by show 1 ≤ sizeLine; decide, fun q hq => ?_⟩
    have sq : Same H (L2.upd H q (.lst [V.int 0])) := Same.new hq
    refine ⟨_, rfl, a, CF, dx, _, _, rfl, sq _ _ ob, TC.cl, TC.size, rfl, _, _, rfl, rfl, q, _, _, rfl, rfl, upd_same, by omega, by omega, sizeLine_ge (by show 1 * _ ≤ _; omega), fun b hb => ?_⟩
    obtain ⟨hb0, _⟩ := upd_none hb
    rw [rep_tabI (N := n + 2) (by omega)]
    obtain ⟨H1, e1, s1, h1⟩ : ∃ H1, L2.upd (L2.upd H q (.lst [V.int 0])) b (.lst (tabI (n + 2) fun _ => 0)) = H1 ∧ Same H H1 ∧ H1 b = some (.lst (tabI (n + 2) fun _ => 0)) := ⟨_, rfl, Same.write sq hb0, upd_same⟩
    show tSeq _ _ _ _ (L2.upd (L2.upd H q (.lst [V.int 0])) b (.lst (tabI (n + 2) fun _ => 0)))
    rw [e1]
    -- ends
    refine ⟨by show 1 ≤ sizeLine; decide, fun q2 hq2 => ?_⟩
    have sq2 : Same H1 (L2.upd H1 q2 (.lst [V.int 0])) := Same.new hq2
    refine ⟨_, rfl, a, CF, dx, _, _, rfl, sq2 _ _ (s1 _ _ ob), TC.cl, TC.size, rfl, _, _, rfl, rfl, q2, _, _, rfl, rfl, upd_same, by omega, by omega, sizeLine_ge (by show 1 * _ ≤ _; omega), fun e he => ?_⟩
    obtain ⟨he1, _⟩ := upd_none he
    rw [rep_tabI (N := n + 2) (by omega)]
    obtain ⟨H2, e2, s2, h2⟩ : ∃ H2, L2.upd (L2.upd H1 q2 (.lst [V.int 0])) e (.lst (tabI (n + 2) fun _ => 0)) = H2 ∧ Same H1 H2 ∧ H2 e = some (.lst (tabI (n + 2) fun _ => 0)) := ⟨_, rfl, Same.write sq2 he1, upd_same⟩
    show tSeq _ _ _ _ (L2.upd (L2.upd H1 q2 (.lst [V.int 0])) e (.lst (tabI (n + 2) fun _ => 0)))
    rw [e2]
    have hb2 := s2 _ _ h1
    have s02 := s1.trans s2
    have nbe : b ≠ e := ne_of_none h1 he1
    have he0 : H e = none := s1.free he1
    -- the nodes that are out
    refine ⟨_, rfl, a, CF, dx, _, _, rfl, s02 _ _ ob, TC.cl, TC.links, rfl, lk, dxl, _, rfl, s02 _ _ RO.ob, rfl, lk, n, W, rfl, ⟨dxl, ll, lr, lo, RO.same s02⟩, hn, fun H3 d s3 hd hd3 => ⟨d, rfl, ⟨_, SqL.of hd3⟩, ?_⟩⟩
    have ndb : d ≠ b := (ne_of_none hb2 hd).symm
    have nde : d ≠ e := (ne_of_none h2 hd).symm
    refine for_list (K := K) (a := d) (xs := intL (outsL W.O n)) (fun i σ H' => ∃ bf ef v3 v4 v5, σ = [some (.ref a), some (.ref b), some (.ref e), v3, v4, v5, none, none] ∧ Same H H' ∧ H' d = some (.lst (intL (outsL W.O n))) ∧ H' b = some (.lst (tabI (n + 2) bf)) ∧ H' e = some (.lst (tabI (n + 2) ef)) ∧
        (∀ j, bf j = ((beg W ((outsL W.O n).take i) j : Nat) : Int)) ∧ ∀ j, ef j = ((fin W ((outsL W.O n).take i) j : Nat) : Int))
      ⟨_, _, _, _, _, rfl, s02.trans s3, hd3, s3 _ _ hb2, s3 _ _ h2, fun _ => rfl, fun _ => rfl⟩ (fun i σ H' _ ⟨_, _, _, _, _, _, _, h, _⟩ => SqL.of h) ?_ ?_
    · rintro i z σ H' hi ⟨bf, ef, v3, v4, v5, rfl, s4, hd4, hb4, he4, hbf, hef⟩
      obtain ⟨x, hx, rfl⟩ := map_at hi
      obtain ⟨m1, m2, m3⟩ := mem_outsL.mp (List.mem_of_getElem? hx)
      obtain ⟨aa, eL, la⟩ := B.l x m1 (by omega)
      obtain ⟨bb, eR, lb, lbn⟩ := B.r x m2
      have LR : LkR CL H' lk n W := ⟨dxl, ll, lr, lo, RO.same s4⟩
      refine ⟨_, rfl, a, CF, dx, _, _, rfl, s4 _ _ ob, TC.cl, TC.links, rfl, lk, dxl, _, rfl, s4 _ _ RO.ob, rfl, _, rfl, lk, n, W, x, rfl, LR, m1, by omega, _, _, rfl, rfl, ?_⟩
      refine ⟨_, rfl, a, CF, dx, _, _, rfl, s4 _ _ ob, TC.cl, TC.links, rfl, lk, dxl, _, rfl, s4 _ _ RO.ob, rfl, _, rfl, lk, n, W, x, rfl, LR, m2, _, _, rfl, rfl, ?_⟩
      rw [eL, eR]
      refine ⟨_, rfl, _, rfl, b, _, _, _, rfl, rfl, SqL.of hb4, tabI_at (i := aa + 1) (by omega) (by omega), _, _, rfl, rfl, ?_⟩
      refine ⟨_, rfl, _, rfl, b, _, _, aa + 1, rfl, rfl, hb4, ixN_nat (by omega) (by rw [tabI_len]; omega), ?_⟩
      rw [tabI_set]
      refine ⟨_, rfl, _, rfl, e, _, _, _, rfl, rfl, SqL.of (by rw [upd_ne nbe.symm]; exact he4), tabI_at (i := bb - 1) (by omega) (by omega), _, _, rfl, rfl, ?_⟩
      refine ⟨_, rfl, _, rfl, e, _, _, bb - 1, rfl, rfl, by rw [upd_ne nbe.symm]; exact he4, ixN_nat (by omega) (by rw [tabI_len]; omega), ?_⟩
      rw [tabI_set]
      refine ⟨_, _, _, _, _, rfl, Same.write (Same.write s4 hb0) he0, by rw [upd_ne nde, upd_ne ndb]; exact hd4, by rw [upd_ne nbe]; exact upd_same, upd_same, fun j => ?_, fun j => ?_⟩
      · unfold beg
        rw [count_succ hx, eL]
        have hbj := hbf j
        unfold beg at hbj
        by_cases ej : j = aa + 1
        · subst ej
          rw [put_same, hbj, if_pos (decide_eq_true (by omega))]; omega
        · rw [put_ne ej, hbj, if_neg (by rw [decide_eq_true_iff]; omega)]; omega
      · unfold fin
        rw [count_succ hx, eR]
        have hej := hef j
        unfold fin at hej
        by_cases ej : j = bb - 1
        · subst ej
          rw [put_same, hej, if_pos (decide_eq_true (by omega))]; omega
        · rw [put_ne ej, hej, if_neg (by rw [decide_eq_true_iff]; omega)]; omega
    · rintro σ H4 ⟨bf, ef, v3, v4, v5, rfl, s4, hd4, hb4, he4, hbf, hef⟩
      rw [List.length_map, List.take_length] at hbf hef
      -- the words
      refine ⟨by show 0 ≤ sizeLine; decide, fun wd hwd => ?_⟩
      have s5 : Same H4 (L2.upd H4 wd (.lst [])) := Same.new hwd
      have hw0 : H wd = none := s4.free hwd
      refine ⟨_, rfl, a, CF, dx, _, _, rfl, s5 _ _ (s4 _ _ ob), TC.cl, TC.size, rfl, _, _, rfl, rfl, _, _, rfl, ⟨by omega, by omega, by omega, by omega⟩, ?_⟩
      rw [show ((n : Int) + 1 - 1).toNat = n by omega]
      refine for_range (lo := 1) (n := n) (fun i σ H' => ∃ v3 v4 v5 v7, σ = [some (.ref a), some (.ref b), some (.ref e), v3, v4, v5, some (.ref wd), v7] ∧ Same H4 H' ∧ H' wd = some (.lst (((List.range' 1 i).map (wordS W n)).map V.str)))
        ⟨_, _, _, _, rfl, s5, upd_same⟩ ?_ ?_
      · rintro i σ H' hi ⟨v3, v4, v5, v7, rfl, s6, hw⟩
        have FR' := FR.same (s4.trans s6)
        refine ⟨_, rfl, _, rfl, a, dx, _, rfl, s6 _ _ (s4 _ _ ob), a, n, W, i + 1, by rw [show (1 : Int) + i = ((i + 1 : Nat) : Int) by omega], FR', by omega, by omega, _, rfl, _, rfl, ?_⟩
        refine ite_tC ?_
        have es : (if W.O (i + 1) = true then V.str "*" else V.str ".") = V.str (if W.O (i + 1) = true then ("*" : Str) else (".":Str)) := by split <;> rfl
        rw [es]
        have lsg : (if W.O (i + 1) = true then ("*" : Str) else (".":Str)).length = 1 := by split <;> rfl
        have hb6 := s6 _ _ hb4
        have he6 := s6 _ _ he4
        have l1 := beg_le (W := W) (n := n) (v := i + 1)
        have l2 := fin_le (W := W) (n := n) (v := i + 1)
        have lw := wordS_len (W := W) (n := n) (v := i + 1) hn
        unfold wordS at lw
        rw [len_app, len_app] at lw
        refine ⟨_, rfl, .inl ⟨rfl, _, SqL.of hw⟩, ?_⟩
        refine ⟨_, rfl, _, rfl, b, _, _, _, rfl, rfl, SqL.of hb6, tabI_at (i := i + 1) (by omega) (by omega), ?_⟩
        rw [hbf]
        refine ⟨_, _, rfl, rfl, by decide, by omega, by decide, _, rfl, _, _, rfl, rfl, sizeLine_ge (by omega), ?_⟩
        refine ⟨_, rfl, _, rfl, e, _, _, _, rfl, rfl, SqL.of he6, tabI_at (i := i + 1) (by omega) (by omega), ?_⟩
        rw [hef]
        refine ⟨_, _, rfl, rfl, by decide, by omega, by decide, _, _, rfl, rfl, sizeLine_ge (by rw [len_app]; omega), ?_⟩
        refine ⟨wd, _, _, rfl, rfl, hw, sizeLine_gt (by simp; omega), ?_⟩
        refine ⟨_, _, _, _, rfl, Same.write s6 hwd, ?_⟩
        rw [upd_same, List.range'_1_concat, List.map_append, List.map_append, show 1 + i = i + 1 by omega]
        rfl
      · rintro σ H' ⟨v3, v4, v5, v7, rfl, s6, hw⟩
        refine ⟨⟨_, rfl⟩, _, rfl, _, wd, _, rfl, rfl, .inl (SqL.of hw), ?_, k _ _ (s4.trans s6) ?_⟩
        · have hs := sum_le_mul (l := ((List.range' 1 n).map (wordS W n)).map (·.length)) (b := 121) fun z hz => by
            obtain ⟨y, hy, rfl⟩ := List.mem_map.mp hz
            obtain ⟨x, _, rfl⟩ := List.mem_map.mp hy
            exact wordS_len hn
          simp only [List.length_map, List.length_range'] at hs ⊢
          have : ("" : Str).length = 0 := rfl
          rw [this]; omega
        · rw [TL.join_eq, join_nil]
          unfold textW
          rw [List.flatMap_map]
          exact flatMap_congr' fun x _ => wordS_cps W n x
end
end LK
end

section
/-! LKWalk7 -/
set_option maxHeartbeats 2000000
namespace LK
open PySem PySem.Spec PyProof.Rows L2
section
variable {P : Program} {w : World} {K : PySem.W.Frag} {mg : Str → Option Value} {base : Heap}
theorem w_check_facts (T : Tx mg) (D : Dn K mg "check_facts" s_check_facts) (c_check_size : Cal P w K mg base 1 "check_size" sp_check_size) (c_fact_is_right : Cal P w K mg base 1 "fact_is_right" sp_fact_is_right) : Cal P w K mg base 2 "check_facts" sp_check_facts := by
  refine cal_of D sc_check_facts bd_check_facts (fun vs H Q E h => ?_) fun f cdv A outer s H vs Q E hr h => ?_
  · obtain ⟨n, a, fs, rfl, _⟩ := h; rfl
  · obtain ⟨n, a, fs, rfl, ⟨ts, ha, hp⟩, hn, hok, k⟩ := h
    refine ⟨_, (pss_cons
    (ps_expr (pe_c c_check_size hr (by decide) rfl (pa_cons (pv 0) pa_nil))) (pss_one
    (ps_for PassesOwn.never rfl (pi_enum (by rfl) T.enumerate (pa_cons (pv 1) pa_nil)) (pg_tup rfl (pgs_cons (pg_name (i := 2) sc_check_facts.nd rfl (Or.inl rfl)) (pgs_cons (pg_name (i := 3) sc_check_facts.nd rfl (Or.inl rfl)) pgs_nil))) (pss_one
    (ps_if (pt_not (pt_val (pe_c c_fact_is_right hr (by decide) rfl (pa_cons (pv 0) (pa_cons (pv 3) pa_nil))))) (pss_one
    ps_never) pss_nil))))), ?_⟩
    refine ⟨_, rfl, n, rfl, by omega, by omega, ?_⟩
    refine ⟨_, rfl, a, _, rfl, SqL.of ha, for_it (walk_enum (xs := ts.map V.ref)) (fun i σ H' => ∃ u v, σ = [some (.int n), some (.ref a), u, v] ∧ Same H H') ⟨_, _, rfl, Same.refl H⟩ (fun i σ H' _ ⟨_, _, _, s1⟩ => SqL.of (s1 _ _ ha)) ?_ ?_⟩
    · rintro i x σ H' H'' hi ⟨u, v, rfl, s1⟩ ⟨t, y, z, rfl, ht, rfl, ey, ez⟩
      obtain rfl := Option.some.inj ey
      obtain ⟨q, hx, rfl⟩ := map_at ez
      obtain ⟨f, hf, hq⟩ := Paired.at_ hp hx
      have s2 : Same H (L2.upd H' t (.tup [.int (i : Nat), .ref q])) := Same.upd s1 ht
      refine ⟨t, _, rfl, SqT.of upd_same, rfl, _, _, rfl, _, _, rfl, rfl, ?_⟩
      refine ⟨_, rfl, _, rfl, n, q, f, rfl, s2 _ _ hq, hok f (List.mem_of_getElem? hf), fun H3 s3 => ⟨true, rfl, iteF ⟨_, _, rfl, s2.trans s3⟩⟩⟩
    · rintro σ H1 ⟨u, v, rfl, s1⟩
      exact k _ s1
end
end LK
end

section
/-! LKWalk8 -/
set_option maxHeartbeats 2000000
namespace LK
open PySem PySem.Spec PyProof.Rows L2

/-! ### what a list of facts says -/
def fI (x : Nat) : Ft → Bool | .inn y => decide (y = x) | _ => false
def fO (x : Nat) : Ft → Bool | .out y => decide (y = x) | _ => false
def fL (x l : Nat) : Ft → Bool | .lf y m => !decide (y = x) || decide (m = l) | _ => true
def fR (x r : Nat) : Ft → Bool | .rt y m => !decide (y = x) || decide (m = r) | _ => true
theorem okR_eq (x a b : Nat) : ∀ fs : List Ft, okR fs x a b = (!(fs.any (fI x)) && (fs.all (fL x a) && fs.all (fR x b)))
  | [] => rfl
  | f :: fs => by
    have ih := okR_eq x a b fs
    unfold okR at ih ⊢
    rw [List.all_cons, List.any_cons, List.all_cons, List.all_cons, ih]
    cases f <;> simp only [okRt, fI, fL, fR] <;> simp <;> grind
theorem okN_eq (a b : Nat) : ∀ fs : List Ft, okN fs a b = (!(fs.any (fO b)) && (fs.all (fR a b) && fs.all (fL b a)))
  | [] => rfl
  | f :: fs => by
    have ih := okN_eq a b fs
    unfold okN at ih ⊢
    rw [List.all_cons, List.any_cons, List.all_cons, List.all_cons, ih]
    cases f <;> simp only [okNb, fO, fL, fR] <;> simp <;> grind
/-! ### dicts of links, dicts of marks -/
abbrev KVs := List (Key × V)
abbrev kI (x : Nat) : Key := .inl (x : Int)
def GdK (kvs : KVs) (P : Nat → Nat → Bool) : Prop := ∀ x l : Nat, ∃ z : Int, (valV kvs (kI x)).getD (.int (l : Int)) = .int z ∧ decide (z = (l : Int)) = P x l
def BdK (kvs : KVs) (P : Nat → Bool) : Prop := ∀ x : Nat, (valV kvs (kI x)).isSome = P x
theorem kI_ne {x y : Nat} (h : y ≠ x) : kI y ≠ kI x := fun e => h (by injection e with e; omega)
theorem GdK.put {kvs : KVs} {P P' : Nat → Nat → Bool} {x : Nat} {v : Int} (h : GdK kvs P) (e : ∀ y m, P' y m = if y = x then decide (v = (m : Int)) else P y m) : GdK (putK kvs (kI x) (.int v)) P' := by
  intro y m
  rw [valV_put, e]
  by_cases q : y = x
  · subst q; rw [if_pos rfl, if_pos rfl]; exact ⟨v, rfl, rfl⟩
  · rw [if_neg (kI_ne q), if_neg q]; exact h y m
theorem BdK.put {kvs : KVs} {P P' : Nat → Bool} {x : Nat} {v : V} (h : BdK kvs P) (e : ∀ y, P' y = if y = x then true else P y) : BdK (putK kvs (kI x) v) P' := by
  intro y
  rw [valV_put, e]
  by_cases q : y = x
  · subst q; rw [if_pos rfl, if_pos rfl]; rfl
  · rw [if_neg (kI_ne q), if_neg q]; exact h y
/-- a link more -/
def andAt (P : Nat → Nat → Bool) (x l : Nat) : Nat → Nat → Bool := fun y m => P y m && (!decide (y = x) || decide (l = m))
section
variable {P : Program} {w : World} {K : PySem.W.Frag} {mg : Str → Option Value} {base : Heap} {CK : Addr}
def sp_note_link : Sp := fun vs H Q _ => ∃ (d : Addr) (x l : Nat) (kvs : KVs) (G : Nat → Nat → Bool), vs = [.ref d, .int x, .int l] ∧ H d = some (.dK kvs) ∧ kvs.length ≤ 1000 ∧ GdK kvs G ∧
  ∀ kvs', kvs'.length ≤ kvs.length + 1 → GdK kvs' (andAt G x l) → Q .non (L2.upd H d (.dK kvs'))
theorem w_note_link (D : Dn K mg "note_link" s_note_link) : Cal P w K mg base 1 "note_link" sp_note_link := by
  refine cal_of D sc_note_link bd_note_link (fun vs H Q E h => ?_) fun f cdv A outer s H vs Q E hr h => ?_
  · obtain ⟨d, x, l, kvs, G, rfl, _⟩ := h; rfl
  · obtain ⟨d, x, l, kvs, G, rfl, hd, hl, g, k⟩ := h
    have hu := hu_of hr
    refine ⟨_, (pss_one
    (ps_if (pt_cmpR op_eq (pe_dget2 hu (pv 0) (pv 1) (pv 2) ⟨rfl, rfl, rfl, rfl⟩) (pv 2) (nomark _)) (pss_one
    (ps_dput hu (pv 0) (pv 1) (pv 2) rfl)) (pss_one
    (ps_dput hu (pv 0) (pv 1) (pe_un un_neg pe_int) rfl)))), ?_⟩
    obtain ⟨z, ez, eg⟩ := g x l
    refine ⟨_, rfl, d, rfl, .inl ⟨kvs, .inl hd⟩, _, rfl, _, rfl, _, DGet.k (k := kI x) hd, _, rfl, ?_⟩
    rw [ez]
    refine ⟨rfl, ?_⟩
    have ed : decide (V.int z = V.int (l : Int)) = G x l := by
      rw [← eg, Bool.eq_iff_iff, decide_eq_true_iff, decide_eq_true_iff]
      exact ⟨fun e => by injection e, fun e => by rw [e]⟩
    rw [ed]
    cases e : G x l with
    | true =>
      refine ⟨_, rfl, iteT ⟨_, rfl, _, rfl, _, rfl, d, _, rfl, DPut.k (k := kI x) hd (small1000 hl), k _ (length_putK _ _ _) (g.put fun y m => ?_)⟩⟩
      unfold andAt
      by_cases q : y = x
      · subst q; rw [if_pos rfl, decide_eq_true (rfl : y = y), Bool.not_true, Bool.false_or]
        by_cases q2 : l = m
        · subst q2; rw [e]; simp
        · rw [decide_eq_false q2, decide_eq_false (by omega)]; simp
      · rw [if_neg q, decide_eq_false q]; simp
    | false =>
      refine ⟨_, rfl, iteF ⟨_, rfl, _, rfl, _, rfl, d, _, rfl, DPut.k (k := kI x) hd (small1000 hl), k _ (length_putK _ _ _) (g.put fun y m => ?_)⟩⟩
      unfold andAt
      by_cases q : y = x
      · subst q; rw [if_pos rfl, decide_eq_true (rfl : y = y), Bool.not_true, Bool.false_or, decide_eq_false (show ¬ ((-1 : Int) = (m : Int)) by omega)]
        by_cases q2 : l = m
        · subst q2; rw [e]; simp
        · rw [decide_eq_false q2]; simp
      · rw [if_neg q, decide_eq_false q]; simp

/-! ### Known objects -/
structure CKn (K : PySem.W.Frag) (C : Addr) : Prop where
  cl : Cls K C
  mi : NoAttr K C "must_be_in"
  mo : NoAttr K C "must_be_out"
  gl : NoAttr K C "given_lefts"
  gr : NoAttr K C "given_rights"
def knF (mi mo gl gr : Addr) : List (Str × V) := [("must_be_in", .ref mi), ("must_be_out", .ref mo), ("given_lefts", .ref gl), ("given_rights", .ref gr)]
structure KnO (C : Addr) (H : Hp) (a dx mi mo gl gr : Addr) (ki ko kl kr : KVs) : Prop where
  ob : H a = some (.ins C dx (knF mi mo gl gr))
  hi : H mi = some (.dK ki)
  ho : H mo = some (.dK ko)
  hl : H gl = some (.dK kl)
  hr : H gr = some (.dK kr)
structure KnS (fs : List Ft) (ki ko kl kr : KVs) : Prop where
  i : BdK ki fun x => fs.any (fI x)
  o : BdK ko fun x => fs.any (fO x)
  l : GdK kl fun x m => fs.all (fL x m)
  r : GdK kr fun x m => fs.all (fR x m)
  n : ki.length ≤ fs.length ∧ ko.length ≤ fs.length ∧ kl.length ≤ fs.length ∧ kr.length ≤ fs.length
def KnR (C : Addr) (H : Hp) (a : Addr) (fs : List Ft) : Prop := ∃ dx mi mo gl gr ki ko kl kr, KnO C H a dx mi mo gl gr ki ko kl kr ∧ KnS fs ki ko kl kr
theorem KnR.same {C : Addr} {H H' : Hp} {a : Addr} {fs : List Ft} (e : Same H H') (h : KnR C H a fs) : KnR C H' a fs := by
  obtain ⟨dx, mi, mo, gl, gr, ki, ko, kl, kr, o, s⟩ := h
  exact ⟨dx, mi, mo, gl, gr, ki, ko, kl, kr, ⟨e _ _ o.ob, e _ _ o.hi, e _ _ o.ho, e _ _ o.hl, e _ _ o.hr⟩, s⟩
theorem any_snoc {α : Type} {p : α → Bool} {l : List α} {x : α} : (l ++ [x]).any p = (l.any p || p x) := by simp
theorem all_snoc {α : Type} {p : α → Bool} {l : List α} {x : α} : (l ++ [x]).all p = (l.all p && p x) := by simp
theorem KnS.nil : KnS [] [] [] [] [] := ⟨fun x => rfl, fun x => rfl, fun x l => ⟨_, rfl, decide_eq_true rfl⟩, fun x l => ⟨_, rfl, decide_eq_true rfl⟩, by simp⟩
theorem BdK.congr {kvs : KVs} {G G' : Nat → Bool} (h : BdK kvs G) (e : ∀ x, G' x = G x) : BdK kvs G' := fun x => by rw [e]; exact h x
theorem GdK.congr {kvs : KVs} {G G' : Nat → Nat → Bool} (h : GdK kvs G) (e : ∀ x m, G' x m = G x m) : GdK kvs G' := fun x m => by rw [e]; exact h x m
section
variable {fs : List Ft} {ki ko kl kr : KVs} {x : Nat}
theorem KnS.inn {v : V} (h : KnS fs ki ko kl kr) : KnS (fs ++ [.inn x]) (putK ki (kI x) v) ko kl kr := by
  refine ⟨h.i.put fun y => ?_, h.o.congr fun y => ?_, h.l.congr fun y m => ?_, h.r.congr fun y m => ?_, ?_⟩
  · rw [any_snoc]
    by_cases q : y = x
    · rw [if_pos q]; simp [fI, q]
    · rw [if_neg q]; simp [fI]; exact fun e => absurd e.symm q
  · rw [any_snoc]; simp [fO]
  · rw [all_snoc]; simp [fL]
  · rw [all_snoc]; simp [fR]
  · have := length_putK ki (kI x) v
    have := h.n
    simp only [List.length_append, List.length_singleton]; omega
theorem KnS.out {v : V} (h : KnS fs ki ko kl kr) : KnS (fs ++ [.out x]) ki (putK ko (kI x) v) kl kr := by
  refine ⟨h.i.congr fun y => ?_, h.o.put fun y => ?_, h.l.congr fun y m => ?_, h.r.congr fun y m => ?_, ?_⟩
  · rw [any_snoc]; simp [fI]
  · rw [any_snoc]
    by_cases q : y = x
    · rw [if_pos q]; simp [fO, q]
    · rw [if_neg q]; simp [fO]; exact fun e => absurd e.symm q
  · rw [all_snoc]; simp [fL]
  · rw [all_snoc]; simp [fR]
  · have := length_putK ko (kI x) v
    have := h.n
    simp only [List.length_append, List.length_singleton]; omega
theorem KnS.lf {l : Nat} {kl' : KVs} (h : KnS fs ki ko kl kr) (n : kl'.length ≤ kl.length + 1) (g : GdK kl' (andAt (fun x m => fs.all (fL x m)) x l)) : KnS (fs ++ [.lf x l]) ki ko kl' kr := by
  refine ⟨h.i.congr fun y => ?_, h.o.congr fun y => ?_, g.congr fun y m => ?_, h.r.congr fun y m => ?_, ?_⟩
  · rw [any_snoc]; simp [fI]
  · rw [any_snoc]; simp [fO]
  · rw [all_snoc]; unfold andAt; simp only [fL]
    congr 2
    rw [Bool.eq_iff_iff]; simp; omega
  · rw [all_snoc]; simp [fR]
  · have := h.n
    simp only [List.length_append, List.length_singleton]; omega
theorem KnS.rt {l : Nat} {kr' : KVs} (h : KnS fs ki ko kl kr) (n : kr'.length ≤ kr.length + 1) (g : GdK kr' (andAt (fun x m => fs.all (fR x m)) x l)) : KnS (fs ++ [.rt x l]) ki ko kl kr' := by
  refine ⟨h.i.congr fun y => ?_, h.o.congr fun y => ?_, h.l.congr fun y m => ?_, g.congr fun y m => ?_, ?_⟩
  · rw [any_snoc]; simp [fI]
  · rw [any_snoc]; simp [fO]
  · rw [all_snoc]; simp [fL]
  · rw [all_snoc]; unfold andAt; simp only [fR]
    congr 2
    rw [Bool.eq_iff_iff]; simp; omega
  · have := h.n
    simp only [List.length_append, List.length_singleton]; omega
end
def sp_Known_init (C : Addr) : Sp := fun vs H Q _ => ∃ (H0 : Hp) (p dx a : Addr) (fs : List Ft), vs = [.ref p, .ref a] ∧ Same H0 H ∧ H0 p = none ∧ H p = some (.ins C dx []) ∧ FL H0 a fs ∧ fs.length ≤ 1000 ∧ ∀ H', Same H0 H' → KnR C H' p fs → Q .non H'
theorem w_Known_init (TC : CKn K CK) (D : Id K mg "Known" CK "Known.__init__" s_Known_init) (c_note_link : Cal P w K mg base 1 "note_link" sp_note_link) : Mak P w K mg base 2 "Known" CK (sp_Known_init CK) := by
  refine mak_of D sc_Known_init bd_Known_init (fun vs H Q E h => ?_) fun f cdv A outer s H vs Q E hr h => ?_
  · obtain ⟨H0, p, dx, a, fs, rfl, _⟩ := h; rfl
  · obtain ⟨H0, p, dx, a, fs, rfl, s0, p0, hp, ⟨ts, ha, pa⟩, hn, k⟩ := h
    have hu := hu_of hr
    refine ⟨_, (pss_cons
    (ps_fld (pv 0) pe_dnewK rfl) (pss_cons
    (ps_fld (pv 0) pe_dnewK rfl) (pss_cons
    (ps_fld (pv 0) pe_dnewK rfl) (pss_cons
    (ps_fld (pv 0) pe_dnewK rfl) (pss_one
    (ps_for PassesOwn.never rfl (pi_list (pv 1)) (pg_name (i := 2) sc_Known_init.nd rfl (Or.inl rfl)) (pss_cons
    (ps_set (i := 3) sc_Known_init.nd rfl (Or.inl rfl) (pe_ix ix_tup (pv 2) pe_int (fun _ _ => rfl))) (pss_one
    (ps_if (pt_cmpR op_eq (pv 3) pe_str (nomark _)) (pss_one
    (ps_dput hu (pe_fld (pv 0) rfl) (pe_ix ix_tup (pv 2) pe_int (fun _ _ => rfl)) pe_bl rfl)) (pss_one
    (ps_if (pt_cmpR op_eq (pv 3) pe_str (nomark _)) (pss_one
    (ps_dput hu (pe_fld (pv 0) rfl) (pe_ix ix_tup (pv 2) pe_int (fun _ _ => rfl)) pe_bl rfl)) (pss_one
    (ps_if (pt_cmpR op_eq (pv 3) pe_str (nomark _)) (pss_one
    (ps_expr (pe_c c_note_link hr (by decide) rfl (pa_cons (pe_fld (pv 0) rfl) (pa_cons (pe_ix ix_tup (pv 2) pe_int (fun _ _ => rfl)) (pa_cons (pe_ix ix_tup (pv 2) pe_int (fun _ _ => rfl)) pa_nil)))))) (pss_one
    (ps_expr (pe_c c_note_link hr (by decide) rfl (pa_cons (pe_fld (pv 0) rfl) (pa_cons (pe_ix ix_tup (pv 2) pe_int (fun _ _ => rfl)) (pa_cons (pe_ix ix_tup (pv 2) pe_int (fun _ _ => rfl)) pa_nil))))))))))))))))))), ?_⟩
    -- the four dicts
    intro mi hmi
    have npi := (upd_none (p := mi) (H := H) (o := .dK []) (b := p))
    have pi : p ≠ mi := ne_of_none hp hmi
    refine ⟨_, rfl, p, CK, dx, _, rfl, by rw [upd_ne pi]; exact hp, TC.cl, TC.mi, (by show 0 < 1000; decide), ?_⟩
    obtain ⟨H1, e1, s1, h1, hi1⟩ : ∃ H1, L2.upd (L2.upd H mi (.dK [])) p (.ins CK dx [("must_be_in", .ref mi)]) = H1 ∧ Same H0 H1 ∧ H1 p = some (.ins CK dx [("must_be_in", .ref mi)]) ∧ H1 mi = some (.dK []) :=
      ⟨_, rfl, Same.write (Same.write s0 (s0.free hmi)) p0, upd_same, by rw [upd_ne pi.symm]; exact upd_same⟩
    show tSeq _ _ _ _ (L2.upd (L2.upd H mi (.dK [])) p (.ins CK dx [("must_be_in", .ref mi)]))
    rw [e1]
    intro mo hmo
    have po : p ≠ mo := ne_of_none h1 hmo
    have io : mi ≠ mo := ne_of_none hi1 hmo
    refine ⟨_, rfl, p, CK, dx, _, rfl, by rw [upd_ne po]; exact h1, TC.cl, TC.mo, (by show 1 < 1000; decide), ?_⟩
    obtain ⟨H2, e2, s2, h2, hi2, ho2⟩ : ∃ H2, L2.upd (L2.upd H1 mo (.dK [])) p (.ins CK dx [("must_be_in", .ref mi), ("must_be_out", .ref mo)]) = H2 ∧ Same H0 H2 ∧ H2 p = some (.ins CK dx [("must_be_in", .ref mi), ("must_be_out", .ref mo)]) ∧ H2 mi = some (.dK []) ∧ H2 mo = some (.dK []) :=
      ⟨_, rfl, Same.write (Same.write s1 (s1.free hmo)) p0, upd_same, by rw [upd_ne pi.symm, upd_ne io]; exact hi1, by rw [upd_ne po.symm]; exact upd_same⟩
    show tSeq _ _ _ _ (L2.upd (L2.upd H1 mo (.dK [])) p (.ins CK dx [("must_be_in", .ref mi), ("must_be_out", .ref mo)]))
    rw [e2]
    intro gl hgl
    have pl : p ≠ gl := ne_of_none h2 hgl
    have il : mi ≠ gl := ne_of_none hi2 hgl
    have ol : mo ≠ gl := ne_of_none ho2 hgl
    refine ⟨_, rfl, p, CK, dx, _, rfl, by rw [upd_ne pl]; exact h2, TC.cl, TC.gl, (by show 2 < 1000; decide), ?_⟩
    obtain ⟨H3, e3, s3, h3, hi3, ho3, hl3⟩ : ∃ H3, L2.upd (L2.upd H2 gl (.dK [])) p (.ins CK dx [("must_be_in", .ref mi), ("must_be_out", .ref mo), ("given_lefts", .ref gl)]) = H3 ∧ Same H0 H3 ∧ H3 p = some (.ins CK dx [("must_be_in", .ref mi), ("must_be_out", .ref mo), ("given_lefts", .ref gl)]) ∧ H3 mi = some (.dK []) ∧ H3 mo = some (.dK []) ∧ H3 gl = some (.dK []) :=
      ⟨_, rfl, Same.write (Same.write s2 (s2.free hgl)) p0, upd_same, by rw [upd_ne pi.symm, upd_ne il]; exact hi2, by rw [upd_ne po.symm, upd_ne ol]; exact ho2, by rw [upd_ne pl.symm]; exact upd_same⟩
    show tSeq _ _ _ _ (L2.upd (L2.upd H2 gl (.dK [])) p (.ins CK dx [("must_be_in", .ref mi), ("must_be_out", .ref mo), ("given_lefts", .ref gl)]))
    rw [e3]
    intro gr hgr
    have pr : p ≠ gr := ne_of_none h3 hgr
    have ir : mi ≠ gr := ne_of_none hi3 hgr
    have or' : mo ≠ gr := ne_of_none ho3 hgr
    have lr : gl ≠ gr := ne_of_none hl3 hgr
    refine ⟨_, rfl, p, CK, dx, _, rfl, by rw [upd_ne pr]; exact h3, TC.cl, TC.gr, (by show 3 < 1000; decide), ?_⟩
    obtain ⟨H4, e4, s4, O4⟩ : ∃ H4, L2.upd (L2.upd H3 gr (.dK [])) p (.ins CK dx (knF mi mo gl gr)) = H4 ∧ Same H0 H4 ∧ KnO CK H4 p dx mi mo gl gr [] [] [] [] :=
      ⟨_, rfl, Same.write (Same.write s3 (s3.free hgr)) p0, upd_same, by rw [upd_ne pi.symm, upd_ne ir]; exact hi3, by rw [upd_ne po.symm, upd_ne or']; exact ho3, by rw [upd_ne pl.symm, upd_ne lr]; exact hl3, by rw [upd_ne pr.symm]; exact upd_same⟩
    dsimp only
    rw [show putF "given_rights" (V.ref gr) [("must_be_in", V.ref mi), ("must_be_out", V.ref mo), ("given_lefts", V.ref gl)] = knF mi mo gl gr from rfl, e4]
    have i0 : H0 mi = none := s0.free hmi
    have o0 : H0 mo = none := s1.free hmo
    have l0 : H0 gl = none := s2.free hgl
    have r0 : H0 gr = none := s3.free hgr
    refine ⟨_, rfl, a, rfl, ⟨_, SqL.of (s4 _ _ ha)⟩, for_list (K := K) (a := a) (xs := ts.map V.ref) (fun i σ H' => ∃ u v ki ko kl kr, σ = [some (.ref p), some (.ref a), u, v] ∧ Same H0 H' ∧ KnO CK H' p dx mi mo gl gr ki ko kl kr ∧ KnS (fs.take i) ki ko kl kr) ⟨_, _, _, _, _, _, rfl, s4, O4, KnS.nil⟩
      (fun i σ H' _ ⟨_, _, _, _, _, _, _, s5, _⟩ => SqL.of (s5 _ _ ha)) ?_ ?_⟩
    · rintro i z σ H' hi ⟨u, v, ki, ko, kl, kr, rfl, s5, O, S⟩
      obtain ⟨t, hx, rfl⟩ := map_at hi
      obtain ⟨f, hf, hq⟩ := Paired.at_ pa hx
      have ht : H' t = some (.tup (ftV f)) := s5 _ _ hq
      have etk : fs.take (i + 1) = fs.take i ++ [f] := by rw [List.take_add_one, hf]; rfl
      have bn : (fs.take i).length ≤ 1000 := by rw [List.length_take]; omega
      obtain ⟨n1, n2, n3, n4⟩ := S.n
      cases f with
      | inn x =>
        refine ⟨_, rfl, t, _, _, _, rfl, rfl, SqT.of ht, rfl, ?_⟩
        refine ⟨_, rfl, rfl, true, dT rfl, iteT ?_⟩
        refine ⟨_, rfl, p, CK, dx, _, _, rfl, O.ob, TC.cl, TC.mi, rfl, ?_⟩
        refine ⟨_, rfl, t, _, _, _, rfl, rfl, SqT.of ht, rfl, mi, _, rfl, DPut.k (k := kI x) O.hi (small1000 (by omega)), ?_⟩
        refine ⟨_, _, _, ko, kl, kr, rfl, Same.write s5 i0, ⟨?_, upd_same, ?_, ?_, ?_⟩, by rw [etk]; exact S.inn⟩
        · rw [upd_ne pi]; exact O.ob
        · rw [upd_ne io.symm]; exact O.ho
        · rw [upd_ne il.symm]; exact O.hl
        · rw [upd_ne ir.symm]; exact O.hr
      | out x =>
        refine ⟨_, rfl, t, _, _, _, rfl, rfl, SqT.of ht, rfl, ?_⟩
        refine ⟨_, rfl, rfl, false, dF (vstr_ne (by decide +kernel)), iteF ?_⟩
        refine ⟨_, rfl, rfl, true, dT rfl, iteT ?_⟩
        refine ⟨_, rfl, p, CK, dx, _, _, rfl, O.ob, TC.cl, TC.mo, rfl, ?_⟩
        refine ⟨_, rfl, t, _, _, _, rfl, rfl, SqT.of ht, rfl, mo, _, rfl, DPut.k (k := kI x) O.ho (small1000 (by omega)), ?_⟩
        refine ⟨_, _, ki, _, kl, kr, rfl, Same.write s5 o0, ⟨?_, ?_, upd_same, ?_, ?_⟩, by rw [etk]; exact S.out⟩
        · rw [upd_ne po]; exact O.ob
        · rw [upd_ne io]; exact O.hi
        · rw [upd_ne ol.symm]; exact O.hl
        · rw [upd_ne or'.symm]; exact O.hr
      | lf x l =>
        refine ⟨_, rfl, t, _, _, _, rfl, rfl, SqT.of ht, rfl, ?_⟩
        refine ⟨_, rfl, rfl, false, dF (vstr_ne (by decide +kernel)), iteF ?_⟩
        refine ⟨_, rfl, rfl, false, dF (vstr_ne (by decide +kernel)), iteF ?_⟩
        refine ⟨_, rfl, rfl, true, dT rfl, iteT ?_⟩
        refine ⟨_, rfl, p, CK, dx, _, _, rfl, O.ob, TC.cl, TC.gl, rfl, ?_⟩
        refine ⟨_, rfl, t, _, _, _, rfl, rfl, SqT.of ht, rfl, _, rfl, t, _, _, _, rfl, rfl, SqT.of ht, rfl, ?_⟩
        refine ⟨gl, x, l, kl, _, rfl, O.hl, by omega, S.l, fun kl' nl gd => ?_⟩
        refine ⟨_, _, ki, ko, kl', kr, rfl, Same.write s5 l0, ⟨?_, ?_, ?_, upd_same, ?_⟩, by rw [etk]; exact S.lf nl gd⟩
        · rw [upd_ne pl]; exact O.ob
        · rw [upd_ne il]; exact O.hi
        · rw [upd_ne ol]; exact O.ho
        · rw [upd_ne lr.symm]; exact O.hr
      | rt x l =>
        refine ⟨_, rfl, t, _, _, _, rfl, rfl, SqT.of ht, rfl, ?_⟩
        refine ⟨_, rfl, rfl, false, dF (vstr_ne (by decide +kernel)), iteF ?_⟩
        refine ⟨_, rfl, rfl, false, dF (vstr_ne (by decide +kernel)), iteF ?_⟩
        refine ⟨_, rfl, rfl, false, dF (vstr_ne (by decide +kernel)), iteF ?_⟩
        refine ⟨_, rfl, p, CK, dx, _, _, rfl, O.ob, TC.cl, TC.gr, rfl, ?_⟩
        refine ⟨_, rfl, t, _, _, _, rfl, rfl, SqT.of ht, rfl, _, rfl, t, _, _, _, rfl, rfl, SqT.of ht, rfl, ?_⟩
        refine ⟨gr, x, l, kr, _, rfl, O.hr, by omega, S.r, fun kr' nr gd => ?_⟩
        refine ⟨_, _, ki, ko, kl, kr', rfl, Same.write s5 r0, ⟨?_, ?_, ?_, ?_, upd_same⟩, by rw [etk]; exact S.rt nr gd⟩
        · rw [upd_ne pr]; exact O.ob
        · rw [upd_ne ir]; exact O.hi
        · rw [upd_ne or']; exact O.ho
        · rw [upd_ne lr]; exact O.hl
    · rintro σ H' ⟨u, v, ki, ko, kl, kr, rfl, s5, O, S⟩
      rw [List.length_map, Paired.len pa, List.take_length] at S
      exact k _ s5 ⟨_, _, _, _, _, _, _, _, _, O, S⟩
def sp_links_agree (C : Addr) : Sp := fun vs H Q _ => ∃ (a : Addr) (fs : List Ft) (x l r : Nat), vs = [.ref a, .int x, .int l, .int r] ∧ KnR C H a fs ∧ Q (.bl (fs.all (fL x l) && fs.all (fR x r))) H
theorem dI {z : Int} {l : Nat} {b : Bool} (e : decide (z = (l : Int)) = b) : decide (V.int z = V.int (l : Int)) = b := by
  rw [← e, Bool.eq_iff_iff, decide_eq_true_iff, decide_eq_true_iff]
  exact ⟨fun e => by injection e, fun e => by rw [e]⟩
theorem w_links_agree (TC : CKn K CK) (D : Md K CK "links_agree" "Known.links_agree" s_Known_links_agree) : Met P w K mg base 1 CK "links_agree" (sp_links_agree CK) := by
  refine met_of D sc_Known_links_agree bd_Known_links_agree (fun vs H Q E h => ?_) fun f cdv A outer s H vs Q E hr h => ?_
  · obtain ⟨a, fs, x, l, r, rfl, _⟩ := h; rfl
  · obtain ⟨a, fs, x, l, r, rfl, ⟨dx, mi, mo, gl, gr, ki, ko, kl, kr, O, S⟩, k⟩ := h
    have hu := hu_of hr
    refine ⟨_, (pss_one
    (ps_ret (pe_and (pe_cmpR op_eq (pe_dget2 hu (pe_fld (pv 0) rfl) (pv 1) (pv 2) ⟨rfl, rfl, rfl, rfl⟩) (pv 2) (nomark _)) (pe_one (pe_cmpR op_eq (pe_dget2 hu (pe_fld (pv 0) rfl) (pv 1) (pv 3) ⟨rfl, rfl, rfl, rfl⟩) (pv 3) (nomark _)))))), ?_⟩
    obtain ⟨z, ez, eg⟩ := S.l x l
    obtain ⟨y, ey, eh⟩ := S.r x r
    refine ⟨_, rfl, a, CK, dx, _, _, rfl, O.ob, TC.cl, TC.gl, rfl, gl, rfl, .inl ⟨_, .inl O.hl⟩, _, rfl, _, rfl, _, DGet.k (k := kI x) O.hl, _, rfl, ?_⟩
    rw [ez]
    refine ⟨rfl, ?_⟩
    rw [dI eg]
    cases e : fs.all (fL x l) with
    | true =>
      refine ⟨true, congrArg V.bl e, iteT ?_⟩
      refine ⟨_, rfl, a, CK, dx, _, _, rfl, O.ob, TC.cl, TC.gr, rfl, gr, rfl, .inl ⟨_, .inl O.hr⟩, _, rfl, _, rfl, _, DGet.k (k := kI x) O.hr, _, rfl, ?_⟩
      rw [ey]
      refine ⟨rfl, ?_⟩
      rw [dI eh]
      rw [e] at k
      exact k
    | false =>
      rw [e] at k
      exact ⟨false, congrArg V.bl e, iteF k⟩
def sp_may_be_root (C : Addr) : Sp := fun vs H Q _ => ∃ (a : Addr) (fs : List Ft) (x l r : Nat), vs = [.ref a, .int x, .int l, .int r] ∧ KnR C H a fs ∧ Q (.bl (okR fs x l r)) H
theorem w_may_be_root (TC : CKn K CK) (D : Md K CK "may_be_root" "Known.may_be_root" s_Known_may_be_root) (c_Known_links_agree : Met P w K mg base 1 CK "links_agree" (sp_links_agree CK)) : Met P w K mg base 2 CK "may_be_root" (sp_may_be_root CK) := by
  refine met_of D sc_Known_may_be_root bd_Known_may_be_root (fun vs H Q E h => ?_) fun f cdv A outer s H vs Q E hr h => ?_
  · obtain ⟨a, fs, x, l, r, rfl, _⟩ := h; rfl
  · obtain ⟨a, fs, x, l, r, rfl, R, k⟩ := h
    obtain ⟨dx, mi, mo, gl, gr, ki, ko, kl, kr, O, S⟩ := id R
    have hu := hu_of hr
    refine ⟨_, (pss_one
    (ps_ret (pe_and (pe_cmp (pc_dnotin hu (pv 1) (pe_fld (pv 0) rfl)) rfl) (pe_one (pe_mt c_Known_links_agree hr (by decide) (pv 0) (pa_cons (pv 1) (pa_cons (pv 2) (pa_cons (pv 3) pa_nil)))))))), ?_⟩
    refine ⟨_, rfl, _, rfl, a, CK, dx, _, _, rfl, O.ob, TC.cl, TC.mi, rfl, mi, _, rfl, DGet.k (k := kI x) O.hi, ?_⟩
    rw [S.i x]
    rw [okR_eq] at k
    cases e : fs.any (fI x) with
    | true =>
      rw [e] at k
      exact ⟨false, congrArg (fun b => V.bl (!b)) e, iteF k⟩
    | false =>
      rw [e] at k
      refine ⟨true, congrArg (fun b => V.bl (!b)) e, iteT ?_⟩
      exact ⟨_, rfl, a, dx, _, rfl, O.ob, rfl, _, rfl, _, rfl, _, rfl, a, fs, x, l, r, rfl, R, k⟩
def sp_may_be_neighbours (C : Addr) : Sp := fun vs H Q _ => ∃ (a : Addr) (fs : List Ft) (l r : Nat), vs = [.ref a, .int l, .int r] ∧ KnR C H a fs ∧ Q (.bl (okN fs l r)) H
theorem w_may_be_neighbours (TC : CKn K CK) (D : Md K CK "may_be_neighbours" "Known.may_be_neighbours" s_Known_may_be_neighbours) : Met P w K mg base 1 CK "may_be_neighbours" (sp_may_be_neighbours CK) := by
  refine met_of D sc_Known_may_be_neighbours bd_Known_may_be_neighbours (fun vs H Q E h => ?_) fun f cdv A outer s H vs Q E hr h => ?_
  · obtain ⟨a, fs, l, r, rfl, _⟩ := h; rfl
  · obtain ⟨a, fs, l, r, rfl, ⟨dx, mi, mo, gl, gr, ki, ko, kl, kr, O, S⟩, k⟩ := h
    have hu := hu_of hr
    refine ⟨_, (pss_cons
    (ps_if (pt_cmp (pc_din hu (pv 2) (pe_fld (pv 0) rfl))) (pss_one
    (ps_ret pe_bl)) pss_nil) (pss_one
    (ps_ret (pe_and (pe_cmpR op_eq (pe_dget2 hu (pe_fld (pv 0) rfl) (pv 1) (pv 2) ⟨rfl, rfl, rfl, rfl⟩) (pv 2) (nomark _)) (pe_one (pe_cmpR op_eq (pe_dget2 hu (pe_fld (pv 0) rfl) (pv 2) (pv 1) ⟨rfl, rfl, rfl, rfl⟩) (pv 1) (nomark _))))))), ?_⟩
    obtain ⟨z, ez, eg⟩ := S.r l r
    obtain ⟨y, ey, eh⟩ := S.l r l
    rw [okN_eq] at k
    refine ⟨_, rfl, _, rfl, a, CK, dx, _, _, rfl, O.ob, TC.cl, TC.mo, rfl, mo, _, rfl, DGet.k (k := kI r) O.ho, ?_⟩
    rw [S.o r]
    cases e : fs.any (fO r) with
    | true =>
      rw [e] at k
      exact ⟨true, congrArg V.bl e, iteT k⟩
    | false =>
      rw [e] at k
      refine ⟨false, congrArg V.bl e, iteF ?_⟩
      refine ⟨_, rfl, a, CK, dx, _, _, rfl, O.ob, TC.cl, TC.gr, rfl, gr, rfl, .inl ⟨_, .inl O.hr⟩, _, rfl, _, rfl, _, DGet.k (k := kI l) O.hr, _, rfl, ?_⟩
      rw [ez]
      refine ⟨rfl, ?_⟩
      rw [dI eg]
      cases e : fs.all (fR l r) with
      | true =>
        refine ⟨true, congrArg V.bl e, iteT ?_⟩
        refine ⟨_, rfl, a, CK, dx, _, _, rfl, O.ob, TC.cl, TC.gl, rfl, gl, rfl, .inl ⟨_, .inl O.hl⟩, _, rfl, _, rfl, _, DGet.k (k := kI r) O.hl, _, rfl, ?_⟩
        rw [ey]
        refine ⟨rfl, ?_⟩
        rw [dI eh]
        rw [e] at k
        exact k
      | false =>
        rw [e] at k
        exact ⟨false, congrArg V.bl e, iteF k⟩
end
end LK
end

section
/-! LKWalk9 -/
set_option maxHeartbeats 2000000
namespace LK
open PySem PySem.Spec PyProof.Rows L2
def tabR (N : Nat) (f : Nat → Addr) : List V := (List.range N).map fun i => .ref (f i)
theorem tabR_len {N : Nat} {f : Nat → Addr} : (tabR N f).length = N := by simp [tabR]
theorem tabR_get {N : Nat} {f : Nat → Addr} {i : Nat} (h : i < N) : (tabR N f)[i]? = some (.ref (f i)) := by simp [tabR, h]
theorem tabR_at {N : Nat} {f : Nat → Addr} {z : Int} {i : Nat} (e : z = (i : Int)) (h : i < N) : atI (tabR N f) z = some (.ref (f i)) := at_of e (tabR_get h)

/-! ### FitTable objects -/
structure CFt (K : PySem.W.Frag) (C : Addr) : Prop where
  cl : Cls K C
  size : NoAttr K C "size"
  known : NoAttr K C "known"
  trees : NoAttr K C "tree_counts"
  chains : NoAttr K C "chain_counts"
  count : NoAttr K C "fit_count"
abbrev ftF (n : Nat) (kn tcs ccs : Addr) (tail : List (Str × V)) : List (Str × V) := ("size", .int n) :: ("known", .ref kn) :: ("tree_counts", .ref tcs) :: ("chain_counts", .ref ccs) :: tail
structure FtO (C CK : Addr) (H : Hp) (a dx kn tcs ccs : Addr) (rows : Nat → Addr) (tail : List (Str × V)) (n : Nat) (fs : List Ft) (T : Nat → Nat → Int) (U : Nat → Int) : Prop where
  ob : H a = some (.ins C dx (ftF n kn tcs ccs tail))
  kn : KnR CK H kn fs
  ts : H tcs = some (.lst (tabR (n + 2) rows))
  rw : ∀ i, i < n + 2 → H (rows i) = some (.lst (tabI (n + 2) (T i)))
  cs : H ccs = some (.lst (tabI (n + 2) U))
  tn : ∀ nm : Str, nm ≠ "fit_count" → List.lookup nm tail = none
def FtR (C CK : Addr) (H : Hp) (a : Addr) (n : Nat) (fs : List Ft) (T : Nat → Nat → Int) (U : Nat → Int) : Prop := ∃ dx kn tcs ccs rows tail, FtO C CK H a dx kn tcs ccs rows tail n fs T U
theorem FtO.same {C CK : Addr} {H H' : Hp} {a dx kn tcs ccs : Addr} {rows : Nat → Addr} {tail : List (Str × V)} {n : Nat} {fs : List Ft} {T : Nat → Nat → Int} {U : Nat → Int} (e : Same H H') (h : FtO C CK H a dx kn tcs ccs rows tail n fs T U) : FtO C CK H' a dx kn tcs ccs rows tail n fs T U :=
  ⟨e _ _ h.ob, h.kn.same e, e _ _ h.ts, fun i hi => e _ _ (h.rw i hi), e _ _ h.cs, h.tn⟩
theorem FtR.same {C CK : Addr} {H H' : Hp} {a : Addr} {n : Nat} {fs : List Ft} {T : Nat → Nat → Int} {U : Nat → Int} (e : Same H H') (h : FtR C CK H a n fs T U) : FtR C CK H' a n fs T U := by
  obtain ⟨dx, kn, tcs, ccs, rows, tail, o⟩ := h
  exact ⟨dx, kn, tcs, ccs, rows, tail, o.same e⟩
theorem tc_small {ok : Nat → Nat → Nat → Bool} {a b : Nat} (h : a < b) (hb : b ≤ 61) : tc ok a b < 2 ^ 120 := Nat.lt_of_le_of_lt (tc_le h) (cw_small _ (by omega))
theorem cc_small {ok : Nat → Nat → Nat → Bool} {okn : Nat → Nat → Bool} {n low : Nat} (h : low ≤ n + 1) (hn : n ≤ 60) : cc ok okn n low < 2 ^ 120 := Nat.lt_of_le_of_lt (cc_le h) (cw_small _ (by omega))
theorem mulW {i j : Nat} (h1 : i < 2 ^ 120) (h2 : j < 2 ^ 120) : CMulW (i : Int) (j : Int) := wide_mul (a := 120) (b := 120) (by simpa using h1) (by simpa using h2) (by decide) (by decide) (by decide)
section
variable {P : Program} {w : World} {K : PySem.W.Frag} {mg : Str → Option Value} {base : Heap} {CK CT CL CF : Addr}
def sp_rooted (C CK : Addr) : Sp := fun vs H Q _ => ∃ (a : Addr) (n : Nat) (fs : List Ft) (T : Nat → Nat → Int) (U : Nat → Int) (x lo hi : Nat), vs = [.ref a, .int x, .int lo, .int hi] ∧ FtR C CK H a n fs T U ∧ lo < x ∧ x < hi ∧ hi ≤ n + 1 ∧ n ≤ 60 ∧
  T lo x = (tc (okR fs) lo x : Nat) ∧ T x hi = (tc (okR fs) x hi : Nat) ∧ Q (.int (rc (okR fs) x lo hi : Nat)) H
theorem w_rooted (TC : CFt K CT) (D : Md K CT "rooted" "FitTable.rooted" s_FitTable_rooted) (c_Known_may_be_root : Met P w K mg base 2 CK "may_be_root" (sp_may_be_root CK)) : Met P w K mg base 3 CT "rooted" (sp_rooted CT CK) := by
  refine met_of D sc_FitTable_rooted bd_FitTable_rooted (fun vs H Q E h => ?_) fun f cdv A outer s H vs Q E hr h => ?_
  · obtain ⟨a, n, fs, T, U, x, lo, hi, rfl, _⟩ := h; rfl
  · obtain ⟨a, n, fs, T, U, x, lo, hi, rfl, ⟨dx, kn, tcs, ccs, rows, tail, O⟩, h1, h2, h3, hn, e1, e2, k⟩ := h
    refine ⟨_, (pss_cons
    (ps_if (pt_not (pt_val (pe_mt c_Known_may_be_root hr (by decide) (pe_fld (pv 0) rfl) (pa_cons (pv 1) (pa_cons (pv 2) (pa_cons (pv 3) pa_nil)))))) (pss_one
    (ps_ret pe_int)) pss_nil) (pss_one
    (ps_ret (pe_op op_mulW (pe_ix ix_list (pe_ix ix_list (pe_fld (pv 0) rfl) (pv 2) (fun _ _ => rfl)) (pv 1) (fun _ _ => rfl)) (pe_ix ix_list (pe_ix ix_list (pe_fld (pv 0) rfl) (pv 1) (fun _ _ => rfl)) (pv 3) (fun _ _ => rfl)))))), ?_⟩
    obtain ⟨dk, mi, mo, gl, gr, ki, ko, kl, kr, KO, KS⟩ := id O.kn
    refine ⟨_, rfl, a, CT, dx, _, _, rfl, O.ob, TC.cl, TC.known, rfl, kn, dk, _, rfl, KO.ob, rfl, _, rfl, _, rfl, _, rfl, kn, fs, x, lo, hi, rfl, O.kn, ?_⟩
    cases eo : okR fs x lo hi with
    | false =>
      refine ⟨false, rfl, iteT ?_⟩
      have e : rc (okR fs) x lo hi = 0 := by unfold rc; rw [eo]; rfl
      rw [e] at k
      exact k
    | true =>
      refine ⟨true, rfl, iteF ?_⟩
      have e : rc (okR fs) x lo hi = tc (okR fs) lo x * tc (okR fs) x hi := by unfold rc; rw [eo]; rfl
      rw [e] at k
      refine ⟨_, rfl, a, CT, dx, _, _, rfl, O.ob, TC.cl, TC.trees, rfl, _, rfl, tcs, _, _, _, rfl, rfl, SqL.of O.ts, tabR_at rfl (by omega), ?_⟩
      refine ⟨_, rfl, rows lo, _, _, _, rfl, rfl, SqL.of (O.rw lo (by omega)), tabI_at rfl (by omega), ?_⟩
      refine ⟨_, rfl, a, CT, dx, _, _, rfl, O.ob, TC.cl, TC.trees, rfl, _, rfl, tcs, _, _, _, rfl, rfl, SqL.of O.ts, tabR_at rfl (by omega), ?_⟩
      refine ⟨_, rfl, rows x, _, _, _, rfl, rfl, SqL.of (O.rw x (by omega)), tabI_at rfl (by omega), ?_⟩
      rw [e1, e2]
      refine ⟨_, _, rfl, rfl, mulW (tc_small h1 (by omega)) (tc_small h2 (by omega)), ?_⟩
      rw [Int.natCast_mul] at k
      exact k
def sp_continued (C CK : Addr) : Sp := fun vs H Q _ => ∃ (a : Addr) (n : Nat) (fs : List Ft) (T : Nat → Nat → Int) (U : Nat → Int) (lo hi : Nat), vs = [.ref a, .int lo, .int hi] ∧ FtR C CK H a n fs T U ∧ lo < hi ∧ hi ≤ n + 1 ∧ n ≤ 60 ∧
  T lo hi = (tc (okR fs) lo hi : Nat) ∧ U hi = (cc (okR fs) (okN fs) n hi : Nat) ∧ Q (.int (nc (okR fs) (okN fs) n lo hi : Nat)) H
theorem w_continued (TC : CFt K CT) (D : Md K CT "continued" "FitTable.continued" s_FitTable_continued) (c_Known_may_be_neighbours : Met P w K mg base 1 CK "may_be_neighbours" (sp_may_be_neighbours CK)) : Met P w K mg base 3 CT "continued" (sp_continued CT CK) := by
  refine met_of D sc_FitTable_continued bd_FitTable_continued (fun vs H Q E h => ?_) fun f cdv A outer s H vs Q E hr h => ?_
  · obtain ⟨a, n, fs, T, U, lo, hi, rfl, _⟩ := h; rfl
  · obtain ⟨a, n, fs, T, U, lo, hi, rfl, ⟨dx, kn, tcs, ccs, rows, tail, O⟩, h1, h3, hn, e1, e2, k⟩ := h
    refine ⟨_, (pss_cons
    (ps_if (pt_not (pt_val (pe_mt c_Known_may_be_neighbours hr (by decide) (pe_fld (pv 0) rfl) (pa_cons (pv 1) (pa_cons (pv 2) pa_nil))))) (pss_one
    (ps_ret pe_int)) pss_nil) (pss_one
    (ps_ret (pe_op op_mulW (pe_ix ix_list (pe_ix ix_list (pe_fld (pv 0) rfl) (pv 1) (fun _ _ => rfl)) (pv 2) (fun _ _ => rfl)) (pe_ix ix_list (pe_fld (pv 0) rfl) (pv 2) (fun _ _ => rfl)))))), ?_⟩
    obtain ⟨dk, mi, mo, gl, gr, ki, ko, kl, kr, KO, KS⟩ := id O.kn
    refine ⟨_, rfl, a, CT, dx, _, _, rfl, O.ob, TC.cl, TC.known, rfl, kn, dk, _, rfl, KO.ob, rfl, _, rfl, _, rfl, kn, fs, lo, hi, rfl, O.kn, ?_⟩
    cases eo : okN fs lo hi with
    | false =>
      refine ⟨false, rfl, iteT ?_⟩
      have e : nc (okR fs) (okN fs) n lo hi = 0 := by unfold nc; rw [eo]; rfl
      rw [e] at k
      exact k
    | true =>
      refine ⟨true, rfl, iteF ?_⟩
      have e : nc (okR fs) (okN fs) n lo hi = tc (okR fs) lo hi * cc (okR fs) (okN fs) n hi := by unfold nc; rw [eo]; rfl
      rw [e] at k
      refine ⟨_, rfl, a, CT, dx, _, _, rfl, O.ob, TC.cl, TC.trees, rfl, _, rfl, tcs, _, _, _, rfl, rfl, SqL.of O.ts, tabR_at rfl (by omega), ?_⟩
      refine ⟨_, rfl, rows lo, _, _, _, rfl, rfl, SqL.of (O.rw lo (by omega)), tabI_at rfl (by omega), ?_⟩
      refine ⟨_, rfl, a, CT, dx, _, _, rfl, O.ob, TC.cl, TC.chains, rfl, _, rfl, ccs, _, _, _, rfl, rfl, SqL.of O.cs, tabI_at rfl (by omega), ?_⟩
      rw [e1, e2]
      refine ⟨_, _, rfl, rfl, mulW (tc_small h1 (by omega)) (cc_small (by omega) (by omega)), ?_⟩
      rw [Int.natCast_mul] at k
      exact k
theorem KnR.lst {C : Addr} {H : Hp} {a r : Addr} {fs : List Ft} {xs : List V} {o : HO} (h : KnR C H a fs) (hr : H r = some (.lst xs)) : KnR C (L2.upd H r o) a fs := by
  obtain ⟨dx, mi, mo, gl, gr, ki, ko, kl, kr, O, S⟩ := h
  have ne : ∀ b u, H b = some u → (∀ ys, u ≠ .lst ys) → L2.upd H r o b = some u := fun b u e z => by
    rw [upd_ne (fun q => by rw [q, hr] at e; exact z _ (Option.some.inj e).symm)]; exact e
  exact ⟨dx, mi, mo, gl, gr, ki, ko, kl, kr, ⟨ne _ _ O.ob (fun _ e => by cases e), ne _ _ O.hi (fun _ e => by cases e), ne _ _ O.ho (fun _ e => by cases e), ne _ _ O.hl (fun _ e => by cases e), ne _ _ O.hr (fun _ e => by cases e)⟩, S⟩
theorem KnR.ins {C C2 : Addr} {H : Hp} {a r dx2 : Addr} {fs : List Ft} {F : List (Str × V)} {o : HO} (h : KnR C H a fs) (hr : H r = some (.ins C2 dx2 F)) (n : a ≠ r) : KnR C (L2.upd H r o) a fs := by
  obtain ⟨dx, mi, mo, gl, gr, ki, ko, kl, kr, O, S⟩ := h
  have ne : ∀ b kv, H b = some (.dK kv) → L2.upd H r o b = some (.dK kv) := fun b u e => by
    rw [upd_ne (fun q => by rw [q, hr] at e; cases e)]; exact e
  exact ⟨dx, mi, mo, gl, gr, ki, ko, kl, kr, ⟨by rw [upd_ne n]; exact O.ob, ne _ _ O.hi, ne _ _ O.ho, ne _ _ O.hl, ne _ _ O.hr⟩, S⟩
structure FtW (C CK : Addr) (H0 H : Hp) (a dx kn tcs ccs : Addr) (rows : Nat → Addr) (tail : List (Str × V)) (n : Nat) (fs : List Ft) (T : Nat → Nat → Int) (U : Nat → Int) : Prop where
  sm : Same H0 H
  o : FtO C CK H a dx kn tcs ccs rows tail n fs T U
  fr : ∀ i, i < n + 2 → H0 (rows i) = none
  fc : H0 ccs = none
  fa : H0 a = none
  inj : ∀ i j, i < n + 2 → j < n + 2 → i ≠ j → rows i ≠ rows j
  nc : ∀ i, i < n + 2 → rows i ≠ ccs
section
variable {C : Addr} {H0 H : Hp} {a dx kn tcs ccs : Addr} {rows : Nat → Addr} {tail : List (Str × V)} {n : Nat} {fs : List Ft} {T : Nat → Nat → Int} {U : Nat → Int}
theorem tabRI {f : Nat → Addr} {g : Nat → Int} : HO.lst (tabR (n + 2) f) ≠ HO.lst (tabI (n + 2) g) := fun e => by
  injection e with e
  have e2 := congrArg (fun z : List V => z[0]?) e
  simp only [tabR_get (show 0 < n + 2 by omega), tabI_get (show 0 < n + 2 by omega)] at e2
  cases e2
theorem FtW.same {H' : Hp} (e : Same H H') (h : FtW C CK H0 H a dx kn tcs ccs rows tail n fs T U) : FtW C CK H0 H' a dx kn tcs ccs rows tail n fs T U := ⟨h.sm.trans e, h.o.same e, h.fr, h.fc, h.fa, h.inj, h.nc⟩
theorem FtW.rd (h : FtW C CK H0 H a dx kn tcs ccs rows tail n fs T U) : FtR C CK H a n fs T U := ⟨_, _, _, _, _, _, h.o⟩
theorem FtW.row {lo hi : Nat} {v : Int} (h : FtW C CK H0 H a dx kn tcs ccs rows tail n fs T U) (hl : lo < n + 2) : FtW C CK H0 (L2.upd H (rows lo) (.lst (tabI (n + 2) (put (T lo) hi v)))) a dx kn tcs ccs rows tail n fs (put T lo (put (T lo) hi v)) U := by
  have hr := h.o.rw lo hl
  refine ⟨Same.write h.sm (h.fr lo hl), ⟨?_, h.o.kn.lst hr, ?_, fun i hi => ?_, ?_, h.o.tn⟩, h.fr, h.fc, h.fa, h.inj, h.nc⟩
  · rw [upd_ne (ne_of h.o.ob hr (fun e => by cases e))]; exact h.o.ob
  · rw [upd_ne (ne_of h.o.ts hr tabRI)]; exact h.o.ts
  · by_cases e : i = lo
    · subst e; rw [upd_same, put_same]
    · rw [upd_ne (h.inj i lo hi hl e), put_ne e]; exact h.o.rw i hi
  · rw [upd_ne (h.nc lo hl).symm]; exact h.o.cs
theorem FtW.chain {lo : Nat} {v : Int} (h : FtW C CK H0 H a dx kn tcs ccs rows tail n fs T U) : FtW C CK H0 (L2.upd H ccs (.lst (tabI (n + 2) (put U lo v)))) a dx kn tcs ccs rows tail n fs T (put U lo v) := by
  have hr := h.o.cs
  refine ⟨Same.write h.sm h.fc, ⟨?_, h.o.kn.lst hr, ?_, fun i hi => ?_, upd_same, h.o.tn⟩, h.fr, h.fc, h.fa, h.inj, h.nc⟩
  · rw [upd_ne (ne_of h.o.ob hr (fun e => by cases e))]; exact h.o.ob
  · rw [upd_ne (ne_of h.o.ts hr tabRI)]; exact h.o.ts
  · rw [upd_ne (h.nc i hi)]; exact h.o.rw i hi
end
theorem yesT {te : TE} {σ : L2.St} {H : Hp} {R : VK} {B : Hp → Prop} (h : te σ H R) : tYes σ H (fun b H3 => if b = true then te σ H3 R else B H3) := @iteT (te σ H R) (B H) h
theorem sum_cast (f : Nat → Nat) : ∀ l : List Nat, (l.map fun x => ((f x : Nat) : Int)).sum = (((l.map f).sum : Nat) : Int)
  | [] => rfl
  | x :: l => by rw [List.map_cons, List.map_cons, List.sum_cons, List.sum_cons, sum_cast f l, Int.natCast_add]
/-- filled to the width w, and of width w to the start i -/
def Good (ok : Nat → Nat → Nat → Bool) (n : Nat) (T : Nat → Nat → Int) (w i : Nat) : Prop := ∀ a b, a < b → b ≤ n + 1 → (b < a + w ∨ (b = a + w ∧ a < i)) → T a b = (tc ok a b : Nat)
def sp_fill_trees (C CK : Addr) : Sp := fun vs H Q _ => ∃ (H0 : Hp) (a dx kn tcs ccs : Addr) (rows : Nat → Addr) (tail : List (Str × V)) (n : Nat) (fs : List Ft) (U : Nat → Int), vs = [.ref a] ∧ FtW C CK H0 H a dx kn tcs ccs rows tail n fs (fun _ _ => 1) U ∧ n ≤ 60 ∧
  ∀ H' T, FtW C CK H0 H' a dx kn tcs ccs rows tail n fs T U → (∀ a b, a < b → b ≤ n + 1 → T a b = (tc (okR fs) a b : Nat)) → Q .non H'
theorem w_fill_trees (X : Tx mg) (TC : CFt K CT) (D : Md K CT "fill_trees" "FitTable.fill_trees" s_FitTable_fill_trees) (c_FitTable_rooted : Met P w K mg base 3 CT "rooted" (sp_rooted CT CK)) : Met P w K mg base 4 CT "fill_trees" (sp_fill_trees CT CK) := by
  have T := X
  refine met_of D sc_FitTable_fill_trees bd_FitTable_fill_trees (fun vs H Q E h => ?_) fun f cdv A outer s H vs Q E hr h => ?_
  · obtain ⟨H0, a, dx, kn, tcs, ccs, rows, tail, n, fs, U, rfl, _⟩ := h; rfl
  · obtain ⟨H0, a, dx, kn, tcs, ccs, rows, tail, n, fs, U, rfl, F, hn, k⟩ := h
    refine ⟨_, (pss_one
    (ps_for PassesOwn.never rfl (pi_range2 rfl T.range (pa_cons pe_int (pa_cons (pe_op op_add (pe_fld (pv 0) rfl) pe_int) pa_nil))) (pg_name (i := 1) sc_FitTable_fill_trees.nd rfl (Or.inl rfl)) (pss_one
    (ps_for PassesOwn.never rfl (pi_range1 rfl T.range (pa_cons (pe_op op_sub (pe_op op_add (pe_fld (pv 0) rfl) pe_int) (pv 1)) pa_nil)) (pg_name (i := 2) sc_FitTable_fill_trees.nd rfl (Or.inr rfl)) (pss_cons
    (ps_set (i := 3) sc_FitTable_fill_trees.nd rfl (Or.inr rfl) (pe_op op_add (pv 2) (pv 1))) (pss_cons
    (ps_setLc (i := 4) (own := [("node", 5)]) (g := gName 5) (tt := tYes) (by rfl) sc_FitTable_fill_trees.nd rfl rfl (sw_true rfl rfl rfl (by decide +kernel)) (pi_range2 rfl T.range (pa_cons (pe_op op_add (pv 2) pe_int) (pa_cons (pv 3) pa_nil))) (blkOk_by (own := [("node", 5)]) (N := N_FitTable_fill_trees) (sc := defScope s_FitTable_fill_trees) (by decide +kernel)) (fun _ _ _ _ _ => pg_name (i := 5) sc_FitTable_fill_trees.nd rfl (Or.inl rfl)) (fun _ _ _ _ _ => pts_nil) (fun _ _ _ _ _ => (pe_mt c_FitTable_rooted hr (by decide) (pv 0) (pa_cons (pv 5) (pa_cons (pv 2) (pa_cons (pv 3) pa_nil)))))) (pss_one
    (ps_asg (pe_callB (cr_sum rfl) (by rfl) T.sum (by decide +kernel) (pa_cons (pv 4) pa_nil)) (pg_sub (pe_ix ix_list (pe_fld (pv 0) rfl) (pv 2) (fun _ _ => rfl)) (pv 3) set_list))))))))), ?_⟩
    refine ⟨_, rfl, a, CT, dx, _, _, rfl, F.o.ob, TC.cl, TC.size, rfl, _, _, rfl, rfl, _, _, rfl, ⟨by omega, by omega, by omega, by omega⟩, ?_⟩
    have en : ((n : Int) + 2 - 2).toNat = n := by omega
    rw [en]
    refine for_range (fun i σ H' => ∃ T v1 v2 v3 v4, σ = [some (.ref a), v1, v2, v3, v4, none] ∧ FtW CT CK H0 H' a dx kn tcs ccs rows tail n fs T U ∧ Good (okR fs) n T (i + 2) 0) ⟨_, _, _, _, _, rfl, F, ?_⟩ ?_ ?_
    · intro x y h1 h2 h3
      rw [tc_nil (by omega)]; rfl
    · rintro i σ H' hi ⟨T, v1, v2, v3, v4, rfl, F1, G1⟩
      refine ⟨_, rfl, a, CT, dx, _, _, rfl, F1.o.ob, TC.cl, TC.size, rfl, _, _, rfl, rfl, _, rfl, _, _, rfl, rfl, ?_⟩
      refine ⟨_, rfl, by omega, by omega, ?_⟩
      have em : ((n : Int) + 2 - (2 + (i : Int))).toNat = n - i := by omega
      refine for_range (fun j σ H' => ∃ T v2 v3 v4, σ = [some (.ref a), some (.int (2 + (i : Int))), v2, v3, v4, none] ∧ FtW CT CK H0 H' a dx kn tcs ccs rows tail n fs T U ∧ Good (okR fs) n T (i + 2) j) ?_ ?_ ?_
      · exact ⟨_, _, _, _, rfl, F1, G1⟩
      · rintro j σ H2 hj ⟨T, w2, w3, w4, rfl, F2, G2⟩
        refine ⟨_, rfl, _, rfl, _, _, rfl, rfl, ?_⟩
        refine ⟨_, rfl, _, _, rfl, rfl, _, rfl, _, _, rfl, ⟨by omega, by omega, by omega, by omega⟩, fun D hD => ?_⟩
        have ek : ((0 : Int) + (j : Int) + (2 + (i : Int)) - (0 + (j : Int) + 1)).toNat = i + 1 := by omega
        dsimp only
        rw [ek]
        refine lc_range (lo := 0 + (j : Int) + 1) (n := i + 1) (Pv := fun m H' => Same H2 H' ∧ H' D = some (.lst ((List.range' (j + 1) m).map fun x => .int (rc (okR fs) x j (j + (i + 2)) : Nat)))) ⟨Same.new hD, upd_same⟩ (fun m H3 hm ⟨s3, hD3⟩ => ?_) fun H3 ⟨s3, hD3⟩ => ?_
        · refine ⟨rfl, yesT ?_⟩
          obtain ⟨_, FO⟩ : ∃ _ : True, FtO CT CK H3 a dx kn tcs ccs rows tail n fs T U := ⟨trivial, F2.o.same s3⟩
          refine ⟨_, rfl, a, dx, _, rfl, FO.ob, FO.tn _ (by decide +kernel), _, rfl, _, rfl, _, rfl, a, n, fs, T, U, j + 1 + m, j, j + (i + 2), ?_, ⟨_, _, _, _, _, _, FO⟩, by omega, by omega, by omega, by omega, ?_, ?_, ?_⟩
          · show [V.ref a, V.int (0 + (j : Int) + 1 + (m : Int)), V.int (0 + (j : Int)), V.int (0 + (j : Int) + (2 + (i : Int)))] = _
            rw [show (0 : Int) + (j : Int) + 1 + (m : Int) = ((j + 1 + m : Nat) : Int) by omega, show (0 : Int) + (j : Int) = ((j : Nat) : Int) by omega, show (j : Int) + (2 + (i : Int)) = ((j + (i + 2) : Nat) : Int) by omega]
          · exact G2 _ _ (by omega) (by omega) (.inl (by omega))
          · exact G2 _ _ (by omega) (by omega) (.inl (by omega))
          · refine ⟨_, hD3, sizeLine_gt (by rw [List.length_map, List.length_range']; omega), Same.write s3 hD, ?_⟩
            rw [upd_same, List.range'_1_concat, List.map_append]; rfl
        · refine ⟨_, rfl, D, (List.range' (j + 1) (i + 1)).map fun x => ((rc (okR fs) x j (j + (i + 2)) : Nat) : Int), rfl, SqL.of (by rw [List.map_map]; exact hD3), ?_⟩
          rw [sum_cast]
          have esum : ((List.range' (j + 1) (i + 1)).map fun x => rc (okR fs) x j (j + (i + 2))).sum = tc (okR fs) j (j + (i + 2)) := by
            rw [tc_eq (by omega), show j + (i + 2) - j - 1 = i + 1 by omega]
          rw [esum]
          have F3 := F2.same s3
          have ej : (0 : Int) + (j : Int) = (j : Int) := by omega
          refine ⟨_, rfl, a, CT, dx, _, _, rfl, F3.o.ob, TC.cl, TC.trees, rfl, _, rfl, tcs, _, _, _, rfl, rfl, SqL.of F3.o.ts, tabR_at (i := j) ej (by omega), ?_⟩
          refine ⟨_, rfl, rows j, _, _, j + (i + 2), rfl, rfl, F3.o.rw j (by omega), ixN_nat (by omega) (by rw [tabI_len]; omega), ?_⟩
          rw [tabI_set]
          refine ⟨_, _, _, _, rfl, F3.row (by omega), fun x y h1 h2 h3 => ?_⟩
          by_cases e : x = j
          · subst e
            rw [put_same]
            by_cases e2 : y = x + (i + 2)
            · subst e2; rw [put_same]
            · rw [put_ne e2]; exact G2 x y h1 h2 (by omega)
          · rw [put_ne e]; exact G2 x y h1 h2 (by omega)
      · rintro σ H2 ⟨T, w2, w3, w4, rfl, F2, G2⟩
        refine ⟨_, _, _, _, _, rfl, F2, fun x y h1 h2 h3 => G2 x y h1 h2 ?_⟩
        have := em
        rcases h3 with h3 | ⟨h3, h4⟩
        · by_cases e : y < x + (i + 2)
          · exact .inl e
          · exact .inr ⟨by omega, by omega⟩
        · omega
    · rintro σ H' ⟨T, v1, v2, v3, v4, rfl, F1, G1⟩
      exact k _ _ F1 fun x y h1 h2 => G1 x y h1 h2 (.inl (by omega))
def GoodU (ok : Nat → Nat → Nat → Bool) (okn : Nat → Nat → Bool) (n : Nat) (U : Nat → Int) (lo : Nat) : Prop := ∀ b, lo ≤ b → b ≤ n + 1 → U b = (cc ok okn n b : Nat)
def sp_fill_chains (C CK : Addr) : Sp := fun vs H Q _ => ∃ (H0 : Hp) (a dx kn tcs ccs : Addr) (rows : Nat → Addr) (tail : List (Str × V)) (n : Nat) (fs : List Ft) (T : Nat → Nat → Int) (U : Nat → Int), vs = [.ref a] ∧ FtW C CK H0 H a dx kn tcs ccs rows tail n fs T U ∧ n ≤ 60 ∧
  (∀ a b, a < b → b ≤ n + 1 → T a b = (tc (okR fs) a b : Nat)) ∧ U (n + 1) = 1 ∧ ∀ H' U, FtW C CK H0 H' a dx kn tcs ccs rows tail n fs T U → GoodU (okR fs) (okN fs) n U 0 → Q .non H'
theorem w_fill_chains (X : Tx mg) (TC : CFt K CT) (D : Md K CT "fill_chains" "FitTable.fill_chains" s_FitTable_fill_chains) (c_FitTable_continued : Met P w K mg base 3 CT "continued" (sp_continued CT CK)) : Met P w K mg base 4 CT "fill_chains" (sp_fill_chains CT CK) := by
  have T := X
  refine met_of D sc_FitTable_fill_chains bd_FitTable_fill_chains (fun vs H Q E h => ?_) fun f cdv A outer s H vs Q E hr h => ?_
  · obtain ⟨H0, a, dx, kn, tcs, ccs, rows, tail, n, fs, T, U, rfl, _⟩ := h; rfl
  · obtain ⟨H0, a, dx, kn, tcs, ccs, rows, tail, n, fs, T, U, rfl, F, hn, hT, hU, k⟩ := h
    refine ⟨_, (pss_one
    (ps_for PassesOwn.never rfl (pi_revR rfl X.reversed (prg_1 rfl X.range (pe_op op_add (pe_fld (pv 0) rfl) pe_int))) (pg_name (i := 1) sc_FitTable_fill_chains.nd rfl (Or.inr rfl)) (pss_cons
    (ps_setLc (i := 2) (own := [("high", 3)]) (g := gName 3) (tt := tYes) (by rfl) sc_FitTable_fill_chains.nd rfl rfl (sw_true rfl rfl rfl (by decide +kernel)) (pi_range2 rfl X.range (pa_cons (pe_op op_add (pv 1) pe_int) (pa_cons (pe_op op_add (pe_fld (pv 0) rfl) pe_int) pa_nil))) (blkOk_by (own := [("high", 3)]) (N := N_FitTable_fill_chains) (sc := defScope s_FitTable_fill_chains) (by decide +kernel)) (fun _ _ _ _ _ => pg_name (i := 3) sc_FitTable_fill_chains.nd rfl (Or.inl rfl)) (fun _ _ _ _ _ => pts_nil) (fun _ _ _ _ _ => (pe_mt c_FitTable_continued hr (by decide) (pv 0) (pa_cons (pv 1) (pa_cons (pv 3) pa_nil))))) (pss_one
    (ps_asg (pe_callB (cr_sum rfl) (by rfl) X.sum (by decide +kernel) (pa_cons (pv 2) pa_nil)) (pg_sub (pe_fld (pv 0) rfl) (pv 1) set_list)))))), ?_⟩
    refine ⟨_, rfl, a, CT, dx, _, _, rfl, F.o.ob, TC.cl, TC.size, rfl, _, _, rfl, rfl, ?_⟩
    refine ⟨_, rfl, by omega, by omega, by omega, by omega, ?_⟩
    refine for_rangeC (fun i σ H' => ∃ U v1 v2, σ = [some (.ref a), v1, v2, none] ∧ FtW CT CK H0 H' a dx kn tcs ccs rows tail n fs T U ∧ GoodU (okR fs) (okN fs) n U (n + 1 - i)) ⟨_, _, _, rfl, F, ?_⟩ ?_ ?_
    · intro b h1 h2
      rw [show b = n + 1 by omega, hU, cc_nil (by omega)]; rfl
    · rintro i σ H2 hi ⟨U, w1, w2, rfl, F2, G2⟩
      have hi' : i < n + 1 := by have := hi; omega
      obtain ⟨lo, hlo⟩ : ∃ lo : Nat, lo = n - i := ⟨_, rfl⟩
      have elo : (0 : Int) + (((((n : Int) + 1) - 0).toNat : Nat) : Int) - 1 + ((i : Nat) : Int) * (-1) = (lo : Int) := by omega
      rw [elo]
      refine ⟨_, rfl, _, _, rfl, rfl, _, rfl, a, CT, dx, _, _, rfl, F2.o.ob, TC.cl, TC.size, rfl, _, _, rfl, rfl, _, _, rfl, ⟨by omega, by omega, by omega, by omega⟩, fun D hD => ?_⟩
      have ek : ((n : Int) + 2 - ((lo : Int) + 1)).toNat = i + 1 := by omega
      dsimp only
      rw [ek]
      refine lc_range (lo := (lo : Int) + 1) (n := i + 1) (Pv := fun m H' => Same H2 H' ∧ H' D = some (.lst ((List.range' (lo + 1) m).map fun x => .int (nc (okR fs) (okN fs) n lo x : Nat)))) ⟨Same.new hD, upd_same⟩ (fun m H3 hm ⟨s3, hD3⟩ => ?_) fun H3 ⟨s3, hD3⟩ => ?_
      · refine ⟨rfl, yesT ?_⟩
        have FO := F2.o.same s3
        refine ⟨_, rfl, a, dx, _, rfl, FO.ob, FO.tn _ (by decide +kernel), _, rfl, _, rfl, a, n, fs, T, U, lo, lo + 1 + m, ?_, ⟨_, _, _, _, _, _, FO⟩, by omega, by omega, by omega, ?_, ?_, ?_⟩
        · show [V.ref a, V.int (lo : Int), V.int ((lo : Int) + 1 + (m : Int))] = _
          rw [show (lo : Int) + 1 + (m : Int) = ((lo + 1 + m : Nat) : Int) by omega]
        · exact hT _ _ (by omega) (by omega)
        · exact G2 _ (by omega) (by omega)
        · refine ⟨_, hD3, sizeLine_gt (by rw [List.length_map, List.length_range']; omega), Same.write s3 hD, ?_⟩
          rw [upd_same, List.range'_1_concat, List.map_append]; rfl
      · refine ⟨_, rfl, D, (List.range' (lo + 1) (i + 1)).map fun x => ((nc (okR fs) (okN fs) n lo x : Nat) : Int), rfl, SqL.of (by rw [List.map_map]; exact hD3), ?_⟩
        rw [sum_cast]
        have esum : ((List.range' (lo + 1) (i + 1)).map fun x => nc (okR fs) (okN fs) n lo x).sum = cc (okR fs) (okN fs) n lo := by
          rw [cc_eq (by omega), show n + 1 - lo = i + 1 by omega]
        rw [esum]
        have F3 := F2.same s3
        refine ⟨_, rfl, a, CT, dx, _, _, rfl, F3.o.ob, TC.cl, TC.chains, rfl, _, rfl, ccs, _, _, lo, rfl, rfl, F3.o.cs, ixN_nat rfl (by rw [tabI_len]; omega), ?_⟩
        rw [tabI_set]
        refine ⟨_, _, _, rfl, F3.chain, fun b h1 h2 => ?_⟩
        by_cases e : b = lo
        · subst e; rw [put_same]
        · rw [put_ne e]; exact G2 b (by omega) h2
    · rintro σ H2 ⟨U, w1, w2, rfl, F2, G2⟩
      exact k _ _ F2 fun b h1 h2 => G2 b (by omega) h2
def sp_FitTable_init (C CK : Addr) : Sp := fun vs H Q _ => ∃ (H0 : Hp) (p dx a : Addr) (n : Nat) (fs : List Ft), vs = [.ref p, .int n, .ref a] ∧ Same H0 H ∧ H0 p = none ∧ H p = some (.ins C dx []) ∧ FL H0 a fs ∧ fs.length ≤ 1000 ∧ n ≤ 60 ∧
  ∀ H' T U, Same H0 H' → FtR C CK H' p n fs T U → (∃ F, H' p = some (.ins C dx F) ∧ F.lookup ("fit_count" : Str) = some (V.int ((fits n fs).length : Nat))) → (∀ a b, a < b → b ≤ n + 1 → T a b = (tc (okR fs) a b : Nat)) → GoodU (okR fs) (okN fs) n U 0 → Q .non H'
theorem w_FitTable_init (X : Tx mg) (TC : CFt K CT) (D : Id K mg "FitTable" CT "FitTable.__init__" s_FitTable_init) (c_Known_init : Mak P w K mg base 2 "Known" CK (sp_Known_init CK))
    (c_FitTable_fill_trees : Met P w K mg base 4 CT "fill_trees" (sp_fill_trees CT CK)) (c_FitTable_fill_chains : Met P w K mg base 4 CT "fill_chains" (sp_fill_chains CT CK)) : Mak P w K mg base 5 "FitTable" CT (sp_FitTable_init CT CK) := by
  have T := X
  refine mak_of D sc_FitTable_init bd_FitTable_init (fun vs H Q E h => ?_) fun f cdv A outer s H vs Q E hr h => ?_
  · obtain ⟨H0, p, dx, a, n, fs, rfl, _⟩ := h; rfl
  · obtain ⟨H0, p, dx, a, n, fs, rfl, s0, p0, hp, hfl, hln, hn, k⟩ := h
    refine ⟨_, (pss_cons
    (ps_fld (pv 0) (pv 1) rfl) (pss_cons
    (ps_fld (pv 0) (pe_mk c_Known_init hr (by decide) rfl (pa_cons (pv 2) pa_nil)) rfl) (pss_cons
    (ps_fld (pv 0) (pe_lc (own := [("_", 3)]) (g := gName 3) (tt := tYes) (by rfl) sc_FitTable_init.nd (pi_range1 rfl T.range (pa_cons (pe_op op_add (pv 1) pe_int) pa_nil)) (blkOk_by (own := [("_", 3)]) (N := N_FitTable_init) (sc := defScope s_FitTable_init) (by decide +kernel)) (fun _ _ _ _ _ => pg_name (i := 3) sc_FitTable_init.nd rfl (Or.inl rfl)) (fun _ _ _ _ _ => pts_nil) (fun _ _ _ _ _ => (pe_op op_rep (pe_lst (pa_cons pe_int pa_nil)) (pe_op op_add (pv 1) pe_int)))) rfl) (pss_cons
    (ps_fld (pv 0) (pe_op op_cat (pe_op op_rep (pe_lst (pa_cons pe_int pa_nil)) (pe_op op_add (pv 1) pe_int)) (pe_lst (pa_cons pe_int pa_nil))) rfl) (pss_cons
    (ps_expr (pe_mt0 c_FitTable_fill_trees hr (by decide) (pv 0))) (pss_cons
    (ps_expr (pe_mt0 c_FitTable_fill_chains hr (by decide) (pv 0))) (pss_one
    (ps_fld (pv 0) (pe_ix ix_list (pe_fld (pv 0) rfl) pe_int (fun _ _ => rfl)) rfl)))))))), ?_⟩
    refine ⟨_, rfl, _, rfl, p, CT, dx, _, rfl, hp, TC.cl, TC.size, (by show 0 < 1000; decide), ?_⟩
    obtain ⟨H1, e1, s1, h1⟩ : ∃ H1, L2.upd H p (.ins CT dx [("size", .int n)]) = H1 ∧ Same H0 H1 ∧ H1 p = some (.ins CT dx [("size", .int n)]) := ⟨_, rfl, Same.write s0 p0, upd_same⟩
    show tSeq _ _ _ _ (L2.upd H p (.ins CT dx [("size", .int n)]))
    rw [e1]
    refine ⟨_, rfl, fun kn dk nx ndx nex => ⟨H1, kn, dk, a, fs, rfl, same_made nx ndx, nx, upd_same, hfl.same s1, hln, fun H2 s2 K2 => ⟨rfl, ?_⟩⟩⟩
    have h2 := s2 _ _ h1
    refine ⟨_, rfl, p, CT, dx, _, rfl, h2, TC.cl, TC.known, (by show 1 < 1000; decide), ?_⟩
    obtain ⟨H3, e3, s3, h3, K3⟩ : ∃ H3, L2.upd H2 p (.ins CT dx [("size", .int n), ("known", .ref kn)]) = H3 ∧ Same H0 H3 ∧ H3 p = some (.ins CT dx [("size", .int n), ("known", .ref kn)]) ∧ KnR CK H3 kn fs :=
      ⟨_, rfl, Same.write (s1.trans s2) p0, upd_same, K2.ins h2 (fun e => by rw [e, h1] at nx; cases nx)⟩
    have nkp : kn ≠ p := fun e => by rw [e, h1] at nx; cases nx
    show tSeq _ _ _ _ (L2.upd H2 p (.ins CT dx [("size", .int n), ("known", .ref kn)]))
    rw [e3]
    -- the rows
    refine ⟨_, rfl, _, _, rfl, rfl, _, rfl, by omega, by omega, fun D hD => ?_⟩
    have npD : p ≠ D := ne_of_none h3 hD
    have en : ((n : Int) + 2).toNat = n + 2 := by omega
    dsimp only
    rw [en]
    refine lc_range (lo := 0) (n := n + 2) (Pv := fun i H' => Same H3 H' ∧ ∃ rows : Nat → Addr, H' D = some (.lst (tabR i rows)) ∧ (∀ j, j < i → H' (rows j) = some (.lst (tabI (n + 2) fun _ => 1)) ∧ H3 (rows j) = none ∧ rows j ≠ D) ∧ (∀ j l, j < i → l < i → j ≠ l → rows j ≠ rows l))
      ⟨Same.new hD, fun _ => 0, upd_same, fun j h => absurd h (by omega), fun j l h => absurd h (by omega)⟩ (fun i H4 hi ⟨s4, rows, hD4, hr4, ir⟩ => ?_) fun H4 ⟨s4, rows, hD4, hr4, ir⟩ => ?_
    · refine ⟨rfl, yesT ?_⟩
      refine ⟨by show 1 ≤ sizeLine; decide, fun q hq => ⟨_, rfl, _, _, rfl, rfl, q, _, _, rfl, rfl, upd_same, by omega, by omega, sizeLine_ge (by show 1 * _ ≤ _; omega), fun r hr' => ?_⟩⟩
      obtain ⟨hr0, nrq⟩ := upd_none hr'
      have nDq : D ≠ q := ne_of_none hD4 hq
      have nDr : D ≠ r := ne_of_none hD4 hr0
      rw [rep_tabI (N := n + 2) (by omega)]
      refine ⟨tabR i rows, by rw [upd_ne nDr, upd_ne nDq]; exact hD4, sizeLine_gt (by rw [tabR_len]; omega), Same.write (Same.write (Same.write s4 (s4.free hq)) (s4.free hr0)) hD, put rows i r, ?_, fun j hj => ?_, fun j l hj hl e => ?_⟩
      · rw [upd_same]
        unfold tabR
        rw [List.range_succ, List.map_append]
        show some (HO.lst (_ ++ [V.ref r])) = some (HO.lst (_ ++ [V.ref (put rows i r i)]))
        rw [put_same]
        refine congrArg (fun z => some (HO.lst (z ++ [V.ref r]))) (List.map_congr_left fun j hj => ?_)
        rw [put_ne (by have := List.mem_range.mp hj; omega)]
      · by_cases e : j = i
        · subst e; rw [put_same, upd_ne nDr.symm, upd_same]; exact ⟨rfl, s4.free hr0, nDr.symm⟩
        · rw [put_ne e]
          obtain ⟨q1, q2, q3⟩ := hr4 j (by omega)
          exact ⟨by rw [upd_ne q3, upd_ne (ne_of_none q1 hr0), upd_ne (ne_of_none q1 hq)]; exact q1, q2, q3⟩
      · by_cases e1 : j = i
        · subst e1; rw [put_same, put_ne e.symm]; exact (ne_of_none (hr4 l (by omega)).1 hr0).symm
        · rw [put_ne e1]
          by_cases e2 : l = i
          · subst e2; rw [put_same]; exact ne_of_none (hr4 j (by omega)).1 hr0
          · rw [put_ne e2]; exact ir j l (by omega) (by omega) e
    · have h4 := s4 _ _ h3
      refine ⟨_, rfl, p, CT, dx, _, rfl, h4, TC.cl, TC.trees, (by show 2 < 1000; decide), ?_⟩
      have npr : ∀ j, j < n + 2 → rows j ≠ p := fun j hj => (ne_of_none h3 (hr4 j hj).2.1).symm
      obtain ⟨H5, e5, s5, h5, K5, hD5, hr5⟩ : ∃ H5, L2.upd H4 p (.ins CT dx [("size", .int n), ("known", .ref kn), ("tree_counts", .ref D)]) = H5 ∧ Same H0 H5 ∧ H5 p = some (.ins CT dx [("size", .int n), ("known", .ref kn), ("tree_counts", .ref D)]) ∧ KnR CK H5 kn fs ∧ H5 D = some (.lst (tabR (n + 2) rows)) ∧ ∀ j, j < n + 2 → H5 (rows j) = some (.lst (tabI (n + 2) fun _ => 1)) :=
        ⟨_, rfl, Same.write (s3.trans s4) p0, upd_same, (K3.same s4).ins h4 nkp, by rw [upd_ne npD.symm]; exact hD4, fun j hj => by rw [upd_ne (npr j hj)]; exact (hr4 j hj).1⟩
      show tSeq _ _ _ _ (L2.upd H4 p (.ins CT dx [("size", .int n), ("known", .ref kn), ("tree_counts", .ref D)]))
      rw [e5]
      -- the chains
      refine ⟨by show 1 ≤ sizeLine; decide, fun q hq => ⟨_, rfl, _, _, rfl, rfl, q, _, _, rfl, rfl, upd_same, by omega, by omega, sizeLine_ge (by show 1 * _ ≤ _; omega), fun r hr' => ?_⟩⟩
      rw [rep_tabI (N := n + 1) (by omega)]
      obtain ⟨H6, e6, s6, hr6⟩ : ∃ H6, L2.upd (L2.upd H5 q (.lst [V.int 0])) r (.lst (tabI (n + 1) fun _ => 0)) = H6 ∧ Same H5 H6 ∧ H6 r = some (.lst (tabI (n + 1) fun _ => 0)) := ⟨_, rfl, Same.upd (Same.new hq) hr', upd_same⟩
      dsimp only
      rw [e6]
      refine ⟨by show 1 ≤ sizeLine; decide, fun u hu => ⟨r, u, _, _, rfl, rfl, by rw [upd_ne (ne_of_none hr6 hu)]; exact hr6, upd_same, sizeLine_ge (by rw [tabI_len]; show n + 1 + 1 ≤ _; omega), fun cs hcs => ?_⟩⟩
      obtain ⟨hcs6, ncu⟩ := upd_none hcs
      have s7 : Same H5 (L2.upd (L2.upd H6 u (.lst [V.int 1])) cs (.lst (tabI (n + 1) (fun _ => 0) ++ [V.int 1]))) := Same.upd (Same.upd s6 hu) hcs
      have ecs : tabI (n + 1) (fun _ => 0) ++ [V.int 1] = tabI (n + 2) (put (fun _ => 0) (n + 1) 1) := by
        unfold tabI
        rw [List.range_succ (n := n + 1), List.map_append]
        refine congr (congrArg HAppend.hAppend (List.map_congr_left fun j hj => ?_)) ?_
        · rw [put_ne (by have := List.mem_range.mp hj; omega)]
        · show [V.int 1] = [V.int (put (fun _ => 0) (n + 1) 1 (n + 1))]
          rw [put_same]
      obtain ⟨H7, e7, s7, hcs7⟩ : ∃ H7, L2.upd (L2.upd H6 u (.lst [V.int 1])) cs (.lst (tabI (n + 1) (fun _ => 0) ++ [V.int 1])) = H7 ∧ Same H5 H7 ∧ H7 cs = some (.lst (tabI (n + 2) (put (fun _ => 0) (n + 1) 1))) := ⟨_, rfl, s7, by rw [upd_same, ecs]⟩
      rw [e7]
      have h7 := s7 _ _ h5
      have cs5 : H5 cs = none := s6.free hcs6
      refine ⟨_, rfl, p, CT, dx, _, rfl, h7, TC.cl, TC.chains, (by show 3 < 1000; decide), ?_⟩
      have npc : p ≠ cs := ne_of_none h5 cs5
      have W8 : FtW CT CK H0 (L2.upd H7 p (.ins CT dx (ftF n kn D cs []))) p dx kn D cs rows [] n fs (fun _ _ => 1) (put (fun _ => 0) (n + 1) 1) := by
        refine ⟨Same.write (s5.trans s7) p0, ⟨upd_same, (K5.same s7).ins h7 nkp, ?_, fun j hj => ?_, ?_, fun _ _ => rfl⟩, fun j hj => s3.free (hr4 j hj).2.1, s5.free cs5, p0, ir, fun j hj => ?_⟩
        · rw [upd_ne npD.symm]; exact s7 _ _ hD5
        · rw [upd_ne (npr j hj)]; exact s7 _ _ (hr5 j hj)
        · rw [upd_ne npc.symm]; exact hcs7
        · exact ne_of_none (hr5 j hj) cs5
      show tSeq _ _ _ _ (L2.upd H7 p (.ins CT dx (ftF n kn D cs [])))
      generalize L2.upd H7 p (.ins CT dx (ftF n kn D cs [])) = H8 at W8
      refine ⟨_, rfl, p, dx, _, rfl, W8.o.ob, rfl, H0, p, dx, kn, D, cs, rows, [], n, fs, _, rfl, W8, hn, fun H9 T W9 hT => ?_⟩
      refine ⟨_, rfl, p, dx, _, rfl, W9.o.ob, rfl, H0, p, dx, kn, D, cs, rows, [], n, fs, T, _, rfl, W9, hn, hT, put_same, fun H10 U W10 hU => ?_⟩
      refine ⟨_, rfl, p, CT, dx, _, _, rfl, W10.o.ob, TC.cl, TC.chains, rfl, cs, _, _, _, rfl, rfl, SqL.of W10.o.cs, tabI_at (i := 0) rfl (by omega), ?_⟩
      refine ⟨_, rfl, p, CT, dx, _, rfl, W10.o.ob, TC.cl, TC.count, (by show 4 < 1000; decide), ?_⟩
      have npr2 : ∀ j, j < n + 2 → rows j ≠ p := npr
      refine k _ T U (Same.write W10.sm p0) ⟨dx, kn, D, cs, rows, [("fit_count", .int (U 0))], upd_same, W10.o.kn.ins W10.o.ob nkp, ?_, fun j hj => ?_, ?_, fun nm hnm => ?_⟩ ⟨_, upd_same, ?_⟩ hT hU
      · rw [upd_ne npD.symm]; exact W10.o.ts
      · rw [upd_ne (npr j hj)]; exact W10.o.rw j hj
      · rw [upd_ne npc.symm]; exact W10.o.cs
      · rw [List.lookup_cons, show (nm == ("fit_count" : Str)) = false from by rw [beq_eq_false_iff_ne]; exact hnm]; rfl
      · show some (V.int (U 0)) = _
        rw [hU 0 (by omega) (by omega)]; rfl
end
end LK
end

section
/-! LKWalk10 -/
set_option maxHeartbeats 2000000
namespace LK
open PySem PySem.Spec PyProof.Rows L2
theorem rwH {A : Sort _} {a b : A} {F : A → Prop} (e : a = b) (h : F b) : F a := e ▸ h
theorem iteT_ {b : Bool} {A B : Prop} (e : b = true) (h : A) : if b = true then A else B := by rw [if_pos e]; exact h
theorem Paired.snoc_inv {α β : Type} {F : α → β → Prop} : ∀ {ts : List α} {st : List β} {x : β}, Paired F ts (st ++ [x]) → ∃ ts' t, ts = ts' ++ [t] ∧ Paired F ts' st ∧ F t x
  | [], [], _, h => nomatch h
  | [], _ :: _, _, h => nomatch h
  | t :: ts, [], x, h => by
    cases h with
    | cons r h2 => cases h2; exact ⟨[], t, rfl, .nil, r⟩
  | t :: ts, y :: st, x, h => by
    cases h with
    | cons r h2 =>
      obtain ⟨ts', u, e, p, q⟩ := Paired.snoc_inv h2
      exact ⟨t :: ts', u, by rw [e]; rfl, .cons r p, q⟩
structure It where
  lo : Nat
  hi : Nat
  pl : Nat
  t : Tr
structure ItOk (ok : Nat → Nat → Nat → Bool) (n : Nat) (it : It) : Prop where
  lt : it.lo < it.hi
  le : it.hi ≤ n + 1
  at_ : (trs ok it.lo it.hi)[it.pl]? = some it.t
def ItAt (H : Hp) (t : Addr) (it : It) : Prop := H t = some (.tup [.int (it.lo : Nat), .int (it.hi : Nat), .int (it.pl : Nat)])
def todo (st : List It) : List Nat := st.reverse.flatMap fun it => rpre it.t
theorem todo_snoc (st : List It) (it : It) : todo (st ++ [it]) = rpre it.t ++ todo st := by unfold todo; rw [List.reverse_append]; rfl
def mu (st : List It) : Nat := (st.map fun it => 2 * (rpre it.t).length + 1).sum
theorem mu_snoc (st : List It) (it : It) : mu (st ++ [it]) = mu st + (2 * (rpre it.t).length + 1) := by unfold mu; simp
theorem len_mu (st : List It) : st.length ≤ mu st := by
  induction st with
  | nil => simp [mu]
  | cons x st ih => unfold mu at ih ⊢; simp only [List.map_cons, List.sum_cons, List.length_cons]; omega
theorem rpre_len {t : Tr} {a b : Nat} (h : TreeF t a b) : (rpre t).length + 1 = b - a := by
  have h1 := preKey_len h
  have h2 : ∀ t : Tr, ∀ a, (preKey t a).length = (rpre t).length := by
    intro t
    induction t with
    | nil => intro a; rfl
    | node l x r ihl ihr => intro a; simp only [preKey, rpre, List.length_cons, List.length_append, ihl, ihr]; omega
  rw [← h2 t a]; exact h1
theorem bits120 {i : Int} (h : i.natAbs < 2 ^ 120) : Builtin.Int.intBits i ≤ 120 := PyProof.Rows.intBits_le h
theorem divp120 {i j : Nat} (hi : i < 2 ^ 120) (hj : 0 < j) : CDivP (i : Int) (j : Int) := divp_ok (by omega) (by have := bits120 (i := (i : Int)) (by simpa using hi); omega)
def TAI (ok : Nat → Nat → Nat → Bool) (n : Nat) (a fo wa : Addr) (H : Hp) (tgt : List Nat) (m : Nat) (σ : L2.St) (H' : Hp) : Prop :=
  ∃ v1 v2 v3 v6 v7 v8 done ts st, m = mu st ∧ σ = [some (.ref a), some v1, some v2, some v3, some (.ref fo), some (.ref wa), v6, v7, v8] ∧ Same H H' ∧ H' fo = some (.lst (intL done)) ∧ H' wa = some (.lst (ts.map V.ref)) ∧
      Paired (ItAt H') ts st ∧ (∀ it ∈ st, ItOk ok n it) ∧ done ++ todo st = tgt ∧ mu st ≤ 121
def TAJ (ok : Nat → Nat → Nat → Bool) (a fo wa : Addr) (H3 : Hp) (lo hi : Nat) (t : Tr) (v7 v8 : Option V) (m : Nat) (σ : L2.St) (H' : Hp) : Prop :=
  ∃ x kk pl, m = kk ∧ σ = [some (.ref a), some (.int (lo : Nat)), some (.int (hi : Nat)), some (.int (pl : Nat)), some (.ref fo), some (.ref wa), some (.int (x : Nat)), v7, v8] ∧ H' = H3 ∧ lo < x ∧ x + kk = hi ∧ 0 < kk ∧ pl < 2 ^ 120 ∧ ((List.range' x kk).flatMap fun y => rootedL ok y lo hi)[pl]? = some t
section
variable {P : Program} {w : World} {K : PySem.W.Frag} {mg : Str → Option Value} {base : Heap} {CK CT CL CF : Addr}
def sp_tree_at (C CK : Addr) : Sp := fun vs H Q _ => ∃ (a : Addr) (n : Nat) (fs : List Ft) (T : Nat → Nat → Int) (U : Nat → Int) (lo hi pl : Nat) (t : Tr), vs = [.ref a, .int lo, .int hi, .int pl] ∧ FtR C CK H a n fs T U ∧ n ≤ 60 ∧
  (∀ a b, a < b → b ≤ n + 1 → T a b = (tc (okR fs) a b : Nat)) ∧ ItOk (okR fs) n ⟨lo, hi, pl, t⟩ ∧ ∀ H' p, Same H H' → H p = none → H' p = some (.lst (intL (post t))) → Q (.ref p) H'
theorem w_tree_at (X : Tx mg) (TC : CFt K CT) (D : Md K CT "tree_at" "FitTable.tree_at" s_FitTable_tree_at) (c_FitTable_rooted : Met P w K mg base 3 CT "rooted" (sp_rooted CT CK)) : Met P w K mg base 4 CT "tree_at" (sp_tree_at CT CK) := by
  refine met_of D sc_FitTable_tree_at bd_FitTable_tree_at (fun vs H Q E h => ?_) fun f cdv A outer s H vs Q E hr h => ?_
  · obtain ⟨a, n, fs, T, U, lo, hi, pl, t, rfl, _⟩ := h; rfl
  · obtain ⟨a, n, fs, T, U, lo, hi, pl, t, rfl, R, hn, hT, ok, k⟩ := h
    refine ⟨_, (pss_cons
    (ps_set (i := 4) sc_FitTable_tree_at.nd rfl (Or.inl rfl) (pe_lst pa_nil)) (pss_cons
    (ps_set (i := 5) sc_FitTable_tree_at.nd rfl (Or.inl rfl) (pe_lst (pa_cons (pe_tup (pa_cons (pv 1) (pa_cons (pv 2) (pa_cons (pv 3) pa_nil)))) pa_nil))) (pss_cons
    (ps_while PassesOwn.never (pt_truth (pv 5) (by intro _; rfl)) (pss_cons
    (ps_asg (pe_bm0 PySem.F.plainAttrs_list PySem.F.slot_list_pop PySem.F.type_list_pop mt_pop (pv 5)) (pg_tup rfl (pgs_cons (pg_name (i := 1) sc_FitTable_tree_at.nd rfl (Or.inl rfl)) (pgs_cons (pg_name (i := 2) sc_FitTable_tree_at.nd rfl (Or.inl rfl)) (pgs_cons (pg_name (i := 3) sc_FitTable_tree_at.nd rfl (Or.inl rfl)) pgs_nil))))) (pss_cons
    (ps_if (pt_cmpR op_eq (pv 2) (pe_op op_add (pv 1) pe_int) (nomark _)) (pss_one
    ps_continue) pss_nil) (pss_cons
    (ps_set (i := 6) sc_FitTable_tree_at.nd rfl (Or.inl rfl) (pe_op op_add (pv 1) pe_int)) (pss_cons
    (ps_while PassesOwn.never (pt_cmpR op_ge (pv 3) (pe_mt c_FitTable_rooted hr (by decide) (pv 0) (pa_cons (pv 6) (pa_cons (pv 1) (pa_cons (pv 2) pa_nil)))) (nomark _)) (pss_cons
    (ps_aug (i := 3) sc_FitTable_tree_at.nd rfl (Or.inl rfl) (pe_mt c_FitTable_rooted hr (by decide) (pv 0) (pa_cons (pv 6) (pa_cons (pv 1) (pa_cons (pv 2) pa_nil)))) ip_sub) (pss_one
    (ps_aug (i := 6) sc_FitTable_tree_at.nd rfl (Or.inl rfl) pe_int ip_add)))) (pss_cons
    (ps_asg (pe_callB call_divmodW (by rfl) X.divmod (by decide +kernel) (pa_cons (pv 3) (pa_cons (pe_ix ix_list (pe_ix ix_list (pe_fld (pv 0) rfl) (pv 6) (fun _ _ => rfl)) (pv 2) (fun _ _ => rfl)) pa_nil))) (pg_tup rfl (pgs_cons (pg_name (i := 7) sc_FitTable_tree_at.nd rfl (Or.inl rfl)) (pgs_cons (pg_name (i := 8) sc_FitTable_tree_at.nd rfl (Or.inl rfl)) pgs_nil)))) (pss_cons
    (ps_expr (pe_bm PySem.F.plainAttrs_list PySem.F.slot_list_append PySem.F.type_list_append mt_append (pv 4) (pa_cons (pv 6) pa_nil))) (pss_cons
    (ps_expr (pe_bm PySem.F.plainAttrs_list PySem.F.slot_list_append PySem.F.type_list_append mt_append (pv 5) (pa_cons (pe_tup (pa_cons (pv 1) (pa_cons (pv 6) (pa_cons (pv 7) pa_nil)))) pa_nil))) (pss_one
    (ps_expr (pe_bm PySem.F.plainAttrs_list PySem.F.slot_list_append PySem.F.type_list_append mt_append (pv 5) (pa_cons (pe_tup (pa_cons (pv 6) (pa_cons (pv 2) (pa_cons (pv 8) pa_nil)))) pa_nil)))))))))))) (pss_one
    (ps_ret (pe_revL (pv 4))))))), ?_⟩
    have tf := trs_form ok.lt (List.mem_of_getElem? ok.at_)
    have tl := rpre_len tf
    have ole := ok.le
    have olt := ok.lt
    dsimp only at tl ole olt
    refine ⟨by show 0 ≤ sizeLine; decide, fun fo hfo => ?_⟩
    refine ⟨_, rfl, _, rfl, _, rfl, by show 3 ≤ sizeLine; decide, fun t0 ht0 => ⟨by show 1 ≤ sizeLine; decide, fun wa hwa => ?_⟩⟩
    obtain ⟨ht1, nft⟩ := upd_none ht0
    obtain ⟨hwa1, ntw⟩ := upd_none hwa
    obtain ⟨hwa0', nfw⟩ := upd_none hwa1
    have hwa0 := hwa0'
    refine ⟨TAI (okR fs) n a fo wa H (rpre t), ⟨mu [⟨lo, hi, pl, t⟩], _, _, _, _, _, _, [], [t0], [⟨lo, hi, pl, t⟩], rfl, rfl, ?_, ?_, ?_, ?_, ?_, ?_, ?_⟩, ?_⟩
    · exact Same.upd (Same.upd (Same.new hfo) ht0) hwa
    · rw [upd_ne nfw.symm, upd_ne nft.symm]; exact upd_same
    · exact upd_same
    · refine .cons ?_ .nil
      show L2.upd _ wa _ t0 = _
      rw [upd_ne ntw.symm, upd_same]
    · intro it hit
      rw [List.mem_singleton.mp hit]; exact ok
    · simp [todo]
    · simp [mu]; omega
    · rintro m σ H2 ⟨v1, v2, v3, v6, v7, v8, done, ts, st, rfl, rfl, s2, hf2, hw2, pst, oks, edone, hmu⟩
      refine ⟨_, rfl, _, .inl ⟨_, SqL.of hw2, rfl⟩, ?_⟩
      rcases List.eq_nil_or_concat st with rfl | ⟨st', it, rfl⟩
      · cases pst
        refine iteF ?_
        refine ⟨_, rfl, fo, _, rfl, SqL.of hf2, fun p hp => ?_⟩
        refine k _ _ (Same.upd s2 hp) (s2.free hp) ?_
        rw [upd_same, ← List.map_reverse]
        have e : done = rpre t := by rw [← edone]; simp [todo]
        rw [e, rpre_rev]
      · rw [List.concat_eq_append] at *
        obtain ⟨ts', tt, rfl, pst', htt⟩ := Paired.snoc_inv pst
        have oki := oks it (List.mem_append_right _ (List.mem_singleton.mpr rfl))
        obtain ⟨lo', hi', pl', t'⟩ := it
        obtain ⟨olt', ole', oat'⟩ := oki
        replace olt' : lo' < hi' := olt'
        replace ole' : hi' ≤ n + 1 := ole'
        replace oat' : (trs (okR fs) lo' hi')[pl']? = some t' := oat'
        rw [mu_snoc] at hmu ⊢
        rw [todo_snoc] at edone
        dsimp only at hmu edone ⊢
        refine iteT_ (by simp) ?_
        refine ⟨fun σ' H' => ∃ m', m' < mu st' + (2 * (rpre t').length + 1) ∧ TAI (okR fs) n a fo wa H (rpre t) m' σ' H', fun _ _ h => h, ?_⟩
        refine ⟨_, rfl, .inl ⟨rfl, _, SqL.of hw2⟩, wa, _, .ref tt, rfl, rfl, hw2, by simp, ?_⟩
        have nwt : tt ≠ wa := ne_of htt hw2 (fun e => by cases e)
        have nwf : fo ≠ wa := nfw.symm
        have npop : ∀ t it, ItAt H2 t it → ItAt (L2.upd H2 wa (.lst (ts'.map V.ref))) t it := fun t it q => by
          have := ne_of q hw2 (fun e => by cases e)
          show L2.upd _ wa _ t = _
          rw [upd_ne this]; exact q
        rw [show ((ts' ++ [tt]).map V.ref).dropLast = ts'.map V.ref by simp]
        obtain ⟨H3, e3, s3, hf3, hw3, htt3, pst3⟩ : ∃ H3, L2.upd H2 wa (.lst (ts'.map V.ref)) = H3 ∧ Same H H3 ∧ H3 fo = some (.lst (intL done)) ∧ H3 wa = some (.lst (ts'.map V.ref)) ∧ ItAt H3 tt ⟨lo', hi', pl', t'⟩ ∧ Paired (ItAt H3) ts' st' :=
          ⟨_, rfl, Same.write s2 hwa0', by rw [upd_ne nwf]; exact hf2, upd_same, npop _ _ htt, L2.Paired.mapP pst' fun t it q => npop t it q⟩
        rw [e3]
        refine ⟨tt, _, rfl, SqT.of htt3, rfl, _, _, rfl, _, _, rfl, _, _, rfl, rfl, ?_⟩
        refine ⟨_, rfl, _, rfl, _, _, rfl, rfl, rfl, ?_⟩
        by_cases hh : hi' = lo' + 1
        · refine ⟨true, dT (by rw [hh]; rfl), iteT ?_⟩
          rw [trs_nil (a := lo') (b := hi') (by omega)] at oat'
          have et : t' = .nil := by
            cases pl' with
            | zero => simpa using oat'.symm
            | succ p => simp at oat'
          subst et
          exact ⟨mu st', by simp [rpre], _, _, _, _, _, _, done, ts', st', rfl, rfl, s3, hf3, hw3, pst3, fun it h => oks it (List.mem_append_left _ h), edone, by omega⟩
        · refine ⟨false, dF (vint_ne (show ((hi' : Nat) : Int) ≠ (lo' : Int) + 1 by omega)), iteF ?_⟩
          refine ⟨_, rfl, _, _, rfl, rfl, ?_⟩
          rw [trs_eq (a := lo') (b := hi') (by omega)] at oat'
          have opl : pl' < 2 ^ 120 := by
            have h1 := (List.getElem?_eq_some_iff.mp oat').1
            rw [← trs_eq (a := lo') (b := hi') (by omega)] at h1
            exact Nat.lt_trans h1 (tc_small olt' (by omega))
          refine ⟨TAJ (okR fs) a fo wa H3 lo' hi' t' v7 v8, ⟨hi' - lo' - 1, lo' + 1, hi' - lo' - 1, pl', rfl, rfl, rfl, by omega, by omega, by omega, opl, oat'⟩, ?_⟩
          rintro m σ H4 ⟨x, kk, p, rfl, rfl, rfl, lx, xk, k0, pb, hat⟩
          obtain ⟨dx, kn, tcs, ccs, rows, tail, O⟩ := R.same s3
          have Rr := R.same s3
          refine ⟨_, rfl, _, rfl, a, dx, _, rfl, O.ob, O.tn _ (by decide +kernel), _, rfl, _, rfl, _, rfl, a, n, fs, T, U, x, lo', hi', rfl, Rr, lx, by omega, ole', hn, hT _ _ (by omega) (by omega), hT _ _ (by omega) (by omega), ?_⟩
          refine ⟨_, _, rfl, rfl, ?_⟩
          by_cases hge : rc (okR fs) x lo' hi' ≤ p
          · refine ⟨true, dT (by omega), iteT ?_⟩
            obtain ⟨k', rfl, k0', hat'⟩ := scan_next (f := fun y => rootedL (okR fs) y lo' hi') hat (by rw [len_rootedL]; exact hge)
            rw [len_rootedL] at hat'
            refine ⟨fun σ' H' => ∃ m', m' < k' + 1 ∧ TAJ (okR fs) a fo wa H4 lo' hi' t' v7 v8 m' σ' H', fun _ _ h => h, ?_⟩
            refine ⟨_, rfl, _, rfl, a, dx, _, rfl, O.ob, O.tn _ (by decide +kernel), _, rfl, _, rfl, _, rfl, a, n, fs, T, U, x, lo', hi', rfl, Rr, lx, by omega, ole', hn, hT _ _ (by omega) (by omega), hT _ _ (by omega) (by omega), ?_⟩
            refine ⟨_, _, rfl, rfl, _, rfl, _, _, rfl, rfl, ?_⟩
            refine ⟨k', by omega, x + 1, k', p - rc (okR fs) x lo' hi', rfl, ?_, rfl, by omega, by omega, k0', by omega, hat'⟩
            show [some (V.ref a), some (V.int (lo' : Nat)), some (V.int (hi' : Nat)), some (V.int ((p : Nat) - (rc (okR fs) x lo' hi' : Nat))), some (V.ref fo), some (V.ref wa), some (V.int ((x : Nat) + 1)), v7, v8] = _
            rw [show ((p : Nat) : Int) - (rc (okR fs) x lo' hi' : Nat) = ((p - rc (okR fs) x lo' hi' : Nat) : Int) by omega, show ((x : Nat) : Int) + 1 = ((x + 1 : Nat) : Int) by omega]
          · refine ⟨false, dF (by omega), iteF ?_⟩
            have hr0 := scan_here (f := fun y => rootedL (okR fs) y lo' hi') hat (by rw [len_rootedL]; omega)
            obtain ⟨tpos, l, r, hl, hr2, rfl⟩ := rooted_at hr0
            refine ⟨_, rfl, _, rfl, a, CT, dx, _, _, rfl, O.ob, TC.cl, TC.trees, rfl, _, rfl, tcs, _, _, _, rfl, rfl, SqL.of O.ts, tabR_at (i := x) rfl (by omega), ?_⟩
            refine ⟨_, rfl, rows x, _, _, _, rfl, rfl, SqL.of (O.rw x (by omega)), tabI_at (i := hi') rfl (by omega), ?_⟩
            rw [hT x hi' (by omega) ole']
            refine ⟨_, _, rfl, divp120 pb tpos, fun q hq => ?_⟩
            rw [← Int.natCast_ediv, ← Int.natCast_emod]
            refine ⟨q, _, rfl, SqT.of upd_same, rfl, _, _, rfl, _, _, rfl, rfl, ?_⟩
            obtain ⟨H5, e5, s5⟩ : ∃ H5, L2.upd H4 q (.tup [.int ((p / tc (okR fs) x hi' : Nat) : Int), .int ((p % tc (okR fs) x hi' : Nat) : Int)]) = H5 ∧ Same H4 H5 := ⟨_, rfl, Same.new hq⟩
            dsimp only
            rw [e5]
            -- found.append(node)
            refine ⟨_, rfl, .inl ⟨rfl, _, SqL.of (s5 _ _ hf3)⟩, _, rfl, fo, _, _, rfl, rfl, s5 _ _ hf3, sizeLine_gt ?_, ?_⟩
            · have := congrArg List.length edone
              simp only [List.length_append] at this
              rw [List.length_map]; omega
            have f5 := s5 _ _ hf3
            have w5 := s5 _ _ hw3
            have efo : intL done ++ [V.int (x : Nat)] = intL (done ++ [x]) := by simp [intL]
            rw [efo]
            have ntw2 : ∀ {Hx : Hp} {t it xs}, ItAt Hx t it → Hx wa = some (.lst xs) → t ≠ wa := fun h1 h2 => ne_of h1 h2 (fun e => by cases e)
            obtain ⟨H6, e6, s6, f6, w6, p6⟩ : ∃ H6, L2.upd H5 fo (.lst (intL (done ++ [x]))) = H6 ∧ Same H H6 ∧ H6 fo = some (.lst (intL (done ++ [x]))) ∧ H6 wa = some (.lst (ts'.map V.ref)) ∧ Paired (ItAt H6) ts' st' := by
              refine ⟨_, rfl, Same.write (s3.trans s5) hfo, upd_same, by rw [upd_ne nwf.symm]; exact w5, L2.Paired.mapP pst3 fun t it q => ?_⟩
              have q5 : ItAt H5 t it := s5 _ _ q
              show L2.upd _ fo _ t = _
              rw [upd_ne (ne_of q5 f5 (fun e => by cases e))]; exact q5
            rw [e6]
            have hl2 : (ts'.map V.ref).length ≤ 121 := by
              rw [List.length_map, Paired.len pst']
              have := len_mu st'
              omega
            -- waiting.append((low, node, before))
            refine ⟨_, rfl, .inl ⟨rfl, _, SqL.of w6⟩, _, rfl, _, rfl, _, rfl, by show 3 ≤ sizeLine; decide, fun t1 ht1 => ?_⟩
            have nf1 : fo ≠ t1 := ne_of_none f6 ht1
            have nw1 : wa ≠ t1 := ne_of_none w6 ht1
            refine ⟨wa, _, _, rfl, rfl, by rw [upd_ne nw1]; exact w6, sizeLine_gt (by omega), ?_⟩
            obtain ⟨H7, e7, s7, f7, w7, p7⟩ : ∃ H7, L2.upd (L2.upd H6 t1 (.tup [.int (lo' : Nat), .int (x : Nat), .int ((p / tc (okR fs) x hi' : Nat) : Int)])) wa (.lst ((ts' ++ [t1]).map V.ref)) = H7 ∧ Same H H7 ∧ H7 fo = some (.lst (intL (done ++ [x]))) ∧ H7 wa = some (.lst ((ts' ++ [t1]).map V.ref)) ∧ Paired (ItAt H7) (ts' ++ [t1]) (st' ++ [⟨lo', x, p / tc (okR fs) x hi', l⟩]) := by
              refine ⟨_, rfl, Same.write (Same.upd s6 ht1) hwa0, by rw [upd_ne nwf, upd_ne nf1]; exact f6, upd_same, Paired.app (L2.Paired.mapP p6 fun t it q => ?_) (.cons ?_ .nil)⟩
              · show L2.upd _ wa _ t = _
                rw [upd_ne (ntw2 q w6), upd_ne (ne_of_none q ht1)]; exact q
              · show L2.upd _ wa _ t1 = _
                rw [upd_ne nw1.symm, upd_same]
            rw [show ts'.map V.ref ++ [V.ref t1] = (ts' ++ [t1]).map V.ref by simp]
            refine rwH e7 ?_
            -- waiting.append((node, high, behind))
            refine ⟨_, rfl, .inl ⟨rfl, _, SqL.of w7⟩, _, rfl, _, rfl, _, rfl, by show 3 ≤ sizeLine; decide, fun t2 ht2 => ?_⟩
            have nf2 : fo ≠ t2 := ne_of_none f7 ht2
            have nw2 : wa ≠ t2 := ne_of_none w7 ht2
            refine ⟨wa, _, _, rfl, rfl, by rw [upd_ne nw2]; exact w7, sizeLine_gt (by simp at hl2 ⊢; omega), ?_⟩
            have hlr : (rpre (Tr.node l x r)).length = 1 + (rpre r).length + (rpre l).length := by simp [rpre]; omega
            refine ⟨mu (st' ++ [⟨lo', x, p / tc (okR fs) x hi', l⟩] ++ [⟨x, hi', p % tc (okR fs) x hi', r⟩]), ?_, _, _, _, _, _, _, done ++ [x], ts' ++ [t1] ++ [t2], st' ++ [⟨lo', x, p / tc (okR fs) x hi', l⟩] ++ [⟨x, hi', p % tc (okR fs) x hi', r⟩], rfl, rfl, Same.write (Same.upd s7 ht2) hwa0, ?_, ?_, Paired.app (L2.Paired.mapP p7 fun t it q => ?_) (.cons ?_ .nil), ?_, ?_, ?_⟩
            · rw [mu_snoc, mu_snoc, hlr]; dsimp only; omega
            · rw [upd_ne nwf, upd_ne nf2]; exact f7
            · rw [upd_same]; simp
            · show L2.upd _ wa _ t = _
              rw [upd_ne (ntw2 q w7), upd_ne (ne_of_none q ht2)]; exact q
            · show L2.upd _ wa _ t2 = _
              rw [upd_ne nw2.symm, upd_same]
            · intro it hit
              rcases List.mem_append.mp hit with hit | hit
              · rcases List.mem_append.mp hit with hit | hit
                · exact oks it (List.mem_append_left _ hit)
                · rw [List.mem_singleton.mp hit]; exact ⟨lx, by show x ≤ n + 1; omega, hl⟩
              · rw [List.mem_singleton.mp hit]; exact ⟨by show x < hi'; omega, ole', hr2⟩
            · rw [todo_snoc, todo_snoc, ← edone]; simp [rpre]
            · rw [mu_snoc, mu_snoc]; rw [hlr] at hmu; dsimp only; omega
end
end LK
end

section
/-! LKWalk11 -/
set_option maxHeartbeats 2000000
namespace LK
open PySem PySem.Spec PyProof.Rows L2
def MEI (ok : Nat → Nat → Nat → Bool) (okn : Nat → Nat → Bool) (n : Nat) (a rm : Addr) (H : Hp) (tgt : List Nat) (m : Nat) (σ : L2.St) (H' : Hp) : Prop :=
  ∃ (lo pl : Nat) (v4 v5 : Option V) (done : List Nat) (d : Ch), m = n + 1 - lo ∧ σ = [some (.ref a), some (.int (pl : Nat)), some (.ref rm), some (.int (lo : Nat)), v4, v5] ∧ Same H H' ∧ H' rm = some (.lst (intL done)) ∧ lo ≤ n + 1 ∧ (chs ok okn n lo)[pl]? = some d ∧ done ++ chPost d = tgt
def MEJ (ok : Nat → Nat → Nat → Bool) (okn : Nat → Nat → Bool) (n : Nat) (a rm : Addr) (H3 : Hp) (lo : Nat) (d : Ch) (v5 : Option V) (m : Nat) (σ : L2.St) (H' : Hp) : Prop :=
  ∃ x kk pl : Nat, m = kk ∧ σ = [some (.ref a), some (.int (pl : Nat)), some (.ref rm), some (.int (lo : Nat)), some (.int (x : Nat)), v5] ∧ H' = H3 ∧ lo < x ∧ x + kk = n + 2 ∧ 0 < kk ∧ pl < 2 ^ 120 ∧ ((List.range' x kk).flatMap fun y => contL ok okn n lo y)[pl]? = some d
section
variable {P : Program} {w : World} {K : PySem.W.Frag} {mg : Str → Option Value} {base : Heap} {CK CT CL CF : Addr}
def sp_member (C CK CL CF : Addr) : Sp := fun vs H Q _ => ∃ (a : Addr) (n : Nat) (fs : List Ft) (T : Nat → Nat → Int) (U : Nat → Int) (pl : Nat) (c : Ch), vs = [.ref a, .int pl] ∧ FtR C CK H a n fs T U ∧ n ≤ 60 ∧
  (∀ a b, a < b → b ≤ n + 1 → T a b = (tc (okR fs) a b : Nat)) ∧ GoodU (okR fs) (okN fs) n U 0 ∧ (fits n fs)[pl]? = some c ∧ ∀ H' p, Same H H' → H p = none → FoR CL CF H' p n (play (chPost c)) → Q (.ref p) H'
theorem w_member (X : Tx mg) (TC : CFt K CT) (mF : mg "Forest" = some (.ref CF)) (D : Md K CT "member" "FitTable.member" s_FitTable_member) (c_FitTable_continued : Met P w K mg base 3 CT "continued" (sp_continued CT CK)) (c_FitTable_tree_at : Met P w K mg base 4 CT "tree_at" (sp_tree_at CT CK))
    (c_Forest_after : Clm P w K mg base 7 CF "after" (sp_Forest_after CL CF)) : Met P w K mg base 8 CT "member" (sp_member CT CK CL CF) := by
  refine met_of D sc_FitTable_member bd_FitTable_member (fun vs H Q E h => ?_) fun f cdv A outer s H vs Q E hr h => ?_
  · obtain ⟨a, n, fs, T, U, pl, c, rfl, _⟩ := h; rfl
  · obtain ⟨a, n, fs, T, U, pl, c, rfl, R, hn, hT, hU, hc, k⟩ := h
    refine ⟨_, (pss_cons
    (ps_set (i := 2) sc_FitTable_member.nd rfl (Or.inl rfl) (pe_lst pa_nil)) (pss_cons
    (ps_set (i := 3) sc_FitTable_member.nd rfl (Or.inl rfl) pe_int) (pss_cons
    (ps_while PassesOwn.never (pt_cmpR op_le (pv 3) (pe_fld (pv 0) rfl) (nomark _)) (pss_cons
    (ps_set (i := 4) sc_FitTable_member.nd rfl (Or.inl rfl) (pe_op op_add (pv 3) pe_int)) (pss_cons
    (ps_while PassesOwn.never (pt_cmpR op_ge (pv 1) (pe_mt c_FitTable_continued hr (by decide) (pv 0) (pa_cons (pv 3) (pa_cons (pv 4) pa_nil))) (nomark _)) (pss_cons
    (ps_aug (i := 1) sc_FitTable_member.nd rfl (Or.inl rfl) (pe_mt c_FitTable_continued hr (by decide) (pv 0) (pa_cons (pv 3) (pa_cons (pv 4) pa_nil))) ip_sub) (pss_one
    (ps_aug (i := 4) sc_FitTable_member.nd rfl (Or.inl rfl) pe_int ip_add)))) (pss_cons
    (ps_asg (pe_callB call_divmodW (by rfl) X.divmod (by decide +kernel) (pa_cons (pv 1) (pa_cons (pe_ix ix_list (pe_fld (pv 0) rfl) (pv 4) (fun _ _ => rfl)) pa_nil))) (pg_tup rfl (pgs_cons (pg_name (i := 5) sc_FitTable_member.nd rfl (Or.inl rfl)) (pgs_cons (pg_name (i := 1) sc_FitTable_member.nd rfl (Or.inl rfl)) pgs_nil)))) (pss_cons
    (ps_expr (pe_bm PySem.F.plainAttrs_list PySem.F.slot_list_extend PySem.F.type_list_extend mt_extend (pv 2) (pa_cons (pe_mt c_FitTable_tree_at hr (by decide) (pv 0) (pa_cons (pv 3) (pa_cons (pv 4) (pa_cons (pv 5) pa_nil)))) pa_nil))) (pss_one
    (ps_set (i := 3) sc_FitTable_member.nd rfl (Or.inl rfl) (pv 4)))))))) (pss_one
    (ps_ret (pe_clm c_Forest_after hr (by decide) (pe_glob (v := .ref CF) rfl mF rfl) (pa_cons (pe_fld (pv 0) rfl) (pa_cons (pv 2) pa_nil)))))))), ?_⟩
    refine ⟨by show 0 ≤ sizeLine; decide, fun rm hrm => ?_⟩
    have cF := fits_form (List.mem_of_getElem? hc)
    have RM : Rem n (chPost c) := ⟨chPost_nodup cF, fun x hx => by
      have := chPost_mem cF x hx
      omega⟩
    refine ⟨MEI (okR fs) (okN fs) n a rm H (chPost c), ⟨n + 1, 0, pl, _, _, [], c, rfl, rfl, Same.new hrm, upd_same, by omega, hc, rfl⟩, ?_⟩
    rintro m σ H2 ⟨lo, p, v4, v5, done, d, rfl, rfl, s2, hd2, hlo, hat, edone⟩
    have Rr := R.same s2
    obtain ⟨dx, kn, tcs, ccs, rows, tail, O⟩ := id Rr
    refine ⟨_, rfl, _, rfl, a, CT, dx, _, _, rfl, O.ob, TC.cl, TC.size, rfl, _, _, rfl, rfl, ?_⟩
    by_cases hl : lo ≤ n
    · refine ⟨true, dT (by omega), iteT ?_⟩
      refine ⟨fun σ' H' => ∃ m', m' < n + 1 - lo ∧ MEI (okR fs) (okN fs) n a rm H (chPost c) m' σ' H', fun _ _ h => h, ?_⟩
      refine ⟨_, rfl, _, _, rfl, rfl, ?_⟩
      have opl : p < 2 ^ 120 := Nat.lt_trans (List.getElem?_eq_some_iff.mp hat).1 (cc_small hlo hn)
      rw [chs_eq (low := lo) (by omega)] at hat
      refine ⟨MEJ (okR fs) (okN fs) n a rm H2 lo d v5, ⟨n + 1 - lo, lo + 1, n + 1 - lo, p, rfl, rfl, rfl, by omega, by omega, by omega, opl, hat⟩, ?_⟩
      rintro m σ H4 ⟨x, kk, p, rfl, rfl, rfl, lx, xk, k0, pb, hat⟩
      refine ⟨_, rfl, _, rfl, a, dx, _, rfl, O.ob, O.tn _ (by decide +kernel), _, rfl, _, rfl, a, n, fs, T, U, lo, x, rfl, Rr, lx, by omega, hn, hT _ _ (by omega) (by omega), hU _ (by omega) (by omega), ?_⟩
      refine ⟨_, _, rfl, rfl, ?_⟩
      by_cases hge : nc (okR fs) (okN fs) n lo x ≤ p
      · refine ⟨true, dT (by omega), iteT ?_⟩
        obtain ⟨k', rfl, k0', hat'⟩ := scan_next (f := fun y => contL (okR fs) (okN fs) n lo y) hat (by rw [len_contL]; exact hge)
        rw [len_contL] at hat'
        refine ⟨fun σ' H' => ∃ m', m' < k' + 1 ∧ MEJ (okR fs) (okN fs) n a rm H4 lo d v5 m' σ' H', fun _ _ h => h, ?_⟩
        refine ⟨_, rfl, _, rfl, a, dx, _, rfl, O.ob, O.tn _ (by decide +kernel), _, rfl, _, rfl, a, n, fs, T, U, lo, x, rfl, Rr, lx, by omega, hn, hT _ _ (by omega) (by omega), hU _ (by omega) (by omega), ?_⟩
        refine ⟨_, _, rfl, rfl, _, rfl, _, _, rfl, rfl, ?_⟩
        refine ⟨k', by omega, x + 1, k', p - nc (okR fs) (okN fs) n lo x, rfl, ?_, rfl, by omega, by omega, k0', by omega, hat'⟩
        show [some (V.ref a), some (V.int ((p : Nat) - (nc (okR fs) (okN fs) n lo x : Nat))), some (V.ref rm), some (V.int (lo : Nat)), some (V.int ((x : Nat) + 1)), v5] = _
        rw [show ((p : Nat) : Int) - (nc (okR fs) (okN fs) n lo x : Nat) = ((p - nc (okR fs) (okN fs) n lo x : Nat) : Int) by omega, show ((x : Nat) : Int) + 1 = ((x + 1 : Nat) : Int) by omega]
      · refine ⟨false, dF (by omega), iteF ?_⟩
        have hr0 := scan_here (f := fun y => contL (okR fs) (okN fs) n lo y) hat (by rw [len_contL]; omega)
        obtain ⟨tpos, t, e, ht, he, rfl⟩ := cont_at hr0
        refine ⟨_, rfl, _, rfl, a, CT, dx, _, _, rfl, O.ob, TC.cl, TC.chains, rfl, _, rfl, ccs, _, _, _, rfl, rfl, SqL.of O.cs, tabI_at (i := x) rfl (by omega), ?_⟩
        rw [hU x (by omega) (by omega)]
        refine ⟨_, _, rfl, divp120 pb tpos, fun q hq => ?_⟩
        rw [← Int.natCast_ediv, ← Int.natCast_emod]
        refine ⟨q, _, rfl, SqT.of upd_same, rfl, _, _, rfl, _, _, rfl, rfl, ?_⟩
        obtain ⟨H5, e5, s5⟩ : ∃ H5, L2.upd H4 q (.tup [.int ((p / cc (okR fs) (okN fs) n x : Nat) : Int), .int ((p % cc (okR fs) (okN fs) n x : Nat) : Int)]) = H5 ∧ Same H4 H5 := ⟨_, rfl, Same.new hq⟩
        dsimp only
        rw [e5]
        refine ⟨_, rfl, .inl ⟨rfl, _, SqL.of (s5 _ _ hd2)⟩, _, rfl, a, dx, _, rfl, s5 _ _ O.ob, O.tn _ (by decide +kernel), _, rfl, _, rfl, _, rfl, a, n, fs, T, U, lo, x, _, t, rfl, Rr.same s5, hn, hT, ⟨lx, by show x ≤ n + 1; omega, ht⟩, fun H6 r s6 hr0 hr6 => ?_⟩
        have d6 := s6 _ _ (s5 _ _ hd2)
        have tf := trs_form lx (List.mem_of_getElem? ht)
        have tl := rpre_len tf
        rw [← List.length_reverse, rpre_rev] at tl
        have hdl : done.length ≤ n := by
          have := congrArg List.length edone
          rw [List.length_append] at this
          have := RM.len
          omega
        refine ⟨rm, r, _, _, rfl, rfl, d6, hr6, sizeLine_ge (by simp only [List.length_map]; omega), ?_⟩
        refine ⟨_, rfl, n + 1 - x, by omega, x, _, _, _, done ++ post t, e, rfl, rfl, Same.write ((s2.trans s5).trans s6) hrm, ?_, by omega, he, ?_⟩
        · rw [upd_same, ← List.map_append]
        · rw [← edone]; simp [chPost]
    · refine ⟨false, dF (by omega), iteF ?_⟩
      rw [chs_nil (by omega)] at hat
      have ed : d = [] := by
        cases p with
        | zero => simpa using hat.symm
        | succ p => simp at hat
      subst ed
      have e : done = chPost c := by rw [← edone]; simp [chPost]
      subst e
      refine ⟨rfl, _, rfl, a, CT, dx, _, _, rfl, O.ob, TC.cl, TC.size, rfl, _, rfl, rm, n, _, rfl, hd2, hn, RM, fun H3 q s3 hq F => ?_⟩
      exact k _ _ (s2.trans s3) (s2.free hq) F
end
end LK
end

section
/-! LKExc -/
set_option maxHeartbeats 4000000
namespace LK
open PySem PySem.Spec PyProof.Rows L2

/-! ### super().__init__(text) of an own exception under ValueError -/
section
open PySem.W PySem.Calls PyProof.Rows PySem.HandSPX
variable {prog : Program} {w : World} {A : Around} {E : Value → Shared → Prop} {h : Heap} {g : Array GenState} {d : Drawn} {t : Nat} {os : OsState}
variable {nm q : Str} {C N : Addr} {bs bm : List Value} {hdct : Bool} {sn : List Str} {sub : List Value} {ab : Bool} {col : Option Bool} {dd : Option Addr} {k0 k1 k2 k3 k5 : Option Value}
theorem call_mwV {u e t0 : Addr} {rest : List Value} {Q : Value → Shared → Prop}
    (hC : h.get? C = some (excClassObj nm q C N bs bm hdct sn sub ab col dd k0 k1 k2 k3 k5 "ValueError.__new__")) (he : h.get? e = some (HandSPX.excO C t0)) (hu : h.get? u = some (kxs_mw "ValueError.__init__" e)) (hrest : rest.length ≤ sizeLine)
    (hq : ∀ h' t1, (∀ b o, b ≠ e → h.get? b = some o → h'.get? b = some o) → h'.get? e = some (HandSPX.excO C t1) → Q .none ⟨h', g, d, t, os⟩) :
    wpAny (model prog w) A (call (.ref u) rest) Q E ⟨h, g, d, t, os⟩ := by
  refine wpAny_call (codeAny_of_tree ?_)
  show wpAny _ A.in1 (callAny (.ref u) ⟨rest, []⟩) _ _ _
  simp only [callAny]
  refine wpAny_bind (wpAny_load hu ?_)
  simp only [kxs_mw, show (Value.type "method-wrapper" == Value.type "method" || Value.type "method-wrapper" == Value.type "builtin_function_or_method" || Value.type "method-wrapper" == Value.type "method-wrapper") = true by decide, if_true]
  refine W.KFB.if_so (by decide) ?_
  refine wpAny_bind (check_bound_init F.excBase_ValueError.toExcCallFacts hC he rfl ?_)
  refine wpAny_bind (wpAny_pure (wpAny_pure ?_))
  refine ⟨Code.quiet_builtin _ (by decide +kernel), codeAny_builtin F.excBase_ValueError.initEntry ?_⟩
  rw [Around.under_plainId F.excBase_ValueError.init.plain _]
  wp_walk
  refine hq _ h.objs.size (fun b o hb ho => ?_) ?_
  · rw [Heap.get?_update_other _ _ (Ne.symm hb)]
    exact Heap.get?_push_of_some _ ho
  · rw [Heap.get?_update_self _ (Heap.get?_push_of_some _ he) rfl]
    rfl
end

/-! ### the def __init__(self, p): super().__init__(msg); self.p = p -/
structure EInit (P : Program) (K : PySem.W.Frag) (C f : Addr) (qual : Str) (st : Stmt) (fd : FuncData) : Prop where
  ex : ∃ (oc : Value) (od : Option Addr) (kV doc pm : Value) (an : Option Addr) (cda : Addr) (ct : Value) (osl : Array (Option Value)) (cc : Addr) (cl : Value) (cld : Option Addr) (csl : Array (Option Value)) (ccl : Value) (cdd : Option Addr) (vs : Array Value) (ccs : Array (Option Value)) (file : Str) (tf : Tok),
    fd = PySem.W.ksFn "__init__" qual (defArgs st) (defBody st) (defScope st) .none kV doc pm an (.ref cda) ct cc ∧ K.lookup f = some ⟨oc, od, .func fd, osl⟩ ∧ PySem.W.codeIn K (.ref cda) qual = true ∧
    K.lookup cc = some ⟨cl, cld, .cell (some (.ref C)), csl⟩ ∧ K.lookup cda = some ⟨ccl, cdd, .fields vs, ccs⟩ ∧ vs[2]? = some (.str file tf) ∧ ((P.main.file : Str) == file) = true
  sup : PySem.W.ks_superIn K C C "__init__" = some (some (.builtin "ValueError.__init__"))
  sub : PySem.W.subIn K (.ref C) (.type "ValueError") = some true
  self : PySem.W.mroIn K C (.ref C) = some true
  ops : PySem.W.nsIn K cStatics "thirdparty.any" = some none
  top : (P.main.scope.names.lookup ("super" : Str)).isSome = false
/-- the body and the scope of such a def -/
structure EText (p : Str) (st : Stmt) : Prop where
  body : ∃ (p0 p1 p2 p3 p4 p5 q1 q2 q3 q4 : Pos) (j : Nat) (msg : Str), defBody st = [.Expr (.Call (.Attribute (.Call (.Name "super" p0) [] [] p1) "__init__" p2) [.Constant (.str msg) j p3] [] p4) p5, .Assign [.Attribute (.Name "self" q1) p q2] (.Name p q3) q4] ∧
    (∃ pl : Env → Sem Bool, ∀ env, eval (.Call (.Attribute (.Call (.Name "super" p0) [] [] p1) "__init__" p2) [.Constant (.str msg) j p3] [] p4) env = (do
      let ov ← attributeBase (.Call (.Name "super" p0) [] [] p1) "__init__" env (eval (.Call (.Name "super" p0) [] [] p1) env)
      standAt p2.atName
      let (f, first) ← holding [ov] (getMethod ov "__init__" (pl env))
      callWith p4 f first (backTo p4 (starEach [.Constant (.str msg) j p3] env)) [])) ∧
    (∀ env, swapsWith (.Call (.Attribute (.Call (.Name "super" p0) [] [] p1) "__init__" p2) [.Constant (.str msg) j p3] [] p4) none p5.line env = pure false) ∧
    (∀ env, swapsWith (.Name p q3) (some (.Attribute (.Name "self" q1) p q2)) q4.line env = pure false)
  par : (((defArgs st).posonlyargs ++ (defArgs st).args).head?.map (·.arg)) = some ("self" : Str)
  ne : p ≠ "self"
  dbg : (p == ("__debug__" : Str)) = false
  cdt : (p == ("__classdict__" : Str)) = false
  kind : (defScope st).kind = .function
  co : (defScope st).isCoroutine = false
  gen : (defScope st).isGenerator = false
  sup : (defScope st).names.lookup ("super" : Str) = some .globalImplicit
  cls : (defScope st).names.lookup ("__class__" : Str) = some .free
  slf : (defScope st).names.lookup ("self" : Str) = some .local
  prm : (defScope st).names.lookup p = some .local
  cell : ∀ x ∈ (defScope st).names, x.2 ≠ .cell
  free : ∀ x ∈ (defScope st).names, x.2 = .free → x.1 = "__class__"
theorem etext_BadPlace : EText "place" s_BadPlace_init where
  body := ⟨_, _, _, _, _, _, _, _, _, _, _, _, rfl, ⟨_, fun _ => rfl⟩, fun _ => rfl, fun _ => rfl⟩
  par := rfl
  ne := by decide +kernel
  dbg := by decide +kernel
  cdt := by decide +kernel
  kind := rfl
  co := rfl
  gen := rfl
  sup := rfl
  cls := rfl
  slf := rfl
  prm := rfl
  cell := by decide +kernel
  free := by decide +kernel
theorem etext_NoFit : EText "size" s_NoFit_init where
  body := ⟨_, _, _, _, _, _, _, _, _, _, _, _, rfl, ⟨_, fun _ => rfl⟩, fun _ => rfl, fun _ => rfl⟩
  par := rfl
  ne := by decide +kernel
  dbg := by decide +kernel
  cdt := by decide +kernel
  kind := rfl
  co := rfl
  gen := rfl
  sup := rfl
  cls := rfl
  slf := rfl
  prm := rfl
  cell := by decide +kernel
  free := by decide +kernel
def eCx (P : Program) (w : World) (K : PySem.W.Frag) (mg : Str → Option Value) (base : Heap) (p qual : Str) (scope : Scope) (f cda cc : Addr) (A : Around) (outer : List Env) (s : Shared) (H : Hp) : Cx where
  prog := P
  w := w
  K := K
  mg := mg
  base := base
  A := A.deeper (PySem.W.ksEnv qual scope s.heap.objs.size f (.ref cda) cc)
  N := ["self", p]
  s_0 := s
  H_0 := H
  env := PySem.W.ksEnv qual scope s.heap.objs.size f (.ref cda) cc
  outer := outer
  stack := PySem.W.ksEnv qual scope s.heap.objs.size f (.ref cda) cc :: outer
  ex := []
  calm := true
  fn := fun _ => false
  pn := []
  xe := fun _ _ => False
def sp_exc (C : Addr) (p : Str) : Sp := fun vs H Q _ => ∃ (a : Addr) (y : V), vs = [.ref a, y] ∧ H a = some (exo a C none) ∧ ∀ dx, H dx = none → dx ≠ a → Q .non (L2.upd (L2.upd H dx (exd dx [(p, y)])) a (exo a C (some dx)))
section
variable {P : Program} {w : World} {K : PySem.W.Frag} {mg : Str → Option Value} {base : Heap} {C f : Addr} {qual p : Str} {st : Stmt} {fd : FuncData}
theorem fn_exc (F : EInit P K C f qual st fd) (T : EText p st) (O : OexC K C) (hno : PySem.W.findIn K (.ref C) p = some none) (hs : mg "super" = none) : FnOk P w K mg base CX0 1 f fd ["self", p] (sp_exc C p) := by
  refine ⟨fun vs H Q E h => by obtain ⟨a, y, rfl, _⟩ := h; rfl, fun A outer s H args us vs Q E hr e0 hb r hsp => ?_⟩
  obtain ⟨a, y, rfl, ha, k⟩ := hsp
  obtain ⟨u0, us1, rfl, r0, r1⟩ : ∃ u0 us1, us = u0 :: us1 ∧ RelV (.ref a) u0 ∧ Vals [y] us1 := by cases r with | cons h t => exact ⟨_, _, rfl, h, t⟩
  obtain ⟨u1, rfl, r2⟩ : ∃ u1, us1 = [u1] ∧ RelV y u1 := by cases r1 with | cons h t => cases t; exact ⟨_, rfl, h⟩
  obtain rfl : u0 = Value.ref a := r0
  obtain ⟨oc, od, kV, doc, pm, an, cda, ct, osl, cc, cl, cld, csl, ccl, cdd, vs', ccs, file, tf, rfl, lk, hcd, hcc, hcda, hvs, hfile⟩ := F.ex
  have KX : K.In s.heap := e0.mod.kin.keeps fun b o e => (e0.bs b o e).1
  have lim : s.heap.NoLimit := e0.mod.nolimit.keeps fun b o e => (e0.bs b o e).1
  have nes : (p == ("self" : Str)) = false := by rw [beq_eq_false_iff_ne]; exact T.ne
  have nes2 : (("self" : Str) == p) = false := by rw [beq_eq_false_iff_ne]; exact T.ne.symm
  refine ks_codeAny_call_defAt (binds := [("self" : Str), p].zip [Value.ref a, u1]) (body := defBody st) hr.depth (KX _ _ lk) rfl lim (PySem.W.codeRec_of KX hcd) rfl hb T.cell (fun x hx => ?_) (fun h₀ hns kp => ?_) T.co T.gen T.kind
  · rcases List.mem_cons.mp hx with rfl | hx
    · exact T.slf
    · rw [List.mem_singleton.mp hx]; exact T.prm
  show _root_.PySem.wpAt (model P w) (A.deeper (PySem.W.ksEnv qual (defScope st) s.heap.objs.size f (.ref cda) cc)) (.func (defBody st) (PySem.W.ksEnv qual (defScope st) s.heap.objs.size f (.ref cda) cc)) (execs (defBody st) (PySem.W.ksEnv qual (defScope st) s.heap.objs.size f (.ref cda) cc)) _ _ _
  have noA : ∀ b : Addr, b ∉ (eCx P w K mg base p qual (defScope st) f cda cc A outer s H).ex := fun b z => absurd (show b ∈ ([] : List Addr) from z) (by simp)
  have ccB : base.get? cc = some ⟨cl, cld, .cell (some (.ref C)), csl⟩ := e0.mod.kin _ _ hcc
  have I : Inv (eCx P w K mg base p qual (defScope st) f cda cc A outer s H) [] [some (.ref a), some y] H { s with heap := h₀, toks := s.toks + ([("self" : Str), p].zip [Value.ref a, u1]).length } := by
    refine ⟨⟨e0.mod, T.kind, rfl, rfl, Nat.le_refl _, fun y z c h1 h2 => ?_, fun y hy => ?_, fun y c z _ => ?_, fun _ => hr.hd, Around.frames_deeper e0.frames, .inr ⟨rfl, rfl⟩, fun b z => absurd z (noA b), e0.bs, e0.bsz, fun b _ _ => noA b, fun b z => absurd z (noA b), e0.funs, e0.frf⟩,
      rfl, e0.bare, Un.kept kp, ⟨_, hns, fun i x v h1 h2 h3 => ?_⟩, fun y c h => ?_, e0.hok.fresh (Nat.le_refl _), fun y c h => ?_, fun q hq => absurd (show q ∈ ([] : List (Addr × Obj)) ++ [] from hq) (by simp), e0.hok.kept kp, rfl⟩
    · have h1 : List.lookup y [(("__class__" : Str), cc)] = some c := h1
      have h2 : List.lookup z [(("__class__" : Str), cc)] = some c := h2
      have q : ∀ y : Str, List.lookup y [(("__class__" : Str), cc)] = some c → y = "__class__" := fun y h => by
        rw [List.lookup_cons] at h
        by_cases e : y == ("__class__" : Str)
        · exact beq_iff_eq.mp e
        · simp [e] at h
      rw [q y h1, q z h2]
    · have hy : (defScope st).names.lookup y = some .cell ∨ (defScope st).names.lookup y = some .free := hy
      rcases hy with hy | hy
      · exact absurd rfl (T.cell _ (PySem.mem_of_lookup hy))
      · have e := T.free _ (PySem.mem_of_lookup hy) rfl
        have e : y = "__class__" := e
        subst e
        exact ⟨cc, by show List.lookup _ [_] = _; simp⟩
    · exact absurd (show false = true from z) Bool.false_ne_true
    · match i, h1, h2 with
      | 0, h1, h2 =>
        obtain rfl : ("self" : Str) = x := Option.some.inj h1
        obtain rfl : V.ref a = v := Option.some.inj (Option.some.inj h2)
        refine ⟨Value.ref a, rfl, .inl ⟨T.slf, ?_⟩⟩
        show List.lookup ("self" : Str) [(p, u1), (("self" : Str), Value.ref a)] = _
        simp [List.lookup_cons, nes2]
      | 1, h1, h2 =>
        obtain rfl : p = x := Option.some.inj h1
        obtain rfl : y = v := Option.some.inj (Option.some.inj h2)
        refine ⟨u1, r2, .inl ⟨T.prm, ?_⟩⟩
        show List.lookup p [(p, u1), (("self" : Str), Value.ref a)] = _
        simp [List.lookup_cons]
      | i + 2, h1, h2 => exact nomatch (show ([] : List Str)[i]? = some x from h1)
    · have h : List.lookup y [(("__class__" : Str), cc)] = some c := h
      rw [List.lookup_cons] at h
      split at h
      · cases h; exact ⟨_, _, kp _ _ (e0.bs _ _ ccB).1, rfl⟩
      · cases h
    · have h : List.lookup y [(("__class__" : Str), cc)] = some c := h
      rw [List.lookup_cons] at h
      split at h
      · cases h; exact (e0.bs _ _ ccB).2
      · cases h
  obtain ⟨p0, p1, p2, p3, p4, p5, q1, q2, q3, q4, j, msg, hbd, ⟨pl, hev⟩, hsw1, hsw2⟩ := T.body
  rw [hbd]
  obtain ⟨ar, har, hara⟩ := Option.map_eq_some_iff.mp T.par
  obtain ⟨nm, q, N, bs, bm, sn, sub, ab, col, dd, k0, k1, k2, k3, k5, hC, hbm⟩ := O.cls
  have X0 : K.In h₀ := I.kIn
  obtain ⟨t1, hoa⟩ := exo_at I.hok ha
  have hcl : PySem.W.clsIn K C = some { name := nm, bases := bs, mro := .ref C :: bm, ns := N, qualname := q, hasDict := true, slotNames := sn, subclasses := sub, abstract := ab, collection := col, hasDel := false } := by unfold PySem.W.clsIn; rw [hC] <;> rfl
  have naC : a ≠ C := fun e => by
    have h1 := (e0.bs _ _ (e0.mod.kin _ _ hC)).2
    rw [← e, ha] at h1; cases h1
  have sup := F.sup
  unfold PySem.W.ks_superIn at sup
  rw [hcl, Option.bind_some] at sup
  obtain ⟨mb, b1, b2⟩ := e0.mod.blt
  have toH : ∀ b o, base.get? b = some o → h₀.get? b = some o := I.bk
  have fin : ∀ s3, Inv (eCx P w K mg base p qual (defScope st) f cda cc A outer s H) [] [some (.ref a), some y] H s3 →
      wpAny (model P w) (A.deeper (PySem.W.ksEnv qual (defScope st) s.heap.objs.size f (.ref cda) cc)) (execs [.Assign [.Attribute (.Name "self" q1) p q2] (.Name p q3) q4] (PySem.W.ksEnv qual (defScope st) s.heap.objs.size f (.ref cda) cc))
        (fun fl s' => CR CX0 outer P w H s Q E (.ok (.ret (match fl with | .ret v => v | _ => .none))) s') (fun _ _ => False) s3 := fun s3 I3 => by
    have rule : PSs (eCx P w K mg base p qual (defScope st) f cda cc A outer s H) [.Assign [.Attribute (.Name "self" q1) p q2] (.Name p q3) q4] (tOst K p (tVar 0) (tVar 1)) :=
      pss_one (ps_ost (pe_var (i := 0) rfl (.inl T.slf)) (pe_var (i := 1) rfl (.inl T.prm) T.dbg T.cdt) (hsw2 _))
    refine wpAny_mono (rule.run [] s3 _ H { nx := fun _ H' => Q .non H', rt := Q } I3 ⟨_, rfl, _, rfl, a, C, rfl, O, hno, .inl ⟨ha, k⟩⟩) (fun fl s' hs => ?_) fun _ _ z => z
    cases fl with
    | next =>
      obtain ⟨σ', H', J, q⟩ := hs
      exact ⟨.non, H', J.os, J.bare, J.base, J.hok, rfl, q⟩
    | ret u =>
      obtain ⟨v, σ', H', J, rv, q⟩ := hs
      exact ⟨v, H', J.os, J.bare, J.base, J.hok, rv, q⟩
    | brk =>
      obtain ⟨_, _, _, q⟩ := hs
      exact False.elim q
    | cont =>
      obtain ⟨_, _, _, q⟩ := hs
      exact False.elim q
  refine ks_wpAt_execs_cons (ks_wpAt_Expr_any (ks_wpAt_MethodCall (pl := pl _) ?_ (hev _)) I.quiet (hsw1 _))
  refine ks_wpAt_super_base T.sup T.cls (by decide) rfl (X0 _ _ lk) rfl har rfl (X0 _ _ hcda) rfl hvs hfile F.top ?_
  refine PySem.W.ks_loadName_global T.kind T.sup (PySem.Calls.loadGlobal_builtin (e0.mod.glob.keeps toH) hs (b1.keeps toH) ((b2 "super" (by decide)).trans (by decide +kernel)) ⟨rfl, ?_⟩)
  refine wpAny_loadName_free T.kind T.cls rfl ⟨_, X0 _ _ hcc, rfl⟩ ?_
  rw [hara]
  refine wpAny_loadName_local (v := Value.ref a) T.kind T.slf hns (by show List.lookup ("self" : Str) [(p, u1), (("self" : Str), Value.ref a)] = _; simp [List.lookup_cons, nes2]) ?_
  refine ks_wpAny_isType_cls (X0 _ _ hC) rfl ⟨rfl, ?_⟩
  refine ks_wpAny_call_super (X0 _ _ hC) rfl hoa rfl (fun c e => by cases e) (PySem.W.looks_mroIn X0 F.self) (fun h1 hso k1 => ?_)
  have X1 : K.In h1 := X0.keeps k1
  have hoa1 := k1 _ _ hoa
  have IA : PySem.W.InstAt h1 a _ C none := ⟨hoa1, rfl, rfl, trivial⟩
  refine PySem.W.kxs_getMethod PySem.W.kxs_ValueError hso (PySem.W.looks_opaque X1 F.ops) (l₀ := .ref C :: bm) ?_ rfl X1 sup (IA.type.andThen (PySem.W.looks_subIn X1 F.sub)) naC (by decide) ?_
  · exact fun A Q E s k q => wpAny_bind ((PySem.W.looks_clsIn X1 hcl) A _ E s k (wpAny_pure q))
  -- the bound __init__ at u
  have k2 : ∀ b o, h1.get? b = some o → (h1.push (PySem.W.kxs_mw "ValueError.__init__" a)).get? b = some o := fun b o e => Heap.get?_push_of_some _ e
  have hu2 : (h1.push (PySem.W.kxs_mw "ValueError.__init__" a)).get? h1.objs.size = some (PySem.W.kxs_mw "ValueError.__init__" a) := Heap.get?_push_at rfl rfl
  have I2 : Inv (eCx P w K mg base p qual (defScope st) f cda cc A outer s H) [] [some (.ref a), some y] H ⟨h1.push (PySem.W.kxs_mw "ValueError.__init__" a), s.gens, s.drawn, s.toks + ([("self" : Str), p].zip [Value.ref a, u1]).length + 1, s.os⟩ := I.kept fun b o e => k2 _ _ (k1 _ _ e)
  have hsz : h₀.objs.size ≤ h1.objs.size := Nat.le_of_lt (Heap.lt_size hso)
  have I3 : Inv (eCx P w K mg base p qual (defScope st) f cda cc A outer s H) [(h1.objs.size, PySem.W.kxs_mw "ValueError.__init__" a)] [some (.ref a), some y] H ⟨h1.push (PySem.W.kxs_mw "ValueError.__init__" a), s.gens, s.drawn, s.toks + ([("self" : Str), p].zip [Value.ref a, u1]).length + 1, s.os⟩ := by
    refine I2.pins_of fun q hq => ?_
    rw [List.mem_singleton.mp hq]
    refine ⟨hu2, I.hok.fresh hsz, ?_, ?_, fun v e => by cases e⟩
    · exact Nat.ne_of_gt (Nat.lt_of_lt_of_le I.lt hsz)
    · exact I.nofs hsz
  refine PySem.W.kxs_callWith (i := "ValueError.__init__") (x := a) rfl ?_
  refine PySem.Calls.evalArgs_plain ?_
  have pa : PA (eCx P w K mg base p qual (defScope st) f cda cc A outer s H) [.Constant (.str msg) j p3] _ := pa_cons pe_str pa_nil
  refine wpAny_mono (pa.run p4 _ _ _ _ (fun vs H' => vs = [.str msg] ∧ H' = H) I3 ⟨rfl, rfl⟩) (fun us s4 hus => ?_) fun _ _ z => False.elim z
  obtain ⟨vs, H4, I4, rv, evs, eH⟩ := hus
  rw [eH] at I4
  have hl : us.length = 1 := by rw [← rv.length, evs]; rfl
  obtain ⟨hu4, _⟩ := I4.pin _ (List.mem_append_right _ (List.mem_singleton.mpr rfl))
  obtain ⟨t4, hoa4⟩ := exo_at I4.hok ha
  refine ⟨hu4, ?_⟩
  obtain ⟨h4, g4, d4, tk4, os4⟩ := s4
  refine call_mwV (I4.kIn _ _ hC) hoa4 hu4 (by show us.length ≤ _; rw [hl, sizeLine_eq]; omega) fun h5 t5 k5 hx5 => ?_
  have J := I4.write (t' := tk4) (x := a) (e := a) (o := exo a C none) (by rw [ha]; exact True.intro) (.inl rfl) k5 ⟨_, hx5⟩ (exo_ok hx5)
  have eu : L2.upd H a (exo a C none) = H := by
    funext b
    by_cases hb : b = a
    · rw [hb, upd_same, ha]
    · rw [upd_ne hb]
  rw [eu] at J
  refine wpAt_of_wpAny (wpAny_mono (fin _ (J.pins_of (pins' := []) fun q hq => absurd hq (by simp))) (fun fl s' hs => hs) fun _ _ z => z.elim)
end
end LK
end

section
/-! LKWalk12 -/
set_option maxHeartbeats 4000000
namespace LK
open PySem PySem.Spec PyProof.Rows L2
/-- an exception class x with __init__(self, p): super().__init__(..); self.p = p -/
structure Xc (P : Program) (K : PySem.W.Frag) (mg : Str → Option Value) (x : Str) (C : Addr) (p : Str) : Prop where
  O : OexC K C
  no : PySem.W.findIn K (.ref C) p = some none
  gl : mg x = some (.ref C)
  ex : ∃ (f : Addr) (fd : FuncData) (qual : Str) (st : Stmt), PySem.W.findIn K (.ref C) "__init__" = some (some (.ref f)) ∧ PySem.W.typeIn K (.ref f) = some (.type "function") ∧ EInit P K C f qual st fd ∧ EText p st ∧ Binds K fd ["self", p] []
structure CalX (P : Program) (w : World) (K : PySem.W.Frag) (mg : Str → Option Value) (base : Heap) (k : Nat) (x : Str) (sp : Sp) : Prop where
  ex : ∃ (f : Addr) (fd : FuncData) (ps : List Str), FnOk P w K mg base (L2.CX P w) k f fd ps sp ∧ mg x = some (.ref f) ∧ PySem.W.keepIn K (.ref f) = true ∧ Binds K fd ps []
section
variable {X : Cx} {k j : Nat} {C : Addr} {x p : Str} {sp : Sp} {pp pos : Pos} {e o : Expr} {es : List Expr} {ta : TE} {t : TA} {W : WX}
/-- a call of a def that may raise, where nothing is let out -/
theorem pe_cx (c : CalX X.prog X.w X.K X.mg X.base k x sp) (hr : Room j X.A) (hk : k ≤ j) (hg : Gl X x) (ha : PA X (e :: es) t)
    (hdb : (x == ("__debug__" : Str)) = false := by decide) (he : starEach (e :: es) X.env = (false, eval e X.env) :: starEach es X.env := by rfl) (hpl : (backTo pos (starEach es X.env)).any (·.1) = false := by rfl) :
    PE X (.Call (.Name x pp) (e :: es) [] pos) (tCall sp [] E0 t) := by
  obtain ⟨f, fd, ps, F, hm, kp, b⟩ := c.ex
  exact pe_call F (hr.mono hk) hg hm kp b .nil passL ha hdb he hpl
/-- .. where what leaves is wished for -/
theorem pe_cxW {E : XK} (c : CalX X.prog X.w X.K X.mg X.base k x sp) (hr : Room j X.A) (hk : k ≤ j) (tk : Takes X W) (hW : ∀ cls d σ H, E cls d H → W cls d σ H) (hg : Gl X x) (ha : PA X (e :: es) t)
    (hdb : (x == ("__debug__" : Str)) = false := by decide) (he : starEach (e :: es) X.env = (false, eval e X.env) :: starEach es X.env := by rfl) (hpl : (backTo pos (starEach es X.env)).any (·.1) = false := by rfl) :
    PE X (.Call (.Name x pp) (e :: es) [] pos) (tCall sp [] E t) := by
  obtain ⟨f, fd, ps, F, hm, kp, b⟩ := c.ex
  exact pe_call F (hr.mono hk) hg hm kp b .nil (passes_call tk hW) ha hdb he hpl
theorem pmk_xc (c : Xc X.prog X.K X.mg x C p) (hs : X.mg "super" = none) (hr : Room j X.A) (hj : 2 ≤ j) (hg : Gl X x) (ha : PA X (e :: es) t)
    (hdb : (x == ("__debug__" : Str)) = false := by decide) (he : starEach (e :: es) X.env = (false, eval e X.env) :: starEach es X.env := by rfl) (hpl : (backTo pos (starEach es X.env)).any (·.1) = false := by rfl) :
    PMk X (.Call (.Name x pp) (e :: es) [] pos) (tMkO C (sp_exc C p) [] t) := by
  obtain ⟨f, fd, qual, st, iC, tI, F, T, b⟩ := c.ex
  exact pmk_oex c.O iC tI (fn_exc F T c.O c.no hs) (hr.mono hj) b .nil pass0 hg c.gl ha hdb he hpl
end
section
variable {P : Program} {w : World} {K : PySem.W.Frag} {mg : Str → Option Value} {base : Heap}
theorem calx_of {x : Str} {st : Stmt} {N ps : List Str} {k : Nat} {sp : Sp} (D : Dn K mg x st) (S : FnScope N ps (defScope st)) (b : Bd x x st ps) (len : ∀ vs H Q E, sp vs H Q E → vs.length = ps.length)
    (hb : ∀ (f : Addr) (cdv : Value) (A : Around) (outer : List Env) (s : Shared) (H : Hp) (vs : List V) (Q : VK) (E : XK), Room k (A.deeper (envOfC x (defScope st) s.heap.objs.size f cdv)) → sp vs H Q E →
      ∃ t, PSs (cxOf (L2.CX P w) P w K mg base N x (defScope st) f cdv A outer s H E) (defBody st) t ∧ t { nx := fun _ H' => Q .non H', rt := Q } (start N vs) H) : CalX P w K mg base (k + 1) x sp := by
  obtain ⟨f, fd, F, hm⟩ := D
  exact ⟨f, fd, ps, F.okX S len (hb f), hm, F.kp, F.binds b⟩
/-- what an exception's making leaves of the heap -/
theorem made_same {H1 : Hp} {C a dx : Addr} {p : Str} {y : V} (ha : H1 a = none) (hd : (L2.upd H1 a (exo a C none)) dx = none) (ne : dx ≠ a) :
    ∃ H2, L2.upd (L2.upd (L2.upd H1 a (exo a C none)) dx (exd dx [(p, y)])) a (exo a C (some dx)) = H2 ∧ H2 a = some (exo a C (some dx)) ∧ H2 dx = some (exd dx [(p, y)]) ∧ H1 dx = none ∧ Same H1 (L2.upd (del H2 a) dx (.xd [(p, y)])) := by
  have h1 : H1 dx = none := by rw [upd_ne ne] at hd; exact hd
  refine ⟨_, rfl, upd_same, by rw [upd_ne ne]; exact upd_same, h1, fun b o e => ?_⟩
  have nb : b ≠ a := ne_of_none e ha
  have nd : b ≠ dx := ne_of_none e h1
  rw [upd_ne nd, del_ne nb, upd_ne nb, upd_ne nd, upd_ne nb]; exact e
end
section
variable {P : Program} {w : World} {K : PySem.W.Frag} {mg : Str → Option Value} {base : Heap} {CK CT CL CF CB CN : Addr}
/-- facts that a call may be given -/
structure Args (H : Hp) (a : Addr) (n : Nat) (fs : List Ft) : Prop where
  l : FL H a fs
  hn : n ≤ 60
  s : fs.length ≤ 1000
  ok : ∀ f ∈ fs, f.ok n
def sp_count_fits : Sp := fun vs H Q _ => ∃ (n : Nat) (a : Addr) (fs : List Ft), vs = [.int n, .ref a] ∧ Args H a n fs ∧ ∀ H', Same H H' → Q (.int ((fits n fs).length : Nat)) H'
theorem w_count_fits (TC : CFt K CT) (D : Dn K mg "count_fits" s_count_fits) (c_check_facts : Cal P w K mg base 2 "check_facts" sp_check_facts) (c_FitTable_init : Mak P w K mg base 5 "FitTable" CT (sp_FitTable_init CT CK)) : Cal P w K mg base 7 "count_fits" sp_count_fits := by
  refine cal_of D sc_count_fits bd_count_fits (fun vs H Q E h => ?_) fun f cdv A outer s H vs Q E hr h => ?_
  · obtain ⟨n, a, fs, rfl, _⟩ := h; rfl
  · obtain ⟨n, a, fs, rfl, g, k⟩ := h
    refine ⟨_, (pss_cons
    (ps_expr (pe_c c_check_facts hr (by decide) rfl (pa_cons (pv 0) (pa_cons (pv 1) pa_nil)))) (pss_one
    (ps_ret (pe_fld (pe_mk c_FitTable_init hr (by decide) rfl (pa_cons (pv 0) (pa_cons (pv 1) pa_nil))) rfl)))), ?_⟩
    refine ⟨_, rfl, _, rfl, n, a, fs, rfl, g.l, g.hn, g.ok, fun H1 s1 => ?_⟩
    refine ⟨_, rfl, _, rfl, fun x dx nx ndx nex => ⟨H1, x, dx, a, n, fs, rfl, same_made nx ndx, nx, upd_same, g.l.same s1, g.s, g.hn, fun H2 T U s2 R ⟨F, hF, hc⟩ hT hU => ⟨rfl, ?_⟩⟩⟩
    exact ⟨x, CT, dx, _, _, rfl, hF, TC.cl, TC.count, hc, k _ (s1.trans s2)⟩
def sp_fit_at (CL CF CB : Addr) : Sp := fun vs H Q E => ∃ (n : Nat) (a : Addr) (fs : List Ft) (pl : Int), vs = [.int n, .ref a, .int pl] ∧ Args H a n fs ∧
  ((∃ c, 0 ≤ pl ∧ (fits n fs)[pl.toNat]? = some c ∧ ∀ H' p, Same H H' → H p = none → FoR CL CF H' p n (play (chPost c)) → Q (.ref p) H') ∨
   ((pl < 0 ∨ ((fits n fs).length : Int) ≤ pl) ∧ ∀ H' d, Same H H' → H' d = some (.xd [("place", .int pl)]) → E (.ref CB) (some d) H'))
theorem w_fit_at (X : Tx mg) (hs : mg "super" = none) (TC : CFt K CT) (D : Dn K mg "fit_at" s_fit_at) (xB : Xc P K mg "BadPlace" CB "place") (c_check_facts : Cal P w K mg base 2 "check_facts" sp_check_facts) (c_FitTable_init : Mak P w K mg base 5 "FitTable" CT (sp_FitTable_init CT CK))
    (c_FitTable_member : Met P w K mg base 8 CT "member" (sp_member CT CK CL CF)) : CalX P w K mg base 9 "fit_at" (sp_fit_at CL CF CB) := by
  refine calx_of D sc_fit_at bd_fit_at (fun vs H Q E h => ?_) fun f cdv A outer s H vs Q E hr h => ?_
  · obtain ⟨n, a, fs, pl, rfl, _⟩ := h; rfl
  · obtain ⟨n, a, fs, pl, rfl, g, k⟩ := h
    refine ⟨_, (pss_cons
    (ps_expr (pe_c c_check_facts hr (by decide) rfl (pa_cons (pv 0) (pa_cons (pv 1) pa_nil)))) (pss_cons
    (ps_set (i := 3) sc_fit_at.nd rfl (Or.inl rfl) (pe_mk c_FitTable_init hr (by decide) rfl (pa_cons (pv 0) (pa_cons (pv 1) pa_nil)))) (pss_cons
    (ps_if (pt_not (pt_chain op_le op_lt pe_int (pv 2) (pe_fld (pv 3) rfl))) (pss_one
    (ps_raise rfl (takes_of rfl rfl rfl rfl) (pmk_xc xB hs hr (by decide) rfl (pa_cons (pv 2) pa_nil)))) pss_nil) (pss_one
    (ps_ret (pe_mt c_FitTable_member hr (by decide) (pv 3) (pa_cons (pv 2) pa_nil))))))), ?_⟩
    refine ⟨_, rfl, _, rfl, n, a, fs, rfl, g.l, g.hn, g.ok, fun H1 s1 => ?_⟩
    refine ⟨_, rfl, _, rfl, fun x dx nx ndx nex => ⟨H1, x, dx, a, n, fs, rfl, same_made nx ndx, nx, upd_same, g.l.same s1, g.s, g.hn, fun H2 T U s2 R ⟨F, hF, hc⟩ hT hU => ⟨rfl, ?_⟩⟩⟩
    have s3 := s1.trans s2
    refine ⟨_, rfl, _, _, rfl, rfl, ?_⟩
    by_cases h0 : 0 ≤ pl
    · refine ⟨true, dT h0, iteT ⟨_, rfl, x, CT, dx, _, _, rfl, hF, TC.cl, TC.count, hc, _, _, rfl, rfl, ?_⟩⟩
      by_cases h1 : pl < ((fits n fs).length : Int)
      · refine ⟨true, dT h1, iteF ?_⟩
        rcases k with ⟨c, _, hc', k⟩ | ⟨h2, _⟩
        · obtain ⟨dx', kn, tcs, ccs, rows, tail, O⟩ := id R
          refine ⟨_, rfl, x, dx', _, rfl, O.ob, O.tn _ (by decide +kernel), _, rfl, x, n, fs, T, U, pl.toNat, c, ?_, R, g.hn, hT, hU, hc', fun H4 q s4 hq FR => k _ _ (s3.trans s4) (s3.free hq) FR⟩
          show [V.ref x, V.int pl] = _
          rw [Int.toNat_of_nonneg h0]
        · omega
      · refine ⟨false, dF h1, iteT ?_⟩
        rcases k with ⟨c, _, hc', k⟩ | ⟨h2, k⟩
        · have := (List.getElem?_eq_some_iff.mp hc').1
          omega
        · refine ⟨_, rfl, (by show 1 ≤ 1000; decide), fun e he => ⟨e, _, rfl, upd_same, fun d hd ne => ⟨rfl, ?_⟩⟩⟩
          obtain ⟨H3, e3, a1, a2, a3, a4⟩ := made_same (C := CB) (p := "place") (y := .int pl) he hd ne
          rw [e3]
          exact ⟨d, _, a1, a2, a3, k _ _ (s3.trans a4) upd_same⟩
    · refine ⟨false, dF h0, iteF ⟨false, rfl, iteT ?_⟩⟩
      rcases k with ⟨c, h1, hc', k⟩ | ⟨h2, k⟩
      · omega
      · refine ⟨_, rfl, (by show 1 ≤ 1000; decide), fun e he => ⟨e, _, rfl, upd_same, fun d hd ne => ⟨rfl, ?_⟩⟩⟩
        obtain ⟨H3, e3, a1, a2, a3, a4⟩ := made_same (C := CB) (p := "place") (y := .int pl) he hd ne
        rw [e3]
        exact ⟨d, _, a1, a2, a3, k _ _ (s3.trans a4) upd_same⟩
def wordOf (m k : Nat) : Str := if k = m then "sure" else if k = 0 then "never" else "open"
def sp_status (CN : Addr) : Sp := fun vs H Q E => ∃ (n : Nat) (a t : Addr) (fs : List Ft) (f : Ft), vs = [.int n, .ref a, .ref t] ∧ Args H a n fs ∧ fs.length ≤ 999 ∧ FtAt H t f ∧ f.ok n ∧
  (((fits n fs).length ≠ 0 ∧ ∀ H', Same H H' → Q (.str (wordOf (fits n fs).length (fits n (fs ++ [f])).length)) H') ∨
   ((fits n fs).length = 0 ∧ ∀ H' d, Same H H' → H' d = some (.xd [("size", .int n)]) → E (.ref CN) (some d) H'))
theorem w_status (X : Tx mg) (hs : mg "super" = none) (D : Dn K mg "status" s_status) (xN : Xc P K mg "NoFit" CN "size") (c_check_facts : Cal P w K mg base 2 "check_facts" sp_check_facts) (c_fact_is_right : Cal P w K mg base 1 "fact_is_right" sp_fact_is_right)
    (c_count_fits : Cal P w K mg base 7 "count_fits" sp_count_fits) : CalX P w K mg base 8 "status" (sp_status CN) := by
  refine calx_of D sc_status bd_status (fun vs H Q E h => ?_) fun f cdv A outer s H vs Q E hr h => ?_
  · obtain ⟨n, a, t, fs, f, rfl, _⟩ := h; rfl
  · obtain ⟨n, a, t, fs, ft, rfl, g, hl9, ht, hft, k⟩ := h
    refine ⟨_, (pss_cons
    (ps_expr (pe_c c_check_facts hr (by decide) rfl (pa_cons (pv 0) (pa_cons (pv 1) pa_nil)))) (pss_cons
    (ps_if (pt_not (pt_val (pe_c c_fact_is_right hr (by decide) rfl (pa_cons (pv 0) (pa_cons (pv 2) pa_nil))))) (pss_one
    ps_never) pss_nil) (pss_cons
    (ps_set (i := 3) sc_status.nd rfl (Or.inl rfl) (pe_c c_count_fits hr (by decide) rfl (pa_cons (pv 0) (pa_cons (pv 1) pa_nil)))) (pss_cons
    (ps_if (pt_cmpR op_eq (pv 3) pe_int (nomark _)) (pss_one
    (ps_raise rfl (takes_of rfl rfl rfl rfl) (pmk_xc xN hs hr (by decide) rfl (pa_cons (pv 0) pa_nil)))) pss_nil) (pss_cons
    (ps_set (i := 4) sc_status.nd rfl (Or.inl rfl) (pe_c c_count_fits hr (by decide) rfl (pa_cons (pv 0) (pa_cons (pe_lst (StX.pa_star (pv 1) (pa_cons (pv 2) pa_nil))) pa_nil)))) (pss_cons
    (ps_if (pt_cmpR op_eq (pv 4) (pv 3) (nomark _)) (pss_one
    (ps_ret pe_str)) pss_nil) (pss_cons
    (ps_if (pt_cmpR op_eq (pv 4) pe_int (nomark _)) (pss_one
    (ps_ret pe_str)) pss_nil) (pss_one
    (ps_ret pe_str))))))))), ?_⟩
    refine ⟨_, rfl, _, rfl, n, a, fs, rfl, g.l, g.hn, g.ok, fun H1 s1 => ?_⟩
    refine ⟨_, rfl, _, rfl, n, t, ft, rfl, s1 _ _ ht, hft, fun H2 s2 => ⟨true, rfl, iteF ?_⟩⟩
    have s12 := s1.trans s2
    refine ⟨_, rfl, _, rfl, n, a, fs, rfl, ⟨g.l.same s12, g.hn, g.s, g.ok⟩, fun H3 s3 => ?_⟩
    have s13 := s12.trans s3
    refine ⟨_, rfl, rfl, ?_⟩
    rcases k with ⟨h0, k⟩ | ⟨h0, k⟩
    · refine ⟨false, dF (vint_ne (by omega)), iteF ?_⟩
      obtain ⟨ts, ha, hp⟩ := (g.l.same s13)
      refine ⟨_, rfl, _, rfl, a, _, rfl, .inr (SqL.of ha), _, rfl, ?_, fun q hq => ?_⟩
      · refine sizeLine_ge ?_
        have := Paired.len hp
        simp only [List.length_append, List.length_map, List.length_singleton]
        omega
      · have s4 : Same H3 (L2.upd H3 q (.lst (ts.map V.ref ++ [V.ref t]))) := Same.new hq
        refine ⟨n, q, fs ++ [ft], rfl, ⟨⟨ts ++ [t], by rw [upd_same]; simp, ?_⟩, g.hn, by simp; omega, fun f hf => ?_⟩, fun H5 s5 => ?_⟩
        · refine Paired.app (L2.Paired.mapP hp fun t f q => s4 _ _ q) (.cons ?_ .nil)
          exact s4 _ _ (s13 _ _ ht)
        · rcases List.mem_append.mp hf with hf | hf
          · exact g.ok f hf
          · rw [List.mem_singleton.mp hf]; exact hft
        · have hq5 := k H5 ((s13.trans s4).trans s5)
          unfold wordOf at hq5
          refine ⟨_, rfl, _, rfl, rfl, ?_⟩
          by_cases e1 : (fits n (fs ++ [ft])).length = (fits n fs).length
          · rw [if_pos e1] at hq5
            exact ⟨true, dT (by rw [e1]), iteT hq5⟩
          · rw [if_neg e1] at hq5
            refine ⟨false, dF (vint_ne (by omega)), iteF ⟨_, rfl, rfl, ?_⟩⟩
            by_cases e2 : (fits n (fs ++ [ft])).length = 0
            · rw [if_pos e2] at hq5
              exact ⟨true, dT (by rw [e2]; rfl), iteT hq5⟩
            · rw [if_neg e2] at hq5
              exact ⟨false, dF (vint_ne (by omega)), iteF hq5⟩
    · refine ⟨true, dT (by rw [h0]; rfl), iteT ?_⟩
      refine ⟨_, rfl, (by show 1 ≤ 1000; decide), fun e he => ⟨e, _, rfl, upd_same, fun d hd ne => ⟨rfl, ?_⟩⟩⟩
      obtain ⟨H6, e6, a1, a2, a3, a4⟩ := made_same (C := CN) (p := "size") (y := .int n) he hd ne
      rw [e6]
      exact ⟨d, _, a1, a2, a3, k _ _ (s13.trans a4) upd_same⟩
end
end LK
end

section
/-! LKGen -/
set_option maxHeartbeats 4000000
namespace LK
open PySem PySem.Spec PyProof.Rows L2 GenW

/-! ### for in a generator's body -/
section
variable {prog : Program} {w : World} {A : Around} {R : GenEnd} {Y : Protocol} {n : Nat} {s₀ : Shared} {fs : List Frame} {s : Shared} {env : Env}
abbrev notedG (env : Env) (x : Value) : Sem PySem.Fin := (do noteFrame x env; theTreesLotGoes x : Sem Unit).wrap (fun _ => .raise x) .raise id id
theorem seg_forLoop {tg : Expr} {it : Value} {body : List Stmt}
    (h : wpAny (model prog w) (A.over (.forLoop tg it body [] env) fs) (pyNext it) (fun r s1 => match r with
        | none => Seg (model prog w) A R Y n s₀ (.forLoop tg it body [] env) (.pure (.again (.block [] env))) fs s1
        | some v => wpAny (model prog w) (A.over (.forLoop tg it body [] env) fs) (letOwnedTupleGo tg it v) (fun _ s2 => wpAny (model prog w) (A.over (.forLoop tg it body [] env) fs) (assign tg env v) (fun _ s3 =>
            Seg (model prog w) A R Y n s₀ (.forLoop tg it body [] env) ((execs body env).wrap (fun f => match f with
              | .next | .cont => .pure (.again (.forLoop tg it body [] env))
              | .brk => .pure (.done .next)
              | .ret v => .pure (.done (.ret v))) (fun e => notedG env e) id id) fs s3)
            (fun x s' => Seg (model prog w) A R Y n s₀ (.forLoop tg it body [] env) (notedG env x) fs s') s2)
            (fun x s' => Seg (model prog w) A R Y n s₀ (.forLoop tg it body [] env) (notedG env x) fs s') s1)
      (fun x s' => Seg (model prog w) A R Y n s₀ (.forLoop tg it body [] env) (notedG env x) fs s') s) :
    Seg (model prog w) A R Y n s₀ (.forLoop tg it body [] env) ((model prog w).den (.forLoop tg it body [] env)) fs s := by
  show Seg _ A R Y n s₀ _ ((forTurn tg it body [] env).onRaise (fun x => do noteFrame x env; theTreesLotGoes x)) fs s
  unfold forTurn
  rw [Sem.onRaise_eq_wrap]
  have noted : ∀ {x : Value} {s' : Shared}, Seg (model prog w) A R Y n s₀ (.forLoop tg it body [] env) (notedG env x) fs s' → Seg (model prog w) A R Y n s₀ (.forLoop tg it body [] env) ((do noteFrame x env; theTreesLotGoes x : Sem Unit).bind fun _ => .raise x) fs s' := fun {x s'} hx => by
    rw [Sem.bind_eq_wrap]; exact hx
  refine seg_at ?_
  refine seg_bind_wrap (wpAny_pure ?_)
  refine seg_bind_wrap (wpAny_onRaise (wpAny_mono h (fun r s1 h1 => ?_) fun x s' hx => wpAny_standAt (noted hx)))
  cases r with
  | none => exact h1
  | some v =>
    refine seg_bind_wrap (wpAny_mono h1 (fun _ s2 h2 => ?_) fun x s' hx => noted hx)
    refine seg_bind_wrap (wpAny_mono h2 (fun _ s3 h3 => ?_) fun x s' hx => noted hx)
    rw [Sem.bind_eq_wrap', Sem.wrap_wrap]
    rw [Sem.wrap_congr (execs body env) _ _ (K' := fun f => match f with
            | .next | .cont => .pure (.again (.forLoop tg it body [] env))
            | .brk => .pure (.done .next)
            | .ret v => .pure (.done (.ret v))) (H' := fun e => notedG env e)
        (fun f => by cases f <;> rfl)
        (fun e => by first | exact Sem.bind_eq_wrap _ _ | (show (do noteFrame e env; theTreesLotGoes e : Sem Unit).bind (fun _ => .raise e) = _; rw [Sem.bind_eq_wrap]))]
    exact h3
end

def tGFor (wi : TI) (g : TG) (tb : TGn) : TGn := fun D ys σ H => wi σ H fun J H1 => ∃ W : Nat → Nat → List V → L2.St → Hp → Prop, (∃ m, W 0 m ys σ H1) ∧ ∀ i m ys σ H, W i m ys σ H →
  (J.stop i H ∧ D.nx ys σ H) ∨ (J.go i H ∧ ∃ N : List V → L2.St → Hp → Prop, (∀ ys' σ' H', N ys' σ' H' → ∃ m', m' < m ∧ W (i + 1) m' ys' σ' H') ∧ ∀ x H', J.yld i H x H' → g x σ H' fun σ2 H2 => tb { D with nx := N, ct := N, bk := D.nx } ys σ2 H2)
section
variable {X : Cx}
theorem gs_for {tg iter : Expr} {body : List Stmt} {pos : Pos} {wi : TI} {g : TG} {tb : TGn} (hp : PassesOwn (model X.prog X.w) X.A X.env X.xe) (hc : X.calm = true) (hi : PI X tg iter wi) (hg : PG X tg g) (hb : GSs X body tb)
    (hs : ∀ x, foldedSetIterable iter X.env x = pure x := by intro _; rfl) : GS X (.For tg iter body [] pos) (tGFor wi g tb) := by
  refine ⟨fun A S ip R n ys s₀ c fs K J gd lv s σ H D gC hn k hI ht => ?_⟩
  obtain ⟨acc, cc, r, I⟩ := hI
  rw [exec_For]
  refine seg_at ?_
  refine seg_bind_wrap (wpAny_pure ?_)
  refine seg_bind_wrap ?_
  rw [gC.over]
  refine wpAny_mono (hi.run _ s σ H _ I ht) (fun v s1 h1 => ?_) fun x s' hx => k.exc n s₀ x s' hx
  rw [hs v]
  refine seg_bind_wrap (wpAny_pure ?_)
  refine seg_at ?_
  refine seg_bind_wrap (wpAny_pure ?_)
  refine seg_bind_wrap (wpAny_holding ?_)
  rw [gC.over]
  refine wpAny_mono h1 (fun itv s2 h2 => ?_) fun x s' hx => k.exc n s₀ x s' hx
  obtain ⟨it, fp, tn, Jt, H2, rfl, I2, T, st2, f2, W, ⟨m0, w0⟩, turn⟩ := h2
  refine seg_call fun p => ?_
  have gl := fun (ip' : List (Addr × Obj)) (hip : ∀ q ∈ ip', q.1 ≠ S) (kk : Result → Sem PySem.Fin) => gc_loop (k := kk) (c' := .forLoop tg (.ref it) body [] X.env) (l := lv []) (kp := []) (p := p) (⟨gC.pn, hip, gC.apart, gC.over, gC.split, gC.guard, gC.gd⟩ : GC X S ip' A c fs gd) rfl rfl
  have far : ∀ b ∈ fp, b ≠ S := fun b hb e => ((f2 b hb).2.2.2.2.2 (S, lstObj acc cc) (List.mem_append_right _ List.mem_cons_self)) e.symm
  have loop : ∀ (m n : Nat) (ys : List V) (s₀ s : Shared) (i : Nat) (σ : L2.St) (H : Hp), n + ys.length = sizeLine → W i m ys σ H → GI X S ip ys σ H s → tn i s.heap → (∀ b ∈ fp, H b = none) →
      Seg (model X.prog X.w) A R (GY X S) n s₀ (.forLoop tg (.ref it) body [] X.env) ((model X.prog X.w).den (.forLoop tg (.ref it) body [] X.env))
        (.ret (fun r => ((match r with | .ok f => (.pure f : Sem Flow) | .error e => .raise e).onRaise (cameBack X.env)).wrap K J gd lv) none (gd false) (lv []) c p [] :: fs) s := by
    intro m
    induction m using Nat.strongRecOn with
    | ind m ih =>
      intro n ys s₀ s3 i σ3 H3 hn w3 hI3 st3 fr3
      have ee : ∀ (n : Nat) (s₀ : Shared) (x : Value) (s' : Shared), X.xe x s' → Seg (model X.prog X.w) A R (GY X S) n s₀ (.forLoop tg (.ref it) body [] X.env) (notedG X.env x)
          (.ret (fun r => ((match r with | .ok f => (.pure f : Sem Flow) | .error e => .raise e).onRaise (cameBack X.env)).wrap K J gd lv) none (gd false) (lv []) c p [] :: fs) s' := fun n s₀ x s' hx => by
        refine seg_wrap ?_
        rw [(gl ip gC.ip _).over]
        refine wpAny_bind (wpAny_mono (hp x s' hx) (fun _ s'' hcb => wpAny_theTreesLotGoes ?_) fun y s'' hcb => ?_)
        · exact seg_leaf (.error x) (seg_cameBack gC k hcb)
        · exact seg_leaf (.error y) (seg_cameBack gC k hcb)
      obtain ⟨acc3, cc3, r3, I3⟩ := hI3
      have stat : ∀ b ∈ fp, FpOk X ((S, lstObj acc3 cc3) :: ip) H3 b := fun b hb => by
        obtain ⟨_, a1, a2, a3, a4, a5⟩ := f2 b hb
        refine ⟨fr3 b hb, a1, a2, a3, a4, fun q hq => ?_⟩
        rcases List.mem_append.mp hq with hq | hq
        · exact a5 q (List.mem_append_left _ hq)
        · rcases List.mem_cons.mp hq with hq | hq
          · rw [hq]; exact (far b hb).symm
          · exact a5 q (List.mem_append_right _ (List.mem_cons_of_mem _ hq))
      refine seg_forLoop ?_
      rw [(gl ip gC.ip _).over]
      rcases turn i m ys σ3 H3 w3 with ⟨stop, qn⟩ | ⟨go, N, hN, step⟩
      · refine wpAny_mono (T.done X rfl rfl rfl hc i _ s3 σ3 H3 X.xe I3 stat st3 stop) (fun r s4 hr => ?_) fun x s' hx => ee n s₀ x s' hx
        obtain ⟨rfl, I4⟩ := hr
        refine seg_again rfl ?_
        exact seg_leaf (.ok .next) (k.ok n ys s₀ s4 .next hn ⟨σ3, H3, ⟨acc3, cc3, r3, I4⟩, qn⟩)
      · refine wpAny_mono (T.item X rfl rfl rfl hc i _ s3 σ3 H3 X.xe I3 stat st3 go) (fun r s4 hr => ?_) fun x s' hx => ee n s₀ x s' hx
        obtain ⟨u, rfl, h4⟩ := hr
        refine wpAny_mono h4 (fun _ s5 h5 => ?_) fun x s' hx => ee n s₀ x s' hx
        obtain ⟨x, H5, I5, r5, y5, st5, fr5⟩ := h5
        have stat5 : ∀ b ∈ fp, FpOk X ((S, lstObj acc3 cc3) :: ip) H5 b := fun b hb => ⟨fr5 b hb, (stat b hb).2⟩
        have I5' := I5.pinned stat5 (T.obj _ _ st5)
        refine wpAny_mono (hg.run _ s5 σ3 H5 x u _ I5' r5 (step x H5 y5)) (fun _ s6 h6 => ?_) fun x s' hx => ee n s₀ x s' hx
        obtain ⟨σ6, H6, I6, q6⟩ := h6
        have hip : ∀ q ∈ ip ++ pinsAt fp s5.heap, q.1 ≠ S := fun q hq => by
          rcases List.mem_append.mp hq with hq | hq
          · exact gC.ip q hq
          · exact far _ (of_pinsAt hq).1
        refine hb.run A S (ip ++ pinsAt fp s5.heap) R n ys s₀ _ _ _ _ id id s6 σ6 H6 { D with nx := N, ct := N, bk := D.nx } (gl _ hip _) hn ⟨fun n' ys' s₀' s7 f hn' hs => ?_, fun n' s₀' x s7 hx => ee n' s₀' x s7 hx⟩ ⟨acc3, cc3, r3, I6⟩ q6
        have back : ∀ {σ7 : L2.St} {H7 : Hp}, GI X S (ip ++ pinsAt fp s5.heap) ys' σ7 H7 s7 → GI X S ip ys' σ7 H7 s7 := fun {σ7 H7} G7 => by
          obtain ⟨acc7, cc7, r7, I7⟩ := G7
          refine ⟨acc7, cc7, r7, I7.pins_of fun q hq => I7.pin q (List.mem_append_right _ ?_)⟩
          rcases List.mem_cons.mp hq with hq | hq
          · rw [hq]; exact List.mem_cons_self
          · exact List.mem_cons_of_mem _ (List.mem_append_left _ hq)
        have again : ∀ {σ7 : L2.St} {H7 : Hp}, GI X S (ip ++ pinsAt fp s5.heap) ys' σ7 H7 s7 → N ys' σ7 H7 → Seg (model X.prog X.w) A R (GY X S) n' s₀' (.forLoop tg (.ref it) body [] X.env) (.pure (.again (.forLoop tg (.ref it) body [] X.env)))
            (.ret (fun r => ((match r with | .ok f => (.pure f : Sem Flow) | .error e => .raise e).onRaise (cameBack X.env)).wrap K J gd lv) none (gd false) (lv []) c p [] :: fs) s7 := fun {σ7 H7} G7 n7 => by
          obtain ⟨m', hm, w7⟩ := hN ys' σ7 H7 n7
          obtain ⟨acc7, cc7, r7, I7⟩ := id G7
          refine seg_again rfl (ih m' hm n' ys' s₀' s7 (i + 1) σ7 H7 hn' w7 (back G7) (T.keep _ _ _ st5 fun b hb o e => ?_) fun b hb => ?_)
          · exact (I7.pin (b, o) (List.mem_append_right _ (List.mem_cons_of_mem _ (List.mem_append_right _ (mem_pinsAt hb e))))).1
          · obtain ⟨o, e, d⟩ := T.obj _ _ st5 b hb
            exact (I7.pin (b, o) (List.mem_append_right _ (List.mem_cons_of_mem _ (List.mem_append_right _ (mem_pinsAt hb e))))).2.1
        cases f with
        | next =>
          obtain ⟨σ7, H7, G7, n7⟩ := hs
          exact again G7 n7
        | cont =>
          obtain ⟨σ7, H7, G7, n7⟩ := hs
          exact again G7 n7
        | brk =>
          obtain ⟨σ7, H7, G7, q7⟩ := hs
          exact seg_leaf (.ok .next) (k.ok n' ys' s₀' s7 .next hn' ⟨σ7, H7, back G7, q7⟩)
        | ret v =>
          obtain ⟨x7, σ7, H7, G7, r7, q7⟩ := hs
          exact seg_leaf (.ok (.ret v)) (k.ok n' ys' s₀' s7 (.ret v) hn' ⟨x7, σ7, H7, back G7, r7, q7⟩)
  exact loop m0 n ys s₀ s2 0 σ H2 hn w0 ⟨acc, cc, r, I2⟩ st2 fun b hb => (f2 b hb).1
end
end LK
end

section
/-! LKWalk13 -/
set_option maxHeartbeats 4000000
namespace LK
open PySem PySem.Spec PyProof.Rows L2
theorem gfor_range {lo : Int} {n : Nat} {g : TG} {tb : TGn} {D : GEnds} {ys : List V} {σ : L2.St} {H : Hp} (Pv : Nat → List V → L2.St → Hp → Prop) (h0 : Pv 0 ys σ H)
    (hs : ∀ i ys σ H, i < n → Pv i ys σ H → g (.int (lo + i)) σ H fun σ2 H2 => tb { D with nx := Pv (i + 1), ct := Pv (i + 1), bk := D.nx } ys σ2 H2) (hd : ∀ ys σ H, Pv n ys σ H → D.nx ys σ H) :
    ∃ W : Nat → Nat → List V → L2.St → Hp → Prop, (∃ m, W 0 m ys σ H) ∧ ∀ i m ys σ H, W i m ys σ H →
      ((Itr lo n).stop i H ∧ D.nx ys σ H) ∨ ((Itr lo n).go i H ∧ ∃ N : List V → L2.St → Hp → Prop, (∀ ys' σ' H', N ys' σ' H' → ∃ m', m' < m ∧ W (i + 1) m' ys' σ' H') ∧ ∀ x H', (Itr lo n).yld i H x H' → g x σ H' fun σ2 H2 => tb { D with nx := N, ct := N, bk := D.nx } ys σ2 H2) := by
  refine ⟨fun i m ys σ H => m = n - i ∧ i ≤ n ∧ Pv i ys σ H, ⟨n, by simp, Nat.zero_le _, h0⟩, ?_⟩
  rintro i m ys σ H ⟨rfl, hi, p⟩
  by_cases hlt : i < n
  · refine .inr ⟨hlt, Pv (i + 1), fun ys' σ' H' p' => ⟨n - (i + 1), by omega, rfl, hlt, p'⟩, fun x H' y => ?_⟩
    obtain ⟨e, y⟩ := y
    subst e y
    exact hs i ys σ _ hlt p
  · have e : i = n := by omega
    subst e
    exact .inl ⟨Nat.le_refl _, hd ys σ H p⟩
/-- a generator def, callable -/
structure CalG (P : Program) (w : World) (K : PySem.W.Frag) (mg : Str → Option Value) (base : Heap) (k : Nat) (x : Str) (sp : SpG) : Prop where
  ex : ∃ (f : Addr) (fd : FuncData) (ps : List Str), GFn P w K mg base k f fd ps sp ∧ mg x = some (.ref f) ∧ PySem.W.keepIn K (.ref f) = true ∧ Binds K fd ps []
section
variable {P : Program} {w : World} {K : PySem.W.Frag} {mg : Str → Option Value} {base : Heap} {CK CT CL CF CB CN : Addr}
/-- the fits, as objects -/
def FitsAt (CL CF : Addr) (n : Nat) (H : Hp) (v : V) (c : Ch) : Prop := ∃ p, v = .ref p ∧ FoR CL CF H p n (play (chPost c))
def sp_each_fit (CL CF : Addr) : SpG := fun vs H Q _ => ∃ (n : Nat) (a : Addr) (fs : List Ft), vs = [.int n, .ref a] ∧ Args H a n fs ∧ (fits n fs).length ≤ 100000 ∧ ∀ H' ys, Same H H' → Paired (FitsAt CL CF n H') ys (fits n fs) → Q ys H'
theorem bd_each_fit : Bd "each_fit" "each_fit" s_each_fit ["size", "facts"] := fun _ _ _ _ _ _ us hl => match us, hl with | [_, _], _ => rfl
theorem nd_each_fit : N_each_fit.Nodup := by decide +kernel
theorem gsc_each_fit : GScope N_each_fit ["size", "facts"] (defScope s_each_fit) := ⟨rfl, rfl, rfl, nd_each_fit, rfl, by decide +kernel, by decide +kernel⟩
theorem FitsAt.same {n : Nat} {H H' : Hp} {v : V} {c : Ch} (e : Same H H') (h : FitsAt CL CF n H v c) : FitsAt CL CF n H' v c := by
  obtain ⟨p, rfl, h⟩ := h
  exact ⟨p, rfl, h.same e⟩
theorem w_each_fit (X : Tx mg) (TC : CFt K CT) (D : Dn K mg "each_fit" s_each_fit) (c_check_facts : Cal P w K mg base 2 "check_facts" sp_check_facts) (c_FitTable_init : Mak P w K mg base 5 "FitTable" CT (sp_FitTable_init CT CK))
    (c_FitTable_member : Met P w K mg base 8 CT "member" (sp_member CT CK CL CF)) : CalG P w K mg base 9 "each_fit" (sp_each_fit CL CF) := by
  obtain ⟨f, fd, F, hm⟩ := D
  refine ⟨f, fd, _, ?_, hm, F.kp, F.binds bd_each_fit⟩
  obtain ⟨oc, od, kV, doc, pm, an, cdv, ct, osl, rfl, lk, hcd⟩ := F.ex
  refine gfn_of lk hcd gsc_each_fit (fun vs H Q E h => ?_) fun A outer s H vs Q E pn hr h => ?_
  · obtain ⟨n, a, fs, rfl, _⟩ := h; rfl
  · obtain ⟨n, a, fs, rfl, g, hlen, k⟩ := h
    refine ⟨_, gss_cons (gs_ps (ps_expr (pe_c c_check_facts hr (by decide) rfl (pa_cons (pv 0) (pa_cons (pv 1) pa_nil))))) (gss_cons
      (gs_ps (ps_set (i := 2) nd_each_fit rfl (Or.inl rfl) (pe_mk c_FitTable_init hr (by decide) rfl (pa_cons (pv 0) (pa_cons (pv 1) pa_nil))))) (gss_cons
      (gs_for owns_gcx rfl (pi_range1 rfl X.range (pa_cons (pe_fld (pv 2) rfl) pa_nil)) (pg_name (i := 3) nd_each_fit rfl (Or.inl rfl)) (gss_cons
        (gs_yield (pe_mt c_FitTable_member hr (by decide) (pv 2) (pa_cons (pv 3) pa_nil))) gss_nil)) gss_nil)), ?_⟩
    refine ⟨_, rfl, _, rfl, n, a, fs, rfl, g.l, g.hn, g.ok, fun H1 s1 => ?_⟩
    refine ⟨_, rfl, _, rfl, fun x dx nx ndx nex => ⟨H1, x, dx, a, n, fs, rfl, same_made nx ndx, nx, upd_same, g.l.same s1, g.s, g.hn, fun H2 T U s2 R ⟨F, hF, hc⟩ hT hU => ⟨rfl, ?_⟩⟩⟩
    have s3 := s1.trans s2
    refine ⟨_, rfl, x, CT, dx, _, _, rfl, hF, TC.cl, TC.count, hc, _, rfl, by omega, by omega, ?_⟩
    refine gfor_range (fun i ys σ H' => ∃ v, σ = [some (.int n), some (.ref a), some (.ref x), v] ∧ Same H2 H' ∧ Paired (FitsAt CL CF n H') ys ((fits n fs).take i)) ⟨_, rfl, Same.refl _, .nil⟩ ?_ ?_
    · rintro i ys σ H' hi ⟨v, rfl, s4, hp⟩
      have hi' : i < (fits n fs).length := by have := hi; omega
      have hc' : (fits n fs)[i]? = some (fits n fs)[i] := List.getElem?_eq_getElem hi'
      have hl := Paired.len hp
      rw [List.length_take] at hl
      obtain ⟨dx', kn, tcs, ccs, rows, tail, O⟩ := R.same s4
      refine ⟨sizeLine_gt (by omega), ?_⟩
      refine ⟨_, rfl, x, dx', _, rfl, O.ob, O.tn _ (by decide +kernel), _, rfl, x, n, fs, T, U, i, (fits n fs)[i], ?_, R.same s4, g.hn, hT, hU, hc', fun H5 q s5 hq FR => ?_⟩
      · show [V.ref x, V.int (0 + (i : Int))] = _
        rw [Int.zero_add]
      · refine ⟨_, rfl, s4.trans s5, ?_⟩
        rw [List.take_add_one, hc']
        exact Paired.app (L2.Paired.mapP hp fun v c h => h.same s5) (.cons ⟨q, rfl, FR⟩ .nil)
    · rintro ys σ H' ⟨v, rfl, s4, hp⟩
      rw [show ((((fits n fs).length : Nat) : Int)).toNat = (fits n fs).length from rfl, List.take_length] at hp
      exact k _ _ (s3.trans s4) hp
end
end LK
end

section
/-! LKLaw1 -/
set_option maxHeartbeats 4000000
namespace LK
open PySem PySem.Spec PyProof.Rows L2
/-- the heap without p -/
def era (p : Addr) (H : Hp) : Hp := fun b => if b = p then none else H b
theorem era_ne {p b : Addr} {H : Hp} (h : b ≠ p) : era p H b = H b := if_neg h
theorem era_p {p : Addr} {H : Hp} : era p H p = none := if_pos rfl
theorem era_le {p : Addr} {H : Hp} : Same (era p H) H := fun b o e => by
  by_cases h : b = p
  · rw [h, era_p] at e; cases e
  · rw [era_ne h] at e; exact e
theorem era_upd {p : Addr} {H : Hp} {o : HO} : era p (L2.upd H p o) = era p H := funext fun b => by
  by_cases h : b = p
  · rw [h, era_p, era_p]
  · rw [era_ne h, era_ne h, upd_ne h]
theorem era_same {p : Addr} {H H' : Hp} (e : Same H H') : Same (era p H) (era p H') := fun b o q => by
  by_cases h : b = p
  · rw [h, era_p] at q; cases q
  · rw [era_ne h] at q ⊢; exact e b o q
theorem era_none {p b : Addr} {H : Hp} (h : H b = none) : era p H b = none := by
  by_cases q : b = p
  · rw [q, era_p]
  · rw [era_ne q]; exact h
theorem thenBy {t u : TS} {D : Ends} {σ : L2.St} {H : Hp} (Pv : L2.St → Hp → Prop) (h2 : ∀ σ' H', Pv σ' H' → u D σ' H') (h1 : (∀ σ' H', Pv σ' H' → u D σ' H') → tSeq t u D σ H) : tSeq t u D σ H := h1 h2
/-- the purse at p, its cells at c -/
def PurseAt (H : Hp) (p c : Addr) : Prop := ∃ (r s : Int) (cells : List Int), H p = some (.lst [.int r, .int s, .ref c]) ∧ H c = some (.lst (cells.map V.int)) ∧ c ≠ p ∧ cells ≠ [] ∧ cells.length ≤ 1000
theorem PurseAt.same {H H' : Hp} {p c : Addr} (e : Same H H') (h : PurseAt H p c) : PurseAt H' p c := by
  obtain ⟨r, s, cells, h1, h2, h3, h4, h5⟩ := h
  exact ⟨r, s, cells, e _ _ h1, e _ _ h2, h3, h4, h5⟩
theorem PurseAt.some {H : Hp} {p c : Addr} (h : PurseAt H p c) : (∃ xs, H p = some (.lst xs)) ∧ (∃ xs, H c = some (.lst xs)) := by
  obtain ⟨r, s, cells, h1, h2, _⟩ := h
  exact ⟨⟨_, h1⟩, ⟨_, h2⟩⟩
theorem PurseAt.off {H : Hp} {p c a : Addr} (h : PurseAt H p c) (n : H a = none) : a ≠ p ∧ a ≠ c := by
  obtain ⟨⟨_, h1⟩, ⟨_, h2⟩⟩ := h.some
  exact ⟨(ne_of_none h1 n).symm, (ne_of_none h2 n).symm⟩
theorem PurseAt.write {H : Hp} {p c a : Addr} {o : HO} (h : PurseAt H p c) (n : a ≠ p ∧ a ≠ c) : PurseAt (L2.upd H a o) p c := by
  obtain ⟨r, s, cells, h1, h2, h3⟩ := h
  exact ⟨r, s, cells, by rw [upd_ne n.1.symm]; exact h1, by rw [upd_ne n.2.symm]; exact h2, h3⟩
theorem ints_at {cells : List Int} {z : Int} {i : Nat} (e : z = (i : Int)) (h : i < cells.length) : ∃ x, atI (cells.map V.int) z = some (.int x) := ⟨cells[i], at_of e (by simp [h])⟩
section
variable {P : Program} {w : World} {K : PySem.W.Frag} {mg : Str → Option Value} {base : Heap} {CK CT CL CF CB CN : Addr}
def sp_draw : Sp := fun vs H Q _ => ∃ (p c : Addr) (many : Nat), vs = [.ref p, .int (many : Nat)] ∧ PurseAt H p c ∧ 0 < many ∧ many < 2 ^ 120 ∧ ∀ H' (v : Nat), v < many → PurseAt H' p c → era p H' = era p H → Q (.int (v : Nat)) H'
theorem w_draw (T : Tx mg) (D : Dn K mg "_law_draw" s_l_draw) : Cal P w K mg base 1 "_law_draw" sp_draw := by
  refine cal_of D sc_l_draw bd_l_draw (fun vs H Q E h => ?_) fun f cdv A outer s H vs Q E hr h => ?_
  · obtain ⟨p, c, many, rfl, _⟩ := h; rfl
  · obtain ⟨p, c, many, rfl, ⟨r, s, cells, hp, hc, ncp, hcell, hlen⟩, h0, h1, k⟩ := h
    refine ⟨_, (pss_cons
    (ps_if (pt_cmpR op_gt (pe_ix ix_list (pv 0) pe_int (fun _ _ => rfl)) pe_int (nomark _)) (pss_cons
    (ps_set (i := 2) sc_l_draw.nd rfl (Or.inl rfl) (pe_op op_mod (pe_callTy call_int1 (by rfl) T.int (by decide +kernel) (pa_cons (pe_ix ix_list (pv 0) pe_int (fun _ _ => rfl)) pa_nil)) (pv 1))) (pss_cons
    (ps_asg (pe_op op_fdivW (pe_ix ix_list (pv 0) pe_int (fun _ _ => rfl)) (pv 1)) (pg_sub (pv 0) pe_int set_list)) (pss_one
    (ps_ret (pv 2))))) pss_nil) (pss_cons
    (ps_asg (pe_op op_add (pe_ix ix_list (pv 0) pe_int (fun _ _ => rfl)) pe_int) (pg_sub (pv 0) pe_int set_list)) (pss_cons
    (ps_set (i := 3) sc_l_draw.nd rfl (Or.inl rfl) (pe_ix ix_list (pv 0) pe_int (fun _ _ => rfl))) (pss_cons
    (ps_set (i := 4) sc_l_draw.nd rfl (Or.inl rfl) (pe_ix ix_list (pv 0) pe_int (fun _ _ => rfl))) (pss_cons
    (ps_set (i := 5) sc_l_draw.nd rfl (Or.inl rfl) (pe_op op_mod (pe_callTy call_int1 (by rfl) T.int (by decide +kernel) (pa_cons (pe_op op_add (pe_op op_add (pe_ix ix_list (pv 4) (pe_op op_mod (pv 3) (pe_callB call_len_seq (by rfl) T.len PySem.boot_len (pa_cons (pv 4) pa_nil))) (fun _ _ => rfl)) (pe_op op_mul (pv 3) pe_int)) pe_int) pa_nil)) pe_int)) (pss_cons
    (ps_set (i := 6) sc_l_draw.nd rfl (Or.inl rfl) (pe_op op_mod (pe_callTy call_int1 (by rfl) T.int (by decide +kernel) (pa_cons (pe_op op_add (pe_op op_mul (pv 5) (pv 5)) (pe_op op_mul (pv 3) pe_int)) pa_nil)) pe_int)) (pss_cons
    (ps_set (i := 7) sc_l_draw.nd rfl (Or.inl rfl) (pe_op op_mod (pe_callTy call_int1 (by rfl) T.int (by decide +kernel) (pa_cons (pe_op op_add (pe_op op_mul (pv 6) (pv 6)) (pv 5)) pa_nil)) pe_int)) (pss_one
    (ps_ret (pe_op op_mod (pe_callTy call_int1 (by rfl) T.int (by decide +kernel) (pa_cons (pe_op op_fdivW (pv 7) pe_int) pa_nil)) (pv 1))))))))))), ?_⟩
    refine ⟨_, rfl, p, _, _, _, rfl, rfl, SqL.of hp, rfl, _, _, rfl, rfl, ?_⟩
    by_cases hr0 : 0 < r
    · refine ⟨true, dT hr0, iteT ?_⟩
      refine ⟨_, rfl, p, _, _, _, rfl, rfl, SqL.of hp, rfl, .inl ⟨_, rfl, _, rfl, _, _, rfl, rfl, by omega, ?_⟩⟩
      have hlog : ((many : Nat) : Int).natAbs.log2 < 9000 := by
        show many.log2 < 9000
        have := (Nat.log2_lt (show many ≠ 0 by omega)).mpr h1
        omega
      refine ⟨_, rfl, p, _, _, _, rfl, rfl, SqL.of hp, rfl, _, rfl, _, _, rfl, rfl, ⟨by omega, hlog⟩, ?_⟩
      refine ⟨_, rfl, p, _, _, 0, rfl, rfl, hp, rfl, ?_⟩
      obtain ⟨v, ev⟩ : ∃ v : Nat, r % (many : Int) = (v : Int) := ⟨(r % (many : Int)).toNat, (Int.toNat_of_nonneg (Int.emod_nonneg _ (by omega))).symm⟩
      have hv : v < many := by have := Int.emod_lt_of_pos r (show (0 : Int) < many by omega); omega
      refine ⟨_, rfl, ?_⟩
      dsimp only
      rw [ev]
      exact k _ v hv ⟨r / many, s, cells, upd_same, by rw [upd_ne ncp]; exact hc, ncp, hcell, hlen⟩ era_upd
    · refine ⟨false, dF hr0, iteF ?_⟩
      refine ⟨_, rfl, p, _, _, _, rfl, rfl, SqL.of hp, rfl, _, _, rfl, rfl, ?_⟩
      refine ⟨_, rfl, p, _, _, 1, rfl, rfl, hp, rfl, ?_⟩
      obtain ⟨H1, e1, hp1, hc1, er1⟩ : ∃ H1, L2.upd H p (.lst [.int r, .int (s + 1), .ref c]) = H1 ∧ H1 p = some (.lst [.int r, .int (s + 1), .ref c]) ∧ H1 c = some (.lst (cells.map V.int)) ∧ era p H1 = era p H := ⟨_, rfl, upd_same, by rw [upd_ne ncp]; exact hc, era_upd⟩
      refine rwH e1 ?_
      generalize hs1 : s + 1 = s1 at hp1 ⊢
      have hl0 : 0 < cells.length := List.length_pos_iff.mpr hcell
      refine ⟨_, rfl, p, _, _, _, rfl, rfl, SqL.of hp1, rfl, ?_⟩
      refine ⟨_, rfl, p, _, _, _, rfl, rfl, SqL.of hp1, rfl, ?_⟩
      -- one
      obtain ⟨j, ej⟩ : ∃ j : Nat, s1 % ((cells.length : Nat) : Int) = (j : Int) := ⟨(s1 % ((cells.length : Nat) : Int)).toNat, (Int.toNat_of_nonneg (Int.emod_nonneg _ (by omega))).symm⟩
      have hj : j < cells.length := by have := Int.emod_lt_of_pos s1 (show (0 : Int) < (cells.length : Nat) by omega); omega
      obtain ⟨z, ez⟩ := ints_at ej hj
      refine ⟨_, rfl, _, rfl, _, rfl, c, _, rfl, .inl (SqL.of hc1), _, _, rfl, rfl, by rw [List.length_map]; omega, ?_⟩
      rw [List.length_map]
      refine ⟨c, _, _, _, rfl, rfl, SqL.of hc1, ez, ?_⟩
      refine ⟨_, rfl, _, _, rfl, rfl, .inr ⟨by decide, by decide⟩, _, _, rfl, rfl, _, _, rfl, rfl, .inl ⟨_, rfl, _, _, rfl, rfl, (by show (0 : Int) < 2147483647; decide), ?_⟩⟩
      obtain ⟨o1, e1, b0, b1⟩ : ∃ o1 : Int, (z + s1 * 7919 + 104417) % 2147483647 = o1 ∧ 0 ≤ o1 ∧ o1 < 2147483647 := ⟨_, rfl, Int.emod_nonneg _ (by decide), Int.emod_lt_of_pos _ (by decide)⟩
      dsimp only
      rw [e1]
      -- two
      refine ⟨_, rfl, _, rfl, _, _, rfl, rfl, .inl ⟨by omega, by omega⟩, _, rfl, _, _, rfl, rfl, .inr ⟨by decide, by decide⟩, _, _, rfl, rfl, .inl ⟨_, rfl, _, _, rfl, rfl, (by show (0 : Int) < 2147483587; decide), ?_⟩⟩
      obtain ⟨o2, e2, c0, c1⟩ : ∃ o2 : Int, (o1 * o1 + s1 * 40693) % 2147483587 = o2 ∧ 0 ≤ o2 ∧ o2 < 2147483587 := ⟨_, rfl, Int.emod_nonneg _ (by decide), Int.emod_lt_of_pos _ (by decide)⟩
      dsimp only
      rw [e2]
      -- three
      refine ⟨_, rfl, _, rfl, _, _, rfl, rfl, .inl ⟨by omega, by omega⟩, _, rfl, _, _, rfl, rfl, .inl ⟨_, rfl, _, _, rfl, rfl, (by show (0 : Int) < 2147483563; decide), ?_⟩⟩
      dsimp only
      generalize (o2 * o2 + o1) % 2147483563 = o3
      refine ⟨_, rfl, _, _, rfl, rfl, ⟨by decide, by decide +kernel⟩, .inl ⟨_, rfl, _, rfl, _, _, rfl, rfl, by omega, ?_⟩⟩
      obtain ⟨v, ev⟩ : ∃ v : Nat, o3 / 32 % (many : Int) = (v : Int) := ⟨(o3 / 32 % (many : Int)).toNat, (Int.toNat_of_nonneg (Int.emod_nonneg _ (by omega))).symm⟩
      have hv : v < many := by have := Int.emod_lt_of_pos (o3 / 32) (show (0 : Int) < many by omega); omega
      dsimp only
      rw [ev]
      exact k _ v hv ⟨r, s1, cells, hp1, hc1, ncp, hcell, hlen⟩ er1
def sp_purse (K : PySem.W.Frag) : Sp := fun vs H Q _ => ∃ (a : Addr) (xs : List Int), vs = [.ref a] ∧ SqL K H a (xs.map V.int) ∧ xs.length ≤ 1000 ∧ ∀ H' p c, Same H H' → H p = none → PurseAt H' p c → Q (.ref p) H'
theorem w_purse (T : Tx mg) (D : Dn K mg "_law_purse" s_l_purse) : Cal P w K mg base 1 "_law_purse" (sp_purse K) := by
  refine cal_of D sc_l_purse bd_l_purse (fun vs H Q E h => ?_) fun f cdv A outer s H vs Q E hr h => ?_
  · obtain ⟨a, xs, rfl, _⟩ := h; rfl
  · obtain ⟨a, xs, rfl, ha, hl, k⟩ := h
    refine ⟨_, (pss_cons
    (ps_setLc (i := 1) (own := [("_law_cell", 3)]) (g := gName 3) (tt := tYes) (by rfl) sc_l_purse.nd rfl rfl (sw_true rfl rfl rfl (by decide +kernel)) (pi_list (pe_slice sl_list (pv 0) po_none (po_some pe_int))) (blkOk_by (own := [("_law_cell", 3)]) (N := N_l_purse) (sc := defScope s_l_purse) (by decide +kernel)) (fun _ _ _ _ _ => pg_name (i := 3) sc_l_purse.nd rfl (Or.inl rfl)) (fun _ _ _ _ _ => pts_nil) (fun _ _ _ _ _ => (pe_op op_mod (pe_callTy call_int1 (by rfl) T.int (by decide +kernel) (pa_cons (pv 3) pa_nil)) pe_int))) (pss_cons
    (ps_if (pt_cmpR op_eq (pe_callB call_len_seq (by rfl) T.len PySem.boot_len (pa_cons (pv 1) pa_nil)) pe_int (nomark _)) (pss_one
    (ps_set (i := 1) sc_l_purse.nd rfl (Or.inl rfl) (pe_lst (pa_cons pe_int pa_nil)))) pss_nil) (pss_cons
    (ps_set (i := 2) sc_l_purse.nd rfl (Or.inl rfl) pe_int) (pss_cons
    (ps_if (PW.pt (pw_and (pt_cmpR op_gt (pe_callB call_len_seq (by rfl) T.len PySem.boot_len (pa_cons (pv 0) pa_nil)) pe_int (nomark _)) (pw_and1 (pt_cmpR op_ge (pe_ix ix_list (pv 0) pe_int (fun _ _ => rfl)) (pe_op op_pow pe_int pe_int) (nomark _))))) (pss_one
    (ps_set (i := 2) sc_l_purse.nd rfl (Or.inl rfl) (pe_ix ix_list (pv 0) pe_int (fun _ _ => rfl)))) pss_nil) (pss_one
    (ps_ret (pe_lst (pa_cons (pv 2) (pa_cons pe_int (pa_cons (pv 1) pa_nil)))))))))), ?_⟩
    refine ⟨_, rfl, _, rfl, a, _, rfl, ha, fun q hq => ⟨q, rfl, ⟨_, SqL.of upd_same⟩, fun D hD => ?_⟩⟩
    have ecut : cutV (xs.map V.int) none (some ((63 : Nat) : Int)) = (xs.take 63).map V.int := by rw [cut_take, List.map_take]
    obtain ⟨H1, e1, s1, hq1⟩ : ∃ H1, L2.upd H q (.lst (cutV (xs.map V.int) none (some 63))) = H1 ∧ Same H H1 ∧ H1 q = some (.lst ((xs.take 63).map V.int)) := ⟨_, rfl, Same.new hq, by rw [upd_same]; exact congrArg (fun z => some (HO.lst z)) ecut⟩
    rw [e1] at hD ⊢
    have nqD : q ≠ D := ne_of_none hq1 hD
    have fD : H D = none := s1.free hD
    refine lc_list (K := K) (a := q) (xs := (xs.take 63).map V.int) (Pv := fun i H' => Same H1 H' ∧ ∃ cells : List Int, H' D = some (.lst (cells.map V.int)) ∧ cells.length = i) ⟨Same.new hD, [], upd_same, rfl⟩ (fun i H' _ h => SqL.of (h.1 _ _ hq1)) (fun i x H' hi ⟨s2, cells, hc, hl2⟩ => ?_) fun H' ⟨s2, cells, hc, hl2⟩ => ?_
    · obtain ⟨z, hz, rfl⟩ := map_at hi
      have hi2 := (List.getElem?_eq_some_iff.mp hz).1
      rw [List.length_take] at hi2
      refine ⟨rfl, yesT ?_⟩
      refine ⟨_, rfl, .inl ⟨_, rfl, _, _, rfl, rfl, (by show (0 : Int) < 2147483629; decide), _, hc, sizeLine_gt (by rw [List.length_map]; omega), Same.write s2 hD, cells ++ [z % 2147483629], ?_, by simp [hl2]⟩⟩
      rw [upd_same]; simp
    · have hl3 : cells.length ≤ 63 := by rw [hl2, List.length_map, List.length_take]; omega
      dsimp only [gName]
      refine thenBy (fun σ H' => ∃ c cells v3, σ = [some (.ref a), some (.ref c), none, v3] ∧ Same H H' ∧ H c = none ∧ H' c = some (.lst (cells.map V.int)) ∧ cells.length ≤ 1000 ∧ cells ≠ []) ?_ fun fin => ?_
      · rintro σ H2 ⟨c, cells, v3, rfl, s3, hc0, hc2, hl4, hne⟩
        dsimp only [tSeq, tAsg, tC, gName]
        refine thenBy (t := tIfS _ _ _) (fun σ H' => ∃ r v3, σ = [some (.ref a), some (.ref c), some (.int r), v3] ∧ H' = H2) ?_ fun fin => ?_
        · rintro σ H3 ⟨r, v3, rfl, rfl⟩
          refine ⟨_, rfl, _, rfl, by show 3 ≤ sizeLine; decide, fun p hp => ?_⟩
          have ncp : c ≠ p := ne_of_none hc2 hp
          exact k _ _ c (Same.upd s3 hp) (s3.free hp) ⟨r, 0, cells, upd_same, by rw [upd_ne ncp]; exact hc2, ncp, hne, hl4⟩
        · refine ⟨_, rfl, a, _, rfl, .inl (Same.seq s3 ha), _, _, rfl, rfl, ?_⟩
          rw [List.length_map]
          by_cases h0 : ((xs.length : Nat) : Int) > 0
          · refine ⟨true, dT h0, iteT ?_⟩
            obtain ⟨z, ez⟩ := ints_at (cells := xs) (z := 0) (i := 0) rfl (by omega)
            refine ⟨_, rfl, a, _, _, _, rfl, rfl, Same.seq s3 ha, ez, _, _, rfl, rfl, ⟨by decide, by decide, by decide⟩, _, _, rfl, rfl, _, rfl, ite2 (fun _ => ?_) fun _ => ?_⟩
            · exact ⟨_, rfl, a, _, _, _, rfl, rfl, Same.seq s3 ha, ez, fin _ _ ⟨_, _, rfl, rfl⟩⟩
            · exact fin _ _ ⟨_, _, rfl, rfl⟩
          · exact ⟨false, dF h0, iteF (iteF (fin _ _ ⟨_, _, rfl, rfl⟩))⟩
      · refine ⟨_, rfl, D, _, rfl, .inl (SqL.of hc), rfl, ?_⟩
        by_cases h0 : cells = []
        · refine ⟨true, dT (by rw [h0]; rfl), iteT ?_⟩
          refine ⟨by show 1 ≤ sizeLine; decide, fun c2 hc2 => fin _ _ ⟨c2, [0], _, rfl, Same.upd (s1.trans s2) hc2, (s1.trans s2).free hc2, upd_same, by decide, by decide⟩⟩
        · refine ⟨false, dF (vint_ne ?_), iteF (fin _ _ ⟨D, cells, _, rfl, s1.trans s2, fD, hc, by omega, h0⟩)⟩
          have := List.length_pos_iff.mpr h0
          rw [List.length_map]; omega
end
end LK
end

section
/-! LKLaw2 -/
set_option maxHeartbeats 4000000
namespace LK
open PySem PySem.Spec PyProof.Rows L2
theorem erase_perm {α : Type} : ∀ {l : List α} {i : Nat} (h : i < l.length), (l[i]'h :: l.eraseIdx i).Perm l
  | x :: l, 0, h => List.Perm.refl _
  | x :: l, i + 1, h => by
    have ih := erase_perm (l := l) (i := i) (by simpa using h)
    show (l[i]'(by simpa using h) :: x :: l.eraseIdx i).Perm (x :: l)
    exact (List.Perm.swap _ _ _).trans (ih.cons x)
theorem erase_map {α β : Type} (f : α → β) : ∀ {l : List α} {i : Nat}, (l.map f).eraseIdx i = (l.eraseIdx i).map f
  | [], _ => rfl
  | _ :: _, 0 => rfl
  | x :: l, i + 1 => by
    show f x :: (l.map f).eraseIdx i = f x :: (l.eraseIdx i).map f
    rw [erase_map]
theorem era_get {p b : Addr} {H H' : Hp} (e : era p H' = era p H) (h : b ≠ p) : H' b = H b := by
  have := congrFun e b
  rw [era_ne h, era_ne h] at this; exact this
theorem era_eq_same {p : Addr} {H H' : Hp} (e : era p H' = era p H) : Same (era p H) (era p H') := fun b o q => by rw [e]; exact q
theorem intL_len {l : List Nat} : (intL l).length = l.length := by simp
section
variable {P : Program} {w : World} {K : PySem.W.Frag} {mg : Str → Option Value} {base : Heap} {CK CT CL CF CB CN : Addr}
def sp_removal : Sp := fun vs H Q _ => ∃ (p c : Addr) (n : Nat), vs = [.ref p, .int (n : Nat)] ∧ PurseAt H p c ∧ n ≤ 60 ∧ ∀ H' a rem, PurseAt H' p c → Same (era p H) (era p H') → a ≠ p → H' a = some (.lst (intL rem)) → Rem n rem → Q (.ref a) H'
theorem w_removal (T : Tx mg) (D : Dn K mg "_law_removal" s_l_removal) (c_l_draw : Cal P w K mg base 1 "_law_draw" sp_draw) : Cal P w K mg base 2 "_law_removal" sp_removal := by
  refine cal_of D sc_l_removal bd_l_removal (fun vs H Q E h => ?_) fun f cdv A outer s H vs Q E hr h => ?_
  · obtain ⟨p, c, n, rfl, _⟩ := h; rfl
  · obtain ⟨p, c, n, rfl, hp, hn, k⟩ := h
    refine ⟨_, (pss_cons
    (ps_set (i := 2) sc_l_removal.nd rfl (Or.inl rfl) (pe_listRg rfl rfl T.list (prg_2 rfl T.range pe_int (pe_op op_add (pv 1) pe_int)))) (pss_cons
    (ps_set (i := 3) sc_l_removal.nd rfl (Or.inl rfl) (pe_lst pa_nil)) (pss_cons
    (ps_for PassesOwn.never rfl (pi_range1 rfl T.range (pa_cons (pe_c c_l_draw hr (by decide) rfl (pa_cons (pv 0) (pa_cons (pe_op op_add (pv 1) pe_int) pa_nil))) pa_nil)) (pg_name (i := 4) sc_l_removal.nd rfl (Or.inl rfl)) (pss_one
    (ps_expr (pe_bm PySem.F.plainAttrs_list PySem.F.slot_list_append PySem.F.type_list_append mt_append (pv 3) (pa_cons (pe_bm PySem.F.plainAttrs_list PySem.F.slot_list_pop PySem.F.type_list_pop mt_popAt (pv 2) (pa_cons (pe_c c_l_draw hr (by decide) rfl (pa_cons (pv 0) (pa_cons (pe_callB call_len_seq (by rfl) T.len PySem.boot_len (pa_cons (pv 2) pa_nil)) pa_nil))) pa_nil)) pa_nil))))) (pss_one
    (ps_ret (pv 3)))))), ?_⟩
    refine ⟨_, rfl, _, _, rfl, rfl, _, _, rfl, rfl, ⟨by decide, by decide, by omega, by omega, by omega⟩, fun nd hnd => ?_⟩
    have on := hp.off hnd
    have e0 : rgV 1 ((n : Int) + 1) = intL (List.range' 1 n) := by
      rw [rg_tabI (N := n) (by omega)]
      unfold tabI intL
      rw [List.range'_eq_map_range, List.map_map]
      exact List.map_congr_left fun i _ => by
        show V.int _ = V.int _
        congr 1
    rw [e0]
    refine ⟨by show 0 ≤ sizeLine; decide, fun rm hrm => ?_⟩
    obtain ⟨hrm0, nnr⟩ := upd_none hrm
    have orm := hp.off hrm0
    have nn : nd ≠ rm := nnr.symm
    obtain ⟨H1, e1, s1, hn1, hr1⟩ : ∃ H1, L2.upd (L2.upd H nd (.lst (intL (List.range' 1 n)))) rm (.lst []) = H1 ∧ Same H H1 ∧ H1 nd = some (.lst (intL (List.range' 1 n))) ∧ H1 rm = some (.lst (intL [])) :=
      ⟨_, rfl, Same.upd (Same.new hnd) hrm, by rw [upd_ne nn]; exact upd_same, upd_same⟩
    show tSeq _ _ _ _ (L2.upd (L2.upd H nd (.lst (intL (List.range' 1 n)))) rm (.lst []))
    rw [e1]
    refine ⟨_, rfl, _, rfl, _, _, rfl, rfl, p, c, n + 1, rfl, hp.same s1, by omega, by omega, fun H2 v hv hp2 er2 => ?_⟩
    refine ⟨_, rfl, by omega, by omega, ?_⟩
    refine for_range (fun i σ H' => ∃ l rem v4, σ = [some (.ref p), some (.int n), some (.ref nd), some (.ref rm), v4] ∧ PurseAt H' p c ∧ Same (era p H) (era p H') ∧ H' nd = some (.lst (intL l)) ∧ H' rm = some (.lst (intL rem)) ∧ (l ++ rem).Perm (List.range' 1 n) ∧ rem.length = i) ⟨_, [], _, rfl, hp2, ?_, ?_, ?_, by rw [List.append_nil], rfl⟩ ?_ ?_
    · rw [er2]; exact era_same s1
    · rw [era_get er2 on.1]; exact hn1
    · rw [era_get er2 orm.1]; exact hr1
    · rintro i σ H3 hi ⟨l, rem, v4, rfl, hp3, s3, hn3, hr3, pm, hl⟩
      have hi' : i < v := by have := hi; omega
      have hlen : l.length + rem.length = n := by
        have := pm.length_eq
        rw [List.length_append, List.length_range'] at this; exact this
      refine ⟨_, rfl, .inl ⟨rfl, _, SqL.of hr3⟩, _, rfl, .inl ⟨rfl, _, SqL.of hn3⟩, _, rfl, _, rfl, nd, _, rfl, .inl (SqL.of hn3), ?_⟩
      rw [intL_len]
      refine ⟨p, c, l.length, rfl, hp3, by omega, by omega, fun H4 u hu hp4 er4 => ?_⟩
      have hn4 : H4 nd = some (.lst (intL l)) := by rw [era_get er4 on.1]; exact hn3
      have hr4 : H4 rm = some (.lst (intL rem)) := by rw [era_get er4 orm.1]; exact hr3
      have s4 : Same (era p H) (era p H4) := by rw [er4]; exact s3
      refine ⟨nd, _, _, u, .int (l[u] : Nat), rfl, rfl, hn4, by omega, by omega, by rw [intL_len, seqIndex_of (by omega) (by omega)]; rfl, by simp [hu], ?_⟩
      refine ⟨rm, _, _, rfl, rfl, by rw [upd_ne nn.symm]; exact hr4, sizeLine_gt (by rw [intL_len]; omega), ?_⟩
      refine ⟨l.eraseIdx u, rem ++ [l[u]], _, rfl, (hp4.write on).write orm, ?_, ?_, ?_, ?_, by simp [hl]⟩
      · intro b o q
        have hb := s4 b o q
        have nb : b ≠ p := fun e => by rw [e, era_p] at q; cases q
        rw [era_ne nb] at hb q ⊢
        rw [upd_ne (ne_of_none q hrm0), upd_ne (ne_of_none q hnd)]; exact hb
      · rw [upd_ne nn, upd_same]
        refine congrArg (fun z => some (HO.lst z)) ?_
        exact erase_map _
      · rw [upd_same]; simp [intL]
      · refine List.Perm.trans ?_ pm
        have h1 : (l.eraseIdx u ++ (rem ++ [l[u]])).Perm ((l[u] :: l.eraseIdx u) ++ rem) := by
          rw [← List.append_assoc]
          exact List.perm_append_comm.trans (List.Perm.refl _)
        exact h1.trans ((erase_perm hu).append_right rem)
    · rintro σ H3 ⟨l, rem, v4, rfl, hp3, s3, hn3, hr3, pm, hl⟩
      refine ⟨_, rfl, k _ _ _ hp3 s3 orm.1 hr3 ⟨?_, fun x hx => ?_⟩⟩
      · exact (List.nodup_append.mp (pm.nodup_iff.mpr (List.nodup_range' (step := 1)))).2.1
      · have := pm.mem_iff.mp (List.mem_append_right l hx)
        rw [mem_range'_1] at this
        omega
theorem Rem.perm {n : Nat} {l m : List Nat} (h : Rem n l) (p : m.Perm l) : Rem n m := ⟨p.nodup_iff.mpr h.nd, fun x hx => h.rg x (p.mem_iff.mp hx)⟩
def sp_near : Sp := fun vs H Q _ => ∃ (p c a : Addr) (n : Nat) (rem : List Nat), vs = [.ref p, .int (n : Nat), .ref a] ∧ PurseAt H p c ∧ n ≤ 60 ∧ era p H a = some (.lst (intL rem)) ∧ Rem n rem ∧ ∀ H' a rem, PurseAt H' p c → Same (era p H) (era p H') → a ≠ p → H' a = some (.lst (intL rem)) → Rem n rem → Q (.ref a) H'
theorem w_near (T : Tx mg) (D : Dn K mg "_law_near" s_l_near) (c_l_draw : Cal P w K mg base 1 "_law_draw" sp_draw) (c_l_removal : Cal P w K mg base 2 "_law_removal" sp_removal) : Cal P w K mg base 3 "_law_near" sp_near := by
  refine cal_of D sc_l_near bd_l_near (fun vs H Q E h => ?_) fun f cdv A outer s H vs Q E hr h => ?_
  · obtain ⟨p, c, a, n, rem, rfl, _⟩ := h; rfl
  · obtain ⟨p, c, a, n, rem, rfl, hp, hn, ha, hrem, k⟩ := h
    refine ⟨_, (pss_cons
    (ps_set (i := 3) sc_l_near.nd rfl (Or.inl rfl) (pe_c c_l_draw hr (by decide) rfl (pa_cons (pv 0) (pa_cons pe_int pa_nil)))) (pss_cons
    (ps_if (pt_cmpR op_eq (pv 3) pe_int (nomark _)) (pss_one
    (ps_ret (pe_c c_l_removal hr (by decide) rfl (pa_cons (pv 0) (pa_cons (pv 1) pa_nil))))) pss_nil) (pss_cons
    (ps_if (PW.pt (pw_or (pt_cmpR op_eq (pv 3) pe_int (nomark _)) (pw_or1 (pt_cmpR op_lt (pe_callB call_len_seq (by rfl) T.len PySem.boot_len (pa_cons (pv 2) pa_nil)) pe_int (nomark _))))) (pss_one
    (ps_ret (pe_slice sl_list (pv 2) po_none (po_some (pe_c c_l_draw hr (by decide) rfl (pa_cons (pv 0) (pa_cons (pe_op op_add (pe_callB call_len_seq (by rfl) T.len PySem.boot_len (pa_cons (pv 2) pa_nil)) pe_int) pa_nil))))))) pss_nil) (pss_cons
    (ps_set (i := 4) sc_l_near.nd rfl (Or.inl rfl) (pe_callTy call_list_of (by rfl) T.list (by decide +kernel) (pa_cons (pv 2) pa_nil))) (pss_cons
    (ps_set (i := 5) sc_l_near.nd rfl (Or.inl rfl) (pe_c c_l_draw hr (by decide) rfl (pa_cons (pv 0) (pa_cons (pe_callB call_len_seq (by rfl) T.len PySem.boot_len (pa_cons (pv 4) pa_nil)) pa_nil)))) (pss_cons
    (ps_set (i := 6) sc_l_near.nd rfl (Or.inl rfl) (pe_c c_l_draw hr (by decide) rfl (pa_cons (pv 0) (pa_cons (pe_callB call_len_seq (by rfl) T.len PySem.boot_len (pa_cons (pv 4) pa_nil)) pa_nil)))) (pss_cons
    (ps_if (pt_cmpR op_eq (pv 3) pe_int (nomark _)) (pss_one
    (ps_set (i := 6) sc_l_near.nd rfl (Or.inl rfl) (pe_op op_mod (pe_op op_add (pv 5) pe_int) (pe_callB call_len_seq (by rfl) T.len PySem.boot_len (pa_cons (pv 4) pa_nil))))) pss_nil) (pss_cons
    (ps_set (i := 7) sc_l_near.nd rfl (Or.inl rfl) (pe_ix ix_list (pv 4) (pv 5) (fun _ _ => rfl))) (pss_cons
    (ps_asg (pe_ix ix_list (pv 4) (pv 6) (fun _ _ => rfl)) (pg_sub (pv 4) (pv 5) set_list)) (pss_cons
    (ps_asg (pv 7) (pg_sub (pv 4) (pv 6) set_list)) (pss_one
    (ps_ret (pv 4))))))))))))), ?_⟩
    have rl := hrem.len
    refine ⟨_, rfl, p, c, 4, rfl, hp, by omega, by omega, fun H1 v hv hp1 er1 => ?_⟩
    have anp : a ≠ p := fun e => by rw [e, era_p] at ha; cases ha
    have ha1 : H1 a = some (.lst (intL rem)) := by rw [era_get er1 anp]; rw [era_ne anp] at ha; exact ha
    refine ⟨_, rfl, rfl, ?_⟩
    by_cases h0 : v = 0
    · refine ⟨true, dT (by rw [h0]; rfl), iteT ?_⟩
      refine ⟨_, rfl, _, rfl, p, c, n, rfl, hp1, hn, fun H2 b rem2 hp2 s2 nb hb hr2 => k _ _ _ hp2 (by rw [er1] at s2; exact s2) nb hb hr2⟩
    · refine ⟨false, dF (vint_ne (by omega)), iteF ?_⟩
      refine ⟨_, rfl, rfl, ?_⟩
      by_cases h1 : v = 1
      · refine ⟨true, dT (by rw [h1]; rfl), iteT (iteT ?_)⟩
        refine ⟨_, rfl, _, rfl, _, rfl, a, _, rfl, .inl (SqL.of ha1), _, _, rfl, rfl, ?_⟩
        rw [intL_len]
        refine ⟨p, c, rem.length + 1, rfl, hp1, by omega, by omega, fun H2 u hu hp2 er2 => ?_⟩
        refine ⟨_, rfl, a, _, rfl, SqL.of (by rw [era_get er2 anp]; exact ha1), fun q hq => ?_⟩
        refine k _ q (rem.take u) (hp2.write (hp2.off hq)) ?_ (hp2.off hq).1 ?_ (hrem.take u)
        · have e := era_same (p := p) (Same.new (o := .lst (cutV (intL rem) none (some (u : Int)))) hq)
          rw [er2, er1] at e; exact e
        · rw [upd_same, cut_take]
          exact congrArg (fun z => some (HO.lst z)) List.map_take.symm
      · refine ⟨false, dF (vint_ne (by omega)), iteF ?_⟩
        refine ⟨_, rfl, a, _, rfl, .inl (SqL.of ha1), _, _, rfl, rfl, ?_⟩
        rw [intL_len]
        by_cases h2 : ((rem.length : Nat) : Int) < 2
        · refine ⟨true, dT h2, iteT ?_⟩
          refine ⟨_, rfl, _, rfl, _, rfl, a, _, rfl, .inl (SqL.of ha1), _, _, rfl, rfl, ?_⟩
          rw [intL_len]
          refine ⟨p, c, rem.length + 1, rfl, hp1, by omega, by omega, fun H2 u hu hp2 er2 => ?_⟩
          refine ⟨_, rfl, a, _, rfl, SqL.of (by rw [era_get er2 anp]; exact ha1), fun q hq => ?_⟩
          refine k _ q (rem.take u) (hp2.write (hp2.off hq)) ?_ (hp2.off hq).1 ?_ (hrem.take u)
          · have e := era_same (p := p) (Same.new (o := .lst (cutV (intL rem) none (some (u : Int)))) hq)
            rw [er2, er1] at e; exact e
          · rw [upd_same, cut_take]
            exact congrArg (fun z => some (HO.lst z)) List.map_take.symm
        · refine ⟨false, dF h2, iteF ?_⟩
          refine ⟨_, rfl, a, _, rfl, .inl (SqL.of ha1), fun b hb => ?_⟩
          have ob := hp1.off hb
          obtain ⟨H2, e2, hp2, hb2, s2⟩ : ∃ H2, L2.upd H1 b (.lst (intL rem)) = H2 ∧ PurseAt H2 p c ∧ H2 b = some (.lst (intL rem)) ∧ Same (era p H) (era p H2) :=
            ⟨_, rfl, hp1.write ob, upd_same, by have e := era_same (p := p) (Same.new (o := .lst (intL rem)) hb); rw [er1] at e; exact e⟩
          show tSeq _ _ _ _ (L2.upd H1 b (.lst (intL rem)))
          rw [e2]
          refine ⟨_, rfl, _, rfl, b, _, rfl, .inl (SqL.of hb2), ?_⟩
          rw [intL_len]
          refine ⟨p, c, rem.length, rfl, hp2, by omega, by omega, fun H3 i hi hp3 er3 => ?_⟩
          have hb3 : H3 b = some (.lst (intL rem)) := by rw [era_get er3 ob.1]; exact hb2
          refine ⟨_, rfl, _, rfl, b, _, rfl, .inl (SqL.of hb3), ?_⟩
          rw [intL_len]
          refine ⟨p, c, rem.length, rfl, hp3, by omega, by omega, fun H4 j hj hp4 er4 => ?_⟩
          have hb4 : H4 b = some (.lst (intL rem)) := by rw [era_get er4 ob.1]; exact hb3
          have s4 : Same (era p H) (era p H4) := by rw [er4, er3]; exact s2
          dsimp only [gName]
          refine thenBy (t := tIfS _ _ _) (fun σ H' => ∃ j2 : Nat, j2 < rem.length ∧ σ = [some (.ref p), some (.int n), some (.ref a), some (.int (v : Nat)), some (.ref b), some (.int (i : Nat)), some (.int (j2 : Nat)), none] ∧ H' = H4) ?_ fun fin => ?_
          · rintro σ H' ⟨j2, hj2, rfl, rfl⟩
            refine ⟨_, rfl, _, rfl, b, _, _, _, rfl, rfl, SqL.of hb4, at_of (j := i) (v := .int (rem[i] : Nat)) rfl (by simp [hi]), ?_⟩
            refine ⟨_, rfl, _, rfl, b, _, _, _, rfl, rfl, SqL.of hb4, at_of (j := j2) (v := .int (rem[j2] : Nat)) rfl (by simp [hj2]), ?_⟩
            refine ⟨_, rfl, _, rfl, b, _, _, i, rfl, rfl, hb4, ixN_nat rfl (by rw [intL_len]; exact hi), ?_⟩
            refine ⟨_, rfl, _, rfl, _, rfl, b, _, _, j2, rfl, rfl, upd_same, ixN_nat rfl (by rw [List.length_set, intL_len]; exact hj2), ?_⟩
            refine ⟨_, rfl, k _ b ((rem.set i rem[j2]).set j2 rem[i]) ((hp4.write ob).write ob) ?_ ob.1 ?_ (hrem.perm (List.set_set_perm hi hj2))⟩
            · intro x o q
              have hx := s4 x o q
              have nx : x ≠ p := fun e => by rw [e, era_p] at q; cases q
              have nxb : x ≠ b := fun e => by
                have : H b = none := by
                  have e1 := era_get er1 ob.1
                  rw [← e1]; exact hb
                rw [e, era_ne ob.1, this] at q; cases q
              rw [era_ne nx] at hx ⊢
              rw [upd_ne nxb, upd_ne nxb]; exact hx
            · rw [upd_same]
              unfold intL
              rw [List.map_set, List.map_set]
          · refine ⟨_, rfl, rfl, ?_⟩
            by_cases h3 : v = 2
            · refine ⟨true, dT (by rw [h3]; rfl), iteT ?_⟩
              refine ⟨_, rfl, _, _, rfl, rfl, _, rfl, b, _, rfl, .inl (SqL.of hb4), _, _, rfl, rfl, by rw [intL_len]; omega, fin _ _ ⟨(i + 1) % rem.length, Nat.mod_lt _ (by omega), ?_, rfl⟩⟩
              rw [intL_len]; rfl
            · exact ⟨false, dF (vint_ne (by omega)), iteF (fin _ _ ⟨j, hj, rfl, rfl⟩)⟩
end
end LK
end

section
/-! LKLaw3 -/
set_option maxHeartbeats 4000000
namespace LK
open PySem PySem.Spec PyProof.Rows L2
/-- a world: the lists of left links, of right links, of flags -/
def WorldAt (H : Hp) (a : Addr) (n : Nat) (W : Wd) : Prop := ∃ l r o, H a = some (.lst [.ref l, .ref r, .ref o]) ∧ H l = some (.lst (tabI (n + 2) W.L)) ∧ H r = some (.lst (tabI (n + 2) W.R)) ∧ H o = some (.lst (tabB (n + 2) W.O))
theorem WorldAt.same {H H' : Hp} {a : Addr} {n : Nat} {W : Wd} (e : Same H H') (h : WorldAt H a n W) : WorldAt H' a n W := by
  obtain ⟨l, r, o, h1, h2, h3, h4⟩ := h
  exact ⟨l, r, o, e _ _ h1, e _ _ h2, e _ _ h3, e _ _ h4⟩
theorem tabI_snoc {N : Nat} {f : Nat → Int} : tabI (N + 1) f = tabI N f ++ [.int (f N)] := by unfold tabI; rw [List.range_succ, List.map_append]; rfl
theorem tabB_snoc {N : Nat} {f : Nat → Bool} : tabB (N + 1) f = tabB N f ++ [.bl (f N)] := by unfold tabB; rw [List.range_succ, List.map_append]; rfl
section
variable {P : Program} {w : World} {K : PySem.W.Frag} {mg : Str → Option Value} {base : Heap} {CK CT CL CF CB CN : Addr}
def sp_played : Sp := fun vs H Q _ => ∃ (a : Addr) (n : Nat) (rem : List Nat), vs = [.int (n : Nat), .ref a] ∧ H a = some (.lst (intL rem)) ∧ n ≤ 60 ∧ Rem n rem ∧ ∀ H' b, Same H H' → H b = none → WorldAt H' b n (play rem) → Q (.ref b) H'
theorem w_played (T : Tx mg) (D : Dn K mg "_law_played" s_l_played) : Cal P w K mg base 1 "_law_played" sp_played := by
  refine cal_of D sc_l_played bd_l_played (fun vs H Q E h => ?_) fun f cdv A outer s H vs Q E hr h => ?_
  · obtain ⟨a, n, rem, rfl, _⟩ := h; rfl
  · obtain ⟨a, n, rem, rfl, ha, hn, hrem, k⟩ := h
    refine ⟨_, (pss_cons
    (ps_setLc (i := 3) (own := [("_law_node", 2)]) (g := gName 2) (tt := tYes) (by rfl) sc_l_played.nd rfl rfl (sw_true rfl rfl rfl (by decide +kernel)) (pi_range1 rfl T.range (pa_cons (pe_op op_add (pv 0) pe_int) pa_nil)) (blkOk_by (own := [("_law_node", 2)]) (N := N_l_played) (sc := defScope s_l_played) (by decide +kernel)) (fun _ _ _ _ _ => pg_name (i := 2) sc_l_played.nd rfl (Or.inl rfl)) (fun _ _ _ _ _ => pts_nil) (fun _ _ _ _ _ => (pe_op op_sub (pv 2) pe_int))) (pss_cons
    (ps_setLc (i := 4) (own := [("_law_node", 2)]) (g := gName 2) (tt := tYes) (by rfl) sc_l_played.nd rfl rfl (sw_true rfl rfl rfl (by decide +kernel)) (pi_range1 rfl T.range (pa_cons (pe_op op_add (pv 0) pe_int) pa_nil)) (blkOk_by (own := [("_law_node", 2)]) (N := N_l_played) (sc := defScope s_l_played) (by decide +kernel)) (fun _ _ _ _ _ => pg_name (i := 2) sc_l_played.nd rfl (Or.inl rfl)) (fun _ _ _ _ _ => pts_nil) (fun _ _ _ _ _ => (pe_op op_add (pv 2) pe_int))) (pss_cons
    (ps_setLc (i := 5) (own := [("_law_node", 2)]) (g := gName 2) (tt := tYes) (by rfl) sc_l_played.nd rfl rfl (sw_true rfl rfl rfl (by decide +kernel)) (pi_range1 rfl T.range (pa_cons (pe_op op_add (pv 0) pe_int) pa_nil)) (blkOk_by (own := [("_law_node", 2)]) (N := N_l_played) (sc := defScope s_l_played) (by decide +kernel)) (fun _ _ _ _ _ => pg_name (i := 2) sc_l_played.nd rfl (Or.inl rfl)) (fun _ _ _ _ _ => pts_nil) (fun _ _ _ _ _ => pe_bl)) (pss_cons
    (ps_for PassesOwn.never rfl (pi_list (pv 1)) (pg_name (i := 2) sc_l_played.nd rfl (Or.inl rfl)) (pss_cons
    (ps_asg (pe_ix ix_list (pv 4) (pv 2) (fun _ _ => rfl)) (pg_sub (pv 4) (pe_ix ix_list (pv 3) (pv 2) (fun _ _ => rfl)) set_list)) (pss_cons
    (ps_asg (pe_ix ix_list (pv 3) (pv 2) (fun _ _ => rfl)) (pg_sub (pv 3) (pe_ix ix_list (pv 4) (pv 2) (fun _ _ => rfl)) set_list)) (pss_one
    (ps_asg pe_bl (pg_sub (pv 5) (pv 2) set_list)))))) (pss_one
    (ps_ret (pe_lst (pa_cons (pv 3) (pa_cons (pv 4) (pa_cons (pv 5) pa_nil)))))))))), ?_⟩
    have en : ((n : Int) + 2).toNat = n + 2 := by omega
    refine ⟨_, rfl, _, _, rfl, rfl, _, rfl, by omega, by omega, fun l hl => ?_⟩
    dsimp only
    rw [en]
    refine lc_range (lo := 0) (n := n + 2) (Pv := fun i H' => Same H H' ∧ H' l = some (.lst (tabI i wd0.L))) ⟨Same.new hl, upd_same⟩ (fun i H' hi ⟨s1, h1⟩ => ?_) fun H1 ⟨s1, h1⟩ => ?_
    · refine ⟨rfl, yesT ⟨_, rfl, _, _, rfl, rfl, _, h1, sizeLine_gt (by rw [tabI_len]; omega), Same.write s1 hl, ?_⟩⟩
      rw [upd_same, tabI_snoc]
      show some (HO.lst (_ ++ [V.int (0 + (i : Int) - 1)])) = some (HO.lst (_ ++ [V.int ((i : Int) - 1)]))
      rw [Int.zero_add]
    · refine ⟨_, rfl, _, _, rfl, rfl, _, rfl, by omega, by omega, fun r hr' => ?_⟩
      dsimp only
      rw [en]
      have nlr : l ≠ r := ne_of_none h1 hr'
      refine lc_range (lo := 0) (n := n + 2) (Pv := fun i H' => Same H1 H' ∧ H' r = some (.lst (tabI i wd0.R))) ⟨Same.new hr', upd_same⟩ (fun i H' hi ⟨s2, h2⟩ => ?_) fun H2 ⟨s2, h2⟩ => ?_
      · refine ⟨rfl, yesT ⟨_, rfl, _, _, rfl, rfl, _, h2, sizeLine_gt (by rw [tabI_len]; omega), Same.write s2 hr', ?_⟩⟩
        rw [upd_same, tabI_snoc]
        show some (HO.lst (_ ++ [V.int (0 + (i : Int) + 1)])) = some (HO.lst (_ ++ [V.int ((i : Int) + 1)]))
        rw [Int.zero_add]
      · refine ⟨_, rfl, _, _, rfl, rfl, _, rfl, by omega, by omega, fun o ho => ?_⟩
        dsimp only
        rw [en]
        have s02 : Same H H2 := s1.trans s2
        have nlo : l ≠ o := ne_of_none (s2 _ _ h1) ho
        have nro : r ≠ o := ne_of_none h2 ho
        refine lc_range (lo := 0) (n := n + 2) (Pv := fun i H' => Same H2 H' ∧ H' o = some (.lst (tabB i wd0.O))) ⟨Same.new ho, upd_same⟩ (fun i H' hi ⟨s3, h3⟩ => ?_) fun H3 ⟨s3, h3⟩ => ?_
        · refine ⟨rfl, yesT ⟨_, h3, sizeLine_gt (by rw [tabB_len]; omega), Same.write s3 ho, ?_⟩⟩
          rw [upd_same, tabB_snoc]; rfl
        · have l0 : H l = none := hl
          have r0 : H r = none := s1.free hr'
          have o0 : H o = none := s02.free ho
          have s03 := s02.trans s3
          refine ⟨_, rfl, a, rfl, ⟨_, SqL.of (s03 _ _ ha)⟩, for_list (K := K) (a := a) (xs := intL rem) (fun i σ H' => ∃ v, σ = [some (.int n), some (.ref a), v, some (.ref l), some (.ref r), some (.ref o)] ∧ Same H H' ∧ H' l = some (.lst (tabI (n + 2) (play (rem.take i)).L)) ∧ H' r = some (.lst (tabI (n + 2) (play (rem.take i)).R)) ∧ H' o = some (.lst (tabB (n + 2) (play (rem.take i)).O)))
            ⟨_, rfl, s03, s3 _ _ (s2 _ _ h1), s3 _ _ h2, h3⟩ (fun i σ H' _ ⟨_, _, s4, _⟩ => SqL.of (s4 _ _ ha)) ?_ ?_⟩
          · rintro i z σ H4 hi ⟨v, rfl, s4, hl4, hr4, ho4⟩
            obtain ⟨x, hx, rfl⟩ := map_at hi
            obtain ⟨x1, xn, xo, aa, bb, eL, eR, lax, lxb, lbn⟩ := hrem.can hx
            rw [play_succ hx]
            generalize play (rem.take i) = W at *
            refine ⟨_, rfl, _, rfl, r, _, _, _, rfl, rfl, SqL.of hr4, tabI_at rfl (by omega), ?_⟩
            refine ⟨_, rfl, _, rfl, _, rfl, l, _, _, _, rfl, rfl, SqL.of hl4, tabI_at rfl (by omega), ?_⟩
            rw [eL, eR]
            refine ⟨r, _, _, aa, rfl, rfl, hr4, ixN_nat rfl (by rw [tabI_len]; omega), ?_⟩
            rw [tabI_set]
            refine ⟨_, rfl, _, rfl, l, _, _, _, rfl, rfl, SqL.of (by rw [upd_ne nlr]; exact hl4), tabI_at (i := x) rfl (by omega), ?_⟩
            refine ⟨_, rfl, _, rfl, _, rfl, r, _, _, _, rfl, rfl, SqL.of upd_same, tabI_at (i := x) rfl (by omega), ?_⟩
            rw [eL, put_ne (show x ≠ aa by omega), eR]
            refine ⟨l, _, _, bb, rfl, rfl, by rw [upd_ne nlr]; exact hl4, ixN_nat rfl (by rw [tabI_len]; omega), ?_⟩
            rw [tabI_set]
            refine ⟨_, rfl, _, rfl, o, _, _, x, rfl, rfl, by rw [upd_ne nlo.symm, upd_ne nro.symm]; exact ho4, ixN_nat rfl (by rw [tabB_len]; omega), ?_⟩
            rw [tabB_set]
            refine ⟨_, rfl, Same.write (Same.write (Same.write s4 r0) l0) o0, ?_, ?_, ?_⟩
            · rw [upd_ne nlo, upd_same]
              unfold unl; rw [eL, eR]; rfl
            · rw [upd_ne nro, upd_ne nlr.symm, upd_same]
              unfold unl; rw [eL, eR]; rfl
            · rw [upd_same]; rfl
          · rintro σ H4 ⟨v, rfl, s4, hl4, hr4, ho4⟩
            rw [intL_len, List.take_length] at hl4 hr4 ho4
            refine ⟨_, rfl, _, rfl, _, rfl, by show 3 ≤ sizeLine; decide, fun b hb => ?_⟩
            exact k _ _ (Same.upd s4 hb) (s4.free hb) ⟨l, r, o, upd_same, by rw [upd_ne (ne_of_none hl4 hb)]; exact hl4, by rw [upd_ne (ne_of_none hr4 hb)]; exact hr4, by rw [upd_ne (ne_of_none ho4 hb)]; exact ho4⟩
theorem intN {n m : Nat} : (V.int (n : Int) = V.int (m : Int)) = (n = m) := by
  refine propext ⟨fun e => ?_, fun e => by rw [e]⟩
  have e2 : (n : Int) = (m : Int) := by injection e
  omega
def sp_true : Sp := fun vs H Q _ => ∃ (a t : Addr) (n : Nat) (W : Wd) (f : Ft), vs = [.ref a, .ref t] ∧ WorldAt H a n W ∧ FtAt H t f ∧ f.ok n ∧ Q (.bl (holds W f)) H
theorem w_true (D : Dn K mg "_law_true" s_l_true) : Cal P w K mg base 1 "_law_true" sp_true := by
  refine cal_of D sc_l_true bd_l_true (fun vs H Q E h => ?_) fun f cdv A outer s H vs Q E hr h => ?_
  · obtain ⟨a, t, n, W, f, rfl, _⟩ := h; rfl
  · obtain ⟨a, t, n, W, ft, rfl, ⟨l, r, o, ha, hl, hrr, ho⟩, ht, hf, k⟩ := h
    refine ⟨_, (pss_cons
    (ps_if (pt_cmpR op_eq (pe_ix ix_tup (pv 1) pe_int (fun _ _ => rfl)) pe_str (nomark _)) (pss_one
    (ps_ret (pe_not (pe_ix ix_list (pe_ix ix_list (pv 0) pe_int (fun _ _ => rfl)) (pe_ix ix_tup (pv 1) pe_int (fun _ _ => rfl)) (fun _ _ => rfl))))) pss_nil) (pss_cons
    (ps_if (pt_cmpR op_eq (pe_ix ix_tup (pv 1) pe_int (fun _ _ => rfl)) pe_str (nomark _)) (pss_one
    (ps_ret (pe_ix ix_list (pe_ix ix_list (pv 0) pe_int (fun _ _ => rfl)) (pe_ix ix_tup (pv 1) pe_int (fun _ _ => rfl)) (fun _ _ => rfl)))) pss_nil) (pss_cons
    (ps_if (pt_cmpR op_eq (pe_ix ix_tup (pv 1) pe_int (fun _ _ => rfl)) pe_str (nomark _)) (pss_one
    (ps_ret (pe_cmpR op_eq (pe_ix ix_list (pe_ix ix_list (pv 0) pe_int (fun _ _ => rfl)) (pe_ix ix_tup (pv 1) pe_int (fun _ _ => rfl)) (fun _ _ => rfl)) (pe_ix ix_tup (pv 1) pe_int (fun _ _ => rfl)) (nomark _)))) pss_nil) (pss_one
    (ps_ret (pe_cmpR op_eq (pe_ix ix_list (pe_ix ix_list (pv 0) pe_int (fun _ _ => rfl)) (pe_ix ix_tup (pv 1) pe_int (fun _ _ => rfl)) (fun _ _ => rfl)) (pe_ix ix_tup (pv 1) pe_int (fun _ _ => rfl)) (nomark _))))))), ?_⟩
    cases ft with
    | inn x =>
      obtain ⟨h1, h2⟩ := hf
      refine ⟨_, rfl, t, _, _, _, rfl, rfl, SqT.of ht, rfl, rfl, true, dT rfl, iteT ?_⟩
      refine ⟨_, rfl, a, _, _, _, rfl, rfl, SqL.of ha, rfl, _, rfl, t, _, _, _, rfl, rfl, SqT.of ht, rfl, o, _, _, _, rfl, rfl, SqL.of ho, tabB_at (i := x) rfl (by omega), _, rfl, k⟩
    | out x =>
      obtain ⟨h1, h2⟩ := hf
      refine ⟨_, rfl, t, _, _, _, rfl, rfl, SqT.of ht, rfl, rfl, false, dF (vstr_ne (by decide +kernel)), iteF ?_⟩
      refine ⟨_, rfl, t, _, _, _, rfl, rfl, SqT.of ht, rfl, rfl, true, dT rfl, iteT ?_⟩
      exact ⟨_, rfl, a, _, _, _, rfl, rfl, SqL.of ha, rfl, _, rfl, t, _, _, _, rfl, rfl, SqT.of ht, rfl, o, _, _, _, rfl, rfl, SqL.of ho, tabB_at (i := x) rfl (by omega), k⟩
    | lf x m =>
      obtain ⟨f1, f2, f3⟩ := hf
      refine ⟨_, rfl, t, _, _, _, rfl, rfl, SqT.of ht, rfl, rfl, false, dF (vstr_ne (by decide +kernel)), iteF ?_⟩
      refine ⟨_, rfl, t, _, _, _, rfl, rfl, SqT.of ht, rfl, rfl, false, dF (vstr_ne (by decide +kernel)), iteF ?_⟩
      refine ⟨_, rfl, t, _, _, _, rfl, rfl, SqT.of ht, rfl, rfl, true, dT rfl, iteT ?_⟩
      refine ⟨_, rfl, a, _, _, _, rfl, rfl, SqL.of ha, rfl, _, rfl, t, _, _, _, rfl, rfl, SqT.of ht, rfl, l, _, _, _, rfl, rfl, SqL.of hl, tabI_at (i := x) rfl (by omega), _, rfl, t, _, _, _, rfl, rfl, SqT.of ht, rfl, rfl, ?_⟩
      show Q (.bl (decide (V.int (W.L x) = V.int (m : Int)))) H
      rw [dI (rfl : decide (W.L x = (m : Int)) = _)]
      exact k
    | rt x m =>
      obtain ⟨f1, f2, f3⟩ := hf
      refine ⟨_, rfl, t, _, _, _, rfl, rfl, SqT.of ht, rfl, rfl, false, dF (vstr_ne (by decide +kernel)), iteF ?_⟩
      refine ⟨_, rfl, t, _, _, _, rfl, rfl, SqT.of ht, rfl, rfl, false, dF (vstr_ne (by decide +kernel)), iteF ?_⟩
      refine ⟨_, rfl, t, _, _, _, rfl, rfl, SqT.of ht, rfl, rfl, false, dF (vstr_ne (by decide +kernel)), iteF ?_⟩
      refine ⟨_, rfl, a, _, _, _, rfl, rfl, SqL.of ha, rfl, _, rfl, t, _, _, _, rfl, rfl, SqT.of ht, rfl, r, _, _, _, rfl, rfl, SqL.of hrr, tabI_at (i := x) rfl (by omega), _, rfl, t, _, _, _, rfl, rfl, SqT.of ht, rfl, rfl, ?_⟩
      show Q (.bl (decide (V.int (W.R x) = V.int (m : Int)))) H
      rw [dI (rfl : decide (W.R x = (m : Int)) = _)]
      exact k
/-- all that is true of a world -/
def allA (W : Wd) (k : Nat) : List Ft := (List.range' 1 k).map fun x => if W.O x = true then .out x else .inn x
def allL (W : Wd) (k : Nat) : List Ft := (List.range' 1 k).map fun x => .lf x (W.L x).toNat
def allR (W : Wd) (k : Nat) : List Ft := (List.range' 0 k).map fun x => .rt x (W.R x).toNat
def allF (n : Nat) (W : Wd) : List Ft := allA W n ++ allL W (n + 1) ++ allR W (n + 1)
def sp_all : Sp := fun vs H Q _ => ∃ (a : Addr) (n : Nat) (W : Wd), vs = [.int (n : Nat), .ref a] ∧ WorldAt H a n W ∧ Bnd W n ∧ n ≤ 60 ∧ ∀ H' b, Same H H' → H b = none → FL H' b (allF n W) → Q (.ref b) H'
/-- facts in a list that grows -/
def FLt (H : Hp) (a : Addr) (fs : List Ft) : Prop := FL H a fs
theorem FL.push {H : Hp} {a t : Addr} {fs : List Ft} {f : Ft} {xs : List V} (h : FL H a fs) (hx : H a = some (.lst xs)) (ht : FtAt H t f) : FL (L2.upd H a (.lst (xs ++ [.ref t]))) a (fs ++ [f]) := by
  obtain ⟨ts, h1, h2⟩ := h
  rw [hx] at h1
  cases h1
  have nt : ∀ t f, FtAt H t f → FtAt (L2.upd H a (.lst (ts.map V.ref ++ [.ref t]))) t f := fun t f q => by
    have : t ≠ a := ne_of q hx (fun e => by cases e)
    show L2.upd _ a _ t = _
    rw [upd_ne this]; exact q
  refine ⟨ts ++ [t], by rw [upd_same]; simp, Paired.app (L2.Paired.mapP h2 fun t f q => ?_) (.cons ?_ .nil)⟩
  · have : t ≠ a := ne_of q hx (fun e => by cases e)
    show L2.upd _ a _ t = _
    rw [upd_ne this]; exact q
  · have : t ≠ a := ne_of ht hx (fun e => by cases e)
    show L2.upd _ a _ t = _
    rw [upd_ne this]; exact ht
theorem FL.len {H : Hp} {a : Addr} {fs : List Ft} (h : FL H a fs) : ∃ xs, H a = some (.lst xs) ∧ xs.length = fs.length := by
  obtain ⟨ts, h1, h2⟩ := h
  exact ⟨_, h1, by rw [List.length_map]; exact Paired.len h2⟩
end
end LK
end

section
/-! LKLaw4 -/
set_option maxHeartbeats 4000000
namespace LK
open PySem PySem.Spec PyProof.Rows L2
theorem FL.cat {H : Hp} {a b p : Addr} {fs gs : List Ft} {xs zs : List V} (h : FL H a fs) (hx : H a = some (.lst xs)) (g : FL H b gs) (hz : H b = some (.lst zs)) (hp : H p = none) : FL (L2.upd H p (.lst (xs ++ zs))) p (fs ++ gs) := by
  obtain ⟨ts, h1, h2⟩ := h
  obtain ⟨us, g1, g2⟩ := g
  rw [hx] at h1; cases h1
  rw [hz] at g1; cases g1
  have s : Same H (L2.upd H p (.lst (ts.map V.ref ++ us.map V.ref))) := Same.new hp
  exact ⟨ts ++ us, by rw [upd_same]; simp, Paired.app (L2.Paired.mapP h2 fun t f q => s _ _ q) (L2.Paired.mapP g2 fun t f q => s _ _ q)⟩
theorem FL.nil {H : Hp} {a : Addr} (h : H a = some (.lst [])) : FL H a [] := ⟨[], h, .nil⟩
section
variable {P : Program} {w : World} {K : PySem.W.Frag} {mg : Str → Option Value} {base : Heap} {CK CT CL CF CB CN : Addr}
theorem range'_snoc {s k : Nat} : List.range' s (k + 1) = List.range' s k ++ [s + k] := List.range'_1_concat
theorem w_all (T : Tx mg) (D : Dn K mg "_law_all" s_l_all) : Cal P w K mg base 1 "_law_all" sp_all := by
  refine cal_of D sc_l_all bd_l_all (fun vs H Q E h => ?_) fun f cdv A outer s H vs Q E hr h => ?_
  · obtain ⟨a, n, W, rfl, _⟩ := h; rfl
  · obtain ⟨a, n, W, rfl, ⟨l, r, o, ha, hl, hrr, ho⟩, B, hn, k⟩ := h
    refine ⟨_, (pss_cons
    (ps_set (i := 2) sc_l_all.nd rfl (Or.inl rfl) (pe_lst pa_nil)) (pss_cons
    (ps_for PassesOwn.never rfl (pi_range2 rfl T.range (pa_cons pe_int (pa_cons (pe_op op_add (pv 0) pe_int) pa_nil))) (pg_name (i := 3) sc_l_all.nd rfl (Or.inl rfl)) (pss_cons
    (ps_set (i := 4) sc_l_all.nd rfl (Or.inl rfl) pe_str) (pss_cons
    (ps_if (pt_val (pe_ix ix_list (pe_ix ix_list (pv 1) pe_int (fun _ _ => rfl)) (pv 3) (fun _ _ => rfl))) (pss_one
    (ps_set (i := 4) sc_l_all.nd rfl (Or.inl rfl) pe_str)) pss_nil) (pss_one
    (ps_expr (pe_bm PySem.F.plainAttrs_list PySem.F.slot_list_append PySem.F.type_list_append mt_append (pv 2) (pa_cons (pe_tup (pa_cons (pv 4) (pa_cons (pv 3) pa_nil))) pa_nil))))))) (pss_cons
    (ps_set (i := 2) sc_l_all.nd rfl (Or.inl rfl) (pe_op op_cat (pv 2) (pe_lc (own := [("_law_node", 3)]) (g := gName 3) (tt := tYes) (te := tTup (tCons (tC (.str "left")) (tCons (tVar 3) (tCons (tOp (rIxL K) (tOp (rIxL K) (tVar 1) (tC (.int 0))) (tVar 3)) tNil)))) (by rfl) sc_l_all.nd (pi_range2 rfl T.range (pa_cons pe_int (pa_cons (pe_op op_add (pv 0) pe_int) pa_nil))) (blkOk_by (own := [("_law_node", 3)]) (N := N_l_all) (sc := defScope s_l_all) (by decide +kernel)) (fun _ _ _ _ _ => pg_name (i := 3) sc_l_all.nd rfl (Or.inl rfl)) (fun _ _ _ _ _ => pts_nil) (fun _ _ _ _ _ => (pe_tup (pa_cons pe_str (pa_cons (pv 3) (pa_cons (pe_ix ix_list (pe_ix ix_list (pv 1) pe_int (fun _ _ => rfl)) (pv 3) (fun _ _ => rfl)) pa_nil)))))))) (pss_one
    (ps_ret (pe_op op_cat (pv 2) (pe_lc (own := [("_law_node", 3)]) (g := gName 3) (tt := tYes) (te := tTup (tCons (tC (.str "right")) (tCons (tVar 3) (tCons (tOp (rIxL K) (tOp (rIxL K) (tVar 1) (tC (.int 1))) (tVar 3)) tNil)))) (by rfl) sc_l_all.nd (pi_range1 rfl T.range (pa_cons (pe_op op_add (pv 0) pe_int) pa_nil)) (blkOk_by (own := [("_law_node", 3)]) (N := N_l_all) (sc := defScope s_l_all) (by decide +kernel)) (fun _ _ _ _ _ => pg_name (i := 3) sc_l_all.nd rfl (Or.inl rfl)) (fun _ _ _ _ _ => pts_nil) (fun _ _ _ _ _ => (pe_tup (pa_cons pe_str (pa_cons (pv 3) (pa_cons (pe_ix ix_list (pe_ix ix_list (pv 1) pe_int (fun _ _ => rfl)) (pv 3) (fun _ _ => rfl)) pa_nil)))))))))))), ?_⟩
    refine ⟨by show 0 ≤ sizeLine; decide, fun fl hfl => ?_⟩
    refine ⟨_, rfl, _, _, rfl, rfl, _, _, rfl, ⟨by omega, by omega, by omega, by omega⟩, ?_⟩
    have en : ((n : Int) + 1 - 1).toNat = n := by omega
    rw [en]
    refine for_range (lo := 1) (n := n) (fun i σ H' => ∃ v3 v4, σ = [some (.int n), some (.ref a), some (.ref fl), v3, v4] ∧ Same H H' ∧ FL H' fl (allA W i)) ⟨_, _, rfl, Same.new hfl, .nil upd_same⟩ ?_ ?_
    · rintro i σ H' hi ⟨v3, v4, rfl, s1, F1⟩
      obtain ⟨xs, hx, hlx⟩ := F1.len
      have ea : allA W (i + 1) = allA W i ++ [if W.O (i + 1) = true then .out (i + 1) else .inn (i + 1)] := by
        unfold allA; rw [range'_snoc, List.map_append, show 1 + i = i + 1 by omega]; rfl
      have li : (allA W i).length = i := by unfold allA; simp
      dsimp only [gName]
      refine thenBy (t := tAsg _ _) (fun σ H2 => H' = H2 ∧ σ = [some (.int n), some (.ref a), some (.ref fl), some (.int (1 + (i : Int))), some (.str "in")]) ?_ fun fin => fin _ _ ⟨rfl, rfl⟩
      rintro σ H2 ⟨rfl, rfl⟩
      refine thenBy (t := tIfS _ _ _) (fun σ H2 => H' = H2 ∧ ∃ z : Str, σ = [some (.int n), some (.ref a), some (.ref fl), some (.int (1 + (i : Int))), some (.str z)] ∧ z = (if W.O (i + 1) = true then ("out" : Str) else ("in" : Str))) ?_ fun fin => ?_
      · rintro σ H2 ⟨rfl, z, rfl, ez⟩
        refine ⟨_, rfl, .inl ⟨rfl, _, SqL.of hx⟩, _, rfl, _, rfl, by show 2 ≤ sizeLine; decide, fun t ht => ?_⟩
        have nft : fl ≠ t := ne_of_none hx ht
        refine ⟨fl, _, _, rfl, rfl, by rw [upd_ne nft]; exact hx, sizeLine_gt (by omega), ?_⟩
        refine ⟨_, _, rfl, Same.write (Same.upd s1 ht) hfl, ?_⟩
        rw [ea]
        refine (F1.same (Same.new ht)).push (by rw [upd_ne nft]; exact hx) ?_
        show L2.upd _ t _ t = _
        rw [upd_same, ez]
        split
        · show some (HO.tup [V.str "out", V.int (1 + (i : Int))]) = some (HO.tup [V.str "out", V.int ((i + 1 : Nat) : Int)])
          rw [show (1 : Int) + i = ((i + 1 : Nat) : Int) by omega]
        · show some (HO.tup [V.str "in", V.int (1 + (i : Int))]) = some (HO.tup [V.str "in", V.int ((i + 1 : Nat) : Int)])
          rw [show (1 : Int) + i = ((i + 1 : Nat) : Int) by omega]
      · refine ⟨_, rfl, a, _, _, _, rfl, rfl, SqL.of (s1 _ _ ha), rfl, _, rfl, o, _, _, _, rfl, rfl, SqL.of (s1 _ _ ho), tabB_at (i := i + 1) (by omega) (by omega), ?_⟩
        cases e : W.O (i + 1) with
        | true => exact ⟨true, rfl, iteT (fin _ _ ⟨rfl, "out", rfl, by rw [e]; rfl⟩)⟩
        | false => exact ⟨false, rfl, iteF (fin _ _ ⟨rfl, "in", rfl, by rw [e]; rfl⟩)⟩
    · rintro σ H1 ⟨v3, v4, rfl, s1, F1⟩
      obtain ⟨xs, hx, hlx⟩ := F1.len
      have la : (allA W n).length = n := by unfold allA; simp
      refine ⟨_, rfl, _, rfl, _, _, rfl, rfl, _, _, rfl, ⟨by omega, by omega, by omega, by omega⟩, fun D hD => ?_⟩
      have en2 : ((n : Int) + 2 - 1).toNat = n + 1 := by omega
      dsimp only
      rw [en2]
      have nfD : fl ≠ D := ne_of_none hx hD
      refine lc_range (lo := 1) (n := n + 1) (Pv := fun i H' => Same H1 H' ∧ FL H' D (allL W i)) ⟨Same.new hD, .nil upd_same⟩ (fun i H' hi ⟨s2, F2⟩ => ?_) fun H2 ⟨s2, F2⟩ => ?_
      · obtain ⟨ys, hy, hly⟩ := F2.len
        have ll : (allL W i).length = i := by unfold allL; simp
        obtain ⟨z, ez, _⟩ := B.l (i + 1) (by omega) (by omega)
        refine ⟨rfl, yesT ⟨_, rfl, _, rfl, a, _, _, _, rfl, rfl, SqL.of (s2 _ _ (s1 _ _ ha)), rfl, _, rfl, l, _, _, _, rfl, rfl, SqL.of (s2 _ _ (s1 _ _ hl)), tabI_at (i := i + 1) (by omega) (by omega), by show 3 ≤ sizeLine; decide, fun t ht => ?_⟩⟩
        have nDt : D ≠ t := ne_of_none hy ht
        refine ⟨ys, by rw [upd_ne nDt]; exact hy, sizeLine_gt (by omega), Same.write (Same.upd s2 ht) hD, ?_⟩
        have ea : allL W (i + 1) = allL W i ++ [.lf (i + 1) (W.L (i + 1)).toNat] := by
          unfold allL; rw [range'_snoc, List.map_append, show 1 + i = i + 1 by omega]; rfl
        rw [ea]
        refine (F2.same (Same.new ht)).push (by rw [upd_ne nDt]; exact hy) ?_
        show L2.upd _ t _ t = _
        rw [upd_same, ez, show (1 : Int) + i = ((i + 1 : Nat) : Int) by omega]
        rfl
      · obtain ⟨ys, hy, hly⟩ := F2.len
        have ll : (allL W (n + 1)).length = n + 1 := by unfold allL; simp
        refine ⟨fl, D, _, _, rfl, rfl, s2 _ _ hx, hy, sizeLine_ge (by omega), fun g hg => ?_⟩
        have F3 := (F1.same s2).cat (s2 _ _ hx) F2 hy hg
        have s12 : Same H H2 := s1.trans s2
        have s3 : Same H (L2.upd H2 g (.lst (xs ++ ys))) := Same.upd s12 hg
        generalize hH3 : L2.upd H2 g (.lst (xs ++ ys)) = H3 at F3 s3 ⊢
        have hg3 : H3 g = some (.lst (xs ++ ys)) := by rw [← hH3]; exact upd_same
        refine ⟨_, rfl, _, rfl, _, _, rfl, rfl, _, rfl, by omega, by omega, fun D2 hD2 => ?_⟩
        have en3 : ((n : Int) + 1).toNat = n + 1 := by omega
        dsimp only
        rw [en3]
        refine lc_range (lo := 0) (n := n + 1) (Pv := fun i H' => Same H3 H' ∧ FL H' D2 (allR W i)) ⟨Same.new hD2, .nil upd_same⟩ (fun i H' hi ⟨s4, F4⟩ => ?_) fun H4 ⟨s4, F4⟩ => ?_
        · obtain ⟨zs, hz, hlz⟩ := F4.len
          have lr : (allR W i).length = i := by unfold allR; simp
          obtain ⟨z, ez, _⟩ := B.r i (by omega)
          have s34 := s3.trans s4
          refine ⟨rfl, yesT ⟨_, rfl, _, rfl, a, _, _, _, rfl, rfl, SqL.of (s34 _ _ ha), rfl, _, rfl, r, _, _, _, rfl, rfl, SqL.of (s34 _ _ hrr), tabI_at (i := i) (by omega) (by omega), by show 3 ≤ sizeLine; decide, fun t ht => ?_⟩⟩
          have nDt : D2 ≠ t := ne_of_none hz ht
          refine ⟨zs, by rw [upd_ne nDt]; exact hz, sizeLine_gt (by omega), Same.write (Same.upd s4 ht) hD2, ?_⟩
          have ea : allR W (i + 1) = allR W i ++ [.rt i (W.R i).toNat] := by
            unfold allR; rw [range'_snoc, List.map_append, show 0 + i = i by omega]; rfl
          rw [ea]
          refine (F4.same (Same.new ht)).push (by rw [upd_ne nDt]; exact hz) ?_
          show L2.upd _ t _ t = _
          rw [upd_same, ez, Int.zero_add]
          rfl
        · obtain ⟨zs, hz, hlz⟩ := F4.len
          have lr : (allR W (n + 1)).length = n + 1 := by unfold allR; simp
          refine ⟨g, D2, _, _, rfl, rfl, s4 _ _ hg3, hz, sizeLine_ge (by rw [List.length_append]; omega), fun b hb => ?_⟩
          exact k _ b (Same.upd (s3.trans s4) hb) ((s3.trans s4).free hb) ((F3.same s4).cat (s4 _ _ hg3) F4 hz hb)
theorem era_upd_ne {p a : Addr} {H : Hp} {o : HO} (h : a ≠ p) : era p (L2.upd H a o) = L2.upd (era p H) a o := funext fun b => by
  by_cases e : b = p
  · subst e; rw [era_p, upd_ne h.symm, era_p]
  · rw [era_ne e]
    by_cases e2 : b = a
    · subst e2; rw [upd_same, upd_same]
    · rw [upd_ne e2, upd_ne e2, era_ne e]
theorem allF_ok {n : Nat} {W : Wd} (B : Bnd W n) : ∀ f ∈ allF n W, f.ok n ∧ holds W f = true := fun f hf => by
  unfold allF allA allL allR at hf
  rcases List.mem_append.mp hf with hf | hf
  · rcases List.mem_append.mp hf with hf | hf
    · obtain ⟨x, hx, rfl⟩ := List.mem_map.mp hf
      rw [mem_range'_1] at hx
      split
      · rename_i e; exact ⟨⟨by omega, by omega⟩, e⟩
      · rename_i e; exact ⟨⟨by omega, by omega⟩, by simp [holds]; simpa using e⟩
    · obtain ⟨x, hx, rfl⟩ := List.mem_map.mp hf
      rw [mem_range'_1] at hx
      obtain ⟨a, ea, la⟩ := B.l x (by omega) (by omega)
      refine ⟨⟨by omega, by omega, by rw [ea]; exact la⟩, ?_⟩
      simp [holds, ea]
  · obtain ⟨x, hx, rfl⟩ := List.mem_map.mp hf
    rw [mem_range'_1] at hx
    obtain ⟨a, ea, la, lb⟩ := B.r x (by omega)
    refine ⟨⟨by omega, by rw [ea]; exact la, by rw [ea]; exact lb⟩, ?_⟩
    simp [holds, ea]
/-- two worlds in a list -/
structure Worlds (H : Hp) (a : Addr) (n : Nat) (W0 W1 : Wd) : Prop where
  ex : ∃ w0 w1, H a = some (.lst [.ref w0, .ref w1]) ∧ WorldAt H w0 n W0 ∧ WorldAt H w1 n W1
theorem Worlds.same {H H' : Hp} {a : Addr} {n : Nat} {W0 W1 : Wd} (e : Same H H') (h : Worlds H a n W0 W1) : Worlds H' a n W0 W1 := by
  obtain ⟨w0, w1, h1, h2, h3⟩ := h
  exact ⟨w0, w1, e _ _ h1, h2.same e, h3.same e⟩
theorem allF_len {n : Nat} {W : Wd} : (allF n W).length ≤ 3 * n + 2 := by
  unfold allF allA allL allR; simp; omega
theorem FL.era {H : Hp} {a p : Addr} {fs : List Ft} {xs : List V} (h : FL H a fs) (n : a ≠ p) (hp : H p = some (.lst xs)) : FL (LK.era p H) a fs := by
  obtain ⟨ts, h1, h2⟩ := h
  refine ⟨ts, by rw [era_ne n]; exact h1, L2.Paired.mapP h2 fun t f q => ?_⟩
  show LK.era p H t = _
  rw [era_ne (ne_of q hp (fun e => by cases e))]; exact q
def sp_facts : Sp := fun vs H Q _ => ∃ (p c ws : Addr) (n : Nat) (W0 W1 : Wd), vs = [.ref p, .int (n : Nat), .ref ws] ∧ PurseAt H p c ∧ Worlds (era p H) ws n W0 W1 ∧ Bnd W0 n ∧ n ≤ 60 ∧
  ∀ H' a fs, PurseAt H' p c → Same (era p H) (era p H') → FL (era p H') a fs → fs.length ≤ 12 → (∀ f ∈ fs, f.ok n ∧ holds W0 f = true ∧ holds W1 f = true) → Q (.ref a) H'
theorem w_facts (T : Tx mg) (D : Dn K mg "_law_facts" s_l_facts) (c_l_draw : Cal P w K mg base 1 "_law_draw" sp_draw) (c_l_all : Cal P w K mg base 1 "_law_all" sp_all) (c_l_true : Cal P w K mg base 1 "_law_true" sp_true) : Cal P w K mg base 2 "_law_facts" sp_facts := by
  refine cal_of D sc_l_facts bd_l_facts (fun vs H Q E h => ?_) fun f cdv A outer s H vs Q E hr h => ?_
  · obtain ⟨p, c, ws, n, W0, W1, rfl, _⟩ := h; rfl
  · obtain ⟨p, c, ws, n, W0, W1, rfl, hp, hw, B0, hn, k⟩ := h
    refine ⟨_, (pss_cons
    (ps_set (i := 3) sc_l_facts.nd rfl (Or.inr rfl) (pe_lc (own := [("_law_fact", 6)]) (g := gName 6) (tt := tB (tCall sp_true [] E0 (tCons (tOp (rIxL K) (tVar 2) (tC (.int 1))) (tCons (tVar 6) tNil)))) (te := tVar 6) (by rfl) sc_l_facts.nd (pi_list (pe_c c_l_all hr (by decide) rfl (pa_cons (pv 1) (pa_cons (pe_ix ix_list (pv 2) pe_int (fun _ _ => rfl)) pa_nil)))) (blkOk_by (own := [("_law_fact", 6)]) (N := N_l_facts) (sc := defScope s_l_facts) (by decide +kernel)) (fun _ _ _ _ _ => pg_name (i := 6) sc_l_facts.nd rfl (Or.inl rfl)) (fun _ _ _ _ _ => pts_one (pt_val (pe_c c_l_true hr (by decide) rfl (pa_cons (pe_ix ix_list (pv 2) pe_int (fun _ _ => rfl)) (pa_cons (pv 6) pa_nil))))) (fun _ _ _ _ _ => (pv 6)))) (pss_cons
    (ps_set (i := 4) sc_l_facts.nd rfl (Or.inl rfl) (pe_c c_l_draw hr (by decide) rfl (pa_cons (pv 0) (pa_cons pe_int pa_nil)))) (pss_cons
    (ps_if (PW.pt (pw_and (pt_cmpR op_eq (pe_c c_l_draw hr (by decide) rfl (pa_cons (pv 0) (pa_cons pe_int pa_nil))) pe_int (nomark _)) (pw_and1 (pt_cmpR op_lt (pv 1) pe_int (nomark _))))) (pss_one
    (ps_set (i := 4) sc_l_facts.nd rfl (Or.inl rfl) (pe_op op_add (pv 4) (pe_c c_l_draw hr (by decide) rfl (pa_cons (pv 0) (pa_cons pe_int pa_nil)))))) pss_nil) (pss_cons
    (ps_set (i := 5) sc_l_facts.nd rfl (Or.inl rfl) (pe_lst pa_nil)) (pss_cons
    (ps_if (pt_cmpR op_gt (pe_callB call_len_seq (by rfl) T.len PySem.boot_len (pa_cons (pv 3) pa_nil)) pe_int (nomark _)) (pss_one
    (ps_setLc (i := 5) (own := [("_law_k", 7)]) (g := gName 7) (tt := tYes) (te := tOp (rIxL K) (tVar 3) (tCall sp_draw [] E0 (tCons (tVar 0) (tCons (tCB (fun xs H Q => ∃ p ys, xs = [.ref p] ∧ (SqL K H p ys ∨ SqT K H p ys) ∧ Q (.int ys.length) H) (tCons (tVar 3) tNil)) tNil)))) (by rfl) sc_l_facts.nd rfl rfl (sw_true rfl rfl rfl (by decide +kernel)) (pi_range1 rfl T.range (pa_cons (pv 4) pa_nil)) (blkOk_by (own := [("_law_k", 7)]) (N := N_l_facts) (sc := defScope s_l_facts) (by decide +kernel)) (fun _ _ _ _ _ => pg_name (i := 7) sc_l_facts.nd rfl (Or.inl rfl)) (fun _ _ _ _ _ => pts_nil) (fun _ _ _ _ _ => (pe_ix ix_list (pv 3) (pe_c c_l_draw hr (by decide) rfl (pa_cons (pv 0) (pa_cons (pe_callB call_len_seq (by rfl) T.len PySem.boot_len (pa_cons (pv 3) pa_nil)) pa_nil))) (fun _ _ => rfl))))) pss_nil) (pss_one
    (ps_ret (pv 5)))))))), ?_⟩
    obtain ⟨w0, w1, hws, hw0, hw1⟩ := hw
    have eH : Same (era p H) H := era_le
    refine ⟨_, rfl, _, rfl, ws, _, _, _, rfl, rfl, SqL.of (eH _ _ hws), rfl, w0, n, W0, rfl, hw0.same eH, B0, hn, fun H1 b s1 hb F1 => ?_⟩
    obtain ⟨ts, hbx, pts⟩ := id F1
    refine ⟨b, rfl, ⟨_, SqL.of hbx⟩, fun D hD => ?_⟩
    refine lc_list (K := K) (a := b) (xs := ts.map V.ref) (Pv := fun i H' => Same H1 H' ∧ FL H' D (((allF n W0).take i).filter (holds W1))) ⟨Same.new hD, .nil upd_same⟩ (fun i H' _ h => SqL.of (h.1 _ _ hbx)) (fun i x H' hi ⟨s2, F2⟩ => ?_) fun H2 ⟨s2, F2⟩ => ?_
    · obtain ⟨t, ht, rfl⟩ := map_at hi
      obtain ⟨g, hg, hq⟩ := Paired.at_ pts ht
      have s12 := s1.trans s2
      have okg := allF_ok B0 g (List.mem_of_getElem? hg)
      have etk : (allF n W0).take (i + 1) = (allF n W0).take i ++ [g] := by rw [List.take_add_one, hg]; rfl
      refine ⟨rfl, _, rfl, ws, _, _, _, rfl, rfl, SqL.of (s12 _ _ (eH _ _ hws)), rfl, _, rfl, w1, t, n, W1, g, rfl, (hw1.same eH).same s12, s2 _ _ hq, okg.1, ?_⟩
      rw [etk, List.filter_append]
      obtain ⟨ys, hy, hly⟩ := F2.len
      have hl2 : ys.length ≤ 200 := by
        rw [hly]
        refine Nat.le_trans (List.length_filter_le _ _) ?_
        rw [List.length_take]
        have := allF_len (n := n) (W := W0)
        omega
      cases e : holds W1 g with
      | true =>
        refine ⟨true, rfl, iteT ⟨_, rfl, ys, hy, sizeLine_gt (by omega), Same.write s2 hD, ?_⟩⟩
        rw [List.filter_cons, if_pos e]
        exact F2.push hy (s2 _ _ hq)
      | false =>
        refine ⟨false, rfl, iteF ⟨s2, ?_⟩⟩
        rw [List.filter_cons, if_neg (by rw [e]; exact Bool.false_ne_true), List.filter_nil, List.append_nil]
        exact F2
    · rw [List.length_map, Paired.len pts, List.take_length] at F2
      have s02 : Same H H2 := s1.trans s2
      have pool : ∀ g ∈ (allF n W0).filter (holds W1), g.ok n ∧ holds W0 g = true ∧ holds W1 g = true := fun g hg => by
        obtain ⟨h1, h2⟩ := List.mem_filter.mp hg
        exact ⟨(allF_ok B0 g h1).1, (allF_ok B0 g h1).2, h2⟩
      have lpool : ((allF n W0).filter (holds W1)).length ≤ 200 := by
        refine Nat.le_trans (List.length_filter_le _ _) ?_
        have := allF_len (n := n) (W := W0)
        omega
      generalize (allF n W0).filter (holds W1) = pl at F2 pool lpool
      have oD := hp.off (s1.free hD)
      have sE : Same (era p H) (era p H2) := era_same s02
      refine ⟨_, rfl, p, c, 5, rfl, hp.same s02, by omega, by omega, fun H3 v hv hp3 er3 => ?_⟩
      dsimp only [gName]
      have F3 : FL (era p H3) D pl := by
        rw [er3]
        obtain ⟨⟨_, hpx⟩, _⟩ := (hp.same s02).some
        exact F2.era oD.1 hpx
      have sE3 : Same (era p H) (era p H3) := by rw [er3]; exact sE
      refine thenBy (t := tIfS _ _ _) (fun σ H' => ∃ m : Nat, m ≤ 12 ∧ σ = [some (.ref p), some (.int n), some (.ref ws), some (.ref D), some (.int (m : Nat)), none, none, none] ∧ PurseAt H' p c ∧ era p H' = era p H3) ?_ fun fin => ?_
      · rintro σ H4 ⟨m, hm, rfl, hp4, er4⟩
        refine ⟨by show 0 ≤ sizeLine; decide, fun e0 he0 => ?_⟩
        have oe0 := hp4.off he0
        obtain ⟨H5, e5, hp5, sE5, F5, he5⟩ : ∃ H5, L2.upd H4 e0 (.lst []) = H5 ∧ PurseAt H5 p c ∧ Same (era p H3) (era p H5) ∧ FL (era p H5) D pl ∧ FL (era p H5) e0 [] := by
          have q : Same (era p H3) (era p (L2.upd H4 e0 (.lst []))) := by
            have := era_same (p := p) (Same.new (o := .lst []) he0)
            rw [er4] at this; exact this
          exact ⟨_, rfl, hp4.write oe0, q, F3.same q, .nil (by rw [era_ne oe0.1]; exact upd_same)⟩
        dsimp only [gName]
        rw [e5]
        obtain ⟨xs, hx, hlx⟩ := F5.len
        have hx5 := era_le (p := p) _ _ hx
        refine ⟨_, rfl, D, _, rfl, .inl (SqL.of hx5), _, _, rfl, rfl, ?_⟩
        by_cases h0 : ((xs.length : Nat) : Int) > 0
        · refine ⟨true, dT h0, iteT ?_⟩
          refine ⟨_, rfl, _, rfl, by omega, by omega, fun g hg => ?_⟩
          have og := hp5.off hg
          dsimp only
          rw [show ((m : Int)).toNat = m from rfl]
          refine lc_range (lo := 0) (n := m) (Pv := fun i H' => PurseAt H' p c ∧ Same (era p H5) (era p H') ∧ ∃ fs, fs.length = i ∧ (∀ f ∈ fs, f ∈ pl) ∧ FL (era p H') g fs) ⟨hp5.write og, era_same (Same.new hg), [], rfl, fun f hf => absurd hf (by simp), .nil (by rw [era_ne og.1]; exact upd_same)⟩ (fun i H6 hi ⟨hp6, s6, fs, hfl, hsub, F6⟩ => ?_) fun H6 ⟨hp6, s6, fs, hfl, hsub, F6⟩ => ?_
          · have hx6 := s6 _ _ hx
            have hx6' := era_le (p := p) _ _ hx6
            refine ⟨rfl, yesT ⟨_, rfl, _, rfl, _, rfl, D, _, rfl, .inl (SqL.of hx6'), p, c, xs.length, rfl, hp6, by omega, by omega, fun H7 u hu hp7 er7 => ?_⟩⟩
            obtain ⟨ts7, hts, pts7⟩ := (F5.same s6)
            rw [hx6] at hts
            cases hts
            have hu' : u < ts7.length := by rw [List.length_map] at hu; exact hu
            obtain ⟨g7, hg7, hq7⟩ := Paired.at_ pts7 (List.getElem?_eq_getElem hu')
            have hx7 : H7 D = some (.lst (ts7.map V.ref)) := by rw [era_get er7 oD.1]; exact hx6'
            refine ⟨D, _, _, .ref ts7[u], rfl, rfl, SqL.of hx7, at_of (j := u) rfl (by simp [hu']), ?_⟩
            have F7 : FL (era p H7) g fs := by rw [er7]; exact F6
            obtain ⟨ys, hy, hly⟩ := F7.len
            have hy7 := era_le (p := p) _ _ hy
            have hlfs : fs.length ≤ 12 := by omega
            refine ⟨ys, hy7, sizeLine_gt (by omega), hp7.write og, ?_, fs ++ [g7], by simp [hfl], fun f hf => ?_, ?_⟩
            · rw [era_upd_ne og.1, er7]
              intro b o q
              have := s6 b o q
              rw [upd_ne (ne_of_none q (era_none hg))]; exact this
            · rcases List.mem_append.mp hf with hf | hf
              · exact hsub f hf
              · rw [List.mem_singleton.mp hf]; exact List.mem_of_getElem? hg7
            · rw [era_upd_ne og.1]
              exact F7.push hy (by rw [er7]; exact hq7)
          · refine ⟨_, rfl, k _ g fs hp6 (sE3.trans (sE5.trans s6)) F6 (by omega) fun f hf => pool f (hsub f hf)⟩
        · refine ⟨false, dF h0, iteF ?_⟩
          exact ⟨_, rfl, k _ e0 [] hp5 (sE3.trans sE5) he5 (by decide) fun f hf => absurd hf (by simp)⟩
      · refine ⟨_, rfl, p, c, 4, rfl, hp3, by omega, by omega, fun H4 u hu hp4 er4 => ⟨rfl, ?_⟩⟩
        by_cases h1 : u = 1
        · refine ⟨true, dT (by rw [h1]; rfl), iteT ⟨_, rfl, _, _, rfl, rfl, _, rfl, ite2 (fun _ => ?_) fun _ => ?_⟩⟩
          · refine ⟨_, rfl, _, rfl, p, c, 9, rfl, hp4, by omega, by omega, fun H5 u5 hu5 hp5 er5 => ⟨_, _, rfl, rfl, fin _ _ ⟨v + u5, by omega, ?_, hp5, by rw [er5, er4]⟩⟩⟩
            show [some (V.ref p), some (V.int n), some (V.ref ws), some (V.ref D), some (V.int ((v : Int) + (u5 : Int))), none, none, none] = _
            rw [← Int.natCast_add]
          · exact fin _ _ ⟨v, by omega, rfl, hp4, er4⟩
        · exact ⟨false, dF (vint_ne (by omega)), iteF (iteF (fin _ _ ⟨v, by omega, rfl, hp4, er4⟩))⟩
end
end LK
end

section
/-! LKLaw5 -/
set_option maxHeartbeats 4000000
namespace LK
open PySem PySem.Spec PyProof.Rows L2
theorem TreeOn.klen {W : Wd} : ∀ {t : Tr} {a b : Nat}, TreeOn W t a b → (preKey t a).length + 1 = b - a
  | .nil, a, b, h => by unfold TreeOn at h; simp [preKey]; omega
  | .node l x r, a, b, h => by
    obtain ⟨_, _, _, h1, h2⟩ := h
    have := h1.lt; have := h2.lt; have := h1.klen; have := h2.klen
    simp only [preKey, List.length_cons, List.length_append]; omega
theorem ChainOn.klen {W : Wd} {n : Nat} : ∀ {c : Ch} {s : Nat}, ChainOn W n c s → (chKey c s).length = n + 1 - s
  | [], s, h => by unfold ChainOn at h; simp [chKey]; omega
  | (t, x) :: c, s, h => by
    obtain ⟨h1, _, _, _, h2⟩ := h
    have := h1.lt; have := h2.le; have := h1.klen; have := h2.klen
    simp only [chKey, List.length_cons, List.length_append]; omega
abbrev intsV (l : List Int) : List V := l.map V.int
structure Rg where
  lo : Nat
  hi : Nat
  t : Tr
def RgAt (H : Hp) (t : Addr) (g : Rg) : Prop := H t = some (.tup [.int (g.lo : Nat), .int (g.hi : Nat)])
def todoK (st : List Rg) : List Int := st.reverse.flatMap fun g => preKey g.t g.lo
theorem todoK_snoc (st : List Rg) (g : Rg) : todoK (st ++ [g]) = preKey g.t g.lo ++ todoK st := by unfold todoK; rw [List.reverse_append]; rfl
def muK (st : List Rg) : Nat := (st.map fun g => 2 * (preKey g.t g.lo).length + 1).sum
theorem muK_snoc (st : List Rg) (g : Rg) : muK (st ++ [g]) = muK st + (2 * (preKey g.t g.lo).length + 1) := by unfold muK; simp
theorem len_muK (st : List Rg) : st.length ≤ muK st := by
  induction st with
  | nil => simp [muK]
  | cons x st ih => unfold muK at ih ⊢; simp only [List.map_cons, List.sum_cons, List.length_cons]; omega
def KWI (W : Wd) (n : Nat) (w kk rl lo hi : Addr) (H : Hp) (tgt : List Int) (m : Nat) (σ : L2.St) (H' : Hp) : Prop :=
  ∃ v6 v7 done ts st, m = muK st ∧ σ = [some (.int (n : Nat)), some (.ref w), some (.ref kk), some (.int (lo : Nat)), some (.int (hi : Nat)), some (.ref rl), v6, v7] ∧ Same H H' ∧ H' kk = some (.lst (intsV done)) ∧ H' rl = some (.lst (ts.map V.ref)) ∧
      Paired (RgAt H') ts st ∧ (∀ g ∈ st, TreeOn W g.t g.lo g.hi ∧ g.hi ≤ n + 1) ∧ done ++ todoK st = tgt ∧ muK st ≤ 121
section
variable {P : Program} {w : World} {K : PySem.W.Frag} {mg : Str → Option Value} {base : Heap} {CK CT CL CF CB CN : Addr}
def sp_key : Sp := fun vs H Q _ => ∃ (a : Addr) (n : Nat) (W : Wd) (c : Ch), vs = [.int (n : Nat), .ref a] ∧ WorldAt H a n W ∧ Stand W n c ∧ n ≤ 60 ∧ ∀ H' b, Same H H' → H b = none → H' b = some (.lst (intsV (chKey c 0))) → Q (.ref b) H'
theorem w_key (T : Tx mg) (D : Dn K mg "_law_key" s_l_key) : Cal P w K mg base 1 "_law_key" sp_key := by
  refine cal_of D sc_l_key bd_l_key (fun vs H Q E h => ?_) fun f cdv A outer s H vs Q E hr h => ?_
  · obtain ⟨a, n, W, c, rfl, _⟩ := h; rfl
  · obtain ⟨a, n, W, c, rfl, ⟨l, r, o, ha, hl, hrr, ho⟩, S, hn, k⟩ := h
    refine ⟨_, (pss_cons
    (ps_set (i := 2) sc_l_key.nd rfl (Or.inl rfl) (pe_lst pa_nil)) (pss_cons
    (ps_set (i := 3) sc_l_key.nd rfl (Or.inl rfl) pe_int) (pss_cons
    (ps_for PassesOwn.never rfl (pi_range2 rfl T.range (pa_cons pe_int (pa_cons (pe_op op_add (pv 0) pe_int) pa_nil))) (pg_name (i := 4) sc_l_key.nd rfl (Or.inl rfl)) (pss_cons
    (ps_if (pt_val (pe_ix ix_list (pe_ix ix_list (pv 1) pe_int (fun _ _ => rfl)) (pv 4) (fun _ _ => rfl))) (pss_one
    ps_continue) pss_nil) (pss_cons
    (ps_expr (pe_bm PySem.F.plainAttrs_list PySem.F.slot_list_append PySem.F.type_list_append mt_append (pv 2) (pa_cons (pe_op op_sub (pe_op op_sub (pv 4) (pv 3)) pe_int) pa_nil))) (pss_cons
    (ps_set (i := 5) sc_l_key.nd rfl (Or.inl rfl) (pe_lst (pa_cons (pe_tup (pa_cons (pv 3) (pa_cons (pv 4) pa_nil))) pa_nil))) (pss_cons
    (ps_while PassesOwn.never (pt_cmpR op_gt (pe_callB call_len_seq (by rfl) T.len PySem.boot_len (pa_cons (pv 5) pa_nil)) pe_int (nomark _)) (pss_cons
    (ps_set (i := 6) sc_l_key.nd rfl (Or.inl rfl) (pe_bm0 PySem.F.plainAttrs_list PySem.F.slot_list_pop PySem.F.type_list_pop mt_pop (pv 5))) (pss_one
    (ps_for PassesOwn.never rfl (pi_range2 rfl T.range (pa_cons (pe_op op_add (pe_ix ix_tup (pv 6) pe_int (fun _ _ => rfl)) pe_int) (pa_cons (pe_ix ix_tup (pv 6) pe_int (fun _ _ => rfl)) pa_nil))) (pg_name (i := 7) sc_l_key.nd rfl (Or.inl rfl)) (pss_one
    (ps_if (PW.pt (pw_and (pt_cmpR op_eq (pe_ix ix_list (pe_ix ix_list (pv 1) pe_int (fun _ _ => rfl)) (pv 7) (fun _ _ => rfl)) (pe_ix ix_tup (pv 6) pe_int (fun _ _ => rfl)) (nomark _)) (pw_and1 (pt_cmpR op_eq (pe_ix ix_list (pe_ix ix_list (pv 1) pe_int (fun _ _ => rfl)) (pv 7) (fun _ _ => rfl)) (pe_ix ix_tup (pv 6) pe_int (fun _ _ => rfl)) (nomark _))))) (pss_cons
    (ps_expr (pe_bm PySem.F.plainAttrs_list PySem.F.slot_list_append PySem.F.type_list_append mt_append (pv 2) (pa_cons (pe_op op_sub (pv 7) (pe_ix ix_tup (pv 6) pe_int (fun _ _ => rfl))) pa_nil))) (pss_cons
    (ps_expr (pe_bm PySem.F.plainAttrs_list PySem.F.slot_list_append PySem.F.type_list_append mt_append (pv 5) (pa_cons (pe_tup (pa_cons (pv 7) (pa_cons (pe_ix ix_tup (pv 6) pe_int (fun _ _ => rfl)) pa_nil))) pa_nil))) (pss_cons
    (ps_expr (pe_bm PySem.F.plainAttrs_list PySem.F.slot_list_append PySem.F.type_list_append mt_append (pv 5) (pa_cons (pe_tup (pa_cons (pe_ix ix_tup (pv 6) pe_int (fun _ _ => rfl)) (pa_cons (pv 7) pa_nil))) pa_nil))) (pss_one
    ps_break)))) pss_nil)))))) (pss_one
    (ps_set (i := 3) sc_l_key.nd rfl (Or.inl rfl) (pv 4)))))))) (pss_one
    (ps_ret (pv 2)))))), ?_⟩
    have klen := S.ch.klen
    refine ⟨by show 0 ≤ sizeLine; decide, fun kk hkk => ?_⟩
    refine ⟨_, rfl, _, _, rfl, rfl, _, _, rfl, ⟨by omega, by omega, by omega, by omega⟩, ?_⟩
    have en : ((n : Int) + 2 - 1).toNat = n + 1 := by omega
    rw [en]
    refine for_range (lo := 1) (n := n + 1) (fun i σ H' => ∃ (lo : Nat) (v4 v5 v6 v7 : Option V) (pre : List Int) (c' : Ch), σ = [some (.int n), some (.ref a), some (.ref kk), some (.int (lo : Nat)), v4, v5, v6, v7] ∧ Same H H' ∧ H' kk = some (.lst (intsV pre)) ∧ ChainOn W n c' lo ∧ pre ++ chKey c' lo = chKey c 0 ∧ lo ≤ i ∧
        (c' = [] ∨ ∃ t h c'', c' = (t, h) :: c'' ∧ i + 1 ≤ h)) ⟨0, _, _, _, _, [], c, rfl, Same.new hkk, upd_same, S.ch, rfl, Nat.le_refl _, ?_⟩ ?_ ?_
    · cases c with
      | nil => exact .inl rfl
      | cons x c =>
        obtain ⟨t, h⟩ := x
        have := S.ch.1.lt
        exact .inr ⟨t, h, c, rfl, by omega⟩
    · rintro i σ H1 hi ⟨lo, v4, v5, v6, v7, pre, c', rfl, s1, hk1, hc, epre, hlo, hcase⟩
      have hpl : pre.length ≤ 61 := by
        have := congrArg List.length epre
        rw [List.length_append] at this; omega
      rcases hcase with rfl | ⟨t, h, c'', rfl, hhi⟩
      · have : lo = n + 1 := hc
        omega
      · obtain ⟨ht, eR, eL, eO, hc2⟩ := hc
        have lt := ht.lt
        have hle := hc2.le
        refine ⟨_, rfl, a, _, _, _, rfl, rfl, SqL.of (s1 _ _ ha), rfl, _, rfl, o, _, _, _, rfl, rfl, SqL.of (s1 _ _ ho), tabB_at (i := i + 1) (by omega) (by omega), ?_⟩
        by_cases hO : W.O (i + 1) = true
        · refine ⟨true, congrArg V.bl hO, iteT ?_⟩
          have : h ≠ i + 1 := fun e => by rw [e] at eO; rw [eO] at hO; cases hO
          exact ⟨lo, _, _, _, _, pre, (t, h) :: c'', rfl, s1, hk1, ⟨ht, eR, eL, eO, hc2⟩, epre, by omega, .inr ⟨t, h, c'', rfl, by omega⟩⟩
        · have hO' : W.O (i + 1) = false := by cases e : W.O (i + 1) with | true => exact absurd e hO | false => rfl
          refine ⟨false, congrArg V.bl hO', iteF ?_⟩
          have eh : h = i + 1 := by
            by_cases e : h = i + 1
            · exact e
            · have := (ht.within (i + 1) (by omega) (by omega)).1
              rw [hO'] at this; cases this
          subst eh
          have ei : (1 : Int) + (i : Int) = ((i + 1 : Nat) : Int) := by omega
          refine ⟨_, rfl, .inl ⟨rfl, _, SqL.of hk1⟩, _, rfl, _, rfl, _, _, rfl, rfl, _, _, rfl, rfl, kk, _, _, rfl, rfl, hk1, sizeLine_gt (by rw [List.length_map]; omega), ?_⟩
          rw [ei]
          obtain ⟨H2, e2, s2, hk2⟩ : ∃ H2, L2.upd H1 kk (.lst (intsV pre ++ [.int (((i + 1 : Nat) : Int) - (lo : Int) - 1)])) = H2 ∧ Same H H2 ∧ H2 kk = some (.lst (intsV (pre ++ [((i + 1 : Nat) : Int) - (lo : Int) - 1]))) := ⟨_, rfl, Same.write s1 hkk, by rw [upd_same]; simp⟩
          show tSeq _ _ _ _ (L2.upd H1 kk (.lst (intsV pre ++ [.int (((i + 1 : Nat) : Int) - (lo : Int) - 1)])))
          rw [e2]
          refine ⟨_, rfl, _, rfl, by show 2 ≤ sizeLine; decide, fun t0 ht0 => ⟨by show 1 ≤ sizeLine; decide, fun rl hrl => ?_⟩⟩
          obtain ⟨hrl2, ntr⟩ := upd_none hrl
          have nkt : kk ≠ t0 := ne_of_none hk2 ht0
          have nkr : kk ≠ rl := ne_of_none hk2 hrl2
          have rl0 : H rl = none := s2.free hrl2
          have klt := ht.klen
          have s2' : Same H (L2.upd (L2.upd H2 t0 (.tup [.int (lo : Nat), .int ((i + 1 : Nat) : Int)])) rl (.lst [.ref t0])) := Same.upd (Same.upd s2 ht0) hrl
          refine ⟨KWI W n a kk rl lo (i + 1) H (pre ++ [((i + 1 : Nat) : Int) - (lo : Int) - 1] ++ preKey t lo), ⟨_, _, _, pre ++ [((i + 1 : Nat) : Int) - (lo : Int) - 1], [t0], [⟨lo, i + 1, t⟩], rfl, rfl, s2', ?_, upd_same, .cons ?_ .nil, ?_, ?_, ?_⟩, ?_⟩
          · rw [upd_ne nkr, upd_ne nkt]; exact hk2
          · show L2.upd _ rl _ t0 = _
            rw [upd_ne ntr.symm, upd_same]
          · intro g hg
            rw [List.mem_singleton.mp hg]; exact ⟨ht, hle⟩
          · simp [todoK]
          · simp [muK]; omega
          · rintro m σ H3 ⟨v6, v7, done, ts, st, rfl, rfl, s3, hk3, hr3, pst, oks, edone, hmu⟩
            refine ⟨_, rfl, rl, _, rfl, .inl (SqL.of hr3), _, _, rfl, rfl, ?_⟩
            rw [List.length_map, Paired.len pst]
            rcases List.eq_nil_or_concat st with rfl | ⟨st', g, rfl⟩
            · refine ⟨false, dF (by simp), iteF ?_⟩
              cases pst
              refine ⟨_, rfl, i + 1, _, _, _, _, done, c'', rfl, s3, hk3, hc2, ?_, by omega, ?_⟩
              · have ed : done = pre ++ [((i + 1 : Nat) : Int) - (lo : Int) - 1] ++ preKey t lo := by rw [← edone]; simp [todoK]
                rw [ed, ← epre]
                simp [chKey]
              · cases c'' with
                | nil => exact .inl rfl
                | cons x c3 =>
                  obtain ⟨t', h'⟩ := x
                  have := hc2.1.lt
                  exact .inr ⟨t', h', c3, rfl, by omega⟩
            · rw [List.concat_eq_append] at *
              refine ⟨true, dT (by simp), iteT ?_⟩
              obtain ⟨ts', tt, rfl, pst', htt⟩ := Paired.snoc_inv pst
              obtain ⟨okt, okh⟩ := oks g (List.mem_append_right _ (List.mem_singleton.mpr rfl))
              obtain ⟨a1, b1, t1⟩ := g
              replace okt : TreeOn W t1 a1 b1 := okt
              replace okh : b1 ≤ n + 1 := okh
              rw [muK_snoc] at hmu ⊢
              rw [todoK_snoc] at edone
              replace hmu : muK st' + (2 * (preKey t1 a1).length + 1) ≤ 121 := hmu
              replace edone : done ++ (preKey t1 a1 ++ todoK st') = pre ++ [((i + 1 : Nat) : Int) - (lo : Int) - 1] ++ preKey t lo := edone
              have lab := okt.lt
              refine ⟨fun σ' H' => ∃ m', m' < muK st' + (2 * (preKey t1 a1).length + 1) ∧ KWI W n a kk rl lo (i + 1) H (pre ++ [((i + 1 : Nat) : Int) - (lo : Int) - 1] ++ preKey t lo) m' σ' H', fun _ _ h => h, ?_⟩
              refine ⟨_, rfl, .inl ⟨rfl, _, SqL.of hr3⟩, rl, _, .ref tt, rfl, rfl, hr3, by simp, ?_⟩
              have npop : ∀ t g, RgAt H3 t g → RgAt (L2.upd H3 rl (.lst (ts'.map V.ref))) t g := fun t g q => by
                have := ne_of q hr3 (fun e => by cases e)
                show L2.upd _ rl _ t = _
                rw [upd_ne this]; exact q
              rw [show ((ts' ++ [tt]).map V.ref).dropLast = ts'.map V.ref by simp]
              obtain ⟨H4, e4, s4, hk4, hr4, htt4, pst4⟩ : ∃ H4, L2.upd H3 rl (.lst (ts'.map V.ref)) = H4 ∧ Same H H4 ∧ H4 kk = some (.lst (intsV done)) ∧ H4 rl = some (.lst (ts'.map V.ref)) ∧ H4 tt = some (.tup [.int (a1 : Nat), .int (b1 : Nat)]) ∧ Paired (RgAt H4) ts' st' :=
                ⟨_, rfl, Same.write s3 rl0, by rw [upd_ne nkr]; exact hk3, upd_same, npop _ _ htt, L2.Paired.mapP pst' fun t g q => npop t g q⟩
              rw [e4]
              refine ⟨_, rfl, tt, _, _, _, rfl, rfl, SqT.of htt4, rfl, _, _, rfl, rfl, _, rfl, tt, _, _, _, rfl, rfl, SqT.of htt4, rfl, _, _, rfl, ⟨by omega, by omega, by omega, by omega⟩, ?_⟩
              have ec : ((b1 : Int) - ((a1 : Int) + 1)).toNat = b1 - a1 - 1 := by omega
              refine for_range (fun j σ H' => ∃ v7, σ = [some (.int n), some (.ref a), some (.ref kk), some (.int (lo : Nat)), some (.int ((i + 1 : Nat) : Int)), some (.ref rl), some (.ref tt), v7] ∧ H4 = H' ∧ (∀ l x r, t1 = .node l x r → a1 + 1 + j ≤ x)) ⟨_, rfl, rfl, fun l x r e => ?_⟩ ?_ ?_
              · subst e
                have := okt.2.2.2.1.lt; omega
              · rintro j σ _ hj ⟨v7, rfl, rfl, hx⟩
                have hj' : j < b1 - a1 - 1 := by rw [← ec]; exact hj
                cases t1 with
                | nil =>
                  have : b1 = a1 + 1 := okt
                  omega
                | node l1 x r1 =>
                  obtain ⟨qL, qR, qO, ql, qr⟩ := okt
                  have lx := ql.lt
                  have rx := qr.lt
                  have hjx := hx l1 x r1 rfl
                  have ej : (a1 : Int) + 1 + (j : Int) = ((a1 + 1 + j : Nat) : Int) := by omega
                  refine ⟨_, rfl, a, _, _, _, rfl, rfl, SqL.of (s4 _ _ ha), rfl, _, rfl, l, _, _, _, rfl, rfl, SqL.of (s4 _ _ hl), tabI_at ej (by omega), _, rfl, tt, _, _, _, rfl, rfl, SqT.of htt4, rfl, rfl, ?_⟩
                  by_cases ex : x = a1 + 1 + j
                  · subst ex
                    refine ⟨true, dT (by rw [qL]), iteT ?_⟩
                    refine ⟨_, rfl, a, _, _, _, rfl, rfl, SqL.of (s4 _ _ ha), rfl, _, rfl, r, _, _, _, rfl, rfl, SqL.of (s4 _ _ hrr), tabI_at ej (by omega), _, rfl, tt, _, _, _, rfl, rfl, SqT.of htt4, rfl, rfl, ?_⟩
                    refine ⟨true, dT (by rw [qR]), iteT ?_⟩
                    generalize hx' : a1 + 1 + j = x at *
                    rw [show (a1 : Int) + 1 + (j : Int) = (x : Int) by omega]
                    have hpk : preKey (Tr.node l1 x r1) a1 = ((x : Int) - a1) :: (preKey l1 a1 ++ preKey r1 x) := rfl
                    rw [hpk] at edone hmu ⊢
                    simp only [List.length_cons, List.length_append] at hmu ⊢
                    have hdl : done.length ≤ 61 := by
                      have e1 := congrArg List.length edone
                      have e2 := congrArg List.length epre
                      have e3 := ht.klen
                      simp only [List.length_append, List.length_cons, List.length_nil, chKey] at e1 e2
                      omega
                    refine ⟨_, rfl, .inl ⟨rfl, _, SqL.of hk4⟩, _, rfl, _, rfl, tt, _, _, _, rfl, rfl, SqT.of htt4, rfl, _, _, rfl, rfl, kk, _, _, rfl, rfl, hk4, sizeLine_gt (by rw [List.length_map]; omega), ?_⟩
                    obtain ⟨H5, e5, s5, hk5, hr5, htt5, p5⟩ : ∃ H5, L2.upd H4 kk (.lst (intsV done ++ [.int ((x : Int) - (a1 : Int))])) = H5 ∧ Same H H5 ∧ H5 kk = some (.lst (intsV (done ++ [(x : Int) - (a1 : Int)]))) ∧ H5 rl = some (.lst (ts'.map V.ref)) ∧ H5 tt = some (.tup [.int (a1 : Nat), .int (b1 : Nat)]) ∧ Paired (RgAt H5) ts' st' := by
                      refine ⟨_, rfl, Same.write s4 hkk, by rw [upd_same]; simp, by rw [upd_ne nkr.symm]; exact hr4, by rw [upd_ne (ne_of htt4 hk4 (fun e => by cases e))]; exact htt4, L2.Paired.mapP pst4 fun t g q => ?_⟩
                      show L2.upd _ kk _ t = _
                      rw [upd_ne (ne_of q hk4 (fun e => by cases e))]; exact q
                    show tSeq _ _ _ _ (L2.upd H4 kk (.lst (intsV done ++ [.int ((x : Int) - (a1 : Int))])))
                    rw [e5]
                    have hl2 : (ts'.map V.ref).length ≤ 121 := by
                      rw [List.length_map, Paired.len pst']
                      have := len_muK st'
                      omega
                    refine ⟨_, rfl, .inl ⟨rfl, _, SqL.of hr5⟩, _, rfl, _, rfl, tt, _, _, _, rfl, rfl, SqT.of htt5, rfl, by show 2 ≤ sizeLine; decide, fun t1 ht1 => ?_⟩
                    have nk1 : kk ≠ t1 := ne_of_none hk5 ht1
                    have nr1 : rl ≠ t1 := ne_of_none hr5 ht1
                    refine ⟨rl, _, _, rfl, rfl, by rw [upd_ne nr1]; exact hr5, sizeLine_gt (by omega), ?_⟩
                    obtain ⟨H6, e6, s6, hk6, hr6, htt6, p6⟩ : ∃ H6, L2.upd (L2.upd H5 t1 (.tup [.int (x : Nat), .int (b1 : Nat)])) rl (.lst (ts'.map V.ref ++ [.ref t1])) = H6 ∧ Same H H6 ∧ H6 kk = some (.lst (intsV (done ++ [(x : Int) - (a1 : Int)]))) ∧ H6 rl = some (.lst ((ts' ++ [t1]).map V.ref)) ∧ H6 tt = some (.tup [.int (a1 : Nat), .int (b1 : Nat)]) ∧ Paired (RgAt H6) (ts' ++ [t1]) (st' ++ [⟨x, b1, r1⟩]) := by
                      refine ⟨_, rfl, Same.write (Same.upd s5 ht1) rl0, by rw [upd_ne nkr, upd_ne nk1]; exact hk5, by rw [upd_same]; simp, ?_, Paired.app (L2.Paired.mapP p5 fun t g q => ?_) (.cons ?_ .nil)⟩
                      · rw [upd_ne (ne_of htt5 hr5 (fun e => by cases e)), upd_ne (ne_of_none htt5 ht1)]; exact htt5
                      · show L2.upd _ rl _ t = _
                        rw [upd_ne (ne_of q hr5 (fun e => by cases e)), upd_ne (ne_of_none q ht1)]; exact q
                      · show L2.upd _ rl _ t1 = _
                        rw [upd_ne nr1.symm, upd_same]
                    show tSeq _ _ _ _ (L2.upd (L2.upd H5 t1 (.tup [.int (x : Nat), .int (b1 : Nat)])) rl (.lst (ts'.map V.ref ++ [.ref t1])))
                    rw [e6]
                    refine ⟨_, rfl, .inl ⟨rfl, _, SqL.of hr6⟩, _, rfl, tt, _, _, _, rfl, rfl, SqT.of htt6, rfl, _, rfl, by show 2 ≤ sizeLine; decide, fun t2 ht2 => ?_⟩
                    have nk2 : kk ≠ t2 := ne_of_none hk6 ht2
                    have nr2 : rl ≠ t2 := ne_of_none hr6 ht2
                    refine ⟨rl, _, _, rfl, rfl, by rw [upd_ne nr2]; exact hr6, sizeLine_gt (by simp at hl2 ⊢; omega), ?_⟩
                    refine ⟨muK (st' ++ [⟨x, b1, r1⟩] ++ [⟨a1, x, l1⟩]), ?_, _, _, done ++ [(x : Int) - (a1 : Int)], ts' ++ [t1] ++ [t2], st' ++ [⟨x, b1, r1⟩] ++ [⟨a1, x, l1⟩], rfl, rfl, Same.write (Same.upd s6 ht2) rl0, ?_, ?_, Paired.app (L2.Paired.mapP p6 fun t g q => ?_) (.cons ?_ .nil), ?_, ?_, ?_⟩
                    · rw [muK_snoc, muK_snoc]; dsimp only; omega
                    · rw [upd_ne nkr, upd_ne nk2]; exact hk6
                    · rw [upd_same]; simp
                    · show L2.upd _ rl _ t = _
                      rw [upd_ne (ne_of q hr6 (fun e => by cases e)), upd_ne (ne_of_none q ht2)]; exact q
                    · show L2.upd _ rl _ t2 = _
                      rw [upd_ne nr2.symm, upd_same]
                    · intro g hg
                      rcases List.mem_append.mp hg with hg | hg
                      · rcases List.mem_append.mp hg with hg | hg
                        · exact oks g (List.mem_append_left _ hg)
                        · rw [List.mem_singleton.mp hg]; exact ⟨qr, okh⟩
                      · rw [List.mem_singleton.mp hg]; exact ⟨ql, by show x ≤ n + 1; omega⟩
                    · rw [todoK_snoc, todoK_snoc, ← edone]; simp
                    · rw [muK_snoc, muK_snoc]; dsimp only; omega
                  · have hw := ql.within (a1 + 1 + j) (by omega) (by omega)
                    have nxt : ∃ v7, ([some (V.int n), some (.ref a), some (.ref kk), some (.int (lo : Nat)), some (.int ((i + 1 : Nat) : Int)), some (.ref rl), some (.ref tt), some (.int ((a1 : Int) + 1 + (j : Int)))] : L2.St) = [some (.int n), some (.ref a), some (.ref kk), some (.int (lo : Nat)), some (.int ((i + 1 : Nat) : Int)), some (.ref rl), some (.ref tt), v7] ∧ H4 = H4 ∧ (∀ l x' r, Tr.node l1 x r1 = .node l x' r → a1 + 1 + (j + 1) ≤ x') := ⟨_, rfl, rfl, fun l x' r e => by cases e; omega⟩
                    by_cases e1 : W.L (a1 + 1 + j) = (a1 : Int)
                    · refine ⟨true, dT (by rw [e1]), iteT ?_⟩
                      refine ⟨_, rfl, a, _, _, _, rfl, rfl, SqL.of (s4 _ _ ha), rfl, _, rfl, r, _, _, _, rfl, rfl, SqL.of (s4 _ _ hrr), tabI_at ej (by omega), _, rfl, tt, _, _, _, rfl, rfl, SqT.of htt4, rfl, rfl, ?_⟩
                      exact ⟨false, dF (vint_ne (by have := hw.2.2.2.2; omega)), iteF nxt⟩
                    · exact ⟨false, dF (vint_ne e1), iteF (iteF nxt)⟩
              · rintro σ _ ⟨v7, rfl, rfl, hx⟩
                cases t1 with
                | nil =>
                  have hpk : preKey Tr.nil a1 = [] := rfl
                  rw [hpk, List.nil_append] at edone
                  exact ⟨muK st', by rw [hpk]; simp, _, _, done, ts', st', rfl, rfl, s4, hk4, hr4, pst4, fun g h => oks g (List.mem_append_left _ h), edone, by omega⟩
                | node l1 x r1 =>
                  have := hx l1 x r1 rfl
                  have := okt.2.2.2.2.lt
                  omega
    · rintro σ H1 ⟨lo, v4, v5, v6, v7, pre, c', rfl, s1, hk1, hc, epre, hlo, hcase⟩
      have ec : c' = [] := by
        rcases hcase with e | ⟨t, h, c'', rfl, hhi⟩
        · exact e
        · have := hc.2.2.2.2.le
          omega
      subst ec
      have ep : pre = chKey c 0 := by rw [← epre]; simp [chKey]
      rw [ep] at hk1
      exact ⟨_, rfl, k _ kk s1 hkk hk1⟩
end
end LK
end

section
/-! LKMath4 -/
namespace LK
/-! ### the text of a standing, by its trees -/
def bT : Tr → Nat → Nat → Nat
  | .nil, _, _ => 0
  | .node l x r, a, v => (if v = a + 1 then 1 else 0) + (bT l a v + bT r x v)
def eT : Tr → Nat → Nat → Nat
  | .nil, _, _ => 0
  | .node l x r, b, v => (if b = v + 1 then 1 else 0) + (eT l x v + eT r b v)
theorem bT_out : ∀ {t : Tr} {a b v : Nat}, TreeF t a b → ¬ (a < v ∧ v < b) → bT t a v = 0
  | .nil, _, _, _, _, _ => rfl
  | .node l x r, a, b, v, h, hv => by
    obtain ⟨h1, h2⟩ := h
    have := h1.lt; have := h2.lt
    unfold bT
    rw [bT_out h1 (by omega), bT_out h2 (by omega), if_neg (by omega)]
theorem eT_out : ∀ {t : Tr} {a b v : Nat}, TreeF t a b → ¬ (a < v ∧ v < b) → eT t b v = 0
  | .nil, _, _, _, _, _ => rfl
  | .node l x r, a, b, v, h, hv => by
    obtain ⟨h1, h2⟩ := h
    have := h1.lt; have := h2.lt
    unfold eT
    rw [eT_out h1 (by omega), eT_out h2 (by omega), if_neg (by omega)]
/-- words with signs -/
def wd (B F : Nat → Nat) (g : Nat) (v : Nat) : List Nat := List.replicate (B v) 40 ++ [g] ++ List.replicate (F v) 41
def tT : Tr → List Nat
  | .nil => []
  | .node l _ r => 40 :: (tT l ++ 42 :: (tT r ++ [41]))
theorem add_first {s k : Nat} {B F : Nat → Nat} {g : Nat} (hk : 0 < k) : (List.range' s k).flatMap (wd (fun v => (if v = s then 1 else 0) + B v) F g) = 40 :: (List.range' s k).flatMap (wd B F g) := by
  obtain ⟨k, rfl⟩ : ∃ j, k = j + 1 := ⟨k - 1, by omega⟩
  rw [List.range'_succ, List.flatMap_cons, List.flatMap_cons]
  have e : wd (fun v => (if v = s then 1 else 0) + B v) F g s = 40 :: wd B F g s := by
    unfold wd
    dsimp only
    rw [if_pos rfl, Nat.add_comm, List.replicate_succ]; rfl
  rw [e, List.cons_append]
  congr 2
  refine flatMap_congr' fun v hv => ?_
  have := (mem_range'_1.mp hv).1
  unfold wd
  dsimp only
  rw [if_neg (by omega), Nat.zero_add]
theorem add_last {s k : Nat} {B F : Nat → Nat} {g : Nat} (hk : 0 < k) : (List.range' s k).flatMap (wd B (fun v => (if s + k = v + 1 then 1 else 0) + F v) g) = (List.range' s k).flatMap (wd B F g) ++ [41] := by
  obtain ⟨k, rfl⟩ : ∃ j, k = j + 1 := ⟨k - 1, by omega⟩
  rw [List.range'_1_concat, List.flatMap_append, List.flatMap_append, List.append_assoc]
  congr 1
  · refine flatMap_congr' fun v hv => ?_
    have := (mem_range'_1.mp hv).2
    unfold wd
    dsimp only
    rw [if_neg (by omega), Nat.zero_add]
  · simp only [List.flatMap_cons, List.flatMap_nil, List.append_nil]
    unfold wd
    dsimp only
    rw [if_pos (by omega), Nat.add_comm 1, List.replicate_succ']
    simp only [List.append_assoc]
theorem range_split {a x b : Nat} (h1 : a < x) (h2 : x < b) : List.range' (a + 1) (b - a - 1) = List.range' (a + 1) (x - a - 1) ++ x :: List.range' (x + 1) (b - x - 1) := by
  have e : b - a - 1 = (x - a - 1) + ((b - x - 1) + 1) := by omega
  rw [e, ← List.range'_append_1, show a + 1 + (x - a - 1) = x by omega, List.range'_succ]
theorem tree_words : ∀ {t : Tr} {a b : Nat}, TreeF t a b → (List.range' (a + 1) (b - a - 1)).flatMap (wd (bT t a) (eT t b) 42) = tT t
  | .nil, a, b, h => by
    have : b = a + 1 := h
    rw [show b - a - 1 = 0 by omega]; rfl
  | .node l x r, a, b, h => by
    obtain ⟨h1, h2⟩ := h
    have l1 := h1.lt; have l2 := h2.lt
    have ih1 := tree_words h1
    have ih2 := tree_words h2
    rw [range_split l1 l2, List.flatMap_append, List.flatMap_cons]
    -- the left nodes
    have eL : (List.range' (a + 1) (x - a - 1)).flatMap (wd (bT (.node l x r) a) (eT (.node l x r) b) 42) = if x = a + 1 then [] else 40 :: tT l := by
      by_cases e : x = a + 1
      · rw [if_pos e, show x - a - 1 = 0 by omega]; rfl
      · rw [if_neg e, ← ih1, ← add_first (by omega)]
        refine flatMap_congr' fun v hv => ?_
        have := mem_range'_1.mp hv
        unfold wd
        have e1 : bT (.node l x r) a v = (if v = a + 1 then 1 else 0) + bT l a v := by
          show _ + (_ + _) = _
          rw [bT_out h2 (by omega)]; rfl
        have e2 : eT (.node l x r) b v = eT l x v := by
          show _ + (_ + _) = _
          rw [eT_out h2 (by omega), if_neg (by omega)]; omega
        rw [e1, e2]
    have eR : (List.range' (x + 1) (b - x - 1)).flatMap (wd (bT (.node l x r) a) (eT (.node l x r) b) 42) = if b = x + 1 then [] else tT r ++ [41] := by
      by_cases e : b = x + 1
      · rw [if_pos e, show b - x - 1 = 0 by omega]; rfl
      · rw [if_neg e, ← ih2, ← add_last (by omega)]
        refine flatMap_congr' fun v hv => ?_
        have := mem_range'_1.mp hv
        unfold wd
        have e1 : bT (.node l x r) a v = bT r x v := by
          show _ + (_ + _) = _
          rw [bT_out h1 (by omega), if_neg (by omega)]; omega
        have e2 : eT (.node l x r) b v = (if x + 1 + (b - x - 1) = v + 1 then 1 else 0) + eT r b v := by
          show _ + (_ + _) = _
          rw [eT_out h1 (by omega), Nat.zero_add, show x + 1 + (b - x - 1) = b by omega]
        rw [e1, e2]
    have eX : wd (bT (.node l x r) a) (eT (.node l x r) b) 42 x = (if x = a + 1 then [40] else []) ++ 42 :: (if b = x + 1 then [41] else []) := by
      unfold wd
      have e1 : bT (.node l x r) a x = if x = a + 1 then 1 else 0 := by
        show _ + (_ + _) = _
        rw [bT_out h1 (by omega), bT_out h2 (by omega)]; rfl
      have e2 : eT (.node l x r) b x = if b = x + 1 then 1 else 0 := by
        show _ + (_ + _) = _
        rw [eT_out h1 (by omega), eT_out h2 (by omega)]; rfl
      rw [e1, e2]
      split <;> split <;> rfl
    rw [eL, eR, eX]
    have nilF : ∀ {t : Tr} {a : Nat}, TreeF t a (a + 1) → t = .nil := fun {t a} h => by
      cases t with
      | nil => rfl
      | node l y r => have := h.1.lt; have := h.2.lt; omega
    by_cases e1 : x = a + 1
    · subst e1
      rw [nilF h1]
      by_cases e2 : b = a + 1 + 1
      · subst e2; rw [nilF h2]; simp [tT]
      · simp [e2, tT]
    · by_cases e2 : b = x + 1
      · subst e2; rw [nilF h2]; simp [e1, tT]
      · simp [e1, e2, tT]

theorem post_full : ∀ {t : Tr} {a b : Nat}, TreeF t a b → ∀ v, a < v → v < b → v ∈ post t
  | .nil, a, b, h, v, h1, h2 => by
    have : b = a + 1 := h
    omega
  | .node l x r, a, b, h, v, h1, h2 => by
    obtain ⟨k1, k2⟩ := h
    show v ∈ post l ++ post r ++ [x]
    rw [List.mem_append, List.mem_append, List.mem_singleton]
    rcases Nat.lt_trichotomy v x with z | z | z
    · exact .inl (.inl (post_full k1 v h1 z))
    · exact .inr z
    · exact .inl (.inr (post_full k2 v z h2))
/-! ### chains -/
def bC : Ch → Nat → Nat → Nat
  | [], _, _ => 0
  | (t, h) :: c, low, v => bT t low v + bC c h v
def eC : Ch → Nat → Nat
  | [], _ => 0
  | (t, h) :: c, v => eT t h v + eC c v
theorem bC_out {n : Nat} : ∀ {c : Ch} {low v : Nat}, ChainF n c low → v ≤ low → bC c low v = 0
  | [], _, _, _, _ => rfl
  | (t, h) :: c, low, v, k, hv => by
    have := k.1.lt
    show _ + _ = _
    rw [bT_out k.1 (by omega), bC_out k.2 (by omega)]
theorem eC_out {n : Nat} : ∀ {c : Ch} {low v : Nat}, ChainF n c low → v ≤ low → eC c v = 0
  | [], _, _, _, _ => rfl
  | (t, h) :: c, low, v, k, hv => by
    have := k.1.lt
    show _ + _ = _
    rw [eT_out k.1 (by omega), eC_out k.2 (by omega)]
def chT (n : Nat) : Ch → List Nat
  | [] => []
  | (t, h) :: c => tT t ++ (if h = n + 1 then [] else 46 :: chT n c)
theorem chain_words {n : Nat} {O : Nat → Bool} : ∀ {c : Ch} {low : Nat}, ChainF n c low → (∀ v, low < v → v ≤ n → (O v = true ↔ v ∈ chPost c)) →
    (List.range' (low + 1) (n - low)).flatMap (fun v => List.replicate (bC c low v) 40 ++ [if O v = true then 42 else 46] ++ List.replicate (eC c v) 41) = chT n c
  | [], low, k, _ => by
    have : low = n + 1 := k
    rw [show n - low = 0 by omega]; rfl
  | (t, h) :: c, low, k, hO => by
    obtain ⟨k1, k2⟩ := k
    have lt := k1.lt
    have le := k2.le
    have inT : ∀ v, low < v → v < h → O v = true := fun v h1 h2 => (hO v h1 (by omega)).mpr (List.mem_append_left _ (post_full k1 v h1 h2))
    have first : (List.range' (low + 1) (h - low - 1)).flatMap (fun v => List.replicate (bC ((t, h) :: c) low v) 40 ++ [if O v = true then 42 else 46] ++ List.replicate (eC ((t, h) :: c) v) 41) = tT t := by
      rw [← tree_words k1]
      refine flatMap_congr' fun v hv => ?_
      have := mem_range'_1.mp hv
      unfold wd
      have e1 : bC ((t, h) :: c) low v = bT t low v := by show _ + _ = _; rw [bC_out k2 (by omega)]; rfl
      have e2 : eC ((t, h) :: c) v = eT t h v := by show _ + _ = _; rw [eC_out k2 (by omega)]; rfl
      rw [e1, e2, if_pos (inT v (by omega) (by omega))]
    show _ = tT t ++ _
    by_cases e : h = n + 1
    · rw [if_pos e, List.append_nil, ← first, show n - low = h - low - 1 by omega]
    · rw [if_neg e]
      have er : List.range' (low + 1) (n - low) = List.range' (low + 1) (h - low - 1) ++ h :: List.range' (h + 1) (n - h) := by
        rw [show n - low = (h - low - 1) + ((n - h) + 1) by omega, ← List.range'_append_1, show low + 1 + (h - low - 1) = h by omega, List.range'_succ]
      rw [er, List.flatMap_append, first, List.flatMap_cons]
      congr 1
      have nh : ¬ O h = true := fun q => by
        rcases List.mem_append.mp ((hO h (by omega) (by omega)).mp q) with hm | hm
        · have := post_mem k1 h hm; omega
        · have := chPost_mem k2 h hm; omega
      have e1 : bC ((t, h) :: c) low h = 0 := by show _ + _ = _; rw [bT_out k1 (by omega), bC_out k2 (by omega)]
      have e2 : eC ((t, h) :: c) h = 0 := by show _ + _ = _; rw [eT_out k1 (by omega), eC_out k2 (by omega)]
      rw [e1, e2, if_neg nh]
      show 46 :: _ = 46 :: _
      congr 1
      rw [← chain_words (O := O) k2 fun v h1 h2 => ?_]
      · refine flatMap_congr' fun v hv => ?_
        have := mem_range'_1.mp hv
        have e1 : bC ((t, h) :: c) low v = bC c h v := by show _ + _ = _; rw [bT_out k1 (by omega), Nat.zero_add]
        have e2 : eC ((t, h) :: c) v = eC c v := by show _ + _ = _; rw [eT_out k1 (by omega), Nat.zero_add]
        rw [e1, e2]
      · rw [hO v (by omega) h2]
        show v ∈ post t ++ chPost c ↔ _
        rw [List.mem_append]
        exact ⟨fun q => q.resolve_left fun q => by have := post_mem k1 v q; omega, fun q => .inr q⟩
end LK
end

section
/-! LKMath5 -/
namespace LK
/-! ### a text of a standing is read -/
structure PS where
  nd : Nat
  rs : List Nat
  rm : List Nat
  fr : Bool
inductive PStep : Nat → PS → PS → Prop
  | op {nd : Nat} {rs rm : List Nat} : PStep 40 ⟨nd, rs, rm, true⟩ ⟨nd, rs ++ [0], rm, true⟩
  | st {nd : Nat} {rs rm : List Nat} {fr : Bool} : PStep 42 ⟨nd, rs ++ [0], rm, fr⟩ ⟨nd + 1, rs ++ [nd + 1], rm, true⟩
  | cl {nd k : Nat} {rs rm : List Nat} {fr : Bool} : 0 < k → PStep 41 ⟨nd, rs ++ [k], rm, fr⟩ ⟨nd, rs, rm ++ [k], false⟩
  | dt {nd : Nat} {rm : List Nat} {fr : Bool} : PStep 46 ⟨nd, [], rm, fr⟩ ⟨nd + 1, [], rm, true⟩
inductive PRun : List Nat → PS → PS → Prop
  | nil {s : PS} : PRun [] s s
  | cons {c : Nat} {cs : List Nat} {s s' s'' : PS} : PStep c s s' → PRun cs s' s'' → PRun (c :: cs) s s''
theorem PRun.app {cs ds : List Nat} {s s' s'' : PS} (a : PRun cs s s') (b : PRun ds s' s'') : PRun (cs ++ ds) s s'' := by
  induction a with
  | nil => exact b
  | cons h _ ih => exact .cons h (ih b)
theorem tree_run : ∀ {t : Tr} {a b : Nat}, TreeF t a b → ∀ rs rm, ∃ fr, PRun (tT t) ⟨a, rs, rm, true⟩ ⟨b - 1, rs, rm ++ post t, fr⟩
  | .nil, a, b, h, rs, rm => by
    have : b = a + 1 := h
    subst this
    exact ⟨true, by simp [tT, post]; exact .nil⟩
  | .node l x r, a, b, h, rs, rm => by
    obtain ⟨h1, h2⟩ := h
    have l1 := h1.lt
    obtain ⟨f1, r1⟩ := tree_run h1 (rs ++ [0]) rm
    obtain ⟨f2, r2⟩ := tree_run h2 (rs ++ [x]) (rm ++ post l)
    refine ⟨false, .cons .op (r1.app (.cons (s' := ⟨x, rs ++ [x], rm ++ post l, true⟩) ?_ (r2.app (.cons (s' := ⟨b - 1, rs, rm ++ post (.node l x r), false⟩) ?_ .nil))))⟩
    · have := PStep.st (nd := x - 1) (rs := rs) (rm := rm ++ post l) (fr := f1)
      rw [show x - 1 + 1 = x by omega] at this
      exact this
    · have := PStep.cl (nd := b - 1) (k := x) (rs := rs) (rm := rm ++ post l ++ post r) (fr := f2) (by omega)
      rw [show rm ++ post (.node l x r) = rm ++ post l ++ post r ++ [x] by simp [post]]
      exact this
theorem chain_run {n : Nat} : ∀ {c : Ch} {low : Nat}, ChainF n c low → low ≤ n → ∀ rm, ∃ fr, PRun (chT n c) ⟨low, [], rm, true⟩ ⟨n, [], rm ++ chPost c, fr⟩
  | [], low, k, h, rm => by
    have : low = n + 1 := k
    omega
  | (t, h) :: c, low, k, hl, rm => by
    obtain ⟨k1, k2⟩ := k
    have lt := k1.lt
    have le := k2.le
    obtain ⟨f1, r1⟩ := tree_run k1 [] rm
    show ∃ fr, PRun (tT t ++ _) _ ⟨n, [], rm ++ (post t ++ chPost c), fr⟩
    by_cases e : h = n + 1
    · subst e
      rw [if_pos rfl, List.append_nil]
      have ec : c = [] := by
        cases c with
        | nil => rfl
        | cons x c =>
          obtain ⟨t', h'⟩ := x
          have := k2.1.lt; have := k2.2.le
          omega
      subst ec
      exact ⟨f1, by simpa [chPost] using r1⟩
    · rw [if_neg e]
      obtain ⟨f2, r2⟩ := chain_run k2 (by omega) (rm ++ post t)
      refine ⟨f2, r1.app (.cons (s' := ⟨h, [], rm ++ post t, true⟩) ?_ ?_)⟩
      · have := PStep.dt (nd := h - 1) (rm := rm ++ post t) (fr := f1)
        rw [show h - 1 + 1 = h by omega] at this
        exact this
      · rw [List.append_assoc] at r2; exact r2
theorem beg_tree {W : Wd} {v : Nat} : ∀ {t : Tr} {a b : Nat}, TreeOn W t a b → beg W (post t) v = bT t a v
  | .nil, _, _, _ => rfl
  | .node l x r, a, b, h => by
    obtain ⟨hL, hR, hO, h1, h2⟩ := h
    unfold beg
    rw [show post (.node l x r) = post l ++ post r ++ [x] from rfl, List.countP_append, List.countP_append]
    have e1 := beg_tree (v := v) h1
    have e2 := beg_tree (v := v) h2
    unfold beg at e1 e2
    rw [e1, e2]
    show _ = (if v = a + 1 then 1 else 0) + (bT l a v + bT r x v)
    rw [List.countP_cons, List.countP_nil, hL]
    by_cases e : v = a + 1
    · rw [if_pos e, if_pos (decide_eq_true (by omega))]; omega
    · rw [if_neg e, if_neg (by rw [decide_eq_true_iff]; omega)]; omega
theorem fin_tree {W : Wd} {v : Nat} : ∀ {t : Tr} {a b : Nat}, TreeOn W t a b → fin W (post t) v = eT t b v
  | .nil, _, _, _ => rfl
  | .node l x r, a, b, h => by
    obtain ⟨hL, hR, hO, h1, h2⟩ := h
    unfold fin
    rw [show post (.node l x r) = post l ++ post r ++ [x] from rfl, List.countP_append, List.countP_append]
    have e1 := fin_tree (v := v) h1
    have e2 := fin_tree (v := v) h2
    unfold fin at e1 e2
    rw [e1, e2]
    show _ = (if b = v + 1 then 1 else 0) + (eT l x v + eT r b v)
    rw [List.countP_cons, List.countP_nil, hR]
    by_cases e : b = v + 1
    · rw [if_pos e, if_pos (decide_eq_true (by omega))]; omega
    · rw [if_neg e, if_neg (by rw [decide_eq_true_iff]; omega)]; omega
theorem beg_chain {W : Wd} {n v : Nat} : ∀ {c : Ch} {low : Nat}, ChainOn W n c low → beg W (chPost c) v = bC c low v
  | [], _, _ => rfl
  | (t, h) :: c, low, k => by
    obtain ⟨h1, _, _, _, h2⟩ := k
    have e1 := beg_tree (v := v) h1
    have e2 := beg_chain (v := v) h2
    unfold beg at e1 e2 ⊢
    rw [show chPost ((t, h) :: c) = post t ++ chPost c from rfl, List.countP_append, e1, e2]; rfl
theorem fin_chain {W : Wd} {n v : Nat} : ∀ {c : Ch} {low : Nat}, ChainOn W n c low → fin W (chPost c) v = eC c v
  | [], _, _ => rfl
  | (t, h) :: c, low, k => by
    obtain ⟨h1, _, _, _, h2⟩ := k
    have e1 := fin_tree (v := v) h1
    have e2 := fin_chain (v := v) h2
    unfold fin at e1 e2 ⊢
    rw [show chPost ((t, h) :: c) = post t ++ chPost c from rfl, List.countP_append, e1, e2]; rfl
theorem post_out {W : Wd} : ∀ {t : Tr} {a b : Nat}, TreeOn W t a b → ∀ v ∈ post t, W.O v = true := fun {t a b} h v hv => (h.within v (post_mem h.form v hv).1 (post_mem h.form v hv).2).1
theorem chPost_out {W : Wd} {n : Nat} : ∀ {c : Ch} {low : Nat}, ChainOn W n c low → ∀ v, low < v → v ≤ n → (W.O v = true ↔ v ∈ chPost c)
  | [], low, k, v, h1, h2 => by
    have : low = n + 1 := k
    omega
  | (t, h) :: c, low, k, v, h1, h2 => by
    obtain ⟨k1, _, _, kO, k2⟩ := k
    have lt := k1.lt
    show _ ↔ v ∈ post t ++ chPost c
    rw [List.mem_append]
    rcases Nat.lt_trichotomy v h with z | z | z
    · exact ⟨fun _ => .inl (post_full k1.form v h1 z), fun _ => (k1.within v h1 z).1⟩
    · subst z
      rw [kO]
      refine ⟨fun q => (by cases q), fun q => ?_⟩
      rcases q with q | q
      · have := post_mem k1.form v q; omega
      · have := chPost_mem k2.form v q; omega
    · rw [chPost_out k2 v z h2]
      exact ⟨fun q => .inr q, fun q => q.resolve_left fun q => by have := post_mem k1.form v q; omega⟩
theorem text_chain {W : Wd} {n : Nat} {c : Ch} (S : Stand W n c) : textW W n = chT n c := by
  have hO := chPost_out S.ch
  have pm : (outsL W.O n).Perm (chPost c) := by
    refine (List.perm_ext_iff_of_nodup ?_ (chPost_nodup S.ch.form)).mpr fun x => ?_
    · unfold outsL
      exact (List.nodup_range' (step := 1)).filter _
    · rw [mem_outsL]
      constructor
      · rintro ⟨h1, h2, h3⟩; exact (hO x (by omega) h2).mp h3
      · intro q
        have := chPost_mem S.ch.form x q
        exact ⟨by omega, this.2, (hO x (by omega) this.2).mpr q⟩
  rw [← chain_words (O := W.O) S.ch.form hO]
  unfold textW
  rw [Nat.sub_zero]
  refine flatMap_congr' fun v hv => ?_
  unfold wordC
  have e1 : beg W (outsL W.O n) v = bC c 0 v := by
    rw [← beg_chain S.ch]; unfold beg; exact pm.countP_eq _
  have e2 : fin W (outsL W.O n) v = eC c v := by
    rw [← fin_chain S.ch]; unfold fin; exact pm.countP_eq _
  rw [e1, e2]
theorem text_run {W : Wd} {n : Nat} {c : Ch} (S : Stand W n c) : ∃ fr, PRun (textW W n) ⟨0, [], [], true⟩ ⟨n, [], chPost c, fr⟩ := by
  rw [text_chain S]
  have := chain_run S.ch.form (Nat.zero_le n) []
  simpa using this
end LK
end

section
/-! LKLaw6 -/
set_option maxHeartbeats 4000000
namespace LK
open PySem PySem.Spec PyProof.Rows L2
abbrev chS (c : Nat) : Str := ⟨#[c]⟩
theorem chS_ne {c : Nat} {s : Str} (h : chS c ≠ s) : ¬ V.str (chS c) = V.str s := vstr_ne h
theorem last_at {rs : List Nat} {k : Nat} {z : Int} (e : z = ((rs ++ [k]).length : Int) - 1) : atI (intL (rs ++ [k])) z = some (.int (k : Nat)) :=
  at_of (j := rs.length) (by rw [e]; simp) (by simp)
section
variable {P : Program} {w : World} {K : PySem.W.Frag} {mg : Str → Option Value} {base : Heap} {CK CT CL CF CB CN : Addr}
def sp_read : Sp := fun vs H Q _ => ∃ (n : Nat) (z : Str) (W : Wd) (c : Ch), vs = [.int (n : Nat), .str z] ∧ z.cps.toList = textW W n ∧ Stand W n c ∧ n ≤ 60 ∧ ∀ H' a, Same H H' → H a = none → H' a = some (.lst (intL (chPost c))) → Q (.ref a) H'
theorem text_len {W : Wd} {n : Nat} (hn : n ≤ 60) : (textW W n).length ≤ 7260 := by
  unfold textW
  rw [List.length_flatMap]
  have hs := sum_le_mul (l := (List.range' 1 n).map fun v => (wordC W n v).length) (b := 121) fun z hz => by
    obtain ⟨v, _, rfl⟩ := List.mem_map.mp hz
    have := wordS_len (W := W) (n := n) (v := v) hn
    have e : (wordS W n v).length = (wordC W n v).length := by rw [← wordS_cps, Array.length_toList]; rfl
    omega
  rw [List.length_map, List.length_range'] at hs
  omega
theorem w_read (T : Tx mg) (D : Dn K mg "_law_read" s_l_read) : Cal P w K mg base 1 "_law_read" sp_read := by
  refine cal_of D sc_l_read bd_l_read (fun vs H Q E h => ?_) fun f cdv A outer s H vs Q E hr h => ?_
  · obtain ⟨n, z, W, c, rfl, _⟩ := h; rfl
  · obtain ⟨n, z, W, c, rfl, hz, S, hn, k⟩ := h
    refine ⟨_, (pss_cons
    (ps_set (i := 2) sc_l_read.nd rfl (Or.inl rfl) pe_int) (pss_cons
    (ps_set (i := 3) sc_l_read.nd rfl (Or.inl rfl) (pe_lst pa_nil)) (pss_cons
    (ps_set (i := 4) sc_l_read.nd rfl (Or.inl rfl) (pe_lst pa_nil)) (pss_cons
    (ps_set (i := 5) sc_l_read.nd rfl (Or.inl rfl) pe_bl) (pss_cons
    (ps_for PassesOwn.never rfl (pi_str (pv 1)) (pg_name (i := 6) sc_l_read.nd rfl (Or.inl rfl)) (pss_one
    (ps_if (PW.pt (pw_and (pt_cmpR op_eq (pv 6) pe_str (nomark _)) (pw_and1 (pt_val (pv 5))))) (pss_one
    (ps_expr (pe_bm PySem.F.plainAttrs_list PySem.F.slot_list_append PySem.F.type_list_append mt_append (pv 3) (pa_cons pe_int pa_nil)))) (pss_one
    (ps_if (PW.pt (pw_and (pt_cmpR op_eq (pv 6) pe_str (nomark _)) (pw_and (pt_cmpR op_gt (pe_callB call_len_seq (by rfl) T.len PySem.boot_len (pa_cons (pv 3) pa_nil)) pe_int (nomark _)) (pw_and1 (pt_cmpR op_eq (pe_ix ix_list (pv 3) (pe_op op_sub (pe_callB call_len_seq (by rfl) T.len PySem.boot_len (pa_cons (pv 3) pa_nil)) pe_int) (fun _ _ => rfl)) pe_int (nomark _)))))) (pss_cons
    (ps_set (i := 2) sc_l_read.nd rfl (Or.inl rfl) (pe_op op_add (pv 2) pe_int)) (pss_cons
    (ps_asg (pv 2) (pg_sub (pv 3) (pe_op op_sub (pe_callB call_len_seq (by rfl) T.len PySem.boot_len (pa_cons (pv 3) pa_nil)) pe_int) set_list)) (pss_one
    (ps_set (i := 5) sc_l_read.nd rfl (Or.inl rfl) pe_bl)))) (pss_one
    (ps_if (PW.pt (pw_and (pt_cmpR op_eq (pv 6) pe_str (nomark _)) (pw_and (pt_cmpR op_gt (pe_callB call_len_seq (by rfl) T.len PySem.boot_len (pa_cons (pv 3) pa_nil)) pe_int (nomark _)) (pw_and1 (pt_cmpR op_gt (pe_ix ix_list (pv 3) (pe_op op_sub (pe_callB call_len_seq (by rfl) T.len PySem.boot_len (pa_cons (pv 3) pa_nil)) pe_int) (fun _ _ => rfl)) pe_int (nomark _)))))) (pss_cons
    (ps_expr (pe_bm PySem.F.plainAttrs_list PySem.F.slot_list_append PySem.F.type_list_append mt_append (pv 4) (pa_cons (pe_bm0 PySem.F.plainAttrs_list PySem.F.slot_list_pop PySem.F.type_list_pop mt_pop (pv 3)) pa_nil))) (pss_one
    (ps_set (i := 5) sc_l_read.nd rfl (Or.inl rfl) pe_bl))) (pss_one
    (ps_if (PW.pt (pw_and (pt_cmpR op_eq (pv 6) pe_str (nomark _)) (pw_and1 (pt_cmpR op_eq (pe_callB call_len_seq (by rfl) T.len PySem.boot_len (pa_cons (pv 3) pa_nil)) pe_int (nomark _))))) (pss_cons
    (ps_set (i := 2) sc_l_read.nd rfl (Or.inl rfl) (pe_op op_add (pv 2) pe_int)) (pss_one
    (ps_set (i := 5) sc_l_read.nd rfl (Or.inl rfl) pe_bl))) (pss_one
    (ps_ret pe_non))))))))))) (pss_cons
    (ps_if (PW.pt (pw_or (pt_cmpR op_gt (pe_callB call_len_seq (by rfl) T.len PySem.boot_len (pa_cons (pv 3) pa_nil)) pe_int (nomark _)) (pw_or1 (pt_cmpR op_ne (pv 2) (pv 0) (nomark _))))) (pss_one
    (ps_ret pe_non)) pss_nil) (pss_one
    (ps_ret (pv 4))))))))), ?_⟩
    obtain ⟨fz, run⟩ := text_run S
    rw [← hz] at run
    have hlen : z.cps.toList.length ≤ 7260 := by rw [hz]; exact text_len hn
    refine ⟨by show 0 ≤ sizeLine; decide, fun ro hro => ⟨by show 0 ≤ sizeLine; decide, fun rm hrm => ?_⟩⟩
    obtain ⟨hrm0, nrr⟩ := upd_none hrm
    refine ⟨_, rfl, z, rfl, for_it (walk_str (z := z)) (fun i σ H' => ∃ (st : PS) (v : Option V), PRun (z.cps.toList.drop i) st ⟨n, [], chPost c, fz⟩ ∧ σ = [some (.int n), some (.str z), some (.int (st.nd : Nat)), some (.ref ro), some (.ref rm), some (.bl st.fr), v] ∧ Same H H' ∧ H' ro = some (.lst (intL st.rs)) ∧ H' rm = some (.lst (intL st.rm)) ∧ st.rs.length ≤ i ∧ st.rm.length ≤ i)
      ⟨⟨0, [], [], true⟩, _, run, rfl, Same.upd (Same.new hro) hrm, by rw [upd_ne nrr.symm]; exact upd_same, upd_same, Nat.le_refl _, Nat.le_refl _⟩ (fun _ _ _ _ _ => trivial) ?_ ?_⟩
    · rintro i x σ _ H1 hi ⟨st, v, rn, rfl, s1, h1, h2, l1, l2⟩ ⟨rfl, ch, hch, rfl⟩
      have hch' : z.cps.toList[i]? = some ch := by simpa using hch
      have hil : i < 7260 := Nat.lt_of_lt_of_le (List.getElem?_eq_some_iff.mp hch').1 hlen
      have ed : z.cps.toList.drop i = ch :: z.cps.toList.drop (i + 1) := by
        obtain ⟨hl, e⟩ := List.getElem?_eq_some_iff.mp hch'
        rw [List.drop_eq_getElem_cons hl, e]
      rw [ed] at rn
      cases rn with
      | cons stp rn' =>
        cases stp with
        | @op nd rs rmv =>
          replace h1 : H1 ro = some (.lst (intL rs)) := h1
          replace h2 : H1 rm = some (.lst (intL rmv)) := h2
          replace l1 : rs.length ≤ i := l1
          refine ⟨_, rfl, rfl, true, dT (by decide +kernel), iteT ⟨_, rfl, true, rfl, iteT ?_⟩⟩
          refine ⟨_, rfl, .inl ⟨rfl, _, SqL.of h1⟩, ro, _, _, rfl, rfl, h1, sizeLine_gt (by rw [intL_len]; omega), ?_⟩
          refine ⟨⟨nd, rs ++ [0], rmv, true⟩, _, rn', rfl, Same.write s1 hro, ?_, ?_, by simp; omega, by show rmv.length ≤ i + 1; exact Nat.le_succ_of_le l2⟩
          · rw [upd_same]; simp [intL]
          · rw [upd_ne nrr]; exact h2
        | @st nd rs rmv fr =>
          replace h1 : H1 ro = some (.lst (intL (rs ++ [0]))) := h1
          replace h2 : H1 rm = some (.lst (intL rmv)) := h2
          replace l1 : (rs ++ [0]).length ≤ i := l1
          refine ⟨_, rfl, rfl, false, dF (chS_ne (by decide +kernel)), iteF (iteF ?_)⟩
          refine ⟨_, rfl, rfl, true, dT (by decide +kernel), iteT ?_⟩
          refine ⟨_, rfl, ro, _, rfl, .inl (SqL.of h1), _, _, rfl, rfl, true, dT (by simp), iteT ?_⟩
          refine ⟨_, rfl, _, rfl, ro, _, rfl, .inl (SqL.of h1), _, _, rfl, rfl, ro, _, _, _, rfl, rfl, SqL.of h1, last_at (k := 0) (by rw [intL_len]), rfl, true, dT rfl, iteT ?_⟩
          refine ⟨_, rfl, _, _, rfl, rfl, ?_⟩
          refine ⟨_, rfl, _, rfl, _, rfl, ro, _, rfl, .inl (SqL.of h1), _, _, rfl, rfl, ro, _, _, rs.length, rfl, rfl, h1, ixN_nat (by rw [intL_len]; simp) (by rw [intL_len]; simp), ?_⟩
          refine ⟨⟨nd + 1, rs ++ [nd + 1], rmv, true⟩, _, rn', rfl, Same.write s1 hro, ?_, ?_, by simp at l1 ⊢; omega, Nat.le_succ_of_le l2⟩
          · rw [upd_same]; simp [intL]
          · rw [upd_ne nrr]; exact h2
        | @cl nd kk rs rmv fr hk =>
          replace h1 : H1 ro = some (.lst (intL (rs ++ [kk]))) := h1
          replace h2 : H1 rm = some (.lst (intL rmv)) := h2
          replace l1 : (rs ++ [kk]).length ≤ i := l1
          replace l2 : rmv.length ≤ i := l2
          refine ⟨_, rfl, rfl, false, dF (chS_ne (by decide +kernel)), iteF (iteF ?_)⟩
          refine ⟨_, rfl, rfl, false, dF (chS_ne (by decide +kernel)), iteF (iteF ?_)⟩
          refine ⟨_, rfl, rfl, true, dT (by decide +kernel), iteT ?_⟩
          refine ⟨_, rfl, ro, _, rfl, .inl (SqL.of h1), _, _, rfl, rfl, true, dT (by simp), iteT ?_⟩
          refine ⟨_, rfl, _, rfl, ro, _, rfl, .inl (SqL.of h1), _, _, rfl, rfl, ro, _, _, _, rfl, rfl, SqL.of h1, last_at (k := kk) (by rw [intL_len]), _, _, rfl, rfl, true, dT (by omega), iteT ?_⟩
          refine ⟨_, rfl, .inl ⟨rfl, _, SqL.of h2⟩, _, rfl, .inl ⟨rfl, _, SqL.of h1⟩, ro, _, .int (kk : Nat), rfl, rfl, h1, by simp, ?_⟩
          refine ⟨rm, _, _, rfl, rfl, by rw [upd_ne nrr]; exact h2, sizeLine_gt (by rw [intL_len]; omega), ?_⟩
          refine ⟨⟨nd, rs, rmv ++ [kk], false⟩, _, rn', rfl, Same.write (Same.write s1 hro) hrm0, ?_, ?_, by simp at l1 ⊢; omega, by simp; omega⟩
          · rw [upd_ne nrr.symm, upd_same]; simp [intL]
          · rw [upd_same]; simp [intL]
        | @dt nd rmv fr =>
          replace h1 : H1 ro = some (.lst (intL [])) := h1
          refine ⟨_, rfl, rfl, false, dF (chS_ne (by decide +kernel)), iteF (iteF ?_)⟩
          refine ⟨_, rfl, rfl, false, dF (chS_ne (by decide +kernel)), iteF (iteF ?_)⟩
          refine ⟨_, rfl, rfl, false, dF (chS_ne (by decide +kernel)), iteF (iteF ?_)⟩
          refine ⟨_, rfl, rfl, true, dT (by decide +kernel), iteT ?_⟩
          refine ⟨_, rfl, ro, _, rfl, .inl (SqL.of h1), rfl, true, dT rfl, iteT ?_⟩
          refine ⟨_, rfl, _, _, rfl, rfl, ?_⟩
          exact ⟨⟨nd + 1, [], rmv, true⟩, _, rn', rfl, s1, h1, h2, Nat.zero_le _, Nat.le_succ_of_le l2⟩
    · rintro σ H1 ⟨st, v, rn, rfl, s1, h1, h2, l1, l2⟩
      rw [show z.cps.size = z.cps.toList.length from Array.length_toList.symm, List.drop_length] at rn
      cases rn
      refine ⟨_, rfl, ro, _, rfl, .inl (SqL.of h1), _, _, rfl, rfl, false, dF (by simp), iteF ?_⟩
      refine ⟨_, rfl, _, rfl, rfl, false, ?_, iteF ⟨_, rfl, k _ rm s1 hrm0 h2⟩⟩
      simp
end
end LK
end

section
/-! LKData -/
set_option maxHeartbeats 4000000
namespace LK
open PySem PySem.Spec PyProof.Rows L2
abbrev dI_ (xs : List Int) : PyData := .list (xs.map PyData.int)
theorem DpAll.ints {K : PySem.W.Frag} {H : Hp} : ∀ xs : List Int, DpAll K H (intsV xs) (xs.map PyData.int)
  | [] => .nil
  | x :: xs => .cons (.int x) (DpAll.ints xs)
theorem Dp.ints {K : PySem.W.Frag} {H : Hp} {a : Addr} {xs : List Int} (h : SqL K H a (intsV xs)) : Dp K H (.ref a) (dI_ xs) := .lst h (DpAll.ints xs)
theorem eqv_ints (xs ys : List Int) : PyData.eqv (dI_ xs) (dI_ ys) = decide (xs = ys) := PySem.W.ked_eqvAll xs ys
theorem shaped_ints (xs : List Int) : SeqAt.shaped (dI_ xs) = true := PySem.W.ke_shaped_ints xs
theorem alike_ints : ∀ xs ys : List Int, PySem.W.alikeAll (xs.map PyData.int) (ys.map PyData.int) = true
  | [], _ => rfl
  | _ :: _, [] => rfl
  | x :: xs, y :: ys => by
    show (true && PySem.W.alikeAll _ _) = true
    rw [alike_ints xs ys]; rfl
theorem toks_ints : ∀ xs ys : List Int, PyProof.Rows.lexLt PyProof.Rows.itemOrd (PySem.W.keyToksAll (xs.map PyData.int)) (PySem.W.keyToksAll (ys.map PyData.int)) = lexLt xs ys
  | [], [] => by decide
  | [], y :: ys => by rfl
  | x :: xs, [] => by rfl
  | x :: xs, y :: ys => by
    have ih := toks_ints xs ys
    have e : PyProof.Rows.lexLt PyProof.Rows.itemOrd (PySem.W.keyToksAll ((x :: xs).map PyData.int)) (PySem.W.keyToksAll ((y :: ys).map PyData.int)) =
        PyProof.Rows.lexLt PyProof.Rows.itemOrd (Sum.inl 1 :: Sum.inl x :: PySem.W.keyToksAll (xs.map PyData.int)) (Sum.inl 1 :: Sum.inl y :: PySem.W.keyToksAll (ys.map PyData.int)) := rfl
    rw [e, PyProof.Rows.lex_self (O := PyProof.Rows.itemOrd)]
    show _ = if x = y then lexLt xs ys else decide (x < y)
    by_cases h : x = y
    · subst h
      rw [PyProof.Rows.lex_self (O := PyProof.Rows.itemOrd), if_pos rfl, ih]
    · rw [PyProof.Rows.lex_diff (O := PyProof.Rows.itemOrd) (fun q => h (Sum.inl.inj q)), if_neg h]; rfl
theorem lt_ints (xs ys : List Int) : PySem.W.dataLt (dI_ xs) (dI_ ys) = lexLt xs ys := toks_ints xs ys
theorem depth_ints (xs : List Int) : (dI_ xs).depth ≤ 2 := by
  show PyData.depth (.list _) ≤ 2
  simp [PyData.depth, PySem.W.ke_depthAll]
section
variable {X : Cx}
/-- xs < ys, of lists of ints -/
theorem op_ltL (hu : X.A.units + 64 < cLine) : OpR X (compareOp .Lt) (fun x y H Q => ∃ (a b : Addr) (xs ys : List Int), x = .ref a ∧ y = .ref b ∧ H a = some (.lst (intsV xs)) ∧ H b = some (.lst (intsV ys)) ∧ Q (.bl (lexLt xs ys)) H) := by
  intro pins s σ H x y v u Q I rx ry h
  obtain ⟨a, b, xs, ys, rfl, rfl, ha, hb, q⟩ := h
  obtain ⟨as, r1⟩ := Dp.reads I (dI_ xs) _ v (Dp.ints (SqL.of ha)) rx
  obtain ⟨bs, r2⟩ := Dp.reads I (dI_ ys) _ u (Dp.ints (SqL.of hb)) ry
  have hd : min (dI_ xs).depth (dI_ ys).depth ≤ 2 := Nat.le_trans (Nat.min_le_left _ _) (depth_ints xs)
  refine PySem.W.lt_data r1 r2 (alike_ints xs ys) (fun e => by cases e) (by omega) ?_
  rw [lt_ints]
  exact ⟨.bl _, H, I, rfl, q⟩
end
/-! ### facts as data -/
def ftD : Ft → PyData
  | .inn x => .tuple [.str "in", .int x]
  | .out x => .tuple [.str "out", .int x]
  | .lf x l => .tuple [.str "left", .int x, .int l]
  | .rt x r => .tuple [.str "right", .int x, .int r]
abbrev fsD (fs : List Ft) : PyData := .list (fs.map ftD)
theorem Dp.ft {K : PySem.W.Frag} {H : Hp} {t : Addr} {f : Ft} (h : FtAt H t f) : Dp K H (.ref t) (ftD f) := by
  cases f with
  | inn x => exact .tup (SqT.of h) (.cons (.str _) (.cons (.int _) .nil))
  | out x => exact .tup (SqT.of h) (.cons (.str _) (.cons (.int _) .nil))
  | lf x l => exact .tup (SqT.of h) (.cons (.str _) (.cons (.int _) (.cons (.int _) .nil)))
  | rt x r => exact .tup (SqT.of h) (.cons (.str _) (.cons (.int _) (.cons (.int _) .nil)))
theorem DpAll.fts {K : PySem.W.Frag} {H : Hp} : ∀ {ts : List Addr} {fs : List Ft}, Paired (FtAt H) ts fs → DpAll K H (ts.map V.ref) (fs.map ftD)
  | [], _, h => by cases h; exact .nil
  | t :: ts, _, h => by
    cases h with
    | cons r h => exact .cons (Dp.ft r) (DpAll.fts h)
theorem Dp.fs {K : PySem.W.Frag} {H : Hp} {a : Addr} {fs : List Ft} (h : FL H a fs) : Dp K H (.ref a) (fsD fs) := by
  obtain ⟨ts, h1, h2⟩ := h
  exact .lst (SqL.of h1) (DpAll.fts h2)
theorem ftD_lay (f : Ft) : (ftD f).canLay0 = true ∧ (ftD f).depth ≤ 1 := by
  have h1 : PyData.canLay0 (.str "in") = true := by decide +kernel
  have h2 : PyData.canLay0 (.str "out") = true := by decide +kernel
  have h3 : PyData.canLay0 (.str "left") = true := by decide +kernel
  have h4 : PyData.canLay0 (.str "right") = true := by decide +kernel
  cases f with
  | inn x => exact ⟨(show (PyData.canLay0 (.str "in") && (true && true)) = true by rw [h1]; rfl), by simp [ftD, PyData.depth, PyData.depthAll]⟩
  | out x => exact ⟨(show (PyData.canLay0 (.str "out") && (true && true)) = true by rw [h2]; rfl), by simp [ftD, PyData.depth, PyData.depthAll]⟩
  | lf x l => exact ⟨(show (PyData.canLay0 (.str "left") && (true && (true && true))) = true by rw [h3]; rfl), by simp [ftD, PyData.depth, PyData.depthAll]⟩
  | rt x l => exact ⟨(show (PyData.canLay0 (.str "right") && (true && (true && true))) = true by rw [h4]; rfl), by simp [ftD, PyData.depth, PyData.depthAll]⟩
theorem fsD_shaped (fs : List Ft) : SeqAt.shaped (fsD fs) = true ∧ (fsD fs).canLay0 = true := by
  have h1 : ∀ fs : List Ft, PyData.canLayAll0 (fs.map ftD) = true := by
    intro fs
    induction fs with
    | nil => rfl
    | cons f fs ih =>
      show (PyData.canLay0 (ftD f) && PyData.canLayAll0 (fs.map ftD)) = true
      rw [(ftD_lay f).1, ih]; rfl
  have h2 : ∀ fs : List Ft, PyData.depthAll (fs.map ftD) ≤ 1 := by
    intro fs
    induction fs with
    | nil => exact Nat.zero_le _
    | cons f fs ih =>
      show max (PyData.depth (ftD f)) (PyData.depthAll (fs.map ftD)) ≤ 1
      exact Nat.max_le.mpr ⟨(ftD_lay f).2, ih⟩
  refine ⟨?_, h1 fs⟩
  show (PyData.canLay0 (fsD fs) && decide ((fsD fs).depth ≤ 64)) = true
  have : (fsD fs).depth ≤ 64 := by
    show PyData.depth (.list _) ≤ 64
    have := h2 fs
    simp only [PyData.depth]; omega
  rw [show PyData.canLay0 (fsD fs) = true from h1 fs, decide_eq_true this]; rfl
theorem fsD_refl (fs : List Ft) : PyData.eqv (fsD fs) (fsD fs) = true := SeqAt.eqv_refl _ (fsD_shaped fs).2
end LK
end

section
/-! LKLaw7 -/
set_option maxHeartbeats 4000000
namespace LK
open PySem PySem.Spec PyProof.Rows L2
section
variable {P : Program} {w : World} {K : PySem.W.Frag} {mg : Str → Option Value} {base : Heap} {CK CT CL CF CB CN : Addr}
theorem pe_ty {X : Cx} {x : Str} {T : String} {pos : Pos} (hg : Gl X x) (hm : X.mg x = none) (hv : bootBuiltins x = some (.type T)) (hn : x ≠ "__name__" := by decide) (hd : (x == ("__debug__" : Str)) = false := by decide) : PE X (.Name x pos) (tC (.ty T)) := pe_bltn hg hm hv rfl hn hd
def sp_integer : Sp := fun vs H Q _ => ∃ z : Int, vs = [.int z] ∧ Q (.bl true) H
theorem w_integer (T : Tx mg) (D : Dn K mg "_law_integer" s_l_integer) : Cal P w K mg base 1 "_law_integer" sp_integer := by
  refine cal_of D sc_l_integer bd_l_integer (fun vs H Q E h => ?_) fun f cdv A outer s H vs Q E hr h => ?_
  · obtain ⟨z, rfl, _⟩ := h; rfl
  · obtain ⟨z, rfl, k⟩ := h
    refine ⟨_, (pss_one
    (ps_ret (pe_and (pe_callB call_isi (by rfl) T.isinstance (by decide +kernel) (pa_cons (pv 0) (pa_cons (pe_ty (T := "int") rfl T.int (by decide +kernel)) pa_nil))) (pe_one (pe_not (pe_callB call_isi (by rfl) T.isinstance (by decide +kernel) (pa_cons (pv 0) (pa_cons (pe_ty (T := "bool") rfl T.bool (by decide +kernel)) pa_nil)))))))), ?_⟩
    refine ⟨_, rfl, _, _, _, _, true, rfl, .ty _, .base (.int _), kit_ty (by decide +kernel), true, rfl, iteT ?_⟩
    exact ⟨_, rfl, _, _, _, _, false, rfl, .ty _, .base (.int _), kit_ty (by decide +kernel), _, rfl, k⟩
/-- what a refused call gives -/
def RefAt (H : Hp) (t : Addr) (b0 b1 : Bool) (z : Int) : Prop := ∃ l, H t = some (.tup [.str "refused", .ref l, .int z]) ∧ H l = some (.lst [.bl b0, .bl b1])
def sp_refused : Sp := fun vs H Q _ => ∃ (t : Addr) (b0 b1 : Bool) (k z : Int), vs = [.ref t, .int k, .int z] ∧ RefAt H t b0 b1 z ∧ b0 = decide (k = 0) ∧ b1 = decide (k = 1) ∧ ∀ H', Same H H' → Q (.bl true) H'
theorem w_refused (T : Tx mg) (D : Dn K mg "_law_refused" s_l_refused) (c_l_integer : Cal P w K mg base 1 "_law_integer" sp_integer) : Cal P w K mg base 2 "_law_refused" sp_refused := by
  refine cal_of D sc_l_refused bd_l_refused (fun vs H Q E h => ?_) fun f cdv A outer s H vs Q E hr h => ?_
  · obtain ⟨t, b0, b1, k, z, rfl, _⟩ := h; rfl
  · obtain ⟨t, b0, b1, kk, z, rfl, ⟨l, ht, hl⟩, e0, e1, k⟩ := h
    refine ⟨_, (pss_cons
    (ps_if (PW.pt (pw_or (pt_cmpR op_ne (pe_ix ix_tup (pv 0) pe_int (fun _ _ => rfl)) pe_str (nomark _)) (pw_or1 (pt_cmpR (op_neD hr.units) (pe_ix ix_tup (pv 0) pe_int (fun _ _ => rfl)) (pe_lst (pa_cons (pe_cmpR op_eq (pv 1) pe_int (nomark _)) (pa_cons (pe_cmpR op_eq (pv 1) pe_int (nomark _)) pa_nil))) (nomark _))))) (pss_one
    (ps_ret pe_bl)) pss_nil) (pss_one
    (ps_ret (pe_and (pe_c c_l_integer hr (by decide) rfl (pa_cons (pe_ix ix_tup (pv 0) pe_int (fun _ _ => rfl)) pa_nil)) (pe_one (pe_cmpR op_eq (pe_ix ix_tup (pv 0) pe_int (fun _ _ => rfl)) (pv 2) (nomark _))))))), ?_⟩
    refine ⟨_, rfl, t, _, _, _, rfl, rfl, SqT.of ht, rfl, rfl, false, nF rfl, iteF ?_⟩
    refine ⟨_, rfl, t, _, _, _, rfl, rfl, SqT.of ht, rfl, _, rfl, rfl, _, rfl, rfl, by show 2 ≤ sizeLine; decide, fun q hq => ?_⟩
    have dk : ∀ i : Int, decide (V.int kk = V.int i) = decide (kk = i) := fun i => by
      rw [Bool.eq_iff_iff, decide_eq_true_iff, decide_eq_true_iff]
      exact ⟨fun e => by injection e, fun e => by rw [e]⟩
    have hs : ∀ a b : Bool, SeqAt.shaped (.list [.bool a, .bool b]) = true := by decide
    have hl' : L2.upd H q (.lst [.bl (decide (V.int kk = V.int 0)), .bl (decide (V.int kk = V.int 1))]) l = some (.lst [.bl b0, .bl b1]) := by rw [upd_ne (ne_of_none hl hq)]; exact hl
    refine ⟨.list [.bool b0, .bool b1], .list [.bool (decide (V.int kk = V.int 0)), .bool (decide (V.int kk = V.int 1))], .lst (SqL.of hl') (.cons (.bl _) (.cons (.bl _) .nil)), .lst (SqL.of upd_same) (.cons (.bl _) (.cons (.bl _) .nil)), hs _ _, hs _ _, false, ?_, iteF ?_⟩
    · rw [dk, dk, ← e0, ← e1]
      cases b0 <;> cases b1 <;> rfl
    · have s1 : Same H (L2.upd H q (.lst [.bl (decide (V.int kk = V.int 0)), .bl (decide (V.int kk = V.int 1))])) := Same.new hq
      refine ⟨_, rfl, t, _, _, _, rfl, rfl, SqT.of (s1 _ _ ht), rfl, z, rfl, true, rfl, iteT ?_⟩
      refine ⟨_, rfl, t, _, _, _, rfl, rfl, SqT.of (s1 _ _ ht), rfl, _, rfl, rfl, ?_⟩
      exact retB (Q := Q) rfl (k _ s1)
/-! ### the key of a fit -/
/-- the class Forest, for isinstance -/
structure FoIs (K : PySem.W.Frag) (C : Addr) : Prop where
  ha : PySem.W.findIn K (.ref C) "__class__" = some (some (.builtin "object.__class__"))
  hn : PySem.W.specialIn K (.builtin "object.__class__") "__get__" = some (some (.builtin "getset_descriptor.__get__"))
  ht : PySem.W.takesIn K (.builtin "object.__class__") = some true
  hm : PySem.W.mroIn K C (.type "object") = some true
  one : PySem.W.kitOne K (.ref C) (.ref C) = some true
def sp_key_of (CL CF : Addr) : Sp := fun vs H Q _ => ∃ (n : Nat) (a p : Addr) (fs : List Ft) (c : Ch), vs = [.int (n : Nat), .ref a, .ref p] ∧ Args H a n fs ∧ c ∈ fits n fs ∧ FoR CL CF H p n (play (chPost c)) ∧ ∀ H' b, Same H H' → H b = none → H' b = some (.lst (intsV (chKey c 0))) → Q (.ref b) H'
theorem w_key_of (T : Tx mg) (TF : CFo K CF) (IF : FoIs K CF) (mF : mg "Forest" = some (.ref CF)) (D : Dn K mg "_law_key_of" s_l_key_of) (c_Forest_str : Met P w K mg base 2 CF "__str__" (sp_Forest_str CL CF)) (c_l_read : Cal P w K mg base 1 "_law_read" sp_read) (c_l_played : Cal P w K mg base 1 "_law_played" sp_played)
    (c_l_true : Cal P w K mg base 1 "_law_true" sp_true) (c_l_key : Cal P w K mg base 1 "_law_key" sp_key) : Cal P w K mg base 5 "_law_key_of" (sp_key_of CL CF) := by
  refine cal_of D sc_l_key_of bd_l_key_of (fun vs H Q E h => ?_) fun f cdv A outer s H vs Q E hr h => ?_
  · obtain ⟨n, a, p, fs, c, rfl, _⟩ := h; rfl
  · obtain ⟨n, a, p, fs, c, rfl, g, hc, FR, k⟩ := h
    refine ⟨_, (pss_cons
    (ps_if (PW.pt (pw_or (pt_not (pt_val (pe_callB call_isi (by rfl) T.isinstance (by decide +kernel) (pa_cons (pv 2) (pa_cons (pe_glob (v := .ref CF) rfl mF rfl) pa_nil))))) (pw_or1 (pt_cmpR op_ne (pe_fld (pv 2) rfl) (pv 0) (nomark _))))) (pss_one
    (ps_ret pe_non)) pss_nil) (pss_cons
    (ps_set (i := 3) sc_l_key_of.nd rfl (Or.inl rfl) (pe_c c_l_read hr (by decide) rfl (pa_cons (pv 0) (pa_cons (pe_callTy (call_strOwn c_Forest_str hr (by decide)) (by rfl) T.str (by decide +kernel) (pa_cons (pv 2) pa_nil)) pa_nil)))) (pss_cons
    (ps_if (pt_cmpR op_isN (pv 3) pe_non (nomark _)) (pss_one
    (ps_ret pe_non)) pss_nil) (pss_cons
    (ps_set (i := 4) sc_l_key_of.nd rfl (Or.inl rfl) (pe_c c_l_played hr (by decide) rfl (pa_cons (pv 0) (pa_cons (pv 3) pa_nil)))) (pss_cons
    (ps_for PassesOwn.never rfl (pi_list (pv 1)) (pg_name (i := 5) sc_l_key_of.nd rfl (Or.inl rfl)) (pss_one
    (ps_if (pt_not (pt_val (pe_c c_l_true hr (by decide) rfl (pa_cons (pv 4) (pa_cons (pv 5) pa_nil))))) (pss_one
    (ps_ret pe_non)) pss_nil))) (pss_one
    (ps_ret (pe_c c_l_key hr (by decide) rfl (pa_cons (pv 0) (pa_cons (pv 4) pa_nil)))))))))), ?_⟩
    have S := stand_of hc
    have cF := fits_form hc
    have RM : Rem n (chPost c) := ⟨chPost_nodup cF, fun x hx => by
      have := chPost_mem cF x hx
      omega⟩
    obtain ⟨dx, l, q, prs, ob, _⟩ := id FR
    refine ⟨_, rfl, _, _, _, _, true, rfl, .own CF, .base (.ins ob TF.cl IF.ha IF.hn IF.ht IF.hm), IF.one, true, rfl, iteF ?_⟩
    refine ⟨_, rfl, p, CF, dx, _, _, rfl, ob, TF.cl, TF.size, rfl, _, rfl, rfl, false, nF rfl, iteF ?_⟩
    refine ⟨_, rfl, _, rfl, p, dx, _, rfl, ob, p, n, _, rfl, FR, Bnd.of S, g.hn, fun H1 z s1 hz => ⟨z, rfl, n, z, _, c, rfl, hz, S, g.hn, fun H2 b s2 hb hb2 => ?_⟩⟩
    refine ⟨_, rfl, ?_⟩
    refine ⟨rfl, false, dF (fun e => by cases e), iteF ?_⟩
    have s12 := s1.trans s2
    refine ⟨_, rfl, _, rfl, b, n, _, rfl, hb2, g.hn, RM, fun H3 wd s3 hwd W3 => ?_⟩
    have s13 := s12.trans s3
    obtain ⟨ts, ha, hp⟩ := g.l.same s13
    refine ⟨_, rfl, a, rfl, ⟨_, SqL.of ha⟩, for_list (K := K) (a := a) (xs := ts.map V.ref) (fun i σ H' => ∃ v, σ = [some (.int n), some (.ref a), some (.ref p), some (.ref b), some (.ref wd), v] ∧ H' = H3) ⟨_, rfl, rfl⟩ (fun i σ H' _ ⟨_, _, e⟩ => by rw [e]; exact SqL.of ha) ?_ ?_⟩
    · rintro i x σ _ hi ⟨v, rfl, rfl⟩
      obtain ⟨t, hx, rfl⟩ := map_at hi
      obtain ⟨ft, hf, hq⟩ := Paired.at_ hp hx
      have hm := List.mem_of_getElem? hf
      refine ⟨_, rfl, _, rfl, wd, t, n, _, ft, rfl, W3, hq, g.ok ft hm, ?_⟩
      have ht : holds (play (chPost c)) ft = true := by
        rw [← satC_holds S (g.ok ft hm)]; exact fits_sat hc hm
      exact ⟨true, congrArg V.bl ht, iteF ⟨_, rfl, rfl⟩⟩
    · rintro σ _ ⟨v, rfl, rfl⟩
      exact ⟨_, rfl, _, rfl, wd, n, _, c, rfl, W3, S, g.hn, fun H4 kk s4 hk0 hk => k _ kk (s13.trans s4) (s13.free hk0) hk⟩
end
end LK
end

section
/-! LKLaw8 -/
set_option maxHeartbeats 4000000
namespace LK
open PySem PySem.Spec PyProof.Rows L2
theorem FL.lst_of {H : Hp} {a b : Addr} {fs : List Ft} {xs : List V} (h : FL H a fs) (hx : H a = some (.lst xs)) (hb : H b = none) : FL (L2.upd H b (.lst xs)) b fs := by
  obtain ⟨ts, h1, h2⟩ := h
  rw [hx] at h1; cases h1
  have s : Same H (L2.upd H b (.lst (ts.map V.ref))) := Same.new hb
  exact ⟨ts, upd_same, L2.Paired.mapP h2 fun t f q => s _ _ q⟩
section
variable {P : Program} {w : World} {K : PySem.W.Frag} {mg : Str → Option Value} {base : Heap} {CK CT CL CF CB CN : Addr}
def sp_found : Sp := fun vs H Q _ => ∃ (n : Nat) (a wd : Addr) (fs : List Ft) (W : Wd) (c : Ch), vs = [.int (n : Nat), .ref a, .ref wd, .int ((fits n fs).length : Nat)] ∧ Args H a n fs ∧ WorldAt H wd n W ∧ Stand W n c ∧ c ∈ fits n fs ∧ (fits n fs).length < 2 ^ 40 ∧ ∀ H', Same H H' → Q (.bl true) H'
theorem w_found (T : Tx mg) (D : Dn K mg "_law_found" s_l_found) (c_l_key : Cal P w K mg base 1 "_law_key" sp_key) (c_l_key_of : Cal P w K mg base 5 "_law_key_of" (sp_key_of CL CF)) (c_fit_at : CalX P w K mg base 9 "fit_at" (sp_fit_at CL CF CB)) : Cal P w K mg base 10 "_law_found" sp_found := by
  refine cal_of D sc_l_found bd_l_found (fun vs H Q E h => ?_) fun f cdv A outer s H vs Q E hr h => ?_
  · obtain ⟨n, a, wd, fs, W, c, rfl, _⟩ := h; rfl
  · obtain ⟨n, a, wd, fs, W, c, rfl, g, hW, S, hc, htot, k⟩ := h
    have hu : (A.deeper (envOfC "_law_found" (defScope s_l_found) s.heap.objs.size f cdv)).units + 64 < cLine := hr.units
    refine ⟨_, (pss_cons
    (ps_set (i := 4) sc_l_found.nd rfl (Or.inl rfl) (pe_c c_l_key hr (by decide) rfl (pa_cons (pv 0) (pa_cons (pv 2) pa_nil)))) (pss_cons
    (ps_set (i := 5) sc_l_found.nd rfl (Or.inl rfl) pe_int) (pss_cons
    (ps_set (i := 6) sc_l_found.nd rfl (Or.inl rfl) (pv 3)) (pss_cons
    (ps_for PassesOwn.never rfl (pi_range1 rfl T.range (pa_cons pe_int pa_nil)) (pg_name (i := 7) sc_l_found.nd rfl (Or.inl rfl)) (pss_cons
    (ps_if (pt_cmpR op_ge (pv 5) (pv 6) (nomark _)) (pss_one
    (ps_ret pe_bl)) pss_nil) (pss_cons
    (ps_set (i := 8) sc_l_found.nd rfl (Or.inl rfl) (pe_op op_fdiv (pe_op op_add (pv 5) (pv 6)) pe_int)) (pss_cons
    (ps_set (i := 9) sc_l_found.nd rfl (Or.inl rfl) (pe_c c_l_key_of hr (by decide) rfl (pa_cons (pv 0) (pa_cons (pv 1) (pa_cons (pe_cx c_fit_at hr (by decide) rfl (pa_cons (pv 0) (pa_cons (pe_callTy call_list_of (by rfl) T.list (by decide +kernel) (pa_cons (pv 1) pa_nil)) (pa_cons (pv 8) pa_nil)))) pa_nil))))) (pss_cons
    (ps_if (pt_cmpR op_isN (pv 9) pe_non (nomark _)) (pss_one
    (ps_ret pe_bl)) pss_nil) (pss_cons
    (ps_if (pt_cmpR (op_eqD hu) (pv 9) (pv 4) (nomark _)) (pss_one
    (ps_ret pe_bl)) pss_nil) (pss_one
    (ps_if (pt_cmpR (op_ltL hu) (pv 9) (pv 4) (nomark _)) (pss_one
    (ps_set (i := 5) sc_l_found.nd rfl (Or.inl rfl) (pe_op op_add (pv 8) pe_int))) (pss_one
    (ps_set (i := 6) sc_l_found.nd rfl (Or.inl rfl) (pv 8))))))))))) (pss_one
    (ps_ret pe_bl)))))), ?_⟩
    obtain ⟨j, hj⟩ := List.mem_iff_getElem?.mp hc
    have hjl := (List.getElem?_eq_some_iff.mp hj).1
    generalize hN : (fits n fs).length = N at *
    refine ⟨_, rfl, _, rfl, wd, n, W, c, rfl, hW, S, g.hn, fun H1 kd s1 hk0 hk1 => ?_⟩
    refine ⟨_, rfl, _, rfl, by decide, by decide, ?_⟩
    refine for_range (lo := 0) (n := 40) (fun i σ H' => ∃ (lo hi : Nat) (v7 v8 v9 : Option V), σ = [some (.int n), some (.ref a), some (.ref wd), some (.int (N : Nat)), some (.ref kd), some (.int (lo : Nat)), some (.int (hi : Nat)), v7, v8, v9] ∧ Same H1 H' ∧ lo ≤ j ∧ j < hi ∧ hi ≤ N ∧ (hi - lo) * 2 ^ i ≤ N)
      ⟨0, N, _, _, _, rfl, Same.refl _, Nat.zero_le _, hjl, Nat.le_refl _, by simp⟩ ?_ ?_
    · rintro i σ H2 hi ⟨lo, hi, v7, v8, v9, rfl, s2, l1, l2, l3, l4⟩
      refine ⟨_, rfl, _, rfl, _, _, rfl, rfl, false, dF (by omega), iteF ?_⟩
      refine ⟨_, rfl, _, rfl, _, _, rfl, rfl, _, _, rfl, rfl, ⟨by decide, by decide⟩, ?_⟩
      obtain ⟨m, hm⟩ : ∃ m : Nat, m = (lo + hi) / 2 := ⟨_, rfl⟩
      have em : ((lo : Int) + (hi : Int)) / 2 = (m : Int) := by omega
      dsimp only
      rw [em]
      have hml : m < N := by omega
      obtain ⟨c', hc'⟩ : ∃ c', (fits n fs)[m]? = some c' := ⟨_, List.getElem?_eq_getElem (by rw [hN]; exact hml)⟩
      have s12 := s1.trans s2
      obtain ⟨xs, hx, hxl⟩ := (g.l.same s12).len
      refine ⟨_, rfl, _, rfl, _, rfl, _, rfl, a, _, rfl, .inl (SqL.of hx), fun b hb => ?_⟩
      have s3 : Same H2 (L2.upd H2 b (.lst xs)) := Same.new hb
      have F3 := (g.l.same s12).lst_of hx hb
      refine ⟨_, rfl, n, b, fs, (m : Nat), rfl, ⟨F3, g.hn, g.s, g.ok⟩, .inl ⟨c', by omega, by simpa using hc', fun H4 p s4 hp FR => ?_⟩⟩
      have s14 := (s12.trans s3).trans s4
      refine ⟨n, a, p, fs, c', rfl, ⟨g.l.same s14, g.hn, g.s, g.ok⟩, List.mem_of_getElem? hc', FR, fun H5 kk s5 hk5 hk => ?_⟩
      refine ⟨_, rfl, rfl, false, dF (fun e => by cases e), iteF ?_⟩
      have hkd5 : H5 kd = some (.lst (intsV (chKey c 0))) := s5 _ _ (s4 _ _ (s3 _ _ (s2 _ _ hk1)))
      have s15 := s14.trans s5
      refine ⟨_, rfl, _, rfl, dI_ (chKey c' 0), dI_ (chKey c 0), Dp.ints (SqL.of hk), Dp.ints (SqL.of hkd5), shaped_ints _, shaped_ints _, ?_⟩
      rw [eqv_ints]
      by_cases e : chKey c' 0 = chKey c 0
      · exact ⟨true, dT e, iteT (k _ s15)⟩
      · refine ⟨false, dF e, iteF ?_⟩
        have hmj : m ≠ j := fun q => e (by rw [q, hj] at hc'; rw [Option.some.inj hc'])
        refine ⟨_, rfl, _, rfl, kk, kd, _, _, rfl, rfl, hk, hkd5, ?_⟩
        have hp2 : 2 ^ (i + 1) = 2 * 2 ^ i := by rw [Nat.pow_succ]; omega
        rcases Nat.lt_or_gt_of_ne hmj with q | q
        · have := fits_lt hc' hj q
          refine ⟨true, congrArg V.bl this, iteT ⟨_, rfl, _, _, rfl, rfl, ?_⟩⟩
          refine ⟨m + 1, hi, _, _, _, rfl, (s2.trans s3).trans (s4.trans s5), by omega, l2, l3, ?_⟩
          rw [hp2, ← Nat.mul_assoc]
          refine Nat.le_trans (Nat.mul_le_mul_right _ ?_) l4
          omega
        · have := lexLt_asymm (fits_lt hj hc' q)
          refine ⟨false, congrArg V.bl this, iteF ⟨_, rfl, ?_⟩⟩
          refine ⟨lo, m, _, _, _, rfl, (s2.trans s3).trans (s4.trans s5), l1, by omega, by omega, ?_⟩
          rw [hp2, ← Nat.mul_assoc]
          refine Nat.le_trans (Nat.mul_le_mul_right _ ?_) l4
          omega
    · rintro σ H2 ⟨lo, hi, v7, v8, v9, rfl, s2, l1, l2, l3, l4⟩
      have : 1 * 2 ^ 40 ≤ (hi - lo) * 2 ^ 40 := Nat.mul_le_mul_right _ (by omega)
      omega
theorem in_words {x : Str} {ws : List Str} (h : x ∈ ws) : inV (.str x) (ws.map V.str) = true := by
  unfold inV
  rw [List.any_eq_true]
  exact ⟨.str x, List.mem_map.mpr ⟨x, h, rfl⟩, by simp [eqV]⟩
theorem flat_words {ws : List Str} : (ws.map V.str).all flatV = true := by
  rw [List.all_eq_true]
  intro v hv
  obtain ⟨x, _, rfl⟩ := List.mem_map.mp hv
  rfl
def sp_is : Sp := fun vs H Q _ => ∃ (n : Nat) (a t wl : Addr) (fs : List Ft) (f : Ft) (ws : List Str), vs = [.int (n : Nat), .ref a, .ref t, .ref wl] ∧ Args H a n fs ∧ fs.length ≤ 999 ∧ FtAt H t f ∧ f.ok n ∧ (fits n fs).length ≠ 0 ∧ H wl = some (.lst (ws.map V.str)) ∧ wordOf (fits n fs).length (fits n (fs ++ [f])).length ∈ ws ∧ ∀ H', Same H H' → Q (.bl true) H'
theorem w_is (T : Tx mg) (D : Dn K mg "_law_is" s_l_is) (c_status : CalX P w K mg base 8 "status" (sp_status CN)) : Cal P w K mg base 9 "_law_is" sp_is := by
  refine cal_of D sc_l_is bd_l_is (fun vs H Q E h => ?_) fun f cdv A outer s H vs Q E hr h => ?_
  · obtain ⟨n, a, t, wl, fs, f, ws, rfl, _⟩ := h; rfl
  · obtain ⟨n, a, t, wl, fs, ft, ws, rfl, g, hl, ht, hft, h0, hwl, hin, k⟩ := h
    refine ⟨_, (pss_cons
    (ps_set (i := 4) sc_l_is.nd rfl (Or.inl rfl) (pe_cx c_status hr (by decide) rfl (pa_cons (pv 0) (pa_cons (pe_callTy call_list_of (by rfl) T.list (by decide +kernel) (pa_cons (pv 1) pa_nil)) (pa_cons (pv 2) pa_nil))))) (pss_one
    (ps_ret (pe_and (pe_callB call_isi (by rfl) T.isinstance (by decide +kernel) (pa_cons (pv 4) (pa_cons (pe_ty (T := "str") rfl T.str (by decide +kernel)) pa_nil))) (pe_one (pe_cmpR op_in_seq (pv 4) (pv 3) (by rfl))))))), ?_⟩
    obtain ⟨xs, hx, hxl⟩ := g.l.len
    refine ⟨_, rfl, _, rfl, a, _, rfl, .inl (SqL.of hx), fun b hb => ?_⟩
    have s3 : Same H (L2.upd H b (.lst xs)) := Same.new hb
    have F3 := g.l.lst_of hx hb
    refine ⟨_, rfl, n, b, t, fs, ft, rfl, ⟨F3, g.hn, g.s, g.ok⟩, hl, s3 _ _ ht, hft, .inl ⟨h0, fun H4 s4 => ?_⟩⟩
    refine ⟨_, rfl, _, _, _, _, true, rfl, .ty _, .base (.str _), kit_ty (by decide +kernel), true, rfl, iteT ?_⟩
    refine ⟨_, rfl, _, rfl, wl, _, rfl, .inl (SqL.of (s4 _ _ (s3 _ _ hwl))), rfl, flat_words, ?_⟩
    rw [in_words hin]
    exact k _ (s3.trans s4)
def sp_parts : Sp := fun vs H Q _ => ∃ (n : Nat) (a pl ml : Addr) (fs ps : List Ft) (ms : List Bool) (tot : Nat), vs = [.int (n : Nat), .ref a, .ref pl, .ref ml, .int (tot : Nat)] ∧ Args H a n fs ∧ fs.length ≤ 900 ∧ FL H pl ps ∧ (∀ f ∈ ps, f.ok n) ∧ ps.length ≤ 1000 ∧ H ml = some (.lst (ms.map V.bl)) ∧ ms.length = ps.length ∧
  (∀ (i : Nat) (p : Ft), ps[i]? = some p → ms[i]? = some true → (fits n (fs ++ [p])).length ≠ 0) ∧ (ps.map fun p => (fits n (fs ++ [p])).length).sum = tot ∧ ∀ H', Same H H' → Q (.bl true) H'
theorem w_parts (T : Tx mg) (D : Dn K mg "_law_parts" s_l_parts) (c_l_integer : Cal P w K mg base 1 "_law_integer" sp_integer) (c_count_fits : Cal P w K mg base 7 "count_fits" sp_count_fits) : Cal P w K mg base 8 "_law_parts" sp_parts := by
  refine cal_of D sc_l_parts bd_l_parts (fun vs H Q E h => ?_) fun f cdv A outer s H vs Q E hr h => ?_
  · obtain ⟨n, a, pl, ml, fs, ps, ms, tot, rfl, _⟩ := h; rfl
  · obtain ⟨n, a, pl, ml, fs, ps, ms, tot, rfl, g, hl, hp, hpo, hpl, hml, hmp, hmk, hsum, k⟩ := h
    refine ⟨_, (pss_cons
    (ps_set (i := 5) sc_l_parts.nd rfl (Or.inl rfl) pe_int) (pss_cons
    (ps_for PassesOwn.never rfl (pi_range1 rfl T.range (pa_cons (pe_callB call_len_seq (by rfl) T.len PySem.boot_len (pa_cons (pv 2) pa_nil)) pa_nil)) (pg_name (i := 6) sc_l_parts.nd rfl (Or.inl rfl)) (pss_cons
    (ps_set (i := 7) sc_l_parts.nd rfl (Or.inl rfl) (pe_c c_count_fits hr (by decide) rfl (pa_cons (pv 0) (pa_cons (pe_op op_cat (pv 1) (pe_lst (pa_cons (pe_ix ix_list (pv 2) (pv 6) (fun _ _ => rfl)) pa_nil))) pa_nil)))) (pss_cons
    (ps_if (PW.pt (pw_or (pt_not (pt_val (pe_c c_l_integer hr (by decide) rfl (pa_cons (pv 7) pa_nil)))) (pw_or (pt_cmpR op_lt (pv 7) pe_int (nomark _)) (pw_or1 (PW.pt (pw_and (pt_val (pe_ix ix_list (pv 3) (pv 6) (fun _ _ => rfl))) (pw_and1 (pt_cmpR op_lt (pv 7) pe_int (nomark _))))))))) (pss_one
    (ps_ret pe_bl)) pss_nil) (pss_one
    (ps_set (i := 5) sc_l_parts.nd rfl (Or.inl rfl) (pe_op op_add (pv 5) (pv 7))))))) (pss_one
    (ps_ret (pe_cmpR op_eq (pv 5) (pv 4) (nomark _)))))), ?_⟩
    obtain ⟨ts, hpt, pp⟩ := id hp
    have ltp := Paired.len pp
    refine ⟨_, rfl, pl, _, rfl, .inl (SqL.of hpt), _, rfl, by rw [List.length_map]; omega, by rw [List.length_map]; omega, ?_⟩
    rw [List.length_map, ltp]
    refine for_range (lo := 0) (n := ps.length) (fun i σ H' => ∃ v6 v7, σ = [some (.int n), some (.ref a), some (.ref pl), some (.ref ml), some (.int (tot : Nat)), some (.int (((ps.take i).map fun p => (fits n (fs ++ [p])).length).sum : Nat)), v6, v7] ∧ Same H H') ?_ ?_ ?_
    · exact ⟨_, _, rfl, Same.refl H⟩
    · rintro i σ H1 hi ⟨v6, v7, rfl, s1⟩
      have hi' : i < ts.length := by omega
      have ht : ts[i]? = some ts[i] := List.getElem?_eq_getElem hi'
      obtain ⟨p, hpi, hq⟩ := Paired.at_ pp ht
      obtain ⟨xs, hx, hxl⟩ := (g.l.same s1).len
      have ez : (0 : Int) + (i : Int) = (i : Int) := Int.zero_add _
      rw [ez]
      refine ⟨_, rfl, _, rfl, _, rfl, _, rfl, pl, _, _, .ref ts[i], rfl, rfl, SqL.of (s1 _ _ hpt), at_of (j := i) rfl (by simp [hi']), by show 1 ≤ sizeLine; decide, fun q hq0 => ?_⟩
      have hxq : L2.upd H1 q (.lst [.ref ts[i]]) a = some (.lst xs) := by rw [upd_ne (ne_of_none hx hq0)]; exact hx
      refine ⟨a, q, _, _, rfl, rfl, hxq, upd_same, sizeLine_ge (by rw [hxl]; show _ + 1 ≤ _; omega), fun r hr0 => ?_⟩
      have s2 : Same H1 (L2.upd H1 q (.lst [.ref ts[i]])) := Same.new hq0
      have F1 : FL (L2.upd H1 q (.lst [.ref ts[i]])) q [p] := ⟨[ts[i]], upd_same, .cons (s2 _ _ (s1 _ _ hq)) .nil⟩
      have F2 := (g.l.same (s1.trans s2)).cat hxq F1 upd_same hr0
      have s3 : Same H1 (L2.upd (L2.upd H1 q (.lst [.ref ts[i]])) r (.lst (xs ++ [.ref ts[i]]))) := Same.upd s2 hr0
      have pok := hpo p (List.mem_of_getElem? hpi)
      refine ⟨n, r, fs ++ [p], rfl, ⟨F2, g.hn, by simp; omega, fun f hf => ?_⟩, fun H4 s4 => ?_⟩
      · rcases List.mem_append.mp hf with hf | hf
        · exact g.ok f hf
        · rw [List.mem_singleton.mp hf]; exact pok
      have s14 := (s1.trans s3).trans s4
      generalize hcnt : (fits n (fs ++ [p])).length = cnt
      refine ⟨_, rfl, _, rfl, true, rfl, iteF ?_⟩
      refine ⟨_, rfl, _, _, rfl, rfl, false, dF (by omega), iteF ?_⟩
      have him : i < ms.length := by omega
      refine ⟨_, rfl, _, rfl, ml, _, _, .bl ms[i], rfl, rfl, SqL.of (s14 _ _ hml), at_of (j := i) rfl (by simp [him]), ?_⟩
      have et : ((ps.take i).map fun p => (fits n (fs ++ [p])).length).sum + cnt = ((ps.take (i + 1)).map fun p => (fits n (fs ++ [p])).length).sum := by
        rw [List.take_add_one, hpi, List.map_append, List.sum_append]
        simp [hcnt]
      have fin : ∀ (k : Nat), k = ((ps.take (i + 1)).map fun p => (fits n (fs ++ [p])).length).sum → ∃ v6 v7, ([some (.int n), some (.ref a), some (.ref pl), some (.ref ml), some (.int (tot : Nat)), some (.int (k : Nat)), some (.int (i : Int)), some (.int (cnt : Nat))] : L2.St) = [some (.int n), some (.ref a), some (.ref pl), some (.ref ml), some (.int (tot : Nat)), some (.int (((ps.take (i + 1)).map fun p => (fits n (fs ++ [p])).length).sum : Nat)), v6, v7] ∧ Same H H4 := by
        rintro _ rfl
        exact ⟨_, _, rfl, s14⟩
      cases hb : ms[i] with
      | true =>
        have h0 := hmk i p hpi (by rw [List.getElem?_eq_getElem him, hb])
        rw [hcnt] at h0
        refine ⟨true, rfl, iteT ?_⟩
        refine ⟨_, rfl, _, _, rfl, rfl, false, dF (by omega), iteF ?_⟩
        exact ⟨_, rfl, _, rfl, _, _, rfl, rfl, fin _ et⟩
      | false =>
        refine ⟨false, rfl, iteF ?_⟩
        exact ⟨_, rfl, _, rfl, _, _, rfl, rfl, fin _ et⟩
    · rintro σ H1 ⟨v6, v7, rfl, s1⟩
      rw [List.take_length, hsum]
      exact ⟨_, rfl, _, rfl, rfl, retB (Q := Q) rfl (k _ s1)⟩
end
end LK
end

section
/-! LKLaw9 -/
set_option maxHeartbeats 4000000
namespace LK
open PySem PySem.Spec PyProof.Rows L2
theorem Args.up {H H' : Hp} {a : Addr} {n : Nat} {fs : List Ft} (s : Same H H') (g : Args H a n fs) : Args H' a n fs := ⟨g.l.same s, g.hn, g.s, g.ok⟩
/-- rows of parts, in a list -/
def RowsAt (H : Hp) (R : Addr) (rows : List (List Ft)) : Prop := ∃ ts, H R = some (.lst (ts.map V.ref)) ∧ Paired (fun t ps => FL (era R H) t ps) ts rows
theorem RowsAt.same {H H' : Hp} {R : Addr} {rows : List (List Ft)} (s : Same H H') (h : RowsAt H R rows) : RowsAt H' R rows := by
  obtain ⟨ts, h1, h2⟩ := h
  exact ⟨ts, s _ _ h1, L2.Paired.mapP h2 fun t ps q => q.same (era_same s)⟩
theorem RowsAt.push {H : Hp} {R t : Addr} {rows : List (List Ft)} {ps : List Ft} {xs : List V} (h : RowsAt H R rows) (hx : H R = some (.lst xs)) (n : t ≠ R) (ht : FL H t ps) : RowsAt (L2.upd H R (.lst (xs ++ [.ref t]))) R (rows ++ [ps]) := by
  obtain ⟨ts, h1, h2⟩ := h
  have ht' := ht.era n hx
  rw [hx] at h1; cases h1
  refine ⟨ts ++ [t], by rw [upd_same]; simp, ?_⟩
  rw [era_upd]
  exact Paired.app h2 (.cons ht' .nil)
structure RowOk (n : Nat) (fs ps : List Ft) : Prop where
  ok : ∀ f ∈ ps, f.ok n
  s : ps.length ≤ 1000
  one : ∀ c ∈ fits n fs, ps.countP (fun p => satC p c) = 1
theorem due_step {i : Nat} : (due i : Int) * (4 * (1 + (i : Int)) - 2) / ((1 + (i : Int)) + 1) = ((due (i + 1) : Nat) : Int) := by
  have e : due (i + 1) = due i * (4 * (i + 1) - 2) / (i + 2) := rfl
  rw [e, Int.natCast_ediv, Int.natCast_mul]
  rw [show (4 : Int) * (1 + (i : Int)) - 2 = ((4 * (i + 1) - 2 : Nat) : Int) by omega, show (1 + (i : Int)) + 1 = ((i + 2 : Nat) : Int) by omega]
section
variable {P : Program} {w : World} {K : PySem.W.Frag} {mg : Str → Option Value} {base : Heap} {CK CT CL CF CB CN : Addr}
def sp_totals : Sp := fun vs H Q _ => ∃ (p c ws a : Addr) (n : Nat) (fs : List Ft) (W0 W1 : Wd) (c0 c1 : Ch), vs = [.ref p, .int (n : Nat), .ref ws, .ref a, .int ((fits n fs).length : Nat)] ∧ PurseAt H p c ∧ Worlds (era p H) ws n W0 W1 ∧ Args (era p H) a n fs ∧ fs.length ≤ 900 ∧
  c0 ∈ fits n fs ∧ c1 ∈ fits n fs ∧ Stand W0 n c0 ∧ Stand W1 n c1 ∧ ∀ H', PurseAt H' p c → Same (era p H) (era p H') → Q (.bl true) H'
theorem w_totals (T : Tx mg) (D : Dn K mg "_law_totals" s_l_totals) (c_l_draw : Cal P w K mg base 1 "_law_draw" sp_draw) (c_l_true : Cal P w K mg base 1 "_law_true" sp_true) (c_l_parts : Cal P w K mg base 8 "_law_parts" sp_parts) : Cal P w K mg base 9 "_law_totals" sp_totals := by
  refine cal_of D sc_l_totals bd_l_totals (fun vs H Q E h => ?_) fun f cdv A outer s H vs Q E hr h => ?_
  · obtain ⟨p, c, ws, a, n, fs, W0, W1, c0, c1, rfl, _⟩ := h; rfl
  · obtain ⟨p, c, ws, a, n, fs, W0, W1, c0, c1, rfl, hp, hw, g, hl, m0, m1, S0, S1, k⟩ := h
    refine ⟨_, (pss_cons
    (ps_if (pt_cmpR op_eq (pe_callB call_len_seq (by rfl) T.len PySem.boot_len (pa_cons (pv 3) pa_nil)) pe_int (nomark _)) (pss_cons
    (ps_set (i := 5) sc_l_totals.nd rfl (Or.inl rfl) pe_int) (pss_cons
    (ps_for PassesOwn.never rfl (pi_range2 rfl T.range (pa_cons pe_int (pa_cons (pe_op op_add (pv 1) pe_int) pa_nil))) (pg_name (i := 6) sc_l_totals.nd rfl (Or.inl rfl)) (pss_one
    (ps_set (i := 5) sc_l_totals.nd rfl (Or.inl rfl) (pe_op op_fdiv (pe_op op_mul (pv 5) (pe_op op_sub (pe_op op_mul pe_int (pv 6)) pe_int)) (pe_op op_add (pv 6) pe_int))))) (pss_one
    (ps_if (pt_cmpR op_ne (pv 4) (pv 5) (nomark _)) (pss_one
    (ps_ret pe_bl)) pss_nil)))) pss_nil) (pss_cons
    (ps_set (i := 7) sc_l_totals.nd rfl (Or.inl rfl) (pe_lst pa_nil)) (pss_cons
    (ps_if (pt_cmpR op_gt (pv 1) pe_int (nomark _)) (pss_cons
    (ps_set (i := 8) sc_l_totals.nd rfl (Or.inr rfl) (pe_op op_add pe_int (pe_c c_l_draw hr (by decide) rfl (pa_cons (pv 0) (pa_cons (pv 1) pa_nil))))) (pss_one
    (ps_expr (pe_bm PySem.F.plainAttrs_list PySem.F.slot_list_append PySem.F.type_list_append mt_append (pv 7) (pa_cons (pe_lst (pa_cons (pe_tup (pa_cons pe_str (pa_cons (pv 8) pa_nil))) (pa_cons (pe_tup (pa_cons pe_str (pa_cons (pv 8) pa_nil))) pa_nil))) pa_nil))))) pss_nil) (pss_cons
    (ps_if (pt_cmpR op_lt (pv 1) pe_int (nomark _)) (pss_cons
    (ps_set (i := 8) sc_l_totals.nd rfl (Or.inr rfl) (pe_op op_add pe_int (pe_c c_l_draw hr (by decide) rfl (pa_cons (pv 0) (pa_cons (pe_op op_add (pv 1) pe_int) pa_nil))))) (pss_cons
    (ps_expr (pe_bm PySem.F.plainAttrs_list PySem.F.slot_list_append PySem.F.type_list_append mt_append (pv 7) (pa_cons (pe_lc (own := [("_law_link", 12)]) (g := gName 12) (tt := tYes) (te := tTup (tCons (tC (.str "left")) (tCons (tVar 8) (tCons (tVar 12) tNil)))) (by rfl) sc_l_totals.nd (pi_range1 rfl T.range (pa_cons (pv 8) pa_nil)) (blkOk_by (own := [("_law_link", 12)]) (N := N_l_totals) (sc := defScope s_l_totals) (by decide +kernel)) (fun _ _ _ _ _ => pg_name (i := 12) sc_l_totals.nd rfl (Or.inl rfl)) (fun _ _ _ _ _ => pts_nil) (fun _ _ _ _ _ => (pe_tup (pa_cons pe_str (pa_cons (pv 8) (pa_cons (pv 12) pa_nil)))))) pa_nil))) (pss_cons
    (ps_set (i := 8) sc_l_totals.nd rfl (Or.inr rfl) (pe_c c_l_draw hr (by decide) rfl (pa_cons (pv 0) (pa_cons (pe_op op_add (pv 1) pe_int) pa_nil)))) (pss_one
    (ps_expr (pe_bm PySem.F.plainAttrs_list PySem.F.slot_list_append PySem.F.type_list_append mt_append (pv 7) (pa_cons (pe_lc (own := [("_law_link", 12)]) (g := gName 12) (tt := tYes) (te := tTup (tCons (tC (.str "right")) (tCons (tVar 8) (tCons (tVar 12) tNil)))) (by rfl) sc_l_totals.nd (pi_range2 rfl T.range (pa_cons (pe_op op_add (pv 8) pe_int) (pa_cons (pe_op op_add (pv 1) pe_int) pa_nil))) (blkOk_by (own := [("_law_link", 12)]) (N := N_l_totals) (sc := defScope s_l_totals) (by decide +kernel)) (fun _ _ _ _ _ => pg_name (i := 12) sc_l_totals.nd rfl (Or.inl rfl)) (fun _ _ _ _ _ => pts_nil) (fun _ _ _ _ _ => (pe_tup (pa_cons pe_str (pa_cons (pv 8) (pa_cons (pv 12) pa_nil)))))) pa_nil))))))) pss_nil) (pss_cons
    (ps_for PassesOwn.never rfl (pi_list (pv 7)) (pg_name (i := 9) sc_l_totals.nd rfl (Or.inl rfl)) (pss_cons
    (ps_setLc (i := 10) (own := [("_law_part", 11)]) (g := gName 11) (tt := tYes) (te := tOrV (tCall sp_true [] E0 (tCons (tOp (rIxL K) (tVar 2) (tC (.int 0))) (tCons (tVar 11) tNil))) (tCall sp_true [] E0 (tCons (tOp (rIxL K) (tVar 2) (tC (.int 1))) (tCons (tVar 11) tNil)))) (by rfl) sc_l_totals.nd rfl rfl (sw_true rfl rfl rfl (by decide +kernel)) (pi_list (pv 9)) (blkOk_by (own := [("_law_part", 11)]) (N := N_l_totals) (sc := defScope s_l_totals) (by decide +kernel)) (fun _ _ _ _ _ => pg_name (i := 11) sc_l_totals.nd rfl (Or.inl rfl)) (fun _ _ _ _ _ => pts_nil) (fun _ _ _ _ _ => (pe_or (pe_c c_l_true hr (by decide) rfl (pa_cons (pe_ix ix_list (pv 2) pe_int (fun _ _ => rfl)) (pa_cons (pv 11) pa_nil))) (pe_one (pe_c c_l_true hr (by decide) rfl (pa_cons (pe_ix ix_list (pv 2) pe_int (fun _ _ => rfl)) (pa_cons (pv 11) pa_nil))))))) (pss_one
    (ps_if (pt_not (pt_val (pe_c c_l_parts hr (by decide) rfl (pa_cons (pv 1) (pa_cons (pv 3) (pa_cons (pv 9) (pa_cons (pv 10) (pa_cons (pv 4) pa_nil)))))))) (pss_one
    (ps_ret pe_bl)) pss_nil)))) (pss_one
    (ps_ret pe_bl))))))), ?_⟩
    have hn := g.hn
    generalize hN : (fits n fs).length = N at *
    have eH : Same (era p H) H := era_le
    dsimp only [gName]
    refine thenBy (t := tIfS _ _ _) (fun σ H' => H = H' ∧ ∃ v5 v6, σ = [some (.ref p), some (.int n), some (.ref ws), some (.ref a), some (.int (N : Nat)), v5, v6, none, none, none, none, none, none]) ?_ fun fin => ?_
    · rintro σ _ ⟨rfl, v5, v6, rfl⟩
      refine ⟨by show 0 ≤ sizeLine; decide, fun R hR => ?_⟩
      have oR := hp.off hR
      obtain ⟨H1, e1, hp1, s1, R1⟩ : ∃ H1, L2.upd H R (.lst []) = H1 ∧ PurseAt H1 p c ∧ Same (era p H) (era p H1) ∧ RowsAt (era p H1) R [] :=
        ⟨_, rfl, hp.write oR, era_same (Same.new hR), [], by rw [era_ne oR.1]; exact upd_same, .nil⟩
      refine rwH e1 ?_
      have hR0 : era p H R = none := era_none hR
      have step : ∀ H' (t : Addr) (rows : List (List Ft)) (ps : List Ft), PurseAt H' p c → Same (era p H) (era p H') → RowsAt (era p H') R rows → t ≠ R → t ≠ p → FL H' t ps → (∃ xs, H' R = some (.lst xs) ∧ xs.length = rows.length ∧ PurseAt (L2.upd H' R (.lst (xs ++ [.ref t]))) p c ∧ Same (era p H) (era p (L2.upd H' R (.lst (xs ++ [.ref t])))) ∧ RowsAt (era p (L2.upd H' R (.lst (xs ++ [.ref t])))) R (rows ++ [ps])) := by
        intro H' t rows ps hp' s' R' ntR ntp F'
        obtain ⟨⟨_, hpx⟩, _⟩ := hp'.some
        have F2 := F'.era ntp hpx
        obtain ⟨us, hu1, hu2⟩ := id R'
        have hx' : H' R = some (.lst (us.map V.ref)) := by rw [era_ne oR.1] at hu1; exact hu1
        refine ⟨_, hx', by rw [List.length_map, Paired.len hu2], hp'.write oR, ?_, ?_⟩
        · rw [era_upd_ne oR.1]; exact Same.write s' hR0
        · rw [era_upd_ne oR.1]; exact R'.push hu1 ntR F2
      dsimp only [gName]
      refine thenBy (t := tIfS _ _ _) (fun σ H' => ∃ v8 rows, σ = [some (.ref p), some (.int n), some (.ref ws), some (.ref a), some (.int (N : Nat)), v5, v6, some (.ref R), v8, none, none, none, none] ∧ PurseAt H' p c ∧ Same (era p H) (era p H') ∧ RowsAt (era p H') R rows ∧ rows.length ≤ 1 ∧ ∀ ps ∈ rows, RowOk n fs ps) ?_ fun fin => ?_
      · rintro σ H2 ⟨v8, rows, rfl, hp2, s2, R2, lr, ro⟩
        refine thenBy (t := tIfS _ _ _) (fun σ H' => ∃ v8 rows, σ = [some (.ref p), some (.int n), some (.ref ws), some (.ref a), some (.int (N : Nat)), v5, v6, some (.ref R), v8, none, none, none, none] ∧ PurseAt H' p c ∧ Same (era p H) (era p H') ∧ RowsAt (era p H') R rows ∧ ∀ ps ∈ rows, RowOk n fs ps) ?_ fun fin => ?_
        · rintro σ H3 ⟨v8, rows, rfl, hp3, s3, R3, ro⟩
          obtain ⟨us, hu1, hu2⟩ := id R3
          have hu : H3 R = some (.lst (us.map V.ref)) := by rw [era_ne oR.1] at hu1; exact hu1
          refine ⟨_, rfl, R, rfl, ⟨_, SqL.of hu⟩, for_list (K := K) (a := R) (xs := us.map V.ref) (fun i σ H' => Same H3 H' ∧ ∃ v9 v10 v11, σ = [some (.ref p), some (.int n), some (.ref ws), some (.ref a), some (.int (N : Nat)), v5, v6, some (.ref R), v8, v9, v10, v11, none]) ⟨Same.refl _, _, _, _, rfl⟩ (fun i σ H' _ h => SqL.of (h.1 _ _ hu)) ?_ ?_⟩
          · rintro i x σ H4 hi ⟨s4, v9, v10, v11, rfl⟩
            obtain ⟨t, ht, rfl⟩ := map_at hi
            obtain ⟨ps, hps, F⟩ := Paired.at_ hu2 ht
            have RO := ro ps (List.mem_of_getElem? hps)
            have s04 : Same (era p H) H4 := (s3.trans era_le).trans s4
            have F4 : FL H4 t ps := ((F.same era_le).same era_le).same s4
            obtain ⟨ts, ht4, pp⟩ := id F4
            obtain ⟨w0, w1, hws, hw0, hw1⟩ := hw
            dsimp only [gName]
            refine ⟨_, rfl, t, rfl, ⟨_, SqL.of ht4⟩, fun D hD => ?_⟩
            refine lc_list (K := K) (a := t) (xs := ts.map V.ref) (Pv := fun i H' => Same H4 H' ∧ H' D = some (.lst (((ps.take i).map fun f => holds W0 f || holds W1 f).map V.bl))) ⟨Same.new hD, upd_same⟩ (fun i H' _ h => SqL.of (h.1 _ _ ht4)) (fun i x H' hi ⟨s5, h5⟩ => ?_) fun H5 ⟨s5, h5⟩ => ?_
            · obtain ⟨t1, ht1, rfl⟩ := map_at hi
              obtain ⟨g1, hg1, hq1⟩ := Paired.at_ pp ht1
              have s05 := s04.trans s5
              have okg := RO.ok g1 (List.mem_of_getElem? hg1)
              have etk : ps.take (i + 1) = ps.take i ++ [g1] := by rw [List.take_add_one, hg1]; rfl
              have ll : ((ps.take i).map fun f => holds W0 f || holds W1 f).length ≤ 1000 := by rw [List.length_map, List.length_take]; have := RO.s; omega
              have fin : ∀ b, b = (holds W0 g1 || holds W1 g1) → Same H4 (L2.upd H' D (.lst ((((ps.take i).map fun f => holds W0 f || holds W1 f).map V.bl) ++ [.bl b]))) ∧ (L2.upd H' D (.lst ((((ps.take i).map fun f => holds W0 f || holds W1 f).map V.bl) ++ [.bl b]))) D = some (.lst (((ps.take (i + 1)).map fun f => holds W0 f || holds W1 f).map V.bl)) := by
                rintro _ rfl
                refine ⟨Same.write s5 hD, ?_⟩
                rw [upd_same, etk]; simp
              refine ⟨rfl, yesT ⟨_, rfl, ws, _, _, _, rfl, rfl, SqL.of (s05 _ _ hws), rfl, _, rfl, w0, t1, n, W0, g1, rfl, hw0.same s05, s5 _ _ hq1, okg, ?_⟩⟩
              cases e0 : holds W0 g1 with
              | true => exact ⟨true, rfl, iteT ⟨_, h5, sizeLine_gt (by rw [List.length_map]; omega), fin _ (by rw [e0]; rfl)⟩⟩
              | false => exact ⟨false, rfl, iteF ⟨_, rfl, ws, _, _, _, rfl, rfl, SqL.of (s05 _ _ hws), rfl, _, rfl, w1, t1, n, W1, g1, rfl, hw1.same s05, s5 _ _ hq1, okg, _, h5, sizeLine_gt (by rw [List.length_map]; omega), fin _ (by rw [e0]; rfl)⟩⟩
            · rw [List.length_map, Paired.len pp, List.take_length] at h5
              have s05 := s04.trans s5
              refine ⟨_, rfl, _, rfl, _, rfl, _, rfl, _, rfl, n, a, t, D, fs, ps, _, N, rfl, g.up s05, hl, F4.same s5, RO.ok, RO.s, h5, by rw [List.length_map], fun j q hq hm h0 => ?_, ?_, fun H6 s6 => ?_⟩
              · have hokq := RO.ok q (List.mem_of_getElem? hq)
                rw [List.getElem?_map, hq] at hm
                have hm : (holds W0 q || holds W1 q) = true := Option.some.inj hm
                have nv := count_never.mp h0
                have n0 := nv c0 m0
                have n1 := nv c1 m1
                rw [satC_holds S0 hokq] at n0
                rw [satC_holds S1 hokq] at n1
                rw [n0, n1] at hm
                cases hm
              · rw [count_parts RO.one, hN]
              · exact ⟨true, rfl, iteF ⟨(s4.trans s5).trans s6, _, _, _, rfl⟩⟩
          · rintro σ H4 ⟨s4, v9, v10, v11, rfl⟩
            exact k _ (hp3.same s4) (s3.trans (era_same s4))
        · refine ⟨_, rfl, _, _, rfl, rfl, ?_⟩
          by_cases h9 : n < 9
          · refine ⟨true, dT (by omega), iteT ?_⟩
            refine ⟨_, rfl, _, rfl, _, _, rfl, rfl, p, c, n + 1, rfl, hp2, by omega, by omega, fun H3 v hv hp3 er3 => ?_⟩
            refine ⟨_, _, rfl, rfl, ?_⟩
            obtain ⟨y, ey⟩ : ∃ y : Nat, y = v + 1 := ⟨_, rfl⟩
            dsimp only
            rw [show (1 : Int) + (v : Int) = (y : Int) by omega]
            obtain ⟨us, hu1, hu2⟩ := id R2
            have hu3 : H3 R = some (.lst (us.map V.ref)) := by rw [era_get er3 oR.1]; rw [era_ne oR.1] at hu1; exact hu1
            refine ⟨_, rfl, .inl ⟨rfl, _, SqL.of hu3⟩, _, rfl, _, rfl, by omega, by omega, fun D hD => ?_⟩
            rw [show ((y : Nat) : Int).toNat = y from Int.toNat_natCast y]
            refine lc_range (lo := 0) (n := y) (Pv := fun i H' => Same H3 H' ∧ FL H' D ((List.range' 0 i).map fun l => Ft.lf y l)) ⟨Same.new hD, .nil upd_same⟩ (fun i H' hi ⟨s4, F4⟩ => ?_) fun H4 ⟨s4, F4⟩ => ?_
            · obtain ⟨ys, hy, hly⟩ := F4.len
              refine ⟨rfl, yesT ⟨_, rfl, _, rfl, by show 3 ≤ sizeLine; decide, fun t ht => ?_⟩⟩
              have nDt : D ≠ t := ne_of_none hy ht
              refine ⟨ys, by rw [upd_ne nDt]; exact hy, sizeLine_gt (by rw [hly]; simp; omega), Same.write (Same.upd s4 ht) hD, ?_⟩
              rw [range'_snoc, List.map_append]
              refine (F4.same (Same.new ht)).push (by rw [upd_ne nDt]; exact hy) ?_
              exact upd_same
            · have nDR : D ≠ R := fun e => by rw [e, hu3] at hD; cases hD
              have oD := hp3.off hD
              have sE4 : Same (era p H2) (era p H4) := by
                have := era_same (p := p) s4
                rw [er3] at this; exact this
              obtain ⟨ys, hy, hly, hp5, s5, R5⟩ := step H4 D rows _ (hp3.same s4) (s2.trans sE4) (R2.same sE4) nDR oD.1 F4
              refine ⟨R, _, _, rfl, rfl, hy, sizeLine_gt (by omega), ?_⟩
              have RO1 : RowOk n fs ((List.range' 0 y).map fun l => Ft.lf y l) := by
                refine ⟨fun f hf => ?_, by simp; omega, parts_left (by omega) (by omega)⟩
                obtain ⟨x, hx, rfl⟩ := List.mem_map.mp hf
                rw [mem_range'_1] at hx
                exact ⟨by omega, by omega, by omega⟩
              have ro5 : ∀ ps ∈ rows ++ [(List.range' 0 y).map fun l => Ft.lf y l], RowOk n fs ps := fun ps hps => by
                rcases List.mem_append.mp hps with q | q
                · exact ro ps q
                · rw [List.mem_singleton.mp q]; exact RO1
              have lr5 : (rows ++ [(List.range' 0 y).map fun l => Ft.lf y l]).length ≤ 2 := by simp; omega
              generalize rows ++ [(List.range' 0 y).map fun l => Ft.lf y l] = rows5 at R5 ro5 lr5
              obtain ⟨H5, e5⟩ : ∃ H5, L2.upd H4 R (.lst (ys ++ [.ref D])) = H5 := ⟨_, rfl⟩
              rw [e5] at hp5 s5 R5
              refine rwH e5 ?_
              refine ⟨_, rfl, _, rfl, _, _, rfl, rfl, p, c, n + 1, rfl, hp5, by omega, by omega, fun H6 v6 hv6 hp6 er6 => ?_⟩
              obtain ⟨us5, hu51, hu52⟩ := id R5
              have hu6 : H6 R = some (.lst (us5.map V.ref)) := by rw [era_get er6 oR.1]; rw [era_ne oR.1] at hu51; exact hu51
              refine ⟨_, rfl, .inl ⟨rfl, _, SqL.of hu6⟩, _, rfl, _, _, rfl, rfl, _, rfl, _, _, rfl, rfl, _, _, rfl, ⟨by omega, by omega, by omega, by omega⟩, fun D6 hD6 => ?_⟩
              dsimp only
              rw [show ((n : Int) + 2 - ((v6 : Int) + 1)).toNat = n + 1 - v6 by omega]
              refine lc_range (lo := (v6 : Int) + 1) (n := n + 1 - v6) (Pv := fun i H' => Same H6 H' ∧ FL H' D6 ((List.range' (v6 + 1) i).map fun l => Ft.rt v6 l)) ⟨Same.new hD6, .nil upd_same⟩ (fun i H' hi ⟨s7, F7⟩ => ?_) fun H7 ⟨s7, F7⟩ => ?_
              · obtain ⟨zs, hz, hlz⟩ := F7.len
                refine ⟨rfl, yesT ⟨_, rfl, _, rfl, by show 3 ≤ sizeLine; decide, fun t ht => ?_⟩⟩
                have nDt : D6 ≠ t := ne_of_none hz ht
                refine ⟨zs, by rw [upd_ne nDt]; exact hz, sizeLine_gt (by rw [hlz]; simp; omega), Same.write (Same.upd s7 ht) hD6, ?_⟩
                rw [range'_snoc, List.map_append]
                refine (F7.same (Same.new ht)).push (by rw [upd_ne nDt]; exact hz) ?_
                show L2.upd _ t _ t = _
                rw [upd_same, show (v6 : Int) + 1 + (i : Int) = ((v6 + 1 + i : Nat) : Int) by omega]
                rfl
              · have nDR6 : D6 ≠ R := fun e => by rw [e, hu6] at hD6; cases hD6
                have oD6 := hp6.off hD6
                have sE7 : Same (era p H5) (era p H7) := by
                  have := era_same (p := p) s7
                  rw [er6] at this; exact this
                obtain ⟨ws', hy7, hly7, hp8, s8, R8⟩ := step H7 D6 rows5 _ (hp6.same s7) (s5.trans sE7) (R5.same sE7) nDR6 oD6.1 F7
                refine ⟨R, _, _, rfl, rfl, hy7, sizeLine_gt (by omega), ?_⟩
                refine fin _ _ ⟨_, _, rfl, hp8, s8, R8, fun ps hps => ?_⟩
                rcases List.mem_append.mp hps with q | q
                · exact ro5 ps q
                · rw [List.mem_singleton.mp q]
                  refine ⟨fun f hf => ?_, by simp; omega, parts_right (by omega)⟩
                  obtain ⟨x, hx, rfl⟩ := List.mem_map.mp hf
                  rw [mem_range'_1] at hx
                  exact ⟨by omega, by omega, by omega⟩
          · exact ⟨false, dF (by omega), iteF (fin _ _ ⟨_, _, rfl, hp2, s2, R2, ro⟩)⟩
      · refine ⟨_, rfl, _, _, rfl, rfl, ?_⟩
        by_cases h0 : 0 < n
        · refine ⟨true, dT (by omega), iteT ?_⟩
          refine ⟨_, rfl, _, rfl, p, c, n, rfl, hp1, h0, by omega, fun H2 v hv hp2 er2 => ?_⟩
          refine ⟨_, _, rfl, rfl, ?_⟩
          obtain ⟨y, ey⟩ : ∃ y : Nat, y = v + 1 := ⟨_, rfl⟩
          dsimp only
          rw [show (1 : Int) + (v : Int) = (y : Int) by omega]
          have hRx : H2 R = some (.lst []) := by rw [era_get er2 oR.1, ← e1]; exact upd_same
          refine ⟨_, rfl, .inl ⟨rfl, _, SqL.of hRx⟩, _, rfl, by show 2 ≤ sizeLine; decide, fun t1 ht1 => ?_⟩
          refine ⟨_, rfl, by show 2 ≤ sizeLine; decide, fun t2 ht2 => ?_⟩
          refine ⟨by show 2 ≤ sizeLine; decide, fun l hl => ?_⟩
          have q1 : Same H2 (L2.upd H2 t1 (.tup [.str "in", .int (y : Int)])) := Same.new ht1
          have q2 : Same (L2.upd H2 t1 (.tup [.str "in", .int (y : Int)])) (L2.upd (L2.upd H2 t1 (.tup [.str "in", .int (y : Int)])) t2 (.tup [.str "out", .int (y : Int)])) := Same.new ht2
          obtain ⟨H3, e3, q3, hl3, F3⟩ : ∃ H3, L2.upd (L2.upd (L2.upd H2 t1 (.tup [.str "in", .int (y : Int)])) t2 (.tup [.str "out", .int (y : Int)])) l (.lst [.ref t1, .ref t2]) = H3 ∧ Same H2 H3 ∧ H2 l = none ∧ FL H3 l [.inn y, .out y] := by
            have q3 : Same (L2.upd (L2.upd H2 t1 (.tup [.str "in", .int (y : Int)])) t2 (.tup [.str "out", .int (y : Int)])) (L2.upd (L2.upd (L2.upd H2 t1 (.tup [.str "in", .int (y : Int)])) t2 (.tup [.str "out", .int (y : Int)])) l (.lst [.ref t1, .ref t2])) := Same.new hl
            refine ⟨_, rfl, (q1.trans q2).trans q3, (q1.trans q2).free hl, [t1, t2], upd_same, .cons (q3 _ _ (q2 _ _ ?_)) (.cons (q3 _ _ ?_) .nil)⟩
            · exact upd_same
            · exact upd_same
          refine rwH e3 ?_
          have ol := hp2.off hl3
          have sE2 : Same (era p H) (era p H3) := by
            have := era_same (p := p) q3
            rw [er2] at this; exact s1.trans this
          have R3 : RowsAt (era p H3) R [] := by
            have := era_same (p := p) q3
            rw [er2] at this; exact R1.same this
          have nlR : l ≠ R := fun e => by rw [e, hRx] at hl3; cases hl3
          obtain ⟨ys, hy, hly, hp4, s4, R4⟩ := step H3 l [] _ (hp2.same q3) sE2 R3 nlR ol.1 F3
          refine ⟨R, _, _, rfl, rfl, hy, sizeLine_gt (by rw [hly]; exact Nat.zero_le _), ?_⟩
          refine fin _ _ ⟨_, _, rfl, hp4, s4, R4, by show 1 ≤ 1; decide, fun ps hps => ?_⟩
          rw [show ps = [Ft.inn y, Ft.out y] from List.mem_singleton.mp hps]
          have oky : (Ft.inn y).ok n := ⟨by omega, by omega⟩
          refine ⟨fun f hf => ?_, by show 2 ≤ 1000; decide, parts_inout oky⟩
          rcases List.mem_cons.mp hf with rfl | hf
          · exact oky
          · rw [List.mem_singleton.mp hf]; exact oky
        · exact ⟨false, dF (by omega), iteF (fin _ _ ⟨_, [], rfl, hp1, s1, R1, Nat.zero_le _, fun ps hps => by cases hps⟩)⟩
    · obtain ⟨xs, hx, hxl⟩ := g.l.len
      refine ⟨_, rfl, a, _, rfl, .inl (SqL.of (eH _ _ hx)), rfl, ?_⟩
      cases fs with
      | cons f0 fr => exact ⟨false, dF (by rw [hxl, List.length_cons]; intro e; injection e with e; omega), iteF (fin _ _ ⟨rfl, _, _, rfl⟩)⟩
      | nil =>
        refine ⟨true, dT (by rw [hxl]; rfl), iteT ?_⟩
        refine ⟨_, rfl, _, _, rfl, rfl, _, _, rfl, ⟨by omega, by omega, by omega, by omega⟩, ?_⟩
        rw [show ((n : Int) + 2 - 1).toNat = n + 1 by omega]
        refine for_range (lo := 1) (n := n + 1) (fun i σ H' => H = H' ∧ ∃ v6, σ = [some (.ref p), some (.int n), some (.ref ws), some (.ref a), some (.int (N : Nat)), some (.int (due i : Nat)), v6, none, none, none, none, none, none]) ⟨rfl, _, rfl⟩ ?_ ?_
        · rintro i σ _ hi ⟨rfl, v6, rfl⟩
          refine ⟨_, rfl, _, rfl, _, _, rfl, rfl, .inl ⟨by omega, by omega⟩, _, _, rfl, rfl, _, _, rfl, rfl, .inr ⟨by omega, by omega⟩, _, rfl, _, _, rfl, rfl, _, _, rfl, rfl, ⟨by omega, by omega⟩, ?_⟩
          dsimp only
          rw [due_step]
          exact ⟨rfl, _, rfl⟩
        · rintro σ _ ⟨rfl, v6, rfl⟩
          have e : N = due (n + 1) := by rw [← hN, fits_nil, all_len, due_all n hn]
          refine ⟨_, rfl, _, rfl, rfl, false, nF (by rw [e]), iteF (fin _ _ ⟨rfl, _, _, rfl⟩)⟩
end
end LK
end

section
/-! LKLaw10 -/
set_option maxHeartbeats 4000000
namespace LK
open PySem PySem.Spec PyProof.Rows L2
theorem FL.add {H : Hp} {a t q r : Addr} {o : HO} {fs : List Ft} {g : Ft} {xs : List V} (F : FL H a fs) (hx : H a = some (.lst xs)) (ht : H t = none) (ho : FtAt (L2.upd H t o) t g) (hq : L2.upd H t o q = none) (hr : L2.upd (L2.upd H t o) q (.lst [.ref t]) r = none) :
    ∃ H4, L2.upd (L2.upd (L2.upd H t o) q (.lst [.ref t])) r (.lst (xs ++ [.ref t])) = H4 ∧ Same H H4 ∧ H r = none ∧ FL H4 r (fs ++ [g]) := by
  have s1 : Same H (L2.upd H t o) := Same.new ht
  have s2 : Same (L2.upd H t o) (L2.upd (L2.upd H t o) q (.lst [.ref t])) := Same.new hq
  have s3 : Same (L2.upd (L2.upd H t o) q (.lst [.ref t])) (L2.upd (L2.upd (L2.upd H t o) q (.lst [.ref t])) r (.lst (xs ++ [.ref t]))) := Same.new hr
  have s12 := s1.trans s2
  exact ⟨_, rfl, s12.trans s3, s12.free hr, (F.same s12).cat (s12 _ _ hx) ⟨[t], upd_same, .cons (s2 _ _ ho) .nil⟩ upd_same hr⟩
/-- what no link may cross -/
def Cross (n : Nat) (gs : List Ft) (low high : Nat) : Prop := ∀ c ∈ fits n gs, ∀ x, low < x → x < high → (play (chPost c)).O x = true ∧ (low : Int) ≤ (play (chPost c)).L x ∧ (play (chPost c)).R x ≤ high
theorem mem_snoc {n : Nat} {fs : List Ft} {f : Ft} {c : Ch} : c ∈ fits n (fs ++ [f]) ↔ c ∈ fits n fs ∧ satC f c = true := by
  rw [fits_snoc]; exact List.mem_filter
theorem cross_lf {n : Nat} {fs : List Ft} {y low : Nat} (ok : (Ft.lf y low).ok n) : Cross n (fs ++ [.lf y low]) low y := fun c hc x h1 h2 => by
  obtain ⟨hc, hs⟩ := mem_snoc.mp hc
  have S := stand_of hc
  rw [satC_holds S ok] at hs
  exact S.ch.crossL y low ok.1 ok.2.1 (of_decide_eq_true hs) x h1 h2
theorem cross_rt {n : Nat} {fs : List Ft} {y high : Nat} (ok : (Ft.rt y high).ok n) : Cross n (fs ++ [.rt y high]) y high := fun c hc x h1 h2 => by
  obtain ⟨hc, hs⟩ := mem_snoc.mp hc
  have S := stand_of hc
  rw [satC_holds S ok] at hs
  exact S.ch.crossR y high (Nat.zero_le _) ok.1 (of_decide_eq_true hs) x h1 h2
theorem word_sure {n : Nat} {gs : List Ft} {f : Ft} (ok : f.ok n) (h : ∀ c ∈ fits n gs, holds (play (chPost c)) f = true) : wordOf (fits n gs).length (fits n (gs ++ [f])).length ∈ (["sure"] : List Str) := by
  have : (fits n (gs ++ [f])).length = (fits n gs).length := count_sure.mpr fun c hc => by rw [satC_holds (stand_of hc) ok]; exact h c hc
  unfold wordOf
  rw [if_pos this]
  exact List.mem_singleton.mpr rfl
theorem word_never {n : Nat} {gs : List Ft} {f : Ft} (ok : f.ok n) (h0 : (fits n gs).length ≠ 0) (h : ∀ c ∈ fits n gs, holds (play (chPost c)) f = false) : wordOf (fits n gs).length (fits n (gs ++ [f])).length ∈ (["never"] : List Str) := by
  have : (fits n (gs ++ [f])).length = 0 := count_never.mpr fun c hc => by rw [satC_holds (stand_of hc) ok]; exact h c hc
  unfold wordOf
  rw [if_neg (by rw [this]; exact fun e => h0 e.symm), if_pos this]
  exact List.mem_singleton.mpr rfl
section
variable {P : Program} {w : World} {K : PySem.W.Frag} {mg : Str → Option Value} {base : Heap} {CK CT CL CF CB CN : Addr}
def sp_crossing : Sp := fun vs H Q _ => ∃ (p c w0 a : Addr) (n : Nat) (fs : List Ft) (W : Wd) (cc : Ch), vs = [.ref p, .int (n : Nat), .ref w0, .ref a] ∧ PurseAt H p c ∧ WorldAt (era p H) w0 n W ∧ Args (era p H) a n fs ∧ fs.length ≤ 900 ∧ cc ∈ fits n fs ∧ Stand W n cc ∧
  ∀ H', PurseAt H' p c → Same (era p H) (era p H') → Q (.bl true) H'
theorem w_crossing (T : Tx mg) (D : Dn K mg "_law_crossing" s_l_crossing) (c_l_draw : Cal P w K mg base 1 "_law_draw" sp_draw) (c_l_is : Cal P w K mg base 9 "_law_is" sp_is) : Cal P w K mg base 10 "_law_crossing" sp_crossing := by
  refine cal_of D sc_l_crossing bd_l_crossing (fun vs H Q E h => ?_) fun f cdv A outer s H vs Q E hr h => ?_
  · obtain ⟨p, c, w0, a, n, fs, W, cc, rfl, _⟩ := h; rfl
  · obtain ⟨p, c, w0, a, n, fs, W, cc, rfl, hp, hw, g, hl, hc, S, k⟩ := h
    refine ⟨_, (pss_cons
    (ps_set (i := 4) sc_l_crossing.nd rfl (Or.inl rfl) (pe_op op_add pe_int (pe_c c_l_draw hr (by decide) rfl (pa_cons (pv 0) (pa_cons (pe_op op_add (pv 1) pe_int) pa_nil))))) (pss_cons
    (ps_set (i := 5) sc_l_crossing.nd rfl (Or.inl rfl) (pe_ix ix_list (pe_ix ix_list (pv 2) pe_int (fun _ _ => rfl)) (pv 4) (fun _ _ => rfl))) (pss_cons
    (ps_set (i := 6) sc_l_crossing.nd rfl (Or.inl rfl) (pv 4)) (pss_cons
    (ps_set (i := 7) sc_l_crossing.nd rfl (Or.inl rfl) (pe_op op_cat (pv 3) (pe_lst (pa_cons (pe_tup (pa_cons pe_str (pa_cons (pv 4) (pa_cons (pv 5) pa_nil)))) pa_nil)))) (pss_cons
    (ps_if (pt_cmpR op_eq (pe_c c_l_draw hr (by decide) rfl (pa_cons (pv 0) (pa_cons pe_int pa_nil))) pe_int (nomark _)) (pss_cons
    (ps_set (i := 4) sc_l_crossing.nd rfl (Or.inl rfl) (pe_c c_l_draw hr (by decide) rfl (pa_cons (pv 0) (pa_cons (pe_op op_add (pv 1) pe_int) pa_nil)))) (pss_cons
    (ps_set (i := 5) sc_l_crossing.nd rfl (Or.inl rfl) (pv 4)) (pss_cons
    (ps_set (i := 6) sc_l_crossing.nd rfl (Or.inl rfl) (pe_ix ix_list (pe_ix ix_list (pv 2) pe_int (fun _ _ => rfl)) (pv 4) (fun _ _ => rfl))) (pss_one
    (ps_set (i := 7) sc_l_crossing.nd rfl (Or.inl rfl) (pe_op op_cat (pv 3) (pe_lst (pa_cons (pe_tup (pa_cons pe_str (pa_cons (pv 4) (pa_cons (pv 6) pa_nil)))) pa_nil)))))))) pss_nil) (pss_cons
    (ps_if (pt_cmpR op_lt (pe_op op_sub (pv 6) (pv 5)) pe_int (nomark _)) (pss_one
    (ps_ret pe_bl)) pss_nil) (pss_cons
    (ps_set (i := 8) sc_l_crossing.nd rfl (Or.inl rfl) (pe_op op_add (pe_op op_add (pv 5) pe_int) (pe_c c_l_draw hr (by decide) rfl (pa_cons (pv 0) (pa_cons (pe_op op_sub (pe_op op_sub (pv 6) (pv 5)) pe_int) pa_nil))))) (pss_cons
    (ps_if (pt_not (pt_val (pe_c c_l_is hr (by decide) rfl (pa_cons (pv 1) (pa_cons (pv 7) (pa_cons (pe_tup (pa_cons pe_str (pa_cons (pv 8) pa_nil))) (pa_cons (pe_lst (pa_cons pe_str pa_nil)) pa_nil))))))) (pss_one
    (ps_ret pe_bl)) pss_nil) (pss_cons
    (ps_if (pt_not (pt_val (pe_c c_l_is hr (by decide) rfl (pa_cons (pv 1) (pa_cons (pv 7) (pa_cons (pe_tup (pa_cons pe_str (pa_cons (pv 8) pa_nil))) (pa_cons (pe_lst (pa_cons pe_str pa_nil)) pa_nil))))))) (pss_one
    (ps_ret pe_bl)) pss_nil) (pss_cons
    (ps_if (PW.pt (pw_and (pt_cmpR op_gt (pv 5) pe_int (nomark _)) (pw_and1 (pt_not (pt_val (pe_c c_l_is hr (by decide) rfl (pa_cons (pv 1) (pa_cons (pv 7) (pa_cons (pe_tup (pa_cons pe_str (pa_cons (pv 8) (pa_cons (pe_c c_l_draw hr (by decide) rfl (pa_cons (pv 0) (pa_cons (pv 5) pa_nil))) pa_nil)))) (pa_cons (pe_lst (pa_cons pe_str pa_nil)) pa_nil)))))))))) (pss_one
    (ps_ret pe_bl)) pss_nil) (pss_cons
    (ps_if (pt_cmpR op_le (pv 6) (pv 1) (nomark _)) (pss_cons
    (ps_set (i := 9) sc_l_crossing.nd rfl (Or.inl rfl) (pe_op op_add (pe_op op_add (pv 6) pe_int) (pe_c c_l_draw hr (by decide) rfl (pa_cons (pv 0) (pa_cons (pe_op op_sub (pe_op op_add (pv 1) pe_int) (pv 6)) pa_nil))))) (pss_one
    (ps_ret (pe_c c_l_is hr (by decide) rfl (pa_cons (pv 1) (pa_cons (pv 7) (pa_cons (pe_tup (pa_cons pe_str (pa_cons (pv 8) (pa_cons (pv 9) pa_nil)))) (pa_cons (pe_lst (pa_cons pe_str pa_nil)) pa_nil)))))))) pss_nil) (pss_one
    (ps_ret pe_bl))))))))))))), ?_⟩
    have hn := g.hn
    have eH : Same (era p H) H := era_le
    obtain ⟨l, r, o, hw, hwl, hwr, hwo⟩ := hw
    refine ⟨_, rfl, _, rfl, _, _, rfl, rfl, p, c, n + 1, rfl, hp, by omega, by omega, fun H1 v hv hp1 er1 => ?_⟩
    refine ⟨_, _, rfl, rfl, ?_⟩
    obtain ⟨y, ey⟩ : ∃ y : Nat, y = v + 1 := ⟨_, rfl⟩
    dsimp only
    rw [show (1 : Int) + (v : Int) = (y : Int) by omega]
    obtain ⟨low, elow, hlow⟩ := S.left (y := y) (by omega) (by omega)
    have s1 : Same (era p H) (era p H1) := era_eq_same er1
    have t1 : Same (era p H) H1 := s1.trans era_le
    refine ⟨_, rfl, w0, _, _, _, rfl, rfl, SqL.of (t1 _ _ hw), rfl, _, rfl, l, _, _, _, rfl, rfl, SqL.of (t1 _ _ hwl), tabI_at (i := y) rfl (by omega), ?_⟩
    rw [elow]
    refine ⟨_, rfl, ?_⟩
    obtain ⟨xs, hx, hxl⟩ := g.l.len
    refine ⟨_, rfl, _, rfl, _, rfl, by show 3 ≤ sizeLine; decide, fun t ht => ?_⟩
    refine ⟨by show 1 ≤ sizeLine; decide, fun q hq => ?_⟩
    refine ⟨a, q, _, _, rfl, rfl, Same.new hq _ _ (Same.new ht _ _ (t1 _ _ hx)), upd_same, sizeLine_ge (by rw [hxl]; show _ + 1 ≤ _; omega), fun gl hgl => ?_⟩
    obtain ⟨H2, e2, s2, gl0, F2⟩ := FL.add (g := .lf y low) (o := .tup [.str "left", .int (y : Int), .int (low : Int)]) (g.l.same t1) (t1 _ _ hx) ht upd_same hq hgl
    dsimp only [gName]
    refine rwH e2 ?_
    have okl : (Ft.lf y low).ok n := ⟨by omega, by omega, hlow⟩
    have ogl := hp1.off gl0
    have hp2 := hp1.same s2
    have sE2 : Same (era p H) (era p H2) := s1.trans (era_same s2)
    have F2E : FL (era p H2) gl (fs ++ [.lf y low]) := by
      obtain ⟨⟨_, hpx⟩, _⟩ := hp2.some
      exact F2.era ogl.1 hpx
    have ml : cc ∈ fits n (fs ++ [.lf y low]) := mem_snoc.mpr ⟨hc, by rw [satC_holds S okl]; simp [holds, elow]⟩
    refine thenBy (t := tIfS _ _ _) (fun σ H' => ∃ (low high : Nat) (gl : Addr) (gt : Ft) (v4 : Option V), σ = [some (.ref p), some (.int n), some (.ref w0), some (.ref a), v4, some (.int (low : Nat)), some (.int (high : Nat)), some (.ref gl), none, none] ∧ PurseAt H' p c ∧ Same (era p H) (era p H') ∧ FL (era p H') gl (fs ++ [gt]) ∧ gt.ok n ∧ cc ∈ fits n (fs ++ [gt]) ∧ Cross n (fs ++ [gt]) low high ∧ low < high ∧ high ≤ n + 1) ?_ fun fin => ?_
    · rintro σ H3 ⟨low, high, gl, gt, v4, rfl, hp3, s3, F3, okt, mt, X, lh, hh⟩
      have gok : ∀ f ∈ fs ++ [gt], f.ok n := fun f hf => by
        rcases List.mem_append.mp hf with q | q
        · exact g.ok f q
        · rw [List.mem_singleton.mp q]; exact okt
      have gl9 : (fs ++ [gt]).length ≤ 999 := by simp; omega
      generalize fs ++ [gt] = gs at F3 mt X gok gl9
      have h0 : (fits n gs).length ≠ 0 := fun e => by
        rw [List.length_eq_zero_iff.mp e] at mt; cases mt
      have AG : ∀ H', Same (era p H3) H' → Args H' gl n gs := fun H' s => ⟨F3.same s, hn, by omega, gok⟩
      refine ⟨_, rfl, _, rfl, _, _, rfl, rfl, _, _, rfl, rfl, ?_⟩
      by_cases h2 : (high : Int) - (low : Int) < 2
      · exact ⟨true, dT h2, iteT (k _ hp3 s3)⟩
      · refine ⟨false, dF h2, iteF ?_⟩
        refine ⟨_, rfl, _, _, rfl, rfl, _, rfl, _, rfl, _, rfl, _, _, rfl, rfl, _, _, rfl, rfl, p, c, high - low - 1, ?_, hp3, by omega, by omega, fun H4 v hv hp4 er4 => ?_⟩
        · dsimp only
          rw [show (high : Int) - (low : Int) - 1 = ((high - low - 1 : Nat) : Int) by omega]
          rfl
        refine ⟨_, _, rfl, rfl, ?_⟩
        obtain ⟨x, ex⟩ : ∃ x : Nat, x = low + 1 + v := ⟨_, rfl⟩
        dsimp only
        rw [show (low : Int) + 1 + (v : Int) = (x : Int) by omega]
        have s34 : Same (era p H3) (era p H4) := era_eq_same er4
        have oko : (Ft.out x).ok n := ⟨by omega, by omega⟩
        have oki : (Ft.inn x).ok n := ⟨by omega, by omega⟩
        refine ⟨_, rfl, _, rfl, _, rfl, by show 2 ≤ sizeLine; decide, fun t ht => ?_⟩
        refine ⟨by show 1 ≤ sizeLine; decide, fun q hq => ?_⟩
        have q1 := Same.new (o := .tup [.str "out", .int (x : Int)]) ht
        have q2 := Same.new (o := .lst [.str "sure"]) hq
        refine ⟨n, gl, t, q, gs, .out x, ["sure"], rfl, AG _ ((s34.trans era_le).trans (q1.trans q2)), gl9, q2 _ _ upd_same, oko, h0, upd_same, word_sure oko fun c' hc' => (X c' hc' x (by omega) (by omega)).1, fun H5 s5 => ?_⟩
        refine ⟨true, rfl, iteF ?_⟩
        have s45 : Same H4 H5 := (q1.trans q2).trans s5
        have hp5 := hp4.same s45
        have s35 : Same (era p H3) (era p H5) := s34.trans (era_same s45)
        clear q1 q2 s5 ht hq
        refine ⟨_, rfl, _, rfl, _, rfl, by show 2 ≤ sizeLine; decide, fun t ht => ?_⟩
        refine ⟨by show 1 ≤ sizeLine; decide, fun q hq => ?_⟩
        have q1 := Same.new (o := .tup [.str "in", .int (x : Int)]) ht
        have q2 := Same.new (o := .lst [.str "never"]) hq
        refine ⟨n, gl, t, q, gs, .inn x, ["never"], rfl, AG _ ((s35.trans era_le).trans (q1.trans q2)), gl9, q2 _ _ upd_same, oki, h0, upd_same, word_never oki h0 fun c' hc' => by show (!_) = false; rw [(X c' hc' x (by omega) (by omega)).1]; rfl, fun H6 s6 => ?_⟩
        refine ⟨true, rfl, iteF ?_⟩
        have s46 : Same H5 H6 := (q1.trans q2).trans s6
        have hp6 := hp5.same s46
        have s36 : Same (era p H3) (era p H6) := s35.trans (era_same s46)
        clear q1 q2 s6 ht hq
        dsimp only [gName, tNext]
        refine thenBy (t := tIfS _ _ _) (fun σ H' => (∃ v9, σ = [some (.ref p), some (.int n), some (.ref w0), some (.ref a), v4, some (.int (low : Nat)), some (.int (high : Nat)), some (.ref gl), some (.int (x : Nat)), v9]) ∧ PurseAt H' p c ∧ Same (era p H3) (era p H')) ?_ fun fin => ?_
        · rintro σ H7 ⟨⟨v9, rfl⟩, hp7, s37⟩
          refine ⟨_, rfl, _, rfl, _, _, rfl, rfl, ?_⟩
          by_cases h3 : high ≤ n
          · refine ⟨true, dT (by omega), iteT ?_⟩
            refine ⟨_, rfl, _, _, rfl, rfl, _, rfl, _, rfl, _, _, rfl, rfl, _, rfl, _, _, rfl, rfl, p, c, n + 1 - high, ?_, hp7, by omega, by omega, fun H8 v8 hv8 hp8 er8 => ?_⟩
            · dsimp only
              rw [show (n : Int) + 1 - (high : Int) = ((n + 1 - high : Nat) : Int) by omega]
              rfl
            refine ⟨_, _, rfl, rfl, ?_⟩
            obtain ⟨far, ef⟩ : ∃ far : Nat, far = high + 1 + v8 := ⟨_, rfl⟩
            dsimp only
            rw [show (high : Int) + 1 + (v8 : Int) = (far : Int) by omega]
            have s38 : Same (era p H3) (era p H8) := s37.trans (era_eq_same er8)
            have okr : (Ft.rt x far).ok n := ⟨by omega, by omega, by omega⟩
            refine ⟨_, rfl, _, rfl, _, rfl, _, rfl, by show 3 ≤ sizeLine; decide, fun t ht => ?_⟩
            refine ⟨by show 1 ≤ sizeLine; decide, fun q hq => ?_⟩
            have q1 := Same.new (o := .tup [.str "right", .int (x : Int), .int (far : Int)]) ht
            have q2 := Same.new (o := .lst [.str "never"]) hq
            refine ⟨n, gl, t, q, gs, .rt x far, ["never"], rfl, AG _ ((s38.trans era_le).trans (q1.trans q2)), gl9, q2 _ _ upd_same, okr, h0, upd_same, word_never okr h0 fun c' hc' => ?_, fun H9 s9 => ?_⟩
            · have := (X c' hc' x (by omega) (by omega)).2.2
              exact decide_eq_false (by omega)
            · have s89 := (q1.trans q2).trans s9
              exact k _ (hp8.same s89) ((s3.trans s38).trans (era_same s89))
          · exact ⟨false, dF (by omega), iteF (k _ hp7 (s3.trans s37))⟩
        · refine ⟨_, rfl, _, _, rfl, rfl, ?_⟩
          by_cases h4 : 0 < low
          · refine ⟨true, dT (by omega), iteT ?_⟩
            refine ⟨_, rfl, _, rfl, _, rfl, _, rfl, _, rfl, p, c, low, rfl, hp6, h4, by omega, fun H7 v7 hv7 hp7 er7 => ?_⟩
            refine ⟨by show 3 ≤ sizeLine; decide, fun t ht => ?_⟩
            refine ⟨by show 1 ≤ sizeLine; decide, fun q hq => ?_⟩
            have s37 : Same (era p H3) (era p H7) := s36.trans (era_eq_same er7)
            have okl : (Ft.lf x v7).ok n := ⟨by omega, by omega, by omega⟩
            have q1 := Same.new (o := .tup [.str "left", .int (x : Int), .int (v7 : Int)]) ht
            have q2 := Same.new (o := .lst [.str "never"]) hq
            refine ⟨n, gl, t, q, gs, .lf x v7, ["never"], rfl, AG _ ((s37.trans era_le).trans (q1.trans q2)), gl9, q2 _ _ upd_same, okl, h0, upd_same, word_never okl h0 fun c' hc' => ?_, fun H8 s8 => ?_⟩
            · have := (X c' hc' x (by omega) (by omega)).2.1
              exact decide_eq_false (by omega)
            · have s78 := (q1.trans q2).trans s8
              exact ⟨true, rfl, iteF (fin _ _ ⟨⟨_, rfl⟩, hp7.same s78, s37.trans (era_same s78)⟩)⟩
          · exact ⟨false, dF (by omega), iteF (fin _ _ ⟨⟨_, rfl⟩, hp6, s36⟩)⟩
    · refine ⟨_, rfl, p, c, 2, rfl, hp2, by omega, by omega, fun H3 v3 hv3 hp3 er3 => ?_⟩
      have s3 : Same (era p H2) (era p H3) := era_eq_same er3
      by_cases e : v3 = 1
      · refine ⟨rfl, true, dT (by rw [e]; rfl), iteT ?_⟩
        refine ⟨_, rfl, _, rfl, _, _, rfl, rfl, p, c, n + 1, rfl, hp3, by omega, by omega, fun H4 x hx4 hp4 er4 => ?_⟩
        refine ⟨_, rfl, ?_⟩
        have s4 : Same (era p H) (era p H4) := (sE2.trans s3).trans (era_eq_same er4)
        have t4 : Same (era p H) H4 := s4.trans era_le
        obtain ⟨high, ehi, hhi, hhn⟩ := S.right (y := x) (by omega)
        refine ⟨_, rfl, w0, _, _, _, rfl, rfl, SqL.of (t4 _ _ hw), rfl, _, rfl, r, _, _, _, rfl, rfl, SqL.of (t4 _ _ hwr), tabI_at (i := x) rfl (by omega), ?_⟩
        rw [ehi]
        refine ⟨_, rfl, _, rfl, _, rfl, by show 3 ≤ sizeLine; decide, fun t ht => ?_⟩
        refine ⟨by show 1 ≤ sizeLine; decide, fun q hq => ?_⟩
        refine ⟨a, q, _, _, rfl, rfl, Same.new hq _ _ (Same.new ht _ _ (t4 _ _ hx)), upd_same, sizeLine_ge (by rw [hxl]; show _ + 1 ≤ _; omega), fun gl hgl => ?_⟩
        obtain ⟨H5, e5, s5, gl0, F5⟩ := FL.add (g := .rt x high) (o := .tup [.str "right", .int (x : Int), .int (high : Int)]) (g.l.same t4) (t4 _ _ hx) ht upd_same hq hgl
        dsimp only [gName]
        refine rwH e5 ?_
        have okr : (Ft.rt x high).ok n := ⟨by omega, hhi, hhn⟩
        have ogl5 := hp4.off gl0
        have hp5 := hp4.same s5
        have F5E : FL (era p H5) gl (fs ++ [.rt x high]) := by
          obtain ⟨⟨_, hpx⟩, _⟩ := hp5.some
          exact F5.era ogl5.1 hpx
        have mr : cc ∈ fits n (fs ++ [.rt x high]) := mem_snoc.mpr ⟨hc, by rw [satC_holds S okr]; simp [holds, ehi]⟩
        exact fin _ _ ⟨x, high, gl, _, _, rfl, hp5, s4.trans (era_same s5), F5E, okr, mr, cross_rt okr, hhi, hhn⟩
      · refine ⟨rfl, false, dF (fun q => e (by injection q with q; omega)), iteF (fin _ _ ⟨low, y, gl, _, _, rfl, hp3, sE2.trans s3, F2E.same s3, okl, ml, cross_lf okl, hlow, by omega⟩)⟩
end
end LK
end

section
/-! LKLaw11 -/
set_option maxHeartbeats 4000000
namespace LK
open PySem PySem.Spec PyProof.Rows L2
theorem cw_nine : ∀ k, k ≤ 9 → cw k ≤ 100000 := by
  have h : (List.range 10).all (fun n => decide ((clist 16).getD n 0 ≤ 100000)) = true := by decide +kernel
  intro n hn
  have e := List.all_eq_true.mp h n (List.mem_range.mpr (by omega))
  have e := of_decide_eq_true e
  rw [List.getD_eq_getElem?_getD, clist_get (by omega)] at e
  exact e
theorem Paired.take {α β : Type} {F : α → β → Prop} : ∀ {l : List α} {m : List β} (k : Nat), Paired F l m → Paired F (l.take k) (m.take k)
  | _, _, 0, _ => by rw [List.take_zero, List.take_zero]; exact .nil
  | _, _, k + 1, .nil => by rw [List.take_nil, List.take_nil]; exact .nil
  | _, _, k + 1, .cons h t => by rw [List.take_succ_cons, List.take_succ_cons]; exact .cons h (Paired.take k t)
theorem FL.cut {H : Hp} {a b : Addr} {fs : List Ft} {xs : List V} (k : Nat) (h : FL H a fs) (hx : H a = some (.lst xs)) (hb : H b = none) : FL (L2.upd H b (.lst (cutV xs none (some (k : Int))))) b (fs.take k) := by
  obtain ⟨ts, h1, h2⟩ := h
  rw [hx] at h1; cases h1
  have s : Same H (L2.upd H b (.lst (cutV (ts.map V.ref) none (some (k : Int))))) := Same.new hb
  exact ⟨ts.take k, by rw [upd_same, cut_take, List.map_take], Paired.take k (L2.Paired.mapP h2 fun t f q => s _ _ q)⟩
theorem DpAll.keys {K : PySem.W.Frag} {H : Hp} : ∀ {ks : List Addr} {cs : List Ch}, Paired (fun k c => H k = some (.lst (intsV (chKey c 0)))) ks cs → DpAll K H (ks.map V.ref) (cs.map fun c => dI_ (chKey c 0))
  | [], _, h => by cases h; exact .nil
  | k :: ks, _, h => by
    cases h with
    | cons r h => exact .cons (Dp.ints (SqL.of r)) (DpAll.keys h)
theorem keys_shaped (cs : List Ch) : SeqAt.shaped (.list (cs.map fun c => dI_ (chKey c 0))) = true := by
  have h0 : ∀ xs : List Int, (dI_ xs).canLay0 = true := fun xs => by
    have := shaped_ints xs
    unfold SeqAt.shaped at this
    exact (Bool.and_eq_true _ _ ▸ this).1
  have h1 : ∀ cs : List Ch, PyData.canLayAll0 (cs.map fun c => dI_ (chKey c 0)) = true := by
    intro cs
    induction cs with
    | nil => rfl
    | cons f fs ih =>
      show (PyData.canLay0 (dI_ _) && PyData.canLayAll0 (fs.map fun c => dI_ (chKey c 0))) = true
      rw [h0, ih]; rfl
  have h2 : ∀ cs : List Ch, PyData.depthAll (cs.map fun c => dI_ (chKey c 0)) ≤ 2 := by
    intro fs
    induction fs with
    | nil => exact Nat.zero_le _
    | cons f fs ih =>
      show max (PyData.depth (dI_ _)) (PyData.depthAll (fs.map fun c => dI_ (chKey c 0))) ≤ 2
      exact Nat.max_le.mpr ⟨depth_ints _, ih⟩
  show (PyData.canLay0 (.list _) && decide (PyData.depth (.list _) ≤ 64)) = true
  have : PyData.depth (.list (cs.map fun c => dI_ (chKey c 0))) ≤ 64 := by
    have := h2 cs
    simp only [PyData.depth]; omega
  rw [show PyData.canLay0 (.list (cs.map fun c => dI_ (chKey c 0))) = true from h1 cs, decide_eq_true this]; rfl
theorem none_keys (cs : List Ch) : (cs.map fun c => dI_ (chKey c 0)).any (fun z => PyData.eqv z .none) = false := by
  rw [List.any_eq_false]
  intro z hz
  obtain ⟨c, _, rfl⟩ := List.mem_map.mp hz
  exact fun e => by cases e
theorem key_keys {cs : List Ch} {c : Ch} (h : c ∈ cs) : (cs.map fun c => dI_ (chKey c 0)).any (fun z => PyData.eqv z (dI_ (chKey c 0))) = true := by
  rw [List.any_eq_true]
  exact ⟨_, List.mem_map.mpr ⟨c, h, rfl⟩, by rw [eqv_ints]; exact decide_eq_true rfl⟩
section
variable {X : Cx} {e : Expr} {es : List Expr} {t : TA} {x : Str} {k j : Nat} {p p' pos pos' : Pos}
theorem pe_lG {sp : SpG} (c : CalG X.prog X.w X.K X.mg X.base k x sp) (hr : Room j X.A) (hk : k + 3 ≤ j) (hg : Gl X x) (hl : Gl X "list") (hm : X.mg "list" = none) (ha : PA X (e :: es) t) (hdb : (x == ("__debug__" : Str)) = false := by decide)
    (he : starEach (e :: es) X.env = (false, eval e X.env) :: starEach es X.env := by rfl) (hpl : (backTo pos' (starEach es X.env)).any (·.1) = false := by rfl) :
    PE X (.Call (.Name "list" p) [.Call (.Name x p') (e :: es) [] pos'] [] pos) (tListG (tCallG sp [] L2.E0 t)) := by
  obtain ⟨f, fd, ps, F, hmg, kp, b⟩ := c.ex
  exact pe_listG (pgen_call F (hr.mono (by omega)) hg hmg kp b .nil ha hdb he hpl) passL (fun _ _ _ h => h.elim) (hr.mono hk) hl hm (by decide +kernel)
end
section
variable {P : Program} {w : World} {K : PySem.W.Frag} {mg : Str → Option Value} {base : Heap} {CK CT CL CF CB CN : Addr}
def sp_listed : Sp := fun vs H Q _ => ∃ (a w0 : Addr) (n : Nat) (fs : List Ft) (W : Wd) (cc : Ch), vs = [.int (n : Nat), .ref a, .ref w0] ∧ Args H a n fs ∧ fs.length ≤ 12 ∧ n ≤ 8 ∧ WorldAt H w0 n W ∧ cc ∈ fits n fs ∧ (∀ f ∈ fs, holds W f = true) ∧ Stand W n cc ∧
  ∀ H', Same H H' → Q (.bl true) H'
theorem w_listed (T : Tx mg) (D : Dn K mg "_law_listed" s_l_listed) (c_each_fit : CalG P w K mg base 9 "each_fit" (sp_each_fit CL CF)) (c_count_fits : Cal P w K mg base 7 "count_fits" sp_count_fits) (c_l_key_of : Cal P w K mg base 5 "_law_key_of" (sp_key_of CL CF)) (c_l_key : Cal P w K mg base 1 "_law_key" sp_key) : Cal P w K mg base 13 "_law_listed" sp_listed := by
  refine cal_of D sc_l_listed bd_l_listed (fun vs H Q E h => ?_) fun f cdv A outer s H vs Q E hr h => ?_
  · obtain ⟨a, w0, n, fs, W, cc, rfl, _⟩ := h; rfl
  · obtain ⟨a, w0, n, fs, W, cc, rfl, g, hl, hn8, hw, hc, hhold, S, k⟩ := h
    have hu64 : (A.deeper (envOfC "_law_listed" (defScope s_l_listed) s.heap.objs.size f cdv)).units + 64 < cLine := hr.units
    have hu65 : (A.deeper (envOfC "_law_listed" (defScope s_l_listed) s.heap.objs.size f cdv)).units + 65 < cLine := by
      have := hr.un
      show (A.deeper (envOfC "_law_listed" (defScope s_l_listed) s.heap.objs.size f cdv)).units + 65 < cLine
      omega
    refine ⟨_, (pss_cons
    (ps_set (i := 3) sc_l_listed.nd rfl (Or.inl rfl) (pe_slice sl_list (pe_lc (own := [("_law_node", 10)]) (g := gName 10) (tt := tNot (tB (tOp (rIxL K) (tOp (rIxL K) (tVar 2) (tC (.int 2))) (tVar 10)))) (te := tTup (tCons (tC (.str "in")) (tCons (tVar 10) tNil))) (by rfl) sc_l_listed.nd (pi_range2 rfl T.range (pa_cons pe_int (pa_cons (pe_op op_add (pv 0) pe_int) pa_nil))) (blkOk_by (own := [("_law_node", 10)]) (N := N_l_listed) (sc := defScope s_l_listed) (by decide +kernel)) (fun _ _ _ _ _ => pg_name (i := 10) sc_l_listed.nd rfl (Or.inl rfl)) (fun _ _ _ _ _ => pts_one (pt_not (pt_val (pe_ix ix_list (pe_ix ix_list (pv 2) pe_int (fun _ _ => rfl)) (pv 10) (fun _ _ => rfl))))) (fun _ _ _ _ _ => (pe_tup (pa_cons pe_str (pa_cons (pv 10) pa_nil))))) po_none (po_some pe_int))) (pss_cons
    (ps_if (pt_cmpR op_eq (pe_callB call_len_seq (by rfl) T.len PySem.boot_len (pa_cons (pv 3) pa_nil)) pe_int (nomark _)) (pss_one
    (ps_setLc (i := 3) (own := [("_law_node", 10)]) (g := gName 10) (tt := tYes) (te := tTup (tCons (tC (.str "out")) (tCons (tVar 10) tNil))) (by rfl) sc_l_listed.nd rfl rfl (sw_true rfl rfl rfl (by decide +kernel)) (pi_range2 rfl T.range (pa_cons pe_int (pa_cons (pe_op op_add (pv 0) pe_int) pa_nil))) (blkOk_by (own := [("_law_node", 10)]) (N := N_l_listed) (sc := defScope s_l_listed) (by decide +kernel)) (fun _ _ _ _ _ => pg_name (i := 10) sc_l_listed.nd rfl (Or.inl rfl)) (fun _ _ _ _ _ => pts_nil) (fun _ _ _ _ _ => (pe_tup (pa_cons pe_str (pa_cons (pv 10) pa_nil)))))) pss_nil) (pss_cons
    (ps_set (i := 4) sc_l_listed.nd rfl (Or.inr rfl) (pe_op op_cat (pv 1) (pv 3))) (pss_cons
    (ps_set (i := 5) sc_l_listed.nd rfl (Or.inl rfl) (pe_callTy call_list_of (by rfl) T.list (by decide +kernel) (pa_cons (pv 4) pa_nil))) (pss_cons
    (ps_set (i := 6) sc_l_listed.nd rfl (Or.inl rfl) (pe_lG c_each_fit hr (by decide) rfl rfl T.list (pa_cons (pv 0) (pa_cons (pv 5) pa_nil)))) (pss_cons
    (ps_setLc (i := 7) (own := [("_law_fit", 9)]) (g := gName 9) (tt := tYes) (te := tCall (sp_key_of CL CF) [] E0 (tCons (tVar 0) (tCons (tVar 4) (tCons (tVar 9) tNil)))) (by rfl) sc_l_listed.nd rfl rfl (sw_true rfl rfl rfl (by decide +kernel)) (pi_list (pv 6)) (blkOk_by (own := [("_law_fit", 9)]) (N := N_l_listed) (sc := defScope s_l_listed) (by decide +kernel)) (fun _ _ _ _ _ => pg_name (i := 9) sc_l_listed.nd rfl (Or.inl rfl)) (fun _ _ _ _ _ => pts_nil) (fun _ _ _ _ _ => (pe_c c_l_key_of hr (by decide) rfl (pa_cons (pv 0) (pa_cons (pv 4) (pa_cons (pv 9) pa_nil)))))) (pss_cons
    (ps_if (PW.pt (pw_or (pt_cmpR op_ne (pe_callB call_len_seq (by rfl) T.len PySem.boot_len (pa_cons (pv 7) pa_nil)) (pe_c c_count_fits hr (by decide) rfl (pa_cons (pv 0) (pa_cons (pv 5) pa_nil))) (nomark _)) (pw_or1 (pt_cmpR (op_neD hr.units) (pv 5) (pv 4) (nomark _))))) (pss_one
    (ps_ret pe_bl)) pss_nil) (pss_cons
    (ps_if (PW.pt (pw_or (pt_cmpR (op_inD hu65) pe_non (pv 7) (by rfl)) (pw_or1 (pt_cmpR (op_notInD hu65) (pe_c c_l_key hr (by decide) rfl (pa_cons (pv 0) (pa_cons (pv 2) pa_nil))) (pv 7) (by rfl))))) (pss_one
    (ps_ret pe_bl)) pss_nil) (pss_cons
    (ps_for PassesOwn.never rfl (pi_range2 rfl T.range (pa_cons pe_int (pa_cons (pe_callB call_len_seq (by rfl) T.len PySem.boot_len (pa_cons (pv 7) pa_nil)) pa_nil))) (pg_name (i := 8) sc_l_listed.nd rfl (Or.inl rfl)) (pss_one
    (ps_if (pt_not (pt_cmpR (op_ltL hu64) (pe_ix ix_list (pv 7) (pe_op op_sub (pv 8) pe_int) (fun _ _ => rfl)) (pe_ix ix_list (pv 7) (pv 8) (fun _ _ => rfl)) (nomark _))) (pss_one
    (ps_ret pe_bl)) pss_nil))) (pss_one
    (ps_ret pe_bl))))))))))), ?_⟩
    have hn : n ≤ 60 := g.hn
    obtain ⟨l, r, o, hw1, hwl, hwr, hwo⟩ := hw
    have free_ok : ∀ f ∈ ((List.range' 1 n).filter fun x => !W.O x).map Ft.inn, f.ok n ∧ holds W f = true := fun f hf => by
      obtain ⟨x, hx, rfl⟩ := List.mem_map.mp hf
      obtain ⟨h1, h2⟩ := List.mem_filter.mp hx
      rw [mem_range'_1] at h1
      exact ⟨⟨by omega, by omega⟩, h2⟩
    refine ⟨_, rfl, _, _, rfl, rfl, _, _, rfl, ⟨by omega, by omega, by omega, by omega⟩, fun D hD => ?_⟩
    dsimp only
    rw [show ((n : Int) + 1 - 1).toNat = n by omega]
    refine lc_range (lo := 1) (n := n) (Pv := fun i H' => Same H H' ∧ FL H' D (((List.range' 1 i).filter fun x => !W.O x).map Ft.inn)) ⟨Same.new hD, .nil upd_same⟩ (fun i H' hi ⟨s1, F1⟩ => ?_) fun H1 ⟨s1, F1⟩ => ?_
    · obtain ⟨ys, hy, hly⟩ := F1.len
      have hlen : ys.length ≤ 60 := by
        rw [hly, List.length_map]
        refine Nat.le_trans (List.length_filter_le _ _) ?_
        rw [List.length_range']; omega
      refine ⟨rfl, _, rfl, w0, _, _, _, rfl, rfl, SqL.of (s1 _ _ hw1), rfl, _, rfl, o, _, _, _, rfl, rfl, SqL.of (s1 _ _ hwo), tabB_at (i := i + 1) (by omega) (by omega), ?_⟩
      rw [range'_snoc, List.filter_append, List.map_append, show 1 + i = i + 1 by omega]
      cases eO : W.O (i + 1) with
      | true =>
        refine ⟨true, rfl, iteF ⟨s1, ?_⟩⟩
        rw [List.filter_cons, if_neg (by rw [eO]; exact Bool.false_ne_true), List.filter_nil, List.map_nil, List.append_nil]
        exact F1
      | false =>
        refine ⟨false, rfl, iteT ⟨_, rfl, by show 2 ≤ sizeLine; decide, fun t ht => ?_⟩⟩
        have nDt : D ≠ t := ne_of_none hy ht
        refine ⟨ys, by rw [upd_ne nDt]; exact hy, sizeLine_gt (by omega), Same.write (Same.upd s1 ht) hD, ?_⟩
        rw [List.filter_cons, if_pos (by rw [eO]; rfl), List.filter_nil]
        refine (F1.same (Same.new ht)).push (by rw [upd_ne nDt]; exact hy) ?_
        show L2.upd _ t _ t = _
        rw [upd_same, show (1 : Int) + (i : Int) = ((i + 1 : Nat) : Int) by omega]
        rfl
    · obtain ⟨ys, hy, hly⟩ := F1.len
      refine ⟨_, rfl, D, _, rfl, SqL.of hy, fun m0 hm0 => ?_⟩
      have F2 := F1.cut 1 hy hm0
      have s2 : Same H (L2.upd H1 m0 (.lst (cutV ys none (some ((1 : Nat) : Int))))) := Same.upd s1 hm0
      obtain ⟨H2, e2⟩ : ∃ H2, L2.upd H1 m0 (.lst (cutV ys none (some ((1 : Nat) : Int)))) = H2 := ⟨_, rfl⟩
      rw [e2] at F2 s2
      dsimp only [gName]
      refine rwH e2 ?_
      refine thenBy (t := tIfS _ _ _) (fun σ H' => ∃ (ml : Addr) (more : List Ft), σ = [some (.int n), some (.ref a), some (.ref w0), some (.ref ml), none, none, none, none, none, none, none] ∧ Same H H' ∧ FL H' ml more ∧ more.length ≤ 60 ∧ ∀ f ∈ more, f.ok n ∧ holds W f = true) ?_ fun fin => ?_
      · rintro σ H3 ⟨ml, more, rfl, s3, F3, lm, hm⟩
        have Wok : WorldAt H3 w0 n W := ⟨l, r, o, s3 _ _ hw1, s3 _ _ hwl, s3 _ _ hwr, s3 _ _ hwo⟩
        obtain ⟨xa, hxa, hla⟩ := (g.l.same s3).len
        obtain ⟨xm, hxm, hlm⟩ := F3.len
        refine ⟨_, rfl, _, rfl, a, ml, _, _, rfl, rfl, hxa, hxm, sizeLine_ge (by omega), fun gl hgl => ?_⟩
        have F4 := (g.l.same s3).cat hxa F3 hxm hgl
        obtain ⟨H4, e4, s4, hg4⟩ : ∃ H4, L2.upd H3 gl (.lst (xa ++ xm)) = H4 ∧ Same H3 H4 ∧ H4 gl = some (.lst (xa ++ xm)) := ⟨_, rfl, Same.new hgl, upd_same⟩
        rw [e4] at F4
        dsimp only [gName]
        refine rwH e4 ?_
        have lgs : (fs ++ more).length ≤ 1000 := by rw [List.length_append]; omega
        have gok : ∀ f ∈ fs ++ more, f.ok n ∧ holds W f = true := fun f hf => by
          rcases List.mem_append.mp hf with q | q
          · exact ⟨g.ok f q, hhold f q⟩
          · exact hm f q
        have mc : cc ∈ fits n (fs ++ more) := fits_mem S (fun f hf => (gok f hf).1) fun f hf => (gok f hf).2
        generalize fs ++ more = gs at F4 lgs gok mc
        have hcount : (fits n gs).length ≤ 100000 := Nat.le_trans (fits_le n gs) (cw_nine _ (by omega))
        have AG : ∀ {H' b}, FL H' b gs → Args H' b n gs := fun F => ⟨F, hn, lgs, fun f hf => (gok f hf).1⟩
        refine ⟨_, rfl, gl, _, rfl, .inl (SqL.of hg4), fun pl hpl => ?_⟩
        have F5 := F4.lst_of hg4 hpl
        obtain ⟨H5, e5, s5⟩ : ∃ H5, L2.upd H4 pl (.lst (xa ++ xm)) = H5 ∧ Same H4 H5 := ⟨_, rfl, Same.new hpl⟩
        rw [e5] at F5
        dsimp only [gName]
        refine rwH e5 ?_
        refine ⟨_, rfl, _, rfl, n, pl, gs, rfl, AG F5, hcount, fun H6 ys6 s6 P6 => fun fl hfl => ?_⟩
        obtain ⟨H7, e7, s7, hfl7⟩ : ∃ H7, L2.upd H6 fl (.lst ys6) = H7 ∧ Same H6 H7 ∧ H7 fl = some (.lst ys6) := ⟨_, rfl, Same.new hfl, upd_same⟩
        dsimp only [gName]
        refine rwH e7 ?_
        have s47 : Same H4 H7 := (s5.trans s6).trans s7
        have s37 : Same H3 H7 := s4.trans s47
        have P7 : Paired (FitsAt CL CF n H7) ys6 (fits n gs) := L2.Paired.mapP P6 fun v c q => q.same s7
        have l7 := Paired.len P7
        refine ⟨_, rfl, fl, rfl, ⟨_, SqL.of hfl7⟩, fun D2 hD2 => ?_⟩
        refine lc_list (K := K) (a := fl) (xs := ys6) (Pv := fun i H' => Same H7 H' ∧ ∃ ks : List Addr, H' D2 = some (.lst (ks.map V.ref)) ∧ Paired (fun k c => era D2 H' k = some (.lst (intsV (chKey c 0)))) ks ((fits n gs).take i)) ⟨Same.new hD2, [], upd_same, .nil⟩ (fun i H' _ h => SqL.of (h.1 _ _ hfl7)) (fun i x H' hi ⟨s8, ks, h8, p8⟩ => ?_) fun H8 ⟨s8, ks, h8, p8⟩ => ?_
        · obtain ⟨c8, hc8, q8, rfl, R8⟩ := Paired.at_ P7 hi
          refine ⟨rfl, yesT ⟨_, rfl, _, rfl, _, rfl, n, gl, q8, gs, c8, rfl, AG ((F4.same s47).same s8), List.mem_of_getElem? hc8, R8.same s8, fun H9 kk s9 hk0 hk => ?_⟩⟩
          have hD9 := s9 _ _ h8
          have nkD : kk ≠ D2 := fun e => by rw [e, h8] at hk0; cases hk0
          have lks : ks.length ≤ 100000 := by
            rw [Paired.len p8]
            exact Nat.le_trans (List.length_take_le' _ _) hcount
          refine ⟨_, hD9, sizeLine_gt (by rw [List.length_map]; omega), Same.write (s8.trans s9) hD2, ks ++ [kk], by rw [upd_same]; simp, ?_⟩
          have etk : (fits n gs).take (i + 1) = (fits n gs).take i ++ [c8] := by rw [List.take_add_one, hc8]; rfl
          rw [etk]
          have er : era D2 (L2.upd H9 D2 (.lst (ks.map V.ref ++ [.ref kk]))) = era D2 H9 := era_upd
          rw [er]
          exact Paired.app (L2.Paired.mapP p8 fun b c q => era_same s9 _ _ q) (.cons (by rw [era_ne nkD]; exact hk) .nil)
        · rw [l7, List.take_length] at p8
          have P8 : Paired (fun k c => H8 k = some (.lst (intsV (chKey c 0)))) ks (fits n gs) := L2.Paired.mapP p8 fun b c q => era_le _ _ q
          have lk := Paired.len P8
          have s48 := s47.trans s8
          have h03 : Same H H8 := (s3.trans s37).trans s8
          have hpl8 : FL H8 pl gs := F5.same ((s6.trans s7).trans s8)
          refine ⟨_, rfl, D2, _, rfl, .inl (SqL.of h8), _, rfl, _, rfl, n, pl, gs, rfl, AG hpl8, fun H9 s9 => ?_⟩
          have h89 := s9 _ _ h8
          refine ⟨rfl, false, nF (by rw [List.length_map, lk]), iteF ?_⟩
          refine ⟨_, rfl, _, rfl, fsD gs, fsD gs, Dp.fs (hpl8.same s9), Dp.fs ((F4.same s48).same s9), (fsD_shaped gs).1, (fsD_shaped gs).1, ?_⟩
          rw [fsD_refl]
          refine ⟨false, rfl, iteF ?_⟩
          have P9 : Paired (fun k c => H9 k = some (.lst (intsV (chKey c 0)))) ks (fits n gs) := L2.Paired.mapP P8 fun b c q => s9 _ _ q
          refine ⟨_, rfl, .none, _, .non, .lst (SqL.of h89) (DpAll.keys P9), by decide +kernel, keys_shaped _, ?_⟩
          rw [none_keys]
          refine ⟨false, rfl, iteF ?_⟩
          refine ⟨_, rfl, _, rfl, w0, n, W, cc, rfl, ⟨l, r, o, s9 _ _ (h03 _ _ hw1), s9 _ _ (h03 _ _ hwl), s9 _ _ (h03 _ _ hwr), s9 _ _ (h03 _ _ hwo)⟩, S, hn, fun H10 kk s10 hk0 hk => ?_⟩
          have P10 : Paired (fun k c => H10 k = some (.lst (intsV (chKey c 0)))) ks (fits n gs) := L2.Paired.mapP P9 fun b c q => s10 _ _ q
          have h810 := s10 _ _ h89
          refine ⟨_, rfl, _, _, Dp.ints (SqL.of hk), .lst (SqL.of h810) (DpAll.keys P10), shaped_ints _, keys_shaped _, ?_⟩
          rw [key_keys mc]
          refine ⟨false, rfl, iteF ?_⟩
          have h010 : Same H H10 := (h03.trans s9).trans s10
          have l0 : 0 < ks.length := by rw [lk]; exact List.length_pos_of_mem mc
          refine ⟨_, rfl, D2, _, rfl, .inl (SqL.of h810), _, _, rfl, ⟨by omega, by omega, by rw [List.length_map]; omega, by rw [List.length_map]; omega⟩, ?_⟩
          rw [show (((ks.map V.ref).length : Int) - 1).toNat = ks.length - 1 by rw [List.length_map]; omega]
          refine for_range (lo := 1) (n := ks.length - 1) (fun i σ H' => H10 = H' ∧ ∃ v8, σ = [some (.int n), some (.ref a), some (.ref w0), some (.ref ml), some (.ref gl), some (.ref pl), some (.ref fl), some (.ref D2), v8, none, none]) ⟨rfl, _, rfl⟩ ?_ ?_
          · rintro i σ _ hi ⟨rfl, v8, rfl⟩
            have hi1 : i < ks.length := by omega
            have hi2 : i + 1 < ks.length := by omega
            have e1 : ks[i]? = some ks[i] := List.getElem?_eq_getElem hi1
            have e2 : ks[i + 1]? = some ks[i + 1] := List.getElem?_eq_getElem hi2
            obtain ⟨c1, hc1, k1⟩ := Paired.at_ P10 e1
            obtain ⟨c2, hc2, k2⟩ := Paired.at_ P10 e2
            refine ⟨_, rfl, _, rfl, _, _, rfl, rfl, D2, _, _, .ref ks[i], rfl, rfl, SqL.of h810, at_of (j := i) (by omega) (by simp [hi1]), ?_⟩
            refine ⟨_, rfl, _, rfl, D2, _, _, .ref ks[i + 1], rfl, rfl, SqL.of h810, at_of (j := i + 1) (by omega) (by simp [hi2]), ?_⟩
            refine ⟨_, _, _, _, rfl, rfl, k1, k2, ?_⟩
            rw [fits_lt hc1 hc2 (Nat.lt_succ_self i)]
            exact ⟨true, rfl, iteF ⟨rfl, _, rfl⟩⟩
          · rintro σ _ ⟨rfl, v8, rfl⟩
            exact k _ h010
      · obtain ⟨xs2, hx2, hl2⟩ := F2.len
        refine ⟨_, rfl, m0, _, rfl, .inl (SqL.of hx2), rfl, ?_⟩
        by_cases h0 : (((List.range' 1 n).filter fun x => !W.O x).map Ft.inn).take 1 = []
        · refine ⟨true, dT (by rw [hl2, h0]; rfl), iteT ?_⟩
          have all_o : ∀ x, 1 ≤ x → x ≤ n → W.O x = true := fun x h1 h2 => by
            have e0 : ((List.range' 1 n).filter fun x => !W.O x) = [] := by
              cases q : ((List.range' 1 n).filter fun x => !W.O x) with
              | nil => rfl
              | cons y ys => rw [q] at h0; cases h0
            have := List.filter_eq_nil_iff.mp e0 x (mem_range'_1.mpr ⟨h1, by omega⟩)
            cases e : W.O x with
            | true => rfl
            | false => rw [e] at this; exact absurd rfl this
          refine ⟨_, rfl, _, _, rfl, rfl, _, _, rfl, ⟨by omega, by omega, by omega, by omega⟩, fun D2 hD2 => ?_⟩
          dsimp only
          rw [show ((n : Int) + 1 - 1).toNat = n by omega]
          refine lc_range (lo := 1) (n := n) (Pv := fun i H' => Same H2 H' ∧ FL H' D2 ((List.range' 1 i).map Ft.out)) ⟨Same.new hD2, .nil upd_same⟩ (fun i H' hi ⟨s3, F3⟩ => ?_) fun H3 ⟨s3, F3⟩ => ?_
          · obtain ⟨ys, hy, hly⟩ := F3.len
            rw [List.length_map, List.length_range'] at hly
            refine ⟨rfl, yesT ⟨_, rfl, by show 2 ≤ sizeLine; decide, fun t ht => ?_⟩⟩
            have nDt : D2 ≠ t := ne_of_none hy ht
            refine ⟨ys, by rw [upd_ne nDt]; exact hy, sizeLine_gt (by omega), Same.write (Same.upd s3 ht) hD2, ?_⟩
            rw [range'_snoc, List.map_append]
            refine (F3.same (Same.new ht)).push (by rw [upd_ne nDt]; exact hy) ?_
            show L2.upd _ t _ t = _
            rw [upd_same, show (1 : Int) + (i : Int) = ((1 + i : Nat) : Int) by omega]
            rfl
          · refine fin _ _ ⟨D2, _, rfl, s2.trans s3, F3, by rw [List.length_map, List.length_range']; exact hn, fun f hf => ?_⟩
            obtain ⟨x, hx, rfl⟩ := List.mem_map.mp hf
            rw [mem_range'_1] at hx
            exact ⟨⟨by omega, by omega⟩, all_o x hx.1 (by omega)⟩
        · refine ⟨false, dF (fun e => h0 (List.length_eq_zero_iff.mp (by rw [hl2] at e; injection e with e; omega))), iteF (fin _ _ ⟨m0, _, rfl, s2, F2, Nat.le_trans (List.length_take_le _ _) (by decide), fun f hf => free_ok f (List.mem_of_mem_take hf)⟩)⟩
end
end LK
end

section
/-! LKCaught -/
set_option maxHeartbeats 4000000
namespace LK
open PySem PySem.Spec PyProof.Rows L2
/-- isinstance(e, c), e the exception that the suite holds, with its dict -/
def rIsX (K : PySem.W.Frag) (a : Addr) (cls : Value) (d : Option Addr) : List V → Hp → VK → Prop := fun xs H Q => ∃ (c : V) (u : Value) (C dd : Addr) (fs : List (Str × V)) (b : Bool), xs = [.ref a, c] ∧ ClsV c u ∧ cls = .ref C ∧ d = some dd ∧ H dd = some (.xd fs) ∧ ExcC K C ∧ PySem.W.kitOne K (.ref C) u = some b ∧ Q (.bl b) H
def rIsXT (K : PySem.W.Frag) (a : Addr) (cls : Value) (d : Option Addr) : List V → Hp → VK → Prop := fun xs H Q => ∃ (tp : Addr) (cs : List V) (us : List Value) (C dd : Addr) (fs : List (Str × V)) (b : Bool), xs = [.ref a, .ref tp] ∧ H tp = some (.tup cs) ∧ Paired ClsV cs us ∧ cls = .ref C ∧ d = some dd ∧ H dd = some (.xd fs) ∧ ExcC K C ∧ PySem.W.kitAny K (.ref C) us = some b ∧ Q (.bl b) H
section
variable {X : Cx} {a : Addr} {oe : Obj} {cls : Value} {d : Option Addr} {pn : List (Addr × Obj)}
theorem inst_exc {X : Cx} {a : Addr} {oe : Obj} {cls : Value} {d : Option Addr} {pn : List (Addr × Obj)} {pins : List (Addr × Obj)} {σ : L2.St} {H : Hp} {s : Shared} (I : Inv (X.suite a ((a, oe) :: pn)) pins σ H s) (hz : Zc cls d oe) (hf : ∃ vs, oe.data = .fields vs) {C dd : Addr} {fs : List (Str × V)} (hc : cls = .ref C) (hd : d = some dd) (hx : H dd = some (.xd fs)) : ∃ od, PySem.W.InstAt s.heap a oe C (some od) := by
  subst hc hd
  obtain ⟨ha, _⟩ := I.pin (a, oe) (List.mem_append_left _ List.mem_cons_self)
  obtain ⟨vs, hd⟩ := hf
  have hx : ObjOk X.prog X.w H s.heap dd (.xd fs) := I.hok dd _ hx
  obtain ⟨mA, hns, hr⟩ := hx
  obtain ⟨od, ho, hl⟩ := lookIn_ns hns
  exact ⟨od, ha, hz.1, by unfold PySem.W.notCls; rw [hd] <;> rfl, by rw [hz.2]; exact ho⟩
theorem kit_exc {K : PySem.W.Frag} {C a : Addr} {ox : Obj} {od : Option Obj} (E : ExcC K C) : PySem.W.KitX K (.ref a) (.ref C) (fun h => PySem.W.InstAt h a ox C od) :=
  PySem.W.kitx_exc (by obtain ⟨cd, hc, _⟩ := PySem.W.any_some E.hd; rw [hc]; rfl) E.hg E.hk E.hs E.ha E.hn E.ht E.hm
theorem call_isX (hz : Zc cls d oe) (hf : ∃ vs, oe.data = .fields vs) : CallR (X.suite a ((a, oe) :: pn)) (.builtin "isinstance") (rIsX X.K a cls d) := by
  intro pins s σ H xs us Q I r h
  obtain ⟨c, u, C, dd, fs, b, rfl, k, ec, ed, hx, E, e, q⟩ := h
  obtain ⟨u1, u2, rfl, r1, r2⟩ := vals2 r
  have e2 := k.eq r2
  subst e2
  cases (show u1 = Value.ref a from r1)
  obtain ⟨od, J⟩ := inst_exc I hz hf ec ed hx
  exact PySem.W.kia_one (kit_exc E) I.kIn J e (fun z => nomatch z) fun tk => ⟨.bl b, H, I.tok tk, rfl, q⟩
theorem call_isXT (hz : Zc cls d oe) (hf : ∃ vs, oe.data = .fields vs) : CallR (X.suite a ((a, oe) :: pn)) (.builtin "isinstance") (rIsXT X.K a cls d) := by
  intro pins s σ H xs us Q I r h
  obtain ⟨tp, cs, ws, C, dd, fs, b, rfl, hT, k, ec, ed, hx, E, e, q⟩ := h
  obtain ⟨u1, u2, rfl, r1, r2⟩ := vals2 r
  cases (show u2 = Value.ref tp from r2)
  cases (show u1 = Value.ref a from r1)
  obtain ⟨od, J⟩ := inst_exc I hz hf ec ed hx
  obtain ⟨_, its, rv, o, h1, h2, n, h3⟩ := (show ObjOk X.prog X.w H s.heap tp (.tup cs) from I.hok tp _ hT)
  have e3 := ClsV.all k rv
  subst e3
  obtain ⟨oc, od, dt, sl⟩ := o
  simp only at h2 h3
  subst h2 h3
  exact PySem.W.kia_tup (kit_exc E) I.kIn J h1 e (fun z => nomatch z) fun tk => ⟨.bl b, H, I.tok tk, rfl, q⟩
end
/-- what the law's catcher asks of an own exception class -/
structure CauC (K : PySem.W.Frag) (C LE LG : Addr) (BS BF : Addr) : Prop where
  ex : ExcC K C
  le : PySem.W.exmOne K (.ref C) (.ref LE) = some true
  lg : PySem.W.kitOne K (.ref C) (.ref LG) = some false
  ve : PySem.W.kitOne K (.ref C) (.type "ValueError") = some true
  ss : PySem.W.kitAny K (.ref C) [.ref BS, .ref BF] = some false
structure CauW (K : PySem.W.Frag) (mg : Str → Option Value) (CB CN LE LG BS BF : Addr) : Prop where
  cb : CauC K CB LE LG BS BF
  cn : CauC K CN LE LG BS BF
  xb : XfC K CB
  xn : XfC K CN
  nb : PySem.W.findIn K (.ref CB) "place" = some none
  nn : PySem.W.findIn K (.ref CN) "size" = some none
  bb : PySem.W.kitOne K (.ref CB) (.ref CB) = some true
  bn : PySem.W.kitOne K (.ref CB) (.ref CN) = some false
  nb' : PySem.W.kitOne K (.ref CN) (.ref CB) = some false
  nn' : PySem.W.kitOne K (.ref CN) (.ref CN) = some true
  mLE : mg "LinkError" = some (.ref LE)
  mLG : mg "LogError" = some (.ref LG)
  mCB : mg "BadPlace" = some (.ref CB)
  mCN : mg "NoFit" = some (.ref CN)
  mBS : mg "BadSize" = some (.ref BS)
  mBF : mg "BadFact" = some (.ref BF)
/-- what is caught, and what it becomes -/
def CauE (CB CN : Addr) (Q : VK) : XK := fun cls d H' => ∃ (b0 b1 : Bool) (z : Int) (dd : Addr), d = some dd ∧ ((cls = .ref CB ∧ b0 = true ∧ b1 = false ∧ H' dd = some (.xd [("place", .int z)])) ∨ (cls = .ref CN ∧ b0 = false ∧ b1 = true ∧ H' dd = some (.xd [("size", .int z)]))) ∧
  ∀ H'' t, Same H' H'' → RefAt H'' t b0 b1 z → Q (.ref t) H''
def TTc (CB CN : Addr) : (XK → Hp → VK → Prop) → Hp → VK → Prop := fun tl H Q => tl (CauE CB CN Q) H fun x H1 => 2 ≤ sizeLine ∧ ∀ p, H1 p = none → Q (.ref p) (L2.upd H1 p (.tup [.str "told", x]))
theorem takes_len {X : Cx} {W : WX} (t : Takes X W) : Takes X (fun cls d σ H => σ.length = X.N.length → W cls d σ H) := fun u s' ⟨a, B, sI, pins, σ, H, cls, d, e, I, nb, up, sky, na, os, ag, w⟩ =>
  t u s' ⟨a, B, sI, pins, σ, H, cls, d, e, I, nb, up, sky, na, os, ag, w I.len⟩
theorem len4 {σ : L2.St} (h : σ.length = 4) : ∃ a b c d, σ = [a, b, c, d] := by
  match σ, h with
  | [a, b, c, d], _ => exact ⟨a, b, c, d, rfl⟩
section
variable {X : Cx} {CB CN LE LG BS BF : Addr}
theorem caught_gives {q : Str} {g : Addr} {cdg : Value} (T : Tx X.mg) (C : CauW X.K X.mg CB CN LE LG BS BF) :
    LamX.GivesTo X N_l_caught "_law_caught" (defScope s_l_caught) g cdg (defBody s_l_caught) "_law_call" q (TTc CB CN) := by
  intro f c' s H Q tl act hc h
  refine ⟨_, pss_one (L2.ps_try_as (X := (cxOf C8.CX0 X.prog X.w X.K X.mg X.base N_l_caught "_law_caught" (defScope s_l_caught) g cdg X.A X.stack s H C8.E0).nox) (i := 1) (c := .ref LE)
      (tb := fun W D σ H => ∃ Ech : XK, (∀ cls d σ' H', Ech cls d H' → σ'.length = N_l_caught.length → W cls d σ' H') ∧ tRet (tTup (tCons (tC (.str "told")) (tCons (fun σZ HZ Q => σZ[0]? = some (some (.ref f)) ∧ HZ c' = some (LamX.CodeO c' q) ∧ tl Ech HZ Q) tNil))) D σ H)
      rfl rfl sc_l_caught.nd rfl rfl ⟨rfl, by decide, .inl C.mLE⟩ LamX.takes0 (fun W pn xe tk _ => ?_) (fun a oe cls d pn hz hf => (pss_cons
    (ps_if (PW.pt (pw_or (pt_val (pe_callB (call_isX hz hf) (by rfl) T.isinstance (by decide +kernel) (pa_cons (pv 1) (pa_cons (pe_glob (v := .ref LG) rfl C.mLG rfl) pa_nil)))) (pw_or1 (pt_not (pt_val (pe_callB (call_isX hz hf) (by rfl) T.isinstance (by decide +kernel) (pa_cons (pv 1) (pa_cons (pe_ty (T := "ValueError") rfl T.ValueError (by decide +kernel)) pa_nil)))))))) (pss_one
    (ps_ret (pe_tup (pa_cons pe_str (pa_cons (pe_lst pa_nil) (pa_cons pe_non pa_nil)))))) pss_nil) (pss_cons
    (ps_set (i := 2) sc_l_caught.nd rfl (Or.inl rfl) (pe_lst (pa_cons (pe_callB (call_isX hz hf) (by rfl) T.isinstance (by decide +kernel) (pa_cons (pv 1) (pa_cons (pe_glob (v := .ref CB) rfl C.mCB rfl) pa_nil))) (pa_cons (pe_callB (call_isX hz hf) (by rfl) T.isinstance (by decide +kernel) (pa_cons (pv 1) (pa_cons (pe_glob (v := .ref CN) rfl C.mCN rfl) pa_nil))) pa_nil)))) (pss_cons
    (ps_set (i := 3) sc_l_caught.nd rfl (Or.inl rfl) pe_non) (pss_cons
    (ps_if (pt_val (pe_callB (call_isX hz hf) (by rfl) T.isinstance (by decide +kernel) (pa_cons (pv 1) (pa_cons (pe_glob (v := .ref CB) rfl C.mCB rfl) pa_nil)))) (pss_one
    (ps_set (i := 3) sc_l_caught.nd rfl (Or.inl rfl) (pe_xf C.xb C.nb hz hf (pv 1)))) pss_nil) (pss_cons
    (ps_if (pt_val (pe_callB (call_isX hz hf) (by rfl) T.isinstance (by decide +kernel) (pa_cons (pv 1) (pa_cons (pe_glob (v := .ref CN) rfl C.mCN rfl) pa_nil)))) (pss_one
    (ps_set (i := 3) sc_l_caught.nd rfl (Or.inl rfl) (pe_xf C.xn C.nn hz hf (pv 1)))) pss_nil) (pss_cons
    (ps_if (pt_val (pe_callB (call_isXT hz hf) (by rfl) T.isinstance (by decide +kernel) (pa_cons (pv 1) (pa_cons (pe_tup (pa_cons (pe_glob (v := .ref BS) rfl C.mBS rfl) (pa_cons (pe_glob (v := .ref BF) rfl C.mBF rfl) pa_nil))) pa_nil)))) (pss_one
    (ps_set (i := 2) sc_l_caught.nd rfl (Or.inl rfl) (pe_lst pa_nil))) pss_nil) (pss_one
    (ps_ret (pe_tup (pa_cons pe_str (pa_cons (pv 2) (pa_cons (pv 3) pa_nil)))))))))))))), ?_⟩
  · refine ⟨fun pins s' σ H' D I h' => ?_⟩
    obtain ⟨Ech, hW, h1⟩ := h'
    have hp := fun p1 p2 => act _ pn xe Ech p1 p2 (takes_len tk) hW
    exact (pss_one (ps_ret (pe_tup (pa_cons pe_str (pa_cons (hp _ _) pa_nil))))).run pins s' σ H' D I h1
  · refine ⟨CauE CB CN Q, fun cls d σ' H' he hlen => ?_, rfl, hc, h⟩
    obtain ⟨y0, y1, y2, y3, rfl⟩ := len4 hlen
    obtain ⟨b0, b1, z, dd, rfl, hcase, k⟩ := he
    rcases hcase with ⟨rfl, rfl, rfl, hx⟩ | ⟨rfl, rfl, rfl, hx⟩
    · refine ⟨true, C.cb.le, fun _ a ha => ?_, fun e => by cases e⟩
      refine ⟨_, rfl, .ref LG, _, CB, dd, _, false, rfl, .own LG, rfl, rfl, hx, C.cb.ex, C.cb.lg, false, rfl, iteF ?_⟩
      refine ⟨_, rfl, .ty "ValueError", _, CB, dd, _, true, rfl, .ty _, rfl, rfl, hx, C.cb.ex, C.cb.ve, true, rfl, iteF ?_⟩
      refine ⟨_, rfl, .ref CB, _, CB, dd, _, true, rfl, .own CB, rfl, rfl, hx, C.cb.ex, C.bb, _, rfl, .ref CN, _, CB, dd, _, false, rfl, .own CN, rfl, rfl, hx, C.cb.ex, C.bn, by show 2 ≤ sizeLine; decide, fun l hl => ?_⟩
      have q1 : Same H' (L2.upd H' l (.lst [.bl true, .bl false])) := Same.new hl
      have hx1 := q1 _ _ hx
      refine ⟨_, rfl, .ref CB, _, CB, dd, _, true, rfl, .own CB, rfl, rfl, hx1, C.cb.ex, C.bb, true, rfl, iteT ?_⟩
      refine ⟨_, rfl, rfl, rfl, dd, _, .int z, rfl, hx1, rfl, ?_⟩
      refine ⟨_, rfl, .ref CN, _, CB, dd, _, false, rfl, .own CN, rfl, rfl, hx1, C.cb.ex, C.bn, false, rfl, iteF ?_⟩
      refine ⟨_, rfl, by show 2 ≤ sizeLine; decide, fun t ht => ?_⟩
      have q2 := Same.new (o := .tup [.ref BS, .ref BF]) ht
      refine ⟨t, _, _, CB, dd, _, false, rfl, upd_same, .cons (.own BS) (.cons (.own BF) .nil), rfl, rfl, q2 _ _ hx1, C.cb.ex, C.cb.ss, false, rfl, iteF ?_⟩
      refine ⟨_, rfl, _, rfl, by show 3 ≤ sizeLine; decide, fun r hr => ?_⟩
      have q3 := Same.new (o := .tup [.str "refused", .ref l, .int z]) hr
      exact k _ r ((q1.trans q2).trans q3) ⟨l, upd_same, q3 _ _ (q2 _ _ upd_same)⟩
    · refine ⟨true, C.cn.le, fun _ a ha => ?_, fun e => by cases e⟩
      refine ⟨_, rfl, .ref LG, _, CN, dd, _, false, rfl, .own LG, rfl, rfl, hx, C.cn.ex, C.cn.lg, false, rfl, iteF ?_⟩
      refine ⟨_, rfl, .ty "ValueError", _, CN, dd, _, true, rfl, .ty _, rfl, rfl, hx, C.cn.ex, C.cn.ve, true, rfl, iteF ?_⟩
      refine ⟨_, rfl, .ref CB, _, CN, dd, _, false, rfl, .own CB, rfl, rfl, hx, C.cn.ex, C.nb', _, rfl, .ref CN, _, CN, dd, _, true, rfl, .own CN, rfl, rfl, hx, C.cn.ex, C.nn', by show 2 ≤ sizeLine; decide, fun l hl => ?_⟩
      have q1 : Same H' (L2.upd H' l (.lst [.bl false, .bl true])) := Same.new hl
      have hx1 := q1 _ _ hx
      refine ⟨_, rfl, .ref CB, _, CN, dd, _, false, rfl, .own CB, rfl, rfl, hx1, C.cn.ex, C.nb', false, rfl, iteF ?_⟩
      refine ⟨_, rfl, .ref CN, _, CN, dd, _, true, rfl, .own CN, rfl, rfl, hx1, C.cn.ex, C.nn', true, rfl, iteT ?_⟩
      refine ⟨_, rfl, rfl, rfl, dd, _, .int z, rfl, hx1, rfl, ?_⟩
      refine ⟨_, rfl, by show 2 ≤ sizeLine; decide, fun t ht => ?_⟩
      have q2 := Same.new (o := .tup [.ref BS, .ref BF]) ht
      refine ⟨t, _, _, CN, dd, _, false, rfl, upd_same, .cons (.own BS) (.cons (.own BF) .nil), rfl, rfl, q2 _ _ hx1, C.cn.ex, C.cn.ss, false, rfl, iteF ?_⟩
      refine ⟨_, rfl, _, rfl, by show 3 ≤ sizeLine; decide, fun r hr => ?_⟩
      have q3 := Same.new (o := .tup [.str "refused", .ref l, .int z]) hr
      exact k _ r ((q1.trans q2).trans q3) ⟨l, upd_same, q3 _ _ (q2 _ _ upd_same)⟩
end
end LK
end

section
/-! LKLaw12 -/
set_option maxHeartbeats 4000000
namespace LK
open PySem PySem.Spec PyProof.Rows L2
/-- without the purse and the tables -/
def dat (p : Addr) (H : Hp) : Hp := fun b => match era p H b with
  | some (.tbl _) => none
  | o => o
theorem dat_of {p b : Addr} {H : Hp} {o : HO} (h : H b = some o) (n : b ≠ p) (nt : ∀ ps, o ≠ .tbl ps) : dat p H b = some o := by
  unfold dat
  rw [era_ne n, h]
  cases o <;> first | rfl | exact absurd rfl (nt _)
theorem dat_inv {p b : Addr} {H : Hp} {o : HO} (h : dat p H b = some o) : H b = some o ∧ b ≠ p ∧ ∀ ps, o ≠ .tbl ps := by
  unfold dat at h
  by_cases n : b = p
  · rw [n, era_p] at h; cases h
  · rw [era_ne n] at h
    cases q : H b with
    | none => rw [q] at h; cases h
    | some u =>
      rw [q] at h
      cases u <;> first | (cases h; done) | (cases h; exact ⟨rfl, n, fun _ e => by cases e⟩)
theorem dat_le {p : Addr} {H : Hp} : Same (dat p H) H := fun b o h => (dat_inv h).1
theorem dat_ext {p : Addr} {H H' : Hp} (e : LamX.ExtN H H') : Same (dat p H) (dat p H') := fun b o h => by
  obtain ⟨h1, h2, h3⟩ := dat_inv h
  exact dat_of (e b o h1 h3) h2 h3
theorem dat_same {p : Addr} {H H' : Hp} (e : Same H H') : Same (dat p H) (dat p H') := dat_ext (LamX.ExtN.of e)
theorem dat_era {p : Addr} {H H' : Hp} (e : Same (era p H) (era p H')) : Same (dat p H) (dat p H') := fun b o h => by
  obtain ⟨h1, h2, h3⟩ := dat_inv h
  have := e b o (by rw [era_ne h2]; exact h1)
  rw [era_ne h2] at this
  exact dat_of this h2 h3
theorem dat_era_le {p : Addr} {H : Hp} : Same (dat p H) (era p H) := fun b o h => by
  obtain ⟨h1, h2, h3⟩ := dat_inv h
  rw [era_ne h2]; exact h1
theorem PurseAt.ext {H H' : Hp} {p c : Addr} (e : LamX.ExtN H H') (h : PurseAt H p c) : PurseAt H' p c := by
  obtain ⟨r, s, cells, h1, h2, h3⟩ := h
  exact ⟨r, s, cells, e _ _ h1 (fun _ z => by cases z), e _ _ h2 (fun _ z => by cases z), h3⟩
theorem purse_lst {H : Hp} {p c : Addr} (h : PurseAt H p c) : ∃ xs, H p = some (HO.lst xs) := h.some.1
theorem tabs_era {T : List (Addr × Str)} {H : Hp} {p : Addr} {xs : List V} (h : LamX.Tabs T H) (hp : H p = some (.lst xs)) : LamX.Tabs T (era p H) := fun t ht => by
  obtain ⟨ps, h1, h2, h3⟩ := h t ht
  refine ⟨ps, by rw [era_ne (fun e => by rw [e, hp] at h1; cases h1)]; exact h1, h2, fun pos cv hc => ?_⟩
  obtain ⟨c, e1, e2⟩ := h3 pos cv hc
  refine ⟨c, e1, ?_⟩
  rw [era_ne (fun e => by rw [e, hp] at e2; unfold LamX.CodeO at e2; cases e2)]; exact e2
/-- a def that makes lambdas: its record names its code object, whose table is at tb -/
def DnC (K : PySem.W.Frag) (mg : Str → Option Value) (base : Heap) (x : Str) (st : Stmt) (tb : Addr) : Prop := ∃ (f : Addr) (oc : Value) (od : Option Addr) (kV doc pm : Value) (an : Option Addr) (c : Addr) (ct : Value) (osl : Array (Option Value)),
  K.lookup f = some ⟨oc, od, .func (PySem.W.fnOf x x (defArgs st) (defBody st) (defScope st) .none kV doc pm an (.ref c) ct), osl⟩ ∧ PySem.W.codeIn K (.ref c) x = true ∧ PySem.W.keepIn K (.ref f) = true ∧ mg x = some (.ref f) ∧ LamX.TabB base mg c tb
section
variable {P : Program} {w : World} {K : PySem.W.Frag} {mg : Str → Option Value} {base : Heap}
theorem calC_of {x : Str} {st : Stmt} {N ps : List Str} {k : Nat} {sp : Sp} {tb : Addr} (D : DnC K mg base x st tb) (S : FnScope N ps (defScope st)) (b : Bd x x st ps) (len : ∀ vs H Q E, sp vs H Q E → vs.length = ps.length)
    (hb : ∀ (f c : Addr) (A : Around) (outer : List Env) (s : Shared) (H : Hp) (vs : List V) (Q : VK) (E : XK), LamX.TabB base mg c tb → Room k (A.deeper (envOfC x (defScope st) s.heap.objs.size f (.ref c))) → sp vs H Q E →
      ∃ t, PSs (cxOf CX0 P w K mg base N x (defScope st) f (.ref c) A outer s H E).nox (defBody st) t ∧ t { nx := fun _ H' => Q .non H', rt := Q } (start N vs) H) : Cal P w K mg base (k + 1) x sp := by
  obtain ⟨f, oc, od, kV, doc, pm, an, c, ct, osl, lk, hcd, kp, hm, TB⟩ := D
  refine ⟨f, _, ps, ?_, hm, kp, (fun_mk lk hcd kp).binds b⟩
  refine fn_of lk hcd S len fun A outer s H vs Q E hr hsp => ?_
  obtain ⟨t, h, q⟩ := hb f c A outer s H vs Q E TB hr hsp
  exact ⟨t, h.nox, q⟩
end
section
variable {X : Cx} {CB CN LE LG BS BF : Addr}
theorem pe_caught {T : List (Addr × Str)} {c tb : Addr} {k j : Nat} {params : Arguments} {body : Expr} {scope : Scope} {t : XK → TE} {p lpos pos : Pos} (TX : Tx X.mg) (C : CauW X.K X.mg CB CN LE LG BS BF) (D : Dn X.K X.mg "_law_caught" s_l_caught) (hg : Gl X "_law_caught")
    (TB : LamX.TabB X.base X.mg c tb) (hcode : X.env.code = .ref c) (hmT : (tb, X.env.qual ++ "<lambda>") ∈ T) (hu : ∀ p ∈ T, p.1 = tb → p.2 = X.env.qual ++ "<lambda>") (hr : Room j X.A) (hj : k + 2 ≤ j) (L : LamX.LamS X.env.scope scope) (hdef : defaultsOf params X.env = ([], []))
    (hbind : ∀ (q : Str) (cl : List (Str × Addr)) (pm cv ctv : Value), bindArgs (PySem.W.kla_fn "<lambda>" q params body scope cl pm cv ctv) ⟨[], []⟩ = pure [])
    (hbody : ∀ (A : Around) (outer : List Env) (s : Shared) (H : Hp) (E : XK) (f c' : Addr), Room k (A.deeper (LamX.lamEnv X scope s.heap.objs.size f c')) → PE (LamX.lamCx X A outer s H E scope f c') body (t E)) :
    PE X (.Call (.Name "_law_caught" p) [.Lambda params body scope lpos] [] pos) (LamX.tLam T (TTc CB CN) t) := by
  obtain ⟨g, fd, F, hm⟩ := D
  have hb := F.binds bd_l_caught
  obtain ⟨oc, od, kV, doc, pm, an, cdv, ct, osl, rfl, lk, hcd⟩ := F.ex
  exact LamX.pe_lamcall hg hm F.kp lk hcd hb sc_l_caught rfl (Or.inl rfl) (caught_gives TX C) TB hcode hmT hu (hr.mono hj) L hdef hbind hbody
end
end LK
end

section
/-! LKLaw13 -/
set_option maxHeartbeats 4000000
namespace LK
open PySem PySem.Spec PyProof.Rows L2
abbrev lamQ (x : Str) : Str := (envOfC x (defScope s_l_places) 0 0 .none).qual ++ "<lambda>"
section
variable {P : Program} {w : World} {K : PySem.W.Frag} {mg : Str → Option Value} {base : Heap} {CK CT CL CF CB CN LE LG BS BF tb : Addr} {T : List (Addr × Str)}
def sp_places (T : List (Addr × Str)) : Sp := fun vs H Q _ => ∃ (p c a : Addr) (n : Nat) (fs : List Ft), vs = [.ref p, .int (n : Nat), .ref a, .int ((fits n fs).length : Nat)] ∧ PurseAt H p c ∧ Args (dat p H) a n fs ∧ LamX.Tabs T (era p H) ∧ (fits n fs).length ≠ 0 ∧
  ∀ H', PurseAt H' p c → Same (dat p H) (dat p H') → LamX.Tabs T (era p H') → Q (.bl true) H'
theorem w_places (TX : Tx mg) (C : CauW K mg CB CN LE LG BS BF) (hmT : (tb, lamQ "_law_places") ∈ T) (hu : ∀ p ∈ T, p.1 = tb → p.2 = lamQ "_law_places") (D : DnC K mg base "_law_places" s_l_places tb) (Dc : Dn K mg "_law_caught" s_l_caught)
    (c_l_draw : Cal P w K mg base 1 "_law_draw" sp_draw) (c_l_key_of : Cal P w K mg base 5 "_law_key_of" (sp_key_of CL CF)) (c_l_refused : Cal P w K mg base 2 "_law_refused" sp_refused) (c_fit_at : CalX P w K mg base 9 "fit_at" (sp_fit_at CL CF CB)) : Cal P w K mg base 13 "_law_places" (sp_places T) := by
  refine calC_of D sc_l_places bd_l_places (fun vs H Q E h => ?_) fun f cd A outer s H vs Q E TB hr h => ?_
  · obtain ⟨p, c, a, n, fs, rfl, _⟩ := h; rfl
  · obtain ⟨p, c, a, n, fs, rfl, hp, g, hT, h0, k⟩ := h
    have hu64 : (A.deeper (envOfC "_law_places" (defScope s_l_places) s.heap.objs.size f (.ref cd))).units + 64 < cLine := hr.units
    refine ⟨_, (pss_cons
    (ps_set (i := 4) sc_l_places.nd rfl (Or.inl rfl) (pe_op op_mod (pe_op op_add (pe_c c_l_draw hr (by decide) rfl (pa_cons (pv 0) (pa_cons (pv 3) pa_nil))) (pe_op op_fdiv (pe_op op_mul (pv 3) (pe_c c_l_draw hr (by decide) rfl (pa_cons (pv 0) (pa_cons pe_int pa_nil)))) pe_int)) (pv 3))) (pss_cons
    (ps_set (i := 5) sc_l_places.nd rfl (Or.inl rfl) (pe_lst (pa_cons (pv 4) (pa_cons (pe_callB (call_min2 rfl) (by rfl) TX.min (by decide +kernel) (pa_cons (pe_op op_add (pv 4) pe_int) (pa_cons (pe_op op_sub (pv 3) pe_int) pa_nil))) pa_nil)))) (pss_cons
    (ps_if (pt_cmpR op_lt (pv 1) pe_int (nomark _)) (pss_one
    (ps_set (i := 5) sc_l_places.nd rfl (Or.inl rfl) (pe_callB cr_sorted (by rfl) TX.sorted (by decide +kernel) (pa_cons (pe_op op_cat (pv 5) (pe_lst (pa_cons pe_int (pa_cons (pe_c c_l_draw hr (by decide) rfl (pa_cons (pv 0) (pa_cons (pv 3) pa_nil))) (pa_cons (pe_op op_sub (pv 3) pe_int) pa_nil))))) pa_nil)))) pss_nil) (pss_cons
    (ps_set (i := 10) sc_l_places.nd rfl (Or.inr rfl) (pe_callTy call_list_of (by rfl) TX.list (by decide +kernel) (pa_cons (pv 2) pa_nil))) (pss_cons
    (ps_setLc (i := 7) (own := [("_law_one", 6)]) (g := gName 6) (tt := tYes) (te := tCall (sp_key_of CL CF) [] E0 (tCons (tVar 1) (tCons (tVar 2) (tCons (tCall (sp_fit_at CL CF CB) [] E0 (tCons (tVar 1) (tCons (tVar 10) (tCons (tVar 6) tNil)))) tNil)))) (by rfl) sc_l_places.nd rfl rfl (sw_true rfl rfl rfl (by decide +kernel)) (pi_list (pv 5)) (blkOk_by (own := [("_law_one", 6)]) (N := N_l_places) (sc := defScope s_l_places) (by decide +kernel)) (fun _ _ _ _ _ => pg_name (i := 6) sc_l_places.nd rfl (Or.inl rfl)) (fun _ _ _ _ _ => pts_nil) (fun _ _ _ _ _ => (pe_c c_l_key_of hr (by decide) rfl (pa_cons (pv 1) (pa_cons (pv 2) (pa_cons (pe_cx c_fit_at hr (by decide) rfl (pa_cons (pv 1) (pa_cons (pv 10) (pa_cons (pv 6) pa_nil)))) pa_nil)))))) (pss_cons
    (ps_for PassesOwn.never rfl (pi_range1 rfl TX.range (pa_cons (pe_callB call_len_seq (by rfl) TX.len PySem.boot_len (pa_cons (pv 7) pa_nil)) pa_nil)) (pg_name (i := 8) sc_l_places.nd rfl (Or.inl rfl)) (pss_cons
    (ps_if (pt_cmpR op_isN (pe_ix ix_list (pv 7) (pv 8) (fun _ _ => rfl)) pe_non (nomark _)) (pss_one
    (ps_ret pe_bl)) pss_nil) (pss_cons
    (ps_if (PW.pt (pw_and (pt_cmpR op_gt (pv 8) pe_int (nomark _)) (pw_and (pt_cmpR op_eq (pe_ix ix_list (pv 5) (pe_op op_sub (pv 8) pe_int) (fun _ _ => rfl)) (pe_ix ix_list (pv 5) (pv 8) (fun _ _ => rfl)) (nomark _)) (pw_and1 (pt_cmpR (op_neD hr.units) (pe_ix ix_list (pv 7) (pe_op op_sub (pv 8) pe_int) (fun _ _ => rfl)) (pe_ix ix_list (pv 7) (pv 8) (fun _ _ => rfl)) (nomark _)))))) (pss_one
    (ps_ret pe_bl)) pss_nil) (pss_one
    (ps_if (PW.pt (pw_and (pt_cmpR op_gt (pv 8) pe_int (nomark _)) (pw_and (pt_cmpR op_lt (pe_ix ix_list (pv 5) (pe_op op_sub (pv 8) pe_int) (fun _ _ => rfl)) (pe_ix ix_list (pv 5) (pv 8) (fun _ _ => rfl)) (nomark _)) (pw_and1 (pt_not (pt_cmpR (op_ltL hu64) (pe_ix ix_list (pv 7) (pe_op op_sub (pv 8) pe_int) (fun _ _ => rfl)) (pe_ix ix_list (pv 7) (pv 8) (fun _ _ => rfl)) (nomark _))))))) (pss_one
    (ps_ret pe_bl)) pss_nil))))) (pss_cons
    (ps_set (i := 9) sc_l_places.nd rfl (Or.inl rfl) (pe_lst (pa_cons (pv 3) pa_nil))) (pss_cons
    (ps_if (pt_cmpR op_lt (pv 1) pe_int (nomark _)) (pss_one
    (ps_set (i := 9) sc_l_places.nd rfl (Or.inl rfl) (pe_lst (pa_cons (pv 3) (pa_cons (pe_op op_sub pe_int pe_int) (pa_cons (pe_op op_add (pe_op op_add (pv 3) pe_int) (pe_c c_l_draw hr (by decide) rfl (pa_cons (pv 0) (pa_cons (pe_op op_pow pe_int pe_int) pa_nil)))) (pa_cons (pe_op op_sub pe_int (pv 3)) pa_nil))))))) pss_nil) (pss_cons
    (ps_for PassesOwn.never rfl (pi_list (pv 9)) (pg_name (i := 6) sc_l_places.nd rfl (Or.inr rfl)) (pss_one
    (ps_if (pt_not (pt_val (pe_c c_l_refused hr (by decide) rfl (pa_cons (pe_caught (k := 9) (t := fun E => tCall (sp_fit_at CL CF CB) [] E (tCons (tVar 1) (tCons (tVar 10) (tCons (tVar 6) tNil)))) TX C Dc rfl TB rfl hmT hu hr (by decide) (LamX.lamS_by (sc := defScope s_l_places) (by decide +kernel)) rfl (fun _ _ _ _ _ => rfl) fun A2 o2 s2 H2 E2 f2 c2 hr2 => pe_cxW c_fit_at hr2 (by decide) (takes_of (E := E2) rfl rfl rfl rfl) (fun _ _ _ _ h => h) rfl (pa_cons (pv 1) (pa_cons (pv 10) (pa_cons (pv 6) pa_nil)))) (pa_cons pe_int (pa_cons (pv 6) pa_nil)))))) (pss_one
    (ps_ret pe_bl)) pss_nil))) (pss_one
    (ps_ret (pe_cmpR (op_eqD hr.units) (pv 10) (pv 2) (nomark _))))))))))))), ?_⟩
    have hn : n ≤ 60 := g.hn
    have hbig : (fits n fs).length < 2 ^ 120 := Nat.lt_of_le_of_lt (fits_le n fs) (cw_small _ (by omega))
    obtain ⟨N, hN⟩ : ∃ N, (fits n fs).length = N := ⟨_, rfl⟩
    have hat : ∀ z : Int, 0 ≤ z → z < N → ∃ cc, (fits n fs)[z.toNat]? = some cc := fun z z0 z1 => ⟨_, List.getElem?_eq_getElem (by omega)⟩
    rw [hN] at h0 hbig ⊢
    refine ⟨_, rfl, _, rfl, p, c, N, rfl, hp, by omega, hbig, fun H1 v1 hv1 hp1 er1 => ?_⟩
    refine ⟨_, rfl, _, rfl, p, c, 1000, rfl, hp1, by decide, by decide, fun H2 v2 hv2 hp2 er2 => ?_⟩
    refine ⟨_, _, rfl, rfl, .inr ⟨by omega, by omega⟩, _, _, rfl, rfl, ⟨by decide, by decide⟩, _, _, rfl, rfl, ?_⟩
    refine ⟨_, rfl, _, _, rfl, rfl, by omega, ?_⟩
    obtain ⟨pl, epl, p0, p1⟩ : ∃ pl : Int, ((v1 : Int) + (N : Int) * (v2 : Int) / 1000) % (N : Int) = pl ∧ 0 ≤ pl ∧ pl < N := ⟨_, rfl, Int.emod_nonneg _ (by omega), Int.emod_lt_of_pos _ (by omega)⟩
    dsimp only
    rw [epl]
    have s2 : Same (era p H) (era p H2) := (era_eq_same er1).trans (era_eq_same er2)
    refine ⟨_, rfl, _, rfl, _, _, rfl, rfl, _, rfl, _, _, rfl, rfl, _, _, rfl, by show 2 ≤ sizeLine; decide, fun pa hpa => ?_⟩
    obtain ⟨nx, enx, nx0, nx1, nxp⟩ : ∃ nx : Int, (if (N : Int) - 1 < pl + 1 then (N : Int) - 1 else pl + 1) = nx ∧ 0 ≤ nx ∧ nx < N ∧ pl ≤ nx := ⟨_, rfl, by split <;> omega, by split <;> omega, by split <;> omega⟩
    dsimp only
    rw [enx]
    have opa := hp2.off hpa
    obtain ⟨H3, e3, hp3, s3, h3⟩ : ∃ H3, L2.upd H2 pa (.lst [.int pl, .int nx]) = H3 ∧ PurseAt H3 p c ∧ Same (era p H) (era p H3) ∧ H3 pa = some (.lst [.int pl, .int nx]) := ⟨_, rfl, hp2.write opa, s2.trans (era_same (Same.new hpa)), upd_same⟩
    dsimp only [gName]
    refine rwH e3 ?_
    refine thenBy (t := tIfS _ _ _) (fun σ H' => ∃ (pb : Addr) (ns : List Int) (v4 : Option V), σ = [some (.ref p), some (.int n), some (.ref a), some (.int (N : Nat)), v4, some (.ref pb), none, none, none, none, none] ∧ PurseAt H' p c ∧ Same (era p H) (era p H') ∧ H' pb = some (.lst (ns.map V.int)) ∧ pb ≠ p ∧ ns.length ≤ 10 ∧ ns.Pairwise (· ≤ ·) ∧ ∀ z ∈ ns, 0 ≤ z ∧ z < N) ?_ fun fin => ?_
    · rintro σ H4 ⟨pb, ns, v4, rfl, hp4, s4, hpb, npb, lns, pw, hin⟩
      have t4 : Same (dat p H) H4 := (dat_era s4).trans dat_le
      obtain ⟨xa, hxa, hla⟩ := (g.l.same t4).len
      refine ⟨_, rfl, a, _, rfl, .inl (SqL.of hxa), fun gl hgl => ?_⟩
      have F5 := (g.l.same t4).lst_of hxa hgl
      have ogl := hp4.off hgl
      obtain ⟨H5, e5, hp5, s5⟩ : ∃ H5, L2.upd H4 gl (.lst xa) = H5 ∧ PurseAt H5 p c ∧ Same H4 H5 := ⟨_, rfl, hp4.write ogl, Same.new hgl⟩
      rw [e5] at F5
      dsimp only [gName]
      refine rwH e5 ?_
      have hpb5 := s5 _ _ hpb
      have t5 := t4.trans s5
      refine ⟨_, rfl, pb, rfl, ⟨_, SqL.of hpb5⟩, fun D hD => ?_⟩
      refine lc_list (K := K) (a := pb) (xs := ns.map V.int) (Pv := fun i H' => Same H5 H' ∧ ∃ ks : List Addr, H' D = some (.lst (ks.map V.ref)) ∧ Paired (fun k z => ∃ cc, (fits n fs)[Int.toNat z]? = some cc ∧ era D H' k = some (.lst (intsV (chKey cc 0)))) ks (ns.take i)) ⟨Same.new hD, [], upd_same, .nil⟩ (fun i H' _ h => SqL.of (h.1 _ _ hpb5)) (fun i x H' hi ⟨s8, ks, h8, p8⟩ => ?_) fun H8 ⟨s8, ks, h8, p8⟩ => ?_
      · obtain ⟨z, hz, rfl⟩ := map_at hi
        obtain ⟨z0, z1⟩ := hin z (List.mem_of_getElem? hz)
        obtain ⟨cc, hcc⟩ := hat z z0 z1
        refine ⟨rfl, yesT ⟨_, rfl, _, rfl, _, rfl, _, rfl, _, rfl, n, gl, fs, z, rfl, ⟨F5.same s8, hn, g.s, g.ok⟩, .inl ⟨cc, z0, hcc, fun H9 q9 s9 hq9 R9 => ?_⟩⟩⟩
        refine ⟨n, a, q9, fs, cc, rfl, (g.up t5).up (s8.trans s9), List.mem_of_getElem? hcc, R9, fun H10 kk s10 hk0 hk => ?_⟩
        have hD10 := s10 _ _ (s9 _ _ h8)
        have s810 := s9.trans s10
        have nkD : kk ≠ D := fun e => by
          have := s9 _ _ h8
          rw [e, this] at hk0; cases hk0
        have lks : ks.length ≤ 100 := by
          rw [Paired.len p8, List.length_take]; omega
        refine ⟨_, hD10, sizeLine_gt (by rw [List.length_map]; omega), Same.write (s8.trans s810) hD, ks ++ [kk], by rw [upd_same]; simp, ?_⟩
        have etk : ns.take (i + 1) = ns.take i ++ [z] := by rw [List.take_add_one, hz]; rfl
        rw [etk]
        have er : era D (L2.upd H10 D (.lst (ks.map V.ref ++ [.ref kk]))) = era D H10 := era_upd
        rw [er]
        exact Paired.app (L2.Paired.mapP p8 fun b c ⟨cc, q1, q2⟩ => ⟨cc, q1, era_same s810 _ _ q2⟩) (.cons ⟨cc, hcc, by rw [era_ne nkD]; exact hk⟩ .nil)
      · rw [List.length_map, List.take_length] at p8
        have P8 : Paired (fun k z => ∃ cc, (fits n fs)[Int.toNat z]? = some cc ∧ H8 k = some (.lst (intsV (chKey cc 0)))) ks ns := L2.Paired.mapP p8 fun b c ⟨cc, q1, q2⟩ => ⟨cc, q1, era_le _ _ q2⟩
        have lk := Paired.len P8
        have hpb8 := s8 _ _ hpb5
        refine ⟨_, rfl, D, _, rfl, .inl (SqL.of h8), _, rfl, by rw [List.length_map]; omega, by rw [List.length_map]; omega, ?_⟩
        rw [List.length_map]
        refine for_range (lo := 0) (n := ks.length) (fun i σ H' => H8 = H' ∧ ∃ v8, σ = [some (.ref p), some (.int n), some (.ref a), some (.int (N : Nat)), v4, some (.ref pb), none, some (.ref D), v8, none, some (.ref gl)]) ⟨rfl, _, rfl⟩ ?_ ?_
        · rintro i σ _ hi ⟨rfl, v8, rfl⟩
          have ez : (0 : Int) + (i : Int) = (i : Int) := Int.zero_add _
          rw [ez]
          have e1 : ks[i]? = some ks[i] := List.getElem?_eq_getElem hi
          obtain ⟨z1, hz1, c1, hc1, k1⟩ := Paired.at_ P8 e1
          refine ⟨_, rfl, _, rfl, D, _, _, .ref ks[i], rfl, rfl, SqL.of h8, at_of (j := i) rfl (by simp [hi]), ?_⟩
          refine ⟨rfl, false, dF (fun e => by cases e), iteF ?_⟩
          cases i with
          | zero =>
            refine ⟨_, rfl, _, _, rfl, rfl, false, dF (by omega), iteF ?_⟩
            exact ⟨_, rfl, _, _, rfl, rfl, false, dF (by omega), iteF ⟨rfl, _, rfl⟩⟩
          | succ m =>
            have hm : m < ks.length := by omega
            have e0 : ks[m]? = some ks[m] := List.getElem?_eq_getElem hm
            obtain ⟨z0, hz0, c0, hc0, k0⟩ := Paired.at_ P8 e0
            have hm2 := (List.getElem?_eq_some_iff.mp hz0).1
            have hi2 := (List.getElem?_eq_some_iff.mp hz1).1
            have le01 : z0 ≤ z1 := by
              have := List.pairwise_iff_getElem.mp pw m (m + 1) hm2 hi2 (Nat.lt_succ_self m)
              rw [(List.getElem?_eq_some_iff.mp hz0).2, (List.getElem?_eq_some_iff.mp hz1).2] at this
              exact this
            obtain ⟨za, zb⟩ := hin z0 (List.mem_of_getElem? hz0)
            have a0 : ∀ {q : Int}, q = (m : Int) → atI (ns.map V.int) q = some (.int z0) := fun e => at_of (j := m) e (by rw [List.getElem?_map, hz0]; rfl)
            have a1 : atI (ns.map V.int) ((m + 1 : Nat) : Int) = some (.int z1) := at_of (j := m + 1) rfl (by rw [List.getElem?_map, hz1]; rfl)
            have b0 : ∀ {q : Int}, q = (m : Int) → atI (ks.map V.ref) q = some (.ref ks[m]) := fun e => at_of (j := m) e (by rw [List.getElem?_map, e0]; rfl)
            have b1 : atI (ks.map V.ref) ((m + 1 : Nat) : Int) = some (.ref ks[m + 1]) := at_of (j := m + 1) rfl (by rw [List.getElem?_map, e1]; rfl)
            refine ⟨_, rfl, _, _, rfl, rfl, true, dT (by omega), iteT ?_⟩
            refine ⟨_, rfl, _, rfl, _, _, rfl, rfl, pb, _, _, _, rfl, rfl, SqL.of hpb8, a0 (by omega), _, rfl, _, rfl, pb, _, _, _, rfl, rfl, SqL.of hpb8, a1, rfl, ?_⟩
            by_cases e : z0 = z1
            · subst e
              rw [hc0] at hc1
              cases hc1
              refine ⟨true, dT rfl, iteT ?_⟩
              refine ⟨_, rfl, _, rfl, _, _, rfl, rfl, D, _, _, _, rfl, rfl, SqL.of h8, b0 (by omega), _, rfl, _, rfl, D, _, _, _, rfl, rfl, SqL.of h8, b1, ?_⟩
              refine ⟨_, _, Dp.ints (SqL.of k0), Dp.ints (SqL.of k1), shaped_ints _, shaped_ints _, ?_⟩
              rw [eqv_ints]
              refine ⟨false, by simp, iteF ?_⟩
              refine ⟨_, rfl, _, _, rfl, rfl, true, dT (by omega), iteT ?_⟩
              refine ⟨_, rfl, _, rfl, _, _, rfl, rfl, pb, _, _, _, rfl, rfl, SqL.of hpb8, a0 (by omega), _, rfl, _, rfl, pb, _, _, _, rfl, rfl, SqL.of hpb8, a1, _, _, rfl, rfl, ?_⟩
              exact ⟨false, dF (by omega), iteF ⟨rfl, _, rfl⟩⟩
            · refine ⟨false, dF (fun q => e (by injection q)), iteF ?_⟩
              refine ⟨_, rfl, _, _, rfl, rfl, true, dT (by omega), iteT ?_⟩
              refine ⟨_, rfl, _, rfl, _, _, rfl, rfl, pb, _, _, _, rfl, rfl, SqL.of hpb8, a0 (by omega), _, rfl, _, rfl, pb, _, _, _, rfl, rfl, SqL.of hpb8, a1, _, _, rfl, rfl, ?_⟩
              refine ⟨true, dT (by omega), iteT ?_⟩
              refine ⟨_, rfl, _, rfl, _, _, rfl, rfl, D, _, _, _, rfl, rfl, SqL.of h8, b0 (by omega), _, rfl, _, rfl, D, _, _, _, rfl, rfl, SqL.of h8, b1, ?_⟩
              refine ⟨_, _, _, _, rfl, rfl, k0, k1, ?_⟩
              rw [fits_lt hc0 hc1 (by omega)]
              exact ⟨true, rfl, iteF ⟨rfl, _, rfl⟩⟩
        · rintro σ _ ⟨rfl, v8, rfl⟩
          have s48 := s5.trans s8
          have hp8 := hp4.same s48
          have e48 : Same (era p H) (era p H8) := s4.trans (era_same s48)
          refine ⟨_, rfl, by show 1 ≤ sizeLine; decide, fun ob hob => ?_⟩
          have oob := hp8.off hob
          obtain ⟨H9, e9, hp9, s9, h9⟩ : ∃ H9, L2.upd H8 ob (.lst [.int (N : Int)]) = H9 ∧ PurseAt H9 p c ∧ Same H8 H9 ∧ H9 ob = some (.lst [.int (N : Int)]) := ⟨_, rfl, hp8.write oob, Same.new hob, upd_same⟩
          dsimp only [gName]
          refine rwH e9 ?_
          refine thenBy (t := tIfS _ _ _) (fun σ H' => ∃ (oc : Addr) (od : List Int), σ = [some (.ref p), some (.int n), some (.ref a), some (.int (N : Nat)), v4, some (.ref pb), none, some (.ref D), v8, some (.ref oc), some (.ref gl)] ∧ PurseAt H' p c ∧ Same (era p H8) (era p H') ∧ H' oc = some (.lst (od.map V.int)) ∧ oc ≠ p ∧ ∀ z ∈ od, z < 0 ∨ (N : Int) ≤ z) ?_ fun fin => ?_
          · rintro σ H10 ⟨oc, od, rfl, hp10, s10, hoc, noc, hod⟩
            have e010 : Same (era p H) (era p H10) := e48.trans s10
            have T10 : LamX.Tabs T (era p H10) := hT.ext e010
            have d8 : Same (dat p H8) (dat p H10) := dat_era s10
            have ng : gl ≠ p := ogl.1
            have Fd8 : FL (dat p H8) gl fs := by
              obtain ⟨ts, q1, q2⟩ := F5.same s8
              exact ⟨ts, dat_of q1 ng (fun _ z => by cases z), L2.Paired.mapP q2 fun t f q => dat_of q (fun e => by
                obtain ⟨_, hpx⟩ := purse_lst hp8
                rw [e] at q
                have : H8 p = some (.tup (ftV f)) := q
                rw [hpx] at this; cases this) (fun _ z => by cases z)⟩
            have doc : dat p H10 oc = some (.lst (od.map V.int)) := dat_of hoc noc (fun _ z => by cases z)
            refine ⟨_, rfl, oc, rfl, ⟨_, SqL.of hoc⟩, for_list (K := K) (a := oc) (xs := od.map V.int) (fun i σ H' => (∃ v6, σ = [some (.ref p), some (.int n), some (.ref a), some (.int (N : Nat)), v4, some (.ref pb), v6, some (.ref D), v8, some (.ref oc), some (.ref gl)]) ∧ PurseAt H' p c ∧ Same (dat p H10) (dat p H') ∧ LamX.Tabs T (era p H'))
              ⟨⟨_, rfl⟩, hp10, Same.refl _, T10⟩ (fun i σ H' _ h => SqL.of (dat_le _ _ (h.2.2.1 _ _ doc))) ?_ ?_⟩
            · rintro i x σ H11 hi ⟨⟨v6, rfl⟩, hp11, s11, T11⟩
              obtain ⟨z, hz, rfl⟩ := map_at hi
              have hzo := hod z (List.mem_of_getElem? hz)
              refine ⟨T11.ext era_le, fun H12 x12 T12 => ?_⟩
              have d12 : Same (dat p H10) (dat p H12) := s11.trans (dat_ext x12)
              refine ⟨_, rfl, _, rfl, _, rfl, n, gl, fs, z, rfl, ⟨Fd8.same ((d8.trans d12).trans dat_le), hn, g.s, g.ok⟩, .inr ⟨by rw [hN]; exact hzo, fun H13 d s13 hd => ?_⟩⟩
              refine ⟨true, false, z, d, rfl, .inl ⟨rfl, rfl, rfl, hd⟩, fun H14 t s14 R => ?_⟩
              refine ⟨_, rfl, t, true, false, 0, z, rfl, R, rfl, rfl, fun H15 s15 => ?_⟩
              have s1215 := (s13.trans s14).trans s15
              have hp15 := (hp11.ext x12).same s1215
              obtain ⟨_, hpx⟩ := purse_lst hp15
              exact ⟨true, rfl, iteF ⟨⟨_, rfl⟩, hp15, d12.trans (dat_same s1215), tabs_era (T12.ext s1215) hpx⟩⟩
            · rintro σ H11 ⟨⟨v6, rfl⟩, hp11, s11, T11⟩
              have d011 : Same (dat p H) (dat p H11) := (dat_era e010).trans s11
              refine ⟨_, rfl, _, rfl, fsD fs, fsD fs, Dp.fs (Fd8.same ((d8.trans s11).trans dat_le)), Dp.fs (g.l.same (d011.trans dat_le)), (fsD_shaped fs).1, (fsD_shaped fs).1, ?_⟩
              rw [fsD_refl]
              exact k _ hp11 d011 T11
          · refine ⟨_, rfl, _, _, rfl, rfl, ?_⟩
            by_cases h15 : n < 15
            · refine ⟨true, dT (by omega), iteT ?_⟩
              refine ⟨_, rfl, _, _, rfl, rfl, _, rfl, _, _, rfl, rfl, _, rfl, _, _, rfl, rfl, ⟨by decide, by decide, by decide⟩, p, c, 1000000, rfl, hp9, by decide, by decide, fun H10 v10 hv10 hp10 er10 => ?_⟩
              refine ⟨_, _, rfl, rfl, _, rfl, _, _, rfl, rfl, by show 4 ≤ sizeLine; decide, fun oc hoc => ?_⟩
              have ooc := hp10.off hoc
              refine fin _ _ ⟨oc, [(N : Int), 0 - 1, (N : Int) + 1 + (v10 : Int), 0 - (N : Int)], rfl, hp10.write ooc, ((era_same s9).trans (era_eq_same er10)).trans (era_same (Same.new hoc)), upd_same, ooc.1, fun z hz => ?_⟩
              simp only [List.mem_cons, List.not_mem_nil, or_false] at hz
              rcases hz with rfl | rfl | rfl | rfl <;> omega
            · exact ⟨false, dF (by omega), iteF (fin _ _ ⟨ob, [(N : Int)], rfl, hp9, era_same s9, h9, oob.1, fun z hz => .inr (by rw [List.mem_singleton.mp hz]; exact Int.le_refl _)⟩)⟩
    · refine ⟨_, rfl, _, _, rfl, rfl, ?_⟩
      by_cases h15 : n < 15
      · refine ⟨true, dT (by omega), iteT ?_⟩
        refine ⟨_, rfl, _, rfl, _, rfl, p, c, N, rfl, hp3, by omega, hbig, fun H4 v4 hv4 hp4 er4 => ?_⟩
        refine ⟨_, rfl, _, _, rfl, rfl, by show 3 ≤ sizeLine; decide, fun q hq => ?_⟩
        have h3' : H4 pa = some (.lst [.int pl, .int nx]) := by rw [era_get er4 opa.1]; exact h3
        have npq : pa ≠ q := ne_of_none h3' hq
        refine ⟨pa, q, _, _, rfl, rfl, by rw [upd_ne npq]; exact h3', upd_same, by show 5 ≤ sizeLine; decide, fun r hr0 => ?_⟩
        refine ⟨r, [pl, nx, 0, (v4 : Int), (N : Int) - 1], rfl, SqL.of upd_same, by show 5 < 64; decide, fun ns' b perm pw hb => ?_⟩
        have q1 : Same H4 (L2.upd H4 q (.lst [.int 0, .int (v4 : Int), .int ((N : Int) - 1)])) := Same.new hq
        have q2 : Same H4 (L2.upd (L2.upd H4 q (.lst [.int 0, .int (v4 : Int), .int ((N : Int) - 1)])) r (.lst ([.int pl, .int nx] ++ [.int 0, .int (v4 : Int), .int ((N : Int) - 1)]))) := Same.upd q1 hr0
        have ob := hp4.off (q2.free hb)
        have q3 := q2.trans (Same.new (o := .lst (ns'.map V.int)) hb)
        refine fin _ _ ⟨b, ns', _, rfl, hp4.same q3, (s3.trans (era_eq_same er4)).trans (era_same q3), upd_same, ob.1, by rw [perm.length_eq]; show 5 ≤ 10; decide, pw, fun z hz => ?_⟩
        have hz := perm.mem_iff.mp hz
        simp only [List.mem_cons, List.not_mem_nil, or_false] at hz
        rcases hz with rfl | rfl | rfl | rfl | rfl <;> omega
      · refine ⟨false, dF (by omega), iteF (fin _ _ ⟨pa, [pl, nx], _, rfl, hp3, s3, h3, opa.1, by show 2 ≤ 10; decide, by simp [nxp], fun z hz => ?_⟩)⟩
        rcases List.mem_cons.mp hz with rfl | hz
        · exact ⟨p0, p1⟩
        · rw [List.mem_singleton.mp hz]; exact ⟨nx0, nx1⟩
end
end LK
end

section
/-! LKLaw14 -/
set_option maxHeartbeats 4000000
namespace LK
open PySem PySem.Spec PyProof.Rows L2
theorem word_known {n : Nat} {gs : List Ft} {f : Ft} (h : f ∈ gs) : wordOf (fits n gs).length (fits n (gs ++ [f])).length ∈ (["sure"] : List Str) := by
  have : (fits n (gs ++ [f])).length = (fits n gs).length := count_sure.mpr fun c hc => fits_sat hc h
  unfold wordOf
  rw [if_pos this]
  exact List.mem_singleton.mpr rfl
theorem word_both {n : Nat} {gs : List Ft} {f : Ft} {c : Ch} (hc : c ∈ fits n gs) (h : satC f c = true) : wordOf (fits n gs).length (fits n (gs ++ [f])).length ∈ (["sure", "open"] : List Str) := by
  unfold wordOf
  have h0 : (fits n (gs ++ [f])).length ≠ 0 := fun e => by
    have := count_never.mp e c hc
    rw [h] at this; cases this
  by_cases e : (fits n (gs ++ [f])).length = (fits n gs).length
  · rw [if_pos e]; exact List.mem_cons_self
  · rw [if_neg e, if_neg h0]; exact List.mem_cons_of_mem _ (List.mem_singleton.mpr rfl)
theorem word_open {n : Nat} {gs : List Ft} {f : Ft} {c d : Ch} (hc : c ∈ fits n gs) (h : satC f c = true) (hd : d ∈ fits n gs) (h' : satC f d = false) : wordOf (fits n gs).length (fits n (gs ++ [f])).length ∈ (["open"] : List Str) := by
  unfold wordOf
  have h0 : (fits n (gs ++ [f])).length ≠ 0 := fun e => by
    have := count_never.mp e c hc
    rw [h] at this; cases this
  have h1 : (fits n (gs ++ [f])).length ≠ (fits n gs).length := fun e => by
    have := count_sure.mp e d hd
    rw [h'] at this; cases this
  rw [if_neg h1, if_neg h0]
  exact List.mem_singleton.mpr rfl
theorem both_nil {n y : Nat} {fs : List Ft} (h : (Ft.inn y).ok n) : (fits n (fs ++ [.inn y, .out y])).length = 0 := by
  have e : fs ++ [Ft.inn y, Ft.out y] = (fs ++ [.inn y]) ++ [.out y] := by simp
  rw [e]
  refine count_never.mpr fun c hc => ?_
  obtain ⟨_, h2⟩ := mem_snoc.mp hc
  have S := stand_of hc
  rw [satC_holds S h] at h2
  rw [satC_holds S (show (Ft.out y).ok n from h)]
  have h2 : (!(play (chPost c)).O y) = true := h2
  show (play (chPost c)).O y = false
  cases q : (play (chPost c)).O y with
  | true => rw [q] at h2; cases h2
  | false => rfl
section
variable {P : Program} {w : World} {K : PySem.W.Frag} {mg : Str → Option Value} {base : Heap} {CK CT CL CF CB CN LE LG BS BF tb : Addr} {T : List (Addr × Str)}
def sp_witnessed (T : List (Addr × Str)) : Sp := fun vs H Q _ => ∃ (p c ws a : Addr) (n : Nat) (fs : List Ft) (W0 W1 : Wd) (c0 c1 : Ch), vs = [.ref p, .int (n : Nat), .ref ws, .ref a] ∧ PurseAt H p c ∧ Worlds (dat p H) ws n W0 W1 ∧ Args (dat p H) a n fs ∧ fs.length ≤ 900 ∧ LamX.Tabs T (era p H) ∧
  c0 ∈ fits n fs ∧ c1 ∈ fits n fs ∧ Stand W0 n c0 ∧ Stand W1 n c1 ∧ ∀ H', PurseAt H' p c → Same (dat p H) (dat p H') → LamX.Tabs T (era p H') → Q (.bl true) H'
theorem w_witnessed (TX : Tx mg) (C : CauW K mg CB CN LE LG BS BF) (hmT : (tb, lamQ "_law_witnessed") ∈ T) (hu : ∀ p ∈ T, p.1 = tb → p.2 = lamQ "_law_witnessed") (D : DnC K mg base "_law_witnessed" s_l_witnessed tb) (Dc : Dn K mg "_law_caught" s_l_caught)
    (c_l_draw : Cal P w K mg base 1 "_law_draw" sp_draw) (c_l_is : Cal P w K mg base 9 "_law_is" sp_is) (c_l_all : Cal P w K mg base 1 "_law_all" sp_all) (c_l_true : Cal P w K mg base 1 "_law_true" sp_true) (c_count_fits : Cal P w K mg base 7 "count_fits" sp_count_fits)
    (c_l_refused : Cal P w K mg base 2 "_law_refused" sp_refused) (c_fit_at : CalX P w K mg base 9 "fit_at" (sp_fit_at CL CF CB)) (c_status : CalX P w K mg base 8 "status" (sp_status CN)) : Cal P w K mg base 13 "_law_witnessed" (sp_witnessed T) := by
  refine calC_of D sc_l_witnessed bd_l_witnessed (fun vs H Q E h => ?_) fun f cd A outer s H vs Q E TB hr h => ?_
  · obtain ⟨p, c, ws, a, n, fs, W0, W1, c0, c1, rfl, _⟩ := h; rfl
  · obtain ⟨p, c, ws, a, n, fs, W0, W1, c0, c1, rfl, hp, hw, g, hl, hT, m0, m1, S0, S1, k⟩ := h
    refine ⟨_, (pss_cons
    (ps_for PassesOwn.never rfl (pi_list (pe_slice sl_list (pv 3) po_none (po_some pe_int))) (pg_name (i := 4) sc_l_witnessed.nd rfl (Or.inl rfl)) (pss_one
    (ps_if (pt_not (pt_val (pe_c c_l_is hr (by decide) rfl (pa_cons (pv 1) (pa_cons (pv 3) (pa_cons (pv 4) (pa_cons (pe_lst (pa_cons pe_str pa_nil)) pa_nil))))))) (pss_one
    (ps_ret pe_bl)) pss_nil))) (pss_cons
    (ps_set (i := 5) sc_l_witnessed.nd rfl (Or.inr rfl) (pe_c c_l_all hr (by decide) rfl (pa_cons (pv 1) (pa_cons (pe_ix ix_list (pv 2) pe_int (fun _ _ => rfl)) pa_nil)))) (pss_cons
    (ps_set (i := 5) sc_l_witnessed.nd rfl (Or.inr rfl) (pe_lc (own := [("_law_k", 10)]) (g := gName 10) (tt := tYes) (te := tOp (rIxL K) (tVar 5) (tCall sp_draw [] E0 (tCons (tVar 0) (tCons (tCB (fun xs H Q => ∃ p ys, xs = [.ref p] ∧ (SqL K H p ys ∨ SqT K H p ys) ∧ Q (.int ys.length) H) (tCons (tVar 5) tNil)) tNil)))) (by rfl) sc_l_witnessed.nd (pi_range1 rfl TX.range (pa_cons pe_int pa_nil)) (blkOk_by (own := [("_law_k", 10)]) (N := N_l_witnessed) (sc := defScope s_l_witnessed) (by decide +kernel)) (fun _ _ _ _ _ => pg_name (i := 10) sc_l_witnessed.nd rfl (Or.inl rfl)) (fun _ _ _ _ _ => pts_nil) (fun _ _ _ _ _ => (pe_ix ix_list (pv 5) (pe_c c_l_draw hr (by decide) rfl (pa_cons (pv 0) (pa_cons (pe_callB call_len_seq (by rfl) TX.len PySem.boot_len (pa_cons (pv 5) pa_nil)) pa_nil))) (fun _ _ => rfl))))) (pss_cons
    (ps_setLc (i := 6) (own := [("_law_fact", 4)]) (g := gName 4) (tt := tNot (tB (tCall sp_true [] E0 (tCons (tOp (rIxL K) (tVar 2) (tC (.int 0))) (tCons (tVar 4) tNil))))) (te := tVar 4) (by rfl) sc_l_witnessed.nd rfl rfl (sw_true rfl rfl rfl (by decide +kernel)) (pi_list (pe_c c_l_all hr (by decide) rfl (pa_cons (pv 1) (pa_cons (pe_ix ix_list (pv 2) pe_int (fun _ _ => rfl)) pa_nil)))) (blkOk_by (own := [("_law_fact", 4)]) (N := N_l_witnessed) (sc := defScope s_l_witnessed) (by decide +kernel)) (fun _ _ _ _ _ => pg_name (i := 4) sc_l_witnessed.nd rfl (Or.inl rfl)) (fun _ _ _ _ _ => pts_one (pt_not (pt_val (pe_c c_l_true hr (by decide) rfl (pa_cons (pe_ix ix_list (pv 2) pe_int (fun _ _ => rfl)) (pa_cons (pv 4) pa_nil)))))) (fun _ _ _ _ _ => (pv 4))) (pss_cons
    (ps_for PassesOwn.never rfl (pi_list (pe_op op_cat (pv 5) (pe_slice sl_list (pv 6) po_none (po_some pe_int)))) (pg_name (i := 4) sc_l_witnessed.nd rfl (Or.inl rfl)) (pss_cons
    (ps_set (i := 7) sc_l_witnessed.nd rfl (Or.inl rfl) (pe_lst (pa_cons pe_str pa_nil))) (pss_cons
    (ps_if (PW.pt (pw_and (pt_val (pe_c c_l_true hr (by decide) rfl (pa_cons (pe_ix ix_list (pv 2) pe_int (fun _ _ => rfl)) (pa_cons (pv 4) pa_nil)))) (pw_and1 (pt_val (pe_c c_l_true hr (by decide) rfl (pa_cons (pe_ix ix_list (pv 2) pe_int (fun _ _ => rfl)) (pa_cons (pv 4) pa_nil))))))) (pss_one
    (ps_set (i := 7) sc_l_witnessed.nd rfl (Or.inl rfl) (pe_lst (pa_cons pe_str (pa_cons pe_str pa_nil))))) pss_nil) (pss_one
    (ps_if (pt_not (pt_val (pe_c c_l_is hr (by decide) rfl (pa_cons (pv 1) (pa_cons (pv 3) (pa_cons (pv 4) (pa_cons (pv 7) pa_nil))))))) (pss_one
    (ps_ret pe_bl)) pss_nil))))) (pss_cons
    (ps_if (pt_cmpR op_eq (pv 1) pe_int (nomark _)) (pss_one
    (ps_ret pe_bl)) pss_nil) (pss_cons
    (ps_set (i := 9) sc_l_witnessed.nd rfl (Or.inr rfl) (pe_op op_add pe_int (pe_c c_l_draw hr (by decide) rfl (pa_cons (pv 0) (pa_cons (pv 1) pa_nil))))) (pss_cons
    (ps_set (i := 8) sc_l_witnessed.nd rfl (Or.inr rfl) (pe_op op_cat (pv 3) (pe_lst (pa_cons (pe_tup (pa_cons pe_str (pa_cons (pv 9) pa_nil))) (pa_cons (pe_tup (pa_cons pe_str (pa_cons (pv 9) pa_nil))) pa_nil))))) (pss_cons
    (ps_if (pt_cmpR op_ne (pe_c c_count_fits hr (by decide) rfl (pa_cons (pv 1) (pa_cons (pe_callTy call_list_of (by rfl) TX.list (by decide +kernel) (pa_cons (pv 8) pa_nil)) pa_nil))) pe_int (nomark _)) (pss_one
    (ps_ret pe_bl)) pss_nil) (pss_cons
    (ps_if (pt_not (pt_val (pe_c c_l_refused hr (by decide) rfl (pa_cons (pe_caught (k := 9) (t := fun E => tCall (sp_fit_at CL CF CB) [] E (tCons (tVar 1) (tCons (tVar 8) (tCons (tC (.int 0)) tNil)))) TX C Dc rfl TB rfl hmT hu hr (by decide) (LamX.lamS_by (sc := defScope s_l_witnessed) (by decide +kernel)) rfl (fun _ _ _ _ _ => rfl) fun A2 o2 s2 H2 E2 f2 c2 hr2 => pe_cxW c_fit_at hr2 (by decide) (takes_of (E := E2) rfl rfl rfl rfl) (fun _ _ _ _ h => h) rfl (pa_cons (pv 1) (pa_cons (pv 8) (pa_cons pe_int pa_nil)))) (pa_cons pe_int (pa_cons pe_int pa_nil)))))) (pss_one
    (ps_ret pe_bl)) pss_nil) (pss_one
    (ps_ret (pe_c c_l_refused hr (by decide) rfl (pa_cons (pe_caught (k := 8) (t := fun E => tCall (sp_status CN) [] E (tCons (tVar 1) (tCons (tVar 8) (tCons (tTup (tCons (tC (.str "in")) (tCons (tVar 9) tNil))) tNil)))) TX C Dc rfl TB rfl hmT hu hr (by decide) (LamX.lamS_by (sc := defScope s_l_witnessed) (by decide +kernel)) rfl (fun _ _ _ _ _ => rfl) fun A2 o2 s2 H2 E2 f2 c2 hr2 => pe_cxW c_status hr2 (by decide) (takes_of (E := E2) rfl rfl rfl rfl) (fun _ _ _ _ h => h) rfl (pa_cons (pv 1) (pa_cons (pv 8) (pa_cons (pe_tup (pa_cons pe_str (pa_cons (pv 9) pa_nil))) pa_nil)))) (pa_cons pe_int (pa_cons (pv 1) pa_nil)))))))))))))))), ?_⟩
    have hn : n ≤ 60 := g.hn
    have h0 : (fits n fs).length ≠ 0 := fun e => by
      rw [List.length_eq_zero_iff.mp e] at m0; cases m0
    have AG : ∀ {H'}, Same (dat p H) H' → Args H' a n fs := fun s => g.up s
    have t0 : Same (dat p H) H := dat_le
    obtain ⟨w0, w1, hws, hw0, hw1⟩ := hw
    obtain ⟨xs, hx, hxl⟩ := (g.l.same t0).len
    refine ⟨_, rfl, _, rfl, a, _, rfl, SqL.of hx, fun b hb => ?_⟩
    have ob := hp.off hb
    have F1 : FL (L2.upd H b (.lst (cutV xs none (some 2)))) b (fs.take 2) := (g.l.same t0).cut 2 hx hb
    obtain ⟨H1, e1, hp1, s1⟩ : ∃ H1, L2.upd H b (.lst (cutV xs none (some 2))) = H1 ∧ PurseAt H1 p c ∧ Same H H1 := ⟨_, rfl, hp.write ob, Same.new hb⟩
    rw [e1] at F1
    obtain ⟨ts1, hb1, pp1⟩ := id F1
    refine ⟨b, rfl, ?_⟩
    rw [e1]
    refine ⟨⟨_, SqL.of hb1⟩, for_list (K := K) (a := b) (xs := ts1.map V.ref) (fun i σ H' => (∃ v4, σ = [some (.ref p), some (.int n), some (.ref ws), some (.ref a), v4, none, none, none, none, none, none]) ∧ Same H1 H') ⟨⟨_, rfl⟩, Same.refl _⟩ (fun i σ H' _ h => SqL.of (h.2 _ _ hb1)) ?_ ?_⟩
    · rintro i x σ H2 hi ⟨⟨v4, rfl⟩, s2⟩
      obtain ⟨t, ht, rfl⟩ := map_at hi
      obtain ⟨ft, hf, hq⟩ := Paired.at_ pp1 ht
      have hm : ft ∈ fs := List.mem_of_mem_take (List.mem_of_getElem? hf)
      refine ⟨_, rfl, _, rfl, _, rfl, by show 1 ≤ sizeLine; decide, fun q hq0 => ?_⟩
      have q1 := Same.new (o := .lst [.str "sure"]) hq0
      refine ⟨n, a, t, q, fs, ft, ["sure"], rfl, AG (((t0.trans s1).trans s2).trans q1), by omega, q1 _ _ (s2 _ _ hq), g.ok ft hm, h0, upd_same, word_known hm, fun H3 s3 => ?_⟩
      exact ⟨true, rfl, iteF ⟨⟨_, rfl⟩, (s2.trans q1).trans s3⟩⟩
    · rintro σ H2 ⟨⟨v4, rfl⟩, s2⟩
      have s02 := s1.trans s2
      have hp2 := hp.same s02
      have t2 : Same (dat p H) H2 := t0.trans s02
      refine ⟨_, rfl, _, rfl, ws, _, _, _, rfl, rfl, SqL.of (t2 _ _ hws), rfl, w0, n, W0, rfl, hw0.same t2, Bnd.of S0, hn, fun H3 aa s3 haa FA => ?_⟩
      have s03 := s02.trans s3
      have hp3 := hp2.same s3
      have t3 : Same (dat p H) H3 := t2.trans s3
      have oaa := hp2.off haa
      obtain ⟨xaa, hxaa⟩ := purse_lst hp3
      have FA3 : FL (era p H3) aa (allF n W0) := FA.era oaa.1 hxaa
      have len3 : (allF n W0).length ≤ 200 := by
        have := allF_len (n := n) (W := W0)
        omega
      have pos3 : 0 < (allF n W0).length := by
        unfold allF allL; simp; omega
      have ok3 : ∀ f ∈ allF n W0, f.ok n ∧ holds W0 f = true := fun f hf => allF_ok (Bnd.of S0) f hf
      generalize allF n W0 = pl0 at FA3 len3 pos3 ok3
      refine ⟨_, rfl, by decide, by decide, fun g5 hg5 => ?_⟩
      have og5 := hp3.off hg5
      obtain ⟨xa3, hxa3, hla3⟩ := FA3.len
      refine lc_range (lo := 0) (n := 2) (Pv := fun i H' => PurseAt H' p c ∧ Same (era p H3) (era p H') ∧ ∃ fs, fs.length = i ∧ (∀ f ∈ fs, f ∈ pl0) ∧ FL (era p H') g5 fs) ⟨hp3.write og5, era_same (Same.new hg5), [], rfl, fun f hf => absurd hf (by simp), .nil (by rw [era_ne og5.1]; exact upd_same)⟩ (fun i H6 hi ⟨hp6, s6, ps, hfl, hsub, F6⟩ => ?_) fun H6 ⟨hp6, s6, ps, hfl, hsub, F6⟩ => ?_
      · have hx6 := s6 _ _ hxa3
        have hx6' := era_le (p := p) _ _ hx6
        refine ⟨rfl, yesT ⟨_, rfl, _, rfl, _, rfl, aa, _, rfl, .inl (SqL.of hx6'), p, c, xa3.length, rfl, hp6, by omega, by omega, fun H7 u hu hp7 er7 => ?_⟩⟩
        obtain ⟨ts7, hts, pts7⟩ := (FA3.same s6)
        rw [hx6] at hts
        cases hts
        have hu' : u < ts7.length := by rw [List.length_map] at hu; exact hu
        obtain ⟨g7, hg7, hq7⟩ := Paired.at_ pts7 (List.getElem?_eq_getElem hu')
        have hx7 : H7 aa = some (.lst (ts7.map V.ref)) := by rw [era_get er7 oaa.1]; exact hx6'
        refine ⟨aa, _, _, .ref ts7[u], rfl, rfl, SqL.of hx7, at_of (j := u) rfl (by simp [hu']), ?_⟩
        have F7 : FL (era p H7) g5 ps := by rw [er7]; exact F6
        obtain ⟨ys, hy, hly⟩ := F7.len
        have hy7 := era_le (p := p) _ _ hy
        refine ⟨ys, hy7, sizeLine_gt (by omega), hp7.write og5, ?_, ps ++ [g7], by simp [hfl], fun f hf => ?_, ?_⟩
        · rw [era_upd_ne og5.1, er7]
          intro b o q
          have := s6 b o q
          rw [upd_ne (ne_of_none q (era_none hg5))]; exact this
        · rcases List.mem_append.mp hf with hf | hf
          · exact hsub f hf
          · rw [List.mem_singleton.mp hf]; exact List.mem_of_getElem? hg7
        · rw [era_upd_ne og5.1]
          exact F7.push hy (by rw [er7]; exact hq7)
      · have e06 : Same (era p H) (era p H6) := (era_same s03).trans s6
        have t6 : Same (dat p H) H6 := (dat_era e06).trans dat_le
        refine ⟨_, rfl, _, rfl, ws, _, _, _, rfl, rfl, SqL.of (t6 _ _ hws), rfl, w1, n, W1, rfl, hw1.same t6, Bnd.of S1, hn, fun H7 b7 s7 hb7 F7 => ?_⟩
        obtain ⟨ts7, hb7x, pts7⟩ := id F7
        have t7 := t6.trans s7
        refine ⟨b7, rfl, ⟨_, SqL.of hb7x⟩, fun D hD => ?_⟩
        have ok7 : ∀ f ∈ allF n W1, f.ok n ∧ holds W1 f = true := fun f hf => allF_ok (Bnd.of S1) f hf
        have len7 : (allF n W1).length ≤ 200 := by
          have := allF_len (n := n) (W := W1)
          omega
        generalize allF n W1 = pl1 at F7 pts7 ok7 len7
        refine lc_list (K := K) (a := b7) (xs := ts7.map V.ref) (Pv := fun i H' => Same H7 H' ∧ FL H' D ((pl1.take i).filter fun f => !holds W0 f)) ⟨Same.new hD, .nil upd_same⟩ (fun i H' _ h => SqL.of (h.1 _ _ hb7x)) (fun i x H' hi ⟨s8, F8⟩ => ?_) fun H8 ⟨s8, F8⟩ => ?_
        · obtain ⟨t, ht, rfl⟩ := map_at hi
          obtain ⟨g8, hg8, hq8⟩ := Paired.at_ pts7 ht
          have okg := ok7 g8 (List.mem_of_getElem? hg8)
          have etk : pl1.take (i + 1) = pl1.take i ++ [g8] := by rw [List.take_add_one, hg8]; rfl
          refine ⟨rfl, _, rfl, ws, _, _, _, rfl, rfl, SqL.of ((t7.trans s8) _ _ hws), rfl, _, rfl, w0, t, n, W0, g8, rfl, hw0.same (t7.trans s8), s8 _ _ hq8, okg.1, ?_⟩
          rw [etk, List.filter_append]
          obtain ⟨ys, hy, hly⟩ := F8.len
          have hl2 : ys.length ≤ 200 := by
            rw [hly]
            refine Nat.le_trans (List.length_filter_le _ _) ?_
            rw [List.length_take]; omega
          cases e : holds W0 g8 with
          | true =>
            refine ⟨true, rfl, iteF ⟨s8, ?_⟩⟩
            rw [List.filter_cons, if_neg (by rw [e]; exact Bool.false_ne_true), List.filter_nil, List.append_nil]
            exact F8
          | false =>
            refine ⟨false, rfl, iteT ⟨_, rfl, ys, hy, sizeLine_gt (by omega), Same.write s8 hD, ?_⟩⟩
            rw [List.filter_cons, if_pos (by rw [e]; rfl)]
            exact F8.push hy (s8 _ _ hq8)
        · rw [List.length_map, Paired.len pts7, List.take_length] at F8
          obtain ⟨yd, hyd, hld⟩ := F8.len
          have s68 := s7.trans s8
          have F68 : FL H8 g5 ps := (F6.same era_le).same s68
          obtain ⟨yg, hyg, hlg⟩ := F68.len
          refine ⟨_, rfl, _, rfl, _, rfl, D, _, rfl, SqL.of hyd, fun m hm => ?_⟩
          have F9 : FL (L2.upd H8 m (.lst (cutV yd none (some 1)))) m ((pl1.filter fun f => !holds W0 f).take 1) := F8.cut 1 hyd hm
          obtain ⟨H9, e9, s9⟩ : ∃ H9, L2.upd H8 m (.lst (cutV yd none (some 1))) = H9 ∧ Same H8 H9 := ⟨_, rfl, Same.new hm⟩
          rw [e9] at F9 ⊢
          obtain ⟨ym, hym, hlm⟩ := F9.len
          have hlm1 : ym.length ≤ 1 := by rw [hlm]; exact List.length_take_le _ _
          refine ⟨g5, m, _, _, rfl, rfl, s9 _ _ hyg, hym, sizeLine_ge (by omega), fun q hq => ?_⟩
          have F10 := (F68.same s9).cat (s9 _ _ hyg) F9 hym hq
          obtain ⟨H10, e10, s10⟩ : ∃ H10, L2.upd H9 q (.lst (yg ++ ym)) = H10 ∧ Same H9 H10 := ⟨_, rfl, Same.new hq⟩
          rw [e10] at F10
          have hall : ∀ f ∈ ps ++ (pl1.filter fun f => !holds W0 f).take 1, f.ok n ∧ (holds W0 f = true ∨ (holds W0 f = false ∧ holds W1 f = true)) := fun f hf => by
            rcases List.mem_append.mp hf with z | z
            · obtain ⟨z1, z2⟩ := ok3 f (hsub f z)
              exact ⟨z1, .inl z2⟩
            · obtain ⟨z1, z2⟩ := List.mem_filter.mp (List.mem_of_mem_take z)
              obtain ⟨z3, z4⟩ := ok7 f z1
              refine ⟨z3, .inr ⟨?_, z4⟩⟩
              cases e : holds W0 f with
              | true => rw [e] at z2; cases z2
              | false => rfl
          generalize ps ++ (pl1.filter fun f => !holds W0 f).take 1 = gf at F10 hall
          obtain ⟨ts10, hq10, pp10⟩ := id F10
          have s610 := (s68.trans s9).trans s10
          have hp10 := hp6.same s610
          have t10 := t6.trans s610
          refine ⟨q, rfl, ?_⟩
          rw [e10]
          refine ⟨⟨_, SqL.of hq10⟩, for_list (K := K) (a := q) (xs := ts10.map V.ref) (fun i σ H' => (∃ v4 v7, σ = [some (.ref p), some (.int n), some (.ref ws), some (.ref a), v4, some (.ref g5), some (.ref D), v7, none, none, none]) ∧ Same H10 H') ⟨⟨_, _, rfl⟩, Same.refl _⟩ (fun i σ H' _ h => SqL.of (h.2 _ _ hq10)) ?_ ?_⟩
          · rintro i x σ H11 hi ⟨⟨v4', v7, rfl⟩, s11⟩
            obtain ⟨t, ht, rfl⟩ := map_at hi
            obtain ⟨ft, hf, hqt⟩ := Paired.at_ pp10 ht
            obtain ⟨okf, hcase⟩ := hall ft (List.mem_of_getElem? hf)
            refine ⟨by show 1 ≤ sizeLine; decide, fun wl hwl => ?_⟩
            obtain ⟨H12, e12, s12, h12⟩ : ∃ H12, L2.upd H11 wl (.lst [.str "open"]) = H12 ∧ Same H11 H12 ∧ H12 wl = some (.lst [.str "open"]) := ⟨_, rfl, Same.new hwl, upd_same⟩
            dsimp only [gName]
            refine rwH e12 ?_
            have t12 := (t10.trans s11).trans s12
            refine thenBy (t := tIfS _ _ _) (fun σ H' => ∃ (wl : Addr) (words : List Str), σ = [some (.ref p), some (.int n), some (.ref ws), some (.ref a), some (.ref t), some (.ref g5), some (.ref D), some (.ref wl), none, none, none] ∧ Same H12 H' ∧ H' wl = some (.lst (words.map V.str)) ∧ wordOf (fits n fs).length (fits n (fs ++ [ft])).length ∈ words) ?_ fun fin => ?_
            · rintro σ H13 ⟨wl, words, rfl, s13, hw13, hin13⟩
              refine ⟨_, rfl, _, rfl, _, rfl, _, rfl, n, a, t, wl, fs, ft, words, rfl, AG (t12.trans s13), by omega, s13 _ _ (s12 _ _ (s11 _ _ hqt)), okf, h0, hw13, hin13, fun H14 s14 => ?_⟩
              exact ⟨true, rfl, iteF ⟨⟨_, _, rfl⟩, ((s11.trans s12).trans s13).trans s14⟩⟩
            · refine ⟨_, rfl, ws, _, _, _, rfl, rfl, SqL.of (t12 _ _ hws), rfl, _, rfl, w0, t, n, W0, ft, rfl, hw0.same t12, s12 _ _ (s11 _ _ hqt), okf, ?_⟩
              rcases hcase with hc0 | ⟨hc0, hc1⟩
              · rw [hc0]
                refine ⟨true, rfl, iteT ?_⟩
                refine ⟨_, rfl, ws, _, _, _, rfl, rfl, SqL.of (t12 _ _ hws), rfl, _, rfl, w1, t, n, W1, ft, rfl, hw1.same t12, s12 _ _ (s11 _ _ hqt), okf, ?_⟩
                have sat0 : satC ft c0 = true := by rw [satC_holds S0 okf]; exact hc0
                cases e1 : holds W1 ft with
                | true =>
                  refine ⟨true, rfl, iteT ⟨by show 2 ≤ sizeLine; decide, fun wl2 hwl2 => ?_⟩⟩
                  exact fin _ _ ⟨wl2, ["sure", "open"], rfl, Same.new hwl2, upd_same, word_both m0 sat0⟩
                | false => exact ⟨false, rfl, iteF (fin _ _ ⟨wl, ["open"], rfl, Same.refl _, h12, word_open m0 sat0 m1 (by rw [satC_holds S1 okf]; exact e1)⟩)⟩
              · rw [hc0]
                exact ⟨false, rfl, iteF (fin _ _ ⟨wl, ["open"], rfl, Same.refl _, h12, word_open m1 (by rw [satC_holds S1 okf]; exact hc1) m0 (by rw [satC_holds S0 okf]; exact hc0)⟩)⟩
          · rintro σ H11 ⟨⟨v4', v7, rfl⟩, s11⟩
            have s611 := s610.trans s11
            have hp11 := hp6.same s611
            have e011 : Same (era p H) (era p H11) := e06.trans (era_same s611)
            have T11 : LamX.Tabs T (era p H11) := hT.ext e011
            refine ⟨_, rfl, rfl, ?_⟩
            by_cases hn0 : n = 0
            · exact ⟨true, dT (by rw [hn0]; rfl), iteT (k _ hp11 (dat_era e011) T11)⟩
            · refine ⟨false, dF (fun e => hn0 (by injection e with e; omega)), iteF ?_⟩
              refine ⟨_, rfl, _, rfl, p, c, n, rfl, hp11, by omega, by omega, fun H12 v hv hp12 er12 => ?_⟩
              refine ⟨_, _, rfl, rfl, ?_⟩
              obtain ⟨y, ey⟩ : ∃ y : Nat, y = v + 1 := ⟨_, rfl⟩
              dsimp only
              rw [show (1 : Int) + (v : Int) = (y : Int) by omega]
              have oky : (Ft.inn y).ok n := ⟨by omega, by omega⟩
              have e012 : Same (era p H) (era p H12) := e011.trans (era_eq_same er12)
              have t12 : Same (dat p H) H12 := (dat_era e012).trans dat_le
              obtain ⟨xa, hxa, hla⟩ := (g.l.same t12).len
              refine ⟨_, rfl, _, rfl, by show 2 ≤ sizeLine; decide, fun x1 hx1 => ?_⟩
              refine ⟨_, rfl, by show 2 ≤ sizeLine; decide, fun x2 hx2 => ?_⟩
              refine ⟨by show 2 ≤ sizeLine; decide, fun q hq => ?_⟩
              have q1 : Same H12 (L2.upd H12 x1 (.tup [.str "in", .int (y : Int)])) := Same.new hx1
              have q2 : Same (L2.upd H12 x1 (.tup [.str "in", .int (y : Int)])) (L2.upd (L2.upd H12 x1 (.tup [.str "in", .int (y : Int)])) x2 (.tup [.str "out", .int (y : Int)])) := Same.new hx2
              have q3 : Same (L2.upd (L2.upd H12 x1 (.tup [.str "in", .int (y : Int)])) x2 (.tup [.str "out", .int (y : Int)])) (L2.upd (L2.upd (L2.upd H12 x1 (.tup [.str "in", .int (y : Int)])) x2 (.tup [.str "out", .int (y : Int)])) q (.lst [.ref x1, .ref x2])) := Same.new hq
              have q03 := (q1.trans q2).trans q3
              have FQ : FL (L2.upd (L2.upd (L2.upd H12 x1 (.tup [.str "in", .int (y : Int)])) x2 (.tup [.str "out", .int (y : Int)])) q (.lst [.ref x1, .ref x2])) q [.inn y, .out y] := by
                refine ⟨[x1, x2], upd_same, .cons (q3 _ _ (q2 _ _ ?_)) (.cons (q3 _ _ ?_) .nil)⟩
                · exact upd_same
                · exact upd_same
              refine ⟨a, q, _, _, rfl, rfl, q03 _ _ hxa, upd_same, sizeLine_ge (by rw [hla]; show _ + 2 ≤ _; omega), fun bl hbl => ?_⟩
              have FB := ((g.l.same t12).same q03).cat (q03 _ _ hxa) FQ upd_same hbl
              have obl := hp12.off (q03.free hbl)
              obtain ⟨H13, e13, s13⟩ : ∃ H13, L2.upd (L2.upd (L2.upd (L2.upd H12 x1 (.tup [.str "in", .int (y : Int)])) x2 (.tup [.str "out", .int (y : Int)])) q (.lst [.ref x1, .ref x2])) bl (.lst (xa ++ [.ref x1, .ref x2])) = H13 ∧ Same H12 H13 := ⟨_, rfl, q03.trans (Same.new hbl)⟩
              rw [e13] at FB
              dsimp only [gName]
              refine rwH e13 ?_
              have hp13 := hp12.same s13
              have e013 : Same (era p H) (era p H13) := e012.trans (era_same s13)
              have lb : (fs ++ [Ft.inn y, Ft.out y]).length ≤ 999 := by rw [List.length_append]; show _ + 2 ≤ _; omega
              have gok : ∀ f ∈ fs ++ [Ft.inn y, Ft.out y], f.ok n := fun f hf => by
                rcases List.mem_append.mp hf with z | z
                · exact g.ok f z
                · simp only [List.mem_cons, List.not_mem_nil, or_false] at z
                  rcases z with rfl | rfl <;> exact oky
              have nil0 := both_nil (fs := fs) oky
              have FD : FL (dat p H13) bl (fs ++ [Ft.inn y, Ft.out y]) := by
                obtain ⟨ts, z1, z2⟩ := FB
                refine ⟨ts, dat_of z1 obl.1 (fun _ z => by cases z), L2.Paired.mapP z2 fun t f z => dat_of z (fun e => ?_) (fun _ z => by cases z)⟩
                obtain ⟨_, hpx⟩ := purse_lst hp13
                rw [e] at z
                have : H13 p = some (.tup (ftV f)) := z
                rw [hpx] at this; cases this
              generalize fs ++ [Ft.inn y, Ft.out y] = gs at FB lb gok nil0 FD
              have AB : ∀ {H'}, Same (dat p H13) H' → Args H' bl n gs := fun s => ⟨FD.same s, hn, by omega, gok⟩
              obtain ⟨xb, hxb, hlb⟩ := FB.len
              refine ⟨_, rfl, _, rfl, bl, _, rfl, .inl (SqL.of hxb), fun l hl0 => ?_⟩
              have s14 := Same.new (o := .lst xb) hl0
              refine ⟨n, l, gs, rfl, ⟨FB.lst_of hxb hl0, hn, by omega, gok⟩, fun H15 s15 => ?_⟩
              rw [nil0]
              refine ⟨rfl, false, nF rfl, iteF ?_⟩
              have s1315 := s14.trans s15
              have hp15 := hp13.same s1315
              have e015 : Same (era p H) (era p H15) := e013.trans (era_same s1315)
              refine ⟨(hT.ext e015).ext era_le, fun H16 x16 T16 => ?_⟩
              have d16 : Same (dat p H13) (dat p H16) := (dat_same s1315).trans (dat_ext x16)
              refine ⟨_, rfl, _, rfl, n, bl, gs, 0, rfl, AB (d16.trans dat_le), .inr ⟨.inr (by rw [nil0]; exact Int.le_refl _), fun H17 d s17 hd => ?_⟩⟩
              refine ⟨true, false, 0, d, rfl, .inl ⟨rfl, rfl, rfl, hd⟩, fun H18 t s18 R => ?_⟩
              refine ⟨t, true, false, 0, 0, rfl, R, rfl, rfl, fun H19 s19 => ?_⟩
              refine ⟨true, rfl, iteF ?_⟩
              have s1619 := (s17.trans s18).trans s19
              have T19 := T16.ext s1619
              have hp19 := (hp15.ext x16).same s1619
              have d19 : Same (dat p H13) (dat p H19) := d16.trans (dat_same s1619)
              refine ⟨T19, fun H20 x20 T20 => ?_⟩
              have d20 : Same (dat p H13) (dat p H20) := d19.trans (dat_ext x20)
              refine ⟨_, rfl, _, rfl, _, rfl, by show 2 ≤ sizeLine; decide, fun x3 hx3 => ?_⟩
              have s21 := Same.new (o := .tup [.str "in", .int (y : Int)]) hx3
              refine ⟨n, bl, x3, gs, .inn y, rfl, AB ((d20.trans dat_le).trans s21), lb, upd_same, oky, .inr ⟨nil0, fun H22 d2 s22 hd2 => ?_⟩⟩
              refine ⟨false, true, n, d2, rfl, .inr ⟨rfl, rfl, rfl, hd2⟩, fun H23 t2 s23 R2 => ?_⟩
              refine ⟨_, rfl, t2, false, true, 1, n, rfl, R2, rfl, rfl, fun H24 s24 => ?_⟩
              have s2024 := ((s21.trans s22).trans s23).trans s24
              have hp24 := (hp19.ext x20).same s2024
              obtain ⟨_, hpx⟩ := purse_lst hp24
              exact k _ hp24 (((dat_era e013).trans d20).trans (dat_same s2024)) (tabs_era (T20.ext s2024) hpx)
end
end LK
end

section
/-! LKLaw15 -/
set_option maxHeartbeats 4000000
namespace LK
open PySem PySem.Spec PyProof.Rows L2
theorem dat_in {p b : Addr} {H : Hp} {o : HO} (h : era p H b = some o) (nt : ∀ ps, o ≠ .tbl ps) : dat p H b = some o := by
  unfold dat
  rw [h]
  cases o <;> first | rfl | exact absurd rfl (nt _)
theorem fl_dat {H : Hp} {a p : Addr} {fs : List Ft} (h : FL (era p H) a fs) : FL (dat p H) a fs := by
  obtain ⟨ts, h1, h2⟩ := h
  exact ⟨ts, dat_in h1 (fun _ z => by cases z), L2.Paired.mapP h2 fun t f q => dat_in q (fun _ z => by cases z)⟩
theorem world_dat {H : Hp} {a p : Addr} {n : Nat} {W : Wd} (h : WorldAt (era p H) a n W) : WorldAt (dat p H) a n W := by
  obtain ⟨l, r, o, h1, h2, h3, h4⟩ := h
  exact ⟨l, r, o, dat_in h1 (fun _ z => by cases z), dat_in h2 (fun _ z => by cases z), dat_in h3 (fun _ z => by cases z), dat_in h4 (fun _ z => by cases z)⟩
theorem worlds_dat {H : Hp} {a p : Addr} {n : Nat} {W0 W1 : Wd} (h : Worlds (era p H) a n W0 W1) : Worlds (dat p H) a n W0 W1 := by
  obtain ⟨w0, w1, h1, h2, h3⟩ := h
  exact ⟨w0, w1, dat_in h1 (fun _ z => by cases z), world_dat h2, world_dat h3⟩
theorem world_era {H : Hp} {a p c : Addr} {n : Nat} {W : Wd} (h : WorldAt H a n W) (hp : PurseAt H p c) : WorldAt (era p H) a n W := by
  obtain ⟨l, r, o, h1, h2, h3, h4⟩ := h
  obtain ⟨x, y, cells, q, _⟩ := hp
  have nI : ∀ f : Nat → Int, tabI (n + 2) f ≠ [.int x, .int y, .ref c] := fun f e => by
    have hm : V.ref c ∈ tabI (n + 2) f := by rw [e]; simp
    unfold tabI at hm
    obtain ⟨_, _, z⟩ := List.mem_map.mp hm
    cases z
  have nB : ∀ f : Nat → Bool, tabB (n + 2) f ≠ [.int x, .int y, .ref c] := fun f e => by
    have hm : V.ref c ∈ tabB (n + 2) f := by rw [e]; simp
    unfold tabB at hm
    obtain ⟨_, _, z⟩ := List.mem_map.mp hm
    cases z
  refine ⟨l, r, o, ?_, ?_, ?_, ?_⟩
  · rw [era_ne (fun e => by rw [e, q] at h1; cases h1)]; exact h1
  · rw [era_ne (fun e => by rw [e, q] at h2; exact nI _ (HO.lst.inj (Option.some.inj h2)).symm)]; exact h2
  · rw [era_ne (fun e => by rw [e, q] at h3; exact nI _ (HO.lst.inj (Option.some.inj h3)).symm)]; exact h3
  · rw [era_ne (fun e => by rw [e, q] at h4; exact nB _ (HO.lst.inj (Option.some.inj h4)).symm)]; exact h4
section
variable {P : Program} {w : World} {K : PySem.W.Frag} {mg : Str → Option Value} {base : Heap} {CK CT CL CF CB CN LE LG BS BF tb : Addr} {TS : List (Addr × Str)}
def sp_law (K : PySem.W.Frag) (TS : List (Addr × Str)) : Sp := fun vs H Q _ => ∃ (a : Addr) (ns : List Int), vs = [.ref a] ∧ SqL K H a (ns.map V.int) ∧ ns.length ≤ 1000 ∧ LamX.Tabs TS H ∧ ∀ H', Q (.bl true) H'
theorem w_law (T : Tx mg) (c_l_purse : Cal P w K mg base 1 "_law_purse" (sp_purse K)) (c_l_draw : Cal P w K mg base 1 "_law_draw" sp_draw) (c_l_removal : Cal P w K mg base 2 "_law_removal" sp_removal) (c_l_near : Cal P w K mg base 3 "_law_near" sp_near) (c_l_played : Cal P w K mg base 1 "_law_played" sp_played)
    (c_l_facts : Cal P w K mg base 2 "_law_facts" sp_facts) (c_count_fits : Cal P w K mg base 7 "count_fits" sp_count_fits) (c_l_integer : Cal P w K mg base 1 "_law_integer" sp_integer) (c_l_totals : Cal P w K mg base 9 "_law_totals" sp_totals) (c_l_places : Cal P w K mg base 13 "_law_places" (sp_places TS))
    (c_l_crossing : Cal P w K mg base 10 "_law_crossing" sp_crossing) (c_l_listed : Cal P w K mg base 13 "_law_listed" sp_listed) (c_l_found : Cal P w K mg base 10 "_law_found" sp_found) (c_l_witnessed : Cal P w K mg base 13 "_law_witnessed" (sp_witnessed TS)) (D : Dn K mg "law" s_l_law) : Body P w K mg base "law" s_l_law N_l_law 13 (sp_law K TS) := by
  intro f cdv A outer s H vs Q E hr h
  · obtain ⟨a, ns, rfl, ha, hlen, hT, k⟩ := h
    refine ⟨_, (pss_cons
    (ps_set (i := 1) sc_l_law.nd rfl (Or.inl rfl) (pe_c c_l_purse hr (by decide) rfl (pa_cons (pv 0) pa_nil))) (pss_cons
    (ps_set (i := 2) sc_l_law.nd rfl (Or.inl rfl) (pe_c c_l_draw hr (by decide) rfl (pa_cons (pv 1) (pa_cons pe_int pa_nil)))) (pss_cons
    (ps_set (i := 3) sc_l_law.nd rfl (Or.inl rfl) (pe_c c_l_draw hr (by decide) rfl (pa_cons (pv 1) (pa_cons pe_int pa_nil)))) (pss_cons
    (ps_if (pt_cmpR op_eq (pv 3) pe_int (nomark _)) (pss_one
    (ps_set (i := 2) sc_l_law.nd rfl (Or.inl rfl) (pe_op op_add pe_int (pe_c c_l_draw hr (by decide) rfl (pa_cons (pv 1) (pa_cons pe_int pa_nil)))))) pss_nil) (pss_cons
    (ps_if (pt_cmpR op_eq (pv 3) pe_int (nomark _)) (pss_one
    (ps_set (i := 2) sc_l_law.nd rfl (Or.inl rfl) (pe_op op_add pe_int (pe_c c_l_draw hr (by decide) rfl (pa_cons (pv 1) (pa_cons pe_int pa_nil)))))) pss_nil) (pss_cons
    (ps_set (i := 4) sc_l_law.nd rfl (Or.inl rfl) (pe_c c_l_removal hr (by decide) rfl (pa_cons (pv 1) (pa_cons (pv 2) pa_nil)))) (pss_cons
    (ps_set (i := 5) sc_l_law.nd rfl (Or.inl rfl) (pe_lst (pa_cons (pe_c c_l_played hr (by decide) rfl (pa_cons (pv 2) (pa_cons (pv 4) pa_nil))) (pa_cons (pe_c c_l_played hr (by decide) rfl (pa_cons (pv 2) (pa_cons (pe_c c_l_near hr (by decide) rfl (pa_cons (pv 1) (pa_cons (pv 2) (pa_cons (pv 4) pa_nil)))) pa_nil))) pa_nil)))) (pss_cons
    (ps_set (i := 6) sc_l_law.nd rfl (Or.inl rfl) (pe_c c_l_facts hr (by decide) rfl (pa_cons (pv 1) (pa_cons (pv 2) (pa_cons (pv 5) pa_nil))))) (pss_cons
    (ps_set (i := 7) sc_l_law.nd rfl (Or.inl rfl) (pe_callTy call_list_of (by rfl) T.list (by decide +kernel) (pa_cons (pv 6) pa_nil))) (pss_cons
    (ps_set (i := 8) sc_l_law.nd rfl (Or.inl rfl) (pe_c c_count_fits hr (by decide) rfl (pa_cons (pv 2) (pa_cons (pv 7) pa_nil)))) (pss_cons
    (ps_if (PW.pt (pw_or (pt_not (pt_val (pe_c c_l_integer hr (by decide) rfl (pa_cons (pv 8) pa_nil)))) (pw_or (pt_cmpR op_lt (pv 8) pe_int (nomark _)) (pw_or1 (pt_cmpR (op_neD hr.units) (pv 7) (pv 6) (nomark _)))))) (pss_one
    (ps_ret pe_bl)) pss_nil) (pss_cons
    (ps_if (PW.pt (pw_or (pt_not (pt_val (pe_c c_l_totals hr (by decide) rfl (pa_cons (pv 1) (pa_cons (pv 2) (pa_cons (pv 5) (pa_cons (pv 6) (pa_cons (pv 8) pa_nil)))))))) (pw_or1 (pt_not (pt_val (pe_c c_l_places hr (by decide) rfl (pa_cons (pv 1) (pa_cons (pv 2) (pa_cons (pv 6) (pa_cons (pv 8) pa_nil)))))))))) (pss_one
    (ps_ret pe_bl)) pss_nil) (pss_cons
    (ps_if (pt_cmpR op_gt (pv 2) pe_int (nomark _)) (pss_cons
    (ps_set (i := 9) sc_l_law.nd rfl (Or.inl rfl) (pe_op op_cat (pv 6) (pe_lst (pa_cons (pe_tup (pa_cons pe_str (pa_cons (pv 2) pa_nil))) (pa_cons (pe_tup (pa_cons pe_str (pa_cons (pv 2) pa_nil))) pa_nil))))) (pss_one
    (ps_ret (pe_and (pe_cmpR op_eq (pe_c c_count_fits hr (by decide) rfl (pa_cons (pv 2) (pa_cons (pv 9) pa_nil))) pe_int (nomark _)) (pe_one (pe_c c_l_crossing hr (by decide) rfl (pa_cons (pv 1) (pa_cons (pv 2) (pa_cons (pe_ix ix_list (pv 5) pe_int (fun _ _ => rfl)) (pa_cons (pv 6) pa_nil)))))))))) pss_nil) (pss_cons
    (ps_if (PW.pt (pw_and (pt_cmpR op_eq (pv 3) pe_int (nomark _)) (pw_and1 (pt_not (pt_val (pe_c c_l_listed hr (by decide) rfl (pa_cons (pv 2) (pa_cons (pv 6) (pa_cons (pe_ix ix_list (pv 5) pe_int (fun _ _ => rfl)) pa_nil))))))))) (pss_one
    (ps_ret pe_bl)) pss_nil) (pss_cons
    (ps_if (pt_not (pt_val (pe_c c_l_found hr (by decide) rfl (pa_cons (pv 2) (pa_cons (pv 6) (pa_cons (pe_ix ix_list (pv 5) (pe_c c_l_draw hr (by decide) rfl (pa_cons (pv 1) (pa_cons pe_int pa_nil))) (fun _ _ => rfl)) (pa_cons (pv 8) pa_nil))))))) (pss_one
    (ps_ret pe_bl)) pss_nil) (pss_one
    (ps_ret (pe_and (pe_c c_l_witnessed hr (by decide) rfl (pa_cons (pv 1) (pa_cons (pv 2) (pa_cons (pv 5) (pa_cons (pv 6) pa_nil))))) (pe_one (pe_c c_l_crossing hr (by decide) rfl (pa_cons (pv 1) (pa_cons (pv 2) (pa_cons (pe_ix ix_list (pv 5) pe_int (fun _ _ => rfl)) (pa_cons (pv 6) pa_nil)))))))))))))))))))))))), ?_⟩
    refine ⟨_, rfl, a, ns, rfl, ha, hlen, fun H1 p c s1 hpn hp1 => ?_⟩
    have T1 : LamX.Tabs TS (era p H1) := by
      obtain ⟨_, hpx⟩ := purse_lst hp1
      exact tabs_era (hT.ext s1) hpx
    refine ⟨_, rfl, p, c, 15, rfl, hp1, by decide, by decide, fun H2 n0 hn0 hp2 er2 => ?_⟩
    refine ⟨_, rfl, p, c, 64, rfl, hp2, by decide, by decide, fun H3 sh hsh hp3 er3 => ?_⟩
    have e3 : Same (era p H1) (era p H3) := (era_eq_same er2).trans (era_eq_same er3)
    dsimp only [gName]
    refine thenBy (t := tIfS _ _ _) (fun σ H' => ∃ n1 : Nat, n1 ≤ 60 ∧ σ = [some (.ref a), some (.ref p), some (.int (n1 : Nat)), some (.int (sh : Nat)), none, none, none, none, none, none] ∧ PurseAt H' p c ∧ Same (era p H1) (era p H')) ?_ fun fin => ?_
    · rintro σ H4 ⟨n1, hn1, rfl, hp4, e4⟩
      refine thenBy (t := tIfS _ _ _) (fun σ H' => ∃ n : Nat, n ≤ 60 ∧ (sh = 2 → n ≤ 8) ∧ σ = [some (.ref a), some (.ref p), some (.int (n : Nat)), some (.int (sh : Nat)), none, none, none, none, none, none] ∧ PurseAt H' p c ∧ Same (era p H1) (era p H')) ?_ fun fin => ?_
      · rintro σ H5 ⟨n, hn, hn8, rfl, hp5, e5⟩
        refine ⟨_, rfl, _, rfl, p, c, n, rfl, hp5, hn, fun H6 ra rem hp6 e6 nra hra R => ?_⟩
        obtain ⟨c0, S0⟩ := R.stand
        refine ⟨_, rfl, _, rfl, ra, n, rem, rfl, hra, hn, R, fun H7 b0 s7 hb0 W7 => ?_⟩
        have hp7 := hp6.same s7
        have e7 : Same (era p H1) (era p H7) := (e5.trans e6).trans (era_same s7)
        refine ⟨_, rfl, _, rfl, _, rfl, _, rfl, p, c, ra, n, rem, rfl, hp7, hn, by rw [era_ne nra]; exact s7 _ _ hra, R, fun H8 nb rem1 hp8 e8 nnb hnb R1 => ?_⟩
        obtain ⟨c1, S1⟩ := R1.stand
        refine ⟨nb, n, rem1, rfl, hnb, hn, R1, fun H9 b1 s9 hb1 W9 => ?_⟩
        have hp9 := hp8.same s9
        refine ⟨by show 2 ≤ sizeLine; decide, fun ws hws => ?_⟩
        have s10 := Same.new (o := .lst [.ref b0, .ref b1]) hws
        have ows := hp9.off hws
        obtain ⟨H10, e10, hp10, s10, hws10⟩ : ∃ H10, L2.upd H9 ws (.lst [.ref b0, .ref b1]) = H10 ∧ PurseAt H10 p c ∧ Same H9 H10 ∧ H10 ws = some (.lst [.ref b0, .ref b1]) := ⟨_, rfl, hp9.write ows, s10, upd_same⟩
        dsimp only [gName]
        refine rwH e10 ?_
        have e810 : Same (era p H8) (era p H10) := (era_same s9).trans (era_same s10)
        have e110 : Same (era p H1) (era p H10) := (e7.trans e8).trans e810
        have WW : Worlds (era p H10) ws n (play rem) (play rem1) :=
          ⟨b0, b1, by rw [era_ne ows.1]; exact hws10, ((world_era W7 hp7).same (e8.trans e810)), (world_era (W9.same s10) hp10)⟩
        generalize play rem = W0 at S0 WW
        generalize play rem1 = W1 at S1 WW
        refine ⟨_, rfl, _, rfl, _, rfl, p, c, ws, n, W0, W1, rfl, hp10, WW, Bnd.of S0, hn, fun H11 fa fs hp11 e11 FA lfs hfs => ?_⟩
        have e111 := e110.trans e11
        have m0 : c0 ∈ fits n fs := fits_mem S0 (fun f hf => (hfs f hf).1) fun f hf => (hfs f hf).2.1
        have m1 : c1 ∈ fits n fs := fits_mem S1 (fun f hf => (hfs f hf).1) fun f hf => (hfs f hf).2.2
        have fok : ∀ f ∈ fs, f.ok n := fun f hf => (hfs f hf).1
        have h0 : (fits n fs).length ≠ 0 := fun e => by
          rw [List.length_eq_zero_iff.mp e] at m0; cases m0
        have WD : Worlds (dat p H11) ws n W0 W1 := worlds_dat (WW.same e11)
        have FD : FL (dat p H11) fa fs := fl_dat FA
        have T11 : LamX.Tabs TS (era p H11) := T1.ext e111
        have AG : ∀ {H'}, Same (dat p H11) H' → Args H' fa n fs := fun s => ⟨FD.same s, hn, by omega, fok⟩
        obtain ⟨xa, hxa, hla⟩ := FA.len
        have hxa11 := era_le _ _ hxa
        refine ⟨_, rfl, fa, _, rfl, .inl (SqL.of hxa11), fun pl hpl => ?_⟩
        have FP := (FA.same era_le).lst_of hxa11 hpl
        obtain ⟨H12, e12, s12⟩ : ∃ H12, L2.upd H11 pl (.lst xa) = H12 ∧ Same H11 H12 := ⟨_, rfl, Same.new hpl⟩
        rw [e12] at FP
        dsimp only [gName]
        refine rwH e12 ?_
        refine ⟨_, rfl, _, rfl, n, pl, fs, rfl, ⟨FP, hn, by omega, fok⟩, fun H13 s13 => ?_⟩
        have s1113 := s12.trans s13
        have hp13 := hp11.same s1113
        refine ⟨_, rfl, _, rfl, true, rfl, iteF ?_⟩
        refine ⟨_, rfl, _, _, rfl, rfl, false, dF (by omega), iteF ?_⟩
        refine ⟨_, rfl, _, rfl, fsD fs, fsD fs, Dp.fs (FP.same s13), Dp.fs ((FA.same era_le).same s1113), (fsD_shaped fs).1, (fsD_shaped fs).1, ?_⟩
        rw [fsD_refl]
        refine ⟨false, rfl, iteF ?_⟩
        have e1113 : Same (era p H11) (era p H13) := era_same s1113
        refine ⟨_, rfl, _, rfl, _, rfl, _, rfl, _, rfl, p, c, ws, fa, n, fs, W0, W1, c0, c1, rfl, hp13, (WW.same e11).same e1113, ⟨FA.same e1113, hn, by omega, fok⟩, by omega, m0, m1, S0, S1, fun H14 hp14 e14 => ?_⟩
        refine ⟨true, rfl, iteF ?_⟩
        have e1114 := e1113.trans e14
        have d14 : Same (dat p H11) (dat p H14) := dat_era e1114
        refine ⟨_, rfl, _, rfl, _, rfl, _, rfl, p, c, fa, n, fs, rfl, hp14, AG d14, T11.ext e1114, h0, fun H15 hp15 d15 T15 => ?_⟩
        refine ⟨true, rfl, iteF ?_⟩
        have d1115 := d14.trans d15
        obtain ⟨w0, w1, hw, hw0, hw1⟩ := WD
        refine ⟨_, rfl, _, _, rfl, rfl, ?_⟩
        by_cases h14 : 14 < n
        · refine ⟨true, dT (by omega), iteT ?_⟩
          have t15 : Same (dat p H11) H15 := d1115.trans dat_le
          obtain ⟨xf, hxf, hlf⟩ := (FD.same t15).len
          have oky : (Ft.inn n).ok n := ⟨by omega, by omega⟩
          refine ⟨_, rfl, _, rfl, by show 2 ≤ sizeLine; decide, fun x1 hx1 => ?_⟩
          refine ⟨_, rfl, by show 2 ≤ sizeLine; decide, fun x2 hx2 => ?_⟩
          refine ⟨by show 2 ≤ sizeLine; decide, fun q hq => ?_⟩
          have q1 : Same H15 (L2.upd H15 x1 (.tup [.str "in", .int (n : Int)])) := Same.new hx1
          have q2 : Same (L2.upd H15 x1 (.tup [.str "in", .int (n : Int)])) (L2.upd (L2.upd H15 x1 (.tup [.str "in", .int (n : Int)])) x2 (.tup [.str "out", .int (n : Int)])) := Same.new hx2
          have q3 : Same (L2.upd (L2.upd H15 x1 (.tup [.str "in", .int (n : Int)])) x2 (.tup [.str "out", .int (n : Int)])) (L2.upd (L2.upd (L2.upd H15 x1 (.tup [.str "in", .int (n : Int)])) x2 (.tup [.str "out", .int (n : Int)])) q (.lst [.ref x1, .ref x2])) := Same.new hq
          have q03 := (q1.trans q2).trans q3
          have FQ : FL (L2.upd (L2.upd (L2.upd H15 x1 (.tup [.str "in", .int (n : Int)])) x2 (.tup [.str "out", .int (n : Int)])) q (.lst [.ref x1, .ref x2])) q [.inn n, .out n] := by
            refine ⟨[x1, x2], upd_same, .cons (q3 _ _ (q2 _ _ ?_)) (.cons (q3 _ _ ?_) .nil)⟩
            · exact upd_same
            · exact upd_same
          refine ⟨fa, q, _, _, rfl, rfl, q03 _ _ hxf, upd_same, sizeLine_ge (by rw [hlf]; show _ + 2 ≤ _; omega), fun bl hbl => ?_⟩
          have FB := ((FD.same t15).same q03).cat (q03 _ _ hxf) FQ upd_same hbl
          obtain ⟨H16, e16, s16⟩ : ∃ H16, L2.upd (L2.upd (L2.upd (L2.upd H15 x1 (.tup [.str "in", .int (n : Int)])) x2 (.tup [.str "out", .int (n : Int)])) q (.lst [.ref x1, .ref x2])) bl (.lst (xf ++ [.ref x1, .ref x2])) = H16 ∧ Same H15 H16 := ⟨_, rfl, q03.trans (Same.new hbl)⟩
          rw [e16] at FB
          dsimp only [gName]
          refine rwH e16 ?_
          refine ⟨_, rfl, _, rfl, n, bl, fs ++ [.inn n, .out n], rfl, ⟨FB, hn, by rw [List.length_append]; show _ + 2 ≤ _; omega, fun f hf => ?_⟩, fun H17 s17 => ?_⟩
          · rcases List.mem_append.mp hf with z | z
            · exact fok f z
            · simp only [List.mem_cons, List.not_mem_nil, or_false] at z
              rcases z with rfl | rfl <;> exact oky
          · rw [both_nil oky]
            refine ⟨rfl, true, rfl, iteT ?_⟩
            have s1517 := s16.trans s17
            have d17 : Same (dat p H11) (dat p H17) := d1115.trans (dat_same s1517)
            refine ⟨_, rfl, _, rfl, _, rfl, ws, _, _, _, rfl, rfl, SqL.of ((d17.trans dat_le) _ _ hw), rfl, _, rfl, p, c, w0, fa, n, fs, W0, c0, rfl, hp15.same s1517, hw0.same (d17.trans dat_era_le), AG (d17.trans dat_era_le), by omega, m0, S0, fun H18 _ _ => k _⟩
        · refine ⟨false, dF (by omega), iteF ?_⟩
          dsimp only [tNext]
          refine thenBy (t := tIfS _ _ _) (fun σ H' => σ = [some (.ref a), some (.ref p), some (.int (n : Nat)), some (.int (sh : Nat)), some (.ref ra), some (.ref ws), some (.ref fa), some (.ref pl), some (.int ((fits n fs).length : Nat)), none] ∧ PurseAt H' p c ∧ Same (dat p H11) (dat p H') ∧ LamX.Tabs TS (era p H')) ?_ fun fin => ?_
          · rintro σ H16 ⟨rfl, hp16, d16, T16⟩
            have h40 : (fits n fs).length < 2 ^ 40 := Nat.lt_of_le_of_lt (fits_le n fs) (cw_tiny _ (by omega))
            refine ⟨_, rfl, _, rfl, _, rfl, _, rfl, p, c, 2, rfl, hp16, by decide, by decide, fun H17 v hv hp17 er17 => ?_⟩
            have e17 : Same (era p H16) (era p H17) := era_eq_same er17
            have d17 := d16.trans (dat_era e17)
            have T17 : LamX.Tabs TS (era p H17) := T16.ext e17
            have fin2 : ∀ H18, Same H17 H18 → LamX.Tabs TS (era p H18) ∧ PurseAt H18 p c ∧ Same (dat p H11) (dat p H18) := fun H18 s18 => ⟨T17.ext (era_same s18), hp17.same s18, d17.trans (dat_same s18)⟩
            have t17 : Same (dat p H11) H17 := d17.trans dat_le
            have fin3 : ∀ H18, Same H17 H18 → tRet (tAndV (tCall (sp_witnessed TS) [] E0 (tCons (tVar 1) (tCons (tVar 2) (tCons (tVar 5) (tCons (tVar 6) tNil))))) (tCall sp_crossing [] E0 (tCons (tVar 1) (tCons (tVar 2) (tCons (tOp (rIxL K) (tVar 5) (tC (.int 0))) (tCons (tVar 6) tNil)))))) { nx := fun _ H' => Q .non H', rt := Q } [some (.ref a), some (.ref p), some (.int (n : Nat)), some (.int (sh : Nat)), some (.ref ra), some (.ref ws), some (.ref fa), some (.ref pl), some (.int ((fits n fs).length : Nat)), none] H18 := fun H18 s18 => by
              obtain ⟨T18, hp18, d18⟩ := fin2 H18 s18
              refine ⟨_, rfl, _, rfl, _, rfl, _, rfl, p, c, ws, fa, n, fs, W0, W1, c0, c1, rfl, hp18, ⟨w0, w1, d18 _ _ hw, hw0.same d18, hw1.same d18⟩, AG d18, by omega, T18, m0, m1, S0, S1, fun H19 hp19 d19 T19 => ?_⟩
              have d1119 := d18.trans d19
              refine ⟨true, rfl, iteT ?_⟩
              refine ⟨_, rfl, _, rfl, _, rfl, ws, _, _, _, rfl, rfl, SqL.of ((d1119.trans dat_le) _ _ hw), rfl, _, rfl, p, c, w0, fa, n, fs, W0, c0, rfl, hp19, hw0.same (d1119.trans dat_era_le), AG (d1119.trans dat_era_le), by omega, m0, S0, fun H20 _ _ => k _⟩
            have hv2 : v = 0 ∨ v = 1 := by omega
            rcases hv2 with rfl | rfl
            · refine ⟨ws, _, _, .ref w0, rfl, rfl, SqL.of (t17 _ _ hw), rfl, _, rfl, n, fa, w0, fs, W0, c0, rfl, AG t17, hw0.same t17, S0, m0, h40, fun H18 s18 => ?_⟩
              exact ⟨true, rfl, iteF (fin3 H18 s18)⟩
            · refine ⟨ws, _, _, .ref w1, rfl, rfl, SqL.of (t17 _ _ hw), rfl, _, rfl, n, fa, w1, fs, W1, c1, rfl, AG t17, hw1.same t17, S1, m1, h40, fun H18 s18 => ?_⟩
              exact ⟨true, rfl, iteF (fin3 H18 s18)⟩
          · refine ⟨_, rfl, rfl, ?_⟩
            by_cases h2 : sh = 2
            · refine ⟨true, dT (by rw [h2]; rfl), iteT ?_⟩
              have t15 : Same (dat p H11) H15 := d1115.trans dat_le
              refine ⟨_, rfl, _, rfl, _, rfl, ws, _, _, _, rfl, rfl, SqL.of (t15 _ _ hw), rfl, fa, w1, n, fs, W1, c1, rfl, AG t15, lfs, hn8 h2, hw1.same t15, m1, fun f hf => (hfs f hf).2.2, S1, fun H16 s16 => ?_⟩
              exact ⟨true, rfl, iteF (fin _ _ ⟨rfl, hp15.same s16, d1115.trans (dat_same s16), T15.ext (era_same s16)⟩)⟩
            · exact ⟨false, dF (fun e => h2 (by injection e with e; omega)), iteF (fin _ _ ⟨rfl, hp15, d1115, T15⟩)⟩
      · refine ⟨_, rfl, rfl, ?_⟩
        by_cases h2 : sh = 2
        · refine ⟨true, dT (by rw [h2]; rfl), iteT ?_⟩
          refine ⟨_, rfl, p, c, 2, rfl, hp4, by decide, by decide, fun H5 v hv hp5 er5 => ?_⟩
          refine ⟨_, _, rfl, rfl, fin _ _ ⟨7 + v, by omega, fun _ => by omega, ?_, hp5, e4.trans (era_eq_same er5)⟩⟩
          show [some (V.ref a), some (V.ref p), some (V.int ((7 : Int) + (v : Int))), some (.int (sh : Nat)), none, none, none, none, none, none] = _
          rw [show (7 : Int) + (v : Int) = ((7 + v : Nat) : Int) by omega]
        · exact ⟨false, dF (fun e => h2 (by injection e with e; omega)), iteF (fin _ _ ⟨n1, hn1, fun e => absurd e h2, rfl, hp4, e4⟩)⟩
    · refine ⟨_, rfl, rfl, ?_⟩
      by_cases h1 : sh = 1
      · refine ⟨true, dT (by rw [h1]; rfl), iteT ?_⟩
        refine ⟨_, rfl, p, c, 46, rfl, hp3, by decide, by decide, fun H5 v hv hp5 er5 => ?_⟩
        refine ⟨_, _, rfl, rfl, fin _ _ ⟨15 + v, by omega, ?_, hp5, e3.trans (era_eq_same er5)⟩⟩
        show [some (V.ref a), some (V.ref p), some (V.int ((15 : Int) + (v : Int))), some (.int (sh : Nat)), none, none, none, none, none, none] = _
        rw [show (15 : Int) + (v : Int) = ((15 + v : Nat) : Int) by omega]
      · exact ⟨false, dF (fun e => h1 (by injection e with e; omega)), iteF (fin _ _ ⟨n0, by omega, rfl, hp3, e3⟩)⟩
end
end LK
end

section
/-! LKAll -/
set_option maxHeartbeats 4000000
namespace LK
open PySem PySem.Spec PyProof.Rows L2
/-- all that the walk asks of the head -/
structure Facts (P : Program) (K : PySem.W.Frag) (mg : Str → Option Value) (base : Heap) (CL CF CK CT CB CN LE LG BS BF tp tw : Addr) : Prop where
  T : Tx mg
  ms : mg "super" = none
  cL : CLk K CL
  cF : CFo K CF
  cK : CKn K CK
  cT : CFt K CT
  iF : FoIs K CF
  mF : mg "Forest" = some (.ref CF)
  mL : mg "Links" = some (.ref CL)
  xB : Xc P K mg "BadPlace" CB "place"
  xN : Xc P K mg "NoFit" CN "size"
  cau : CauW K mg CB CN LE LG BS BF
  ne : tp ≠ tw
  d_check_size : Dn K mg "check_size" s_check_size
  d_check_operation : Dn K mg "check_operation" s_check_operation
  d_fact_is_right : Dn K mg "fact_is_right" s_fact_is_right
  d_Links_init : Id K mg "Links" CL "Links.__init__" s_Links_init
  d_Links_built : Sd K CL "built" "Links.built" s_Links_built
  d_Links_left : Md K CL "left" "Links.left" s_Links_left
  d_Links_right : Md K CL "right" "Links.right" s_Links_right
  d_Links_is_out : Md K CL "is_out" "Links.is_out" s_Links_is_out
  d_Links_outs : Md K CL "outs" "Links.outs" s_Links_outs
  d_Links_apply_at : Md K CL "apply_at" "Links.apply_at" s_Links_apply_at
  d_Links_apply : Md K CL "apply" "Links.apply" s_Links_apply
  d_Links_copy : Md K CL "copy" "Links.copy" s_Links_copy
  d_parent_of : Dn K mg "parent_of" s_parent_of
  d_parents_of : Dn K mg "parents_of" s_parents_of
  d_Forest_init : Id K mg "Forest" CF "Forest.__init__" s_Forest_init
  d_Forest_grown : Sd K CF "grown" "Forest.grown" s_Forest_grown
  d_Forest_contains : Md K CF "__contains__" "Forest.__contains__" s_Forest_contains
  d_Forest_after : Cd K CF "after" "Forest.after" s_Forest_after
  d_Forest_str : Md K CF "__str__" "Forest.__str__" s_Forest_str
  d_check_facts : Dn K mg "check_facts" s_check_facts
  d_note_link : Dn K mg "note_link" s_note_link
  d_Known_init : Id K mg "Known" CK "Known.__init__" s_Known_init
  d_Known_links_agree : Md K CK "links_agree" "Known.links_agree" s_Known_links_agree
  d_Known_may_be_root : Md K CK "may_be_root" "Known.may_be_root" s_Known_may_be_root
  d_Known_may_be_neighbours : Md K CK "may_be_neighbours" "Known.may_be_neighbours" s_Known_may_be_neighbours
  d_FitTable_rooted : Md K CT "rooted" "FitTable.rooted" s_FitTable_rooted
  d_FitTable_continued : Md K CT "continued" "FitTable.continued" s_FitTable_continued
  d_FitTable_fill_trees : Md K CT "fill_trees" "FitTable.fill_trees" s_FitTable_fill_trees
  d_FitTable_fill_chains : Md K CT "fill_chains" "FitTable.fill_chains" s_FitTable_fill_chains
  d_FitTable_init : Id K mg "FitTable" CT "FitTable.__init__" s_FitTable_init
  d_FitTable_tree_at : Md K CT "tree_at" "FitTable.tree_at" s_FitTable_tree_at
  d_FitTable_member : Md K CT "member" "FitTable.member" s_FitTable_member
  d_count_fits : Dn K mg "count_fits" s_count_fits
  d_fit_at : Dn K mg "fit_at" s_fit_at
  d_status : Dn K mg "status" s_status
  d_each_fit : Dn K mg "each_fit" s_each_fit
  d_l_draw : Dn K mg "_law_draw" s_l_draw
  d_l_purse : Dn K mg "_law_purse" s_l_purse
  d_l_removal : Dn K mg "_law_removal" s_l_removal
  d_l_near : Dn K mg "_law_near" s_l_near
  d_l_played : Dn K mg "_law_played" s_l_played
  d_l_true : Dn K mg "_law_true" s_l_true
  d_l_all : Dn K mg "_law_all" s_l_all
  d_l_facts : Dn K mg "_law_facts" s_l_facts
  d_l_key : Dn K mg "_law_key" s_l_key
  d_l_read : Dn K mg "_law_read" s_l_read
  d_l_integer : Dn K mg "_law_integer" s_l_integer
  d_l_refused : Dn K mg "_law_refused" s_l_refused
  d_l_key_of : Dn K mg "_law_key_of" s_l_key_of
  d_l_found : Dn K mg "_law_found" s_l_found
  d_l_is : Dn K mg "_law_is" s_l_is
  d_l_parts : Dn K mg "_law_parts" s_l_parts
  d_l_totals : Dn K mg "_law_totals" s_l_totals
  d_l_crossing : Dn K mg "_law_crossing" s_l_crossing
  d_l_listed : Dn K mg "_law_listed" s_l_listed
  d_l_places : DnC K mg base "_law_places" s_l_places tp
  d_l_caught : Dn K mg "_law_caught" s_l_caught
  d_l_witnessed : DnC K mg base "_law_witnessed" s_l_witnessed tw
  d_l_law : Dn K mg "law" s_l_law
theorem law_cal {P : Program} {w : World} {K : PySem.W.Frag} {mg : Str → Option Value} {base : Heap} {CL CF CK CT CB CN LE LG BS BF tp tw : Addr} (F : Facts P K mg base CL CF CK CT CB CN LE LG BS BF tp tw) : Body P w K mg base "law" s_l_law N_l_law 13 (sp_law K [(tp, lamQ "_law_places"), (tw, lamQ "_law_witnessed")]) := by
  have hmP : (tp, lamQ "_law_places") ∈ [(tp, lamQ "_law_places"), (tw, lamQ "_law_witnessed")] := List.mem_cons_self
  have hmW : (tw, lamQ "_law_witnessed") ∈ [(tp, lamQ "_law_places"), (tw, lamQ "_law_witnessed")] := List.mem_cons_of_mem _ List.mem_cons_self
  have huP : ∀ p ∈ [(tp, lamQ "_law_places"), (tw, lamQ "_law_witnessed")], p.1 = tp → p.2 = lamQ "_law_places" := fun p hp e => by
    simp only [List.mem_cons, List.not_mem_nil, or_false] at hp
    rcases hp with rfl | rfl
    · rfl
    · exact absurd e.symm F.ne
  have huW : ∀ p ∈ [(tp, lamQ "_law_places"), (tw, lamQ "_law_witnessed")], p.1 = tw → p.2 = lamQ "_law_witnessed" := fun p hp e => by
    simp only [List.mem_cons, List.not_mem_nil, or_false] at hp
    rcases hp with rfl | rfl
    · exact absurd e F.ne
    · rfl
  have w_c_check_size : Cal P w K mg base 1 "check_size" sp_check_size := w_check_size F.T F.d_check_size
  have w_c_check_operation : Cal P w K mg base 1 "check_operation" sp_check_operation := w_check_operation F.T F.d_check_operation
  have w_c_fact_is_right : Cal P w K mg base 1 "fact_is_right" sp_fact_is_right := w_fact_is_right F.T F.d_fact_is_right
  have w_c_Links_init : Mak P w K mg base 2 "Links" CL (sp_Links_init CL) := w_Links_init F.T F.cL F.d_Links_init w_c_check_size
  have w_c_Links_built : Sta P w K mg base 4 CL "built" (sp_Links_built CL) := w_Links_built F.T F.cL F.d_Links_built w_c_Links_init
  have w_c_Links_left : Met P w K mg base 1 CL "left" (sp_Links_left CL) := w_Links_left F.cL F.d_Links_left
  have w_c_Links_right : Met P w K mg base 1 CL "right" (sp_Links_right CL) := w_Links_right F.cL F.d_Links_right
  have w_c_Links_is_out : Met P w K mg base 1 CL "is_out" (sp_Links_is_out CL) := w_Links_is_out F.cL F.d_Links_is_out
  have w_c_Links_outs : Met P w K mg base 1 CL "outs" (sp_Links_outs CL) := w_Links_outs F.T F.cL F.d_Links_outs
  have w_c_Links_apply_at : Met P w K mg base 2 CL "apply_at" (sp_Links_apply_at CL) := w_Links_apply_at F.T F.cL F.d_Links_apply_at w_c_check_operation
  have w_c_Links_apply : Met P w K mg base 3 CL "apply" (sp_Links_apply CL) := w_Links_apply F.d_Links_apply w_c_Links_apply_at
  have w_c_Links_copy : Met P w K mg base 5 CL "copy" (sp_Links_copy CL) := w_Links_copy F.cL F.mL F.d_Links_copy w_c_Links_built
  have w_c_parent_of : Cal P w K mg base 2 "parent_of" (sp_parent_of CL) := w_parent_of F.d_parent_of w_c_Links_left w_c_Links_right w_c_Links_is_out
  have w_c_parents_of : Cal P w K mg base 3 "parents_of" (sp_parents_of CL) := w_parents_of F.cL F.d_parents_of w_c_Links_outs w_c_parent_of
  have w_c_Forest_init : Mak P w K mg base 4 "Forest" CF (sp_Forest_init CL CF) := w_Forest_init F.cF F.d_Forest_init w_c_check_size w_c_Links_init
  have w_c_Forest_grown : Sta P w K mg base 6 CF "grown" (sp_Forest_grown CL CF) := w_Forest_grown F.cL F.cF F.d_Forest_grown w_c_Forest_init w_c_Links_copy w_c_parents_of
  have w_c_Forest_contains : Met P w K mg base 1 CF "__contains__" (sp_Forest_contains CL CF) := w_Forest_contains F.cF F.d_Forest_contains
  have w_c_Forest_after : Clm P w K mg base 7 CF "after" (sp_Forest_after CL CF) := w_Forest_after F.T F.d_Forest_after w_c_check_size w_c_Links_init w_c_Links_apply w_c_Forest_grown
  have w_c_Forest_str : Met P w K mg base 2 CF "__str__" (sp_Forest_str CL CF) := w_Forest_str F.T F.cF F.d_Forest_str w_c_Links_outs w_c_Links_left w_c_Links_right w_c_Forest_contains
  have w_c_check_facts : Cal P w K mg base 2 "check_facts" sp_check_facts := w_check_facts F.T F.d_check_facts w_c_check_size w_c_fact_is_right
  have w_c_note_link : Cal P w K mg base 1 "note_link" sp_note_link := w_note_link F.d_note_link
  have w_c_Known_init : Mak P w K mg base 2 "Known" CK (sp_Known_init CK) := w_Known_init F.cK F.d_Known_init w_c_note_link
  have w_c_Known_links_agree : Met P w K mg base 1 CK "links_agree" (sp_links_agree CK) := w_links_agree F.cK F.d_Known_links_agree
  have w_c_Known_may_be_root : Met P w K mg base 2 CK "may_be_root" (sp_may_be_root CK) := w_may_be_root F.cK F.d_Known_may_be_root w_c_Known_links_agree
  have w_c_Known_may_be_neighbours : Met P w K mg base 1 CK "may_be_neighbours" (sp_may_be_neighbours CK) := w_may_be_neighbours F.cK F.d_Known_may_be_neighbours
  have w_c_FitTable_rooted : Met P w K mg base 3 CT "rooted" (sp_rooted CT CK) := w_rooted F.cT F.d_FitTable_rooted w_c_Known_may_be_root
  have w_c_FitTable_continued : Met P w K mg base 3 CT "continued" (sp_continued CT CK) := w_continued F.cT F.d_FitTable_continued w_c_Known_may_be_neighbours
  have w_c_FitTable_fill_trees : Met P w K mg base 4 CT "fill_trees" (sp_fill_trees CT CK) := w_fill_trees F.T F.cT F.d_FitTable_fill_trees w_c_FitTable_rooted
  have w_c_FitTable_fill_chains : Met P w K mg base 4 CT "fill_chains" (sp_fill_chains CT CK) := w_fill_chains F.T F.cT F.d_FitTable_fill_chains w_c_FitTable_continued
  have w_c_FitTable_init : Mak P w K mg base 5 "FitTable" CT (sp_FitTable_init CT CK) := w_FitTable_init F.T F.cT F.d_FitTable_init w_c_Known_init w_c_FitTable_fill_trees w_c_FitTable_fill_chains
  have w_c_FitTable_tree_at : Met P w K mg base 4 CT "tree_at" (sp_tree_at CT CK) := w_tree_at F.T F.cT F.d_FitTable_tree_at w_c_FitTable_rooted
  have w_c_FitTable_member : Met P w K mg base 8 CT "member" (sp_member CT CK CL CF) := w_member F.T F.cT F.mF F.d_FitTable_member w_c_FitTable_continued w_c_FitTable_tree_at w_c_Forest_after
  have w_c_count_fits : Cal P w K mg base 7 "count_fits" sp_count_fits := w_count_fits F.cT F.d_count_fits w_c_check_facts w_c_FitTable_init
  have w_c_fit_at : CalX P w K mg base 9 "fit_at" (sp_fit_at CL CF CB) := w_fit_at F.T F.ms F.cT F.d_fit_at F.xB w_c_check_facts w_c_FitTable_init w_c_FitTable_member
  have w_c_status : CalX P w K mg base 8 "status" (sp_status CN) := w_status F.T F.ms F.d_status F.xN w_c_check_facts w_c_fact_is_right w_c_count_fits
  have w_c_each_fit : CalG P w K mg base 9 "each_fit" (sp_each_fit CL CF) := w_each_fit F.T F.cT F.d_each_fit w_c_check_facts w_c_FitTable_init w_c_FitTable_member
  have w_c_l_draw : Cal P w K mg base 1 "_law_draw" sp_draw := w_draw F.T F.d_l_draw
  have w_c_l_purse : Cal P w K mg base 1 "_law_purse" (sp_purse K) := w_purse F.T F.d_l_purse
  have w_c_l_removal : Cal P w K mg base 2 "_law_removal" sp_removal := w_removal F.T F.d_l_removal w_c_l_draw
  have w_c_l_near : Cal P w K mg base 3 "_law_near" sp_near := w_near F.T F.d_l_near w_c_l_draw w_c_l_removal
  have w_c_l_played : Cal P w K mg base 1 "_law_played" sp_played := w_played F.T F.d_l_played
  have w_c_l_true : Cal P w K mg base 1 "_law_true" sp_true := w_true F.d_l_true
  have w_c_l_all : Cal P w K mg base 1 "_law_all" sp_all := w_all F.T F.d_l_all
  have w_c_l_facts : Cal P w K mg base 2 "_law_facts" sp_facts := w_facts F.T F.d_l_facts w_c_l_draw w_c_l_all w_c_l_true
  have w_c_l_key : Cal P w K mg base 1 "_law_key" sp_key := w_key F.T F.d_l_key
  have w_c_l_read : Cal P w K mg base 1 "_law_read" sp_read := w_read F.T F.d_l_read
  have w_c_l_integer : Cal P w K mg base 1 "_law_integer" sp_integer := w_integer F.T F.d_l_integer
  have w_c_l_refused : Cal P w K mg base 2 "_law_refused" sp_refused := w_refused F.T F.d_l_refused w_c_l_integer
  have w_c_l_key_of : Cal P w K mg base 5 "_law_key_of" (sp_key_of CL CF) := w_key_of F.T F.cF F.iF F.mF F.d_l_key_of w_c_Forest_str w_c_l_read w_c_l_played w_c_l_true w_c_l_key
  have w_c_l_found : Cal P w K mg base 10 "_law_found" sp_found := w_found F.T F.d_l_found w_c_l_key w_c_l_key_of w_c_fit_at
  have w_c_l_is : Cal P w K mg base 9 "_law_is" sp_is := w_is F.T F.d_l_is w_c_status
  have w_c_l_parts : Cal P w K mg base 8 "_law_parts" sp_parts := w_parts F.T F.d_l_parts w_c_l_integer w_c_count_fits
  have w_c_l_totals : Cal P w K mg base 9 "_law_totals" sp_totals := w_totals F.T F.d_l_totals w_c_l_draw w_c_l_true w_c_l_parts
  have w_c_l_crossing : Cal P w K mg base 10 "_law_crossing" sp_crossing := w_crossing F.T F.d_l_crossing w_c_l_draw w_c_l_is
  have w_c_l_listed : Cal P w K mg base 13 "_law_listed" sp_listed := w_listed F.T F.d_l_listed w_c_each_fit w_c_count_fits w_c_l_key_of w_c_l_key
  have w_c_l_places : Cal P w K mg base 13 "_law_places" (sp_places [(tp, lamQ "_law_places"), (tw, lamQ "_law_witnessed")]) := w_places F.T F.cau hmP huP F.d_l_places F.d_l_caught w_c_l_draw w_c_l_key_of w_c_l_refused w_c_fit_at
  have w_c_l_witnessed : Cal P w K mg base 13 "_law_witnessed" (sp_witnessed [(tp, lamQ "_law_places"), (tw, lamQ "_law_witnessed")]) := w_witnessed F.T F.cau hmW huW F.d_l_witnessed F.d_l_caught w_c_l_draw w_c_l_is w_c_l_all w_c_l_true w_c_count_fits w_c_l_refused w_c_fit_at w_c_status
  exact w_law F.T w_c_l_purse w_c_l_draw w_c_l_removal w_c_l_near w_c_l_played w_c_l_facts w_c_count_fits w_c_l_integer w_c_l_totals w_c_l_places w_c_l_crossing w_c_l_listed w_c_l_found w_c_l_witnessed F.d_l_law
end LK
end

section
/-! LKHead1 -/
set_option maxHeartbeats 4000000
namespace LK
open PySem PySem.Spec PyProof.Rows L2
open He (ga ma)
theorem bb {a b : Bool} (h : (a && b) = true) : a = true ∧ b = true := Bool.and_eq_true_iff.mp h
theorem fun_ok {K : PySem.W.Frag} {a : Addr} {x q : Str} {st : Stmt} (e : fnZ K a = (DefM.mk (fun _ => a) x q st).val) (c : plainB K a q = true) : ∃ fd, Fun K x q st a fd := by
  obtain ⟨kp, c2⟩ := bb c
  unfold fnZ at e
  cases z : K.lookup a with
  | none => rw [z] at c2; cases c2
  | some o =>
    obtain ⟨oc, od, dt, osl⟩ := o
    rw [z] at c2 e
    cases dt with
    | func fd =>
      obtain ⟨n1, n2, n3, n4, n5, n6, n7, n8, n9, n10, n11, n12, n13, n14, n15⟩ := fd
      have e2 : (some (n1, n2, n3, n4, n5, n6, n15) : FnZ) = some (x, q, defArgs st, .stmts (defBody st), defScope st, mainGlobals, builtinsNs) := e
      simp only [Option.some.injEq, Prod.mk.injEq] at e2
      obtain ⟨h1, h2, h3, h4, h5, h6, h7⟩ := e2
      subst h1 h2 h3 h4 h5 h6 h7
      obtain ⟨k1, k2⟩ := bb (show (n7.isEmpty && (isNoneV n8 && PySem.W.codeIn K n13 _)) = true from c2)
      obtain ⟨k3, k4⟩ := bb k2
      have e7 : n7 = [] := List.isEmpty_iff.mp k1
      subst e7
      cases n8 with
      | none => exact ⟨_, ⟨oc, od, n9, n10, n11, n12, n13, n14, osl, rfl, z, k4⟩, kp⟩
      | _ => cases k3
    | _ => cases c2
theorem oex_ok {K : PySem.W.Frag} {C : Addr} (h : oexF K C = true) : OexC K C := by
  obtain ⟨h1, h⟩ := bb h
  obtain ⟨h2, h⟩ := bb h
  obtain ⟨h3, h⟩ := bb h
  obtain ⟨h4, h5⟩ := bb h
  refine ⟨?_, He.eqO_ok h2, of_decide_eq_true h3, of_decide_eq_true h4, h5⟩
  unfold oexB at h1
  split at h1
  · rename_i dd cd sl ho
    split at h1
    · rename_i C' bm k0 k1 k2 k3 n k5 hm hs
      obtain ⟨e1, h1⟩ := bb h1
      obtain ⟨e2, h1⟩ := bb h1
      obtain ⟨e3, h1⟩ := bb h1
      obtain ⟨e4, e5⟩ := bb h1
      have e1 := of_decide_eq_true e1
      have e2 := of_decide_eq_true e2
      subst e1 e2
      obtain ⟨a1, a2, a3, a4, a5, a6, a7, a8, a9, a10, a11⟩ := cd
      obtain ⟨l⟩ := sl
      simp only at hm hs e3 e4
      subst hm hs e4
      have e3 : a11 = false := by simpa using e3
      subst e3
      exact ⟨_, _, _, _, _, _, _, _, _, _, _, _, _, _, _, ho, e5⟩
    · cases h1
  · cases h1
theorem einit_ok {P : Program} {K : PySem.W.Frag} {C f : Addr} {q : Str} {st : Stmt} (e : fnZ K f = (DefM.mk (fun _ => f) "__init__" q st).val) (c : einitB K C f q P.main.file = true) (top : (P.main.scope.names.lookup ("super" : Str)).isSome = false) : ∃ fd, EInit P K C f q st fd := by
  obtain ⟨c0, c⟩ := bb c
  obtain ⟨c1, c⟩ := bb c
  obtain ⟨c2, c⟩ := bb c
  obtain ⟨c3, c4⟩ := bb c
  unfold initB at c0
  unfold fnZ at e
  cases z : K.lookup f with
  | none => rw [z] at c0; cases c0
  | some o =>
    obtain ⟨oc, od, dt, osl⟩ := o
    rw [z] at c0 e
    cases dt with
    | func fd =>
      obtain ⟨n1, n2, n3, n4, n5, n6, n7, n8, n9, n10, n11, n12, n13, n14, n15⟩ := fd
      have e2 : (some (n1, n2, n3, n4, n5, n6, n15) : FnZ) = some (("__init__" : Str), q, defArgs st, FuncBody.stmts (defBody st), defScope st, mainGlobals, builtinsNs) := e
      simp only [Option.some.injEq, Prod.mk.injEq] at e2
      obtain ⟨h1, h2, h3, h4, h5, h6, h7⟩ := e2
      subst h1 h2 h3 h4 h5 h6 h7
      dsimp only at c0
      split at c0
      · rename_i n cc cda
        obtain ⟨k1, k⟩ := bb c0
        obtain ⟨k2, k⟩ := bb k
        obtain ⟨k3, k4⟩ := bb k
        have k1 := of_decide_eq_true k1
        subst k1
        split at k3
        · rename_i cl cld D csl hcc
          have k3 := of_decide_eq_true k3
          subst k3
          split at k4
          · rename_i ccl cdd vs ccs hcda
            split at k4
            · rename_i file tf hv
              exact ⟨_, ⟨oc, od, n9, n10, n11, n12, cda, n14, osl, cc, cl, cld, csl, ccl, cdd, vs, ccs, file, tf, rfl, z, k2, hcc, hcda, hv, k4⟩, He.eqO_ok c1, of_decide_eq_true c2, of_decide_eq_true c3, He.eqO_ok c4, top⟩
            · cases k4
          · cases k4
        · cases k3
      · cases c0
    | _ => cases c0
theorem exc_ok {K : PySem.W.Frag} {C : Addr} (h : excB K C = true) : ExcC K C ∧ XfC K C := by
  obtain ⟨h1, h⟩ := bb h
  obtain ⟨h2, h⟩ := bb h
  obtain ⟨h3, h⟩ := bb h
  obtain ⟨h4, h⟩ := bb h
  obtain ⟨h5, h⟩ := bb h
  obtain ⟨h6, h⟩ := bb h
  obtain ⟨h7, h8⟩ := bb h
  exact ⟨⟨He.eqO_ok h1, He.eqO_ok h2, of_decide_eq_true h3, h4, He.eqO_ok h5, He.eqO_ok h6, of_decide_eq_true h7, of_decide_eq_true h8⟩, He.eqO_ok h1, He.eqO_ok h2, of_decide_eq_true h3, h4⟩
theorem cau_ok {K : PySem.W.Frag} {C LE LG BS BF : Addr} (h : cauB K C LE LG BS BF = true) : CauC K C LE LG BS BF := by
  obtain ⟨h1, h⟩ := bb h
  obtain ⟨h2, h⟩ := bb h
  obtain ⟨h3, h⟩ := bb h
  obtain ⟨h4, h5⟩ := bb h
  exact ⟨(exc_ok h1).1, of_decide_eq_true h2, of_decide_eq_true h3, of_decide_eq_true h4, of_decide_eq_true h5⟩
theorem cls_okB {K : PySem.W.Frag} {C : Addr} {as : List Str} (h : clsB K C as = true) : Cls K C ∧ ∀ f ∈ as, NoAttr K C f := by
  obtain ⟨h0, h5⟩ := bb h
  obtain ⟨h1, h⟩ := bb h0
  obtain ⟨h2, h⟩ := bb h
  obtain ⟨h3, h4⟩ := bb h
  exact ⟨⟨h1, h2, h3, He.eqO_ok h4⟩, fun f hf => He.eqO_ok (List.all_eq_true.mp h5 f hf)⟩
theorem meth_okB {K : PySem.W.Frag} {C : Addr} {m : Str} (h : methB K C m = true) : Meth K C m (ma K C m) := by
  obtain ⟨h1, h⟩ := bb h
  obtain ⟨h2, h3⟩ := bb h
  exact ⟨He.eqO_ok h1, h2, h3⟩
theorem mk_okB {K : PySem.W.Frag} {C : Addr} (h : mkB K C = true) : L2.Mk K C (ma K C "__init__") := by
  obtain ⟨h1, h⟩ := bb h
  obtain ⟨h2, h⟩ := bb h
  obtain ⟨h3, h4⟩ := bb h
  exact ⟨h1, He.eqO_ok h2, h3, h4⟩
theorem read_okB {K : PySem.W.Frag} {C : Addr} (h : readB K C = true) : ClX.CRead K C (.type "type") := by
  obtain ⟨h1, h2⟩ := bb h
  exact ⟨h1, He.eqO_ok h2⟩
theorem fis_okB {K : PySem.W.Frag} {C : Addr} (h : fisB K C = true) : FoIs K C := by
  obtain ⟨h1, h⟩ := bb h
  obtain ⟨h2, h⟩ := bb h
  obtain ⟨h3, h⟩ := bb h
  obtain ⟨h4, h5⟩ := bb h
  exact ⟨He.eqO_ok h1, He.eqO_ok h2, of_decide_eq_true h3, of_decide_eq_true h4, of_decide_eq_true h5⟩
end LK
end

section
/-! LKHead2 -/
set_option maxHeartbeats 4000000
namespace LK
open PySem PySem.Spec PyProof.Rows L2
open He (ga ma)
theorem dnc_of {K : PySem.W.Frag} {mg : Str → Option Value} {base : Heap} {x : Str} {st : Stmt} {f tb : Addr} (F : ∃ fd, Fun K x x st f fd) (g : mg x = some (.ref f)) (c : cdB K f = true) (TB : LamX.TabB base mg (cdA K f) tb) : DnC K mg base x st tb := by
  obtain ⟨fd, F⟩ := F
  have kp := F.kp
  obtain ⟨oc, od, kV, doc, pm, an, cdv, ct, osl, rfl, lk, hcd⟩ := F.ex
  unfold cdB at c
  unfold cdA at TB
  rw [lk] at c TB
  cases cdv with
  | ref a => exact ⟨f, oc, od, kV, doc, pm, an, a, ct, osl, lk, hcd, kp, g, TB⟩
  | _ => cases c
theorem sd_of {K : PySem.W.Frag} {C : Addr} {m q : Str} {st : Stmt} (R : ClX.CRead K C (.type "type")) (w : He5.wrapB K C "staticmethod" "staticmethod.__get__" m = true) (F : ∃ fd, Fun K m q st (He5.wf K C "staticmethod" m) fd) : Sd K C m q st := by
  obtain ⟨fd, F⟩ := F
  obtain ⟨h1, h2⟩ := He5.wrapB_ok w
  exact ⟨_, _, _, fd, R, h1, h2, F⟩
theorem cd_of {K : PySem.W.Frag} {C : Addr} {m q : Str} {st : Stmt} (R : ClX.CRead K C (.type "type")) (w : He5.wrapB K C "classmethod" "classmethod.__get__" m = true) (fi : PySem.W.fnIn K (He5.wf K C "classmethod" m) = true) (F : ∃ fd, Fun K m q st (He5.wf K C "classmethod" m) fd) : Cd K C m q st := by
  obtain ⟨fd, F⟩ := F
  exact ⟨_, _, _, fd, R, He5.cmet_of w fi, F⟩
theorem most_ok {K : PySem.W.Frag} {h : Heap} {mg : Str → Option Value} (X : K.In h) (G : h.Ns mainGlobals mg) (c : mostB K = true) : ∃ u, mg "MOST_NODES" = some u ∧ RelV (.int 60) u := by
  unfold mostB at c
  split at c
  · rename_i j t e
    have e2 := of_decide_eq_true c
    subst e2
    exact ⟨_, PySem.W.mg_of X G e, ⟨t, rfl⟩⟩
  · cases c
theorem own_at {K : PySem.W.Frag} (h : (own4.all fun p => clsB K (ga K p.1) p.2 && mkB K (ga K p.1)) = true) (i : Nat) {p : Str × List Str} (e : own4[i]? = some p) : clsB K (ga K p.1) p.2 = true ∧ mkB K (ga K p.1) = true := bb (List.all_eq_true.mp h p (List.mem_of_getElem? e))
theorem xc_of {P : Program} {K : PySem.W.Frag} {mg : Str → Option Value} {x p q : Str} {st : Stmt} (h : excFB K x p q P.main.file = true) (gl : mg x = some (.ref (ga K x))) (e : fnZ K (ma K (ga K x) "__init__") = (DefM.mk (fun _ => ma K (ga K x) "__init__") "__init__" q st).val) (T : EText p st)
    (top : (P.main.scope.names.lookup ("super" : Str)).isSome = false) (b : ∀ (kV doc pm : Value) (an : Option Addr) (cda : Addr) (ct : Value) (cc : Addr) (us : List Value), us.length = 2 → bindArgs (PySem.W.ksFn "__init__" q (defArgs st) (defBody st) (defScope st) .none kV doc pm an (.ref cda) ct cc) ⟨us, []⟩ = pure ([("self" : Str), p].zip us)) :
    Xc P K mg x (ga K x) p ∧ CauC K (ga K x) (ga K "LinkError") (ga K "LogError") (ga K "BadSize") (ga K "BadFact") ∧ XfC K (ga K x) ∧ PySem.W.findIn K (.ref (ga K x)) p = some none := by
  obtain ⟨h1, h⟩ := bb h
  obtain ⟨h2, h⟩ := bb h
  obtain ⟨h3, h⟩ := bb h
  obtain ⟨h4, h⟩ := bb h
  obtain ⟨h5, h6⟩ := bb h
  obtain ⟨fd, E⟩ := einit_ok e h5 top
  refine ⟨⟨oex_ok h1, He.eqO_ok h2, gl, _, fd, q, st, He.eqO_ok h3, of_decide_eq_true h4, E, T, ?_⟩, cau_ok h6, (exc_ok (bb h6).1).2, He.eqO_ok h2⟩
  obtain ⟨oc, od, kV, doc, pm, an, cda, ct, osl, cc, cl, cld, csl, ccl, cdd, vs, ccs, file, tf, rfl, _⟩ := E.ex
  exact .all (b kV doc pm an cda ct cc)
theorem facts_of {P : Program} {K : PySem.W.Frag} {h : Heap} {mg : Str → Option Value} {base : Heap} {tp tw : Addr} (X : K.In h) (G : h.Ns mainGlobals mg) (b : B K P.main.file tp tw = true) (e1 : fns.map (fun d => fnZ K (d.at_ K)) = fns.map DefM.val) (e2 : xfns.map (fun d => fnZ K (d.at_ K)) = xfns.map DefM.val)
    (top : (P.main.scope.names.lookup ("super" : Str)).isSome = false) (TBp : LamX.TabB base mg (cdA K (ga K "_law_places")) tp) (TBw : LamX.TabB base mg (cdA K (ga K "_law_witnessed")) tw) :
    Facts P K mg base (ga K "Links") (ga K "Forest") (ga K "Known") (ga K "FitTable") (ga K "BadPlace") (ga K "NoFit") (ga K "LinkError") (ga K "LogError") (ga K "BadSize") (ga K "BadFact") tp tw := by
  obtain ⟨fr, b⟩ := bb b
  obtain ⟨gl, b⟩ := bb b
  obtain ⟨pl, b⟩ := bb b
  obtain ⟨most, b⟩ := bb b
  obtain ⟨own, b⟩ := bb b
  obtain ⟨me, b⟩ := bb b
  obtain ⟨rL, b⟩ := bb b
  obtain ⟨rF, b⟩ := bb b
  obtain ⟨wB, b⟩ := bb b
  obtain ⟨wG, b⟩ := bb b
  obtain ⟨wA, b⟩ := bb b
  obtain ⟨fA, b⟩ := bb b
  obtain ⟨fi, b⟩ := bb b
  obtain ⟨xb, b⟩ := bb b
  obtain ⟨xn, b⟩ := bb b
  obtain ⟨k1, b⟩ := bb b
  obtain ⟨k2, b⟩ := bb b
  obtain ⟨k3, b⟩ := bb b
  obtain ⟨k4, b⟩ := bb b
  obtain ⟨hcp, b⟩ := bb b
  obtain ⟨hcw, b⟩ := bb b
  obtain ⟨cp, b⟩ := bb b
  obtain ⟨cw, b⟩ := bb b
  obtain ⟨ne, b⟩ := bb b
  obtain ⟨np, nw⟩ := bb b
  have FR : ∀ x, x ∈ frees → mg x = none := fun x hx => PySem.W.mg_none_of X G (He.eqO_ok (List.all_eq_true.mp fr x hx))
  have GL : ∀ x, x ∈ glos → mg x = some (.ref (ga K x)) := fun x hx => PySem.W.mg_of X G (He.eqO_ok (List.all_eq_true.mp gl x hx))
  have FN : ∀ (i : Nat) (d : DefM), fns[i]? = some d → ∃ fd, Fun K d.name d.qual d.st (d.at_ K) fd := fun i d hd => by
    have z : (fns.map (fun d => fnZ K (d.at_ K)))[i]? = (fns.map DefM.val)[i]? := by rw [e1]
    rw [List.getElem?_map, List.getElem?_map, hd] at z
    exact fun_ok (Option.some.inj z) (List.all_eq_true.mp pl d (List.mem_of_getElem? hd))
  have XN : ∀ (i : Nat) (d : DefM), xfns[i]? = some d → fnZ K (d.at_ K) = d.val := fun i d hd => by
    have z : (xfns.map (fun d => fnZ K (d.at_ K)))[i]? = (xfns.map DefM.val)[i]? := by rw [e2]
    rw [List.getElem?_map, List.getElem?_map, hd] at z
    exact Option.some.inj z
  have ME : ∀ p, p ∈ meths → methB K (ga K p.1) p.2 = true := fun p hp => List.all_eq_true.mp me p hp
  obtain ⟨oL, mL⟩ := own_at own 0 rfl
  obtain ⟨oF, mF⟩ := own_at own 1 rfl
  obtain ⟨oK, mK⟩ := own_at own 2 rfl
  obtain ⟨oT, mT⟩ := own_at own 3 rfl
  obtain ⟨cL, aL⟩ := cls_okB oL
  obtain ⟨cF, aF⟩ := cls_okB oF
  obtain ⟨cK, aK⟩ := cls_okB oK
  obtain ⟨cT, aT⟩ := cls_okB oT
  obtain ⟨xB, cB, fB, nB⟩ := xc_of (st := s_BadPlace_init) xb (GL "BadPlace" (by decide +kernel)) (XN 0 _ rfl) etext_BadPlace top fun _ _ _ _ _ _ _ us hl => match us, hl with | [_, _], _ => rfl
  obtain ⟨xN, cN, fN, nN⟩ := xc_of (st := s_NoFit_init) xn (GL "NoFit" (by decide +kernel)) (XN 1 _ rfl) etext_NoFit top fun _ _ _ _ _ _ _ us hl => match us, hl with | [_, _], _ => rfl
  exact {
    T := {
      len := FR "len" (by decide +kernel)
      int := FR "int" (by decide +kernel)
      bool := FR "bool" (by decide +kernel)
      abs := FR "abs" (by decide +kernel)
      min := FR "min" (by decide +kernel)
      sum := FR "sum" (by decide +kernel)
      sorted := FR "sorted" (by decide +kernel)
      divmod := FR "divmod" (by decide +kernel)
      list := FR "list" (by decide +kernel)
      isinstance := FR "isinstance" (by decide +kernel)
      str := FR "str" (by decide +kernel)
      range := FR "range" (by decide +kernel)
      enumerate := FR "enumerate" (by decide +kernel)
      reversed := FR "reversed" (by decide +kernel)
      ValueError := FR "ValueError" (by decide +kernel)
      most := most_ok X G most }
    ms := FR "super" (by decide +kernel)
    cL := ⟨cL, aL "size" (by decide +kernel), aL "_lefts" (by decide +kernel), aL "_rights" (by decide +kernel), aL "_flags" (by decide +kernel)⟩
    cF := ⟨cF, aF "size" (by decide +kernel), aF "_links" (by decide +kernel), aF "_parents" (by decide +kernel)⟩
    cK := ⟨cK, aK "must_be_in" (by decide +kernel), aK "must_be_out" (by decide +kernel), aK "given_lefts" (by decide +kernel), aK "given_rights" (by decide +kernel)⟩
    cT := ⟨cT, aT "size" (by decide +kernel), aT "known" (by decide +kernel), aT "tree_counts" (by decide +kernel), aT "chain_counts" (by decide +kernel), aT "fit_count" (by decide +kernel)⟩
    iF := fis_okB fi
    mF := GL "Forest" (by decide +kernel)
    mL := GL "Links" (by decide +kernel)
    xB := xB
    xN := xN
    cau := ⟨cB, cN, fB, fN, nB, nN, of_decide_eq_true k1, of_decide_eq_true k2, of_decide_eq_true k3, of_decide_eq_true k4, GL "LinkError" (by decide +kernel), GL "LogError" (by decide +kernel), GL "BadPlace" (by decide +kernel), GL "NoFit" (by decide +kernel), GL "BadSize" (by decide +kernel), GL "BadFact" (by decide +kernel)⟩
    ne := of_decide_eq_true ne
    d_check_size := ⟨_, _, (FN 0 _ rfl).choose_spec, GL "check_size" (by decide +kernel)⟩
    d_check_operation := ⟨_, _, (FN 1 _ rfl).choose_spec, GL "check_operation" (by decide +kernel)⟩
    d_fact_is_right := ⟨_, _, (FN 2 _ rfl).choose_spec, GL "fact_is_right" (by decide +kernel)⟩
    d_Links_init := ⟨_, _, mk_okB mL, (FN 3 _ rfl).choose_spec, GL "Links" (by decide +kernel)⟩
    d_Links_built := sd_of (read_okB rL) wB (FN 4 _ rfl)
    d_Links_left := ⟨_, _, cL, meth_okB (ME ("Links", "left") (by decide +kernel)), (FN 5 _ rfl).choose_spec⟩
    d_Links_right := ⟨_, _, cL, meth_okB (ME ("Links", "right") (by decide +kernel)), (FN 6 _ rfl).choose_spec⟩
    d_Links_is_out := ⟨_, _, cL, meth_okB (ME ("Links", "is_out") (by decide +kernel)), (FN 7 _ rfl).choose_spec⟩
    d_Links_outs := ⟨_, _, cL, meth_okB (ME ("Links", "outs") (by decide +kernel)), (FN 8 _ rfl).choose_spec⟩
    d_Links_apply_at := ⟨_, _, cL, meth_okB (ME ("Links", "apply_at") (by decide +kernel)), (FN 9 _ rfl).choose_spec⟩
    d_Links_apply := ⟨_, _, cL, meth_okB (ME ("Links", "apply") (by decide +kernel)), (FN 10 _ rfl).choose_spec⟩
    d_Links_copy := ⟨_, _, cL, meth_okB (ME ("Links", "copy") (by decide +kernel)), (FN 11 _ rfl).choose_spec⟩
    d_parent_of := ⟨_, _, (FN 12 _ rfl).choose_spec, GL "parent_of" (by decide +kernel)⟩
    d_parents_of := ⟨_, _, (FN 13 _ rfl).choose_spec, GL "parents_of" (by decide +kernel)⟩
    d_Forest_init := ⟨_, _, mk_okB mF, (FN 14 _ rfl).choose_spec, GL "Forest" (by decide +kernel)⟩
    d_Forest_grown := sd_of (read_okB rF) wG (FN 15 _ rfl)
    d_Forest_contains := ⟨_, _, cF, meth_okB (ME ("Forest", "__contains__") (by decide +kernel)), (FN 16 _ rfl).choose_spec⟩
    d_Forest_after := cd_of (read_okB rF) wA fA (FN 17 _ rfl)
    d_Forest_str := ⟨_, _, cF, meth_okB (ME ("Forest", "__str__") (by decide +kernel)), (FN 18 _ rfl).choose_spec⟩
    d_check_facts := ⟨_, _, (FN 19 _ rfl).choose_spec, GL "check_facts" (by decide +kernel)⟩
    d_note_link := ⟨_, _, (FN 20 _ rfl).choose_spec, GL "note_link" (by decide +kernel)⟩
    d_Known_init := ⟨_, _, mk_okB mK, (FN 21 _ rfl).choose_spec, GL "Known" (by decide +kernel)⟩
    d_Known_links_agree := ⟨_, _, cK, meth_okB (ME ("Known", "links_agree") (by decide +kernel)), (FN 22 _ rfl).choose_spec⟩
    d_Known_may_be_root := ⟨_, _, cK, meth_okB (ME ("Known", "may_be_root") (by decide +kernel)), (FN 23 _ rfl).choose_spec⟩
    d_Known_may_be_neighbours := ⟨_, _, cK, meth_okB (ME ("Known", "may_be_neighbours") (by decide +kernel)), (FN 24 _ rfl).choose_spec⟩
    d_FitTable_rooted := ⟨_, _, cT, meth_okB (ME ("FitTable", "rooted") (by decide +kernel)), (FN 25 _ rfl).choose_spec⟩
    d_FitTable_continued := ⟨_, _, cT, meth_okB (ME ("FitTable", "continued") (by decide +kernel)), (FN 26 _ rfl).choose_spec⟩
    d_FitTable_fill_trees := ⟨_, _, cT, meth_okB (ME ("FitTable", "fill_trees") (by decide +kernel)), (FN 27 _ rfl).choose_spec⟩
    d_FitTable_fill_chains := ⟨_, _, cT, meth_okB (ME ("FitTable", "fill_chains") (by decide +kernel)), (FN 28 _ rfl).choose_spec⟩
    d_FitTable_init := ⟨_, _, mk_okB mT, (FN 29 _ rfl).choose_spec, GL "FitTable" (by decide +kernel)⟩
    d_FitTable_tree_at := ⟨_, _, cT, meth_okB (ME ("FitTable", "tree_at") (by decide +kernel)), (FN 30 _ rfl).choose_spec⟩
    d_FitTable_member := ⟨_, _, cT, meth_okB (ME ("FitTable", "member") (by decide +kernel)), (FN 31 _ rfl).choose_spec⟩
    d_count_fits := ⟨_, _, (FN 32 _ rfl).choose_spec, GL "count_fits" (by decide +kernel)⟩
    d_fit_at := ⟨_, _, (FN 33 _ rfl).choose_spec, GL "fit_at" (by decide +kernel)⟩
    d_status := ⟨_, _, (FN 34 _ rfl).choose_spec, GL "status" (by decide +kernel)⟩
    d_each_fit := ⟨_, _, (FN 35 _ rfl).choose_spec, GL "each_fit" (by decide +kernel)⟩
    d_l_draw := ⟨_, _, (FN 36 _ rfl).choose_spec, GL "_law_draw" (by decide +kernel)⟩
    d_l_purse := ⟨_, _, (FN 37 _ rfl).choose_spec, GL "_law_purse" (by decide +kernel)⟩
    d_l_removal := ⟨_, _, (FN 38 _ rfl).choose_spec, GL "_law_removal" (by decide +kernel)⟩
    d_l_near := ⟨_, _, (FN 39 _ rfl).choose_spec, GL "_law_near" (by decide +kernel)⟩
    d_l_played := ⟨_, _, (FN 40 _ rfl).choose_spec, GL "_law_played" (by decide +kernel)⟩
    d_l_true := ⟨_, _, (FN 41 _ rfl).choose_spec, GL "_law_true" (by decide +kernel)⟩
    d_l_all := ⟨_, _, (FN 42 _ rfl).choose_spec, GL "_law_all" (by decide +kernel)⟩
    d_l_facts := ⟨_, _, (FN 43 _ rfl).choose_spec, GL "_law_facts" (by decide +kernel)⟩
    d_l_key := ⟨_, _, (FN 44 _ rfl).choose_spec, GL "_law_key" (by decide +kernel)⟩
    d_l_read := ⟨_, _, (FN 45 _ rfl).choose_spec, GL "_law_read" (by decide +kernel)⟩
    d_l_integer := ⟨_, _, (FN 46 _ rfl).choose_spec, GL "_law_integer" (by decide +kernel)⟩
    d_l_refused := ⟨_, _, (FN 47 _ rfl).choose_spec, GL "_law_refused" (by decide +kernel)⟩
    d_l_key_of := ⟨_, _, (FN 48 _ rfl).choose_spec, GL "_law_key_of" (by decide +kernel)⟩
    d_l_found := ⟨_, _, (FN 49 _ rfl).choose_spec, GL "_law_found" (by decide +kernel)⟩
    d_l_is := ⟨_, _, (FN 50 _ rfl).choose_spec, GL "_law_is" (by decide +kernel)⟩
    d_l_parts := ⟨_, _, (FN 51 _ rfl).choose_spec, GL "_law_parts" (by decide +kernel)⟩
    d_l_totals := ⟨_, _, (FN 52 _ rfl).choose_spec, GL "_law_totals" (by decide +kernel)⟩
    d_l_crossing := ⟨_, _, (FN 53 _ rfl).choose_spec, GL "_law_crossing" (by decide +kernel)⟩
    d_l_listed := ⟨_, _, (FN 54 _ rfl).choose_spec, GL "_law_listed" (by decide +kernel)⟩
    d_l_places := dnc_of (FN 55 _ rfl) (GL "_law_places" (by decide +kernel)) hcp TBp
    d_l_caught := ⟨_, _, (FN 56 _ rfl).choose_spec, GL "_law_caught" (by decide +kernel)⟩
    d_l_witnessed := dnc_of (FN 57 _ rfl) (GL "_law_witnessed" (by decide +kernel)) hcw TBw
    d_l_law := ⟨_, _, (FN 58 _ rfl).choose_spec, GL "law" (by decide +kernel)⟩
  }
end LK
end

section
/-! LKEnd -/
set_option maxHeartbeats 0
namespace LK
open PySem PySem.W PySem.Calls PyProof.Rows L2
open He (ga ma)
theorem law_at {P : Program} {w : World} {K : Frag} {h : Heap} {mg : PySem.Str → Option Value} {fa : Addr} {tp tw : Addr} (hP : P = R.prog) (X : K.In h) (G : h.Ns mainGlobals mg) (hfa : mg ("law" : PySem.Str) = some (.ref fa)) (c : (B K file0 tp tw, fns.map (fun d => fnZ K (d.at_ K)), xfns.map (fun d => fnZ K (d.at_ K)), [h.get? tp, h.get? tw]) = valM) :
    ∃ (fd : FuncData) (cs : List (Addr × Addr)) (sp : Sp), (∀ p ∈ cs, h.get? p.2 = some { cls := .none, data := .fields #[] }) ∧ (∀ p ∈ cs, K.lookup p.2 = none) ∧ (∀ p ∈ cs, CodeHd h p.1 p.2) ∧ (∀ (s : Shared) (u : Value), BindsTo s fd ⟨[u], []⟩ [("_law_script", u)]) ∧
      (∀ (H : Hp) (a : Addr) (ns : List Int), ns.length ≤ 63 → (∀ z ∈ ns, Builtin.Int.intBits z ≤ 1048576) → (∀ p ∈ cs, H p.2 = some (.tbl #[])) → SqL K H a (ns.map V.int) → sp [.ref a] H (fun v _ => v = .bl true) fun _ _ _ => False) ∧
      ∀ base : Heap, K.In base → base.Ns mainGlobals mg → (∀ p ∈ cs, LamX.TabB base mg p.1 p.2) → FnOk P w K mg base CX0 14 fa fd ["_law_script"] sp := by
  subst hP
  have b : B K R.prog.main.file tp tw = true := congrArg (fun z : Al => z.1) c
  have e1 : fns.map (fun d => fnZ K (d.at_ K)) = fns.map DefM.val := congrArg (fun z : Al => z.2.1) c
  have e2 : xfns.map (fun d => fnZ K (d.at_ K)) = xfns.map DefM.val := congrArg (fun z : Al => z.2.2.1) c
  have c4 : [h.get? tp, h.get? tw] = [some emptyTab, some emptyTab] := congrArg (fun z : Al => z.2.2.2) c
  have t1 : h.get? tp = some emptyTab := by injection c4
  have t2 : h.get? tw = some emptyTab := by injection c4 with _ q; injection q
  have top : (R.prog.main.scope.names.lookup ("super" : PySem.Str)).isSome = false := by kernel_rfl
  have FA : ∀ base : Heap, LamX.TabB base mg (cdA K (ga K "_law_places")) tp → LamX.TabB base mg (cdA K (ga K "_law_witnessed")) tw → Facts R.prog K mg base _ _ _ _ _ _ _ _ _ _ tp tw := fun base TBp TBw => facts_of X G b e1 e2 top TBp TBw
  have b2 := (bb b).2
  have gl := (bb b2).1
  have pl := (bb (bb b2).2).1
  have gL : mg ("law" : PySem.Str) = some (.ref (ga K "law")) := PySem.W.mg_of X G (He.eqO_ok (List.all_eq_true.mp gl "law" (by decide +kernel)))
  have ea : fa = ga K "law" := by
    rw [gL] at hfa
    injection hfa with q
    injection q with q
    exact q.symm
  have FL : ∃ fd, Fun K "law" "law" s_l_law (ga K "law") fd := by
    have z : (fns.map (fun d => fnZ K (d.at_ K)))[58]? = (fns.map DefM.val)[58]? := by rw [e1]
    rw [List.getElem?_map, List.getElem?_map, show fns[58]? = some ⟨fun K => ga K "law", "law", "law", s_l_law⟩ from rfl] at z
    exact fun_ok (Option.some.inj z) (List.all_eq_true.mp pl ⟨fun K => ga K "law", "law", "law", s_l_law⟩ (List.mem_of_getElem? (i := 58) rfl))
  obtain ⟨fd, FL⟩ := FL
  obtain ⟨_, b3⟩ := bb (bb b2).2
  iterate 18 (obtain ⟨_, b3⟩ := bb b3)
  obtain ⟨hcp, b3⟩ := bb b3
  obtain ⟨hcw, b3⟩ := bb b3
  obtain ⟨_, b3⟩ := bb b3
  obtain ⟨np, nw⟩ := bb b3
  refine ⟨fd, [(cdA K (ga K "_law_places"), tp), (cdA K (ga K "_law_witnessed"), tw)], sp_law K [(tp, lamQ "_law_places"), (tw, lamQ "_law_witnessed")], ?_, ?_, ?_, ?_, ?_, ?_⟩
  · intro p hp
    simp only [List.mem_cons, List.not_mem_nil, or_false] at hp
    rcases hp with rfl | rfl
    · exact t1
    · exact t2
  · intro p hp
    simp only [List.mem_cons, List.not_mem_nil, or_false] at hp
    rcases hp with rfl | rfl
    · exact Option.isNone_iff_eq_none.mp np
    · exact Option.isNone_iff_eq_none.mp nw
  · intro p hp
    simp only [List.mem_cons, List.not_mem_nil, or_false] at hp
    rcases hp with rfl | rfl
    · exact codeHd_of_K X hcp
    · exact codeHd_of_K X hcw
  · intro s u
    obtain ⟨oc, od, kV, doc, pm, an, cdv, ct, osl, rfl, lk, hcd⟩ := FL.ex
    exact .of_eq (bd_l_law kV doc pm an cdv ct [u] rfl)
  · intro H a ns hl _ hT hS
    refine ⟨a, ns, rfl, hS, by omega, fun p hp => ?_, fun _ => rfl⟩
    simp only [List.mem_cons, List.not_mem_nil, or_false] at hp
    rcases hp with rfl | rfl
    · exact LamX.TabS.nil (hT _ List.mem_cons_self)
    · exact LamX.TabS.nil (hT _ (List.mem_cons_of_mem _ List.mem_cons_self))
  · intro base KB GB TB
    have F := FA base (TB _ List.mem_cons_self) (TB _ (List.mem_cons_of_mem _ List.mem_cons_self))
    rw [ea]
    exact FL.ok sc_l_law (fun vs H Q E h => by obtain ⟨a, ns, rfl, _⟩ := h; rfl) (law_cal F (ga K "law"))
end LK
open PySem PySem.W PySem.Calls PyProof.Rows
theorem PySem.Challenge.cw_latelink_k40_whole_every_fit_has_a_place_holds : PySem.Challenge.rw_latelink_k40_whole_every_fit_has_a_place.Holds := by
  w_on; o_law
  refine HandSHeadRun.head_any (r := LK.R) (q := LK.qv) (H := LK.hk) (ob := LK.ob) (M := 60000) (loose := LK.names) (d := HandSHeadRun.topDef LK.R.prog 69) (kwd := [])
    LK.ob_eq
    (by kernel_rfl) (fun s => by kernel_rfl) LK.run (by kernel_rfl) (by kernel_rfl) (by kernel_rfl) (by rfl) (by first | assumption | decide +kernel) (by decide +kernel) ⟨rfl, rfl, rfl, rfl, rfl, by decide +kernel⟩ ?hw ?hc
  case hw => w_witness2
  case hc =>
    refine LamX.walk_ofTsE (l := PySem.Challenge.rw_latelink_k40_whole_every_fit_has_a_place) (n := 63) (k := 14) (x := "_law_script") (CX := fun _ => L2.CX0) rfl (by decide) (by kernel_rfl) ⟨rfl, by decide, by decide⟩ ?F (fun _ _ _ _ _ z => z)
    intro w mg fa h Y G hmg0
    obtain ⟨K, tp, tw, KX, c⟩ := Y
    have hmg : mg ("law" : PySem.Str) = some (.ref fa) := by
      have e : (HandSHeadRun.topDef LK.R.prog 69).name = ("law" : PySem.Str) := by kernel_rfl
      rw [← e]
      exact hmg0
    exact ⟨K, KX, LK.law_at rfl KX G hmg c⟩
end
