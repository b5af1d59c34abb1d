import PyProof.Rows.All
import Wide.All
import OpenK.AllK
import Wide.FinOn
import HandS.ForMost
import HandS.Defaults
import HandS.ForExc
import HandS.ExcInit
import HandS.ExcField
import HandS.ExcOwn
import KE.KExcInit
import HandS.Codes
import HandS.ExcIs
import HandS.HeadHook1
import HandS.HeadHook2
import HandS.HeadHook3
import HandS.HeadHook4
import KE.KStateDown
import Lean
import HandS.Head0
import HandS.Head1
import HandS.Head2
import HandS.HeadEnd
import HandS.HeadWalk
import HandS.More
import HandS.DictComp
import HandS.Walk
import HandS.SetKeys
import HandS.SetBool
import HandS.DictTup
import HandS.ListItems
import KE.GoesNew
import KE.KDictZip
import KE.KItemsList
import HandS.Zip
import KE.GoesEnumKw
import KE.KDictPairs
import HandS.IsInst
import KE.KLam
import HandS.Lambda
import HandS.OwnEq
import OpenK.KOps
import PyProof.InstEq
import HandS.DeepEq
import HandS.DictEq
import PyProof.DictFindH
import PyProof.ReprRoads
import PyProof.ReprNest
import PyProof.ReprReads
import PyProof.ReprLen
import PyProof.StrLawsRepr
import HandS.EndTab
import HandS.EndBits
import HandS.Wide
import HandS.Flow
import HandS.TupLen
import HandS.Conv
import HandS.Strs
import HandS.Remove
import HandS.Deep
import HandS.Style
import HandS.WordsExc
import HandS.TupAny
import HandS.Finally
import PyProof.AutoSeq1
import HandS.SetFor
import PySem.Challenge.RW_groupsteps_k41_whole_least_and_greatest
set_option Elab.async false
set_option linter.all false
set_option maxRecDepth 100000
set_option maxHeartbeats 0
/-! ## GsTxt -/
namespace Gs
open PySem L2
def top (i : Nat) : Stmt := PySem.Challenge.pw_groupsteps_k41_whole_least_and_greatest.main.body.getD i (.Pass ⟨0, 0, 0, 0⟩)
abbrev s_NoState_init : Stmt := inClass (top 18) 0
abbrev s_is_integer : Stmt := top 23
abbrev s_is_name : Stmt := top 24
abbrev s_is_version : Stmt := top 25
abbrev s_require_version : Stmt := top 26
abbrev s_is_window : Stmt := top 28
abbrev s_require_window : Stmt := top 29
abbrev s_reaches : Stmt := top 30
abbrev s_contains : Stmt := top 31
abbrev s_rises : Stmt := top 32
abbrev s_is_row_of_names : Stmt := top 37
abbrev s_check_uses : Stmt := top 38
abbrev s_check_new_windows : Stmt := top 39
abbrev s_Catalog_init : Stmt := inClass (top 40) 0
abbrev s_Catalog_modules : Stmt := inClass (top 40) 1
abbrev s_Catalog_uses : Stmt := inClass (top 40) 2
abbrev s_Catalog_users : Stmt := inClass (top 40) 3
abbrev s_Catalog_versions : Stmt := inClass (top 40) 4
abbrev s_Catalog_publish : Stmt := inClass (top 40) 5
abbrev s_Catalog_withdraw : Stmt := inClass (top 40) 6
abbrev s_Catalog_window : Stmt := inClass (top 40) 7
abbrev s_Catalog_is_available : Stmt := inClass (top 40) 8
abbrev s_Catalog_available : Stmt := inClass (top 40) 9
abbrev s_Catalog_clone : Stmt := inClass (top 40) 11
abbrev s_Catalog_eq : Stmt := inClass (top 40) 12
abbrev s_Catalog_len : Stmt := inClass (top 40) 13
abbrev s_require_module : Stmt := top 41
abbrev s_all_uses : Stmt := top 42
abbrev s_check_rows : Stmt := top 43
abbrev s_catalog_of : Stmt := top 44
abbrev s_settled_version : Stmt := top 46
abbrev s_first_reaching : Stmt := top 47
abbrev s_demands_of_version : Stmt := top 48
abbrev s_searched : Stmt := top 49
abbrev s_chain_to : Stmt := top 50
abbrev s_shortest_chain : Stmt := top 51
abbrev s_first_failing : Stmt := top 52
abbrev s_require_state : Stmt := top 54
abbrev s_found_conflicts : Stmt := top 55
abbrev s_conflicts : Stmt := top 56
abbrev s_first_conflict : Stmt := top 57
abbrev s_first_demands : Stmt := top 59
abbrev s_demanded_versions : Stmt := top 60
abbrev s_latest : Stmt := top 61
abbrev s_lowered : Stmt := top 62
abbrev s_least_state : Stmt := top 63
abbrev s_greatest_state : Stmt := top 64
abbrev s_l_rng : Stmt := top 66
abbrev s_l_draw : Stmt := top 67
abbrev s_l_choice : Stmt := top 68
abbrev s_l_shuffled : Stmt := top 69
abbrev s_l_name : Stmt := top 70
abbrev s_l_names : Stmt := top 71
abbrev s_l_windows : Stmt := top 72
abbrev s_l_rows : Stmt := top 73
abbrev s_l_world : Stmt := top 74
abbrev s_l_withdrawn : Stmt := top 75
abbrev s_l_contains : Stmt := top 76
abbrev s_l_conflicts : Stmt := top 77
abbrev s_l_states : Stmt := top 78
abbrev s_l_as_dict : Stmt := top 79
abbrev s_l_bound : Stmt := top 80
abbrev s_l_following : Stmt := top 81
abbrev s_l_next : Stmt := top 82
abbrev s_l_distances : Stmt := top 83
abbrev s_l_is_chain : Stmt := top 84
abbrev s_l_outcome : Stmt := top 85
abbrev s_l_is_failing : Stmt := top 86
abbrev s_l_is_right : Stmt := top 87
abbrev s_l_published : Stmt := top 88
abbrev s_l_right : Stmt := top 89
abbrev s_law : Stmt := top 90
abbrev N_NoState_init : List Str := ["self", "chain"]
theorem sc_NoState_init : FnScope N_NoState_init ["self", "chain"] (defScope s_NoState_init) := ⟨rfl, rfl, rfl, by decide +kernel, rfl, by decide +kernel, by decide +kernel⟩
abbrev N_is_integer : List Str := ["value"]
theorem sc_is_integer : FnScope N_is_integer ["value"] (defScope s_is_integer) := ⟨rfl, rfl, rfl, by decide +kernel, rfl, by decide +kernel, by decide +kernel⟩
abbrev N_is_name : List Str := ["value", "letter"]
theorem sc_is_name : FnScope N_is_name ["value"] (defScope s_is_name) := ⟨rfl, rfl, rfl, by decide +kernel, rfl, by decide +kernel, by decide +kernel⟩
abbrev N_is_version : List Str := ["value"]
theorem sc_is_version : FnScope N_is_version ["value"] (defScope s_is_version) := ⟨rfl, rfl, rfl, by decide +kernel, rfl, by decide +kernel, by decide +kernel⟩
abbrev N_require_version : List Str := ["value"]
theorem sc_require_version : FnScope N_require_version ["value"] (defScope s_require_version) := ⟨rfl, rfl, rfl, by decide +kernel, rfl, by decide +kernel, by decide +kernel⟩
abbrev N_is_window : List Str := ["value", "low", "high"]
theorem sc_is_window : FnScope N_is_window ["value"] (defScope s_is_window) := ⟨rfl, rfl, rfl, by decide +kernel, rfl, by decide +kernel, by decide +kernel⟩
abbrev N_require_window : List Str := ["value"]
theorem sc_require_window : FnScope N_require_window ["value"] (defScope s_require_window) := ⟨rfl, rfl, rfl, by decide +kernel, rfl, by decide +kernel, by decide +kernel⟩
abbrev N_reaches : List Str := ["window", "version"]
theorem sc_reaches : FnScope N_reaches ["window", "version"] (defScope s_reaches) := ⟨rfl, rfl, rfl, by decide +kernel, rfl, by decide +kernel, by decide +kernel⟩
abbrev N_contains : List Str := ["window", "version"]
theorem sc_contains : FnScope N_contains ["window", "version"] (defScope s_contains) := ⟨rfl, rfl, rfl, by decide +kernel, rfl, by decide +kernel, by decide +kernel⟩
abbrev N_rises : List Str := ["first", "second"]
theorem sc_rises : FnScope N_rises ["first", "second"] (defScope s_rises) := ⟨rfl, rfl, rfl, by decide +kernel, rfl, by decide +kernel, by decide +kernel⟩
abbrev N_is_row_of_names : List Str := ["value", "module", "name"]
theorem sc_is_row_of_names : FnScope N_is_row_of_names ["value", "module"] (defScope s_is_row_of_names) := ⟨rfl, rfl, rfl, by decide +kernel, rfl, by decide +kernel, by decide +kernel⟩
abbrev N_check_uses : List Str := ["uses", "module", "names", "name"]
theorem sc_check_uses : FnScope N_check_uses ["uses"] (defScope s_check_uses) := ⟨rfl, rfl, rfl, by decide +kernel, rfl, by decide +kernel, by decide +kernel⟩
abbrev N_check_new_windows : List Str := ["windows", "count", "position", "window"]
theorem sc_check_new_windows : FnScope N_check_new_windows ["windows", "count"] (defScope s_check_new_windows) := ⟨rfl, rfl, rfl, by decide +kernel, rfl, by decide +kernel, by decide +kernel⟩
abbrev N_Catalog_init : List Str := ["self", "uses", "user", "names", "used", "module"]
theorem sc_Catalog_init : FnScope N_Catalog_init ["self", "uses"] (defScope s_Catalog_init) := ⟨rfl, rfl, rfl, by decide +kernel, rfl, by decide +kernel, by decide +kernel⟩
abbrev N_Catalog_modules : List Str := ["self"]
theorem sc_Catalog_modules : FnScope N_Catalog_modules ["self"] (defScope s_Catalog_modules) := ⟨rfl, rfl, rfl, by decide +kernel, rfl, by decide +kernel, by decide +kernel⟩
abbrev N_Catalog_uses : List Str := ["self", "module"]
theorem sc_Catalog_uses : FnScope N_Catalog_uses ["self", "module"] (defScope s_Catalog_uses) := ⟨rfl, rfl, rfl, by decide +kernel, rfl, by decide +kernel, by decide +kernel⟩
abbrev N_Catalog_users : List Str := ["self", "module", "user", "names"]
theorem sc_Catalog_users : FnScope N_Catalog_users ["self", "module"] (defScope s_Catalog_users) := ⟨rfl, rfl, rfl, by decide +kernel, rfl, by decide +kernel, by decide +kernel⟩
abbrev N_Catalog_versions : List Str := ["self", "module"]
theorem sc_Catalog_versions : FnScope N_Catalog_versions ["self", "module"] (defScope s_Catalog_versions) := ⟨rfl, rfl, rfl, by decide +kernel, rfl, by decide +kernel, by decide +kernel⟩
abbrev N_Catalog_publish : List Str := ["self", "module", "windows", "names", "name", "window", "column", "number"]
theorem sc_Catalog_publish : FnScope N_Catalog_publish ["self", "module", "windows"] (defScope s_Catalog_publish) := ⟨rfl, rfl, rfl, by decide +kernel, rfl, by decide +kernel, by decide +kernel⟩
abbrev N_Catalog_withdraw : List Str := ["self", "module", "version"]
theorem sc_Catalog_withdraw : FnScope N_Catalog_withdraw ["self", "module", "version"] (defScope s_Catalog_withdraw) := ⟨rfl, rfl, rfl, by decide +kernel, rfl, by decide +kernel, by decide +kernel⟩
abbrev N_Catalog_window : List Str := ["self", "user", "used", "version"]
theorem sc_Catalog_window : FnScope N_Catalog_window ["self", "user", "used", "version"] (defScope s_Catalog_window) := ⟨rfl, rfl, rfl, by decide +kernel, rfl, by decide +kernel, by decide +kernel⟩
abbrev N_Catalog_is_available : List Str := ["self", "module", "version"]
theorem sc_Catalog_is_available : FnScope N_Catalog_is_available ["self", "module", "version"] (defScope s_Catalog_is_available) := ⟨rfl, rfl, rfl, by decide +kernel, rfl, by decide +kernel, by decide +kernel⟩
abbrev N_Catalog_available : List Str := ["self", "module", "withdrawn", "version"]
theorem sc_Catalog_available : FnScope N_Catalog_available ["self", "module"] (defScope s_Catalog_available) := ⟨rfl, rfl, rfl, by decide +kernel, rfl, by decide +kernel, by decide +kernel⟩
abbrev N_Catalog_clone : List Str := ["self", "found", "key", "column", "module", "known"]
theorem sc_Catalog_clone : FnScope N_Catalog_clone ["self"] (defScope s_Catalog_clone) := ⟨rfl, rfl, rfl, by decide +kernel, rfl, by decide +kernel, by decide +kernel⟩
abbrev N_Catalog_eq : List Str := ["self", "other"]
theorem sc_Catalog_eq : FnScope N_Catalog_eq ["self", "other"] (defScope s_Catalog_eq) := ⟨rfl, rfl, rfl, by decide +kernel, rfl, by decide +kernel, by decide +kernel⟩
abbrev N_Catalog_len : List Str := ["self"]
theorem sc_Catalog_len : FnScope N_Catalog_len ["self"] (defScope s_Catalog_len) := ⟨rfl, rfl, rfl, by decide +kernel, rfl, by decide +kernel, by decide +kernel⟩
abbrev N_require_module : List Str := ["catalog", "value"]
theorem sc_require_module : FnScope N_require_module ["catalog", "value"] (defScope s_require_module) := ⟨rfl, rfl, rfl, by decide +kernel, rfl, by decide +kernel, by decide +kernel⟩
abbrev N_all_uses : List Str := ["catalog", "user", "names", "used"]
theorem sc_all_uses : FnScope N_all_uses ["catalog"] (defScope s_all_uses) := ⟨rfl, rfl, rfl, by decide +kernel, rfl, by decide +kernel, by decide +kernel⟩
abbrev N_check_rows : List Str := ["rows", "known", "position", "row"]
theorem sc_check_rows : FnScope N_check_rows ["rows"] (defScope s_check_rows) := ⟨rfl, rfl, rfl, by decide +kernel, rfl, by decide +kernel, by decide +kernel⟩
abbrev N_catalog_of : List Str := ["rows", "catalog", "module", "names", "versions", "windows"]
theorem sc_catalog_of : FnScope N_catalog_of ["rows"] (defScope s_catalog_of) := ⟨rfl, rfl, rfl, by decide +kernel, rfl, by decide +kernel, by decide +kernel⟩
abbrev N_settled_version : List Str := ["catalog", "module", "version", "found", "other"]
theorem sc_settled_version : FnScope N_settled_version ["catalog", "module", "version"] (defScope s_settled_version) := ⟨rfl, rfl, rfl, by decide +kernel, rfl, by decide +kernel, by decide +kernel⟩
abbrev N_first_reaching : List Str := ["catalog", "user", "module", "version", "count", "number"]
theorem sc_first_reaching : FnScope N_first_reaching ["catalog", "user", "module", "version"] (defScope s_first_reaching) := ⟨rfl, rfl, rfl, by decide +kernel, rfl, by decide +kernel, by decide +kernel⟩
abbrev N_demands_of_version : List Str := ["catalog", "module", "version", "found", "user", "used", "demand"]
theorem sc_demands_of_version : FnScope N_demands_of_version ["catalog", "module", "version"] (defScope s_demands_of_version) := ⟨rfl, rfl, rfl, by decide +kernel, rfl, by decide +kernel, by decide +kernel⟩
abbrev N_searched : List Str := ["catalog", "starts", "before", "waiting", "at", "demand", "module", "wanted", "version", "following_demands", "other"]
theorem sc_searched : FnScope N_searched ["catalog", "starts"] (defScope s_searched) := ⟨rfl, rfl, rfl, by decide +kernel, rfl, by decide +kernel, by decide +kernel⟩
abbrev N_chain_to : List Str := ["before", "demand", "found"]
theorem sc_chain_to : FnScope N_chain_to ["before", "demand"] (defScope s_chain_to) := ⟨rfl, rfl, rfl, by decide +kernel, rfl, by decide +kernel, by decide +kernel⟩
abbrev N_shortest_chain : List Str := ["catalog", "starts", "is_goal", "before", "demand"]
theorem sc_shortest_chain : FnScope N_shortest_chain ["catalog", "starts", "is_goal"] (defScope s_shortest_chain) := ⟨rfl, rfl, rfl, by decide +kernel, rfl, by decide +kernel, by decide +kernel⟩
abbrev N_first_failing : List Str := ["catalog", "starts", "one"]
theorem sc_first_failing : FnScope N_first_failing ["catalog", "starts"] (defScope s_first_failing) := ⟨rfl, rfl, rfl, by decide +kernel, rfl, by decide +kernel, by decide +kernel⟩
abbrev N_require_state : List Str := ["catalog", "value", "module"]
theorem sc_require_state : FnScope N_require_state ["catalog", "value"] (defScope s_require_state) := ⟨rfl, rfl, rfl, by decide +kernel, rfl, by decide +kernel, by decide +kernel⟩
abbrev N_found_conflicts : List Str := ["catalog", "state", "found", "user", "used"]
theorem sc_found_conflicts : FnScope N_found_conflicts ["catalog", "state"] (defScope s_found_conflicts) := ⟨rfl, rfl, rfl, by decide +kernel, rfl, by decide +kernel, by decide +kernel⟩
abbrev N_conflicts : List Str := ["catalog", "state"]
theorem sc_conflicts : FnScope N_conflicts ["catalog", "state"] (defScope s_conflicts) := ⟨rfl, rfl, rfl, by decide +kernel, rfl, by decide +kernel, by decide +kernel⟩
abbrev N_first_conflict : List Str := ["catalog", "state", "found"]
theorem sc_first_conflict : FnScope N_first_conflict ["catalog", "state"] (defScope s_first_conflict) := ⟨rfl, rfl, rfl, by decide +kernel, rfl, by decide +kernel, by decide +kernel⟩
abbrev N_first_demands : List Str := ["catalog", "module"]
theorem sc_first_demands : FnScope N_first_demands ["catalog"] (defScope s_first_demands) := ⟨rfl, rfl, rfl, by decide +kernel, rfl, by decide +kernel, by decide +kernel⟩
abbrev N_demanded_versions : List Str := ["catalog", "demands", "found", "module", "wanted", "version"]
theorem sc_demanded_versions : FnScope N_demanded_versions ["catalog", "demands"] (defScope s_demanded_versions) := ⟨rfl, rfl, rfl, by decide +kernel, rfl, by decide +kernel, by decide +kernel⟩
abbrev N_latest : List Str := ["versions", "bound", "version"]
theorem sc_latest : FnScope N_latest ["versions", "bound"] (defScope s_latest) := ⟨rfl, rfl, rfl, by decide +kernel, rfl, by decide +kernel, by decide +kernel⟩
abbrev N_lowered : List Str := ["catalog", "bounds", "state", "conflict", "user", "used", "low", "high", "lows", "module", "version", "least"]
theorem sc_lowered : FnScope N_lowered ["catalog", "bounds"] (defScope s_lowered) := ⟨rfl, rfl, rfl, by decide +kernel, rfl, by decide +kernel, by decide +kernel⟩
abbrev N_least_state : List Str := ["catalog", "state"]
theorem sc_least_state : FnScope N_least_state ["catalog"] (defScope s_least_state) := ⟨rfl, rfl, rfl, by decide +kernel, rfl, by decide +kernel, by decide +kernel⟩
abbrev N_greatest_state : List Str := ["catalog"]
theorem sc_greatest_state : FnScope N_greatest_state ["catalog"] (defScope s_greatest_state) := ⟨rfl, rfl, rfl, by decide +kernel, rfl, by decide +kernel, by decide +kernel⟩
abbrev N_l_rng : List Str := ["_law_script", "_law_k", "_law_cell"]
theorem sc_l_rng : FnScope N_l_rng ["_law_script", "_law_k"] (defScope s_l_rng) := ⟨rfl, rfl, rfl, by decide +kernel, rfl, by decide +kernel, by decide +kernel⟩
abbrev N_l_draw : List Str := ["_law_rng_here", "_law_many", "_law_digit"]
theorem sc_l_draw : FnScope N_l_draw ["_law_rng_here", "_law_many"] (defScope s_l_draw) := ⟨rfl, rfl, rfl, by decide +kernel, rfl, by decide +kernel, by decide +kernel⟩
abbrev N_l_choice : List Str := ["_law_rng_here", "_law_options"]
theorem sc_l_choice : FnScope N_l_choice ["_law_rng_here", "_law_options"] (defScope s_l_choice) := ⟨rfl, rfl, rfl, by decide +kernel, rfl, by decide +kernel, by decide +kernel⟩
abbrev N_l_shuffled : List Str := ["_law_rng_here", "_law_values", "_law_pool", "_law_k"]
theorem sc_l_shuffled : FnScope N_l_shuffled ["_law_rng_here", "_law_values"] (defScope s_l_shuffled) := ⟨rfl, rfl, rfl, by decide +kernel, rfl, by decide +kernel, by decide +kernel⟩
abbrev N_l_name : List Str := ["_law_rng_here", "_law_used", "_law_letters", "_law_length", "_law_name_here", "_law_k", "_law_word"]
theorem sc_l_name : FnScope N_l_name ["_law_rng_here", "_law_used"] (defScope s_l_name) := ⟨rfl, rfl, rfl, by decide +kernel, rfl, by decide +kernel, by decide +kernel⟩
abbrev N_l_names : List Str := ["_law_rng_here", "_law_many", "_law_used", "_law_found", "_law_k"]
theorem sc_l_names : FnScope N_l_names ["_law_rng_here", "_law_many", "_law_used"] (defScope s_l_names) := ⟨rfl, rfl, rfl, by decide +kernel, rfl, by decide +kernel, by decide +kernel⟩
abbrev N_l_windows : List Str := ["_law_rng_here", "_law_many", "_law_loose", "_law_low", "_law_high", "_law_found", "_law_k"]
theorem sc_l_windows : FnScope N_l_windows ["_law_rng_here", "_law_many", "_law_loose"] (defScope s_l_windows) := ⟨rfl, rfl, rfl, by decide +kernel, rfl, by decide +kernel, by decide +kernel⟩
abbrev N_l_rows : List Str := ["_law_rng_here", "_law_modules", "_law_versions", "_law_loose", "_law_names_here", "_law_found", "_law_name_here", "_law_others", "_law_uses", "_law_many", "_law_columns", "_law_used", "_law_other", "_law_k", "_law_column"]
theorem sc_l_rows : FnScope N_l_rows ["_law_rng_here", "_law_modules", "_law_versions", "_law_loose"] (defScope s_l_rows) := ⟨rfl, rfl, rfl, by decide +kernel, rfl, by decide +kernel, by decide +kernel⟩
abbrev N_l_world : List Str := ["_law_rows_here", "_law_world_here", "_law_name_here", "_law_uses", "_law_versions", "_law_place", "_law_used", "_law_row", "_law_windows_here"]
theorem sc_l_world : FnScope N_l_world ["_law_rows_here"] (defScope s_l_world) := ⟨rfl, rfl, rfl, by decide +kernel, rfl, by decide +kernel, by decide +kernel⟩
abbrev N_l_withdrawn : List Str := ["_law_rng_here", "_law_catalog", "_law_world_here", "_law_most", "_law_turn", "_law_name_here", "_law_version"]
theorem sc_l_withdrawn : FnScope N_l_withdrawn ["_law_rng_here", "_law_catalog", "_law_world_here", "_law_most"] (defScope s_l_withdrawn) := ⟨rfl, rfl, rfl, by decide +kernel, rfl, by decide +kernel, by decide +kernel⟩
abbrev N_l_contains : List Str := ["_law_window", "_law_version"]
theorem sc_l_contains : FnScope N_l_contains ["_law_window", "_law_version"] (defScope s_l_contains) := ⟨rfl, rfl, rfl, by decide +kernel, rfl, by decide +kernel, by decide +kernel⟩
abbrev N_l_conflicts : List Str := ["_law_world_here", "_law_state", "_law_found", "_law_user", "_law_used"]
theorem sc_l_conflicts : FnScope N_l_conflicts ["_law_world_here", "_law_state"] (defScope s_l_conflicts) := ⟨rfl, rfl, rfl, by decide +kernel, rfl, by decide +kernel, by decide +kernel⟩
abbrev N_l_states : List Str := ["_law_world_here", "_law_found", "_law_place", "_law_name_here", "_law_longer", "_law_some", "_law_state", "_law_version"]
theorem sc_l_states : FnScope N_l_states ["_law_world_here"] (defScope s_l_states) := ⟨rfl, rfl, rfl, by decide +kernel, rfl, by decide +kernel, by decide +kernel⟩
abbrev N_l_as_dict : List Str := ["_law_world_here", "_law_some"]
theorem sc_l_as_dict : FnScope N_l_as_dict ["_law_world_here", "_law_some"] (defScope s_l_as_dict) := ⟨rfl, rfl, rfl, by decide +kernel, rfl, by decide +kernel, by decide +kernel⟩
abbrev N_l_bound : List Str := ["_law_states_here", "_law_sign", "_law_k", "_law_some"]
theorem sc_l_bound : FnScope N_l_bound ["_law_states_here", "_law_sign"] (defScope s_l_bound) := ⟨rfl, rfl, rfl, by decide +kernel, rfl, by decide +kernel, by decide +kernel⟩
abbrev N_l_following : List Str := ["_law_world_here", "_law_demand", "_law_there", "_law_found", "_law_user", "_law_windows_here", "_law_reaching", "_law_version", "_law_used", "_law_name_here", "_law_k", "_law_one", "_law_window"]
theorem sc_l_following : FnScope N_l_following ["_law_world_here", "_law_demand"] (defScope s_l_following) := ⟨rfl, rfl, rfl, by decide +kernel, rfl, by decide +kernel, by decide +kernel⟩
abbrev N_l_next : List Str := ["_law_world_here", "_law_demand", "_law_found"]
theorem sc_l_next : FnScope N_l_next ["_law_world_here", "_law_demand"] (defScope s_l_next) := ⟨rfl, rfl, rfl, by decide +kernel, rfl, by decide +kernel, by decide +kernel⟩
abbrev N_l_distances : List Str := ["_law_world_here", "_law_starts", "_law_found", "_law_waiting", "_law_at", "_law_one"]
theorem sc_l_distances : FnScope N_l_distances ["_law_world_here", "_law_starts"] (defScope s_l_distances) := ⟨rfl, rfl, rfl, by decide +kernel, rfl, by decide +kernel, by decide +kernel⟩
abbrev N_l_is_chain : List Str := ["_law_world_here", "_law_chain", "_law_one", "_law_other"]
theorem sc_l_is_chain : FnScope N_l_is_chain ["_law_world_here", "_law_chain"] (defScope s_l_is_chain) := ⟨rfl, rfl, rfl, by decide +kernel, rfl, by decide +kernel, by decide +kernel⟩
abbrev N_l_outcome : List Str := ["_law_call", "_law_told", "e"]
theorem sc_l_outcome : FnScope N_l_outcome ["_law_call"] (defScope s_l_outcome) := ⟨rfl, rfl, rfl, by decide +kernel, rfl, by decide +kernel, by decide +kernel⟩
abbrev N_l_is_failing : List Str := ["_law_world_here", "_law_starts", "_law_chain", "_law_lengths", "_law_one"]
theorem sc_l_is_failing : FnScope N_l_is_failing ["_law_world_here", "_law_starts", "_law_chain"] (defScope s_l_is_failing) := ⟨rfl, rfl, rfl, by decide +kernel, rfl, by decide +kernel, by decide +kernel⟩
abbrev N_l_is_right : List Str := ["_law_catalog", "_law_world_here", "_law_states_here", "_law_starts", "_law_turn", "_law_told", "_law_due", "_law_name_here", "_law_sign", "_law_one"]
theorem sc_l_is_right : FnScope N_l_is_right ["_law_catalog", "_law_world_here"] (defScope s_l_is_right) := ⟨rfl, rfl, rfl, by decide +kernel, rfl, by decide +kernel, by decide +kernel⟩
abbrev N_l_published : List Str := ["_law_rng_here", "_law_catalog", "_law_world_here", "_law_name_here", "_law_windows_here", "_law_used", "_law_low", "_law_high"]
theorem sc_l_published : FnScope N_l_published ["_law_rng_here", "_law_catalog", "_law_world_here"] (defScope s_l_published) := ⟨rfl, rfl, rfl, by decide +kernel, rfl, by decide +kernel, by decide +kernel⟩
abbrev N_l_right : List Str := ["_law_rng_here", "_law_rows_here", "_law_catalog", "_law_world_here", "_law_turn", "_law_kept", "_law_k"]
theorem sc_l_right : FnScope N_l_right ["_law_rng_here"] (defScope s_l_right) := ⟨rfl, rfl, rfl, by decide +kernel, rfl, by decide +kernel, by decide +kernel⟩
abbrev N_law : List Str := ["_law_script", "_law_k"]
theorem sc_law : FnScope N_law ["_law_script"] (defScope s_law) := ⟨rfl, rfl, rfl, by decide +kernel, rfl, by decide +kernel, by decide +kernel⟩
end Gs
/-! ## GsEx -/
/-! An own exception over an own one over ArithmeticError, whose __init__ calls its base's and stores one field. -/
namespace Gs
open PySem PySem.Spec PyProof.Rows L2
abbrev aeTail : List Value := [.type "ArithmeticError", .type "Exception", .type "BaseException", .type "object"]
def mroA (l : List Value) : Prop := ∃ own : List Addr, l = own.map Value.ref ++ aeTail
theorem mroA.pass {l : List Value} (m : mroA l) (self : Value) : refuseLoop self "__setattr__" l = pure () := by
  obtain ⟨own, rfl⟩ := m
  induction own with
  | nil => exact F.store_ArithmeticError.passes self
  | cons a r ih =>
    rw [List.map_cons, List.cons_append, refuseLoop_ref]
    exact ih
theorem mroA.contains {l : List Value} (m : mroA l) (Y : String) : l.contains (.type Y) = aeTail.contains (.type Y) := by
  obtain ⟨own, rfl⟩ := m
  induction own with
  | nil => rfl
  | cons a r ih =>
    rw [List.map_cons, List.cons_append, List.contains_cons, ih]
    rfl
theorem mroA.ne {l : List Value} (m : mroA l) : l.isEmpty = false := by
  obtain ⟨own, rfl⟩ := m
  cases own <;> rfl
theorem mroA.cons {l : List Value} (m : mroA l) (a : Addr) : mroA (.ref a :: l) := by
  obtain ⟨own, rfl⟩ := m
  exact ⟨a :: own, rfl⟩
section
open Builtin Builtin.ObjectAttr
variable {prog : Program} {w : World} {A : Around} {E : Value → Shared → Prop} {R : Result → Shared → Prop} {hp : Heap} {g : Array GenState} {d : Drawn} {t : Nat} {os : OsState}
theorem exa_osa {K : PySem.W.Frag} {name : Str} {tk : Tok} {v : Value} {x C : Addr} {fv : Array Value} {cd : ClassData}
    (X : K.In hp) (hx : hp.get? x = some { cls := .ref C, data := .fields fv }) (hcd : PySem.W.clsIn K C = some cd) (hm : mroA cd.mro) (hh : cd.hasDict = true) (ha : PySem.W.findIn K (.ref C) name = some none)
    (hq : ∀ h' tk' dx, (∀ b o, b ≠ x → hp.get? b = some o → h'.get? b = some o) → hp.objs.size ≤ dx → dx ≠ x → h'.get? x = some { cls := .ref C, dict := some dx, data := .fields fv } →
      h'.Ns1 dx (fun y => if y = name then some v else none) → R (.ok (.ret .none)) ⟨h', g, d, tk', os⟩) :
    codeAny (model prog w) A (.call (.builtin "object.__setattr__") ⟨[.ref x, .str name tk, v], []⟩) R ⟨hp, g, d, t, os⟩ := by
  have I : PySem.W.InstAt hp x { cls := .ref C, data := .fields fv } C none := ⟨hx, rfl, rfl, trivial⟩
  have SF := F.store_object
  have ne := hm.ne
  have hob : cd.mro.contains (.type "object") = true := (hm.contains "object").trans (by decide +kernel)
  have hxs : x ≠ hp.objs.size := Nat.ne_of_lt (Heap.lt_size hx)
  have sub : PySem.W.Looks (model prog w) hp (isInstance (.ref x) (.type "object")) true := I.type.andThen (PySem.W.looks_mroIn X (by unfold PySem.W.mroIn; rw [hcd, Option.bind_some, if_neg (by rw [ne]; decide), hob]))
  refine codeAny_call_builtin SF.slot.plain SF.entry (@PySem.W.check_slot (model prog w) _ _ ⟨hp, g, d, t, os⟩ "object.__setattr__" "object" "__setattr__" (.ref x) [.str name tk, v] [] _ SF.kind SF.split sub (SF.args (.ref x) (.str name tk) v) ?_)
  have hmr : PySem.W.Looks (model prog w) hp (mroOf (.ref C)) cd.mro := (PySem.W.looks_clsIn X hcd).andThen .now
  have L3 : PySem.W.Looks (model prog w) hp (storeTaker? none) none := .now
  have hcls : PySem.W.Looks (model prog w) hp (classData C) cd := PySem.W.looks_clsIn X hcd
  rw [PySem.W.osa_eq, refuse_eq]
  refine wpAny_bind (wpAny_bind (I.type.at (wpAny_bind (hmr.at ?_))))
  rw [hm.pass]
  refine wpAny_pure (wpAny_bind (I.type.at (wpAny_bind ((PySem.W.looks_findIn X ha).at (wpAny_bind (L3.at ?_))))))
  show wpAny _ _ (storeInOwnDict (.ref x) (.ref C) (.str name tk) name v false) _ _ _
  obtain ⟨nm, bs, mro, ns, qn, hd, sn, sb, ab, col, del⟩ := cd
  dsimp only at hh
  subst hh
  unfold storeInOwnDict ownDictForStores
  repeat (first | with_reducible refine HandSPX.store_in_new ?_ ?_ | with_reducible refine wpAny_loadPart_at hx ?_ | with_reducible refine hcls.at ?_ | wp_step)
  · exact ⟨_, #[], _, (Heap.get?_update_ne _ _ _ _ hxs.symm).trans (Heap.get?_push_at rfl rfl), rfl, fun e he => absurd he (by simp), fun _ => rfl⟩
  · intro h' tk' hn' hs
    have hx₁ : (hp.push { cls := .type "dict", data := .dict #[] }).get? x = some { cls := .ref C, data := .fields fv } := Heap.get?_push_of_some _ hx
    refine hq h' tk' hp.objs.size (fun b o hb ho => ?_) (Nat.le_refl _) hxs.symm ?_ hn'
    · exact (hs.2 b (Nat.ne_of_lt (Heap.lt_size ho))).trans ((Heap.get?_update_ne _ _ _ _ hb).trans (Heap.get?_push_of_some _ ho))
    · exact (hs.2 x hxs).trans (Heap.get?_update_self _ hx₁ rfl)
end
/-- what the written part says of the class -/
structure AxC (K : PySem.W.Frag) (C : Addr) : Prop where
  cls : ∃ nm q N bs bm sn sub ab col dd k0 k1 k2 k3 k5, K.lookup C = some (excClassObj nm q C N bs bm true sn sub ab col dd k0 k1 k2 k3 k5 "ArithmeticError.__new__") ∧ mroA bm
  sa : PySem.W.findIn K (.ref C) "__setattr__" = some (some (.builtin "object.__setattr__"))
  exC : PySem.W.subIn K (.ref C) (.type "BaseException") = some true
  tyC : PySem.W.typeIn K (.ref C) = some (.type "type")
  kC : PySem.W.keepIn K (.ref C) = true
section
variable {X : Cx} {pins : List (Addr × Obj)} {σ : L2.St} {H : Hp} {s : Shared} {a C dx : Addr} {f : Str} {y : V} {u : Value} {fs : List (Str × V)} {Q : Unit → Shared → Prop} {E : Value → Shared → Prop} {A : Around}
/-- self.f = y, the first one -/
theorem axt_new (T : AxC X.K C) (I : Inv X pins σ H s) (e : H a = some (exo a C none)) (hno : PySem.W.findIn X.K (.ref C) f = some none) (ry : RelV y u)
    (h : ∀ dx s', H dx = none → dx ≠ a → Inv X pins σ (upd (upd H dx (exd dx [(f, y)])) a (exo a C (some dx))) s' → Q () s') : wpAny (model X.prog X.w) A (setAttr (.ref a) f u) Q E s := by
  obtain ⟨nm, q, N, bs, bm, sn, sub, ab, col, dd, k0, k1, k2, k3, k5, hC, hbm⟩ := T.cls
  have hcl : PySem.W.clsIn X.K C = some { name := nm, bases := bs, mro := .ref C :: bm, ns := N, qualname := q, hasDict := true, slotNames := sn, subclasses := sub, abstract := ab, collection := col, hasDel := false } := by unfold PySem.W.clsIn; rw [hC] <;> rfl
  obtain ⟨t1, ho⟩ := exo_at I.hok e
  obtain ⟨hp, g, d, t, os⟩ := s
  refine PySem.W.set_plain I.kIn (ox := { cls := .ref C, dict := none, data := .fields #[.ref t1, .none, .none, .none, .bool false, .none] }) (od := none) ⟨ho, rfl, rfl, trivial⟩ T.sa ?_
  refine exa_osa I.kIn ho hcl (show mroA (.ref C :: bm) from hbm.cons C) rfl hno (fun h' tk' dx k dn dne hx hn => ?_)
  have hnd : H dx = none := I.hok.fresh dn
  have nd : ∀ {b : Addr} {o : Obj}, hp.get? b = some o → b ≠ dx := fun {b o} q => Nat.ne_of_lt (Nat.lt_of_lt_of_le (Heap.lt_size q) dn)
  have na : ∀ {b : Addr}, H b = none → b ≠ a := fun {b} n z => by
    rw [z, e] at n
    cases n
  have Un1 : Un X.fs [] H (upd (upd H dx (exd dx [(f, y)])) a (exo a C (some dx))) hp h' := {
    keep := fun b o q n _ _ => k b o (na n) q
    slot := fun b o q n _ _ => ⟨o.slots, k b o (na n) q⟩
    free := fun b o q n _ => by rw [upd_ne (na n), upd_ne (nd q)]; exact n
    there := fun b o q _ => by
      by_cases hb : b = a
      · exact ⟨_, by rw [hb]; exact hx⟩
      · exact ⟨o, k b o hb q⟩
    tups := fun b xs q => by rw [upd_ne (at_ne e q exo_tup), upd_ne (ne_of_none q hnd)]; exact q
    frzs := fun b o v q => by rw [upd_ne (at_ne e q exo_frz), upd_ne (ne_of_none q hnd)]; exact q
    tbls := fun b ps q => ⟨#[], by rw [upd_ne (at_ne e q exo_tbl), upd_ne (ne_of_none q hnd), q]; simp⟩ }
  refine h dx _ hnd dne (I.un (t' := tk') Un1 fun b o q => ?_)
  by_cases hb : b = a
  · subst hb
    rw [upd_same] at q
    cases q
    exact exo_ok hx
  · rw [upd_ne hb] at q
    by_cases hd : b = dx
    · subst hd
      rw [upd_same] at q
      cases q
      exact exd_ok hn (relO_put (fs := []) ry fun g => True.intro)
    · rw [upd_ne hd] at q
      exact (I.hok b o q).stay (fun c v hc z => k c v (by
          rcases hc with hc | hc
          · rw [hc]
            exact hb
          · exact at_ne e hc exo_own) z)
        (fun c hc => by rw [upd_ne (at_ne e hc exo_own), upd_ne (ne_of_none hc hnd)]; exact hc) (fun c xs hc => by rw [upd_ne (at_ne e hc exo_tup), upd_ne (ne_of_none hc hnd)]; exact hc)
/-- ArithmeticError.__init__(self, ..): nothing of it is told -/
theorem axinit_ok {us : List Value} {Q : Value → Shared → Prop} (T : AxC X.K C) (I : Inv X pins σ H s) (e : H a = some (exo a C none)) (hl : us.length ≤ sizeLine) (h : ∀ s', Inv X pins σ H s' → Q .none s') :
    wpAny (model X.prog X.w) A (call (.builtin "ArithmeticError.__init__") (.ref a :: us)) Q E s := by
  obtain ⟨nm, q, N, bs, bm, sn, sub, ab, col, dd, k0, k1, k2, k3, k5, hC, hbm⟩ := T.cls
  obtain ⟨t1, ho⟩ := exo_at I.hok e
  obtain ⟨hp, g, d, t, os⟩ := s
  refine wpAny_call (HandSPX.init_base F.excBase_ArithmeticError (fun Y => hbm.contains Y) (I.kIn _ _ hC) ho hl fun h' t2 k hx => ?_)
  have J := I.write (t' := t) (x := a) (e := a) (o := exo a C none) (by rw [e]; exact True.intro) (.inl rfl) k ⟨_, hx⟩ (exo_ok hx)
  have eu : upd H a (exo a C none) = H := by
    funext b
    by_cases hb : b = a
    · rw [hb, upd_same, e]
    · rw [upd_ne hb]
  rw [eu] at J
  exact h _ J
end
/-! ### readings and rules -/
/-- Base.__init__(self, ..) -/
def tAxI (K : PySem.W.Frag) (ta : TA) : TE := fun σ H Q => ta σ H fun vs H1 => ∃ (a C : Addr) (ws : List V), vs = .ref a :: ws ∧ ws.length ≤ 1000 ∧ AxC K C ∧ H1 a = some (exo a C none) ∧ Q .non H1
/-- self.f = e -/
def tAxt (K : PySem.W.Frag) (f : Str) (to te : TE) : TS := fun D σ H => te σ H fun y H1 => to σ H1 fun x H2 => ∃ a C : Addr, x = .ref a ∧ AxC K C ∧ PySem.W.findIn K (.ref C) f = some none ∧
  H2 a = some (exo a C none) ∧ ∀ dx, H2 dx = none → dx ≠ a → D.nx σ (upd (upd H2 dx (exd dx [(f, y)])) a (exo a C (some dx)))
section
variable {X : Cx} {o e : Expr} {es : List Expr} {to te : TE} {ta : TA} {f : Str} {p p' p1 p2 pos : Pos}
/-- L.__init__(self, ..), L an own class without an __init__ of its own -/
structure AxB (K : PySem.W.Frag) (L : Addr) : Prop where
  ga : PySem.W.specialIn K (.ref L) "__getattribute__" = some (some (.builtin "type.__getattribute__"))
  rd : PySem.W.readsIn K L (.type "type") = true
  at_ : PySem.W.findCls K (.ref L) (.type "type") "__init__" = some (.val (.builtin "ArithmeticError.__init__"))
theorem pe_axinit {x : Str} {L : Addr} {pl : Sem Bool} (B : AxB X.K L) (hg : Gl X x) (hm : X.mg x = some (.ref L)) (ha : PA X (e :: es) ta)
    (hc : eval (.Call (.Attribute (.Name x p1) "__init__" p2) (e :: es) [] pos) X.env = (do
      let ov ← eval (.Name x p1) X.env
      standAt p2.atName
      let (f, first) ← holding [ov] (getMethod ov "__init__" pl)
      callWith pos f first (backTo pos (starEach (e :: es) X.env)) (backToKw pos (keywordEach [] X.env))) := by rfl)
    (hdb : (x == ("__debug__" : Str)) = false := by decide)
    (he : starEach (e :: es) X.env = (false, eval e X.env) :: starEach es X.env := by rfl) (hpl : (backTo pos (starEach es X.env)).any (·.1) = false := by rfl) :
    PE X (.Call (.Attribute (.Name x p1) "__init__" p2) (e :: es) [] pos) (tAxI X.K ta) := by
  refine ⟨fun pins s σ H Q I h => ?_⟩
  refine PySem.W.methodCall_KW (ld_glob I hg hm ?_ hdb) hc
  refine PySem.W.method_cls I.kIn B.ga (PySem.W.cls_value I.kIn B.rd B.at_ (by decide +kernel) ?_)
  show wpAny _ _ (callWith pos (Value.builtin "ArithmeticError.__init__") [] (backTo pos (starEach (e :: es) X.env)) []) _ _ _
  refine PyProof.Rows.callWith_method1 (thn (ha.run pos pins _ σ H _ (I.tok _) h) fun us s1 ⟨vs, H1, I1, r1, a, C, ws, ev, hl, T, ea, q⟩ => ?_) he hpl
  subst ev
  cases r1 with
  | @cons _ u0 _ ur ra rw' =>
    obtain rfl : u0 = Value.ref a := ra
    have hlen : ur.length ≤ sizeLine := by
      rw [← Paired.length rw', sizeLine_eq]
      omega
    exact axinit_ok T I1 ea hlen fun s' J => ⟨.non, H1, J, rfl, q⟩
theorem ps_axt (ho : PE X o to) (he : PE X e te) (hs : swapsWith e (some (.Attribute o f p')) pos.line X.env = pure false := by rfl) : PS X (.Assign [.Attribute o f p'] e pos) (tAxt X.K f to te) := by
  refine ⟨fun pins s σ H D I h => ?_⟩
  refine plainObj_wpAny_Assign_Attribute (thn (he.run pins s σ H _ I h) fun v s1 ⟨y, H1, I1, r1, q1⟩ => thn (ho.run pins s1 σ H1 _ I1 q1) fun u s2 ⟨x, H2, I2, r2, a, C, ex, T, hno, ea, q⟩ => ?_) hs
  subst ex
  obtain rfl : u = Value.ref a := r2
  exact axt_new T I2 ea hno r1 fun dx s' n ne J => ⟨σ, _, J, q dx n ne⟩
theorem pmk_ax {CX : CXT} {x : Str} {C fI : Addr} {k : Nat} {fd : FuncData} {ps : List Str} {sp : Sp} {ds : List Value} {dvs : List V} (T : AxC X.K C) (iC : PySem.W.findIn X.K (.ref C) "__init__" = some (some (.ref fI))) (tI : PySem.W.typeIn X.K (.ref fI) = some (.type "function"))
    (F1 : FnOk X.prog X.w X.K X.mg X.base CX k fI fd ps sp) (hr : Room (k + 1) X.A) (hb : Binds X.K fd ps ds) (hd : Vals dvs ds) (hx : Passes CX X (fun _ _ _ => False)) (hg : Gl X x) (hm : X.mg x = some (.ref C)) (ha : PA X (e :: es) ta)
    (hdb : (x == ("__debug__" : Str)) = false := by decide) (he : starEach (e :: es) X.env = (false, eval e X.env) :: starEach es X.env := by rfl) (hpl : (backTo pos (starEach es X.env)).any (·.1) = false := by rfl) :
    PMk X (.Call (.Name x p) (e :: es) [] pos) (tMkO C sp dvs ta) := by
  intro pins s σ H Q I h
  obtain ⟨nm, q, N, bs, bm, sn, sub, ab, col, dd, k0, k1, k2, k3, k5, hC, hbm⟩ := T.cls
  refine wpAny_Call_Name_kw (ld_glob I hg hm ?_ hdb)
  refine PySem.W.callWith_K (h₀ := X.base) I.ok.mod.kin T.kC (thn (ha.run pos pins s σ H _ I h) fun us s1 ⟨vs, H1, I1, r1, hz, q1⟩ => ⟨I1.kIn, ?_⟩) he hpl
  show wpAny _ _ (call (.ref C) us) _ _ _
  obtain ⟨hp, g, dr, tk, os⟩ := s1
  have hsz : hp.objs.size ≤ hp.objs.size + 1 := Nat.le_succ _
  have hn : H1 (hp.objs.size + 1) = none := I1.hok.fresh hsz
  have hq := q1 (hp.objs.size + 1) hn
  have kk : ∀ b o, hp.get? b = some o → ((hp.push (PySem.W.kdv_tup us)).push (PySem.HandSPX.excO C hp.objs.size)).get? b = some o := fun b o e => Heap.get?_push_of_some _ (Heap.get?_push_of_some _ e)
  have hget : ((hp.push (PySem.W.kdv_tup us)).push (PySem.HandSPX.excO C hp.objs.size)).get? (hp.objs.size + 1) = some (PySem.HandSPX.excO C hp.objs.size) := by heap_get
  have I2 : Inv X pins σ (upd H1 (hp.objs.size + 1) (exo (hp.objs.size + 1) C none)) ⟨(hp.push (PySem.W.kdv_tup us)).push (PySem.HandSPX.excO C hp.objs.size), g, dr, tk, os⟩ :=
    I1.laid (t' := tk) (a := hp.objs.size + 1) (o := exo (hp.objs.size + 1) C none) (h' := (hp.push (PySem.W.kdv_tup us)).push (PySem.HandSPX.excO C hp.objs.size)) kk hsz (exo_ok hget)
  have r2 : Vals (V.ref (hp.objs.size + 1) :: (vs ++ dvs)) (Value.ref (hp.objs.size + 1) :: (us ++ ds)) := .cons rfl (r1.append hd)
  have hl : (Value.ref (hp.objs.size + 1) :: us ++ ds).length = ps.length := by
    have e := r2.length
    rw [F1.len _ _ _ _ hq] at e
    exact e.symm
  have hus : us.length ≤ sizeLine := by
    rw [← Paired.length r1, sizeLine_eq]
    omega
  refine wpAny_call (PySem.HandSPX.call_own F.excBase_ArithmeticError (fun Y => hbm.contains Y) (I1.kIn _ _ hC) (PySem.W.looks_findIn I1.kIn iC) (fun self => PySem.W.bind_fn I1.kIn self tI) hus
    (codeAny_mono (F1.run _ X.stack _ _ ⟨Value.ref (hp.objs.size + 1) :: us, []⟩ (Value.ref (hp.objs.size + 1) :: (us ++ ds)) _ _ (fun _ _ _ => False) (hr.make C us []) (I2.env0.make C us []) (hb _ (Value.ref (hp.objs.size + 1) :: us) I2.kIn hl) r2 hq) fun r s' hq' => ?_))
  cases r with
  | error er => exact hx pins σ _ _ er s' I2 hq'
  | ok fl =>
    cases fl with
    | ret u =>
      obtain ⟨v, H2, os2, bare2, un2, hok2, rv, ev, d, fs, ea, ed, hd1, q2⟩ := hq'
      subst ev
      obtain ⟨h2, g2, d2, t2, os'⟩ := s'
      exact ⟨rv, mk_end (raises_own T.exC T.tyC) I1 hsz kk un2 hok2 os2 bare2 ea ed hd1 q2⟩
    | next => exact False.elim hq'
    | brk => exact False.elim hq'
    | cont => exact False.elim hq'
end
end Gs
/-! ## GsSay -/
/-! What the head is asked of the classes, as a Bool. -/
namespace Gs
open PySem PySem.Spec PyProof.Rows L2
def mroB : List Value → Bool
  | [] => false
  | x :: r => decide (x :: r = aeTail) || ((match x with
    | .ref _ => true
    | _ => false) && mroB r)
theorem mroB_ok : ∀ {l : List Value}, mroB l = true → mroA l
  | [], h => by cases h
  | x :: r, h => by
    unfold mroB at h
    rcases Bool.or_eq_true_iff.mp h with h | h
    · exact ⟨[], of_decide_eq_true h⟩
    · obtain ⟨h1, h2⟩ := Bool.and_eq_true_iff.mp h
      cases x with
      | ref a => exact (mroB_ok h2).cons a
      | _ => cases h1
def axObj (C : Addr) (o : Obj) : Bool := match o with
  | ⟨.type t, _, .cls cd, sl⟩ => decide (t = "type") && ((match cd.mro with
    | .ref D :: bm => decide (D = C) && mroB bm
    | _ => false) && ((match sl.toList with
    | [_, _, _, _, some (.builtin n), _] => decide (n = "ArithmeticError.__new__")
    | _ => false) && (cd.hasDict && !cd.hasDel)))
  | _ => false
theorem axObj_ok {C : Addr} {o : Obj} (h : axObj C o = true) : ∃ nm q N bs bm sn sub ab col dd k0 k1 k2 k3 k5, o = excClassObj nm q C N bs bm true sn sub ab col dd k0 k1 k2 k3 k5 "ArithmeticError.__new__" ∧ mroA bm := by
  unfold axObj at h
  split at h
  case h_1 t dd cd sl =>
    rw [Bool.and_eq_true_iff, Bool.and_eq_true_iff, Bool.and_eq_true_iff, Bool.and_eq_true_iff] at h
    obtain ⟨h1, h2, h3, h4, h5⟩ := h
    have h1 := of_decide_eq_true h1
    subst h1
    obtain ⟨nm, bs, mro, ns, qn, hd, sn, sub, ab, col, del⟩ := cd
    dsimp only at h2 h4 h5
    have h5 : del = false := by cases del <;> first | rfl | cases h5
    subst h4 h5
    split at h2
    case h_1 D bm =>
      rw [Bool.and_eq_true_iff] at h2
      obtain ⟨e1, e2⟩ := h2
      have e1 := of_decide_eq_true e1
      subst e1
      split at h3
      case h_1 k0 k1 k2 k3 n k5 hl =>
        have e3 := of_decide_eq_true h3
        subst e3
        have hl : sl = #[k0, k1, k2, k3, some (.builtin "ArithmeticError.__new__"), k5] := Array.ext' hl
        subst hl
        exact ⟨nm, qn, ns, bs, bm, sn, sub, ab, col, dd, k0, k1, k2, k3, k5, rfl, mroB_ok e2⟩
      case h_2 => cases h3
    case h_2 => cases h2
  case h_2 => cases h
def lookB (K : PySem.W.Frag) (C : Addr) (p : Obj → Bool) : Bool := match K.lookup C with
  | some o => p o
  | none => false
theorem lookB_ok {K : PySem.W.Frag} {C : Addr} {p : Obj → Bool} (h : lookB K C p = true) : ∃ o, K.lookup C = some o ∧ p o = true := by
  unfold lookB at h
  cases e : K.lookup C with
  | none =>
    rw [e] at h
    cases h
  | some o =>
    rw [e] at h
    exact ⟨o, rfl, h⟩
def sayC (K : PySem.W.Frag) (C : Addr) : List Bool := [decide (PySem.W.findIn K (.ref C) "__class__" = some (some (.builtin "object.__class__"))), decide (PySem.W.specialIn K (.builtin "object.__class__") "__get__" = some (some (.builtin "getset_descriptor.__get__"))),
  decide (PySem.W.takesIn K (.builtin "object.__class__") = some true), decide (PySem.W.mroIn K C (.type "object") = some true), decide (PySem.W.kitOne K (.ref C) (.ref C) = some true), decide (PySem.W.findIn K (.ref C) "__ne__" = some (some (.builtin "object.__ne__")))]
def sayN (K : PySem.W.Frag) (N U : Addr) : List Bool := [lookB K N (axObj N), decide (PySem.W.findIn K (.ref N) "__setattr__" = some (some (.builtin "object.__setattr__"))), decide (PySem.W.subIn K (.ref N) (.type "BaseException") = some true), decide (PySem.W.typeIn K (.ref N) = some (.type "type")), PySem.W.keepIn K (.ref N),
  decide (PySem.W.findIn K (.ref N) "chain" = some none), xfB K N, PySem.W.hasDictIn K N, decide (PySem.W.findIn K (.ref N) "__class__" = some (some (.builtin "object.__class__"))), decide (PySem.W.mroIn K N (.type "object") = some true), decide (PySem.W.kitOne K (.ref N) (.ref U) = some false),
  decide (PySem.W.findIn K (.ref N) "__init__" = some (some (.ref (He.fAd K ("NoState", some "__init__"))))), decide (PySem.W.typeIn K (.ref (He.fAd K ("NoState", some "__init__"))) = some (.type "function"))]
def fcB (K : PySem.W.Frag) (L : Addr) : Bool := match PySem.W.findCls K (.ref L) (.type "type") "__init__" with
  | some (.val (.builtin z)) => decide (z = "ArithmeticError.__init__")
  | _ => false
theorem fcB_ok {K : PySem.W.Frag} {L : Addr} (h : fcB K L = true) : PySem.W.findCls K (.ref L) (.type "type") "__init__" = some (.val (.builtin "ArithmeticError.__init__")) := by
  unfold fcB at h
  split at h
  case h_1 z e => rw [e, of_decide_eq_true h]
  case h_2 => cases h
def sayL (K : PySem.W.Frag) (L : Addr) : List Bool := [decide (PySem.W.specialIn K (.ref L) "__getattribute__" = some (some (.builtin "type.__getattribute__"))), PySem.W.readsIn K L (.type "type"), fcB K L]
def ex (K : PySem.W.Frag) : Bool := (sayC K (He.ga K "Catalog") ++ (sayN K (He.ga K "NoState") (He.ga K "Unreachable") ++ sayL K (He.ga K "LimitReached"))).all fun b => b
theorem all3 {a b c : List Bool} (h : (a ++ (b ++ c)).all (fun x => x) = true) : (∀ x ∈ a, x = true) ∧ (∀ x ∈ b, x = true) ∧ ∀ x ∈ c, x = true := by
  have h := List.all_eq_true.mp h
  exact ⟨fun x hx => h x (List.mem_append_left _ hx), fun x hx => h x (List.mem_append_right _ (List.mem_append_left _ hx)), fun x hx => h x (List.mem_append_right _ (List.mem_append_right _ hx))⟩
theorem nth {l : List Bool} (h : ∀ x ∈ l, x = true) (i : Nat) {b : Bool} (e : l[i]? = some b) : b = true := h b (List.mem_of_getElem? e)
section
variable {K : PySem.W.Frag}
theorem say_ic {C : Addr} (cl : Cls K C) (h : ∀ x ∈ sayC K C, x = true) : C8.InsC K C := ⟨cl, of_decide_eq_true (nth h 0 rfl), of_decide_eq_true (nth h 1 rfl), of_decide_eq_true (nth h 2 rfl), of_decide_eq_true (nth h 3 rfl), of_decide_eq_true (nth h 4 rfl)⟩
theorem say_ax {N U : Addr} (h : ∀ x ∈ sayN K N U, x = true) : AxC K N := by
  obtain ⟨o, e1, e2⟩ := lookB_ok (nth h 0 rfl)
  obtain ⟨nm, q, M, bs, bm, sn, sub, ab, col, dd, k0, k1, k2, k3, k5, e3, e4⟩ := axObj_ok e2
  exact ⟨⟨nm, q, M, bs, bm, sn, sub, ab, col, dd, k0, k1, k2, k3, k5, by rw [e1, e3], e4⟩, of_decide_eq_true (nth h 1 rfl), of_decide_eq_true (nth h 2 rfl), of_decide_eq_true (nth h 3 rfl), nth h 4 rfl⟩
theorem say_xc {C N U : Addr} (hc : ∀ x ∈ sayC K C, x = true) (h : ∀ x ∈ sayN K N U, x = true) : ExcC K N :=
  ⟨(xfB_ok (nth h 6 rfl)).ga, (xfB_ok (nth h 6 rfl)).gg, of_decide_eq_true (nth h 2 rfl), nth h 7 rfl, of_decide_eq_true (nth h 8 rfl), of_decide_eq_true (nth hc 1 rfl), of_decide_eq_true (nth hc 2 rfl), of_decide_eq_true (nth h 9 rfl)⟩
theorem say_ab {L : Addr} (h : ∀ x ∈ sayL K L, x = true) : AxB K L := ⟨of_decide_eq_true (nth h 0 rfl), nth h 1 rfl, fcB_ok (nth h 2 rfl)⟩
end
end Gs
/-! ## GsHead -/
namespace Gs
open PySem PySem.Spec PyProof.Rows L2
def d_NoState_init : He.DefD := ⟨("NoState", some "__init__"), "__init__", "NoState.__init__", defArgs s_NoState_init, defBody s_NoState_init, defScope s_NoState_init, [], []⟩
def d_is_integer : He.DefD := ⟨("is_integer", none), "is_integer", "is_integer", defArgs s_is_integer, defBody s_is_integer, defScope s_is_integer, [], []⟩
def d_is_name : He.DefD := ⟨("is_name", none), "is_name", "is_name", defArgs s_is_name, defBody s_is_name, defScope s_is_name, [], []⟩
def d_is_version : He.DefD := ⟨("is_version", none), "is_version", "is_version", defArgs s_is_version, defBody s_is_version, defScope s_is_version, [], []⟩
def d_require_version : He.DefD := ⟨("require_version", none), "require_version", "require_version", defArgs s_require_version, defBody s_require_version, defScope s_require_version, [], []⟩
def d_is_window : He.DefD := ⟨("is_window", none), "is_window", "is_window", defArgs s_is_window, defBody s_is_window, defScope s_is_window, [], []⟩
def d_require_window : He.DefD := ⟨("require_window", none), "require_window", "require_window", defArgs s_require_window, defBody s_require_window, defScope s_require_window, [], []⟩
def d_reaches : He.DefD := ⟨("reaches", none), "reaches", "reaches", defArgs s_reaches, defBody s_reaches, defScope s_reaches, [], []⟩
def d_contains : He.DefD := ⟨("contains", none), "contains", "contains", defArgs s_contains, defBody s_contains, defScope s_contains, [], []⟩
def d_rises : He.DefD := ⟨("rises", none), "rises", "rises", defArgs s_rises, defBody s_rises, defScope s_rises, [], []⟩
def d_is_row_of_names : He.DefD := ⟨("is_row_of_names", none), "is_row_of_names", "is_row_of_names", defArgs s_is_row_of_names, defBody s_is_row_of_names, defScope s_is_row_of_names, [], []⟩
def d_check_uses : He.DefD := ⟨("check_uses", none), "check_uses", "check_uses", defArgs s_check_uses, defBody s_check_uses, defScope s_check_uses, [], []⟩
def d_check_new_windows : He.DefD := ⟨("check_new_windows", none), "check_new_windows", "check_new_windows", defArgs s_check_new_windows, defBody s_check_new_windows, defScope s_check_new_windows, [], []⟩
def d_Catalog_init : He.DefD := ⟨("Catalog", some "__init__"), "__init__", "Catalog.__init__", defArgs s_Catalog_init, defBody s_Catalog_init, defScope s_Catalog_init, [], []⟩
def d_Catalog_modules : He.DefD := ⟨("Catalog", some "modules"), "modules", "Catalog.modules", defArgs s_Catalog_modules, defBody s_Catalog_modules, defScope s_Catalog_modules, [], []⟩
def d_Catalog_uses : He.DefD := ⟨("Catalog", some "uses"), "uses", "Catalog.uses", defArgs s_Catalog_uses, defBody s_Catalog_uses, defScope s_Catalog_uses, [], []⟩
def d_Catalog_users : He.DefD := ⟨("Catalog", some "users"), "users", "Catalog.users", defArgs s_Catalog_users, defBody s_Catalog_users, defScope s_Catalog_users, [], []⟩
def d_Catalog_versions : He.DefD := ⟨("Catalog", some "versions"), "versions", "Catalog.versions", defArgs s_Catalog_versions, defBody s_Catalog_versions, defScope s_Catalog_versions, [], []⟩
def d_Catalog_publish : He.DefD := ⟨("Catalog", some "publish"), "publish", "Catalog.publish", defArgs s_Catalog_publish, defBody s_Catalog_publish, defScope s_Catalog_publish, [], []⟩
def d_Catalog_withdraw : He.DefD := ⟨("Catalog", some "withdraw"), "withdraw", "Catalog.withdraw", defArgs s_Catalog_withdraw, defBody s_Catalog_withdraw, defScope s_Catalog_withdraw, [], []⟩
def d_Catalog_window : He.DefD := ⟨("Catalog", some "window"), "window", "Catalog.window", defArgs s_Catalog_window, defBody s_Catalog_window, defScope s_Catalog_window, [], []⟩
def d_Catalog_is_available : He.DefD := ⟨("Catalog", some "is_available"), "is_available", "Catalog.is_available", defArgs s_Catalog_is_available, defBody s_Catalog_is_available, defScope s_Catalog_is_available, [], []⟩
def d_Catalog_available : He.DefD := ⟨("Catalog", some "available"), "available", "Catalog.available", defArgs s_Catalog_available, defBody s_Catalog_available, defScope s_Catalog_available, [], []⟩
def d_Catalog_clone : He.DefD := ⟨("Catalog", some "clone"), "clone", "Catalog.clone", defArgs s_Catalog_clone, defBody s_Catalog_clone, defScope s_Catalog_clone, [], []⟩
def d_Catalog_eq : He.DefD := ⟨("Catalog", some "__eq__"), "__eq__", "Catalog.__eq__", defArgs s_Catalog_eq, defBody s_Catalog_eq, defScope s_Catalog_eq, [], []⟩
def d_Catalog_len : He.DefD := ⟨("Catalog", some "__len__"), "__len__", "Catalog.__len__", defArgs s_Catalog_len, defBody s_Catalog_len, defScope s_Catalog_len, [], []⟩
def d_require_module : He.DefD := ⟨("require_module", none), "require_module", "require_module", defArgs s_require_module, defBody s_require_module, defScope s_require_module, [], []⟩
def d_all_uses : He.DefD := ⟨("all_uses", none), "all_uses", "all_uses", defArgs s_all_uses, defBody s_all_uses, defScope s_all_uses, [], []⟩
def d_check_rows : He.DefD := ⟨("check_rows", none), "check_rows", "check_rows", defArgs s_check_rows, defBody s_check_rows, defScope s_check_rows, [], []⟩
def d_catalog_of : He.DefD := ⟨("catalog_of", none), "catalog_of", "catalog_of", defArgs s_catalog_of, defBody s_catalog_of, defScope s_catalog_of, [], []⟩
def d_settled_version : He.DefD := ⟨("settled_version", none), "settled_version", "settled_version", defArgs s_settled_version, defBody s_settled_version, defScope s_settled_version, [], []⟩
def d_first_reaching : He.DefD := ⟨("first_reaching", none), "first_reaching", "first_reaching", defArgs s_first_reaching, defBody s_first_reaching, defScope s_first_reaching, [], []⟩
def d_demands_of_version : He.DefD := ⟨("demands_of_version", none), "demands_of_version", "demands_of_version", defArgs s_demands_of_version, defBody s_demands_of_version, defScope s_demands_of_version, [], []⟩
def d_searched : He.DefD := ⟨("searched", none), "searched", "searched", defArgs s_searched, defBody s_searched, defScope s_searched, [], []⟩
def d_chain_to : He.DefD := ⟨("chain_to", none), "chain_to", "chain_to", defArgs s_chain_to, defBody s_chain_to, defScope s_chain_to, [], []⟩
def d_shortest_chain : He.DefD := ⟨("shortest_chain", none), "shortest_chain", "shortest_chain", defArgs s_shortest_chain, defBody s_shortest_chain, defScope s_shortest_chain, [], []⟩
def d_first_failing : He.DefD := ⟨("first_failing", none), "first_failing", "first_failing", defArgs s_first_failing, defBody s_first_failing, defScope s_first_failing, [], []⟩
def d_require_state : He.DefD := ⟨("require_state", none), "require_state", "require_state", defArgs s_require_state, defBody s_require_state, defScope s_require_state, [], []⟩
def d_found_conflicts : He.DefD := ⟨("found_conflicts", none), "found_conflicts", "found_conflicts", defArgs s_found_conflicts, defBody s_found_conflicts, defScope s_found_conflicts, [], []⟩
def d_conflicts : He.DefD := ⟨("conflicts", none), "conflicts", "conflicts", defArgs s_conflicts, defBody s_conflicts, defScope s_conflicts, [], []⟩
def d_first_conflict : He.DefD := ⟨("first_conflict", none), "first_conflict", "first_conflict", defArgs s_first_conflict, defBody s_first_conflict, defScope s_first_conflict, [], []⟩
def d_first_demands : He.DefD := ⟨("first_demands", none), "first_demands", "first_demands", defArgs s_first_demands, defBody s_first_demands, defScope s_first_demands, [], []⟩
def d_demanded_versions : He.DefD := ⟨("demanded_versions", none), "demanded_versions", "demanded_versions", defArgs s_demanded_versions, defBody s_demanded_versions, defScope s_demanded_versions, [], []⟩
def d_latest : He.DefD := ⟨("latest", none), "latest", "latest", defArgs s_latest, defBody s_latest, defScope s_latest, [], []⟩
def d_lowered : He.DefD := ⟨("lowered", none), "lowered", "lowered", defArgs s_lowered, defBody s_lowered, defScope s_lowered, [], []⟩
def d_least_state : He.DefD := ⟨("least_state", none), "least_state", "least_state", defArgs s_least_state, defBody s_least_state, defScope s_least_state, [], []⟩
def d_greatest_state : He.DefD := ⟨("greatest_state", none), "greatest_state", "greatest_state", defArgs s_greatest_state, defBody s_greatest_state, defScope s_greatest_state, [], []⟩
def d_l_rng : He.DefD := ⟨("_law_rng", none), "_law_rng", "_law_rng", defArgs s_l_rng, defBody s_l_rng, defScope s_l_rng, [], []⟩
def d_l_draw : He.DefD := ⟨("_law_draw", none), "_law_draw", "_law_draw", defArgs s_l_draw, defBody s_l_draw, defScope s_l_draw, [], []⟩
def d_l_choice : He.DefD := ⟨("_law_choice", none), "_law_choice", "_law_choice", defArgs s_l_choice, defBody s_l_choice, defScope s_l_choice, [], []⟩
def d_l_shuffled : He.DefD := ⟨("_law_shuffled", none), "_law_shuffled", "_law_shuffled", defArgs s_l_shuffled, defBody s_l_shuffled, defScope s_l_shuffled, [], []⟩
def d_l_name : He.DefD := ⟨("_law_name", none), "_law_name", "_law_name", defArgs s_l_name, defBody s_l_name, defScope s_l_name, [], []⟩
def d_l_names : He.DefD := ⟨("_law_names", none), "_law_names", "_law_names", defArgs s_l_names, defBody s_l_names, defScope s_l_names, [], []⟩
def d_l_windows : He.DefD := ⟨("_law_windows", none), "_law_windows", "_law_windows", defArgs s_l_windows, defBody s_l_windows, defScope s_l_windows, [], []⟩
def d_l_rows : He.DefD := ⟨("_law_rows", none), "_law_rows", "_law_rows", defArgs s_l_rows, defBody s_l_rows, defScope s_l_rows, [], []⟩
def d_l_world : He.DefD := ⟨("_law_world", none), "_law_world", "_law_world", defArgs s_l_world, defBody s_l_world, defScope s_l_world, [], []⟩
def d_l_withdrawn : He.DefD := ⟨("_law_withdrawn", none), "_law_withdrawn", "_law_withdrawn", defArgs s_l_withdrawn, defBody s_l_withdrawn, defScope s_l_withdrawn, [], []⟩
def d_l_contains : He.DefD := ⟨("_law_contains", none), "_law_contains", "_law_contains", defArgs s_l_contains, defBody s_l_contains, defScope s_l_contains, [], []⟩
def d_l_conflicts : He.DefD := ⟨("_law_conflicts", none), "_law_conflicts", "_law_conflicts", defArgs s_l_conflicts, defBody s_l_conflicts, defScope s_l_conflicts, [], []⟩
def d_l_states : He.DefD := ⟨("_law_states", none), "_law_states", "_law_states", defArgs s_l_states, defBody s_l_states, defScope s_l_states, [], []⟩
def d_l_as_dict : He.DefD := ⟨("_law_as_dict", none), "_law_as_dict", "_law_as_dict", defArgs s_l_as_dict, defBody s_l_as_dict, defScope s_l_as_dict, [], []⟩
def d_l_bound : He.DefD := ⟨("_law_bound", none), "_law_bound", "_law_bound", defArgs s_l_bound, defBody s_l_bound, defScope s_l_bound, [], []⟩
def d_l_following : He.DefD := ⟨("_law_following", none), "_law_following", "_law_following", defArgs s_l_following, defBody s_l_following, defScope s_l_following, [], []⟩
def d_l_next : He.DefD := ⟨("_law_next", none), "_law_next", "_law_next", defArgs s_l_next, defBody s_l_next, defScope s_l_next, [], []⟩
def d_l_distances : He.DefD := ⟨("_law_distances", none), "_law_distances", "_law_distances", defArgs s_l_distances, defBody s_l_distances, defScope s_l_distances, [], []⟩
def d_l_is_chain : He.DefD := ⟨("_law_is_chain", none), "_law_is_chain", "_law_is_chain", defArgs s_l_is_chain, defBody s_l_is_chain, defScope s_l_is_chain, [], []⟩
def d_l_outcome : He.DefD := ⟨("_law_outcome", none), "_law_outcome", "_law_outcome", defArgs s_l_outcome, defBody s_l_outcome, defScope s_l_outcome, [], []⟩
def d_l_is_failing : He.DefD := ⟨("_law_is_failing", none), "_law_is_failing", "_law_is_failing", defArgs s_l_is_failing, defBody s_l_is_failing, defScope s_l_is_failing, [], []⟩
def d_l_is_right : He.DefD := ⟨("_law_is_right", none), "_law_is_right", "_law_is_right", defArgs s_l_is_right, defBody s_l_is_right, defScope s_l_is_right, [], []⟩
def d_l_published : He.DefD := ⟨("_law_published", none), "_law_published", "_law_published", defArgs s_l_published, defBody s_l_published, defScope s_l_published, [], []⟩
def d_l_right : He.DefD := ⟨("_law_right", none), "_law_right", "_law_right", defArgs s_l_right, defBody s_l_right, defScope s_l_right, [], []⟩
def d_law : He.DefD := ⟨("law", none), "law", "law", defArgs s_law, defBody s_law, defScope s_law, [], []⟩
def fn : List He.DefD := [d_NoState_init, d_is_integer, d_is_name, d_is_version, d_require_version, d_is_window, d_require_window, d_reaches, d_contains, d_rises, d_is_row_of_names, d_check_uses, d_check_new_windows, d_Catalog_init, d_Catalog_modules, d_Catalog_uses, d_Catalog_users, d_Catalog_versions, d_Catalog_publish, d_Catalog_withdraw, d_Catalog_window, d_Catalog_is_available, d_Catalog_available, d_Catalog_clone, d_Catalog_eq, d_Catalog_len, d_require_module, d_all_uses, d_check_rows, d_catalog_of, d_settled_version, d_first_reaching, d_demands_of_version, d_searched, d_chain_to, d_shortest_chain, d_first_failing, d_require_state, d_found_conflicts, d_conflicts, d_first_conflict, d_first_demands, d_demanded_versions, d_latest, d_lowered, d_least_state, d_greatest_state, d_l_rng, d_l_draw, d_l_choice, d_l_shuffled, d_l_name, d_l_names, d_l_windows, d_l_rows, d_l_world, d_l_withdrawn, d_l_contains, d_l_conflicts, d_l_states, d_l_as_dict, d_l_bound, d_l_following, d_l_next, d_l_distances, d_l_is_chain, d_l_outcome, d_l_is_failing, d_l_is_right, d_l_published, d_l_right, d_law]
def fa : List He.Fa := [.glo "is_integer", .glo "is_name", .glo "is_version", .glo "require_version", .glo "is_window", .glo "require_window", .glo "reaches", .glo "contains", .glo "rises", .glo "is_row_of_names", .glo "check_uses", .glo "check_new_windows", .glo "require_module", .glo "all_uses", .glo "check_rows", .glo "catalog_of", .glo "settled_version", .glo "first_reaching", .glo "demands_of_version", .glo "searched", .glo "chain_to", .glo "shortest_chain", .glo "first_failing", .glo "require_state", .glo "found_conflicts", .glo "conflicts", .glo "first_conflict", .glo "first_demands", .glo "demanded_versions", .glo "latest", .glo "lowered", .glo "least_state", .glo "greatest_state", .glo "_law_rng", .glo "_law_draw", .glo "_law_choice", .glo "_law_shuffled", .glo "_law_name", .glo "_law_names", .glo "_law_windows", .glo "_law_rows", .glo "_law_world", .glo "_law_withdrawn", .glo "_law_contains", .glo "_law_conflicts", .glo "_law_states", .glo "_law_as_dict", .glo "_law_bound", .glo "_law_following", .glo "_law_next", .glo "_law_distances", .glo "_law_is_chain", .glo "_law_outcome", .glo "_law_is_failing", .glo "_law_is_right", .glo "_law_published", .glo "_law_right", .glo "law", .glo "Catalog", .glo "NoState", .glo "Unreachable", .glo "LimitReached", .free "abs", .free "len", .free "max", .free "divmod", .free "list", .free "range", .free "min", .free "tuple", .free "enumerate", .free "dict", .free "zip", .free "all", .free "isinstance", .free "repr", .free "sum", .free "int", .free "bool", .free "str", .int "MAX_LETTERS" 8, .int "MOST_MODULES" 12, .int "MOST_VERSIONS" 16, .int "MOST_USES" 40, .str "LETTERS" "abcdefghijklmnopqrstuvwxyz", .cls "Catalog", .mkr "Catalog", .meth "Catalog" "__init__", .meth "Catalog" "modules", .meth "Catalog" "uses", .meth "Catalog" "users", .meth "Catalog" "versions", .meth "Catalog" "publish", .meth "Catalog" "withdraw", .meth "Catalog" "window", .meth "Catalog" "is_available", .meth "Catalog" "available", .meth "Catalog" "clone", .meth "Catalog" "__eq__", .meth "Catalog" "__len__", .noat "Catalog" "use_table", .noat "Catalog" "window_table", .noat "Catalog" "count_table", .noat "Catalog" "withdrawn_table", .noat "Catalog" "record", .exm "NoState" "NoState" true]
def ad0 : List Addr := [3, 2, 278, 279, 314, 315, 316, 317, 318, 333, 334, 335, 336, 337, 345, 346, 350, 351, 357, 358, 364, 365, 371, 372, 378, 379, 385, 386, 392, 393, 399, 400, 404, 405, 409, 410, 416, 417, 428, 429]
def ad1 : List Addr := [435, 436, 442, 443, 447, 448, 454, 455, 461, 462, 468, 469, 475, 476, 482, 483, 487, 488, 494, 495, 499, 500, 506, 507, 513, 514, 520, 521, 522, 523, 524, 525, 526, 534, 535, 539, 540, 546, 547, 551]
def ad2 : List Addr := [552, 556, 557, 563, 564, 568, 569, 573, 574, 580, 581, 587, 588, 594, 595, 601, 602, 608, 609, 615, 616, 622, 623, 627, 628, 632, 633, 637, 638, 642, 643, 649, 650, 656, 657, 663, 664, 670, 671, 677]
def ad3 : List Addr := [678, 682, 683, 687, 688, 694, 695, 701, 702, 706, 707, 711, 712, 718, 719, 725, 726, 732, 733, 739, 740, 746, 747, 751, 752, 756, 757, 763, 764, 768, 769, 773, 774, 780, 781, 785, 786, 790, 791, 797]
def ad4 : List Addr := [798, 804, 805, 809, 810]
def addrs : List Addr := ad0 ++ ad1 ++ ad2 ++ ad3 ++ ad4
def tf : List He.Defn := [("first_failing", none), ("_law_is_right", none)]
abbrev R : PySem.W.OpenRow := PySem.W.OpenLaw.row PySem.Challenge.rw_groupsteps_k41_whole_least_and_greatest
abbrev KofG (g : Addr → Option Obj) : PySem.W.Frag := He.frT g addrs
def tneB (K : PySem.W.Frag) : Bool := !decide ((He.cT K ("first_failing", none)).2 = (He.cT K ("_law_is_right", none)).2)
/-- what is told of the written part -/
structure Says (h : Heap) (K : PySem.W.Frag) : Prop where
  facts : fa.all (fun f => f.ok K) = true
  defs : fn.all (fun d => d.ok K) = true
  objs : fn.map (fun d => He.fnW K d.at_) = fn.map He.DefD.val
  more : ex K = true
  tne : tneB K = true
  hd : ∀ p ∈ tf, PySem.W.codeHdIn K (He.cT K p).1 (He.cT K p).2 = true
  out : ∀ p ∈ tf, K.lookup (He.cT K p).2 = none
  empty : ∀ p ∈ tf, h.get? (He.cT K p).2 = some { cls := .none, data := .fields #[] }
abbrev Ob : Type := Bool × Bool × List He.FnW
def obG (g : Addr → Option Obj) : Ob := (fa.all (fun f => f.ok (KofG g)) && (ex (KofG g) && (tneB (KofG g) && He.tabsB g tf (KofG g))), fn.all (fun d => d.ok (KofG g)), fn.map fun d => He.fnW (KofG g) d.at_)
def obV : Ob := (true, true, fn.map He.DefD.val)
theorem says_of {h : Heap} (e : obG h.get? = obV) : Says h (KofG h.get?) := by
  have e1 : (fa.all (fun f => f.ok (KofG h.get?)) && (ex (KofG h.get?) && (tneB (KofG h.get?) && He.tabsB h.get? tf (KofG h.get?)))) = true := congrArg (fun z : Ob => z.1) e
  have e2 : fn.all (fun d => d.ok (KofG h.get?)) = true := congrArg (fun z : Ob => z.2.1) e
  have e3 : fn.map (fun d => He.fnW (KofG h.get?) d.at_) = fn.map He.DefD.val := congrArg (fun z : Ob => z.2.2) e
  rw [Bool.and_eq_true_iff, Bool.and_eq_true_iff, Bool.and_eq_true_iff] at e1
  obtain ⟨a1, a2, a4, a3⟩ := e1
  have tb : ∀ p ∈ tf, PySem.W.codeHdIn (KofG h.get?) (He.cT (KofG h.get?) p).1 (He.cT (KofG h.get?) p).2 = true ∧ ∃ o, h.get? (He.cT (KofG h.get?) p).2 = some o ∧ He.emptyTab o = true := fun p hp => by
    have b := List.all_eq_true.mp a3 p hp
    rw [Bool.and_eq_true_iff] at b
    obtain ⟨b1, b2⟩ := b
    refine ⟨b1, ?_⟩
    cases z : h.get? (He.cT (KofG h.get?) p).2 with
    | none =>
      rw [z] at b2
      exact Bool.noConfusion b2
    | some o =>
      rw [z] at b2
      exact ⟨o, rfl, b2⟩
  refine ⟨a1, e2, e3, a2, a4, fun p hp => (tb p hp).1, fun p hp => ?_, fun p hp => ?_⟩
  · obtain ⟨_, o, z1, z2⟩ := tb p hp
    exact He.frT_none z1 z2
  · obtain ⟨_, o, z1, z2⟩ := tb p hp
    rw [z1, He.emptyTab_eq z2]
abbrev hk : PySem.W.Hook where
  α := Ob
  obs := fun s => obG s.heap.get?
  val := fun _ => obV
  says := fun _ h => ∃ K : PySem.W.Frag, K.In h ∧ Says h K
  of := fun _ _ e => ⟨_, He.frT_in, says_of e⟩
  keeps := fun _ _ _ ⟨K, i, c⟩ k => ⟨K, PySem.W.Frag.In.keeps i k, ⟨c.facts, c.defs, c.objs, c.more, c.tne, c.hd, c.out, fun p hp => k _ _ (c.empty p hp)⟩⟩
def ob (s : PySem.W.SharedT) : hk.α := obG (HandSHeadRun.getT s)
theorem ob_eq (s : PySem.W.SharedT) : ob s = hk.obs s.abs := congrArg obG (funext fun a => HandSHeadRun.getT_eq s a)
def nm0 : List PySem.Str := ["_wall", "is_integer", "is_name", "is_version", "require_version", "is_window", "require_window", "reaches", "contains", "rises", "is_row_of_names", "check_uses", "check_new_windows", "require_module", "all_uses", "check_rows", "catalog_of", "settled_version", "first_reaching", "demands_of_version", "searched", "chain_to", "shortest_chain", "first_failing", "require_state", "found_conflicts", "conflicts", "first_conflict", "first_demands", "demanded_versions"]
def nm1 : List PySem.Str := ["latest", "lowered", "least_state", "greatest_state", "_law_rng", "_law_draw", "_law_choice", "_law_shuffled", "_law_name", "_law_names", "_law_windows", "_law_rows", "_law_world", "_law_withdrawn", "_law_contains", "_law_conflicts", "_law_states", "_law_as_dict", "_law_bound", "_law_following", "_law_next", "_law_distances", "_law_is_chain", "_law_outcome", "_law_is_failing", "_law_is_right", "_law_published", "_law_right", "GroupError", "InvalidName"]
def nm2 : List PySem.Str := ["InvalidVersion", "InvalidWindow", "InvalidWindows", "InvalidUses", "InvalidRows", "InvalidState", "Missing", "UnknownModule", "UnknownUse", "UnknownVersion", "Refused", "NotRising", "LimitReached", "TooMany", "NoState", "Unreachable", "Catalog", "LETTERS", "MAX_LETTERS", "MOST_MODULES", "MOST_VERSIONS", "MOST_USES"]
def looseN : List PySem.Str := nm0 ++ nm1 ++ nm2
theorem run (w : PySem.World) : HandSHeadRun.RunEq R (PySem.W.view R.prog [90]) hk ob 9000 looseN w := by
  intro os
  kernel_rfl
end Gs
/-! ## GsMath -/
/-! The mathematics: catalogs, demands, the search, least and greatest states. No program here. -/
namespace Gs
abbrev Nm := PySem.Str
abbrev Win := Int × Option Int
abbrev Dm := Nm × Int
structure Cat where
  mods : List Nm
  uses : Nm → List Nm
  wins : Nm → Nm → List Win
  cnt : Nm → Nat
  wd : Nm → List Int
def upTo (n : Nat) : List Int := (List.range n).map fun i : Nat => (i : Int)
namespace Cat
variable (c : Cat)
def there (m : Nm) : List Int := (upTo (c.cnt m)).filter fun v => !decide (v ∈ c.wd m)
def users (m : Nm) : List Nm := c.mods.filter fun k => decide (m ∈ c.uses k)
def pairs : List (Nm × Nm) := c.mods.flatMap fun u => (c.uses u).map fun d => (u, d)
end Cat
def reach (w : Win) (v : Int) : Bool := match w.2 with
  | none => true
  | some h => decide (v ≤ h)
def holds (w : Win) (v : Int) : Bool := decide (w.1 ≤ v) && reach w v
def winAt (ws : List Win) (v : Int) : Win := ws.getD v.toNat (0, none)
def firstR (ws : List Win) (v : Int) : Int := (ws.findIdx fun w => reach w v : Nat)
def okWin (w : Win) : Prop := 0 ≤ w.1 ∧ ∀ h, w.2 = some h → w.1 ≤ h
def rise (a b : Win) : Bool := decide (a.1 ≤ b.1) && (match a.2 with
  | none => decide (b.2 = none)
  | some h => reach b h)
def Rising (ws : List Win) : Prop := ∀ (i : Nat) a b, ws[i]? = some a → ws[i + 1]? = some b → rise a b = true
namespace Cat
variable (c : Cat)
def settle (d : Dm) : Option Int := ((c.there d.1).filter fun v => decide (d.2 ≤ v)).head?
def foundOf (m : Nm) (w : Int) : List Dm := ((c.uses m).map fun u => (u, (winAt (c.wins m u) w).1)) ++ (c.users m).map fun k => (k, firstR (c.wins k m) w)
end Cat
def uniq (l : List Dm) : List Dm := l.foldl (fun acc d => if d ∈ acc then acc else acc ++ [d]) []
def pos (l : List Dm) : List Dm := l.filter fun d => decide (0 < d.2)
namespace Cat
variable (c : Cat)
def foll (m : Nm) (w : Int) : List Dm := uniq (pos (c.foundOf m w))
def next (d : Dm) : List Dm := match c.settle d with
  | none => []
  | some w => c.foll d.1 w
def starts : List Dm := c.mods.map fun m => (m, 0)
structure WF : Prop where
  nd : c.mods.Nodup
  ne : c.mods ≠ []
  few : c.mods.length ≤ 12
  sub : ∀ m ∈ c.mods, ∀ u ∈ c.uses m, u ∈ c.mods
  und : ∀ m ∈ c.mods, (c.uses m).Nodup
  self : ∀ m ∈ c.mods, m ∉ c.uses m
  len : ∀ m ∈ c.mods, ∀ u ∈ c.uses m, (c.wins m u).length = c.cnt m
  ris : ∀ m ∈ c.mods, ∀ u ∈ c.uses m, Rising (c.wins m u)
  okw : ∀ m ∈ c.mods, ∀ u ∈ c.uses m, ∀ w ∈ c.wins m u, okWin w
  c16 : ∀ m ∈ c.mods, c.cnt m ≤ 16
def Cons (x : Nm → Int) : Prop := (∀ m ∈ c.mods, x m ∈ c.there m) ∧ ∀ m ∈ c.mods, ∀ u ∈ c.uses m, holds (winAt (c.wins m u) (x m)) (x u) = true
end Cat

/-! ### lists -/
theorem mem_upTo {n : Nat} {v : Int} : v ∈ upTo n ↔ 0 ≤ v ∧ v < n := by
  unfold upTo
  rw [List.mem_map]
  constructor
  · rintro ⟨i, hi, rfl⟩
    have := List.mem_range.mp hi
    omega
  · rintro ⟨h1, h2⟩
    exact ⟨v.toNat, List.mem_range.mpr (by omega), by omega⟩
theorem upTo_sorted (n : Nat) : (upTo n).Pairwise (· < ·) := by
  unfold upTo
  rw [List.pairwise_map]
  exact (List.pairwise_lt_range (n := n)).imp fun h => by omega
namespace Cat
variable {c : Cat}
theorem mem_there {m : Nm} {v : Int} : v ∈ c.there m ↔ (0 ≤ v ∧ v < c.cnt m) ∧ v ∉ c.wd m := by
  unfold there
  rw [List.mem_filter, mem_upTo]
  simp
theorem there_sorted (m : Nm) : (c.there m).Pairwise (· < ·) := (upTo_sorted _).sublist List.filter_sublist
theorem there_len (m : Nm) : (c.there m).length ≤ c.cnt m := by
  have h1 : (c.there m).length ≤ (upTo (c.cnt m)).length := List.length_filter_le ..
  have h2 : (upTo (c.cnt m)).length = c.cnt m := by simp [upTo]
  omega
theorem mem_users {m k : Nm} : k ∈ c.users m ↔ k ∈ c.mods ∧ m ∈ c.uses k := by
  unfold users
  rw [List.mem_filter]
  simp
end Cat
theorem head_filter_least {l : List Int} (h : l.Pairwise (· < ·)) {p : Int → Bool} {v : Int} (e : (l.filter p).head? = some v) : v ∈ l ∧ p v = true ∧ ∀ w ∈ l, p w = true → v ≤ w := by
  induction l with
  | nil => simp at e
  | cons x l ih =>
    rw [List.pairwise_cons] at h
    rw [List.filter_cons] at e
    cases hp : p x with
    | true =>
      rw [if_pos hp] at e
      simp only [List.head?_cons, Option.some.injEq] at e
      subst e
      refine ⟨List.mem_cons_self, hp, fun w hw hpw => ?_⟩
      rcases List.mem_cons.mp hw with rfl | hw
      · exact Int.le_refl _
      · exact Int.le_of_lt (h.1 w hw)
    | false =>
      rw [if_neg (by rw [hp]; decide)] at e
      obtain ⟨h1, h2, h3⟩ := ih h.2 e
      refine ⟨List.mem_cons_of_mem _ h1, h2, fun w hw hpw => ?_⟩
      rcases List.mem_cons.mp hw with rfl | hw
      · rw [hp] at hpw
        cases hpw
      · exact h3 w hw hpw
namespace Cat
variable {c : Cat}
theorem settle_some {d : Dm} {v : Int} (e : c.settle d = some v) : v ∈ c.there d.1 ∧ d.2 ≤ v ∧ ∀ w ∈ c.there d.1, d.2 ≤ w → v ≤ w := by
  obtain ⟨h1, h2, h3⟩ := head_filter_least (c.there_sorted d.1) e
  exact ⟨h1, of_decide_eq_true h2, fun w hw hd => h3 w hw (decide_eq_true hd)⟩
theorem settle_ex {d : Dm} {w : Int} (hw : w ∈ c.there d.1) (hd : d.2 ≤ w) : ∃ v, c.settle d = some v ∧ v ≤ w := by
  cases e : c.settle d with
  | none =>
    unfold settle at e
    rw [List.head?_eq_none_iff] at e
    have : w ∈ (c.there d.1).filter fun v => decide (d.2 ≤ v) := List.mem_filter.mpr ⟨hw, decide_eq_true hd⟩
    rw [e] at this
    cases this
  | some v => exact ⟨v, rfl, (settle_some e).2.2 w hw hd⟩
end Cat
/-! ### rising windows -/
theorem rising_le {ws : List Win} (h : Rising ws) {i j : Nat} (hij : i ≤ j) {a b : Win} (ha : ws[i]? = some a) (hb : ws[j]? = some b) : a.1 ≤ b.1 ∧ ∀ v, reach a v = true → reach b v = true := by
  induction j generalizing b with
  | zero =>
    have : i = 0 := by omega
    subst this
    rw [ha] at hb
    cases hb
    exact ⟨Int.le_refl _, fun v h => h⟩
  | succ j ih =>
    by_cases hi : i = j + 1
    · subst hi
      rw [ha] at hb
      cases hb
      exact ⟨Int.le_refl _, fun v h => h⟩
    · have hl := (List.getElem?_eq_some_iff.mp hb).1
      have hj : j < ws.length := by omega
      obtain ⟨h1, h2⟩ := ih (by omega) (b := ws[j]) (by simp [hj])
      have hr := h j ws[j] b (by simp [hj]) hb
      unfold rise at hr
      rw [Bool.and_eq_true] at hr
      obtain ⟨r1, r2⟩ := hr
      have r1 := of_decide_eq_true r1
      refine ⟨by omega, fun v hv => ?_⟩
      have hv2 := h2 v hv
      unfold reach at hv2
      cases e : ws[j].2 with
      | none =>
        rw [e] at r2
        unfold reach
        rw [of_decide_eq_true r2]
      | some z =>
        rw [e] at r2 hv2
        have hvz := of_decide_eq_true hv2
        unfold reach at r2 ⊢
        cases eb : b.2 with
        | none => rfl
        | some y =>
          rw [eb] at r2
          have := of_decide_eq_true r2
          exact decide_eq_true (by omega)
theorem winAt_get {ws : List Win} {v : Int} (h0 : 0 ≤ v) (h1 : v < ws.length) : ws[v.toNat]? = some (winAt ws v) := by
  have h : v.toNat < ws.length := by omega
  unfold winAt
  rw [List.getD_eq_getElem?_getD, List.getElem?_eq_getElem h]
  rfl
theorem winAt_le {ws : List Win} (h : Rising ws) {v w : Int} (h0 : 0 ≤ v) (hvw : v ≤ w) (hw : w < ws.length) : (winAt ws v).1 ≤ (winAt ws w).1 ∧ ∀ z, reach (winAt ws v) z = true → reach (winAt ws w) z = true :=
  rising_le h (i := v.toNat) (j := w.toNat) (by omega) (winAt_get h0 (by omega)) (winAt_get (by omega) hw)
theorem reach_le {w : Win} {a b : Int} (h : reach w b = true) (hab : a ≤ b) : reach w a = true := by
  unfold reach at h ⊢
  cases e : w.2 with
  | none => rfl
  | some z =>
    rw [e] at h
    have := of_decide_eq_true h
    exact decide_eq_true (by omega)
theorem firstR_le {ws : List Win} {w v : Int} (h0 : 0 ≤ w) (h1 : w < ws.length) (h : reach (winAt ws w) v = true) : firstR ws v ≤ w := by
  unfold firstR
  have : ¬ w.toNat < ws.findIdx fun w => reach w v := fun q => by
    have n := List.not_of_lt_findIdx q
    have hl : w.toNat < ws.length := by omega
    have e := winAt_get h0 h1
    rw [List.getElem?_eq_getElem hl] at e
    rw [Option.some.inj e, h] at n
    cases n
  omega
theorem firstR_nn (ws : List Win) (v : Int) : 0 ≤ firstR ws v := Int.natCast_nonneg _
theorem firstR_len (ws : List Win) (v : Int) : firstR ws v ≤ ws.length := by
  unfold firstR
  have := List.findIdx_le_length (p := fun w => reach w v) (xs := ws)
  omega
theorem reach_of_firstR {ws : List Win} (hr : Rising ws) {w v : Int} (h : firstR ws v ≤ w) (h1 : w < ws.length) : reach (winAt ws w) v = true := by
  have hf : ws.findIdx (fun w => reach w v) < ws.length := by
    have : firstR ws v = (ws.findIdx fun w => reach w v : Nat) := rfl
    omega
  have e := List.findIdx_getElem (w := hf)
  have h0 := firstR_nn ws v
  refine (winAt_le hr h0 h h1).2 v ?_
  have g := winAt_get h0 (ws := ws) (by unfold firstR; omega)
  have : (firstR ws v).toNat = ws.findIdx fun w => reach w v := by unfold firstR; omega
  rw [this, List.getElem?_eq_getElem hf] at g
  rw [← Option.some.inj g]
  exact e
/-! ### without repetitions -/
theorem uniq_snoc (l : List Dm) (d : Dm) : uniq (l ++ [d]) = if d ∈ uniq l then uniq l else uniq l ++ [d] := by
  unfold uniq
  rw [List.foldl_append]
  rfl
theorem mem_uniq (l : List Dm) : ∀ d, d ∈ uniq l ↔ d ∈ l := by
  have key : ∀ (l acc : List Dm), ∀ d, d ∈ l.foldl (fun acc d => if d ∈ acc then acc else acc ++ [d]) acc ↔ d ∈ acc ∨ d ∈ l := by
    intro l
    induction l with
    | nil => intro acc d; simp
    | cons x l ih =>
      intro acc d
      rw [List.foldl_cons, ih]
      by_cases h : x ∈ acc
      · rw [if_pos h]
        constructor
        · rintro (h1 | h1)
          · exact .inl h1
          · exact .inr (List.mem_cons_of_mem _ h1)
        · rintro (h1 | h1)
          · exact .inl h1
          · rcases List.mem_cons.mp h1 with rfl | h1
            · exact .inl h
            · exact .inr h1
      · rw [if_neg h]
        rw [List.mem_append, List.mem_singleton, List.mem_cons]
        constructor
        · rintro ((h1 | h1) | h1)
          · exact .inl h1
          · exact .inr (.inl h1)
          · exact .inr (.inr h1)
        · rintro (h1 | h1 | h1)
          · exact .inl (.inl h1)
          · exact .inl (.inr h1)
          · exact .inr h1
  intro d
  unfold uniq
  rw [key]
  simp
theorem uniq_nodup (l : List Dm) : (uniq l).Nodup := by
  have key : ∀ (l acc : List Dm), acc.Nodup → (l.foldl (fun acc d => if d ∈ acc then acc else acc ++ [d]) acc).Nodup := by
    intro l
    induction l with
    | nil => intro acc h; exact h
    | cons x l ih =>
      intro acc h
      rw [List.foldl_cons]
      by_cases hx : x ∈ acc
      · rw [if_pos hx]
        exact ih acc h
      · rw [if_neg hx]
        refine ih _ (List.nodup_append.mpr ⟨h, by simp, ?_⟩)
        intro a ha b hb
        rw [List.mem_singleton] at hb
        subst hb
        intro e
        subst e
        exact hx ha
  exact key l [] List.nodup_nil
theorem uniq_length_le (l : List Dm) : (uniq l).length ≤ l.length := by
  have key : ∀ (l acc : List Dm), (l.foldl (fun acc d => if d ∈ acc then acc else acc ++ [d]) acc).length ≤ acc.length + l.length := by
    intro l
    induction l with
    | nil => intro acc; simp
    | cons x l ih =>
      intro acc
      rw [List.foldl_cons]
      by_cases hx : x ∈ acc
      · rw [if_pos hx]
        have := ih acc
        simp only [List.length_cons]
        omega
      · rw [if_neg hx]
        have := ih (acc ++ [x])
        simp only [List.length_append, List.length_cons, List.length_nil] at this ⊢
        omega
  have := key l []
  simpa [uniq] using this
theorem mem_pos {l : List Dm} {d : Dm} : d ∈ pos l ↔ d ∈ l ∧ 0 < d.2 := by
  unfold pos
  rw [List.mem_filter]
  simp
theorem pos_snoc (l : List Dm) (d : Dm) : pos (l ++ [d]) = if 0 < d.2 then pos l ++ [d] else pos l := by
  unfold pos
  rw [List.filter_append]
  by_cases h : 0 < d.2
  · rw [if_pos h, List.filter_cons, if_pos (decide_eq_true h)]
    rfl
  · rw [if_neg h, List.filter_cons, if_neg (by rw [decide_eq_false h]; decide)]
    simp
/-- the law's own way to leave out: positive, not met before -/
theorem uniq_pos_snoc (l : List Dm) (d : Dm) : uniq (pos (l ++ [d])) = if 0 < d.2 ∧ d ∉ l then uniq (pos l) ++ [d] else uniq (pos l) := by
  rw [pos_snoc]
  by_cases h : 0 < d.2
  · rw [if_pos h, uniq_snoc]
    by_cases hl : d ∈ l
    · rw [if_pos ((mem_uniq _ _).mpr (mem_pos.mpr ⟨hl, h⟩)), if_neg (fun q => q.2 hl)]
    · rw [if_neg (fun q => hl (mem_pos.mp ((mem_uniq _ _).mp q)).1), if_pos ⟨h, hl⟩]
  · rw [if_neg h, if_neg (fun q => h q.1)]
namespace Cat
variable {c : Cat}
theorem mem_foll {m : Nm} {w : Int} {d : Dm} : d ∈ c.foll m w ↔ d ∈ c.foundOf m w ∧ 0 < d.2 := by
  unfold foll
  rw [mem_uniq, mem_pos]
theorem mem_foundOf {m : Nm} {w : Int} {d : Dm} : d ∈ c.foundOf m w ↔ (∃ u ∈ c.uses m, d = (u, (winAt (c.wins m u) w).1)) ∨ ∃ k ∈ c.users m, d = (k, firstR (c.wins k m) w) := by
  unfold foundOf
  rw [List.mem_append, List.mem_map, List.mem_map]
  constructor
  · rintro (⟨u, h1, h2⟩ | ⟨u, h1, h2⟩)
    · exact .inl ⟨u, h1, h2.symm⟩
    · exact .inr ⟨u, h1, h2.symm⟩
  · rintro (⟨u, h1, h2⟩ | ⟨u, h1, h2⟩)
    · exact .inl ⟨u, h1, h2.symm⟩
    · exact .inr ⟨u, h1, h2.symm⟩
theorem next_mods (h : c.WF) {d e : Dm} (hd : d.1 ∈ c.mods) (he : e ∈ c.next d) : e.1 ∈ c.mods := by
  unfold next at he
  cases s : c.settle d with
  | none =>
    rw [s] at he
    cases he
  | some w =>
    rw [s] at he
    rcases mem_foundOf.mp (mem_foll.mp he).1 with ⟨u, h1, rfl⟩ | ⟨k, h1, rfl⟩
    · exact h.sub _ hd _ h1
    · exact (mem_users.mp h1).1
end Cat
/-! ### the search -/
structure En where
  d : Dm
  p : Option Dm
  n : Nat
def keysE (B : List En) : List Dm := B.map (·.d)
def addE (x : En) (B : List En) (o : Dm) : List En := if o ∈ keysE B then B else B ++ [⟨o, some x.d, x.n + 1⟩]
def expand (x : En) (B : List En) (os : List Dm) : List En := os.foldl (addE x) B
def start (c : Cat) : List En := c.starts.map fun d => ⟨d, none, 1⟩
def runB (c : Cat) : Nat → List En
  | 0 => start c
  | i + 1 => match (runB c i)[i]? with
    | none => runB c i
    | some x => expand x (runB c i) (c.next x.d)
/-- a list of entries in the order of the search, i of them asked already -/
structure Srch (c : Cat) (i : Nat) (B : List En) : Prop where
  nd : (keysE B).Nodup
  st : start c <+: B
  mods : ∀ x ∈ B, x.d.1 ∈ c.mods
  par : ∀ (j : Nat) x, B[j]? = some x → (x.p = none ∧ x.d ∈ c.starts ∧ x.n = 1) ∨ ∃ (k : Nat) (y : En), k < j ∧ B[k]? = some y ∧ x.p = some y.d ∧ x.n = y.n + 1 ∧ x.d ∈ c.next y.d
  mono : ∀ (j k : Nat) x y, j ≤ k → B[j]? = some x → B[k]? = some y → x.n ≤ y.n
  near : ∀ (k : Nat) x y, B[i]? = some x → B[k]? = some y → y.n ≤ x.n + 1
  clo : ∀ (j : Nat) x, j < i → B[j]? = some x → ∀ o ∈ c.next x.d, o ∈ keysE B
theorem keysE_app (A B : List En) : keysE (A ++ B) = keysE A ++ keysE B := by simp [keysE]
theorem starts_nodup {c : Cat} (h : c.WF) : c.starts.Nodup := by
  unfold Cat.starts List.Nodup
  rw [List.pairwise_map]
  exact h.nd.imp fun ne e => ne (congrArg Prod.fst e)
theorem keysE_start (c : Cat) : keysE (start c) = c.starts := by
  unfold keysE start
  rw [List.map_map]
  exact List.map_id _
theorem srch_start {c : Cat} (h : c.WF) : Srch c 0 (start c) where
  nd := by rw [keysE_start]; exact starts_nodup h
  st := List.prefix_refl _
  mods := fun x hx => by
    unfold start Cat.starts at hx
    rw [List.map_map] at hx
    obtain ⟨m, hm, rfl⟩ := List.mem_map.mp hx
    exact hm
  par := fun j x e => by
    unfold start at e
    rw [List.getElem?_map] at e
    cases q : c.starts[j]? with
    | none =>
      rw [q] at e
      cases e
    | some d =>
      rw [q] at e
      cases e
      exact .inl ⟨rfl, List.mem_of_getElem? q, rfl⟩
  mono := fun j k x y _ e1 e2 => by
    unfold start at e1 e2
    rw [List.getElem?_map] at e1 e2
    cases q1 : c.starts[j]? with
    | none =>
      rw [q1] at e1
      cases e1
    | some d1 =>
      cases q2 : c.starts[k]? with
      | none =>
        rw [q2] at e2
        cases e2
      | some d2 =>
        rw [q1] at e1
        rw [q2] at e2
        cases e1
        cases e2
        exact Nat.le_refl _
  near := fun k x y e1 e2 => by
    unfold start at e1 e2
    rw [List.getElem?_map] at e1 e2
    cases q1 : c.starts[0]? with
    | none =>
      rw [q1] at e1
      cases e1
    | some d1 =>
      cases q2 : c.starts[k]? with
      | none =>
        rw [q2] at e2
        cases e2
      | some d2 =>
        rw [q1] at e1
        rw [q2] at e2
        cases e1
        cases e2
        exact Nat.le_succ _
  clo := fun j _ hj => absurd hj (Nat.not_lt_zero _)
/-- while the i-th entry x is being asked: the same, but its own followers may be one deeper -/
structure Mid (c : Cat) (i : Nat) (x : En) (B : List En) : Prop extends Srch c i B where
  at_ : B[i]? = some x
theorem getElem?_snoc {α : Type} {l : List α} {a b : α} {j : Nat} (h : (l ++ [a])[j]? = some b) : l[j]? = some b ∨ (j = l.length ∧ b = a) := by
  by_cases hj : j < l.length
  · rw [List.getElem?_append_left hj] at h
    exact .inl h
  · rw [List.getElem?_append_right (by omega)] at h
    have e : j - l.length = 0 := by
      cases q : j - l.length with
      | zero => rfl
      | succ n =>
        rw [q] at h
        simp at h
    rw [e] at h
    simp at h
    exact .inr ⟨by omega, h.symm⟩
theorem mid_add {c : Cat} (hw : c.WF) {i : Nat} {x : En} {B : List En} (m : Mid c i x B) {o : Dm} (ho : o ∈ c.next x.d) : Mid c i x (addE x B o) ∧ o ∈ keysE (addE x B o) ∧ B <+: addE x B o := by
  unfold addE
  by_cases h : o ∈ keysE B
  · rw [if_pos h]
    exact ⟨m, h, List.prefix_refl _⟩
  · rw [if_neg h]
    have hi := (List.getElem?_eq_some_iff.mp m.at_).1
    have hx : x ∈ B := List.mem_of_getElem? m.at_
    refine ⟨⟨⟨?_, ?_, ?_, ?_, ?_, ?_, ?_⟩, ?_⟩, ?_, List.prefix_append _ _⟩
    · rw [keysE_app]
      refine List.nodup_append.mpr ⟨m.nd, by simp [keysE], ?_⟩
      intro a ha b hb
      simp only [keysE, List.map_cons, List.map_nil, List.mem_singleton] at hb
      subst hb
      intro e
      subst e
      exact h ha
    · exact m.st.trans (List.prefix_append _ _)
    · intro y hy
      rcases List.mem_append.mp hy with hy | hy
      · exact m.mods y hy
      · rw [List.mem_singleton] at hy
        subst hy
        exact Cat.next_mods hw (m.mods x hx) ho
    · intro j y e
      rcases getElem?_snoc e with e | ⟨rfl, rfl⟩
      · rcases m.par j y e with q | ⟨k, z, h1, h2, h3⟩
        · exact .inl q
        · refine .inr ⟨k, z, h1, ?_, h3⟩
          rw [List.getElem?_append_left (List.getElem?_eq_some_iff.mp h2).1]
          exact h2
      · exact .inr ⟨i, x, hi, by rw [List.getElem?_append_left hi]; exact m.at_, rfl, rfl, ho⟩
    · intro j k y z hjk e1 e2
      rcases getElem?_snoc e2 with e2 | ⟨rfl, rfl⟩
      · have hk := (List.getElem?_eq_some_iff.mp e2).1
        rw [List.getElem?_append_left (by omega)] at e1
        exact m.mono j k y z hjk e1 e2
      · rcases getElem?_snoc e1 with e1 | ⟨_, rfl⟩
        · exact m.near j x y m.at_ e1
        · exact Nat.le_refl _
    · intro k y z e1 e2
      rw [List.getElem?_append_left hi, m.at_] at e1
      cases e1
      rcases getElem?_snoc e2 with e2 | ⟨rfl, rfl⟩
      · exact m.near k x z m.at_ e2
      · exact Nat.le_refl _
    · intro j y hj e
      rw [List.getElem?_append_left (by omega)] at e
      intro o' ho'
      rw [keysE_app]
      exact List.mem_append_left _ (m.clo j y hj e o' ho')
    · rw [List.getElem?_append_left hi]
      exact m.at_
    · rw [keysE_app]
      exact List.mem_append_right _ (by simp [keysE])
theorem mid_all {c : Cat} (hw : c.WF) {i : Nat} {x : En} : ∀ (os : List Dm) {B : List En}, Mid c i x B → (∀ o ∈ os, o ∈ c.next x.d) → Mid c i x (expand x B os) ∧ B <+: expand x B os ∧ ∀ o ∈ os, o ∈ keysE (expand x B os)
  | [], B, m, _ => ⟨m, List.prefix_refl _, fun o h => by cases h⟩
  | o :: os, B, m, h => by
    obtain ⟨m1, k1, p1⟩ := mid_add hw m (h o List.mem_cons_self)
    obtain ⟨m2, p2, k2⟩ := mid_all hw os m1 fun o' ho' => h o' (List.mem_cons_of_mem _ ho')
    refine ⟨m2, p1.trans p2, fun o' ho' => ?_⟩
    rcases List.mem_cons.mp ho' with rfl | ho'
    · obtain ⟨r, e⟩ := p2
      show _ ∈ keysE (expand x (addE x B _) os)
      rw [← e, keysE_app]
      exact List.mem_append_left _ k1
    · exact k2 o' ho'
theorem srch_next {c : Cat} (hw : c.WF) {i : Nat} {x : En} {B : List En} (m : Mid c i x B) (hc : ∀ o ∈ c.next x.d, o ∈ keysE B) : Srch c (i + 1) B := by
  refine ⟨m.nd, m.st, m.mods, m.par, m.mono, ?_, ?_⟩
  · intro k y z e1 e2
    have h1 := m.near k x z m.at_ e2
    have h2 := m.mono i (i + 1) x y (Nat.le_succ _) m.at_ e1
    omega
  · intro j y hj e
    by_cases hji : j = i
    · subst hji
      rw [m.at_] at e
      cases e
      exact hc
    · exact m.clo j y (by omega) e
theorem srch_run {c : Cat} (hw : c.WF) : ∀ i, Srch c i (runB c i)
  | 0 => srch_start hw
  | i + 1 => by
    have s := srch_run hw i
    unfold runB
    cases e : (runB c i)[i]? with
    | none =>
      show Srch c (i + 1) (runB c i)
      refine ⟨s.nd, s.st, s.mods, s.par, s.mono, fun k x y e1 e2 => ?_, fun j x hj e1 => ?_⟩
      · have h1 := (List.getElem?_eq_some_iff.mp e1).1
        have h2 := List.getElem?_eq_none_iff.mp e
        omega
      · have h1 := (List.getElem?_eq_some_iff.mp e1).1
        have h2 := List.getElem?_eq_none_iff.mp e
        exact s.clo j x (by omega) e1
    | some x =>
      show Srch c (i + 1) (expand x (runB c i) (c.next x.d))
      obtain ⟨m, _, k⟩ := mid_all hw (c.next x.d) ⟨s, e⟩ fun o h => h
      exact srch_next hw m k
/-! ### the search ends -/
namespace Cat
def univ (c : Cat) : List Dm := c.starts ++ c.mods.flatMap fun m => (c.there m).flatMap fun w => c.foll m w
end Cat
theorem srch_univ {c : Cat} {i : Nat} {B : List En} (s : Srch c i B) : ∀ d ∈ keysE B, d ∈ c.univ := by
  intro d hd
  obtain ⟨x, hx, rfl⟩ := List.mem_map.mp hd
  obtain ⟨j, hj⟩ := List.getElem?_of_mem hx
  unfold Cat.univ
  rcases s.par j x hj with ⟨_, h, _⟩ | ⟨k, y, _, hk, _, _, h⟩
  · exact List.mem_append_left _ h
  · refine List.mem_append_right _ ?_
    have hm := s.mods y (List.mem_of_getElem? hk)
    unfold Cat.next at h
    cases q : c.settle y.d with
    | none =>
      rw [q] at h
      cases h
    | some w =>
      rw [q] at h
      exact List.mem_flatMap.mpr ⟨y.d.1, hm, List.mem_flatMap.mpr ⟨w, (Cat.settle_some q).1, h⟩⟩
theorem srch_len {c : Cat} {i : Nat} {B : List En} (s : Srch c i B) : B.length ≤ c.univ.length := by
  have h := List.Nodup.length_le_of_subset s.nd (l₂ := c.univ) (srch_univ s)
  simpa [keysE] using h
theorem flat_len {α β : Type} (f : α → List β) (b : Nat) : ∀ l : List α, (∀ a ∈ l, (f a).length ≤ b) → (l.flatMap f).length ≤ l.length * b
  | [], _ => by simp
  | a :: l, h => by
    have h1 := flat_len f b l fun x hx => h x (List.mem_cons_of_mem _ hx)
    have h2 := h a List.mem_cons_self
    rw [List.flatMap_cons, List.length_append, List.length_cons, Nat.succ_mul]
    omega
theorem univ_len {c : Cat} (h : c.WF) : c.univ.length ≤ 5000 := by
  have hm := h.few
  have hu : ∀ m ∈ c.mods, (c.uses m).length ≤ 12 := fun m hm' => by
    have := List.Nodup.length_le_of_subset (h.und m hm') (l₂ := c.mods) (h.sub m hm')
    omega
  have hf : ∀ m ∈ c.mods, ∀ w, (c.foll m w).length ≤ 24 := fun m hm' w => by
    have h1 : (c.foll m w).length ≤ (pos (c.foundOf m w)).length := uniq_length_le _
    have h2 : (pos (c.foundOf m w)).length ≤ (c.foundOf m w).length := List.length_filter_le ..
    have h3 : (c.foundOf m w).length = (c.uses m).length + (c.users m).length := by simp [Cat.foundOf]
    have h4 : (c.users m).length ≤ c.mods.length := List.length_filter_le ..
    have := hu m hm'
    omega
  have h1 : (c.mods.flatMap fun m => (c.there m).flatMap fun w => c.foll m w).length ≤ c.mods.length * (16 * 24) := by
    refine flat_len _ _ _ fun m hm' => ?_
    have h2 := flat_len (fun w => c.foll m w) 24 (c.there m) fun w _ => hf m hm' w
    have h3 := c.there_len m
    have h4 := h.c16 m hm'
    have : (c.there m).length * 24 ≤ 16 * 24 := Nat.mul_le_mul_right _ (by omega)
    omega
  have h5 : c.starts.length = c.mods.length := by simp [Cat.starts]
  unfold Cat.univ
  rw [List.length_append, h5]
  have : c.mods.length * (16 * 24) ≤ 12 * (16 * 24) := Nat.mul_le_mul_right _ hm
  omega
/-! ### what the search's demands say of every consistent state -/
theorem meets_next {c : Cat} (h : c.WF) {x : Nm → Int} (hx : c.Cons x) {d e : Dm} (hm : d.1 ∈ c.mods) (hd : d.2 ≤ x d.1) (he : e ∈ c.next d) : e.2 ≤ x e.1 := by
  unfold Cat.next at he
  cases q : c.settle d with
  | none =>
    rw [q] at he
    cases he
  | some w =>
    rw [q] at he
    obtain ⟨w1, w2, w3⟩ := Cat.settle_some q
    have hxd := hx.1 _ hm
    have hwx := w3 _ hxd hd
    have hw0 := (Cat.mem_there.mp w1).1
    have hx0 := (Cat.mem_there.mp hxd).1
    rcases Cat.mem_foundOf.mp (Cat.mem_foll.mp he).1 with ⟨u, h1, rfl⟩ | ⟨k, h1, rfl⟩
    · have hl := h.len _ hm _ h1
      have r := (winAt_le (h.ris _ hm _ h1) hw0.1 hwx (by omega)).1
      have hh := hx.2 _ hm _ h1
      unfold holds at hh
      rw [Bool.and_eq_true] at hh
      have := of_decide_eq_true hh.1
      show (winAt (c.wins d.1 u) w).1 ≤ x u
      omega
    · obtain ⟨hk, hu⟩ := Cat.mem_users.mp h1
      have hh := hx.2 _ hk _ hu
      unfold holds at hh
      rw [Bool.and_eq_true] at hh
      have hxk := (Cat.mem_there.mp (hx.1 _ hk)).1
      have hl := h.len _ hk _ hu
      show firstR (c.wins k d.1) w ≤ x k
      exact firstR_le hxk.1 (by omega) (reach_le hh.2 hwx)
theorem meets_all {c : Cat} (h : c.WF) {x : Nm → Int} (hx : c.Cons x) {i : Nat} {B : List En} (s : Srch c i B) : ∀ (j : Nat) (y : En), B[j]? = some y → y.d.2 ≤ x y.d.1 := by
  intro j
  induction j using Nat.strongRecOn with
  | _ j ih =>
    intro y hj
    rcases s.par j y hj with ⟨_, hs, _⟩ | ⟨k, z, hk, hz, _, _, hn⟩
    · unfold Cat.starts at hs
      obtain ⟨m, hm, e⟩ := List.mem_map.mp hs
      rw [← e]
      exact (Cat.mem_there.mp (hx.1 m hm)).1.1
    · exact meets_next h hx (s.mods z (List.mem_of_getElem? hz)) (ih k hk z hz) hn
theorem meets_settle {c : Cat} (h : c.WF) {x : Nm → Int} (hx : c.Cons x) {i : Nat} {B : List En} (s : Srch c i B) {y : En} (hy : y ∈ B) : ∃ v, c.settle y.d = some v ∧ v ≤ x y.d.1 := by
  obtain ⟨j, hj⟩ := List.getElem?_of_mem hy
  exact Cat.settle_ex (hx.1 _ (s.mods y hy)) (meets_all h hx s j y hj)
/-! ### the least state -/
def demV (c : Cat) : List Dm → (Nm → Int) → Option (Nm → Int)
  | [], f => some f
  | d :: r, f => match c.settle d with
    | none => none
    | some v => demV c r fun m => if m = d.1 then (if f d.1 < v then v else f d.1) else f m
theorem demV_none {c : Cat} : ∀ (l : List Dm) (f : Nm → Int), demV c l f = none ↔ ∃ d ∈ l, c.settle d = none
  | [], f => by simp [demV]
  | d :: r, f => by
    unfold demV
    cases e : c.settle d with
    | none => simp [e]
    | some v =>
      have := demV_none (c := c) r fun m => if m = d.1 then (if f d.1 < v then v else f d.1) else f m
      simp only [this, List.mem_cons, exists_eq_or_imp, e]
      simp
theorem demV_some {c : Cat} : ∀ (l : List Dm) (f g : Nm → Int), demV c l f = some g → (∀ m, f m ≤ g m) ∧ (∀ d ∈ l, ∃ v, c.settle d = some v ∧ v ≤ g d.1) ∧ ∀ m, g m = f m ∨ ∃ d ∈ l, d.1 = m ∧ c.settle d = some (g m)
  | [], f, g, h => by
    unfold demV at h
    cases h
    refine ⟨fun m => Int.le_refl _, ?_, fun m => .inl rfl⟩
    intro d hd
    cases hd
  | d :: r, f, g, h => by
    unfold demV at h
    cases e : c.settle d with
    | none =>
      rw [e] at h
      cases h
    | some v =>
      rw [e] at h
      obtain ⟨h1, h2, h3⟩ := demV_some r _ g h
      refine ⟨fun m => ?_, fun d' hd' => ?_, fun m => ?_⟩
      · have q := h1 m
        by_cases hm : m = d.1
        · rw [if_pos hm] at q
          rw [hm] at q ⊢
          by_cases hv : f d.1 < v
          · rw [if_pos hv] at q
            omega
          · rw [if_neg hv] at q
            exact q
        · rw [if_neg hm] at q
          exact q
      · rcases List.mem_cons.mp hd' with rfl | hd'
        · refine ⟨v, e, ?_⟩
          have q := h1 d'.1
          rw [if_pos rfl] at q
          by_cases hv : f d'.1 < v
          · rw [if_pos hv] at q
            exact q
          · rw [if_neg hv] at q
            omega
        · exact h2 d' hd'
      · rcases h3 m with q | ⟨d', hd', q1, q2⟩
        · by_cases hm : m = d.1
          · rw [if_pos hm] at q
            by_cases hv : f d.1 < v
            · rw [if_pos hv] at q
              exact .inr ⟨d, List.mem_cons_self, hm.symm, by rw [e, q]⟩
            · rw [if_neg hv] at q
              exact .inl (by rw [q, hm])
          · rw [if_neg hm] at q
            exact .inl q
        · exact .inr ⟨d', List.mem_cons_of_mem _ hd', q1, q2⟩
theorem start_mem {c : Cat} {i : Nat} {B : List En} (s : Srch c i B) {m : Nm} (hm : m ∈ c.mods) : ((m, 0) : Dm) ∈ keysE B := by
  obtain ⟨r, e⟩ := s.st
  rw [← e, keysE_app, keysE_start]
  exact List.mem_append_left _ (List.mem_map.mpr ⟨m, hm, rfl⟩)
/-- all demands can be met: the greatest settled versions are the least consistent state -/
theorem least_ok {c : Cat} (h : c.WF) {i : Nat} {B : List En} (s : Srch c i B) (hi : B.length ≤ i) {g : Nm → Int} (e : demV c (keysE B) (fun _ => 0) = some g) : c.Cons g ∧ ∀ x, c.Cons x → ∀ m ∈ c.mods, g m ≤ x m := by
  obtain ⟨h1, h2, h3⟩ := demV_some _ _ _ e
  have at_ : ∀ m ∈ c.mods, ∃ d ∈ keysE B, d.1 = m ∧ c.settle d = some (g m) := fun m hm => by
    rcases h3 m with q | q
    · obtain ⟨v, hv, hle⟩ := h2 _ (start_mem s hm)
      have h0 := (Cat.mem_there.mp (Cat.settle_some hv).1).1.1
      have : v = g m := by
        have q : g m = 0 := q
        have hle : v ≤ g m := hle
        omega
      exact ⟨(m, 0), start_mem s hm, rfl, by rw [hv, this]⟩
    · exact q
  have clo : ∀ d ∈ keysE B, ∀ o ∈ c.next d, o ∈ keysE B := fun d hd o ho => by
    obtain ⟨x, hx, rfl⟩ := List.mem_map.mp hd
    obtain ⟨j, hj⟩ := List.getElem?_of_mem hx
    exact s.clo j x (Nat.lt_of_lt_of_le (List.getElem?_eq_some_iff.mp hj).1 hi) hj o ho
  have th : ∀ m ∈ c.mods, g m ∈ c.there m := fun m hm => by
    obtain ⟨d, _, rfl, hd⟩ := at_ m hm
    exact (Cat.settle_some hd).1
  refine ⟨⟨th, fun m hm u hu => ?_⟩, fun x hx m hm => ?_⟩
  · have hum := h.sub m hm u hu
    have hl := h.len m hm u hu
    have gm := (Cat.mem_there.mp (th m hm)).1
    have gu := (Cat.mem_there.mp (th u hum)).1
    unfold holds
    rw [Bool.and_eq_true]
    constructor
    · obtain ⟨d, hd, e1, e2⟩ := at_ m hm
      by_cases hp : 0 < (winAt (c.wins m u) (g m)).1
      · have hn : ((u, (winAt (c.wins m u) (g m)).1) : Dm) ∈ c.next d := by
          unfold Cat.next
          rw [e2]
          rw [e1]
          exact Cat.mem_foll.mpr ⟨Cat.mem_foundOf.mpr (.inl ⟨u, hu, rfl⟩), hp⟩
        obtain ⟨v, hv, hle⟩ := h2 _ (clo d hd _ hn)
        have := (Cat.settle_some hv).2.1
        have hle : v ≤ g u := hle
        have this : (winAt (c.wins m u) (g m)).1 ≤ v := this
        exact decide_eq_true (by omega)
      · exact decide_eq_true (by omega)
    · obtain ⟨d, hd, e1, e2⟩ := at_ u hum
      have hle : firstR (c.wins m u) (g u) ≤ g m := by
        by_cases hp : 0 < firstR (c.wins m u) (g u)
        · have hn : ((m, firstR (c.wins m u) (g u)) : Dm) ∈ c.next d := by
            unfold Cat.next
            rw [e2]
            rw [e1]
            exact Cat.mem_foll.mpr ⟨Cat.mem_foundOf.mpr (.inr ⟨m, Cat.mem_users.mpr ⟨hm, hu⟩, rfl⟩), hp⟩
          obtain ⟨v, hv, hle⟩ := h2 _ (clo d hd _ hn)
          have := (Cat.settle_some hv).2.1
          have hle : v ≤ g m := hle
          have this : firstR (c.wins m u) (g u) ≤ v := this
          omega
        · omega
      exact reach_of_firstR (h.ris m hm u hu) hle (by omega)
  · obtain ⟨d, hd, e1, e2⟩ := at_ m hm
    obtain ⟨y, hy, rfl⟩ := List.mem_map.mp hd
    obtain ⟨v, hv, hle⟩ := meets_settle h hx s hy
    rw [e2] at hv
    cases hv
    rw [e1] at hle
    exact hle
theorem none_ok {c : Cat} (h : c.WF) {i : Nat} {B : List En} (s : Srch c i B) (e : demV c (keysE B) (fun _ => 0) = none) : ∀ x, ¬ c.Cons x := by
  intro x hx
  obtain ⟨d, hd, q⟩ := (demV_none _ _).mp e
  obtain ⟨y, hy, rfl⟩ := List.mem_map.mp hd
  obtain ⟨v, hv, _⟩ := meets_settle h hx s hy
  rw [q] at hv
  cases hv
end Gs
/-! ## GsDc -/
/-! Dict comprehensions of any keys, of one clause and of two; a dict locked where it is walked. -/
namespace Gs
open PySem PySem.Spec PyProof.Rows L2
/-- D[key] = v within a comprehension, keys of either kind -/
theorem gd_set {X : Cx} {pins : List (Addr × Obj)} {σ : L2.St} {H H' : Hp} {s : Shared} {E : Value → Shared → Prop} {D : Addr} {y v : V} {u r : Value} {Q : Unit → Shared → Prop} (hu : X.A.units + 1 < cLine) (I : Inv X pins σ H s) (g : DPut H D y v H')
    (ry : RelV y u) (rv : RelV v r) (h : ∀ s', Inv X pins σ H' s' → Q () s') : wpAny (model X.prog X.w) X.A (dictSet D u r) Q E s := by
  rcases g with ⟨kvs, k, e, ey, l, eH⟩ | ⟨kvs, k, b, e, ey, eb, l, eH⟩
  · subst ey eH
    exact d_dictSet I e l ry rv h
  · subst ey eH
    cases (show u = Value.ref b from ry)
    obtain ⟨z, hd, xs, rel, dd⟩ := dt_of I.hok e
    have hz : xs.length ≤ sizeLine := by
      rw [← Paired.length rel]
      exact z
    have hl : (putK kvs k v).length ≤ sizeLine := by
      have := length_putK kvs k v
      omega
    refine wpAny_dictSet_heap (hsz := hz) (show X.A.units < cLine by omega) (key_of I.hok eb) dd fun h' dd' hs => h _ ?_
    obtain ⟨q, es, ep, hq, h2, h3, h4, _, h5⟩ := dd'
    refine d_write I (by rw [e]; exact True.intro) hs ⟨q, hq⟩ ⟨hl, hd, _, (rel.put k eb rv).keeps fun c ys ec => ?_, q, es, ep, hq, h2, h3, h4, h5⟩
    rw [upd_ne (ne_of ec e (fun z => nomatch z))]
    exact ec
/-- the new dict, of the kind that is wanted -/
def DNew (o : HO) : Prop := o = .dK [] ∨ o = .dT []
theorem dnew_ok {P : Program} {w : World} {H : Hp} {o : HO} (n : DNew o) (h : Heap) (hb : sysModules < h.objs.size) : ObjOk P w H (h.push { cls := .type "dict", data := .dict #[] }) h.objs.size o := by
  rcases n with rfl | rfl
  · exact dk_empty h hb
  · exact dt_empty h hb
/-- {k: v for .. in .. if ..} -/
def tDg (o0 : HO) (wi : TI) (g : TG) (tt : TT) (tk tv : TE) (vs : List Nat) : TE := fun σ H Q => wi σ H fun J H1 => ∀ D, H1 D = none → ∃ W : Nat → Nat → Hp → Prop, (∃ m, W 0 m (upd H1 D o0)) ∧ ∀ i m H, W i m H →
  (J.stop i H ∧ Q (.ref D) H) ∨ (J.go i H ∧ ∃ Nx : Hp → Prop, (∀ H', Nx H' → ∃ m', m' < m ∧ W (i + 1) m' H') ∧ ∀ x H', J.yld i H x H' → g x (wipe σ vs) H' fun σ2 H2 => wipe σ2 vs = wipe σ vs ∧ tt σ2 H2 fun b H3 =>
    if b = true then tk σ2 H3 fun y H4 => tv σ2 H4 fun z H5 => ∃ H6, DPut H5 D y z H6 ∧ Nx H6 else Nx H3)
section
variable {X : Cx}
theorem dg_core {pins : List (Addr × Obj)} {s : Shared} {σ : L2.St} {H : Hp} {Q : VK} {kx vx tg iter : Expr} {ifs : List Expr} {scope : Scope} {own : List (Str × Nat)} {pos pos' : Pos} {wi : TI} {g : TG} {tt : TT} {tk tv : TE} {o0 : HO} {use : Option (Value → Sem Unit)} {Qf : Value → Shared → Prop}
    (hu : X.A.units + 1 < cLine) (n0 : DNew o0) (hc : X.calm = true) (hN : X.N.Nodup) (I : Inv X pins σ H s) (hi : PI X tg iter wi) (ok : BlkOk X.N X.env.scope scope own)
    (hg : ∀ (s : Shared) (H : Hp) (C : Addr) (cl : List (Str × Addr)) (fp : List Addr), PG (X.blk s H scope (compEnvC scope cl C X.env) fp) tg g)
    (ht : ∀ (s : Shared) (H : Hp) (C : Addr) (cl : List (Str × Addr)) (fp : List Addr), PTs (X.blk s H scope (compEnvC scope cl C X.env) fp) ifs tt)
    (hk : ∀ (s : Shared) (H : Hp) (C : Addr) (cl : List (Str × Addr)) (fp : List Addr), PE (X.blk s H scope (compEnvC scope cl C X.env) fp) kx tk)
    (he : ∀ (s : Shared) (H : Hp) (C : Addr) (cl : List (Str × Addr)) (fp : List Addr), PE (X.blk s H scope (compEnvC scope cl C X.env) fp) vx tv) (hs : ∀ x, foldedSetIterable iter X.env x = pure x)
    (h : tDg o0 wi g tt tk tv (own.map (·.2)) σ H Q)
    (hRR : ∀ D C s' m H', Inv X pins σ H' s' → Q (.ref D) H' → s'.heap.Ns C m → FpOk X pins H' C → compPost (model X.prog X.w) X.A X.xe use Qf (.ref D) C (.ok .next) s') :
    wpAny (model X.prog X.w) X.A (comprehension (.DictComp kx vx [⟨tg, iter, ifs, 0⟩] scope pos) scope X.env pos' newDict false (eval iter X.env) use) Qf X.xe s := by
  have hfree : ∀ y ∈ scope.names, y.2 = .free → ∃ c, X.env.cells.lookup y.1 = some c := fun y hy e => by
    rcases ok.free y hy e with k | k
    · exact I.ok.has _ (.inl k)
    · exact I.ok.has _ (.inr k)
  refine wpAny_comprehension_free (use := use) rfl hs (closure_ok hfree) ok.kind (fun y hy e => by rw [ok.uniq y hy, e])
    (thn (hi.run pins s σ H _ I h) fun xv s1 hx => thn hx fun itv s2 h2 => ?_)
  obtain ⟨it, fp, tn, J, H2, e, I2, T, st2, f2, q⟩ := h2
  subst e
  refine wpAny_newObj_type (newEnv_comp ?_)
  generalize hD : s2.heap.objs.size = D
  have hDn : H2 D = none := I2.hok.fresh (Nat.le_of_eq hD)
  obtain ⟨W, ⟨m0, w0⟩, turn⟩ := q D hDn
  generalize hs3 : ({ s2 with heap := s2.heap.push { cls := .type "dict", data := .dict #[] } } : Shared) = s3
  have I3 : Inv X pins σ (upd H2 D o0) s3 := by
    rw [← hs3]
    refine I2.laid (t' := s2.toks) (fun b o e => Heap.get?_push_of_some _ e) (Nat.le_of_eq hD) ?_
    rw [← hD]
    exact dnew_ok n0 s2.heap I2.big
  have h3 : s3.heap = s2.heap.push { cls := .type "dict", data := .dict #[] } := by rw [← hs3]
  have sz : ∀ b ∈ fp, b < s2.heap.objs.size := fun b hb => by
    obtain ⟨o, e, _⟩ := T.obj _ _ st2 b hb
    exact Heap.lt_size e
  have f3 : ∀ b ∈ fp, FpOk X pins (upd H2 D o0) b ∧ b < s3.heap.objs.size := fun b hb => by
    have hlt := sz b hb
    refine ⟨⟨?_, (f2 b hb).2⟩, by rw [h3, Heap.size_push]; exact Nat.lt_succ_of_lt hlt⟩
    rw [upd_ne (by rw [← hD]; exact Nat.ne_of_lt hlt)]
    exact (f2 b hb).1
  have st3 : tn 0 s3.heap := T.keep _ _ _ st2 fun b _ o e => by rw [h3]; exact Heap.get?_push_of_some _ e
  have I4 := block_start I3 ok hN f3
  have pg := hg s3 (upd H2 D o0) s3.heap.objs.size (cellsFrom (s3.heap.objs.size + 1) scope.names (cloFrom X.env.cells scope.names [])) fp
  have pt := ht s3 (upd H2 D o0) s3.heap.objs.size (cellsFrom (s3.heap.objs.size + 1) scope.names (cloFrom X.env.cells scope.names [])) fp
  have pk := hk s3 (upd H2 D o0) s3.heap.objs.size (cellsFrom (s3.heap.objs.size + 1) scope.names (cloFrom X.env.cells scope.names [])) fp
  have pe := he s3 (upd H2 D o0) s3.heap.objs.size (cellsFrom (s3.heap.objs.size + 1) scope.names (cloFrom X.env.cells scope.names [])) fp
  show codeAny _ _ (.compStart (.DictComp kx vx [⟨tg, iter, ifs, 0⟩] scope pos) 0 (.ref it) (.ref D) (compEnvC scope (cellsFrom (s3.heap.objs.size + 1) scope.names (cloFrom X.env.cells scope.names [])) s3.heap.objs.size X.env)) (compPost (model X.prog X.w) X.A X.xe use Qf (.ref D) s3.heap.objs.size) { s3 with heap := pushCells (s3.heap.push { cls := .type "dict", data := .dict #[] }) scope.names }
  have nfp : ∀ b ∈ fp, (upd H2 D o0) b = none := fun b hb => (f3 b hb).1.1
  generalize hce : compEnvC scope (cellsFrom (s3.heap.objs.size + 1) scope.names (cloFrom X.env.cells scope.names [])) s3.heap.objs.size X.env = ce at I4 pg pt pk pe ⊢
  have cL : ce.locals = s3.heap.objs.size := by subst hce; rfl
  generalize hH3 : upd H2 D o0 = H3 at I3 I4 pg pt pk pe w0 nfp f3
  generalize hs4 : ({ s3 with heap := pushCells (s3.heap.push { cls := .type "dict", data := .dict #[] }) scope.names } : Shared) = s4 at I4 ⊢
  have st4 : tn 0 s4.heap := T.keep _ _ _ st3 fun b _ o e => by rw [← hs4]; exact pushCells_keeps _ _ _ _ (Heap.get?_push_of_some _ e)
  have stat : ∀ {σ' : L2.St} {H' : Hp} {s' : Shared}, Inv (X.blk s3 H3 scope ce fp) [] σ' H' s' → (∀ b ∈ fp, H' b = none) → ∀ b ∈ fp, FpOk (X.blk s3 H3 scope ce fp) [] H' b := fun {σ' H' s'} I' hn b hb =>
    ⟨hn b hb, (I'.ok.exf b hb).1, I'.ok.exfs b hb, .inl hb, fun x c e => (I'.ok.exf b hb).2 x c e, fun p hp => absurd (show p ∈ ([] : List (Addr × Obj)) ++ [] from hp) (by simp)⟩
  have loop : codeAny (model X.prog X.w) X.A (.compLoop (.DictComp kx vx [⟨tg, iter, ifs, 0⟩] scope pos) 0 (.ref it) (.ref D) ce) (compPost (model X.prog X.w) X.A X.xe use Qf (.ref D) s3.heap.objs.size) s4 := by
    refine compLoop_anyD (fun n s' => ∃ i H', Inv (X.blk s3 H3 scope ce fp) [] (wipe σ (own.map (·.2))) H' s' ∧ tn i s'.heap ∧ (∀ b ∈ fp, H' b = none) ∧ W i n H') ?_ m0 ⟨0, H3, I4, st4, nfp, w0⟩
    rintro n s5 ⟨i, H5, I5, st5, n5, w5⟩
    rcases turn i n H5 w5 with ⟨stop, qq⟩ | ⟨go, Nx, hNx, step⟩
    · have td := T.done (X.blk s3 H3 scope ce fp) rfl rfl rfl hc i [] s5 _ H5 (fun _ _ => False) I5 (stat I5 n5) st5 stop
      refine thnF td fun r s6 ⟨hr, I6⟩ => ?_
      subst hr
      have I7 : Inv X pins σ H5 s6 := I3.call' (ch := fp) I6.os I6.base I6.hok I6.bare fun b hb => ⟨(f3 b hb).1.2.2.2.1, (f3 b hb).1.2.1, (f3 b hb).1.2.2.2.2.1, (f3 b hb).1.2.2.2.2.2⟩
      have nC : H5 s3.heap.objs.size = none := by
        have z : H5 ce.locals = none := I6.free
        rw [cL] at z
        exact z
      obtain ⟨m, hn, _⟩ := I6.loc
      have hn : s6.heap.Ns ce.locals m := hn
      rw [cL] at hn
      exact hRR D s3.heap.objs.size s6 m H5 I7 qq hn (I3.fpOk (Nat.le_refl _) nC)
    · have ti := T.item (X.blk s3 H3 scope ce fp) rfl rfl rfl hc i [] s5 _ H5 (fun _ _ => False) I5 (stat I5 n5) st5 go
      refine thnF ti fun r s6 ⟨u, hr, h6⟩ => ?_
      subst hr
      refine thnF h6 fun _ s7 ⟨x, H7, I7, r7, y7, st7, n7⟩ => ?_
      have I7' := I7.pinned (stat I7 n7) (T.obj _ _ st7)
      refine thnF (pg.run _ s7 _ H7 x u _ I7' r7 (step x H7 y7)) fun _ s8 ⟨σ8, H8, I8, hw8, q8⟩ => ?_
      refine thnF (pt.run _ s8 σ8 H8 _ I8 q8) fun b s9 ⟨H9, I9, q9⟩ => ?_
      have fin : ∀ {s' : Shared} {H' : Hp}, Inv (X.blk s3 H3 scope ce fp) ([] ++ pinsAt fp s7.heap) σ8 H' s' → Nx H' → ∃ m, m < n ∧ ∃ i H', Inv (X.blk s3 H3 scope ce fp) [] (wipe σ (own.map (·.2))) H' s' ∧ tn i s'.heap ∧ (∀ b ∈ fp, H' b = none) ∧ W i m H' := fun {s' H'} I' nx => by
        obtain ⟨m', hm, w'⟩ := hNx H' nx
        have pin' : ∀ b ∈ fp, ∀ o, s7.heap.get? b = some o → s'.heap.get? b = some o ∧ H' b = none := fun b hb o e =>
          let z := I'.pin (b, o) (List.mem_append_right _ (List.mem_append_right _ (mem_pinsAt hb e)))
          ⟨z.1, z.2.1⟩
        have hl : (wipe σ (own.map (·.2))).length = σ8.length := by rw [← hw8, wipe_length]
        refine ⟨m', hm, i + 1, H', (I'.unpinned (pins := [])).weak hl (fun j v e => ?_), T.keep _ _ _ st7 fun b hb o e => (pin' b hb o e).1, fun b hb => ?_, w'⟩
        · rw [← hw8] at e
          exact (wipe_some e).1
        · obtain ⟨o, e, _⟩ := T.obj _ _ st7 b hb
          exact (pin' b hb o e).2
      cases b with
      | false =>
        simp only [Bool.false_eq_true, if_false] at q9 ⊢
        exact fin I9 q9
      | true =>
        simp only [if_true] at q9 ⊢
        refine thnF (pk.run _ s9 σ8 H9 _ I9 q9) fun z s10 ⟨yk, H10, I10, r10, q10⟩ => ?_
        refine thnF (pe.run _ s10 σ8 H10 _ I10 q10) fun z2 s11 ⟨yv, H11, I11, r11, H12, dp, nx⟩ => ?_
        exact gd_set (X := X.blk s3 H3 scope ce fp) hu I11 dp r10 r11 fun s12 I12 => fin I12 nx
  exact codeAny_compStart_dict loop (T.self X.A 0 _ _ _ st4 loop)
/-- as a value -/
theorem pe_dg {kx vx tg iter : Expr} {ifs : List Expr} {scope : Scope} {own : List (Str × Nat)} {pos : Pos} {wi : TI} {g : TG} {tt : TT} {tk tv : TE} (o0 : HO) (n0 : DNew o0) (hu : X.A.units + 1 < cLine) (hc : X.calm = true) (hN : X.N.Nodup) (hi : PI X tg iter wi) (ok : BlkOk X.N X.env.scope scope own)
    (hg : ∀ (s : Shared) (H : Hp) (C : Addr) (cl : List (Str × Addr)) (fp : List Addr), PG (X.blk s H scope (compEnvC scope cl C X.env) fp) tg g)
    (ht : ∀ (s : Shared) (H : Hp) (C : Addr) (cl : List (Str × Addr)) (fp : List Addr), PTs (X.blk s H scope (compEnvC scope cl C X.env) fp) ifs tt)
    (hk : ∀ (s : Shared) (H : Hp) (C : Addr) (cl : List (Str × Addr)) (fp : List Addr), PE (X.blk s H scope (compEnvC scope cl C X.env) fp) kx tk)
    (he : ∀ (s : Shared) (H : Hp) (C : Addr) (cl : List (Str × Addr)) (fp : List Addr), PE (X.blk s H scope (compEnvC scope cl C X.env) fp) vx tv) (hs : ∀ x, foldedSetIterable iter X.env x = pure x := by intro _; rfl) :
    PE X (.DictComp kx vx [⟨tg, iter, ifs, 0⟩] scope pos) (tDg o0 wi g tt tk tv (own.map (·.2))) := by
  refine ⟨fun pins s σ H Q I h => ?_⟩
  rw [arm_eval_DictComp]
  refine dg_core hu n0 hc hN I hi ok hg ht hk he hs h fun D C s' m H' I' q hn f => ⟨m, hn, fun h'' sb => ?_⟩
  obtain ⟨f0, f1, f2, f3, f4, f5⟩ := f
  exact ⟨.ref D, H', I'.turned (t' := s'.toks) (fun b o hb e => (sb.2 b hb).trans e) f0 f1 f3 f4 f5, rfl, q⟩
/-- y = {..} -/
theorem ps_setDg {i : Nat} {y : Str} {py : Pos} {kx vx tg iter : Expr} {ifs : List Expr} {scope : Scope} {own : List (Str × Nat)} {pos spos : Pos} {wi : TI} {g : TG} {tt : TT} {tk tv : TE} (o0 : HO) (n0 : DNew o0) (hu : X.A.units + 1 < cLine) (hc : X.calm = true) (hN : X.N.Nodup)
    (hy : X.N[i]? = some y) (hyl : X.env.scope.names.lookup y = some .local) (hsw : swapsWith (.DictComp kx vx [⟨tg, iter, ifs, 0⟩] scope pos) (some (.Name y py)) spos.line X.env = pure true) (hi : PI X tg iter wi) (ok : BlkOk X.N X.env.scope scope own)
    (hg : ∀ (s : Shared) (H : Hp) (C : Addr) (cl : List (Str × Addr)) (fp : List Addr), PG (X.blk s H scope (compEnvC scope cl C X.env) fp) tg g)
    (ht : ∀ (s : Shared) (H : Hp) (C : Addr) (cl : List (Str × Addr)) (fp : List Addr), PTs (X.blk s H scope (compEnvC scope cl C X.env) fp) ifs tt)
    (hk : ∀ (s : Shared) (H : Hp) (C : Addr) (cl : List (Str × Addr)) (fp : List Addr), PE (X.blk s H scope (compEnvC scope cl C X.env) fp) kx tk)
    (he : ∀ (s : Shared) (H : Hp) (C : Addr) (cl : List (Str × Addr)) (fp : List Addr), PE (X.blk s H scope (compEnvC scope cl C X.env) fp) vx tv) (hs : ∀ x, foldedSetIterable iter X.env x = pure x := by intro _; rfl) :
    PS X (.Assign [.Name y py] (.DictComp kx vx [⟨tg, iter, ifs, 0⟩] scope pos) spos) (tAsg (tDg o0 wi g tt tk tv (own.map (·.2))) (gName i)) := by
  refine ⟨fun pins s σ H D I h => ?_⟩
  rw [exec_Assign_Name_used _ _ _ _ hsw]
  refine wpAny_bind (wpAny_standAt (wpAny_bind ?_))
  show wpAny _ X.A (do let _ ← comprehension (.DictComp kx vx [⟨tg, iter, ifs, 0⟩] scope pos) scope X.env (firstIterPos [⟨tg, iter, ifs, 0⟩] pos) newDict false (eval iter X.env) (some (assign (.Name y py) X.env))) _ _ s
  have h : tDg o0 wi g tt tk tv (own.map (·.2)) σ H (fun x H1 => gName i x σ H1 D.nx) := h
  refine wpAny_bind (thn (dg_core (Qf := fun _ s' => SP X pins D .next s') hu n0 hc hN I hi ok hg ht hk he hs h fun L C s' m H' I' q hn f => ?_) fun _ s' hq => wpAny_pure (wpAny_pure hq))
  show wpAny _ _ (assign (.Name y py) X.env (.ref L)) _ _ _
  refine wpAny_assign_Name (store_ok2 (v := V.ref L) I' hN hy (.inl hyl) rfl (fun s2 I2 ⟨a, sb, ha⟩ => ?_) (.inr hyl))
  obtain ⟨f0, f1, f2, f3, f4, f5⟩ := f
  have haC : C ≠ a := by
    rcases ha with z | z
    · rw [z]
      exact f1
    · exact fun e => f4 y a z e.symm
  refine ⟨m, hn.sameBut sb haC, fun h3 sb3 => ?_⟩
  exact ⟨_, H', I2.turned (t' := s2.toks) (fun b o hb e => (sb3.2 b hb).trans e) f0 f1 f3 f4 f5, q⟩
theorem sw_trueD {kx vx : Expr} {gs : List Comprehension} {scope : Scope} {pos py : Pos} {y : Str} {l : Nat} {env : Env} (hk : env.scope.kind = .function) (hy : env.scope.names.lookup y = some .local) (hl : (py.line == pos.line) = true)
    (ha : (scope.names.any fun (n, k) => n == y && (k == .local || k == .cell)) = false) : swapsWith (.DictComp kx vx gs scope pos) (some (.Name y py)) l env = pure true := by
  have ky : env.kindOf y = some .local := hy
  have hb : env.blockKind = .function := by
    unfold Env.blockKind
    rw [hk]
    rfl
  unfold swapsWith
  simp only [hb, ky, ha, Expr.pos, hl]
  rfl
/-- over anything that is walked: Pv by the turn and the heap, the new dict at D within -/
theorem dg_it {J : It} {n : Nat} {G : Hp → Prop} {Y : Nat → Hp → V → Hp → Prop} (w : Walk J n G Y) {g : TG} {tt : TT} {tk tv : TE} {vs : List Nat} {σ : L2.St} {H1 : Hp} {D : Addr} {o0 : HO} {Qd : Hp → Prop} (Pv : Nat → Hp → Prop) (h0 : Pv 0 (upd H1 D o0)) (hG : ∀ i H, i ≤ n → Pv i H → G H)
    (hs : ∀ i x H H', i < n → Pv i H → Y i H x H' → g x (wipe σ vs) H' fun σ2 H2 => wipe σ2 vs = wipe σ vs ∧ tt σ2 H2 fun b H3 =>
      if b = true then tk σ2 H3 fun y H4 => tv σ2 H4 fun z H5 => ∃ H6, DPut H5 D y z H6 ∧ Pv (i + 1) H6 else Pv (i + 1) H3) (hd : ∀ H, Pv n H → Qd H) :
    ∃ W : Nat → Nat → Hp → Prop, (∃ m, W 0 m (upd H1 D o0)) ∧ ∀ i m H, W i m H →
      (J.stop i H ∧ Qd H) ∨ (J.go i H ∧ ∃ Nx : Hp → Prop, (∀ H', Nx H' → ∃ m', m' < m ∧ W (i + 1) m' H') ∧ ∀ x H', J.yld i H x H' → g x (wipe σ vs) H' fun σ2 H2 => wipe σ2 vs = wipe σ vs ∧ tt σ2 H2 fun b H3 =>
        if b = true then tk σ2 H3 fun y H4 => tv σ2 H4 fun z H5 => ∃ H6, DPut H5 D y z H6 ∧ Nx H6 else Nx H3) := by
  refine ⟨fun i m H => m = n - i ∧ i ≤ n ∧ Pv i H, ⟨n, by simp, Nat.zero_le _, h0⟩, ?_⟩
  rintro i m H ⟨rfl, hi, p⟩
  have q := hG i H hi p
  by_cases hlt : i < n
  · exact .inr ⟨w.goes i H hlt q, Pv (i + 1), fun H' p' => ⟨n - (i + 1), by omega, rfl, hlt, p'⟩, fun x H' y => hs i x H H' hlt p (w.yields i H x H' hlt q y)⟩
  · have e : i = n := by omega
    subst e
    exact .inl ⟨w.stops H q, hd H p⟩
/-- a dict (or a list) that is walked as it comes, and locked from there on -/
def tFrz (te : TE) : TE := fun σ H Q => te σ H fun x H1 => ∃ d u, x = .ref d ∧ H1 d = some u ∧ Mut (some u) ∧ ∀ o, Q x (upd H1 d (.frz o u))
theorem pe_frz {e : Expr} {te : TE} (he : PE X e te) : PE X e (tFrz te) := by
  refine ⟨fun pins s σ H Q I h => ?_⟩
  refine thn (he.run pins s σ H _ I h) fun v s1 ⟨x, H1, I1, r1, d, u, ex, hd, mu, q⟩ => ?_
  obtain ⟨o, I2⟩ := I1.lock hd mu
  exact ⟨x, _, I2, r1, q o⟩
end
end Gs
/-! ## GsDc2 -/
/-! Dict comprehensions of two clauses. -/
namespace Gs
open PySem PySem.Spec PyProof.Rows L2
theorem dcTurn_out (kx vx t0 i0 t1 i1 : Expr) (ifs0 ifs1 : List Expr) (scope : Scope) (pos : Pos) (it : Value) (D : Addr) (env : Env) :
    compTurn (.DictComp kx vx [⟨t0, i0, ifs0, 0⟩, ⟨t1, i1, ifs1, 0⟩] scope pos) 0 it (.ref D) env = (do
      standAt i0.pos
      match ← pyNext it with
      | none => pure (.done .next)
      | some v =>
        letOwnedTupleGo t0 it v
        assign t0 env v
        let mut ok := true
        for c in ifs0 do
          if ok then ok ← isTrue c env (eval c env)
        if ok then
          let x ← eval i1 env
          standAt i1.pos
          let x ← foldedSetIterable i1 env x
          let _ ← runOwn (.compStart (.DictComp kx vx [⟨t0, i0, ifs0, 0⟩, ⟨t1, i1, ifs1, 0⟩] scope pos) 1 (← holding [x] (pyIter x)) (.ref D) env) env
        again (.compLoop (.DictComp kx vx [⟨t0, i0, ifs0, 0⟩, ⟨t1, i1, ifs1, 0⟩] scope pos) 0 it (.ref D) env)) := by rfl
theorem dcTurn_in (kx vx t0 i0 t1 i1 : Expr) (ifs0 ifs1 : List Expr) (scope : Scope) (pos : Pos) (it : Value) (D : Addr) (env : Env) :
    compTurn (.DictComp kx vx [⟨t0, i0, ifs0, 0⟩, ⟨t1, i1, ifs1, 0⟩] scope pos) 1 it (.ref D) env = (do
      standAt i1.pos
      match ← pyNext it with
      | none => pure (.done .next)
      | some v =>
        letOwnedTupleGo t1 it v
        assign t1 env v
        let mut ok := true
        for c in ifs1 do
          if ok then ok ← isTrue c env (eval c env)
        if ok then
          (do
            let kv ← eval kx env
            let vv ← holding [kv] (eval vx env)
            standAt { kx.pos with endLine := vx.pos.endLine, endCol := vx.pos.endCol }
            holding [kv, vv] (dictSet D kv vv))
        again (.compLoop (.DictComp kx vx [⟨t0, i0, ifs0, 0⟩, ⟨t1, i1, ifs1, 0⟩] scope pos) 1 it (.ref D) env)) := by rfl

section
variable {prog : Program} {w : World} {A : Around} {R : Result → Shared → Prop} {s : Shared} {kx vx t0 i0 t1 i1 : Expr} {ifs0 ifs1 : List Expr} {scope : Scope} {pos : Pos} {it : Value} {D : Addr} {env : Env}
/-- the loop of the first clause -/
theorem dcLoop_out (hs : ∀ x, foldedSetIterable i1 env x = pure x) (I : Nat → Shared → Prop)
    (turn : ∀ n s, I n s → wpAny (model prog w) A (pyNext it) (fun r s₁ => match r with
      | none => R (.ok .next) s₁
      | some v => wpAny (model prog w) A (letOwnedTupleGo t0 it v) (fun _ s₁' => wpAny (model prog w) A (assign t0 env v) (fun _ s₂ =>
          wpAny (model prog w) A (forIn ifs0 true fun c r => if r = true then do let ok ← isTrue c env (eval c env); pure (ForInStep.yield ok) else pure (ForInStep.yield r)) (fun ok s₃ =>
            if ok = true then wpAny (model prog w) A (eval i1 env) (fun x s₄ => wpAny (model prog w) A (pyIter x) (fun it1 s₅ =>
              codeAny (model prog w) A (.compStart (.DictComp kx vx [⟨t0, i0, ifs0, 0⟩, ⟨t1, i1, ifs1, 0⟩] scope pos) 1 it1 (.ref D) env) (fun r s' => match r with
                | .ok _ => ∃ m, m < n ∧ I m s'
                | .error _ => False) s₅) (notedBy (model prog w) A env fun e s' => R (.error e) s') s₄) (notedBy (model prog w) A env fun e s' => R (.error e) s') s₃
            else ∃ m, m < n ∧ I m s₃) (notedBy (model prog w) A env fun e s' => R (.error e) s') s₂) (notedBy (model prog w) A env fun e s' => R (.error e) s') s₁') (notedBy (model prog w) A env fun e s' => R (.error e) s') s₁) (notedBy (model prog w) A env fun e s' => R (.error e) s') s)
    (n : Nat) (h : I n s) :
    codeAny (model prog w) A (.compLoop (.DictComp kx vx [⟨t0, i0, ifs0, 0⟩, ⟨t1, i1, ifs1, 0⟩] scope pos) 0 it (.ref D) env) R s := by
  refine codeAny_loop rfl I (fun n s hI => ?_) n h
  show wpAny _ A ((compTurn (.DictComp kx vx [⟨t0, i0, ifs0, 0⟩, ⟨t1, i1, ifs1, 0⟩] scope pos) 0 it (.ref D) env).onRaise (fun x => do noteFrame x env; theTreesLotGoes x)) _ _ s
  refine wpAny_noted ?_
  rw [dcTurn_out]
  refine wpAny_bind (wpAny_standAt (wpAny_bind (wpAny_mono (turn n s hI) (fun r s₁ h₁ => ?_) fun _ _ h' => h')))
  cases r with
  | none => exact wpAny_pure h₁
  | some v =>
    refine wpAny_bind (wpAny_mono h₁ (fun _ s₁' h₁' => ?_) fun _ _ h' => h')
    refine wpAny_bind (wpAny_mono h₁' (fun _ s₂ h₂ => wpAny_bind (wpAny_mono h₂ (fun ok s₃ h₃ => ?_) fun _ _ h' => h')) fun _ _ h' => h')
    cases ok with
    | false => exact wpAny_pure ⟨rfl, h₃⟩
    | true =>
      refine wpAny_bind (wpAny_mono h₃ (fun x s₄ h₄ => ?_) fun _ _ h' => h')
      refine wpAny_bind (wpAny_standAt (wpAny_bind (wpAny_of_eq (hs x) (wpAny_bind (wpAny_holding (wpAny_mono h₄ (fun it1 s₅ h₅ => ?_) fun _ _ h' => h'))))))
      refine wpAny_bind (wpAny_runOwn ?_)
      rw [Around.mark_none]
      refine codeAny_mono h₅ fun r s' hr => ?_
      cases r with
      | ok f =>
        first
          | exact wpAny_pure ⟨rfl, hr⟩
          | exact wpAny_bind (wpAny_pure (wpAny_pure ⟨rfl, hr⟩))
      | error e => exact hr.elim
/-- the loop of the second -/
theorem dcLoop_in (I : Nat → Shared → Prop)
    (turn : ∀ n s, I n s → wpAny (model prog w) A (pyNext it) (fun r s₁ => match r with
      | none => R (.ok .next) s₁
      | some v => wpAny (model prog w) A (letOwnedTupleGo t1 it v) (fun _ s₁' => wpAny (model prog w) A (assign t1 env v) (fun _ s₂ =>
          wpAny (model prog w) A (forIn ifs1 true fun c r => if r = true then do let ok ← isTrue c env (eval c env); pure (ForInStep.yield ok) else pure (ForInStep.yield r)) (fun ok s₃ =>
            if ok = true then wpAny (model prog w) A (eval kx env) (fun kv s₄ => wpAny (model prog w) A (eval vx env) (fun vv s₅ =>
              wpAny (model prog w) A (dictSet D kv vv) (fun _ s₆ => ∃ m, m < n ∧ I m s₆) (notedBy (model prog w) A env fun e s' => R (.error e) s') s₅) (notedBy (model prog w) A env fun e s' => R (.error e) s') s₄) (notedBy (model prog w) A env fun e s' => R (.error e) s') s₃
            else ∃ m, m < n ∧ I m s₃) (notedBy (model prog w) A env fun e s' => R (.error e) s') s₂) (notedBy (model prog w) A env fun e s' => R (.error e) s') s₁') (notedBy (model prog w) A env fun e s' => R (.error e) s') s₁) (notedBy (model prog w) A env fun e s' => R (.error e) s') s)
    (n : Nat) (h : I n s) :
    codeAny (model prog w) A (.compLoop (.DictComp kx vx [⟨t0, i0, ifs0, 0⟩, ⟨t1, i1, ifs1, 0⟩] scope pos) 1 it (.ref D) env) R s := by
  refine codeAny_loop rfl I (fun n s hI => ?_) n h
  show wpAny _ A ((compTurn (.DictComp kx vx [⟨t0, i0, ifs0, 0⟩, ⟨t1, i1, ifs1, 0⟩] scope pos) 1 it (.ref D) env).onRaise (fun x => do noteFrame x env; theTreesLotGoes x)) _ _ s
  refine wpAny_noted ?_
  rw [dcTurn_in]
  refine wpAny_bind (wpAny_standAt (wpAny_bind (wpAny_mono (turn n s hI) (fun r s₁ h₁ => ?_) fun _ _ h' => h')))
  cases r with
  | none => exact wpAny_pure h₁
  | some v =>
    refine wpAny_bind (wpAny_mono h₁ (fun _ s₁' h₁' => ?_) fun _ _ h' => h')
    refine wpAny_bind (wpAny_mono h₁' (fun _ s₂ h₂ => wpAny_bind (wpAny_mono h₂ (fun ok s₃ h₃ => ?_) fun _ _ h' => h')) fun _ _ h' => h')
    cases ok with
    | false => exact wpAny_pure ⟨rfl, h₃⟩
    | true =>
      exact wpAny_bind (wpAny_bind (wpAny_mono h₃ (fun kv s₄ h₄ => wpAny_bind (wpAny_holding (wpAny_mono h₄ (fun vv s₅ h₅ => wpAny_bind (wpAny_standAt (wpAny_holding (wpAny_mono h₅ (fun _ s₆ h₆ => wpAny_pure ⟨rfl, h₆⟩) fun _ _ h' => h')))) fun _ _ h' => h'))) fun _ _ h' => h'))
/-- the second clause's start -/
theorem dcStart1_ok (h0 : codeAny (model prog w) A (.compLoop (.DictComp kx vx [⟨t0, i0, ifs0, 0⟩, ⟨t1, i1, ifs1, 0⟩] scope pos) 1 it (.ref D) env) R s)
    (h : wpAny (model prog w) A (pyIter it) (fun it' s' => codeAny (model prog w) A (.compLoop (.DictComp kx vx [⟨t0, i0, ifs0, 0⟩, ⟨t1, i1, ifs1, 0⟩] scope pos) 1 it' (.ref D) env) R s')
      (notedBy (model prog w) A env fun x s' => R (.error x) s') s) :
    codeAny (model prog w) A (.compStart (.DictComp kx vx [⟨t0, i0, ifs0, 0⟩, ⟨t1, i1, ifs1, 0⟩] scope pos) 1 it (.ref D) env) R s := by
  refine codeAny_of_tree ?_
  show wpAny _ _ ((compStart (.DictComp kx vx [⟨t0, i0, ifs0, 0⟩, ⟨t1, i1, ifs1, 0⟩] scope pos) 1 it (.ref D) env).onRaise (fun x => do noteFrame x env; standAt theWindowsPlace)) _ _ s
  refine wpAny_notedAt ?_
  unfold compStart
  show wpAny _ _ (ask >>= _) _ _ s
  refine wpAny_bind (wpAny_askSetting (wpAny_ite ?_))
  split
  · first
      | exact wpAny_bind (wpAny_pure (wpAny_pure (And.intro rfl h0)))
      | exact wpAny_pure (And.intro rfl h0)
  · first
      | exact wpAny_bind (wpAny_rule (wpAny_bind (wpAny_standAt (wpAny_bind (wpAny_mono h (fun it' s' h' => wpAny_pure (And.intro rfl h')) fun _ _ x => x)))))
      | (refine wpAny_bind (wpAny_rule ?_); show wpAny _ _ (standAt i1.pos >>= _) _ _ s; exact wpAny_bind (wpAny_standAt (wpAny_bind (wpAny_mono h (fun it' s' h' => wpAny_pure (And.intro rfl h')) fun _ _ x => x))))
end

/-- {k: v for .. in .. if .. for .. in .. if ..} -/
def tDg2 (o0 : HO) (wi : TI) (g : TG) (tt : TT) (wi1 : TI) (g1 : TG) (tt1 : TT) (tk tv : TE) (vs vs1 : List Nat) : TE := fun σ H Q => wi σ H fun J H1 => ∀ D, H1 D = none → ∃ W : Nat → Nat → Hp → Prop, (∃ m, W 0 m (upd H1 D o0)) ∧ ∀ i m H, W i m H →
  (J.stop i H ∧ Q (.ref D) H) ∨ (J.go i H ∧ ∃ Nx : Hp → Prop, (∀ H', Nx H' → ∃ m', m' < m ∧ W (i + 1) m' H') ∧ ∀ x H', J.yld i H x H' → g x (wipe σ vs) H' fun σ2 H2 => wipe σ2 vs = wipe σ vs ∧ tt σ2 H2 fun b H3 =>
    if b = true then wi1 σ2 H3 fun J1 H4 => ∃ W1 : Nat → Nat → Hp → Prop, (∃ m, W1 0 m H4) ∧ ∀ j k H, W1 j k H →
      (J1.stop j H ∧ Nx H) ∨ (J1.go j H ∧ ∃ Nx1 : Hp → Prop, (∀ H', Nx1 H' → ∃ k', k' < k ∧ W1 (j + 1) k' H') ∧ ∀ x H', J1.yld j H x H' → g1 x (wipe σ2 vs1) H' fun σ3 H5 => wipe σ3 vs1 = wipe σ2 vs1 ∧ tt1 σ3 H5 fun b H6 =>
        if b = true then tk σ3 H6 fun y H7 => tv σ3 H7 fun z H8 => ∃ H9, DPut H8 D y z H9 ∧ Nx1 H9 else Nx1 H6)
    else Nx H3)
section
variable {X : Cx}
theorem dg2_core {pins : List (Addr × Obj)} {s : Shared} {σ : L2.St} {H : Hp} {Q : VK} {kx vx tg iter tg1 iter1 : Expr} {ifs ifs1 : List Expr} {scope : Scope} {own : List (Str × Nat)} {vs1 : List Nat} {pos pos' : Pos} {wi wi1 : TI} {g g1 : TG} {tt tt1 : TT} {tk tv : TE} {o0 : HO} {use : Option (Value → Sem Unit)} {Qf : Value → Shared → Prop}
    (hu : X.A.units + 1 < cLine) (n0 : DNew o0) (hc : X.calm = true) (hN : X.N.Nodup) (I : Inv X pins σ H s) (hi : PI X tg iter wi) (ok : BlkOk X.N X.env.scope scope own) (hv : ∀ i ∈ vs1, i ∈ own.map (·.2))
    (hg : ∀ (s : Shared) (H : Hp) (C : Addr) (cl : List (Str × Addr)) (fp : List Addr), PG (X.blk s H scope (compEnvC scope cl C X.env) fp) tg g) (ht : ∀ (s : Shared) (H : Hp) (C : Addr) (cl : List (Str × Addr)) (fp : List Addr), PTs (X.blk s H scope (compEnvC scope cl C X.env) fp) ifs tt)
    (hk : ∀ (s : Shared) (H : Hp) (C : Addr) (cl : List (Str × Addr)) (fp : List Addr), PE (X.blk s H scope (compEnvC scope cl C X.env) fp) kx tk)
    (he : ∀ (s : Shared) (H : Hp) (C : Addr) (cl : List (Str × Addr)) (fp : List Addr), PE (X.blk s H scope (compEnvC scope cl C X.env) fp) vx tv) (hs : ∀ x, foldedSetIterable iter X.env x = pure x)
    (hi1 : ∀ (s : Shared) (H : Hp) (C : Addr) (cl : List (Str × Addr)) (fp : List Addr), PI (X.blk s H scope (compEnvC scope cl C X.env) fp) tg1 iter1 wi1)
    (hg1 : ∀ (s : Shared) (H : Hp) (C : Addr) (cl : List (Str × Addr)) (fp : List Addr), PG (X.blk s H scope (compEnvC scope cl C X.env) fp) tg1 g1)
    (ht1 : ∀ (s : Shared) (H : Hp) (C : Addr) (cl : List (Str × Addr)) (fp : List Addr), PTs (X.blk s H scope (compEnvC scope cl C X.env) fp) ifs1 tt1)
    (hs1 : ∀ env x, foldedSetIterable iter1 env x = pure x)
    (h : tDg2 o0 wi g tt wi1 g1 tt1 tk tv (own.map (·.2)) vs1 σ H Q)
    (hRR : ∀ D C s' m H', Inv X pins σ H' s' → Q (.ref D) H' → s'.heap.Ns C m → FpOk X pins H' C → compPost (model X.prog X.w) X.A X.xe use Qf (.ref D) C (.ok .next) s') :
    wpAny (model X.prog X.w) X.A (comprehension (.DictComp kx vx [⟨tg, iter, ifs, 0⟩, ⟨tg1, iter1, ifs1, 0⟩] scope pos) scope X.env pos' newDict false (eval iter X.env) use) Qf X.xe s := by
  have hfree : ∀ y ∈ scope.names, y.2 = .free → ∃ c, X.env.cells.lookup y.1 = some c := fun y hy e => by
    rcases ok.free y hy e with k | k
    · exact I.ok.has _ (.inl k)
    · exact I.ok.has _ (.inr k)
  refine wpAny_comprehension_free (use := use) rfl hs (closure_ok hfree) ok.kind (fun y hy e => by rw [ok.uniq y hy, e])
    (thn (hi.run pins s σ H _ I h) fun xv s1 hx => thn hx fun itv s2 h2 => ?_)
  obtain ⟨it, fp, tn, J, H2, e, I2, T, st2, f2, q⟩ := h2
  subst e
  refine wpAny_newObj_type (newEnv_comp ?_)
  generalize hD : s2.heap.objs.size = D
  have hDn : H2 D = none := I2.hok.fresh (Nat.le_of_eq hD)
  obtain ⟨W, ⟨m0, w0⟩, turn⟩ := q D hDn
  -- the new list
  generalize hs3 : ({ s2 with heap := s2.heap.push { cls := .type "dict", data := .dict #[] } } : Shared) = s3
  have I3 : Inv X pins σ (upd H2 D o0) s3 := by
    rw [← hs3]
    refine I2.laid (t' := s2.toks) (fun b o e => Heap.get?_push_of_some _ e) (Nat.le_of_eq hD) ?_
    rw [← hD]
    exact dnew_ok n0 s2.heap I2.big
  have h3 : s3.heap = s2.heap.push { cls := .type "dict", data := .dict #[] } := by rw [← hs3]
  have sz : ∀ b ∈ fp, b < s2.heap.objs.size := fun b hb => by
    obtain ⟨o, e, _⟩ := T.obj _ _ st2 b hb
    exact Heap.lt_size e
  have f3 : ∀ b ∈ fp, FpOk X pins (upd H2 D o0) b ∧ b < s3.heap.objs.size := fun b hb => by
    have hlt := sz b hb
    refine ⟨⟨?_, (f2 b hb).2⟩, by rw [h3, Heap.size_push]; exact Nat.lt_succ_of_lt hlt⟩
    rw [upd_ne (by rw [← hD]; exact Nat.ne_of_lt hlt)]
    exact (f2 b hb).1
  have st3 : tn 0 s3.heap := T.keep _ _ _ st2 fun b _ o e => by rw [h3]; exact Heap.get?_push_of_some _ e
  have I4 := block_start I3 ok hN f3
  have pg := hg s3 (upd H2 D o0) s3.heap.objs.size (cellsFrom (s3.heap.objs.size + 1) scope.names (cloFrom X.env.cells scope.names [])) fp
  have pt := ht s3 (upd H2 D o0) s3.heap.objs.size (cellsFrom (s3.heap.objs.size + 1) scope.names (cloFrom X.env.cells scope.names [])) fp
  have pk := hk s3 (upd H2 D o0) s3.heap.objs.size (cellsFrom (s3.heap.objs.size + 1) scope.names (cloFrom X.env.cells scope.names [])) fp
  have pe := he s3 (upd H2 D o0) s3.heap.objs.size (cellsFrom (s3.heap.objs.size + 1) scope.names (cloFrom X.env.cells scope.names [])) fp
  have pi1 := hi1 s3 (upd H2 D o0) s3.heap.objs.size (cellsFrom (s3.heap.objs.size + 1) scope.names (cloFrom X.env.cells scope.names [])) fp
  have pg1 := hg1 s3 (upd H2 D o0) s3.heap.objs.size (cellsFrom (s3.heap.objs.size + 1) scope.names (cloFrom X.env.cells scope.names [])) fp
  have pt1 := ht1 s3 (upd H2 D o0) s3.heap.objs.size (cellsFrom (s3.heap.objs.size + 1) scope.names (cloFrom X.env.cells scope.names [])) fp
  show codeAny _ _ (.compStart (.DictComp kx vx [⟨tg, iter, ifs, 0⟩, ⟨tg1, iter1, ifs1, 0⟩] scope pos) 0 (.ref it) (.ref D) (compEnvC scope (cellsFrom (s3.heap.objs.size + 1) scope.names (cloFrom X.env.cells scope.names [])) s3.heap.objs.size X.env)) (compPost (model X.prog X.w) X.A X.xe use Qf (.ref D) s3.heap.objs.size) { s3 with heap := pushCells (s3.heap.push { cls := .type "dict", data := .dict #[] }) scope.names }
  have nfp : ∀ b ∈ fp, (upd H2 D o0) b = none := fun b hb => (f3 b hb).1.1
  generalize hce : compEnvC scope (cellsFrom (s3.heap.objs.size + 1) scope.names (cloFrom X.env.cells scope.names [])) s3.heap.objs.size X.env = ce at I4 pg pt pk pe pi1 pg1 pt1 ⊢
  have cL : ce.locals = s3.heap.objs.size := by subst hce; rfl
  generalize hH3 : upd H2 D o0 = H3 at I3 I4 pg pt pk pe pi1 pg1 pt1 w0 nfp f3
  generalize hs4 : ({ s3 with heap := pushCells (s3.heap.push { cls := .type "dict", data := .dict #[] }) scope.names } : Shared) = s4 at I4 ⊢
  have st4 : tn 0 s4.heap := T.keep _ _ _ st3 fun b _ o e => by rw [← hs4]; exact pushCells_keeps _ _ _ _ (Heap.get?_push_of_some _ e)
  have stat : ∀ {σ' : L2.St} {H' : Hp} {s' : Shared}, Inv (X.blk s3 H3 scope ce fp) [] σ' H' s' → (∀ b ∈ fp, H' b = none) → ∀ b ∈ fp, FpOk (X.blk s3 H3 scope ce fp) [] H' b := fun {σ' H' s'} I' hn b hb =>
    ⟨hn b hb, (I'.ok.exf b hb).1, I'.ok.exfs b hb, .inl hb, fun x c e => (I'.ok.exf b hb).2 x c e, fun p hp => absurd (show p ∈ ([] : List (Addr × Obj)) ++ [] from hp) (by simp)⟩
  have loop : codeAny (model X.prog X.w) X.A (.compLoop (.DictComp kx vx [⟨tg, iter, ifs, 0⟩, ⟨tg1, iter1, ifs1, 0⟩] scope pos) 0 (.ref it) (.ref D) ce) (compPost (model X.prog X.w) X.A X.xe use Qf (.ref D) s3.heap.objs.size) s4 := by
    refine dcLoop_out (hs1 ce) (fun n s' => ∃ i H', Inv (X.blk s3 H3 scope ce fp) [] (wipe σ (own.map (·.2))) H' s' ∧ tn i s'.heap ∧ (∀ b ∈ fp, H' b = none) ∧ W i n H') ?_ m0 ⟨0, H3, I4, st4, nfp, w0⟩
    rintro n s5 ⟨i, H5, I5, st5, n5, w5⟩
    rcases turn i n H5 w5 with ⟨stop, qq⟩ | ⟨go, Nx, hNx, step⟩
    · have td := T.done (X.blk s3 H3 scope ce fp) rfl rfl rfl hc i [] s5 _ H5 (fun _ _ => False) I5 (stat I5 n5) st5 stop
      refine thnF td fun r s6 ⟨hr, I6⟩ => ?_
      subst hr
      -- back in the def's context
      have I7 : Inv X pins σ H5 s6 := I3.call' (ch := fp) I6.os I6.base I6.hok I6.bare fun b hb => ⟨(f3 b hb).1.2.2.2.1, (f3 b hb).1.2.1, (f3 b hb).1.2.2.2.2.1, (f3 b hb).1.2.2.2.2.2⟩
      have nC : H5 s3.heap.objs.size = none := by
        have z : H5 ce.locals = none := I6.free
        rw [cL] at z
        exact z
      obtain ⟨m, hn, _⟩ := I6.loc
      have hn : s6.heap.Ns ce.locals m := hn
      rw [cL] at hn
      exact hRR D s3.heap.objs.size s6 m H5 I7 qq hn (I3.fpOk (Nat.le_refl _) nC)
    · have ti := T.item (X.blk s3 H3 scope ce fp) rfl rfl rfl hc i [] s5 _ H5 (fun _ _ => False) I5 (stat I5 n5) st5 go
      refine thnF ti fun r s6 ⟨u, hr, h6⟩ => ?_
      subst hr
      refine thnF h6 fun _ s7 ⟨x, H7, I7, r7, y7, st7, n7⟩ => ?_
      have I7' := I7.pinned (stat I7 n7) (T.obj _ _ st7)
      refine thnF (pg.run _ s7 _ H7 x u _ I7' r7 (step x H7 y7)) fun _ s8 ⟨σ8, H8, I8, hw8, q8⟩ => ?_
      refine thnF (pt.run _ s8 σ8 H8 _ I8 q8) fun b s9 ⟨H9, I9, q9⟩ => ?_
      -- the turn's end, from any slots that know what the block knew at its start
      have fin : ∀ {σ9 : L2.St} {s' : Shared} {H' : Hp}, Inv (X.blk s3 H3 scope ce fp) ([] ++ pinsAt fp s7.heap) σ9 H' s' → (wipe σ (own.map (·.2))).length = σ9.length → (∀ (j : Nat) v, (wipe σ (own.map (·.2)))[j]? = some (some v) → σ9[j]? = some (some v)) → Nx H' →
          ∃ m, m < n ∧ ∃ i H', Inv (X.blk s3 H3 scope ce fp) [] (wipe σ (own.map (·.2))) H' s' ∧ tn i s'.heap ∧ (∀ b ∈ fp, H' b = none) ∧ W i m H' := fun {σ9 s' H'} I' hl hk nx => by
        obtain ⟨m', hm, w'⟩ := hNx H' nx
        have pin' : ∀ b ∈ fp, ∀ o, s7.heap.get? b = some o → s'.heap.get? b = some o ∧ H' b = none := fun b hb o e =>
          let z := I'.pin (b, o) (List.mem_append_right _ (List.mem_append_right _ (mem_pinsAt hb e)))
          ⟨z.1, z.2.1⟩
        refine ⟨m', hm, i + 1, H', (I'.unpinned (pins := [])).weak hl hk, T.keep _ _ _ st7 fun b hb o e => (pin' b hb o e).1, fun b hb => ?_, w'⟩
        obtain ⟨o, e, _⟩ := T.obj _ _ st7 b hb
        exact (pin' b hb o e).2
      have hl8 : (wipe σ (own.map (·.2))).length = σ8.length := by rw [← hw8, wipe_length]
      have hk8 : ∀ (j : Nat) v, (wipe σ (own.map (·.2)))[j]? = some (some v) → σ8[j]? = some (some v) := fun j v e => by
        rw [← hw8] at e
        exact (wipe_some e).1
      have hk9 : ∀ (j : Nat) v, (wipe σ (own.map (·.2)))[j]? = some (some v) → (wipe σ8 vs1)[j]? = some (some v) := fun j v e => by
        rw [← hw8] at e
        obtain ⟨e1, e2⟩ := wipe_some e
        rw [wipe_out fun z => e2 (hv j z)]
        exact e1
      cases b with
      | false =>
        simp only [Bool.false_eq_true, if_false] at q9 ⊢
        exact fin I9 hl8 hk8 q9
      | true =>
        simp only [if_true] at q9 ⊢
        refine thnF (pi1.run _ s9 σ8 H9 _ I9 q9) fun xv s10 hx => thnF hx fun itv s11 h11 => ?_
        obtain ⟨it1, fp1, tn1, J1, H11, e1, I11, T1, st11, f11, W1, ⟨m1, w1⟩, turn1⟩ := h11
        subst e1
        -- the inner loop
        have stat1 : ∀ {H' : Hp}, (∀ b ∈ fp1, H' b = none) → ∀ b ∈ fp1, FpOk (X.blk s3 H3 scope ce fp) ([] ++ pinsAt fp s7.heap) H' b := fun hn b hb => ⟨hn b hb, (f11 b hb).2⟩
        have loop1 : codeAny (model X.prog X.w) X.A (.compLoop (.DictComp kx vx [⟨tg, iter, ifs, 0⟩, ⟨tg1, iter1, ifs1, 0⟩] scope pos) 1 (.ref it1) (.ref D) ce)
            (fun r s' => match r with
              | .ok _ => ∃ m, m < n ∧ ∃ i H', Inv (X.blk s3 H3 scope ce fp) [] (wipe σ (own.map (·.2))) H' s' ∧ tn i s'.heap ∧ (∀ b ∈ fp, H' b = none) ∧ W i m H'
              | .error _ => False) s11 := by
          refine dcLoop_in (fun k s' => ∃ j H', Inv (X.blk s3 H3 scope ce fp) ([] ++ pinsAt fp s7.heap) (wipe σ8 vs1) H' s' ∧ tn1 j s'.heap ∧ (∀ b ∈ fp1, H' b = none) ∧ W1 j k H') ?_ m1 ⟨0, H11, I11.weak (wipe_length _ _) (fun j v e => (wipe_some e).1), st11, fun b hb => (f11 b hb).1, w1⟩
          rintro k s12 ⟨j, H12, I12, st12, n12, w12⟩
          rcases turn1 j k H12 w12 with ⟨stop1, nx1⟩ | ⟨go1, Nx1, hNx1, step1⟩
          · refine thnF (T1.done (X.blk s3 H3 scope ce fp) rfl rfl rfl hc j _ s12 (wipe σ8 vs1) H12 (fun _ _ => False) I12 (stat1 n12) st12 stop1) fun r s13 ⟨hr, I13⟩ => ?_
            subst hr
            exact fin I13 (hl8.trans (wipe_length σ8 vs1).symm) hk9 nx1
          · refine thnF (T1.item (X.blk s3 H3 scope ce fp) rfl rfl rfl hc j _ s12 (wipe σ8 vs1) H12 (fun _ _ => False) I12 (stat1 n12) st12 go1) fun r s13 ⟨u1, hr, h13⟩ => ?_
            subst hr
            refine thnF h13 fun _ s14 ⟨x1, H14, I14, r14, y14, st14, n14⟩ => ?_
            have I14' := I14.pinned (stat1 n14) (T1.obj _ _ st14)
            refine thnF (pg1.run _ s14 (wipe σ8 vs1) H14 x1 u1 _ I14' r14 (step1 x1 H14 y14)) fun _ s15 ⟨σ15, H15, I15, hw15, q15⟩ => ?_
            refine thnF (pt1.run _ s15 σ15 H15 _ I15 q15) fun b1 s16 ⟨H16, I16, q16⟩ => ?_
            have fin1 : ∀ {s' : Shared} {H' : Hp}, Inv (X.blk s3 H3 scope ce fp) (([] ++ pinsAt fp s7.heap) ++ pinsAt fp1 s14.heap) σ15 H' s' → Nx1 H' → ∃ m, m < k ∧ ∃ j H', Inv (X.blk s3 H3 scope ce fp) ([] ++ pinsAt fp s7.heap) (wipe σ8 vs1) H' s' ∧ tn1 j s'.heap ∧ (∀ b ∈ fp1, H' b = none) ∧ W1 j m H' := fun {s' H'} I' nx => by
              obtain ⟨m', hm, w'⟩ := hNx1 H' nx
              have pin' : ∀ b ∈ fp1, ∀ o, s14.heap.get? b = some o → s'.heap.get? b = some o ∧ H' b = none := fun b hb o e =>
                let z := I'.pin (b, o) (List.mem_append_right _ (List.mem_append_right _ (mem_pinsAt hb e)))
                ⟨z.1, z.2.1⟩
              refine ⟨m', hm, j + 1, H', I'.unpinned.weak (by rw [← hw15, wipe_length]) (fun j v e => by rw [← hw15] at e; exact (wipe_some e).1), T1.keep _ _ _ st14 fun b hb o e => (pin' b hb o e).1, fun b hb => ?_, w'⟩
              obtain ⟨o, e, _⟩ := T1.obj _ _ st14 b hb
              exact (pin' b hb o e).2
            cases b1 with
            | false =>
              simp only [Bool.false_eq_true, if_false] at q16 ⊢
              exact fin1 I16 q16
            | true =>
              simp only [if_true] at q16 ⊢
              refine thnF (pk.run _ s16 σ15 H16 _ I16 q16) fun z s17 ⟨yk, H17, I17, r17, q17⟩ => ?_
              refine thnF (pe.run _ s17 σ15 H17 _ I17 q17) fun z2 s18 ⟨yv, H18, I18, r18, H19, dp, nx⟩ => ?_
              exact gd_set (X := X.blk s3 H3 scope ce fp) hu I18 dp r17 r18 fun s19 I19 => fin1 I19 nx
        exact dcStart1_ok loop1 (T1.self X.A 0 _ _ _ st11 loop1)
  exact codeAny_compStart_dict loop (T.self X.A 0 _ _ _ st4 loop)
/-- as a value -/
theorem pe_dg2 {kx vx tg iter tg1 iter1 : Expr} {ifs ifs1 : List Expr} {scope : Scope} {own : List (Str × Nat)} {vs1 : List Nat} {pos : Pos} {wi wi1 : TI} {g g1 : TG} {tt tt1 : TT} {tk tv : TE} (o0 : HO) (n0 : DNew o0) (hu : X.A.units + 1 < cLine) (hc : X.calm = true) (hN : X.N.Nodup) (hi : PI X tg iter wi) (ok : BlkOk X.N X.env.scope scope own) (hv : ∀ i ∈ vs1, i ∈ own.map (·.2))
    (hg : ∀ (s : Shared) (H : Hp) (C : Addr) (cl : List (Str × Addr)) (fp : List Addr), PG (X.blk s H scope (compEnvC scope cl C X.env) fp) tg g) (ht : ∀ (s : Shared) (H : Hp) (C : Addr) (cl : List (Str × Addr)) (fp : List Addr), PTs (X.blk s H scope (compEnvC scope cl C X.env) fp) ifs tt)
    (hi1 : ∀ (s : Shared) (H : Hp) (C : Addr) (cl : List (Str × Addr)) (fp : List Addr), PI (X.blk s H scope (compEnvC scope cl C X.env) fp) tg1 iter1 wi1)
    (hg1 : ∀ (s : Shared) (H : Hp) (C : Addr) (cl : List (Str × Addr)) (fp : List Addr), PG (X.blk s H scope (compEnvC scope cl C X.env) fp) tg1 g1) (ht1 : ∀ (s : Shared) (H : Hp) (C : Addr) (cl : List (Str × Addr)) (fp : List Addr), PTs (X.blk s H scope (compEnvC scope cl C X.env) fp) ifs1 tt1)
    (hk : ∀ (s : Shared) (H : Hp) (C : Addr) (cl : List (Str × Addr)) (fp : List Addr), PE (X.blk s H scope (compEnvC scope cl C X.env) fp) kx tk)
    (he : ∀ (s : Shared) (H : Hp) (C : Addr) (cl : List (Str × Addr)) (fp : List Addr), PE (X.blk s H scope (compEnvC scope cl C X.env) fp) vx tv) (hs : ∀ x, foldedSetIterable iter X.env x = pure x := by intro _; rfl) (hs1 : ∀ env x, foldedSetIterable iter1 env x = pure x := by intro _ _; rfl) :
    PE X (.DictComp kx vx [⟨tg, iter, ifs, 0⟩, ⟨tg1, iter1, ifs1, 0⟩] scope pos) (tDg2 o0 wi g tt wi1 g1 tt1 tk tv (own.map (·.2)) vs1) := by
  refine ⟨fun pins s σ H Q I h => ?_⟩
  rw [arm_eval_DictComp]
  refine dg2_core hu n0 hc hN I hi ok hv hg ht hk he hs hi1 hg1 ht1 hs1 h fun D C s' m H' I' q hn f => ⟨m, hn, fun h'' sb => ?_⟩
  obtain ⟨f0, f1, f2, f3, f4, f5⟩ := f
  exact ⟨.ref D, H', I'.turned (t' := s'.toks) (fun b o hb e => (sb.2 b hb).trans e) f0 f1 f3 f4 f5, rfl, q⟩
end
end Gs
/-! ## GsSc -/
/-! Set comprehensions of ints and texts, the length of such a set. -/
namespace Gs
open PySem PySem.Spec PyProof.Rows L2
theorem setK_fresh {P : Program} {w : World} (h : Heap) : (h.push { cls := .type "set", dict := none, data := .set #[] 0 (.fresh 0 0 (!w.params.followText "set-order")) }).SetOf (mixKind P w) h.objs.size (fun _ => false) 0 :=
  ⟨_, #[], 0, _, Heap.get?_push_size _ rfl, ⟨rfl, rfl, rfl⟩, rfl, (fun e he => by simp at he), (fun k => by simp), (by decide), (by rfl), rfl⟩
theorem addK_ok {X : Cx} {pins : List (Addr × Obj)} {σ : L2.St} {H : Hp} {s : Shared} {E : Value → Shared → Prop} {D : Addr} {k : Key} {S : Key → Bool} {n : Nat} {u : Value} {Q : Value → Shared → Prop} (I : Inv X pins σ H s) (hD : H D = some (SetK X.prog X.w D S n)) (room : n + 1 < scanBound) (ry : RelV (kV k) u)
    (h : ∀ s', Inv X pins σ (upd H D (SetK X.prog X.w D (fun j => S j || decide (j = k)) (if S k = true then n else n + 1))) s' → Q .none s') : wpAny (model X.prog X.w) X.A (call (.builtin "set.add") [.ref D, u]) Q E s := by
  refine call_set_add (kV_is ry) (key_scan ry) (setK_get I hD) room fun h' sb new => ?_
  have he : ∃ u, h'.get? D = some u := by
    have ⟨o, _, _, _, ho, _⟩ := new
    exact ⟨o, ho⟩
  exact h _ (I.write (e := D) (t' := s.toks + 1) (by rw [hD]; trivial) (.inl rfl) (fun b u hb hu => (sb.2 b hb).trans hu) he (setK_new new))
/-- {e for .. in .. if ..} -/
def tSg (P : Program) (w : World) (wi : TI) (g : TG) (tt : TT) (te : TE) (vs : List Nat) : TE := fun σ H Q => wi σ H fun J H1 => ∀ D, H1 D = none → ∃ W : Nat → Nat → Hp → Prop, (∃ m, W 0 m (upd H1 D (SetK P w D (fun _ => false) 0))) ∧ ∀ i m H, W i m H →
  (J.stop i H ∧ Q (.ref D) H) ∨ (J.go i H ∧ ∃ Nx : Hp → Prop, (∀ H', Nx H' → ∃ m', m' < m ∧ W (i + 1) m' H') ∧ ∀ x H', J.yld i H x H' → g x (wipe σ vs) H' fun σ2 H2 => wipe σ2 vs = wipe σ vs ∧ tt σ2 H2 fun b H3 =>
    if b = true then te σ2 H3 fun y H4 => ∃ (k : Key) (S : Key → Bool) (n : Nat), y = kV k ∧ H4 D = some (SetK P w D S n) ∧ n + 1 < scanBound ∧ Nx (upd H4 D (SetK P w D (fun j => S j || decide (j = k)) (if S k = true then n else n + 1))) else Nx H3)
section
variable {X : Cx}
theorem sg_core {pins : List (Addr × Obj)} {s : Shared} {σ : L2.St} {H : Hp} {Q : VK} {elt tg iter : Expr} {ifs : List Expr} {scope : Scope} {own : List (Str × Nat)} {pos pos' : Pos} {wi : TI} {g : TG} {tt : TT} {te : TE} {use : Option (Value → Sem Unit)} {Qf : Value → Shared → Prop}
    (hc : X.calm = true) (hN : X.N.Nodup) (I : Inv X pins σ H s) (hi : PI X tg iter wi) (ok : BlkOk X.N X.env.scope scope own)
    (hg : ∀ (s : Shared) (H : Hp) (C : Addr) (cl : List (Str × Addr)) (fp : List Addr), PG (X.blk s H scope (compEnvC scope cl C X.env) fp) tg g)
    (ht : ∀ (s : Shared) (H : Hp) (C : Addr) (cl : List (Str × Addr)) (fp : List Addr), PTs (X.blk s H scope (compEnvC scope cl C X.env) fp) ifs tt)
    (he : ∀ (s : Shared) (H : Hp) (C : Addr) (cl : List (Str × Addr)) (fp : List Addr), PE (X.blk s H scope (compEnvC scope cl C X.env) fp) elt te) (hs : ∀ x, foldedSetIterable iter X.env x = pure x)
    (h : tSg X.prog X.w wi g tt te (own.map (·.2)) σ H Q)
    (hRR : ∀ D C s' m H', Inv X pins σ H' s' → Q (.ref D) H' → s'.heap.Ns C m → FpOk X pins H' C → compPost (model X.prog X.w) X.A X.xe use Qf (.ref D) C (.ok .next) s') :
    wpAny (model X.prog X.w) X.A (comprehension (.SetComp elt [⟨tg, iter, ifs, 0⟩] scope pos) scope X.env pos' (newSet (.type "set")) false (eval iter X.env) use) Qf X.xe s := by
  have hfree : ∀ y ∈ scope.names, y.2 = .free → ∃ c, X.env.cells.lookup y.1 = some c := fun y hy e => by
    rcases ok.free y hy e with k | k
    · exact I.ok.has _ (.inl k)
    · exact I.ok.has _ (.inr k)
  refine wpAny_comprehension_free (use := use) rfl hs (closure_ok hfree) ok.kind (fun y hy e => by rw [ok.uniq y hy, e])
    (thn (hi.run pins s σ H _ I h) fun xv s1 hx => thn hx fun itv s2 h2 => ?_)
  obtain ⟨it, fp, tn, J, H2, e, I2, T, st2, f2, q⟩ := h2
  subst e
  refine PpSet.newSet_ok (newEnv_comp ?_)
  generalize hD : s2.heap.objs.size = D
  have hDn : H2 D = none := I2.hok.fresh (Nat.le_of_eq hD)
  obtain ⟨W, ⟨m0, w0⟩, turn⟩ := q D hDn
  generalize hs3 : ({ s2 with heap := s2.heap.push { cls := .type "set", dict := none, data := .set #[] 0 (.fresh 0 0 (!X.w.params.followText "set-order")) } } : Shared) = s3
  have I3 : Inv X pins σ (upd H2 D (SetK X.prog X.w D (fun _ => false) 0)) s3 := by
    rw [← hs3]
    refine I2.laid (t' := s2.toks) (fun b o e => Heap.get?_push_of_some _ e) (Nat.le_of_eq hD) ?_
    rw [← hD]
    exact setK_new (setK_fresh s2.heap)
  have h3 : s3.heap = s2.heap.push { cls := .type "set", dict := none, data := .set #[] 0 (.fresh 0 0 (!X.w.params.followText "set-order")) } := by rw [← hs3]
  have sz : ∀ b ∈ fp, b < s2.heap.objs.size := fun b hb => by
    obtain ⟨o, e, _⟩ := T.obj _ _ st2 b hb
    exact Heap.lt_size e
  have f3 : ∀ b ∈ fp, FpOk X pins (upd H2 D (SetK X.prog X.w D (fun _ => false) 0)) b ∧ b < s3.heap.objs.size := fun b hb => by
    have hlt := sz b hb
    refine ⟨⟨?_, (f2 b hb).2⟩, by rw [h3, Heap.size_push]; exact Nat.lt_succ_of_lt hlt⟩
    rw [upd_ne (by rw [← hD]; exact Nat.ne_of_lt hlt)]
    exact (f2 b hb).1
  have st3 : tn 0 s3.heap := T.keep _ _ _ st2 fun b _ o e => by rw [h3]; exact Heap.get?_push_of_some _ e
  have I4 := block_start I3 ok hN f3
  have pg := hg s3 (upd H2 D (SetK X.prog X.w D (fun _ => false) 0)) s3.heap.objs.size (cellsFrom (s3.heap.objs.size + 1) scope.names (cloFrom X.env.cells scope.names [])) fp
  have pt := ht s3 (upd H2 D (SetK X.prog X.w D (fun _ => false) 0)) s3.heap.objs.size (cellsFrom (s3.heap.objs.size + 1) scope.names (cloFrom X.env.cells scope.names [])) fp
  have pe := he s3 (upd H2 D (SetK X.prog X.w D (fun _ => false) 0)) s3.heap.objs.size (cellsFrom (s3.heap.objs.size + 1) scope.names (cloFrom X.env.cells scope.names [])) fp
  show codeAny _ _ (.compStart (.SetComp elt [⟨tg, iter, ifs, 0⟩] scope pos) 0 (.ref it) (.ref D) (compEnvC scope (cellsFrom (s3.heap.objs.size + 1) scope.names (cloFrom X.env.cells scope.names [])) s3.heap.objs.size X.env)) (compPost (model X.prog X.w) X.A X.xe use Qf (.ref D) s3.heap.objs.size) { s3 with heap := pushCells (s3.heap.push { cls := .type "dict", data := .dict #[] }) scope.names }
  have nfp : ∀ b ∈ fp, (upd H2 D (SetK X.prog X.w D (fun _ => false) 0)) b = none := fun b hb => (f3 b hb).1.1
  generalize hce : compEnvC scope (cellsFrom (s3.heap.objs.size + 1) scope.names (cloFrom X.env.cells scope.names [])) s3.heap.objs.size X.env = ce at I4 pg pt pe ⊢
  have cL : ce.locals = s3.heap.objs.size := by subst hce; rfl
  generalize hH3 : upd H2 D (SetK X.prog X.w D (fun _ => false) 0) = H3 at I3 I4 pg pt pe w0 nfp f3
  generalize hs4 : ({ s3 with heap := pushCells (s3.heap.push { cls := .type "dict", data := .dict #[] }) scope.names } : Shared) = s4 at I4 ⊢
  have st4 : tn 0 s4.heap := T.keep _ _ _ st3 fun b _ o e => by rw [← hs4]; exact pushCells_keeps _ _ _ _ (Heap.get?_push_of_some _ e)
  have stat : ∀ {σ' : L2.St} {H' : Hp} {s' : Shared}, Inv (X.blk s3 H3 scope ce fp) [] σ' H' s' → (∀ b ∈ fp, H' b = none) → ∀ b ∈ fp, FpOk (X.blk s3 H3 scope ce fp) [] H' b := fun {σ' H' s'} I' hn b hb =>
    ⟨hn b hb, (I'.ok.exf b hb).1, I'.ok.exfs b hb, .inl hb, fun x c e => (I'.ok.exf b hb).2 x c e, fun p hp => absurd (show p ∈ ([] : List (Addr × Obj)) ++ [] from hp) (by simp)⟩
  have loop : codeAny (model X.prog X.w) X.A (.compLoop (.SetComp elt [⟨tg, iter, ifs, 0⟩] scope pos) 0 (.ref it) (.ref D) ce) (compPost (model X.prog X.w) X.A X.xe use Qf (.ref D) s3.heap.objs.size) s4 := by
    refine PpSet.compLoopS_any (fun n s' => ∃ i H', Inv (X.blk s3 H3 scope ce fp) [] (wipe σ (own.map (·.2))) H' s' ∧ tn i s'.heap ∧ (∀ b ∈ fp, H' b = none) ∧ W i n H') ?_ m0 ⟨0, H3, I4, st4, nfp, w0⟩
    rintro n s5 ⟨i, H5, I5, st5, n5, w5⟩
    rcases turn i n H5 w5 with ⟨stop, qq⟩ | ⟨go, Nx, hNx, step⟩
    · have td := T.done (X.blk s3 H3 scope ce fp) rfl rfl rfl hc i [] s5 _ H5 (fun _ _ => False) I5 (stat I5 n5) st5 stop
      refine thnF td fun r s6 ⟨hr, I6⟩ => ?_
      subst hr
      have I7 : Inv X pins σ H5 s6 := I3.call' (ch := fp) I6.os I6.base I6.hok I6.bare fun b hb => ⟨(f3 b hb).1.2.2.2.1, (f3 b hb).1.2.1, (f3 b hb).1.2.2.2.2.1, (f3 b hb).1.2.2.2.2.2⟩
      have nC : H5 s3.heap.objs.size = none := by
        have z : H5 ce.locals = none := I6.free
        rw [cL] at z
        exact z
      obtain ⟨m, hn, _⟩ := I6.loc
      have hn : s6.heap.Ns ce.locals m := hn
      rw [cL] at hn
      exact hRR D s3.heap.objs.size s6 m H5 I7 qq hn (I3.fpOk (Nat.le_refl _) nC)
    · have ti := T.item (X.blk s3 H3 scope ce fp) rfl rfl rfl hc i [] s5 _ H5 (fun _ _ => False) I5 (stat I5 n5) st5 go
      refine thnF ti fun r s6 ⟨u, hr, h6⟩ => ?_
      subst hr
      refine thnF h6 fun _ s7 ⟨x, H7, I7, r7, y7, st7, n7⟩ => ?_
      have I7' := I7.pinned (stat I7 n7) (T.obj _ _ st7)
      refine thnF (pg.run _ s7 _ H7 x u _ I7' r7 (step x H7 y7)) fun _ s8 ⟨σ8, H8, I8, hw8, q8⟩ => ?_
      refine thnF (pt.run _ s8 σ8 H8 _ I8 q8) fun b s9 ⟨H9, I9, q9⟩ => ?_
      have fin : ∀ {s' : Shared} {H' : Hp}, Inv (X.blk s3 H3 scope ce fp) ([] ++ pinsAt fp s7.heap) σ8 H' s' → Nx H' → ∃ m, m < n ∧ ∃ i H', Inv (X.blk s3 H3 scope ce fp) [] (wipe σ (own.map (·.2))) H' s' ∧ tn i s'.heap ∧ (∀ b ∈ fp, H' b = none) ∧ W i m H' := fun {s' H'} I' nx => by
        obtain ⟨m', hm, w'⟩ := hNx H' nx
        have pin' : ∀ b ∈ fp, ∀ o, s7.heap.get? b = some o → s'.heap.get? b = some o ∧ H' b = none := fun b hb o e =>
          let z := I'.pin (b, o) (List.mem_append_right _ (List.mem_append_right _ (mem_pinsAt hb e)))
          ⟨z.1, z.2.1⟩
        have hl : (wipe σ (own.map (·.2))).length = σ8.length := by rw [← hw8, wipe_length]
        refine ⟨m', hm, i + 1, H', (I'.unpinned (pins := [])).weak hl (fun j v e => ?_), T.keep _ _ _ st7 fun b hb o e => (pin' b hb o e).1, fun b hb => ?_, w'⟩
        · rw [← hw8] at e
          exact (wipe_some e).1
        · obtain ⟨o, e, _⟩ := T.obj _ _ st7 b hb
          exact (pin' b hb o e).2
      cases b with
      | false =>
        simp only [Bool.false_eq_true, if_false] at q9 ⊢
        exact fin I9 q9
      | true =>
        simp only [if_true] at q9 ⊢
        refine thnF (pe.run _ s9 σ8 H9 _ I9 q9) fun z s10 ⟨yv, H10, I10, r10, k0, S0, n0, ey, hD10, hz10, nx⟩ => ?_
        subst ey
        exact addK_ok (X := X.blk s3 H3 scope ce fp) I10 hD10 hz10 r10 fun s11 I11 => fin I11 nx
  exact PpSet.codeAny_compStart_set loop (T.self X.A 0 _ _ _ st4 loop)
/-- as a value -/
theorem pe_sg {elt tg iter : Expr} {ifs : List Expr} {scope : Scope} {own : List (Str × Nat)} {pos : Pos} {wi : TI} {g : TG} {tt : TT} {te : TE} (hc : X.calm = true) (hN : X.N.Nodup) (hi : PI X tg iter wi) (ok : BlkOk X.N X.env.scope scope own)
    (hg : ∀ (s : Shared) (H : Hp) (C : Addr) (cl : List (Str × Addr)) (fp : List Addr), PG (X.blk s H scope (compEnvC scope cl C X.env) fp) tg g)
    (ht : ∀ (s : Shared) (H : Hp) (C : Addr) (cl : List (Str × Addr)) (fp : List Addr), PTs (X.blk s H scope (compEnvC scope cl C X.env) fp) ifs tt)
    (he : ∀ (s : Shared) (H : Hp) (C : Addr) (cl : List (Str × Addr)) (fp : List Addr), PE (X.blk s H scope (compEnvC scope cl C X.env) fp) elt te) (hs : ∀ x, foldedSetIterable iter X.env x = pure x := by intro _; rfl) :
    PE X (.SetComp elt [⟨tg, iter, ifs, 0⟩] scope pos) (tSg X.prog X.w wi g tt te (own.map (·.2))) := by
  refine ⟨fun pins s σ H Q I h => ?_⟩
  rw [arm_eval_SetComp]
  refine sg_core hc hN I hi ok hg ht he hs h fun D C s' m H' I' q hn f => ⟨m, hn, fun h'' sb => ?_⟩
  obtain ⟨f0, f1, f2, f3, f4, f5⟩ := f
  exact ⟨.ref D, H', I'.turned (t' := s'.toks) (fun b o hb e => (sb.2 b hb).trans e) f0 f1 f3 f4 f5, rfl, q⟩
theorem sg_it {P : Program} {w : World} {J : It} {n : Nat} {G : Hp → Prop} {Y : Nat → Hp → V → Hp → Prop} (wk : Walk J n G Y) {g : TG} {tt : TT} {te : TE} {vs : List Nat} {σ : L2.St} {H1 : Hp} {D : Addr} {Qd : Hp → Prop} (Pv : Nat → Hp → Prop) (h0 : Pv 0 (upd H1 D (SetK P w D (fun _ => false) 0))) (hG : ∀ i H, i ≤ n → Pv i H → G H)
    (hs : ∀ i x H H', i < n → Pv i H → Y i H x H' → g x (wipe σ vs) H' fun σ2 H2 => wipe σ2 vs = wipe σ vs ∧ tt σ2 H2 fun b H3 =>
      if b = true then te σ2 H3 fun y H4 => ∃ (k : Key) (S : Key → Bool) (m : Nat), y = kV k ∧ H4 D = some (SetK P w D S m) ∧ m + 1 < scanBound ∧ Pv (i + 1) (upd H4 D (SetK P w D (fun j => S j || decide (j = k)) (if S k = true then m else m + 1))) else Pv (i + 1) H3) (hd : ∀ H, Pv n H → Qd H) :
    ∃ W : Nat → Nat → Hp → Prop, (∃ m, W 0 m (upd H1 D (SetK P w D (fun _ => false) 0))) ∧ ∀ i m H, W i m H →
      (J.stop i H ∧ Qd H) ∨ (J.go i H ∧ ∃ Nx : Hp → Prop, (∀ H', Nx H' → ∃ m', m' < m ∧ W (i + 1) m' H') ∧ ∀ x H', J.yld i H x H' → g x (wipe σ vs) H' fun σ2 H2 => wipe σ2 vs = wipe σ vs ∧ tt σ2 H2 fun b H3 =>
        if b = true then te σ2 H3 fun y H4 => ∃ (k : Key) (S : Key → Bool) (n : Nat), y = kV k ∧ H4 D = some (SetK P w D S n) ∧ n + 1 < scanBound ∧ Nx (upd H4 D (SetK P w D (fun j => S j || decide (j = k)) (if S k = true then n else n + 1))) else Nx H3) := by
  refine ⟨fun i m H => m = n - i ∧ i ≤ n ∧ Pv i H, ⟨n, by simp, Nat.zero_le _, h0⟩, ?_⟩
  rintro i m H ⟨rfl, hi, p⟩
  have q := hG i H hi p
  by_cases hlt : i < n
  · exact .inr ⟨wk.goes i H hlt q, Pv (i + 1), fun H' p' => ⟨n - (i + 1), by omega, rfl, hlt, p'⟩, fun x H' y => hs i x H H' hlt p (wk.yields i H x H' hlt q y)⟩
  · have e : i = n := by omega
    subst e
    exact .inl ⟨wk.stops H q, hd H p⟩
/-- len of such a set -/
theorem call_lenK : CallR X (.builtin "len") (fun xs H Q => ∃ (a : Addr) (S : Key → Bool) (n : Nat), xs = [.ref a] ∧ H a = some (SetK X.prog X.w a S n) ∧ n < scanBound ∧ Q (.int n) H) := by
  intro pins s σ H xs us Q I r h
  obtain ⟨a, S, n, rfl, ha, hn, q⟩ := h
  obtain ⟨u, rfl, rx⟩ := vals1 r
  cases rx
  obtain ⟨o, es, ep, t, ho, hex, hd, hg, hm, hnd, hf, hz⟩ := setK_get I ha
  have hb : n < 16777216 := Nat.lt_of_lt_of_le hn (by decide)
  subst hz
  exact call_len_set ho hex hd hf (by omega) ⟨.int es.size, H, I.tok _, ⟨_, rfl⟩, q⟩
end
end Gs
/-! ## GsIt -/
/-! for k, v in d.items() of a locked dict whose keys are tuples. -/
namespace Gs
open PySem PySem.Spec PyProof.Rows L2
theorem frzT2 {X : Cx} {pins : List (Addr × Obj)} {σ : L2.St} {H : Hp} {s : Shared} {d : Addr} {o : Obj} {kvs : List (List Key × V)} (I : Inv X pins σ H s) (h : H d = some (.frz o (.dT kvs))) :
    (d == sysModules) = false ∧ s.heap.get? d = some o ∧ o.ExactDict ∧ ∃ (es : Array DictEntry) (ep : Nat), o.data = .dict es ep ∧ es.size = kvs.length ∧
      ∀ (i : Nat) (k : List Key) (v : V), kvs[i]? = some (k, v) → ∃ (en : DictEntry) (q : Addr), es[i]? = some en ∧ en.key = .ref q ∧ H q = some (.tup (k.map kV)) ∧ RelV v en.val := by
  obtain ⟨hd, z, hs, xs, pr, o', es, ep, ho, hx, hdt, he, _⟩ := I.hok d _ h
  rw [hd] at ho
  cases ho
  refine ⟨hs, hd, hx, es, ep, hdt, ?_, fun i k v e => ?_⟩
  · have l1 : es.size = xs.length := size_of_entries he
    have l2 : kvs.length = xs.length := Paired.length pr
    omega
  · obtain ⟨b, hb, e1, e2, e3⟩ := paired_get pr e
    have q := entry_at he i
    rw [hb] at q
    exact ⟨_, b.2.1, q, rfl, e2, e3⟩
/-- the entries of the locked dict at d: a new pair of the key's own tuple and the value -/
def ItiT (d : Addr) (o : Obj) (kvs : List (List Key × V)) : It :=
  ⟨fun i H => H d = some (.frz o (.dT kvs)) ∧ i < kvs.length, fun i H x H' => ∃ (T q : Addr) (k : List Key) (v : V), kvs[i]? = some (k, v) ∧ x = .ref T ∧ H T = none ∧ H q = some (.tup (k.map kV)) ∧ H' = upd H T (.tup [.ref q, v]),
    fun i H => H d = some (.frz o (.dT kvs)) ∧ kvs.length ≤ i⟩
theorem turn_itemsT {P : Program} {w : World} {K : PySem.W.Frag} {d : Addr} {o : Obj} {es : Array DictEntry} {ep : Nat} {kvs : List (List Key × V)} {elts : List Expr} {kk : Nat} {tpos : Pos} (it : Addr) (hod : o.data = .dict es ep) :
    Turn P w K (.Tuple elts kk tpos) (ItiT d o kvs) [it] it (fun i h => ∃ ok ov, IsItemIter h it d i kvs.length ep ok ov) where
  mem := by simp
  obj := fun i h st b hb => by
    have e : b = it := by simpa using hb
    subst e
    obtain ⟨ok, ov, e⟩ := st
    exact ⟨_, e, fun v z => nomatch z⟩
  keep := fun i h h' st k => let ⟨ok, ov, e⟩ := st; ⟨ok, ov, k it (by simp) _ e⟩
  item := by
    intro X hP hw hK hc i pins s σ H E I hf st hg
    subst hP hw hK
    obtain ⟨hd, hi⟩ := hg
    obtain ⟨hs, hgd, hx, es', ep', hdt, hsz, ent⟩ := frzT2 I hd
    obtain ⟨rfl, rfl⟩ := dict_ep hod hdt
    obtain ⟨⟨k, v⟩, hkv⟩ : ∃ p, kvs[i]? = some p := ⟨kvs[i], List.getElem?_eq_getElem hi⟩
    obtain ⟨en, q, hen, hkey, hq, hv⟩ := ent i k v hkv
    obtain ⟨ok, ov, he⟩ := st
    rw [← hsz] at he
    have hlt : it < s.heap.objs.size := Heap.lt_size he
    have hie : i < es'.size := by omega
    have een : es'[i] = en := by
      rw [Array.getElem?_eq_getElem hie] at hen
      exact Option.some.inj hen
    refine DT.nextI he ⟨o, hgd, hx, hdt⟩ hie fun h' ho hT hz hk => ?_
    rw [een, hkey] at ho hT
    refine ⟨_, rfl, wpAny_letOwnedTupleGo_items (s := { s with heap := h' }) ho fun h'' he' sb => ?_⟩
    have hT2 : h''.get? s.heap.objs.size = some { cls := .type "tuple", data := .seq #[.ref q, en.val] } := (sb.2 _ (Nat.ne_of_gt hlt)).trans hT
    have new : ObjOk X.prog X.w (upd H s.heap.objs.size (.tup [.ref q, v])) h'' s.heap.objs.size (.tup [.ref q, v]) :=
      ⟨by show 2 ≤ sizeLine; decide, [.ref q, en.val], .cons rfl (.cons hv .nil), ⟨_, hT2, rfl, _, rfl⟩⟩
    have I1 : Inv X pins σ (upd H s.heap.objs.size (.tup [.ref q, v])) { s with heap := h'' } :=
      I.turnedNew (t' := s.toks) (ch := [it]) (fun b ob hb e => (sb.2 b (by simpa using hb)).trans (hk b ob (by simpa using hb) e)) hf (Nat.le_refl _) new
    refine ⟨.ref s.heap.objs.size, _, I1, rfl, ⟨_, q, k, v, hkv, rfl, I.hok.fresh (Nat.le_refl _), hq, rfl⟩, ⟨.ref q, en.val, ?_⟩, fun b hb => ?_⟩
    · rw [← hsz]
      exact he'
    · have e : b = it := by simpa using hb
      rw [e, upd_ne (Nat.ne_of_lt hlt)]
      exact (hf it (by simp)).1
  done := by
    intro X hP hw hK hc i pins s σ H E I hf st hg
    subst hP hw hK
    obtain ⟨hd, hi⟩ := hg
    obtain ⟨f0, f1, f2, f3, f4, f5⟩ := hf it (by simp)
    obtain ⟨hs, hgd, hx, es', ep', hdt, hsz, ent⟩ := frzT2 I hd
    obtain ⟨rfl, rfl⟩ := dict_ep hod hdt
    obtain ⟨ok, ov, he⟩ := st
    rw [← hsz] at he
    exact DT.endI (I.ok.hd hc) he ⟨o, hgd, hx, hdt⟩ (by omega) fun h' eb => ⟨rfl, I.turned (t' := s.toks) (fun b ob hb e => eb b ob hb e) f0 f1 f3 f4 f5⟩
  self := fun A i s Q E st h => let ⟨_, _, e⟩ := st; PySem.W.kcp_self e h
def iItemsT (td : TE) : TI := fun σ H R => td σ H fun x H1 => ∃ d o kvs, x = .ref d ∧ H1 d = some (.frz o (.dT kvs)) ∧ R (ItiT d o kvs) H1
theorem pi_itemsT {X : Cx} {e : Expr} {td : TE} {apos cpos tpos : Pos} {elts : List Expr} {kk : Nat} (he : PE X e td) (hbase : attributeBase e "items" X.env (eval e X.env) = eval e X.env := by rfl) (hline : (apos.endLine == cpos.line) = true := by rfl) :
    PI X (.Tuple elts kk tpos) (.Call (.Attribute e "items" apos) [] [] cpos) (iItemsT td) := by
  refine ⟨fun pins s σ H R I h => ?_⟩
  refine wpAny_Call_method (T := "dict") (id := "dict.items") hbase rfl hline F.plainAttrs_dict F.slot_dict_items F.type_dict_items (thn (he.run pins s σ H _ I h) fun u s1 ⟨x, H1, I1, rx, d, o, kvs, ex, hd, q⟩ => ?_)
  subst ex
  obtain rfl : u = Value.ref d := rx
  obtain ⟨hs, hgd, hx, es, ep, hdt, hsz, ent⟩ := frzT2 I1 hd
  have raw : DT.Raw s1.heap d es ep := ⟨o, hgd, hx, hdt⟩
  refine ⟨raw.typeIs, fun b q => ?_, ?_⟩
  · cases q
    exact ⟨o, hgd, hx.2.1⟩
  have I2 : Inv X pins σ H1 { s1 with heap := s1.heap.push { cls := .type "dict_items", data := .fields #[.ref d] } } := I1.kept (t' := s1.toks) fun b ob q => Heap.get?_push_of_some _ q
  have fin : wpAny (model X.prog X.w) X.A (pyIter (.ref s1.heap.objs.size)) (PIE X pins σ (.Tuple elts kk tpos) R) X.xe { s1 with heap := s1.heap.push { cls := .type "dict_items", data := .fields #[.ref d] } } := by
    refine DT.iterI (d := d) (es := es) (ep := ep) ⟨_, Heap.get?_push_size _ rfl, rfl, rfl⟩ (raw.push _) (pi_one (tk := s1.toks) I2 _ (turn_itemsT _ hdt) ⟨.none, .none, ?_⟩ q)
    rw [← hsz]
    exact Heap.get?_push_size _ rfl
  show wpAny _ _ (callWith cpos (.builtin "dict.items") [.ref d] [] []) _ X.xe s1
  exact method_meetsIn F.slot_dict_items F.entry_dict_items rfl (PySem.evalArgs_none ⟨rfl, raw.typeIs, F.args_dict_items_1 _, _, DT.meetsItems (es := es) (ep := ep) hs, raw, fin⟩)
theorem walk_itemsT {d : Addr} {o : Obj} {kvs : List (List Key × V)} : Walk (ItiT d o kvs) kvs.length (fun H => H d = some (.frz o (.dT kvs)))
    (fun i H x H' => ∃ (T q : Addr) (k : List Key) (v : V), kvs[i]? = some (k, v) ∧ x = .ref T ∧ H T = none ∧ H q = some (.tup (k.map kV)) ∧ H' = upd H T (.tup [.ref q, v])) :=
  ⟨fun _ _ hi q => ⟨q, hi⟩, fun _ q => ⟨q, Nat.le_refl _⟩, fun _ _ _ _ _ _ y => y⟩
end Gs
/-! ## GsZip -/
/-! zip of a tuple and a list in a for, list(zip(list, tuple)), enumerate of a tuple. -/
namespace PySem
open PySem.W
section
variable {prog : Program} {w : World} {A : Around} {E : Value → Shared → Prop} {s : Shared} {z TI TO T i1 i2 : Addr} {fp1 fp2 : List Addr} {n1 n2 i : Nat} {P1 P2 : Nat → Value → Prop} {St1 St2 : Nat → Heap → Prop} {f : Bool} {oT : Obj}
theorem gz_held_item {Q : Value → Shared → Prop} (S : ZipSep2 z TI TO i1 i2 fp1 fp2) (D1 : Draws prog w A i1 fp1 n1 P1 St1) (D2 : Draws prog w A i2 fp2 n2 P2 St2) (hz : IsZipHeld s.heap z TI TO T f) (hT : s.heap.get? T = some oT) (hTI : IsPair s.heap TI (.ref i1) (.ref i2))
    (h1 : St1 i s.heap) (h2 : St2 i s.heap) (l1 : i < n1) (l2 : i < n2)
    (hQ : ∀ x y h' tk, P1 i x → P2 i y → IsZipHeld h' z TI TO T true → IsPair h' TI (.ref i1) (.ref i2) → St1 (i + 1) h' → St2 (i + 1) h' → IsPair h' s.heap.objs.size x y → h'.objs.size = s.heap.objs.size + 1 →
      (∀ c o, c ≠ z → c ≠ i1 → c ≠ i2 → s.heap.get? c = some o → h'.get? c = some o) → Q (.ref s.heap.objs.size) { s with heap := h', toks := tk }) :
    wpAny (model prog w) A (Builtin.«zip.__next__» ⟨[.ref z], []⟩) (fun fin s' => ∃ v, fin = .done (.ret v) ∧ Q v s') E s := by
  show wpAny _ _ (field (.ref z) 2 >>= _) _ _ _
  refine wpAny_bind (wpAny_field hz rfl (x := .bool false) rfl ?_)
  show wpAny _ _ (field (.ref z) 3 >>= _) _ _ _
  refine wpAny_bind (wpAny_field hz rfl (x := .ref TI) rfl ?_)
  refine wpAny_bind (wpAny_seqItems hTI rfl ?_)
  show wpAny _ _ (Builtin.SmallTypes.ownedTupleIsFree (.ref z) >>= _) _ _ _
  refine wpAny_bind (wpAny_tupleHeld_zip hz hT fun h₁ hz₁ hs₁ => ?_)
  simp only [Bool.false_eq_true, if_false]
  refine wpAny_bind ?_
  rw [← Array.forIn_toList]
  simp only [List.forIn_cons, List.forIn_nil]
  have z1 : z ≠ i1 := S.zi1
  have z2 : z ≠ i2 := fun e => S.zf2 (by rw [e]; exact S.mem2)
  have i12 : i2 ≠ i1 := fun e => S.sep2_1 (by rw [e]; exact S.mem1)
  have a1 : St1 i h₁ := D1.frame _ _ _ h1 fun b hb o e => hs₁.extBut _ _ (fun q => S.zf1 (q ▸ hb)) e
  have a2 : St2 i h₁ := D2.frame _ _ _ h2 fun b hb o e => hs₁.extBut _ _ (fun q => S.zf2 (q ▸ hb)) e
  refine wpAny_bind (wpAny_bind (wpAny_holding ?_))
  show wpAny _ _ (Builtin.SmallTypes.nextOf (.ref i1) >>= _) _ _ _
  refine wpAny_bind (D1.item i { s with heap := h₁ } _ _ l1 a1 fun x h₂ t2 px b1 hs₂ => wpAny_pure ?_)
  have b2 : St2 i h₂ := D2.frame _ _ _ a2 fun b hb o e => hs₂.extBut _ _ (fun q => S.sep1_2 (q ▸ hb)) e
  refine wpAny_pure ?_
  refine wpAny_bind (wpAny_bind (wpAny_holding ?_))
  show wpAny _ _ (Builtin.SmallTypes.nextOf (.ref i2) >>= _) _ _ _
  refine wpAny_bind (D2.item i { s with heap := h₂, toks := t2 } _ _ l2 b2 fun y h₃ t3 py c2 hs₃ => wpAny_pure ?_)
  have c1 : St1 (i + 1) h₃ := D1.frame _ _ _ b1 fun b hb o e => hs₃.extBut _ _ (fun q => S.sep2_1 (q ▸ hb)) e
  refine wpAny_pure (wpAny_pure ?_)
  show wpAny _ _ (newTuple [x, y] >>= _) _ _ _
  refine wpAny_bind (wpAny_newTuple ?_)
  have hs₂ : Heap.SameBut i1 h₁ h₂ := hs₂
  have hs₃ : Heap.SameBut i2 h₂ h₃ := hs₃
  have hsz : h₃.objs.size = s.heap.objs.size := by rw [hs₃.1, hs₂.1, hs₁.1]
  have hk : ∀ c o, c ≠ z → c ≠ i1 → c ≠ i2 → s.heap.get? c = some o → h₃.get? c = some o := fun c o c1 c2 c3 e => hs₃.extBut _ _ c3 (hs₂.extBut _ _ c2 (hs₁.extBut _ _ c1 e))
  have hz₃ : IsZipHeld h₃ z TI TO T true := hs₃.extBut _ _ z2 (hs₂.extBut _ _ z1 hz₁)
  refine wpAny_pure ⟨_, rfl, ?_⟩
  show Q (.ref h₃.objs.size) _
  have hp : IsPair (h₃.push { cls := .type "tuple", data := .seq #[x, y] }) h₃.objs.size x y := Heap.get?_push_size _ rfl
  have hz4 : (h₃.push { cls := .type "tuple", data := .seq #[x, y] }).objs.size = h₃.objs.size + 1 := Heap.size_push ..
  rw [hsz] at hp hz4 ⊢
  exact hQ x y _ _ px py (Heap.get?_push_of_some _ hz₃) (Heap.get?_push_of_some _ (hk _ _ S.TIz S.TIi1 S.TIi2 hTI)) (D1.frame _ _ _ c1 fun b _ o e => Heap.get?_push_of_some _ e) (D2.frame _ _ _ c2 fun b _ o e => Heap.get?_push_of_some _ e) hp hz4 fun c o c1 c2 c3 e => Heap.get?_push_of_some _ (hk c o c1 c2 c3 e)
theorem gz_held_end {Q : Fin → Shared → Prop} (S : ZipSep2 z TI TO i1 i2 fp1 fp2) (D1 : Draws prog w A i1 fp1 n1 P1 St1) (D2 : Draws prog w A i2 fp2 n2 P2 St2) (hz : IsZipHeld s.heap z TI TO T f) (hT : s.heap.get? T = some oT) (hTI : IsPair s.heap TI (.ref i1) (.ref i2))
    (h1 : St1 i s.heap) (h2 : St2 i s.heap) (l : (i = n1) ∨ (i < n1 ∧ i = n2))
    (hE : ∀ h' e tk, (∀ c o, c ≠ z → c ≠ i1 → c ≠ i2 → s.heap.get? c = some o → h'.get? c = some o) → (∃ o, h'.get? e = some o ∧ o.cls = .type "StopIteration") → E (.ref e) { s with heap := h', toks := tk }) :
    wpAny (model prog w) A (Builtin.«zip.__next__» ⟨[.ref z], []⟩) Q E s := by
  show wpAny _ _ (field (.ref z) 2 >>= _) _ _ _
  refine wpAny_bind (wpAny_field hz rfl (x := .bool false) rfl ?_)
  show wpAny _ _ (field (.ref z) 3 >>= _) _ _ _
  refine wpAny_bind (wpAny_field hz rfl (x := .ref TI) rfl ?_)
  refine wpAny_bind (wpAny_seqItems hTI rfl ?_)
  show wpAny _ _ (Builtin.SmallTypes.ownedTupleIsFree (.ref z) >>= _) _ _ _
  refine wpAny_bind (wpAny_tupleHeld_zip hz hT fun h₁ hz₁ hs₁ => ?_)
  simp only [Bool.false_eq_true, if_false]
  refine wpAny_bind ?_
  rw [← Array.forIn_toList]
  simp only [List.forIn_cons, List.forIn_nil]
  have a1 : St1 i h₁ := D1.frame _ _ _ h1 fun b hb o e => hs₁.extBut _ _ (fun q => S.zf1 (q ▸ hb)) e
  have a2 : St2 i h₁ := D2.frame _ _ _ h2 fun b hb o e => hs₁.extBut _ _ (fun q => S.zf2 (q ▸ hb)) e
  refine wpAny_bind (wpAny_bind (wpAny_holding ?_))
  show wpAny _ _ (Builtin.SmallTypes.nextOf (.ref i1) >>= _) _ _ _
  rcases l with rfl | ⟨l1, rfl⟩
  · refine wpAny_bind (D1.done { s with heap := h₁ } _ _ a1 fun h₂ e hs₂ he => ?_)
    exact hE h₂ e s.toks (fun c o c1 c2 _ x => hs₂ _ _ c2 (hs₁.extBut _ _ c1 x)) he
  · refine wpAny_bind (D1.item i { s with heap := h₁ } _ _ l1 a1 fun x h₂ t2 px b1 hs₂ => wpAny_pure ?_)
    have hs₂ : Heap.SameBut i1 h₁ h₂ := hs₂
    have b2 : St2 i h₂ := D2.frame _ _ _ a2 fun b hb o e => hs₂.extBut _ _ (fun q => S.sep1_2 (q ▸ hb)) e
    refine wpAny_pure ?_
    refine wpAny_bind (wpAny_bind (wpAny_holding ?_))
    show wpAny _ _ (Builtin.SmallTypes.nextOf (.ref i2) >>= _) _ _ _
    refine wpAny_bind (D2.done { s with heap := h₂, toks := t2 } _ _ b2 fun h₃ e hs₃ he => ?_)
    exact hE h₃ e t2 (fun c o c1 c2 c3 x => hs₃ _ _ c3 (hs₂.extBut _ _ c2 (hs₁.extBut _ _ c1 x))) he
end
section
variable {prog : Program} {w : World} {A : Around} {E : Value → Shared → Prop} {s : Shared} {z TI TO T i1 i2 : Addr} {fp1 fp2 : List Addr} {n1 n2 i : Nat} {P1 P2 : Nat → Value → Prop} {St1 St2 : Nat → Heap → Prop} {f : Bool} {oT : Obj}
theorem gz_next {Q : Option Value → Shared → Prop} (S : ZipSep2 z TI TO i1 i2 fp1 fp2) (D1 : Draws prog w A.in1 i1 fp1 n1 P1 St1) (D2 : Draws prog w A.in1 i2 fp2 n2 P2 St2) (hz : IsZipHeld s.heap z TI TO T f) (hT : s.heap.get? T = some oT) (hTI : IsPair s.heap TI (.ref i1) (.ref i2))
    (h1 : St1 i s.heap) (h2 : St2 i s.heap) (l1 : i < n1) (l2 : i < n2)
    (hQ : ∀ x y h' tk, P1 i x → P2 i y → IsZipHeld h' z TI TO T true → IsPair h' TI (.ref i1) (.ref i2) → St1 (i + 1) h' → St2 (i + 1) h' → IsPair h' s.heap.objs.size x y → h'.objs.size = s.heap.objs.size + 1 →
      (∀ c o, c ≠ z → c ≠ i1 → c ≠ i2 → s.heap.get? c = some o → h'.get? c = some o) → Q (some (.ref s.heap.objs.size)) { s with heap := h', toks := tk }) :
    wpAny (model prog w) A (pyNext (.ref z)) Q E s := by
  have hTy : s.TypeIs (.ref z) "zip" := ⟨_, hz, rfl⟩
  unfold pyNext
  exact wpAny_bind (wpAny_attempt (wpAny_callSpecial?_slot (name := Str.ofString "__next__") hTy F.slot_zip_next
    (wpAny_call_entry F.slot_zip_next hTy F.entry_zip_next
      (gz_held_item S D1 D2 hz hT hTI h1 h2 l1 l2 fun x y h' tk p1 p2 a1 a2 a3 a4 a5 a6 a7 => wpAny_pure (hQ x y h' tk p1 p2 a1 a2 a3 a4 a5 a6 a7)) (F.args_zip_next_1 _))))
theorem gz_end {Q : Option Value → Shared → Prop} (S : ZipSep2 z TI TO i1 i2 fp1 fp2) (D1 : Draws prog w A.in1 i1 fp1 n1 P1 St1) (D2 : Draws prog w A.in1 i2 fp2 n2 P2 St2) (hz : IsZipHeld s.heap z TI TO T f) (hT : s.heap.get? T = some oT) (hTI : IsPair s.heap TI (.ref i1) (.ref i2))
    (h1 : St1 i s.heap) (h2 : St2 i s.heap) (l : (i = n1) ∨ (i < n1 ∧ i = n2))
    (hQ : ∀ h' tk, (∀ c o, c ≠ z → c ≠ i1 → c ≠ i2 → s.heap.get? c = some o → h'.get? c = some o) → Q none { s with heap := h', toks := tk }) : wpAny (model prog w) A (pyNext (.ref z)) Q E s := by
  have hTy : s.TypeIs (.ref z) "zip" := ⟨_, hz, rfl⟩
  unfold pyNext
  refine wpAny_bind (wpAny_attempt (wpAny_callSpecial?_slot (name := Str.ofString "__next__") hTy F.slot_zip_next
    (wpAny_call_entry F.slot_zip_next hTy F.entry_zip_next (gz_held_end S D1 D2 hz hT hTI h1 h2 l fun h' e tk hk he => ?_) (F.args_zip_next_1 _))))
  obtain ⟨o, ho, hc⟩ := he
  refine wpAny_bind (wpAny_isInstance (T := "StopIteration") (b := true) ⟨o, ho, hc⟩ isSubtype_stop ?_)
  exact wpAny_pure (hQ _ _ hk)
end
end PySem
/-! ## GsZip2 -/
namespace PySem
open PySem.W
/-- the tuples that list(zip(..)) has made so far -/
structure GzMade (P1 P2 : Nat → Value → Prop) (lo : Addr) (h : Heap) (as : List Addr) : Prop where
  rise : as.Pairwise (· < ·)
  above : ∀ a ∈ as, lo < a
  pairs : ∀ (j : Nat) (a : Addr), as[j]? = some a → ∃ x y, P1 j x ∧ P2 j y ∧ h.IsTuple a #[x, y]
theorem GzMade.there {P1 P2 : Nat → Value → Prop} {lo : Addr} {h : Heap} {as : List Addr} (g : GzMade P1 P2 lo h as) {a : Addr} (ha : a ∈ as) : a < h.objs.size := by
  obtain ⟨j, hj⟩ := List.mem_iff_getElem?.mp ha
  obtain ⟨x, y, _, _, o, e, _⟩ := g.pairs j a hj
  exact Heap.lt_size e
theorem GzMade.low {P1 P2 : Nat → Value → Prop} {lo lo' : Addr} {h : Heap} {as : List Addr} (g : GzMade P1 P2 lo h as) (hl : lo' ≤ lo) : GzMade P1 P2 lo' h as := ⟨g.rise, fun a ha => Nat.lt_of_le_of_lt hl (g.above a ha), g.pairs⟩
/-- how the zip stands ahead of turn i: free (at the start), or its tuple out -/
def GzSt (z TI TO i1 i2 S : Addr) (St1 St2 : Nat → Heap → Prop) (i : Nat) (h : Heap) : Prop :=
  IsPair h TI (.ref i1) (.ref i2) ∧ St1 i h ∧ St2 i h ∧ ((i = 0 ∧ IsZip h z TI TO .none ∧ ∃ a b, IsPair h TO a b) ∨ ∃ T f oT, IsZipHeld h z TI TO T f ∧ h.get? T = some oT ∧ T ≠ S ∧ T ≠ z ∧ T ≠ i1 ∧ T ≠ i2)
section
variable {prog : Program} {w : World} {A : Around} {E : Value → Shared → Prop} {s : Shared} {z TI TO i1 i2 S : Addr} {fp1 fp2 : List Addr} {n1 n2 i : Nat} {P1 P2 : Nat → Value → Prop} {St1 St2 : Nat → Heap → Prop}
theorem gz_step {Q : Option Value → Shared → Prop} (Z : ZipSep2 z TI TO i1 i2 fp1 fp2) (D1 : Draws prog w A.in1 i1 fp1 n1 P1 St1) (D2 : Draws prog w A.in1 i2 fp2 n2 P2 St2) (st : GzSt z TI TO i1 i2 S St1 St2 i s.heap) (hS : S < s.heap.objs.size) (l1 : i < n1) (l2 : i < n2)
    (hQ : ∀ x y T h' tk, P1 i x → P2 i y → s.heap.objs.size ≤ T → h'.IsTuple T #[x, y] → GzSt z TI TO i1 i2 S St1 St2 (i + 1) h' →
      (∀ c o, c ≠ z → c ≠ TO → c ≠ i1 → c ≠ i2 → s.heap.get? c = some o → h'.get? c = some o) → Q (some (.ref T)) { s with heap := h', toks := tk }) :
    wpAny (model prog w) A (pyNext (.ref z)) Q E s := by
  obtain ⟨hTI, h1, h2, ⟨rfl, hz, hTO⟩ | ⟨T, f, oT, hz, hT, tS, tz, t1, t2⟩⟩ := st
  · refine (WalksT.zipD2 Z D1 D2).item 0 s _ _ (by omega) ⟨hz, hTI, hTO, h1, h2⟩ fun T vals h' tk pv hn ht md hk => ?_
    obtain ⟨x, y, px, py, rfl⟩ := pv
    obtain ⟨m1, m2, m3, m4, m5, m6, m7, m8, m9⟩ := md
    obtain ⟨oT, ho, hc, n, hd⟩ := id ht
    have hTS : T ≠ S := Nat.ne_of_gt (Nat.lt_of_lt_of_le hS hn)
    exact hQ x y T h' tk px py hn ht ⟨m2, m4, m5, .inr ⟨T, false, oT, m1, ho, hTS, m6, m8, m9⟩⟩ fun c o c1 c2 c3 c4 e => hk c o (by simp [c1, c2, c3, c4]) e
  · refine gz_next Z D1 D2 hz hT hTI h1 h2 l1 l2 fun x y h' tk px py a1 a2 a3 a4 a5 a6 a7 => ?_
    have hTl : T < s.heap.objs.size := Heap.lt_size hT
    exact hQ x y s.heap.objs.size h' tk px py (Nat.le_refl _) ⟨_, a5, rfl, 0, rfl⟩ ⟨a2, a3, a4, .inr ⟨T, true, oT, a1, a7 T oT tz t1 t2 hT, tS, tz, t1, t2⟩⟩ fun c o c1 _ c3 c4 e => a7 c o c1 c3 c4 e
theorem gz_stop {Q : Option Value → Shared → Prop} (Z : ZipSep2 z TI TO i1 i2 fp1 fp2) (D1 : Draws prog w A.in1 i1 fp1 n1 P1 St1) (D2 : Draws prog w A.in1 i2 fp2 n2 P2 St2) (st : GzSt z TI TO i1 i2 S St1 St2 i s.heap) (l : i = min n1 n2)
    (hQ : ∀ h' tk, (∀ c o, c ≠ z → c ≠ TO → c ≠ i1 → c ≠ i2 → s.heap.get? c = some o → h'.get? c = some o) → Q none { s with heap := h', toks := tk }) :
    wpAny (model prog w) A (pyNext (.ref z)) Q E s := by
  obtain ⟨hTI, h1, h2, ⟨rfl, hz, hTO⟩ | ⟨T, f, oT, hz, hT, tS, tz, t1, t2⟩⟩ := st
  · refine (WalksT.zipD2 Z D1 D2).done s _ _ (by rw [← l]; exact ⟨hz, hTI, hTO, h1, h2⟩) fun h' tk hk => ?_
    exact hQ h' tk fun c o c1 c2 c3 c4 e => hk c o (by simp [c1, c2, c3, c4]) e
  · exact gz_end Z D1 D2 hz hT hTI h1 h2 (by omega) fun h' tk hk => hQ h' tk fun c o c1 _ c3 c4 e => hk c o c1 c3 c4 e
/-- the cells that the zip writes -/
structure GzOff (z TI TO i1 i2 S : Addr) (fp1 fp2 : List Addr) : Prop where
  z : S ≠ z
  TI : S ≠ TI
  TO : S ≠ TO
  f1 : S ∉ fp1
  f2 : S ∉ fp2
theorem gz_loop {R : Result → Shared → Prop} (Z : ZipSep2 z TI TO i1 i2 fp1 fp2) (D1 : Draws prog w A.in1.in1 i1 fp1 n1 P1 St1) (D2 : Draws prog w A.in1.in1 i2 fp2 n2 P2 St2) (O : GzOff z TI TO i1 i2 S fp1 fp2) (hn : min n1 n2 ≤ sizeLine) (res : Value) {h₁ : Heap} (lo : Addr)
    (hR : ∀ h' tk acc c as, (∀ b o, b ≠ S → b ≠ z → b ≠ TO → b ≠ i1 → b ≠ i2 → h₁.get? b = some o → h'.get? b = some o) → h'.get? S = some { cls := .type "list", dict := none, data := .seq acc c, slots := #[] } → as.length = min n1 n2 → GzMade P1 P2 lo h' as →
      acc.toList = as.map Value.ref → R (.ok (.ret res)) { s with heap := h', toks := tk }) :
    ∀ (k i : Nat) (h : Heap) (tk c : Nat) (acc : Array Value) (as : List Addr), min n1 n2 - i = k → i ≤ min n1 n2 → GzSt z TI TO i1 i2 S St1 St2 i h → (∀ b o, b ≠ S → b ≠ z → b ≠ TO → b ≠ i1 → b ≠ i2 → h₁.get? b = some o → h.get? b = some o) →
      h.get? S = some { cls := .type "list", dict := none, data := .seq acc c, slots := #[] } → acc.toList = as.map Value.ref → as.length = i → GzMade P1 P2 lo h as → lo < h.objs.size → S ≤ lo → z ≤ lo → TO ≤ lo → i1 ≤ lo → i2 ≤ lo →
      codeAny (model prog w) A (.builtin "list.extend.loop" ⟨[.ref S, .ref z, res], []⟩) R { s with heap := h, toks := tk } := by
  have hSi1 : S ≠ i1 := fun e => O.f1 (by rw [e]; exact Z.mem1)
  have hSi2 : S ≠ i2 := fun e => O.f2 (by rw [e]; exact Z.mem2)
  intro k
  induction k with
  | zero =>
    intro i h tk c acc as hk hi hst hkeep hS hacc hal hG hlo oS oz oTO o1 o2
    refine codeAny_builtin PySem.F.entry_extend_loop ?_
    rw [Around.under_plainId PySem.F.plain_extend_loop _]
    show wpAny _ A.in1 (pyNext (.ref z) >>= _) _ _ _
    refine wpAny_bind (gz_stop (s := { s with heap := h, toks := tk }) (A := A.in1) Z D1 D2 hst (by omega) fun h' tk' he => ?_)
    have he : ∀ c o, c ≠ z → c ≠ TO → c ≠ i1 → c ≠ i2 → h.get? c = some o → h'.get? c = some o := he
    refine wpAny_pure (hR h' tk' acc c as (fun b o h1 h2 h3 h4 h5 e => he b o h2 h3 h4 h5 (hkeep b o h1 h2 h3 h4 h5 e)) (he S _ O.z O.TO hSi1 hSi2 hS) (by omega) ⟨hG.rise, hG.above, fun j a hj => ?_⟩ hacc)
    obtain ⟨x, y, p1, p2, e3⟩ := hG.pairs j a hj
    have ha := hG.above a (List.mem_of_getElem? hj)
    exact ⟨x, y, p1, p2, e3.at fun o e => he a o (Nat.ne_of_gt (Nat.lt_of_le_of_lt oz ha)) (Nat.ne_of_gt (Nat.lt_of_le_of_lt oTO ha)) (Nat.ne_of_gt (Nat.lt_of_le_of_lt o1 ha)) (Nat.ne_of_gt (Nat.lt_of_le_of_lt o2 ha)) e⟩
  | succ k ih =>
    intro i h tk c acc as hk hi hst hkeep hS hacc hal hG hlo oS oz oTO o1 o2
    have hlt : i < min n1 n2 := by omega
    have hsz : acc.size = i := by rw [← Array.length_toList, hacc, List.length_map, hal]
    refine codeAny_builtin PySem.F.entry_extend_loop ?_
    rw [Around.under_plainId PySem.F.plain_extend_loop _]
    show wpAny _ A.in1 (pyNext (.ref z) >>= _) _ _ _
    refine wpAny_bind (gz_step (s := { s with heap := h, toks := tk }) (A := A.in1) Z D1 D2 hst (Heap.lt_size hS) (by omega) (by omega) fun x y T h' tk' px py hnew ht hst' hkp => ?_)
    have hnew : h.objs.size ≤ T := hnew
    have hkp : ∀ c o, c ≠ z → c ≠ TO → c ≠ i1 → c ≠ i2 → h.get? c = some o → h'.get? c = some o := hkp
    have hS' := hkp S _ O.z O.TO hSi1 hSi2 hS
    have hSl : S < h.objs.size := Heap.lt_size hS
    have hTS : T ≠ S := Nat.ne_of_gt (Nat.lt_of_lt_of_le hSl hnew)
    have up : ∀ b o, b ≠ S → h'.get? b = some o → (h'.update S (Obj.mapSeq (·.push (Value.ref T)))).get? b = some o := fun b o hb e => (Heap.get?_update_other _ _ (Ne.symm hb)).trans e
    obtain ⟨b1, b2, b3, b4⟩ := hst'
    have stN : GzSt z TI TO i1 i2 S St1 St2 (i + 1) (h'.update S (Obj.mapSeq (·.push (Value.ref T)))) := by
      refine ⟨up _ _ (Ne.symm O.TI) b1, D1.frame _ _ _ b2 fun b hb o e => up b o (fun q => O.f1 (q ▸ hb)) e, D2.frame _ _ _ b3 fun b hb o e => up b o (fun q => O.f2 (q ▸ hb)) e, ?_⟩
      rcases b4 with ⟨q, _⟩ | ⟨T', f, oT, c1, c2, c3, c4, c5, c6⟩
      · cases q
      · exact .inr ⟨T', f, oT, up _ _ (Ne.symm O.z) c1, up _ _ c3 c2, c3, c4, c5, c6⟩
    have hloT : lo < T := Nat.lt_of_lt_of_le hlo hnew
    show wpAny _ A.in1 (updateSeq S (·.push (Value.ref T)) >>= _) _ _ _
    refine wpAny_bind ?_
    refine wpAny_updateSeq hS' rfl (wpAny_pure ⟨plainId_quiet PySem.F.plain_extend_loop _, ih (i + 1) _ tk' _ (acc.push (Value.ref T)) (as ++ [T]) (by omega) hlt stN
      (fun b o h1 h2 h3 h4 h5 e => up b o h1 (hkp b o h2 h3 h4 h5 (hkeep b o h1 h2 h3 h4 h5 e))) (Heap.get?_update_self _ hS' rfl) (by rw [Array.toList_push, hacc, List.map_append]; rfl) (by rw [List.length_append, hal]; rfl) ⟨?_, ?_, ?_⟩ ?_ oS oz oTO o1 o2⟩) (by rw [hsz]; omega) (by rw [Array.size_push, hsz]; omega)
    · refine List.pairwise_append.mpr ⟨hG.rise, List.pairwise_singleton _ _, fun a ha b hb => ?_⟩
      rw [List.mem_singleton.mp hb]
      exact Nat.lt_of_lt_of_le (hG.there ha) hnew
    · intro a ha
      rcases List.mem_append.mp ha with ha | ha
      · exact hG.above a ha
      · rw [List.mem_singleton.mp ha]
        exact hloT
    · intro j b hj
      rcases Nat.lt_trichotomy j as.length with h1 | h1 | h1
      · rw [List.getElem?_append_left h1] at hj
        obtain ⟨x', y', p1, p2, e3⟩ := hG.pairs j b hj
        have hb := hG.above b (List.mem_of_getElem? hj)
        exact ⟨x', y', p1, p2, e3.at fun o e => up b o (Nat.ne_of_gt (Nat.lt_of_le_of_lt oS hb)) (hkp b o (Nat.ne_of_gt (Nat.lt_of_le_of_lt oz hb)) (Nat.ne_of_gt (Nat.lt_of_le_of_lt oTO hb)) (Nat.ne_of_gt (Nat.lt_of_le_of_lt o1 hb)) (Nat.ne_of_gt (Nat.lt_of_le_of_lt o2 hb)) e)⟩
      · subst h1
        have hb : T = b := by simpa using hj
        subst hb
        refine ⟨x, y, by rw [hal]; exact px, by rw [hal]; exact py, ht.at fun o e => up _ o hTS e⟩
      · have hnone : (as ++ [T])[j]? = none := List.getElem?_eq_none (by rw [List.length_append, List.length_singleton]; omega)
        rw [hnone] at hj
        cases hj
    · obtain ⟨o, ho, _⟩ := ht
      exact Nat.lt_trans hloT (Heap.lt_size (up _ o hTS ho))
end
end PySem
/-! ## GsZip3 -/
namespace PySem
open PySem.W
theorem gz_no_len : typeLookup (.type "zip") "__len__" = pure none := am_miss_of_fast (by decide +kernel)
theorem gz_no_hint : typeLookup (.type "zip") "__length_hint__" = pure none := am_miss_of_fast (by decide +kernel)
section
variable {prog : Program} {w : World} {A : Around} {E : Value → Shared → Prop} {s : Shared} {z TI TO i1 i2 S : Addr} {fp1 fp2 : List Addr} {n1 n2 i : Nat} {P1 P2 : Nat → Value → Prop} {St1 St2 : Nat → Heap → Prop}
theorem gz_hint (hT : s.TypeIs (.ref z) "zip") {Q : Bool → Shared → Prop} (h : Q true s) : wpAny (model prog w) A (Builtin.List.listLengthHint (.ref z)) Q E s := by
  unfold Builtin.List.listLengthHint
  refine wpAny_bind (wpAny_specialOf hT gz_no_len ?_)
  exact wpAny_bind (wpAny_specialOf hT gz_no_hint (wpAny_pure h))
abbrev FinR (prog : Program) (w : World) (A : Around) (R : Result → Shared → Prop) : Fin → Shared → Prop := fun fin s' => match fin with
  | .done f => R (.ok f) s'
  | .again c' => c'.quiet = true ∧ codeAny (model prog w) A c' R s'
theorem gz_extend {R : Result → Shared → Prop} (Z : ZipSep2 z TI TO i1 i2 fp1 fp2) (D1 : Draws prog w A.in1.in1 i1 fp1 n1 P1 St1) (D2 : Draws prog w A.in1.in1 i2 fp2 n2 P2 St2) (O : GzOff z TI TO i1 i2 S fp1 fp2) (hn : min n1 n2 ≤ sizeLine) (res : Value) (c₀ : Nat) (lo : Addr)
    (hS : s.heap.get? S = some { cls := .type "list", data := .seq #[] c₀ }) (hz : IsZip s.heap z TI TO .none) (hTI : IsPair s.heap TI (.ref i1) (.ref i2)) (hTO : ∃ a b, IsPair s.heap TO a b) (h1 : St1 0 s.heap) (h2 : St2 0 s.heap)
    (hlo : lo < s.heap.objs.size) (oS : S ≤ lo) (oz : z ≤ lo) (oTO : TO ≤ lo) (o1 : i1 ≤ lo) (o2 : i2 ≤ lo)
    (hR : ∀ h' tk acc c as, (∀ b o, b ≠ S → b ≠ z → b ≠ TO → b ≠ i1 → b ≠ i2 → s.heap.get? b = some o → h'.get? b = some o) → h'.get? S = some { cls := .type "list", dict := none, data := .seq acc c, slots := #[] } → as.length = min n1 n2 → GzMade P1 P2 lo h' as →
      acc.toList = as.map Value.ref → R (.ok (.ret res)) { s with heap := h', toks := tk }) :
    wpAny (model prog w) A.in1 (Builtin.List.listExtendWith (.ref S) (.ref z) res) (FinR prog w A R) (fun e s' => R (.error e) s') s := by
  have hT : s.TypeIs (.ref z) "zip" := ⟨_, hz, rfl⟩
  have key : ∀ (h : Heap) (c₁ tk : Nat), (∀ b o, b ≠ S → s.heap.get? b = some o → h.get? b = some o) → h.get? S = some { cls := .type "list", data := .seq #[] c₁ } → h.objs.size = s.heap.objs.size →
      codeAny (model prog w) A (.builtin "list.extend.loop" ⟨[.ref S, .ref z, res], []⟩) R { s with heap := h, toks := tk } := by
    intro h c₁ tk hk hS₁ hsz
    obtain ⟨ta, tb, hTO⟩ := hTO
    refine gz_loop (s := s) (h₁ := s.heap) Z D1 D2 O hn res lo hR (min n1 n2) 0 h tk c₁ #[] [] (Nat.sub_zero _) (Nat.zero_le _) ⟨hk _ _ (Ne.symm O.TI) hTI, D1.frame _ _ _ h1 fun b hb o e => hk b o (fun q => O.f1 (q ▸ hb)) e, D2.frame _ _ _ h2 fun b hb o e => hk b o (fun q => O.f2 (q ▸ hb)) e, .inl ⟨rfl, hk _ _ (Ne.symm O.z) hz, ta, tb, hk _ _ (Ne.symm O.TO) hTO⟩⟩
      (fun b o hb _ _ _ _ e => hk b o hb e) hS₁ rfl rfl ⟨List.Pairwise.nil, (fun _ ha => nomatch ha), (fun j a hj => by simp at hj)⟩ ?_ oS oz oTO o1 o2
    rw [hsz]
    exact hlo
  unfold Builtin.List.listExtendWith
  refine wpAny_bind (wpAny_typeOf (T := "zip") hT ?_)
  have g1 : Builtin.List.listSameRef (.ref S) (.ref z) = false := by simp [Builtin.List.listSameRef, O.z]
  have g2 : (Value.type "zip" == Value.type "list") = false := by decide
  have g3 : (Value.type "zip" == Value.type "tuple") = false := by decide
  simp only [g1, g2, g3, Bool.or_false, Bool.false_eq_true, if_false]
  refine wpAny_bind (wpAny_pyIter_zip hz ?_)
  refine wpAny_bind (wpAny_holding (gz_hint hT ?_))
  refine wpAny_ite_split (fun _ => ?_) (fun hab => absurd (by simp) hab)
  refine wpAny_bind (wpAny_rule ?_)
  refine wpAny_bind ?_
  show wpAny _ _ (updateSeq S (·.push .none) >>= fun _ => updateSeq S (·.pop)) _ _ _
  refine wpAny_bind (wpAny_updateSeq hS rfl ?_)
  have hS₂ := Heap.get?_update_self (Obj.mapSeq (·.push Value.none)) hS rfl
  refine wpAny_updateSeq (hz := by seq_fits) hS₂ rfl ?_
  have hS₃ := Heap.get?_update_self (Obj.mapSeq (·.pop)) hS₂ rfl
  refine wpAny_pure ⟨plainId_quiet PySem.F.plain_extend_loop _, key _ _ _ (fun b o hb e => ?_) hS₃ (by rw [Heap.size_update, Heap.size_update])⟩
  exact (Heap.get?_update_other _ _ (Ne.symm hb)).trans ((Heap.get?_update_other _ _ (Ne.symm hb)).trans e)

theorem gz_init {R : Result → Shared → Prop} (Z : ZipSep2 z TI TO i1 i2 fp1 fp2) (D1 : Draws prog w A.in1.in1 i1 fp1 n1 P1 St1) (D2 : Draws prog w A.in1.in1 i2 fp2 n2 P2 St2) (O : GzOff z TI TO i1 i2 S fp1 fp2) (hn : min n1 n2 ≤ sizeLine) (lo : Addr)
    (hS : s.heap.get? S = some { cls := .type "list", data := .seq #[] }) (hz : IsZip s.heap z TI TO .none) (hTI : IsPair s.heap TI (.ref i1) (.ref i2)) (hTO : ∃ a b, IsPair s.heap TO a b) (h1 : St1 0 s.heap) (h2 : St2 0 s.heap)
    (hlo : lo < s.heap.objs.size) (oS : S ≤ lo) (oz : z ≤ lo) (oTO : TO ≤ lo) (o1 : i1 ≤ lo) (o2 : i2 ≤ lo)
    (hR : ∀ h' tk acc c as, (∀ b o, b ≠ S → b ≠ z → b ≠ TO → b ≠ i1 → b ≠ i2 → s.heap.get? b = some o → h'.get? b = some o) → h'.get? S = some { cls := .type "list", dict := none, data := .seq acc c, slots := #[] } → as.length = min n1 n2 → GzMade P1 P2 lo h' as →
      acc.toList = as.map Value.ref → R (.ok (.ret .none)) { s with heap := h', toks := tk }) :
    wpAny (model prog w) A.in1 (Builtin.«list.__init__» ⟨[.ref S, .ref z], []⟩) (FinR prog w A R) (fun e s' => R (.error e) s') s := by
  show wpAny _ _ (do let old ← Builtin.List.listItems (.ref S); Builtin.List.listUpdate (.ref S) (fun _ => #[]); letGo old.toList.reverse; Builtin.List.listExtendWith (.ref S) (.ref z) .none) _ _ s
  refine wpAny_bind ?_
  unfold Builtin.List.listItems
  refine wpAny_bind (wpAny_seqItems hS rfl (wpAny_pure ?_))
  show wpAny _ _ (updateSeq S (fun _ => #[]) >>= fun _ => letGo (#[] : Array Value).toList.reverse >>= fun _ => Builtin.List.listExtendWith (.ref S) (.ref z) .none) _ _ s
  refine wpAny_bind (wpAny_updateSeq hS rfl ?_)
  have hS₂ := Heap.get?_update_self (Obj.mapSeq (fun _ => (#[] : Array Value))) hS rfl
  have oth : ∀ b o, b ≠ S → s.heap.get? b = some o → (s.heap.update S (Obj.mapSeq (fun _ => (#[] : Array Value)))).get? b = some o :=
    fun b o hb e => (Heap.get?_update_other _ _ (Ne.symm hb)).trans e
  obtain ⟨ta, tb, hTO⟩ := hTO
  refine wpAny_bind (wpAny_letGo ?_)
  refine gz_extend (s := { s with heap := s.heap.update S (Obj.mapSeq (fun _ => (#[] : Array Value))) }) Z D1 D2 O hn .none _ lo hS₂ (oth _ _ (Ne.symm O.z) hz) (oth _ _ (Ne.symm O.TI) hTI) ⟨_, _, oth _ _ (Ne.symm O.TO) hTO⟩ (D1.frame _ _ _ h1 fun b hb o e => oth b o (fun q => O.f1 (q ▸ hb)) e) (D2.frame _ _ _ h2 fun b hb o e => oth b o (fun q => O.f2 (q ▸ hb)) e)
    (by show lo < (s.heap.update _ _).objs.size; rw [Heap.size_update]; exact hlo) oS oz oTO o1 o2 (fun h' tk acc c as hk hS' hl hG hacc => ?_)
  exact hR h' tk acc c as (fun b o hb b1 b2 b3 b4 e => hk b o hb b1 b2 b3 b4 (oth b o hb e)) hS' hl hG hacc
theorem gz_call {Q : Value → Shared → Prop} (Z : ZipSep2 z TI TO i1 i2 fp1 fp2) (D1 : Draws prog w A.in1.in1.in1 i1 fp1 n1 P1 St1) (D2 : Draws prog w A.in1.in1.in1 i2 fp2 n2 P2 St2) (hn : min n1 n2 ≤ sizeLine)
    (hz : IsZip s.heap z TI TO .none) (hTI : IsPair s.heap TI (.ref i1) (.ref i2)) (hTO : ∃ a b, IsPair s.heap TO a b) (h1 : St1 0 s.heap) (h2 : St2 0 s.heap)
    (l1 : i1 < s.heap.objs.size) (l2 : i2 < s.heap.objs.size) (f1 : ∀ b ∈ fp1, b < s.heap.objs.size) (f2 : ∀ b ∈ fp2, b < s.heap.objs.size)
    (hQ : ∀ h' tk acc c as, (∀ b o, b ≠ z → b ≠ TO → b ≠ i1 → b ≠ i2 → s.heap.get? b = some o → h'.get? b = some o) → h'.get? s.heap.objs.size = some { cls := .type "list", dict := none, data := .seq acc c, slots := #[] } → as.length = min n1 n2 → GzMade P1 P2 s.heap.objs.size h' as →
      acc.toList = as.map Value.ref → Q (.ref s.heap.objs.size) { s with heap := h', toks := tk }) :
    wpAny (model prog w) A (call (.type "list") [.ref z]) Q E s := by
  refine callType_codes (Q₁ := fun obj s₁ => obj = .ref s.heap.objs.size ∧ s₁ = { s with heap := s.heap.push { cls := .type "list", data := .seq #[] } }) PySem.F.called_list (PySem.F.typeCall_list_1 _) PySem.F.entry_list_init
    (code_list_new _ ⟨rfl, rfl⟩) fun obj s₁ h₁ => ?_
  obtain ⟨rfl, rfl⟩ := h₁
  obtain ⟨ta, tb, hTO⟩ := hTO
  have hS : (s.heap.push { cls := .type "list", data := .seq #[] }).get? s.heap.objs.size = some { cls := .type "list", data := .seq #[] } := Heap.get?_push_size _ rfl
  have zl : z < s.heap.objs.size := Heap.lt_size hz
  have TIl : TI < s.heap.objs.size := Heap.lt_size hTI
  have TOl : TO < s.heap.objs.size := Heap.lt_size hTO
  have up : ∀ b o, s.heap.get? b = some o → (s.heap.push { cls := .type "list", data := .seq #[] }).get? b = some o := fun b o e => Heap.get?_push_of_some _ e
  refine ⟨⟨_, hS, rfl⟩, PySem.F.args_list_init_2 _ _, gz_init (s := { s with heap := s.heap.push { cls := .type "list", data := .seq #[] } }) (A := A.in1) Z D1 D2 ⟨Nat.ne_of_gt zl, Nat.ne_of_gt TIl, Nat.ne_of_gt TOl, fun q => Nat.lt_irrefl _ (f1 _ q), fun q => Nat.lt_irrefl _ (f2 _ q)⟩ hn s.heap.objs.size hS
    (up _ _ hz) (up _ _ hTI) ⟨_, _, up _ _ hTO⟩ (D1.frame _ _ _ h1 fun b _ o e => up b o e) (D2.frame _ _ _ h2 fun b _ o e => up b o e) (by show _ < (s.heap.push _).objs.size; rw [Heap.size_push]; exact Nat.lt_succ_self _) (Nat.le_refl _) (Nat.le_of_lt zl) (Nat.le_of_lt TOl) (Nat.le_of_lt l1) (Nat.le_of_lt l2) (fun h' tk acc c as hk hS' hl hG hacc => ?_)⟩
  exact ⟨rfl, hQ h' tk acc c as (fun b o b1 b2 b3 b4 e => hk b o (Nat.ne_of_lt (Heap.lt_size e)) b1 b2 b3 b4 (up b o e)) hS' hl hG hacc⟩
end
end PySem
/-! ## GsZip4 -/
namespace Gs
open PySem PySem.Spec PyProof.Rows L2
/-- a tuple at a, a list at b, the items in new pairs -/
def ItzTL (K : PySem.W.Frag) (a b : Addr) : It :=
  ⟨fun i H => ∃ (xs ys : List V) (x y : V), SqT K H a xs ∧ SqL K H b ys ∧ xs[i]? = some x ∧ ys[i]? = some y,
    fun i H v H' => ∃ T x y, v = .ref T ∧ H T = none ∧ H' = upd H T (.tup [x, y]) ∧ (∀ xs, SqT K H a xs → xs[i]? = some x) ∧ ∀ ys, SqL K H b ys → ys[i]? = some y,
    fun i H => ∃ xs ys : List V, SqT K H a xs ∧ SqL K H b ys ∧ i = min xs.length ys.length⟩
theorem turn_zipTL {P : Program} {w : World} {K : PySem.W.Frag} {elts : List Expr} {kk : Nat} {tpos : Pos} {a b z TI TO i1 i2 : Addr} (D : ZipSep2 z TI TO i1 i2 [i1, a] [i2, b]) (na : a ≠ i1) (nb : b ≠ i2) :
    Turn P w K (.Tuple elts kk tpos) (ItzTL K a b) [z, TI, TO, i1, i2] z (fun i h => IsZip h z TI TO .none ∧ IsPair h TI (.ref i1) (.ref i2) ∧ (∃ x y, IsPair h TO x y) ∧ h.IsTupleIter i1 a i ∧ h.IsListIter i2 b i) where
  mem := by simp
  obj := fun i h st c hc => by
    obtain ⟨hz, hTI, ⟨x, y, hTO⟩, ⟨o1, e1, _, d1⟩, ⟨o2, e2, _, d2⟩⟩ := st
    have e' : c = z ∨ c = TI ∨ c = TO ∨ c = i1 ∨ c = i2 := by simpa using hc
    rcases e' with q | q | q | q | q
    · rw [q]; exact ⟨_, hz, fun v q => nomatch q⟩
    · rw [q]; exact ⟨_, hTI, fun v q => nomatch q⟩
    · rw [q]; exact ⟨_, hTO, fun v q => nomatch q⟩
    · rw [q]; exact ⟨o1, e1, fun v q => by rw [d1] at q; cases q⟩
    · rw [q]; exact ⟨o2, e2, fun v q => by rw [d2] at q; cases q⟩
  keep := fun i h h' st k => by
    obtain ⟨hz, hTI, ⟨x, y, hTO⟩, h1, h2⟩ := st
    exact ⟨k z (by simp) _ hz, k TI (by simp) _ hTI, ⟨x, y, k TO (by simp) _ hTO⟩, h1.at fun o q => k i1 (by simp) o q, h2.at fun o q => k i2 (by simp) o q⟩
  item := by
    intro X hP hw hK hc i pins s σ H E I hf st hg
    subst hP hw hK
    obtain ⟨hz, hTI, ⟨x0, y0, hTO⟩, h1, h2⟩ := st
    obtain ⟨xs, ys, x, y, hqx, hqy, hx, hy⟩ := hg
    obtain ⟨its, rv, p, _⟩ := I.tuple hqx
    obtain ⟨its2, rv2, p2, _⟩ := I.list hqy
    obtain ⟨u, hu, ru⟩ := rv.get hx
    obtain ⟨u2, hu2, ru2⟩ := rv2.get hy
    have hh : X.A.handled = none := I.ok.hd hc
    have b1 := (List.getElem?_eq_some_iff.mp hu).1
    have b2 := (List.getElem?_eq_some_iff.mp hu2).1
    have W := GoesN.zip2 (elts := elts) (x1 := kk) (pos := tpos) D (Draws.tuple (prog := X.prog) (w := X.w) (A := X.A.in1) hh i1 a na its.toArray) (Draws.list (prog := X.prog) (w := X.w) (A := X.A.in1) hh i2 b nb its2.toArray)
    refine W.goes i s _ E (by simp; omega) ⟨hz, hTI, ⟨x0, y0, hTO⟩, ⟨h1, p⟩, ⟨h2, p2.isList⟩⟩ fun v h' tk hY st' hk htk => ?_
    obtain ⟨T, u', u2', rfl, hn, e1, e2, hT⟩ := hY
    obtain ⟨z', TI', TO', ⟨h1', _⟩, ⟨h2', _⟩⟩ := st'
    have e1' : u = u' := by simpa [hu] using e1
    have e2' : u2 = u2' := by simpa [hu2] using e2
    subst e1' e2'
    have new : ObjOk X.prog X.w (upd H T (.tup [x, y])) h' T (.tup [x, y]) := ⟨by show 2 ≤ sizeLine; decide, [u, u2], .cons ru (.cons ru2 .nil), hT⟩
    have I1 : Inv X pins σ (upd H T (.tup [x, y])) { s with heap := h', toks := tk } :=
      I.turnedNew (t' := tk) (ch := [z, TI, TO, i1, i2]) (fun c o hb q => hk c o (fun q' => hb (by
        have e' : c = z ∨ c = TO ∨ c = i1 ∨ c = i2 := by simpa using q'
        rcases e' with e | e | e | e <;> simp [e])) q) hf hn new
    refine ⟨.ref T, _, I1, rfl, ⟨_, x, y, rfl, I.hok.fresh hn, rfl, fun l hl => by rw [I.tuple_inj hl hqx]; exact hx, fun l hl => by rw [I.list_inj hl hqy]; exact hy⟩, ⟨z', TI', TO', h1', h2'⟩, fun c hcm => ?_⟩
    have hlt : c < s.heap.objs.size := by
      have e' : c = z ∨ c = TI ∨ c = TO ∨ c = i1 ∨ c = i2 := by simpa using hcm
      rcases e' with q | q | q | q | q
      · rw [q]; exact Heap.lt_size hz
      · rw [q]; exact Heap.lt_size hTI
      · rw [q]; exact Heap.lt_size hTO
      · rw [q]; obtain ⟨_, e1, _⟩ := h1; exact Heap.lt_size e1
      · rw [q]; obtain ⟨_, e2, _⟩ := h2; exact Heap.lt_size e2
    rw [upd_ne (Nat.ne_of_lt (Nat.lt_of_lt_of_le hlt hn))]
    exact (hf c hcm).1
  done := by
    intro X hP hw hK hc i pins s σ H E I hf st hg
    subst hP hw hK
    obtain ⟨hz, hTI, ⟨x0, y0, hTO⟩, h1, h2⟩ := st
    obtain ⟨xs, ys, hqx, hqy, hend⟩ := hg
    obtain ⟨its, rv, p, _⟩ := I.tuple hqx
    obtain ⟨its2, rv2, p2, _⟩ := I.list hqy
    have l1 := rv.length
    have l2 := rv2.length
    have hh : X.A.handled = none := I.ok.hd hc
    have W := GoesN.zip2 (elts := elts) (x1 := kk) (pos := tpos) D (Draws.tuple (prog := X.prog) (w := X.w) (A := X.A.in1) hh i1 a na its.toArray) (Draws.list (prog := X.prog) (w := X.w) (A := X.A.in1) hh i2 b nb its2.toArray)
    have en : min its.toArray.size its2.toArray.size = i := by simp; omega
    rw [en] at W
    refine W.stops s _ E ⟨hz, hTI, ⟨x0, y0, hTO⟩, ⟨h1, p⟩, ⟨h2, p2.isList⟩⟩ fun h' tk hk htk => ?_
    exact I.turnedL (t' := tk) (ch := [z, TI, TO, i1, i2]) (fun c o hb q => hk c o (fun q' => hb (by
        have e' : c = z ∨ c = TO ∨ c = i1 ∨ c = i2 := by simpa using q'
        rcases e' with e | e | e | e <;> simp [e])) q) hf
  self := fun A i s Q E st h => wpAny_pyIter_zip st.1 h
def iZipTL (K : PySem.W.Frag) (ta : TA) : TI := fun σ H R => ta σ H fun vs H1 => ∃ a b xs ys, vs = [.ref a, .ref b] ∧ SqT K H1 a xs ∧ SqL K H1 b ys ∧ R (ItzTL K a b) H1
/-- for x, y in zip(tuple, list) -/
theorem pi_zipTL {X : Cx} {e e2 : Expr} {ta : TA} {p pos tpos : Pos} {elts : List Expr} {kk : Nat} (hg : Gl X "zip") (hm : X.mg "zip" = none) (ha : PA X [e, e2] ta)
    (hs : starEach [e, e2] X.env = (false, eval e X.env) :: starEach [e2] X.env := by rfl) (hpl : (backTo pos (starEach [e2] X.env)).any (·.1) = false := by rfl) :
    PI X (.Tuple elts kk tpos) (.Call (.Name "zip" p) [e, e2] [] pos) (iZipTL X.K ta) := by
  refine ⟨fun pins s σ H R I h => ?_⟩
  refine Call_ (ld_blt I hg hm PyProof.Rows.boot_zip (PyProof.Rows.callWith_type1 (thn (ha.run pos pins s σ H _ I h) fun us s1 ⟨vs, H1, I1, r1, q1⟩ => ?_) hs hpl))
  obtain ⟨a, b, xs, ys, ex, hqx, hqy, q⟩ := q1
  subst ex
  cases r1 with
  | cons r rr =>
    cases rr with
    | cons r' rr =>
      cases rr
      cases r
      cases r'
      have fresh5 : ∀ c, c ∈ [s1.heap.objs.size + 4, s1.heap.objs.size + 2, s1.heap.objs.size + 3, s1.heap.objs.size, s1.heap.objs.size + 1] → FpOk X pins H1 c := fun c hcm => by
        have e' : c = s1.heap.objs.size + 4 ∨ c = s1.heap.objs.size + 2 ∨ c = s1.heap.objs.size + 3 ∨ c = s1.heap.objs.size ∨ c = s1.heap.objs.size + 1 := by simpa using hcm
        have hle : s1.heap.objs.size ≤ c := by
          rcases e' with z | z | z | z | z
          · rw [z]; exact Nat.le_add_right _ _
          · rw [z]; exact Nat.le_add_right _ _
          · rw [z]; exact Nat.le_add_right _ _
          · rw [z]; exact Nat.le_refl _
          · rw [z]; exact Nat.le_add_right _ _
        exact I1.fpOk hle (I1.hok.fresh hle)
      obtain ⟨its, rv, p1, _⟩ := I1.tuple hqx
      obtain ⟨its2, rv2, p2, _⟩ := I1.list hqy
      obtain ⟨o1, ho1, _⟩ := id p1
      have al : a < s1.heap.objs.size := Heap.lt_size ho1
      have bl : b < s1.heap.objs.size := p2.lt
      refine zip_begins2 (begins_tuple a its.toArray) (begins_list b its2.toArray) p1 p2.isList fun h' hz hTI hTO h1 h2 hsz hk => wpAny_pyIter_zip hz ?_
      have I2 : Inv X pins σ H1 { s1 with heap := h' } := I1.kept (t' := s1.toks) hk
      have na : a ≠ s1.heap.objs.size := Nat.ne_of_lt al
      have nb : b ≠ s1.heap.objs.size + 1 := Nat.ne_of_lt (Nat.lt_succ_of_lt bl)
      exact ⟨s1.heap.objs.size + 4, [s1.heap.objs.size + 4, s1.heap.objs.size + 2, s1.heap.objs.size + 3, s1.heap.objs.size, s1.heap.objs.size + 1], _, _, H1, rfl, I2,
        turn_zipTL (zip_sep2 (N := s1.heap.objs.size) (fp1 := [a]) (fp2 := [b]) (fun c hcm => by rw [List.mem_singleton.mp hcm]; exact al) (fun c hcm => by rw [List.mem_singleton.mp hcm]; exact bl)) na nb,
        ⟨hz, hTI, ⟨_, _, hTO⟩, ⟨_, h1, rfl, rfl⟩, ⟨_, h2, rfl, rfl⟩⟩, fresh5, q⟩
theorem walk_zipTL {K : PySem.W.Frag} {a b : Addr} {xs ys : List V} {n : Nat} (hn : n = min xs.length ys.length) : Walk (ItzTL K a b) n (fun H => SqT K H a xs ∧ SqL K H b ys) (YPair (fun i => xs[i]?) (fun i => ys[i]?)) := by
  subst hn
  refine ⟨fun i _ hi q => ?_, fun _ q => ⟨xs, ys, q.1, q.2, rfl⟩, fun i H v H' _ q y => ?_⟩
  · have h1 : i < xs.length := by omega
    have h2 : i < ys.length := by omega
    exact ⟨xs, ys, xs[i], ys[i], q.1, q.2, by simp [h1], by simp [h2]⟩
  · obtain ⟨T, x, z, h1, h2, h3, h4, h5⟩ := y
    exact ⟨T, x, z, h1, h2, h3, h4 xs q.1, h5 ys q.2⟩
/-! ### enumerate(tuple) -/
def IteT (K : PySem.W.Frag) (a : Addr) : It :=
  ⟨fun i H => ∃ (xs : List V) (x : V), SqT K H a xs ∧ xs[i]? = some x, fun i H v H' => ∃ T x, v = .ref T ∧ H T = none ∧ H' = upd H T (.tup [.int (i : Nat), x]) ∧ ∀ xs, SqT K H a xs → xs[i]? = some x, fun i H => ∃ xs : List V, SqT K H a xs ∧ xs.length = i⟩
theorem turn_enumT {P : Program} {w : World} {K : PySem.W.Frag} {elts : List Expr} {kk : Nat} {tpos : Pos} (a e it : Addr) (hne : e ≠ it) (hna : a ≠ it) (hea : e ≠ a) :
    Turn P w K (.Tuple elts kk tpos) (IteT K a) [e, it] e (fun i h => (∃ old, IsEnum h e it (0 + (i : Int)) old) ∧ h.IsTupleIter it a i) where
  mem := by simp
  obj := fun i h st b hb => by
    obtain ⟨⟨old, he⟩, ⟨o, ho, hc, hd⟩⟩ := st
    have e' : b = e ∨ b = it := by simpa using hb
    rcases e' with z | z
    · rw [z]; exact ⟨_, he, fun v q => nomatch q⟩
    · rw [z]; exact ⟨o, ho, fun v q => by rw [hd] at q; cases q⟩
  keep := fun i h h' st k => let ⟨⟨old, he⟩, hi⟩ := st; ⟨⟨old, k e (by simp) _ he⟩, hi.at fun o q => k it (by simp) o q⟩
  item := by
    intro X hP hw hK hc i pins s σ H E I hf st hg
    subst hP hw hK
    obtain ⟨⟨old, he⟩, hit⟩ := st
    obtain ⟨xs, x, hq, hx⟩ := hg
    obtain ⟨its, rv, p, hz⟩ := I.tuple hq
    obtain ⟨u, hu, ru⟩ := rv.get hx
    have hh : X.A.handled = none := I.ok.hd hc
    have hel : e < s.heap.objs.size := Heap.lt_size he
    have hil : it < s.heap.objs.size := by obtain ⟨_, q, _⟩ := hit; exact Heap.lt_size q
    have b1 := (List.getElem?_eq_some_iff.mp hu).1
    have W := GoesN.enumFrom (elts := elts) (x1 := kk) (pos := tpos) 0 (Draws.tuple (prog := X.prog) (w := X.w) (A := X.A.in1) hh it a hna its.toArray) e hne (by simp [hne, hea]) (by simp)
    refine W.goes i s _ E (by simp; omega) ⟨⟨old, he⟩, hit, p⟩ fun v h' tk hY st' hk htk => ?_
    obtain ⟨T, t, u', rfl, hn, e1, hT⟩ := hY
    obtain ⟨he', hit', _⟩ := st'
    have e1' : u = u' := by simpa [hu] using e1
    subst e1'
    have new : ObjOk X.prog X.w (upd H T (.tup [.int (i : Nat), x])) h' T (.tup [.int (i : Nat), x]) := ⟨by show 2 ≤ sizeLine; decide, [.int (0 + (i : Int)) t, u], .cons ⟨t, by rw [Int.zero_add]⟩ (.cons ru .nil), hT⟩
    have I1 : Inv X pins σ (upd H T (.tup [.int (i : Nat), x])) { s with heap := h', toks := tk } := I.turnedNew (t' := tk) (ch := [e, it]) (fun c o hb q => hk c o hb q) hf hn new
    refine ⟨.ref T, _, I1, rfl, ⟨_, x, rfl, I.hok.fresh hn, rfl, fun l hl => by rw [I.tuple_inj hl hq]; exact hx⟩, ⟨he', hit'⟩, fun b hb => ?_⟩
    have hb' : b < s.heap.objs.size := by
      have e' : b = e ∨ b = it := by simpa using hb
      rcases e' with z | z
      · rw [z]; exact hel
      · rw [z]; exact hil
    rw [upd_ne (Nat.ne_of_lt (Nat.lt_of_lt_of_le hb' hn))]
    exact (hf b hb).1
  done := by
    intro X hP hw hK hc i pins s σ H E I hf st hg
    subst hP hw hK
    obtain ⟨⟨old, he⟩, hit⟩ := st
    obtain ⟨xs, hq, hx⟩ := hg
    obtain ⟨its, rv, p, hz⟩ := I.tuple hq
    have hl := rv.length
    have hh : X.A.handled = none := I.ok.hd hc
    have W := GoesN.enumFrom (elts := elts) (x1 := kk) (pos := tpos) 0 (Draws.tuple (prog := X.prog) (w := X.w) (A := X.A.in1) hh it a hna its.toArray) e hne (by simp [hne, hea]) (by simp)
    have en : its.toArray.size = i := by simp; omega
    rw [en] at W
    refine W.stops s _ E ⟨⟨old, he⟩, hit, p⟩ fun h' tk hk htk => ?_
    exact I.turnedL (t' := tk) (ch := [e, it]) (fun c o hb q => hk c o hb q) hf
  self := fun A i s Q E st h => let ⟨⟨_, he⟩, _⟩ := st; wpAny_pyIter_enum he h
theorem meets_enumerate_new1 {v : Value} {o : Obj} {H : Heap → Prop} (B : Begins v o H) :
    Meets (Builtin.«enumerate.__new__» ⟨[.type "enumerate", v], []⟩) (fun _ R s => H s.heap ∧
      R (.ok (.ret (.ref (s.heap.push o).objs.size))) { s with heap := (s.heap.push o).push { cls := .type "enumerate", data := .fields #[.none, .bool false, .ref s.heap.objs.size, rawInt 0, .none, .none] } }) :=
  .of_wp fun prog w A R s h => by
    obtain ⟨hp, g, d, tk, os⟩ := s; obtain ⟨h1, h⟩ := h
    have hsub := sub_enumerate
    have q1 : ∀ {A' : Around} {E : Value → Shared → Prop} {Q : Value → Shared → Prop}, Q (.ref hp.objs.size) ⟨(hp.push o), g, d, tk, os⟩ → wpAny (model prog w) A' (pyIter v) Q E ⟨hp, g, d, tk, os⟩ :=
      fun q => B.iter prog w _ _ ⟨hp, g, d, tk, os⟩ _ (B.keeps _ _ h1 fun b o' e => e) q
    wp_walk
    refine wpAny_stack_any fun st => wpAny_pure ?_
    split
    · rename_i c _ _ _ _ _
      cases (c == Value.type "enumerate")
      · wp_walk using q1
        exact ⟨_, rfl, h⟩
      · wp_walk using q1
        exact ⟨_, rfl, h⟩
    · wp_walk using q1
      exact ⟨_, rfl, h⟩
theorem call_enumerate1 {prog : Program} {w : World} {A : Around} {E : Value → Shared → Prop} {s : Shared} {v : Value} {o : Obj} {H : Heap → Prop} {Q : Value → Shared → Prop} (B : Begins v o H) (h1 : H s.heap)
    (h : ∀ h', IsEnum h' (s.heap.objs.size + 1) s.heap.objs.size 0 .none → h'.get? s.heap.objs.size = some o → (∀ b o, s.heap.get? b = some o → h'.get? b = some o) → Q (.ref (s.heap.objs.size + 1)) { s with heap := h' }) :
    wpAny (model prog w) A (call (.type "enumerate") [v]) Q E s := by
  refine callType_new F.called_enumerate (by decide) (F.typeCall_enumerate_1 _) (F.newCall_enumerate_1 _) (fun obj => F.args_object_init_2 obj _) F.entry_enumerate_new
    (meets_enumerate_new1 B) ⟨h1, ?_⟩
  have hz : (s.heap.push o).objs.size = s.heap.objs.size + 1 := Heap.size_push ..
  have g1 : ((s.heap.push o).push { cls := .type "enumerate", data := .fields #[.none, .bool false, .ref s.heap.objs.size, rawInt 0, .none, .none] }).get? (s.heap.push o).objs.size = some _ := Heap.get?_push_size _ rfl
  rw [hz] at g1
  show _ ∧ _
  rw [hz]
  exact ⟨⟨_, g1, rfl⟩, h _ g1 (Heap.get?_push_of_some _ (Heap.get?_push_size _ B.free)) fun b o x => Heap.get?_push_of_some _ (Heap.get?_push_of_some _ x)⟩
def iEnumT (K : PySem.W.Frag) (ta : TA) : TI := fun σ H R => ta σ H fun vs H1 => ∃ a xs, vs = [.ref a] ∧ SqT K H1 a xs ∧ R (IteT K a) H1
/-- for i, x in enumerate(tuple) -/
theorem pi_enumT {X : Cx} {e : Expr} {ta : TA} {p pos tpos : Pos} {elts : List Expr} {kk : Nat} (hg : Gl X "enumerate") (hm : X.mg "enumerate" = none) (ha : PA X [e] ta) (hs : starEach [e] X.env = [(false, eval e X.env)] := by rfl) :
    PI X (.Tuple elts kk tpos) (.Call (.Name "enumerate" p) [e] [] pos) (iEnumT X.K ta) := by
  refine ⟨fun pins s σ H R I h => ?_⟩
  refine Call_ (ld_blt I hg hm boot_enumerate (PyProof.Rows.callWith_type1 (thn (ha.run pos pins s σ H _ I h) fun us s1 ⟨vs, H1, I1, r1, q1⟩ => ?_) hs rfl))
  obtain ⟨a, xs, ex, hq, q⟩ := q1
  subst ex
  cases r1 with
  | cons r rr =>
    cases rr
    cases r
    obtain ⟨its, rv, p', hz⟩ := I1.tuple hq
    obtain ⟨o1, ho1, _⟩ := id p'
    have al : a < s1.heap.objs.size := Heap.lt_size ho1
    refine call_enumerate1 (begins_tuple a its.toArray) p' fun h' he hit hk => wpAny_pyIter_enum he ?_
    have I2 : Inv X pins σ H1 { s1 with heap := h' } := I1.kept (t' := s1.toks) hk
    refine ⟨s1.heap.objs.size + 1, [s1.heap.objs.size + 1, s1.heap.objs.size], _, _, H1, rfl, I2, turn_enumT a (s1.heap.objs.size + 1) s1.heap.objs.size (Nat.succ_ne_self _) (Nat.ne_of_lt al) (Nat.ne_of_gt (Nat.lt_succ_of_lt al)), ⟨⟨.none, he⟩, ⟨_, hit, rfl, rfl⟩⟩, fun b hb => ?_, q⟩
    have e' : b = s1.heap.objs.size + 1 ∨ b = s1.heap.objs.size := by simpa using hb
    have hle : s1.heap.objs.size ≤ b := by
      rcases e' with z | z
      · rw [z]; exact Nat.le_add_right _ _
      · rw [z]; exact Nat.le_refl _
    exact I1.fpOk hle (I1.hok.fresh hle)
theorem walk_enumT {K : PySem.W.Frag} {a : Addr} {xs : List V} : Walk (IteT K a) xs.length (fun H => SqT K H a xs) (YPair (fun i => some (.int (i : Nat))) (fun i => xs[i]?)) := by
  refine ⟨fun i _ hi q => ⟨xs, xs[i], q, by simp [hi]⟩, fun _ q => ⟨xs, q, rfl⟩, fun i H v H' _ q y => ?_⟩
  obtain ⟨T, x, h1, h2, h3, h4⟩ := y
  exact ⟨T, .int (i : Nat), x, h1, h2, h3, rfl, h4 xs q⟩
/-! ### list(zip(list, tuple)) -/
def putP : Hp → List Addr → List (V × V) → Hp
  | H, a :: as, p :: kvs => putP (upd H a (.tup [p.1, p.2])) as kvs
  | H, _, _ => H
theorem putP_off {b : Addr} : ∀ (as : List Addr) (kvs : List (V × V)) (H : Hp), b ∉ as → putP H as kvs b = H b
  | [], _, _, _ => rfl
  | _ :: _, [], _, _ => rfl
  | a :: as, p :: kvs, H, h => by
    show putP (upd H a (.tup [p.1, p.2])) as kvs b = H b
    rw [putP_off as kvs _ (fun z => h (List.mem_cons_of_mem _ z)), upd_ne (fun z => h (by rw [z]; exact List.mem_cons_self))]
theorem putP_at : ∀ (as : List Addr) (kvs : List (V × V)) (H : Hp), as.length = kvs.length → as.Nodup → Paired (fun (t : Addr) (p : V × V) => putP H as kvs t = some (.tup [p.1, p.2])) as kvs
  | [], [], _, _, _ => .nil
  | [], _ :: _, _, h, _ => by cases h
  | _ :: _, [], _, h, _ => by cases h
  | a :: as, p :: kvs, H, h, hn => by
    have hn' := List.nodup_cons.mp hn
    have ih := putP_at as kvs (upd H a (.tup [p.1, p.2])) (Nat.succ.inj h) hn'.2
    refine .cons ?_ ih
    show putP (upd H a (.tup [p.1, p.2])) as kvs a = some (.tup [p.1, p.2])
    rw [putP_off as kvs _ hn'.1, upd_same]
def rZipL (K : PySem.W.Frag) : List V → Hp → VK → Prop := fun vs H Q => ∃ (a b : Addr) (xs ys : List V), vs = [.ref a, .ref b] ∧ SqL K H a xs ∧ SqT K H b ys ∧
  ∀ (H' : Hp) (p : Addr) (ts : List Addr), (∀ b o, H b = some o → H' b = some o) → H p = none → (∀ t ∈ ts, H t = none) → p ∉ ts → H' p = some (.lst (ts.map V.ref)) → Paired (fun (t : Addr) (q : V × V) => H' t = some (.tup [q.1, q.2])) ts (xs.zip ys) → Q (.ref p) H'
def tListZip (K : PySem.W.Frag) (ta : TA) : TE := fun σ H Q => ta σ H fun vs H1 => rZipL K vs H1 Q
theorem zip_laid {X : Cx} {pins : List (Addr × Obj)} {σ : L2.St} {H : Hp} {s : Shared} {h' : Heap} {tk : Nat} {S : Addr} {xs ys : List V} {us ws : List Value} {acc : Array Value} {c : Nat} {as : List Addr} (I : Inv X pins σ H s) (hz : xs.length ≤ sizeLine) (rx : Vals xs us) (ry : Vals ys ws) (hSs : s.heap.objs.size ≤ S)
    (hk : ∀ b o, s.heap.get? b = some o → h'.get? b = some o) (hS : h'.get? S = some { cls := .type "list", dict := none, data := .seq acc c, slots := #[] }) (hl : as.length = min us.length ws.length)
    (hG : GzMade (fun i v => us.toArray[i]? = some v) (fun i v => ws.toArray[i]? = some v) S h' as) (hacc : acc.toList = as.map Value.ref) :
    ∃ H' : Hp, (∀ b o, H b = some o → H' b = some o) ∧ H S = none ∧ (∀ t ∈ as, H t = none) ∧ S ∉ as ∧ H' S = some (.lst (as.map V.ref)) ∧ Paired (fun (t : Addr) (q : V × V) => H' t = some (.tup [q.1, q.2])) as (xs.zip ys) ∧ Inv X pins σ H' { s with heap := h', toks := tk } := by
  have lx := rx.length
  have ly := ry.length
  have lk : as.length = (xs.zip ys).length := by rw [List.length_zip, hl]; omega
  have hSn : S ∉ as := fun z => Nat.lt_irrefl _ (hG.above _ z)
  have nd : as.Nodup := List.Pairwise.imp (fun {a b} (h : a < b) => Nat.ne_of_lt h) hG.rise
  have new : ∀ t ∈ as, H t = none := fun t ht => I.hok.fresh (Nat.le_trans hSs (Nat.le_of_lt (hG.above t ht)))
  have newS : H S = none := I.hok.fresh hSs
  have atP := putP_at as (xs.zip ys) (upd H S (.lst (as.map V.ref))) lk nd
  have off : ∀ b, b ∉ as → b ≠ S → putP (upd H S (.lst (as.map V.ref))) as (xs.zip ys) b = H b := fun b h1 h2 => by rw [putP_off as _ _ h1, upd_ne h2]
  have low : ∀ b o, s.heap.get? b = some o → b ∉ as ∧ b ≠ S := fun b o e => ⟨fun z => absurd (Heap.lt_size e) (Nat.not_lt.mpr (Nat.le_trans hSs (Nat.le_of_lt (hG.above b z)))), Nat.ne_of_lt (Nat.lt_of_lt_of_le (Heap.lt_size e) hSs)⟩
  have kp : ∀ b u, H b = some u → (putP (upd H S (.lst (as.map V.ref))) as (xs.zip ys)) b = some u := fun b u e => by
    rw [off b (fun z => by rw [new b z] at e; cases e) (fun z => by rw [z, newS] at e; cases e)]
    exact e
  have eS : putP (upd H S (.lst (as.map V.ref))) as (xs.zip ys) S = some (.lst (as.map V.ref)) := by rw [putP_off as _ _ hSn, upd_same]
  refine ⟨putP (upd H S (.lst (as.map V.ref))) as (xs.zip ys), kp, newS, new, hSn, eS, atP, ?_⟩
  refine I.call' (ch := []) rfl ⟨fun b o q _ _ _ => hk b o q, fun b o q _ _ _ => ⟨o.slots, hk b o q⟩, fun b o q n _ => ?_, fun b o q _ => ⟨o, hk b o q⟩, fun b xs q => kp b _ q, fun b o u q => kp b _ q, fun b ps q => ⟨#[], by rw [kp b _ q]; simp⟩⟩ (fun b u q => ?_) I.bare fun b z => by simp at z
  · obtain ⟨z1, z2⟩ := low b o q
    rw [off b z1 z2]
    exact n
  · by_cases hb : b ∈ as
    · obtain ⟨j, pk, e1, e2, e3⟩ := LiI.paired_ix atP hb
      rw [e3] at q
      cases q
      obtain ⟨u1, u2, f1, f2, f3⟩ := hG.pairs j b e1
      have g1 : xs[j]? = some pk.1 ∧ ys[j]? = some pk.2 := by
        rw [List.getElem?_zip_eq_some] at e2
        exact e2
      obtain ⟨v1, k1, r1⟩ := rx.get g1.1
      obtain ⟨v2, k2, r2⟩ := ry.get g1.2
      have m1 : v1 = u1 := by simpa [k1] using f1
      have m2 : v2 = u2 := by simpa [k2] using f2
      subst m1 m2
      exact ⟨by show 2 ≤ sizeLine; decide, [v1, v2], .cons r1 (.cons r2 .nil), f3⟩
    · by_cases hb2 : b = S
      · rw [hb2] at q ⊢
        rw [eS] at q
        cases q
        refine ⟨by rw [List.length_map]; omega, acc.toList, c, by rw [hacc]; exact LiI.vals_refs as, ?_⟩
        rw [Array.toArray_toList]
        exact hS
      · rw [off b hb hb2] at q
        exact (I.hok b u q).stay (fun d v _ y => hk d v y) (fun d y => kp d _ y) fun d xs y => kp d _ y
/-- list(zip(list, tuple)) -/
theorem pe_listZip {X : Cx} {e e2 : Expr} {ta : TA} {p p2 pos zpos : Pos} (hc : X.calm = true) (hg : Gl X "list") (hm : X.mg "list" = none) (hg2 : Gl X "zip") (hm2 : X.mg "zip" = none) (ha : PA X [e, e2] ta)
    (hs : starEach [e, e2] X.env = (false, eval e X.env) :: starEach [e2] X.env := by rfl) (hpl : (backTo zpos (starEach [e2] X.env)).any (·.1) = false := by rfl)
    (ho : starEach [.Call (.Name "zip" p2) [e, e2] [] zpos] X.env = (false, eval (.Call (.Name "zip" p2) [e, e2] [] zpos) X.env) :: starEach [] X.env := by rfl) :
    PE X (.Call (.Name "list" p) [.Call (.Name "zip" p2) [e, e2] [] zpos] [] pos) (tListZip X.K ta) := by
  refine ⟨fun pins s σ H Q I hq => ?_⟩
  refine wpAny_Call_Name_kw (ld_blt I hg hm boot_list ?_)
  refine PyProof.Rows.callWith_type1 ?_ ho rfl
  rw [ho]
  show wpAny _ _ (spliced ((false, eval (.Call (.Name "zip" p2) [e, e2] [] zpos) X.env) :: backTo pos (starEach [] X.env))) _ _ s
  refine Calls.spliced_cons ?_
  refine Call_ (ld_blt I hg2 hm2 PyProof.Rows.boot_zip (PyProof.Rows.callWith_type1 (thn (ha.run zpos pins s σ H _ I hq) fun us s1 ⟨vs, H1, I1, r1, q1⟩ => ?_) hs hpl))
  obtain ⟨a, b, xs, ys, ex, hqx, hqy, q⟩ := q1
  subst ex
  cases r1 with
  | cons r rr =>
    cases rr with
    | cons r' rr =>
      cases rr
      cases r
      cases r'
      obtain ⟨its, rv, p1, hzx⟩ := I1.list hqx
      obtain ⟨its2, rv2, p2, _⟩ := I1.tuple hqy
      obtain ⟨o1, ho1, _⟩ := id p2
      have al : a < s1.heap.objs.size := p1.lt
      have bl : b < s1.heap.objs.size := Heap.lt_size ho1
      have lx := rv.length
      have hh : X.A.handled = none := I1.ok.hd hc
      refine zip_begins2 (begins_list a its.toArray) (begins_tuple b its2.toArray) p1.isList p2 fun h' hz hTI hTO h1 h2 hsz hk => ?_
      refine Calls.spliced_nil ?_
      have na : a ≠ s1.heap.objs.size := Nat.ne_of_lt al
      have nb : b ≠ s1.heap.objs.size + 1 := Nat.ne_of_lt (Nat.lt_succ_of_lt bl)
      refine gz_call (s := { s1 with heap := h' }) (A := X.A) (zip_sep2 (N := s1.heap.objs.size) (fp1 := [a]) (fp2 := [b]) (fun c hcm => by rw [List.mem_singleton.mp hcm]; exact al) (fun c hcm => by rw [List.mem_singleton.mp hcm]; exact bl))
        (Draws.list (prog := X.prog) (w := X.w) (A := X.A.in1.in1.in1) hh s1.heap.objs.size a na its.toArray) (Draws.tuple (prog := X.prog) (w := X.w) (A := X.A.in1.in1.in1) hh (s1.heap.objs.size + 1) b nb its2.toArray)
        (by simp; omega) hz hTI ⟨_, _, hTO⟩ ⟨⟨_, h1, rfl, rfl⟩, p1.isList.at fun o e => hk _ _ e⟩ ⟨⟨_, h2, rfl, rfl⟩, (show s1.heap.IsTuple b its2.toArray from p2).at fun o e => hk _ _ e⟩ (Heap.lt_size h1) (Heap.lt_size h2)
        (fun c hcm => ?_) (fun c hcm => ?_) fun h'' tk acc c as hk2 hS hl hG hacc => ?_
      · have e' : c = s1.heap.objs.size ∨ c = a := by simpa using hcm
        show c < h'.objs.size
        rw [hsz]
        rcases e' with e | e
        · rw [e]; show s1.heap.objs.size < s1.heap.objs.size + 5; exact Nat.lt_add_of_pos_right (by decide)
        · rw [e]; exact Nat.lt_add_right 5 al
      · have e' : c = s1.heap.objs.size + 1 ∨ c = b := by simpa using hcm
        show c < h'.objs.size
        rw [hsz]
        rcases e' with e | e
        · rw [e]; show s1.heap.objs.size + 1 < s1.heap.objs.size + 5; exact Nat.add_lt_add_left (by decide) _
        · rw [e]; exact Nat.lt_add_right 5 bl
      · have hk3 : ∀ b o, s1.heap.get? b = some o → h''.get? b = some o := fun b o e => by
          have hb := Heap.lt_size e
          have ge : ∀ n, b ≠ s1.heap.objs.size + n := fun n => Nat.ne_of_lt (Nat.lt_add_right n hb)
          exact hk2 b o (ge 4) (ge 3) (ge 0) (ge 1) (hk b o e)
        obtain ⟨H', k1, k2, k3, k4, k5, k6, J⟩ := zip_laid (tk := tk) (S := h'.objs.size) I1 hzx rv rv2 (by rw [hsz]; exact Nat.le_add_right _ _) hk3 hS (by simpa using hl) hG hacc
        exact ⟨.ref _, H', J, rfl, q H' _ as k1 k2 k3 k4 k5 k6⟩
end Gs
/-! ## GsDp -/
/-! dict(list of pairs) with tuples of ints and texts as keys. -/
namespace Gs
open PySem PySem.Spec PyProof.Rows L2
theorem paired_flip {α β : Type} {F : α → β → Prop} : ∀ {xs : List α} {ys : List β}, Paired F xs ys → Paired (fun b a => F a b) ys xs
  | _, _, .nil => .nil
  | _, _, .cons h t => .cons h (paired_flip t)
theorem kt_merge {H : Hp} : ∀ {kvs : List (List Key × V)} {ps : List (List Key × Addr × Value)}, KT H kvs ps → ∀ {acc : List (List Key × V)} {ax : List (List Key × Addr × Value)}, KT H acc ax → KT H (kvs.foldl (fun a p => putK a p.1 p.2) acc) (storedAllH ax ps)
  | _, _, .nil, _, _, r => r
  | _, _, .cons (a := p) (b := q) h t, acc, ax, r => by
    obtain ⟨h1, h2, h3⟩ := h
    refine kt_merge t (acc := putK acc p.1 p.2) (ax := storedH ax q.1 q.2.1 q.2.2) ?_
    show KT H (putK acc p.1 p.2) _
    rw [← h1]
    exact r.put p.1 h2 h3
theorem put_nodup : ∀ (kvs acc : List (List Key × V)), ((acc ++ kvs).map (·.1)).Nodup → kvs.foldl (fun a p => putK a p.1 p.2) acc = acc ++ kvs
  | [], acc, _ => by simp
  | p :: r, acc, h => by
    have hp : valV acc p.1 = none := by
      cases e : valV acc p.1 with
      | none => rfl
      | some v =>
        have m := valV_in e
        rw [List.map_append, List.nodup_append] at h
        exact absurd rfl (h.2.2 p.1 m p.1 (by simp))
    show r.foldl _ (putK acc p.1 p.2) = _
    rw [putK_new _ hp, put_nodup r (acc ++ [(p.1, p.2)]) (by simpa using h)]
    simp
theorem stored_len {K : Type} [DecidableEq K] : ∀ (ps ax : List (K × Addr × Value)), (storedAllH ax ps).length ≤ ax.length + ps.length
  | [], ax => by show ax.length ≤ ax.length + 0; omega
  | p :: r, ax => by
    have h1 := stored_len r (storedH ax p.1 p.2.1 p.2.2)
    have h2 := storedH_length ax p.1 p.2.1 p.2.2
    show (storedAllH (storedH ax p.1 p.2.1 p.2.2) r).length ≤ _
    rw [List.length_cons]
    omega
section
variable {X : Cx}
def PairT (K : PySem.W.Frag) (H : Hp) : List Addr → List (List Key × V) → Prop := Paired fun p kv => ∃ q, SqT K H p [.ref q, kv.2] ∧ H q = some (.tup (kv.1.map kV))
theorem pairsT_of {pins : List (Addr × Obj)} {σ : L2.St} {H : Hp} {s : Shared} (I : Inv X pins σ H s) : ∀ {ps : List Addr} {kvs : List (List Key × V)}, PairT X.K H ps kvs →
    ∃ prs : List (List Key × Addr × Value), KT H kvs prs ∧ prs.length = ps.length ∧ ∀ (j : Nat) (q : List Key × Addr × Value), prs[j]? = some q → ∃ b : Addr, ps[j]? = some b ∧ IsTup s.heap b #[.ref q.2.1, q.2.2]
  | _, _, .nil => ⟨[], .nil, rfl, fun j q e => by simp at e⟩
  | _, _, .cons (a := p) (b := kv) ⟨b, h, hb⟩ t => by
    obtain ⟨prs, r, hl, hp⟩ := pairsT_of I t
    obtain ⟨its, rv, ht, _⟩ := I.tuple h
    obtain ⟨u, y, ei, ru, ry⟩ := vals2 rv
    subst ei
    cases ru
    refine ⟨(kv.1, b, y) :: prs, .cons ⟨rfl, hb, ry⟩ r, by rw [List.length_cons, List.length_cons, hl], fun j q e => ?_⟩
    cases j with
    | zero =>
      have e' : (kv.1, b, y) = q := Option.some.inj e
      subst e'
      exact ⟨p, rfl, ht⟩
    | succ j =>
      obtain ⟨b', e1, e2⟩ := hp j q (by simpa using e)
      exact ⟨b', by simpa using e1, e2⟩
/-- dict(xs) of a list of pairs whose keys are tuples, no key twice -/
def rDictPT (K : PySem.W.Frag) : List V → Hp → VK → Prop := fun xs H Q => ∃ (a : Addr) (ps : List Addr) (kvs : List (List Key × V)), xs = [.ref a] ∧ SqL K H a (ps.map V.ref) ∧ PairT K H ps kvs ∧ (kvs.map (·.1)).Nodup ∧
    ∀ p, H p = none → Q (.ref p) (upd H p (.dT kvs))
theorem call_dictPT (hcalm : X.calm = true) (hu : X.A.units + 2 < cLine) : CallR X (.type "dict") (rDictPT X.K) := by
  intro pins s σ H xs us Q I r q
  obtain ⟨a, ps, kvs, ex, hq, hp, hnd, q⟩ := q
  subst ex
  obtain ⟨u, eu, rx⟩ := vals1 r
  subst eu
  cases rx
  obtain ⟨its, rv, pl, hz⟩ := I.list hq
  have ei := refs_at rv
  subst ei
  rw [List.length_map] at hz
  obtain ⟨prs, rel, hl, hpr⟩ := pairsT_of I hp
  obtain ⟨o, n, ho, hc, hd, hdat⟩ := pl
  have kl := rel.length
  let Ts : Nat → Addr := fun j => (ps[j]?).getD 0
  have okP : PlainSeq "list" s.heap a (ps.map Value.ref).toArray ∧ PairItems s.heap (ps.map Value.ref).toArray Ts (prs.map fun q => (Value.ref q.2.1, q.2.2)) := by
    refine ⟨⟨o, n, ho, hc, hd, hdat⟩, by simp [hl], fun j k v e => ?_⟩
    rw [List.getElem?_map] at e
    cases e2 : prs[j]? with
    | none => rw [e2] at e; cases e
    | some q =>
      rw [e2] at e
      obtain ⟨b, f1, f2⟩ := hpr j q e2
      cases e
      have eT : Ts j = b := by show (ps[j]?).getD 0 = b; rw [f1]; rfl
      rw [eT]
      exact ⟨by simp [f1], .inl f2⟩
  refine PySem.call_dict_pairsH (knd := tupleKind (mixKind X.prog X.w)) (ps := prs) (PairArg.list a _ Ts (prs.map fun q => (Value.ref q.2.1, q.2.2))) (I.ok.hd hcalm) (by show X.A.units + 1 + 1 < cLine; omega) okP ⟨by simp, fun i key v e => ?_⟩ (fun h' hk x hx => ?_) (by simp; omega) fun h' tk hd' hk => ?_
  · have e : (prs.map fun q => (Value.ref q.2.1, q.2.2))[i]? = some (key, v) := e
    rw [List.getElem?_map] at e
    cases e2 : prs[i]? with
    | none => rw [e2] at e; cases e
    | some q =>
      rw [e2] at e
      cases e
      exact ⟨q.1, q.2.1, rfl, rfl⟩
  · obtain ⟨j, y, e1, e2, e3⟩ := LiI.paired_ix (F := fun (q : List Key × Addr × Value) (p : List Key × V) => p.1 = q.1 ∧ H q.2.1 = some (.tup (p.1.map kV)) ∧ RelV p.2 q.2.2) (paired_flip rel) hx
    have ky := key_of I.hok (P := X.prog) (w := X.w) e3.2.1
    rw [e3.1] at ky
    obtain ⟨ob, its, nn, k1, k2, k3, k4⟩ := ky
    exact ⟨ob, its, nn, hk _ _ (Nat.ne_of_lt (Heap.lt_size k1)) (by simp) k1, k2, k3, k4⟩
  · have hm : (s.heap.objs.size == sysModules) = false := beq_eq_false_iff_ne.mpr (Nat.ne_of_gt I.big)
    have rel2 := kt_merge rel (acc := []) (ax := []) .nil
    rw [put_nodup kvs [] (by simpa using hnd), List.nil_append] at rel2
    obtain ⟨q1, es, ep, hq1, h2, h3, h4, _, h5⟩ := hd'
    have nn : H s.heap.objs.size = none := I.hok.fresh (Nat.le_refl _)
    refine ⟨.ref s.heap.objs.size, upd H s.heap.objs.size (.dT kvs), I.laid (t' := tk) (fun b o e => hk b o (by simp) e) (Nat.le_refl _) (show ObjOk X.prog X.w _ _ _ (.dT kvs) from ⟨by omega, hm, _, rel2.keeps fun c ys ec => ?_, q1, es, ep, hq1, h2, h3, h4, h5⟩), rfl, q _ nn⟩
    rw [upd_ne (ne_of_none ec nn)]
    exact ec
end
end Gs
/-! ## GsTry -/
/-! try with several «except X as e», where the first one takes what comes. -/
namespace Gs
open PySem PySem.Spec PyProof.Rows L2
def wAs1 (K : PySem.W.Frag) (c : Value) (i : Nat) (ts : Addr → Value → Option Addr → TS) (D : Ends) : WX := fun cls d σ H =>
  PySem.W.exmOne K cls c = some true ∧ ∀ a, H a = none → ts a cls d { nx := fun σ' H' => D.nx (σ'.set i none) H', rt := D.rt, bk := fun σ' H' => D.bk (σ'.set i none) H', ct := fun σ' H' => D.ct (σ'.set i none) H' } (σ.set i (some (.ref a))) H
section
variable {X : Cx} {x n : Str} {c : Value} {i : Nat} {body suite : List Stmt} {b₀ : Stmt} {hds : List ExceptHandler} {np pos pos' : Pos} {tb : WX → TS} {ts : Addr → Value → Option Addr → TS}
theorem ps_try_as1 (hs : X.stack = X.env :: X.outer) (hf : X.env.frame = some X.env.locals) (hN : X.N.Nodup) (hi : X.N[i]? = some n) (hln : X.env.kindOf n = some .local) (hc : Names X x c)
    (hb : ∀ (W : WX) (pn : List (Addr × Obj)) (xe : Value → Shared → Prop), Takes (X.tr pn xe) W → PassesOwn (model X.prog X.w) X.A X.env xe → PSs (X.tr pn xe) body (tb W))
    (hsu : ∀ (a : Addr) (oe : Obj) (cls : Value) (d : Option Addr) (pn : List (Addr × Obj)), Zc cls d oe → (∃ vs, oe.data = .fields vs) → PSs (X.suite a ((a, oe) :: pn)) (b₀ :: suite) (ts a cls d)) :
    PS X (.Try body (.ExceptHandler (some (.Name x np)) (some n) (b₀ :: suite) pos' :: hds) [] [] pos) (fun D σ H => tb (wAs1 X.K c i ts D) D σ H) := by
  refine ⟨fun pins s σ H D I h => ?_⟩
  have ok := I.ok
  have hfr : X.A.frames = some (X.env :: X.outer) := by rw [ok.frames, hs]
  have hloc : Loc X.env.scope n := .inl hln
  refine wpAny_Try_except ?_
  refine wpAny_mono ((hb (wAs1 X.K c i ts D) (X.pn ++ pins) (fun e s₁ => wpAny (model X.prog X.w) X.A (noteFrame e X.env) (fun _ s₂ => wpAny (model X.prog X.w) X.A (setFlight e none) (fun _ s₃ =>
    wpAny (model X.prog X.w) X.A (handleBy e X.env (.ExceptHandler (some (.Name x np)) (some n) (b₀ :: suite) pos' :: hds)) (SP X pins D) X.xe s₃) X.xe s₂) X.xe s₁) (fun u s' xx => ?_) PassesOwn.looking).run [] s σ H D (I.toTry _) h) (fun f s1 hsp => ?_) (fun e s1 he => he)
  · obtain ⟨a, B, sI, pins', σ', H', cls, d, rfl, J', nb, up, sky, na, os, ag, hb1, hyes⟩ := xx
    have J : Inv X pins σ' H' sI := J'.ofTry ok
    have sky' : Sky B (X.env :: X.outer) a (Zc cls d) X.env.locals s'.heap := by rw [← hs]; exact sky
    show wpAny (model X.prog X.w) X.A (noteFrame (.ref a) X.env) _ _ _
    refine Sky.land Zc.steady hfr hf sky' fun h3 fl3 up3 => ?_
    have J3 : Inv X pins σ' H' { s' with heap := h3 } := J.landed nb fl3.1 (up.trans up3) os ag
    obtain ⟨oe3, vs3, he3, hz3, hd3⟩ := fl3.there
    have notFr : ∀ {h : Heap} {o : Obj} {vs : Array Value}, h.FunFrames B (X.env :: X.outer) → h.get? a = some o → o.data = .fields vs → a ∉ frs (X.env :: X.outer) := fun {h o vs} ff e dd hm => by
      obtain ⟨_, o', e', hnf⟩ := ff.mem hm
      rw [e] at e'; cases e'
      exact hnf _ dd
    have nfr := notFr fl3.2.2.1 he3 hd3
    have nL : a ≠ X.env.locals := fun z => nfr (List.mem_filterMap.mpr ⟨X.env, List.mem_cons_self, by rw [hf, z]⟩)
    have nF : a ∉ X.fs := fun hm => by
      obtain ⟨e, he, q⟩ := List.mem_filterMap.mp hm
      exact nfr (List.mem_filterMap.mpr ⟨e, List.mem_cons_of_mem _ he, q⟩)
    have S3 := J3.suite he3 hd3 na nL nF
    refine wpAny_handleBy_cons (codeAny_handlers_test ?_) (by intro q; cases q)
    have LT : PySem.W.Looks (model X.prog X.w) h3 (typeOf (.ref a)) cls := fun A Q E s k q => wpAny_typeOf_ref (k _ _ he3) (by rw [hz3.1]; exact q)
    have LM := PySem.W.exm_one (M := model X.prog X.w) (J3.kIn) LT hb1
    have test : ∀ {Q : Value → Shared → Prop} {E : Value → Shared → Prop}, Q c { s' with heap := h3 } → wpAny (model X.prog X.w) (X.A.mark (some (.ref a))) (eval (.Name x np) X.env) Q E { s' with heap := h3 } := fun {Q E} q => by
      obtain ⟨hg, hdbg, hm | ⟨hm, hv, hnn⟩⟩ := hc
      · exact ld_glob (X := X.suite a ((a, oe3) :: (X.pn ++ pins))) S3 hg hm q hdbg
      · exact ld_blt (X := X.suite a ((a, oe3) :: (X.pn ++ pins))) S3 hg hm hv q hnn hdbg
    refine test (LM.here ?_)
    refine codeAny_handlers_suite_as ?_
    refine HandSPX.lands_againZ fl3 fun h4 fl4 up4 => ?_
    have J4 : Inv X pins σ' H' { s' with heap := h4 } := J.landed nb fl4.1 ((up.trans up3).trans up4) os ag
    obtain ⟨oe4, vs4, he4, hz4, hd4⟩ := fl4.there
    have S4 := J4.suite he4 hd4 na nL nF
    refine store_ok (X := X.suite a ((a, oe4) :: (X.pn ++ pins))) (v := .ref a) S4 hN hi hloc rfl (fun s5 S5 => ?_) (.inr hln)
    refine wpAny_mono ((hsu a oe4 cls d (X.pn ++ pins) hz4 ⟨_, hd4⟩).run [] s5 _ H' _ S5 (hyes a na)) (fun f s6 hsp => ?_) (fun _ _ z => False.elim z)
    have end_ : ∀ {σ6 : L2.St} {H6 : Hp} {Q : Shared → Prop}, Inv (X.suite a ((a, oe4) :: (X.pn ++ pins))) [] σ6 H6 s6 → (∀ s7, Inv X pins (σ6.set i none) H6 s7 → Q s7) →
        wpAny (model X.prog X.w) X.A (do bindName X.env n .none; unbindBehindTheSuite X.env n pos') (fun _ s7 => Q s7) X.xe s6 := fun {σ6 H6 Q} S6 hq => gone_ok (S6.unsuite ok) hN hi hln hq
    cases f with
    | next =>
      obtain ⟨σ6, H6, S6, q6⟩ := hsp
      exact end_ S6 fun s7 J7 => ⟨_, _, J7, q6⟩
    | brk =>
      obtain ⟨σ6, H6, S6, q6⟩ := hsp
      exact end_ S6 fun s7 J7 => ⟨_, _, J7, q6⟩
    | cont =>
      obtain ⟨σ6, H6, S6, q6⟩ := hsp
      exact end_ S6 fun s7 J7 => ⟨_, _, J7, q6⟩
    | ret u =>
      obtain ⟨v6, σ6, H6, S6, r6, q6⟩ := hsp
      exact end_ S6 fun s7 J7 => ⟨_, _, _, J7, r6, q6⟩
  · cases f with
    | next =>
      obtain ⟨σ', H', J', q⟩ := hsp
      exact wpAny_execs_nil ⟨σ', H', J'.ofTry ok, q⟩
    | brk =>
      obtain ⟨σ', H', J', q⟩ := hsp
      exact ⟨σ', H', J'.ofTry ok, q⟩
    | cont =>
      obtain ⟨σ', H', J', q⟩ := hsp
      exact ⟨σ', H', J'.ofTry ok, q⟩
    | ret u =>
      obtain ⟨v, σ', H', J', r, q⟩ := hsp
      exact ⟨v, σ', H', J'.ofTry ok, r, q⟩
end
/-! isinstance(e, c) of an exception that has its dict -/
section
variable {prog : Program} {w : World} {A : Around} {E : Value → Shared → Prop} {s : Shared} {K : PySem.W.Frag} {x D : Addr} {ox oD : Obj}
theorem exd_class {Q : Option Value → Shared → Prop} (C : ExcC K D)
    (X : K.In s.heap) (I : PySem.W.InstAt s.heap x ox D (some oD)) (h : Q (some (.ref D)) { s with toks := s.toks + 1 }) : wpAny (model prog w) A (getAttr? (.ref x) "__class__") Q E s := by
  have hf : PySem.W.findObj K D (some oD) "__class__" = some (.bind (.builtin "getset_descriptor.__get__") (.builtin "object.__class__")) := PySem.W.findObj_data (by obtain ⟨cd, hc, _⟩ := PySem.W.any_some C.hd; rw [hc]; rfl) C.ha C.hn C.ht
  obtain ⟨hp, g, d, t, os⟩ := s
  have L0 := I.type (M := model prog w)
  have L1 := PySem.W.looks_findIn (M := model prog w) X C.hg
  have L2 := PySem.W.looks_findIn (M := model prog w) X C.hk
  have L3 := PySem.W.looks_find (M := model prog w) X I hf
  have sub : PySem.W.Looks (model prog w) hp (isInstance (.ref x) (.type "BaseException")) true := L0.andThen (PySem.W.looks_subIn X C.hs)
  have hx0 : (false && onTheHeap (Value.builtin "BaseException.__getattribute__")) = false := rfl
  have hx2 : (Value.builtin "BaseException.__getattribute__" == Value.builtin "object.__getattribute__") = false := by decide +kernel
  have hx1 : (onTheHeap (Value.ref D) && Value.builtin "BaseException.__getattribute__" == Value.builtin "object.__getattribute__") = false := by rw [hx2]; rfl
  unfold getAttr? getAttrBy? getAttrBy
  refine wpAny_bind (wpAny_mkText (wpAny_bind (wpAny_attempt (wpAny_holding (wpAny_bind (L0.at (wpAny_bind (L1.at ?_))))))))
  show wpAny _ _ (if (onTheHeap (Value.ref D) && Value.builtin "BaseException.__getattribute__" == Value.builtin "object.__getattribute__") = true then _ else _) _ _ _
  rw [hx1, if_neg Bool.false_ne_true]
  unfold getAttrByItsOwn hookBefore
  refine wpAny_bind ?_
  rw [if_pos (show onTheHeap (Value.ref D) = true from rfl)]
  refine L2.at ?_
  refine wpAny_bind (wpAny_attempt (wpAny_holding ?_))
  unfold callGetattribute
  rw [hx0, if_neg Bool.false_ne_true]
  unfold boundAndCalled
  rw [PySem.F.excAttr_ValueError.ga.bind (.ref x)]
  refine wpAny_bind (wpAny_pure ?_)
  show wpAny _ _ (call (.builtin "BaseException.__getattribute__") [.ref x, .str "__class__" t]) _ _ _
  refine wpAny_call (codeAny_call_builtin PySem.F.excAttr_ValueError.ga.plain PySem.F.entry_bexc_ga ?_)
  refine @PySem.W.check_slot (model prog w) _ _ ⟨hp, g, d, t + 1, os⟩ "BaseException.__getattribute__" "BaseException" "__getattribute__" (.ref x) [.str "__class__" t] [] _ (by decide +kernel) (by decide +kernel) sub (PySem.F.args_bexc_ga (.ref x) (.str "__class__" t)) ?_
  unfold Builtin.«object.__getattribute__»
  refine wpAny_bind (wpAny_of_eq (a := ((Value.ref x : Value), [Value.str "__class__" t])) (by first | rfl | (simp only [slotArgs]; rfl)) ?_)
  refine wpAny_bind (wpAny_pure (wpAny_bind (L0.at (wpAny_bind (L3.at ?_)))))
  show wpAny _ _ (holding [Value.builtin "object.__class__"] (call (.builtin "getset_descriptor.__get__") [.builtin "object.__class__", .ref x, .ref D]) >>= ret) _ _ _
  refine wpAny_bind (wpAny_holding (wpAny_call (PySem.W.class_get (s := ⟨hp, g, d, t + 1, os⟩) (ox := ox) (od := some oD) X I C.hm ?_)))
  refine wpAny_pure ?_
  show wpAny _ _ (handedOut (.ref D)) _ _ _
  rw [PySem.W.handedOut_of (v := .ref D) rfl]
  first
    | exact wpAny_pure (wpAny_pure h)
    | exact wpAny_pure h
    | exact wpAny_pure (wpAny_bind (wpAny_pure (wpAny_pure h)))
theorem exd_kit (C : ExcC K D) : PySem.W.KitX K (.ref x) (.ref D) (fun h => PySem.W.InstAt h x ox D (some oD)) where
  ty := fun _ _ _ I => I.type
  it := fun _ _ X _ => by
    obtain ⟨cdD, hcD, _⟩ := PySem.W.any_some C.hd
    unfold PySem.W.clsIn at hcD
    split at hcD
    · rename_i c' d' cd' sl' ho
      intro A' Q' E' s' k q
      unfold isType loadHead
      exact wpAny_bind (wpAny_loadPart (k _ _ (X _ _ ho)) (wpAny_pure q))
    · cases hcD
  ne := (PySem.W.handS_kitx_exc (x := x) (ox := ox) C.hg C.hk C.hs C.hd C.ha C.hn C.ht C.hm).ne
  ca := fun X I k => exd_class C X I k
end
/-- isinstance(e, c), e the exception that the suite holds, its dict at dd -/
def rIsD (K : PySem.W.Frag) (D a dd : Addr) : List V → Hp → VK → Prop := fun xs H Q => ∃ (c : V) (cv : Value) (b : Bool) (fs : List (Str × V)), xs = [.ref a, c] ∧ (∀ u, RelV c u → u = cv) ∧ PySem.W.kitOne K (.ref D) cv = some b ∧ H dd = some (.xd fs) ∧ Q (.bl b) H
def tIsD (K : PySem.W.Frag) (a : Addr) (cls : Value) (d : Option Addr) (D : Addr) (ta : TA) : TE := fun σ H Q => ta σ H fun xs H1 => cls = .ref D ∧ ∃ dd, d = some dd ∧ rIsD K D a dd xs H1 Q
theorem call_isD {X : Cx} {a D dd : Addr} {oe : Obj} {pn : List (Addr × Obj)} (C : ExcC X.K D) (hz : Zc (.ref D) (some dd) oe) (hf : ∃ vs, oe.data = .fields vs) : CallR (X.suite a ((a, oe) :: pn)) (.builtin "isinstance") (rIsD X.K D a dd) := by
  intro pins s σ H xs us Q I r h
  obtain ⟨c, cv, b, fs, rfl, hcv, e, hdd, q⟩ := h
  cases r with
  | cons rx rr =>
    cases rr with
    | cons rt rr =>
      cases rr
      cases rx
      have ec := hcv _ rt
      subst ec
      obtain ⟨hget, _⟩ := I.pin (a, oe) (List.mem_append.mpr (.inl List.mem_cons_self))
      obtain ⟨vs, hv⟩ := hf
      have hx : ObjOk X.prog X.w H s.heap dd (.xd fs) := I.hok dd _ hdd
      obtain ⟨mA, hns, hr⟩ := hx
      obtain ⟨od, ho, hl⟩ := lookIn_ns hns
      have J : PySem.W.InstAt s.heap a oe D (some od) := ⟨hget, hz.1, by unfold PySem.W.notCls; rw [hv] <;> rfl, by rw [hz.2]; exact ho⟩
      exact PySem.W.kia_one (exd_kit C) I.kIn J e (fun z => nomatch z) fun tk => ⟨.bl b, H, I.kept (t' := tk) fun _ _ z => z, rfl, q⟩
/-- isinstance(e, c) as an expression of the suite -/
theorem pe_isD {X : Cx} {a D : Addr} {oe : Obj} {cls : Value} {d : Option Addr} {pn : List (Addr × Obj)} {e e2 : Expr} {ta : TA} {p pos : Pos} (C : ExcC X.K D) (hz : Zc cls d oe) (hf : ∃ vs, oe.data = .fields vs)
    (hg : Gl (X.suite a ((a, oe) :: pn)) "isinstance") (hm : X.mg "isinstance" = none) (ha : PA (X.suite a ((a, oe) :: pn)) [e, e2] ta)
    (hs : starEach [e, e2] X.env = (false, eval e X.env) :: starEach [e2] X.env := by rfl) (hpl : (backTo pos (starEach [e2] X.env)).any (·.1) = false := by rfl) :
    PE (X.suite a ((a, oe) :: pn)) (.Call (.Name "isinstance" p) [e, e2] [] pos) (tIsD X.K a cls d D ta) := by
  refine ⟨fun pins s σ H Q I h => ?_⟩
  refine Call_ (ld_blt I hg hm (show bootBuiltins "isinstance" = some (.builtin "isinstance") by decide +kernel) (PyProof.Rows.callWith_builtin1 (thn (ha.run pos pins s σ H _ I h) fun us s1 ⟨vs, H1, I1, r1, ec, dd, ed, q⟩ => ?_) hs hpl))
  subst ec ed
  exact call_isD C hz hf pins s1 σ H1 vs us _ I1 r1 q
end Gs
/-! ## GsLam -/
/-! A lambda with one parameter, handed as the third argument to a def that calls it. -/
namespace Gs
open PySem PySem.Spec PyProof.Rows L2 LamX
/-- one parameter y, captured names and globals -/
structure Lam1 (sc scope : Scope) (y1 : Str) : Prop where
  kind : scope.kind = .function
  co : scope.isCoroutine = false
  gen : scope.isGenerator = false
  own : ∀ y ∈ scope.names, y.2 ≠ .cell ∧ (y.2 = .local → y.1 = y1)
  par : scope.names.lookup y1 = some .local
  free : ∀ y ∈ scope.names, y.2 = .free → sc.names.lookup y.1 = some .cell ∨ sc.names.lookup y.1 = some .free
def lam1B (sc scope : Scope) (y1 : Str) : Bool :=
  decide (scope.kind = .function) && !scope.isCoroutine && !scope.isGenerator && decide (scope.names.lookup y1 = some .local) && scope.names.all fun y => !decide (y.2 = .cell) && (!decide (y.2 = .local) || decide (y.1 = y1)) && (!decide (y.2 = .free) || decide (sc.names.lookup y.1 = some .cell) || decide (sc.names.lookup y.1 = some .free))
theorem lam1_by {sc scope : Scope} {y1 : Str} (h : lam1B sc scope y1 = true) : Lam1 sc scope y1 := by
  unfold lam1B at h
  simp only [Bool.and_eq_true, Bool.or_eq_true, Bool.not_eq_true', decide_eq_true_eq, decide_eq_false_iff_not, List.all_eq_true] at h
  obtain ⟨⟨⟨⟨h1, h2⟩, h3⟩, h5⟩, h4⟩ := h
  refine ⟨h1, h2, h3, fun y hy => ⟨(h4 y hy).1.1, fun e => ?_⟩, h5, fun y hy e => ?_⟩
  · rcases (h4 y hy).1.2 with z | z
    · exact absurd e z
    · exact z
  · rcases (h4 y hy).2 with (z | z) | z
    · exact absurd e z
    · exact .inl z
    · exact .inr z
theorem Lam1.has {X : Cx} {scope : Scope} {y1 : Str} (L : Lam1 X.env.scope scope y1) (ok : X.Ok) : ∀ y ∈ scope.names, y.2 = .free → ∃ c, X.env.cells.lookup y.1 = some c := fun y hy e => by
  rcases L.free y hy e with k | k
  · exact ok.has _ (.inl k)
  · exact ok.has _ (.inr k)
section
variable {X : Cx} {pins : List (Addr × Obj)} {σ : L2.St} {H HZ : Hp} {s s1 : Shared}
theorem lam_start1 {A : Around} {outer : List Env} {E : XK} {scope : Scope} {f c' : Addr} {h₁ : Heap} {tk : Nat} {y1 : Str} {j : Nat} {x : V} {u : Value} (I : Inv X pins σ H s) (L : Lam1 X.env.scope scope y1) (hNd : X.N.Nodup) (hj : X.N[j]? = some y1) (rx : L2.RelV x u) (e0 : Env0 X.prog X.w X.K X.mg X.base A outer s1 HZ) (hd : A.handled = none)
    (un : Un (frs X.stack) [] H HZ s.heap s1.heap) (hns : h₁.Ns s1.heap.objs.size fun y => ([(y1, u)] : List (Str × Value)).reverse.lookup y) (kp : ∀ b o, s1.heap.get? b = some o → h₁.get? b = some o) :
    Inv (lamCx X A outer s1 HZ E scope f c') [] (σ.set j (some x)) HZ { s1 with heap := h₁, toks := tk } := by
  have hfree := L.has I.ok
  have cm : ∀ {y c}, (cloFrom X.env.cells scope.names []).lookup y = some c → X.env.cells.lookup y = some c := fun {y c} e => by
    rcases cloFrom_mem (PySem.mem_of_lookup e) with hm | ⟨h1, h2⟩
    · cases hm
    · obtain ⟨c1, hc⟩ := hfree _ h1 rfl
      have hc : X.env.cells.lookup y = some c1 := hc
      have e2 : c = c1 := by
        rw [h2, hc] <;> rfl
      rw [e2]
      exact hc
  have look : ∀ {y}, scope.names.lookup y = some .free → ∃ c, (cloFrom X.env.cells scope.names []).lookup y = some c := fun {y} hl => by
    have hy : (y, NameKind.free) ∈ scope.names := PySem.mem_of_lookup hl
    exact mem_lookup (cloFrom_has (cells := X.env.cells) (acc := []) hy)
  have cellK : ∀ {c : Addr} {v : Option Value}, H c = none → s.heap.IsCell c v → h₁.IsCell c v := fun {c v} n ⟨o, ho, hd⟩ => by
    obtain ⟨sl, q⟩ := un.any ho n (by simp)
    exact ⟨_, kp _ _ q, hd⟩
  have noA : ∀ b : Addr, b ∉ (lamCx X A outer s1 HZ E scope f c').ex := fun b z => absurd (show b ∈ ([] : List Addr) from z) (by simp)
  refine ⟨⟨e0.mod, L.kind, rfl, rfl, Nat.le_refl _, fun y z c e1 e2 => I.ok.inj y z c (cm e1) (cm e2), fun y hy => ?_, fun y c z _ => ?_, fun _ => hd, Around.frames_deeper e0.frames, .inr ⟨rfl, rfl⟩, fun b z => absurd z (noA b), e0.bs, e0.bsz, fun b _ _ => noA b,
      fun b z => absurd z (noA b), e0.funs, e0.frf⟩,
    rfl, e0.bare, Un.kept kp, ⟨_, hns, fun i y v e1 e2 e3 => ?_⟩, fun y c e => ?_, e0.hok.fresh (Nat.le_refl _), fun y c e => ?_, fun q hq => absurd (show q ∈ ([] : List (Addr × Obj)) ++ [] from hq) (by simp), e0.hok.kept kp, (by rw [List.length_set]; exact I.len)⟩
  · have hy : scope.names.lookup y = some .cell ∨ scope.names.lookup y = some .free := hy
    rcases hy with hy | hy
    · exact absurd rfl (L.own _ (PySem.mem_of_lookup hy)).1
    · exact look hy
  · have z : false = true := z
    cases z
  · have e1 : X.N[i]? = some y := e1
    have e3 : Vis scope y := e3
    have eL : scope.names.lookup y = some .local → i = j := fun k => by
      have ey := (L.own _ (PySem.mem_of_lookup k)).2 rfl
      have ey : y = y1 := ey
      rw [ey] at e1
      obtain ⟨h1, g1⟩ := List.getElem?_eq_some_iff.mp e1
      obtain ⟨h2, g2⟩ := List.getElem?_eq_some_iff.mp hj
      rcases Nat.lt_trichotomy i j with z | z | z
      · exact absurd (g1.trans g2.symm) (List.pairwise_iff_getElem.mp hNd i j h1 h2 z)
      · exact z
      · exact absurd (g2.trans g1.symm) (List.pairwise_iff_getElem.mp hNd j i h2 h1 z)
    rcases e3 with k | k | k
    · have ey : y = y1 := (L.own _ (PySem.mem_of_lookup k)).2 rfl
      have ei := eL k
      subst ei
      rw [List.getElem?_set_self (by have := (List.getElem?_eq_some_iff.mp e1).1; rw [I.len]; exact this)] at e2
      cases e2
      refine ⟨u, rx, .inl ⟨k, ?_⟩⟩
      rw [ey]
      simp [List.lookup]
    · exact absurd rfl (L.own _ (PySem.mem_of_lookup k)).1
    · have nij : i ≠ j := fun z => by
        rw [z] at e1
        have ey : y = y1 := Option.some.inj (e1.symm.trans hj)
        rw [ey, L.par] at k
        cases k
      rw [List.getElem?_set_ne (Ne.symm nij)] at e2
      obtain ⟨m, hn, hl⟩ := I.loc
      have hvis : Vis X.env.scope y := (L.free _ (PySem.mem_of_lookup k) rfl).elim (fun k => .inr (.inl k)) (fun k => .inr (.inr k))
      obtain ⟨w', r, q⟩ := hl i y v e1 e2 hvis
      obtain ⟨c2, h2⟩ := look k
      refine ⟨w', r, .inr ⟨.inr k, c2, h2, ?_⟩⟩
      have c1 := cm h2
      rcases q with ⟨k', _⟩ | ⟨_, c3, e', z⟩
      · have k' : X.env.scope.names.lookup y = some .local := k'
        rcases L.free _ (PySem.mem_of_lookup k) rfl with k2 | k2 <;> rw [show X.env.scope.names.lookup y = _ from k2] at k' <;> cases k'
      · rw [c1] at e'
        cases e'
        exact cellK (I.freeC y _ c1) z
  · obtain ⟨w', z⟩ := I.cell y c (cm e)
    exact ⟨w', cellK (I.freeC y c (cm e)) z⟩
  · obtain ⟨v, o, ho, hd⟩ := I.cell y c (cm e)
    exact un.free c o ho (I.freeC y c (cm e)) (by simp)
abbrev gvCx (X : Cx) (Ng : List Str) (qg : Str) (sg : Scope) (g : Addr) (cdg : Value) (s : Shared) (H : Hp) : Cx := (cxOf C8.CX0 X.prog X.w X.K X.mg X.base Ng qg sg g cdg X.A X.stack s H C8.E0).nox
/-- x(e), in the def that got the lambda -/
theorem pe_act1 {Ng : List Str} {qg : Str} {sg : Scope} {g f c' : Addr} {cdg pm ctv : Value} {params : Arguments} {body : Expr} {scope : Scope} {k i j : Nat} {a y1 : Str} {e : Expr} {ta : TA} {tb : TE} {p1 p2 : Pos}
    (I : Inv X pins σ H s) (L : Lam1 X.env.scope scope y1) (hNd : X.N.Nodup) (hj : X.N[j]? = some y1) (hf : s.heap.get? f = some (PySem.W.kla_obj "<lambda>" (X.env.qual ++ "<lambda>") params body scope (cloFrom X.env.cells scope.names []) pm c' ctv)) (hfn : H f = none) (hfr : f ∉ frs X.stack)
    (hbind : ∀ u, bindArgs (PySem.W.kla_fn "<lambda>" (X.env.qual ++ "<lambda>") params body scope (cloFrom X.env.cells scope.names []) pm (.ref c') ctv) ⟨[u], []⟩ = pure [(y1, u)])
    (hr : Room (k + 1) (X.A.deeper (envOfC qg sg s.heap.objs.size g cdg)))
    (hbody : ∀ (A : Around) (outer : List Env) (s : Shared) (H : Hp), Room k (A.deeper (lamEnv X scope s.heap.objs.size f c')) → PE (lamCx X A outer s H (fun _ _ _ => False) scope f c') body tb)
    (hN : Ng[i]? = some a) (hv : Vis sg a) (ha : PA (gvCx X Ng qg sg g cdg s H) [e] ta)
    (hse : starEach [e] (gvCx X Ng qg sg g cdg s H).env = (false, eval e (gvCx X Ng qg sg g cdg s H).env) :: starEach [] (gvCx X Ng qg sg g cdg s H).env := by rfl) (hd : (a == ("__debug__" : Str)) = false := by decide) (hcd : (a == ("__classdict__" : Str)) = false := by decide) :
    PE (gvCx X Ng qg sg g cdg s H) (.Call (.Name a p1) [e] [] p2)
      (fun σZ HZ Q => σZ[i]? = some (some (.ref f)) ∧ ta σZ HZ fun vs H1 => ∃ x, vs = [x] ∧ H1 c' = some (CodeO c' (X.env.qual ++ "<lambda>")) ∧ tb (σ.set j (some x)) H1 Q) := by
  refine ⟨fun pinsZ sZ σZ HZ Q IZ h => ?_⟩
  obtain ⟨hs, h⟩ := h
  refine wpAny_Call_Name_kw (thn ((pe_var (pos := p1) (i := i) hN hv hd hcd).run pinsZ sZ σZ HZ (fun v H1 => v = .ref f ∧ H1 = HZ) IZ ⟨.ref f, hs, rfl, rfl⟩) fun u s1 ⟨v, H1, I1, r1, q1⟩ => ?_)
  obtain ⟨ev, eH⟩ := q1
  subst ev
  rw [eH] at I1
  obtain rfl : u = Value.ref f := r1
  have of1 : s1.heap.get? f = some (PySem.W.kla_obj "<lambda>" (X.env.qual ++ "<lambda>") params body scope (cloFrom X.env.cells scope.names []) pm c' ctv) := I1.base.keep f _ hf hfn hfr (fun z => nomatch (show f ∈ ([] : List Addr) from z))
  refine PySem.W.callWith_F ⟨_, _, _, _, of1⟩ (thn (ha.run p2 pinsZ s1 σZ HZ _ I1 h) fun us s2 ⟨vs, H2, I2, r2, x, evs, hc, ht⟩ => ?_) hse rfl
  subst evs
  obtain ⟨u1, eu, rx⟩ := vals1 r2
  subst eu
  have of2 : s2.heap.get? f = some (PySem.W.kla_obj "<lambda>" (X.env.qual ++ "<lambda>") params body scope (cloFrom X.env.cells scope.names []) pm c' ctv) := I2.base.keep f _ hf hfn hfr (fun z => nomatch (show f ∈ ([] : List Addr) from z))
  refine ⟨⟨_, _, _, _, of2⟩, ?_⟩
  have un : Un (frs X.stack) [] H H2 s.heap s2.heap := I2.base
  obtain ⟨⟨oc, vs, t, hoc, hdc, hvc⟩, _, _⟩ := I2.hok c' _ hc
  have rc : codeAny (model X.prog X.w) (X.A.deeper (envOfC qg sg s.heap.objs.size g cdg)) (.call (.ref f) ⟨[u1], []⟩) (CR (L2.CX X.prog X.w) (envOfC qg sg s.heap.objs.size g cdg :: X.stack) X.prog X.w H2 s2 Q (fun _ _ _ => False)) s2 := by
    refine PySem.W.kla_callFunE hr.depth of2 rfl L.co L.gen rfl ⟨c', oc, vs, t, rfl, hoc, hdc, hvc⟩ ?_
    rw [hbind]
    refine wpAny_pure (wpAny_newFunctionEnv (fun y hy => (L.own y hy).1) (fun y hy => ?_) (fun h₁ hns hsb => ⟨I2.nolimit.fresh _ hsb, ?_⟩) L.kind)
    · rw [List.mem_singleton.mp hy]
      exact L.par
    show codeAny _ _ (.expr body (lamEnv X scope s2.heap.objs.size f c')) _ _
    have kp : ∀ b o, s2.heap.get? b = some o → h₁.get? b = some o := fun b o e => hsb.extBut b o (Nat.ne_of_lt (Heap.lt_size e)) (Heap.get?_push_of_some _ e)
    have J := lam_start1 (E := fun _ _ _ => False) (f := f) (c' := c') (tk := s2.toks + ([(y1, u1)] : List (Str × Value)).length) (A := X.A.deeper (envOfC qg sg s.heap.objs.size g cdg)) (outer := envOfC qg sg s.heap.objs.size g cdg :: X.stack) I L hNd hj rx I2.env0 hr.hd un hns kp
    refine PySem.W.kla_codeExpr (wpAny_mono ((hbody _ _ s2 H2 (hr.deeper _)).run [] _ _ H2 Q J ht) (fun v s' hq => ?_) fun e s' hq => hq)
    obtain ⟨w', H', J', rv, q⟩ := hq
    exact ⟨w', H', J'.os, J'.bare, J'.base, J'.hok, rv, q⟩
  have hx : Passes (L2.CX X.prog X.w) (gvCx X Ng qg sg g cdg s H) (fun _ _ _ => False) := passes_call LamX.takes0 fun _ _ _ _ h => h
  refine wpAny_call (codeAny_mono rc fun r s' hq => ?_)
  cases r with
  | error e => exact hx pinsZ σZ H2 s2 e s' I2 hq
  | ok fl =>
    cases fl with
    | ret u => exact I2.after hq
    | next => exact False.elim hq
    | brk => exact False.elim hq
    | cont => exact False.elim hq
end
/-- the def that calls what it got as its third argument -/
def GivesTo3 (X : Cx) (Ng : List Str) (x : Str) (sg : Scope) (g : Addr) (cdg : Value) (bg : List Stmt) (a : Str) (q : Str) (k : Nat) (TT : (V → Hp → VK → Prop) → V → V → Hp → VK → Prop) : Prop :=
  ∀ (f c' : Addr) (s : Shared) (H : Hp) (Q : VK) (v1 v2 : V) (tl : V → Hp → VK → Prop), Room (k + 1) (gvCx X Ng x sg g cdg s H).A →
    (∀ (e : Expr) (ta : TA) (p1 p2 : Pos), PA (gvCx X Ng x sg g cdg s H) [e] ta → starEach [e] (gvCx X Ng x sg g cdg s H).env = (false, eval e (gvCx X Ng x sg g cdg s H).env) :: starEach [] (gvCx X Ng x sg g cdg s H).env →
      PE (gvCx X Ng x sg g cdg s H) (.Call (.Name a p1) [e] [] p2) (fun σZ HZ Q => σZ[2]? = some (some (.ref f)) ∧ ta σZ HZ fun vs H1 => ∃ x, vs = [x] ∧ H1 c' = some (CodeO c' q) ∧ tl x H1 Q)) →
    H c' = some (CodeO c' q) → TT tl v1 v2 H Q →
    ∃ t, PSs (gvCx X Ng x sg g cdg s H) bg t ∧ t { nx := fun _ H' => Q .non H', rt := Q } (L2.start Ng [v1, v2, .ref f]) H
def tLam3 (T : List (Addr × Str)) (TT : (V → Hp → VK → Prop) → V → V → Hp → VK → Prop) (j : Nat) (t1 t2 t : TE) : TE := fun σ H Q => t1 σ H fun v1 H1 => t2 σ H1 fun v2 H2 => Tabs T H2 ∧ ∀ H3, ExtN H2 H3 → Tabs T H3 → TT (fun x H' Q' => t (σ.set j (some x)) H' Q') v1 v2 H3 Q
section
variable {X : Cx}
/-- x(e1, e2, lambda y: body) -/
theorem pe_lamcall3 {T : List (Addr × Str)} {TT : (V → Hp → VK → Prop) → V → V → Hp → VK → Prop} {x a a1 a2 y1 : Str} {g c P : Addr} {k j : Nat} {pg : Arguments} {bg : List Stmt} {sg : Scope} {dV kV doc pm cdv ct oc : Value} {an od : Option Addr} {osl : Array (Option Value)} {Ng : List Str}
    {params : Arguments} {e1 e2 body : Expr} {scope : Scope} {t1 t2 t : TE} {p lpos pos : Pos} (hg : Gl X x) (hm : X.mg x = some (.ref g)) (hk : PySem.W.keepIn X.K (.ref g) = true)
    (lk : X.K.lookup g = some ⟨oc, od, .func (PySem.W.fnOf x x pg bg sg dV kV doc pm an cdv ct), osl⟩) (hcg : PySem.W.codeIn X.K cdv x = true) (hb : L2.Binds X.K (PySem.W.fnOf x x pg bg sg dV kV doc pm an cdv ct) [a1, a2, a] []) (Sg : FnScope Ng [a1, a2, a] sg) (hNg : Ng[2]? = some a) (hva : Vis sg a)
    (hG : GivesTo3 X Ng x sg g cdv bg a (X.env.qual ++ "<lambda>") k TT) (he1 : PE X e1 t1) (he2 : PE X e2 t2)
    (TB : TabB X.base X.mg c P) (hcode : X.env.code = .ref c) (hmT : (P, X.env.qual ++ "<lambda>") ∈ T) (hu : ∀ p ∈ T, p.1 = P → p.2 = X.env.qual ++ "<lambda>") (hr : Room (k + 2) X.A) (hNd : X.N.Nodup) (hj : X.N[j]? = some y1) (L : Lam1 X.env.scope scope y1) (hdef : defaultsOf params X.env = ([], []))
    (hbind : ∀ (q : Str) (cl : List (Str × Addr)) (pm cv ctv u : Value), bindArgs (PySem.W.kla_fn "<lambda>" q params body scope cl pm cv ctv) ⟨[u], []⟩ = pure [(y1, u)])
    (hbody : ∀ (A : Around) (outer : List Env) (s : Shared) (H : Hp) (f c' : Addr), Room k (A.deeper (lamEnv X scope s.heap.objs.size f c')) → PE (lamCx X A outer s H (fun _ _ _ => False) scope f c') body t)
    (hs1 : starEach [e1, e2, .Lambda params body scope lpos] X.env = (false, eval e1 X.env) :: starEach [e2, .Lambda params body scope lpos] X.env := by rfl) (hs2 : starEach [e2, .Lambda params body scope lpos] X.env = (false, eval e2 X.env) :: starEach [.Lambda params body scope lpos] X.env := by rfl)
    (hpl : (backTo pos (starEach [e2, .Lambda params body scope lpos] X.env)).any (·.1) = false := by rfl)
    (hdb : (x == ("__debug__" : Str)) = false := by decide) (hd : (a == ("__debug__" : Str)) = false := by decide) (hcd : (a == ("__classdict__" : Str)) = false := by decide) :
    PE X (.Call (.Name x p) [e1, e2, .Lambda params body scope lpos] [] pos) (tLam3 T TT j t1 t2 t) := by
  refine ⟨fun pins s σ H Q I h => ?_⟩
  refine wpAny_Call_Name_kw (ld_glob I hg hm ?_ hdb)
  refine PySem.W.callWith_K (h₀ := X.base) I.ok.mod.kin hk ?_ hs1 hpl
  rw [hs1]
  show wpAny _ _ (spliced ((false, eval e1 X.env) :: backTo pos (starEach [e2, .Lambda params body scope lpos] X.env))) _ _ s
  rw [hs2]
  refine Calls.spliced_cons (thn (he1.run pins s σ H _ I h) fun u1 s1 ⟨v1, H1, I1, r1, h1⟩ => ?_)
  show wpAny _ _ (spliced ((false, eval e2 X.env) :: backTo pos (starEach [.Lambda params body scope lpos] X.env))) _ _ s1
  refine Calls.spliced_cons (thn (he2.run pins s1 σ H1 _ I1 h1) fun u2 s2 ⟨v2, H2, I2, r2, hT, h⟩ => ?_)
  show wpAny _ _ (spliced ((false, eval (.Lambda params body scope lpos) X.env) :: backTo pos (starEach [] X.env))) _ _ s2
  refine Calls.spliced_cons (lam_make2 I2 TB hcode hmT hu hT hdef (L.has I.ok) fun f c' pm' ctv H3 s' I3 eN T3 hf hfn hfr hco => ?_)
  refine Calls.spliced_nil ⟨I3.kIn, ?_⟩
  have rc : codeAny (model X.prog X.w) X.A (.call (.ref g) ⟨[u1, u2, .ref f], []⟩) (CR C8.CX0 X.stack X.prog X.w H3 s' Q C8.E0) s' := by
    refine run_ofS (N := Ng) (ps := [a1, a2, a]) (us := [u1, u2, .ref f]) (vs := [v1, v2, .ref f]) lk hcg Sg hr I3.env0 (hb s' [u1, u2, .ref f] I3.kIn rfl) (.cons r1 (.cons r2 (.cons rfl .nil))) rfl fun hr' => ?_
    obtain ⟨t', ht', hq'⟩ := hG f c' s' H3 Q v1 v2 (fun x H' Q' => t (σ.set j (some x)) H' Q') hr' (fun e ta p1 p2 ha hse => pe_act1 (i := 2) (j := j) I3 L hNd hj hf hfn hfr (fun u => hbind _ _ _ _ _ u) hr' (fun A outer s H hr2 => hbody A outer s H f c' hr2) hNg hva ha hse hd hcd) hco (h H3 eN T3)
    exact ⟨t', ht'.nox, hq'⟩
  refine wpAny_call (codeAny_mono rc fun r s2 hq => ?_)
  cases r with
  | error e => exact (show False from hq).elim
  | ok fl =>
    cases fl with
    | ret u => exact I3.after hq
    | next => exact False.elim hq
    | brk => exact False.elim hq
    | cont => exact False.elim hq
end
end Gs
/-! ## GsOwn -/
/-! len(o) by the class's own __len__; o != p by the class's own __eq__. -/
namespace Gs
open PySem PySem.Spec PyProof.Rows L2
section
variable {X : Cx} {k : Nat} {C f : Addr} {fd : FuncData} {ps : List Str} {sp : Sp}
theorem run_in {A : Around} {pins : List (Addr × Obj)} {s : Shared} {σ : L2.St} {H : Hp} {vs : List V} {us : List Value} {Q : VK} {E1 : Value → Shared → Prop} (F : FnOk X.prog X.w X.K X.mg X.base CX0 k f fd ps sp) (hb : Binds X.K fd ps []) (sb : Sub X k A)
    (I : Inv X pins σ H s) (r : Vals vs us) (h : sp vs H Q (fun _ _ _ => False)) : wpAny (model X.prog X.w) A (call (.ref f) us) (EP X pins σ Q) E1 s := by
  have e0 : Env0 X.prog X.w X.K X.mg X.base A X.stack s H := by
    have e := I.env0
    exact ⟨by rw [sb.fr]; exact e.frames, e.mod, e.bs, e.bsz, e.funs, e.frf, e.hok, e.bare⟩
  have hl := F.len _ _ _ _ h
  refine wpAny_call (codeAny_mono (F.run A X.stack s H ⟨us, []⟩ us vs _ (fun _ _ _ => False) sb.room e0 (by
    have := hb s us I.kIn (by rw [List.append_nil, ← hl, r.length])
    simpa using this) r h) fun r s' hq => ?_)
  cases r with
  | error e => exact False.elim hq
  | ok fl =>
    cases fl with
    | ret w => exact I.after hq
    | next => exact False.elim hq
    | brk => exact False.elim hq
    | cont => exact False.elim hq
/-- len(o), o an instance of C -/
def rLenO (C : Addr) (sp : Sp) : List V → Hp → VK → Prop := fun xs H Q => ∃ (a dx : Addr) (fs : List (Str × V)), xs = [.ref a] ∧ H a = some (.ins C dx fs) ∧ sp [.ref a] H (fun v H' => ∃ n : Int, v = .int n ∧ (0 ≤ n ∧ n < 2 ^ 63) ∧ Q (.int n) H') (fun _ _ _ => False)
theorem call_lenO (F : FnOk X.prog X.w X.K X.mg X.base CX0 k f fd ps sp) (hs : PySem.W.findIn X.K (.ref C) "__len__" = some (some (.ref f))) (hf : PySem.W.isFn X.K (.ref f) = true) (hb : Binds X.K fd ps []) (hr : Room (k + 1) X.A) : CallR X (.builtin "len") (rLenO C sp) := by
  intro pins s σ H xs us Q I r h
  obtain ⟨a, dx, fs, rfl, ha, h⟩ := h
  obtain ⟨u, rfl, ru⟩ := vals1 r
  cases ru
  obtain ⟨mA, J, _⟩ := ins_get I.hok ha
  obtain ⟨od, J, _⟩ := J.look
  obtain ⟨m, hF⟩ := I.fr
  have sb : Sub X (k + 1) X.A := ⟨hr, rfl⟩
  refine PySem.W.len_K hF I.ok.mod.kin J hs hf (wpAny_mono (run_in (E1 := X.xe) (vs := [V.ref a]) F hb sb.in1 I (.cons rfl .nil) h) (fun v s' q => ?_) fun _ _ x => x)
  obtain ⟨v', H', I', rv, n, rfl, hn, q⟩ := q
  obtain ⟨t, rfl⟩ := rv
  exact ⟨hn, .int n, H', I'.tok _, ⟨_, rfl⟩, q⟩
end
section
variable {prog : Program} {w : World} {A : Around} {E : Value → Shared → Prop} {s : Shared} {K : PySem.W.Frag} {x C f : Addr} {ox : Obj} {od : Option Obj} {name : Str} {id : String}
theorem ifBound_B {M : Model} {args : List Value} {Q : Option Value → Shared → Prop} (X : K.In s.heap) (I : PySem.W.InstAt s.heap x ox C od) (hs : PySem.W.findIn K (.ref C) name = some (some (.builtin id))) (hb : ∀ self, bindSpecial (.builtin id) self = pure (.builtin id, [self]))
    (h : wpAny M A (call (.builtin id) (.ref x :: args)) (fun v => Q (some v)) E s) : wpAny M A (callSpecialIfBound? (.ref x) name args) Q E s := by
  simp only [callSpecialIfBound?, bindSpecialIfBound?]
  refine wpAny_holding (wpAny_bind (wpAny_bind (wpAny_bind (I.type.here ((PySem.W.looks_findIn X hs).here ?_)))))
  refine wpAny_bind (wpAny_askSetting (wpAny_ite ?_))
  have fin : wpAny M A (call (.builtin id) ([.ref x] ++ args) >>= fun v => pure (some v)) Q E s := wpAny_bind (wpAny_mono h (fun v s' h' => wpAny_pure h') fun _ _ h' => h')
  rw [hb]
  split
  · exact wpAny_bind (wpAny_pure (wpAny_pure (by exact fin)))
  · exact wpAny_tryCatch (wpAny_bind (wpAny_pure (wpAny_pure (by exact fin))))
/-- o != p -/
theorem ne_own {y : Addr} {Q : Value → Shared → Prop} (hu : A.units + 1 < cLine) (X : K.In s.heap) (I : PySem.W.InstAt s.heap x ox C od) (ty : PySem.W.Looks (model prog w) s.heap (typeOf (.ref y)) (.ref C))
    (hm : PySem.W.mroIn K C (.type "object") = some true) (hn : PySem.W.findIn K (.ref C) "__ne__" = some (some (.builtin "object.__ne__"))) (hs : PySem.W.findIn K (.ref C) "__eq__" = some (some (.ref f))) (hf : PySem.W.isFn K (.ref f) = true)
    (h : wpAny (model prog w) A.in1 (call (.ref f) [.ref x, .ref y]) (fun v s' => ∃ c, v = .bool c ∧ Q (.bool (!c)) s') (fun _ _ => False) s) : wpAny (model prog w) A (richCompare .NotEq (.ref x) (.ref y)) Q E s := by
  have sub : PySem.W.Looks (model prog w) s.heap (isInstance (.ref x) (.type "object")) true := I.type.andThen (PySem.W.looks_mroIn X hm)
  have one : wpAny (model prog w) A (tryCompare (.ref x) "__ne__" (.ref y)) (fun r s' => ∃ v, r = some v ∧ Q v s') E s := by
    unfold tryCompare
    refine wpAny_bind (ifBound_B X I hn F.cmp_object.ne.bind (wpAny_call (codeAny_call_builtin F.cmp_object.ne.plain F.cmpEntry_ne
      (@PySem.W.check_slot (model prog w) _ _ s "object.__ne__" "object" "__ne__" (.ref x) [.ref y] [] _ F.cmpKind_ne F.cmpSplit_ne sub (F.cmpArgs_ne _ _) ?_))))
    unfold Builtin.«object.__ne__»
    refine wpAny_bind (wpAny_of_eq (a := ((Value.ref x : Value), [Value.ref y])) (by first | rfl | (simp only [slotArgs]; rfl)) ?_)
    refine wpAny_bind (wpAny_cRoomFor (show A.units + 1 < cLine by omega) ?_)
    refine wpAny_bind (PySem.W.ifBound_K X I hs hf (wpAny_mono h (fun v s' hv => ?_) fun _ _ e => False.elim e))
    obtain ⟨c, rfl, q⟩ := hv
    refine wpAny_bind (wpAny_truthy_bool ?_)
    exact wpAny_pure (wpAny_pure ⟨_, rfl, q⟩)
  unfold richCompare
  simp only [oneThing_ref]
  refine wpAny_holding (wpAny_bind (wpAny_cRoomFor (show A.units < cLine by omega) ?_))
  refine wpAny_bind (I.type.here (wpAny_bind (ty.here ?_)))
  rw [if_neg (by simp)]
  refine wpAny_bind (wpAny_pure ?_)
  simp only [Bool.false_eq_true, if_false]
  refine wpAny_bind (wpAny_mono one (fun r s' z => ?_) fun _ _ e => e)
  obtain ⟨v, rfl, hq⟩ := z
  exact wpAny_pure hq
end
section
variable {X : Cx} {k : Nat} {C f : Addr} {fd : FuncData} {ps : List Str} {sp : Sp}
def rNeO (C : Addr) (sp : Sp) : R2 := fun x y H Q => ∃ (a b dx dy : Addr) (fs gs : List (Str × V)), x = .ref a ∧ y = .ref b ∧ H a = some (.ins C dx fs) ∧ H b = some (.ins C dy gs) ∧ sp [.ref a, .ref b] H (fun v H' => ∃ c : Bool, v = .bl c ∧ Q (.bl (!c)) H') (fun _ _ _ => False)
theorem op_neO (F : FnOk X.prog X.w X.K X.mg X.base CX0 k f fd ps sp) (hm : PySem.W.mroIn X.K C (.type "object") = some true) (hn : PySem.W.findIn X.K (.ref C) "__ne__" = some (some (.builtin "object.__ne__"))) (hs : PySem.W.findIn X.K (.ref C) "__eq__" = some (some (.ref f))) (hf : PySem.W.isFn X.K (.ref f) = true)
    (hb : Binds X.K fd ps []) (hr : Room (k + 1) X.A) : OpR X (compareOp .NotEq) (rNeO C sp) := by
  intro pins s σ H x y u v Q I rx ry h
  obtain ⟨a, b, dx, dy, fs, gs, rfl, rfl, ha, hb', h⟩ := h
  cases rx
  cases ry
  obtain ⟨mA, J, _⟩ := ins_get I.hok ha
  obtain ⟨mB, J', _⟩ := ins_get I.hok hb'
  obtain ⟨od, J, _⟩ := J.look
  obtain ⟨od', J', _⟩ := J'.look
  have sb : Sub X (k + 1) X.A := ⟨hr, rfl⟩
  have hu := hu_of (k := k + 1) hr
  show wpAny (model X.prog X.w) X.A (richCompare .NotEq (.ref a) (.ref b)) (EP X pins σ Q) X.xe s
  refine ne_own (by omega) I.kIn J J'.type hm hn hs hf (wpAny_mono (run_in (E1 := fun _ _ => False) (vs := [V.ref a, V.ref b]) F hb sb.in1 I (.cons rfl (.cons rfl .nil)) h) (fun v s' q => ?_) fun _ _ x => x)
  obtain ⟨v', H', I', rv, c, rfl, q⟩ := q
  cases rv
  exact ⟨c, rfl, .bl (!c), H', I', rfl, q⟩
end
end Gs
/-! ## GsEqT -/
/-! Two dicts of tuple keys whose values are equal: != is False. -/
namespace Gs
open PySem PySem.Spec PyProof.Rows L2
section
variable {prog : Program} {w : World} {A : Around} {E : Value → Shared → Prop} {s : Shared} {K : Type} [DecidableEq K] {knd : HeapKind prog w K}
theorem gq_same {nm : String} {a b : Addr} {xs ys : List (K × Addr × Value)} {Q : Bool → Shared → Prop} (ha : (a == sysModules) = false) (hb : (b == sysModules) = false)
    (da : s.heap.DictOfH knd a xs) (db : s.heap.DictOfH knd b ys) (hl : xs.length = ys.length) (hu : knd.room A)
    (hits : ∀ (i : Nat) k p v, xs[i]? = some (k, p, v) → ∃ (j : Nat) (q : Addr) (v' : Value), ys[j]? = some (k, q, v') ∧ SeqAt.EqP prog w A s v v' true) (h : Q true s) :
    wpAny (model prog w) A (Builtin.Dict.samePairs nm a b) Q E s := by
  obtain ⟨oa, es, ep, hoa, _, hda, hea, hisa, hna⟩ := da
  obtain ⟨ob, es', ep', hob, _, hdb, heb, hisb, hnb⟩ := db
  have hla : es.size = xs.length := size_of_entries hea
  have hlb : es'.size = ys.length := size_of_entries heb
  unfold Builtin.Dict.samePairs Builtin.Dict.showsAll
  rw [if_neg (show ¬ (a == sysModules) = true by rw [ha]; exact Bool.false_ne_true), if_neg (show ¬ (b == sysModules) = true by rw [hb]; exact Bool.false_ne_true)]
  refine wpAny_bind (wpAny_pure (wpAny_bind (wpAny_pure ?_)))
  refine wpAny_bind (wpAny_dictEntries hoa hda ?_)
  dsimp only
  refine wpAny_bind (wpAny_dictEntries hob hdb ?_)
  have hsz : es.size = es'.size := by rw [hla, hlb, hl]
  rw [if_neg (by rw [hsz]; simp)]
  refine wpAny_bind (wpAny_dictEpoch hoa hda ?_)
  refine wpAny_bind ?_
  rw [Std.Legacy.Range.forIn_eq_forIn_range']
  simp only [Std.Legacy.Range.size, Nat.sub_zero, Nat.add_sub_cancel, Nat.div_one]
  refine wpAny_forIn_list _ (fun rest q s' => s' = s ∧ q = (none, ()) ∧ ∃ i, rest = List.range' i (es.size - i) ∧ i ≤ es.size) _ ?_ ?_ _ _ ⟨rfl, rfl, 0, by simp, Nat.zero_le _⟩
  · rintro x rest q s' ⟨rfl, rfl, i, hr, hi⟩
    have hlt : i < es.size := by
      rcases Nat.lt_or_ge i es.size with h | h
      · exact h
      · rw [Nat.sub_eq_zero_of_le h] at hr; simp at hr
    obtain ⟨rfl, hrest⟩ : x = i ∧ rest = List.range' (i + 1) (es.size - (i + 1)) := by
      have e : es.size - i = (es.size - (i + 1)) + 1 := by omega
      rw [e, List.range'_succ] at hr
      injection hr with h1 h2
      exact ⟨h1, h2⟩
    have hxl : x < xs.length := by rw [← hla]; exact hlt
    obtain ⟨k, p, v, hx⟩ : ∃ k p v, xs[x]? = some (k, p, v) := ⟨xs[x].1, xs[x].2.1, xs[x].2.2, List.getElem?_eq_getElem hxl⟩
    have hex : es[x]? = some (entryOfKey knd (k, p, v)) := by rw [entry_at hea x, hx]; rfl
    refine wpAny_bind (wpAny_dictEntries hoa hda ?_)
    rw [hex]
    show wpAny _ _ (holding [Value.ref p, v] _ >>= _) _ _ _
    obtain ⟨j, q, v', hy, heq⟩ := hits x k p v hx
    have hkey : knd.is s'.heap k p := hisa _ (List.mem_of_getElem? hx)
    refine wpAny_bind (wpAny_holding ?_)
    show wpAny _ _ (PySem.dictFind b (Value.ref p) (knd.hash k) >>= _) _ _ _
    refine wpAny_bind (wpAny_dictFind_heap hu hkey hob hdb heb hisb hnb (fun hno => absurd hy (hno j (q, v'))) fun j' p' hj' => ?_)
    have ej : j' = j := idxH_unique hnb hj' hy
    subst ej
    have hey : es'[j']? = some (entryOfKey knd (k, q, v')) := by rw [entry_at heb j', hy]; rfl
    refine wpAny_bind (wpAny_dictEntries hob hdb ?_)
    rw [hey]
    show wpAny _ _ (holding [v'] (eqBool v v')) _ _ _
    refine wpAny_holding (heq _ _ ?_)
    show wpAny _ _ (if (!true) = true then _ else _) _ _ _
    rw [if_neg (by decide)]
    refine wpAny_bind (wpAny_dictEpoch hoa hda ?_)
    rw [if_neg (by simp)]
    exact wpAny_pure ⟨rfl, rfl, x + 1, hrest, hlt⟩
  · rintro q s' ⟨rfl, rfl, i, hr, hi⟩
    exact wpAny_pure h
theorem gq_ne {a b : Addr} {xs ys : List (K × Addr × Value)} {Q : Value → Shared → Prop} (ha : (a == sysModules) = false) (hb : (b == sysModules) = false)
    (da : s.heap.DictOfH knd a xs) (db : s.heap.DictOfH knd b ys) (hl : xs.length = ys.length) (hu : knd.room A.in1) (hu2 : A.units < cLine)
    (hits : ∀ (i : Nat) k p v, xs[i]? = some (k, p, v) → ∃ (j : Nat) (q : Addr) (v' : Value), ys[j]? = some (k, q, v') ∧ SeqAt.EqP prog w A.in1 s v v' true) (h : Q (.bool false) s) :
    wpAny (model prog w) A (compareOp .NotEq (.ref a) (.ref b)) Q E s := by
  refine wpAny_richCompare_same_room (op := .NotEq) da.typeIs db.typeIs PySem.F.slot_dict_ne (wpAny_call_entry PySem.F.slot_dict_ne da.typeIs PySem.F.entry_dict_ne ?_ (PySem.F.args_dict_ne_2 _ _)) hu2
  show wpAny _ _ (Builtin.Dict.dictSlotArgs "__ne__" ⟨[.ref a, .ref b], []⟩ >>= _) _ _ s
  refine wpAny_bind ?_
  unfold Builtin.Dict.dictSlotArgs
  refine wpAny_bind (wpAny_notOrdered_dict da.typeIs ?_)
  show wpAny _ _ (pure (Value.ref a, Value.ref b)) _ _ s
  refine wpAny_pure ?_
  refine wpAny_bind (wpAny_isInstance (T := "dict") db.typeIs PySem.F.sub_dict_dict ?_)
  simp only [Bool.not_true, Bool.false_eq_true, if_false]
  refine wpAny_bind (wpAny_pure (wpAny_bind (wpAny_pure ?_)))
  refine wpAny_bind (gq_same ha hb da db hl hu hits ?_)
  refine wpAny_pure ⟨_, rfl, ?_, ?_⟩
  · exact fun x => nomatch x
  · simpa using h
end
theorem kt_pair {H : Hp} {F : V → V → Prop} : ∀ {ks ls : List (List Key × V)}, Paired (fun p q => p.1 = q.1 ∧ F p.2 q.2) ks ls → ∀ {xs ys : List (List Key × Addr × Value)}, KT H ks xs → KT H ls ys → ∀ (i : Nat) k p v, xs[i]? = some (k, p, v) →
    ∃ (q : Addr) (v' : Value) (a b : V), ys[i]? = some (k, q, v') ∧ RelV a v ∧ RelV b v' ∧ F a b
  | _, _, .nil, _, _, .nil, .nil, i, k, p, v, h => by simp at h
  | _, _, .cons h t, _, _, .cons h1 t1, .cons h2 t2, i, k, p, v, e => by
    cases i with
    | zero =>
      have e' := Option.some.inj e
      subst e'
      obtain ⟨a1, a2, a3⟩ := h1
      obtain ⟨b1, b2, b3⟩ := h2
      refine ⟨_, _, _, _, congrArg some (Prod.ext ?_ rfl), a3, b3, h.2⟩
      show _ = k
      rw [← b1, ← h.1, a1]
    | succ i => exact kt_pair t t1 t2 i k p v (by simpa using e)
section
variable {X : Cx}
/-- a != b, two dicts with the same tuples as keys in the same order, their values equal -/
def rNeT (K : PySem.W.Frag) : R2 := fun x y H Q => ∃ (a b : Addr) (ks ls : List (List Key × V)) (n : Nat), x = .ref a ∧ y = .ref b ∧ n ≤ 60 ∧ H a = some (.dT ks) ∧ H b = some (.dT ls) ∧ Paired (fun p q => p.1 = q.1 ∧ EqV K H n p.2 q.2) ks ls ∧ Q (.bl false) H
theorem op_neT (hu : X.A.units + 64 < cLine) : OpR X (compareOp .NotEq) (rNeT X.K) := by
  intro pins s σ H x y v u Q I rx ry h
  obtain ⟨a, b, ks, ls, n, rfl, rfl, hn, ea, eb, hp, q⟩ := h
  cases rx
  cases ry
  obtain ⟨z1, y1, xs, r1, d1⟩ := dt_of I.hok ea
  obtain ⟨z2, y2, ys, r2, d2⟩ := dt_of I.hok eb
  have l1 := r1.length
  have l2 := r2.length
  have l3 := hp.length
  refine gq_ne y1 y2 d1 d2 (by omega) (show X.A.units + 1 < cLine by omega) (by omega) (fun i k p v e => ?_) ⟨.bl false, H, I, rfl, q⟩
  obtain ⟨q', v', a', b', e1, e2, e3, e4⟩ := kt_pair hp r1 r2 i k p v e
  exact ⟨i, q', v', e1, eqV_run I n X.A.in1 (by show X.A.units + 1 + n < cLine; omega) a' b' v v' e4 e2 e3⟩
end
end Gs
/-! ## GsRepr -/
/-! repr of a list of two lists, each a text and a dict of texts and ints. -/
namespace Gs
open PySem PySem.Spec PyProof.Rows L2
abbrev RM := List (Str × Int)
def mapD (m : RM) : PyData := .dict (m.map fun p => (PyData.str p.1, PyData.int p.2))
def mapK (m : RM) : List (Key × V) := m.map fun p => ((.inr p.1 : Key), V.int p.2)
def retT (m : RM) : Str := listText [reprText "returned", (mapD m).shown]
def toldT (m1 m2 : RM) : Str := listText [retT m1, retT m2]
def RetAt (H : Hp) (a : Addr) (m : RM) : Prop := ∃ d, H a = some (.lst [.str "returned", .ref d]) ∧ H d = some (.dK (mapK m))
theorem showable_kv : ∀ m : RM, (∀ q ∈ m, q.2.natAbs.log2 < 1920) → PyData.showableKv (m.map fun p => (PyData.str p.1, PyData.int p.2)) = true
  | [], _ => by simp only [List.map_nil, PyData.showableKv]
  | p :: m, h => by
    simp only [List.map_cons, PyData.showableKv, PyData.showable, showable_kv m (fun q hq => h q (List.mem_cons_of_mem _ hq)), Bool.and_true, Bool.true_and, decide_eq_true_eq]
    exact h p List.mem_cons_self
theorem reads_map {P : Program} {w : World} {h : Heap} : ∀ (m : RM) {vs : List (Key × Value)} {es : List DictEntry}, KV (mapK m) vs → Pairs (mixKind P w) es vs →
    ReadsAll h (es.map (·.key)) ((m.map fun p => (PyData.str p.1, PyData.int p.2)).map (·.1)) [] ∧ ReadsAll h (es.map (·.val)) ((m.map fun p => (PyData.str p.1, PyData.int p.2)).map (·.2)) []
  | [], _, _, .nil, hp => by
    cases hp
    exact ⟨.nil, .nil⟩
  | p :: m, _, _, .cons r rr, hp => by
    cases hp with
    | cons h1 h2 h3 =>
      obtain ⟨e1, e2⟩ := r
      obtain ⟨a, b⟩ := reads_map m rr h3
      obtain ⟨t, e2⟩ := e2
      have e1 : (Sum.inr p.1 : Key) = _ := e1
      rw [← e1] at h1
      rcases keyIs_shape (show keyIs (Sum.inr p.1) _ = true from h1) with ⟨i, u, e, _⟩ | ⟨x, u, e, ek⟩
      · exact nomatch e
      · have e' : p.1 = x := Sum.inr.inj e
        subst e'
        refine ⟨?_, ?_⟩
        · rw [List.map_cons, ek]
          exact ReadsAll.cons (as := []) (.str _ _) a
        · rw [List.map_cons, h2, e2]
          exact ReadsAll.cons (as := []) (.int _ _) b
theorem depth_kv : ∀ m : RM, PyData.depthKv (m.map fun p => (PyData.str p.1, PyData.int p.2)) = 0
  | [] => by simp only [List.map_nil, PyData.depthKv]
  | p :: m => by simp only [List.map_cons, PyData.depthKv, PyData.depth, depth_kv m]; rfl
section
variable {X : Cx} {pins : List (Addr × Obj)} {σ : L2.St} {H : Hp} {s : Shared}
theorem map_reads (I : Inv X pins σ H s) {d : Addr} {m : RM} (hd : H d = some (.dK (mapK m))) : Reads s.heap (.ref d) (mapD m) [d] ∧ d ≠ sysModules := by
  obtain ⟨_, hs, vs, rel, o, es, ep, ho, hx, hdat, _, hp, _⟩ := (show ObjOk X.prog X.w H s.heap d (.dK (mapK m)) from I.hok d _ hd)
  obtain ⟨a, b⟩ := reads_map (h := s.heap) m rel hp
  exact ⟨Reads.dict (as := []) (bs := []) ho hx.1 hdat a b, beq_eq_false_iff_ne.mp hs⟩
theorem told_len1 (a b : Str) : a.length ≤ (listText [a, b]).length ∧ b.length ≤ (listText [a, b]).length := ⟨listText_mem_le (by simp), listText_mem_le (by simp)⟩
theorem ret_reprK (I : Inv X pins σ H s) {a : Addr} {m : RM} (ha : RetAt H a m) (hm : ∀ q ∈ m, q.2.natAbs.log2 < 1920) (hz : (retT m).length ≤ sizeLine) :
    ∃ bs as, ReadAtMost s.heap 2 bs ∧ ReprK X.prog X.w bs s.heap 2 (.ref a) (retT m) ∧ Reads s.heap (.ref a) (.list [.str "returned", mapD m]) as := by
  obtain ⟨d, e1, e2⟩ := ha
  obtain ⟨hr, hs⟩ := map_reads I e2
  have z1 := (told_len1 (reprText "returned") (mapD m).shown).1
  have z2 := (told_len1 (reprText "returned") (mapD m).shown).2
  obtain ⟨bs, hb, hk⟩ := ReprK.of_reads (prog := X.prog) (w := X.w) hr (by simp only [mapD, PyData.showable]; exact showable_kv m hm) (fun _ => by simp [Ne.symm hs]) (Nat.le_trans z2 hz)
  have dep : (mapD m).depth = 1 := by simp only [mapD, PyData.depth, depth_kv]
  rw [dep] at hb hk
  obtain ⟨_, its, n, r, eo⟩ := (show ObjOk X.prog X.w H s.heap a (.lst [.str "returned", .ref d]) from I.hok a _ e1)
  obtain ⟨u1, u2, ei, r1, r2⟩ := vals2 r
  subst ei
  obtain ⟨t, rfl⟩ := r1
  cases r2
  have rl : Reads s.heap (.ref a) (.list [.str "returned", mapD m]) _ := Reads.list eo rfl rfl (.cons (.str "returned" t) (.cons hr .nil))
  have dl : (PyData.list [.str "returned", mapD m]).depth = 2 := by simp only [PyData.depth, PyData.depthAll, dep]; rfl
  have hna : a ∉ bs := not_mem_of_deeper rl (by rw [dl]; decide) hb
  refine ⟨a :: bs, _, ?_, ReprK.list eo rfl rfl hna (by simp) (fun i y e => ?_), rl⟩
  · have := ReadAtMost.cons rl (n := 1) (by rw [dl]; decide) hb
    rw [dl] at this
    exact this
  · match i with
    | 0 =>
      have e' : Value.str "returned" t = y := by simpa using e
      subst e'
      exact ⟨_, rfl, .of_is (ReprIs.str _ t (Nat.le_trans z1 hz)) _ _ _⟩
    | 1 =>
      have e' : Value.ref d = y := by simpa using e
      subst e'
      exact ⟨_, rfl, hk⟩
    | i + 2 => simp at e
end
section
variable {X : Cx}
def rReprT : List V → Hp → VK → Prop := fun xs H Q => ∃ (p a1 a2 : Addr) (m1 m2 : RM), xs = [.ref p] ∧ H p = some (.lst [.ref a1, .ref a2]) ∧ RetAt H a1 m1 ∧ RetAt H a2 m2 ∧ (∀ q ∈ m1 ++ m2, q.2.natAbs.log2 < 1920) ∧ (toldT m1 m2).length ≤ sizeLine ∧ Q (.str (toldT m1 m2)) H
theorem call_reprT (hg : X.A.guards = some []) (hu : X.A.units + 10 < cLine) : CallR X (.builtin "repr") rReprT := by
  intro pins s σ H xs us Q I r h
  obtain ⟨p, a1, a2, m1, m2, rfl, hp, h1, h2, hm, hz, q⟩ := h
  obtain ⟨u, rfl, ru⟩ := vals1 r
  cases ru
  have z1 := (told_len1 (retT m1) (retT m2)).1
  have z2 := (told_len1 (retT m1) (retT m2)).2
  obtain ⟨b1, c1, k1, r1, d1⟩ := ret_reprK I h1 (fun q hq => hm q (List.mem_append_left _ hq)) (Nat.le_trans z1 hz)
  obtain ⟨b2, c2, k2, r2, d2⟩ := ret_reprK I h2 (fun q hq => hm q (List.mem_append_right _ hq)) (Nat.le_trans z2 hz)
  obtain ⟨_, its, n, rv, eo⟩ := (show ObjOk X.prog X.w H s.heap p (.lst [.ref a1, .ref a2]) from I.hok p _ hp)
  obtain ⟨u1, u2, ei, e1, e2⟩ := vals2 rv
  subst ei
  cases e1
  cases e2
  have dep : ∀ m, (PyData.list [.str "returned", mapD m]).depth = 2 := fun m => by simp only [PyData.depth, PyData.depthAll, mapD, depth_kv]; rfl
  have rl : Reads s.heap (.ref p) (.list [.list [.str "returned", mapD m1], .list [.str "returned", mapD m2]]) _ := Reads.list eo rfl rfl (.cons d1 (.cons d2 .nil))
  have dl : (PyData.list [.list [.str "returned", mapD m1], .list [.str "returned", mapD m2]]).depth = 3 := by
    rw [PyData.depth, PyData.depthAll, PyData.depthAll, PyData.depthAll, dep, dep]
    rfl
  have hna : p ∉ b1 ++ b2 := not_mem_of_deeper rl (by rw [dl]; decide) (k1.append k2)
  refine call_repr_slot (T := "list") (by omega) ⟨_, eo, rfl⟩ F.slot_list_repr.toG (call_list_reprK (d := 2) (as := b1 ++ b2) eo rfl rfl hna (by simp) (fun i y e => ?_) (g := []) hg (fun b _ => Clear.nil b) (by show X.A.units + 1 + 3 < cLine; omega) (fun _ _ e => e) (fun h' u tk hk => ⟨_, _, rfl, ?_⟩) hz)
  · match i with
    | 0 =>
      have e' : Value.ref a1 = y := by simpa using e
      subst e'
      exact ⟨_, rfl, r1.more fun b hb => List.mem_append_left _ hb⟩
    | 1 =>
      have e' : Value.ref a2 = y := by simpa using e
      subst e'
      exact ⟨_, rfl, r2.more fun b hb => List.mem_append_right _ hb⟩
    | i + 2 => simp at e
  · exact ⟨.str (toldT m1 m2), H, I.kept hk, ⟨u, rfl⟩, q⟩
end
/-! its length -/
def small (m : RM) : Prop := m.length ≤ 12 ∧ ∀ q ∈ m, q.1.length ≤ 8 ∧ (∀ c ∈ q.1.cps.toList, c < 16 ^ 8) ∧ 0 ≤ q.2 ∧ q.2 < 17
theorem int_len (i : Int) (h0 : 0 ≤ i) (h1 : i < 17) : ((toString i : String) : Str).length ≤ 2 := by
  obtain ⟨n, rfl⟩ := Int.eq_ofNat_of_zero_le h0
  have hn : n < 17 := by omega
  have all : ∀ k : Fin 17, ((toString ((k.val : Nat) : Int) : String) : Str).length ≤ 2 := by decide +kernel
  exact all ⟨n, hn⟩
theorem kv_piled : ∀ m : RM, (∀ q ∈ m, q.1.length ≤ 8 ∧ (∀ c ∈ q.1.cps.toList, c < 16 ^ 8) ∧ 0 ≤ q.2 ∧ q.2 < 17) → piled (PyData.shownKv (m.map fun p => (PyData.str p.1, PyData.int p.2))) ≤ 100 * m.length
  | [], _ => by simp only [List.map_nil, PyData.shownKv]; exact Nat.zero_le _
  | p :: m, h => by
    obtain ⟨h1, h2, h3, h4⟩ := h p List.mem_cons_self
    have a := StrLaws.reprText_len p.1 h2
    have b := int_len p.2 h3 h4
    have ih := kv_piled m fun q hq => h q (List.mem_cons_of_mem _ hq)
    have e2 : ((": " : String) : Str).length = 2 := rfl
    simp only [List.map_cons, PyData.shownKv, PyData.shown]
    rw [piled_cons, strLen_append, strLen_append, List.length_cons, e2]
    have b' : (toString p.2 : Str).length ≤ 2 := b
    omega
theorem mapD_len {m : RM} (s : small m) : (mapD m).shown.length ≤ 1300 := by
  have h := kv_piled m s.2
  have hl := s.1
  show (dictText (PyData.shownKv (m.map fun p => (PyData.str p.1, PyData.int p.2)))).length ≤ 1300
  unfold dictText
  have e1 : ((("{" : String) : Str)).length = 1 := rfl
  have e3 : ((("}" : String) : Str)).length = 1 := rfl
  rw [strLen_append, strLen_append, e1, e3]
  by_cases e : PyData.shownKv (m.map fun p => (PyData.str p.1, PyData.int p.2)) = []
  · rw [e]
    decide +kernel
  · have := join_length_add _ e
    omega
theorem ret_len {m : RM} (s : small m) : (retT m).length ≤ 1400 := by
  have h := mapD_len s
  have h2 := listText_len_le [reprText "returned", (mapD m).shown]
  have e : (reprText "returned").length ≤ 20 := by decide +kernel
  simp only [List.map_cons, List.map_nil, List.sum_cons, List.sum_nil, List.length_cons, List.length_nil] at h2
  unfold retT
  omega
theorem told_fits {m1 m2 : RM} (s1 : small m1) (s2 : small m2) : (toldT m1 m2).length ≤ sizeLine := by
  have a := ret_len s1
  have b := ret_len s2
  have h2 := listText_len_le [retT m1, retT m2]
  simp only [List.map_cons, List.map_nil, List.sum_cons, List.sum_nil, List.length_cons, List.length_nil] at h2
  have hs : sizeLine = 16777216 := sizeLine_eq
  unfold toldT
  omega
theorem small_log {m : RM} (s : small m) : ∀ q ∈ m, q.2.natAbs.log2 < 1920 := fun q hq => by
  obtain ⟨_, _, h3, h4⟩ := s.2 q hq
  have h5 : q.2.natAbs < 17 := by omega
  have all : ∀ k : Fin 17, k.val.log2 < 1920 := by decide +kernel
  exact all ⟨q.2.natAbs, h5⟩
end Gs
/-! ## GsGd -/
/-! Defs that ask for repr of a list: their promise is told where no repr is under way. -/
namespace Gs
open PySem PySem.Spec PyProof.Rows L2 LamX
structure FnOkG (P : Program) (w : World) (K : PySem.W.Frag) (mg : Str → Option Value) (base : Heap) (k : Nat) (f : Addr) (fd : FuncData) (ps : List Str) (sp : Sp) : Prop where
  len : ∀ vs H Q E, sp vs H Q E → vs.length = ps.length
  run : ∀ (A : Around) (outer : List Env) (s : Shared) (H : Hp) (args : Args) (us : List Value) (vs : List V) (Q : VK) (E : XK), Room k A → A.guards = some [] → Env0 P w K mg base A outer s H → BindsTo s fd args (ps.zip us) → Vals vs us → sp vs H Q E →
    codeAny (model P w) A (.call (.ref f) args) (CR L2.CX0 outer P w H s Q E) s
theorem okG {P : Program} {w : World} {K : PySem.W.Frag} {mg : Str → Option Value} {base : Heap} {x qual : Str} {st : Stmt} {f : Addr} {fd : FuncData} {N ps : List Str} {k : Nat} {sp : Sp} (F : Fun K x qual st f fd) (S : FnScope N ps (defScope st)) (len : ∀ vs H Q E, sp vs H Q E → vs.length = ps.length)
    (hbody : ∀ (cdv : Value) (A : Around) (outer : List Env) (s : Shared) (H : Hp) (vs : List V) (Q : VK) (E : XK), Room k (A.deeper (envOfC qual (defScope st) s.heap.objs.size f cdv)) → (A.deeper (envOfC qual (defScope st) s.heap.objs.size f cdv)).guards = some [] → sp vs H Q E →
      ∃ t, PSs (cxOf L2.CX0 P w K mg base N qual (defScope st) f cdv A outer s H E).nox (defBody st) t ∧ t { nx := fun _ H' => Q .non H', rt := Q } (L2.start N vs) H) : FnOkG P w K mg base (k + 1) f fd ps sp := by
  obtain ⟨oc, od, kV, doc, pm, an, cdv, ct, osl, rfl, lk, hcd⟩ := F.ex
  refine ⟨len, fun A outer s H args us vs Q E hr hg e0 hb r hsp => run_ofS lk hcd S hr e0 hb r (len _ _ _ _ hsp) fun hr' => ?_⟩
  obtain ⟨t, h, q⟩ := hbody cdv A outer s H vs Q E hr' hg hsp
  exact ⟨t, h.nox, q⟩
section
variable {X : Cx} {x : Str} {f : Addr} {fd : FuncData} {ps : List Str} {sp : Sp} {k : Nat} {e : Expr} {es : List Expr} {t : TA} {p pos : Pos}
/-- f(e, ..), f a def that asks for repr -/
theorem pe_callG (F : FnOkG X.prog X.w X.K X.mg X.base k f fd ps sp) (hr : Room k X.A) (hgd : X.A.guards = some []) (hg : Gl X x) (hm : X.mg x = some (.ref f)) (hk : PySem.W.keepIn X.K (.ref f) = true) (hb : Binds X.K fd ps [])
    (ha : PA X (e :: es) t) (hdb : (x == ("__debug__" : Str)) = false := by decide) (he : starEach (e :: es) X.env = (false, eval e X.env) :: starEach es X.env := by rfl) (hpl : (backTo pos (starEach es X.env)).any (·.1) = false := by rfl) :
    PE X (.Call (.Name x p) (e :: es) [] pos) (fun σ H Q => t σ H fun vs H1 => sp vs H1 Q (fun _ _ _ => False)) := by
  refine ⟨fun pins s σ H Q I h => ?_⟩
  refine wpAny_Call_Name_kw (ld_glob I hg hm ?_ hdb)
  refine PySem.W.callWith_K (h₀ := X.base) I.ok.mod.kin hk (thn (ha.run pos pins s σ H _ I h) fun us s1 ⟨vs, H1, I1, r, q⟩ => ⟨I1.kIn, ?_⟩) he hpl
  have hl := F.len _ _ _ _ q
  refine wpAny_call (codeAny_mono (F.run X.A X.stack s1 H1 ⟨us, []⟩ us vs _ (fun _ _ _ => False) hr hgd I1.env0 (by
    have := hb s1 us I1.kIn (by rw [List.append_nil, ← hl, r.length])
    simpa using this) r q) fun r' s' hq => ?_)
  cases r' with
  | error e => exact False.elim hq
  | ok fl =>
    cases fl with
    | ret w => exact I1.after hq
    | next => exact False.elim hq
    | brk => exact False.elim hq
    | cont => exact False.elim hq
end
theorem law_callG {P : Program} {w : World} {K : PySem.W.Frag} {mg mb : Str → Option Value} {k : Nat} {fa a : Addr} {cs : List (Addr × Addr)} {fd : FuncData} {x : Str} {sp : Sp} {s₁ : Shared} {vs : List Value} {ns : List Int}
    (KX : K.In s₁.heap) (hns : s₁.heap.Ns mainGlobals mg) (hb : s₁.heap.Ns builtinsNs mb) (hbb : ∀ x : Str, x ≠ "__name__" → mb x = bootBuiltins x) (hlim : s₁.heap.NoLimit) (hg : s₁.gens = #[])
    (hT : ∀ p ∈ cs, s₁.heap.get? p.2 = some { cls := .none, data := .fields #[] }) (nT : ∀ p ∈ cs, K.lookup p.2 = none) (C : ∀ p ∈ cs, PySem.W.CodeHd s₁.heap p.1 p.2)
    (hbm : ∃ (bm : Addr) (ob : Obj), mg "__builtins__" = some (.ref bm) ∧ bm ≠ builtinsNs ∧ s₁.heap.get? bm = some ob ∧ ob.cls = .type "module" ∧ ob.dict = some builtinsNs ∧ ob.data = .plain)
    (ha : s₁.heap.get? a = some { cls := .type "list", data := .seq vs.toArray }) (hi : IntsAre vs ns) (hl : ns.length ≤ sizeLine) (hr : Room k callerA)
    (F : ∀ base : Heap, K.In base → base.Ns mainGlobals mg → (∀ p ∈ cs, TabB base mg p.1 p.2) → FnOkG P w K mg base k fa fd [x] sp) (hbind : ∀ (s : Shared) (u : Value), BindsTo s fd ⟨[u], []⟩ [(x, u)])
    (hsp : ∀ H : Hp, (∀ p ∈ cs, H p.2 = some (.tbl #[])) → SqL K H a (ns.map V.int) → sp [.ref a] H (fun v _ => v = .bl true) fun _ _ _ => False) :
    codeAny (model P w) callerA (.call (.ref fa) ⟨[.ref a], []⟩) (fun r s' => r = .ok (.ret (.bool true)) ∧ OldK s₁.heap s'.heap ∧ s'.os = s₁.os ∧ AllBare s'.gens) s₁ := by
  have rv := vals_ints hi
  have lenV := hi.length
  have isT : ∀ b : Addr, b ∈ cs.map (·.2) → s₁.heap.get? b = some { cls := .none, data := .fields #[] } := fun b hb => by
    obtain ⟨p, hp, e⟩ := List.mem_map.mp hb
    rw [← e]
    exact hT p hp
  have aT : a ∉ cs.map (·.2) := fun z => by
    have q := isT a z
    rw [ha] at q
    have z' : Data.seq vs.toArray _ = Data.fields #[] := congrArg Obj.data (Option.some.inj q)
    cases z'
  have memT : ∀ p ∈ cs, p.2 ∈ cs.map (·.2) := fun p hp => List.mem_map.mpr ⟨p, hp, rfl⟩
  -- from an abstract heap in which nothing but the script and the tables may be tracked
  have core : ∀ H : Hp, (∀ p ∈ cs, H p.2 = some (.tbl #[])) → (∀ b, H b = none ∨ b ∈ cs.map (·.2) ∨ ∃ o xs, H b = some (.frz o (.lst xs))) → SqL K H a (ns.map V.int) → HOk P w H s₁.heap → (∀ b, H b ≠ none → b = a ∨ b ∈ cs.map (·.2)) → (H a ≠ none → K.lookup a = none) →
      codeAny (model P w) callerA (.call (.ref fa) ⟨[.ref a], []⟩) (fun r s' => r = .ok (.ret (.bool true)) ∧ OldK s₁.heap s'.heap ∧ s'.os = s₁.os ∧ AllBare s'.gens) s₁ := by
    intro H hH hO hS hok hA hK
    have base_of : ∀ {b : Addr} {o : Obj}, s₁.heap.get? b = some o → H b = none → (hidT s₁.heap H).get? b = some o := fun e n => hidT_get e n
    have noD : ∀ {b : Addr} {o : Obj}, s₁.heap.get? b = some o → (∀ vs n, o.data ≠ .seq vs n) → o.data ≠ .fields #[] → H b = none := fun {b o} e h1 h2 => by
      cases q : H b with
      | none => rfl
      | some u =>
        rcases hA b (by rw [q]; simp) with e' | e'
        · rw [e', ha] at e
          cases e
          exact (h1 _ _ rfl).elim
        · rw [isT b e'] at e
          cases e
          exact (h2 rfl).elim
    have noA : ∀ {b : Addr} {o : Obj} {es : Array DictEntry} {ep : Nat}, s₁.heap.get? b = some o → o.data = .dict es ep → H b = none := fun {b o es ep} e d => by
      refine noD e (fun vs n z => ?_) fun z => ?_
      · rw [d] at z
        cases z
      · rw [d] at z
        cases z
    have nsK : ∀ {b : Addr} {m : Str → Option Value}, s₁.heap.Ns b m → (hidT s₁.heap H).Ns b m := fun {b m} ⟨o, es, ep, e, d, r⟩ => ⟨o, es, ep, base_of e (noA e d), d, r⟩
    have hKb : K.In (hidT s₁.heap H) := fun b o e => base_of (KX b o e) (by
      cases q : H b with
      | none => rfl
      | some u =>
        rcases hA b (by rw [q]; simp) with e' | e'
        · rw [e'] at e q
          rw [hK (by rw [q]; simp)] at e
          cases e
        · obtain ⟨p, hp, ep⟩ := List.mem_map.mp e'
          rw [← ep, nT p hp] at e
          cases e)
    have hM : L2.Mod K mg (hidT s₁.heap H) := ⟨hKb, nsK hns, ⟨mb, nsK hb, hbb⟩, let ⟨mc, h1, h2⟩ := hlim; ⟨mc, nsK h1, h2⟩⟩
    have TB : ∀ p ∈ cs, TabB (hidT s₁.heap H) mg p.1 p.2 := fun p hp => by
      have hTp := hT p hp
      refine ⟨?_, ?_, fun z => ?_⟩
      · obtain ⟨o, us, file, tf, flags, tg, inF, text, tt, e1, r1, r2, r3, r4, r5, r6, r7, r8, hne⟩ := C p hp
        refine ⟨o, us, file, tf, flags, tg, inF, text, tt, base_of e1 (noD e1 (fun vs n z => ?_) fun z => ?_), r1, r2, r3, r4, r5, r6, r7, r8, hne⟩
        · rw [r2] at z
          cases z
        · rw [r2] at z
          cases z
          simp at r3
      · obtain ⟨bm, ob, b1, b2, b3, b4, b5, b6⟩ := hbm
        have nG : bm ≠ mainGlobals := fun q => by
          obtain ⟨o, es, ep, e, hd, _⟩ := hns
          rw [q, e] at b3
          cases b3
          rw [hd] at b6
          cases b6
        have nP : bm ≠ p.2 := fun q => by
          rw [q, hTp] at b3
          cases b3
          cases b6
        refine ⟨bm, ob, b1, b2, nG, nP, base_of b3 (noD b3 (fun vs n z => ?_) fun z => ?_), b4, b5, b6⟩
        · rw [b6] at z
          cases z
        · rw [b6] at z
          cases z
      · obtain ⟨o, es, ep, e, hd, _⟩ := hns
        rw [z, hTp] at e
        cases e
        cases hd
    have e0 : Env0 P w K mg (hidT s₁.heap H) callerA [] s₁ H := ⟨rfl, hM, fun b o e => of_hidT e, Nat.le_of_eq (hidT_size _ _), trivial, fun b hb => absurd (show b ∈ ([] : List Addr) from hb) (by simp), hok, .of_eq hg⟩
    refine codeAny_mono ((F _ hKb (nsK hns) TB).run callerA [] s₁ H ⟨[.ref a], []⟩ [.ref a] [.ref a] _ _ hr rfl e0 (hbind s₁ (.ref a)) (.cons rfl .nil) (hsp H hH hS)) fun r s' h => ?_
    cases r with
    | error e => exact False.elim h
    | ok fl =>
      cases fl with
      | next => exact False.elim h
      | brk => exact False.elim h
      | cont => exact False.elim h
      | ret u =>
        obtain ⟨v, H', os, bare, un, hok', r', q⟩ := h
        have q' : v = .bl true := q
        subst q'
        obtain rfl : u = Value.bool true := r'
        have key : ∀ b o, b ∉ cs.map (·.2) → s₁.heap.get? b = some o → s'.heap.get? b = some o := fun b o nb e => by
          cases q : H b with
          | none => exact un.keep b o e q (by intro z; exact absurd (show b ∈ ([] : List Addr) from z) (by simp)) (by simp)
          | some u =>
            rcases hO b with z | z | ⟨ob, xs, z⟩
            · rw [q] at z; cases z
            · exact absurd z nb
            · have z2 := un.frzs b ob _ z
              obtain ⟨e1, _⟩ := hok b _ z
              obtain ⟨e2, _⟩ := hok' b _ z2
              rw [e] at e1; cases e1
              exact e2
        have grown : ∀ p ∈ cs, ∃ more : Array Value, s'.heap.get? p.2 = some { cls := .none, data := .fields more } := fun p hp => by
          obtain ⟨more, z⟩ := un.tbls p.2 #[] (hH p hp)
          exact ⟨_, hok' p.2 _ z⟩
        refine ⟨rfl, ⟨fun b o e => ?_, fun b o e => ?_⟩, os, bare⟩
        · by_cases hb : b ∈ cs.map (·.2)
          · obtain ⟨p, hp, ep⟩ := List.mem_map.mp hb
            obtain ⟨more, hm⟩ := grown p hp
            rw [← ep] at e ⊢
            rw [hT p hp] at e
            cases e
            exact .inr (.inl ⟨((C p hp).tab (hT p hp)).isCodeTable, rfl, #[], more, rfl, by rw [Array.empty_append]; exact hm⟩)
          · exact .inl (key b o hb e)
        · by_cases hb : b ∈ cs.map (·.2)
          · obtain ⟨p, hp, ep⟩ := List.mem_map.mp hb
            obtain ⟨more, hm⟩ := grown p hp
            rw [← ep]
            exact ⟨_, hm⟩
          · exact ⟨o, key b o hb e⟩
  cases hk : K.lookup a with
  | some o =>
    have e := KX a o hk
    rw [ha] at e
    cases e
    refine core (fun b => if b ∈ cs.map (·.2) then some (.tbl #[]) else none) (fun p hp => if_pos (memT p hp)) (fun b => ?_) (.inr ⟨_, vs.toArray, _, hk, rfl, rfl, rfl, by rw [List.size_toArray, lenV]; exact hl, by simpa using rv⟩) (fun b u z => ?_) (fun b z => ?_) fun z => absurd (show (if a ∈ cs.map (·.2) then some (HO.tbl #[]) else none) = none from if_neg aT) z
    · by_cases hb : b ∈ cs.map (·.2)
      · exact .inr (.inl hb)
      · exact .inl (if_neg hb)
    · by_cases hb : b ∈ cs.map (·.2)
      · have z' := (if_pos hb).symm.trans z
        cases z'
        exact isT b hb
      · have z' := (if_neg hb).symm.trans z
        cases z'
    · by_cases hb : b ∈ cs.map (·.2)
      · exact .inr hb
      · exact absurd (if_neg hb) z
  | none =>
    refine core (fun b => if b = a then some (.frz { cls := .type "list", data := .seq vs.toArray } (.lst (ns.map V.int))) else if b ∈ cs.map (·.2) then some (.tbl #[]) else none) (fun p hp => (if_neg (show ¬ p.2 = a from fun z => aT (by rw [← z]; exact memT p hp))).trans (if_pos (memT p hp))) (fun b => ?_)
      (.inl (.inr ⟨{ cls := .type "list", data := .seq vs.toArray }, if_pos rfl⟩)) (fun b u z => ?_) (fun b z => ?_) fun _ => hk
    · by_cases hb : b = a
      · exact .inr (.inr ⟨_, _, if_pos hb⟩)
      · by_cases hb2 : b ∈ cs.map (·.2)
        · exact .inr (.inl hb2)
        · exact .inl ((if_neg hb).trans (if_neg hb2))
    · by_cases hb : b = a
      · have z' := (if_pos hb).symm.trans z
        cases z'
        rw [hb]
        exact ⟨ha, by rw [List.length_map]; exact hl, vs, _, rv, ha⟩
      · have z1 := (if_neg hb).symm.trans z
        by_cases hb2 : b ∈ cs.map (·.2)
        · have z' := (if_pos hb2).symm.trans z1
          cases z'
          exact isT b hb2
        · have z' := (if_neg hb2).symm.trans z1
          cases z'
    · by_cases hb : b = a
      · exact .inl hb
      · by_cases hb2 : b ∈ cs.map (·.2)
        · exact .inr hb2
        · exact absurd ((if_neg hb).trans (if_neg hb2)) z
theorem walkG {l : PySem.W.OpenLaw} {n k : Nat} {q : Program} {loose : List Str} {XP : (Str → Option Value) → Heap → Prop} {YP : World → Heap → Prop} {d : DefRec} {x : Str}
    (hn : l.most = some n) (hn2 : n ≤ sizeLine) (hdf : d.params.defaults = []) (hr : Room k callerA)
    (F : ∀ (w : World) (mg : Str → Option Value) (fa : Addr) (h : Heap), YP w h → h.Ns mainGlobals mg → mg d.name = some (.ref fa) → ∃ (K : PySem.W.Frag) (fd : FuncData) (cs : List (Addr × Addr)) (sp : Sp), K.In h ∧
      (∀ p ∈ cs, h.get? p.2 = some { cls := .none, data := .fields #[] }) ∧ (∀ p ∈ cs, K.lookup p.2 = none) ∧ (∀ p ∈ cs, PySem.W.CodeHd h p.1 p.2) ∧ (∀ (s : Shared) (u : Value), BindsTo s fd ⟨[u], []⟩ [(x, u)]) ∧
      (∀ (H : Hp) (a : Addr) (ns : List Int), ns.length ≤ n → (∀ z ∈ ns, Builtin.Int.intBits z ≤ 1048576) → (∀ p ∈ cs, H p.2 = some (.tbl #[])) → SqL K H a (ns.map V.int) → sp [.ref a] H (fun v _ => v = .bl true) fun _ _ _ => False) ∧
      ∀ base : Heap, K.In base → base.Ns mainGlobals mg → (∀ p ∈ cs, TabB base mg p.1 p.2) → FnOkG l.prog w K mg base k fa fd [x] sp) :
    PySem.W.WalkO q loose XP YP l.row.toRowW d [] (fun f vs => PySem.call f vs) := by
  refine Att.attach_callB hn hdf fun w s₀ s₁ mg mb fa o pm cd doc a vs ns G Y ho hd hcd hmg hobj hints hlen hbits hg => ?_
  obtain ⟨K, fd, cs, sp, KX, hT, nT, C, hb, hsp, hF⟩ := F w mg fa _ Y G.T.g hmg
  exact law_callG KX G.T.g G.T.b G.T.builtins G.T.nolimit hg hT nT C G.T.bmain hobj hints (Nat.le_trans hlen hn2) hr hF hb (fun H hH hS => hsp H a ns hlen hbits hH hS)
end Gs
/-! ## GsBase -/
namespace Gs
open PySem PySem.Spec PyProof.Rows L2
/-! ### what the top has left -/
structure Df (K : PySem.W.Frag) (x qual : Str) (st : Stmt) (ps : List Str) where
  f : Addr
  fd : FuncData
  F : Fun K x qual st f fd
  B : Binds K fd ps []
  kp : PySem.W.keepIn K (.ref f) = true
structure Dg (K : PySem.W.Frag) (mg : Str → Option Value) (x : Str) (st : Stmt) (ps : List Str) extends Df K x x st ps where
  M : mg x = some (.ref f)
structure Dh (K : PySem.W.Frag) (C : Addr) (x qual : Str) (st : Stmt) (ps : List Str) extends Df K x qual st ps where
  me : Meth K C x f
structure Txt (K : PySem.W.Frag) (mg : Str → Option Value) where
  C : Addr
  cl : Cls K C
  mgC : mg "Catalog" = some (.ref C)
  kC : PySem.W.keepIn K (.ref C) = true
  nU : NoAttr K C "use_table"
  nW : NoAttr K C "window_table"
  nC : NoAttr K C "count_table"
  nD : NoAttr K C "withdrawn_table"
  nR : NoAttr K C "record"
  cO : PySem.W.mroIn K C (.type "object") = some true
  ic : C8.InsC K C
  cNe : PySem.W.findIn K (.ref C) "__ne__" = some (some (.builtin "object.__ne__"))
  N : Addr
  mgN : mg "NoState" = some (.ref N)
  ax : AxC K N
  nCh : PySem.W.findIn K (.ref N) "chain" = some none
  xf : XfC K N
  xc : ExcC K N
  xm : PySem.W.exmOne K (.ref N) (.ref N) = some true
  L : Addr
  mgL : mg "LimitReached" = some (.ref L)
  ab : AxB K L
  U : Addr
  mgU : mg "Unreachable" = some (.ref U)
  xu : PySem.W.kitOne K (.ref N) (.ref U) = some false
  iLetters : ∃ t, mg "LETTERS" = some (.str "abcdefghijklmnopqrstuvwxyz" t)
  iML : ∃ t, mg "MAX_LETTERS" = some (.int 8 t)
  iMM : ∃ t, mg "MOST_MODULES" = some (.int 12 t)
  iMV : ∃ t, mg "MOST_VERSIONS" = some (.int 16 t)
  iMU : ∃ t, mg "MOST_USES" = some (.int 40 t)
  b_abs : mg "abs" = none
  b_len : mg "len" = none
  b_max : mg "max" = none
  b_divmod : mg "divmod" = none
  b_list : mg "list" = none
  b_range : mg "range" = none
  b_min : mg "min" = none
  b_tuple : mg "tuple" = none
  b_enumerate : mg "enumerate" = none
  b_dict : mg "dict" = none
  b_zip : mg "zip" = none
  b_all : mg "all" = none
  b_isinstance : mg "isinstance" = none
  b_repr : mg "repr" = none
  b_sum : mg "sum" = none
  b_int : mg "int" = none
  b_bool : mg "bool" = none
  b_str : mg "str" = none
  d_NoState_init : Df K "__init__" "NoState.__init__" s_NoState_init ["self", "chain"]
  nI : PySem.W.findIn K (.ref N) "__init__" = some (some (.ref d_NoState_init.f))
  tI : PySem.W.typeIn K (.ref d_NoState_init.f) = some (.type "function")
  d_is_integer : Dg K mg "is_integer" s_is_integer ["value"]
  d_is_name : Dg K mg "is_name" s_is_name ["value"]
  d_is_version : Dg K mg "is_version" s_is_version ["value"]
  d_require_version : Dg K mg "require_version" s_require_version ["value"]
  d_is_window : Dg K mg "is_window" s_is_window ["value"]
  d_require_window : Dg K mg "require_window" s_require_window ["value"]
  d_reaches : Dg K mg "reaches" s_reaches ["window", "version"]
  d_contains : Dg K mg "contains" s_contains ["window", "version"]
  d_rises : Dg K mg "rises" s_rises ["first", "second"]
  d_is_row_of_names : Dg K mg "is_row_of_names" s_is_row_of_names ["value", "module"]
  d_check_uses : Dg K mg "check_uses" s_check_uses ["uses"]
  d_check_new_windows : Dg K mg "check_new_windows" s_check_new_windows ["windows", "count"]
  d_Catalog_init : Dh K C "__init__" "Catalog.__init__" s_Catalog_init ["self", "uses"]
  d_Catalog_modules : Dh K C "modules" "Catalog.modules" s_Catalog_modules ["self"]
  d_Catalog_uses : Dh K C "uses" "Catalog.uses" s_Catalog_uses ["self", "module"]
  d_Catalog_users : Dh K C "users" "Catalog.users" s_Catalog_users ["self", "module"]
  d_Catalog_versions : Dh K C "versions" "Catalog.versions" s_Catalog_versions ["self", "module"]
  d_Catalog_publish : Dh K C "publish" "Catalog.publish" s_Catalog_publish ["self", "module", "windows"]
  d_Catalog_withdraw : Dh K C "withdraw" "Catalog.withdraw" s_Catalog_withdraw ["self", "module", "version"]
  d_Catalog_window : Dh K C "window" "Catalog.window" s_Catalog_window ["self", "user", "used", "version"]
  d_Catalog_is_available : Dh K C "is_available" "Catalog.is_available" s_Catalog_is_available ["self", "module", "version"]
  d_Catalog_available : Dh K C "available" "Catalog.available" s_Catalog_available ["self", "module"]
  d_Catalog_clone : Dh K C "clone" "Catalog.clone" s_Catalog_clone ["self"]
  d_Catalog_eq : Dh K C "__eq__" "Catalog.__eq__" s_Catalog_eq ["self", "other"]
  d_Catalog_len : Dh K C "__len__" "Catalog.__len__" s_Catalog_len ["self"]
  d_require_module : Dg K mg "require_module" s_require_module ["catalog", "value"]
  d_all_uses : Dg K mg "all_uses" s_all_uses ["catalog"]
  d_check_rows : Dg K mg "check_rows" s_check_rows ["rows"]
  d_catalog_of : Dg K mg "catalog_of" s_catalog_of ["rows"]
  d_settled_version : Dg K mg "settled_version" s_settled_version ["catalog", "module", "version"]
  d_first_reaching : Dg K mg "first_reaching" s_first_reaching ["catalog", "user", "module", "version"]
  d_demands_of_version : Dg K mg "demands_of_version" s_demands_of_version ["catalog", "module", "version"]
  d_searched : Dg K mg "searched" s_searched ["catalog", "starts"]
  d_chain_to : Dg K mg "chain_to" s_chain_to ["before", "demand"]
  d_shortest_chain : Dg K mg "shortest_chain" s_shortest_chain ["catalog", "starts", "is_goal"]
  d_first_failing : Dg K mg "first_failing" s_first_failing ["catalog", "starts"]
  d_require_state : Dg K mg "require_state" s_require_state ["catalog", "value"]
  d_found_conflicts : Dg K mg "found_conflicts" s_found_conflicts ["catalog", "state"]
  d_conflicts : Dg K mg "conflicts" s_conflicts ["catalog", "state"]
  d_first_conflict : Dg K mg "first_conflict" s_first_conflict ["catalog", "state"]
  d_first_demands : Dg K mg "first_demands" s_first_demands ["catalog"]
  d_demanded_versions : Dg K mg "demanded_versions" s_demanded_versions ["catalog", "demands"]
  d_latest : Dg K mg "latest" s_latest ["versions", "bound"]
  d_lowered : Dg K mg "lowered" s_lowered ["catalog", "bounds"]
  d_least_state : Dg K mg "least_state" s_least_state ["catalog"]
  d_greatest_state : Dg K mg "greatest_state" s_greatest_state ["catalog"]
  d_l_rng : Dg K mg "_law_rng" s_l_rng ["_law_script", "_law_k"]
  d_l_draw : Dg K mg "_law_draw" s_l_draw ["_law_rng_here", "_law_many"]
  d_l_choice : Dg K mg "_law_choice" s_l_choice ["_law_rng_here", "_law_options"]
  d_l_shuffled : Dg K mg "_law_shuffled" s_l_shuffled ["_law_rng_here", "_law_values"]
  d_l_name : Dg K mg "_law_name" s_l_name ["_law_rng_here", "_law_used"]
  d_l_names : Dg K mg "_law_names" s_l_names ["_law_rng_here", "_law_many", "_law_used"]
  d_l_windows : Dg K mg "_law_windows" s_l_windows ["_law_rng_here", "_law_many", "_law_loose"]
  d_l_rows : Dg K mg "_law_rows" s_l_rows ["_law_rng_here", "_law_modules", "_law_versions", "_law_loose"]
  d_l_world : Dg K mg "_law_world" s_l_world ["_law_rows_here"]
  d_l_withdrawn : Dg K mg "_law_withdrawn" s_l_withdrawn ["_law_rng_here", "_law_catalog", "_law_world_here", "_law_most"]
  d_l_contains : Dg K mg "_law_contains" s_l_contains ["_law_window", "_law_version"]
  d_l_conflicts : Dg K mg "_law_conflicts" s_l_conflicts ["_law_world_here", "_law_state"]
  d_l_states : Dg K mg "_law_states" s_l_states ["_law_world_here"]
  d_l_as_dict : Dg K mg "_law_as_dict" s_l_as_dict ["_law_world_here", "_law_some"]
  d_l_bound : Dg K mg "_law_bound" s_l_bound ["_law_states_here", "_law_sign"]
  d_l_following : Dg K mg "_law_following" s_l_following ["_law_world_here", "_law_demand"]
  d_l_next : Dg K mg "_law_next" s_l_next ["_law_world_here", "_law_demand"]
  d_l_distances : Dg K mg "_law_distances" s_l_distances ["_law_world_here", "_law_starts"]
  d_l_is_chain : Dg K mg "_law_is_chain" s_l_is_chain ["_law_world_here", "_law_chain"]
  d_l_outcome : Dg K mg "_law_outcome" s_l_outcome ["_law_call"]
  d_l_is_failing : Dg K mg "_law_is_failing" s_l_is_failing ["_law_world_here", "_law_starts", "_law_chain"]
  d_l_is_right : Dg K mg "_law_is_right" s_l_is_right ["_law_catalog", "_law_world_here"]
  d_l_published : Dg K mg "_law_published" s_l_published ["_law_rng_here", "_law_catalog", "_law_world_here"]
  d_l_right : Dg K mg "_law_right" s_l_right ["_law_rng_here"]
  d_law : Dg K mg "law" s_law ["_law_script"]
  mkC : Mk K C d_Catalog_init.f
section
variable {X : Cx} {k : Nat} {x qual : Str} {st : Stmt} {ps : List Str} {sp : Sp} {e : Expr} {es : List Expr} {t : TA} {p pos : Pos}
/-- x(e, ..), x a def of the text -/
theorem pcall {D : Df X.K x x st ps} (G : FnOk X.prog X.w X.K X.mg X.base CX0 k D.f D.fd ps sp) (hm : X.mg x = some (.ref D.f)) (hr : Room k X.A) (ha : PA X (e :: es) t) (hg : Gl X x := by rfl) (hdb : (x == ("__debug__" : Str)) = false := by decide)
    (he : starEach (e :: es) X.env = (false, eval e X.env) :: starEach es X.env := by rfl) (hpl : (backTo pos (starEach es X.env)).any (·.1) = false := by rfl) : PE X (.Call (.Name x p) (e :: es) [] pos) (tCall sp [] E0 t) :=
  pe_call G hr hg hm D.kp D.B .nil pass0 ha hdb he hpl
end
/-! ### the heap that grows -/
def Sm (H H' : Hp) : Prop := ∀ b o, H b = some o → H' b = some o
theorem Sm.rf {H : Hp} : Sm H H := fun _ _ e => e
theorem Sm.tr {H H1 H2 : Hp} (a : Sm H H1) (b : Sm H1 H2) : Sm H H2 := fun c o e => b c o (a c o e)
theorem Sm.up {H H1 : Hp} {p : Addr} {o : HO} (a : Sm H H1) (n : H1 p = none) : Sm H (upd H1 p o) := fun c u e => by
  rw [upd_ne (ne_of_none (a c u e) n)]
  exact a c u e
theorem Sm.un {H H1 : Hp} (a : Sm H H1) {p : Addr} (n : H1 p = none) : H p = none := by
  cases e : H p with
  | none => rfl
  | some o => rw [a p o e] at n; cases n
/-- a fresh object set anew -/
theorem Sm.set {H H1 : Hp} {p : Addr} {o : HO} (a : Sm H H1) (n : H p = none) : Sm H (upd H1 p o) := fun c u e => by
  rw [upd_ne (ne_of_none e n)]
  exact a c u e
/-- all but code tables is kept -/
def Kc (H H' : Hp) : Prop := ∀ b o, H b = some o → (∀ ps, o ≠ .tbl ps) → H' b = some o
theorem Kc.of {H H' : Hp} (a : Sm H H') : Kc H H' := fun b o e _ => a b o e
theorem Kc.rf {H : Hp} : Kc H H := fun _ _ e _ => e
theorem Kc.tr {H H1 H2 : Hp} (a : Kc H H1) (b : Kc H1 H2) : Kc H H2 := fun c o e n => b c o (a c o e n) n
section
variable {X : Cx} {x : Str} {pos : Pos}
theorem gInt {n : Int} (h : ∃ t, X.mg x = some (.int n t)) (hg : Gl X x := by rfl) (hdb : (x == ("__debug__" : Str)) = false := by decide) : PE X (.Name x pos) (tC (.int n)) := by
  obtain ⟨t, e⟩ := h
  exact pe_glob hg e ⟨t, rfl⟩ hdb
theorem gStr {z : Str} (h : ∃ t, X.mg x = some (.str z t)) (hg : Gl X x := by rfl) (hdb : (x == ("__debug__" : Str)) = false := by decide) : PE X (.Name x pos) (tC (.str z)) := by
  obtain ⟨t, e⟩ := h
  exact pe_glob hg e ⟨t, rfl⟩ hdb
theorem gTy {n : String} (hm : X.mg x = none) (hv : bootBuiltins x = some (.type n)) (hg : Gl X x := by rfl) (hn : x ≠ "__name__" := by decide) (hdb : (x == ("__debug__" : Str)) = false := by decide) : PE X (.Name x pos) (tC (.ty n)) := pe_bltn hg hm hv rfl hn hdb
end
/-- a class asked of a value of just that type -/
theorem kit_same {K : PySem.W.Frag} {T : String} : PySem.W.kitOne K (.type T) (.type T) = some true := if_pos (beq_self_eq_true _)
abbrev tyI {K : PySem.W.Frag} {H : Hp} (i : Int) : TyX K H (.int i) (.type "int") := .base (.int i)
abbrev tyS {K : PySem.W.Frag} {H : Hp} (z : Str) : TyX K H (.str z) (.type "str") := .base (.str z)
theorem ifT {c : Bool} {A B : Prop} (e : c = true) (h : A) : if c = true then A else B := by
  subst e
  exact iteT h
theorem ifF {c : Bool} {A B : Prop} (e : c = false) (h : B) : if c = true then A else B := by
  subst e
  exact iteF h
theorem decT {p : Prop} [Decidable p] (h : p) : decide p = true := decide_eq_true h
theorem decF {p : Prop} [Decidable p] (h : ¬ p) : decide p = false := decide_eq_false h
theorem ndecT {p : Prop} [Decidable p] (h : p) : (!decide p) = false := by rw [decT h]; rfl
theorem ndecF {p : Prop} [Decidable p] (h : ¬ p) : (!decide p) = true := by rw [decF h]; rfl
theorem hu64_of {A : Around} {k : Nat} (hr : Room k A) : A.units + 64 < cLine := by
  have := hr.un
  omega
theorem yesI {σ : L2.St} {H : Hp} {A B : Hp → Prop} (h : A H) : tYes σ H fun b H3 => if b = true then A H3 else B H3 := by
  show if true = true then A H else B H
  rw [if_pos rfl]
  exact h
def rLenS (K : PySem.W.Frag) : List V → Hp → VK → Prop := fun xs H Q => ∃ (p : Addr) (ys : List V), xs = [.ref p] ∧ (SqL K H p ys ∨ SqT K H p ys) ∧ Q (.int ys.length) H
def rListS (K : PySem.W.Frag) : List V → Hp → VK → Prop := fun xs H Q => ∃ (p : Addr) (ys : List V), xs = [.ref p] ∧ (SqL K H p ys ∨ SqT K H p ys) ∧ ∀ l, H l = none → Q (.ref l) (upd H l (.lst ys))
section
variable {X : Cx}
theorem call_lenS : CallR X (.builtin "len") (rLenS X.K) := call_len_seq
theorem call_listS : CallR X (.type "list") (rListS X.K) := call_list_of
end
end Gs
/-! ## GsLc -/
/-! Comprehensions whose parts only make objects. -/
namespace Gs
open PySem PySem.Spec PyProof.Rows L2
/-- kept: all objects but the one at D -/
def Off (D : Addr) (H H' : Hp) : Prop := ∀ b o, H b = some o → b ≠ D → H' b = some o
theorem Off.of {D : Addr} {H H' : Hp} (a : Sm H H') : Off D H H' := fun b o e _ => a b o e
theorem Off.tr {D : Addr} {H H1 H2 : Hp} (a : Off D H H1) (b : Off D H1 H2) : Off D H H2 := fun c o e n => b c o (a c o e n) n
theorem Off.up {D : Addr} {H : Hp} {o : HO} : Off D H (upd H D o) := fun b u e n => by rw [upd_ne n]; exact e
theorem take_snoc {α : Type} {ts : List α} {i : Nat} {t : α} (h : ts[i]? = some t) : ts.take (i + 1) = ts.take i ++ [t] := by rw [List.take_add_one, h]; rfl
theorem take_filter {α : Type} {ts : List α} {i : Nat} {t : α} (c : α → Bool) (h : ts[i]? = some t) : (ts.take (i + 1)).filter c = (ts.take i).filter c ++ (if c t then [t] else []) := by
  rw [take_snoc h, List.filter_append]
  by_cases e : c t <;> simp [e]
theorem paired_mono {α β : Type} {F G : α → β → Prop} {l : List α} {m : List β} (h : Paired F l m) (k : ∀ a b, F a b → G a b) : Paired G l m := Paired.mapP h k
theorem paired_eq {α β : Type} {f : α → β} : ∀ {l : List α} {m : List β}, Paired (fun a b => b = f a) l m → m = l.map f
  | _, _, .nil => rfl
  | _, _, .cons h t => by rw [h, paired_eq t]; rfl
theorem filter_all {α : Type} (l : List α) : l.filter (fun _ => true) = l := by simp
section
variable {α : Type} {J : It} {G : Hp → Prop} {Y : Nat → Hp → V → Hp → Prop} {g : TG} {tt : TT} {te tk tv : TE} {vs : List Nat} {σ : L2.St} {H1 : Hp} {D : Addr} {Qd : Hp → Prop}
/-- a list comprehension -/
theorem lc_sm (ts : List α) (w : Walk J ts.length G Y) (hY : ∀ i H x H', Y i H x H' → Sm H H') (nD : H1 D = none) (hG : ∀ H, Sm H1 H → G H) (cond : α → Bool) (Rel : α → V → Hp → Prop)
    (hR : ∀ t y H H', Off D H H' → Rel t y H → Rel t y H') (hl : ts.length < sizeLine)
    (hs : ∀ i t x H H' (Pa : V → Hp → Prop) (Pb : Hp → Prop), ts[i]? = some t → Sm H1 H → Sm H1 H' → (∃ acc, H D = some (.lst acc)) → Y i H x H' → (∀ y H4, Sm H' H4 → cond t = true → Rel t y H4 → Pa y H4) → (∀ H3, Sm H' H3 → cond t = false → Pb H3) →
      g x (wipe σ vs) H' fun σ2 H2 => wipe σ2 vs = wipe σ vs ∧ tt σ2 H2 fun b H3 => if b = true then te σ2 H3 Pa else Pb H3)
    (hd : ∀ H acc, Sm H1 H → H D = some (.lst acc) → Paired (fun t y => Rel t y H) (ts.filter cond) acc → Qd H) :
    ∃ W : Nat → Nat → Hp → Prop, (∃ m, W 0 m (upd H1 D (.lst []))) ∧ ∀ i m H, W i m H →
      (J.stop i H ∧ Qd H) ∨ (J.go i H ∧ ∃ Nx : Hp → Prop, (∀ H', Nx H' → ∃ m', m' < m ∧ W (i + 1) m' H') ∧ ∀ x H', J.yld i H x H' → g x (wipe σ vs) H' fun σ2 H2 => wipe σ2 vs = wipe σ vs ∧ tt σ2 H2 fun b H3 =>
        if b = true then te σ2 H3 fun y H4 => ∃ acc, H4 D = some (.lst acc) ∧ acc.length < sizeLine ∧ Nx (upd H4 D (.lst (acc ++ [y]))) else Nx H3) := by
  refine lc_it w (fun i H => Sm H1 H ∧ ∃ acc, H D = some (.lst acc) ∧ Paired (fun t y => Rel t y H) ((ts.take i).filter cond) acc) ⟨Sm.rf.up nD, [], upd_same, .nil⟩ (fun i H _ p => hG H p.1) (fun i x H H' hi p y => ?_) (fun H p => ?_)
  · obtain ⟨sm, acc, ha, hp⟩ := p
    have ht : ts[i]? = some ts[i] := List.getElem?_eq_getElem hi
    have s1 := hY i H x H' y
    have hlen : acc.length ≤ i := by
      rw [← hp.length]
      exact Nat.le_trans (List.length_filter_le ..) (by rw [List.length_take]; omega)
    refine hs i ts[i] x H H' _ _ ht sm (sm.tr s1) ⟨acc, ha⟩ y (fun z H4 s4 hc hr => ?_) (fun H3 s3 hc => ?_)
    · have o4 : Off D H (upd H4 D (.lst (acc ++ [z]))) := (Off.of (s1.tr s4)).tr Off.up
      refine ⟨acc, s4 _ _ (s1 _ _ ha), by omega, ((sm.tr s1).tr s4).set nD, _, upd_same, ?_⟩
      rw [take_filter cond ht, if_pos hc]
      exact (paired_mono hp fun t y r => hR t y _ _ o4 r).snoc (hR _ _ _ _ Off.up hr)
    · refine ⟨(sm.tr s1).tr s3, acc, s3 _ _ (s1 _ _ ha), ?_⟩
      rw [take_filter cond ht, if_neg (by rw [hc]; exact Bool.false_ne_true), List.append_nil]
      exact paired_mono hp fun t y r => hR t y _ _ (Off.of (s1.tr s3)) r
  · obtain ⟨sm, acc, ha, hp⟩ := p
    rw [List.take_length] at hp
    exact hd H acc sm ha hp
theorem putK_app {κ : Type} [DecidableEq κ] {kvs : List (κ × V)} {k : κ} (v : V) (h : k ∉ kvs.map (·.1)) : putK kvs k v = kvs ++ [(k, v)] := by
  refine putK_new v ?_
  cases e : valV kvs k with
  | none => rfl
  | some u => exact absurd (valV_in e) h
theorem keys_of {κ : Type} {kf : α → κ} {F : α → V → Prop} : ∀ {l : List α} {m : List (κ × V)}, Paired (fun t p => p.1 = kf t ∧ F t p.2) l m → m.map (·.1) = l.map kf
  | _, _, .nil => rfl
  | _, _, .cons h t => by rw [List.map_cons, List.map_cons, h.1, keys_of t]
theorem key_new {κ : Type} {kf : α → κ} {F : α → V → Prop} {ts : List α} {i : Nat} {t : α} {cond : α → Bool} {m : List (κ × V)} (ht : ts[i]? = some t) (hn : (ts.map kf).Nodup) (hp : Paired (fun t p => p.1 = kf t ∧ F t p.2) ((ts.take i).filter cond) m) : kf t ∉ m.map (·.1) := by
  rw [keys_of hp]
  intro hm
  obtain ⟨u, hu, e⟩ := List.mem_map.mp hm
  obtain ⟨j, hj⟩ := List.mem_iff_getElem?.mp (List.mem_filter.mp hu).1
  rw [List.getElem?_take] at hj
  by_cases hji : j < i
  · rw [if_pos hji] at hj
    have a1 : (ts.map kf)[j]? = some (kf u) := by rw [List.getElem?_map, hj]; rfl
    have a2 : (ts.map kf)[i]? = some (kf t) := by rw [List.getElem?_map, ht]; rfl
    obtain ⟨l1, e1⟩ := List.getElem?_eq_some_iff.mp a1
    obtain ⟨l2, e2⟩ := List.getElem?_eq_some_iff.mp a2
    exact absurd (e1.trans (e.trans e2.symm)) (List.pairwise_iff_getElem.mp hn j i l1 l2 hji)
  · rw [if_neg hji] at hj
    cases hj
/-- a dict comprehension, texts (or ints) as keys, no key twice -/
theorem dgK_sm (ts : List α) (w : Walk J ts.length G Y) (hY : ∀ i H x H', Y i H x H' → Sm H H') (nD : H1 D = none) (hG : ∀ H, Sm H1 H → G H) (kf : α → Key) (hk : (ts.map kf).Nodup) (cond : α → Bool) (Rel : α → V → Hp → Prop)
    (hR : ∀ t y H H', Off D H H' → Rel t y H → Rel t y H') (hl : ts.length < sizeLine)
    (hs : ∀ i t x H H' (Pa : V → V → Hp → Prop) (Pb : Hp → Prop), ts[i]? = some t → Sm H1 H → Sm H1 H' → (∃ acc, H D = some (.dK acc)) → Y i H x H' → (∀ z H4, Sm H' H4 → cond t = true → Rel t z H4 → Pa (kV (kf t)) z H4) → (∀ H3, Sm H' H3 → cond t = false → Pb H3) →
      g x (wipe σ vs) H' fun σ2 H2 => wipe σ2 vs = wipe σ vs ∧ tt σ2 H2 fun b H3 => if b = true then tk σ2 H3 fun y H4 => tv σ2 H4 fun z H5 => Pa y z H5 else Pb H3)
    (hd : ∀ H acc, Sm H1 H → H D = some (.dK acc) → Paired (fun t p => p.1 = kf t ∧ Rel t p.2 H) (ts.filter cond) acc → Qd H) :
    ∃ W : Nat → Nat → Hp → Prop, (∃ m, W 0 m (upd H1 D (.dK []))) ∧ ∀ i m H, W i m H →
      (J.stop i H ∧ Qd H) ∨ (J.go i H ∧ ∃ Nx : Hp → Prop, (∀ H', Nx H' → ∃ m', m' < m ∧ W (i + 1) m' H') ∧ ∀ x H', J.yld i H x H' → g x (wipe σ vs) H' fun σ2 H2 => wipe σ2 vs = wipe σ vs ∧ tt σ2 H2 fun b H3 =>
        if b = true then tk σ2 H3 fun y H4 => tv σ2 H4 fun z H5 => ∃ H6, DPut H5 D y z H6 ∧ Nx H6 else Nx H3) := by
  refine dg_it w (fun i H => Sm H1 H ∧ ∃ acc, H D = some (.dK acc) ∧ Paired (fun t (p : Key × V) => p.1 = kf t ∧ Rel t p.2 H) ((ts.take i).filter cond) acc) ⟨Sm.rf.up nD, [], upd_same, .nil⟩ (fun i H _ p => hG H p.1) (fun i x H H' hi p y => ?_) (fun H p => ?_)
  · obtain ⟨sm, acc, ha, hp⟩ := p
    have ht : ts[i]? = some ts[i] := List.getElem?_eq_getElem hi
    have s1 := hY i H x H' y
    have hlen : acc.length ≤ i := by
      rw [← hp.length]
      exact Nat.le_trans (List.length_filter_le ..) (by rw [List.length_take]; omega)
    refine hs i ts[i] x H H' _ _ ht sm (sm.tr s1) ⟨acc, ha⟩ y (fun z H4 s4 hc hr => ?_) (fun H3 s3 hc => ?_)
    · have o4 : Off D H (upd H4 D (.dK (acc ++ [(kf ts[i], z)]))) := (Off.of (s1.tr s4)).tr Off.up
      refine ⟨_, DPut.k (k := kf ts[i]) (s4 _ _ (s1 _ _ ha)) (by omega), ?_⟩
      rw [putK_app z (key_new (F := fun t v => Rel t v H) ht hk hp)]
      refine ⟨((sm.tr s1).tr s4).set nD, _, upd_same, ?_⟩
      rw [take_filter cond ht, if_pos hc]
      exact (paired_mono hp fun t p r => ⟨r.1, hR t p.2 _ _ o4 r.2⟩).snoc ⟨rfl, hR _ _ _ _ Off.up hr⟩
    · refine ⟨(sm.tr s1).tr s3, acc, s3 _ _ (s1 _ _ ha), ?_⟩
      rw [take_filter cond ht, if_neg (by rw [hc]; exact Bool.false_ne_true), List.append_nil]
      exact paired_mono hp fun t p r => ⟨r.1, hR t p.2 _ _ (Off.of (s1.tr s3)) r.2⟩
  · obtain ⟨sm, acc, ha, hp⟩ := p
    rw [List.take_length] at hp
    exact hd H acc sm ha hp
/-- a dict comprehension, tuples as keys, no key twice -/
theorem dgT_sm (ts : List α) (w : Walk J ts.length G Y) (hY : ∀ i H x H', Y i H x H' → Sm H H') (nD : H1 D = none) (hG : ∀ H, Sm H1 H → G H) (kf : α → List Key) (hk : (ts.map kf).Nodup) (cond : α → Bool) (Rel : α → V → Hp → Prop)
    (hR : ∀ t y H H', Off D H H' → Rel t y H → Rel t y H') (hl : ts.length < sizeLine)
    (hs : ∀ i t x H H' (Pa : V → V → Hp → Prop) (Pb : Hp → Prop), ts[i]? = some t → Sm H1 H → Sm H1 H' → (∃ acc, H D = some (.dT acc)) → Y i H x H' → (∀ b z H4, Sm H' H4 → cond t = true → H4 b = some (.tup ((kf t).map kV)) → Rel t z H4 → Pa (.ref b) z H4) → (∀ H3, Sm H' H3 → cond t = false → Pb H3) →
      g x (wipe σ vs) H' fun σ2 H2 => wipe σ2 vs = wipe σ vs ∧ tt σ2 H2 fun b H3 => if b = true then tk σ2 H3 fun y H4 => tv σ2 H4 fun z H5 => Pa y z H5 else Pb H3)
    (hd : ∀ H acc, Sm H1 H → H D = some (.dT acc) → Paired (fun t p => p.1 = kf t ∧ Rel t p.2 H) (ts.filter cond) acc → Qd H) :
    ∃ W : Nat → Nat → Hp → Prop, (∃ m, W 0 m (upd H1 D (.dT []))) ∧ ∀ i m H, W i m H →
      (J.stop i H ∧ Qd H) ∨ (J.go i H ∧ ∃ Nx : Hp → Prop, (∀ H', Nx H' → ∃ m', m' < m ∧ W (i + 1) m' H') ∧ ∀ x H', J.yld i H x H' → g x (wipe σ vs) H' fun σ2 H2 => wipe σ2 vs = wipe σ vs ∧ tt σ2 H2 fun b H3 =>
        if b = true then tk σ2 H3 fun y H4 => tv σ2 H4 fun z H5 => ∃ H6, DPut H5 D y z H6 ∧ Nx H6 else Nx H3) := by
  refine dg_it w (fun i H => Sm H1 H ∧ ∃ acc, H D = some (.dT acc) ∧ Paired (fun t (p : List Key × V) => p.1 = kf t ∧ Rel t p.2 H) ((ts.take i).filter cond) acc) ⟨Sm.rf.up nD, [], upd_same, .nil⟩ (fun i H _ p => hG H p.1) (fun i x H H' hi p y => ?_) (fun H p => ?_)
  · obtain ⟨sm, acc, ha, hp⟩ := p
    have ht : ts[i]? = some ts[i] := List.getElem?_eq_getElem hi
    have s1 := hY i H x H' y
    have hlen : acc.length ≤ i := by
      rw [← hp.length]
      exact Nat.le_trans (List.length_filter_le ..) (by rw [List.length_take]; omega)
    refine hs i ts[i] x H H' _ _ ht sm (sm.tr s1) ⟨acc, ha⟩ y (fun b z H4 s4 hc hb hr => ?_) (fun H3 s3 hc => ?_)
    · have o4 : Off D H (upd H4 D (.dT (acc ++ [(kf ts[i], z)]))) := (Off.of (s1.tr s4)).tr Off.up
      refine ⟨_, DPut.t (k := kf ts[i]) (s4 _ _ (s1 _ _ ha)) hb (by omega), ?_⟩
      rw [putK_app z (key_new (F := fun t v => Rel t v H) ht hk hp)]
      refine ⟨((sm.tr s1).tr s4).set nD, _, upd_same, ?_⟩
      rw [take_filter cond ht, if_pos hc]
      exact (paired_mono hp fun t p r => ⟨r.1, hR t p.2 _ _ o4 r.2⟩).snoc ⟨rfl, hR _ _ _ _ Off.up hr⟩
    · refine ⟨(sm.tr s1).tr s3, acc, s3 _ _ (s1 _ _ ha), ?_⟩
      rw [take_filter cond ht, if_neg (by rw [hc]; exact Bool.false_ne_true), List.append_nil]
      exact paired_mono hp fun t p r => ⟨r.1, hR t p.2 _ _ (Off.of (s1.tr s3)) r.2⟩
  · obtain ⟨sm, acc, ha, hp⟩ := p
    rw [List.take_length] at hp
    exact hd H acc sm ha hp
/-- without a test -/
theorem lc_smY (ts : List α) (w : Walk J ts.length G Y) (hY : ∀ i H x H', Y i H x H' → Sm H H') (nD : H1 D = none) (hG : ∀ H, Sm H1 H → G H) (Rel : α → V → Hp → Prop)
    (hR : ∀ t y H H', Off D H H' → Rel t y H → Rel t y H') (hl : ts.length < sizeLine)
    (hs : ∀ i t x H H' (Pa : V → Hp → Prop), ts[i]? = some t → Sm H1 H → Sm H1 H' → (∃ acc, H D = some (.lst acc)) → Y i H x H' → (∀ y H4, Sm H' H4 → Rel t y H4 → Pa y H4) →
      g x (wipe σ vs) H' fun σ2 H2 => wipe σ2 vs = wipe σ vs ∧ te σ2 H2 Pa)
    (hd : ∀ H acc, Sm H1 H → H D = some (.lst acc) → Paired (fun t y => Rel t y H) ts acc → Qd H) :
    ∃ W : Nat → Nat → Hp → Prop, (∃ m, W 0 m (upd H1 D (.lst []))) ∧ ∀ i m H, W i m H →
      (J.stop i H ∧ Qd H) ∨ (J.go i H ∧ ∃ Nx : Hp → Prop, (∀ H', Nx H' → ∃ m', m' < m ∧ W (i + 1) m' H') ∧ ∀ x H', J.yld i H x H' → g x (wipe σ vs) H' fun σ2 H2 => wipe σ2 vs = wipe σ vs ∧ tYes σ2 H2 fun b H3 =>
        if b = true then te σ2 H3 fun y H4 => ∃ acc, H4 D = some (.lst acc) ∧ acc.length < sizeLine ∧ Nx (upd H4 D (.lst (acc ++ [y]))) else Nx H3) := by
  refine lc_sm (tt := tYes) ts w hY nD hG (fun _ => true) Rel hR hl (fun i t x H H' Pa Pb ht s1 s2 ha y ka kb => ?_) (fun H acc s ha hp => hd H acc s ha (by rw [filter_all] at hp; exact hp))
  have key := hs i t x H H' Pa ht s1 s2 ha y fun y H4 s r => ka y H4 s rfl r
  simpa only [tYes, if_true] using key
theorem dgK_smY (ts : List α) (w : Walk J ts.length G Y) (hY : ∀ i H x H', Y i H x H' → Sm H H') (nD : H1 D = none) (hG : ∀ H, Sm H1 H → G H) (kf : α → Key) (hk : (ts.map kf).Nodup) (Rel : α → V → Hp → Prop)
    (hR : ∀ t y H H', Off D H H' → Rel t y H → Rel t y H') (hl : ts.length < sizeLine)
    (hs : ∀ i t x H H' (Pa : V → V → Hp → Prop), ts[i]? = some t → Sm H1 H → Sm H1 H' → (∃ acc, H D = some (.dK acc)) → Y i H x H' → (∀ z H4, Sm H' H4 → Rel t z H4 → Pa (kV (kf t)) z H4) →
      g x (wipe σ vs) H' fun σ2 H2 => wipe σ2 vs = wipe σ vs ∧ tk σ2 H2 fun y H4 => tv σ2 H4 fun z H5 => Pa y z H5)
    (hd : ∀ H acc, Sm H1 H → H D = some (.dK acc) → Paired (fun t p => p.1 = kf t ∧ Rel t p.2 H) ts acc → Qd H) :
    ∃ W : Nat → Nat → Hp → Prop, (∃ m, W 0 m (upd H1 D (.dK []))) ∧ ∀ i m H, W i m H →
      (J.stop i H ∧ Qd H) ∨ (J.go i H ∧ ∃ Nx : Hp → Prop, (∀ H', Nx H' → ∃ m', m' < m ∧ W (i + 1) m' H') ∧ ∀ x H', J.yld i H x H' → g x (wipe σ vs) H' fun σ2 H2 => wipe σ2 vs = wipe σ vs ∧ tYes σ2 H2 fun b H3 =>
        if b = true then tk σ2 H3 fun y H4 => tv σ2 H4 fun z H5 => ∃ H6, DPut H5 D y z H6 ∧ Nx H6 else Nx H3) := by
  refine dgK_sm (tt := tYes) ts w hY nD hG kf hk (fun _ => true) Rel hR hl (fun i t x H H' Pa Pb ht s1 s2 ha y ka kb => ?_) (fun H acc s ha hp => hd H acc s ha (by rw [filter_all] at hp; exact hp))
  have key := hs i t x H H' Pa ht s1 s2 ha y fun y H4 s r => ka y H4 s rfl r
  simpa only [tYes, if_true] using key
theorem dgT_smY (ts : List α) (w : Walk J ts.length G Y) (hY : ∀ i H x H', Y i H x H' → Sm H H') (nD : H1 D = none) (hG : ∀ H, Sm H1 H → G H) (kf : α → List Key) (hk : (ts.map kf).Nodup) (Rel : α → V → Hp → Prop)
    (hR : ∀ t y H H', Off D H H' → Rel t y H → Rel t y H') (hl : ts.length < sizeLine)
    (hs : ∀ i t x H H' (Pa : V → V → Hp → Prop), ts[i]? = some t → Sm H1 H → Sm H1 H' → (∃ acc, H D = some (.dT acc)) → Y i H x H' → (∀ b z H4, Sm H' H4 → H4 b = some (.tup ((kf t).map kV)) → Rel t z H4 → Pa (.ref b) z H4) →
      g x (wipe σ vs) H' fun σ2 H2 => wipe σ2 vs = wipe σ vs ∧ tk σ2 H2 fun y H4 => tv σ2 H4 fun z H5 => Pa y z H5)
    (hd : ∀ H acc, Sm H1 H → H D = some (.dT acc) → Paired (fun t p => p.1 = kf t ∧ Rel t p.2 H) ts acc → Qd H) :
    ∃ W : Nat → Nat → Hp → Prop, (∃ m, W 0 m (upd H1 D (.dT []))) ∧ ∀ i m H, W i m H →
      (J.stop i H ∧ Qd H) ∨ (J.go i H ∧ ∃ Nx : Hp → Prop, (∀ H', Nx H' → ∃ m', m' < m ∧ W (i + 1) m' H') ∧ ∀ x H', J.yld i H x H' → g x (wipe σ vs) H' fun σ2 H2 => wipe σ2 vs = wipe σ vs ∧ tYes σ2 H2 fun b H3 =>
        if b = true then tk σ2 H3 fun y H4 => tv σ2 H4 fun z H5 => ∃ H6, DPut H5 D y z H6 ∧ Nx H6 else Nx H3) := by
  refine dgT_sm (tt := tYes) ts w hY nD hG kf hk (fun _ => true) Rel hR hl (fun i t x H H' Pa Pb ht s1 s2 ha y ka kb => ?_) (fun H acc s ha hp => hd H acc s ha (by rw [filter_all] at hp; exact hp))
  have key := hs i t x H H' Pa ht s1 s2 ha y fun b y H4 s hb r => ka b y H4 s rfl hb r
  simpa only [tYes, if_true] using key
end
section
variable {α : Type} {J : It} {G : Hp → Prop} {Y : Nat → Hp → V → Hp → Prop} {g : TG} {tb : TS} {D : Ends} {σ : L2.St} {H1 : Hp}
/-- a loop whose body only makes objects and keeps S of the slots -/
theorem for_ck (ts : List α) (w : Walk J ts.length G Y) (hY : ∀ i H x H', Y i H x H' → Sm H H') (hG : ∀ H, Sm H1 H → G H) (S : L2.St → Prop) (h0 : S σ)
    (hs : ∀ i t x σ H H' (N : L2.St → Hp → Prop), ts[i]? = some t → S σ → Sm H1 H → Sm H1 H' → Y i H x H' → (∀ σ2 H2, S σ2 → Sm H' H2 → N σ2 H2) → g x σ H' fun σ2 H2 => tb { D with nx := N, ct := N, bk := D.nx } σ2 H2)
    (hd : ∀ σ H, S σ → Sm H1 H → D.nx σ H) :
    ∃ W : Nat → Nat → L2.St → Hp → Prop, (∃ m, W 0 m σ H1) ∧ ∀ i m σ H, W i m σ H →
      (J.stop i H ∧ D.nx σ H) ∨ (J.go i H ∧ ∃ N : L2.St → Hp → Prop, (∀ σ' H', N σ' H' → ∃ m', m' < m ∧ W (i + 1) m' σ' H') ∧ ∀ x H', J.yld i H x H' → g x σ H' fun σ2 H2 => tb { D with nx := N, ct := N, bk := D.nx } σ2 H2) := by
  refine for_it w (fun i σ H => S σ ∧ Sm H1 H) ⟨h0, Sm.rf⟩ (fun i σ H _ p => hG H p.2) (fun i x σ H H' hi p y => ?_) (fun σ H p => hd σ H p.1 p.2)
  exact hs i ts[i] x σ H H' _ (List.getElem?_eq_getElem hi) p.1 p.2 (p.2.tr (hY i H x H' y)) y fun σ2 H2 s h => ⟨s, (p.2.tr (hY i H x H' y)).tr h⟩
end
/-- a locked dict let go -/
theorem Sm.unlock {H H' : Hp} {d : Addr} {o : Obj} {u : HO} (e : H d = some u) (s : Sm (upd H d (.frz o u)) H') : H' d = some (.frz o u) ∧ Sm H (upd H' d u) := by
  refine ⟨s d _ upd_same, fun b v hb => ?_⟩
  by_cases h : b = d
  · subst h
    rw [e] at hb
    rw [upd_same]
    exact hb
  · rw [upd_ne h]
    exact s b v (by rw [upd_ne h]; exact hb)
theorem map_pick {α : Type} {κ : Type} {ts : List α} {kf : α → κ} {vf : α → V} {i : Nat} {t : α} (h : ts[i]? = some t) : (ts.map fun t => (kf t, vf t))[i]? = some (kf t, vf t) := by rw [List.getElem?_map, h]; rfl
theorem pick1 {α : Type} {ts : List α} {f : α → V} {i : Nat} {t : α} {b : V} (h : ts[i]? = some t) (e : (ts.map f)[i]? = some b) : b = f t := by
  rw [List.getElem?_map, h] at e
  exact (Option.some.inj e).symm
theorem pickK {α : Type} {ts : List α} {kf : α → Key} {vf : α → V} {i : Nat} {t : α} {b : V} (h : ts[i]? = some t) (e : ((ts.map fun t => (kf t, vf t))[i]?.map fun kv => kV kv.1) = some b) : b = kV (kf t) := by
  rw [map_pick h] at e
  exact (Option.some.inj e).symm
theorem pickV {α : Type} {κ : Type} {ts : List α} {kf : α → κ} {vf : α → V} {i : Nat} {t : α} {b : V} (h : ts[i]? = some t) (e : (ts.map fun t => (kf t, vf t))[i]?.map Prod.snd = some b) : b = vf t := by
  rw [map_pick h] at e
  exact (Option.some.inj e).symm
/-! what walks yield keeps the heap -/
theorem sm_YAt {xs : List V} {i : Nat} {H H' : Hp} {x : V} (y : YAt xs i H x H') : Sm H H' := by rw [y.1]; exact Sm.rf
theorem sm_YFn {f : Nat → V} {i : Nat} {H H' : Hp} {x : V} (y : YFn f i H x H') : Sm H H' := by rw [y.1]; exact Sm.rf
theorem sm_YPair {f g : Nat → Option V} {i : Nat} {H H' : Hp} {x : V} (y : YPair f g i H x H') : Sm H H' := by
  obtain ⟨T, a, b, _, hT, e, _⟩ := y
  rw [e]
  exact Sm.rf.up hT
end Gs
/-! ## GsD1 -/
namespace Gs
open PySem PySem.Spec PyProof.Rows L2
section
variable {P : Program} {w : World} {K : PySem.W.Frag} {mg : Str → Option Value} {base : Heap}
/-! ### names and versions -/
def spIntB (f : Int → Bool) : Sp := fun vs H Q _ => ∃ n : Int, vs = [.int n] ∧ Q (.bl (f n)) H
theorem ok_is_integer (T : Txt K mg) : FnOk P w K mg base CX0 1 T.d_is_integer.f T.d_is_integer.fd ["value"] (spIntB fun _ => true) := by
  have nd := sc_is_integer.nd
  refine T.d_is_integer.F.ok sc_is_integer (fun vs H Q E h => ?_) (fun cdv A outer s H vs Q E hr h => ?_)
  · obtain ⟨n, rfl, _⟩ := h; rfl
  · obtain ⟨n, rfl, q⟩ := h
    refine ⟨_, (pss_one (ps_ret (pe_and (pe_callB (r := rIsi K) (id := "isinstance") call_isi (by rfl) T.b_isinstance (by decide +kernel) (pa_cons (pv 0) (pa_cons (gTy (n := "int") T.b_int (by decide +kernel)) pa_nil))) (pe_one (pe_not (pe_callB (r := rIsi K) (id := "isinstance") call_isi (by rfl) T.b_isinstance (by decide +kernel) (pa_cons (pv 0) (pa_cons (gTy (n := "bool") T.b_bool (by decide +kernel)) pa_nil)))))))), ?_⟩
    exact ⟨_, rfl, _, _, _, _, _, rfl, .ty _, tyI n, kit_same, true, rfl, iteT ⟨_, rfl, _, _, _, _, _, rfl, .ty _, tyI n, (show PySem.W.kitOne K (.type "int") (.type "bool") = some false from kit_ty (by decide +kernel)), _, rfl, q⟩⟩
theorem ok_is_version (T : Txt K mg) : FnOk P w K mg base CX0 2 T.d_is_version.f T.d_is_version.fd ["value"] (spIntB fun n => decide (0 ≤ n)) := by
  have nd := sc_is_version.nd
  refine T.d_is_version.F.ok sc_is_version (fun vs H Q E h => ?_) (fun cdv A outer s H vs Q E hr h => ?_)
  · obtain ⟨n, rfl, _⟩ := h; rfl
  · obtain ⟨n, rfl, q⟩ := h
    refine ⟨_, (pss_one (ps_ret (pe_and (pcall (ok_is_integer T) T.d_is_integer.M (hr.mono (by decide)) (pa_cons (pv 0) pa_nil)) (pe_one (pe_cmpR op_ge (pv 0) pe_int (nomark _)))))), ?_⟩
    exact ⟨_, rfl, _, rfl, true, rfl, iteT ⟨_, rfl, _, _, rfl, rfl, q⟩⟩
theorem ok_require_version (T : Txt K mg) : FnOk P w K mg base CX0 3 T.d_require_version.f T.d_require_version.fd ["value"] (fun vs H Q _ => ∃ n : Int, vs = [.int n] ∧ 0 ≤ n ∧ Q .non H) := by
  have nd := sc_require_version.nd
  refine T.d_require_version.F.ok sc_require_version (fun vs H Q E h => ?_) (fun cdv A outer s H vs Q E hr h => ?_)
  · obtain ⟨n, rfl, _⟩ := h; rfl
  · obtain ⟨n, rfl, h0, q⟩ := h
    refine ⟨_, (pss_one (ps_if (pt_not (pt_val (pcall (ok_is_version T) T.d_is_version.M (hr.mono (by decide)) (pa_cons (pv 0) pa_nil)))) (pss_one ps_never) pss_nil)), ?_⟩
    exact ⟨_, rfl, _, rfl, _, rfl, ifF (ndecT h0) q⟩
/-! ### windows -/
def hiV : Option Int → V
  | none => .non
  | some h => .int h
def winV (v : Win) : List V := [.int v.1, hiV v.2]
def spWin (f : Win → Bool) : Sp := fun vs H Q _ => ∃ (a : Addr) (v : Win), vs = [.ref a] ∧ H a = some (.tup (winV v)) ∧ okWin v ∧ Q (.bl (f v)) H
theorem at0 {α : Type} {x : α} {xs : List α} : atI (x :: xs) 0 = some x := atI_nat (j := 0) rfl
theorem at1 {α : Type} {x y : α} {xs : List α} : atI (x :: y :: xs) 1 = some y := atI_nat (j := 1) rfl
theorem at2 {α : Type} {x y z : α} {xs : List α} : atI (x :: y :: z :: xs) 2 = some z := atI_nat (j := 2) rfl
theorem ok_is_window (T : Txt K mg) : FnOk P w K mg base CX0 3 T.d_is_window.f T.d_is_window.fd ["value"] (spWin fun _ => true) := by
  have nd := sc_is_window.nd
  refine T.d_is_window.F.ok sc_is_window (fun vs H Q E h => ?_) (fun cdv A outer s H vs Q E hr h => ?_)
  · obtain ⟨a, v, rfl, _⟩ := h; rfl
  · obtain ⟨a, v, rfl, ha, ok, q⟩ := h
    refine ⟨_, (pss_cons (ps_if (PW.pt (pw_or (pt_not (pt_val (pe_callB (r := rIsi K) (id := "isinstance") call_isi (by rfl) T.b_isinstance (by decide +kernel) (pa_cons (pv 0) (pa_cons (gTy (n := "tuple") T.b_tuple (by decide +kernel)) pa_nil))))) (pw_or (pt_cmpR op_ne (pe_callB (r := rLenS K) (id := "len") call_lenS (by rfl) T.b_len (by decide +kernel) (pa_cons (pv 0) pa_nil)) pe_int (nomark _)) (pw_or1 (pt_not (pt_val (pcall (ok_is_version T) T.d_is_version.M (hr.mono (by decide)) (pa_cons (pe_ix (r := rIxT K) ix_tup (pv 0) pe_int (fun _ _ => rfl)) pa_nil)))))))) (pss_one (ps_ret pe_bl)) pss_nil)
      (pss_cons (ps_asg (pv 0) (pg_tup rfl (pgs_cons (pg_name (i := 1) nd rfl (.inl rfl)) (pgs_cons (pg_name (i := 2) nd rfl (.inl rfl)) pgs_nil))))
      (pss_one (ps_ret (pe_or (pe_cmp (pc_isN (pv 2))) (pe_one (pe_and (pcall (ok_is_version T) T.d_is_version.M (hr.mono (by decide)) (pa_cons (pv 2) pa_nil)) (pe_one (pe_cmpR op_ge (pv 2) (pv 1) (nomark _)))))))))), ?_⟩
    refine ⟨_, rfl, _, _, _, _, _, rfl, .ty _, .base (.tup ha), kit_same, _, rfl, iteF ?_⟩
    refine ⟨_, rfl, a, winV v, rfl, .inr (SqT.of ha), rfl, _, rfl, iteF ?_⟩
    refine ⟨_, rfl, a, winV v, 0, _, rfl, rfl, SqT.of ha, at0, _, rfl, _, rfl, ifF (ndecT ok.1) ?_⟩
    refine ⟨_, rfl, a, winV v, rfl, SqT.of ha, rfl, _, _, rfl, _, _, rfl, rfl, ?_⟩
    refine ⟨_, rfl, ?_⟩
    obtain ⟨lo, hi⟩ := v
    cases hi with
    | none => exact ⟨true, rfl, iteT q⟩
    | some h =>
      have h1 := ok.2 h rfl
      have h0 := ok.1
      refine ⟨false, rfl, iteF ?_⟩
      refine ⟨_, rfl, _, rfl, _, rfl, ifT (decT (show 0 ≤ h by omega)) ⟨_, rfl, _, rfl, _, _, rfl, rfl, ?_⟩⟩
      have e : decide (lo ≤ h) = true := decT h1
      show Q (.bl (decide (lo ≤ h))) H
      rw [e]
      exact q
end
end Gs
/-! ## GsD2 -/
namespace Gs
open PySem PySem.Spec PyProof.Rows L2
section
variable {P : Program} {w : World} {K : PySem.W.Frag} {mg : Str → Option Value} {base : Heap}
theorem ok_require_window (T : Txt K mg) : FnOk P w K mg base CX0 4 T.d_require_window.f T.d_require_window.fd ["value"] (fun vs H Q _ => ∃ (a : Addr) (v : Win), vs = [.ref a] ∧ H a = some (.tup (winV v)) ∧ okWin v ∧ Q .non H) := by
  have nd := sc_require_window.nd
  refine T.d_require_window.F.ok sc_require_window (fun vs H Q E h => ?_) (fun cdv A outer s H vs Q E hr h => ?_)
  · obtain ⟨a, v, rfl, _⟩ := h; rfl
  · obtain ⟨a, v, rfl, ha, ok, q⟩ := h
    refine ⟨_, (pss_one (ps_if (pt_not (pt_val (pcall (ok_is_window T) T.d_is_window.M (hr.mono (by decide)) (pa_cons (pv 0) pa_nil)))) (pss_one ps_never) pss_nil)), ?_⟩
    exact ⟨_, rfl, a, v, rfl, ha, ok, true, rfl, iteF q⟩
theorem ok_reaches (T : Txt K mg) : FnOk P w K mg base CX0 1 T.d_reaches.f T.d_reaches.fd ["window", "version"] (fun vs H Q _ => ∃ (a : Addr) (v : Win) (n : Int), vs = [.ref a, .int n] ∧ H a = some (.tup (winV v)) ∧ Q (.bl (reach v n)) H) := by
  have nd := sc_reaches.nd
  refine T.d_reaches.F.ok sc_reaches (fun vs H Q E h => ?_) (fun cdv A outer s H vs Q E hr h => ?_)
  · obtain ⟨a, v, n, rfl, _⟩ := h; rfl
  · obtain ⟨a, v, n, rfl, ha, q⟩ := h
    refine ⟨_, (pss_one (ps_ret (pe_or (pe_cmp (pc_isN (pe_ix (r := rIxT K) ix_tup (pv 0) pe_int (fun _ _ => rfl)))) (pe_one (pe_cmpR op_ge (pe_ix (r := rIxT K) ix_tup (pv 0) pe_int (fun _ _ => rfl)) (pv 1) (nomark _)))))), ?_⟩
    refine ⟨_, rfl, a, winV v, 1, _, rfl, rfl, SqT.of ha, at1, ?_⟩
    obtain ⟨lo, hi⟩ := v
    cases hi with
    | none => exact ⟨true, rfl, iteT q⟩
    | some h => exact ⟨false, rfl, iteF ⟨_, rfl, a, _, 1, _, rfl, rfl, SqT.of ha, at1, _, rfl, _, _, rfl, rfl, q⟩⟩
theorem ok_contains (T : Txt K mg) : FnOk P w K mg base CX0 5 T.d_contains.f T.d_contains.fd ["window", "version"] (fun vs H Q _ => ∃ (a : Addr) (v : Win) (n : Int), vs = [.ref a, .int n] ∧ H a = some (.tup (winV v)) ∧ okWin v ∧ 0 ≤ n ∧ Q (.bl (holds v n)) H) := by
  have nd := sc_contains.nd
  refine T.d_contains.F.ok sc_contains (fun vs H Q E h => ?_) (fun cdv A outer s H vs Q E hr h => ?_)
  · obtain ⟨a, v, n, rfl, _⟩ := h; rfl
  · obtain ⟨a, v, n, rfl, ha, ok, h0, q⟩ := h
    refine ⟨_, (pss_cons (ps_expr (pcall (ok_require_window T) T.d_require_window.M (hr.mono (by decide)) (pa_cons (pv 0) pa_nil)))
      (pss_cons (ps_expr (pcall (ok_require_version T) T.d_require_version.M (hr.mono (by decide)) (pa_cons (pv 1) pa_nil)))
      (pss_one (ps_ret (pe_and (pe_cmpR op_le (pe_ix (r := rIxT K) ix_tup (pv 0) pe_int (fun _ _ => rfl)) (pv 1) (nomark _)) (pe_one (pcall (ok_reaches T) T.d_reaches.M (hr.mono (by decide)) (pa_cons (pv 0) (pa_cons (pv 1) pa_nil))))))))), ?_⟩
    refine ⟨_, rfl, a, v, rfl, ha, ok, _, rfl, n, rfl, h0, _, rfl, a, winV v, 0, _, rfl, rfl, SqT.of ha, at0, _, rfl, _, _, rfl, rfl, ?_⟩
    unfold holds at q
    by_cases h : v.1 ≤ n
    · rw [decT h, Bool.true_and] at q
      exact ⟨_, rfl, ifT (decT h) ⟨_, rfl, _, rfl, a, v, n, rfl, ha, q⟩⟩
    · rw [decF h, Bool.false_and] at q
      exact ⟨_, rfl, ifF (decF h) q⟩
theorem ok_rises (T : Txt K mg) : FnOk P w K mg base CX0 5 T.d_rises.f T.d_rises.fd ["first", "second"] (fun vs H Q _ => ∃ (a b : Addr) (u v : Win), vs = [.ref a, .ref b] ∧ H a = some (.tup (winV u)) ∧ H b = some (.tup (winV v)) ∧ okWin u ∧ okWin v ∧ Q (.bl (rise u v)) H) := by
  have nd := sc_rises.nd
  refine T.d_rises.F.ok sc_rises (fun vs H Q E h => ?_) (fun cdv A outer s H vs Q E hr h => ?_)
  · obtain ⟨a, b, u, v, rfl, _⟩ := h; rfl
  · obtain ⟨a, b, u, v, rfl, ha, hb, ou, ov, q⟩ := h
    refine ⟨_, (pss_cons (ps_expr (pcall (ok_require_window T) T.d_require_window.M (hr.mono (by decide)) (pa_cons (pv 0) pa_nil)))
      (pss_cons (ps_expr (pcall (ok_require_window T) T.d_require_window.M (hr.mono (by decide)) (pa_cons (pv 1) pa_nil)))
      (pss_cons (ps_if (pt_cmpR op_lt (pe_ix (r := rIxT K) ix_tup (pv 1) pe_int (fun _ _ => rfl)) (pe_ix (r := rIxT K) ix_tup (pv 0) pe_int (fun _ _ => rfl)) (nomark _)) (pss_one (ps_ret pe_bl)) pss_nil)
      (pss_one (ps_ret (pe_ifExp (pt_cmp (pc_isN (pe_ix (r := rIxT K) ix_tup (pv 0) pe_int (fun _ _ => rfl)))) (pe_cmp (pc_isN (pe_ix (r := rIxT K) ix_tup (pv 1) pe_int (fun _ _ => rfl)))) (pcall (ok_reaches T) T.d_reaches.M (hr.mono (by decide)) (pa_cons (pv 1) (pa_cons (pe_ix (r := rIxT K) ix_tup (pv 0) pe_int (fun _ _ => rfl)) pa_nil))))))))), ?_⟩
    refine ⟨_, rfl, a, u, rfl, ha, ou, _, rfl, b, v, rfl, hb, ov, _, rfl, b, winV v, 0, _, rfl, rfl, SqT.of hb, at0, _, rfl, a, winV u, 0, _, rfl, rfl, SqT.of ha, at0, _, _, rfl, rfl, _, rfl, ?_⟩
    unfold rise at q
    by_cases h : v.1 < u.1
    · refine ifT (decT h) ?_
      rw [decF (show ¬ u.1 ≤ v.1 by omega), Bool.false_and] at q
      exact q
    · refine ifF (decF h) ?_
      rw [decT (show u.1 ≤ v.1 by omega), Bool.true_and] at q
      refine ⟨_, rfl, a, winV u, 1, _, rfl, rfl, SqT.of ha, at1, _, rfl, ?_⟩
      obtain ⟨lo, hi⟩ := u
      cases hi with
      | none =>
        refine ifT (decT rfl) ⟨_, rfl, b, winV v, 1, _, rfl, rfl, SqT.of hb, at1, ?_⟩
        obtain ⟨lo', hi'⟩ := v
        cases hi' <;> exact q
      | some hh => exact ifF (decF (fun z => nomatch z)) ⟨_, rfl, _, rfl, a, _, 1, _, rfl, rfl, SqT.of ha, at1, b, v, hh, rfl, hb, q⟩
/-! ### names -/
def NmOk (z : Str) : Prop := 1 ≤ z.length ∧ z.length ≤ 8 ∧ ∀ c ∈ z.cps.toList, 97 ≤ c ∧ c ≤ 122
theorem letter_in {c : Nat} (h : 97 ≤ c ∧ c ≤ 122) : (!(Builtin.Str.occurrences ("abcdefghijklmnopqrstuvwxyz" : Str) ⟨#[c]⟩ 0 ("abcdefghijklmnopqrstuvwxyz" : Str).length 1).isEmpty) = true := by
  have all : ∀ k : Fin 26, (!(Builtin.Str.occurrences ("abcdefghijklmnopqrstuvwxyz" : Str) ⟨#[97 + k.val]⟩ 0 ("abcdefghijklmnopqrstuvwxyz" : Str).length 1).isEmpty) = true := by decide +kernel
  have := all ⟨c - 97, by omega⟩
  rw [show 97 + (c - 97) = c by omega] at this
  exact this
theorem NmOk.sz {z : Str} (h : NmOk z) : z.cps.size ≤ 8 := h.2.1
theorem ok_is_name (T : Txt K mg) : FnOk P w K mg base CX0 1 T.d_is_name.f T.d_is_name.fd ["value"] (fun vs H Q _ => ∃ z : Str, vs = [.str z] ∧ NmOk z ∧ ∀ H', Sm H H' → Q (.bl true) H') := by
  have nd := sc_is_name.nd
  refine T.d_is_name.F.ok sc_is_name (fun vs H Q E h => ?_) (fun cdv A outer s H vs Q E hr h => ?_)
  · obtain ⟨z, rfl, _⟩ := h; rfl
  · obtain ⟨z, rfl, ok, q⟩ := h
    have hs : sizeLine = 16777216 := sizeLine_eq
    have h8 := ok.2.1
    refine ⟨_, (pss_cons (ps_if (PW.pt (pw_or (pt_not (pt_val (pe_callB (r := rIsi K) (id := "isinstance") call_isi (by rfl) T.b_isinstance (by decide +kernel) (pa_cons (pv 0) (pa_cons (gTy (n := "str") T.b_str (by decide +kernel)) pa_nil))))) (pw_or1 (pt_not (pt_chain op_le op_le pe_int (pe_callB (id := "len") call_len_str (by rfl) T.b_len (by decide +kernel) (pa_cons (pv 0) pa_nil)) (gInt T.iML)))))) (pss_one (ps_ret pe_bl)) pss_nil)
      (pss_one (ps_ret (pe_callB (r := rAll K) (id := "all") (cr_all rfl) (by rfl) T.b_all (by decide +kernel) (pa_cons (pe_lc (own := [("letter", 1)]) (tt := tYes) (g := (gName 1)) rfl nd (pi_str (pv 0)) (blkOk_by (N := N_is_name) (sc := defScope s_is_name) (by decide +kernel)) (fun _ _ _ _ _ => (pg_name (i := 1) nd rfl (.inl rfl))) (fun _ _ _ _ _ => pts_nil) (fun _ _ _ _ _ => (pe_cmpR op_in_str (pv 1) (gStr T.iLetters) rfl))) pa_nil))))), ?_⟩
    refine ⟨_, rfl, _, _, _, _, _, rfl, .ty _, tyS z, kit_same, true, rfl, iteF ?_⟩
    refine ⟨_, rfl, z, rfl, by omega, _, _, rfl, rfl, true, (congrArg V.bl (decT (show (1 : Int) ≤ (z.length : Nat) by have := ok.1; omega))), iteT ⟨_, _, rfl, rfl, true, (congrArg V.bl (decT (show ((z.length : Nat) : Int) ≤ 8 by omega))), iteF ?_⟩⟩
    refine ⟨_, rfl, z, rfl, fun D hD => ?_⟩
    have wk := walk_str (z := z)
    rw [show z.cps.size = z.cps.toList.length from Array.length_toList.symm] at wk
    refine lc_smY z.cps.toList wk (fun i H x H' y => by rw [y.1]; exact Sm.rf) hD (fun _ _ => trivial) (fun _ y _ => y = .bl true) (fun _ _ _ _ _ r => r) (by have := ok.sz; simp; omega) (fun i t x H1 H2 Pa ht s1 s2 _ y ka => ?_) (fun H2 acc s1 ha hp => ?_)
    · obtain ⟨e, c, hc, rfl⟩ := y
      subst e
      rw [Array.getElem?_toList, hc] at ht
      have hm : c ∈ z.cps.toList := List.mem_iff_getElem?.mpr ⟨i, by rw [Array.getElem?_toList]; exact hc⟩
      refine ⟨rfl, _, rfl, _, _, rfl, rfl, ?_⟩
      rw [letter_in (ok.2.2 c hm)]
      exact ka _ _ Sm.rf rfl
    · skip
      have e : acc = (z.cps.toList.map fun _ => true).map V.bl := by
        rw [paired_eq (f := fun _ => V.bl true) hp, List.map_map]
        rfl
      subst e
      refine ⟨D, _, rfl, SqL.of ha, ?_⟩
      have e2 : ((z.cps.toList.map fun _ => true).all id) = true := by simp
      rw [e2]
      exact q _ s1
theorem NmOk.strs {l : List Str} : (l.map V.str).all flatV = true := by simp [flatV]
theorem inV_str {z : Str} {l : List Str} : inV (.str z) (l.map V.str) = decide (z ∈ l) := by
  unfold inV
  rw [List.any_map]
  by_cases h : z ∈ l
  · rw [decT h]
    exact List.any_eq_true.mpr ⟨z, h, by simp [eqV]⟩
  · rw [decF h]
    refine Bool.eq_false_iff.mpr fun q => ?_
    obtain ⟨y, hy, e⟩ := List.any_eq_true.mp q
    have : y = z := by simpa [eqV] using e
    exact h (this ▸ hy)
/-- of keys no two alike: the set's size -/
theorem ok_is_row_of_names (T : Txt K mg) : FnOk P w K mg base CX0 2 T.d_is_row_of_names.f T.d_is_row_of_names.fd ["value", "module"] (fun vs H Q _ => ∃ (a : Addr) (l : List Str) (m : Str), vs = [.ref a, .str m] ∧ H a = some (.tup (l.map V.str)) ∧ (∀ z ∈ l, NmOk z) ∧ l.Nodup ∧ m ∉ l ∧ l.length ≤ 100 ∧ ∀ H', Sm H H' → Q (.bl true) H') := by
  have nd := sc_is_row_of_names.nd
  refine T.d_is_row_of_names.F.ok sc_is_row_of_names (fun vs H Q E h => ?_) (fun cdv A outer s H vs Q E hr h => ?_)
  · obtain ⟨a, l, m, rfl, _⟩ := h; rfl
  · obtain ⟨a, l, m, rfl, ha, ok, hnd, hm, hl, q⟩ := h
    have hs : sizeLine = 16777216 := sizeLine_eq
    refine ⟨_, (pss_cons (ps_if (PW.pt (pw_or (pt_not (pt_val (pe_callB (r := rIsi K) (id := "isinstance") call_isi (by rfl) T.b_isinstance (by decide +kernel) (pa_cons (pv 0) (pa_cons (gTy (n := "tuple") T.b_tuple (by decide +kernel)) pa_nil))))) (pw_or1 (pt_not (pt_val (pe_callB (r := rAll K) (id := "all") (cr_all rfl) (by rfl) T.b_all (by decide +kernel) (pa_cons (pe_lc (own := [("name", 2)]) (tt := tYes) (g := (gName 2)) rfl nd (pi_tup (pv 0)) (blkOk_by (N := N_is_row_of_names) (sc := defScope s_is_row_of_names) (by decide +kernel)) (fun _ _ _ _ _ => (pg_name (i := 2) nd rfl (.inl rfl))) (fun _ _ _ _ _ => pts_nil) (fun _ _ _ _ _ => (pcall (ok_is_name T) T.d_is_name.M (hr.mono (by decide)) (pa_cons (pv 2) pa_nil)))) pa_nil))))))) (pss_one (ps_ret pe_bl)) pss_nil)
      (pss_one (ps_ret (pe_and (pe_cmpR op_eq (pe_callB (id := "len") call_lenK (by rfl) T.b_len (by decide +kernel) (pa_cons (pe_sg (own := [("name", 2)]) (tt := tYes) (g := (gName 2)) rfl nd (pi_tup (pv 0)) (blkOk_by (N := N_is_row_of_names) (sc := defScope s_is_row_of_names) (by decide +kernel)) (fun _ _ _ _ _ => (pg_name (i := 2) nd rfl (.inl rfl))) (fun _ _ _ _ _ => pts_nil) (fun _ _ _ _ _ => (pv 2))) pa_nil)) (pe_callB (r := rLenS K) (id := "len") call_lenS (by rfl) T.b_len (by decide +kernel) (pa_cons (pv 0) pa_nil)) (nomark _)) (pe_one (pe_cmpR (r := rIn K true) op_notIn_seq (pv 1) (pv 0) rfl)))))), ?_⟩
    refine ⟨_, rfl, _, _, _, _, _, rfl, .ty _, .base (.tup ha), kit_same, true, rfl, iteF ?_⟩
    refine ⟨_, rfl, a, rfl, ⟨_, SqT.of ha⟩, fun D hD => ?_⟩
    have wk := walk_tup (K := K) (a := a) (xs := l.map V.str)
    rw [List.length_map] at wk
    refine lc_smY l wk (fun i H x H' y => sm_YAt y) hD (fun H' s => SqT.of (s _ _ ha)) (fun _ y _ => y = .bl true) (fun _ _ _ _ _ r => r) (by omega) (fun i t x H1 H2 Pa ht s1 s2 _ y ka => ?_) (fun H2 acc s1 hacc hp => ?_)
    · obtain ⟨e, hx⟩ := y
      subst e
      rw [List.getElem?_map, ht] at hx
      cases hx
      exact ⟨rfl, _, rfl, t, rfl, ok t (List.mem_of_getElem? ht), fun H' s' => ka _ _ s' rfl⟩
    · skip
      have e : acc = (l.map fun _ => true).map V.bl := by
        rw [paired_eq (f := fun _ => V.bl true) hp, List.map_map]
        rfl
      subst e
      refine ⟨D, _, rfl, SqL.of hacc, true, (by simp), iteF ?_⟩
      -- the set of the names
      refine ⟨_, rfl, a, rfl, ⟨_, SqT.of (s1 _ _ ha)⟩, fun D2 hD2 => ?_⟩
      refine sg_it wk (fun i H => Sm H2 H ∧ ∃ S, H D2 = some (SetK P w D2 S i) ∧ ∀ k : Key, S k = (l.take i).any fun z => decide (k = Sum.inr z)) ⟨Sm.rf.up hD2, _, upd_same, fun k => by simp⟩ (fun i H' _ p => SqT.of (p.1 _ _ (s1 _ _ ha))) (fun i x H' H'' hi p y => ?_) (fun H' p => ?_)
      · obtain ⟨s3, S, hS, hk⟩ := p
        obtain ⟨e, hx⟩ := y
        subst e
        have ht : l[i]? = some l[i] := List.getElem?_eq_getElem hi
        rw [List.getElem?_map, ht] at hx
        cases hx
        have hsb : scanBound = 1073741824 ∨ True := .inr trivial
        have hno : S (Sum.inr l[i]) = false := by
          rw [hk]
          refine Bool.eq_false_iff.mpr fun hmem => ?_
          obtain ⟨u, hu, e⟩ := List.any_eq_true.mp hmem
          have e' : l[i] = u := Sum.inr.inj (of_decide_eq_true e)
          subst e'
          obtain ⟨j, hj⟩ := List.mem_iff_getElem?.mp hu
          rw [List.getElem?_take] at hj
          by_cases hji : j < i
          · rw [if_pos hji] at hj
            obtain ⟨l1, e1⟩ := List.getElem?_eq_some_iff.mp hj
            exact absurd e1 (List.pairwise_iff_getElem.mp hnd j i l1 hi hji)
          · rw [if_neg hji] at hj
            cases hj
        refine ⟨rfl, yesI ⟨_, rfl, Sum.inr l[i], S, i, rfl, hS, (by unfold scanBound; omega), ?_⟩⟩
        rw [hno, if_neg Bool.false_ne_true]
        refine ⟨s3.set hD2, _, upd_same, fun k => ?_⟩
        show (S k || decide (k = Sum.inr l[i])) = _
        rw [hk, take_snoc ht, List.any_append]
        simp
      · obtain ⟨s3, S, hS, _⟩ := p
        have ha3 := s3 _ _ (s1 _ _ ha)
        refine ⟨D2, S, l.length, rfl, hS, (by unfold scanBound; omega), _, rfl, a, _, rfl, .inr (SqT.of ha3), rfl, _, rfl, ?_⟩
        have e1 : decide (V.int (l.length : Nat) = V.int ((l.map V.str).length : Nat)) = true := decT (by rw [List.length_map])
        refine ifT e1 ⟨_, rfl, _, rfl, a, _, rfl, .inr (SqT.of ha3), rfl, NmOk.strs, ?_⟩
        rw [if_pos rfl, inV_str, decF hm]
        exact q _ (s1.tr s3)
end
end Gs
/-! ## GsD3 -/
namespace Gs
open PySem PySem.Spec PyProof.Rows L2
section
variable {P : Program} {w : World} {K : PySem.W.Frag} {mg : Str → Option Value} {base : Heap}
theorem sum_cast {α : Type} (f : α → Nat) : ∀ l : List α, (l.map fun t => ((f t : Nat) : Int)).sum = (((l.map f).sum : Nat) : Int)
  | [] => rfl
  | a :: l => by
    have ih := sum_cast f l
    rw [List.map_cons, List.map_cons, List.sum_cons, List.sum_cons, ih, Int.natCast_add]
theorem ok_check_new_windows (T : Txt K mg) : FnOk P w K mg base CX0 4 T.d_check_new_windows.f T.d_check_new_windows.fd ["windows", "count"] (fun vs H Q _ => ∃ (l : Addr) (as : List (Addr × Win)), vs = [.ref l, .int (as.length : Nat)] ∧ H l = some (.lst (as.map fun p => .ref p.1)) ∧
    (∀ p ∈ as, H p.1 = some (.tup (winV p.2)) ∧ okWin p.2) ∧ ∀ H', Sm H H' → Q .non H') := by
  have nd := sc_check_new_windows.nd
  refine T.d_check_new_windows.F.ok sc_check_new_windows (fun vs H Q E h => ?_) (fun cdv A outer s H vs Q E hr h => ?_)
  · obtain ⟨l, as, rfl, _⟩ := h; rfl
  · obtain ⟨l, as, rfl, hl, hw, q⟩ := h
    refine ⟨_, (pss_cons (ps_if (PW.pt (pw_or (pt_not (pt_val (pe_callB (r := rIsi K) (id := "isinstance") call_isi (by rfl) T.b_isinstance (by decide +kernel) (pa_cons (pv 0) (pa_cons (gTy (n := "list") T.b_list (by decide +kernel)) pa_nil))))) (pw_or1 (pt_cmpR op_ne (pe_callB (r := rLenS K) (id := "len") call_lenS (by rfl) T.b_len (by decide +kernel) (pa_cons (pv 0) pa_nil)) (pv 1) (nomark _))))) (pss_one ps_never) pss_nil)
      (pss_one (ps_for PassesOwn.never rfl (pi_enum (by rfl) T.b_enumerate (pa_cons (pv 0) pa_nil)) (pg_tup rfl (pgs_cons (pg_name (i := 2) nd rfl (.inl rfl)) (pgs_cons (pg_name (i := 3) nd rfl (.inl rfl)) pgs_nil)))
      (pss_one (ps_if (pt_not (pt_val (pcall (ok_is_window T) T.d_is_window.M (hr.mono (by decide)) (pa_cons (pv 3) pa_nil)))) (pss_one ps_never) pss_nil))))), ?_⟩
    refine ⟨_, rfl, _, _, _, _, _, rfl, .ty _, .base (.lst hl), kit_same, true, rfl, iteF ?_⟩
    refine ⟨_, rfl, l, _, rfl, .inl (SqL.of hl), _, rfl, rfl, _, rfl, ?_⟩
    refine ifF (ndecT (by rw [List.length_map])) ?_
    refine ⟨_, rfl, l, _, rfl, SqL.of hl, ?_⟩
    have wk := walk_enum (K := K) (a := l) (xs := as.map fun p => V.ref p.1)
    rw [List.length_map] at wk
    refine for_ck as wk (fun i H x H' y => sm_YPair y) (fun H' s => SqL.of (s _ _ hl)) (fun σ => ∃ x y, σ = [some (.ref l), some (.int (as.length : Nat)), x, y]) ⟨_, _, rfl⟩ (fun i t x σ H2 H3 N ht hS s1 s2 y kn => ?_) (fun σ H2 _ s1 => q _ s1)
    obtain ⟨x0, y0, rfl⟩ := hS
    obtain ⟨Tp, a, b, rfl, nT, rfl, ea, eb⟩ := y
    have eb := pick1 ht eb
    subst eb
    cases ea
    obtain ⟨h1, h2⟩ := hw t (List.mem_of_getElem? ht)
    refine ⟨Tp, _, rfl, SqT.of upd_same, rfl, _, _, rfl, _, _, rfl, rfl, ?_⟩
    exact ⟨_, rfl, t.1, t.2, rfl, s2 _ _ h1, h2, true, rfl, iteF (kn _ _ ⟨_, _, rfl⟩ Sm.rf)⟩
theorem ok_check_uses (T : Txt K mg) : FnOk P w K mg base CX0 3 T.d_check_uses.f T.d_check_uses.fd ["uses"] (fun vs H Q _ => ∃ (d : Addr) (mods : List Str) (uf : Str → List Str) (ua : Str → Addr), vs = [.ref d] ∧ H d = some (.dK (mods.map fun m => (.inr m, .ref (ua m)))) ∧
    (∀ m ∈ mods, H (ua m) = some (.tup ((uf m).map V.str)) ∧ NmOk m ∧ (∀ z ∈ uf m, z ∈ mods) ∧ (uf m).Nodup ∧ m ∉ uf m) ∧ mods ≠ [] ∧ mods.length ≤ 12 ∧ (mods.map fun m => (uf m).length).sum ≤ 40 ∧ ∀ H', Sm H H' → Q .non H') := by
  have nd := sc_check_uses.nd
  refine T.d_check_uses.F.ok sc_check_uses (fun vs H Q E h => ?_) (fun cdv A outer s H vs Q E hr h => ?_)
  · obtain ⟨d, mods, uf, ua, rfl, _⟩ := h; rfl
  · obtain ⟨d, mods, uf, ua, rfl, hd, hu', hne, h12, h40, q⟩ := h
    have hu := hu_of hr
    have hs : sizeLine = 16777216 := sizeLine_eq
    have h0 : 0 < mods.length := List.length_pos_iff.mpr hne
    have hlen : ∀ m ∈ mods, (uf m).length ≤ 100 := fun m hm => by
      have : (uf m).length ≤ (mods.map fun m => (uf m).length).sum := by
        clear hd hu' hne h12 h40 h0
        induction mods with
        | nil => cases hm
        | cons a l ih =>
          rw [List.map_cons, List.sum_cons]
          rcases List.mem_cons.mp hm with rfl | h
          · omega
          · have := ih h
            omega
      omega
    refine ⟨_, (pss_cons (ps_if (PW.pt (pw_or (pt_not (pt_val (pe_callB (r := rIsi K) (id := "isinstance") call_isi (by rfl) T.b_isinstance (by decide +kernel) (pa_cons (pv 0) (pa_cons (gTy (n := "dict") T.b_dict (by decide +kernel)) pa_nil))))) (pw_or1 (pt_cmpR op_eq (pe_callB (id := "len") call_lenD (by rfl) T.b_len (by decide +kernel) (pa_cons (pv 0) pa_nil)) pe_int (nomark _))))) (pss_one ps_never) pss_nil)
      (pss_cons (ps_if (pt_cmpR op_gt (pe_callB (id := "len") call_lenD (by rfl) T.b_len (by decide +kernel) (pa_cons (pv 0) pa_nil)) (gInt T.iMM) (nomark _)) (pss_one ps_never) pss_nil)
      (pss_cons (ps_lock (ps_for PassesOwn.never rfl (pi_items (pv 0)) (pg_tup rfl (pgs_cons (pg_name (i := 1) nd rfl (.inl rfl)) (pgs_cons (pg_name (i := 2) nd rfl (.inl rfl)) pgs_nil)))
      (pss_cons (ps_if (pt_not (pt_val (pcall (ok_is_name T) T.d_is_name.M (hr.mono (by decide)) (pa_cons (pv 1) pa_nil)))) (pss_one ps_never) pss_nil)
      (pss_one (ps_if (pt_not (pt_val (pcall (ok_is_row_of_names T) T.d_is_row_of_names.M (hr.mono (by decide)) (pa_cons (pv 2) (pa_cons (pv 1) pa_nil))))) (pss_one ps_never) pss_nil)))))
      (pss_cons (ps_lock (ps_for PassesOwn.never rfl (pi_values (pv 0)) (pg_name (i := 2) nd rfl (.inl rfl))
      (pss_one (ps_for PassesOwn.never rfl (pi_tup (pv 2)) (pg_name (i := 3) nd rfl (.inl rfl))
      (pss_one (ps_if (pt_cmp (pc_dnotin hu (pv 3) (pv 0))) (pss_one ps_never) pss_nil))))))
      (pss_one (ps_lock (ps_if (pt_cmpR op_gt (pe_callB (r := rSum K) (id := "sum") (cr_sum rfl) (by rfl) T.b_sum (by decide +kernel) (pa_cons (pe_lc (own := [("names", 2)]) (tt := tYes) (g := (gName 2)) rfl nd (pi_values (pv 0)) (blkOk_by (N := N_check_uses) (sc := defScope s_check_uses) (by decide +kernel)) (fun _ _ _ _ _ => (pg_name (i := 2) nd rfl (.inl rfl))) (fun _ _ _ _ _ => pts_nil) (fun _ _ _ _ _ => (pe_callB (r := rLenS K) (id := "len") call_lenS (by rfl) T.b_len (by decide +kernel) (pa_cons (pv 2) pa_nil)))) pa_nil)) (gInt T.iMU) (nomark _)) (pss_one ps_never) pss_nil))))))), ?_⟩
    refine ⟨_, rfl, _, _, _, _, _, rfl, .ty _, .base (.dK hd), kit_same, true, rfl, iteF ?_⟩
    refine ⟨_, rfl, d, _, rfl, hd, rfl, _, rfl, ?_⟩
    refine ifF (decF (fun e => ?_)) ?_
    · have e' : (((mods.map fun m => ((.inr m : Key), V.ref (ua m))).length : Nat) : Int) = 0 := V.int.inj e
      rw [List.length_map] at e'
      omega
    refine ⟨_, rfl, d, _, rfl, hd, _, _, rfl, rfl, _, rfl, ifF (decF (by rw [List.length_map]; omega)) ?_⟩
    -- names and their uses
    refine ⟨d, _, hd, trivial, fun o => ?_⟩
    refine ⟨_, rfl, d, o, _, rfl, upd_same, ?_⟩
    have hdl : ∀ {m : Str} {xs : List V}, ∀ {H2 : Hp}, Sm (upd H d (.frz o (.dK (mods.map fun m => (.inr m, .ref (ua m)))))) H2 → H (ua m) = some (.tup xs) → H2 (ua m) = some (.tup xs) := fun {m xs H2} s e => s _ _ (by rw [upd_ne (ne_of hd e (by intro z; cases z)).symm]; exact e)
    have wk := walk_items (d := d) (o := o) (kvs := mods.map fun m => ((.inr m : Key), V.ref (ua m)))
    rw [List.length_map] at wk
    refine for_ck mods wk (fun i H x H' y => sm_YPair y) (fun H' s => s _ _ upd_same) (fun σ => ∃ x y z, σ = [some (.ref d), x, y, z]) ⟨_, _, _, rfl⟩ (fun i t x σ H2 H3 N ht hS s1 s2 y kn => ?_) (fun σ H2 hS s1 => ?_)
    · obtain ⟨x0, y0, z0, rfl⟩ := hS
      obtain ⟨Tp, a, b, rfl, nT, rfl, ea, eb⟩ := y
      have ea := pickK ht ea
      have eb := pickV ht eb
      subst ea eb
      obtain ⟨k1, k2, k3, k4, k5⟩ := hu' t (List.mem_of_getElem? ht)
      refine ⟨Tp, _, rfl, SqT.of upd_same, rfl, _, _, rfl, _, _, rfl, rfl, ?_⟩
      refine ⟨_, rfl, t, rfl, k2, fun H4 s4 => ⟨true, rfl, iteF ?_⟩⟩
      refine ⟨_, rfl, _, rfl, ua t, uf t, t, rfl, hdl (s2.tr s4) k1, fun z hz => (hu' z (k3 z hz)).2.1, k4, k5, hlen t (List.mem_of_getElem? ht), fun H5 s5 => ⟨true, rfl, iteF ?_⟩⟩
      exact kn _ _ ⟨_, _, _, rfl⟩ (s4.tr s5)
    obtain ⟨x0, y0, z0, rfl⟩ := hS
    obtain ⟨e1, s3⟩ := Sm.unlock hd s1
    refine ⟨e1, ?_⟩
    generalize hH4 : upd H2 d (.dK (mods.map fun m => ((.inr m : Key), V.ref (ua m)))) = H4 at s3 ⊢
    have hd4 : H4 d = some (.dK (mods.map fun m => ((.inr m : Key), V.ref (ua m)))) := s3 _ _ hd
    -- every used name is a module
    refine ⟨d, _, hd4, trivial, fun o2 => ?_⟩
    refine ⟨_, rfl, d, o2, _, rfl, upd_same, ?_⟩
    have hdl4 : ∀ {m : Str} {xs : List V}, ∀ {H2 : Hp}, Sm (upd H4 d (.frz o2 (.dK (mods.map fun m => (.inr m, .ref (ua m)))))) H2 → H (ua m) = some (.tup xs) → H2 (ua m) = some (.tup xs) := fun {m xs H2} s e => s _ _ (by rw [upd_ne (ne_of hd e (by intro z; cases z)).symm]; exact s3 _ _ e)
    have wk := walk_values (d := d) (o := o2) (kvs := mods.map fun m => ((.inr m : Key), V.ref (ua m)))
    rw [List.length_map] at wk
    refine for_ck mods wk (fun i H x H' y => by rw [y.1]; exact Sm.rf) (fun H' s => s _ _ upd_same) (fun σ => ∃ x y z, σ = [some (.ref d), x, y, z]) ⟨_, _, _, rfl⟩ (fun i t x σ H2 H3 N ht hS s1 s2 y kn => ?_) (fun σ H2 hS s1 => ?_)
    · obtain ⟨x0, y0, z0, rfl⟩ := hS
      obtain ⟨rfl, k, ek⟩ := y
      rw [map_pick ht] at ek
      cases ek
      obtain ⟨k1, k2, k3, k4, k5⟩ := hu' t (List.mem_of_getElem? ht)
      have hk := hdl4 s2 k1
      refine ⟨_, rfl, ua t, rfl, ⟨_, SqT.of hk⟩, ?_⟩
      have wk2 := walk_tup (K := K) (a := ua t) (xs := (uf t).map V.str)
      rw [List.length_map] at wk2
      refine for_ck (uf t) wk2 (fun i H x H' y => sm_YAt y) (fun H' s => SqT.of (s _ _ hk)) (fun σ => ∃ x y, σ = [some (.ref d), x, some (.ref (ua t)), y]) ⟨_, _, rfl⟩ (fun j z v σ H5 H6 N2 hz hS2 s5 s6 y2 kn2 => ?_) (fun σ H5 hS2 s5 => ?_)
      · obtain ⟨x1, y1, rfl⟩ := hS2
        obtain ⟨rfl, ez⟩ := y2
        have ez := pick1 hz ez
        subst ez
        have hm := k3 z (List.mem_of_getElem? hz)
        have hdz : (H6 d) = some (.frz o2 (.dK (mods.map fun m => ((.inr m : Key), V.ref (ua m))))) := (s2.tr s6) _ _ upd_same
        obtain ⟨v, hv⟩ : ∃ v, valV (mods.map fun m => ((.inr m : Key), V.ref (ua m))) (.inr z) = some v := by
          cases e : valV (mods.map fun m => ((.inr m : Key), V.ref (ua m))) (.inr z) with
          | some v => exact ⟨v, rfl⟩
          | none =>
            refine absurd ?_ (valV_not e)
            rw [List.map_map]
            exact List.mem_map.mpr ⟨z, hm, rfl⟩
        refine ⟨_, rfl, _, rfl, d, some v, rfl, .inl ⟨_, .inr z, .inr ⟨o2, hdz⟩, rfl, hv.symm⟩, _, rfl, iteF ?_⟩
        exact kn2 _ _ ⟨_, _, rfl⟩ Sm.rf
      · obtain ⟨x1, y1, rfl⟩ := hS2
        exact kn _ _ ⟨_, _, _, rfl⟩ s5
    obtain ⟨x1, y1, z1, rfl⟩ := hS
    obtain ⟨e2, s4⟩ := Sm.unlock hd4 s1
    refine ⟨e2, ?_⟩
    generalize hH5 : upd H2 d (.dK (mods.map fun m => ((.inr m : Key), V.ref (ua m)))) = H5 at s4 ⊢
    have s5 := s3.tr s4
    have hd5 : H5 d = some (.dK (mods.map fun m => ((.inr m : Key), V.ref (ua m)))) := s5 _ _ hd
    -- the sum of the uses
    refine ⟨d, _, hd5, trivial, fun o3 => ?_⟩
    refine ⟨_, rfl, d, o3, _, rfl, upd_same, fun D nD => ?_⟩
    have wk3 := walk_values (d := d) (o := o3) (kvs := mods.map fun m => ((.inr m : Key), V.ref (ua m)))
    rw [List.length_map] at wk3
    refine lc_smY mods wk3 (fun i H x H' y => by rw [y.1]; exact Sm.rf) nD (fun H' s => s _ _ upd_same) (fun t y _ => y = .int ((uf t).length : Nat)) (fun _ _ _ _ _ r => r) (by omega) (fun i t x H6 H7 Pa ht s6 s7 _ y ka => ?_) (fun H6 acc s6 hacc hp => ?_)
    · obtain ⟨rfl, k, ek⟩ := y
      rw [map_pick ht] at ek
      cases ek
      have hk : H7 (ua t) = some (.tup ((uf t).map V.str)) := s7 _ _ (by
        have e := (hu' t (List.mem_of_getElem? ht)).1
        rw [upd_ne (ne_of hd e (by intro z; cases z)).symm]
        exact s5 _ _ e)
      exact ⟨rfl, _, rfl, ua t, _, rfl, .inr (SqT.of hk), ka _ _ Sm.rf (by rw [List.length_map])⟩
    · have ea := paired_eq (f := fun t => V.int ((uf t).length : Nat)) hp
      have ea2 : acc = (mods.map fun t => (((uf t).length : Nat) : Int)).map V.int := by rw [ea, List.map_map]; rfl
      subst ea2
      have hsum := sum_cast (fun m => (uf m).length) mods
      obtain ⟨e3, s7⟩ := Sm.unlock hd5 s6
      refine ⟨D, _, rfl, SqL.of hacc, _, _, rfl, rfl, _, rfl, ifF (decF (by rw [hsum]; omega)) ⟨e3, q _ (s5.tr s7)⟩⟩
end
end Gs
/-! ## GsCat -/
/-! A catalog as it stands in the heap. -/
namespace Gs
open PySem PySem.Spec PyProof.Rows L2
inductive Sl where
  | cp | cdx | ut | wt | ct | cw | rc | ua (m : Nm) | ca (m u : Nm) | da (m : Nm)
  | wp | ml | ud | ww | td | xa (m : Nm) | wa (m u : Nm) | ta (m : Nm) | rg
abbrev Ad := Sl → Addr
def flds (ad : Ad) : List (Str × V) := [("use_table", .ref (ad .ut)), ("window_table", .ref (ad .wt)), ("count_table", .ref (ad .ct)), ("withdrawn_table", .ref (ad .cw)), ("record", .ref (ad .rc))]
section
variable {ad : Ad}
theorem fl_ut : (flds ad).lookup ("use_table" : Str) = some (.ref (ad .ut)) := rfl
theorem fl_wt : (flds ad).lookup ("window_table" : Str) = some (.ref (ad .wt)) := rfl
theorem fl_ct : (flds ad).lookup ("count_table" : Str) = some (.ref (ad .ct)) := rfl
theorem fl_cw : (flds ad).lookup ("withdrawn_table" : Str) = some (.ref (ad .cw)) := rfl
theorem fl_rc : (flds ad).lookup ("record" : Str) = some (.ref (ad .rc)) := rfl
theorem fl_no {x : Str} (h : (["use_table", "window_table", "count_table", "withdrawn_table", "record"] : List Str).all (fun y => !(x == y)) = true) : (flds ad).lookup x = none := by
  simp only [List.all_cons, List.all_nil, Bool.and_true, Bool.and_eq_true, Bool.not_eq_true'] at h
  obtain ⟨h1, h2, h3, h4, h5⟩ := h
  simp [flds, List.lookup, h1, h2, h3, h4, h5]
end
def WinsAre (H : Hp) (refs : List V) (ws : List Win) : Prop := Paired (fun v x => ∃ a, v = .ref a ∧ H a = some (.tup (winV x))) refs ws
structure CatAt (C : Addr) (H : Hp) (ad : Ad) (rn : Nat) (c : Cat) : Prop where
  ob : H (ad .cp) = some (.ins C (ad .cdx) (flds ad))
  ut : H (ad .ut) = some (.dK (c.mods.map fun m => (.inr m, .ref (ad (.ua m)))))
  us : ∀ m ∈ c.mods, H (ad (.ua m)) = some (.tup ((c.uses m).map V.str))
  wt : H (ad .wt) = some (.dT (c.pairs.map fun p => ([.inr p.1, .inr p.2], .ref (ad (.ca p.1 p.2)))))
  ws : ∀ p ∈ c.pairs, ∃ refs, H (ad (.ca p.1 p.2)) = some (.lst refs) ∧ WinsAre H refs (c.wins p.1 p.2)
  ct : H (ad .ct) = some (.dK (c.mods.map fun m => (.inr m, .int (c.cnt m : Nat))))
  cw : H (ad .cw) = some (.dK (c.mods.map fun m => (.inr m, .ref (ad (.da m)))))
  ds : ∀ m ∈ c.mods, H (ad (.da m)) = some (.dK ((c.wd m).map fun v => (.inl v, .bl true)))
  rc : ∃ rs, H (ad .rc) = some (.lst rs) ∧ rs.length ≤ rn
  wl : ∀ m ∈ c.mods, (c.wd m).length ≤ rn
theorem WinsAre.keep {H H' : Hp} {refs : List V} {ws : List Win} (h : WinsAre H refs ws) (k : ∀ b xs, H b = some (.tup xs) → H' b = some (.tup xs)) : WinsAre H' refs ws := paired_mono h fun v x ⟨a, e, z⟩ => ⟨a, e, k _ _ z⟩
theorem CatAt.kc {C : Addr} {H H' : Hp} {ad : Ad} {rn : Nat} {c : Cat} (h : CatAt C H ad rn c) (k : Kc H H') : CatAt C H' ad rn c where
  ob := k _ _ h.ob fun _ z => nomatch z
  ut := k _ _ h.ut fun _ z => nomatch z
  us := fun m hm => k _ _ (h.us m hm) fun _ z => nomatch z
  wt := k _ _ h.wt fun _ z => nomatch z
  ws := fun p hp => let ⟨r, a, b⟩ := h.ws p hp; ⟨r, k _ _ a (fun _ z => nomatch z), b.keep fun _ _ z => k _ _ z (fun _ z => nomatch z)⟩
  ct := k _ _ h.ct fun _ z => nomatch z
  cw := k _ _ h.cw fun _ z => nomatch z
  ds := fun m hm => k _ _ (h.ds m hm) fun _ z => nomatch z
  rc := let ⟨r, a, b⟩ := h.rc; ⟨r, k _ _ a (fun _ z => nomatch z), b⟩
  wl := h.wl
theorem CatAt.sm {C : Addr} {H H' : Hp} {ad : Ad} {rn : Nat} {c : Cat} (h : CatAt C H ad rn c) (s : Sm H H') : CatAt C H' ad rn c := h.kc (Kc.of s)
theorem mem_pairs {c : Cat} {m u : Nm} : (m, u) ∈ c.pairs ↔ m ∈ c.mods ∧ u ∈ c.uses m := by
  unfold Cat.pairs
  simp [List.mem_flatMap]
/-- the value under a key of a mapped list -/
theorem val_map {α κ : Type} [DecidableEq κ] {kf : α → κ} {vf : α → V} : ∀ {l : List α}, (l.map kf).Nodup → ∀ {t : α}, t ∈ l → valV (l.map fun t => (kf t, vf t)) (kf t) = some (vf t)
  | [], _, t, h => by cases h
  | a :: l, hn, t, h => by
    rw [List.map_cons] at hn
    have hn' := List.nodup_cons.mp hn
    rw [List.map_cons]
    by_cases e : kf a = kf t
    · rw [valV_pos e]
      rcases List.mem_cons.mp h with rfl | h
      · rfl
      · exact absurd (List.mem_map.mpr ⟨t, h, e.symm⟩) hn'.1
    · rw [valV_neg e]
      rcases List.mem_cons.mp h with rfl | h
      · exact absurd rfl e
      · exact val_map hn'.2 h
theorem val_none {α κ : Type} [DecidableEq κ] {kf : α → κ} {vf : α → V} {l : List α} {k : κ} (h : ∀ t ∈ l, kf t ≠ k) : valV (l.map fun t => (kf t, vf t)) k = none := by
  cases e : valV (l.map fun t => (kf t, vf t)) k with
  | none => rfl
  | some v =>
    have hm := valV_in e
    rw [List.map_map] at hm
    obtain ⟨t, ht, e2⟩ := List.mem_map.mp hm
    exact absurd e2 (h t ht)
theorem nodup_map {α β : Type} {f : α → β} (inj : ∀ a b, f a = f b → a = b) {l : List α} (h : l.Nodup) : (l.map f).Nodup := List.pairwise_map.mpr (List.Pairwise.imp (fun ne e => ne (inj _ _ e)) h)
theorem inr_inj : ∀ a b : Nm, (Sum.inr a : Key) = Sum.inr b → a = b := fun _ _ e => Sum.inr.inj e
theorem nodup_inr {l : List Nm} (h : l.Nodup) : (l.map fun m => (Sum.inr m : Key)).Nodup := nodup_map (fun a b e => inr_inj a b e) h
theorem pairs_nd {c : Cat} (h : c.mods.Nodup) (hu : ∀ m ∈ c.mods, (c.uses m).Nodup) : c.pairs.Nodup := by
  unfold Cat.pairs
  generalize c.mods = l at h hu
  induction l with
  | nil => exact List.nodup_nil
  | cons a l ih =>
    rw [List.flatMap_cons]
    have hn := List.nodup_cons.mp h
    refine List.nodup_append.mpr ⟨nodup_map (fun x y e => (Prod.mk.inj e).2) (hu a List.mem_cons_self), ih hn.2 fun m hm => hu m (List.mem_cons_of_mem _ hm), fun p hp q hq e => ?_⟩
    obtain ⟨u, _, rfl⟩ := List.mem_map.mp hp
    subst e
    obtain ⟨m, hm, hq⟩ := List.mem_flatMap.mp hq
    obtain ⟨v, _, e⟩ := List.mem_map.mp hq
    have := (Prod.mk.inj e).1
    exact hn.1 (this ▸ hm)
def pk (p : Nm × Nm) : List Key := [.inr p.1, .inr p.2]
theorem pk_inj {p q : Nm × Nm} (e : pk p = pk q) : p = q := by
  unfold pk at e
  have e1 := (List.cons.inj e).1
  have e2 := (List.cons.inj (List.cons.inj e).2).1
  exact Prod.ext (Sum.inr.inj e1) (Sum.inr.inj e2)
theorem nodup_pk {l : List (Nm × Nm)} (h : l.Nodup) : (l.map pk).Nodup := nodup_map (fun a b e => pk_inj e) h
end Gs
/-! ## GsPd -/
/-! Values as data: demands, pairs of names, lists of ints; compared. -/
namespace Gs
open PySem PySem.Spec PyProof.Rows L2
theorem strOk_nm {z : Str} (h : NmOk z) : PyData.strOk z = true := by
  unfold PyData.strOk
  rw [← Array.all_toList]
  refine List.all_eq_true.mpr fun c hc => ?_
  have := h.2.2 c hc
  exact decide_eq_true (by omega)
/-- data that can be compared: flat, or lists of flat ones, two deep at most -/
structure Lay (n : Nat) (d : PyData) : Prop where
  lay : d.canLay0 = true
  dep : d.depth ≤ n
theorem Lay.sh {n : Nat} {d : PyData} (h : Lay n d) (hn : n ≤ 64 := by decide) : SeqAt.shaped d = true := by
  unfold SeqAt.shaped
  rw [h.lay, Bool.true_and]
  exact decide_eq_true (Nat.le_trans h.dep hn)
theorem lay_all {n : Nat} : ∀ {ds : List PyData}, (∀ d ∈ ds, Lay n d) → PyData.canLayAll0 ds = true ∧ PyData.depthAll ds ≤ n
  | [], _ => ⟨by simp only [PyData.canLayAll0], by simp only [PyData.depthAll]; omega⟩
  | d :: ds, h => by
    obtain ⟨a, b⟩ := lay_all fun x hx => h x (List.mem_cons_of_mem _ hx)
    have hd := h d List.mem_cons_self
    refine ⟨by simp only [PyData.canLayAll0, hd.lay, a, Bool.and_self], ?_⟩
    simp only [PyData.depthAll]
    have := hd.dep
    omega
theorem lay_list {n : Nat} {ds : List PyData} (h : ∀ d ∈ ds, Lay n d) : Lay (n + 1) (.list ds) := ⟨by simp only [PyData.canLay0]; exact (lay_all h).1, by simp only [PyData.depth]; have := (lay_all h).2; omega⟩
theorem lay_tup {n : Nat} {ds : List PyData} (h : ∀ d ∈ ds, Lay n d) : Lay (n + 1) (.tuple ds) := ⟨by simp only [PyData.canLay0]; exact (lay_all h).1, by simp only [PyData.depth]; have := (lay_all h).2; omega⟩
theorem lay_int (i : Int) : Lay 0 (.int i) := ⟨by simp only [PyData.canLay0], by simp only [PyData.depth]; omega⟩
theorem lay_str {z : Str} (h : NmOk z) : Lay 0 (.str z) := ⟨by simp only [PyData.canLay0]; exact strOk_nm h, by simp only [PyData.depth]; omega⟩
theorem lay_nil : Lay 1 (.list []) := lay_list fun d h => nomatch h
theorem eqv_nil (ds : List PyData) : PyData.eqv (.list ds) (.list []) = decide (ds = []) := by
  cases ds with
  | nil => simp [PyData.eqv, PyData.eqvAll]
  | cons d ds => simp [PyData.eqv, PyData.eqvAll]
theorem lay_ints (l : List Int) : Lay 1 (.list (l.map .int)) := lay_list fun d h => by
  obtain ⟨i, _, rfl⟩ := List.mem_map.mp h
  exact lay_int i
/-! demands -/
def dmV (d : Dm) : List V := [.str d.1, .int d.2]
def DmAt (H : Hp) (v : V) (d : Dm) : Prop := ∃ a, v = .ref a ∧ H a = some (.tup (dmV d))
def dmD (d : Dm) : PyData := .tuple [.str d.1, .int d.2]
def dmK (d : Dm) : List Key := [.inr d.1, .inl d.2]
theorem dmK_V (d : Dm) : (dmK d).map kV = dmV d := rfl
theorem dmK_inj {a b : Dm} (h : dmK a = dmK b) : a = b := by
  have e1 := (List.cons.inj h).1
  have e2 := (List.cons.inj (List.cons.inj h).2).1
  exact Prod.ext (Sum.inr.inj e1) (Sum.inl.inj e2)
theorem lay_dm {d : Dm} (h : NmOk d.1) : Lay 1 (dmD d) := lay_tup fun x hx => by
  rcases List.mem_cons.mp hx with rfl | hx
  · exact lay_str h
  · rw [List.mem_singleton.mp hx]
    exact lay_int _
theorem eqv_dm (a b : Dm) : PyData.eqv (dmD a) (dmD b) = decide (a = b) := by
  obtain ⟨a1, a2⟩ := a
  obtain ⟨b1, b2⟩ := b
  simp only [dmD, PyData.eqv, PyData.eqvAll, Bool.and_true]
  by_cases h1 : a1 = b1 <;> by_cases h2 : a2 = b2 <;> simp [h1, h2]
theorem any_dm (l : List Dm) (d : Dm) : ((l.map dmD).any fun z => PyData.eqv z (dmD d)) = decide (d ∈ l) := by
  rw [List.any_map]
  by_cases h : d ∈ l
  · rw [decT h]
    exact List.any_eq_true.mpr ⟨d, h, by simp [eqv_dm]⟩
  · rw [decF h]
    refine Bool.eq_false_iff.mpr fun q => ?_
    obtain ⟨y, hy, e⟩ := List.any_eq_true.mp q
    have e : y = d := by simpa [eqv_dm] using e
    exact h (e ▸ hy)
section
variable {K : PySem.W.Frag} {H : Hp}
theorem dp_dm {v : V} {d : Dm} (h : DmAt H v d) : Dp K H v (dmD d) := by
  obtain ⟨a, rfl, e⟩ := h
  exact .tup (SqT.of e) (.cons (.str _) (.cons (.int _) .nil))
theorem dp_dms_all : ∀ {vs : List V} {l : List Dm}, Paired (DmAt H) vs l → DpAll K H vs (l.map dmD)
  | _, _, .nil => .nil
  | _, _, .cons h t => .cons (dp_dm h) (dp_dms_all t)
def dmsD (l : List Dm) : PyData := .list (l.map dmD)
theorem dp_dms {p : Addr} {vs : List V} {l : List Dm} (e : SqL K H p vs) (h : Paired (DmAt H) vs l) : Dp K H (.ref p) (dmsD l) := .lst e (dp_dms_all h)
theorem lay_dms {l : List Dm} (h : ∀ d ∈ l, NmOk d.1) : Lay 2 (dmsD l) := lay_list fun x hx => by
  obtain ⟨d, hd, rfl⟩ := List.mem_map.mp hx
  exact lay_dm (h d hd)
theorem dp_nil {p : Addr} (e : H p = some (.lst [])) : Dp K H (.ref p) (.list []) := .lst (SqL.of e) .nil
theorem dp_ints_all : ∀ (l : List Int), DpAll K H (l.map V.int) (l.map .int)
  | [] => .nil
  | i :: l => .cons (.int i) (dp_ints_all l)
theorem dp_ints {p : Addr} {l : List Int} (e : H p = some (.lst (l.map V.int))) : Dp K H (.ref p) (.list (l.map .int)) := .lst (SqL.of e) (dp_ints_all l)
end
theorem DmAt.keep {H H' : Hp} {v : V} {d : Dm} (h : DmAt H v d) (k : ∀ b xs, H b = some (.tup xs) → H' b = some (.tup xs)) : DmAt H' v d := let ⟨a, e, z⟩ := h; ⟨a, e, k _ _ z⟩
theorem DmAt.sm {H H' : Hp} {v : V} {d : Dm} (h : DmAt H v d) (s : Sm H H') : DmAt H' v d := h.keep fun b xs e => s _ _ e
/-- a list of demands -/
def DmsAt (H : Hp) (p : Addr) (l : List Dm) : Prop := ∃ vs, H p = some (.lst vs) ∧ Paired (DmAt H) vs l
theorem DmsAt.sm {H H' : Hp} {p : Addr} {l : List Dm} (h : DmsAt H p l) (s : Sm H H') : DmsAt H' p l := let ⟨vs, a, b⟩ := h; ⟨vs, s _ _ a, paired_mono b fun _ _ z => z.sm s⟩
theorem DmsAt.kc {H H' : Hp} {p : Addr} {l : List Dm} (h : DmsAt H p l) (s : Kc H H') : DmsAt H' p l := let ⟨vs, a, b⟩ := h; ⟨vs, s _ _ a (fun _ z => nomatch z), paired_mono b fun _ _ z => z.keep fun _ _ e => s _ _ e (fun _ z => nomatch z)⟩
end Gs
/-! ## GsD4 -/
namespace Gs
open PySem PySem.Spec PyProof.Rows L2
section
variable {P : Program} {w : World} {K : PySem.W.Frag} {mg : Str → Option Value} {base : Heap}
/-- what the readers ask -/
structure Rd0 (T : Txt K mg) (H : Hp) (ad : Ad) (rn : Nat) (c : Cat) : Prop where
  at_ : CatAt T.C H ad rn c
  wf : c.WF
  nm : ∀ m ∈ c.mods, NmOk m
theorem Rd0.sm {T : Txt K mg} {H H' : Hp} {ad : Ad} {rn : Nat} {c : Cat} (h : Rd0 T H ad rn c) (s : Sm H H') : Rd0 T H' ad rn c := ⟨h.at_.sm s, h.wf, h.nm⟩
theorem val_ut {c : Cat} {ad : Ad} (h : c.WF) {m : Nm} (hm : m ∈ c.mods) : valV (c.mods.map fun m => ((.inr m : Key), V.ref (ad (.ua m)))) (.inr m) = some (.ref (ad (.ua m))) := val_map (kf := fun m => (.inr m : Key)) (vf := fun m => V.ref (ad (.ua m))) (nodup_inr h.nd) hm
theorem val_ct {c : Cat} (h : c.WF) {m : Nm} (hm : m ∈ c.mods) : valV (c.mods.map fun m => ((.inr m : Key), V.int (c.cnt m : Nat))) (.inr m) = some (.int (c.cnt m : Nat)) := val_map (kf := fun m => (.inr m : Key)) (vf := fun m => V.int (c.cnt m : Nat)) (nodup_inr h.nd) hm
theorem val_cw {c : Cat} {ad : Ad} (h : c.WF) {m : Nm} (hm : m ∈ c.mods) : valV (c.mods.map fun m => ((.inr m : Key), V.ref (ad (.da m)))) (.inr m) = some (.ref (ad (.da m))) := val_map (kf := fun m => (.inr m : Key)) (vf := fun m => V.ref (ad (.da m))) (nodup_inr h.nd) hm
theorem val_wt {c : Cat} {ad : Ad} (h : c.WF) {m u : Nm} (hm : m ∈ c.mods) (hu : u ∈ c.uses m) : valV (c.pairs.map fun p => (([.inr p.1, .inr p.2] : List Key), V.ref (ad (.ca p.1 p.2)))) [.inr m, .inr u] = some (.ref (ad (.ca m u))) :=
  val_map (kf := pk) (vf := fun p => V.ref (ad (.ca p.1 p.2))) (nodup_pk (pairs_nd h.nd h.und)) (t := (m, u)) (mem_pairs.mpr ⟨hm, hu⟩)
theorem ok_require_module (T : Txt K mg) : FnOk P w K mg base CX0 1 T.d_require_module.f T.d_require_module.fd ["catalog", "value"] (fun vs H Q _ => ∃ (ad : Ad) (rn : Nat) (c : Cat) (m : Nm), vs = [.ref (ad .cp), .str m] ∧ Rd0 T H ad rn c ∧ m ∈ c.mods ∧ Q .non H) := by
  have nd := sc_require_module.nd
  refine T.d_require_module.F.ok sc_require_module (fun vs H Q E h => ?_) (fun cdv A outer s H vs Q E hr h => ?_)
  · obtain ⟨ad, rn, c, m, rfl, _⟩ := h; rfl
  · obtain ⟨ad, rn, c, m, rfl, h, hm, q⟩ := h
    have hu := hu_of hr
    refine ⟨_, (pss_one (ps_if (PW.pt (pw_or (pt_not (pt_val (pe_callB (r := rIsi K) (id := "isinstance") call_isi (by rfl) T.b_isinstance (by decide +kernel) (pa_cons (pv 1) (pa_cons (gTy (n := "str") T.b_str (by decide +kernel)) pa_nil))))) (pw_or1 (pt_cmp (pc_dnotin hu (pv 1) (pe_fld (pv 0) rfl)))))) (pss_one ps_never) pss_nil)), ?_⟩
    refine ⟨_, rfl, _, _, _, _, _, rfl, .ty _, tyS m, kit_same, true, rfl, iteF ?_⟩
    exact ⟨_, rfl, _, rfl, _, T.C, _, _, _, rfl, h.at_.ob, T.cl, T.nU, fl_ut, _, _, rfl, DGet.k (k := .inr m) h.at_.ut, _, rfl, ifF (by rw [val_ut h.wf hm]; rfl) q⟩
theorem ok_Catalog_modules (T : Txt K mg) : FnOk P w K mg base CX0 1 T.d_Catalog_modules.f T.d_Catalog_modules.fd ["self"] (fun vs H Q _ => ∃ (ad : Ad) (rn : Nat) (c : Cat), vs = [.ref (ad .cp)] ∧ Rd0 T H ad rn c ∧ ∀ p, H p = none → Q (.ref p) (upd H p (.lst (c.mods.map V.str)))) := by
  have nd := sc_Catalog_modules.nd
  refine T.d_Catalog_modules.F.ok sc_Catalog_modules (fun vs H Q E h => ?_) (fun cdv A outer s H vs Q E hr h => ?_)
  · obtain ⟨ad, rn, c, rfl, _⟩ := h; rfl
  · obtain ⟨ad, rn, c, rfl, h, q⟩ := h
    refine ⟨_, (pss_one (ps_ret (pe_callTy (T := "list") (call_list_dK rfl) (by rfl) T.b_list (by decide +kernel) (pa_cons (pe_fld (pv 0) rfl) pa_nil)))), ?_⟩
    refine ⟨_, rfl, _, T.C, _, _, _, rfl, h.at_.ob, T.cl, T.nU, fl_ut, _, _, rfl, h.at_.ut, fun p hp => ?_⟩
    have := q p hp
    rw [List.map_map]
    exact this
theorem ok_Catalog_uses (T : Txt K mg) : FnOk P w K mg base CX0 2 T.d_Catalog_uses.f T.d_Catalog_uses.fd ["self", "module"] (fun vs H Q _ => ∃ (ad : Ad) (rn : Nat) (c : Cat) (m : Nm), vs = [.ref (ad .cp), .str m] ∧ Rd0 T H ad rn c ∧ m ∈ c.mods ∧ ∀ p, H p = none → Q (.ref p) (upd H p (.lst ((c.uses m).map V.str)))) := by
  have nd := sc_Catalog_uses.nd
  refine T.d_Catalog_uses.F.ok sc_Catalog_uses (fun vs H Q E h => ?_) (fun cdv A outer s H vs Q E hr h => ?_)
  · obtain ⟨ad, rn, c, m, rfl, _⟩ := h; rfl
  · obtain ⟨ad, rn, c, m, rfl, h, hm, q⟩ := h
    have hu := hu_of hr
    refine ⟨_, (pss_cons (ps_expr (pcall (ok_require_module T) T.d_require_module.M (hr.mono (by decide)) (pa_cons (pv 0) (pa_cons (pv 1) pa_nil))))
      (pss_one (ps_ret (pe_callTy (r := rListS K) (T := "list") call_listS (by rfl) T.b_list (by decide +kernel) (pa_cons (pe_dget hu (pe_fld (pv 0) rfl) (pv 1) (fun _ _ => rfl)) pa_nil))))), ?_⟩
    refine ⟨_, rfl, _, rfl, ad, rn, c, m, rfl, h, hm, ?_⟩
    exact ⟨_, rfl, _, T.C, _, _, _, rfl, h.at_.ob, T.cl, T.nU, fl_ut, _, rfl, _, _, rfl, (by rw [← val_ut (ad := ad) h.wf hm]; exact DGet.k (k := .inr m) h.at_.ut), _, _, rfl, .inr (SqT.of (h.at_.us m hm)), q⟩
theorem ok_Catalog_versions (T : Txt K mg) : FnOk P w K mg base CX0 2 T.d_Catalog_versions.f T.d_Catalog_versions.fd ["self", "module"] (fun vs H Q _ => ∃ (ad : Ad) (rn : Nat) (c : Cat) (m : Nm), vs = [.ref (ad .cp), .str m] ∧ Rd0 T H ad rn c ∧ m ∈ c.mods ∧ Q (.int (c.cnt m : Nat)) H) := by
  have nd := sc_Catalog_versions.nd
  refine T.d_Catalog_versions.F.ok sc_Catalog_versions (fun vs H Q E h => ?_) (fun cdv A outer s H vs Q E hr h => ?_)
  · obtain ⟨ad, rn, c, m, rfl, _⟩ := h; rfl
  · obtain ⟨ad, rn, c, m, rfl, h, hm, q⟩ := h
    have hu := hu_of hr
    refine ⟨_, (pss_cons (ps_expr (pcall (ok_require_module T) T.d_require_module.M (hr.mono (by decide)) (pa_cons (pv 0) (pa_cons (pv 1) pa_nil))))
      (pss_one (ps_ret (pe_dget hu (pe_fld (pv 0) rfl) (pv 1) (fun _ _ => rfl))))), ?_⟩
    refine ⟨_, rfl, _, rfl, ad, rn, c, m, rfl, h, hm, ?_⟩
    exact ⟨_, rfl, _, T.C, _, _, _, rfl, h.at_.ob, T.cl, T.nC, fl_ct, _, rfl, _, _, rfl, (by rw [← val_ct h.wf hm]; exact DGet.k (k := .inr m) h.at_.ct), q⟩
theorem ok_Catalog_len (T : Txt K mg) : FnOk P w K mg base CX0 1 T.d_Catalog_len.f T.d_Catalog_len.fd ["self"] (fun vs H Q _ => ∃ (ad : Ad) (rn : Nat) (c : Cat), vs = [.ref (ad .cp)] ∧ Rd0 T H ad rn c ∧ Q (.int (c.mods.length : Nat)) H) := by
  have nd := sc_Catalog_len.nd
  refine T.d_Catalog_len.F.ok sc_Catalog_len (fun vs H Q E h => ?_) (fun cdv A outer s H vs Q E hr h => ?_)
  · obtain ⟨ad, rn, c, rfl, _⟩ := h; rfl
  · obtain ⟨ad, rn, c, rfl, h, q⟩ := h
    refine ⟨_, (pss_one (ps_ret (pe_callB (id := "len") call_lenD (by rfl) T.b_len (by decide +kernel) (pa_cons (pe_fld (pv 0) rfl) pa_nil)))), ?_⟩
    refine ⟨_, rfl, _, T.C, _, _, _, rfl, h.at_.ob, T.cl, T.nU, fl_ut, _, _, rfl, h.at_.ut, ?_⟩
    rw [List.length_map]
    exact q
theorem ok_Catalog_window (T : Txt K mg) : FnOk P w K mg base CX0 3 T.d_Catalog_window.f T.d_Catalog_window.fd ["self", "user", "used", "version"] (fun vs H Q _ => ∃ (ad : Ad) (rn : Nat) (c : Cat) (m u : Nm) (v : Int), vs = [.ref (ad .cp), .str m, .str u, .int v] ∧ Rd0 T H ad rn c ∧ m ∈ c.mods ∧ u ∈ c.uses m ∧ 0 ≤ v ∧ v < (c.cnt m : Nat) ∧
    ∀ H' a, Sm H H' → H' a = some (.tup (winV (winAt (c.wins m u) v))) → okWin (winAt (c.wins m u) v) → Q (.ref a) H') := by
  have nd := sc_Catalog_window.nd
  refine T.d_Catalog_window.F.ok sc_Catalog_window (fun vs H Q E h => ?_) (fun cdv A outer s H vs Q E hr h => ?_)
  · obtain ⟨ad, rn, c, m, u, v, rfl, _⟩ := h; rfl
  · obtain ⟨ad, rn, c, m, u, v, rfl, h, hm, hu1, h0, h1, q⟩ := h
    have hu := hu_of hr
    refine ⟨_, (pss_cons (ps_expr (pcall (ok_require_module T) T.d_require_module.M (hr.mono (by decide)) (pa_cons (pv 0) (pa_cons (pv 1) pa_nil))))
      (pss_cons (ps_if (pt_cmpR (r := rIn K true) op_notIn_seq (pv 2) (pe_dget hu (pe_fld (pv 0) rfl) (pv 1) (fun _ _ => rfl)) rfl) (pss_one ps_never) pss_nil)
      (pss_cons (ps_if (PW.pt (pw_or (pt_not (pt_val (pcall (ok_is_version T) T.d_is_version.M (hr.mono (by decide)) (pa_cons (pv 3) pa_nil)))) (pw_or1 (pt_cmpR op_ge (pv 3) (pe_dget hu (pe_fld (pv 0) rfl) (pv 1) (fun _ _ => rfl)) (nomark _))))) (pss_one ps_never) pss_nil)
      (pss_one (ps_ret (pe_ix (r := rIxL K) ix_list (pe_dget hu (pe_fld (pv 0) rfl) (pe_tup (pa_cons (pv 1) (pa_cons (pv 2) pa_nil))) (fun _ _ => rfl)) (pv 3) (fun _ _ => rfl))))))), ?_⟩
    refine ⟨_, rfl, _, rfl, ad, rn, c, m, rfl, h, hm, ?_⟩
    refine ⟨_, rfl, _, rfl, _, T.C, _, _, _, rfl, h.at_.ob, T.cl, T.nU, fl_ut, _, rfl, _, _, rfl, (by rw [← val_ut (ad := ad) h.wf hm]; exact DGet.k (k := .inr m) h.at_.ut), _, _, rfl, .inr (SqT.of (h.at_.us m hm)), rfl, NmOk.strs, _, rfl, ?_⟩
    refine ifF (by rw [if_pos rfl, inV_str, decT hu1]; rfl) ?_
    refine ⟨_, rfl, v, rfl, _, rfl, ifF (ndecT h0) ?_⟩
    refine ⟨_, rfl, _, rfl, _, T.C, _, _, _, rfl, h.at_.ob, T.cl, T.nC, fl_ct, _, rfl, _, _, rfl, (by rw [← val_ct h.wf hm]; exact DGet.k (k := .inr m) h.at_.ct), _, _, rfl, rfl, _, rfl, ifF (decF (by omega)) ?_⟩
    refine ⟨_, rfl, _, T.C, _, _, _, rfl, h.at_.ob, T.cl, T.nW, fl_wt, _, rfl, _, rfl, (by show 2 ≤ sizeLine; decide), fun p hp => ?_⟩
    have h2 := h.sm (Sm.rf.up (o := .tup [.str m, .str u]) hp)
    obtain ⟨refs, e1, e2⟩ := h2.at_.ws (m, u) (mem_pairs.mpr ⟨hm, hu1⟩)
    have hlen : ((c.wins m u).length : Int) = (c.cnt m : Nat) := by rw [h.wf.len m hm u hu1]
    have hw := winAt_get h0 (show v < (c.wins m u).length by omega)
    obtain ⟨rv, f1, a, f2, f3⟩ : ∃ rv, refs[v.toNat]? = some rv ∧ ∃ a, rv = .ref a ∧ (upd H p (.tup [.str m, .str u])) a = some (.tup (winV (winAt (c.wins m u) v))) := by
      obtain ⟨j, y, g1, g2, g3⟩ := LiI.paired_ix (paired_flip e2) (List.mem_of_getElem? hw)
      have el : refs.length = (c.wins m u).length := e2.length
      have hlt : v.toNat < refs.length := by omega
      refine ⟨refs[v.toNat], List.getElem?_eq_getElem hlt, ?_⟩
      obtain ⟨y2, k1, k2⟩ := LiI.paired_get e2 (List.getElem?_eq_getElem hlt)
      rw [hw] at k1
      cases k1
      exact k2
    subst f2
    refine ⟨_, _, rfl, (by rw [← val_wt (ad := ad) h.wf hm hu1]; exact DGet.t (k := [.inr m, .inr u]) h2.at_.wt upd_same), _, rfl, _, _, _, _, rfl, rfl, SqL.of e1, (by rw [show v = ((v.toNat : Nat) : Int) by omega]; exact atI_nat f1), ?_⟩
    exact q _ a (Sm.rf.up hp) f3 (h.wf.okw m hm u hu1 _ (List.mem_of_getElem? hw))
end
end Gs
/-! ## GsD5 -/
namespace Gs
open PySem PySem.Spec PyProof.Rows L2
section
variable {P : Program} {w : World} {K : PySem.W.Frag} {mg : Str → Option Value} {base : Heap}
theorem len_upTo (n : Nat) : (upTo n).length = n := by simp [upTo]
theorem upTo_at {n i : Nat} {t : Int} (h : (upTo n)[i]? = some t) : t = (i : Int) ∧ i < n := by
  unfold upTo at h
  rw [List.getElem?_map] at h
  cases e : (List.range n)[i]? with
  | none => rw [e] at h; cases h
  | some j =>
    rw [e] at h
    have hl := (List.getElem?_eq_some_iff.mp e).1
    rw [List.length_range] at hl
    rw [List.getElem?_range hl] at e
    cases e
    exact ⟨(Option.some.inj h).symm, hl⟩
theorem inl_inj : ∀ a b : Int, (Sum.inl a : Key) = Sum.inl b → a = b := fun _ _ e => Sum.inl.inj e
theorem wd_some {l : List Int} {v : Int} : (valV (l.map fun v => ((.inl v : Key), V.bl true)) (.inl v)).isSome = decide (v ∈ l) := by
  by_cases h : v ∈ l
  · rw [decT h]
    cases e : valV (l.map fun v => ((.inl v : Key), V.bl true)) (.inl v) with
    | some _ => rfl
    | none =>
      refine absurd ?_ (valV_not e)
      rw [List.map_map]
      exact List.mem_map.mpr ⟨v, h, rfl⟩
  · rw [decF h, val_none fun t ht e => h (by rw [← inl_inj _ _ e]; exact ht)]
    rfl
theorem ok_Catalog_is_available (T : Txt K mg) : FnOk P w K mg base CX0 3 T.d_Catalog_is_available.f T.d_Catalog_is_available.fd ["self", "module", "version"] (fun vs H Q _ => ∃ (ad : Ad) (rn : Nat) (c : Cat) (m : Nm) (v : Int), vs = [.ref (ad .cp), .str m, .int v] ∧ Rd0 T H ad rn c ∧ m ∈ c.mods ∧
    Q (.bl (decide (v ∈ c.there m))) H) := by
  have nd := sc_Catalog_is_available.nd
  refine T.d_Catalog_is_available.F.ok sc_Catalog_is_available (fun vs H Q E h => ?_) (fun cdv A outer s H vs Q E hr h => ?_)
  · obtain ⟨ad, rn, c, m, v, rfl, _⟩ := h; rfl
  · obtain ⟨ad, rn, c, m, v, rfl, h, hm, q⟩ := h
    have hu := hu_of hr
    refine ⟨_, (pss_cons (ps_expr (pcall (ok_require_module T) T.d_require_module.M (hr.mono (by decide)) (pa_cons (pv 0) (pa_cons (pv 1) pa_nil))))
      (pss_cons (ps_if (PW.pt (pw_or (pt_not (pt_val (pcall (ok_is_version T) T.d_is_version.M (hr.mono (by decide)) (pa_cons (pv 2) pa_nil)))) (pw_or1 (pt_cmpR op_ge (pv 2) (pe_dget hu (pe_fld (pv 0) rfl) (pv 1) (fun _ _ => rfl)) (nomark _))))) (pss_one (ps_ret pe_bl)) pss_nil)
      (pss_one (ps_ret (pe_cmp (pc_dnotin hu (pv 2) (pe_dget hu (pe_fld (pv 0) rfl) (pv 1) (fun _ _ => rfl)))))))), ?_⟩
    refine ⟨_, rfl, _, rfl, ad, rn, c, m, rfl, h, hm, ?_⟩
    refine ⟨_, rfl, v, rfl, _, rfl, ?_⟩
    by_cases h0 : 0 ≤ v
    · refine ifF (ndecT h0) ?_
      refine ⟨_, rfl, _, rfl, _, T.C, _, _, _, rfl, h.at_.ob, T.cl, T.nC, fl_ct, _, rfl, _, _, rfl, (by rw [← val_ct h.wf hm]; exact DGet.k (k := .inr m) h.at_.ct), _, _, rfl, rfl, _, rfl, ?_⟩
      by_cases h1 : v < (c.cnt m : Nat)
      · refine ifF (decF (by omega)) ?_
        refine ⟨_, rfl, _, rfl, _, T.C, _, _, _, rfl, h.at_.ob, T.cl, T.nD, fl_cw, _, rfl, _, _, rfl, (by rw [← val_cw (ad := ad) h.wf hm]; exact DGet.k (k := .inr m) h.at_.cw), _, _, rfl, DGet.k (k := .inl v) (h.at_.ds m hm), ?_⟩
        rw [wd_some]
        have e : (!decide (v ∈ c.wd m)) = decide (v ∈ c.there m) := by
          by_cases hw : v ∈ c.wd m
          · rw [decT hw, decF (fun z => (Cat.mem_there.mp z).2 hw)]; rfl
          · rw [decF hw, decT (Cat.mem_there.mpr ⟨⟨h0, h1⟩, hw⟩)]; rfl
        rw [e]
        exact q
      · refine ifT (decT (by omega)) ?_
        rw [decF (fun z => h1 (Cat.mem_there.mp z).1.2)] at q
        exact q
    · refine ifT (ndecF h0) ?_
      rw [decF (fun z => h0 (Cat.mem_there.mp z).1.1)] at q
      exact ifT rfl q
theorem ok_Catalog_available (T : Txt K mg) : FnOk P w K mg base CX0 2 T.d_Catalog_available.f T.d_Catalog_available.fd ["self", "module"] (fun vs H Q _ => ∃ (ad : Ad) (rn : Nat) (c : Cat) (m : Nm), vs = [.ref (ad .cp), .str m] ∧ Rd0 T H ad rn c ∧ m ∈ c.mods ∧
    ∀ H' p, Sm H H' → H p = none → H' p = some (.lst ((c.there m).map V.int)) → Q (.ref p) H') := by
  have nd := sc_Catalog_available.nd
  refine T.d_Catalog_available.F.ok sc_Catalog_available (fun vs H Q E h => ?_) (fun cdv A outer s H vs Q E hr h => ?_)
  · obtain ⟨ad, rn, c, m, rfl, _⟩ := h; rfl
  · obtain ⟨ad, rn, c, m, rfl, h, hm, q⟩ := h
    have hu := hu_of hr
    have hs : sizeLine = 16777216 := sizeLine_eq
    have h16 := h.wf.c16 m hm
    refine ⟨_, (pss_cons (ps_expr (pcall (ok_require_module T) T.d_require_module.M (hr.mono (by decide)) (pa_cons (pv 0) (pa_cons (pv 1) pa_nil))))
      (pss_cons (ps_set (i := 2) nd rfl (.inr rfl) (pe_dget hu (pe_fld (pv 0) rfl) (pv 1) (fun _ _ => rfl)))
      (pss_one (ps_ret (pe_lc (own := [("version", 3)]) (g := (gName 3)) rfl nd (pi_range1 (by rfl) T.b_range (pa_cons (pe_dget hu (pe_fld (pv 0) rfl) (pv 1) (fun _ _ => rfl)) pa_nil)) (blkOk_by (N := N_Catalog_available) (sc := defScope s_Catalog_available) (by decide +kernel)) (fun _ _ _ _ _ => (pg_name (i := 3) nd rfl (.inl rfl))) (fun _ _ _ _ _ => (pts_one (pt_cmp (pc_dnotin hu (pv 3) (pv 2))))) (fun _ _ _ _ _ => (pv 3))))))), ?_⟩
    refine ⟨_, rfl, _, rfl, ad, rn, c, m, rfl, h, hm, ?_⟩
    refine ⟨_, rfl, _, T.C, _, _, _, rfl, h.at_.ob, T.cl, T.nD, fl_cw, _, rfl, _, _, rfl, (by rw [← val_cw (ad := ad) h.wf hm]; exact DGet.k (k := .inr m) h.at_.cw), ?_⟩
    refine ⟨_, rfl, _, T.C, _, _, _, rfl, h.at_.ob, T.cl, T.nC, fl_ct, _, rfl, _, _, rfl, (by rw [← val_ct h.wf hm]; exact DGet.k (k := .inr m) h.at_.ct), _, rfl, by omega, by omega, fun D nD => ?_⟩
    have wk := walk_range (lo := 0) (n := (upTo (c.cnt m)).length)
    rw [show ((c.cnt m : Nat) : Int).toNat = (upTo (c.cnt m)).length by rw [len_upTo]; omega]
    refine lc_sm (upTo (c.cnt m)) wk (fun i H x H' y => sm_YFn y) nD (fun H' _ => trivial) (fun v => !decide (v ∈ c.wd m)) (fun v y _ => y = .int v) (fun _ _ _ _ _ r => r) (by rw [len_upTo]; omega) (fun i t x H2 H3 Pa Pb ht s1 s2 _ y ka kb => ?_) (fun H2 acc s1 hacc hp => ?_)
    · obtain ⟨rfl, rfl⟩ := y
      obtain ⟨rfl, hi⟩ := upTo_at ht
      refine ⟨rfl, _, rfl, _, rfl, _, _, rfl, DGet.k (k := .inl (0 + (i : Int))) (s2 _ _ (h.at_.ds m hm)), _, rfl, ?_⟩
      rw [wd_some, Int.zero_add]
      by_cases hw : (i : Int) ∈ c.wd m
      · rw [decT hw]
        exact ifF rfl (kb _ Sm.rf (by rw [decT hw]; rfl))
      · rw [decF hw]
        exact ifT rfl ⟨_, rfl, ka _ _ Sm.rf (by rw [decF hw]; rfl) (congrArg V.int (Int.zero_add _))⟩
    · have e := paired_eq (f := V.int) hp
      subst e
      exact q _ D s1 nD hacc
theorem ok_Catalog_users (T : Txt K mg) : FnOk P w K mg base CX0 2 T.d_Catalog_users.f T.d_Catalog_users.fd ["self", "module"] (fun vs H Q _ => ∃ (ad : Ad) (rn : Nat) (c : Cat) (m : Nm), vs = [.ref (ad .cp), .str m] ∧ Rd0 T H ad rn c ∧ m ∈ c.mods ∧
    ∀ H' p, Sm H H' → H p = none → H' p = some (.lst ((c.users m).map V.str)) → Q (.ref p) H') := by
  have nd := sc_Catalog_users.nd
  refine T.d_Catalog_users.F.ok sc_Catalog_users (fun vs H Q E h => ?_) (fun cdv A outer s H vs Q E hr h => ?_)
  · obtain ⟨ad, rn, c, m, rfl, _⟩ := h; rfl
  · obtain ⟨ad, rn, c, m, rfl, h, hm, q⟩ := h
    have hu := hu_of hr
    have hs : sizeLine = 16777216 := sizeLine_eq
    have h12 := h.wf.few
    refine ⟨_, (pss_cons (ps_expr (pcall (ok_require_module T) T.d_require_module.M (hr.mono (by decide)) (pa_cons (pv 0) (pa_cons (pv 1) pa_nil))))
      (pss_one (ps_lock (ps_ret (pe_lc (own := [("user", 2), ("names", 3)]) (g := (gTup K 2 (gCons (gName 2) (gCons (gName 3) gNil)))) rfl nd (pi_items (pe_fld (pv 0) rfl)) (blkOk_by (N := N_Catalog_users) (sc := defScope s_Catalog_users) (by decide +kernel)) (fun _ _ _ _ _ => (pg_tup rfl (pgs_cons (pg_name (i := 2) nd rfl (.inl rfl)) (pgs_cons (pg_name (i := 3) nd rfl (.inl rfl)) pgs_nil)))) (fun _ _ _ _ _ => (pts_one (pt_cmpR (r := rIn K false) op_in_seq (pv 1) (pv 3) rfl))) (fun _ _ _ _ _ => (pv 2))))))), ?_⟩
    refine ⟨_, rfl, _, rfl, ad, rn, c, m, rfl, h, hm, ?_⟩
    have hd := h.at_.ut
    refine ⟨_, _, hd, trivial, fun o => ?_⟩
    have hob : (upd H (ad .ut) (.frz o (.dK (c.mods.map fun m => ((.inr m : Key), V.ref (ad (.ua m))))))) (ad .cp) = some (.ins T.C (ad .cdx) (flds ad)) := by rw [upd_ne (ne_of hd h.at_.ob (by intro z; cases z)).symm]; exact h.at_.ob
    refine ⟨_, rfl, _, T.C, _, _, _, rfl, hob, T.cl, T.nU, fl_ut, _, o, _, rfl, upd_same, fun D nD => ?_⟩
    have wk := walk_items (d := ad .ut) (o := o) (kvs := c.mods.map fun m => ((.inr m : Key), V.ref (ad (.ua m))))
    rw [List.length_map] at wk
    refine lc_sm c.mods wk (fun i H x H' y => sm_YPair y) nD (fun H' s => s _ _ upd_same) (fun k => decide (m ∈ c.uses k)) (fun k y _ => y = .str k) (fun _ _ _ _ _ r => r) (by omega) (fun i t x H2 H3 Pa Pb ht s1 s2 _ y ka kb => ?_) (fun H2 acc s1 hacc hp => ?_)
    · obtain ⟨Tp, a, b, rfl, nT, rfl, ea, eb⟩ := y
      have ea := pickK ht ea
      have eb := pickV ht eb
      subst ea eb
      have hmt := List.mem_of_getElem? ht
      have hk : (upd H2 Tp (.tup [kV (.inr t), V.ref (ad (.ua t))])) (ad (.ua t)) = some (.tup ((c.uses t).map V.str)) := s2 _ _ (by rw [upd_ne (ne_of hd (h.at_.us t hmt) (by intro z; cases z)).symm]; exact h.at_.us t hmt)
      refine ⟨Tp, _, rfl, SqT.of upd_same, rfl, _, _, rfl, _, _, rfl, rfl, ?_⟩
      refine ⟨rfl, _, rfl, _, rfl, _, _, rfl, .inr (SqT.of hk), rfl, NmOk.strs, _, rfl, ?_⟩
      rw [if_neg Bool.false_ne_true, inV_str]
      by_cases hw : m ∈ c.uses t
      · exact ifT (decT hw) ⟨_, rfl, ka _ _ Sm.rf (decT hw) rfl⟩
      · exact ifF (decF hw) (kb _ Sm.rf (decF hw))
    · have e := paired_eq (f := V.str) hp
      subst e
      obtain ⟨e1, s2⟩ := Sm.unlock hd s1
      have hDn : H D = none := by
        cases e : H D with
        | none => rfl
        | some o' =>
          by_cases hD : D = ad .ut
          · rw [hD, upd_same] at nD; cases nD
          · rw [upd_ne hD, e] at nD; cases nD
      have hne : D ≠ ad .ut := fun z => by rw [z, upd_same] at nD; cases nD
      refine ⟨e1, q _ D s2 hDn ?_⟩
      rw [upd_ne hne]
      exact hacc
end
end Gs
/-! ## GsD6 -/
namespace Gs
open PySem PySem.Spec PyProof.Rows L2
section
variable {P : Program} {w : World} {K : PySem.W.Frag} {mg : Str → Option Value} {base : Heap}
theorem ok_settled_version (T : Txt K mg) : FnOk P w K mg base CX0 3 T.d_settled_version.f T.d_settled_version.fd ["catalog", "module", "version"] (fun vs H Q _ => ∃ (ad : Ad) (rn : Nat) (c : Cat) (m : Nm) (v : Int), vs = [.ref (ad .cp), .str m, .int v] ∧ Rd0 T H ad rn c ∧ m ∈ c.mods ∧
    ∀ H', Sm H H' → Q (hiV (c.settle (m, v))) H') := by
  have nd := sc_settled_version.nd
  refine T.d_settled_version.F.ok sc_settled_version (fun vs H Q E h => ?_) (fun cdv A outer s H vs Q E hr h => ?_)
  · obtain ⟨ad, rn, c, m, v, rfl, _⟩ := h; rfl
  · obtain ⟨ad, rn, c, m, v, rfl, h, hm, q⟩ := h
    have hu := hu_of hr
    have hu64 := hu64_of hr
    have hs : sizeLine = 16777216 := sizeLine_eq
    have h16 := h.wf.c16 m hm
    have hl := c.there_len m
    refine ⟨_, (pss_cons (ps_setLc (i := 3) (own := [("other", 4)]) (g := (gName 4)) rfl nd rfl rfl (sw_true rfl rfl rfl (by decide +kernel)) (pi_list (pe_meth (pv 0) T.cl T.d_Catalog_available.me (ok_Catalog_available T) (hr.mono (by decide)) T.d_Catalog_available.B .nil pass0 (pa_cons (pv 1) pa_nil))) (blkOk_by (N := N_settled_version) (sc := defScope s_settled_version) (by decide +kernel)) (fun _ _ _ _ _ => (pg_name (i := 4) nd rfl (.inl rfl))) (fun _ _ _ _ _ => (pts_one (pt_cmpR op_ge (pv 4) (pv 2) (nomark _)))) (fun _ _ _ _ _ => (pv 4)))
      (pss_one (ps_ret (pe_ifExp (pt_cmpR (op_neD hu64) (pv 3) (pe_lst pa_nil) (nomark _)) (pe_ix (r := rIxL K) ix_list (pv 3) pe_int (fun _ _ => rfl)) pe_non)))), ?_⟩
    refine ⟨_, rfl, _, _, _, rfl, h.at_.ob, rfl, _, rfl, ad, rn, c, m, rfl, h, hm, fun H1 p s1 np hp => ?_⟩
    refine ⟨p, rfl, ⟨_, SqL.of hp⟩, fun D nD => ?_⟩
    have wk := walk_list (K := K) (a := p) (xs := (c.there m).map V.int)
    rw [List.length_map] at wk
    refine lc_sm (c.there m) wk (fun i H x H' y => sm_YAt y) nD (fun H' s => SqL.of (s _ _ hp)) (fun x => decide (v ≤ x)) (fun x y _ => y = .int x) (fun _ _ _ _ _ r => r) (by omega) (fun i t x H2 H3 Pa Pb ht s2 s3 _ y ka kb => ?_) (fun H2 acc s2 hacc hp2 => ?_)
    · obtain ⟨rfl, hx⟩ := y
      have hx := pick1 ht hx
      subst hx
      refine ⟨rfl, _, rfl, _, rfl, _, _, rfl, rfl, _, rfl, ?_⟩
      by_cases hw : v ≤ t
      · exact ifT (decT hw) ⟨_, rfl, ka _ _ Sm.rf (decT hw) rfl⟩
      · exact ifF (decF hw) (kb _ Sm.rf (decF hw))
    · have e := paired_eq (f := V.int) hp2
      subst e
      refine ⟨_, rfl, (by show 0 ≤ sizeLine; omega), fun p2 np2 => ?_⟩
      have s3 : Sm H2 (upd H2 p2 (.lst [])) := Sm.rf.up np2
      have hacc2 := s3 _ _ hacc
      refine ⟨_, _, dp_ints hacc2, dp_nil upd_same, (lay_ints _).sh, lay_nil.sh, _, rfl, ?_⟩
      rw [eqv_nil]
      have q3 := q _ (s1.tr (s2.tr s3))
      unfold Cat.settle at q3
      cases e : (c.there m).filter fun x => decide (v ≤ x) with
      | nil =>
        rw [show ((c.there (m, v).1).filter fun x => decide ((m, v).2 ≤ x)) = [] from e] at q3
        exact ifF (by simp) q3
      | cons x xs =>
        rw [show ((c.there (m, v).1).filter fun x => decide ((m, v).2 ≤ x)) = x :: xs from e] at q3
        refine ifT (by simp) ?_
        rw [e] at hacc2
        exact ⟨_, rfl, D, _, _, _, rfl, rfl, SqL.of hacc2, at0, q3⟩
theorem firstR_at {v : Int} : ∀ {ws : List Win} {i : Nat} {a : Win}, ws[i]? = some a → reach a v = true → (∀ j b, j < i → ws[j]? = some b → reach b v = false) → ws.findIdx (fun x => reach x v) = i
  | [], i, a, h, _, _ => by cases h
  | b :: ws, 0, a, h, r, _ => by
    cases h
    rw [List.findIdx_cons, r]
    rfl
  | b :: ws, i + 1, a, h, r, no => by
    have hb := no 0 b (Nat.succ_pos i) rfl
    rw [List.findIdx_cons, hb]
    have := firstR_at (ws := ws) (i := i) h r fun j x hj hx => no (j + 1) x (by omega) hx
    simp [this]
theorem firstR_none {v : Int} : ∀ {ws : List Win}, (∀ (j : Nat) b, ws[j]? = some b → reach b v = false) → ws.findIdx (fun x => reach x v) = ws.length
  | [], _ => rfl
  | b :: ws, no => by
    rw [List.findIdx_cons, no 0 b rfl]
    have := firstR_none (ws := ws) fun j x hx => no (j + 1) x hx
    simp [this]
theorem ok_first_reaching (T : Txt K mg) : FnOk P w K mg base CX0 4 T.d_first_reaching.f T.d_first_reaching.fd ["catalog", "user", "module", "version"] (fun vs H Q _ => ∃ (ad : Ad) (rn : Nat) (c : Cat) (u m : Nm) (v : Int), vs = [.ref (ad .cp), .str u, .str m, .int v] ∧ Rd0 T H ad rn c ∧ u ∈ c.mods ∧ m ∈ c.uses u ∧
    ∀ H', Sm H H' → Q (.int (firstR (c.wins u m) v)) H') := by
  have nd := sc_first_reaching.nd
  refine T.d_first_reaching.F.ok sc_first_reaching (fun vs H Q E h => ?_) (fun cdv A outer s H vs Q E hr h => ?_)
  · obtain ⟨ad, rn, c, u, m, v, rfl, _⟩ := h; rfl
  · obtain ⟨ad, rn, c, u, m, v, rfl, h, hu1, hm, q⟩ := h
    have hu := hu_of hr
    have h16 := h.wf.c16 u hu1
    have hlen := h.wf.len u hu1 m hm
    refine ⟨_, (pss_cons (ps_set (i := 4) nd rfl (.inl rfl) (pe_meth (pv 0) T.cl T.d_Catalog_versions.me (ok_Catalog_versions T) (hr.mono (by decide)) T.d_Catalog_versions.B .nil pass0 (pa_cons (pv 1) pa_nil)))
      (pss_cons (ps_for PassesOwn.never rfl (pi_range1 (by rfl) T.b_range (pa_cons (pv 4) pa_nil)) (pg_name (i := 5) nd rfl (.inl rfl))
      (pss_one (ps_if (pt_val (pcall (ok_reaches T) T.d_reaches.M (hr.mono (by decide)) (pa_cons (pe_meth (pv 0) T.cl T.d_Catalog_window.me (ok_Catalog_window T) (hr.mono (by decide)) T.d_Catalog_window.B .nil pass0 (pa_cons (pv 1) (pa_cons (pv 2) (pa_cons (pv 5) pa_nil)))) (pa_cons (pv 3) pa_nil)))) (pss_one (ps_ret (pv 5))) pss_nil)))
      (pss_one (ps_ret (pv 4))))), ?_⟩
    refine ⟨_, rfl, _, _, _, rfl, h.at_.ob, rfl, _, rfl, ad, rn, c, u, rfl, h, hu1, ?_⟩
    refine ⟨_, rfl, _, rfl, by omega, by omega, ?_⟩
    have wk := walk_range (lo := 0) (n := ((c.cnt u : Nat) : Int).toNat)
    refine for_it wk (fun i σ H' => Sm H H' ∧ (∃ x, σ = [some (.ref (ad .cp)), some (.str u), some (.str m), some (.int v), some (.int (c.cnt u : Nat)), x]) ∧ ∀ j b, j < i → (c.wins u m)[j]? = some b → reach b v = false) ⟨Sm.rf, ⟨_, rfl⟩, fun j b hj => absurd hj (Nat.not_lt_zero j)⟩ (fun _ _ _ _ _ => trivial) (fun i x σ H2 H3 hi p y => ?_) (fun σ H2 p => ?_)
    · obtain ⟨s1, ⟨x0, rfl⟩, no⟩ := p
      obtain ⟨rfl, rfl⟩ := y
      have hw := winAt_get (ws := c.wins u m) (v := 0 + (i : Int)) (by omega) (by omega)
      have en : (0 + (i : Int)).toNat = i := by omega
      rw [en] at hw
      refine ⟨_, rfl, _, _, _, rfl, (h.sm s1).at_.ob, rfl, _, rfl, _, rfl, _, rfl, ad, rn, c, u, m, _, rfl, h.sm s1, hu1, hm, by omega, by omega, fun H4 a s4 ha hok => ?_⟩
      refine ⟨_, rfl, a, _, v, rfl, ha, _, rfl, ?_⟩
      cases e : reach (winAt (c.wins u m) (0 + (i : Int))) v with
      | true =>
        refine ifT rfl ⟨_, rfl, ?_⟩
        have := q H4 (s1.tr s4)
        unfold firstR at this
        rw [firstR_at hw e no] at this
        show Q (.int (0 + (i : Int))) H4
        rw [Int.zero_add]
        exact this
      | false =>
        refine ifF rfl ⟨s1.tr s4, ⟨_, rfl⟩, fun j b hj hb => ?_⟩
        rcases Nat.lt_succ_iff_lt_or_eq.mp hj with hj | rfl
        · exact no j b hj hb
        · rw [hw] at hb
          cases hb
          exact e
    · obtain ⟨s1, ⟨x0, rfl⟩, no⟩ := p
      refine ⟨_, rfl, ?_⟩
      have := q H2 s1
      unfold firstR at this
      rw [firstR_none fun j b hb => no j b (by have := (List.getElem?_eq_some_iff.mp hb).1; omega) hb, hlen] at this
      exact this
end
end Gs
/-! ## GsD7 -/
namespace Gs
open PySem PySem.Spec PyProof.Rows L2
section
variable {P : Program} {w : World} {K : PySem.W.Frag} {mg : Str → Option Value} {base : Heap}
theorem paired_mapL {α β γ : Type} {R : α → β → Prop} {G : β → γ → Prop} {f : α → γ} : ∀ {l : List α} {m : List β}, Paired R l m → (∀ a b, R a b → G b (f a)) → Paired G m (l.map f)
  | _, _, .nil, _ => .nil
  | _, _, .cons h t, k => .cons (k _ _ h) (paired_mapL t k)
def dictOf (l : List Dm) : List (List Key × V) := l.map fun d => (dmK d, V.bl true)
theorem put_dictOf (l : List Dm) (d : Dm) : putK (dictOf l) (dmK d) (.bl true) = dictOf (if d ∈ l then l else l ++ [d]) := by
  by_cases h : d ∈ l
  · rw [if_pos h]
    unfold putK
    have e : ((dictOf l).any fun kv => decide (kv.1 = dmK d)) = true := List.any_eq_true.mpr ⟨(dmK d, .bl true), List.mem_map.mpr ⟨d, h, rfl⟩, by simp⟩
    rw [if_pos e]
    unfold dictOf
    rw [List.map_map]
    refine List.map_congr_left fun x _ => ?_
    show (if dmK x = dmK d then (dmK x, V.bl true) else (dmK x, V.bl true)) = _
    split <;> rfl
  · rw [if_neg h, putK_app]
    · unfold dictOf
      rw [List.map_append]
      rfl
    · unfold dictOf
      rw [List.map_map]
      intro hm
      obtain ⟨x, hx, e⟩ := List.mem_map.mp hm
      exact h (dmK_inj e ▸ hx)
theorem isKeys_dm {H : Hp} {l : List Dm} {bs : List Addr} (h : IsKeys H (dictOf l) bs) : Paired (DmAt H) (bs.map V.ref) l := by
  unfold IsKeys dictOf at h
  generalize e : (l.map fun d => (dmK d, V.bl true)) = k at h
  induction h generalizing l with
  | nil =>
    cases l with
    | nil => exact .nil
    | cons a l => cases e
  | @cons p b ps bs' hh t ih =>
    cases l with
    | nil => cases e
    | cons a l =>
      rw [List.map_cons] at e
      obtain ⟨e1, e2⟩ := List.cons.inj e
      subst e1
      exact .cons ⟨b, rfl, hh⟩ (ih e2)
theorem ok_demands_of_version (T : Txt K mg) : FnOk P w K mg base CX0 5 T.d_demands_of_version.f T.d_demands_of_version.fd ["catalog", "module", "version"] (fun vs H Q _ => ∃ (ad : Ad) (rn : Nat) (c : Cat) (m : Nm) (v : Int), vs = [.ref (ad .cp), .str m, .int v] ∧ Rd0 T H ad rn c ∧ m ∈ c.mods ∧ 0 ≤ v ∧ v < (c.cnt m : Nat) ∧
    ∀ H' p, Sm H H' → H p = none → DmsAt H' p (c.foll m v) → Q (.ref p) H') := by
  have nd := sc_demands_of_version.nd
  refine T.d_demands_of_version.F.ok sc_demands_of_version (fun vs H Q E h => ?_) (fun cdv A outer s H vs Q E hr h => ?_)
  · obtain ⟨ad, rn, c, m, v, rfl, _⟩ := h; rfl
  · obtain ⟨ad, rn, c, m, v, rfl, h, hm, h0, h1, q⟩ := h
    have hu := hu_of hr
    have hs : sizeLine = 16777216 := sizeLine_eq
    have h12 := h.wf.few
    have hul : (c.uses m).length ≤ 12 := Nat.le_trans ((h.wf.und m hm).length_le_of_subset fun x hx => h.wf.sub m hm x hx) h12
    refine ⟨_, (pss_cons (ps_setLc (i := 3) (own := [("used", 5)]) (tt := tYes) (g := (gName 5)) rfl nd rfl rfl (sw_true rfl rfl rfl (by decide +kernel)) (pi_list (pe_meth (pv 0) T.cl T.d_Catalog_uses.me (ok_Catalog_uses T) (hr.mono (by decide)) T.d_Catalog_uses.B .nil pass0 (pa_cons (pv 1) pa_nil))) (blkOk_by (N := N_demands_of_version) (sc := defScope s_demands_of_version) (by decide +kernel)) (fun _ _ _ _ _ => (pg_name (i := 5) nd rfl (.inl rfl))) (fun _ _ _ _ _ => pts_nil) (fun _ _ _ _ _ => (pe_tup (pa_cons (pv 5) (pa_cons (pe_ix (r := rIxT K) ix_tup (pe_meth (pv 0) T.cl T.d_Catalog_window.me (ok_Catalog_window T) (hr.mono (by decide)) T.d_Catalog_window.B .nil pass0 (pa_cons (pv 1) (pa_cons (pv 5) (pa_cons (pv 2) pa_nil)))) pe_int (fun _ _ => rfl)) pa_nil)))))
      (pss_cons (ps_for PassesOwn.never rfl (pi_list (pe_meth (pv 0) T.cl T.d_Catalog_users.me (ok_Catalog_users T) (hr.mono (by decide)) T.d_Catalog_users.B .nil pass0 (pa_cons (pv 1) pa_nil))) (pg_name (i := 4) nd rfl (.inl rfl))
      (pss_one (ps_expr (pe_bm PySem.F.plainAttrs_list PySem.F.slot_list_append PySem.F.type_list_append mt_append (pv 3) (pa_cons (pe_tup (pa_cons (pv 4) (pa_cons (pcall (ok_first_reaching T) T.d_first_reaching.M (hr.mono (by decide)) (pa_cons (pv 0) (pa_cons (pv 4) (pa_cons (pv 1) (pa_cons (pv 2) pa_nil))))) pa_nil))) pa_nil)))))
      (pss_one (ps_ret (pe_callTy (T := "list") (call_list_dT rfl) (by rfl) T.b_list (by decide +kernel) (pa_cons (pe_dg (own := [("demand", 6)]) (g := (gName 6)) (.dT []) (.inr rfl) hu rfl nd (pi_list (pv 3)) (blkOk_by (N := N_demands_of_version) (sc := defScope s_demands_of_version) (by decide +kernel)) (fun _ _ _ _ _ => (pg_name (i := 6) nd rfl (.inl rfl))) (fun _ _ _ _ _ => (pts_one (pt_cmpR op_gt (pe_ix (r := rIxT K) ix_tup (pv 6) pe_int (fun _ _ => rfl)) pe_int (nomark _)))) (fun _ _ _ _ _ => (pv 6)) (fun _ _ _ _ _ => pe_bl)) pa_nil)))))), ?_⟩
    refine ⟨_, rfl, _, _, _, rfl, h.at_.ob, rfl, _, rfl, ad, rn, c, m, rfl, h, hm, fun p np => ?_⟩
    refine ⟨p, rfl, ⟨_, SqL.of upd_same⟩, fun D nD => ?_⟩
    have s1 : Sm H (upd H p (.lst ((c.uses m).map V.str))) := Sm.rf.up np
    have wk := walk_list (K := K) (a := p) (xs := (c.uses m).map V.str)
    rw [List.length_map] at wk
    refine lc_smY (c.uses m) wk (fun i H x H' y => sm_YAt y) nD (fun H' s => SqL.of (s _ _ upd_same)) (fun u y H => ∃ a, y = .ref a ∧ a ≠ D ∧ H a = some (.tup (dmV (u, (winAt (c.wins m u) v).1)))) (fun t y H4 H5 o r => let ⟨a, e1, e2, e3⟩ := r; ⟨a, e1, e2, o _ _ e3 e2⟩) (by omega) (fun i t x H2 H3 Pa ht s2 s3 hD y ka => ?_) (fun H2 acc s2 hacc hp2 => ?_)
    · obtain ⟨rfl, hx⟩ := y
      have hx := pick1 ht hx
      subst hx
      have ht' := List.mem_of_getElem? ht
      have h3 := h.sm (s1.tr s3)
      refine ⟨rfl, _, rfl, _, rfl, _, _, _, rfl, h3.at_.ob, rfl, _, rfl, _, rfl, _, rfl, ad, rn, c, m, t, v, rfl, h3, hm, ht', h0, h1, fun H4 a s4 ha hok => ?_⟩
      refine ⟨a, _, 0, _, rfl, rfl, SqT.of ha, at0, (by show 2 ≤ sizeLine; decide), fun b nb => ?_⟩
      obtain ⟨acc, hD⟩ := hD
      exact ka _ _ (s4.up nb) ⟨b, rfl, (ne_of_none (s4 _ _ hD) nb).symm, upd_same⟩
    · have hp3 : Paired (DmAt H2) acc ((c.uses m).map fun u => (u, (winAt (c.wins m u) v).1)) := by
        exact paired_mapL hp2 fun u y ⟨a, e1, _, e3⟩ => ⟨a, e1, e3⟩
      have h2 := h.sm (s1.tr s2)
      -- the users
      refine ⟨_, rfl, _, _, _, rfl, h2.at_.ob, rfl, _, rfl, ad, rn, c, m, rfl, h2, hm, fun H3 p2 s3 np2 hp4 => ?_⟩
      refine ⟨p2, rfl, ⟨_, SqL.of hp4⟩, ?_⟩
      have wk2 := walk_list (K := K) (a := p2) (xs := (c.users m).map V.str)
      rw [List.length_map] at wk2
      have nD0 : H D = none := s1.un nD
      have hne : p2 ≠ D := ne_of_none hacc np2 |>.symm
      have husl : (c.users m).length ≤ 12 := Nat.le_trans (List.length_filter_le ..) h12
      let F1 : List Dm := (c.uses m).map fun u => (u, (winAt (c.wins m u) v).1)
      refine for_it wk2 (fun i σ H' => Sm H H' ∧ H' p2 = some (.lst ((c.users m).map V.str)) ∧ (∃ x y z, σ = [some (.ref (ad .cp)), some (.str m), some (.int v), some (.ref D), x, y, z]) ∧ ∃ vs, H' D = some (.lst vs) ∧ Paired (DmAt H') vs (F1 ++ ((c.users m).take i).map fun k => (k, firstR (c.wins k m) v))) ⟨s1.tr (s2.tr s3), hp4, ⟨_, _, _, rfl⟩, acc, s3 _ _ hacc, ?_⟩ (fun _ _ _ _ p => SqL.of p.2.1) (fun i x σ H4 H5 hi p y => ?_) (fun σ H4 p => ?_)
      · simp only [List.take_zero, List.map_nil, List.append_nil]
        exact paired_mono hp3 fun _ _ z => z.sm s3
      · obtain ⟨s4, hu4, ⟨x0, y0, z0, rfl⟩, vs, hv, hpv⟩ := p
        obtain ⟨rfl, hx⟩ := y
        have ht : (c.users m)[i]? = some (c.users m)[i] := List.getElem?_eq_getElem hi
        have hx := pick1 ht hx
        subst hx
        generalize hk : (c.users m)[i] = k at ht
        obtain ⟨hk1, hk2⟩ := (Cat.mem_users).mp (List.mem_of_getElem? ht)
        have h4 := h.sm s4
        have hlen : vs.length ≤ 12 + 12 := by
          rw [hpv.length, List.length_append, List.length_map, List.length_map, List.length_take]
          omega
        refine ⟨_, rfl, .inl ⟨rfl, _, .inl (.inl hv)⟩, ?_⟩
        refine ⟨_, rfl, _, rfl, _, rfl, _, rfl, _, rfl, ad, rn, c, k, m, v, rfl, h4, hk1, hk2, fun H6 s6 => ⟨(by show 2 ≤ sizeLine; decide), fun b nb => ?_⟩⟩
        have s7 : Sm H5 (upd H6 b (.tup [.str k, .int (firstR (c.wins k m) v)])) := s6.up nb
        refine ⟨D, vs, _, rfl, rfl, s7 _ _ hv, by omega, ?_⟩
        refine ⟨(s4.tr s7).set nD0, ?_, ⟨_, _, _, rfl⟩, _, upd_same, ?_⟩
        · rw [upd_ne hne]
          exact s7 _ _ hu4
        · rw [take_snoc ht, List.map_append, ← List.append_assoc]
          have kp : ∀ a xs, H5 a = some (.tup xs) → (upd (upd H6 b (.tup [.str k, .int (firstR (c.wins k m) v)])) D (.lst (vs ++ [.ref b]))) a = some (.tup xs) := fun a xs e => by
            rw [upd_ne (ne_of hv e (by intro z; cases z)).symm]
            exact s7 _ _ e
          refine (paired_mono hpv fun _ _ z => z.keep kp).snoc ⟨b, rfl, ?_⟩
          rw [upd_ne (ne_of_none (s6 _ _ hv) nb).symm, upd_same]
          rfl
      · obtain ⟨s4, hu4, ⟨x0, y0, z0, rfl⟩, vs, hv, hpv⟩ := p
        rw [List.take_length] at hpv
        have hpv : Paired (DmAt H4) vs (c.foundOf m v) := hpv
        have hlen : vs.length ≤ 12 + 12 := by
          rw [hpv.length]
          unfold Cat.foundOf
          rw [List.length_append, List.length_map, List.length_map]
          omega
        refine ⟨_, rfl, D, rfl, ⟨_, SqL.of hv⟩, fun D2 nD2 => ?_⟩
        have wk3 := walk_list (K := K) (a := D) (xs := vs)
        refine dg_it wk3 (fun i H' => Sm H4 H' ∧ H' D2 = some (.dT (dictOf (uniq (pos ((c.foundOf m v).take i)))))) ⟨Sm.rf.up nD2, upd_same⟩ (fun i H' _ p => SqL.of (p.1 _ _ hv)) (fun i x H5 H6 hi p y => ?_) (fun H5 p => ?_)
        · obtain ⟨s5, hd5⟩ := p
          obtain ⟨rfl, hx⟩ := y
          obtain ⟨d, hd, a, rfl, ha⟩ := LiI.paired_get hpv hx
          have ha5 := s5 _ _ ha
          refine ⟨rfl, _, rfl, a, _, _, _, rfl, rfl, SqT.of ha5, at1, _, _, rfl, rfl, _, rfl, ?_⟩
          rw [take_snoc hd]
          by_cases hpos : 0 < d.2
          · refine ifT (decT hpos) ⟨_, rfl, ?_⟩
            have hul2 : (uniq (pos ((c.foundOf m v).take i))).length < sizeLine := by
              have l1 := uniq_length_le (pos ((c.foundOf m v).take i))
              have l2 : (pos ((c.foundOf m v).take i)).length ≤ ((c.foundOf m v).take i).length := List.length_filter_le ..
              rw [List.length_take] at l2
              rw [hpv.length] at hlen
              omega
            refine ⟨_, DPut.t (k := dmK d) hd5 ha5 (by unfold dictOf; rw [List.length_map]; exact hul2), s5.set nD2, ?_⟩
            rw [upd_same, put_dictOf, pos_snoc, if_pos hpos, uniq_snoc]
          · refine ifF (decF hpos) ⟨s5, ?_⟩
            rw [pos_snoc, if_neg hpos]
            exact hd5
        · obtain ⟨s5, hd5⟩ := p
          rw [hpv.length, List.take_length] at hd5
          refine ⟨D2, _, rfl, .inl hd5, fun p3 bs np3 hk => ?_⟩
          have s6 : Sm H5 (upd H5 p3 (.lst (bs.map V.ref))) := Sm.rf.up np3
          exact q _ p3 (s4.tr (s5.tr s6)) ((s4.tr s5).un np3) ⟨_, upd_same, paired_mono (isKeys_dm hk) fun _ _ z => z.sm s6⟩
end
end Gs
/-! ## GsD8 -/
namespace Gs
open PySem PySem.Spec PyProof.Rows L2
section
variable {P : Program} {w : World} {K : PySem.W.Frag} {mg : Str → Option Value} {base : Heap}
def ParAt (H : Hp) (v : V) : Option Dm → Prop
  | none => v = .non
  | some d => DmAt H v d
theorem ParAt.keep {H H' : Hp} {v : V} : ∀ {o : Option Dm}, ParAt H v o → (∀ b xs, H b = some (.tup xs) → H' b = some (.tup xs)) → ParAt H' v o
  | none, h, _ => h
  | some _, h, k => DmAt.keep h k
abbrev Bef (H : Hp) (kvs : List (List Key × V)) (B : List En) : Prop := Paired (fun e x => e.1 = dmK x.d ∧ ParAt H e.2 x.p) kvs B
theorem Bef.keep {H H' : Hp} {kvs : List (List Key × V)} {B : List En} (h : Bef H kvs B) (k : ∀ b xs, H b = some (.tup xs) → H' b = some (.tup xs)) : Bef H' kvs B := paired_mono h fun _ _ z => ⟨z.1, z.2.keep k⟩
theorem Bef.val {H : Hp} {d : Dm} : ∀ {kvs : List (List Key × V)} {B : List En}, Bef H kvs B → (d ∉ keysE B ∧ valV kvs (dmK d) = none) ∨ ∃ x v, x ∈ B ∧ x.d = d ∧ valV kvs (dmK d) = some v ∧ ParAt H v x.p
  | _, _, .nil => .inl ⟨(fun h => nomatch h), rfl⟩
  | _, _, .cons (a := a) (b := b) h t => by
    obtain ⟨k, v⟩ := a
    obtain ⟨h1, h2⟩ := (show k = dmK b.d ∧ ParAt H v b.p from h)
    subst h1
    by_cases e : b.d = d
    · exact .inr ⟨b, v, List.mem_cons_self, e, valV_pos (by rw [e]), h2⟩
    · have ne : ¬ dmK b.d = dmK d := fun q => e (dmK_inj q)
      rcases Bef.val t with ⟨n1, n2⟩ | ⟨x, v', m, q1, q2, q3⟩
      · refine .inl ⟨fun q => ?_, by rw [valV_neg ne]; exact n2⟩
        rcases List.mem_cons.mp q with q | q
        · exact e q.symm
        · exact n1 q
      · exact .inr ⟨x, v', List.mem_cons_of_mem _ m, q1, by rw [valV_neg ne]; exact q2, q3⟩
theorem Bef.some_ {H : Hp} {d : Dm} {kvs : List (List Key × V)} {B : List En} (h : Bef H kvs B) : (valV kvs (dmK d)).isSome = decide (d ∈ keysE B) := by
  rcases h.val (d := d) with ⟨n1, n2⟩ | ⟨x, v', m, q1, q2, _⟩
  · rw [n2, decF n1]; rfl
  · rw [q2, decT (show d ∈ keysE B from List.mem_map.mpr ⟨x, m, q1⟩)]; rfl
theorem Bef.keys {H : Hp} : ∀ {kvs : List (List Key × V)} {B : List En}, Bef H kvs B → kvs.map (·.1) = (keysE B).map dmK
  | _, _, .nil => rfl
  | _, _, .cons h t => by
    rw [List.map_cons, Bef.keys t]
    show _ :: _ = dmK _ :: _
    rw [h.1]
    rfl
theorem Bef.put {H : Hp} {kvs : List (List Key × V)} {B : List En} {x : En} {v : V} (h : Bef H kvs B) (n : x.d ∉ keysE B) (hv : ParAt H v x.p) : Bef H (putK kvs (dmK x.d) v) (B ++ [x]) := by
  rw [putK_app]
  · exact h.snoc ⟨rfl, hv⟩
  · rw [h.keys]
    intro q
    obtain ⟨y, hy, e⟩ := List.mem_map.mp q
    exact n (dmK_inj e ▸ hy)
theorem keys_at {H : Hp} {vs : List V} {B : List En} (h : Paired (DmAt H) vs (keysE B)) {i : Nat} {x : En} (e : B[i]? = some x) : ∃ v, vs[i]? = some v ∧ DmAt H v x.d := by
  have hl : i < vs.length := by
    have := (List.getElem?_eq_some_iff.mp e).1
    rw [h.length]
    simpa [keysE] using this
  have ev : vs[i]? = some vs[i] := List.getElem?_eq_getElem hl
  obtain ⟨d, hd, q⟩ := LiI.paired_get h ev
  unfold keysE at hd
  rw [List.getElem?_map, e] at hd
  cases hd
  exact ⟨_, ev, q⟩
theorem isKeys_bef {H H' : Hp} {kvs : List (List Key × V)} {B : List En} {bs : List Addr} (hb : Bef H' kvs B) (h : IsKeys H kvs bs) : Paired (DmAt H) (bs.map V.ref) (keysE B) := by
  unfold IsKeys at h
  induction hb generalizing bs with
  | nil => cases h; exact .nil
  | @cons a b as bs' q t ih =>
    cases h with
    | @cons _ y _ ys q2 t2 =>
      refine .cons ⟨y, rfl, ?_⟩ (ih t2)
      have : a.1.map kV = dmV b.d := by rw [q.1]; rfl
      first
        | exact this ▸ q2
        | (rw [← this]; exact q2)
theorem ok_searched (T : Txt K mg) : FnOk P w K mg base CX0 6 T.d_searched.f T.d_searched.fd ["catalog", "starts"] (fun vs H Q _ => ∃ (ad : Ad) (rn : Nat) (c : Cat) (p : Addr), vs = [.ref (ad .cp), .ref p] ∧ Rd0 T H ad rn c ∧ DmsAt H p c.starts ∧
    ∀ H' d kvs N, Sm H H' → H d = none → H' d = some (.dT kvs) → Bef H' kvs (runB c N) → (runB c N).length ≤ N → Q (.ref d) H') := by
  have nd := sc_searched.nd
  refine T.d_searched.F.ok sc_searched (fun vs H Q E h => ?_) (fun cdv A outer s H vs Q E hr h => ?_)
  · obtain ⟨ad, rn, c, m, rfl, _⟩ := h; rfl
  · obtain ⟨ad, rn, c, p, rfl, h, ⟨sv, hsp, hsd⟩, q⟩ := h
    have hu := hu_of hr
    have hs : sizeLine = 16777216 := sizeLine_eq
    have hul := univ_len h.wf
    have hlen : ∀ i, (runB c i).length ≤ 5000 := fun i => Nat.le_trans (srch_len (srch_run h.wf i)) hul
    refine ⟨_, (pss_cons (ps_setDg (i := 2) (own := [("demand", 5)]) (tt := tYes) (g := (gName 5)) (.dT []) (.inr rfl) hu rfl nd rfl rfl (sw_trueD rfl rfl rfl (by decide +kernel)) (pi_list (pv 1)) (blkOk_by (N := N_searched) (sc := defScope s_searched) (by decide +kernel)) (fun _ _ _ _ _ => (pg_name (i := 5) nd rfl (.inl rfl))) (fun _ _ _ _ _ => pts_nil) (fun _ _ _ _ _ => (pv 5)) (fun _ _ _ _ _ => pe_non))
      (pss_cons (ps_set (i := 3) nd rfl (.inl rfl) (pe_callTy (T := "list") (call_list_dT rfl) (by rfl) T.b_list (by decide +kernel) (pa_cons (pv 2) pa_nil)))
      (pss_cons (ps_set (i := 4) nd rfl (.inl rfl) pe_int)
      (pss_cons (ps_while PassesOwn.never (pt_cmpR op_lt (pv 4) (pe_callB (r := rLenS K) (id := "len") call_lenS (by rfl) T.b_len (by decide +kernel) (pa_cons (pv 3) pa_nil)) (nomark _))
      (pss_cons (ps_set (i := 5) nd rfl (.inl rfl) (pe_ix (r := rIxL K) ix_list (pv 3) (pv 4) (fun _ _ => rfl)))
      (pss_cons (ps_aug (i := 4) nd rfl (.inl rfl) pe_int ip_add)
      (pss_cons (ps_asg (pv 5) (pg_tup rfl (pgs_cons (pg_name (i := 6) nd rfl (.inl rfl)) (pgs_cons (pg_name (i := 7) nd rfl (.inl rfl)) pgs_nil))))
      (pss_cons (ps_set (i := 8) nd rfl (.inl rfl) (pcall (ok_settled_version T) T.d_settled_version.M (hr.mono (by decide)) (pa_cons (pv 0) (pa_cons (pv 6) (pa_cons (pv 7) pa_nil)))))
      (pss_cons (ps_set (i := 9) nd rfl (.inl rfl) (pe_ifExp (pt_cmp (pc_isN (pv 8))) (pe_lst pa_nil) (pcall (ok_demands_of_version T) T.d_demands_of_version.M (hr.mono (by decide)) (pa_cons (pv 0) (pa_cons (pv 6) (pa_cons (pv 8) pa_nil))))))
      (pss_one (ps_for PassesOwn.never rfl (pi_list (pv 9)) (pg_name (i := 10) nd rfl (.inl rfl))
      (pss_one (ps_if (pt_cmp (pc_dnotin hu (pv 10) (pv 2))) (pss_cons (ps_dput hu (pv 2) (pv 10) (pv 5) rfl)
      (pss_one (ps_expr (pe_bm PySem.F.plainAttrs_list PySem.F.slot_list_append PySem.F.type_list_append mt_append (pv 3) (pa_cons (pv 10) pa_nil))))) pss_nil))))))))))
      (pss_one (ps_ret (pv 2))))))), ?_⟩
    refine ⟨_, rfl, p, rfl, ⟨_, SqL.of hsp⟩, fun D nD => ?_⟩
    have wk := walk_list (K := K) (a := p) (xs := sv)
    refine dg_it wk (fun i H' => Sm H H' ∧ ∃ kvs, H' D = some (.dT kvs) ∧ Bef H' kvs ((start c).take i)) ⟨Sm.rf.up nD, [], upd_same, .nil⟩ (fun i H' _ p => SqL.of (p.1 _ _ hsp)) (fun i x H2 H3 hi p y => ?_) (fun H2 p => ?_)
    · obtain ⟨s2, kvs, hD, hB⟩ := p
      obtain ⟨rfl, hx⟩ := y
      obtain ⟨d, hd, a, rfl, ha⟩ := LiI.paired_get hsd hx
      have hd' : (start c)[i]? = some ⟨d, none, 1⟩ := by unfold start; rw [List.getElem?_map, hd]; rfl
      have hkl : kvs.length < sizeLine := by
        have := hB.length
        have h5 := hlen 0
        unfold runB at h5
        rw [List.length_take] at this
        omega
      refine ⟨rfl, _, rfl, _, DPut.t (k := dmK d) hD (s2 _ _ ha) hkl, s2.set nD, _, upd_same, ?_⟩
      rw [take_snoc hd']
      have kp : ∀ b xs, H3 b = some (.tup xs) → (upd H3 D (.dT (putK kvs (dmK d) .non))) b = some (.tup xs) := fun b xs e => by
        rw [upd_ne (ne_of hD e (by intro z; cases z)).symm]
        exact e
      refine Bef.put (hB.keep kp) (x := ⟨d, none, 1⟩) ?_ rfl
      intro hm
      have hn : (keysE (start c)).Nodup := by rw [keysE_start]; exact starts_nodup h.wf
      have e2 : keysE (start c) = keysE ((start c).take i) ++ keysE ((start c).drop i) := by rw [← keysE_app, List.take_append_drop]
      rw [e2] at hn
      refine (List.nodup_append.mp hn).2.2 d hm d ?_ rfl
      unfold keysE
      refine List.mem_map.mpr ⟨⟨d, none, 1⟩, ?_, rfl⟩
      have hi' := (List.getElem?_eq_some_iff.mp hd').1
      have e3 : ((start c).drop i)[0]? = some ⟨d, none, 1⟩ := by rw [List.getElem?_drop]; exact hd'
      exact List.mem_of_getElem? e3
    · obtain ⟨s2, kvs, hD, hB⟩ := p
      have el : sv.length = (start c).length := by rw [hsd.length]; unfold start; rw [List.length_map]
      rw [el, List.take_length] at hB
      refine ⟨_, rfl, D, _, rfl, .inl hD, fun L bs nL hk => ?_⟩
      have s3 : Sm H2 (upd H2 L (.lst (bs.map V.ref))) := Sm.rf.up nL
      have nL0 : H L = none := s2.un nL
      have hB3 := Bef.keep hB fun b xs e => s3 _ _ e
      have hW3 := paired_mono (isKeys_bef hB hk) fun _ _ z => DmAt.sm z s3
      let Wd : Nat → L2.St → Hp → Prop := fun i σ H' => i ≤ (runB c i).length ∧ ∃ (kvs : List (List Key × V)) (ws : List V), Sm H H' ∧ H' D = some (.dT kvs) ∧ H' L = some (.lst ws) ∧ Bef H' kvs (runB c i) ∧ Paired (DmAt H') ws (keysE (runB c i)) ∧ ∃ x5 x6 x7 x8 x9 x10, σ = [some (.ref (ad .cp)), some (.ref p), some (.ref D), some (.ref L), some (.int (i : Nat)), x5, x6, x7, x8, x9, x10]
      refine ⟨fun m σ H' => ∃ i : Nat, m = 5001 - i ∧ Wd i σ H', ⟨_, 0, rfl, Nat.zero_le _, kvs, _, s2.tr s3, s3 _ _ hD, upd_same, hB3, hW3, _, _, _, _, _, _, rfl⟩, ?_⟩
      rintro m σ H4 ⟨i, rfl, hil, kvs, ws, s4, hD, hL, hB, hW, x5, x6, x7, x8, x9, x10, rfl⟩
      have hwl : ws.length = (runB c i).length := by rw [hW.length]; unfold keysE; rw [List.length_map]
      refine ⟨_, rfl, _, rfl, _, _, rfl, .inl (SqL.of hL), _, _, rfl, rfl, _, rfl, ?_⟩
      by_cases hlt : i < (runB c i).length
      · refine ifT (decT (by omega)) ?_
        obtain ⟨x, ex⟩ : ∃ x, (runB c i)[i]? = some x := ⟨_, List.getElem?_eq_getElem hlt⟩
        obtain ⟨v, ev, a, rfl, ha⟩ := keys_at hW ex
        have hrn : runB c (i + 1) = expand x (runB c i) (c.next x.d) := by
          show (match (runB c i)[i]? with | none => runB c i | some x => expand x (runB c i) (c.next x.d)) = _
          rw [ex]
        have hxm := (srch_run h.wf i).mods x (List.mem_of_getElem? ex)
        have h4 := h.sm s4
        have hil2 : i + 1 ≤ (runB c (i + 1)).length := by
          rw [hrn]
          obtain ⟨_, pf, _⟩ := mid_all h.wf (c.next x.d) ⟨srch_run h.wf i, ex⟩ fun o ho => ho
          have := pf.length_le
          omega
        refine ⟨Wd (i + 1), fun σ' H' z => ⟨_, (by have := hlen i; omega), i + 1, rfl, z⟩, ?_⟩
        refine ⟨_, rfl, _, rfl, L, ws, (i : Int), _, rfl, rfl, SqL.of hL, (by rw [atI_nat]; exact ev), ?_⟩
        refine ⟨_, rfl, _, _, rfl, rfl, ?_⟩
        refine ⟨_, rfl, a, _, rfl, SqT.of ha, rfl, _, _, rfl, _, _, rfl, rfl, ?_⟩
        refine ⟨_, rfl, _, rfl, _, rfl, ad, rn, c, x.d.1, x.d.2, rfl, h4, hxm, fun H5 s5 => ?_⟩
        have fo : ∀ (k : VK), (∀ H6 f, Sm H5 H6 → H5 f = none → DmsAt H6 f (c.next x.d) → k (.ref f) H6) → tIf (tB (tIsN (tVar 8))) (tLst tNil) (tCall (fun vs H Q _ => ∃ (ad : Ad) (rn : Nat) (c : Cat) (m : Nm) (v : Int), vs = [.ref (ad .cp), .str m, .int v] ∧ Rd0 T H ad rn c ∧ m ∈ c.mods ∧ 0 ≤ v ∧ v < (c.cnt m : Nat) ∧ ∀ H' p, Sm H H' → H p = none → DmsAt H' p (c.foll m v) → Q (.ref p) H') [] E0 (tCons (tVar 0) (tCons (tVar 6) (tCons (tVar 8) tNil)))) [some (.ref (ad .cp)), some (.ref p), some (.ref D), some (.ref L), some (.int ((i : Int) + 1)), some (.ref a), some (.str x.d.1), some (.int x.d.2), some (hiV (c.settle x.d)), x9, x10] H5 k := by
          intro k hk
          unfold Cat.next at hk
          cases es : c.settle x.d with
          | none =>
            rw [es] at hk
            refine ⟨_, rfl, _, rfl, ifT rfl ⟨(by show 0 ≤ sizeLine; omega), fun f nf => hk _ _ (Sm.rf.up nf) nf ⟨[], upd_same, .nil⟩⟩⟩
          | some v =>
            rw [es] at hk
            have hv := Cat.mem_there.mp (Cat.settle_some es).1
            refine ⟨_, rfl, _, rfl, ifF rfl ⟨_, rfl, _, rfl, _, rfl, ad, rn, c, x.d.1, v, rfl, h4.sm s5, hxm, hv.1.1, hv.1.2, fun H' f s6 nf hd => hk _ _ s6 nf hd⟩⟩
        refine fo _ fun H6 f s6 nf hf => ?_
        obtain ⟨fs, hf, hfp⟩ := hf
        have s7 := s5.tr s6
        have nf4 : H4 f = none := s5.un nf
        have nfD : f ≠ D := (ne_of_none hD nf4).symm
        have nfL : f ≠ L := (ne_of_none hL nf4).symm
        have nDL : D ≠ L := ne_of hD hL (by intro z; cases z)
        have lk := walk_list (K := K) (a := f) (xs := fs)
        have elf : fs.length = (c.next x.d).length := hfp.length
        have m0 : Mid c i x (runB c i) := ⟨srch_run h.wf i, ex⟩
        refine ⟨_, rfl, f, rfl, ⟨_, SqL.of hf⟩, ?_⟩
        refine for_it lk (fun j σ H' => Sm H H' ∧ H' f = some (.lst fs) ∧ H' a = some (.tup (dmV x.d)) ∧ Paired (DmAt H') fs (c.next x.d) ∧ (∃ y, σ = [some (.ref (ad .cp)), some (.ref p), some (.ref D), some (.ref L), some (.int ((i : Int) + 1)), some (.ref a), some (.str x.d.1), some (.int x.d.2), some (hiV (c.settle x.d)), some (.ref f), y]) ∧ ∃ (kvs : List (List Key × V)) (ws : List V), H' D = some (.dT kvs) ∧ H' L = some (.lst ws) ∧ Bef H' kvs (expand x (runB c i) ((c.next x.d).take j)) ∧ Paired (DmAt H') ws (keysE (expand x (runB c i) ((c.next x.d).take j)))) ?_ (fun _ _ _ _ p => SqL.of p.2.1) (fun j y σ H8 H9 hj p yy => ?_) (fun σ H8 p => ?_)
        · exact ⟨s4.tr s7, hf, s7 _ _ ha, hfp, ⟨_, rfl⟩, kvs, ws, s7 _ _ hD, s7 _ _ hL, hB.keep fun _ _ e => s7 _ _ e, paired_mono hW fun _ _ z => z.sm s7⟩
        · obtain ⟨s8, hf8, ha8, hfp8, ⟨y0, rfl⟩, kvs, ws, hD, hL, hB, hW⟩ := p
          obtain ⟨rfl, hx⟩ := yy
          obtain ⟨o, ho, b, rfl, hb⟩ := LiI.paired_get hfp8 hx
          have hoin := List.mem_of_getElem? ho
          have mj := (mid_all h.wf ((c.next x.d).take j) m0 fun o ho => List.mem_of_mem_take ho).1
          have hbl : (expand x (runB c i) ((c.next x.d).take j)).length ≤ 5000 := Nat.le_trans (srch_len mj.toSrch) hul
          have hwl : ws.length = (expand x (runB c i) ((c.next x.d).take j)).length := by rw [hW.length]; unfold keysE; rw [List.length_map]
          have hkl : kvs.length = (expand x (runB c i) ((c.next x.d).take j)).length := hB.length
          have et : expand x (runB c i) ((c.next x.d).take (j + 1)) = addE x (expand x (runB c i) ((c.next x.d).take j)) o := by
            rw [take_snoc ho]
            unfold expand
            rw [List.foldl_append]
            rfl
          rw [et]
          generalize expand x (runB c i) ((c.next x.d).take j) = B at *
          refine ⟨_, rfl, _, rfl, D, _, rfl, DGet.t (k := dmK o) hD hb, _, rfl, ?_⟩
          rw [hB.some_]
          unfold addE
          by_cases hin : o ∈ keysE B
          · refine ifF (by rw [decT hin]; rfl) ?_
            rw [if_pos hin]
            exact ⟨s8, hf8, ha8, hfp8, ⟨_, rfl⟩, kvs, ws, hD, hL, hB, hW⟩
          · refine ifT (by rw [decF hin]; rfl) ?_
            rw [if_neg hin]
            refine ⟨_, rfl, _, rfl, _, rfl, D, _, rfl, DPut.t (k := dmK o) hD hb (by omega), ?_⟩
            have hL2 : (upd H9 D (.dT (putK kvs (dmK o) (.ref a)))) L = some (.lst ws) := by rw [upd_ne nDL.symm]; exact hL
            have kp1 : ∀ z xs, H9 z = some (.tup xs) → (upd H9 D (.dT (putK kvs (dmK o) (.ref a)))) z = some (.tup xs) := fun z xs e => by
              rw [upd_ne (ne_of hD e (by intro z; cases z)).symm]
              exact e
            have kp : ∀ z xs, H9 z = some (.tup xs) → (upd (upd H9 D (.dT (putK kvs (dmK o) (.ref a)))) L (.lst (ws ++ [.ref b]))) z = some (.tup xs) := fun z xs e => by
              rw [upd_ne (ne_of hL e (by intro z; cases z)).symm]
              exact kp1 _ _ e
            refine ⟨_, rfl, .inl ⟨rfl, _, .inl (.inl hL2)⟩, _, rfl, L, ws, _, rfl, rfl, hL2, by omega, ?_⟩
            refine ⟨(s8.set nD).set nL0, ?_, kp _ _ ha8, paired_mono hfp8 fun _ _ z => z.keep kp, ⟨_, rfl⟩, _, _, ?_, upd_same, Bef.put (hB.keep kp) hin ⟨a, rfl, kp _ _ ha8⟩, ?_⟩
            · rw [upd_ne nfL, upd_ne nfD]
              exact hf8
            · rw [upd_ne nDL]
              exact upd_same
            · rw [keysE_app]
              exact (paired_mono hW fun _ _ z => z.keep kp).snoc ⟨b, rfl, kp _ _ hb⟩
        · obtain ⟨s8, hf8, ha8, hfp8, ⟨y0, rfl⟩, kvs, ws, hD, hL, hB, hW⟩ := p
          rw [elf, List.take_length] at hB hW
          rw [← hrn] at hB hW
          exact ⟨hil2, kvs, ws, s8, hD, hL, hB, hW, _, _, _, _, _, _, rfl⟩
      · refine ifF (decF (by omega)) ?_
        refine ⟨_, rfl, q _ _ _ i s4 nD hD hB (by omega)⟩
end
end Gs
/-! ## GsD9 -/
namespace Gs
open PySem PySem.Spec PyProof.Rows L2
section
variable {P : Program} {w : World} {K : PySem.W.Frag} {mg : Str → Option Value} {base : Heap}
/-- the entries from one up to a start -/
inductive Up (B : List En) : Option Dm → List Dm → Prop
  | nil : Up B none []
  | cons {x : En} {l : List Dm} : x ∈ B → Up B x.p l → Up B (some x.d) (x.d :: l)
theorem up_ex {c : Cat} {i : Nat} {B : List En} (s : Srch c i B) : ∀ (j : Nat) (x : En), B[j]? = some x → ∃ L, Up B (some x.d) L ∧ (L.length : Nat) = x.n ∧ L.length ≤ j + 1 := by
  intro j
  induction j using Nat.strongRecOn with
  | _ j ih =>
    intro x hj
    have hx := List.mem_of_getElem? hj
    rcases s.par j x hj with ⟨h1, _, h3⟩ | ⟨k, y, hk, hy, h1, h3, _⟩
    · refine ⟨[x.d], .cons hx (by rw [h1]; exact .nil), ?_, ?_⟩
      · rw [h3]; rfl
      · simp
    · obtain ⟨L, u, l1, l2⟩ := ih k hk y hy
      refine ⟨x.d :: L, .cons hx (by rw [h1]; exact u), ?_, ?_⟩
      · rw [List.length_cons, l1, h3]
      · rw [List.length_cons]; omega
theorem inj_en {B : List En} (h : (keysE B).Nodup) {x y : En} (hx : x ∈ B) (hy : y ∈ B) (e : x.d = y.d) : x = y := by
  induction B with
  | nil => cases hx
  | cons b B ih =>
    have hn := List.nodup_cons.mp (show (b.d :: keysE B).Nodup from h)
    have no : ∀ z ∈ B, z.d ≠ b.d := fun z hz q => hn.1 (List.mem_map.mpr ⟨z, hz, q⟩)
    rcases List.mem_cons.mp hx with e1 | hx
    · rcases List.mem_cons.mp hy with e2 | hy
      · rw [e1, e2]
      · exact absurd (by rw [← e, e1]) (no y hy)
    · rcases List.mem_cons.mp hy with e2 | hy
      · exact absurd (by rw [e, e2]) (no x hx)
      · exact ih hn.2 hx hy
theorem paired_rev {α β : Type} {R : α → β → Prop} : ∀ {l : List α} {m : List β}, Paired R l m → Paired R l.reverse m.reverse
  | _, _, .nil => .nil
  | _, _, .cons h t => by
    rw [List.reverse_cons, List.reverse_cons]
    exact (paired_rev t).snoc h
theorem ok_chain_to (T : Txt K mg) : FnOk P w K mg base CX0 1 T.d_chain_to.f T.d_chain_to.fd ["before", "demand"] (fun vs H Q _ => ∃ (d a : Addr) (kvs : List (List Key × V)) (B : List En) (x : Dm) (L : List Dm), vs = [.ref d, .ref a] ∧ Rd H d (.dT kvs) ∧ Bef H kvs B ∧ (keysE B).Nodup ∧ DmAt H (.ref a) x ∧ Up B (some x) L ∧ L.length ≤ 10000 ∧
    ∀ H' p, Sm H H' → H p = none → DmsAt H' p L.reverse → Q (.ref p) H') := by
  have nd := sc_chain_to.nd
  refine T.d_chain_to.F.ok sc_chain_to (fun vs H Q E h => ?_) (fun cdv A outer s H vs Q E hr h => ?_)
  · obtain ⟨d, a, kvs, B, x, L, rfl, _⟩ := h; rfl
  · obtain ⟨d, a, kvs, B, x, L, rfl, hd, hB, hn, ha, hU, hL, q⟩ := h
    have hu := hu_of hr
    have hs : sizeLine = 16777216 := sizeLine_eq
    refine ⟨_, (pss_cons (ps_set (i := 2) nd rfl (.inl rfl) (pe_lst pa_nil))
      (pss_cons (ps_while PassesOwn.never (pt_cmp (pc_notN (pv 1)))
      (pss_cons (ps_expr (pe_bm PySem.F.plainAttrs_list PySem.F.slot_list_append PySem.F.type_list_append mt_append (pv 2) (pa_cons (pv 1) pa_nil)))
      (pss_one (ps_set (i := 1) nd rfl (.inl rfl) (pe_dget hu (pv 0) (pv 1) (fun _ _ => rfl))))))
      (pss_one (ps_ret (pe_revL (pv 2)))))), ?_⟩
    refine ⟨(by show 0 ≤ sizeLine; omega), fun F nF => ?_⟩
    refine ⟨fun m σ H' => ∃ (l0 l : List Dm) (o : Option Dm) (v : V) (vs : List V), m = l.length ∧ L = l0 ++ l ∧ Up B o l ∧ Sm H H' ∧ H' F = some (.lst vs) ∧ Paired (DmAt H') vs l0 ∧ ParAt H' v o ∧ σ = [some (.ref d), some v, some (.ref F)], ⟨_, [], L, some x, .ref a, [], rfl, rfl, hU, Sm.rf.up nF, upd_same, .nil, DmAt.sm ha (Sm.rf.up nF), rfl⟩, ?_⟩
    rintro m σ H2 ⟨l0, l, o, v, vs, rfl, hLe, hUl, s2, hF, hP, hv, rfl⟩
    refine ⟨_, rfl, _, rfl, ?_⟩
    cases hUl with
    | nil =>
      have hv : v = .non := hv
      subst hv
      refine ifF rfl ⟨_, rfl, F, vs, rfl, SqL.of hF, fun p np => ?_⟩
      have s3 : Sm H (upd H2 p (.lst vs.reverse)) := s2.up np
      rw [List.append_nil] at hLe
      subst hLe
      exact q _ p s3 (s2.un np) ⟨_, upd_same, paired_rev (paired_mono hP fun _ _ z => z.sm (Sm.rf.up np))⟩
    | @cons y l hy hUy =>
      obtain ⟨b, rfl, hb⟩ := hv
      have hlv : vs.length ≤ 10000 := by
        rw [hP.length]
        rw [hLe, List.length_append] at hL
        omega
      have nFd : d ≠ F := fun e => by
        subst e
        rcases hd with z | ⟨_, z⟩ <;> rw [nF] at z <;> cases z
      have kp : ∀ z xs, H2 z = some (.tup xs) → (upd H2 F (.lst (vs ++ [.ref b]))) z = some (.tup xs) := fun z xs e => by
        rw [upd_ne (ne_of hF e (by intro z; cases z)).symm]
        exact e
      refine ifT rfl ⟨fun σ' H' => ∃ m', m' < (y.d :: l).length ∧ (∃ (l0 l' : List Dm) (o : Option Dm) (v : V) (vs : List V), m' = l'.length ∧ L = l0 ++ l' ∧ Up B o l' ∧ Sm H H' ∧ H' F = some (.lst vs) ∧ Paired (DmAt H') vs l0 ∧ ParAt H' v o ∧ σ' = [some (.ref d), some v, some (.ref F)]), fun σ' H' z => z, ?_⟩
      refine ⟨_, rfl, .inl ⟨rfl, _, .inl (.inl hF)⟩, _, rfl, F, vs, _, rfl, rfl, hF, by omega, ?_⟩
      have s3 : Sm H (upd H2 F (.lst (vs ++ [.ref b]))) := s2.set nF
      have hB3 := Bef.keep hB fun z xs e => s3 z _ e
      have hd3 : Rd (upd H2 F (.lst (vs ++ [.ref b]))) d (.dT kvs) := by
        rcases hd with z | ⟨o, z⟩
        · exact .inl (s3 _ _ z)
        · exact .inr ⟨o, s3 _ _ z⟩
      rcases hB3.val (d := y.d) with ⟨n1, _⟩ | ⟨x2, v2, m2, e2, q2, q3⟩
      · exact absurd (show y.d ∈ keysE B from List.mem_map.mpr ⟨y, hy, rfl⟩) n1
      · have e3 := inj_en hn m2 hy e2
        subst e3
        refine ⟨_, rfl, _, rfl, d, v2, rfl, .inr ⟨kvs, dmK x2.d, b, hd3, rfl, kp _ _ hb, q2.symm⟩, ?_⟩
        refine ⟨l.length, by rw [List.length_cons]; omega, l0 ++ [x2.d], l, x2.p, v2, _, rfl, by rw [hLe, List.append_assoc]; rfl, hUy, s3, upd_same, (paired_mono hP fun _ _ z => z.keep kp).snoc ⟨b, rfl, kp _ _ hb⟩, q3, rfl⟩
theorem find_at {α : Type} {P : α → Bool} : ∀ {l : List α} {i : Nat} {a : α}, l[i]? = some a → P a = true → (∀ j b, j < i → l[j]? = some b → P b = false) → l.find? P = some a
  | [], i, a, h, _, _ => by cases h
  | b :: l, 0, a, h, r, _ => by
    cases h
    rw [List.find?_cons, r]
  | b :: l, i + 1, a, h, r, no => by
    rw [List.find?_cons, no 0 b (Nat.succ_pos i) rfl]
    exact find_at (l := l) (i := i) h r fun j x hj hx => no (j + 1) x (by omega) hx
theorem find_no {α : Type} {P : α → Bool} {l : List α} (no : ∀ (j : Nat) b, l[j]? = some b → P b = false) : l.find? P = none := by
  rw [List.find?_eq_none]
  intro x hx
  obtain ⟨j, hj⟩ := List.getElem?_of_mem hx
  rw [no j x hj]
  exact Bool.false_ne_true
/-- new since H, but for code tables -/
def Nw (H : Hp) (p : Addr) : Prop := ∀ o, H p = some o → ∃ ps, o = HO.tbl ps
theorem Nw.of {H : Hp} {p : Addr} (h : H p = none) : Nw H p := fun o e => by rw [h] at e; cases e
theorem Nw.ne {H : Hp} {p b : Addr} {o : HO} (h : Nw H p) (e : H b = some o) (n : ∀ ps, o ≠ .tbl ps) : b ≠ p := fun q => by
  subst q
  obtain ⟨ps, z⟩ := h _ e
  exact n ps z
theorem Nw.back {H H1 : Hp} {p : Addr} (k : Kc H H1) (h : Nw H1 p) : Nw H p := fun o e => by
  refine Classical.byContradiction fun n => ?_
  have n : ∀ ps, o ≠ HO.tbl ps := fun ps z => n ⟨ps, z⟩
  exact h.ne (k _ _ e n) n rfl
def failP (c : Cat) (x : En) : Bool := (c.settle x.d).isNone
/-- what the search for a failing demand answers -/
def FoundAt (H0 H : Hp) (c : Cat) (v : V) (B : List En) : Prop := match B.find? (failP c) with
  | none => v = .non
  | some x => ∃ p L, v = .ref p ∧ Nw H0 p ∧ DmsAt H p L.reverse ∧ Up B (some x.d) L ∧ L.length ≤ 10000
def TTsc (T : Txt K mg) : (V → Hp → VK → Prop) → V → V → Hp → VK → Prop := fun tl v1 v2 H Q => ∃ (ad : Ad) (rn : Nat) (c : Cat) (p : Addr), v1 = .ref (ad .cp) ∧ v2 = .ref p ∧ Rd0 T H ad rn c ∧ DmsAt H p c.starts ∧
    (∀ (H' : Hp) (a : Addr) (x : Dm) (k : VK), Sm H H' → DmAt H' (.ref a) x → x.1 ∈ c.mods → (∀ H'', Sm H' H'' → k (.bl (c.settle x).isNone) H'') → tl (.ref a) H' k) ∧
    ∀ H' v N, Sm H H' → (runB c N).length ≤ N → FoundAt H H' c v (runB c N) → Q v H'
theorem gives_sc (T : Txt K mg) {cdv : Value} {A : Around} {outer : List Env} {s : Shared} {H : Hp} {E : XK} {N0 : List Str} {qual q : Str} {scope : Scope} {f : Addr} (g : Addr) (cdg : Value) : GivesTo3 (cxOf CX0 P w K mg base N0 qual scope f cdv A outer s H E).nox N_shortest_chain "shortest_chain" (defScope s_shortest_chain) g cdg (defBody s_shortest_chain) "is_goal" q 5 (TTsc T) := by
  intro f c' s H Q v1 v2 tl hr act hco h
  obtain ⟨ad, rn, c, p, rfl, rfl, h, hp, ht, q⟩ := h
  have nd := sc_shortest_chain.nd
  have hu := hu_of hr
  refine ⟨_, (pss_cons (ps_set (i := 3) nd rfl (.inl rfl) (pcall (ok_searched T) T.d_searched.M (hr.mono (by decide)) (pa_cons (pv 0) (pa_cons (pv 1) pa_nil))))
      (pss_cons (ps_lock (ps_for PassesOwn.never rfl (pi_keys (pv 3)) (pg_name (i := 4) nd rfl (.inl rfl))
      (pss_one (ps_if (pt_val (act _ _ _ _ (pa_cons (pv 4) pa_nil) rfl)) (pss_one (ps_ret (pcall (ok_chain_to T) T.d_chain_to.M (hr.mono (by decide)) (pa_cons (pv 3) (pa_cons (pv 4) pa_nil))))) pss_nil))))
      (pss_one (ps_ret pe_non)))), ?_⟩
  refine ⟨_, rfl, _, rfl, ad, rn, c, p, rfl, h, hp, fun H1 d kvs N s1 nd1 hd hB hN => ?_⟩
  have sr := srch_run h.wf N
  have hul := univ_len h.wf
  have hlen := srch_len sr
  refine ⟨d, _, hd, trivial, fun od => ?_⟩
  have s2 : Sm H (upd H1 d (.frz od (.dT kvs))) := s1.set nd1
  have kp2 : ∀ b xs, H1 b = some (.tup xs) → (upd H1 d (.frz od (.dT kvs))) b = some (.tup xs) := fun b xs e => by
    rw [upd_ne (ne_of hd e (by intro z; cases z)).symm]
    exact e
  have hB2 := hB.keep kp2
  refine ⟨_, rfl, d, od, rfl, .inr ⟨kvs, upd_same, ?_⟩⟩
  have wk := walk_keysT (d := d) (o := od) (kvs := kvs)
  refine for_it wk (fun i σ H' => Sm (upd H1 d (.frz od (.dT kvs))) H' ∧ (∃ y, σ = [some (.ref (ad .cp)), some (.ref p), some (.ref f), some (.ref d), y]) ∧ ∀ (j : Nat) (b : En), j < i → (runB c N)[j]? = some b → failP c b = false) ⟨Sm.rf, ⟨_, rfl⟩, fun j b hj => absurd hj (Nat.not_lt_zero j)⟩ (fun i σ H' _ p => p.1 _ _ upd_same) (fun i x σ H3 H4 hi p y => ?_) (fun σ H3 p => ?_)
  · obtain ⟨s3, ⟨y0, rfl⟩, no⟩ := p
    obtain ⟨rfl, k, v, qa, hk, rfl, hqa⟩ := y
    obtain ⟨x, hx, hx1, hx2⟩ := LiI.paired_get hB2 hk
    have hx1 : k = dmK x.d := hx1
    subst hx1
    have hxm := List.mem_of_getElem? hx
    have dm : DmAt H4 (.ref qa) x.d := ⟨qa, rfl, hqa⟩
    refine ⟨rfl, _, rfl, _, rfl, (s2.tr s3) _ _ hco, ?_⟩
    refine ht H4 qa x.d _ (s2.tr s3) dm (sr.mods x hxm) fun H5 s5 => ⟨_, rfl, ?_⟩
    cases e : (c.settle x.d).isNone with
    | true =>
      refine ifT rfl ?_
      obtain ⟨L, hL, hL1, hL2⟩ := up_ex sr i x hx
      have hi2 := (List.getElem?_eq_some_iff.mp hx).1
      have hL3 : L.length ≤ 10000 := by omega
      refine ⟨_, rfl, _, rfl, d, qa, kvs, runB c N, x.d, L, rfl, .inr ⟨od, s5 _ _ (s3 _ _ upd_same)⟩, hB2.keep fun b xs z => s5 _ _ (s3 _ _ z), sr.nd, dm.sm s5, hL, hL3, fun H6 p6 s6 np6 hp6 => ?_⟩
      have sA := (s2.tr s3).tr (s5.tr s6)
      have np5 : H p6 = none := ((s2.tr s3).tr s5).un np6
      have hd6 : H6 d = some (.frz od (.dT kvs)) := s6 _ _ (s5 _ _ (s3 _ _ upd_same))
      refine ⟨hd6, ?_⟩
      refine q _ _ N (sA.set nd1) (by assumption) ?_
      unfold FoundAt
      rw [find_at (P := failP c) hx e no]
      obtain ⟨vs, e6, r6⟩ := hp6
      refine ⟨p6, L, rfl, .of np5, ⟨vs, ?_, paired_mono r6 fun _ _ z => z.keep fun b xs e => ?_⟩, hL, hL3⟩
      · rw [upd_ne (ne_of hd6 e6 (by intro z; cases z)).symm]
        exact e6
      · rw [upd_ne (ne_of hd6 e (by intro z; cases z)).symm]
        exact e
    | false =>
      refine ifF rfl ⟨s3.tr s5, ⟨_, rfl⟩, fun j b hj hb => ?_⟩
      rcases Nat.lt_succ_iff_lt_or_eq.mp hj with hj | rfl
      · exact no j b hj hb
      · rw [hx] at hb
        cases hb
        exact e
  · obtain ⟨s3, ⟨y0, rfl⟩, no⟩ := p
    refine ⟨s3 _ _ upd_same, ?_⟩
    refine q _ _ N ((s2.tr s3).set nd1) hN ?_
    unfold FoundAt
    rw [find_no (P := failP c) fun j b hb => no j b (by have := (List.getElem?_eq_some_iff.mp hb).1; have := hB.length; omega) hb]
end
end Gs
/-! ## GsD10 -/
namespace Gs
open PySem PySem.Spec PyProof.Rows L2
section
variable {P : Program} {w : World} {K : PySem.W.Frag} {mg : Str → Option Value} {base : Heap}
/-- a def that makes a lambda: its code object is known -/
theorem okL {x qual : Str} {st : Stmt} {f c : Addr} {fd : FuncData} {N ps : List Str} {k : Nat} {sp : Sp} (F : Fun K x qual st f fd) (hc : fd.code = .ref c) (S : FnScope N ps (defScope st)) (len : ∀ vs H Q E, sp vs H Q E → vs.length = ps.length)
    (hbody : ∀ (A : Around) (outer : List Env) (s : Shared) (H : Hp) (vs : List V) (Q : VK) (E : XK), Room k (A.deeper (envOfC qual (defScope st) s.heap.objs.size f (.ref c))) → sp vs H Q E →
      ∃ t, PSs (cxOf CX0 P w K mg base N qual (defScope st) f (.ref c) A outer s H E).nox (defBody st) t ∧ t { nx := fun _ H' => Q .non H', rt := Q } (L2.start N vs) H) : FnOk P w K mg base CX0 (k + 1) f fd ps sp := by
  obtain ⟨oc, od, kV, doc, pm, an, cdv, ct, osl, rfl, lk, hcd⟩ := F.ex
  have e : cdv = .ref c := hc
  subst e
  refine fn_of lk hcd S len fun A outer s H vs Q E hr hsp => ?_
  obtain ⟨t, h, q⟩ := hbody A outer s H vs Q E hr hsp
  exact ⟨t, h.nox, q⟩
/-- the code objects of the two defs that make lambdas, their tables -/
structure Lx (T : Txt K mg) where
  cF : Addr
  pF : Addr
  hF : T.d_first_failing.fd.code = .ref cF
  cR : Addr
  pR : Addr
  hR : T.d_l_is_right.fd.code = .ref cR
  ne : pF ≠ pR
theorem Rd0.kc {T : Txt K mg} {H H' : Hp} {ad : Ad} {rn : Nat} {c : Cat} (h : Rd0 T H ad rn c) (k : Kc H H') : Rd0 T H' ad rn c := ⟨h.at_.kc k, h.wf, h.nm⟩
def Lx.T {T : Txt K mg} (l : Lx T) : List (Addr × Str) := [(l.pF, "first_failing.<locals>.<lambda>"), (l.pR, "_law_is_right.<locals>.<lambda>")]
theorem ok_first_failing (T : Txt K mg) (l : Lx T) (TB : LamX.TabB base mg l.cF l.pF) : FnOk P w K mg base CX0 8 T.d_first_failing.f T.d_first_failing.fd ["catalog", "starts"] (fun vs H Q _ => ∃ (ad : Ad) (rn : Nat) (c : Cat) (p : Addr), vs = [.ref (ad .cp), .ref p] ∧ Rd0 T H ad rn c ∧ DmsAt H p c.starts ∧ LamX.Tabs l.T H ∧
    ∀ H' v N, Kc H H' → LamX.Tabs l.T H' → (runB c N).length ≤ N → FoundAt H H' c v (runB c N) → Q v H') := by
  have nd := sc_first_failing.nd
  refine okL T.d_first_failing.F l.hF sc_first_failing (fun vs H Q E h => ?_) (fun A outer s H vs Q E hr h => ?_)
  · obtain ⟨ad, rn, c, p, rfl, _⟩ := h; rfl
  · obtain ⟨ad, rn, c, p, rfl, h, hp, ht, q⟩ := h
    obtain ⟨oc, od, kV, doc, pm, an, cdv, ct, osl, efd, lk, hcd⟩ := T.d_shortest_chain.F.ex
    have lk2 := lk
    have hB := T.d_shortest_chain.B
    rw [efd] at lk2 hB
    refine ⟨_, pss_one (ps_ret (pe_lamcall3 (T := l.T) (TT := TTsc T) (k := 5) (j := 2) (c := l.cF) (P := l.pF) (y1 := "one") (by rfl) T.d_shortest_chain.M T.d_shortest_chain.kp lk2 hcd hB sc_shortest_chain rfl (.inl rfl) (gives_sc T _ _) (pv 0) (pv 1) TB rfl (.head _) ?_ hr nd rfl (lam1_by (sc := defScope s_first_failing) (by decide +kernel)) rfl (fun _ _ _ _ _ _ => rfl) (fun A outer s H f c' hr => pe_cmp (pc_isN (pcall (ok_settled_version T) T.d_settled_version.M (hr.mono (by decide)) (pa_cons (pv 0) (pa_cons (pe_ix (r := rIxT K) ix_tup (pv 2) pe_int (fun _ _ => rfl)) (pa_cons (pe_ix (r := rIxT K) ix_tup (pv 2) pe_int (fun _ _ => rfl)) pa_nil)))))))), ?_⟩
    · intro z hz e
      rcases List.mem_cons.mp hz with rfl | hz
      · rfl
      · rw [List.mem_singleton.mp hz] at e
        exact absurd e.symm l.ne
    · refine ⟨_, rfl, _, rfl, ht, fun H3 e3 t3 => ?_⟩
      have e3 : Kc H H3 := e3
      refine ⟨ad, rn, c, p, rfl, rfl, h.kc e3, hp.kc e3, fun H' a x k s dm hm hk => ?_, fun H' v N s hN hF => ?_⟩
      · obtain ⟨b, eb, hb⟩ := dm
        cases eb
        refine ⟨_, rfl, _, rfl, a, _, 0, _, rfl, rfl, SqT.of hb, at0, _, rfl, a, _, 1, _, rfl, rfl, SqT.of hb, at1, ad, rn, c, x.1, x.2, rfl, (h.kc e3).sm s, hm, fun H'' s2 => ?_⟩
        have := hk H'' s2
        show k (.bl (decide (hiV (c.settle x) = .non))) H''
        cases e : c.settle x with
        | none =>
          rw [e] at this
          exact this
        | some v =>
          rw [e] at this
          exact this
      · refine q H' v N (e3.tr (Kc.of s)) (t3.ext s) hN ?_
        unfold FoundAt at hF ⊢
        cases e : (runB c N).find? (failP c) with
        | none =>
          rw [e] at hF
          exact hF
        | some x =>
          rw [e] at hF
          obtain ⟨p2, L, h1, h2, h3⟩ := hF
          exact ⟨p2, L, h1, h2.back e3, h3⟩
end
end Gs
/-! ## GsD11 -/
namespace Gs
open PySem PySem.Spec PyProof.Rows L2
section
variable {P : Program} {w : World} {K : PySem.W.Frag} {mg : Str → Option Value} {base : Heap}
/-- an inner walk of a comprehension -/
theorem walk_it {J : It} {n : Nat} {G : Hp → Prop} {Y : Nat → Hp → V → Hp → Prop} (wk : Walk J n G Y) {B : (Hp → Prop) → V → Hp → Prop} {Nx : Hp → Prop} {H0 : Hp} (Pv : Nat → Hp → Prop) (h0 : Pv 0 H0) (hG : ∀ i H, i ≤ n → Pv i H → G H)
    (hs : ∀ i x H H', i < n → Pv i H → Y i H x H' → B (Pv (i + 1)) x H') (hd : ∀ H, Pv n H → Nx H) :
    ∃ W1 : Nat → Nat → Hp → Prop, (∃ m, W1 0 m H0) ∧ ∀ j k H, W1 j k H → (J.stop j H ∧ Nx H) ∨ (J.go j H ∧ ∃ Nx1 : Hp → Prop, (∀ H', Nx1 H' → ∃ k', k' < k ∧ W1 (j + 1) k' H') ∧ ∀ x H', J.yld j H x H' → B Nx1 x H') := by
  refine ⟨fun i m H => m = n - i ∧ i ≤ n ∧ Pv i H, ⟨n, by simp, Nat.zero_le _, h0⟩, ?_⟩
  rintro i m H ⟨rfl, hi, p⟩
  have q := hG i H hi p
  by_cases hlt : i < n
  · exact .inr ⟨wk.goes i H hlt q, Pv (i + 1), fun H' p' => ⟨n - (i + 1), by omega, rfl, hlt, p'⟩, fun x H' y => hs i x H H' hlt p (wk.yields i H x H' hlt q y)⟩
  · have e : i = n := by omega
    subst e
    exact .inl ⟨wk.stops H q, hd H p⟩
def PrAt (H : Hp) (v : V) (p : Nm × Nm) : Prop := ∃ a, v = .ref a ∧ H a = some (.tup [.str p.1, .str p.2])
theorem PrAt.keep {H H' : Hp} {v : V} {p : Nm × Nm} (h : PrAt H v p) (k : ∀ b xs, H b = some (.tup xs) → H' b = some (.tup xs)) : PrAt H' v p := let ⟨a, e, z⟩ := h; ⟨a, e, k _ _ z⟩
theorem PrAt.sm {H H' : Hp} {v : V} {p : Nm × Nm} (h : PrAt H v p) (s : Sm H H') : PrAt H' v p := h.keep fun b xs e => s _ _ e
def PrsAt (H : Hp) (p : Addr) (l : List (Nm × Nm)) : Prop := ∃ vs, H p = some (.lst vs) ∧ Paired (PrAt H) vs l
theorem flatMap_take {α β : Type} {f : α → List β} {l : List α} {i : Nat} {t : α} (h : l[i]? = some t) : (l.take (i + 1)).flatMap f = (l.take i).flatMap f ++ f t := by
  rw [take_snoc h, List.flatMap_append]
  simp
theorem pairs_len {c : Cat} (h : c.WF) : c.pairs.length ≤ 144 := by
  have h1 := flat_len (fun m => (c.uses m).map fun u => (m, u)) 12 c.mods fun m hm => by
    have := List.Nodup.length_le_of_subset (h.und m hm) (l₂ := c.mods) (h.sub m hm)
    have := h.few
    simp only [List.length_map]
    omega
  have := h.few
  unfold Cat.pairs
  have : c.mods.length * 12 ≤ 12 * 12 := Nat.mul_le_mul_right _ this
  omega
theorem ok_all_uses (T : Txt K mg) : FnOk P w K mg base CX0 1 T.d_all_uses.f T.d_all_uses.fd ["catalog"] (fun vs H Q _ => ∃ (ad : Ad) (rn : Nat) (c : Cat), vs = [.ref (ad .cp)] ∧ Rd0 T H ad rn c ∧
    ∀ H' p, Sm H H' → H p = none → PrsAt H' p c.pairs → Q (.ref p) H') := by
  have nd := sc_all_uses.nd
  refine T.d_all_uses.F.ok sc_all_uses (fun vs H Q E h => ?_) (fun cdv A outer s H vs Q E hr h => ?_)
  · obtain ⟨ad, rn, c, rfl, _⟩ := h; rfl
  · obtain ⟨ad, rn, c, rfl, h, q⟩ := h
    have hu := hu_of hr
    have hs : sizeLine = 16777216 := sizeLine_eq
    have h12 := h.wf.few
    have hpl := pairs_len h.wf
    refine ⟨_, (pss_one (ps_lock (ps_ret (pe_lc2 (own := [("user", 1), ("names", 2), ("used", 3)]) (vs1 := [3]) (g1 := (gName 3)) (wi1 := iTup K (tVar 2)) (tt := tYes) (tt1 := tYes) (g := (gTup K 2 (gCons (gName 1) (gCons (gName 2) gNil)))) rfl nd (pi_items (pe_fld (pv 0) rfl)) (blkOk_by (N := N_all_uses) (sc := defScope s_all_uses) (by decide +kernel)) (by decide) (fun _ _ _ _ _ => (pg_tup rfl (pgs_cons (pg_name (i := 1) nd rfl (.inl rfl)) (pgs_cons (pg_name (i := 2) nd rfl (.inl rfl)) pgs_nil)))) (fun _ _ _ _ _ => pts_nil) (fun _ _ _ _ _ => (pi_tup (pv 2))) (fun _ _ _ _ _ => (pg_name (i := 3) nd rfl (.inl rfl))) (fun _ _ _ _ _ => pts_nil) (fun _ _ _ _ _ => (pe_tup (pa_cons (pv 1) (pa_cons (pv 3) pa_nil)))))))), ?_⟩
    have hd := h.at_.ut
    refine ⟨_, _, hd, trivial, fun o => ?_⟩
    have hob : (upd H (ad .ut) (.frz o (.dK (c.mods.map fun m => ((.inr m : Key), V.ref (ad (.ua m))))))) (ad .cp) = some (.ins T.C (ad .cdx) (flds ad)) := by rw [upd_ne (ne_of hd h.at_.ob (by intro z; cases z)).symm]; exact h.at_.ob
    refine ⟨_, rfl, _, T.C, _, _, _, rfl, hob, T.cl, T.nU, fl_ut, _, o, _, rfl, upd_same, fun D nD => ?_⟩
    have wk := walk_items (d := ad .ut) (o := o) (kvs := c.mods.map fun m => ((.inr m : Key), V.ref (ad (.ua m))))
    rw [List.length_map] at wk
    generalize hH1 : upd H (ad .ut) (.frz o (.dK (c.mods.map fun m => ((.inr m : Key), V.ref (ad (.ua m)))))) = H1 at *
    have hfz : H1 (ad .ut) = some (.frz o (.dK (c.mods.map fun m => ((.inr m : Key), V.ref (ad (.ua m)))))) := by rw [← hH1]; exact upd_same
    refine walk_it wk (fun i H' => Sm H1 H' ∧ ∃ vs, H' D = some (.lst vs) ∧ Paired (PrAt H') vs ((c.mods.take i).flatMap fun m => (c.uses m).map fun u => (m, u))) ⟨Sm.rf.up nD, [], upd_same, .nil⟩ (fun i H' _ p => p.1 _ _ hfz) (fun i x H2 H3 hi p y => ?_) (fun H2 p => ?_)
    · obtain ⟨s2, vs, hD, hP⟩ := p
      have ht : c.mods[i]? = some c.mods[i] := List.getElem?_eq_getElem hi
      generalize c.mods[i] = t at ht
      obtain ⟨Tp, a, b, rfl, nT, rfl, ea, eb⟩ := y
      have ea := pickK ht ea
      have eb := pickV ht eb
      subst ea eb
      have hmt := List.mem_of_getElem? ht
      have hk : H1 (ad (.ua t)) = some (.tup ((c.uses t).map V.str)) := by rw [← hH1, upd_ne (ne_of hd (h.at_.us t hmt) (by intro z; cases z)).symm]; exact h.at_.us t hmt
      have s3 : Sm H2 (upd H2 Tp (.tup [kV (.inr t), V.ref (ad (.ua t))])) := Sm.rf.up nT
      refine ⟨Tp, _, rfl, SqT.of upd_same, rfl, _, _, rfl, _, _, rfl, rfl, ?_⟩
      refine ⟨rfl, ?_⟩
      refine ⟨_, rfl, _, rfl, ⟨_, SqT.of (s3 _ _ (s2 _ _ hk))⟩, ?_⟩
      have wk2 := walk_tup (K := K) (a := ad (.ua t)) (xs := (c.uses t).map V.str)
      rw [List.length_map] at wk2
      have hsub : ∀ j, ((c.mods.take i).flatMap (fun m => (c.uses m).map fun u => (m, u)) ++ ((c.uses t).take j).map fun u => (t, u)).length ≤ 144 := fun j => by
        have e1 : c.pairs = (c.mods.take (i + 1)).flatMap (fun m => (c.uses m).map fun u => (m, u)) ++ (c.mods.drop (i + 1)).flatMap fun m => (c.uses m).map fun u => (m, u) := by
          unfold Cat.pairs
          rw [← List.flatMap_append, List.take_append_drop]
        have e2 := congrArg List.length e1
        rw [flatMap_take ht, List.length_append, List.length_append, List.length_map] at e2
        rw [List.length_append, List.length_map, List.length_take]
        omega
      rw [flatMap_take ht]
      refine walk_it wk2 (fun j H' => Sm H1 H' ∧ ∃ vs, H' D = some (.lst vs) ∧ Paired (PrAt H') vs ((c.mods.take i).flatMap (fun m => (c.uses m).map fun u => (m, u)) ++ ((c.uses t).take j).map fun u => (t, u))) ⟨s2.tr s3, vs, s3 _ _ hD, ?_⟩ (fun i H' _ p => SqT.of (p.1 _ _ hk)) (fun j x H4 H5 hj p y => ?_) (fun H4 p => ?_)
      · rw [List.take_zero, List.map_nil, List.append_nil]
        exact paired_mono hP fun _ _ z => z.sm s3
      · obtain ⟨s4, vs, hD, hP⟩ := p
        obtain ⟨rfl, hx⟩ := y
        have hu' : (c.uses t)[j]? = some (c.uses t)[j] := List.getElem?_eq_getElem hj
        generalize (c.uses t)[j] = u at hu'
        have hx := pick1 hu' hx
        subst hx
        have hl := hP.length
        have := hsub j
        refine ⟨rfl, _, rfl, _, rfl, (by show 2 ≤ sizeLine; omega), fun b nb => ?_⟩
        have s5 : Sm H5 (upd H5 b (.tup [V.str t, V.str u])) := Sm.rf.up nb
        refine ⟨vs, s5 _ _ hD, by omega, (s4.tr s5).set nD, _, upd_same, ?_⟩
        rw [take_snoc hu', List.map_append, ← List.append_assoc]
        have kp : ∀ z xs, H5 z = some (.tup xs) → (upd (upd H5 b (.tup [V.str t, V.str u])) D (.lst (vs ++ [.ref b]))) z = some (.tup xs) := fun z xs e => by
          rw [upd_ne (ne_of hD e (by intro z; cases z)).symm]
          exact s5 _ _ e
        refine (paired_mono hP fun _ _ z => z.keep kp).snoc ⟨b, rfl, ?_⟩
        rw [upd_ne (ne_of_none hD nb).symm, upd_same]
      · obtain ⟨s4, vs, hD, hP⟩ := p
        rw [List.take_length] at hP
        exact ⟨s4, vs, hD, hP⟩
    · obtain ⟨s1, vs, hacc, hP⟩ := p
      rw [List.take_length] at hP
      have hne : D ≠ ad .ut := fun z => by rw [z, hfz] at nD; cases nD
      have hDn : H D = none := by rw [← hH1, upd_ne hne] at nD; exact nD
      subst hH1
      obtain ⟨e1, s2⟩ := Sm.unlock hd s1
      refine ⟨e1, q _ D s2 hDn ⟨vs, ?_, paired_mono hP fun _ _ z => z.keep fun b xs e => ?_⟩⟩
      · rw [upd_ne hne]
        exact hacc
      · rw [upd_ne (ne_of e1 e (by intro z; cases z)).symm]
        exact e
end
end Gs
/-! ## GsD12 -/
namespace Gs
open PySem PySem.Spec PyProof.Rows L2
section
variable {P : Program} {w : World} {K : PySem.W.Frag} {mg : Str → Option Value} {base : Heap}
/-- a state: a dict of the modules in their order -/
def stK (c : Cat) (x : Nm → Int) : List (Key × V) := c.mods.map fun m => (.inr m, .int (x m))
theorem val_st {c : Cat} {x : Nm → Int} (h : c.WF) {m : Nm} (hm : m ∈ c.mods) : valV (stK c x) (.inr m) = some (.int (x m)) := val_map (kf := fun m => (.inr m : Key)) (vf := fun m => V.int (x m)) (nodup_inr h.nd) hm
theorem ok_first_demands (T : Txt K mg) : FnOk P w K mg base CX0 2 T.d_first_demands.f T.d_first_demands.fd ["catalog"] (fun vs H Q _ => ∃ (ad : Ad) (rn : Nat) (c : Cat), vs = [.ref (ad .cp)] ∧ Rd0 T H ad rn c ∧
    ∀ H' p, Sm H H' → H p = none → DmsAt H' p c.starts → Q (.ref p) H') := by
  have nd := sc_first_demands.nd
  refine T.d_first_demands.F.ok sc_first_demands (fun vs H Q E h => ?_) (fun cdv A outer s H vs Q E hr h => ?_)
  · obtain ⟨ad, rn, c, rfl, _⟩ := h; rfl
  · obtain ⟨ad, rn, c, rfl, h, q⟩ := h
    have hs : sizeLine = 16777216 := sizeLine_eq
    have h12 := h.wf.few
    refine ⟨_, (pss_one (ps_ret (pe_lc (own := [("module", 1)]) (tt := tYes) (g := (gName 1)) rfl nd (pi_list (pe_meth0 (pv 0) T.cl T.d_Catalog_modules.me (ok_Catalog_modules T) (hr.mono (by decide)) T.d_Catalog_modules.B .nil pass0)) (blkOk_by (N := N_first_demands) (sc := defScope s_first_demands) (by decide +kernel)) (fun _ _ _ _ _ => (pg_name (i := 1) nd rfl (.inl rfl))) (fun _ _ _ _ _ => pts_nil) (fun _ _ _ _ _ => (pe_tup (pa_cons (pv 1) (pa_cons pe_int pa_nil))))))), ?_⟩
    refine ⟨_, rfl, _, _, _, rfl, h.at_.ob, rfl, ad, rn, c, rfl, h, fun p np => ?_⟩
    have s1 : Sm H (upd H p (.lst (c.mods.map V.str))) := Sm.rf.up np
    refine ⟨p, rfl, ⟨_, SqL.of upd_same⟩, fun D nD => ?_⟩
    have wk := walk_list (K := K) (a := p) (xs := c.mods.map V.str)
    rw [List.length_map] at wk
    refine lc_smY c.mods wk (fun i H x H' y => sm_YAt y) nD (fun H' s => SqL.of (s _ _ upd_same)) (fun m y H => ∃ a, y = .ref a ∧ a ≠ D ∧ H a = some (.tup (dmV (m, 0)))) (fun t y H4 H5 o r => let ⟨a, e1, e2, e3⟩ := r; ⟨a, e1, e2, o _ _ e3 e2⟩) (by omega) (fun i t x H2 H3 Pa ht s2 s3 hD y ka => ?_) (fun H2 acc s2 hacc hp => ?_)
    · obtain ⟨rfl, hx⟩ := y
      have hx := pick1 ht hx
      subst hx
      refine ⟨rfl, _, rfl, (by show 2 ≤ sizeLine; omega), fun b nb => ?_⟩
      obtain ⟨acc, hD⟩ := hD
      exact ka _ _ (Sm.rf.up nb) ⟨b, rfl, (ne_of_none hD nb).symm, upd_same⟩
    · refine q _ D (s1.tr s2) (s1.un nD) ⟨acc, hacc, ?_⟩
      exact paired_mapL hp fun u y ⟨a, e1, _, e3⟩ => ⟨a, e1, e3⟩
theorem ok_require_state (T : Txt K mg) : FnOk P w K mg base CX0 4 T.d_require_state.f T.d_require_state.fd ["catalog", "value"] (fun vs H Q _ => ∃ (ad : Ad) (rn : Nat) (c : Cat) (p : Addr) (x : Nm → Int), vs = [.ref (ad .cp), .ref p] ∧ Rd0 T H ad rn c ∧ H p = some (.dK (stK c x)) ∧ (∀ m ∈ c.mods, x m ∈ c.there m) ∧
    ∀ H', Sm H H' → Q .non H') := by
  have nd := sc_require_state.nd
  refine T.d_require_state.F.ok sc_require_state (fun vs H Q E h => ?_) (fun cdv A outer s H vs Q E hr h => ?_)
  · obtain ⟨ad, rn, c, p, x, rfl, _⟩ := h; rfl
  · obtain ⟨ad, rn, c, p, x, rfl, h, hp, hx, q⟩ := h
    have hu := hu_of hr
    have hs : sizeLine = 16777216 := sizeLine_eq
    have h12 := h.wf.few
    refine ⟨_, (pss_cons (ps_if (pt_not (pt_val (pe_callB (r := rIsi K) (id := "isinstance") call_isi (by rfl) T.b_isinstance (by decide +kernel) (pa_cons (pv 1) (pa_cons (gTy (n := "dict") T.b_dict (by decide +kernel)) pa_nil))))) (pss_one ps_never) pss_nil)
      (pss_cons (ps_for PassesOwn.never rfl (pi_list (pe_meth0 (pv 0) T.cl T.d_Catalog_modules.me (ok_Catalog_modules T) (hr.mono (by decide)) T.d_Catalog_modules.B .nil pass0)) (pg_name (i := 2) nd rfl (.inl rfl))
      (pss_one (ps_if (PW.pt (pw_or (pt_cmp (pc_dnotin hu (pv 2) (pv 1))) (pw_or1 (pt_not (pt_val (pe_meth (pv 0) T.cl T.d_Catalog_is_available.me (ok_Catalog_is_available T) (hr.mono (by decide)) T.d_Catalog_is_available.B .nil pass0 (pa_cons (pv 2) (pa_cons (pe_dget hu (pv 1) (pv 2) (fun _ _ => rfl)) pa_nil)))))))) (pss_one ps_never) pss_nil)))
      (pss_one (ps_if (pt_cmpR op_ne (pe_callB (id := "len") call_lenD (by rfl) T.b_len (by decide +kernel) (pa_cons (pv 1) pa_nil)) (pe_callB (id := "len") (call_lenO (ok_Catalog_len T) T.d_Catalog_len.me.at_ T.d_Catalog_len.me.fn T.d_Catalog_len.B (hr.mono (by decide))) (by rfl) T.b_len (by decide +kernel) (pa_cons (pv 0) pa_nil)) (nomark _)) (pss_one ps_never) pss_nil)))), ?_⟩
    refine ⟨_, rfl, _, _, _, _, _, rfl, .ty _, .base (.dK hp), kit_same, true, rfl, iteF ?_⟩
    refine ⟨_, rfl, _, _, _, rfl, h.at_.ob, rfl, ad, rn, c, rfl, h, fun l nl => ?_⟩
    have s1 : Sm H (upd H l (.lst (c.mods.map V.str))) := Sm.rf.up nl
    refine ⟨l, rfl, ⟨_, SqL.of upd_same⟩, ?_⟩
    have wk := walk_list (K := K) (a := l) (xs := c.mods.map V.str)
    rw [List.length_map] at wk
    refine for_it wk (fun i σ H' => Sm (upd H l (.lst (c.mods.map V.str))) H' ∧ ∃ y, σ = [some (.ref (ad .cp)), some (.ref p), y]) ⟨Sm.rf, _, rfl⟩ (fun i σ H' _ p => SqL.of (p.1 _ _ upd_same)) (fun i x2 σ H3 H4 hi p y => ?_) (fun σ H3 p => ?_)
    · obtain ⟨s3, y0, rfl⟩ := p
      obtain ⟨rfl, hx2⟩ := y
      have ht : c.mods[i]? = some c.mods[i] := List.getElem?_eq_getElem hi
      generalize c.mods[i] = m at ht
      have hx2 := pick1 ht hx2
      subst hx2
      have hm := List.mem_of_getElem? ht
      have h4 := h.sm (s1.tr s3)
      have hp4 := s3 _ _ (s1 _ _ hp)
      have g : DGet H4 p (.str m) (some (.int (x m))) := by
        rw [← val_st (x := x) h.wf hm]
        exact DGet.k (k := .inr m) hp4
      refine ⟨_, rfl, _, rfl, p, _, rfl, g, _, rfl, ifF rfl ?_⟩
      refine ⟨_, rfl, _, _, _, rfl, h4.at_.ob, rfl, _, rfl, _, rfl, _, rfl, p, _, rfl, g, ad, rn, c, m, x m, rfl, h4, hm, _, rfl, ?_⟩
      exact ifF (by rw [decT (hx m hm)]; rfl) ⟨s3, _, rfl⟩
    · obtain ⟨s3, y0, rfl⟩ := p
      have h3 := h.sm (s1.tr s3)
      have hp3 := s3 _ _ (s1 _ _ hp)
      refine ⟨_, rfl, p, _, rfl, hp3, _, rfl, ad .cp, _, _, rfl, h3.at_.ob, ad, rn, c, rfl, h3, _, rfl, ⟨by omega, by omega⟩, rfl, _, rfl, ?_⟩
      refine ifF ?_ (q _ (s1.tr s3))
      unfold stK
      rw [List.length_map]
      simp
theorem ok_found_conflicts (T : Txt K mg) : FnOk P w K mg base CX0 6 T.d_found_conflicts.f T.d_found_conflicts.fd ["catalog", "state"] (fun vs H Q _ => ∃ (ad : Ad) (rn : Nat) (c : Cat) (p : Addr) (x : Nm → Int), vs = [.ref (ad .cp), .ref p] ∧ Rd0 T H ad rn c ∧ H p = some (.dK (stK c x)) ∧ (∀ m ∈ c.mods, x m ∈ c.there m) ∧
    ∀ H' p, Sm H H' → H p = none → PrsAt H' p (c.pairs.filter fun q => !holds (winAt (c.wins q.1 q.2) (x q.1)) (x q.2)) → Q (.ref p) H') := by
  have nd := sc_found_conflicts.nd
  refine T.d_found_conflicts.F.ok sc_found_conflicts (fun vs H Q E h => ?_) (fun cdv A outer s H vs Q E hr h => ?_)
  · obtain ⟨ad, rn, c, p, x, rfl, _⟩ := h; rfl
  · obtain ⟨ad, rn, c, p, x, rfl, h, hp, hx, q⟩ := h
    have hu := hu_of hr
    have hs : sizeLine = 16777216 := sizeLine_eq
    have h12 := h.wf.few
    have hpl := pairs_len h.wf
    refine ⟨_, (pss_cons (ps_set (i := 2) nd rfl (.inl rfl) (pe_lst pa_nil))
      (pss_cons (ps_for PassesOwn.never rfl (pi_list (pcall (ok_all_uses T) T.d_all_uses.M (hr.mono (by decide)) (pa_cons (pv 0) pa_nil))) (pg_tup rfl (pgs_cons (pg_name (i := 3) nd rfl (.inl rfl)) (pgs_cons (pg_name (i := 4) nd rfl (.inl rfl)) pgs_nil)))
      (pss_one (ps_if (pt_not (pt_val (pcall (ok_contains T) T.d_contains.M (hr.mono (by decide)) (pa_cons (pe_meth (pv 0) T.cl T.d_Catalog_window.me (ok_Catalog_window T) (hr.mono (by decide)) T.d_Catalog_window.B .nil pass0 (pa_cons (pv 3) (pa_cons (pv 4) (pa_cons (pe_dget hu (pv 1) (pv 3) (fun _ _ => rfl)) pa_nil)))) (pa_cons (pe_dget hu (pv 1) (pv 4) (fun _ _ => rfl)) pa_nil))))) (pss_one (ps_expr (pe_bm PySem.F.plainAttrs_list PySem.F.slot_list_append PySem.F.type_list_append mt_append (pv 2) (pa_cons (pe_tup (pa_cons (pv 3) (pa_cons (pv 4) pa_nil))) pa_nil)))) pss_nil)))
      (pss_one (ps_ret (pv 2))))), ?_⟩
    refine ⟨(by show 0 ≤ sizeLine; omega), fun F nF => ?_⟩
    have s1 : Sm H (upd H F (.lst [])) := Sm.rf.up nF
    refine ⟨_, rfl, ad, rn, c, rfl, h.sm s1, fun H2 l s2 nl hl => ?_⟩
    obtain ⟨vs, hl, hlp⟩ := hl
    have hFl : F ≠ l := ne_of_none upd_same nl
    refine ⟨l, rfl, ⟨_, SqL.of hl⟩, ?_⟩
    have wk := walk_list (K := K) (a := l) (xs := vs)
    let P0 : Nm × Nm → Bool := fun q => !holds (winAt (c.wins q.1 q.2) (x q.1)) (x q.2)
    refine for_it wk (fun i σ H' => Sm H H' ∧ H' l = some (.lst vs) ∧ Paired (PrAt H') vs c.pairs ∧ (∃ y z, σ = [some (.ref (ad .cp)), some (.ref p), some (.ref F), y, z]) ∧ ∃ fs, H' F = some (.lst fs) ∧ Paired (PrAt H') fs ((c.pairs.take i).filter P0)) ⟨s1.tr s2, hl, hlp, ⟨_, _, rfl⟩, [], s2 _ _ upd_same, .nil⟩ (fun i σ H' _ p => SqL.of p.2.1) (fun i x2 σ H3 H4 hi p y => ?_) (fun σ H3 p => ?_)
    · obtain ⟨s3, hl3, hlp3, ⟨y0, z0, rfl⟩, fs, hF, hfp⟩ := p
      obtain ⟨rfl, hx2⟩ := y
      obtain ⟨⟨m, u⟩, ht, a, rfl, ha⟩ := LiI.paired_get hlp3 hx2
      have hmu := mem_pairs.mp (List.mem_of_getElem? ht)
      have hum := h.wf.sub m hmu.1 u hmu.2
      have h4 := h.sm s3
      have hp4 := s3 _ _ hp
      have g : ∀ k ∈ c.mods, ∀ H', Sm H4 H' → DGet H' p (.str k) (some (.int (x k))) := fun k hk H' s => by
        rw [← val_st (x := x) h.wf hk]
        exact DGet.k (k := .inr k) (s _ _ hp4)
      have hxm := (Cat.mem_there.mp (hx m hmu.1)).1
      have hxu := (Cat.mem_there.mp (hx u hum)).1
      have hfl : fs.length ≤ 144 := by
        rw [hfp.length]
        refine Nat.le_trans (List.length_filter_le ..) ?_
        rw [List.length_take]
        omega
      refine ⟨a, _, rfl, SqT.of ha, rfl, _, _, rfl, _, _, rfl, rfl, ?_⟩
      refine ⟨_, rfl, _, _, _, rfl, h4.at_.ob, rfl, _, rfl, _, rfl, _, rfl, _, rfl, p, _, rfl, g m hmu.1 _ Sm.rf, ad, rn, c, m, u, x m, rfl, h4, hmu.1, hmu.2, hxm.1, hxm.2, fun H5 b s5 hb hok => ?_⟩
      refine ⟨_, rfl, _, rfl, p, _, rfl, g u hum _ s5, b, _, x u, rfl, hb, hok, hxu.1, _, rfl, ?_⟩
      rw [take_snoc ht, List.filter_append]
      cases e : holds (winAt (c.wins m u) (x m)) (x u) with
      | true =>
        have e2 : [(m, u)].filter P0 = [] := by simp [P0, e]
        rw [e2, List.append_nil]
        exact ifF rfl ⟨s3.tr s5, s5 _ _ hl3, paired_mono hlp3 fun _ _ z => z.sm s5, ⟨_, _, rfl⟩, fs, s5 _ _ hF, paired_mono hfp fun _ _ z => z.sm s5⟩
      | false =>
        have e2 : [(m, u)].filter P0 = [(m, u)] := by simp [P0, e]
        rw [e2]
        refine ifT rfl ?_
        have hF5 := s5 _ _ hF
        refine ⟨_, rfl, .inl ⟨rfl, _, .inl (.inl hF5)⟩, _, rfl, _, rfl, (by show 2 ≤ sizeLine; omega), fun b2 nb2 => ?_⟩
        have s6 : Sm H5 (upd H5 b2 (.tup [.str m, .str u])) := Sm.rf.up nb2
        refine ⟨F, fs, _, rfl, rfl, s6 _ _ hF5, by omega, ?_⟩
        have kp : ∀ z xs, H5 z = some (.tup xs) → (upd (upd H5 b2 (.tup [.str m, .str u])) F (.lst (fs ++ [.ref b2]))) z = some (.tup xs) := fun z xs e => by
          rw [upd_ne (ne_of hF5 e (by intro z; cases z)).symm]
          exact s6 _ _ e
        refine ⟨((s3.tr s5).tr s6).set nF, ?_, paired_mono hlp3 fun _ _ z => z.keep fun b xs e => kp b xs (s5 _ _ e), ⟨_, _, rfl⟩, _, upd_same, ?_⟩
        · rw [upd_ne hFl.symm]
          exact s6 _ _ (s5 _ _ hl3)
        · refine (paired_mono hfp fun _ _ z => z.keep fun b xs e => kp b xs (s5 _ _ e)).snoc ⟨b2, rfl, ?_⟩
          rw [upd_ne (ne_of_none hF5 nb2).symm, upd_same]
    · obtain ⟨s3, hl3, hlp3, ⟨y0, z0, rfl⟩, fs, hF, hfp⟩ := p
      rw [hlp.length, List.take_length] at hfp
      exact ⟨_, rfl, q _ F s3 nF ⟨fs, hF, hfp⟩⟩
end
end Gs
/-! ## GsD13 -/
namespace Gs
open PySem PySem.Spec PyProof.Rows L2
section
variable {P : Program} {w : World} {K : PySem.W.Frag} {mg : Str → Option Value} {base : Heap}
theorem ok_conflicts (T : Txt K mg) : FnOk P w K mg base CX0 7 T.d_conflicts.f T.d_conflicts.fd ["catalog", "state"] (fun vs H Q _ => ∃ (ad : Ad) (rn : Nat) (c : Cat) (p : Addr) (x : Nm → Int), vs = [.ref (ad .cp), .ref p] ∧ Rd0 T H ad rn c ∧ H p = some (.dK (stK c x)) ∧ (∀ m ∈ c.mods, x m ∈ c.there m) ∧
    ∀ H' p, Sm H H' → H p = none → PrsAt H' p (c.pairs.filter fun q => !holds (winAt (c.wins q.1 q.2) (x q.1)) (x q.2)) → Q (.ref p) H') := by
  have nd := sc_conflicts.nd
  refine T.d_conflicts.F.ok sc_conflicts (fun vs H Q E h => ?_) (fun cdv A outer s H vs Q E hr h => ?_)
  · obtain ⟨ad, rn, c, p, x, rfl, _⟩ := h; rfl
  · obtain ⟨ad, rn, c, p, x, rfl, h, hp, hx, q⟩ := h
    refine ⟨_, (pss_cons (ps_expr (pcall (ok_require_state T) T.d_require_state.M (hr.mono (by decide)) (pa_cons (pv 0) (pa_cons (pv 1) pa_nil))))
      (pss_one (ps_ret (pcall (ok_found_conflicts T) T.d_found_conflicts.M (hr.mono (by decide)) (pa_cons (pv 0) (pa_cons (pv 1) pa_nil)))))), ?_⟩
    refine ⟨_, rfl, _, rfl, ad, rn, c, p, x, rfl, h, hp, hx, fun H1 s1 => ?_⟩
    exact ⟨_, rfl, _, rfl, ad, rn, c, p, x, rfl, h.sm s1, s1 _ _ hp, hx, fun H2 p2 s2 np hp2 => q _ _ (s1.tr s2) (s1.un np) hp2⟩
def prD (q : Nm × Nm) : PyData := .tuple [.str q.1, .str q.2]
theorem dp_prs_all {H : Hp} : ∀ {vs : List V} {l : List (Nm × Nm)}, Paired (PrAt H) vs l → DpAll K H vs (l.map prD)
  | _, _, .nil => .nil
  | _, _, .cons h t => by
    obtain ⟨a, rfl, e⟩ := h
    exact .cons (.tup (SqT.of e) (.cons (.str _) (.cons (.str _) .nil))) (dp_prs_all t)
theorem lay_prs {l : List (Nm × Nm)} (h : ∀ q ∈ l, NmOk q.1 ∧ NmOk q.2) : Lay 2 (.list (l.map prD)) := lay_list fun x hx => by
  obtain ⟨q, hq, rfl⟩ := List.mem_map.mp hx
  refine lay_tup fun d hd => ?_
  rcases List.mem_cons.mp hd with rfl | hd
  · exact lay_str (h q hq).1
  · rw [List.mem_singleton.mp hd]
    exact lay_str (h q hq).2
/-- the first pair, if any -/
def FstAt (H : Hp) (v : V) : List (Nm × Nm) → Prop
  | [] => v = .non
  | q :: _ => PrAt H v q
theorem ok_first_conflict (T : Txt K mg) : FnOk P w K mg base CX0 8 T.d_first_conflict.f T.d_first_conflict.fd ["catalog", "state"] (fun vs H Q _ => ∃ (ad : Ad) (rn : Nat) (c : Cat) (p : Addr) (x : Nm → Int), vs = [.ref (ad .cp), .ref p] ∧ Rd0 T H ad rn c ∧ H p = some (.dK (stK c x)) ∧ (∀ m ∈ c.mods, x m ∈ c.there m) ∧
    ∀ H' v, Sm H H' → FstAt H' v (c.pairs.filter fun q => !holds (winAt (c.wins q.1 q.2) (x q.1)) (x q.2)) → Q v H') := by
  have nd := sc_first_conflict.nd
  refine T.d_first_conflict.F.ok sc_first_conflict (fun vs H Q E h => ?_) (fun cdv A outer s H vs Q E hr h => ?_)
  · obtain ⟨ad, rn, c, p, x, rfl, _⟩ := h; rfl
  · obtain ⟨ad, rn, c, p, x, rfl, h, hp, hx, q⟩ := h
    have hu64 := hu64_of hr
    have hs : sizeLine = 16777216 := sizeLine_eq
    refine ⟨_, (pss_cons (ps_set (i := 2) nd rfl (.inl rfl) (pcall (ok_conflicts T) T.d_conflicts.M (hr.mono (by decide)) (pa_cons (pv 0) (pa_cons (pv 1) pa_nil))))
      (pss_one (ps_ret (pe_ifExp (pt_cmpR (op_neD hu64) (pv 2) (pe_lst pa_nil) (nomark _)) (pe_ix (r := rIxL K) ix_list (pv 2) pe_int (fun _ _ => rfl)) pe_non)))), ?_⟩
    refine ⟨_, rfl, _, rfl, ad, rn, c, p, x, rfl, h, hp, hx, fun H1 p1 s1 np1 hp1 => ?_⟩
    obtain ⟨vs, hv, hvp⟩ := hp1
    generalize hl : (c.pairs.filter fun q => !holds (winAt (c.wins q.1 q.2) (x q.1)) (x q.2)) = l at *
    have hnm : ∀ z ∈ l, NmOk z.1 ∧ NmOk z.2 := fun z hz => by
      rw [← hl] at hz
      have hz := mem_pairs.mp (List.mem_filter.mp hz).1
      exact ⟨h.nm _ hz.1, h.nm _ (h.wf.sub _ hz.1 _ hz.2)⟩
    refine ⟨_, rfl, (by show 0 ≤ sizeLine; omega), fun p2 np2 => ?_⟩
    have s3 : Sm H1 (upd H1 p2 (.lst [])) := Sm.rf.up np2
    refine ⟨_, _, .lst (SqL.of (s3 _ _ hv)) (dp_prs_all (paired_mono hvp fun _ _ z => z.sm s3)), dp_nil upd_same, (lay_prs hnm).sh, lay_nil.sh, _, rfl, ?_⟩
    rw [eqv_nil]
    have q3 := fun v => q _ v (s1.tr s3)
    cases l with
    | nil => exact ifF (by simp) (q3 _ rfl)
    | cons z l =>
      refine ifT (by simp) ?_
      cases hvp with
      | @cons y _ ys _ hz t => exact ⟨_, rfl, p1, _, 0, _, rfl, rfl, SqL.of (s3 _ _ hv), at0, q3 _ (hz.sm s3)⟩
def okB (b : Option Int) (v : Int) : Bool := reach (0, b) v
theorem ok_latest (T : Txt K mg) : FnOk P w K mg base CX0 1 T.d_latest.f T.d_latest.fd ["versions", "bound"] (fun vs H Q _ => ∃ (p : Addr) (ns : List Int) (b : Option Int), vs = [.ref p, hiV b] ∧ H p = some (.lst (ns.map V.int)) ∧ ns.length ≤ 16 ∧ (∃ v ∈ ns, okB b v = true) ∧
    ∀ H' m, Sm H H' → m ∈ ns → okB b m = true → (∀ y ∈ ns, okB b y = true → y ≤ m) → Q (.int m) H') := by
  have nd := sc_latest.nd
  refine T.d_latest.F.ok sc_latest (fun vs H Q E h => ?_) (fun cdv A outer s H vs Q E hr h => ?_)
  · obtain ⟨p, ns, b, rfl, _⟩ := h; rfl
  · obtain ⟨p, ns, b, rfl, hp, hl, ⟨v0, hv0, hb0⟩, q⟩ := h
    have hs : sizeLine = 16777216 := sizeLine_eq
    refine ⟨_, (pss_one (ps_ret (pe_callB (r := rMax K) (id := "max") (cr_max rfl) (by rfl) T.b_max (by decide +kernel) (pa_cons (pe_lc (own := [("version", 2)]) (g := (gName 2)) rfl nd (pi_list (pv 0)) (blkOk_by (N := N_latest) (sc := defScope s_latest) (by decide +kernel)) (fun _ _ _ _ _ => (pg_name (i := 2) nd rfl (.inl rfl))) (fun _ _ _ _ _ => (pts_one (PW.pt (pw_or (pt_cmp (pc_isN (pv 1))) (pw_or1 (pt_cmpR op_le (pv 2) (pv 1) (nomark _))))))) (fun _ _ _ _ _ => (pv 2))) pa_nil)))), ?_⟩
    refine ⟨_, rfl, p, rfl, ⟨_, SqL.of hp⟩, fun D nD => ?_⟩
    have wk := walk_list (K := K) (a := p) (xs := ns.map V.int)
    rw [List.length_map] at wk
    refine lc_sm ns wk (fun i H x H' y => sm_YAt y) nD (fun H' s => SqL.of (s _ _ hp)) (fun x => okB b x) (fun x y _ => y = .int x) (fun _ _ _ _ _ r => r) (by omega) (fun i t x H2 H3 Pa Pb ht s2 s3 _ y ka kb => ?_) (fun H2 acc s2 hacc hp2 => ?_)
    · obtain ⟨rfl, hx⟩ := y
      have hx := pick1 ht hx
      subst hx
      refine ⟨rfl, _, rfl, _, rfl, ?_⟩
      cases b with
      | none => exact ifT rfl (ifT rfl ⟨_, rfl, ka _ _ Sm.rf rfl rfl⟩)
      | some hb =>
        refine ifF rfl ⟨_, rfl, _, rfl, _, _, rfl, rfl, _, rfl, ?_⟩
        by_cases hw : t ≤ hb
        · exact ifT (decT hw) ⟨_, rfl, ka _ _ Sm.rf (decT hw) rfl⟩
        · exact ifF (decF hw) (kb _ Sm.rf (decF hw))
    · have e := paired_eq (f := V.int) hp2
      subst e
      have hin : v0 ∈ ns.filter fun x => okB b x := List.mem_filter.mpr ⟨hv0, hb0⟩
      refine ⟨D, _, rfl, SqL.of hacc, List.length_pos_of_mem hin, fun m hm hmax => ?_⟩
      have hm := List.mem_filter.mp hm
      exact q _ _ s2 hm.1 hm.2 fun y hy hyb => hmax y (List.mem_filter.mpr ⟨hy, hyb⟩)
theorem demV_snoc {c : Cat} : ∀ (l : List Dm) (f : Nm → Int) (d : Dm), demV c (l ++ [d]) f = (demV c l f).bind fun g => demV c [d] g
  | [], f, d => rfl
  | a :: l, f, d => by
    show demV c (a :: (l ++ [d])) f = _
    unfold demV
    cases c.settle a with
    | none => rfl
    | some v => exact demV_snoc l _ d
theorem put_st {c : Cat} {f : Nm → Int} {m : Nm} {v : Int} (hm : m ∈ c.mods) : putK (stK c f) (.inr m) (.int v) = stK c fun k => if k = m then v else f k := by
  unfold putK
  have e : ((stK c f).any fun kv => decide (kv.1 = .inr m)) = true := List.any_eq_true.mpr ⟨(.inr m, .int (f m)), List.mem_map.mpr ⟨m, hm, rfl⟩, by simp⟩
  rw [if_pos e]
  unfold stK
  rw [List.map_map]
  refine List.map_congr_left fun k _ => ?_
  show (if (Sum.inr k : Key) = Sum.inr m then ((Sum.inr k : Key), V.int v) else (.inr k, .int (f k))) = (.inr k, .int (if k = m then v else f k))
  by_cases hk : k = m
  · rw [if_pos hk, hk, if_pos rfl]
  · rw [if_neg hk, if_neg fun z => hk (inr_inj _ _ z)]
/-- the versions that the demands ask for -/
def DemAt (H0 H : Hp) (c : Cat) (v : V) : Option (Nm → Int) → Prop
  | none => v = .non
  | some g => ∃ p, v = .ref p ∧ H0 p = none ∧ H p = some (.dK (stK c g))
theorem ok_demanded_versions (T : Txt K mg) : FnOk P w K mg base CX0 7 T.d_demanded_versions.f T.d_demanded_versions.fd ["catalog", "demands"] (fun vs H Q _ => ∃ (ad : Ad) (rn : Nat) (c : Cat) (p : Addr), vs = [.ref (ad .cp), .ref p] ∧ Rd0 T H ad rn c ∧ DmsAt H p c.starts ∧
    ∀ H' v N, Sm H H' → (runB c N).length ≤ N → DemAt H H' c v (demV c (keysE (runB c N)) fun _ => 0) → Q v H') := by
  have nd := sc_demanded_versions.nd
  refine T.d_demanded_versions.F.ok sc_demanded_versions (fun vs H Q E h => ?_) (fun cdv A outer s H vs Q E hr h => ?_)
  · obtain ⟨ad, rn, c, p, rfl, _⟩ := h; rfl
  · obtain ⟨ad, rn, c, p, rfl, h, hp, q⟩ := h
    have hu := hu_of hr
    have hs : sizeLine = 16777216 := sizeLine_eq
    have h12 := h.wf.few
    refine ⟨_, (pss_cons (ps_setDg (i := 2) (own := [("module", 3)]) (tt := tYes) (g := (gName 3)) (.dK []) (.inl rfl) hu rfl nd rfl rfl (sw_trueD rfl rfl rfl (by decide +kernel)) (pi_list (pe_meth0 (pv 0) T.cl T.d_Catalog_modules.me (ok_Catalog_modules T) (hr.mono (by decide)) T.d_Catalog_modules.B .nil pass0)) (blkOk_by (N := N_demanded_versions) (sc := defScope s_demanded_versions) (by decide +kernel)) (fun _ _ _ _ _ => (pg_name (i := 3) nd rfl (.inl rfl))) (fun _ _ _ _ _ => pts_nil) (fun _ _ _ _ _ => (pv 3)) (fun _ _ _ _ _ => pe_int))
      (pss_cons (ps_for PassesOwn.never rfl (pi_keys (pe_frz (pcall (ok_searched T) T.d_searched.M (hr.mono (by decide)) (pa_cons (pv 0) (pa_cons (pv 1) pa_nil))))) (pg_tup rfl (pgs_cons (pg_name (i := 3) nd rfl (.inl rfl)) (pgs_cons (pg_name (i := 4) nd rfl (.inl rfl)) pgs_nil)))
      (pss_cons (ps_set (i := 5) nd rfl (.inl rfl) (pcall (ok_settled_version T) T.d_settled_version.M (hr.mono (by decide)) (pa_cons (pv 0) (pa_cons (pv 3) (pa_cons (pv 4) pa_nil)))))
      (pss_cons (ps_if (pt_cmp (pc_isN (pv 5))) (pss_one (ps_ret pe_non)) pss_nil)
      (pss_one (ps_dput hu (pv 2) (pv 3) (pe_callB (id := "max") (call_max2 rfl) (by rfl) T.b_max (by decide +kernel) (pa_cons (pe_dget hu (pv 2) (pv 3) (fun _ _ => rfl)) (pa_cons (pv 5) pa_nil))) rfl)))))
      (pss_one (ps_ret (pv 2))))), ?_⟩
    refine ⟨_, rfl, _, _, _, rfl, h.at_.ob, rfl, ad, rn, c, rfl, h, fun l nl => ?_⟩
    have s1 : Sm H (upd H l (.lst (c.mods.map V.str))) := Sm.rf.up nl
    refine ⟨l, rfl, ⟨_, SqL.of upd_same⟩, fun D nD => ?_⟩
    have wk := walk_list (K := K) (a := l) (xs := c.mods.map V.str)
    rw [List.length_map] at wk
    refine dg_it wk (fun i H' => Sm (upd H l (.lst (c.mods.map V.str))) H' ∧ H' D = some (.dK ((c.mods.take i).map fun m => ((.inr m : Key), V.int 0)))) ⟨Sm.rf.up nD, upd_same⟩ (fun i H' _ p => SqL.of (p.1 _ _ upd_same)) (fun i x H2 H3 hi p y => ?_) (fun H2 p => ?_)
    · obtain ⟨s2, hD⟩ := p
      obtain ⟨rfl, hx⟩ := y
      have ht : c.mods[i]? = some c.mods[i] := List.getElem?_eq_getElem hi
      generalize c.mods[i] = m at ht
      have hx := pick1 ht hx
      subst hx
      refine ⟨rfl, _, rfl, _, DPut.k (k := .inr m) hD (by rw [List.length_map, List.length_take]; omega), s2.set nD, ?_⟩
      rw [upd_same, take_snoc ht, List.map_append, putK_app]
      · rfl
      · rw [List.map_map]
        intro hm
        obtain ⟨k, hk, e⟩ := List.mem_map.mp hm
        have e := inr_inj _ _ e
        subst e
        have hn := h.wf.nd
        have e2 := List.take_append_drop i c.mods
        rw [← e2] at hn
        refine (List.nodup_append.mp hn).2.2 k hk k ?_ rfl
        have e3 : (c.mods.drop i)[0]? = some k := by rw [List.getElem?_drop]; exact ht
        exact List.mem_of_getElem? e3
    · obtain ⟨s2, hD⟩ := p
      rw [List.take_length] at hD
      have sA := s1.tr s2
      have nD0 : H D = none := s1.un nD
      refine ⟨_, rfl, _, rfl, ad, rn, c, p, rfl, h.sm sA, hp.sm sA, fun H3 d kvs N s3 nd3 hd hB hN => ?_⟩
      have sB := sA.tr s3
      have sr := srch_run h.wf N
      have hdD : d ≠ D := (ne_of_none hD nd3).symm
      refine ⟨d, _, rfl, hd, trivial, fun o => ?_⟩
      have nd0 : H d = none := sA.un nd3
      have sC : Sm H (upd H3 d (.frz o (.dT kvs))) := sB.set nd0
      refine ⟨d, o, rfl, .inr ⟨kvs, upd_same, ?_⟩⟩
      have wk2 := walk_keysT (d := d) (o := o) (kvs := kvs)
      have hkl := hB.length
      refine for_it wk2 (fun i σ H' => Sm H H' ∧ H' d = some (.frz o (.dT kvs)) ∧ ∃ f, demV c ((keysE (runB c N)).take i) (fun _ => 0) = some f ∧ H' D = some (.dK (stK c f)) ∧ ∃ x y z, σ = [some (.ref (ad .cp)), some (.ref p), some (.ref D), x, y, z]) ⟨sC, upd_same, fun _ => 0, rfl, ?_, _, _, _, rfl⟩ (fun i σ H' _ p => p.2.1) (fun i x σ H5 H6 hi p y => ?_) (fun σ H5 p => ?_)
      · rw [upd_ne hdD.symm]
        exact s3 _ _ hD
      · obtain ⟨s5, hd5, f, hf, hD5, x0, y0, z0, rfl⟩ := p
        obtain ⟨rfl, k, v, qa, hk, rfl, hqa⟩ := y
        obtain ⟨x, hx, hx1, hx2⟩ := LiI.paired_get hB hk
        have hx1 : k = dmK x.d := hx1
        subst hx1
        have hxB := List.mem_of_getElem? hx
        have hxm := sr.mods x hxB
        have hkx : (keysE (runB c N))[i]? = some x.d := by unfold keysE; rw [List.getElem?_map, hx]; rfl
        have h6 := h.sm s5
        have hsn := demV_snoc (c := c) ((keysE (runB c N)).take i) (fun _ => 0) x.d
        rw [← take_snoc hkx, hf] at hsn
        refine ⟨qa, _, rfl, SqT.of hqa, rfl, _, _, rfl, _, _, rfl, rfl, ?_⟩
        refine ⟨_, rfl, _, rfl, _, rfl, ad, rn, c, x.d.1, x.d.2, rfl, h6, hxm, fun H7 s7 => ?_⟩
        generalize es : c.settle (x.d.1, x.d.2) = w
        have es : c.settle x.d = w := es
        cases w with
        | none =>
          refine ⟨_, rfl, _, rfl, ifT rfl ?_⟩
          refine q _ _ N (s5.tr s7) hN ?_
          rw [(demV_none (keysE (runB c N)) _).mpr ⟨x.d, List.mem_of_getElem? hkx, es⟩]
          rfl
        | some v =>
          refine ⟨_, rfl, _, rfl, ifF rfl ?_⟩
          have hD7 := s7 _ _ hD5
          have g : DGet H7 D (.str x.d.1) (some (.int (f x.d.1))) := by
            rw [← val_st (x := f) h.wf hxm]
            exact DGet.k (k := .inr x.d.1) hD7
          refine ⟨_, rfl, _, rfl, D, _, rfl, g, _, rfl, _, _, rfl, ?_⟩
          refine ⟨_, rfl, _, rfl, D, _, rfl, DPut.k (k := .inr x.d.1) hD7 (by unfold stK; rw [List.length_map]; omega), (s5.tr s7).set nD0, ?_, _, ?_, upd_same.trans (by rw [put_st hxm]), _, _, _, rfl⟩
          · rw [upd_ne hdD]
            exact s7 _ _ hd5
          · rw [hsn]
            show demV c [x.d] f = _
            unfold demV
            rw [es]
            rfl
      · obtain ⟨s5, hd5, f, hf, hD5, x0, y0, z0, rfl⟩ := p
        have e : kvs.length = (keysE (runB c N)).length := by rw [hkl]; unfold keysE; rw [List.length_map]
        rw [e, List.take_length] at hf
        refine ⟨_, rfl, q _ _ N s5 hN ?_⟩
        rw [hf]
        exact ⟨D, rfl, nD0, hD5⟩
end
end Gs
/-! ## GsD14 -/
namespace Gs
open PySem PySem.Spec PyProof.Rows L2
section
variable {P : Program} {w : World} {K : PySem.W.Frag} {mg : Str → Option Value} {base : Heap}
def conf (c : Cat) (x : Nm → Int) : List (Nm × Nm) := c.pairs.filter fun q => !holds (winAt (c.wins q.1 q.2) (x q.1)) (x q.2)
structure Above (c : Cat) (x : Nm → Int) : Prop where
  th : ∀ m ∈ c.mods, x m ∈ c.there m
  ab : ∀ y, c.Cons y → ∀ m ∈ c.mods, y m ≤ x m
def setS (x : Nm → Int) (m : Nm) (v : Int) : Nm → Int := fun k => if k = m then v else x k
theorem Above.set {c : Cat} {x : Nm → Int} (h : Above c x) {m : Nm} {v : Int} (hv : v ∈ c.there m) (hy : ∀ y, c.Cons y → y m ≤ v) : Above c (setS x m v) := by
  refine ⟨fun k hk => ?_, fun y hc k hk => ?_⟩
  · unfold setS
    by_cases e : k = m
    · rw [if_pos e, e]; exact hv
    · rw [if_neg e]; exact h.th k hk
  · unfold setS
    by_cases e : k = m
    · rw [if_pos e, e]; exact hy y hc
    · rw [if_neg e]; exact h.ab y hc k hk
def meas (c : Cat) (x : Nm → Int) : Nat := (c.mods.map fun m => (x m).toNat).sum
theorem meas_lt {c : Cat} {x : Nm → Int} {m : Nm} {v : Int} (hm : m ∈ c.mods) (h0 : 0 ≤ v) (hv : v < x m) : meas c (setS x m v) < meas c x := by
  unfold meas
  have le : ∀ l : List Nm, (l.map fun k => (setS x m v k).toNat).sum ≤ (l.map fun k => (x k).toNat).sum := by
    intro l
    induction l with
    | nil => exact Nat.le_refl _
    | cons a l ih =>
      rw [List.map_cons, List.map_cons, List.sum_cons, List.sum_cons]
      have : (setS x m v a).toNat ≤ (x a).toNat := by
        unfold setS
        by_cases e : a = m
        · rw [if_pos e, e]; omega
        · rw [if_neg e]; omega
      omega
  generalize c.mods = l at hm
  induction l with
  | nil => cases hm
  | cons a l ih =>
    rw [List.map_cons, List.map_cons, List.sum_cons, List.sum_cons]
    have hle := le l
    by_cases e : a = m
    · have : (setS x m v a).toNat < (x a).toNat := by
        unfold setS
        rw [if_pos e, e]; omega
      omega
    · have hm' : m ∈ l := by
        rcases List.mem_cons.mp hm with q | q
        · exact absurd q.symm e
        · exact q
      have := ih hm'
      have : (setS x m v a).toNat = (x a).toNat := by unfold setS; rw [if_neg e]
      omega
section
variable {c : Cat} {x : Nm → Int} {m u : Nm}
theorem step_low (hw : c.WF) (h : Above c x) (hm : m ∈ c.mods) (hu : u ∈ c.uses m) (hl : x u < (winAt (c.wins m u) (x m)).1) {v : Int} (hv : v ∈ c.there m) (hlv : (winAt (c.wins m u) v).1 ≤ x u)
    (hmax : ∀ z ∈ c.there m, (winAt (c.wins m u) z).1 ≤ x u → z ≤ v) : Above c (setS x m v) ∧ v < x m := by
  have hum := hw.sub m hm u hu
  refine ⟨h.set hv fun y hy => hmax (y m) (hy.1 m hm) ?_, ?_⟩
  · have h1 := hy.2 m hm u hu
    unfold holds at h1
    rw [Bool.and_eq_true] at h1
    have := of_decide_eq_true h1.1
    have := h.ab y hy u hum
    omega
  · refine Int.not_le.mp fun q => ?_
    have e1 := (Cat.mem_there.mp (h.th m hm)).1
    have e2 := (Cat.mem_there.mp hv).1
    have := (winAt_le (hw.ris m hm u hu) e1.1 q (by rw [hw.len m hm u hu]; exact e2.2)).1
    omega
theorem low_ex (hw : c.WF) (h : Above c x) (hm : m ∈ c.mods) (hu : u ∈ c.uses m) {y : Nm → Int} (hy : c.Cons y) : y m ∈ c.there m ∧ (winAt (c.wins m u) (y m)).1 ≤ x u := by
  have hum := hw.sub m hm u hu
  have h1 := hy.2 m hm u hu
  unfold holds at h1
  rw [Bool.and_eq_true] at h1
  have := of_decide_eq_true h1.1
  have := h.ab y hy u hum
  exact ⟨hy.1 m hm, by omega⟩
theorem high_reach (hw : c.WF) (h : Above c x) (hm : m ∈ c.mods) (hu : u ∈ c.uses m) {y : Nm → Int} (hy : c.Cons y) : reach (winAt (c.wins m u) (x m)) (y u) = true := by
  have h1 := hy.2 m hm u hu
  unfold holds at h1
  rw [Bool.and_eq_true] at h1
  have e1 := (Cat.mem_there.mp (h.th m hm)).1
  have e2 := (Cat.mem_there.mp (hy.1 m hm)).1
  exact (winAt_le (hw.ris m hm u hu) e2.1 (h.ab y hy m hm) (by rw [hw.len m hm u hu]; exact e1.2)).2 _ h1.2
theorem step_high (hw : c.WF) (h : Above c x) (hm : m ∈ c.mods) (hu : u ∈ c.uses m) (hl : (winAt (c.wins m u) (x m)).1 ≤ x u) (hn : holds (winAt (c.wins m u) (x m)) (x u) = false) {v : Int} (hv : v ∈ c.there u) (hr : reach (winAt (c.wins m u) (x m)) v = true)
    (hmax : ∀ z ∈ c.there u, reach (winAt (c.wins m u) (x m)) z = true → z ≤ v) : Above c (setS x u v) ∧ v < x u := by
  have hum := hw.sub m hm u hu
  refine ⟨h.set hv fun y hy => hmax (y u) (hy.1 u hum) (high_reach hw h hm hu hy), ?_⟩
  refine Int.not_le.mp fun q => ?_
  have := reach_le hr q
  unfold holds at hn
  rw [decide_eq_true hl, this] at hn
  cases hn
theorem conf_nil (h : Above c x) (e : conf c x = []) : c.Cons x := by
  refine ⟨h.th, fun m hm u hu => ?_⟩
  have := List.filter_eq_nil_iff.mp e (m, u) (mem_pairs.mpr ⟨hm, hu⟩)
  simpa using this
theorem conf_mem {q : Nm × Nm} (h : q ∈ conf c x) : q.1 ∈ c.mods ∧ q.2 ∈ c.uses q.1 ∧ holds (winAt (c.wins q.1 q.2) (x q.1)) (x q.2) = false := by
  obtain ⟨h1, h2⟩ := List.mem_filter.mp h
  have := mem_pairs.mp (show (q.1, q.2) ∈ c.pairs from h1)
  exact ⟨this.1, this.2, by simpa using h2⟩
end
theorem ok_lowered (T : Txt K mg) : FnOk P w K mg base CX0 9 T.d_lowered.f T.d_lowered.fd ["catalog", "bounds"] (fun vs H Q _ => ∃ (ad : Ad) (rn : Nat) (c : Cat) (p : Addr) (y : Nm → Int), vs = [.ref (ad .cp), .ref p] ∧ Rd0 T H ad rn c ∧ H p = some (.dK []) ∧ c.Cons y ∧
    ∀ H' p x, Sm H H' → H p = none → H' p = some (.dK (stK c x)) → c.Cons x → (∀ y, c.Cons y → ∀ m ∈ c.mods, y m ≤ x m) → Q (.ref p) H') := by
  have nd := sc_lowered.nd
  refine T.d_lowered.F.ok sc_lowered (fun vs H Q E h => ?_) (fun cdv A outer s H vs Q E hr h => ?_)
  · obtain ⟨ad, rn, c, p, y, rfl, _⟩ := h; rfl
  · obtain ⟨ad, rn, c, p, y, rfl, h, hp, hy, q⟩ := h
    have hu := hu_of hr
    have hs : sizeLine = 16777216 := sizeLine_eq
    have h12 := h.wf.few
    refine ⟨_, (pss_cons (ps_set (i := 2) nd rfl (.inr rfl) (pe_dg (own := [("module", 9)]) (tt := tYes) (g := (gName 9)) (.dK []) (.inl rfl) hu rfl nd (pi_list (pe_meth0 (pv 0) T.cl T.d_Catalog_modules.me (ok_Catalog_modules T) (hr.mono (by decide)) T.d_Catalog_modules.B .nil pass0)) (blkOk_by (N := N_lowered) (sc := defScope s_lowered) (by decide +kernel)) (fun _ _ _ _ _ => (pg_name (i := 9) nd rfl (.inl rfl))) (fun _ _ _ _ _ => pts_nil) (fun _ _ _ _ _ => (pv 9)) (fun _ _ _ _ _ => (pcall (ok_latest T) T.d_latest.M (hr.mono (by decide)) (pa_cons (pe_meth (pv 0) T.cl T.d_Catalog_available.me (ok_Catalog_available T) (hr.mono (by decide)) T.d_Catalog_available.B .nil pass0 (pa_cons (pv 9) pa_nil)) (pa_cons (pe_dget1 hu (pv 1) (pv 9) ⟨rfl, rfl, rfl, rfl⟩) pa_nil))))))
      (pss_cons (ps_set (i := 3) nd rfl (.inl rfl) (pcall (ok_first_conflict T) T.d_first_conflict.M (hr.mono (by decide)) (pa_cons (pv 0) (pa_cons (pv 2) pa_nil))))
      (pss_cons (ps_while PassesOwn.never (pt_cmp (pc_notN (pv 3)))
      (pss_cons (ps_asg (pv 3) (pg_tup rfl (pgs_cons (pg_name (i := 4) nd rfl (.inr rfl)) (pgs_cons (pg_name (i := 5) nd rfl (.inr rfl)) pgs_nil))))
      (pss_cons (ps_asg (pe_meth (pv 0) T.cl T.d_Catalog_window.me (ok_Catalog_window T) (hr.mono (by decide)) T.d_Catalog_window.B .nil pass0 (pa_cons (pv 4) (pa_cons (pv 5) (pa_cons (pe_dget hu (pv 2) (pv 4) (fun _ _ => rfl)) pa_nil)))) (pg_tup rfl (pgs_cons (pg_name (i := 6) nd rfl (.inl rfl)) (pgs_cons (pg_name (i := 7) nd rfl (.inl rfl)) pgs_nil))))
      (pss_cons (ps_if (pt_cmpR op_lt (pe_dget hu (pv 2) (pv 5) (fun _ _ => rfl)) (pv 6) (nomark _)) (pss_cons (ps_setDg (i := 8) (own := [("version", 10)]) (tt := tYes) (g := (gName 10)) (.dK []) (.inl rfl) hu rfl nd rfl rfl (sw_trueD rfl rfl rfl (by decide +kernel)) (pi_list (pe_meth (pv 0) T.cl T.d_Catalog_available.me (ok_Catalog_available T) (hr.mono (by decide)) T.d_Catalog_available.B .nil pass0 (pa_cons (pv 4) pa_nil))) (blkOk_by (N := N_lowered) (sc := defScope s_lowered) (by decide +kernel)) (fun _ _ _ _ _ => (pg_name (i := 10) nd rfl (.inl rfl))) (fun _ _ _ _ _ => pts_nil) (fun _ _ _ _ _ => (pv 10)) (fun _ _ _ _ _ => (pe_ix (r := rIxT K) ix_tup (pe_meth (pv 0) T.cl T.d_Catalog_window.me (ok_Catalog_window T) (hr.mono (by decide)) T.d_Catalog_window.B .nil pass0 (pa_cons (pv 4) (pa_cons (pv 5) (pa_cons (pv 10) pa_nil)))) pe_int (fun _ _ => rfl))))
      (pss_one (ps_lock (ps_dput hu (pv 2) (pv 4) (pe_callB (r := rMax K) (id := "max") (cr_max rfl) (by rfl) T.b_max (by decide +kernel) (pa_cons (pe_lc (own := [("version", 10), ("least", 11)]) (g := (gTup K 2 (gCons (gName 10) (gCons (gName 11) gNil)))) rfl nd (pi_items (pv 8)) (blkOk_by (N := N_lowered) (sc := defScope s_lowered) (by decide +kernel)) (fun _ _ _ _ _ => (pg_tup rfl (pgs_cons (pg_name (i := 10) nd rfl (.inl rfl)) (pgs_cons (pg_name (i := 11) nd rfl (.inl rfl)) pgs_nil)))) (fun _ _ _ _ _ => (pts_one (pt_cmpR op_le (pv 11) (pe_dget hu (pv 2) (pv 5) (fun _ _ => rfl)) (nomark _)))) (fun _ _ _ _ _ => (pv 10))) pa_nil)) rfl)))) (pss_one (ps_dput hu (pv 2) (pv 5) (pcall (ok_latest T) T.d_latest.M (hr.mono (by decide)) (pa_cons (pe_meth (pv 0) T.cl T.d_Catalog_available.me (ok_Catalog_available T) (hr.mono (by decide)) T.d_Catalog_available.B .nil pass0 (pa_cons (pv 5) pa_nil)) (pa_cons (pv 7) pa_nil))) rfl)))
      (pss_one (ps_set (i := 3) nd rfl (.inl rfl) (pcall (ok_first_conflict T) T.d_first_conflict.M (hr.mono (by decide)) (pa_cons (pv 0) (pa_cons (pv 2) pa_nil)))))))))
      (pss_one (ps_ret (pv 2)))))), ?_⟩
    refine ⟨_, rfl, _, _, _, rfl, h.at_.ob, rfl, ad, rn, c, rfl, h, fun l nl => ?_⟩
    have s1 : Sm H (upd H l (.lst (c.mods.map V.str))) := Sm.rf.up nl
    refine ⟨l, rfl, ⟨_, SqL.of upd_same⟩, fun D nD => ?_⟩
    have wk := walk_list (K := K) (a := l) (xs := c.mods.map V.str)
    rw [List.length_map] at wk
    have nD0 : H D = none := s1.un nD
    have key : ∀ m ∈ c.mods, ∃ v ∈ c.there m, okB none v = true := fun m hm => ⟨y m, hy.1 m hm, rfl⟩
    refine dg_it wk (fun i H' => Sm (upd H l (.lst (c.mods.map V.str))) H' ∧ ∃ x : Nm → Int, (∀ m ∈ c.mods.take i, x m ∈ c.there m ∧ ∀ v ∈ c.there m, v ≤ x m) ∧ H' D = some (.dK ((c.mods.take i).map fun m => ((.inr m : Key), V.int (x m))))) ⟨Sm.rf.up nD, fun _ => 0, fun m hm => (nomatch hm), upd_same⟩ (fun i H' _ p => SqL.of (p.1 _ _ upd_same)) (fun i x H2 H3 hi p y => ?_) (fun H2 p => ?_)
    · obtain ⟨s2, x, hx, hD⟩ := p
      obtain ⟨rfl, hxi⟩ := y
      have ht : c.mods[i]? = some c.mods[i] := List.getElem?_eq_getElem hi
      generalize c.mods[i] = m at ht
      have hxi := pick1 ht hxi
      subst hxi
      have hm := List.mem_of_getElem? ht
      have h3 := h.sm (s1.tr s2)
      have hnin : m ∉ c.mods.take i := fun hk => by
        have hn := h.wf.nd
        have e2 := List.take_append_drop i c.mods
        rw [← e2] at hn
        refine (List.nodup_append.mp hn).2.2 m hk m ?_ rfl
        have e3 : (c.mods.drop i)[0]? = some m := by rw [List.getElem?_drop]; exact ht
        exact List.mem_of_getElem? e3
      refine ⟨rfl, _, rfl, _, rfl, _, _, _, rfl, h3.at_.ob, rfl, _, rfl, ad, rn, c, m, rfl, h3, hm, fun H4 p4 s4 np4 hp4 => ?_⟩
      have hp' := s4 _ _ (s2 _ _ (s1 _ _ hp))
      refine ⟨_, rfl, p, rfl, .inl ⟨_, .inl hp'⟩, _, rfl, none, DGet.k (k := .inr m) hp', p4, c.there m, none, rfl, hp4, Nat.le_trans (c.there_len m) (h.wf.c16 m hm), key m hm, fun H5 v s5 hv _ hmax => ?_⟩
      have hD5 := s5 _ _ (s4 _ _ hD)
      refine ⟨_, DPut.k (k := .inr m) hD5 (by rw [List.length_map, List.length_take]; omega), (s2.tr (s4.tr s5)).set nD, setS x m v, fun k hk => ?_, ?_⟩
      · rw [take_snoc ht] at hk
        unfold setS
        rcases List.mem_append.mp hk with hk | hk
        · rw [if_neg fun e : k = m => hnin (e ▸ hk)]
          exact hx k hk
        · rw [List.mem_singleton.mp hk, if_pos rfl]
          exact ⟨hv, fun z hz => hmax z hz rfl⟩
      · rw [upd_same, take_snoc ht, List.map_append, putK_app]
        · have e1 : ((c.mods.take i).map fun m => ((.inr m : Key), V.int (x m))) = (c.mods.take i).map fun k => ((.inr k : Key), V.int (setS x m v k)) := List.map_congr_left fun k hk => by
            show ((.inr k : Key), V.int (x k)) = (.inr k, V.int (if k = m then v else x k))
            rw [if_neg fun e : k = m => hnin (e ▸ hk)]
          rw [e1]
          unfold setS
          simp
        · rw [List.map_map]
          intro hq
          obtain ⟨k, hk, e⟩ := List.mem_map.mp hq
          exact hnin (inr_inj _ _ e ▸ hk)
    · obtain ⟨s2, x0, hx0, hD⟩ := p
      rw [List.take_length] at hx0 hD
      have ab0 : Above c x0 := ⟨fun m hm => (hx0 m hm).1, fun y hy m hm => (hx0 m hm).2 _ (hy.1 m hm)⟩
      have sA := s1.tr s2
      refine ⟨_, rfl, _, rfl, ad, rn, c, D, x0, rfl, h.sm sA, hD, ab0.th, fun H3 v3 s3 hv3 => ?_⟩
      refine ⟨fun n σ H' => ∃ (x : Nm → Int) (v : V), n = meas c x ∧ Above c x ∧ Sm H H' ∧ H' D = some (.dK (stK c x)) ∧ FstAt H' v (conf c x) ∧ ∃ x4 x5 x6 x7 x8 x9 x10 x11, σ = [some (.ref (ad .cp)), some (.ref p), some (.ref D), some v, x4, x5, x6, x7, x8, x9, x10, x11], ⟨_, x0, v3, rfl, ab0, sA.tr s3, s3 _ _ hD, hv3, _, _, _, _, _, _, _, _, rfl⟩, ?_⟩
      rintro n σ H4 ⟨x, v, rfl, ab, s4, hD4, hv4, x4, x5, x6, x7, x8, x9, x10, x11, rfl⟩
      refine ⟨_, rfl, _, rfl, ?_⟩
      cases ec : conf c x with
      | nil =>
        rw [ec] at hv4
        have hv4 : v = .non := hv4
        subst hv4
        exact ifF rfl ⟨_, rfl, q _ D x s4 nD0 hD4 (conf_nil ab ec) ab.ab⟩
      | cons z zs =>
        rw [ec] at hv4
        obtain ⟨m, u⟩ := z
        obtain ⟨a, rfl, ha⟩ := hv4
        obtain ⟨hm, hum, hno⟩ := conf_mem (c := c) (x := x) (q := (m, u)) (by rw [ec]; exact List.mem_cons_self)
        have hm : m ∈ c.mods := hm
        have hum : u ∈ c.uses m := hum
        have hno : holds (winAt (c.wins m u) (x m)) (x u) = false := hno
        have hu2 := h.wf.sub m hm u hum
        refine ifT rfl ⟨fun σ' H' => ∃ m', m' < meas c x ∧ ∃ (x : Nm → Int) (v : V), m' = meas c x ∧ Above c x ∧ Sm H H' ∧ H' D = some (.dK (stK c x)) ∧ FstAt H' v (conf c x) ∧ ∃ x4 x5 x6 x7 x8 x9 x10 x11, σ' = [some (.ref (ad .cp)), some (.ref p), some (.ref D), some v, x4, x5, x6, x7, x8, x9, x10, x11], fun σ' H' z => z, ?_⟩
        have h4 := h.sm s4
        have g : ∀ k ∈ c.mods, ∀ H', Sm H4 H' → DGet H' D (.str k) (some (.int (x k))) := fun k hk H' s => by
          rw [← val_st (x := x) h.wf hk]
          exact DGet.k (k := .inr k) (s _ _ hD4)
        have hxm := (Cat.mem_there.mp (ab.th m hm)).1
        refine ⟨_, rfl, a, _, rfl, SqT.of ha, rfl, _, _, rfl, _, _, rfl, rfl, ?_⟩
        refine ⟨_, rfl, _, _, _, rfl, h4.at_.ob, rfl, _, rfl, _, rfl, _, rfl, _, rfl, D, _, rfl, g m hm _ Sm.rf, ad, rn, c, m, u, x m, rfl, h4, hm, hum, hxm.1, hxm.2, fun H5 b s5 hb hok => ?_⟩
        refine ⟨b, _, rfl, SqT.of hb, rfl, _, _, rfl, _, _, rfl, rfl, ?_⟩
        refine ⟨_, rfl, _, rfl, D, _, rfl, g u hu2 _ s5, _, rfl, _, _, rfl, rfl, _, rfl, ?_⟩
        have h5 := h4.sm s5
        have hD5 := s5 _ _ hD4
        have nD4 : H D = none := nD0
        by_cases hlt : x u < (winAt (c.wins m u) (x m)).1
        · refine ifT (decT hlt) ?_
          refine ⟨_, rfl, _, _, _, rfl, h5.at_.ob, rfl, _, rfl, ad, rn, c, m, rfl, h5, hm, fun H6 p6 s6 np6 hp6 => ?_⟩
          refine ⟨p6, rfl, ⟨_, SqL.of hp6⟩, fun D2 nD2 => ?_⟩
          have wk6 := walk_list (K := K) (a := p6) (xs := (c.there m).map V.int)
          rw [List.length_map] at wk6
          have tl16 : (c.there m).length ≤ 16 := Nat.le_trans (c.there_len m) (h.wf.c16 m hm)
          have s46 : Sm H H6 := s4.tr (s5.tr s6)
          have nD2H : H D2 = none := s46.un nD2
          have nDD2 : D ≠ D2 := ne_of_none (s6 _ _ hD5) nD2
          refine dg_it wk6 (fun i H' => Sm H6 H' ∧ H' D2 = some (.dK (((c.there m).take i).map fun v => ((.inl v : Key), V.int (winAt (c.wins m u) v).1)))) ⟨Sm.rf.up nD2, upd_same⟩ (fun i H' _ p => SqL.of (p.1 _ _ hp6)) (fun i x7 H7 H8 hi p y => ?_) (fun H7 p => ?_)
          · obtain ⟨s7, hD2⟩ := p
            obtain ⟨rfl, hx7⟩ := y
            have ht : (c.there m)[i]? = some (c.there m)[i] := List.getElem?_eq_getElem hi
            generalize (c.there m)[i] = t at ht
            have hx7 := pick1 ht hx7
            subst hx7
            have htm := List.mem_of_getElem? ht
            have ht0 := (Cat.mem_there.mp htm).1
            have h8 := h5.sm (s6.tr s7)
            refine ⟨rfl, _, rfl, _, rfl, _, _, _, rfl, h8.at_.ob, rfl, _, rfl, _, rfl, _, rfl, ad, rn, c, m, u, t, rfl, h8, hm, hum, ht0.1, ht0.2, fun H9 b9 s9 hb9 hok9 => ?_⟩
            refine ⟨b9, _, 0, _, rfl, rfl, SqT.of hb9, at0, _, DPut.k (k := .inl t) (s9 _ _ hD2) (by rw [List.length_map, List.length_take]; omega), (s7.tr s9).set nD2, ?_⟩
            rw [upd_same, take_snoc ht, List.map_append, putK_app]
            · rfl
            · rw [List.map_map]
              intro hq
              obtain ⟨k, hk, e⟩ := List.mem_map.mp hq
              have e := inl_inj _ _ e
              subst e
              have hn := c.there_sorted m
              have e2 := List.take_append_drop i (c.there m)
              rw [← e2] at hn
              have e3 : ((c.there m).drop i)[0]? = some k := by rw [List.getElem?_drop]; exact ht
              have := (List.pairwise_append.mp hn).2.2 k hk k (List.mem_of_getElem? e3)
              omega
          · obtain ⟨s7, hD2⟩ := p
            rw [List.take_length] at hD2
            refine ⟨D2, _, hD2, trivial, fun o => ?_⟩
            have s47 : Sm H H7 := s46.tr s7
            have sL : Sm H (upd H7 D2 (.frz o (.dK ((c.there m).map fun v => ((.inl v : Key), V.int (winAt (c.wins m u) v).1))))) := s47.set nD2H
            have hDL : (upd H7 D2 (.frz o (.dK ((c.there m).map fun v => ((.inl v : Key), V.int (winAt (c.wins m u) v).1))))) D = some (.dK (stK c x)) := by
              rw [upd_ne nDD2]
              exact s7 _ _ (s6 _ _ hD5)
            have hfz : (upd H7 D2 (.frz o (.dK ((c.there m).map fun v => ((.inl v : Key), V.int (winAt (c.wins m u) v).1))))) D2 = some (.frz o (.dK ((c.there m).map fun v => ((.inl v : Key), V.int (winAt (c.wins m u) v).1)))) := upd_same
            generalize (upd H7 D2 (.frz o (.dK ((c.there m).map fun v => ((.inl v : Key), V.int (winAt (c.wins m u) v).1))))) = HL at sL hDL hfz ⊢
            refine ⟨_, rfl, D2, o, _, rfl, hfz, fun D3 nD3 => ?_⟩
            have wk8 := walk_items (d := D2) (o := o) (kvs := (c.there m).map fun v => ((.inl v : Key), V.int (winAt (c.wins m u) v).1))
            rw [List.length_map] at wk8
            refine lc_sm (c.there m) wk8 (fun i H x H' y => sm_YPair y) nD3 (fun H' s => s _ _ hfz) (fun v => decide ((winAt (c.wins m u) v).1 ≤ x u)) (fun v y _ => y = .int v) (fun _ _ _ _ _ r => r) (by omega) (fun i t x9 H9 H10 Pa Pb ht s9 s10 _ y ka kb => ?_) (fun H9 acc s9 hacc hpa => ?_)
            · obtain ⟨Tp, a1, b1, rfl, nT, rfl, ea, eb⟩ := y
              have ea := pickK ht ea
              have eb := pickV ht eb
              subst ea eb
              refine ⟨Tp, _, rfl, SqT.of upd_same, rfl, _, _, rfl, _, _, rfl, rfl, ?_⟩
              have g9 : DGet (upd H9 Tp (.tup [kV (.inl t), V.int (winAt (c.wins m u) t).1])) D (.str u) (some (.int (x u))) := by
                rw [← val_st (x := x) h.wf hu2]
                exact DGet.k (k := .inr u) (s10 _ _ hDL)
              refine ⟨rfl, _, rfl, _, rfl, _, rfl, D, _, rfl, g9, _, _, rfl, rfl, _, rfl, ?_⟩
              by_cases hw : (winAt (c.wins m u) t).1 ≤ x u
              · exact ifT (decT hw) ⟨_, rfl, ka _ _ Sm.rf (decT hw) rfl⟩
              · exact ifF (decF hw) (kb _ Sm.rf (decF hw))
            · have e := paired_eq (f := V.int) hpa
              subst e
              obtain ⟨l1, l2⟩ := low_ex h.wf ab hm hum hy
              have hin : y m ∈ (c.there m).filter fun v => decide ((winAt (c.wins m u) v).1 ≤ x u) := List.mem_filter.mpr ⟨l1, decT l2⟩
              refine ⟨D3, _, rfl, SqL.of hacc, List.length_pos_of_mem hin, fun v hv hmax => ?_⟩
              have hv := List.mem_filter.mp hv
              obtain ⟨ab2, lt2⟩ := step_low h.wf ab hm hum hlt hv.1 (of_decide_eq_true hv.2) fun z hz hz2 => hmax z (List.mem_filter.mpr ⟨hz, decT hz2⟩)
              have hD9 := s9 _ _ hDL
              have hv0 := (Cat.mem_there.mp hv.1).1.1
              refine ⟨_, rfl, _, rfl, D, _, rfl, DPut.k (k := .inr m) hD9 (by unfold stK; rw [List.length_map]; omega), ?_, ?_⟩
              · rw [upd_ne nDD2.symm]
                exact s9 _ _ hfz
              · have sF : Sm H (upd (upd H9 D (.dK (putK (stK c x) (.inr m) (.int v)))) D2 (.dK ((c.there m).map fun v => ((.inl v : Key), V.int (winAt (c.wins m u) v).1)))) := ((sL.tr s9).set nD0).set nD2H
                have hDF : (upd (upd H9 D (.dK (putK (stK c x) (.inr m) (.int v)))) D2 (.dK ((c.there m).map fun v => ((.inl v : Key), V.int (winAt (c.wins m u) v).1)))) D = some (.dK (stK c (setS x m v))) := by
                  rw [upd_ne nDD2, upd_same, put_st hm]
                  rfl
                refine ⟨_, rfl, _, rfl, ad, rn, c, D, setS x m v, rfl, h.sm sF, hDF, ab2.th, fun H11 v11 s11 hv11 => ?_⟩
                exact ⟨_, meas_lt hm hv0 lt2, setS x m v, v11, rfl, ab2, sF.tr s11, s11 _ _ hDF, hv11, _, _, _, _, _, _, _, _, rfl⟩
        · refine ifF (decF hlt) ?_
          have hle : (winAt (c.wins m u) (x m)).1 ≤ x u := by omega
          refine ⟨_, rfl, _, _, _, rfl, h5.at_.ob, rfl, _, rfl, ad, rn, c, u, rfl, h5, hu2, fun H6 p6 s6 np6 hp6 => ?_⟩
          have hyu := high_reach h.wf ab hm hum hy
          refine ⟨_, rfl, p6, c.there u, (winAt (c.wins m u) (x m)).2, rfl, hp6, Nat.le_trans (c.there_len u) (h.wf.c16 u hu2), ⟨y u, hy.1 u hu2, hyu⟩, fun H7 v s7 hv hvb hmax => ?_⟩
          have hvb : reach (winAt (c.wins m u) (x m)) v = true := hvb
          obtain ⟨ab2, lt2⟩ := step_high h.wf ab hm hum hle hno hv hvb fun z hz hz2 => hmax z hz hz2
          have hD7 := s7 _ _ (s6 _ _ hD5)
          have hv0 := (Cat.mem_there.mp hv).1.1
          have sF : Sm H (upd H7 D (.dK (putK (stK c x) (.inr u) (.int v)))) := (s4.tr (s5.tr (s6.tr s7))).set nD0
          have hDF : (upd H7 D (.dK (putK (stK c x) (.inr u) (.int v)))) D = some (.dK (stK c (setS x u v))) := by
            rw [upd_same, put_st hu2]
            rfl
          refine ⟨_, rfl, _, rfl, D, _, rfl, DPut.k (k := .inr u) hD7 (by unfold stK; rw [List.length_map]; omega), ?_⟩
          refine ⟨_, rfl, _, rfl, ad, rn, c, D, setS x u v, rfl, h.sm sF, hDF, ab2.th, fun H11 v11 s11 hv11 => ?_⟩
          exact ⟨_, meas_lt hu2 hv0 lt2, setS x u v, v11, rfl, ab2, sF.tr s11, s11 _ _ hDF, hv11, _, _, _, _, _, _, _, _, rfl⟩
end
end Gs
/-! ## GsD15 -/
namespace Gs
open PySem PySem.Spec PyProof.Rows L2
section
variable {P : Program} {w : World} {K : PySem.W.Frag} {mg : Str → Option Value} {base : Heap}
theorem ok_NoState_init (T : Txt K mg) : FnOk P w K mg base CX0 1 T.d_NoState_init.f T.d_NoState_init.fd ["self", "chain"] (fun vs H Q _ => ∃ (a : Addr) (v : V), vs = [.ref a, v] ∧ H a = some (exo a T.N none) ∧
    ∀ dx, H dx = none → dx ≠ a → Q .non (upd (upd H dx (exd dx [("chain", v)])) a (exo a T.N (some dx)))) := by
  have nd := sc_NoState_init.nd
  refine T.d_NoState_init.F.ok sc_NoState_init (fun vs H Q E h => ?_) (fun cdv A outer s H vs Q E hr h => ?_)
  · obtain ⟨a, v, rfl, _⟩ := h; rfl
  · obtain ⟨a, v, rfl, ha, q⟩ := h
    refine ⟨_, pss_cons (ps_expr (pe_axinit T.ab (by rfl) T.mgL (pa_cons (pv 0) (pa_cons (pv 1) pa_nil)))) (pss_one (ps_axt (pv 0) (pv 1))), ?_⟩
    exact ⟨_, rfl, _, rfl, a, T.N, _, rfl, (by show 1 ≤ 1000; decide), T.ax, ha, _, rfl, _, rfl, a, T.N, rfl, T.ax, T.nCh, ha, fun dx n ne => q dx n ne⟩
theorem runB_stable {c : Cat} {N : Nat} (h : (runB c N).length ≤ N) : ∀ M, N ≤ M → runB c M = runB c N := by
  intro M
  induction M with
  | zero => intro hM; rw [show N = 0 by omega]
  | succ M ih =>
    intro hM
    by_cases e : N = M + 1
    · rw [e]
    · have e1 := ih (by omega)
      show (match (runB c M)[M]? with | none => runB c M | some x => expand x (runB c M) (c.next x.d)) = _
      rw [e1, List.getElem?_eq_none (by omega)]
theorem runB_eq {c : Cat} {N M : Nat} (h1 : (runB c N).length ≤ N) (h2 : (runB c M).length ≤ M) : runB c N = runB c M := by
  rcases Nat.le_total N M with h | h
  · exact (runB_stable h1 M h).symm
  · exact runB_stable h2 N h
theorem FoundAt.mono {H0 H H' : Hp} {c : Cat} {v : V} {B : List En} (h : FoundAt H0 H c v B) (s : Sm H H') : FoundAt H0 H' c v B := by
  unfold FoundAt at h ⊢
  cases e : B.find? (failP c) with
  | none =>
    rw [e] at h
    exact h
  | some x =>
    rw [e] at h
    obtain ⟨p2, L, h1, h2, h3, h4⟩ := h
    exact ⟨p2, L, h1, h2, h3.sm s, h4⟩
/-- the answer of a search for a state: the dict p, or the chain at p of an exception with the dict d -/
structure Least (c : Cat) (g : Nm → Int) : Prop where
  co : c.Cons g
  le : ∀ x, c.Cons x → ∀ m ∈ c.mods, g m ≤ x m
structure NoSt (H H' : Hp) (c : Cat) (p d : Addr) (L : List Dm) (x : En) (N : Nat) : Prop where
  no : ∀ x, ¬ c.Cons x
  len : (runB c N).length ≤ N
  fst : (runB c N).find? (failP c) = some x
  nw : Nw H p
  at_ : DmsAt H' p L.reverse
  up : Up (runB c N) (some x.d) L
  few : L.length ≤ 10000
  dx : H' d = some (.xd [("chain", .ref p)])
theorem ok_least_state (T : Txt K mg) (l : Lx T) (TB : LamX.TabB base mg l.cF l.pF) : FnOk P w K mg base (L2.CX P w) 10 T.d_least_state.f T.d_least_state.fd ["catalog"] (fun vs H Q E => ∃ (ad : Ad) (rn : Nat) (c : Cat), vs = [.ref (ad .cp)] ∧ Rd0 T H ad rn c ∧ LamX.Tabs l.T H ∧
    (∀ H' p g, Kc H H' → LamX.Tabs l.T H' → Nw H p → Least c g → H' p = some (.dK (stK c g)) → Q (.ref p) H') ∧ ∀ H' p d L x N, Kc H H' → LamX.Tabs l.T H' → NoSt H H' c p d L x N → E (.ref T.N) (some d) H') := by
  have nd := sc_least_state.nd
  refine T.d_least_state.F.okX sc_least_state (fun vs H Q E h => ?_) (fun cdv A outer s H vs Q E hr h => ?_)
  · obtain ⟨ad, rn, c, rfl, _⟩ := h; rfl
  · obtain ⟨ad, rn, c, rfl, h, ht, q1, q2⟩ := h
    refine ⟨_, (pss_cons (ps_set (i := 1) nd rfl (.inl rfl) (pcall (ok_demanded_versions T) T.d_demanded_versions.M (hr.mono (by decide)) (pa_cons (pv 0) (pa_cons (pcall (ok_first_demands T) T.d_first_demands.M (hr.mono (by decide)) (pa_cons (pv 0) pa_nil)) pa_nil))))
      (pss_cons (ps_if (pt_cmp (pc_isN (pv 1))) (pss_one (ps_raise rfl (takes_of rfl rfl rfl rfl) (pmk_ax T.ax T.nI T.tI (ok_NoState_init T) (hr.mono (by decide)) T.d_NoState_init.B .nil pass0 (by rfl) T.mgN (pa_cons (pcall (ok_first_failing T l TB) T.d_first_failing.M (hr.mono (by decide)) (pa_cons (pv 0) (pa_cons (pcall (ok_first_demands T) T.d_first_demands.M (hr.mono (by decide)) (pa_cons (pv 0) pa_nil)) pa_nil))) pa_nil)))) pss_nil)
      (pss_one (ps_ret (pv 1))))), ?_⟩
    refine ⟨_, rfl, _, rfl, ad, rn, c, rfl, h, fun H1 p1 s1 np1 hp1 => ?_⟩
    have h1 := h.sm s1
    refine ⟨ad, rn, c, p1, rfl, h1, hp1, fun H2 v2 N s2 hN hv2 => ?_⟩
    have s12 := s1.tr s2
    have h2 := h.sm s12
    have sr := srch_run h.wf N
    refine ⟨_, rfl, _, rfl, ?_⟩
    cases ed : demV c (keysE (runB c N)) (fun _ => 0) with
    | some g =>
      rw [ed] at hv2
      obtain ⟨p, rfl, np, hp⟩ := hv2
      obtain ⟨k1, k2⟩ := least_ok h.wf sr hN ed
      exact ifF rfl ⟨_, rfl, q1 _ p g (Kc.of s12) (ht.ext s12) (.of (s1.un np)) ⟨k1, k2⟩ hp⟩
    | none =>
      rw [ed] at hv2
      have hv2 : v2 = .non := hv2
      subst hv2
      refine ifT rfl ?_
      refine ⟨_, rfl, _, rfl, ad, rn, c, rfl, h2, fun H3 p3 s3 np3 hp3 => ?_⟩
      have s13 := s12.tr s3
      refine ⟨ad, rn, c, p3, rfl, h.sm s13, hp3, ht.ext s13, fun H4 v4 N4 k4 t4 hN4 hf4 => ?_⟩
      refine ⟨(by show 1 ≤ 1000; decide), fun a na => ?_⟩
      refine ⟨a, v4, rfl, upd_same, fun dx ndx nea => ?_⟩
      refine ⟨rfl, dx, _, upd_same, (by rw [upd_ne nea]; exact upd_same), (by rw [upd_ne nea] at ndx; exact ndx), ?_⟩
      have ndx4 : H4 dx = none := by rw [upd_ne nea] at ndx; exact ndx
      have sE : Sm H4 (upd (del (upd (upd (upd H4 a (exo a T.N none)) dx (exd dx [("chain", v4)])) a (exo a T.N (some dx))) a) dx (.xd [("chain", v4)])) := fun b o e => by
        have n1 : b ≠ dx := ne_of_none e ndx4
        have n2 : b ≠ a := ne_of_none e na
        rw [upd_ne n1, del_ne n2, upd_ne n2, upd_ne n1, upd_ne n2]
        exact e
      have kE := ((Kc.of s13).tr k4).tr (Kc.of sE)
      have hno := none_ok h.wf sr ed
      have eB : runB c N4 = runB c N := runB_eq hN4 hN
      have hfE := hf4.mono sE
      unfold FoundAt at hfE
      obtain ⟨d, hd, hds⟩ := (demV_none _ _).mp ed
      obtain ⟨z, hz, ez⟩ := List.mem_map.mp (show d ∈ (runB c N).map (·.d) from hd)
      cases ef : (runB c N4).find? (failP c) with
      | none =>
        have := List.find?_eq_none.mp ef z (by rw [eB]; exact hz)
        unfold failP at this
        rw [ez, hds] at this
        simp at this
      | some x =>
        rw [ef] at hfE
        obtain ⟨p5, L, rfl, nw, hds5, hup, hfew⟩ := hfE
        exact q2 _ p5 dx L x N4 kE (t4.ext sE) ⟨hno, hN4, ef, nw.back (Kc.of s13), hds5, hup, hfew, upd_same⟩
theorem ok_greatest_state (T : Txt K mg) (l : Lx T) (TB : LamX.TabB base mg l.cF l.pF) : FnOk P w K mg base (L2.CX P w) 11 T.d_greatest_state.f T.d_greatest_state.fd ["catalog"] (fun vs H Q E => ∃ (ad : Ad) (rn : Nat) (c : Cat), vs = [.ref (ad .cp)] ∧ Rd0 T H ad rn c ∧ LamX.Tabs l.T H ∧
    (∀ H' p g, Kc H H' → LamX.Tabs l.T H' → Nw H p → c.Cons g → (∀ x, c.Cons x → ∀ m ∈ c.mods, x m ≤ g m) → H' p = some (.dK (stK c g)) → Q (.ref p) H') ∧ ∀ H' p d L x N, Kc H H' → LamX.Tabs l.T H' → NoSt H H' c p d L x N → E (.ref T.N) (some d) H') := by
  have nd := sc_greatest_state.nd
  refine T.d_greatest_state.F.okX sc_greatest_state (fun vs H Q E h => ?_) (fun cdv A outer s H vs Q E hr h => ?_)
  · obtain ⟨ad, rn, c, rfl, _⟩ := h; rfl
  · obtain ⟨ad, rn, c, rfl, h, ht, q1, q2⟩ := h
    refine ⟨_, (pss_cons (ps_expr (pe_call (ok_least_state T l TB) (hr.mono (by decide)) (by rfl) T.d_least_state.M T.d_least_state.kp T.d_least_state.B .nil (passes_call (takes_of rfl rfl rfl rfl) (fun _ _ _ _ h => h)) (pa_cons (pv 0) pa_nil) (by decide) (by rfl) (by rfl)))
      (pss_one (ps_ret (pcall (ok_lowered T) T.d_lowered.M (hr.mono (by decide)) (pa_cons (pv 0) (pa_cons pe_dnewK pa_nil)))))), ?_⟩
    refine ⟨_, rfl, ad, rn, c, rfl, h, ht, fun H1 p1 g k1 t1 nw hg hp1 => ?_, fun H1 p d L x N k1 t1 ns => q2 H1 p d L x N k1 t1 ns⟩
    refine ⟨_, rfl, fun p2 np2 => ?_⟩
    have s2 : Sm H1 (upd H1 p2 (.dK [])) := Sm.rf.up np2
    refine ⟨ad, rn, c, p2, g, rfl, (h.kc k1).sm s2, upd_same, hg.co, fun H3 p3 x s3 np3 hp3 hx hmax => ?_⟩
    have s13 := s2.tr s3
    exact q1 _ p3 x (k1.tr (Kc.of s13)) (t1.ext s13) (Nw.back (k1.tr (Kc.of s2)) (.of np3)) hx hmax hp3
end
end Gs
/-! ## GsD16 -/
namespace Gs
open PySem PySem.Spec PyProof.Rows L2
section
variable {P : Program} {w : World} {K : PySem.W.Frag} {mg : Str → Option Value} {base : Heap}
/-- what stands elsewhere than at S stands -/
def Kp (S : List Addr) (H H' : Hp) : Prop := ∀ b o, H b = some o → b ∉ S → H' b = some o
theorem Kp.of {S : List Addr} {H H' : Hp} (s : Sm H H') : Kp S H H' := fun b o e _ => s b o e
theorem Kp.tr {S : List Addr} {H H1 H2 : Hp} (a : Kp S H H1) (b : Kp S H1 H2) : Kp S H H2 := fun c o e n => b c o (a c o e n) n
theorem Kp.up {S : List Addr} {H H1 : Hp} {p : Addr} {o : HO} (a : Kp S H H1) (hp : p ∈ S) : Kp S H (upd H1 p o) := fun c u e n => by
  rw [upd_ne (show c ≠ p from fun z => n (by rw [z]; exact hp))]
  exact a c u e n
theorem Kp.new {S : List Addr} {H H1 : Hp} {p : Addr} {o : HO} (a : Kp S H H1) (hp : H1 p = none) : Kp S H (upd H1 p o) := fun c u e n => by
  have := a c u e n
  rw [upd_ne (ne_of_none this hp)]
  exact this
theorem Kp.mono {S S' : List Addr} {H H' : Hp} (a : Kp S H H') (h : ∀ x ∈ S, x ∈ S') : Kp S' H H' := fun b o e n => a b o e fun z => n (h b z)
/-- the slots of a catalog that are written -/
def LiveC (c : Cat) : Sl → Prop
  | .cp | .ut | .wt | .ct | .cw | .rc => True
  | .da m => m ∈ c.mods
  | .ca m u => m ∈ c.mods ∧ u ∈ c.uses m
  | _ => False
def Inj (ad : Ad) (S : Sl → Prop) : Prop := ∀ s t, S s → S t → ad s = ad t → s = t
structure CatX (T : Txt K mg) (H : Hp) (ad : Ad) (rn : Nat) (c : Cat) : Prop extends Rd0 T H ad rn c where
  sep : Inj ad (LiveC c)
theorem CatX.rd {T : Txt K mg} {H : Hp} {ad : Ad} {rn : Nat} {c : Cat} (h : CatX T H ad rn c) : Rd0 T H ad rn c := h.toRd0
theorem CatX.kc {T : Txt K mg} {H H' : Hp} {ad : Ad} {rn : Nat} {c : Cat} (h : CatX T H ad rn c) (k : Kc H H') : CatX T H' ad rn c := ⟨h.rd.kc k, h.sep⟩
theorem Inj.out {ad : Ad} {P : Sl → Prop} (i : Inj ad P) {s : Sl} {L : List Sl} (hs : P s) (hL : ∀ t ∈ L, P t) (n : s ∉ L) : ad s ∉ L.map ad := fun h => by
  obtain ⟨t, ht, e⟩ := List.mem_map.mp h
  exact n (by rw [i s t hs (hL t ht) e.symm]; exact ht)
theorem Inj.ne {ad : Ad} {P : Sl → Prop} (i : Inj ad P) {s t : Sl} (hs : P s) (ht : P t) (n : s ≠ t) : ad s ≠ ad t := fun e => n (i s t hs ht e)
theorem CatAt.live {C : Addr} {H : Hp} {ad : Ad} {rn : Nat} {c : Cat} (h : CatAt C H ad rn c) {s : Sl} (l : LiveC c s) : ∃ o, H (ad s) = some o ∧ (∀ xs, o ≠ .tup xs) ∧ ∀ ps, o ≠ .tbl ps := by
  cases s with
  | cp => exact ⟨_, h.ob, fun _ z => (nomatch z), fun _ z => (nomatch z)⟩
  | ut => exact ⟨_, h.ut, fun _ z => (nomatch z), fun _ z => (nomatch z)⟩
  | wt => exact ⟨_, h.wt, fun _ z => (nomatch z), fun _ z => (nomatch z)⟩
  | ct => exact ⟨_, h.ct, fun _ z => (nomatch z), fun _ z => (nomatch z)⟩
  | cw => exact ⟨_, h.cw, fun _ z => (nomatch z), fun _ z => (nomatch z)⟩
  | rc => obtain ⟨rs, e, _⟩ := h.rc; exact ⟨_, e, fun _ z => (nomatch z), fun _ z => (nomatch z)⟩
  | da m => exact ⟨_, h.ds m l, fun _ z => (nomatch z), fun _ z => (nomatch z)⟩
  | ca m u => obtain ⟨rs, e, _⟩ := h.ws (m, u) (mem_pairs.mpr l); exact ⟨_, e, fun _ z => (nomatch z), fun _ z => (nomatch z)⟩
  | _ => exact l.elim
theorem Kp.tup {H H' : Hp} {S : List Addr} (k : Kp S H H') (n : ∀ a ∈ S, ∃ o, H a = some o ∧ ∀ xs, o ≠ .tup xs) : ∀ b xs, H b = some (.tup xs) → H' b = some (.tup xs) := fun b xs e => k b _ e fun hb => by
  obtain ⟨o, ho, no⟩ := n b hb
  rw [e] at ho
  exact no xs (Option.some.inj ho).symm
theorem CatAt.ntup {C : Addr} {H : Hp} {ad : Ad} {rn : Nat} {c : Cat} (h : CatAt C H ad rn c) {L : List Sl} (hL : ∀ t ∈ L, LiveC c t) : ∀ a ∈ L.map ad, ∃ o, H a = some o ∧ ∀ xs, o ≠ .tup xs := fun a ha => by
  obtain ⟨t, ht, rfl⟩ := List.mem_map.mp ha
  obtain ⟨o, h1, h2, _⟩ := h.live (hL t ht)
  exact ⟨o, h1, h2⟩
/-- version v of m withdrawn -/
def Cat.wdr (c : Cat) (m : Nm) (v : Int) : Cat := { c with wd := fun k => if k = m then c.wd k ++ [v] else c.wd k }
theorem wf_wdr {c : Cat} (h : c.WF) (m : Nm) (v : Int) : (c.wdr m v).WF := ⟨h.nd, h.ne, h.few, h.sub, h.und, h.self, h.len, h.ris, h.okw, h.c16⟩
theorem ok_Catalog_withdraw (T : Txt K mg) : FnOk P w K mg base CX0 4 T.d_Catalog_withdraw.f T.d_Catalog_withdraw.fd ["self", "module", "version"] (fun vs H Q _ => ∃ (ad : Ad) (rn : Nat) (c : Cat) (m : Nm) (v : Int), vs = [.ref (ad .cp), .str m, .int v] ∧ CatX T H ad rn c ∧ rn ≤ 10000 ∧ m ∈ c.mods ∧ v ∈ c.there m ∧
    ∀ H', Kp ([.da m, .rc].map ad) H H' → CatX T H' ad (rn + 1) (c.wdr m v) → Q .non H') := by
  have nd := sc_Catalog_withdraw.nd
  refine T.d_Catalog_withdraw.F.ok sc_Catalog_withdraw (fun vs H Q E h => ?_) (fun cdv A outer s H vs Q E hr h => ?_)
  · obtain ⟨ad, rn, c, m, v, rfl, _⟩ := h; rfl
  · obtain ⟨ad, rn, c, m, v, rfl, hx, hrn, hm, hv, q⟩ := h
    have h := hx.rd
    have hu := hu_of hr
    have hs : sizeLine = 16777216 := sizeLine_eq
    refine ⟨_, (pss_cons (ps_if (pt_not (pt_val (pe_meth (pv 0) T.cl T.d_Catalog_is_available.me (ok_Catalog_is_available T) (hr.mono (by decide)) T.d_Catalog_is_available.B .nil pass0 (pa_cons (pv 1) (pa_cons (pv 2) pa_nil))))) (pss_one ps_never) pss_nil)
      (pss_cons (ps_dput hu (pe_dget hu (pe_fld (pv 0) rfl) (pv 1) (fun _ _ => rfl)) (pv 2) pe_bl rfl)
      (pss_one (ps_expr (pe_bm PySem.F.plainAttrs_list PySem.F.slot_list_append PySem.F.type_list_append mt_append (pe_fld (pv 0) rfl) (pa_cons (pe_tup (pa_cons pe_str (pa_cons (pv 1) (pa_cons (pv 2) pa_nil)))) pa_nil)))))), ?_⟩
    obtain ⟨rs, hrc, hrl⟩ := h.at_.rc
    have hda := h.at_.ds m hm
    have nrd : ad .rc ≠ ad (.da m) := fun e => nomatch hx.sep _ _ (show LiveC c .rc from trivial) (show LiveC c (.da m) from hm) e
    have hwl := h.at_.wl m hm
    refine ⟨_, rfl, _, _, _, rfl, h.at_.ob, rfl, _, rfl, _, rfl, ad, rn, c, m, v, rfl, h, hm, _, rfl, ?_⟩
    refine ifF (by rw [decT hv]; rfl) ?_
    refine ⟨_, rfl, _, T.C, _, _, _, rfl, h.at_.ob, T.cl, T.nD, fl_cw, _, rfl, _, _, rfl, (by rw [← val_cw (ad := ad) h.wf hm]; exact DGet.k (k := .inr m) h.at_.cw), _, rfl, ad (.da m), _, rfl, DPut.k (k := .inl v) hda (by rw [List.length_map]; omega), ?_⟩
    have hL : ∀ t ∈ ([.da m, .rc] : List Sl), LiveC c t := fun t ht => by
      rcases List.mem_cons.mp ht with rfl | ht
      · exact hm
      · rw [List.mem_singleton.mp ht]; exact trivial
    have k1 : Kp ([.da m, .rc].map ad) H (upd H (ad (.da m)) (.dK (putK ((c.wd m).map fun v => ((.inl v : Key), V.bl true)) (.inl v) (.bl true)))) := (Kp.of Sm.rf).up (List.mem_map.mpr ⟨_, List.mem_cons_self, rfl⟩)
    have hvn := (Cat.mem_there.mp hv).2
    have e1 : (upd H (ad (.da m)) (.dK (putK ((c.wd m).map fun v => ((.inl v : Key), V.bl true)) (.inl v) (.bl true)))) (ad (.da m)) = some (.dK ((c.wd m ++ [v]).map fun v => ((.inl v : Key), V.bl true))) := by
      rw [upd_same, putK_app]
      · rw [List.map_append]
        rfl
      · rw [List.map_map]
        intro hq
        obtain ⟨z, hz, e⟩ := List.mem_map.mp hq
        exact hvn (inl_inj _ _ e ▸ hz)
    have hrc1 : (upd H (ad (.da m)) (.dK (putK ((c.wd m).map fun v => ((.inl v : Key), V.bl true)) (.inl v) (.bl true)))) (ad .rc) = some (.lst rs) := by rw [upd_ne nrd]; exact hrc
    generalize (upd H (ad (.da m)) (.dK (putK ((c.wd m).map fun v => ((.inl v : Key), V.bl true)) (.inl v) (.bl true)))) = H1 at k1 e1 hrc1 ⊢
    have g1 : ∀ {s : Sl} {o : HO}, LiveC c s → s ∉ ([.da m, .rc] : List Sl) → H (ad s) = some o → H1 (ad s) = some o := fun hs n e => k1 _ _ e (hx.sep.out hs hL n)
    have ob1 := g1 (s := .cp) trivial (by simp) h.at_.ob
    refine ⟨_, rfl, _, T.C, _, _, _, rfl, ob1, T.cl, T.nR, fl_rc, .inl ⟨rfl, _, .inl (.inl hrc1)⟩, _, rfl, _, rfl, (by show 3 ≤ sizeLine; omega), fun b nb => ?_⟩
    have kF : Kp ([.da m, .rc].map ad) H (upd (upd H1 b (.tup [.str "withdraw", .str m, .int v])) (ad .rc) (.lst (rs ++ [.ref b]))) := (k1.new nb).up (List.mem_map.mpr ⟨_, List.mem_cons_of_mem _ List.mem_cons_self, rfl⟩)
    have hrcb := ne_of_none hrc1 nb
    refine ⟨ad .rc, rs, _, rfl, rfl, by rw [upd_ne hrcb]; exact hrc1, by omega, ?_⟩
    have tF := kF.tup (h.at_.ntup hL)
    have eda : (upd (upd H1 b (.tup [.str "withdraw", .str m, .int v])) (ad .rc) (.lst (rs ++ [.ref b]))) (ad (.da m)) = some (.dK ((c.wd m ++ [v]).map fun v => ((.inl v : Key), V.bl true))) := by
      rw [upd_ne nrd.symm, upd_ne (ne_of_none e1 nb)]
      exact e1
    have erc : (upd (upd H1 b (.tup [.str "withdraw", .str m, .int v])) (ad .rc) (.lst (rs ++ [.ref b]))) (ad .rc) = some (.lst (rs ++ [.ref b])) := upd_same
    generalize (upd (upd H1 b (.tup [.str "withdraw", .str m, .int v])) (ad .rc) (.lst (rs ++ [.ref b]))) = HF at kF tF eda erc ⊢
    have gF : ∀ {s : Sl} {o : HO}, LiveC c s → s ∉ ([.da m, .rc] : List Sl) → H (ad s) = some o → HF (ad s) = some o := fun hs n e => kF _ _ e (hx.sep.out hs hL n)
    refine q _ kF ⟨⟨⟨gF (s := .cp) trivial (by simp) h.at_.ob, gF (s := .ut) trivial (by simp) h.at_.ut, fun k hk => tF _ _ (h.at_.us k hk), gF (s := .wt) trivial (by simp) h.at_.wt, fun p hp => ?_, gF (s := .ct) trivial (by simp) h.at_.ct, gF (s := .cw) trivial (by simp) h.at_.cw, fun k hk => ?_, ⟨_, erc, by rw [List.length_append]; simp; omega⟩, fun k hk => ?_⟩, wf_wdr h.wf m v, h.nm⟩, hx.sep⟩
    · obtain ⟨refs, r1, r2⟩ := h.at_.ws p hp
      have hp2 := mem_pairs.mp (show (p.1, p.2) ∈ c.pairs from hp)
      exact ⟨refs, gF (s := .ca p.1 p.2) hp2 (by simp) r1, r2.keep tF⟩
    · show HF (ad (.da k)) = some (.dK ((if k = m then c.wd k ++ [v] else c.wd k).map fun v => ((.inl v : Key), V.bl true)))
      by_cases e : k = m
      · subst e
        rw [if_pos rfl]
        exact eda
      · rw [if_neg e]
        exact gF (s := .da k) hk (by simp [e]) (h.at_.ds k hk)
    · show (if k = m then c.wd k ++ [v] else c.wd k).length ≤ rn + 1
      have := h.at_.wl k hk
      split
      · rw [List.length_append]; simp; omega
      · omega
end
end Gs
/-! ## GsD17 -/
namespace Gs
open PySem PySem.Spec PyProof.Rows L2
section
variable {P : Program} {w : World} {K : PySem.W.Frag} {mg : Str → Option Value} {base : Heap}
theorem skolem {α β : Type} [Inhabited β] {P : α → β → Prop} {S : α → Prop} (h : ∀ a, S a → ∃ b, P a b) : ∃ f : α → β, ∀ a, S a → P a (f a) := by
  refine ⟨fun a => @dite _ (S a) (Classical.propDecidable _) (fun q => Classical.choose (h a q)) fun _ => default, fun a q => ?_⟩
  show P a (@dite _ (S a) (Classical.propDecidable _) (fun q => Classical.choose (h a q)) fun _ => default)
  rw [dif_pos q]
  exact Classical.choose_spec (h a q)
theorem lookup_zip {α β : Type} [BEq α] [LawfulBEq α] : ∀ {l : List α} {ws : List β} {j : Nat} {u : α} {w : β}, l.Nodup → l[j]? = some u → ws[j]? = some w → (l.zip ws).lookup u = some w
  | [], _, _, _, _, _, h, _ => by cases h
  | _ :: _, [], _, _, _, _, _, h => by cases h
  | a :: l, x :: ws, 0, u, w, _, h1, h2 => by
    cases h1
    cases h2
    simp [List.lookup]
  | a :: l, x :: ws, j + 1, u, w, hn, h1, h2 => by
    have hn' := List.nodup_cons.mp hn
    have hm : u ∈ l := List.mem_of_getElem? (show l[j]? = some u from h1)
    have ne : (u == a) = false := by
      rw [beq_eq_false_iff_ne]
      intro e
      subst e
      exact hn'.1 hm
    rw [List.zip_cons_cons, List.lookup_cons, ne]
    exact lookup_zip hn'.2 h1 h2
/-- module m published with the windows ws, in the order of its uses -/
def Cat.pub (c : Cat) (m : Nm) (ws : List Win) : Cat := { c with
  wins := fun a b => if a = m then c.wins a b ++ (((c.uses m).zip ws).lookup b).toList else c.wins a b
  cnt := fun a => if a = m then c.cnt a + 1 else c.cnt a }
structure PubOk (c : Cat) (m : Nm) (ws : List Win) : Prop where
  mem : m ∈ c.mods
  len : ws.length = (c.uses m).length
  okw : ∀ w ∈ ws, okWin w
  ris : ∀ (j : Nat) u w a, (c.uses m)[j]? = some u → ws[j]? = some w → (c.wins m u).getLast? = some a → rise a w = true
  few : c.cnt m < 16
theorem rising_snoc {l : List Win} {w : Win} (h : Rising l) (r : ∀ a, l.getLast? = some a → rise a w = true) : Rising (l ++ [w]) := by
  intro i a b ha hb
  by_cases hi : i + 1 < l.length
  · rw [List.getElem?_append_left (by omega)] at ha
    rw [List.getElem?_append_left hi] at hb
    exact h i a b ha hb
  · have hl := (List.getElem?_eq_some_iff.mp hb).1
    rw [List.length_append] at hl
    have hl : i + 1 < l.length + 1 := hl
    have e : i + 1 = l.length := by omega
    rw [List.getElem?_append_left (by omega)] at ha
    rw [e, List.getElem?_append_right (Nat.le_refl _), Nat.sub_self] at hb
    cases hb
    refine r a ?_
    rw [List.getLast?_eq_getElem?, show l.length - 1 = i by omega]
    exact ha
theorem wf_pub {c : Cat} (h : c.WF) {m : Nm} {ws : List Win} (p : PubOk c m ws) : (c.pub m ws).WF := by
  have lk : ∀ u ∈ c.uses m, ∃ (j : Nat) (w : Win), (c.uses m)[j]? = some u ∧ ws[j]? = some w ∧ ((c.uses m).zip ws).lookup u = some w := fun u hu => by
    obtain ⟨j, hj⟩ := List.getElem?_of_mem hu
    have hl := (List.getElem?_eq_some_iff.mp hj).1
    have hl2 : j < ws.length := by rw [p.len]; exact hl
    have hw : ws[j]? = some ws[j] := List.getElem?_eq_getElem hl2
    exact ⟨j, _, hj, hw, lookup_zip (h.und m p.mem) hj hw⟩
  refine ⟨h.nd, h.ne, h.few, h.sub, h.und, h.self, fun a ha u hu => ?_, fun a ha u hu => ?_, fun a ha u hu w hw => ?_, fun a ha => ?_⟩
  · show (if a = m then c.wins a u ++ (((c.uses m).zip ws).lookup u).toList else c.wins a u).length = if a = m then c.cnt a + 1 else c.cnt a
    by_cases e : a = m
    · subst e
      obtain ⟨j, w, _, _, e3⟩ := lk u hu
      rw [if_pos rfl, if_pos rfl, List.length_append, e3, h.len a ha u hu]
      rfl
    · rw [if_neg e, if_neg e]
      exact h.len a ha u hu
  · show Rising (if a = m then c.wins a u ++ (((c.uses m).zip ws).lookup u).toList else c.wins a u)
    by_cases e : a = m
    · subst e
      obtain ⟨j, w, e1, e2, e3⟩ := lk u hu
      rw [if_pos rfl, e3]
      exact rising_snoc (h.ris a ha u hu) fun z hz => p.ris j u w z e1 e2 hz
    · rw [if_neg e]
      exact h.ris a ha u hu
  · have hw : w ∈ (if a = m then c.wins a u ++ (((c.uses m).zip ws).lookup u).toList else c.wins a u) := hw
    by_cases e : a = m
    · subst e
      obtain ⟨j, x, e1, e2, e3⟩ := lk u hu
      rw [if_pos rfl, e3] at hw
      rcases List.mem_append.mp hw with hw | hw
      · exact h.okw a ha u hu w hw
      · have : w = x := by simpa using hw
        rw [this]
        exact p.okw x (List.mem_of_getElem? e2)
    · rw [if_neg e] at hw
      exact h.okw a ha u hu w hw
  · show (if a = m then c.cnt a + 1 else c.cnt a) ≤ 16
    by_cases e : a = m
    · rw [if_pos e, e]
      have := p.few
      omega
    · rw [if_neg e]
      exact h.c16 a ha
def winD (w : Win) : PyData := .tuple [.int w.1, match w.2 with
  | none => .none
  | some h => .int h]
theorem lay_win (w : Win) : Lay 1 (winD w) := lay_tup fun x hx => by
  rcases List.mem_cons.mp hx with rfl | hx
  · exact lay_int _
  · rw [List.mem_singleton.mp hx]
    cases w.2 with
    | none => exact ⟨by simp only [PyData.canLay0], by simp only [PyData.depth]; omega⟩
    | some h => exact lay_int _
theorem dp_wins {K : PySem.W.Frag} {H : Hp} : ∀ {vs : List V} {l : List Win}, WinsAre H vs l → DpAll K H vs (l.map winD)
  | _, _, .nil => .nil
  | _, _, .cons (b := b) h t => by
    obtain ⟨a, rfl, e⟩ := h
    obtain ⟨lo, hi⟩ := b
    refine .cons (.tup (SqT.of e) (.cons (.int _) (.cons ?_ .nil))) (dp_wins t)
    cases hi with
    | none => exact .non
    | some h => exact .int _
theorem lay_wins (l : List Win) : Lay 2 (.list (l.map winD)) := lay_list fun x hx => by
  obtain ⟨w, _, rfl⟩ := List.mem_map.mp hx
  exact lay_win w
theorem wins_as {H : Hp} : ∀ {refs : List V} {ws : List Win}, WinsAre H refs ws → ∃ as : List (Addr × Win), refs = (as.map fun p => V.ref p.1) ∧ ws = as.map Prod.snd ∧ ∀ p ∈ as, H p.1 = some (.tup (winV p.2))
  | _, _, .nil => ⟨[], rfl, rfl, fun _ h => nomatch h⟩
  | _, _, .cons (b := b) h t => by
    obtain ⟨a, rfl, e⟩ := h
    obtain ⟨as, h1, h2, h3⟩ := wins_as t
    refine ⟨(a, b) :: as, by rw [h1]; rfl, by rw [h2]; rfl, fun p hp => ?_⟩
    rcases List.mem_cons.mp hp with rfl | hp
    · exact e
    · exact h3 p hp
def pubL (c : Cat) (m : Nm) : List Sl := .ct :: .rc :: (c.uses m).map (.ca m)
theorem pubL_live {c : Cat} {m : Nm} (hm : m ∈ c.mods) : ∀ t ∈ pubL c m, LiveC c t := fun t ht => by
  rcases List.mem_cons.mp ht with rfl | ht
  · exact trivial
  · rcases List.mem_cons.mp ht with rfl | ht
    · exact trivial
    · obtain ⟨u, hu, rfl⟩ := List.mem_map.mp ht
      exact ⟨hm, hu⟩
theorem ok_Catalog_publish (T : Txt K mg) : FnOk P w K mg base CX0 6 T.d_Catalog_publish.f T.d_Catalog_publish.fd ["self", "module", "windows"] (fun vs H Q _ => ∃ (ad : Ad) (rn : Nat) (c : Cat) (m : Nm) (wl : Addr) (as : List (Addr × Win)), vs = [.ref (ad .cp), .str m, .ref wl] ∧ CatX T H ad rn c ∧ rn ≤ 10000 ∧
    H wl = some (.lst (as.map fun p => .ref p.1)) ∧ (∀ p ∈ as, H p.1 = some (.tup (winV p.2))) ∧ (∀ s, LiveC c s → ad s ≠ wl) ∧ PubOk c m (as.map Prod.snd) ∧
    ∀ H', Kp ((pubL c m).map ad) H H' → CatX T H' ad (rn + 1) (c.pub m (as.map Prod.snd)) → Q (.int (c.cnt m : Nat)) H') := by
  have nd := sc_Catalog_publish.nd
  refine T.d_Catalog_publish.F.ok sc_Catalog_publish (fun vs H Q E h => ?_) (fun cdv A outer s H vs Q E hr h => ?_)
  · obtain ⟨ad, rn, c, m, wl, as, rfl, _⟩ := h; rfl
  · obtain ⟨ad, rn, c, m, wl, as, rfl, hx, hrn, hwl, has, hnl, hp, q⟩ := h
    have h := hx.rd
    have hm := hp.mem
    have hu := hu_of hr
    have hu64 := hu64_of hr
    have hs : sizeLine = 16777216 := sizeLine_eq
    have hlas : as.length = (c.uses m).length := by have := hp.len; rwa [List.length_map] at this
    have hul : (c.uses m).length ≤ 12 := Nat.le_trans ((h.wf.und m hm).length_le_of_subset fun x hx => h.wf.sub m hm x hx) h.wf.few
    have h16 := hp.few
    refine ⟨_, (pss_cons (ps_expr (pcall (ok_require_module T) T.d_require_module.M (hr.mono (by decide)) (pa_cons (pv 0) (pa_cons (pv 1) pa_nil))))
      (pss_cons (ps_set (i := 3) nd rfl (.inl rfl) (pe_dget hu (pe_fld (pv 0) rfl) (pv 1) (fun _ _ => rfl)))
      (pss_cons (ps_expr (pcall (ok_check_new_windows T) T.d_check_new_windows.M (hr.mono (by decide)) (pa_cons (pv 2) (pa_cons (pe_callB (r := rLenS K) (id := "len") call_lenS (by rfl) T.b_len (by decide +kernel) (pa_cons (pv 3) pa_nil)) pa_nil))))
      (pss_cons (ps_for PassesOwn.never rfl (pi_zipTL (by rfl) T.b_zip (pa_cons (pv 3) (pa_cons (pv 2) pa_nil))) (pg_tup rfl (pgs_cons (pg_name (i := 4) nd rfl (.inl rfl)) (pgs_cons (pg_name (i := 5) nd rfl (.inl rfl)) pgs_nil)))
      (pss_cons (ps_set (i := 6) nd rfl (.inl rfl) (pe_dget hu (pe_fld (pv 0) rfl) (pe_tup (pa_cons (pv 1) (pa_cons (pv 4) pa_nil))) (fun _ _ => rfl)))
      (pss_one (ps_if (PW.pt (pw_and (pt_cmpR (op_neD hu64) (pv 6) (pe_lst pa_nil) (nomark _)) (pw_and1 (pt_not (pt_val (pcall (ok_rises T) T.d_rises.M (hr.mono (by decide)) (pa_cons (pe_ix (r := rIxL K) ix_list (pv 6) (pe_un un_neg pe_int) (fun _ _ => rfl)) (pa_cons (pv 5) pa_nil)))))))) (pss_one ps_never) pss_nil))))
      (pss_cons (ps_set (i := 7) nd rfl (.inl rfl) (pe_dget hu (pe_fld (pv 0) rfl) (pv 1) (fun _ _ => rfl)))
      (pss_cons (ps_if (pt_cmpR op_ge (pv 7) (gInt T.iMV) (nomark _)) (pss_one ps_never) pss_nil)
      (pss_cons (ps_for PassesOwn.never rfl (pi_zipTL (by rfl) T.b_zip (pa_cons (pv 3) (pa_cons (pv 2) pa_nil))) (pg_tup rfl (pgs_cons (pg_name (i := 4) nd rfl (.inl rfl)) (pgs_cons (pg_name (i := 5) nd rfl (.inl rfl)) pgs_nil)))
      (pss_one (ps_expr (pe_bm PySem.F.plainAttrs_list PySem.F.slot_list_append PySem.F.type_list_append mt_append (pe_dget hu (pe_fld (pv 0) rfl) (pe_tup (pa_cons (pv 1) (pa_cons (pv 4) pa_nil))) (fun _ _ => rfl)) (pa_cons (pv 5) pa_nil)))))
      (pss_cons (ps_dput hu (pe_fld (pv 0) rfl) (pv 1) (pe_op op_add (pv 7) pe_int) rfl)
      (pss_cons (ps_expr (pe_bm PySem.F.plainAttrs_list PySem.F.slot_list_append PySem.F.type_list_append mt_append (pe_fld (pv 0) rfl) (pa_cons (pe_tup (pa_cons pe_str (pa_cons (pv 1) (pa_cons (pe_callTy (T := "tuple") call_tuple_of (by rfl) T.b_tuple (by decide +kernel) (pa_cons (pv 2) pa_nil)) pa_nil)))) pa_nil)))
      (pss_one (ps_ret (pv 7)))))))))))), ?_⟩
    refine ⟨_, rfl, _, rfl, ad, rn, c, m, rfl, h, hm, ?_⟩
    refine ⟨_, rfl, _, T.C, _, _, _, rfl, h.at_.ob, T.cl, T.nU, fl_ut, _, rfl, _, _, rfl, (by rw [← val_ut (ad := ad) h.wf hm]; exact DGet.k (k := .inr m) h.at_.ut), ?_⟩
    refine ⟨_, rfl, _, rfl, _, _, rfl, .inr (SqT.of (h.at_.us m hm)), wl, as, ?_, hwl, fun p hp' => ⟨has p hp', hp.okw _ (List.mem_map.mpr ⟨p, hp', rfl⟩)⟩, fun H1 s1 => ?_⟩
    · rw [List.length_map, hlas]
      rfl
    · have h1 := h.sm s1
      have hut : ∀ {H'}, Sm H1 H' → SqT K H' (ad (.ua m)) ((c.uses m).map V.str) := fun s => SqT.of (s _ _ (h1.at_.us m hm))
      have hwl' : ∀ {H'}, Sm H1 H' → SqL K H' wl (as.map fun p => V.ref p.1) := fun s => SqL.of (s _ _ (s1 _ _ hwl))
      refine ⟨_, rfl, _, rfl, ad (.ua m), wl, _, _, rfl, hut Sm.rf, hwl' Sm.rf, ?_⟩
      have wk := walk_zipTL (K := K) (a := ad (.ua m)) (b := wl) (xs := (c.uses m).map V.str) (ys := as.map fun p => V.ref p.1) (n := (c.uses m).length) (by rw [List.length_map, List.length_map]; omega)
      refine for_it wk (fun i σ H' => Sm H1 H' ∧ ∃ x4 x5 x6 x7, σ = [some (.ref (ad .cp)), some (.str m), some (.ref wl), some (.ref (ad (.ua m))), x4, x5, x6, x7]) ⟨Sm.rf, _, _, _, _, rfl⟩ (fun i σ H' _ p => ⟨hut p.1, hwl' p.1⟩) (fun i x σ H3 H4 hi p y => ?_) (fun σ H3 p => ?_)
      · obtain ⟨s3, x4, x5, x6, x7, rfl⟩ := p
        obtain ⟨Tp, a, b, rfl, nT, rfl, ea, eb⟩ := y
        have ht : (c.uses m)[i]? = some (c.uses m)[i] := List.getElem?_eq_getElem hi
        generalize (c.uses m)[i] = u at ht
        have hia : i < as.length := by omega
        have hta : as[i]? = some as[i] := List.getElem?_eq_getElem hia
        generalize as[i] = aw at hta
        have ea := pick1 ht ea
        have eb := pick1 (f := fun p : Addr × Win => V.ref p.1) hta eb
        subst ea eb
        have hum := List.mem_of_getElem? ht
        have ham := List.mem_of_getElem? hta
        have s4 : Sm H3 (upd H3 Tp (.tup [.str u, .ref aw.1])) := Sm.rf.up nT
        have s14 := s3.tr s4
        have h4 := h1.sm s14
        refine ⟨Tp, _, rfl, SqT.of upd_same, rfl, _, _, rfl, _, _, rfl, rfl, ?_⟩
        refine ⟨_, rfl, _, T.C, _, _, _, rfl, h4.at_.ob, T.cl, T.nW, fl_wt, _, rfl, _, rfl, (by show 2 ≤ sizeLine; omega), fun b nb => ?_⟩
        have s5 : Sm (upd H3 Tp (.tup [.str u, .ref aw.1])) (upd (upd H3 Tp (.tup [.str u, .ref aw.1])) b (.tup [.str m, .str u])) := Sm.rf.up nb
        have h5 := h4.sm s5
        obtain ⟨refs, e1, e2⟩ := h5.at_.ws (m, u) (mem_pairs.mpr ⟨hm, hum⟩)
        refine ⟨_, _, rfl, (by rw [← val_wt (ad := ad) h.wf hm hum]; exact DGet.t (k := [.inr m, .inr u]) h5.at_.wt upd_same), ?_⟩
        have haw := s5 _ _ (s14 _ _ (s1 _ _ (has aw ham)))
        have s15 := s14.tr s5
        generalize (upd (upd H3 Tp (.tup [.str u, .ref aw.1])) b (.tup [.str m, .str u])) = H5 at *
        refine ⟨_, rfl, (by show 0 ≤ sizeLine; omega), fun p2 np2 => ?_⟩
        have s6 : Sm H5 (upd H5 p2 (.lst [])) := Sm.rf.up np2
        have e2' : WinsAre (upd H5 p2 (.lst [])) refs (c.wins m u) := e2.keep fun _ _ e => s6 _ _ e
        refine ⟨_, _, .lst (SqL.of (s6 _ _ e1)) (dp_wins e2'), dp_nil upd_same, (lay_wins _).sh, lay_nil.sh, _, rfl, ?_⟩
        rw [eqv_nil]
        rcases List.eq_nil_or_concat (c.wins m u) with ew | ⟨wi, wz, ew⟩
        · have ew : c.wins m u = [] := ew
          rw [ew]
          exact ifF (by simp) (ifF rfl ⟨s15.tr s6, _, _, _, _, rfl⟩)
        · rw [List.concat_eq_append] at ew
          refine ifT (by rw [ew]; simp) ?_
          have hlast : (c.wins m u).getLast? = some wz := by rw [ew]; simp
          have hlr : ∃ ri v, refs = ri ++ [v] ∧ ∃ az, v = .ref az ∧ H5 az = some (.tup (winV wz)) := by
            have : ∀ {l : List V} {k : List Win}, WinsAre H5 l (k ++ [wz]) → ∃ ri v, l = ri ++ [v] ∧ ∃ az, v = .ref az ∧ H5 az = some (.tup (winV wz)) := by
              intro l k hk
              induction k generalizing l with
              | nil =>
                cases hk with
                | @cons v _ t _ hv ht =>
                  cases ht
                  exact ⟨[], v, rfl, hv⟩
              | cons z k ih =>
                cases hk with
                | @cons v _ t _ hv ht =>
                  obtain ⟨ri, v2, e, r⟩ := ih ht
                  exact ⟨v :: ri, v2, by rw [e]; rfl, r⟩
            exact this (ew ▸ e2)
          obtain ⟨ri, v, rfl, az, rfl, haz⟩ := hlr
          have okz := h.wf.okw m hm u hum wz (by rw [ew]; simp)
          have okw := hp.okw aw.2 (List.mem_map.mpr ⟨aw, ham, rfl⟩)
          have hr := hp.ris i u aw.2 wz ht (by rw [List.getElem?_map, hta]; rfl) hlast
          refine ⟨_, rfl, 1, rfl, _, _, (-1), _, rfl, rfl, SqL.of (s6 _ _ e1), atI_last ri (.ref az), _, rfl, az, aw.1, wz, aw.2, rfl, s6 _ _ haz, s6 _ _ haw, okz, okw, _, rfl, ?_⟩
          exact ifF (by rw [hr]; rfl) ⟨s15.tr s6, _, _, _, _, rfl⟩
      · obtain ⟨s3, x4, x5, x6, x7, rfl⟩ := p
        have h3 := h1.sm s3
        have s13 := s1.tr s3
        refine ⟨_, rfl, _, T.C, _, _, _, rfl, h3.at_.ob, T.cl, T.nC, fl_ct, _, rfl, _, _, rfl, (by rw [← val_ct h.wf hm]; exact DGet.k (k := .inr m) h3.at_.ct), ?_⟩
        refine ⟨_, rfl, _, _, rfl, rfl, _, rfl, ifF (decF (by omega)) ?_⟩
        have hua3 := h3.at_.us m hm
        have hwl3 := s13 _ _ hwl
        have has3 : ∀ p ∈ as, H3 p.1 = some (.tup (winV p.2)) := fun p hp' => s13 _ _ (has p hp')
        have k03 : Kp ((pubL c m).map ad) H H3 := .of s13
        clear h1 hut hwl' s1 s13 s3
        have hL := pubL_live hm
        have hL1 : ∀ t ∈ (c.uses m).map (Sl.ca m), LiveC c t := fun t ht => hL t (List.mem_cons_of_mem _ (List.mem_cons_of_mem _ ht))
        obtain ⟨colR, hcol⟩ := skolem (P := fun u (rs : List V) => H3 (ad (.ca m u)) = some (.lst rs) ∧ WinsAre H3 rs (c.wins m u)) (S := fun u => u ∈ c.uses m) fun u hu => h3.at_.ws (m, u) (mem_pairs.mpr ⟨hm, hu⟩)
        have tupk : ∀ {H'}, Kp (((c.uses m).map (Sl.ca m)).map ad) H3 H' → ∀ b xs, H3 b = some (.tup xs) → H' b = some (.tup xs) := fun k => k.tup (h3.at_.ntup hL1)
        have liv : ∀ {H'}, Kp (((c.uses m).map (Sl.ca m)).map ad) H3 H' → ∀ {s : Sl} {o : HO}, LiveC c s → (∀ u, s ≠ .ca m u) → H3 (ad s) = some o → H' (ad s) = some o := fun k s o hs n e => k _ _ e (hx.sep.out hs hL1 fun hz => by
          obtain ⟨u, _, e⟩ := List.mem_map.mp hz
          exact n u e.symm)
        have wlk : ∀ {H'}, Kp (((c.uses m).map (Sl.ca m)).map ad) H3 H' → H' wl = some (.lst (as.map fun p => .ref p.1)) := fun k => k _ _ hwl3 fun hz => by
          obtain ⟨t, ht, e⟩ := List.mem_map.mp hz
          exact hnl t (hL1 t ht) e
        have hcl : ∀ u ∈ c.uses m, (colR u).length ≤ 16 := fun u hu => by
          have e1 := (hcol u hu).2.length
          rw [h.wf.len m hm u hu] at e1
          omega
        refine ⟨_, rfl, _, rfl, ad (.ua m), wl, _, _, rfl, SqT.of hua3, SqL.of hwl3, ?_⟩
        refine for_it wk (fun i σ H' => Kp (((c.uses m).map (Sl.ca m)).map ad) H3 H' ∧ (∃ x4 x5 x6, σ = [some (.ref (ad .cp)), some (.str m), some (.ref wl), some (.ref (ad (.ua m))), x4, x5, x6, some (.int (c.cnt m : Nat))]) ∧ ∀ (j : Nat) u, (c.uses m)[j]? = some u → H' (ad (.ca m u)) = some (.lst (colR u ++ if j < i then (as[j]?).toList.map (fun p => V.ref p.1) else []))) ⟨.of Sm.rf, ⟨_, _, _, rfl⟩, fun j u hj => by rw [if_neg (Nat.not_lt_zero j), List.append_nil]; exact (hcol u (List.mem_of_getElem? hj)).1⟩ (fun i σ H' _ p => ⟨SqT.of (tupk p.1 _ _ hua3), SqL.of (wlk p.1)⟩) (fun i x σ H4 H5 hi p y => ?_) (fun σ H4 p => ?_)
        · obtain ⟨k4, ⟨x4, x5, x6, rfl⟩, hc4⟩ := p
          obtain ⟨Tp, a, b, rfl, nT, rfl, ea, eb⟩ := y
          have ht : (c.uses m)[i]? = some (c.uses m)[i] := List.getElem?_eq_getElem hi
          generalize (c.uses m)[i] = u at ht
          have hia : i < as.length := by omega
          have hta : as[i]? = some as[i] := List.getElem?_eq_getElem hia
          generalize as[i] = aw at hta
          have ea := pick1 ht ea
          have eb := pick1 (f := fun p : Addr × Win => V.ref p.1) hta eb
          subst ea eb
          have hum := List.mem_of_getElem? ht
          have k5 := k4.new (o := .tup [.str u, .ref aw.1]) nT
          refine ⟨Tp, _, rfl, SqT.of upd_same, rfl, _, _, rfl, _, _, rfl, rfl, ?_⟩
          refine ⟨_, rfl, _, T.C, _, _, _, rfl, liv k5 (s := .cp) trivial (fun _ z => nomatch z) h3.at_.ob, T.cl, T.nW, fl_wt, _, rfl, _, rfl, (by show 2 ≤ sizeLine; omega), fun b nb => ?_⟩
          have k6 := k5.new (o := .tup [.str m, .str u]) nb
          have hci := hc4 i u ht
          rw [if_neg (Nat.lt_irrefl i), List.append_nil] at hci
          have hci5 : (upd H4 Tp (.tup [.str u, .ref aw.1])) (ad (.ca m u)) = some (.lst (colR u)) := by rw [upd_ne (ne_of_none hci nT)]; exact hci
          have hci6 : (upd (upd H4 Tp (.tup [.str u, .ref aw.1])) b (.tup [.str m, .str u])) (ad (.ca m u)) = some (.lst (colR u)) := by rw [upd_ne (ne_of_none hci5 nb)]; exact hci5
          refine ⟨ad .wt, .ref (ad (.ca m u)), rfl, (by rw [← val_wt (ad := ad) h.wf hm hum]; exact DGet.t (k := [.inr m, .inr u]) (liv k6 (s := .wt) trivial (fun _ z => nomatch z) h3.at_.wt) upd_same), ?_⟩
          refine ⟨.inl ⟨rfl, _, .inl (.inl hci6)⟩, _, rfl, ad (.ca m u), colR u, _, rfl, rfl, hci6, by have := hcl u hum; omega, ?_⟩
          have hmem : ad (.ca m u) ∈ ((c.uses m).map (Sl.ca m)).map ad := List.mem_map.mpr ⟨_, List.mem_map.mpr ⟨u, hum, rfl⟩, rfl⟩
          refine ⟨k6.up hmem, ⟨_, _, _, rfl⟩, fun j u2 hj => ?_⟩
          have hu2 := List.mem_of_getElem? hj
          by_cases eu : u2 = u
          · subst eu
            have ej : j = i := by
              have hl := (List.getElem?_eq_some_iff.mp hj).1
              exact (List.getElem?_inj hl (h.wf.und m hm)).mp (hj.trans ht.symm)
            subst ej
            rw [upd_same, if_pos (Nat.lt_succ_self j), hta]
            rfl
          · have ne : ad (.ca m u2) ≠ ad (.ca m u) := hx.sep.ne (show LiveC c (.ca m u2) from ⟨hm, hu2⟩) (show LiveC c (.ca m u) from ⟨hm, hum⟩) fun z => eu (by cases z; rfl)
            have nji : j ≠ i := fun e => by
              subst e
              rw [ht] at hj
              exact eu (Option.some.inj hj).symm
            have h0 := hc4 j u2 hj
            have h01 : (upd H4 Tp (.tup [.str u, .ref aw.1])) (ad (.ca m u2)) = _ := (upd_ne (ne_of_none h0 nT)).trans h0
            rw [upd_ne ne, upd_ne (ne_of_none h01 nb), h01]
            by_cases hji : j < i
            · rw [if_pos hji, if_pos (by omega)]
            · rw [if_neg hji, if_neg (by omega)]
        · obtain ⟨k4, ⟨x4, x5, x6, rfl⟩, hc4⟩ := p
          obtain ⟨rs, hrc, hrl⟩ := h3.at_.rc
          have ct4 := liv k4 (s := .ct) trivial (fun _ z => nomatch z) h3.at_.ct
          have rc4 := liv k4 (s := .rc) trivial (fun _ z => nomatch z) hrc
          have cp4 := liv k4 (s := .cp) trivial (fun _ z => nomatch z) h3.at_.ob
          have ne1 : ad .rc ≠ ad .ct := hx.sep.ne trivial trivial (by simp)
          have ne2 : ad .cp ≠ ad .ct := hx.sep.ne trivial trivial (by simp)
          have ne3 : wl ≠ ad .ct := (hnl .ct trivial).symm
          refine ⟨_, rfl, _, _, rfl, rfl, _, rfl, _, T.C, _, _, _, rfl, cp4, T.cl, T.nC, fl_ct, _, rfl, ad .ct, _, rfl, DPut.k (k := .inr m) ct4 (by rw [List.length_map]; have := h.wf.few; omega), ?_⟩
          have k5 : Kp ((pubL c m).map ad) H3 (upd H4 (ad .ct) (.dK (putK (c.mods.map fun m => ((.inr m : Key), V.int (c.cnt m : Nat))) (.inr m) (.int ((c.cnt m : Nat) + 1))))) := (k4.mono fun x hx => List.mem_cons_of_mem _ (List.mem_cons_of_mem _ hx)).up List.mem_cons_self
          have ct5 : (upd H4 (ad .ct) (.dK (putK (c.mods.map fun m => ((.inr m : Key), V.int (c.cnt m : Nat))) (.inr m) (.int ((c.cnt m : Nat) + 1))))) (ad .ct) = some (.dK (c.mods.map fun k => ((.inr k : Key), V.int (((c.pub m (as.map Prod.snd)).cnt k : Nat) : Int)))) := by
            rw [upd_same]
            have := put_st (c := c) (f := fun k => ((c.cnt k : Nat) : Int)) (v := ((c.cnt m : Nat) : Int) + 1) hm
            rw [show (c.mods.map fun m => ((.inr m : Key), V.int (c.cnt m : Nat))) = stK c (fun k => ((c.cnt k : Nat) : Int)) from rfl, this]
            unfold stK
            congr 2
            refine List.map_congr_left fun k _ => ?_
            show ((.inr k : Key), V.int (if k = m then ((c.cnt m : Nat) : Int) + 1 else ((c.cnt k : Nat) : Int))) = (.inr k, V.int (((if k = m then c.cnt k + 1 else c.cnt k : Nat)) : Int))
            by_cases e : k = m
            · rw [if_pos e, if_pos e, e]; rfl
            · rw [if_neg e, if_neg e]
          have rc5 : (upd H4 (ad .ct) (.dK (putK (c.mods.map fun m => ((.inr m : Key), V.int (c.cnt m : Nat))) (.inr m) (.int ((c.cnt m : Nat) + 1))))) (ad .rc) = some (.lst rs) := by rw [upd_ne ne1]; exact rc4
          have cp5 := (upd_ne (H := H4) (o := .dK (putK (c.mods.map fun m => ((.inr m : Key), V.int (c.cnt m : Nat))) (.inr m) (.int ((c.cnt m : Nat) + 1)))) ne2).trans cp4
          have wl5 : (upd H4 (ad .ct) (.dK (putK (c.mods.map fun m => ((.inr m : Key), V.int (c.cnt m : Nat))) (.inr m) (.int ((c.cnt m : Nat) + 1))))) wl = some (.lst (as.map fun p => .ref p.1)) := by rw [upd_ne ne3]; exact wlk k4
          have hc5 : ∀ (j : Nat) u a, (c.uses m)[j]? = some u → as[j]? = some a → (upd H4 (ad .ct) (.dK (putK (c.mods.map fun m => ((.inr m : Key), V.int (c.cnt m : Nat))) (.inr m) (.int ((c.cnt m : Nat) + 1))))) (ad (.ca m u)) = some (.lst (colR u ++ [V.ref a.1])) := fun j u a hj ha => by
            have hum := List.mem_of_getElem? hj
            rw [upd_ne (hx.sep.ne (show LiveC c (.ca m u) from ⟨hm, hum⟩) (show LiveC c .ct from trivial) (by simp)), hc4 j u hj, if_pos (List.getElem?_eq_some_iff.mp hj).1, ha]
            rfl
          generalize (upd H4 (ad .ct) (.dK (putK (c.mods.map fun m => ((.inr m : Key), V.int (c.cnt m : Nat))) (.inr m) (.int ((c.cnt m : Nat) + 1))))) = H5 at k5 ct5 rc5 cp5 wl5 hc5 ⊢
          refine ⟨_, rfl, _, T.C, _, _, _, rfl, cp5, T.cl, T.nR, fl_rc, .inl ⟨rfl, _, .inl (.inl rc5)⟩, _, rfl, _, rfl, wl, _, rfl, .inl ⟨SqL.of wl5, fun l nl => ?_⟩⟩
          have s6 : Sm H5 (upd H5 l (.tup (as.map fun p => .ref p.1))) := Sm.rf.up nl
          refine ⟨(by show 3 ≤ sizeLine; omega), fun b nb => ?_⟩
          have s7 := s6.up (o := .tup [.str "publish", .str m, .ref l]) nb
          refine ⟨ad .rc, rs, _, rfl, rfl, s7 _ _ rc5, by omega, ?_⟩
          have kF : Kp ((pubL c m).map ad) H3 (upd (upd (upd H5 l (.tup (as.map fun p => .ref p.1))) b (.tup [.str "publish", .str m, .ref l])) (ad .rc) (.lst (rs ++ [.ref b]))) := (k5.tr (.of s7)).up (List.mem_cons_of_mem _ List.mem_cons_self)
          have ctF := (upd_ne (H := upd (upd H5 l (.tup (as.map fun p => .ref p.1))) b (.tup [.str "publish", .str m, .ref l])) (o := .lst (rs ++ [.ref b])) ne1.symm).trans (s7 _ _ ct5)
          have hcF : ∀ (j : Nat) u a, (c.uses m)[j]? = some u → as[j]? = some a → (upd (upd (upd H5 l (.tup (as.map fun p => .ref p.1))) b (.tup [.str "publish", .str m, .ref l])) (ad .rc) (.lst (rs ++ [.ref b]))) (ad (.ca m u)) = some (.lst (colR u ++ [V.ref a.1])) := fun j u a hj ha => by
            have hum := List.mem_of_getElem? hj
            rw [upd_ne (hx.sep.ne (show LiveC c (.ca m u) from ⟨hm, hum⟩) (show LiveC c .rc from trivial) (by simp))]
            exact s7 _ _ (hc5 j u a hj ha)
          have rcF : (upd (upd (upd H5 l (.tup (as.map fun p => .ref p.1))) b (.tup [.str "publish", .str m, .ref l])) (ad .rc) (.lst (rs ++ [.ref b]))) (ad .rc) = some (.lst (rs ++ [.ref b])) := upd_same
          generalize (upd (upd (upd H5 l (.tup (as.map fun p => .ref p.1))) b (.tup [.str "publish", .str m, .ref l])) (ad .rc) (.lst (rs ++ [.ref b]))) = HF at kF ctF hcF rcF ⊢
          have tF := kF.tup (h3.at_.ntup hL)
          have gF : ∀ {s : Sl} {o : HO}, LiveC c s → s ∉ pubL c m → H3 (ad s) = some o → HF (ad s) = some o := fun hs n e => kF _ _ e (hx.sep.out hs hL n)
          have np : ∀ s : Sl, s ≠ .ct → s ≠ .rc → (∀ u, s ≠ .ca m u) → s ∉ pubL c m := fun s n1 n2 n3 hz => by
            rcases List.mem_cons.mp hz with hz | hz
            · exact n1 hz
            · rcases List.mem_cons.mp hz with hz | hz
              · exact n2 hz
              · obtain ⟨u, _, e⟩ := List.mem_map.mp hz
                exact n3 u e.symm
          refine ⟨_, rfl, q HF (k03.tr kF) ⟨⟨⟨gF (s := .cp) trivial (np _ (by simp) (by simp) (by simp)) h3.at_.ob, gF (s := .ut) trivial (np _ (by simp) (by simp) (by simp)) h3.at_.ut, fun k hk => tF _ _ (h3.at_.us k hk), gF (s := .wt) trivial (np _ (by simp) (by simp) (by simp)) h3.at_.wt, fun p hp' => ?_, ctF, gF (s := .cw) trivial (np _ (by simp) (by simp) (by simp)) h3.at_.cw, fun k hk => gF (s := .da k) hk (np _ (by simp) (by simp) (by simp)) (h3.at_.ds k hk), ⟨_, rcF, by rw [List.length_append]; simp; omega⟩, fun k hk => Nat.le_succ_of_le (h3.at_.wl k hk)⟩, wf_pub h.wf hp, h.nm⟩, hx.sep⟩⟩
          obtain ⟨p1, u⟩ := p
          have hp2 := mem_pairs.mp (show (p1, u) ∈ c.pairs from hp')
          show ∃ refs, HF (ad (.ca p1 u)) = some (.lst refs) ∧ WinsAre HF refs (if p1 = m then c.wins p1 u ++ (((c.uses m).zip (as.map Prod.snd)).lookup u).toList else c.wins p1 u)
          by_cases e : p1 = m
          · subst e
            obtain ⟨j, hj⟩ := List.getElem?_of_mem hp2.2
            have hja : j < as.length := by have := (List.getElem?_eq_some_iff.mp hj).1; omega
            have hta : as[j]? = some as[j] := List.getElem?_eq_getElem hja
            generalize as[j] = aw at hta
            rw [if_pos rfl, lookup_zip (h.wf.und p1 hm) hj (show (as.map Prod.snd)[j]? = some aw.2 by rw [List.getElem?_map, hta]; rfl)]
            exact ⟨_, hcF j u aw hj hta, ((hcol u hp2.2).2.keep tF).snoc ⟨aw.1, rfl, tF _ _ (has3 aw (List.mem_of_getElem? hta))⟩⟩
          · rw [if_neg e]
            obtain ⟨refs, r1, r2⟩ := h3.at_.ws (p1, u) hp'
            exact ⟨refs, gF (s := .ca p1 u) hp2 (np _ (by simp) (by simp) fun z hz => e (by cases hz; rfl)) r1, r2.keep tF⟩
end
end Gs
/-! ## GsD18 -/
namespace Gs
open PySem PySem.Spec PyProof.Rows L2
section
variable {P : Program} {w : World} {K : PySem.W.Frag} {mg : Str → Option Value} {base : Heap}
/-- no version published -/
def Cat.blank (mods : List Nm) (uses : Nm → List Nm) : Cat := ⟨mods, uses, fun _ _ => [], fun _ => 0, fun _ => []⟩
def setF {α : Type} [DecidableEq α] (f : α → Addr) (a : α) (p : Addr) : α → Addr := fun x => if x = a then p else f x
theorem map_setF {α β : Type} [DecidableEq α] {l : List α} {f : α → Addr} {a : α} {p : Addr} (na : a ∉ l) (g : α → Addr → β) : (l.map fun x => g x (f x)) = l.map fun x => g x (setF f a p x) := List.map_congr_left fun x hx => by
  unfold setF
  rw [if_neg fun z : x = a => na (z ▸ hx)]
theorem putK_map {α κ : Type} [DecidableEq κ] {kf : α → κ} {vf : α → V} {l : List α} {x : α} {v : V} (inj : ∀ a b, kf a = kf b → a = b) (n : x ∉ l) : putK (l.map fun p => (kf p, vf p)) (kf x) v = (l.map fun p => (kf p, vf p)) ++ [(kf x, v)] := by
  refine putK_app v fun hz => ?_
  rw [List.map_map] at hz
  obtain ⟨q, hq, e⟩ := List.mem_map.mp hz
  exact n (inj _ _ e ▸ hq)
theorem putK_ref {α κ : Type} [DecidableEq κ] [DecidableEq α] {kf : α → κ} {f : α → Addr} {l : List α} {x : α} {q : Addr} (inj : ∀ a b, kf a = kf b → a = b) (n : x ∉ l) : putK (l.map fun p => (kf p, V.ref (f p))) (kf x) (.ref q) = (l ++ [x]).map fun p => (kf p, V.ref (setF f x q p)) := by
  rw [putK_map inj n, map_setF n (fun p a => (kf p, V.ref a)), List.map_append, List.map_singleton, show setF f x q x = q from if_pos rfl]
theorem putF_new {f : Str} {v : V} : ∀ {fs : List (Str × V)}, f ∉ fs.map (·.1) → putF f v fs = fs ++ [(f, v)]
  | [], _ => rfl
  | (g, x) :: r, h => by
    rw [List.map_cons, List.mem_cons, not_or] at h
    unfold putF
    rw [if_neg (fun e => h.1 e.symm), putF_new h.2]
    rfl
theorem lockstep {H3 H5 : Hp} {u a : Addr} {o : Obj} {kv X : HO} (hu : H3 u = some kv) (s : Sm (upd H3 u (.frz o kv)) H5) (nua : u ≠ a) : (∀ b v, H3 b = some v → b ≠ a → (upd (upd H5 a X) u kv) b = some v) ∧ (∀ b v, H5 b = some v → b ≠ a → b ≠ u → (upd (upd H5 a X) u kv) b = some v) ∧
    (upd (upd H5 a X) u kv) a = some X ∧ (upd H5 a X) u = some (.frz o kv) := by
  refine ⟨fun b v e n => ?_, fun b v e n n2 => ?_, ?_, ?_⟩
  · by_cases hb : b = u
    · rw [hb, upd_same, ← hu, ← hb, e]
    · rw [upd_ne hb, upd_ne n]
      exact s _ _ (by rw [upd_ne hb]; exact e)
  · rw [upd_ne n2, upd_ne n]
    exact e
  · rw [upd_ne nua.symm, upd_same]
  · rw [upd_ne nua]
    exact s _ _ upd_same
/-- new objects, one for each of l, none of them D -/
structure Fam {α : Type} (H1 : Hp) (D : Addr) (H : Hp) (l : List α) (f : α → Addr) (o : α → HO) : Prop where
  at_ : ∀ x ∈ l, H (f x) = some (o x)
  nw : ∀ x ∈ l, H1 (f x) = none
  ne : ∀ x ∈ l, f x ≠ D
  inj : ∀ x ∈ l, ∀ y ∈ l, f x = f y → x = y
theorem Fam.nil {α : Type} {H1 : Hp} {D : Addr} {H : Hp} {f : α → Addr} {o : α → HO} : Fam H1 D H [] f o := ⟨fun _ h => (nomatch h), fun _ h => (nomatch h), fun _ h => (nomatch h), fun _ h => (nomatch h)⟩
theorem Fam.re {α : Type} {H1 : Hp} {D : Addr} {H H2 : Hp} {l : List α} {f : α → Addr} {o : α → HO} (h : Fam H1 D H l f o) (k : ∀ x ∈ l, H2 (f x) = some (o x)) : Fam H1 D H2 l f o := ⟨k, h.nw, h.ne, h.inj⟩
theorem Fam.keep {α : Type} {H1 : Hp} {D : Addr} {H H2 : Hp} {l : List α} {f : α → Addr} {o : α → HO} (h : Fam H1 D H l f o) (k : ∀ b u, H b = some u → b ≠ D → H2 b = some u) : Fam H1 D H2 l f o :=
  ⟨fun x hx => k _ _ (h.at_ x hx) (h.ne x hx), h.nw, h.ne, h.inj⟩
theorem Fam.snoc {α : Type} [DecidableEq α] {H1 : Hp} {D : Addr} {H H2 : Hp} {l : List α} {f : α → Addr} {o : α → HO} {a : α} {p : Addr} (h : Fam H1 D H l f o) (s : ∀ b u, H1 b = some u → b ≠ D → ∃ v, H b = some v) (hp : H p = none) (k : ∀ b u, H b = some u → b ≠ D → H2 b = some u) (e : H2 p = some (o a)) (nD : p ≠ D) (na : a ∉ l) :
    Fam H1 D H2 (l ++ [a]) (setF f a p) o := by
  have hl : ∀ x ∈ l, setF f a p x = f x := fun x hx => if_neg fun z : x = a => na (z ▸ hx)
  have ha : setF f a p a = p := if_pos rfl
  have hn : H1 p = none := by
    cases q : H1 p with
    | none => rfl
    | some u =>
      obtain ⟨v, hv⟩ := s p u q nD
      rw [hp] at hv
      cases hv
  have cs : ∀ x ∈ l ++ [a], x ∈ l ∨ x = a := fun x hx => by simpa using hx
  refine ⟨fun x hx => ?_, fun x hx => ?_, fun x hx => ?_, fun x hx y hy z => ?_⟩
  · rcases cs x hx with hx | q
    · rw [hl x hx]; exact k _ _ (h.at_ x hx) (h.ne x hx)
    · rw [q, ha]; exact e
  · rcases cs x hx with hx | q
    · rw [hl x hx]; exact h.nw x hx
    · rw [q, ha]; exact hn
  · rcases cs x hx with hx | q
    · rw [hl x hx]; exact h.ne x hx
    · rw [q, ha]; exact nD
  · rcases cs x hx with hx | q
    · rcases cs y hy with hy | q2
      · rw [hl x hx, hl y hy] at z
        exact h.inj x hx y hy z
      · rw [hl x hx, q2, ha] at z
        have := h.at_ x hx
        rw [z, hp] at this
        cases this
    · rcases cs y hy with hy | q2
      · rw [hl y hy, q, ha] at z
        have := h.at_ y hy
        rw [← z, hp] at this
        cases this
      · rw [q, q2]
theorem nin_take {α : Type} {l : List α} (hn : l.Nodup) {i : Nat} {t : α} (ht : l[i]? = some t) : t ∉ l.take i := fun hk => by
  have e2 := List.take_append_drop i l
  rw [← e2] at hn
  refine (List.nodup_append.mp hn).2.2 t hk t ?_ rfl
  have e3 : (l.drop i)[0]? = some t := by rw [List.getElem?_drop]; exact ht
  exact List.mem_of_getElem? e3
theorem CatAt.inj {C : Addr} {H : Hp} {ad : Ad} {rn : Nat} {c : Cat} (h : CatAt C H ad rn c) (n1 : ad .ut ≠ ad .ct) (n2 : ad .ut ≠ ad .cw) (n3 : ad .ct ≠ ad .cw) (n4 : ∀ m ∈ c.mods, ad (.da m) ≠ ad .ut ∧ ad (.da m) ≠ ad .ct ∧ ad (.da m) ≠ ad .cw)
    (n5 : ∀ m u, m ∈ c.mods → u ∈ c.uses m → ad (.ca m u) ≠ ad .rc) (n6 : ∀ m ∈ c.mods, ∀ k ∈ c.mods, ad (.da m) = ad (.da k) → m = k) (n7 : ∀ m u k v, m ∈ c.mods → u ∈ c.uses m → k ∈ c.mods → v ∈ c.uses k → ad (.ca m u) = ad (.ca k v) → m = k ∧ u = v) : Inj ad (LiveC c) := by
  obtain ⟨rs, hrc, _⟩ := h.rc
  have hca : ∀ m u, m ∈ c.mods → u ∈ c.uses m → ∃ refs, H (ad (.ca m u)) = some (.lst refs) := fun m u h1 h2 => let ⟨r, e, _⟩ := h.ws (m, u) (mem_pairs.mpr ⟨h1, h2⟩); ⟨r, e⟩
  have cl : ∀ {x y : Sl} {o o' : HO}, ad x = ad y → H (ad x) = some o → H (ad y) = some o' → o ≠ o' → x = y := fun e e1 e2 n => by
    rw [e, e2] at e1
    exact absurd (Option.some.inj e1).symm n
  intro s t hs ht e
  cases s with
  | cp =>
    cases t with
    | cp => rfl
    | ut => exact cl e h.ob h.ut (fun z => nomatch z)
    | wt => exact cl e h.ob h.wt (fun z => nomatch z)
    | ct => exact cl e h.ob h.ct (fun z => nomatch z)
    | cw => exact cl e h.ob h.cw (fun z => nomatch z)
    | rc => exact cl e h.ob hrc (fun z => nomatch z)
    | da m => exact cl e h.ob (h.ds m ht) (fun z => nomatch z)
    | ca m u => obtain ⟨r, hr⟩ := hca m u ht.1 ht.2; exact cl e h.ob hr (fun z => nomatch z)
    | _ => exact ht.elim
  | ut =>
    cases t with
    | ut => rfl
    | cp => exact cl e h.ut h.ob (fun z => nomatch z)
    | wt => exact cl e h.ut h.wt (fun z => nomatch z)
    | ct => exact absurd e n1
    | cw => exact absurd e n2
    | rc => exact cl e h.ut hrc (fun z => nomatch z)
    | da m => exact absurd e.symm (n4 m ht).1
    | ca m u => obtain ⟨r, hr⟩ := hca m u ht.1 ht.2; exact cl e h.ut hr (fun z => nomatch z)
    | _ => exact ht.elim
  | wt =>
    cases t with
    | wt => rfl
    | cp => exact cl e h.wt h.ob (fun z => nomatch z)
    | ut => exact cl e h.wt h.ut (fun z => nomatch z)
    | ct => exact cl e h.wt h.ct (fun z => nomatch z)
    | cw => exact cl e h.wt h.cw (fun z => nomatch z)
    | rc => exact cl e h.wt hrc (fun z => nomatch z)
    | da m => exact cl e h.wt (h.ds m ht) (fun z => nomatch z)
    | ca m u => obtain ⟨r, hr⟩ := hca m u ht.1 ht.2; exact cl e h.wt hr (fun z => nomatch z)
    | _ => exact ht.elim
  | ct =>
    cases t with
    | ct => rfl
    | cp => exact cl e h.ct h.ob (fun z => nomatch z)
    | wt => exact cl e h.ct h.wt (fun z => nomatch z)
    | ut => exact absurd e.symm n1
    | cw => exact absurd e n3
    | rc => exact cl e h.ct hrc (fun z => nomatch z)
    | da m => exact absurd e.symm (n4 m ht).2.1
    | ca m u => obtain ⟨r, hr⟩ := hca m u ht.1 ht.2; exact cl e h.ct hr (fun z => nomatch z)
    | _ => exact ht.elim
  | cw =>
    cases t with
    | cw => rfl
    | cp => exact cl e h.cw h.ob (fun z => nomatch z)
    | wt => exact cl e h.cw h.wt (fun z => nomatch z)
    | ut => exact absurd e.symm n2
    | ct => exact absurd e.symm n3
    | rc => exact cl e h.cw hrc (fun z => nomatch z)
    | da m => exact absurd e.symm (n4 m ht).2.2
    | ca m u => obtain ⟨r, hr⟩ := hca m u ht.1 ht.2; exact cl e h.cw hr (fun z => nomatch z)
    | _ => exact ht.elim
  | rc =>
    cases t with
    | rc => rfl
    | cp => exact cl e hrc h.ob (fun z => nomatch z)
    | ut => exact cl e hrc h.ut (fun z => nomatch z)
    | wt => exact cl e hrc h.wt (fun z => nomatch z)
    | ct => exact cl e hrc h.ct (fun z => nomatch z)
    | cw => exact cl e hrc h.cw (fun z => nomatch z)
    | da m => exact cl e hrc (h.ds m ht) (fun z => nomatch z)
    | ca m u => exact absurd e.symm (n5 m u ht.1 ht.2)
    | _ => exact ht.elim
  | da k =>
    have hk := h.ds k hs
    cases t with
    | da m => rw [n6 k hs m ht e]
    | cp => exact cl e hk h.ob (fun z => nomatch z)
    | wt => exact cl e hk h.wt (fun z => nomatch z)
    | ut => exact absurd e (n4 k hs).1
    | ct => exact absurd e (n4 k hs).2.1
    | cw => exact absurd e (n4 k hs).2.2
    | rc => exact cl e hk hrc (fun z => nomatch z)
    | ca m u => obtain ⟨r, hr⟩ := hca m u ht.1 ht.2; exact cl e hk hr (fun z => nomatch z)
    | _ => exact ht.elim
  | ca k v =>
    obtain ⟨r0, hk⟩ := hca k v hs.1 hs.2
    cases t with
    | ca m u =>
      obtain ⟨e1, e2⟩ := n7 k v m u hs.1 hs.2 ht.1 ht.2 e
      rw [e1, e2]
    | cp => exact cl e hk h.ob (fun z => nomatch z)
    | wt => exact cl e hk h.wt (fun z => nomatch z)
    | ut => exact cl e hk h.ut (fun z => nomatch z)
    | ct => exact cl e hk h.ct (fun z => nomatch z)
    | cw => exact cl e hk h.cw (fun z => nomatch z)
    | rc => exact absurd e (n5 k v hs.1 hs.2)
    | da m => exact cl e hk (h.ds m ht) (fun z => nomatch z)
    | _ => exact ht.elim
  | _ => exact hs.elim
theorem ok_Catalog_init (T : Txt K mg) : FnOk P w K mg base CX0 7 T.d_Catalog_init.f T.d_Catalog_init.fd ["self", "uses"] (fun vs H Q _ => ∃ (a dx u : Addr) (mods : List Nm) (uses : Nm → List Nm) (ua : Nm → Addr), vs = [.ref a, .ref u] ∧ H a = some (.ins T.C dx []) ∧ (Cat.blank mods uses).WF ∧ (∀ m ∈ mods, NmOk m) ∧
    H u = some (.dK (mods.map fun m => (.inr m, .ref (ua m)))) ∧ (∀ m ∈ mods, H (ua m) = some (.tup ((uses m).map V.str))) ∧ (mods.map fun m => (uses m).length).sum ≤ 40 ∧
    ∀ H' ad, Kp [a] H H' → ad .cp = a → (∀ m ∈ mods, ad (.ua m) = ua m) → CatX T H' ad 0 (Cat.blank mods uses) → (∀ s, LiveC (Cat.blank mods uses) s → s ≠ .cp → H (ad s) = none) → Q .non H') := by
  have nd := sc_Catalog_init.nd
  refine T.d_Catalog_init.F.ok sc_Catalog_init (fun vs H Q E h => ?_) (fun cdv A outer s H vs Q E hr h => ?_)
  · obtain ⟨a, dx, u, mods, uses, ua, rfl, _⟩ := h; rfl
  · obtain ⟨a, dx, u, mods, uses, ua, rfl, ha, wf, nm, hut, hus, h40, q⟩ := h
    have hu := hu_of hr
    have hs : sizeLine = 16777216 := sizeLine_eq
    have h12 := wf.few
    have wnd : mods.Nodup := wf.nd
    refine ⟨_, (pss_cons (ps_expr (pcall (ok_check_uses T) T.d_check_uses.M (hr.mono (by decide)) (pa_cons (pv 1) pa_nil)))
      (pss_cons (ps_fld (pv 0) (pe_callTy (T := "dict") call_dictD (by rfl) T.b_dict (by decide +kernel) (pa_cons (pv 1) pa_nil)) rfl)
      (pss_cons (ps_lock (ps_fld (pv 0) (pe_dg2 (own := [("user", 2), ("names", 3), ("used", 4)]) (vs1 := [4]) (g1 := (gName 4)) (wi1 := iTup K (tVar 3)) (tt := tYes) (tt1 := tYes) (g := (gTup K 2 (gCons (gName 2) (gCons (gName 3) gNil)))) (.dT []) (.inr rfl) hu rfl nd (pi_items (pv 1)) (blkOk_by (N := N_Catalog_init) (sc := defScope s_Catalog_init) (by decide +kernel)) (by decide) (fun _ _ _ _ _ => (pg_tup rfl (pgs_cons (pg_name (i := 2) nd rfl (.inl rfl)) (pgs_cons (pg_name (i := 3) nd rfl (.inl rfl)) pgs_nil)))) (fun _ _ _ _ _ => pts_nil) (fun _ _ _ _ _ => (pi_tup (pv 3))) (fun _ _ _ _ _ => (pg_name (i := 4) nd rfl (.inl rfl))) (fun _ _ _ _ _ => pts_nil) (fun _ _ _ _ _ => (pe_tup (pa_cons (pv 2) (pa_cons (pv 4) pa_nil)))) (fun _ _ _ _ _ => (pe_lst pa_nil))) rfl))
      (pss_cons (ps_lock (ps_fld (pv 0) (pe_dg (own := [("module", 5)]) (tt := tYes) (g := (gName 5)) (.dK []) (.inl rfl) hu rfl nd (pi_keys (pv 1)) (blkOk_by (N := N_Catalog_init) (sc := defScope s_Catalog_init) (by decide +kernel)) (fun _ _ _ _ _ => (pg_name (i := 5) nd rfl (.inl rfl))) (fun _ _ _ _ _ => pts_nil) (fun _ _ _ _ _ => (pv 5)) (fun _ _ _ _ _ => pe_int)) rfl))
      (pss_cons (ps_lock (ps_fld (pv 0) (pe_dg (own := [("module", 5)]) (tt := tYes) (g := (gName 5)) (.dK []) (.inl rfl) hu rfl nd (pi_keys (pv 1)) (blkOk_by (N := N_Catalog_init) (sc := defScope s_Catalog_init) (by decide +kernel)) (fun _ _ _ _ _ => (pg_name (i := 5) nd rfl (.inl rfl))) (fun _ _ _ _ _ => pts_nil) (fun _ _ _ _ _ => (pv 5)) (fun _ _ _ _ _ => pe_dnewK)) rfl))
      (pss_one (ps_fld (pv 0) (pe_lst pa_nil) rfl))))))), ?_⟩
    refine ⟨_, rfl, u, mods, uses, ua, rfl, hut, fun m hm => ⟨hus m hm, nm m hm, wf.sub m hm, wf.und m hm, wf.self m hm⟩, wf.ne, h12, h40, fun H1 s1 => ?_⟩
    have ha1 := s1 _ _ ha
    have hut1 := s1 _ _ hut
    refine ⟨_, rfl, u, _, rfl, .inl hut1, fun U nU => ?_⟩
    have s2 : Sm H1 (upd H1 U (.dK (mods.map fun m => ((.inr m : Key), V.ref (ua m))))) := Sm.rf.up nU
    refine ⟨_, rfl, a, T.C, dx, _, rfl, s2 _ _ ha1, T.cl, T.nU, (by show 0 < 1000; decide), ?_⟩
    rw [show putF "use_table" (V.ref U) [] = [(("use_table" : Str), V.ref U)] from rfl]
    have nUa : U ≠ a := (ne_of_none ha1 nU).symm
    have nua : u ≠ a := ne_of hut1 ha1 (fun z => nomatch z)
    have k3 : Kp [a] H (upd (upd H1 U (.dK (mods.map fun m => ((.inr m : Key), V.ref (ua m))))) a (.ins T.C dx [(("use_table" : Str), V.ref U)])) := (Kp.of (s1.tr s2)).up List.mem_cons_self
    have hU3 : (upd (upd H1 U (.dK (mods.map fun m => ((.inr m : Key), V.ref (ua m))))) a (.ins T.C dx [(("use_table" : Str), V.ref U)])) U = some (.dK (mods.map fun m => ((.inr m : Key), V.ref (ua m)))) := by rw [upd_ne nUa, upd_same]
    have ha3 : (upd (upd H1 U (.dK (mods.map fun m => ((.inr m : Key), V.ref (ua m))))) a (.ins T.C dx [(("use_table" : Str), V.ref U)])) a = some (.ins T.C dx [(("use_table" : Str), V.ref U)]) := upd_same
    have hut3 : (upd (upd H1 U (.dK (mods.map fun m => ((.inr m : Key), V.ref (ua m))))) a (.ins T.C dx [(("use_table" : Str), V.ref U)])) u = some (.dK (mods.map fun m => ((.inr m : Key), V.ref (ua m)))) := by rw [upd_ne nua]; exact s2 _ _ hut1
    have hnU : H U = none := s1.un nU
    generalize (upd (upd H1 U (.dK (mods.map fun m => ((.inr m : Key), V.ref (ua m))))) a (.ins T.C dx [(("use_table" : Str), V.ref U)])) = H3 at k3 hU3 ha3 hut3 ⊢
    clear s2 nU ha1 hut1 s1
    have hus3 : ∀ m ∈ mods, H3 (ua m) = some (.tup ((uses m).map V.str)) := fun m hm => k3 _ _ (hus m hm) (by simp; exact ne_of (hus m hm) ha (fun z => nomatch z))
    have nUu : U ≠ u := fun z => by rw [z, hut] at hnU; cases hnU
    -- the table of windows
    refine ⟨u, _, hut3, trivial, fun o => ?_⟩
    have e4 : ∀ b w, H3 b = some w → b ≠ u → (upd H3 u (.frz o (.dK (mods.map fun m => ((.inr m : Key), V.ref (ua m)))))) b = some w := fun b w e n => by rw [upd_ne n]; exact e
    have hfz : (upd H3 u (.frz o (.dK (mods.map fun m => ((.inr m : Key), V.ref (ua m)))))) u = some (.frz o (.dK (mods.map fun m => ((.inr m : Key), V.ref (ua m))))) := upd_same
    refine ⟨_, rfl, u, o, _, rfl, hfz, fun W nW => ?_⟩
    have wk := walk_items (d := u) (o := o) (kvs := mods.map fun m => ((.inr m : Key), V.ref (ua m)))
    rw [List.length_map] at wk
    have nWu : W ≠ u := fun z => by rw [z, hfz] at nW; cases nW
    have hpl : (mods.flatMap fun m => (uses m).map fun v => (m, v)).length ≤ 144 := pairs_len wf
    have hus4 : ∀ m ∈ mods, (upd H3 u (.frz o (.dK (mods.map fun m => ((.inr m : Key), V.ref (ua m)))))) (ua m) = some (.tup ((uses m).map V.str)) := fun m hm => e4 _ _ (hus3 m hm) (ne_of (hus3 m hm) hut3 (fun z => nomatch z))
    have hU4 := e4 _ _ hU3 nUu
    have ha4 := e4 _ _ ha3 nua.symm
    generalize hH4 : upd H3 u (.frz o (.dK (mods.map fun m => ((.inr m : Key), V.ref (ua m))))) = H4 at nW hfz hus4 hU4 ha4 ⊢
    refine walk_it wk (fun i H' => Sm H4 H' ∧ ∃ f : Nm × Nm → Addr, H' W = some (.dT (((mods.take i).flatMap fun m => (uses m).map fun v => (m, v)).map fun p => (pk p, .ref (f p)))) ∧ Fam H4 W H' ((mods.take i).flatMap fun m => (uses m).map fun v => (m, v)) f (fun _ => .lst [])) ⟨Sm.rf.up nW, fun _ => 0, upd_same, .nil⟩ (fun i H' _ p => p.1 _ _ hfz) (fun i x H5 H6 hi p y => ?_) (fun H5 p => ?_)
    · obtain ⟨s5, f, hW5, F5⟩ := p
      obtain ⟨Tp, x1, x2, rfl, nT, rfl, ea, eb⟩ := y
      have ht : mods[i]? = some mods[i] := List.getElem?_eq_getElem hi
      generalize mods[i] = m at ht
      have ea : x1 = V.str m := pickK ht ea
      have eb := pickV ht eb
      subst ea eb
      have hm := List.mem_of_getElem? ht
      have s6 : Sm H5 (upd H5 Tp (.tup [V.str m, V.ref (ua m)])) := Sm.rf.up nT
      refine ⟨Tp, _, rfl, SqT.of upd_same, rfl, _, _, rfl, _, _, rfl, rfl, rfl, _, rfl, _, rfl, ⟨_, SqT.of (s6 _ _ (s5 _ _ (hus4 m hm)))⟩, ?_⟩
      have wk2 := walk_tup (K := K) (a := ua m) (xs := (uses m).map V.str)
      rw [List.length_map] at wk2
      rw [flatMap_take ht]
      refine walk_it wk2 (fun j H' => Sm H4 H' ∧ ∃ f : Nm × Nm → Addr, H' W = some (.dT (((mods.take i).flatMap (fun m => (uses m).map fun v => (m, v)) ++ ((uses m).take j).map fun v => (m, v)).map fun p => (pk p, .ref (f p)))) ∧ Fam H4 W H' ((mods.take i).flatMap (fun m => (uses m).map fun v => (m, v)) ++ ((uses m).take j).map fun v => (m, v)) f (fun _ => .lst [])) ⟨s5.tr s6, f, ?_, ?_⟩ (fun j H' _ p => SqT.of (p.1 _ _ (hus4 m hm))) (fun j x H7 H8 hj p y => ?_) (fun H7 p => ?_)
      · rw [List.take_zero, List.map_nil, List.append_nil]
        exact s6 _ _ hW5
      · rw [List.take_zero, List.map_nil, List.append_nil]
        exact F5.keep fun b w e _ => s6 _ _ e
      · obtain ⟨s7, f, hW7, F7⟩ := p
        obtain ⟨rfl, hx⟩ := y
        have hv : (uses m)[j]? = some (uses m)[j] := List.getElem?_eq_getElem hj
        generalize (uses m)[j] = v at hv
        have hx := pick1 hv hx
        subst hx
        have hnin : (m, v) ∉ (mods.take i).flatMap (fun m => (uses m).map fun v => (m, v)) ++ ((uses m).take j).map fun v => (m, v) := fun hz => by
          rcases List.mem_append.mp hz with hz | hz
          · obtain ⟨k, hk, hz⟩ := List.mem_flatMap.mp hz
            obtain ⟨_, _, e⟩ := List.mem_map.mp hz
            cases e
            exact nin_take wnd ht hk
          · obtain ⟨_, hk, e⟩ := List.mem_map.mp hz
            cases e
            exact nin_take (wf.und m hm) hv hk
        refine ⟨rfl, _, rfl, _, rfl, (by show 2 ≤ sizeLine; omega), fun b nb => ⟨(by show 0 ≤ sizeLine; omega), fun p np => ?_⟩⟩
        have s8 : Sm H8 (upd H8 b (.tup [.str m, .str v])) := Sm.rf.up nb
        have s9 : Sm H8 (upd (upd H8 b (.tup [.str m, .str v])) p (.lst [])) := s8.up np
        have hb9 : (upd (upd H8 b (.tup [.str m, .str v])) p (.lst [])) b = some (.tup ((pk (m, v)).map kV)) := by rw [upd_ne (ne_of_none upd_same np), upd_same]; rfl
        have hp9 : (upd (upd H8 b (.tup [.str m, .str v])) p (.lst [])) p = some (.lst []) := upd_same
        have npW : p ≠ W := (ne_of_none (s8 _ _ hW7) np).symm
        have nb8 : H8 p = none := s8.un np
        generalize (upd (upd H8 b (.tup [.str m, .str v])) p (.lst [])) = H9 at s9 hb9 hp9 ⊢
        have hle : (((mods.take i).flatMap (fun m => (uses m).map fun v => (m, v)) ++ ((uses m).take j).map fun v => (m, v))).length < sizeLine := by
          have e1 : (mods.flatMap fun m => (uses m).map fun v => (m, v)) = (mods.take (i + 1)).flatMap (fun m => (uses m).map fun v => (m, v)) ++ (mods.drop (i + 1)).flatMap fun m => (uses m).map fun v => (m, v) := by
            rw [← List.flatMap_append, List.take_append_drop]
          have e2 := congrArg List.length e1
          rw [flatMap_take ht, List.length_append, List.length_append, List.length_map] at e2
          rw [List.length_append, List.length_map, List.length_take]
          omega
        have eL : (mods.take i).flatMap (fun m => (uses m).map fun v => (m, v)) ++ ((uses m).take (j + 1)).map (fun v => (m, v)) = ((mods.take i).flatMap (fun m => (uses m).map fun v => (m, v)) ++ ((uses m).take j).map fun v => (m, v)) ++ [(m, v)] := by
          rw [take_snoc hv, List.map_append, List.append_assoc]
          rfl
        rw [eL]
        generalize (mods.take i).flatMap (fun m => (uses m).map fun v => (m, v)) ++ ((uses m).take j).map (fun v => (m, v)) = LL at hnin hW7 F7 hle ⊢
        refine ⟨_, DPut.t (k := pk (m, v)) (s9 _ _ hW7) hb9 (by rw [List.length_map]; exact hle), (s7.tr s9).set nW, setF f (m, v) p, ?_, ?_⟩
        · rw [upd_same, putK_ref (fun _ _ e => pk_inj e) hnin]
        · refine F7.snoc (fun b w e _ => ⟨w, s7 _ _ e⟩) nb8 (fun b w e n => ?_) ?_ npW hnin
          · rw [upd_ne n]
            exact s9 _ _ e
          · rw [upd_ne npW]
            exact hp9
      · obtain ⟨s7, f, hW7, F7⟩ := p
        rw [List.take_length] at hW7 F7
        exact ⟨s7, f, hW7, F7⟩
    · obtain ⟨s5, caf, hW5, F5⟩ := p
      rw [List.take_length] at hW5 F5
      have pf : putF "window_table" (.ref W) [(("use_table" : Str), V.ref U)] = [(("use_table" : Str), V.ref U), (("window_table" : Str), V.ref W)] := putF_new (by show ¬ (("window_table" : Str) ∈ [("use_table" : Str)]); decide)
      subst hH4
      obtain ⟨l1, l2, l3, l4⟩ := lockstep (X := .ins T.C dx [(("use_table" : Str), V.ref U), (("window_table" : Str), V.ref W)]) hut3 s5 nua
      refine ⟨_, rfl, a, T.C, dx, _, rfl, s5 _ _ ha4, T.cl, T.nW, (by show 1 < 1000; decide), ?_⟩
      rw [pf]
      refine ⟨l4, ?_⟩
      have nWa : W ≠ a := (ne_of_none ha4 nW).symm
      have hW7 := l2 _ _ hW5 nWa nWu
      have F7 := F5.re (H2 := upd (upd H5 a (.ins T.C dx [(("use_table" : Str), V.ref U), (("window_table" : Str), V.ref W)])) u (.dK (mods.map fun m => ((.inr m : Key), V.ref (ua m))))) fun x hx => l2 _ _ (F5.at_ x hx) (ne_of (F5.at_ x hx) (s5 _ _ ha4) (fun z => nomatch z)) (ne_of (F5.at_ x hx) (s5 _ _ hfz) (fun z => nomatch z))
      have k7 : Kp [a] H (upd (upd H5 a (.ins T.C dx [(("use_table" : Str), V.ref U), (("window_table" : Str), V.ref W)])) u (.dK (mods.map fun m => ((.inr m : Key), V.ref (ua m))))) := k3.tr fun b v e n => l1 b v e (by simpa using n)
      have hU7 := l1 _ _ hU3 nUa
      have hut7 := l1 _ _ hut3 nua
      have hnW : H3 W = none := by rw [upd_ne nWu] at nW; exact nW
      have caN : ∀ p ∈ mods.flatMap (fun m => (uses m).map fun v => (m, v)), H3 (caf p) = none := fun p hp => by
        have := F5.nw p hp
        rwa [upd_ne (ne_of (F5.at_ p hp) (s5 _ _ hfz) (fun z => nomatch z))] at this
      generalize (upd (upd H5 a (.ins T.C dx [(("use_table" : Str), V.ref U), (("window_table" : Str), V.ref W)])) u (.dK (mods.map fun m => ((.inr m : Key), V.ref (ua m))))) = H7 at l3 hW7 F7 k7 hU7 hut7 ⊢
      have caI := F7.inj
      have caA := F7.at_
      clear l1 l2 l4 F5 F7 hW5 s5 hfz hus4 hU4 ha4 e4 nW
      -- the counts
      refine ⟨u, _, hut7, trivial, fun o2 => ?_⟩
      refine ⟨_, rfl, u, o2, rfl, .inl ⟨_, upd_same, fun C nC => ?_⟩⟩
      have nCu : C ≠ u := fun z => by rw [z, upd_same] at nC; cases nC
      have wkk : ∀ o, Walk (Itk u o (mods.map fun m => ((.inr m : Key), V.ref (ua m)))) mods.length (fun H => H u = some (.frz o (.dK (mods.map fun m => ((.inr m : Key), V.ref (ua m)))))) (fun i H x H' => H' = H ∧ ∃ k v, (mods.map fun m => ((.inr m : Key), V.ref (ua m)))[i]? = some (k, v) ∧ x = kV k) := fun o => by
        have := walk_keys (d := u) (o := o) (kvs := mods.map fun m => ((.inr m : Key), V.ref (ua m)))
        rwa [List.length_map] at this
      refine dg_it (wkk o2) (fun i H' => Sm (upd H7 u (.frz o2 (.dK (mods.map fun m => ((.inr m : Key), V.ref (ua m)))))) H' ∧ H' C = some (.dK ((mods.take i).map fun m => ((.inr m : Key), V.int 0)))) ⟨Sm.rf.up nC, upd_same⟩ (fun i H' _ p => p.1 _ _ upd_same) (fun i x H8 H9 hi p y => ?_) (fun H8 p => ?_)
      · obtain ⟨s8, hC8⟩ := p
        obtain ⟨rfl, k, v, hk, rfl⟩ := y
        have ht : mods[i]? = some mods[i] := List.getElem?_eq_getElem hi
        generalize mods[i] = m at ht
        rw [map_pick (kf := fun m => (.inr m : Key)) (vf := fun m => V.ref (ua m)) ht] at hk
        cases hk
        refine ⟨rfl, _, rfl, _, DPut.k (k := .inr m) hC8 (by rw [List.length_map, List.length_take]; have : mods.length ≤ 12 := h12; omega), s8.set nC, ?_⟩
        rw [upd_same, take_snoc ht, List.map_append, putK_map (kf := fun m => (.inr m : Key)) (vf := fun _ => V.int 0) inr_inj (nin_take wnd ht)]
        rfl
      · obtain ⟨s8, hC8⟩ := p
        rw [List.take_length] at hC8
        have pf2 : putF "count_table" (.ref C) [(("use_table" : Str), V.ref U), (("window_table" : Str), V.ref W)] = [(("use_table" : Str), V.ref U), (("window_table" : Str), V.ref W), (("count_table" : Str), V.ref C)] := putF_new (by show ¬ (("count_table" : Str) ∈ [("use_table" : Str), "window_table"]); decide)
        obtain ⟨l1, l2, l4, l5⟩ := lockstep (X := .ins T.C dx [(("use_table" : Str), V.ref U), (("window_table" : Str), V.ref W), (("count_table" : Str), V.ref C)]) hut7 s8 nua
        have ha8 : H8 a = _ := s8 _ _ (show (upd H7 u (.frz o2 (.dK (mods.map fun m => ((.inr m : Key), V.ref (ua m)))))) a = _ by rw [upd_ne nua.symm]; exact l3)
        have nC7 : H7 C = none := by rw [upd_ne nCu] at nC; exact nC
        have nCa : C ≠ a := (ne_of_none l3 nC7).symm
        refine ⟨_, rfl, a, T.C, dx, _, rfl, ha8, T.cl, T.nC, (by show 2 < 1000; decide), ?_⟩
        rw [pf2]
        refine ⟨l5, ?_⟩
        have hC9 := l2 _ _ hC8 nCa nCu
        have hW9 := l1 _ _ hW7 nWa
        have hU9 := l1 _ _ hU7 nUa
        have hut9 := l1 _ _ hut7 nua
        have caA9 := fun x hx => l1 _ _ (caA x hx) (ne_of (caA x hx) l3 (fun z => nomatch z))
        have k9 : Kp [a] H (upd (upd H8 a (.ins T.C dx [(("use_table" : Str), V.ref U), (("window_table" : Str), V.ref W), (("count_table" : Str), V.ref C)])) u (.dK (mods.map fun m => ((.inr m : Key), V.ref (ua m))))) := k7.tr fun b v e n => l1 b v e (by simpa using n)
        have nUC : U ≠ C := ne_of_none hU7 nC7
        have hnC : H C = none := by
          cases z : H C with
          | none => rfl
          | some w => rw [k7 _ _ z (by simpa using nCa)] at nC7; cases nC7
        generalize (upd (upd H8 a (.ins T.C dx [(("use_table" : Str), V.ref U), (("window_table" : Str), V.ref W), (("count_table" : Str), V.ref C)])) u (.dK (mods.map fun m => ((.inr m : Key), V.ref (ua m))))) = H9 at l4 hC9 hW9 hU9 hut9 caA9 k9 ⊢
        clear l1 l2 l5 hC8 s8 ha8 hW7 hU7 hut7 caA l3 k7 nC nC7
        -- the withdrawn
        refine ⟨u, _, hut9, trivial, fun o3 => ?_⟩
        refine ⟨_, rfl, u, o3, rfl, .inl ⟨_, upd_same, fun D nD => ?_⟩⟩
        have nDu : D ≠ u := fun z => by rw [z, upd_same] at nD; cases nD
        refine dg_it (wkk o3) (fun i H' => Sm (upd H9 u (.frz o3 (.dK (mods.map fun m => ((.inr m : Key), V.ref (ua m)))))) H' ∧ ∃ g : Nm → Addr, H' D = some (.dK ((mods.take i).map fun m => ((.inr m : Key), V.ref (g m)))) ∧ Fam (upd H9 u (.frz o3 (.dK (mods.map fun m => ((.inr m : Key), V.ref (ua m)))))) D H' (mods.take i) g (fun _ => .dK [])) ⟨Sm.rf.up nD, fun _ => 0, upd_same, .nil⟩ (fun i H' _ p => p.1 _ _ upd_same) (fun i x H10 H11 hi p y => ?_) (fun H10 p => ?_)
        · obtain ⟨s10, g, hD10, F10⟩ := p
          obtain ⟨rfl, k, v, hk, rfl⟩ := y
          have ht : mods[i]? = some mods[i] := List.getElem?_eq_getElem hi
          generalize mods[i] = m at ht
          rw [map_pick (kf := fun m => (.inr m : Key)) (vf := fun m => V.ref (ua m)) ht] at hk
          cases hk
          refine ⟨rfl, _, rfl, fun p np => ?_⟩
          have npD : p ≠ D := (ne_of_none hD10 np).symm
          have s11 : Sm H11 (upd H11 p (.dK [])) := Sm.rf.up np
          refine ⟨_, DPut.k (k := .inr m) (s11 _ _ hD10) (by rw [List.length_map, List.length_take]; have : mods.length ≤ 12 := h12; omega), (s10.tr s11).set nD, setF g m p, ?_, ?_⟩
          · rw [upd_same, take_snoc ht, putK_ref inr_inj (nin_take wnd ht)]
          · rw [take_snoc ht]
            refine F10.snoc (fun b w e _ => ⟨w, s10 _ _ e⟩) np (fun b w e n => ?_) ?_ npD (nin_take wnd ht)
            · rw [upd_ne n]
              exact s11 _ _ e
            · rw [upd_ne npD, upd_same]
        · obtain ⟨s10, daf, hD10, F10⟩ := p
          rw [List.take_length] at hD10 F10
          have pf3 : putF "withdrawn_table" (.ref D) [(("use_table" : Str), V.ref U), (("window_table" : Str), V.ref W), (("count_table" : Str), V.ref C)] = [(("use_table" : Str), V.ref U), (("window_table" : Str), V.ref W), (("count_table" : Str), V.ref C), (("withdrawn_table" : Str), V.ref D)] := putF_new (by show ¬ (("withdrawn_table" : Str) ∈ [("use_table" : Str), "window_table", "count_table"]); decide)
          obtain ⟨l1, l2, l6, l5⟩ := lockstep (X := .ins T.C dx [(("use_table" : Str), V.ref U), (("window_table" : Str), V.ref W), (("count_table" : Str), V.ref C), (("withdrawn_table" : Str), V.ref D)]) hut9 s10 nua
          have ha10 : H10 a = _ := s10 _ _ (show (upd H9 u (.frz o3 (.dK (mods.map fun m => ((.inr m : Key), V.ref (ua m)))))) a = _ by rw [upd_ne nua.symm]; exact l4)
          have nD9 : H9 D = none := by rw [upd_ne nDu] at nD; exact nD
          have nDa : D ≠ a := (ne_of_none l4 nD9).symm
          refine ⟨_, rfl, a, T.C, dx, _, rfl, ha10, T.cl, T.nD, (by show 3 < 1000; decide), ?_⟩
          rw [pf3]
          refine ⟨l5, ?_⟩
          have lf : ∀ m ∈ mods, daf m ≠ a ∧ daf m ≠ u ∧ H9 (daf m) = none := fun m hm => by
            have h1 : daf m ≠ u := fun z => by have := F10.nw m hm; rw [z, upd_same] at this; cases this
            have h2 := F10.nw m hm
            rw [upd_ne h1] at h2
            exact ⟨(ne_of_none l4 h2).symm, h1, h2⟩
          have daA := fun m hm => l2 _ _ (F10.at_ m hm) (lf m hm).1 (lf m hm).2.1
          have hD11 := l2 _ _ hD10 nDa nDu
          have hC11 := l1 _ _ hC9 nCa
          have hW11 := l1 _ _ hW9 nWa
          have hU11 := l1 _ _ hU9 nUa
          have caA11 := fun x hx => l1 _ _ (caA9 x hx) (ne_of (caA9 x hx) l4 (fun z => nomatch z))
          have k11 : Kp [a] H (upd (upd H10 a (.ins T.C dx [(("use_table" : Str), V.ref U), (("window_table" : Str), V.ref W), (("count_table" : Str), V.ref C), (("withdrawn_table" : Str), V.ref D)])) u (.dK (mods.map fun m => ((.inr m : Key), V.ref (ua m))))) := k9.tr fun b v e n => l1 b v e (by simpa using n)
          have nUD : U ≠ D := ne_of_none hU9 nD9
          have nCD : C ≠ D := ne_of_none hC9 nD9
          have hno : ∀ b, H9 b = none → b ≠ a → H b = none := fun b e n => by
            cases z : H b with
            | none => rfl
            | some w => rw [k9 _ _ z (by simpa using n)] at e; cases e
          generalize (upd (upd H10 a (.ins T.C dx [(("use_table" : Str), V.ref U), (("window_table" : Str), V.ref W), (("count_table" : Str), V.ref C), (("withdrawn_table" : Str), V.ref D)])) u (.dK (mods.map fun m => ((.inr m : Key), V.ref (ua m))))) = H11 at l6 daA hD11 hC11 hW11 hU11 caA11 k11 ⊢
          -- the record
          refine ⟨(by show 0 ≤ sizeLine; omega), fun R nR => ?_⟩
          have s12 : Sm H11 (upd H11 R (.lst [])) := Sm.rf.up nR
          refine ⟨_, rfl, a, T.C, dx, _, rfl, s12 _ _ l6, T.cl, T.nR, (by show 4 < 1000; decide), ?_⟩
          have pf4 : putF "record" (.ref R) [(("use_table" : Str), V.ref U), (("window_table" : Str), V.ref W), (("count_table" : Str), V.ref C), (("withdrawn_table" : Str), V.ref D)] = [(("use_table" : Str), V.ref U), (("window_table" : Str), V.ref W), (("count_table" : Str), V.ref C), (("withdrawn_table" : Str), V.ref D), (("record" : Str), V.ref R)] := putF_new (by show ¬ (("record" : Str) ∈ [("use_table" : Str), "window_table", "count_table", "withdrawn_table"]); decide)
          rw [pf4]
          have hR : ∀ b v, H11 b = some v → b ≠ R := fun b v e => ne_of_none e nR
          have nRa : R ≠ a := (hR _ _ l6).symm
          have gl : ∀ b v, H11 b = some v → b ≠ a → (upd (upd H11 R (.lst [])) a (.ins T.C dx [(("use_table" : Str), V.ref U), (("window_table" : Str), V.ref W), (("count_table" : Str), V.ref C), (("withdrawn_table" : Str), V.ref D), (("record" : Str), V.ref R)])) b = some v := fun b v e n => by
            rw [upd_ne n]
            exact s12 _ _ e
          have haF : (upd (upd H11 R (.lst [])) a (.ins T.C dx [(("use_table" : Str), V.ref U), (("window_table" : Str), V.ref W), (("count_table" : Str), V.ref C), (("withdrawn_table" : Str), V.ref D), (("record" : Str), V.ref R)])) a = some (.ins T.C dx [(("use_table" : Str), V.ref U), (("window_table" : Str), V.ref W), (("count_table" : Str), V.ref C), (("withdrawn_table" : Str), V.ref D), (("record" : Str), V.ref R)]) := upd_same
          have hRF : (upd (upd H11 R (.lst [])) a (.ins T.C dx [(("use_table" : Str), V.ref U), (("window_table" : Str), V.ref W), (("count_table" : Str), V.ref C), (("withdrawn_table" : Str), V.ref D), (("record" : Str), V.ref R)])) R = some (.lst []) := by rw [upd_ne nRa, upd_same]
          generalize (upd (upd H11 R (.lst [])) a (.ins T.C dx [(("use_table" : Str), V.ref U), (("window_table" : Str), V.ref W), (("count_table" : Str), V.ref C), (("withdrawn_table" : Str), V.ref D), (("record" : Str), V.ref R)])) = HF at gl haF hRF ⊢
          have kF : Kp [a] H HF := k11.tr fun b v e n => gl b v e (by simpa using n)
          have tF : ∀ b xs, H b = some (.tup xs) → HF b = some (.tup xs) := fun b xs e => kF _ _ e (by simpa using ne_of e ha (fun z => nomatch z))
          have mp : ∀ m v, m ∈ mods → v ∈ uses m → (m, v) ∈ mods.flatMap (fun m => (uses m).map fun v => (m, v)) := fun m v h1 h2 => List.mem_flatMap.mpr ⟨m, h1, List.mem_map.mpr ⟨v, h2, rfl⟩⟩
          have hcaF := fun x hx => gl _ _ (caA11 x hx) (ne_of (caA11 x hx) l6 (fun z => nomatch z))
          have hdaF := fun m hm => gl _ _ (daA m hm) (lf m hm).1
          let ad : Ad := fun s => match s with
            | .cp => a | .cdx => dx | .ut => U | .wt => W | .ct => C | .cw => D | .rc => R | .ua m => ua m | .ca m v => caf (m, v) | .da m => daf m | _ => 0
          have cat : CatAt T.C HF ad 0 (Cat.blank mods uses) := ⟨haF, gl _ _ hU11 nUa, fun m hm => tF _ _ (hus m hm), gl _ _ hW11 nWa, fun p hp => ⟨[], hcaF p hp, .nil⟩, gl _ _ hC11 nCa, gl _ _ hD11 nDa, fun m hm => hdaF m hm, ⟨[], hRF, Nat.le_refl _⟩, fun m hm => Nat.le_refl _⟩
          have nw : ∀ b, H11 b = none → b ≠ a → H b = none := fun b e n => by
            cases z : H b with
            | none => rfl
            | some w => rw [k11 _ _ z (by simpa using n)] at e; cases e
          have hn3 : ∀ b, H3 b = none → b ≠ a → H b = none := fun b e n => by
            cases z : H b with
            | none => rfl
            | some w => rw [k3 _ _ z (by simpa using n)] at e; cases e
          refine q HF ad kF rfl (fun m hm => rfl) ⟨⟨cat, wf, nm⟩, cat.inj nUC nUD nCD (fun m hm => ⟨?_, ?_, F10.ne m hm⟩) (fun m v h1 h2 => hR _ _ (caA11 _ (mp m v h1 h2))) (fun m hm k hk e => F10.inj m hm k hk e) (fun m v k z h1 h2 h3 h4 e => ?_)⟩ (fun s hs' hne => ?_)
          · exact (ne_of_none hU9 (lf m hm).2.2).symm
          · exact (ne_of_none hC9 (lf m hm).2.2).symm
          · have := caI _ (mp m v h1 h2) _ (mp k z h3 h4) e
            cases this
            exact ⟨rfl, rfl⟩
          · cases s with
            | cp => exact absurd rfl hne
            | ut => exact hnU
            | wt => exact hn3 _ hnW nWa
            | ct => exact hnC
            | cw => exact hno _ nD9 nDa
            | rc => exact nw _ nR nRa
            | da m => exact hno _ (lf m hs').2.2 (lf m hs').1
            | ca m v => exact hn3 _ (caN _ (mp m v hs'.1 hs'.2)) (ne_of (caA11 _ (mp m v hs'.1 hs'.2)) l6 (fun z => nomatch z))
            | _ => exact hs'.elim
end
end Gs
/-! ## GsD19 -/
namespace Gs
open PySem PySem.Spec PyProof.Rows L2
section
variable {P : Program} {w : World} {K : PySem.W.Frag} {mg : Str → Option Value} {base : Heap}
theorem wf_blank {c : Cat} (h : c.WF) : (Cat.blank c.mods c.uses).WF := ⟨h.nd, h.ne, h.few, h.sub, h.und, h.self, fun _ _ _ _ => rfl, fun _ _ _ _ => fun i a b ha _ => (by simp [Cat.blank] at ha), fun _ _ _ _ w hw => (by simp [Cat.blank] at hw), fun _ _ => Nat.zero_le _⟩
abbrev LF (U W C D R : Addr) : List (Str × V) := [(("use_table" : Str), V.ref U), (("window_table" : Str), V.ref W), (("count_table" : Str), V.ref C), (("withdrawn_table" : Str), V.ref D), (("record" : Str), V.ref R)]
theorem put_w {U W C D R X : Addr} : putF "window_table" (.ref X) (LF U W C D R) = LF U X C D R := by
  simp only [putF]
  rw [if_neg (by decide), if_pos trivial]
theorem put_c {U W C D R X : Addr} : putF "count_table" (.ref X) (LF U W C D R) = LF U W X D R := by
  simp only [putF]
  rw [if_neg (by decide), if_neg (by decide), if_pos trivial]
theorem put_d {U W C D R X : Addr} : putF "withdrawn_table" (.ref X) (LF U W C D R) = LF U W C X R := by
  simp only [putF]
  rw [if_neg (by decide), if_neg (by decide), if_neg (by decide), if_pos trivial]
theorem put_r {U W C D R X : Addr} : putF "record" (.ref X) (LF U W C D R) = LF U W C D X := by
  simp only [putF]
  rw [if_neg (by decide), if_neg (by decide), if_neg (by decide), if_neg (by decide), if_pos trivial]
/-- the columns hold the same objects -/
def SameW (H : Hp) (ad ad2 : Ad) (c : Cat) : Prop := ∀ p ∈ c.pairs, ∃ refs, H (ad (.ca p.1 p.2)) = some (.lst refs) ∧ H (ad2 (.ca p.1 p.2)) = some (.lst refs)
theorem SameW.kc {H H' : Hp} {ad ad2 : Ad} {c : Cat} (h : SameW H ad ad2 c) (k : Kc H H') : SameW H' ad ad2 c := fun p hp => let ⟨r, a, b⟩ := h p hp; ⟨r, k _ _ a (fun _ z => nomatch z), k _ _ b (fun _ z => nomatch z)⟩
theorem ok_Catalog_clone (T : Txt K mg) : FnOk P w K mg base CX0 9 T.d_Catalog_clone.f T.d_Catalog_clone.fd ["self"] (fun vs H Q _ => ∃ (ad : Ad) (rn : Nat) (c : Cat), vs = [.ref (ad .cp)] ∧ Rd0 T H ad rn c ∧ rn ≤ 10000 ∧ (c.mods.map fun m => (c.uses m).length).sum ≤ 40 ∧
    ∀ H' ad2, Sm H H' → Rd0 T H' ad2 rn c → SameW H' ad ad2 c → Q (.ref (ad2 .cp)) H') := by
  have nd := sc_Catalog_clone.nd
  refine T.d_Catalog_clone.F.ok sc_Catalog_clone (fun vs H Q E h => ?_) (fun cdv A outer s H vs Q E hr h => ?_)
  · obtain ⟨ad, rn, c, rfl, _⟩ := h; rfl
  · obtain ⟨ad, rn, c, rfl, h, hrn, h40, q⟩ := h
    have hu := hu_of hr
    have hs : sizeLine = 16777216 := sizeLine_eq
    have h12 := h.wf.few
    have wnd : c.mods.Nodup := h.wf.nd
    refine ⟨_, (pss_cons (ps_set (i := 1) nd rfl (.inl rfl) (pe_make T.mkC (ok_Catalog_init T) (hr.mono (by decide)) rfl T.mgC T.d_Catalog_init.B .nil pass0 (pa_cons (pe_fld (pv 0) rfl) pa_nil)))
      (pss_cons (ps_lock (ps_fld (pv 1) (pe_dg (own := [("key", 2), ("column", 3)]) (tt := tYes) (g := (gTup K 2 (gCons (gName 2) (gCons (gName 3) gNil)))) (.dT []) (.inr rfl) hu rfl nd (pi_itemsT (pe_fld (pv 0) rfl)) (blkOk_by (N := N_Catalog_clone) (sc := defScope s_Catalog_clone) (by decide +kernel)) (fun _ _ _ _ _ => (pg_tup rfl (pgs_cons (pg_name (i := 2) nd rfl (.inl rfl)) (pgs_cons (pg_name (i := 3) nd rfl (.inl rfl)) pgs_nil)))) (fun _ _ _ _ _ => pts_nil) (fun _ _ _ _ _ => (pv 2)) (fun _ _ _ _ _ => (pe_callTy (r := rListS K) (T := "list") call_listS (by rfl) T.b_list (by decide +kernel) (pa_cons (pv 3) pa_nil)))) rfl))
      (pss_cons (ps_fld (pv 1) (pe_callTy (T := "dict") call_dictD (by rfl) T.b_dict (by decide +kernel) (pa_cons (pe_fld (pv 0) rfl) pa_nil)) rfl)
      (pss_cons (ps_lock (ps_fld (pv 1) (pe_dg (own := [("module", 4), ("known", 5)]) (tt := tYes) (g := (gTup K 2 (gCons (gName 4) (gCons (gName 5) gNil)))) (.dK []) (.inl rfl) hu rfl nd (pi_items (pe_fld (pv 0) rfl)) (blkOk_by (N := N_Catalog_clone) (sc := defScope s_Catalog_clone) (by decide +kernel)) (fun _ _ _ _ _ => (pg_tup rfl (pgs_cons (pg_name (i := 4) nd rfl (.inl rfl)) (pgs_cons (pg_name (i := 5) nd rfl (.inl rfl)) pgs_nil)))) (fun _ _ _ _ _ => pts_nil) (fun _ _ _ _ _ => (pv 4)) (fun _ _ _ _ _ => (pe_callTy (T := "dict") call_dictD (by rfl) T.b_dict (by decide +kernel) (pa_cons (pv 5) pa_nil)))) rfl))
      (pss_cons (ps_fld (pv 1) (pe_callTy (r := rListS K) (T := "list") call_listS (by rfl) T.b_list (by decide +kernel) (pa_cons (pe_fld (pv 0) rfl) pa_nil)) rfl)
      (pss_one (ps_ret (pv 1)))))))), ?_⟩
    refine ⟨_, rfl, _, T.C, _, _, _, rfl, h.at_.ob, T.cl, T.nU, fl_ut, ?_⟩
    intro x dx nx ndx nedx
    have s1 : Sm H (upd (upd H dx (.own x)) x (.ins T.C dx [])) := (Sm.rf.up ndx).set nx
    have h1 := h.sm s1
    refine ⟨x, dx, ad .ut, c.mods, c.uses, fun m => ad (.ua m), rfl, upd_same, wf_blank h.wf, h.nm, h1.at_.ut, h1.at_.us, h40, fun H2 a2 k2 e2 eua cx2 fr2 => ?_⟩
    have s2 : Sm H H2 := fun b v e => k2 _ _ (s1 _ _ e) (by simpa using ne_of_none e nx)
    have h2 := h.sm s2
    have hx2 := cx2.rd.at_.ob
    rw [e2] at hx2
    have hU2 := cx2.rd.at_.ut
    generalize a2 .cdx = dx2 at hx2
    have nUx : a2 .ut ≠ x := ne_of hU2 hx2 (fun z => nomatch z)
    refine ⟨rfl, ?_⟩
    have nwx : ad .wt ≠ x := ne_of h2.at_.wt hx2 (fun z => nomatch z)
    -- the table of windows
    refine ⟨ad .wt, _, h2.at_.wt, trivial, fun o => ?_⟩
    have hob3 : (upd H2 (ad .wt) (.frz o (.dT (c.pairs.map fun p => ([.inr p.1, .inr p.2], .ref (ad (.ca p.1 p.2))))))) (ad .cp) = some (.ins T.C (ad .cdx) (flds ad)) := by rw [upd_ne (ne_of h2.at_.wt h2.at_.ob (fun z => nomatch z)).symm]; exact h2.at_.ob
    refine ⟨_, rfl, _, T.C, _, _, _, rfl, hob3, T.cl, T.nW, fl_wt, _, o, _, rfl, upd_same, fun W nW => ?_⟩
    have hx2 : H2 x = some (.ins T.C dx2 (LF (a2 .ut) (a2 .wt) (a2 .ct) (a2 .cw) (a2 .rc))) := hx2
    generalize a2 .wt = W0 at hx2
    generalize a2 .ct = C0 at hx2
    generalize a2 .cw = D0 at hx2
    generalize a2 .rc = R0 at hx2
    generalize a2 .ut = U at hx2 hU2 nUx
    clear cx2 fr2
    have wk := walk_itemsT (d := ad .wt) (o := o) (kvs := c.pairs.map fun p => (pk p, V.ref (ad (.ca p.1 p.2))))
    rw [List.length_map] at wk
    have nWw : W ≠ ad .wt := fun z => by rw [z, upd_same] at nW; cases nW
    have hpn : c.pairs.Nodup := pairs_nd h.wf.nd h.wf.und
    have hpl := pairs_len h.wf
    obtain ⟨colR, hcolH⟩ := skolem (P := fun p (rs : List V) => H (ad (.ca p.1 p.2)) = some (.lst rs) ∧ WinsAre H rs (c.wins p.1 p.2)) (S := fun p => p ∈ c.pairs) fun p hp => h.at_.ws p hp
    have hcol : ∀ p ∈ c.pairs, H2 (ad (.ca p.1 p.2)) = some (.lst (colR p)) ∧ WinsAre H2 (colR p) (c.wins p.1 p.2) := fun p hp => ⟨s2 _ _ (hcolH p hp).1, (hcolH p hp).2.keep fun b xs e => s2 _ _ e⟩
    have hcol3 : ∀ p ∈ c.pairs, (upd H2 (ad .wt) (.frz o (.dT (c.pairs.map fun p => ([.inr p.1, .inr p.2], .ref (ad (.ca p.1 p.2))))))) (ad (.ca p.1 p.2)) = some (.lst (colR p)) := fun p hp => by rw [upd_ne (ne_of (hcol p hp).1 h2.at_.wt (fun z => nomatch z))]; exact (hcol p hp).1
    have hx3 : (upd H2 (ad .wt) (.frz o (.dT (c.pairs.map fun p => ([.inr p.1, .inr p.2], .ref (ad (.ca p.1 p.2))))))) x = _ := (upd_ne nwx.symm).trans hx2
    have hfz : (upd H2 (ad .wt) (.frz o (.dT (c.pairs.map fun p => ([.inr p.1, .inr p.2], .ref (ad (.ca p.1 p.2))))))) (ad .wt) = some (.frz o (.dT (c.pairs.map fun p => (pk p, V.ref (ad (.ca p.1 p.2)))))) := upd_same
    refine dg_it wk (fun i H' => Sm (upd H2 (ad .wt) (.frz o (.dT (c.pairs.map fun p => ([.inr p.1, .inr p.2], .ref (ad (.ca p.1 p.2))))))) H' ∧ ∃ f : Nm × Nm → Addr, H' W = some (.dT ((c.pairs.take i).map fun p => (pk p, V.ref (f p)))) ∧ Fam (upd H2 (ad .wt) (.frz o (.dT (c.pairs.map fun p => ([.inr p.1, .inr p.2], .ref (ad (.ca p.1 p.2))))))) W H' (c.pairs.take i) f (fun p => .lst (colR p))) ⟨Sm.rf.up nW, fun _ => 0, upd_same, .nil⟩ (fun i H' _ p => p.1 _ _ hfz) (fun i y0 H5 H6 hi p y => ?_) (fun H5 p => ?_)
    · obtain ⟨s5, f, hW5, F5⟩ := p
      obtain ⟨Tp, qa, k, v, hk, rfl, nT, hqa, rfl⟩ := y
      have ht : c.pairs[i]? = some c.pairs[i] := List.getElem?_eq_getElem hi
      generalize c.pairs[i] = z at ht
      rw [map_pick (kf := pk) (vf := fun p : Nm × Nm => V.ref (ad (.ca p.1 p.2))) ht] at hk
      cases hk
      have hz := List.mem_of_getElem? ht
      have s6 : Sm H5 (upd H5 Tp (.tup [.ref qa, .ref (ad (.ca z.1 z.2))])) := Sm.rf.up nT
      refine ⟨Tp, _, rfl, SqT.of upd_same, rfl, _, _, rfl, _, _, rfl, rfl, rfl, _, rfl, _, rfl, ad (.ca z.1 z.2), _, rfl, .inl (SqL.of (s6 _ _ (s5 _ _ (hcol3 z hz)))), fun l nl => ?_⟩
      have s7 := s6.up (o := .lst (colR z)) nl
      have nlW : l ≠ W := (ne_of_none (s6 _ _ hW5) nl).symm
      have nl5 : H5 l = none := s6.un nl
      have hll : (upd (upd H5 Tp (.tup [.ref qa, .ref (ad (.ca z.1 z.2))])) l (.lst (colR z))) l = some (.lst (colR z)) := upd_same
      generalize (upd (upd H5 Tp (.tup [.ref qa, .ref (ad (.ca z.1 z.2))])) l (.lst (colR z))) = H7 at s7 hll ⊢
      refine ⟨_, DPut.t (k := pk z) (s7 _ _ hW5) (s7 _ _ hqa) (by rw [List.length_map, List.length_take]; omega), (s5.tr s7).set nW, setF f z l, ?_, ?_⟩
      · rw [upd_same, take_snoc ht, putK_ref (fun _ _ e => pk_inj e) (nin_take hpn ht)]
      · rw [take_snoc ht]
        refine F5.snoc (fun b w e _ => ⟨w, s5 _ _ e⟩) nl5 (fun b w e n => ?_) ?_ nlW (nin_take hpn ht)
        · rw [upd_ne n]
          exact s7 _ _ e
        · rw [upd_ne nlW]
          exact hll
    · obtain ⟨s5, caf, hW5, F5⟩ := p
      rw [List.take_length] at hW5 F5
      obtain ⟨l1, l2, l3, l4⟩ := lockstep (X := .ins T.C dx2 (LF U W C0 D0 R0)) h2.at_.wt s5 nwx
      refine ⟨_, rfl, x, T.C, dx2, _, rfl, s5 _ _ hx3, T.cl, T.nW, (by show 5 < 1000; decide), ?_⟩
      rw [put_w]
      refine ⟨l4, ?_⟩
      have nWx : W ≠ x := (ne_of_none hx3 nW).symm
      have hW6 := l2 _ _ hW5 nWx nWw
      have caA := fun p hp => l2 _ _ (F5.at_ p hp) (ne_of (F5.at_ p hp) (s5 _ _ hx3) (fun z => nomatch z)) (ne_of (F5.at_ p hp) (s5 _ _ hfz) (fun z => nomatch z))
      have s06 : Sm H (upd (upd H5 x (.ins T.C dx2 (LF U W C0 D0 R0))) (ad .wt) (.dT (c.pairs.map fun p => ([.inr p.1, .inr p.2], .ref (ad (.ca p.1 p.2)))))) := fun b v e => l1 b v (s2 _ _ e) (ne_of_none e nx)
      have hU6 := l1 _ _ hU2 nUx
      have tk6 : ∀ b xs, H2 b = some (.tup xs) → (upd (upd H5 x (.ins T.C dx2 (LF U W C0 D0 R0))) (ad .wt) (.dT (c.pairs.map fun p => ([.inr p.1, .inr p.2], .ref (ad (.ca p.1 p.2)))))) b = some (.tup xs) := fun b xs e => l1 b _ e (ne_of e hx2 (fun z => nomatch z))
      generalize (upd (upd H5 x (.ins T.C dx2 (LF U W C0 D0 R0))) (ad .wt) (.dT (c.pairs.map fun p => ([.inr p.1, .inr p.2], .ref (ad (.ca p.1 p.2)))))) = H6 at l3 hW6 caA s06 hU6 tk6 ⊢
      clear l1 l2 l4 hW5 F5 s5
      have h6 := h.sm s06
      -- the counts
      refine ⟨_, rfl, _, T.C, _, _, _, rfl, h6.at_.ob, T.cl, T.nC, fl_ct, ad .ct, _, rfl, .inl h6.at_.ct, fun C nC => ?_⟩
      have s7 : Sm H6 (upd H6 C (.dK (c.mods.map fun m => ((.inr m : Key), V.int (c.cnt m : Nat))))) := Sm.rf.up nC
      refine ⟨_, rfl, x, T.C, dx2, _, rfl, s7 _ _ l3, T.cl, T.nC, (by show 5 < 1000; decide), ?_⟩
      rw [put_c]
      have nCx : C ≠ x := (ne_of_none l3 nC).symm
      have up8 : ∀ b v, H6 b = some v → b ≠ x → (upd (upd H6 C (.dK (c.mods.map fun m => ((.inr m : Key), V.int (c.cnt m : Nat))))) x (.ins T.C dx2 (LF U W C D0 R0))) b = some v := fun b v e n => by
        rw [upd_ne n]
        exact s7 _ _ e
      have hx8 : (upd (upd H6 C (.dK (c.mods.map fun m => ((.inr m : Key), V.int (c.cnt m : Nat))))) x (.ins T.C dx2 (LF U W C D0 R0))) x = _ := upd_same
      have hC8 : (upd (upd H6 C (.dK (c.mods.map fun m => ((.inr m : Key), V.int (c.cnt m : Nat))))) x (.ins T.C dx2 (LF U W C D0 R0))) C = some (.dK (c.mods.map fun m => ((.inr m : Key), V.int (c.cnt m : Nat)))) := by rw [upd_ne nCx, upd_same]
      have s08 : Sm H (upd (upd H6 C (.dK (c.mods.map fun m => ((.inr m : Key), V.int (c.cnt m : Nat))))) x (.ins T.C dx2 (LF U W C D0 R0))) := fun b v e => up8 b v (s06 _ _ e) (ne_of_none e nx)
      have hW8 := up8 _ _ hW6 nWx
      have hU8 := up8 _ _ hU6 nUx
      have caA8 := fun p hp => up8 _ _ (caA p hp) (ne_of (caA p hp) l3 (fun z => nomatch z))
      have tk8 : ∀ b xs, H2 b = some (.tup xs) → (upd (upd H6 C (.dK (c.mods.map fun m => ((.inr m : Key), V.int (c.cnt m : Nat))))) x (.ins T.C dx2 (LF U W C D0 R0))) b = some (.tup xs) := fun b xs e => up8 b _ (tk6 b xs e) (ne_of (tk6 b xs e) l3 (fun z => nomatch z))
      generalize (upd (upd H6 C (.dK (c.mods.map fun m => ((.inr m : Key), V.int (c.cnt m : Nat))))) x (.ins T.C dx2 (LF U W C D0 R0))) = H8 at hx8 hC8 s08 hW8 hU8 caA8 tk8 ⊢
      clear up8 s7 hW6 hU6 caA tk6
      have h8 := h.sm s08
      -- the withdrawn
      have ndx8 : ad .cw ≠ x := ne_of h8.at_.cw hx8 (fun z => nomatch z)
      refine ⟨ad .cw, _, h8.at_.cw, trivial, fun o2 => ?_⟩
      have hob9 : (upd H8 (ad .cw) (.frz o2 (.dK (c.mods.map fun m => ((.inr m : Key), V.ref (ad (.da m))))))) (ad .cp) = some (.ins T.C (ad .cdx) (flds ad)) := by rw [upd_ne (ne_of h8.at_.cw h8.at_.ob (fun z => nomatch z)).symm]; exact h8.at_.ob
      refine ⟨_, rfl, _, T.C, _, _, _, rfl, hob9, T.cl, T.nD, fl_cw, _, o2, _, rfl, upd_same, fun D nD => ?_⟩
      have wk2 := walk_items (d := ad .cw) (o := o2) (kvs := c.mods.map fun m => ((.inr m : Key), V.ref (ad (.da m))))
      rw [List.length_map] at wk2
      have nDw : D ≠ ad .cw := fun z => by rw [z, upd_same] at nD; cases nD
      have hx9 : (upd H8 (ad .cw) (.frz o2 (.dK (c.mods.map fun m => ((.inr m : Key), V.ref (ad (.da m))))))) x = _ := (upd_ne ndx8.symm).trans hx8
      have hda9 : ∀ m ∈ c.mods, (upd H8 (ad .cw) (.frz o2 (.dK (c.mods.map fun m => ((.inr m : Key), V.ref (ad (.da m))))))) (ad (.da m)) = some (.dK ((c.wd m).map fun v => ((.inl v : Key), V.bl true))) ∨ ad (.da m) = ad .cw := fun m hm => by
        by_cases e : ad (.da m) = ad .cw
        · exact .inr e
        · exact .inl (by rw [upd_ne e]; exact h8.at_.ds m hm)
      have hda : ∀ m ∈ c.mods, (upd H8 (ad .cw) (.frz o2 (.dK (c.mods.map fun m => ((.inr m : Key), V.ref (ad (.da m))))))) (ad (.da m)) = some (.dK ((c.wd m).map fun v => ((.inl v : Key), V.bl true))) := fun m hm => by
        rcases hda9 m hm with e | e
        · exact e
        · exfalso
          have e1 := h8.at_.ds m hm
          rw [e, h8.at_.cw] at e1
          have e2 := HO.dK.inj (Option.some.inj e1)
          cases hq : c.mods with
          | nil => exact h.wf.ne hq
          | cons k ks =>
            rw [hq] at e2
            cases hv : c.wd m with
            | nil => rw [hv] at e2; cases e2
            | cons z zs => rw [hv] at e2; cases e2
      refine dg_it wk2 (fun i H' => Sm (upd H8 (ad .cw) (.frz o2 (.dK (c.mods.map fun m => ((.inr m : Key), V.ref (ad (.da m))))))) H' ∧ ∃ g : Nm → Addr, H' D = some (.dK ((c.mods.take i).map fun m => ((.inr m : Key), V.ref (g m)))) ∧ Fam (upd H8 (ad .cw) (.frz o2 (.dK (c.mods.map fun m => ((.inr m : Key), V.ref (ad (.da m))))))) D H' (c.mods.take i) g (fun m => .dK ((c.wd m).map fun v => ((.inl v : Key), V.bl true)))) ⟨Sm.rf.up nD, fun _ => 0, upd_same, .nil⟩ (fun i H' _ p => p.1 _ _ upd_same) (fun i y0 H10 H11 hi p y => ?_) (fun H10 p => ?_)
      · obtain ⟨s10, g, hD10, F10⟩ := p
        obtain ⟨Tp, x1, x2, rfl, nT, rfl, ea, eb⟩ := y
        have ht : c.mods[i]? = some c.mods[i] := List.getElem?_eq_getElem hi
        generalize c.mods[i] = m at ht
        have ea : x1 = V.str m := pickK ht ea
        have eb := pickV ht eb
        subst ea eb
        have hm := List.mem_of_getElem? ht
        have s11 : Sm H10 (upd H10 Tp (.tup [V.str m, V.ref (ad (.da m))])) := Sm.rf.up nT
        refine ⟨Tp, _, rfl, SqT.of upd_same, rfl, _, _, rfl, _, _, rfl, rfl, rfl, _, rfl, _, rfl, ad (.da m), _, rfl, .inl (s11 _ _ (s10 _ _ (hda m hm))), fun p np => ?_⟩
        have s12 := s11.up (o := .dK ((c.wd m).map fun v => ((.inl v : Key), V.bl true))) np
        have npD : p ≠ D := (ne_of_none (s11 _ _ hD10) np).symm
        have np10 : H10 p = none := s11.un np
        have hpp : (upd (upd H10 Tp (.tup [V.str m, V.ref (ad (.da m))])) p (.dK ((c.wd m).map fun v => ((.inl v : Key), V.bl true)))) p = some (.dK ((c.wd m).map fun v => ((.inl v : Key), V.bl true))) := upd_same
        generalize (upd (upd H10 Tp (.tup [V.str m, V.ref (ad (.da m))])) p (.dK ((c.wd m).map fun v => ((.inl v : Key), V.bl true)))) = H12 at s12 hpp ⊢
        refine ⟨_, DPut.k (k := .inr m) (s12 _ _ hD10) (by rw [List.length_map, List.length_take]; omega), (s10.tr s12).set nD, setF g m p, ?_, ?_⟩
        · rw [upd_same, take_snoc ht, putK_ref inr_inj (nin_take wnd ht)]
        · rw [take_snoc ht]
          refine F10.snoc (fun b w e _ => ⟨w, s10 _ _ e⟩) np10 (fun b w e n => ?_) ?_ npD (nin_take wnd ht)
          · rw [upd_ne n]
            exact s12 _ _ e
          · rw [upd_ne npD]
            exact hpp
      · obtain ⟨s10, daf, hD10, F10⟩ := p
        rw [List.take_length] at hD10 F10
        obtain ⟨l1, l2, l6, l5⟩ := lockstep (X := .ins T.C dx2 (LF U W C D R0)) h8.at_.cw s10 ndx8
        have hx10 : H10 x = _ := s10 _ _ hx9
        have nDx : D ≠ x := (ne_of_none hx9 nD).symm
        refine ⟨_, rfl, x, T.C, dx2, _, rfl, hx10, T.cl, T.nD, (by show 5 < 1000; decide), ?_⟩
        rw [put_d]
        refine ⟨l5, ?_⟩
        have lf : ∀ m ∈ c.mods, daf m ≠ x ∧ daf m ≠ ad .cw := fun m hm => ⟨(ne_of_none hx9 (F10.nw m hm)).symm, fun z => by have := F10.nw m hm; rw [z, upd_same] at this; cases this⟩
        have daA := fun m hm => l2 _ _ (F10.at_ m hm) (lf m hm).1 (lf m hm).2
        have hD11 := l2 _ _ hD10 nDx nDw
        have hC11 := l1 _ _ hC8 nCx
        have hW11 := l1 _ _ hW8 nWx
        have hU11 := l1 _ _ hU8 nUx
        have caA11 := fun p hp => l1 _ _ (caA8 p hp) (ne_of (caA8 p hp) hx8 (fun z => nomatch z))
        have tk11 : ∀ b xs, H2 b = some (.tup xs) → (upd (upd H10 x (.ins T.C dx2 (LF U W C D R0))) (ad .cw) (.dK (c.mods.map fun m => ((.inr m : Key), V.ref (ad (.da m)))))) b = some (.tup xs) := fun b xs e => l1 b _ (tk8 b xs e) (ne_of (tk8 b xs e) hx8 (fun z => nomatch z))
        have s011 : Sm H (upd (upd H10 x (.ins T.C dx2 (LF U W C D R0))) (ad .cw) (.dK (c.mods.map fun m => ((.inr m : Key), V.ref (ad (.da m)))))) := fun b v e => l1 b v (s08 _ _ e) (ne_of_none e nx)
        generalize (upd (upd H10 x (.ins T.C dx2 (LF U W C D R0))) (ad .cw) (.dK (c.mods.map fun m => ((.inr m : Key), V.ref (ad (.da m)))))) = H11 at l6 daA hD11 hC11 hW11 hU11 caA11 tk11 s011 ⊢
        clear l1 l2 l5
        have h11 := h.sm s011
        -- the record
        obtain ⟨rs, hrc, hrl⟩ := h11.at_.rc
        refine ⟨_, rfl, _, T.C, _, _, _, rfl, h11.at_.ob, T.cl, T.nR, fl_rc, ad .rc, rs, rfl, .inl (SqL.of hrc), fun R nR => ?_⟩
        have s12 : Sm H11 (upd H11 R (.lst rs)) := Sm.rf.up nR
        refine ⟨_, rfl, x, T.C, dx2, _, rfl, s12 _ _ l6, T.cl, T.nR, (by show 5 < 1000; decide), ?_⟩
        rw [put_r]
        have nRx : R ≠ x := (ne_of_none l6 nR).symm
        have gl : ∀ b v, H11 b = some v → b ≠ x → (upd (upd H11 R (.lst rs)) x (.ins T.C dx2 (LF U W C D R))) b = some v := fun b v e n => by
          rw [upd_ne n]
          exact s12 _ _ e
        have haF : (upd (upd H11 R (.lst rs)) x (.ins T.C dx2 (LF U W C D R))) x = some (.ins T.C dx2 (LF U W C D R)) := upd_same
        have hRF : (upd (upd H11 R (.lst rs)) x (.ins T.C dx2 (LF U W C D R))) R = some (.lst rs) := by rw [upd_ne nRx, upd_same]
        have sF : Sm H (upd (upd H11 R (.lst rs)) x (.ins T.C dx2 (LF U W C D R))) := fun b v e => gl b v (s011 _ _ e) (ne_of_none e nx)
        have tF : ∀ b xs, H2 b = some (.tup xs) → (upd (upd H11 R (.lst rs)) x (.ins T.C dx2 (LF U W C D R))) b = some (.tup xs) := fun b xs e => gl b _ (tk11 b xs e) (ne_of (tk11 b xs e) l6 (fun z => nomatch z))
        have hcaF := fun p hp => gl _ _ (caA11 p hp) (ne_of (caA11 p hp) l6 (fun z => nomatch z))
        have hdaF := fun m hm => gl _ _ (daA m hm) (lf m hm).1
        have hUF := gl _ _ hU11 nUx
        have hWF := gl _ _ hW11 nWx
        have hCF := gl _ _ hC11 nCx
        have hDF := gl _ _ hD11 nDx
        generalize (upd (upd H11 R (.lst rs)) x (.ins T.C dx2 (LF U W C D R))) = HF at haF hRF sF tF hcaF hdaF hUF hWF hCF hDF ⊢
        let ad2 : Ad := fun s => match s with
          | .cp => x | .cdx => dx2 | .ut => U | .wt => W | .ct => C | .cw => D | .rc => R | .ua m => a2 (.ua m) | .ca m v => caf (m, v) | .da m => daf m | _ => 0
        have cat : CatAt T.C HF ad2 rn c := ⟨haF, hUF, fun m hm => by show HF (a2 (.ua m)) = _; rw [eua m hm]; exact tF _ _ (h2.at_.us m hm), hWF, fun p hp => ⟨colR p, hcaF p hp, (hcol p hp).2.keep tF⟩, hCF, hDF, fun m hm => hdaF m hm, ⟨rs, hRF, hrl⟩, h.at_.wl⟩
        exact ⟨_, rfl, q HF ad2 sF ⟨cat, h.wf, h.nm⟩ fun p hp => ⟨colR p, sF _ _ (hcolH p hp).1, hcaF p hp⟩⟩
end
end Gs
/-! ## GsD20 -/
namespace Gs
open PySem PySem.Spec PyProof.Rows L2
section
variable {P : Program} {w : World} {K : PySem.W.Frag} {mg : Str → Option Value} {base : Heap}
def itD (c : Cat) : PyData := .list (c.mods.map fun m => .tuple [.str m, .tuple ((c.uses m).map .str)])
theorem lay_itD {c : Cat} (wf : c.WF) (nm : ∀ m ∈ c.mods, NmOk m) : Lay 3 (itD c) := lay_list fun d hd => by
  obtain ⟨m, hm, rfl⟩ := List.mem_map.mp hd
  refine lay_tup (n := 1) fun x hx => ?_
  rcases List.mem_cons.mp hx with rfl | hx
  · have := lay_str (nm m hm)
    exact ⟨this.lay, by have := this.dep; omega⟩
  · rw [List.mem_singleton.mp hx]
    refine lay_tup (n := 0) fun y hy => ?_
    obtain ⟨u, hu, rfl⟩ := List.mem_map.mp hy
    exact lay_str (nm u (wf.sub m hm u hu))
theorem dp_strs {K : PySem.W.Frag} {H : Hp} : ∀ (l : List Nm), DpAll K H (l.map V.str) (l.map .str)
  | [] => .nil
  | x :: l => .cons (.str x) (dp_strs l)
theorem dp_items {K : PySem.W.Frag} {H : Hp} {ua : Nm → Addr} {uses : Nm → List Nm} : ∀ {l : List Nm} {ts : List Addr}, Paired (fun (t : Addr) (q : Key × V) => H t = some (.tup [kV q.1, q.2])) ts (l.map fun m => (.inr m, .ref (ua m))) → (∀ m ∈ l, H (ua m) = some (.tup ((uses m).map V.str))) →
    DpAll K H (ts.map V.ref) (l.map fun m => .tuple [.str m, .tuple ((uses m).map .str)])
  | [], _, h, _ => by cases h; exact .nil
  | m :: l, _, h, k => by
    cases h with
    | cons hh t =>
      exact .cons (.tup (SqT.of hh) (.cons (.str _) (.cons (.tup (SqT.of (k m List.mem_cons_self)) (dp_strs _)) .nil))) (dp_items t fun x hx => k x (List.mem_cons_of_mem _ hx))
theorem val_const {α κ : Type} [DecidableEq κ] {kf : α → κ} {w : V} : ∀ {l : List α} {t : α}, t ∈ l → valV (l.map fun t => (kf t, w)) (kf t) = some w
  | [], t, h => by cases h
  | a :: l, t, h => by
    rw [List.map_cons]
    by_cases e : kf a = kf t
    · rw [valV_pos e]
    · rw [valV_neg e]
      rcases List.mem_cons.mp h with rfl | h
      · exact absurd rfl e
      · exact val_const h
theorem ok_Catalog_eq (T : Txt K mg) : FnOk P w K mg base CX0 1 T.d_Catalog_eq.f T.d_Catalog_eq.fd ["self", "other"] (fun vs H Q _ => ∃ (ad ad2 : Ad) (rn rn2 : Nat) (c : Cat), vs = [.ref (ad .cp), .ref (ad2 .cp)] ∧ Rd0 T H ad rn c ∧ Rd0 T H ad2 rn2 c ∧ SameW H ad ad2 c ∧
    ∀ H', Sm H H' → Q (.bl true) H') := by
  have nd := sc_Catalog_eq.nd
  refine T.d_Catalog_eq.F.ok sc_Catalog_eq (fun vs H Q E h => ?_) (fun cdv A outer s H vs Q E hr h => ?_)
  · obtain ⟨ad, ad2, rn, rn2, c, rfl, _⟩ := h; rfl
  · obtain ⟨ad, ad2, rn, rn2, c, rfl, h, g, sw, q⟩ := h
    have hu := hu_of hr
    have hu64 := hu64_of hr
    have hs : sizeLine = 16777216 := sizeLine_eq
    refine ⟨_, (pss_cons (ps_if (PW.pt (pw_or (pt_not (pt_val (pe_callB (id := "isinstance") (C8.call_isC T.ic) (by rfl) T.b_isinstance (by decide +kernel) (pa_cons (pv 1) (pa_cons (pe_glob (v := .ref T.C) rfl T.mgC rfl) pa_nil))))) (pw_or1 (pt_cmpR (op_neD hu64) (LiI.pe_listItems rfl (pe_fld (pv 0) rfl) (by rfl) T.b_list (by decide +kernel)) (LiI.pe_listItems rfl (pe_fld (pv 1) rfl) (by rfl) T.b_list (by decide +kernel)) (nomark _))))) (pss_one (ps_ret pe_bl)) pss_nil)
      (pss_cons (ps_if (PW.pt (pw_or (pt_cmpR (op_neT hu64) (pe_fld (pv 0) rfl) (pe_fld (pv 1) rfl) (nomark _)) (pw_or1 (pt_cmpR (op_ne_dictA (Nat.lt_of_succ_lt hu)) (pe_fld (pv 0) rfl) (pe_fld (pv 1) rfl) (nomark _))))) (pss_one (ps_ret pe_bl)) pss_nil)
      (pss_one (ps_ret (pe_cmpR (op_eqV hu64) (pe_fld (pv 0) rfl) (pe_fld (pv 1) rfl) (nomark _)))))), ?_⟩
    refine ⟨_, rfl, ad2 .cp, _, _, rfl, g.at_.ob, _, rfl, ifF rfl ?_⟩
    refine ⟨_, rfl, _, T.C, _, _, _, rfl, h.at_.ob, T.cl, T.nU, fl_ut, ad .ut, _, rfl, h.at_.ut, fun H1 p1 ts1 s1 np1 nt1 npt1 hp1 pr1 => ?_⟩
    have s1 : Sm H H1 := s1
    have g1 := g.sm s1
    refine ⟨_, rfl, _, T.C, _, _, _, rfl, g1.at_.ob, T.cl, T.nU, fl_ut, ad2 .ut, _, rfl, g1.at_.ut, fun H2 p2 ts2 s2 np2 nt2 npt2 hp2 pr2 => ?_⟩
    have s2 : Sm H1 H2 := s2
    have s12 := s1.tr s2
    have h2 := h.sm s12
    have g2 := g1.sm s2
    have lay := lay_itD h.wf h.nm
    refine ⟨itD c, itD c, .lst (SqL.of (s2 _ _ hp1)) (dp_items (paired_mono pr1 fun _ _ z => s2 _ _ z) h2.at_.us), .lst (SqL.of hp2) (dp_items pr2 g2.at_.us), lay.sh, lay.sh, _, rfl, ?_⟩
    rw [SeqAt.eqv_refl _ lay.lay]
    refine ifF rfl ?_
    have sw2 := sw.kc (Kc.of s12)
    refine ⟨_, rfl, _, T.C, _, _, _, rfl, h2.at_.ob, T.cl, T.nW, fl_wt, _, rfl, _, T.C, _, _, _, rfl, g2.at_.ob, T.cl, T.nW, fl_wt, ad .wt, ad2 .wt, _, _, 2, rfl, rfl, by decide, h2.at_.wt, g2.at_.wt, ?_, _, rfl, ifF rfl ?_⟩
    · have key : ∀ l : List (Nm × Nm), (∀ p ∈ l, p ∈ c.pairs) → Paired (fun (p q : List Key × V) => p.1 = q.1 ∧ EqV K H2 2 p.2 q.2) (l.map fun p => ([.inr p.1, .inr p.2], .ref (ad (.ca p.1 p.2)))) (l.map fun p => ([.inr p.1, .inr p.2], .ref (ad2 (.ca p.1 p.2)))) := by
        intro l hl
        induction l with
        | nil => exact .nil
        | cons p l ih =>
          refine .cons ⟨rfl, .inr (.inr (.inl ?_))⟩ (ih fun x hx => hl x (List.mem_cons_of_mem _ hx))
          obtain ⟨refs, e1, e2⟩ := sw2 p (hl p List.mem_cons_self)
          obtain ⟨r2, e3, w3⟩ := h2.at_.ws p (hl p List.mem_cons_self)
          rw [e1] at e3
          cases e3
          refine ⟨_, _, refs, refs, rfl, rfl, SqL.of e1, SqL.of e2, ?_⟩
          have : ∀ {l : List V} {ws : List Win}, WinsAre H2 l ws → Paired (EqV K H2 1) l l := by
            intro l ws hw
            induction hw with
            | nil => exact .nil
            | cons hh _ ih2 =>
              obtain ⟨a, rfl, _⟩ := hh
              exact .cons (.inr (.inl ⟨a, rfl, rfl⟩)) ih2
          exact this w3
      exact key c.pairs fun p hp => hp
    · refine ⟨_, rfl, _, T.C, _, _, _, rfl, h2.at_.ob, T.cl, T.nC, fl_ct, _, rfl, _, T.C, _, _, _, rfl, g2.at_.ob, T.cl, T.nC, fl_ct, ad .ct, ad2 .ct, _, _, rfl, rfl, h2.at_.ct, g2.at_.ct, rfl, fun p hp => ?_, _, rfl, ifF rfl ?_⟩
      · obtain ⟨m, hm, rfl⟩ := List.mem_map.mp hp
        exact ⟨val_ct h.wf hm, rfl⟩
      · refine ⟨_, rfl, _, T.C, _, _, _, rfl, h2.at_.ob, T.cl, T.nD, fl_cw, _, rfl, _, T.C, _, _, _, rfl, g2.at_.ob, T.cl, T.nD, fl_cw, 3, by decide, .inr ⟨ad .cw, ad2 .cw, _, _, rfl, rfl, h2.at_.cw, g2.at_.cw, by rw [List.length_map, List.length_map], fun p hp => ?_⟩, q _ s12⟩
        obtain ⟨m, hm, rfl⟩ := List.mem_map.mp hp
        refine ⟨.ref (ad2 (.da m)), val_cw (ad := ad2) h.wf hm, .inr (.inr (.inr ⟨ad (.da m), ad2 (.da m), _, _, rfl, rfl, h2.at_.ds m hm, g2.at_.ds m hm, rfl, fun z hz => ?_⟩))⟩
        obtain ⟨v, hv, rfl⟩ := List.mem_map.mp hz
        refine ⟨.bl true, ?_, .inl ⟨rfl, rfl⟩⟩
        exact val_const hv
end
end Gs
/-! ## GsD21 -/
namespace Gs
open PySem PySem.Spec PyProof.Rows L2
section
variable {P : Program} {w : World} {K : PySem.W.Frag} {mg : Str → Option Value} {base : Heap}
structure Row where
  nm : Nm
  us : List Nm
  vs : List (List Win)
def VersAt (H : Hp) (v : V) (ws : List Win) : Prop := ∃ l refs, v = .ref l ∧ H l = some (.lst refs) ∧ WinsAre H refs ws
structure RowAt (H : Hp) (v : V) (r : Row) (a t l : Addr) (ls : List V) : Prop where
  eq : v = .ref a
  at_ : H a = some (.tup [.str r.nm, .ref t, .ref l])
  us : H t = some (.tup (r.us.map V.str))
  vl : H l = some (.lst ls)
  vs : Paired (VersAt H) ls r.vs
theorem VersAt.sm {H H' : Hp} {v : V} {ws : List Win} (h : VersAt H v ws) (s : Sm H H') : VersAt H' v ws := let ⟨l, r, e, a, b⟩ := h; ⟨l, r, e, s _ _ a, b.keep fun _ _ z => s _ _ z⟩
theorem RowAt.sm {H H' : Hp} {v : V} {r : Row} {a t l : Addr} {ls : List V} (h : RowAt H v r a t l ls) (s : Sm H H') : RowAt H' v r a t l ls := ⟨h.eq, s _ _ h.at_, s _ _ h.us, s _ _ h.vl, paired_mono h.vs fun _ _ z => z.sm s⟩
abbrev RowIs (H : Hp) (v : V) (r : Row) : Prop := ∃ a t l ls, RowAt H v r a t l ls
def RowsAt (H : Hp) (p : Addr) (rows : List Row) : Prop := ∃ vs, H p = some (.lst vs) ∧ Paired (RowIs H) vs rows
theorem RowIs.sm {H H' : Hp} {v : V} {r : Row} (h : RowIs H v r) (s : Sm H H') : RowIs H' v r := let ⟨a, t, l, ls, z⟩ := h; ⟨a, t, l, ls, z.sm s⟩
theorem RowsAt.sm {H H' : Hp} {p : Addr} {rows : List Row} (h : RowsAt H p rows) (s : Sm H H') : RowsAt H' p rows := let ⟨vs, a, b⟩ := h; ⟨vs, s _ _ a, paired_mono b fun _ _ z => RowIs.sm z s⟩
abbrev names (rows : List Row) : List Nm := rows.map (·.nm)
structure RowsOk (rows : List Row) : Prop where
  nd : (names rows).Nodup
  ne : rows ≠ []
  few : rows.length ≤ 4
  nm : ∀ r ∈ rows, NmOk r.nm
  sub : ∀ r ∈ rows, ∀ u ∈ r.us, u ∈ names rows
  und : ∀ r ∈ rows, r.us.Nodup
  self : ∀ r ∈ rows, r.nm ∉ r.us
  len : ∀ r ∈ rows, ∀ ws ∈ r.vs, ws.length = r.us.length
  okw : ∀ r ∈ rows, ∀ ws ∈ r.vs, ∀ x ∈ ws, okWin x
  ris : ∀ r ∈ rows, ∀ (i : Nat) a b, r.vs[i]? = some a → r.vs[i + 1]? = some b → ∀ (j : Nat) x y, a[j]? = some x → b[j]? = some y → rise x y = true
  pos : ∀ r ∈ rows, 1 ≤ r.vs.length
  few5 : ∀ r ∈ rows, r.vs.length ≤ 5
theorem row_eq {rows : List Row} (h : (names rows).Nodup) {r q : Row} (hr : r ∈ rows) (hq : q ∈ rows) (e : r.nm = q.nm) : r = q := by
  induction rows with
  | nil => cases hr
  | cons b B ih =>
    have hn := List.nodup_cons.mp (show (b.nm :: names B).Nodup from h)
    have no : ∀ z ∈ B, z.nm ≠ b.nm := fun z hz q => hn.1 (List.mem_map.mpr ⟨z, hz, q⟩)
    rcases List.mem_cons.mp hr with e1 | hr
    · rcases List.mem_cons.mp hq with e2 | hq
      · rw [e1, e2]
      · exact absurd (by rw [← e, e1]) (no q hq)
    · rcases List.mem_cons.mp hq with e2 | hq
      · exact absurd (by rw [e, e2]) (no r hr)
      · exact ih hn.2 hr hq
theorem ok_check_rows (T : Txt K mg) : FnOk P w K mg base CX0 1 T.d_check_rows.f T.d_check_rows.fd ["rows"] (fun vs H Q _ => ∃ (p : Addr) (rows : List Row), vs = [.ref p] ∧ RowsAt H p rows ∧ (names rows).Nodup ∧ rows.length ≤ 100 ∧
    ∀ H', Sm H H' → Q .non H') := by
  have nd := sc_check_rows.nd
  refine T.d_check_rows.F.ok sc_check_rows (fun vs H Q E h => ?_) (fun cdv A outer s H vs Q E hr h => ?_)
  · obtain ⟨p, rows, rfl, _⟩ := h; rfl
  · obtain ⟨p, rows, rfl, ⟨rv, hp, hrp⟩, hnd, hl, q⟩ := h
    have hu := hu_of hr
    have hs : sizeLine = 16777216 := sizeLine_eq
    refine ⟨_, (pss_cons (ps_if (pt_not (pt_val (pe_callB (r := rIsi K) (id := "isinstance") call_isi (by rfl) T.b_isinstance (by decide +kernel) (pa_cons (pv 0) (pa_cons (gTy (n := "list") T.b_list (by decide +kernel)) pa_nil))))) (pss_one ps_never) pss_nil)
      (pss_cons (ps_set (i := 1) nd rfl (.inl rfl) pe_dnewK)
      (pss_one (ps_for PassesOwn.never rfl (pi_enum (by rfl) T.b_enumerate (pa_cons (pv 0) pa_nil)) (pg_tup rfl (pgs_cons (pg_name (i := 2) nd rfl (.inl rfl)) (pgs_cons (pg_name (i := 3) nd rfl (.inl rfl)) pgs_nil)))
      (pss_cons (ps_if (PW.pt (pw_or (pt_not (pt_val (pe_callB (r := rIsi K) (id := "isinstance") call_isi (by rfl) T.b_isinstance (by decide +kernel) (pa_cons (pv 3) (pa_cons (gTy (n := "tuple") T.b_tuple (by decide +kernel)) pa_nil))))) (pw_or (pt_cmpR op_ne (pe_callB (r := rLenS K) (id := "len") call_lenS (by rfl) T.b_len (by decide +kernel) (pa_cons (pv 3) pa_nil)) pe_int (nomark _)) (pw_or1 (pt_not (pt_val (pe_callB (r := rIsi K) (id := "isinstance") call_isi (by rfl) T.b_isinstance (by decide +kernel) (pa_cons (pe_ix (r := rIxT K) ix_tup (pv 3) pe_int (fun _ _ => rfl)) (pa_cons (gTy (n := "str") T.b_str (by decide +kernel)) pa_nil))))))))) (pss_one ps_never) pss_nil)
      (pss_cons (ps_if (PW.pt (pw_or (pt_not (pt_val (pe_callB (r := rIsi K) (id := "isinstance") call_isi (by rfl) T.b_isinstance (by decide +kernel) (pa_cons (pe_ix (r := rIxT K) ix_tup (pv 3) pe_int (fun _ _ => rfl)) (pa_cons (gTy (n := "list") T.b_list (by decide +kernel)) pa_nil))))) (pw_or1 (pt_cmp (pc_din hu (pe_ix (r := rIxT K) ix_tup (pv 3) pe_int (fun _ _ => rfl)) (pv 1)))))) (pss_one ps_never) pss_nil)
      (pss_one (ps_dput hu (pv 1) (pe_ix (r := rIxT K) ix_tup (pv 3) pe_int (fun _ _ => rfl)) pe_bl rfl)))))))), ?_⟩
    refine ⟨_, rfl, _, _, _, _, _, rfl, .ty _, .base (.lst hp), kit_same, true, rfl, iteF ?_⟩
    refine fun D nD => ?_
    refine ⟨_, rfl, p, _, rfl, SqL.of ((Sm.rf.up nD) _ _ hp), ?_⟩
    have wk := walk_enum (K := K) (a := p) (xs := rv)
    refine for_it wk (fun i σ H' => Sm H H' ∧ (∃ y z, σ = [some (.ref p), some (.ref D), y, z]) ∧ H' D = some (.dK (((names rows).take i).map fun m => ((.inr m : Key), V.bl true)))) ⟨Sm.rf.up nD, ⟨_, _, rfl⟩, upd_same⟩ (fun i σ H' _ p => SqL.of (p.1 _ _ hp)) (fun i x σ H3 H4 hi p y => ?_) (fun σ H3 p => q _ p.1)
    obtain ⟨s3, ⟨y0, z0, rfl⟩, hD⟩ := p
    obtain ⟨Tp, a1, b1, rfl, nT, rfl, ea, eb⟩ := y
    cases ea
    obtain ⟨r, hr', a, t, l, ls, ra⟩ := LiI.paired_get hrp eb
    obtain rfl := ra.eq
    have s4 : Sm H3 (upd H3 Tp (.tup [.int (i : Nat), .ref a])) := Sm.rf.up nT
    have ra4 := ra.sm (s3.tr s4)
    have hnm : (names rows)[i]? = some r.nm := by rw [List.getElem?_map, hr']; rfl
    have hD4 := s4 _ _ hD
    have hn := nin_take hnd hnm
    have hil := (List.getElem?_eq_some_iff.mp hr').1
    refine ⟨Tp, _, rfl, SqT.of upd_same, rfl, _, _, rfl, _, _, rfl, rfl, ?_⟩
    generalize (upd H3 Tp (.tup [.int (i : Nat), .ref a])) = H5 at *
    refine ⟨_, rfl, _, _, _, _, _, rfl, .ty _, .base (.tup ra4.at_), kit_same, true, rfl, ?_⟩
    have row4 := SqT.of (K := K) ra4.at_
    refine ifF rfl ⟨_, rfl, a, _, rfl, .inr row4, rfl, _, rfl, ifF (by simp) ?_⟩
    refine ⟨_, rfl, a, _, 0, _, rfl, rfl, row4, at0, _, _, _, _, _, rfl, .ty _, tyS r.nm, kit_same, true, rfl, ifF rfl ?_⟩
    refine ⟨_, rfl, a, _, 2, _, rfl, rfl, row4, at2, _, _, _, _, _, rfl, .ty _, .base (.lst ra4.vl), kit_same, true, rfl, ifF rfl ?_⟩
    refine ⟨_, rfl, a, _, 0, _, rfl, rfl, row4, at0, _, rfl, D, _, rfl, DGet.k (k := .inr r.nm) hD4, _, rfl, ?_⟩
    rw [val_none (kf := fun m : Nm => (.inr m : Key)) (vf := fun _ => V.bl true) (k := .inr r.nm) (fun z hz e => hn (by rw [← inr_inj _ _ e]; exact hz))]
    refine ifF rfl ?_
    refine ⟨_, rfl, _, rfl, a, _, 0, _, rfl, rfl, row4, at0, D, _, rfl, DPut.k (k := .inr r.nm) hD4 (by rw [List.length_map, List.length_take]; omega), (s3.tr s4).set nD, ⟨_, _, rfl⟩, ?_⟩
    rw [upd_same, take_snoc hnm, putK_map inr_inj hn, List.map_append]
    rfl
def colAt (l : List (List Win)) (k : Nat) : List Win := l.map fun ws => ws.getD k (0, none)
/-- the catalog's versions are those of the rows -/
structure CatRows (c : Cat) (rows : List Row) : Prop where
  mods : c.mods = names rows
  us : ∀ r ∈ rows, c.uses r.nm = r.us
  cnt : ∀ r ∈ rows, c.cnt r.nm = r.vs.length
  wins : ∀ r ∈ rows, ∀ (k : Nat) u, r.us[k]? = some u → c.wins r.nm u = colAt r.vs k
  wd : ∀ r ∈ rows, c.wd r.nm = []
theorem Kp.sm {S : List Addr} {H H1 H2 : Hp} (k : Kp S H1 H2) (s : Sm H H1) (n : ∀ a ∈ S, H a = none) : Sm H H2 := fun b o e => k _ _ (s _ _ e) fun hb => by rw [n b hb] at e; cases e
theorem sum_le {α : Type} {f : α → Nat} {b : Nat} : ∀ {l : List α}, (∀ a ∈ l, f a ≤ b) → (l.map f).sum ≤ l.length * b
  | [], _ => by simp
  | a :: l, h => by
    rw [List.map_cons, List.sum_cons, List.length_cons, Nat.succ_mul]
    have := sum_le (l := l) fun x hx => h x (List.mem_cons_of_mem _ hx)
    have := h a List.mem_cons_self
    omega
/-- the uses by the module's name -/
def usesOf (rows : List Row) (m : Nm) : List Nm := match rows.find? (fun r => decide (r.nm = m)) with
  | some r => r.us
  | none => []
theorem usesOf_eq {rows : List Row} (h : (names rows).Nodup) {r : Row} (hr : r ∈ rows) : usesOf rows r.nm = r.us := by
  unfold usesOf
  cases e : rows.find? (fun q => decide (q.nm = r.nm)) with
  | none =>
    have := List.find?_eq_none.mp e r hr
    simp at this
  | some q =>
    have h1 := List.find?_some e
    have h2 := List.mem_of_find?_eq_some e
    rw [row_eq h h2 hr (of_decide_eq_true h1)]
theorem rows_blank {rows : List Row} (h : RowsOk rows) : (Cat.blank (names rows) (usesOf rows)).WF := by
  have mem : ∀ m ∈ names rows, ∃ r ∈ rows, r.nm = m := fun m hm => by
    obtain ⟨r, hr, e⟩ := List.mem_map.mp hm
    exact ⟨r, hr, e⟩
  refine ⟨h.nd, fun e => h.ne (List.map_eq_nil_iff.mp e), by show (rows.map (·.nm)).length ≤ 12; rw [List.length_map]; have := h.few; omega, fun m hm u hu => ?_, fun m hm => ?_, fun m hm hu => ?_, fun _ _ _ _ => rfl, fun _ _ _ _ => fun i a b ha _ => (by simp [Cat.blank] at ha), fun _ _ _ _ w hw => (by simp [Cat.blank] at hw), fun _ _ => Nat.zero_le _⟩
  · obtain ⟨r, hr, rfl⟩ := mem m hm
    have hu : u ∈ usesOf rows r.nm := hu
    rw [usesOf_eq h.nd hr] at hu
    exact h.sub r hr u hu
  · obtain ⟨r, hr, rfl⟩ := mem m hm
    show (usesOf rows r.nm).Nodup
    rw [usesOf_eq h.nd hr]
    exact h.und r hr
  · obtain ⟨r, hr, rfl⟩ := mem m hm
    have hu : r.nm ∈ usesOf rows r.nm := hu
    rw [usesOf_eq h.nd hr] at hu
    exact h.self r hr hu
theorem colAt_snoc {l : List (List Win)} {ws : List Win} {k : Nat} : colAt (l ++ [ws]) k = colAt l k ++ [ws.getD k (0, none)] := by
  unfold colAt
  rw [List.map_append]
  rfl
/-- n k versions of the row k are published -/
structure PRow (c : Cat) (rows : List Row) (n : Nat → Nat) : Prop where
  mods : c.mods = names rows
  us : c.uses = usesOf rows
  wd : ∀ m, c.wd m = []
  at_ : ∀ (k : Nat) r, rows[k]? = some r → c.cnt r.nm = n k ∧ ∀ (a : Nat) u, r.us[a]? = some u → c.wins r.nm u = colAt (r.vs.take (n k)) a
theorem PRow.congr {c : Cat} {rows : List Row} {n n' : Nat → Nat} (h : PRow c rows n) (e : ∀ k, k < rows.length → n k = n' k) : PRow c rows n' := ⟨h.mods, h.us, h.wd, fun k r hk => by rw [← e k (List.getElem?_eq_some_iff.mp hk).1]; exact h.at_ k r hk⟩
theorem PRow.step {c : Cat} {rows : List Row} {n : Nat → Nat} (hok : RowsOk rows) (h : PRow c rows n) {i : Nat} {r : Row} (hi : rows[i]? = some r) {ws : List Win} (hw : r.vs[n i]? = some ws) : PubOk c r.nm ws ∧ PRow (c.pub r.nm ws) rows (fun k => if k = i then n i + 1 else n k) := by
  have hr := List.mem_of_getElem? hi
  have hws := List.mem_of_getElem? hw
  have hus : c.uses r.nm = r.us := by rw [h.us]; exact usesOf_eq hok.nd hr
  obtain ⟨h1, h2⟩ := h.at_ i r hi
  have hnl := (List.getElem?_eq_some_iff.mp hw).1
  have hlen := hok.len r hr ws hws
  have hf := hok.few5 r hr
  refine ⟨⟨by rw [h.mods]; exact List.mem_map.mpr ⟨r, hr, rfl⟩, by rw [hus]; exact hlen, fun w hw => hok.okw r hr ws hws w hw, fun a u w z ha hwa hz => ?_, by omega⟩, h.mods, h.us, h.wd, fun k q hk => ?_⟩
  · rw [hus] at ha
    rw [h2 a u ha] at hz
    cases en : n i with
    | zero =>
      rw [en] at hz
      simp [colAt] at hz
    | succ j =>
      rw [en] at hz hw
      have hj : j < r.vs.length := by rw [en] at hnl; omega
      have hvj : r.vs[j]? = some r.vs[j] := List.getElem?_eq_getElem hj
      generalize r.vs[j] = v0 at hvj
      rw [take_snoc hvj, colAt_snoc, List.getLast?_append] at hz
      have hz : v0.getD a (0, none) = z := by simpa using hz
      have hla : a < v0.length := by
        rw [hok.len r hr v0 (List.mem_of_getElem? hvj)]
        exact (List.getElem?_eq_some_iff.mp ha).1
      have hva : v0[a]? = some z := by
        rw [← hz, List.getD_eq_getElem?_getD, List.getElem?_eq_getElem hla]
        rfl
      exact hok.ris r hr j v0 ws hvj hw a z w hva hwa
  · by_cases e : k = i
    · subst e
      rw [hi] at hk
      cases hk
      rw [if_pos rfl]
      refine ⟨?_, fun a u ha => ?_⟩
      · show (if r.nm = r.nm then c.cnt r.nm + 1 else c.cnt r.nm) = n k + 1
        rw [if_pos rfl, h1]
      · show (if r.nm = r.nm then c.wins r.nm u ++ (((c.uses r.nm).zip ws).lookup u).toList else c.wins r.nm u) = _
        have hla : a < ws.length := by rw [hlen]; exact (List.getElem?_eq_some_iff.mp ha).1
        rw [if_pos rfl, h2 a u ha, take_snoc hw, colAt_snoc, hus, lookup_zip (hok.und r hr) ha (List.getElem?_eq_getElem hla), List.getD_eq_getElem?_getD, List.getElem?_eq_getElem hla]
        rfl
    · rw [if_neg e]
      have ne : q.nm ≠ r.nm := fun z => by
        have hlt2 : k < (names rows).length := by rw [List.length_map]; exact (List.getElem?_eq_some_iff.mp hk).1
        exact e ((List.getElem?_inj hlt2 hok.nd).mp (by rw [List.getElem?_map, List.getElem?_map, hi, hk]; exact congrArg some z))
      obtain ⟨g1, g2⟩ := h.at_ k q hk
      refine ⟨?_, fun a u ha => ?_⟩
      · show (if q.nm = r.nm then c.cnt q.nm + 1 else c.cnt q.nm) = n k
        rw [if_neg ne, g1]
      · show (if q.nm = r.nm then c.wins q.nm u ++ (((c.uses r.nm).zip ws).lookup u).toList else c.wins q.nm u) = _
        rw [if_neg ne, g2 a u ha]
def fullV (rows : List Row) (k : Nat) : Nat := match rows[k]? with
  | some r => r.vs.length
  | none => 0
theorem ok_catalog_of (T : Txt K mg) : FnOk P w K mg base CX0 9 T.d_catalog_of.f T.d_catalog_of.fd ["rows"] (fun vs H Q _ => ∃ (p : Addr) (rows : List Row), vs = [.ref p] ∧ RowsAt H p rows ∧ RowsOk rows ∧
    ∀ H' ad rn c, Sm H H' → CatX T H' ad rn c → rn ≤ 400 → CatRows c rows → (∀ s, LiveC c s → H (ad s) = none) → Q (.ref (ad .cp)) H') := by
  have nd := sc_catalog_of.nd
  refine T.d_catalog_of.F.ok sc_catalog_of (fun vs H Q E h => ?_) (fun cdv A outer s H vs Q E hr h => ?_)
  · obtain ⟨p, rows, rfl, _⟩ := h; rfl
  · obtain ⟨p, rows, rfl, hrows, hok, q⟩ := h
    have hu := hu_of hr
    have hs : sizeLine = 16777216 := sizeLine_eq
    have h4 := hok.few
    refine ⟨_, (pss_cons (ps_expr (pcall (ok_check_rows T) T.d_check_rows.M (hr.mono (by decide)) (pa_cons (pv 0) pa_nil)))
      (pss_cons (ps_set (i := 1) nd rfl (.inl rfl) (pe_make T.mkC (ok_Catalog_init T) (hr.mono (by decide)) rfl T.mgC T.d_Catalog_init.B .nil pass0 (pa_cons (pe_dg (own := [("module", 2), ("names", 3), ("versions", 4)]) (tt := tYes) (g := (gTup K 3 (gCons (gName 2) (gCons (gName 3) (gCons (gName 4) gNil))))) (.dK []) (.inl rfl) hu rfl nd (pi_list (pv 0)) (blkOk_by (N := N_catalog_of) (sc := defScope s_catalog_of) (by decide +kernel)) (fun _ _ _ _ _ => (pg_tup rfl (pgs_cons (pg_name (i := 2) nd rfl (.inl rfl)) (pgs_cons (pg_name (i := 3) nd rfl (.inl rfl)) (pgs_cons (pg_name (i := 4) nd rfl (.inl rfl)) pgs_nil))))) (fun _ _ _ _ _ => pts_nil) (fun _ _ _ _ _ => (pv 2)) (fun _ _ _ _ _ => (pv 3))) pa_nil)))
      (pss_cons (ps_for PassesOwn.never rfl (pi_list (pv 0)) (pg_tup rfl (pgs_cons (pg_name (i := 2) nd rfl (.inl rfl)) (pgs_cons (pg_name (i := 3) nd rfl (.inl rfl)) (pgs_cons (pg_name (i := 4) nd rfl (.inl rfl)) pgs_nil))))
      (pss_one (ps_for PassesOwn.never rfl (pi_list (pv 4)) (pg_name (i := 5) nd rfl (.inl rfl))
      (pss_one (ps_expr (pe_meth (pv 1) T.cl T.d_Catalog_publish.me (ok_Catalog_publish T) (hr.mono (by decide)) T.d_Catalog_publish.B .nil pass0 (pa_cons (pv 2) (pa_cons (pv 5) pa_nil))))))))
      (pss_one (ps_ret (pv 1)))))), ?_⟩
    refine ⟨_, rfl, p, rows, rfl, hrows, hok.nd, by omega, fun H1 s1 => ?_⟩
    obtain ⟨rv, hp, hrp⟩ := hrows.sm s1
    refine ⟨_, rfl, p, rfl, ⟨_, SqL.of hp⟩, fun D nD => ?_⟩
    have wk := walk_list (K := K) (a := p) (xs := rv)
    -- the tuples of the uses
    have hua : ∀ m, m ∈ names rows → ∃ t : Addr, ∀ (i : Nat) (r : Row) (v : V), rows[i]? = some r → r.nm = m → rv[i]? = some v → ∃ a l ls, RowAt H1 v r a t l ls := fun m hm => by
      obtain ⟨r0, hr0, e0⟩ := List.mem_map.mp hm
      obtain ⟨i0, hi0⟩ := List.getElem?_of_mem hr0
      have hlt : i0 < rv.length := by rw [hrp.length]; exact (List.getElem?_eq_some_iff.mp hi0).1
      have ev : rv[i0]? = some rv[i0] := List.getElem?_eq_getElem hlt
      obtain ⟨r1, hr1, a, t, l, ls, ra⟩ := LiI.paired_get hrp ev
      rw [hi0] at hr1
      cases hr1
      refine ⟨t, fun i r v hi e hv => ?_⟩
      have er := row_eq hok.nd (List.mem_of_getElem? hi) hr0 (e.trans e0.symm)
      subst er
      have hlt2 : i < (names rows).length := by rw [List.length_map]; exact (List.getElem?_eq_some_iff.mp hi).1
      have ei : i = i0 := (List.getElem?_inj hlt2 hok.nd).mp (by rw [List.getElem?_map, List.getElem?_map, hi, hi0])
      subst ei
      rw [ev] at hv
      cases hv
      exact ⟨a, l, ls, ra⟩
    obtain ⟨ua, hua⟩ := skolem (S := fun m => m ∈ names rows) hua
    refine dg_it wk (fun i H' => Sm H1 H' ∧ H' D = some (.dK (((names rows).take i).map fun m => ((.inr m : Key), V.ref (ua m))))) ⟨Sm.rf.up nD, upd_same⟩ (fun i H' _ p => SqL.of (p.1 _ _ hp)) (fun i x H2 H3 hi p y => ?_) (fun H2 p => ?_)
    · obtain ⟨s2, hD⟩ := p
      obtain ⟨rfl, hx⟩ := y
      obtain ⟨r, hr', _⟩ := LiI.paired_get hrp hx
      have hrm := List.mem_of_getElem? hr'
      obtain ⟨a, l, ls, ra⟩ := hua r.nm (List.mem_map.mpr ⟨r, hrm, rfl⟩) i r x hr' rfl hx
      obtain rfl := ra.eq
      have ra3 := ra.sm s2
      have hnm : (names rows)[i]? = some r.nm := by rw [List.getElem?_map, hr']; rfl
      refine ⟨a, _, rfl, SqT.of ra3.at_, rfl, _, _, rfl, _, _, rfl, _, _, rfl, rfl, rfl, _, rfl, _, rfl, _, DPut.k (k := .inr r.nm) hD (by rw [List.length_map, List.length_take]; have := (List.getElem?_eq_some_iff.mp hr').1; omega), s2.set nD, ?_⟩
      rw [upd_same, take_snoc hnm, putK_map inr_inj (nin_take hok.nd hnm), List.map_append]
      rfl
    · obtain ⟨s2, hD⟩ := p
      have el : rv.length = (names rows).length := by rw [hrp.length, List.length_map]
      rw [el, List.take_length] at hD
      intro x dx nx ndx nedx
      have s3 : Sm H2 (upd (upd H2 dx (.own x)) x (.ins T.C dx [])) := (Sm.rf.up ndx).set nx
      have s13 := s2.tr s3
      have husN : ∀ m ∈ names rows, (upd (upd H2 dx (.own x)) x (.ins T.C dx [])) (ua m) = some (.tup ((usesOf rows m).map V.str)) := fun m hm => by
        obtain ⟨r0, hr0, e0⟩ := List.mem_map.mp hm
        have e0 : r0.nm = m := e0
        subst e0
        obtain ⟨i0, hi0⟩ := List.getElem?_of_mem hr0
        have hlt : i0 < rv.length := by rw [hrp.length]; exact (List.getElem?_eq_some_iff.mp hi0).1
        obtain ⟨a, l, ls, ra⟩ := hua r0.nm hm i0 r0 _ hi0 rfl (List.getElem?_eq_getElem hlt)
        rw [usesOf_eq hok.nd hr0]
        exact s13 _ _ ra.us
      have nmN : ∀ m ∈ names rows, NmOk m := fun m hm => by
        obtain ⟨r0, hr0, rfl⟩ := List.mem_map.mp hm
        exact hok.nm r0 hr0
      have wf0 := rows_blank hok
      refine ⟨x, dx, D, names rows, usesOf rows, ua, rfl, upd_same, wf0, nmN, s3 _ _ hD, husN, ?_, fun H4 ad k4 ecp eua cx fr => ?_⟩
      · have := sum_le (l := names rows) (f := fun m => (usesOf rows m).length) (b := 4) fun m hm => by
          have h1 := (wf0.und m hm).length_le_of_subset fun u hu => wf0.sub m hm u hu
          have h2 : (Cat.blank (names rows) (usesOf rows)).mods.length = rows.length := List.length_map ..
          have h3 : (usesOf rows m).length ≤ (Cat.blank (names rows) (usesOf rows)).mods.length := h1
          omega
        rw [List.length_map] at this
        omega
      refine ⟨rfl, ?_⟩
      have nx1 : H1 x = none := s2.un nx
      have s4 : Sm H1 H4 := k4.sm s13 fun a ha => by rw [List.mem_singleton.mp ha]; exact nx1
      have nlive : ∀ s, LiveC (Cat.blank (names rows) (usesOf rows)) s → H1 (ad s) = none := fun s hs => by
        by_cases e : s = .cp
        · rw [e, ecp]; exact nx1
        · exact s13.un (fr s hs e)
      have nliveC : ∀ {c : Cat} {n : Nat → Nat}, PRow c rows n → ∀ s, LiveC c s → H1 (ad s) = none := fun {c n} hp s hs => nlive s (by
        cases s with
        | da m => exact (show m ∈ names rows by rw [← hp.mods]; exact hs)
        | ca m u => exact ⟨(by rw [← hp.mods]; exact hs.1), (by show u ∈ usesOf rows m; rw [← hp.us]; exact hs.2)⟩
        | cp => exact trivial
        | ut => exact trivial
        | wt => exact trivial
        | ct => exact trivial
        | cw => exact trivial
        | rc => exact trivial
        | _ => exact hs.elim)
      subst ecp
      refine ⟨_, rfl, p, rfl, ⟨_, SqL.of (s4 _ _ hp)⟩, ?_⟩
      refine for_it wk (fun i σ H' => Sm H1 H' ∧ (∃ x2 x3 x4 x5, σ = [some (.ref p), some (.ref (ad .cp)), x2, x3, x4, x5]) ∧ ∃ rn c, rn ≤ 100 * i ∧ CatX T H' ad rn c ∧ PRow c rows (fun k => if k < i then fullV rows k else 0)) ⟨s4, ⟨_, _, _, _, rfl⟩, 0, _, Nat.le_refl _, cx, rfl, rfl, fun _ => rfl, fun k r hk => ⟨rfl, fun a u ha => rfl⟩⟩ (fun i σ H' _ p => SqL.of (p.1 _ _ hp)) (fun i y σ H5 H6 hi p0 yy => ?_) (fun σ H5 p0 => ?_)
      · obtain ⟨s5, ⟨x2, x3, x4, x5, rfl⟩, rn, c, hrn, hcx, hpr⟩ := p0
        obtain ⟨rfl, hy⟩ := yy
        obtain ⟨r, hr', a, t, l, ls, ra⟩ := LiI.paired_get hrp hy
        obtain rfl := ra.eq
        have ra5 := ra.sm s5
        have hrm := List.mem_of_getElem? hr'
        refine ⟨a, _, rfl, SqT.of ra5.at_, rfl, _, _, rfl, _, _, rfl, _, _, rfl, rfl, ?_⟩
        refine ⟨_, rfl, l, rfl, ⟨_, SqL.of ra5.vl⟩, ?_⟩
        have wk2 := walk_list (K := K) (a := l) (xs := ls)
        have elv : ls.length = r.vs.length := ra.vs.length
        have hf5 := hok.few5 r hrm
        refine for_it wk2 (fun j σ H' => Sm H1 H' ∧ (∃ x3 x5, σ = [some (.ref p), some (.ref (ad .cp)), some (.str r.nm), x3, some (.ref l), x5]) ∧ ∃ rn c, rn ≤ 100 * i + j ∧ CatX T H' ad rn c ∧ PRow c rows (fun k => if k < i then fullV rows k else if k = i then j else 0)) ⟨s5, ⟨_, _, rfl⟩, rn, c, by omega, hcx, hpr.congr fun k _ => ?_⟩ (fun j σ H' _ p => SqL.of (p.1 _ _ ra.vl)) (fun j y σ H7 H8 hj p0 yy => ?_) (fun σ H7 p0 => ?_)
        · by_cases e1 : k < i
          · rw [if_pos e1, if_pos e1]
          · rw [if_neg e1, if_neg e1]
            split <;> rfl
        · obtain ⟨s7, ⟨x3, x5, rfl⟩, rn, c, hrn, hcx, hpr⟩ := p0
          obtain ⟨rfl, hy2⟩ := yy
          obtain ⟨ws, hws, va⟩ := LiI.paired_get ra.vs hy2
          obtain ⟨wl, refs, rfl, hwl, hwa⟩ := va
          obtain ⟨as, rfl, rfl, has⟩ := wins_as hwa
          have hn : (if i < i then fullV rows i else if i = i then j else 0) = j := by
            rw [if_neg (Nat.lt_irrefl i), if_pos rfl]
          obtain ⟨po, pr2⟩ := hpr.step hok hr' (ws := as.map Prod.snd) (by rw [hn]; exact hws)
          refine ⟨_, rfl, _, _, _, rfl, hcx.rd.at_.ob, rfl, _, rfl, _, rfl, ad, rn, c, r.nm, wl, as, rfl, hcx, by have := (List.getElem?_eq_some_iff.mp hr').1; omega, s7 _ _ hwl, fun p hp => s7 _ _ (has p hp), fun s hs e => ?_, po, fun H9 k9 cx9 => ?_⟩
          · have := nliveC hpr s hs
            rw [e, hwl] at this
            cases this
          · refine ⟨k9.sm s7 fun a ha => ?_, ⟨_, _, rfl⟩, rn + 1, _, by omega, cx9, pr2.congr fun k _ => ?_⟩
            · obtain ⟨s, hs, rfl⟩ := List.mem_map.mp ha
              exact nliveC hpr s (pubL_live po.mem s hs)
            · by_cases e : k = i
              · subst e
                rw [if_pos rfl, hn, if_neg (Nat.lt_irrefl k), if_pos rfl]
              · show (if k = i then _ else if k < i then fullV rows k else if k = i then j else 0) = if k < i then fullV rows k else if k = i then j + 1 else 0
                rw [if_neg e, if_neg e, if_neg e]
        · obtain ⟨s7, ⟨x3, x5, rfl⟩, rn, c, hrn, hcx, hpr⟩ := p0
          refine ⟨s7, ⟨_, _, _, _, rfl⟩, rn, c, by omega, hcx, hpr.congr fun k _ => ?_⟩
          have hfi : fullV rows i = ls.length := by unfold fullV; rw [hr', elv]
          by_cases e1 : k < i
          · rw [if_pos e1, if_pos (by omega)]
          · by_cases e2 : k = i
            · subst e2
              rw [if_neg e1, if_pos rfl, if_pos (Nat.lt_succ_self k), hfi]
            · rw [if_neg e1, if_neg e2, if_neg (by omega)]
      · obtain ⟨s5, ⟨x2, x3, x4, x5, rfl⟩, rn, c, hrn, hcx, hpr⟩ := p0
        have el2 : rv.length = rows.length := hrp.length
        refine ⟨_, rfl, q H5 ad rn c (s1.tr s5) hcx (by omega) ⟨hpr.mods, fun r hr => by rw [hpr.us]; exact usesOf_eq hok.nd hr, fun r hr => ?_, fun r hr a u ha => ?_, fun r hr => hpr.wd _⟩ fun s hs => s1.un (nliveC hpr s hs)⟩
        · obtain ⟨k, hk⟩ := List.getElem?_of_mem hr
          rw [(hpr.at_ k r hk).1, if_pos (by rw [el2]; exact (List.getElem?_eq_some_iff.mp hk).1)]
          unfold fullV
          rw [hk]
        · obtain ⟨k, hk⟩ := List.getElem?_of_mem hr
          rw [(hpr.at_ k r hk).2 a u ha, if_pos (by rw [el2]; exact (List.getElem?_eq_some_iff.mp hk).1)]
          unfold fullV
          rw [hk, List.take_length]
end
end Gs
/-! ## GsL1 -/
namespace Gs
open PySem PySem.Spec PyProof.Rows L2
section
variable {P : Program} {w : World} {K : PySem.W.Frag} {mg : Str → Option Value} {base : Heap}
theorem Kp.set {S : List Addr} {H H1 : Hp} {p : Addr} {o : HO} (a : Kp S H H1) (n : H p = none) : Kp S H (upd H1 p o) := fun c u e hc => by
  rw [upd_ne (ne_of_none e n)]
  exact a c u e hc
theorem Kp.un {S : List Addr} {H H1 : Hp} (a : Kp S H H1) {p : Addr} (n : H1 p = none) (hp : p ∉ S) : H p = none := by
  cases e : H p with
  | none => rfl
  | some o => rw [a p o e hp] at n; cases n
/-- the generator: two naturals -/
def RngAt (H : Hp) (g : Addr) : Prop := ∃ a b : Int, H g = some (.lst [.int a, .int b]) ∧ 0 ≤ a ∧ 0 ≤ b ∧ b < 4294967296
theorem RngAt.sm {H H' : Hp} {g : Addr} (h : RngAt H g) (s : Sm H H') : RngAt H' g := let ⟨a, b, e, z⟩ := h; ⟨a, b, s _ _ e, z⟩
theorem RngAt.some_ {H : Hp} {g : Addr} (h : RngAt H g) : ∃ o, H g = some o := let ⟨_, _, e, _⟩ := h; ⟨_, e⟩
theorem ok_l_draw (T : Txt K mg) : FnOk P w K mg base CX0 1 T.d_l_draw.f T.d_l_draw.fd ["_law_rng_here", "_law_many"] (fun vs H Q _ => ∃ (g : Addr) (n : Int), vs = [.ref g, .int n] ∧ RngAt H g ∧ 0 < n ∧ n ≤ 1000000 ∧
    ∀ H' d, Kp [g] H H' → RngAt H' g → 0 ≤ d → d < n → Q (.int d) H') := by
  have nd := sc_l_draw.nd
  refine T.d_l_draw.F.ok sc_l_draw (fun vs H Q E h => ?_) (fun cdv A outer s H vs Q E hr h => ?_)
  · obtain ⟨g, n, rfl, _⟩ := h; rfl
  · obtain ⟨g, n, rfl, ⟨a, b, hg, ha, hb, hb2⟩, hn, hn2, q⟩ := h
    have hg' : SqL K H g [.int a, .int b] := SqL.of hg
    refine ⟨_, (pss_cons (ps_if (pt_cmpR op_gt (pe_ix (r := rIxL K) ix_list (pv 0) pe_int (fun _ _ => rfl)) pe_int (nomark _)) (pss_cons (ps_asg (pe_callB (id := "divmod") call_divmod (by rfl) T.b_divmod (by decide +kernel) (pa_cons (pe_ix (r := rIxL K) ix_list (pv 0) pe_int (fun _ _ => rfl)) (pa_cons (pv 1) pa_nil))) (pg_tup rfl (pgs_cons (pg_sub (pv 0) pe_int set_list) (pgs_cons (pg_name (i := 2) nd rfl (.inl rfl)) pgs_nil))))
      (pss_one (ps_ret (pv 2)))) pss_nil)
      (pss_cons (ps_asg (pe_op op_mod (pe_op op_add (pe_op op_mul (pe_ix (r := rIxL K) ix_list (pv 0) pe_int (fun _ _ => rfl)) pe_int) pe_int) pe_int) (pg_sub (pv 0) pe_int set_list))
      (pss_one (ps_ret (pe_op op_mod (pe_op op_fdiv (pe_op op_mod (pe_op op_mul (pe_ix (r := rIxL K) ix_list (pv 0) pe_int (fun _ _ => rfl)) (pe_ix (r := rIxL K) ix_list (pv 0) pe_int (fun _ _ => rfl))) pe_int) pe_int) (pv 1)))))), ?_⟩
    refine ⟨_, rfl, g, _, 0, _, rfl, rfl, hg', at0, _, _, rfl, rfl, _, rfl, ?_⟩
    by_cases h0 : 0 < a
    · refine ifT (decT h0) ?_
      refine ⟨_, rfl, g, _, 0, _, rfl, rfl, hg', at0, _, rfl, _, _, rfl, ⟨hn, by omega⟩, fun p np => ?_⟩
      have s1 : Sm H (upd H p (.tup [.int (a / n), .int (a % n)])) := Sm.rf.up np
      refine ⟨p, _, rfl, SqT.of upd_same, rfl, _, _, rfl, ?_⟩
      refine ⟨_, rfl, g, _, 0, 0, rfl, rfl, s1 _ _ hg, rfl, ?_⟩
      refine ⟨_, _, rfl, rfl, _, rfl, q _ _ ((Kp.of s1).up List.mem_cons_self) ⟨a / n, b, upd_same, Int.ediv_nonneg ha (by omega), hb, hb2⟩ (Int.emod_nonneg _ (by omega)) (Int.emod_lt_of_pos _ hn)⟩
    · refine ifF (decF h0) ?_
      refine ⟨_, rfl, g, _, 1, _, rfl, rfl, hg', at1, _, _, rfl, rfl, .inr ⟨by decide, by decide⟩, _, _, rfl, rfl, _, _, rfl, rfl, (by show (0 : Int) < 2147483587; decide), ?_⟩
      refine ⟨_, rfl, g, _, 1, 1, rfl, rfl, hg, rfl, ?_⟩
      have hb3 : 0 ≤ (b * 48271 + 10007) % 2147483587 := Int.emod_nonneg _ (by decide)
      have hb4 : (b * 48271 + 10007) % 2147483587 < 2147483587 := Int.emod_lt_of_pos _ (by decide)
      have hg2 : (upd H g (.lst ([V.int a, V.int b].set 1 ((fun i j => V.int (i % j)) (b * 48271 + 10007) 2147483587)))) g = some (.lst [.int a, .int ((b * 48271 + 10007) % 2147483587)]) := upd_same
      have hg3 : SqL K (upd H g (.lst ([V.int a, V.int b].set 1 ((fun i j => V.int (i % j)) (b * 48271 + 10007) 2147483587)))) g [.int a, .int ((b * 48271 + 10007) % 2147483587)] := SqL.of hg2
      refine ⟨_, rfl, g, _, 1, _, rfl, rfl, hg3, at1, _, rfl, g, _, 1, _, rfl, rfl, hg3, at1, _, _, rfl, rfl, .inl ⟨by omega, by omega⟩, _, _, rfl, rfl, (by show (0 : Int) < 2147483549; decide), _, _, rfl, rfl, ⟨by decide, by decide⟩, _, rfl, _, _, rfl, rfl, hn, ?_⟩
      exact q _ _ ((Kp.of Sm.rf).up List.mem_cons_self) ⟨a, _, hg2, ha, hb3, by omega⟩ (Int.emod_nonneg _ (by omega)) (Int.emod_lt_of_pos _ hn)
theorem ok_l_rng (T : Txt K mg) : FnOk P w K mg base CX0 1 T.d_l_rng.f T.d_l_rng.fd ["_law_script", "_law_k"] (fun vs H Q _ => ∃ (p : Addr) (ns : List Int) (k : Nat), vs = [.ref p, .int (k : Nat)] ∧ SqL K H p (ns.map V.int) ∧ k ≤ 1000 ∧
    ∀ H' g, Sm H H' → H g = none → RngAt H' g → Q (.ref g) H') := by
  have nd := sc_l_rng.nd
  refine T.d_l_rng.F.ok sc_l_rng (fun vs H Q E h => ?_) (fun cdv A outer s H vs Q E hr h => ?_)
  · obtain ⟨p, ns, k, rfl, _⟩ := h; rfl
  · obtain ⟨p, ns, k, rfl, hp, hk, q⟩ := h
    refine ⟨_, (pss_cons (ps_set (i := 2) nd rfl (.inl rfl) (pe_ifExp (pt_cmpR op_lt (pv 1) (pe_callB (r := rLenS K) (id := "len") call_lenS (by rfl) T.b_len (by decide +kernel) (pa_cons (pv 0) pa_nil)) (nomark _)) (pe_callB (id := "abs") call_abs (by rfl) T.b_abs (by decide +kernel) (pa_cons (pe_ix (r := rIxL K) ix_list (pv 0) (pv 1) (fun _ _ => rfl)) pa_nil)) pe_int))
      (pss_one (ps_ret (pe_lst (pa_cons (pe_callB (id := "max") (call_max2 rfl) (by rfl) T.b_max (by decide +kernel) (pa_cons pe_int (pa_cons (pe_op op_sub (pv 2) (pe_op op_pow pe_int pe_int)) pa_nil))) (pa_cons (pe_op op_add (pe_op op_mod (pe_op op_pow (pe_op op_add (pe_op op_add (pe_op op_mod (pv 2) pe_int) (pe_op op_mul pe_int (pv 1))) pe_int) pe_int) pe_int) pe_int) pa_nil)))))), ?_⟩
    have fin : ∀ (cell : Int) (c0 : 0 ≤ cell ∨ True), ∀ H1, Sm H H1 → ∀ g, H1 g = none → Q (.ref g) (upd H1 g (.lst [.int (if (cell - 10 ^ (18 : Int).toNat) > 0 then (cell - 10 ^ (18 : Int).toNat) else 0), .int ((cell % 2147483543 + 101 * (k : Int) + 7) ^ (2 : Int).toNat % 2147483497 + 1)])) := fun cell _ H1 s1 g ng => by
      have e1 : 0 ≤ (cell % 2147483543 + 101 * (k : Int) + 7) ^ (2 : Int).toNat % 2147483497 := Int.emod_nonneg _ (by decide)
      have e2 : (cell % 2147483543 + 101 * (k : Int) + 7) ^ (2 : Int).toNat % 2147483497 < 2147483497 := Int.emod_lt_of_pos _ (by decide)
      refine q _ g (s1.up ng) (s1.un ng) ⟨_, _, upd_same, ?_, by omega, by omega⟩
      split
      · omega
      · exact Int.le_refl _
    refine ⟨_, rfl, _, rfl, p, _, rfl, .inl hp, _, _, rfl, rfl, _, rfl, ?_⟩
    have m1 : ∀ cell : Int, 0 ≤ cell % 2147483543 := fun cell => Int.emod_nonneg _ (by decide)
    have m2 : ∀ cell : Int, cell % 2147483543 < 2147483543 := fun cell => Int.emod_lt_of_pos _ (by decide)
    by_cases hlt : (k : Int) < ((ns.map V.int).length : Nat)
    · refine ifT (decT hlt) ?_
      have hk2 : k < ns.length := by rw [List.length_map] at hlt; omega
      have e1 : (ns.map V.int)[k]? = some (V.int ns[k]) := by rw [List.getElem?_map, List.getElem?_eq_getElem hk2]; rfl
      generalize ns[k] = z at e1
      refine ⟨_, rfl, _, rfl, p, _, (k : Int), _, rfl, rfl, hp, atI_nat e1, z, rfl, ?_⟩
      have m3 := m1 (if z < 0 then -z else z)
      have m4 := m2 (if z < 0 then -z else z)
      refine ⟨_, rfl, _, _, rfl, rfl, ⟨by decide, by decide, by decide⟩, _, _, rfl, rfl, _, _, rfl, _, rfl, _, _, rfl, rfl, (by show (0 : Int) < 2147483543; decide), _, rfl, _, _, rfl, rfl, .inl ⟨by decide, by decide⟩, _, _, rfl, rfl, _, _, rfl, rfl, _, _, rfl, rfl, ⟨by decide, by decide, by omega⟩, _, _, rfl, rfl, (by show (0 : Int) < 2147483497; decide), _, _, rfl, rfl, (by show 2 ≤ sizeLine; decide), fun g ng => ?_⟩
      exact fin _ (.inr trivial) H Sm.rf g ng
    · refine ifF (decF hlt) ?_
      refine ⟨_, rfl, _, _, rfl, rfl, ⟨by decide, by decide, by decide⟩, _, _, rfl, rfl, _, _, rfl, _, rfl, _, _, rfl, rfl, (by show (0 : Int) < 2147483543; decide), _, rfl, _, _, rfl, rfl, .inl ⟨by decide, by decide⟩, _, _, rfl, rfl, _, _, rfl, rfl, _, _, rfl, rfl, ⟨by decide, by decide, by omega⟩, _, _, rfl, rfl, (by show (0 : Int) < 2147483497; decide), _, _, rfl, rfl, (by show 2 ≤ sizeLine; decide), fun g ng => ?_⟩
      exact fin 0 (.inr trivial) H Sm.rf g ng
end
end Gs
/-! ## GsK -/
namespace Gs
open PySem PySem.Spec PyProof.Rows L2
section
variable {P : Program} {w : World} {K : PySem.W.Frag} {mg : Str → Option Value} {base : Heap}
section
variable {X : Cx} {o e : Expr} {es : List Expr} {to te : TE} {t : TA} {name : Str} {apos cpos : Pos} {T id : String} {r : V → List V → Hp → VK → Prop} {tg : Expr}
/-- as pe_bm, the written part named -/
theorem pe_bmK {K : PySem.W.Frag} (hK : X.K = K) (pa : PlainAttrs T) (slot : Slot T name id) (hty : typeOf (.builtin id) = pure (.type "method_descriptor")) (hm : MtR X id r) (ho : PE X o to) (ha : PA X (e :: es) t)
    (hbase : attributeBase o name X.env (eval o X.env) = eval o X.env := by rfl)
    (hfew : ((backTo cpos (starEach (e :: es) X.env)).all (fun x => !x.1) && (backToKw cpos (keywordEach [] X.env)).all (fun x => x.1.isSome)
      && decide ((e :: es).length + ([] : List Keyword).length + (if ([] : List Keyword).isEmpty then 0 else 1) < 30)) = true := by rfl)
    (hline : (apos.endLine == cpos.line) = true := by rfl) (hs : starEach (e :: es) X.env = (false, eval e X.env) :: starEach es X.env := by rfl) (hplain : (backTo cpos (starEach es X.env)).any (·.1) = false := by rfl) :
    PE X (.Call (.Attribute o name apos) (e :: es) [] cpos) (tBM K T r to t) := by
  subst hK
  exact pe_bm pa slot hty hm ho ha hbase hfew hline hs hplain
theorem pi_listK {K : PySem.W.Frag} (hK : X.K = K) (hl : PE X e te) : PI X tg e (iList K te) := by
  subst hK
  exact pi_list hl
theorem pi_tupK {K : PySem.W.Frag} (hK : X.K = K) (hl : PE X e te) : PI X tg e (iTup K te) := by
  subst hK
  exact pi_tup hl
end
end
end Gs
/-! ## GsL2 -/
namespace Gs
open PySem PySem.Spec PyProof.Rows L2
section
variable {P : Program} {w : World} {K : PySem.W.Frag} {mg : Str → Option Value} {base : Heap}
theorem erase_perm {α : Type} : ∀ {l : List α} {k : Nat} {y : α}, l[k]? = some y → (y :: l.eraseIdx k).Perm l
  | [], _, _, h => by cases h
  | a :: l, 0, y, h => by cases h; exact .refl _
  | a :: l, k + 1, y, h => (List.Perm.swap a y _).trans ((erase_perm (l := l) (k := k) h).cons a)
theorem map_erase {α β : Type} (f : α → β) : ∀ (l : List α) (k : Nat), (l.map f).eraseIdx k = (l.eraseIdx k).map f
  | [], _ => rfl
  | a :: l, 0 => rfl
  | a :: l, k + 1 => by
    show f a :: (l.map f).eraseIdx k = f a :: (l.eraseIdx k).map f
    rw [map_erase f l k]
theorem atI_mem {α : Type} {xs : List α} {d : Int} (h0 : 0 ≤ d) (h1 : d < xs.length) : ∃ v, atI xs d = some v ∧ v ∈ xs := by
  have hd : d.toNat < xs.length := by omega
  have := atI_nat (List.getElem?_eq_getElem hd)
  rw [show ((d.toNat : Nat) : Int) = d by omega] at this
  exact ⟨_, this, List.getElem_mem hd⟩
theorem rng_ne {H : Hp} {g p : Addr} (h : RngAt H g) (n : H p = none) : p ≠ g := fun e => by
  obtain ⟨o, z⟩ := h.some_
  rw [e, z] at n
  cases n
theorem ok_l_choice (T : Txt K mg) : FnOk P w K mg base CX0 2 T.d_l_choice.f T.d_l_choice.fd ["_law_rng_here", "_law_options"] (fun vs H Q _ => ∃ (g p : Addr) (xs : List V), vs = [.ref g, .ref p] ∧ RngAt H g ∧ H p = some (.lst xs) ∧ p ≠ g ∧ 0 < xs.length ∧ xs.length ≤ 1000 ∧
    ∀ H' x, Kp [g] H H' → RngAt H' g → x ∈ xs → Q x H') := by
  have nd := sc_l_choice.nd
  refine T.d_l_choice.F.ok sc_l_choice (fun vs H Q E h => ?_) (fun cdv A outer s H vs Q E hr h => ?_)
  · obtain ⟨g, p, xs, rfl, _⟩ := h; rfl
  · obtain ⟨g, p, xs, rfl, hg, hp, hne, h0, h1, q⟩ := h
    refine ⟨_, (pss_one (ps_ret (pe_ix (r := rIxL K) ix_list (pv 1) (pcall (ok_l_draw T) T.d_l_draw.M (hr.mono (by decide)) (pa_cons (pv 0) (pa_cons (pe_callB (r := rLenS K) (id := "len") call_lenS (by rfl) T.b_len (by decide +kernel) (pa_cons (pv 1) pa_nil)) pa_nil))) (fun _ _ => rfl)))), ?_⟩
    refine ⟨_, rfl, _, rfl, _, rfl, p, _, rfl, .inl (SqL.of hp), g, _, rfl, hg, by omega, by omega, fun H1 d k1 g1 d0 d1 => ?_⟩
    have hp1 := k1 _ _ hp (by simpa using hne)
    have hd : d.toNat < xs.length := by omega
    refine ⟨p, xs, d, xs[d.toNat], rfl, rfl, SqL.of hp1, ?_, q _ _ k1 g1 (List.getElem_mem hd)⟩
    have := atI_nat (List.getElem?_eq_getElem hd)
    rwa [show ((d.toNat : Nat) : Int) = d by omega] at this
theorem ok_l_shuffled (T : Txt K mg) : FnOk P w K mg base CX0 2 T.d_l_shuffled.f T.d_l_shuffled.fd ["_law_rng_here", "_law_values"] (fun vs H Q _ => ∃ (g p : Addr) (xs : List Nm), vs = [.ref g, .ref p] ∧ RngAt H g ∧ H p = some (.lst (xs.map V.str)) ∧ p ≠ g ∧ xs.length ≤ 1000 ∧
    ∀ H' l (ys : List Nm), Kp [g] H H' → RngAt H' g → H l = none → H' l = some (.lst (ys.map V.str)) → ys.Perm xs → Q (.ref l) H') := by
  have nd := sc_l_shuffled.nd
  refine T.d_l_shuffled.F.ok sc_l_shuffled (fun vs H Q E h => ?_) (fun cdv A outer s H vs Q E hr h => ?_)
  · obtain ⟨g, p, xs, rfl, _⟩ := h; rfl
  · obtain ⟨g, p, xs, rfl, hg, hp, hne, h1, q⟩ := h
    have hs : sizeLine = 16777216 := sizeLine_eq
    refine ⟨_, (pss_cons (ps_set (i := 2) nd rfl (.inr rfl) (pe_callTy (r := rListS K) (T := "list") call_listS (by rfl) T.b_list (by decide +kernel) (pa_cons (pv 1) pa_nil)))
      (pss_one (ps_ret (pe_lc (own := [("_law_k", 3)]) (tt := tYes) (g := (gName 3)) rfl nd (pi_range1 (by rfl) T.b_range (pa_cons (pe_callB (r := rLenS K) (id := "len") call_lenS (by rfl) T.b_len (by decide +kernel) (pa_cons (pv 1) pa_nil)) pa_nil)) (blkOk_by (N := N_l_shuffled) (sc := defScope s_l_shuffled) (by decide +kernel)) (fun _ _ _ _ _ => (pg_name (i := 3) nd rfl (.inl rfl))) (fun _ _ _ _ _ => pts_nil) (fun _ _ _ _ _ => (pe_bmK (K := K) rfl PySem.F.plainAttrs_list PySem.F.slot_list_pop PySem.F.type_list_pop mt_popAt (pv 2) (pa_cons (pcall (ok_l_draw T) T.d_l_draw.M (hr.mono (by decide)) (pa_cons (pv 0) (pa_cons (pe_callB (r := rLenS K) (id := "len") call_lenS (by rfl) T.b_len (by decide +kernel) (pa_cons (pv 2) pa_nil)) pa_nil))) pa_nil))))))), ?_⟩
    refine ⟨_, rfl, p, _, rfl, .inl (SqL.of hp), fun B nB => ?_⟩
    have s1 : Sm H (upd H B (.lst (xs.map V.str))) := Sm.rf.up nB
    refine ⟨_, rfl, p, _, rfl, .inl (SqL.of (s1 _ _ hp)), ?_⟩
    refine ⟨_, rfl, by rw [List.length_map]; omega, by rw [List.length_map]; omega, fun D nD => ?_⟩
    have wk := walk_range (lo := 0) (n := (((xs.map V.str).length : Nat) : Int).toNat)
    have en : (((xs.map V.str).length : Nat) : Int).toNat = xs.length := by rw [List.length_map]; omega
    have nBg := rng_ne hg nB
    have nD0 : H D = none := s1.un nD
    have nDg := rng_ne hg nD0
    have nDB : D ≠ B := (ne_of_none upd_same nD).symm
    refine walk_it wk (fun i H' => Kp [g] H H' ∧ RngAt H' g ∧ ∃ rest acc : List Nm, H' B = some (.lst (rest.map V.str)) ∧ H' D = some (.lst (acc.map V.str)) ∧ (acc ++ rest).Perm xs ∧ rest.length + i = xs.length) ⟨(Kp.of s1).new nD, (hg.sm s1).sm (Sm.rf.up nD), xs, [], (by rw [upd_ne nDB.symm]; exact upd_same), upd_same, .refl _, rfl⟩ (fun _ _ _ _ => trivial) (fun i x H2 H3 hi p y => ?_) (fun H2 p => ?_)
    · obtain ⟨k2, g2, rest, acc, hB, hD, hperm, hlen⟩ := p
      obtain ⟨rfl, rfl⟩ := y
      rw [en] at hi
      have hr0 : 0 < rest.length := by omega
      refine ⟨rfl, _, rfl, .inl ⟨rfl, _, .inl (.inl hB)⟩, _, rfl, _, rfl, B, _, rfl, .inl (SqL.of hB), g, _, rfl, g2, by rw [List.length_map]; omega, by rw [List.length_map]; omega, fun H4 d k4 g4 d0 d1 => ?_⟩
      have hB4 := k4 _ _ hB (by simpa using nBg)
      have hD4 := k4 _ _ hD (by simpa using nDg)
      obtain ⟨v, hv, hvm⟩ := atI_mem d0 d1
      obtain ⟨k, hk1, hk2, hk3, hk4, hk5⟩ := atI_get hv
      rw [List.getElem?_map] at hk2
      cases ez : rest[k]? with
      | none => rw [ez] at hk2; cases hk2
      | some z =>
        rw [ez] at hk2
        cases hk2
        have hrl : (rest.map V.str).length = rest.length := List.length_map ..
        refine ⟨B, rest.map V.str, d, k, _, rfl, rfl, hB4, by omega, by omega, hk1, (by rw [List.getElem?_map, ez]; rfl), ?_⟩
        have hk6 := (List.getElem?_eq_some_iff.mp ez).1
        refine ⟨acc.map V.str, (upd_ne nDB).trans hD4, by rw [List.length_map]; have := hperm.length_eq; rw [List.length_append] at this; omega, ?_⟩
        refine ⟨((k2.tr k4).set nB).set nD0, ?_, rest.eraseIdx k, acc ++ [z], ?_, ?_, ?_, ?_⟩
        · obtain ⟨a, b, e, z⟩ := g4
          exact ⟨a, b, (upd_ne nDg.symm).trans ((upd_ne nBg.symm).trans e), z⟩
        · rw [upd_ne nDB.symm, upd_same, map_erase]
        · rw [upd_same, List.map_append]
          rfl
        · rw [List.append_assoc]
          exact ((List.Perm.refl acc).append (erase_perm ez)).trans hperm
        · rw [List.length_eraseIdx_of_lt hk6]
          omega
    · obtain ⟨k2, g2, rest, acc, hB, hD, hperm, hlen⟩ := p
      rw [en] at hlen
      have : rest = [] := List.eq_nil_of_length_eq_zero (by omega)
      rw [this, List.append_nil] at hperm
      exact q _ D acc k2 g2 nD0 hD hperm
structure WinSt (H H' : Hp) (g F : Addr) (refs : List V) (ws : List Win) (low : Int) (h : Option Int) (i : Nat) : Prop where
  kp : Kp [g] H H'
  rg : RngAt H' g
  hF : H' F = some (.lst refs)
  wa : WinsAre H' refs ws
  len : ws.length = i
  ris : Rising ws
  okw : ∀ w ∈ ws, okWin w
  l0 : 0 ≤ low
  hi : ∀ z, h = some z → low ≤ z
theorem WinSt.step {H H' H2 : Hp} {g F b : Addr} {refs : List V} {ws : List Win} {low low' : Int} {h h' : Option Int} {i : Nat} (s : WinSt H H' g F refs ws low h i) (last : ∀ a, ws.getLast? = some a → rise a (low, h) = true) (kp : Kp [g] H H2) (rg : RngAt H2 g) (hF : H2 F = some (.lst (refs ++ [.ref b])))
    (tk : ∀ z xs, H' z = some (.tup xs) → H2 z = some (.tup xs)) (hb : H2 b = some (.tup (winV (low, h)))) (hl : low ≤ low') (hh : ∀ z, h' = some z → low' ≤ z) (hr : h = none → h' = none) (hm : ∀ z y, h = some z → h' = some y → z ≤ y) :
    WinSt H H2 g F (refs ++ [.ref b]) (ws ++ [(low, h)]) low' h' (i + 1) ∧ ∀ a, (ws ++ [(low, h)]).getLast? = some a → rise a (low', h') = true := by
  refine ⟨⟨kp, rg, hF, (s.wa.keep tk).snoc ⟨b, rfl, hb⟩, by rw [List.length_append, s.len]; rfl, rising_snoc s.ris last, fun w hw => ?_, Int.le_trans s.l0 hl, hh⟩, fun a ha => ?_⟩
  · rcases List.mem_append.mp hw with hw | hw
    · exact s.okw w hw
    · rw [List.mem_singleton.mp hw]
      exact ⟨s.l0, fun z hz => s.hi z hz⟩
  · have : (low, h) = a := by simpa using ha
    subst this
    unfold rise
    rw [Bool.and_eq_true]
    refine ⟨decide_eq_true hl, ?_⟩
    cases h with
    | none => exact decide_eq_true (hr rfl)
    | some z =>
      show reach (low', h') z = true
      unfold reach
      cases h' with
      | none => rfl
      | some y => exact decide_eq_true (hm z y rfl rfl)
theorem ok_l_windows (T : Txt K mg) : FnOk P w K mg base CX0 2 T.d_l_windows.f T.d_l_windows.fd ["_law_rng_here", "_law_many", "_law_loose"] (fun vs H Q _ => ∃ (g : Addr) (n : Nat) (loose : Int), vs = [.ref g, .int (n : Nat), .int loose] ∧ RngAt H g ∧ n ≤ 1000 ∧ (loose = 0 ∨ loose = 1) ∧
    ∀ H' l refs ws, Kp [g] H H' → RngAt H' g → H l = none → H' l = some (.lst refs) → WinsAre H' refs ws → ws.length = n → Rising ws → (∀ w ∈ ws, okWin w) → Q (.ref l) H') := by
  have nd := sc_l_windows.nd
  refine T.d_l_windows.F.ok sc_l_windows (fun vs H Q E h => ?_) (fun cdv A outer s H vs Q E hr h => ?_)
  · obtain ⟨g, n, lo, rfl, _⟩ := h; rfl
  · obtain ⟨g, n, lo, rfl, hg, hn, hlo, q⟩ := h
    have hs : sizeLine = 16777216 := sizeLine_eq
    refine ⟨_, (pss_cons (ps_par3 (i := 3) (j := 4) (l := 5) rfl nd rfl rfl rfl (by decide) (by decide) (by decide) rfl rfl rfl (pa_cons pe_int (pa_cons (pe_ix (r := rIxL K) ix_list (pe_lst (pa_cons (pv 2) (pa_cons pe_int (pa_cons pe_int (pa_cons pe_non pa_nil))))) (pcall (ok_l_draw T) T.d_l_draw.M (hr.mono (by decide)) (pa_cons (pv 0) (pa_cons pe_int pa_nil))) (fun _ _ => rfl)) (pa_cons (pe_lst pa_nil) pa_nil))) rfl)
      (pss_cons (ps_for PassesOwn.never rfl (pi_range1 (by rfl) T.b_range (pa_cons (pv 1) pa_nil)) (pg_name (i := 6) nd rfl (.inl rfl))
      (pss_cons (ps_expr (pe_bmK (K := K) rfl PySem.F.plainAttrs_list PySem.F.slot_list_append PySem.F.type_list_append mt_append (pv 5) (pa_cons (pe_tup (pa_cons (pv 3) (pa_cons (pv 4) pa_nil))) pa_nil)))
      (pss_cons (ps_set (i := 3) nd rfl (.inl rfl) (pe_op op_add (pv 3) (pe_ix (r := rIxL K) ix_list (pe_lst (pa_cons pe_int (pa_cons pe_int (pa_cons (pe_op op_sub pe_int (pv 2)) (pa_cons pe_int (pa_cons (pe_op op_sub pe_int (pv 2)) pa_nil)))))) (pcall (ok_l_draw T) T.d_l_draw.M (hr.mono (by decide)) (pa_cons (pv 0) (pa_cons pe_int pa_nil))) (fun _ _ => rfl))))
      (pss_one (ps_if (pt_cmp (pc_notN (pv 4))) (pss_cons (ps_set (i := 4) nd rfl (.inl rfl) (pe_callB (id := "max") (call_max2 rfl) (by rfl) T.b_max (by decide +kernel) (pa_cons (pe_op op_add (pv 3) (pv 2)) (pa_cons (pe_op op_add (pv 4) (pe_ix (r := rIxL K) ix_list (pe_lst (pa_cons (pv 2) (pa_cons pe_int (pa_cons pe_int (pa_cons pe_int pa_nil))))) (pcall (ok_l_draw T) T.d_l_draw.M (hr.mono (by decide)) (pa_cons (pv 0) (pa_cons pe_int pa_nil))) (fun _ _ => rfl))) pa_nil))))
      (pss_one (ps_set (i := 4) nd rfl (.inl rfl) (pe_ifExp (pt_cmpR op_eq (pcall (ok_l_draw T) T.d_l_draw.M (hr.mono (by decide)) (pa_cons (pv 0) (pa_cons pe_int pa_nil))) pe_int (nomark _)) pe_non (pv 4))))) pss_nil)))))
      (pss_one (ps_ret (pv 5))))), ?_⟩
    refine ⟨_, rfl, (by show 4 ≤ sizeLine; omega), fun p np => ?_⟩
    have s1 : Sm H (upd H p (.lst [.int lo, .int 1, .int 2, .non])) := Sm.rf.up np
    refine ⟨_, rfl, g, 4, rfl, hg.sm s1, by decide, by decide, fun H1 d k1 g1 d0 d1 => ?_⟩
    have npg := rng_ne hg np
    obtain ⟨v, hv, hvm⟩ := atI_mem (xs := [V.int lo, .int 1, .int 2, .non]) d0 d1
    refine ⟨p, _, d, v, rfl, rfl, SqL.of (k1 _ _ upd_same (by simpa using npg)), hv, (by show 0 ≤ sizeLine; omega), fun F nF => ?_⟩
    have k01 : Kp [g] H H1 := (Kp.of s1).tr k1
    obtain ⟨o1, eg1⟩ := g1.some_
    have nFg : F ≠ g := fun e => by rw [e, eg1] at nF; cases nF
    have hv' : ∃ h : Option Int, v = hiV h ∧ ∀ z, h = some z → 0 ≤ z := by
      simp only [List.mem_cons, List.not_mem_nil, or_false] at hvm
      rcases hvm with rfl | rfl | rfl | rfl
      · exact ⟨some lo, rfl, fun z hz => by cases hz; omega⟩
      · exact ⟨some 1, rfl, fun z hz => by cases hz; omega⟩
      · exact ⟨some 2, rfl, fun z hz => by cases hz; omega⟩
      · exact ⟨none, rfl, fun z hz => by cases hz⟩
    obtain ⟨h0, rfl, hh0⟩ := hv'
    have nF0 : H F = none := k01.un nF (by simpa using nFg)
    refine ⟨_, _, _, rfl, ?_⟩
    refine ⟨_, rfl, _, rfl, by omega, by omega, ?_⟩
    have wk := walk_range (lo := 0) (n := ((n : Nat) : Int).toNat)
    refine for_it wk (fun i σ H' => ∃ refs ws low h, WinSt H H' g F refs ws low h i ∧ (∀ a, ws.getLast? = some a → rise a (low, h) = true) ∧ ∃ x6, σ = [some (.ref g), some (.int (n : Nat)), some (.int lo), some (.int low), some (hiV h), some (.ref F), x6]) ⟨[], [], 0, h0, ⟨k01.new nF, g1.sm (Sm.rf.up nF), upd_same, .nil, rfl, fun i a b ha => (by simp at ha), fun w hw => (nomatch hw), Int.le_refl _, hh0⟩, fun a ha => (by simp at ha), _, rfl⟩ (fun _ _ _ _ _ => trivial) (fun i x σ H2 H3 hi p y => ?_) (fun σ H2 p => ?_)
    · obtain ⟨refs, ws, low, h, st, last, x6, rfl⟩ := p
      obtain ⟨rfl, rfl⟩ := y
      have hrl : refs.length = i := by rw [st.wa.length, st.len]
      refine ⟨_, rfl, .inl ⟨rfl, _, .inl (.inl st.hF)⟩, _, rfl, _, rfl, (by show 2 ≤ sizeLine; omega), fun b nb => ?_⟩
      have s4 : Sm H3 (upd H3 b (.tup [.int low, hiV h])) := Sm.rf.up nb
      refine ⟨F, refs, _, rfl, rfl, s4 _ _ st.hF, by omega, ?_⟩
      have nbF := ne_of_none st.hF nb
      have hb5 : (upd (upd H3 b (.tup [.int low, hiV h])) F (.lst (refs ++ [.ref b]))) b = some (.tup (winV (low, h))) := by rw [upd_ne nbF.symm, upd_same]; rfl
      have hF5 : (upd (upd H3 b (.tup [.int low, hiV h])) F (.lst (refs ++ [.ref b]))) F = some (.lst (refs ++ [.ref b])) := upd_same
      have k5 : Kp [g] H (upd (upd H3 b (.tup [.int low, hiV h])) F (.lst (refs ++ [.ref b]))) := (st.kp.new nb).set nF0
      have g5 : RngAt (upd (upd H3 b (.tup [.int low, hiV h])) F (.lst (refs ++ [.ref b]))) g := by
        obtain ⟨a, b', e, z⟩ := st.rg
        exact ⟨a, b', (upd_ne nFg.symm).trans (s4 _ _ e), z⟩
      have t5 : ∀ z xs, H3 z = some (.tup xs) → (upd (upd H3 b (.tup [.int low, hiV h])) F (.lst (refs ++ [.ref b]))) z = some (.tup xs) := fun z xs e => by
        rw [upd_ne (ne_of st.hF e (fun z => nomatch z)).symm]
        exact s4 _ _ e
      generalize (upd (upd H3 b (.tup [.int low, hiV h])) F (.lst (refs ++ [.ref b]))) = H5 at hb5 hF5 k5 g5 t5 ⊢
      refine ⟨_, rfl, _, rfl, _, _, rfl, rfl, _, rfl, _, _, rfl, rfl, (by show 5 ≤ sizeLine; omega), fun p5 np5 => ?_⟩
      have s6 : Sm H5 (upd H5 p5 (.lst [.int 0, .int 0, .int (1 - lo), .int 1, .int (2 - lo)])) := Sm.rf.up np5
      refine ⟨_, rfl, g, 5, rfl, g5.sm s6, by decide, by decide, fun H7 d7 k7 g7 d70 d71 => ?_⟩
      have np5g := rng_ne g5 np5
      obtain ⟨v7, hv7, hvm7⟩ := atI_mem (xs := [V.int 0, .int 0, .int (1 - lo), .int 1, .int (2 - lo)]) d70 d71
      have : ∃ z, v7 = .int z ∧ 0 ≤ z := by
        simp only [List.mem_cons, List.not_mem_nil, or_false] at hvm7
        rcases hvm7 with rfl | rfl | rfl | rfl | rfl
        · exact ⟨_, rfl, by omega⟩
        · exact ⟨_, rfl, by omega⟩
        · exact ⟨_, rfl, by omega⟩
        · exact ⟨_, rfl, by omega⟩
        · exact ⟨_, rfl, by omega⟩
      obtain ⟨z7, rfl, z0⟩ := this
      refine ⟨p5, _, d7, _, rfl, rfl, SqL.of (k7 _ _ upd_same (by simpa using np5g)), hv7, _, _, rfl, rfl, ?_⟩
      have k57 : Kp [g] H5 H7 := (Kp.of s6).tr k7
      have ng : ∀ {b : Addr} {o : HO}, H5 b = some o → (∀ xs, o ≠ .lst xs) ∨ b ≠ g → H7 b = some o := fun {b o} e z => k57 _ _ e (by
        rcases z with z | z
        · intro hb
          rw [List.mem_singleton.mp hb] at e
          obtain ⟨a, b', e2, _⟩ := g5
          rw [e2] at e
          exact z _ (Option.some.inj e).symm
        · simpa using z)
      have hF7 := ng hF5 (.inr nFg)
      have hb7 := ng hb5 (.inl fun _ z => nomatch z)
      have t7 : ∀ z xs, H3 z = some (.tup xs) → H7 z = some (.tup xs) := fun z xs e => ng (t5 z xs e) (.inl fun _ z => nomatch z)
      refine ⟨_, rfl, _, rfl, ?_⟩
      cases h with
      | none =>
        obtain ⟨a1, a2⟩ := st.step (H2 := H7) (b := b) (low' := low + z7) (h' := none) last (k5.tr k57) g7 hF7 t7 hb7 (by omega) (fun z hz => by cases hz) (fun _ => rfl) (fun z y hz => by cases hz)
        exact ifF rfl ⟨_, _, _, none, a1, a2, _, rfl⟩
      | some z =>
        refine ifT rfl ?_
        refine ⟨_, rfl, _, rfl, _, _, rfl, rfl, _, rfl, _, rfl, (by show 4 ≤ sizeLine; omega), fun p8 np8 => ?_⟩
        have s8 : Sm H7 (upd H7 p8 (.lst [.int lo, .int 1, .int 1, .int 2])) := Sm.rf.up np8
        have np8g := rng_ne g7 np8
        refine ⟨_, rfl, g, 4, rfl, g7.sm s8, by decide, by decide, fun H9 d9 k9 g9 d90 d91 => ?_⟩
        obtain ⟨v9, hv9, hvm9⟩ := atI_mem (xs := [V.int lo, .int 1, .int 1, .int 2]) d90 d91
        have : ∃ z, v9 = .int z ∧ 0 ≤ z := by
          simp only [List.mem_cons, List.not_mem_nil, or_false] at hvm9
          rcases hvm9 with rfl | rfl | rfl | rfl
          · exact ⟨_, rfl, by omega⟩
          · exact ⟨_, rfl, by omega⟩
          · exact ⟨_, rfl, by omega⟩
          · exact ⟨_, rfl, by omega⟩
        obtain ⟨z9, rfl, z90⟩ := this
        refine ⟨p8, _, d9, _, rfl, rfl, SqL.of (k9 _ _ upd_same (by simpa using np8g)), hv9, _, _, rfl, rfl, _, _, rfl, ?_⟩
        have k79 : Kp [g] H7 H9 := (Kp.of s8).tr k9
        refine ⟨_, rfl, g, 8, rfl, g9, by decide, by decide, fun H11 d11 k11 g11 d110 d111 => ?_⟩
        have k711 := k79.tr k11
        have ng2 : ∀ {b : Addr} {o : HO}, H7 b = some o → (∀ xs, o ≠ .lst xs) ∨ b ≠ g → H11 b = some o := fun {b o} e z => k711 _ _ e (by
          rcases z with z | z
          · intro hb
            rw [List.mem_singleton.mp hb] at e
            obtain ⟨a, b', e2, _⟩ := g7
            rw [e2] at e
            exact z _ (Option.some.inj e).symm
          · simpa using z)
        have hmx : low + z7 + lo ≤ (if z + z9 > low + z7 + lo then z + z9 else low + z7 + lo) ∧ z + z9 ≤ (if z + z9 > low + z7 + lo then z + z9 else low + z7 + lo) := by split <;> omega
        refine ⟨rfl, _, rfl, ?_⟩
        by_cases hd : d11 = 0
        · obtain ⟨a1, a2⟩ := st.step (H2 := H11) (b := b) (low' := low + z7) (h' := none) last (k5.tr (k57.tr k711)) g11 (ng2 hF7 (.inr nFg)) (fun z xs e => ng2 (t7 z xs e) (.inl fun _ z => nomatch z)) (ng2 hb7 (.inl fun _ z => nomatch z)) (by omega) (fun z hz => by cases hz) (fun hz => by cases hz) (fun z y _ hy => by cases hy)
          exact ifT (by rw [hd]; rfl) ⟨_, _, _, none, a1, a2, _, rfl⟩
        · obtain ⟨a1, a2⟩ := st.step (H2 := H11) (b := b) (low' := low + z7) (h' := some (if z + z9 > low + z7 + lo then z + z9 else low + z7 + lo)) last (k5.tr (k57.tr k711)) g11 (ng2 hF7 (.inr nFg)) (fun z xs e => ng2 (t7 z xs e) (.inl fun _ z => nomatch z)) (ng2 hb7 (.inl fun _ z => nomatch z)) (by omega) (fun y hy => by cases hy; omega) (fun hz => by cases hz) (fun y1 y2 h1 h2 => by cases h1; cases h2; omega)
          exact ifF (by simp [hd]) ⟨_, rfl, _, _, _, some _, a1, a2, _, rfl⟩
    · obtain ⟨refs, ws, low, h, st, last, x6, rfl⟩ := p
      exact ⟨_, rfl, q H2 F refs ws st.kp st.rg nF0 st.hF st.wa (by rw [st.len]; omega) st.ris st.okw⟩
end
end Gs
/-! ## GsL3 -/
namespace Gs
open PySem PySem.Spec PyProof.Rows L2
section
variable {P : Program} {w : World} {K : PySem.W.Frag} {mg : Str → Option Value} {base : Heap}
abbrev cl (z : Str) : List Nat := z.cps.toList
theorem cl_append (x y : Str) : cl (x ++ y) = cl x ++ cl y := by
  show (x.cps ++ y.cps).toList = _
  rw [Array.toList_append]
theorem cl_inj {x y : Str} (h : cl x = cl y) : x = y := by
  obtain ⟨a⟩ := x
  obtain ⟨b⟩ := y
  exact congrArg Str.mk (Array.toList_inj.mp h)
def okC (c : Nat) : Prop := 97 ≤ c ∧ c ≤ 122
theorem nm_of {z : Str} (h1 : 1 ≤ (cl z).length) (h2 : (cl z).length ≤ 8) (h3 : ∀ c ∈ cl z, okC c) : NmOk z := ⟨by show 1 ≤ z.cps.size; rw [← Array.length_toList]; exact h1, by show z.cps.size ≤ 8; rw [← Array.length_toList]; exact h2, h3⟩
theorem nm_len {z : Str} (h : NmOk z) : (cl z).length ≤ 8 := by rw [Array.length_toList]; exact h.2.1
theorem cl_sjoin : ∀ ys : List Str, cl (Str.join ("" : Str) ys) = ys.flatMap cl
  | [] => rfl
  | [y] => by
    show cl y = [y].flatMap cl
    simp
  | x :: z :: r => by
    show cl (x ++ ("" : Str) ++ Str.join ("" : Str) (z :: r)) = _
    rw [cl_append, cl_append, cl_sjoin (z :: r), show cl ("" : Str) = [] from rfl, List.append_nil]
    rfl
theorem cl_join (ys : List Str) : cl (Txt.join ("" : Str) ys) = ys.flatMap cl := by
  rw [TL.join_eq]
  exact cl_sjoin ys
def abc : Str := "abcdefghijklmnopqrstuvwxyz"
theorem abc_at {k : Nat} (h : k < 26) : (cl abc)[k]? = some (97 + k) := by
  have : ∀ k : Fin 26, (cl abc)[k.val]? = some (97 + k.val) := by decide +kernel
  exact this ⟨k, h⟩
theorem abc_len : (cl abc).length = 26 := by decide +kernel
def word (z : Str) (k : Nat) : Str := cutS z none (some 6) ++ ⟨#[97 + k / 26]⟩ ++ ⟨#[97 + k % 26]⟩
theorem cl_cut (z : Str) : cl (cutS z none (some 6)) = (cl z).take 6 := by
  show (((cl z).drop (HT.sIx z.length 0 none)).take (HT.sIx z.length z.length (some 6) - HT.sIx z.length 0 none)).toArray.toList = _
  have e1 : HT.sIx z.length 0 none = 0 := rfl
  have e2 : HT.sIx z.length z.length (some 6) = min z.length 6 := by
    unfold HT.sIx
    first
      | rfl
      | (simp; omega)
  rw [e1, e2]
  have e3 : (cl z).length = z.length := Array.length_toList
  simp only [List.drop_zero, Nat.sub_zero]
  rw [← List.take_eq_take_iff.mpr (show min (min z.length 6) (cl z).length = min 6 (cl z).length by omega)]
theorem cl_word (z : Str) (k : Nat) : cl (word z k) = (cl z).take 6 ++ [97 + k / 26, 97 + k % 26] := by
  unfold word
  rw [cl_append, cl_append, cl_cut, List.append_assoc]
  rfl
theorem nm_word {z : Str} (h : NmOk z) {k : Nat} (hk : k < 676) : NmOk (word z k) := by
  refine nm_of ?_ ?_ fun c hc => ?_
  · rw [cl_word, List.length_append]; simp
  · rw [cl_word, List.length_append, List.length_take]
    simp
    omega
  · rw [cl_word] at hc
    rcases List.mem_append.mp hc with hc | hc
    · exact h.2.2 c (List.mem_of_mem_take hc)
    · rcases List.mem_cons.mp hc with rfl | hc
      · exact ⟨by omega, by omega⟩
      · rw [List.mem_singleton.mp hc]
        exact ⟨by omega, by omega⟩
theorem word_inj {z : Str} {j k : Nat} (h : word z j = word z k) : j = k := by
  have e := congrArg cl h
  rw [cl_word, cl_word] at e
  have e := List.append_cancel_left e
  simp at e
  omega
theorem words_free (z : Str) (used : List Nm) (h : used.length ≤ 100) : ∃ w, w ∈ ((List.range 676).map (word z)).filter fun x => !decide (x ∈ used) := by
  refine Classical.byContradiction fun no => ?_
  have sub : ∀ w ∈ (List.range 676).map (word z), w ∈ used := fun w hw => Classical.byContradiction fun n => no ⟨w, List.mem_filter.mpr ⟨hw, by simp [n]⟩⟩
  have nd : ((List.range 676).map (word z)).Nodup := nodup_map (fun a b e => word_inj e) List.nodup_range
  have := nd.length_le_of_subset sub
  rw [List.length_map, List.length_range] at this
  omega
theorem ok_l_name (T : Txt K mg) : FnOk P w K mg base CX0 2 T.d_l_name.f T.d_l_name.fd ["_law_rng_here", "_law_used"] (fun vs H Q _ => ∃ (g p : Addr) (used : List Nm), vs = [.ref g, .ref p] ∧ RngAt H g ∧ H p = some (.lst (used.map V.str)) ∧ p ≠ g ∧ used.length ≤ 100 ∧
    ∀ H' z, Kp [g] H H' → RngAt H' g → NmOk z → z ∉ used → Q (.str z) H') := by
  have nd := sc_l_name.nd
  refine T.d_l_name.F.ok sc_l_name (fun vs H Q E h => ?_) (fun cdv A outer s H vs Q E hr h => ?_)
  · obtain ⟨g, p, xs, rfl, _⟩ := h; rfl
  · obtain ⟨g, p, used, rfl, hg, hp, hne, h1, q⟩ := h
    have hs : sizeLine = 16777216 := sizeLine_eq
    refine ⟨_, (pss_cons (ps_set (i := 2) nd rfl (.inr rfl) pe_str)
      (pss_cons (ps_set (i := 3) nd rfl (.inl rfl) (pe_ix (r := rIxL K) ix_list (pe_lst (pa_cons pe_int (pa_cons pe_int (pa_cons pe_int (pa_cons (pe_op op_add pe_int (pcall (ok_l_draw T) T.d_l_draw.M (hr.mono (by decide)) (pa_cons (pv 0) (pa_cons pe_int pa_nil)))) pa_nil))))) (pcall (ok_l_draw T) T.d_l_draw.M (hr.mono (by decide)) (pa_cons (pv 0) (pa_cons pe_int pa_nil))) (fun _ _ => rfl)))
      (pss_cons (ps_set (i := 4) nd rfl (.inr rfl) (pe_bmK (K := K) rfl PySem.F.plainAttrs_str PySem.F.slot_str_join PySem.F.type_str_join mt_join pe_str (pa_cons (pe_lc (own := [("_law_k", 5)]) (tt := tYes) (g := (gName 5)) rfl nd (pi_range1 (by rfl) T.b_range (pa_cons (pv 3) pa_nil)) (blkOk_by (N := N_l_name) (sc := defScope s_l_name) (by decide +kernel)) (fun _ _ _ _ _ => (pg_name (i := 5) nd rfl (.inl rfl))) (fun _ _ _ _ _ => pts_nil) (fun _ _ _ _ _ => (pe_ix ix_str (pv 2) (pcall (ok_l_draw T) T.d_l_draw.M (hr.mono (by decide)) (pa_cons (pv 0) (pa_cons pe_int pa_nil))) (fun _ _ => rfl)))) pa_nil)))
      (pss_cons (ps_if (pt_cmpR op_eq (pcall (ok_l_draw T) T.d_l_draw.M (hr.mono (by decide)) (pa_cons (pv 0) (pa_cons pe_int pa_nil))) pe_int (nomark _)) (pss_one (ps_set (i := 4) nd rfl (.inr rfl) (pe_ix (r := rIxL K) ix_list (pe_lst (pa_cons pe_str (pa_cons pe_str (pa_cons pe_str (pa_cons pe_str (pa_cons pe_str (pa_cons pe_str (pa_cons pe_str (pa_cons pe_str pa_nil))))))))) (pcall (ok_l_draw T) T.d_l_draw.M (hr.mono (by decide)) (pa_cons (pv 0) (pa_cons pe_int pa_nil))) (fun _ _ => rfl)))) pss_nil)
      (pss_cons (ps_if (pt_cmpR (r := rIn K true) op_notIn_seq (pv 4) (pv 1) rfl) (pss_one (ps_ret (pv 4))) pss_nil)
      (pss_one (ps_ret (pe_ix (r := rIxL K) ix_list (pe_lc (own := [("_law_word", 6)]) (g := (gName 6)) rfl nd (pi_listK (K := K) rfl (pe_lc (own := [("_law_k", 5)]) (tt := tYes) (g := (gName 5)) rfl nd (pi_range1 (by rfl) T.b_range (pa_cons pe_int pa_nil)) (blkOk_by (N := N_l_name) (sc := defScope s_l_name) (by decide +kernel)) (fun _ _ _ _ _ => (pg_name (i := 5) nd rfl (.inl rfl))) (fun _ _ _ _ _ => pts_nil) (fun _ _ _ _ _ => (pe_op op_add_str (pe_op op_add_str (pe_slice sl_str (pv 4) po_none (po_some pe_int)) (pe_ix ix_str (pv 2) (pe_op op_fdiv (pv 5) pe_int) (fun _ _ => rfl))) (pe_ix ix_str (pv 2) (pe_op op_mod (pv 5) pe_int) (fun _ _ => rfl)))))) (blkOk_by (N := N_l_name) (sc := defScope s_l_name) (by decide +kernel)) (fun _ _ _ _ _ => (pg_name (i := 6) nd rfl (.inl rfl))) (fun _ _ _ _ _ => (pts_one (pt_cmpR (r := rIn K true) op_notIn_seq (pv 6) (pv 1) rfl))) (fun _ _ _ _ _ => (pv 6))) pe_int (fun _ _ => rfl))))))))), ?_⟩
    refine ⟨_, rfl, g, 8, rfl, hg, by decide, by decide, fun H1 d1 k1 g1 d10 d11 => ?_⟩
    refine ⟨_, _, rfl, rfl, (by show 4 ≤ sizeLine; omega), fun p1 np1 => ?_⟩
    have s1 : Sm H1 (upd H1 p1 (.lst [.int 1, .int 1, .int 2, .int (1 + d1)])) := Sm.rf.up np1
    have np1g := rng_ne g1 np1
    refine ⟨_, rfl, g, 4, rfl, g1.sm s1, by decide, by decide, fun H2 d2 k2 g2 d20 d21 => ?_⟩
    obtain ⟨v, hv, hvm⟩ := atI_mem (xs := [V.int 1, .int 1, .int 2, .int (1 + d1)]) d20 d21
    refine ⟨p1, _, d2, v, rfl, rfl, SqL.of (k2 _ _ upd_same (by simpa using np1g)), hv, ?_⟩
    have k02 : Kp [g] H H2 := k1.tr ((Kp.of s1).tr k2)
    have : ∃ n : Int, v = .int n ∧ 1 ≤ n ∧ n ≤ 8 := by
      simp only [List.mem_cons, List.not_mem_nil, or_false] at hvm
      rcases hvm with rfl | rfl | rfl | rfl
      · exact ⟨_, rfl, by omega, by omega⟩
      · exact ⟨_, rfl, by omega, by omega⟩
      · exact ⟨_, rfl, by omega, by omega⟩
      · exact ⟨_, rfl, by omega, by omega⟩
    obtain ⟨n, rfl, n1, n8⟩ := this
    clear hv hvm
    -- the letters
    refine ⟨rfl, _, rfl, _, rfl, by omega, by omega, fun D nD => ?_⟩
    have nDg := rng_ne g2 nD
    have wk := walk_range (lo := 0) (n := n.toNat)
    refine walk_it wk (fun i H' => Kp [g] H2 H' ∧ RngAt H' g ∧ ∃ ys : List Str, H' D = some (.lst (ys.map V.str)) ∧ ys.length = i ∧ ∀ y ∈ ys, ∃ c, y = ⟨#[c]⟩ ∧ okC c) ⟨(Kp.of Sm.rf).new nD, g2.sm (Sm.rf.up nD), [], upd_same, rfl, fun y hy => (nomatch hy)⟩ (fun _ _ _ _ => trivial) (fun i x H3 H4 hi p y => ?_) (fun H3 p => ?_)
    · obtain ⟨k3, g3, ys, hD, hl, hys⟩ := p
      obtain ⟨rfl, rfl⟩ := y
      refine ⟨rfl, _, rfl, _, rfl, g, 26, rfl, g3, by decide, by decide, fun H5 d5 k5 g5 d50 d51 => ?_⟩
      have e5 := abc_at (k := d5.toNat) (by omega)
      refine ⟨abc, d5, 97 + d5.toNat, rfl, rfl, (by show abc.cps.size ≤ sizeLine; rw [← Array.length_toList, abc_len]; omega), ?_, ?_⟩
      · have := atI_nat e5
        rwa [show ((d5.toNat : Nat) : Int) = d5 by omega] at this
      · have hD5 := k5 _ _ hD (by simpa using nDg)
        refine ⟨ys.map V.str, hD5, by rw [List.length_map]; omega, (k3.tr k5).set nD, ?_, ys ++ [⟨#[97 + d5.toNat]⟩], by rw [upd_same, List.map_append]; rfl, by rw [List.length_append, hl]; rfl, fun y hy => ?_⟩
        · obtain ⟨a, b, e, z⟩ := g5
          exact ⟨a, b, (upd_ne nDg.symm).trans e, z⟩
        · rcases List.mem_append.mp hy with hy | hy
          · exact hys y hy
          · rw [List.mem_singleton.mp hy]
            exact ⟨_, rfl, by omega, by omega⟩
    · obtain ⟨k3, g3, ys, hD, hl, hys⟩ := p
      have hfm : ∀ l : List Str, (∀ y ∈ l, ∃ c, y = ⟨#[c]⟩ ∧ okC c) → (l.flatMap cl).length = l.length ∧ (∀ c ∈ l.flatMap cl, okC c) ∧ (l.map fun x => x.length).sum = l.length := by
        intro l
        induction l with
        | nil => intro _; exact ⟨rfl, fun c hc => (nomatch hc), rfl⟩
        | cons y l ih =>
          intro h
          obtain ⟨c, rfl, hc⟩ := h y List.mem_cons_self
          obtain ⟨i1, i2, i3⟩ := ih fun z hz => h z (List.mem_cons_of_mem _ hz)
          refine ⟨by rw [List.flatMap_cons, List.length_append, i1]; show 1 + l.length = l.length + 1; omega, fun z hz => ?_, by show 1 + (l.map fun x => x.length).sum = l.length + 1; rw [i3]; omega⟩
          rw [List.flatMap_cons] at hz
          rcases List.mem_append.mp hz with hz | hz
          · have : z = c := by simpa using hz
            rw [this]; exact hc
          · exact i2 z hz
      obtain ⟨f1, f2, f3⟩ := hfm ys hys
      have nm0 : NmOk (Txt.join ("" : Str) ys) := nm_of (by rw [cl_join, f1]; omega) (by rw [cl_join, f1]; omega) (by rw [cl_join]; exact f2)
      refine ⟨"", D, ys, rfl, rfl, .inl (SqL.of hD), by rw [f3]; show _ + ys.length * 0 ≤ _; omega, ?_⟩
      generalize Txt.join ("" : Str) ys = z0 at nm0
      have k03 := k02.tr k3
      refine ⟨_, rfl, g, 9, rfl, g3, by decide, by decide, fun H4 d4 k4 g4 _ _ => ?_⟩
      -- the tail, for any good name
      have fin : ∀ (z : Str) (H5 : Hp) (x5 x6 : Option V), NmOk z → Kp [g] H H5 → RngAt H5 g → tSeq (tIfS (tTest (tOp (rIn K true) (tVar 4) (tVar 1))) (tRet (tVar 4)) tNext)
            (tRet
              (tOp (rIxL K)
                (tLc
                  (iList K
                    (tLc (iRng1 (tCons (tC (V.int 676)) tNil)) (gName 5) tYes
                      (tOp
                        (fun x y H Q =>
                          ∃ i j, x = V.str i ∧ y = V.str j ∧ i.length + j.length ≤ sizeLine ∧ Q (V.str (i ++ j)) H)
                        (tOp
                          (fun x y H Q =>
                            ∃ i j, x = V.str i ∧ y = V.str j ∧ i.length + j.length ≤ sizeLine ∧ Q (V.str (i ++ j)) H)
                          (tSl rSlS (tVar 4) tNoPart (tPart (tC (V.int 6))))
                          (tOp rIxS (tVar 2) (tOp (rI CDiv fun i j => V.int (i / j)) (tVar 5) (tC (V.int 26)))))
                        (tOp rIxS (tVar 2)
                          (tOp (rI (fun x j => 0 < j) fun i j => V.int (i % j)) (tVar 5) (tC (V.int 26)))))
                      (List.map (fun x => x.snd) [(Str.ofString "_law_k", 5)])))
                  (gName 6) (tTest (tOp (rIn K true) (tVar 6) (tVar 1))) (tVar 6)
                  (List.map (fun x => x.snd) [(Str.ofString "_law_word", 6)]))
                (tC (V.int 0)))) { nx := fun _ H' => Q .non H', rt := Q } [some (.ref g), some (.ref p), some (.str abc), some (.int n), some (.str z), x5, x6] H5 := by
        intro z H5 x5 x6 nz k5 g5
        have hp5 := k5 _ _ hp (by simpa using hne)
        refine ⟨_, rfl, _, rfl, p, _, rfl, .inl (SqL.of hp5), rfl, NmOk.strs, _, rfl, ?_⟩
        rw [if_pos rfl, inV_str]
        by_cases hz : z ∈ used
        · refine ifF (by rw [decT hz]; rfl) ?_
          refine ⟨676, rfl, by decide, by decide, fun D1 nD1 => ?_⟩
          have wk1 : Walk (Itr 0 (676 : Int).toNat) (List.range 676).length (fun _ => True) (YFn fun i => .int (0 + i)) := by
            rw [List.length_range]
            exact walk_range
          have abl : abc.length ≤ sizeLine := by show abc.cps.size ≤ sizeLine; rw [← Array.length_toList, abc_len]; omega
          refine lc_smY (List.range 676) wk1 (fun i H x H' y => sm_YFn y) nD1 (fun _ _ => trivial) (fun t y _ => y = .str (word z t)) (fun _ _ _ _ _ r => r) (by rw [List.length_range]; omega) (fun i t x H7 H8 Pa ht _ _ _ y ka => ?_) (fun H7 acc s7 hacc hpa => ?_)
          · obtain ⟨rfl, rfl⟩ := y
            have hti : i < 676 ∧ t = i := by
              have hl := (List.getElem?_eq_some_iff.mp ht).1
              rw [List.length_range] at hl
              rw [List.getElem?_range hl] at ht
              exact ⟨hl, (Option.some.inj ht).symm⟩
            obtain ⟨hi6, rfl⟩ := hti
            have a1 := abc_at (k := t / 26) (by omega)
            have a2 := abc_at (k := t % 26) (by omega)
            have e1 : (0 + (t : Int)) / 26 = ((t / 26 : Nat) : Int) := by omega
            have e2 : (0 + (t : Int)) % 26 = ((t % 26 : Nat) : Int) := by omega
            have hzl : z.length ≤ sizeLine := by have := nz.2.1; omega
            have cut6 : (cutS z none (some 6)).length ≤ 8 := Nat.le_trans (cutS_length z none (some 6)) nz.2.1
            have c1 : ((⟨#[97 + t / 26]⟩ : Str)).length = 1 := rfl
            have c2 : ((⟨#[97 + t % 26]⟩ : Str)).length = 1 := rfl
            have ap : ∀ x y : Str, (x ++ y).length = x.length + y.length := fun x y => by rw [TL.len_tl, TL.len_tl x, TL.len_tl y, TL.tl_append, List.length_append]
            refine ⟨rfl, _, rfl, 6, rfl, z, rfl, hzl, _, rfl, _, rfl, _, _, rfl, rfl, ⟨by decide, by decide⟩, abc, _, 97 + t / 26, rfl, rfl, abl, (by rw [e1]; exact atI_nat a1), _, _, rfl, rfl, by omega, _, rfl, _, rfl, _, _, rfl, rfl, (by show (0 : Int) < 26; decide), abc, _, 97 + t % 26, rfl, rfl, abl, (by rw [e2]; exact atI_nat a2), _, _, rfl, rfl, (by rw [ap]; omega), ?_⟩
            exact ka _ _ Sm.rf rfl
          · have e := paired_eq (f := fun t => V.str (word z t)) hpa
            subst e
            have k7 := (k5.tr (Kp.of s7))
            have hp7 := s7 _ _ hp5
            refine ⟨D1, rfl, ⟨_, SqL.of hacc⟩, fun D2 nD2 => ?_⟩
            have wk2 := walk_list (K := K) (a := D1) (xs := (List.range 676).map fun t => V.str (word z t))
            have wk2 : Walk (Itl K D1) ((List.range 676).map (word z)).length (fun H => SqL K H D1 ((List.range 676).map fun t => V.str (word z t))) (YAt (((List.range 676).map (word z)).map V.str)) := by
              rw [List.length_map, List.map_map]
              rw [List.length_map] at wk2
              exact wk2
            refine lc_sm ((List.range 676).map (word z)) wk2 (fun i H x H' y => sm_YAt y) nD2 (fun H' s => SqL.of (s _ _ hacc)) (fun x => !decide (x ∈ used)) (fun x y _ => y = .str x) (fun _ _ _ _ _ r => r) (by rw [List.length_map, List.length_range]; omega) (fun i t x H8 H9 Pa Pb ht s8 s9 _ y ka kb => ?_) (fun H8 acc2 s8 hacc2 hpa2 => ?_)
            · obtain ⟨rfl, hx⟩ := y
              have hx := pick1 ht hx
              subst hx
              refine ⟨rfl, _, rfl, _, rfl, p, _, rfl, .inl (SqL.of (s9 _ _ hp7)), rfl, NmOk.strs, _, rfl, ?_⟩
              rw [if_pos rfl, inV_str]
              by_cases hw : t ∈ used
              · exact ifF (by rw [decT hw]; rfl) (kb _ Sm.rf (by rw [decT hw]; rfl))
              · exact ifT (by rw [decF hw]; rfl) ⟨_, rfl, ka _ _ Sm.rf (by rw [decF hw]; rfl) rfl⟩
            · have e := paired_eq (f := V.str) hpa2
              subst e
              obtain ⟨w0, hw0⟩ := words_free z used h1
              have sF := s7.tr s8
              cases ef : ((List.range 676).map (word z)).filter fun x => !decide (x ∈ used) with
              | nil => rw [ef] at hw0; cases hw0
              | cons w ws =>
                rw [ef] at hacc2
                have hwm : w ∈ ((List.range 676).map (word z)).filter fun x => !decide (x ∈ used) := by rw [ef]; exact List.mem_cons_self
                obtain ⟨w1, w2⟩ := List.mem_filter.mp hwm
                obtain ⟨k, hk, rfl⟩ := List.mem_map.mp w1
                refine ⟨D2, _, 0, _, rfl, rfl, SqL.of hacc2, at0, q _ _ (k5.tr (Kp.of sF)) (g5.sm sF) (nm_word nz (List.mem_range.mp hk)) (by simpa using w2)⟩
        · exact ifT (by rw [decF hz]; rfl) ⟨_, rfl, q _ z k5 g5 nz hz⟩
      refine ⟨rfl, _, rfl, ?_⟩
      by_cases hd : d4 = 0
      · refine ifT (by rw [hd]; rfl) ?_
        refine ⟨(by show 8 ≤ sizeLine; omega), fun p5 np5 => ?_⟩
        have s5 : Sm H4 (upd H4 p5 (.lst [.str "module", .str "publish", .str "state", .str "run", .str "undo", .str "steps", .str "plan", .str "talk"])) := Sm.rf.up np5
        refine ⟨_, rfl, g, 8, rfl, g4.sm s5, by decide, by decide, fun H6 d6 k6 g6 d60 d61 => ?_⟩
        have np5g := rng_ne g4 np5
        obtain ⟨v, hv, hvm⟩ := atI_mem (xs := [V.str "module", .str "publish", .str "state", .str "run", .str "undo", .str "steps", .str "plan", .str "talk"]) d60 d61
        refine ⟨p5, _, d6, v, rfl, rfl, SqL.of (k6 _ _ upd_same (by simpa using np5g)), hv, ?_⟩
        have hw : ∀ w ∈ (["module", "publish", "state", "run", "undo", "steps", "plan", "talk"] : List Str), 1 ≤ (cl w).length ∧ (cl w).length ≤ 8 ∧ ∀ c ∈ cl w, 97 ≤ c ∧ c ≤ 122 := by decide +kernel
        have : ∃ w, v = .str w ∧ NmOk w := by
          have hvm : v ∈ (["module", "publish", "state", "run", "undo", "steps", "plan", "talk"] : List Str).map V.str := hvm
          obtain ⟨w, hw2, rfl⟩ := List.mem_map.mp hvm
          obtain ⟨a1, a2, a3⟩ := hw w hw2
          exact ⟨w, rfl, nm_of a1 a2 a3⟩
        obtain ⟨w, rfl, nw⟩ := this
        exact fin w H6 _ _ nw (k03.tr (k4.tr ((Kp.of s5).tr k6))) g6
      · exact ifF (by simp [hd]) (fin z0 H4 _ _ nm0 (k03.tr k4) g4)
end
end Gs
/-! ## GsL4 -/
namespace Gs
open PySem PySem.Spec PyProof.Rows L2
section
variable {P : Program} {w : World} {K : PySem.W.Frag} {mg : Str → Option Value} {base : Heap}
theorem ok_l_names (T : Txt K mg) : FnOk P w K mg base CX0 3 T.d_l_names.f T.d_l_names.fd ["_law_rng_here", "_law_many", "_law_used"] (fun vs H Q _ => ∃ (g p : Addr) (n : Nat), vs = [.ref g, .int (n : Nat), .ref p] ∧ RngAt H g ∧ H p = some (.lst []) ∧ n ≤ 50 ∧
    ∀ H' l (zs : List Nm), Kp [g] H H' → RngAt H' g → H l = none → H' l = some (.lst (zs.map V.str)) → zs.length = n → zs.Nodup → (∀ z ∈ zs, NmOk z) → Q (.ref l) H') := by
  have nd := sc_l_names.nd
  refine T.d_l_names.F.ok sc_l_names (fun vs H Q E h => ?_) (fun cdv A outer s H vs Q E hr h => ?_)
  · obtain ⟨g, p, n, rfl, _⟩ := h; rfl
  · obtain ⟨g, p, n, rfl, hg, hp, hn, q⟩ := h
    have hs : sizeLine = 16777216 := sizeLine_eq
    have hne : p ≠ g := fun e => by
      obtain ⟨a, b, z, _⟩ := hg
      rw [e, z] at hp
      cases hp
    refine ⟨_, (pss_cons (ps_set (i := 3) nd rfl (.inl rfl) (pe_lst pa_nil))
      (pss_cons (ps_for PassesOwn.never rfl (pi_range1 (by rfl) T.b_range (pa_cons (pv 1) pa_nil)) (pg_name (i := 4) nd rfl (.inl rfl))
      (pss_one (ps_expr (pe_bmK (K := K) rfl PySem.F.plainAttrs_list PySem.F.slot_list_append PySem.F.type_list_append mt_append (pv 3) (pa_cons (pcall (ok_l_name T) T.d_l_name.M (hr.mono (by decide)) (pa_cons (pv 0) (pa_cons (pe_op op_cat (pv 2) (pv 3)) pa_nil))) pa_nil)))))
      (pss_one (ps_ret (pv 3))))), ?_⟩
    refine ⟨(by show 0 ≤ sizeLine; omega), fun F nF => ?_⟩
    have nFg := rng_ne hg nF
    refine ⟨_, rfl, _, rfl, by omega, by omega, ?_⟩
    have wk := walk_range (lo := 0) (n := ((n : Nat) : Int).toNat)
    refine for_it wk (fun i σ H' => Kp [g] H H' ∧ RngAt H' g ∧ (∃ x4, σ = [some (.ref g), some (.int (n : Nat)), some (.ref p), some (.ref F), x4]) ∧ ∃ zs : List Nm, H' F = some (.lst (zs.map V.str)) ∧ zs.length = i ∧ zs.Nodup ∧ ∀ z ∈ zs, NmOk z) ⟨(Kp.of Sm.rf).new nF, hg.sm (Sm.rf.up nF), ⟨_, rfl⟩, [], upd_same, rfl, .nil, fun z hz => (nomatch hz)⟩ (fun _ _ _ _ _ => trivial) (fun i x σ H2 H3 hi p0 y => ?_) (fun σ H2 p0 => ?_)
    · obtain ⟨k2, g2, ⟨x4, rfl⟩, zs, hF, hl, hnd, hnm⟩ := p0
      obtain ⟨rfl, rfl⟩ := y
      have hp3 := k2 _ _ hp (by simpa using hne)
      refine ⟨_, rfl, .inl ⟨rfl, _, .inl (.inl hF)⟩, _, rfl, _, rfl, _, rfl, p, F, _, _, rfl, rfl, hp3, hF, (by rw [List.length_map]; show 0 + zs.length ≤ sizeLine; omega), fun c nc => ?_⟩
      have s4 : Sm H3 (upd H3 c (.lst ([] ++ zs.map V.str))) := Sm.rf.up nc
      refine ⟨g, c, zs, rfl, g2.sm s4, upd_same, rng_ne g2 nc, by omega, fun H5 z k5 g5 nz hz => ?_⟩
      have hF5 := k5 _ _ (s4 _ _ hF) (by simpa using nFg)
      refine ⟨F, _, _, rfl, rfl, hF5, by rw [List.length_map]; omega, (k2.tr ((Kp.of s4).tr k5)).set nF, ?_, ⟨_, rfl⟩, zs ++ [z], ?_, ?_, ?_, ?_⟩
      · obtain ⟨a, b, e, z⟩ := g5
        exact ⟨a, b, (upd_ne nFg.symm).trans e, z⟩
      · rw [upd_same, List.map_append]
        rfl
      · rw [List.length_append, hl]
        rfl
      · refine List.nodup_append.mpr ⟨hnd, by simp, fun a ha b hb e => ?_⟩
        rw [List.mem_singleton.mp hb] at e
        exact hz (e ▸ ha)
      · intro w hw
        rcases List.mem_append.mp hw with hw | hw
        · exact hnm w hw
        · rw [List.mem_singleton.mp hw]
          exact nz
    · obtain ⟨k2, g2, ⟨x4, rfl⟩, zs, hF, hl, hnd, hnm⟩ := p0
      exact ⟨_, rfl, q H2 F zs k2 g2 nF hF (by omega) hnd hnm⟩
end
end Gs
/-! ## GsL5 -/
namespace Gs
open PySem PySem.Spec PyProof.Rows L2
section
variable {P : Program} {w : World} {K : PySem.W.Frag} {mg : Str → Option Value} {base : Heap}
theorem cut_take {xs : List V} {d : Int} (h0 : 0 ≤ d) (h1 : d ≤ xs.length) : cutV xs none (some d) = xs.take d.toNat := by
  unfold cutV
  have e1 : HT.sIx xs.length 0 none = 0 := rfl
  have e2 : HT.sIx xs.length xs.length (some d) = d.toNat := by
    unfold HT.sIx
    simp only []
    split <;> (try split) <;> omega
  rw [e1, e2]
  simp
structure RowOk1 (zs : List Nm) (r : Row) : Prop where
  mem : r.nm ∈ zs
  sub : ∀ u ∈ r.us, u ∈ zs
  und : r.us.Nodup
  self : r.nm ∉ r.us
  len : ∀ ws ∈ r.vs, ws.length = r.us.length
  okw : ∀ ws ∈ r.vs, ∀ x ∈ ws, okWin x
  ris : ∀ (i : Nat) a b, r.vs[i]? = some a → r.vs[i + 1]? = some b → ∀ (j : Nat) x y, a[j]? = some x → b[j]? = some y → rise x y = true
  pos : 1 ≤ r.vs.length
  few5 : r.vs.length ≤ 5
theorem rows_ok {rows : List Row} {zs : List Nm} (e : names rows = zs) (nd : zs.Nodup) (h0 : 1 ≤ zs.length) (h4 : zs.length ≤ 4) (nm : ∀ z ∈ zs, NmOk z) (h : ∀ r ∈ rows, RowOk1 zs r) : RowsOk rows := by
  have el : rows.length = zs.length := by rw [← e, List.length_map]
  exact ⟨by rw [e]; exact nd, fun q => by rw [q] at el; simp at el; omega, by omega, fun r hr => nm _ (h r hr).mem, fun r hr u hu => by rw [e]; exact (h r hr).sub u hu, fun r hr => (h r hr).und, fun r hr => (h r hr).self, fun r hr => (h r hr).len, fun r hr => (h r hr).okw, fun r hr => (h r hr).ris, fun r hr => (h r hr).pos, fun r hr => (h r hr).few5⟩
def rowVs (n : Nat) (cols : List (List Win)) : List (List Win) := (List.range n).map fun k => cols.map fun c => c.getD k (0, none)
theorem rowVs_at {n : Nat} {cols : List (List Win)} {i : Nat} {a : List Win} (h : (rowVs n cols)[i]? = some a) : i < n ∧ a = cols.map fun c => c.getD i (0, none) := by
  unfold rowVs at h
  rw [List.getElem?_map] at h
  by_cases hi : i < n
  · rw [List.getElem?_range hi] at h
    exact ⟨hi, (Option.some.inj h).symm⟩
  · rw [List.getElem?_eq_none (by rw [List.length_range]; omega)] at h
    cases h
theorem getD_mem {c : List Win} {k : Nat} (h : k < c.length) : c[k]? = some (c.getD k (0, none)) := by
  rw [List.getD_eq_getElem?_getD, List.getElem?_eq_getElem h]
  rfl
theorem row_of {zs us : List Nm} {z : Nm} {n : Nat} {cols : List (List Win)} (hz : z ∈ zs) (hs : ∀ u ∈ us, u ∈ zs) (hn : us.Nodup) (hself : z ∉ us) (hc : cols.length = us.length) (hl : ∀ c ∈ cols, c.length = n ∧ Rising c ∧ ∀ w ∈ c, okWin w) (n1 : 1 ≤ n) (n5 : n ≤ 5) : RowOk1 zs ⟨z, us, rowVs n cols⟩ := by
  refine ⟨hz, hs, hn, hself, fun ws hw => ?_, fun ws hw x hx => ?_, fun i a b ha hb j x y hx hy => ?_, ?_, ?_⟩
  · obtain ⟨i, hi⟩ := List.getElem?_of_mem hw
    rw [(rowVs_at hi).2, List.length_map]
    exact hc
  · obtain ⟨i, hi⟩ := List.getElem?_of_mem hw
    obtain ⟨h1, rfl⟩ := rowVs_at hi
    obtain ⟨c, hcm, rfl⟩ := List.mem_map.mp hx
    obtain ⟨l1, _, l3⟩ := hl c hcm
    exact l3 _ (List.mem_of_getElem? (getD_mem (by omega)))
  · obtain ⟨h1, rfl⟩ := rowVs_at ha
    obtain ⟨h2, rfl⟩ := rowVs_at hb
    rw [List.getElem?_map] at hx hy
    cases ec : cols[j]? with
    | none => rw [ec] at hx; cases hx
    | some c =>
      rw [ec] at hx hy
      cases hx
      cases hy
      obtain ⟨l1, l2, _⟩ := hl c (List.mem_of_getElem? ec)
      exact l2 i _ _ (getD_mem (by omega)) (getD_mem (by omega))
  · show 1 ≤ (rowVs n cols).length
    unfold rowVs
    rw [List.length_map, List.length_range]
    exact n1
  · show (rowVs n cols).length ≤ 5
    unfold rowVs
    rw [List.length_map, List.length_range]
    exact n5
/-- a row none of whose lists is g or F -/
structure RowN (g F : Addr) (H : Hp) (v : V) (r : Row) : Prop where
  ex : ∃ a t l ls, v = .ref a ∧ H a = some (.tup [.str r.nm, .ref t, .ref l]) ∧ H t = some (.tup (r.us.map V.str)) ∧ l ≠ g ∧ l ≠ F ∧ H l = some (.lst ls) ∧ Paired (fun v ws => ∃ x refs, v = .ref x ∧ x ≠ g ∧ x ≠ F ∧ H x = some (.lst refs) ∧ WinsAre H refs ws) ls r.vs
theorem RowN.is_ {g F : Addr} {H : Hp} {v : V} {r : Row} (h : RowN g F H v r) : RowIs H v r := by
  obtain ⟨a, t, l, ls, h1, h2, h3, _, _, h6, h7⟩ := h.ex
  exact ⟨a, t, l, ls, h1, h2, h3, h6, paired_mono h7 fun _ _ ⟨x, refs, e1, _, _, e4, e5⟩ => ⟨x, refs, e1, e4, e5⟩⟩
theorem RowN.keep {g F : Addr} {H H' : Hp} {v : V} {r : Row} (h : RowN g F H v r) (k : ∀ b o, H b = some o → b ≠ g → b ≠ F → H' b = some o) (tk : ∀ b xs, H b = some (.tup xs) → H' b = some (.tup xs)) : RowN g F H' v r := by
  obtain ⟨a, t, l, ls, h1, h2, h3, h4, h5, h6, h7⟩ := h.ex
  exact ⟨a, t, l, ls, h1, tk _ _ h2, tk _ _ h3, h4, h5, k _ _ h6 h4 h5, paired_mono h7 fun _ _ ⟨x, refs, e1, e2, e3, e4, e5⟩ => ⟨x, refs, e1, e2, e3, k _ _ e4 e2 e3, e5.keep tk⟩⟩
theorem ok_l_rows (T : Txt K mg) : FnOk P w K mg base CX0 4 T.d_l_rows.f T.d_l_rows.fd ["_law_rng_here", "_law_modules", "_law_versions", "_law_loose"] (fun vs H Q _ => ∃ (g : Addr) (loose : Int), vs = [.ref g, .int 4, .int 5, .int loose] ∧ RngAt H g ∧ (loose = 0 ∨ loose = 1) ∧
    ∀ H' l rows, Kp [g] H H' → RngAt H' g → H l = none → RowsAt H' l rows → RowsOk rows → Q (.ref l) H') := by
  have nd := sc_l_rows.nd
  refine T.d_l_rows.F.ok sc_l_rows (fun vs H Q E h => ?_) (fun cdv A outer s H vs Q E hr h => ?_)
  · obtain ⟨g, lo, rfl, _⟩ := h; rfl
  · obtain ⟨g, lo, rfl, hg, hlo, q⟩ := h
    have hs : sizeLine = 16777216 := sizeLine_eq
    refine ⟨_, (pss_cons (ps_set (i := 4) nd rfl (.inl rfl) (pcall (ok_l_names T) T.d_l_names.M (hr.mono (by decide)) (pa_cons (pv 0) (pa_cons (pe_op op_add pe_int (pcall (ok_l_draw T) T.d_l_draw.M (hr.mono (by decide)) (pa_cons (pv 0) (pa_cons (pv 1) pa_nil)))) (pa_cons (pe_lst pa_nil) pa_nil)))))
      (pss_cons (ps_set (i := 5) nd rfl (.inl rfl) (pe_lst pa_nil))
      (pss_cons (ps_for PassesOwn.never rfl (pi_listK (K := K) rfl (pv 4)) (pg_name (i := 6) nd rfl (.inr rfl))
      (pss_cons (ps_set (i := 7) nd rfl (.inl rfl) (pcall (ok_l_shuffled T) T.d_l_shuffled.M (hr.mono (by decide)) (pa_cons (pv 0) (pa_cons (pe_lc (own := [("_law_other", 12)]) (g := (gName 12)) rfl nd (pi_listK (K := K) rfl (pv 4)) (blkOk_by (N := N_l_rows) (sc := defScope s_l_rows) (by decide +kernel)) (fun _ _ _ _ _ => (pg_name (i := 12) nd rfl (.inl rfl))) (fun _ _ _ _ _ => (pts_one (pt_cmpR op_ne (pv 12) (pv 6) (nomark _)))) (fun _ _ _ _ _ => (pv 12))) pa_nil))))
      (pss_cons (ps_asg (pe_tup (pa_cons (pe_slice sl_list (pv 7) po_none (po_some (pcall (ok_l_draw T) T.d_l_draw.M (hr.mono (by decide)) (pa_cons (pv 0) (pa_cons (pe_callB (id := "min") (call_min2 rfl) (by rfl) T.b_min (by decide +kernel) (pa_cons pe_int (pa_cons (pe_op op_add (pe_callB (r := rLenS K) (id := "len") call_lenS (by rfl) T.b_len (by decide +kernel) (pa_cons (pv 7) pa_nil)) pe_int) pa_nil))) pa_nil))))) (pa_cons (pe_op op_add pe_int (pcall (ok_l_draw T) T.d_l_draw.M (hr.mono (by decide)) (pa_cons (pv 0) (pa_cons (pv 2) pa_nil)))) pa_nil))) (pg_tup rfl (pgs_cons (pg_name (i := 8) nd rfl (.inl rfl)) (pgs_cons (pg_name (i := 9) nd rfl (.inr rfl)) pgs_nil))))
      (pss_cons (ps_set (i := 10) nd rfl (.inr rfl) (pe_lc (own := [("_law_used", 11)]) (tt := tYes) (g := (gName 11)) rfl nd (pi_listK (K := K) rfl (pv 8)) (blkOk_by (N := N_l_rows) (sc := defScope s_l_rows) (by decide +kernel)) (fun _ _ _ _ _ => (pg_name (i := 11) nd rfl (.inl rfl))) (fun _ _ _ _ _ => pts_nil) (fun _ _ _ _ _ => (pcall (ok_l_windows T) T.d_l_windows.M (hr.mono (by decide)) (pa_cons (pv 0) (pa_cons (pv 9) (pa_cons (pv 3) pa_nil)))))))
      (pss_one (ps_expr (pe_bmK (K := K) rfl PySem.F.plainAttrs_list PySem.F.slot_list_append PySem.F.type_list_append mt_append (pv 5) (pa_cons (pe_tup (pa_cons (pv 6) (pa_cons (pe_callTy (T := "tuple") call_tuple_of (by rfl) T.b_tuple (by decide +kernel) (pa_cons (pv 8) pa_nil)) (pa_cons (pe_lc (own := [("_law_k", 13)]) (tt := tYes) (g := (gName 13)) rfl nd (pi_range1 (by rfl) T.b_range (pa_cons (pv 9) pa_nil)) (blkOk_by (N := N_l_rows) (sc := defScope s_l_rows) (by decide +kernel)) (fun _ _ _ _ _ => (pg_name (i := 13) nd rfl (.inr rfl))) (fun _ _ _ _ _ => pts_nil) (fun _ _ _ _ _ => (pe_lc (own := [("_law_column", 14)]) (tt := tYes) (g := (gName 14)) rfl nd (pi_listK (K := K) rfl (pv 10)) (blkOk_by (N := N_l_rows) (sc := ({ kind := .function, names := [((".0" : Str), .local), (("_law_k" : Str), .cell), (("_law_columns" : Str), .cell)], isGenerator := false, isCoroutine := false } : Scope)) (by decide +kernel)) (fun _ _ _ _ _ => (pg_name (i := 14) nd rfl (.inl rfl))) (fun _ _ _ _ _ => pts_nil) (fun _ _ _ _ _ => (pe_ix (r := rIxL K) ix_list (pv 14) (pv 13) (fun _ _ => rfl)))))) pa_nil)))) pa_nil))))))))
      (pss_one (ps_ret (pv 5)))))), ?_⟩
    refine ⟨_, rfl, _, rfl, _, rfl, g, 4, rfl, hg, by decide, by decide, fun H1 d k1 g1 d0 d1 => ?_⟩
    refine ⟨_, _, rfl, rfl, (by show 0 ≤ sizeLine; omega), fun p np => ?_⟩
    have s1 : Sm H1 (upd H1 p (.lst [])) := Sm.rf.up np
    refine ⟨g, p, (1 + d).toNat, (by rw [show (((1 + d).toNat : Nat) : Int) = 1 + d by omega]; rfl), g1.sm s1, upd_same, by omega, fun H2 l zs k2 g2 nl hl zl znd znm => ?_⟩
    have k02 : Kp [g] H H2 := k1.tr ((Kp.of s1).tr k2)
    have nlg : l ≠ g := rng_ne (g1.sm s1) nl
    refine ⟨(by show 0 ≤ sizeLine; omega), fun F nF => ?_⟩
    have nFg := rng_ne g2 nF
    have nF0 : H F = none := k02.un nF (by simpa using nFg)
    have hl2 : (upd H2 F (.lst [])) l = some (.lst (zs.map V.str)) := (Sm.rf.up nF) _ _ hl
    refine ⟨_, rfl, l, rfl, ⟨_, SqL.of hl2⟩, ?_⟩
    have wk := walk_list (K := K) (a := l) (xs := zs.map V.str)
    rw [List.length_map] at wk
    refine for_it wk (fun i σ H' => Kp [g] H2 H' ∧ RngAt H' g ∧ (∃ x6 x7 x8 x9 x10 x11 x12 x13 x14, σ = [some (.ref g), some (.int 4), some (.int 5), some (.int lo), some (.ref l), some (.ref F), x6, x7, x8, x9, x10, x11, x12, x13, x14]) ∧ ∃ (rows : List Row) (rv : List V), H' F = some (.lst rv) ∧ Paired (RowN g F H') rv rows ∧ names rows = zs.take i ∧ ∀ r ∈ rows, RowOk1 zs r) ⟨(Kp.of Sm.rf).new nF, g2.sm (Sm.rf.up nF), ⟨_, _, _, _, _, _, _, _, _, rfl⟩, [], [], upd_same, .nil, rfl, fun r hr => (nomatch hr)⟩ (fun i σ H' _ p => SqL.of (p.1 _ _ hl (by simpa using nlg))) (fun i x σ H3 H4 hi p0 y => ?_) (fun σ H3 p0 => ?_)
    · obtain ⟨k3, g3, ⟨x6, x7, x8, x9, x10, x11, x12, x13, x14, rfl⟩, rows, rv, hF, hrp, hnm, hro⟩ := p0
      obtain ⟨rfl, hx⟩ := y
      have ht : zs[i]? = some zs[i] := List.getElem?_eq_getElem hi
      generalize zs[i] = z at ht
      have hx := pick1 ht hx
      subst hx
      have hzm := List.mem_of_getElem? ht
      have hl4 := k3 _ _ hl (by simpa using nlg)
      have zl4 : zs.length ≤ 4 := by omega
      -- the others
      refine ⟨_, rfl, _, rfl, l, rfl, ⟨_, SqL.of hl4⟩, fun D1 nD1 => ?_⟩
      have wk1 := walk_list (K := K) (a := l) (xs := zs.map V.str)
      rw [List.length_map] at wk1
      refine lc_sm zs wk1 (fun i H x H' y => sm_YAt y) nD1 (fun H' s => SqL.of (s _ _ hl4)) (fun x => !decide (x = z)) (fun x y _ => y = .str x) (fun _ _ _ _ _ r => r) (by omega) (fun i t x H5 H6 Pa Pb ht5 s5 s6 _ y ka kb => ?_) (fun H5 acc s5 hacc hpa => ?_)
      · obtain ⟨rfl, hx⟩ := y
        have hx := pick1 ht5 hx
        subst hx
        refine ⟨rfl, _, rfl, _, rfl, rfl, _, rfl, ?_⟩
        by_cases hw : t = z
        · exact ifF (by simp [hw]) (kb _ Sm.rf (by simp [hw]))
        · exact ifT (by simp [hw]) ⟨_, rfl, ka _ _ Sm.rf (by simp [hw]) rfl⟩
      · have e := paired_eq (f := V.str) hpa
        subst e
        have k5 : Kp [g] H2 H5 := k3.tr (.of s5)
        have g5 := g3.sm s5
        have lfl : (zs.filter fun x => !decide (x = z)).length ≤ 4 := Nat.le_trans (List.length_filter_le ..) zl4
        refine ⟨g, D1, _, rfl, g5, hacc, rng_ne g3 nD1, by omega, fun H6 S ys k6 g6 nS hS hperm => ?_⟩
        have nSg := rng_ne g5 nS
        have ysl : ys.length ≤ 4 := by rw [hperm.length_eq]; exact lfl
        -- some of them, and how many versions
        refine ⟨_, rfl, _, rfl, _, rfl, S, _, rfl, .inl (SqL.of hS), _, _, rfl, rfl, _, _, rfl, g, _, rfl, g6, ?_, ?_, fun H7 d7 k7 g7 d70 d71 => ?_⟩
        · split <;> (try rw [List.length_map]) <;> omega
        · split <;> (try rw [List.length_map]) <;> omega
        · have hS7 := k7 _ _ hS (by simpa using nSg)
          have d7l : d7 ≤ ys.length := by
            rw [List.length_map] at d71
            split at d71 <;> omega
          refine ⟨d7, rfl, S, _, rfl, SqL.of hS7, fun P1 nP1 => ?_⟩
          have cut : cutV (ys.map V.str) none (some d7) = (ys.take d7.toNat).map V.str := by
            rw [cut_take d70 (by rw [List.length_map]; exact d7l), List.map_take]
          rw [cut]
          have husl : (ys.take d7.toNat).length ≤ 4 := by rw [List.length_take]; omega
          have hus1 : ∀ u ∈ ys.take d7.toNat, u ∈ zs ∧ u ≠ z := fun u hu => by
            have := hperm.mem_iff.mp (List.mem_of_mem_take hu)
            obtain ⟨a1, a2⟩ := List.mem_filter.mp this
            exact ⟨a1, by simpa using a2⟩
          have husn : (ys.take d7.toNat).Nodup := (hperm.nodup_iff.mpr (znd.sublist List.filter_sublist)).sublist (List.take_sublist _ _)
          generalize ys.take d7.toNat = us at husl hus1 husn
          have s8 : Sm H7 (upd H7 P1 (.lst (us.map V.str))) := Sm.rf.up nP1
          have nP1g := rng_ne g7 nP1
          refine ⟨_, rfl, _, rfl, g, 5, rfl, g7.sm s8, by decide, by decide, fun H9 d9 k9 g9 d90 d91 => ?_⟩
          refine ⟨_, _, rfl, rfl, (by show 2 ≤ sizeLine; omega), fun t2 nt2 => ?_⟩
          have hP9 := k9 P1 (.lst (us.map V.str)) upd_same (by simpa using nP1g)
          have s10 : Sm H9 (upd H9 t2 (.tup [.ref P1, .int (1 + d9)])) := Sm.rf.up nt2
          refine ⟨t2, _, rfl, SqT.of upd_same, rfl, _, _, rfl, _, _, rfl, rfl, ?_⟩
          have k610 : Kp [g] H5 (upd H9 t2 (.tup [.ref P1, .int (1 + d9)])) := k6.tr (k7.tr ((Kp.of s8).tr (k9.tr (.of s10))))
          have g10 := g9.sm s10
          have hP10 := s10 _ _ hP9
          generalize (upd H9 t2 (.tup [.ref P1, .int (1 + d9)])) = H10 at k610 g10 hP10 ⊢
          have k10 : Kp [g] H4 H10 := (Kp.of s5).tr k610
          have hn9 : ((1 + d9).toNat : Int) = 1 + d9 := by omega
          -- the columns
          refine ⟨_, rfl, P1, rfl, ⟨_, SqL.of hP10⟩, fun D nD => ?_⟩
          have nDg := rng_ne g10 nD
          have wk2 := walk_list (K := K) (a := P1) (xs := us.map V.str)
          rw [List.length_map] at wk2
          refine walk_it wk2 (fun i H' => Kp [g] H10 H' ∧ RngAt H' g ∧ ∃ (cr : List V) (cols : List (List Win)), H' D = some (.lst cr) ∧ Paired (fun v ws => ∃ l refs, v = .ref l ∧ l ≠ g ∧ l ≠ D ∧ H' l = some (.lst refs) ∧ WinsAre H' refs ws) cr cols ∧ cols.length = i ∧ ∀ c ∈ cols, c.length = (1 + d9).toNat ∧ Rising c ∧ ∀ w ∈ c, okWin w) ⟨(Kp.of Sm.rf).new nD, g10.sm (Sm.rf.up nD), [], [], upd_same, .nil, rfl, fun c hc => (nomatch hc)⟩ (fun i H' _ p => SqL.of (p.1 _ _ hP10 (by simpa using nP1g))) (fun i x H11 H12 hi p y => ?_) (fun H11 p => ?_)
          · obtain ⟨k11, g11, cr, cols, hD, hcp, hcl, hco⟩ := p
            obtain ⟨rfl, hx⟩ := y
            refine ⟨rfl, _, rfl, _, rfl, _, rfl, g, (1 + d9).toNat, lo, (by rw [hn9]; rfl), g11, by omega, hlo, fun H13 lc refs ws k13 g13 nlc hlc wa wl wr wo => ?_⟩
            have nlcg := rng_ne g11 nlc
            have nlcD : lc ≠ D := (ne_of_none hD nlc).symm
            have hD13 := k13 _ _ hD (by simpa using nDg)
            have crl : cr.length = i := by rw [hcp.length, hcl]
            have tk : ∀ b xs, H12 b = some (.tup xs) → (upd H13 D (.lst (cr ++ [.ref lc]))) b = some (.tup xs) := fun b xs e => by
              have hbg : b ≠ g := fun q => by
                obtain ⟨a, b', e2, _⟩ := g11
                rw [q, e2] at e
                cases e
              have e3 := k13 _ _ e (by simpa using hbg)
              rw [upd_ne (ne_of hD13 e3 (fun z => nomatch z)).symm]
              exact e3
            have tk2 : ∀ b xs, H13 b = some (.tup xs) → (upd H13 D (.lst (cr ++ [.ref lc]))) b = some (.tup xs) := fun b xs e => by
              rw [upd_ne (ne_of hD13 e (fun z => nomatch z)).symm]
              exact e
            refine ⟨cr, hD13, by omega, (k11.tr k13).set nD, ?_, cr ++ [.ref lc], cols ++ [ws], upd_same, ?_, by rw [List.length_append, hcl]; rfl, fun c hc => ?_⟩
            · obtain ⟨a, b, e, z⟩ := g13
              exact ⟨a, b, (upd_ne nDg.symm).trans e, z⟩
            · refine (paired_mono hcp fun v ws ⟨l, r, e1, e2, e3, e4, e5⟩ => ⟨l, r, e1, e2, e3, ?_, e5.keep tk⟩).snoc ⟨lc, refs, rfl, nlcg, nlcD, ?_, wa.keep tk2⟩
              · rw [upd_ne nlcD]
                exact hlc
              · rw [upd_ne e3]
                exact k13 _ _ e4 (by simpa using e2)
            · rcases List.mem_append.mp hc with hc | hc
              · exact hco c hc
              · rw [List.mem_singleton.mp hc]
                exact ⟨wl, wr, wo⟩
          · obtain ⟨k11, g11, cr, cols, hD, hcp, hcl, hco⟩ := p
            have hF11 : H11 F = some (.lst rv) := k11 _ _ (k10 _ _ hF (by simpa using nFg)) (by simpa using nFg)
            have hP11 := k11 _ _ hP10 (by simpa using nP1g)
            have crl : cr.length = us.length := by rw [hcp.length, hcl]
            have hcp : Paired (VersAt H11) cr cols := paired_mono hcp fun v ws ⟨l, r, e1, _, _, e4, e5⟩ => ⟨l, r, e1, e4, e5⟩
            refine ⟨_, rfl, .inl ⟨rfl, _, .inl (.inl hF11)⟩, _, rfl, _, rfl, P1, _, rfl, .inl ⟨SqL.of hP11, fun tu ntu => ?_⟩⟩
            have s12 : Sm H11 (upd H11 tu (.tup (us.map V.str))) := Sm.rf.up ntu
            have htu : (upd H11 tu (.tup (us.map V.str))) tu = some (.tup (us.map V.str)) := upd_same
            generalize (upd H11 tu (.tup (us.map V.str))) = H12 at s12 htu ⊢
            refine ⟨_, rfl, _, rfl, by omega, by omega, fun D2 nD2 => ?_⟩
            have wkr : Walk (Itr 0 (1 + d9).toNat) (List.range (1 + d9).toNat).length (fun _ => True) (YFn fun i => .int (0 + i)) := by
              rw [List.length_range]
              exact walk_range
            have hD12 := s12 _ _ hD
            refine lc_smY (List.range (1 + d9).toNat) wkr (fun i H x H' y => sm_YFn y) nD2 (fun _ _ => trivial) (fun k v H => ∃ l refs, v = .ref l ∧ l ≠ D2 ∧ (l ≠ g ∧ l ≠ F) ∧ H l = some (.lst refs) ∧ Paired (fun v w => ∃ a, v = .ref a ∧ a ≠ D2 ∧ H a = some (.tup (winV w))) refs (cols.map fun c => c.getD k (0, none))) (fun k v Ha Hb o r => let ⟨l, refs, e1, e2, e0, e3, e4⟩ := r; ⟨l, refs, e1, e2, e0, o _ _ e3 e2, paired_mono e4 fun _ _ ⟨a, z1, z2, z3⟩ => ⟨a, z1, z2, o _ _ z3 z2⟩⟩) (by rw [List.length_range]; omega) (fun i k x Ha Hb Pa hk sa sb hD2 y ka => ?_) (fun H13 acc s13 hacc hpa => ?_)
            · obtain ⟨rfl, rfl⟩ := y
              have hki : i < (1 + d9).toNat ∧ k = i := by
                have hl := (List.getElem?_eq_some_iff.mp hk).1
                rw [List.length_range] at hl
                rw [List.getElem?_range hl] at hk
                exact ⟨hl, (Option.some.inj hk).symm⟩
              obtain ⟨hin, rfl⟩ := hki
              have hDb := sb _ _ hD12
              obtain ⟨acc2, hD2⟩ := hD2
              refine ⟨rfl, ?_⟩
              refine ⟨_, rfl, D, rfl, ⟨_, SqL.of hDb⟩, fun D3 nD3 => ?_⟩
              have nD32 : D3 ≠ D2 := (ne_of_none hD2 nD3).symm
              have wk3 := walk_list (K := K) (a := D) (xs := cr)
              rw [crl, ← hcl] at wk3
              refine lc_smY cols wk3 (fun i H x H' y => sm_YAt y) nD3 (fun H' s => SqL.of (s _ _ hDb)) (fun c y H => ∃ a, y = .ref a ∧ a ≠ D3 ∧ a ≠ D2 ∧ H a = some (.tup (winV (c.getD k (0, none))))) (fun t y H4 H5 o r => let ⟨a, e1, e2, e3, e4⟩ := r; ⟨a, e1, e2, e3, o _ _ e4 e2⟩) (by omega) (fun j c x Hc Hd Pc hc sc sd hD3 y kc => ?_) (fun He acc3 se hacc3 hpa3 => ?_)
              · obtain ⟨rfl, hx⟩ := y
                obtain ⟨c2, hc2, lc, refs, rfl, hlc, hwa⟩ := LiI.paired_get hcp hx
                rw [hc] at hc2
                cases hc2
                have hcm := List.mem_of_getElem? hc
                have hck := getD_mem (c := c) (k := k) (by rw [(hco c hcm).1]; exact hin)
                obtain ⟨acc4, hD3⟩ := hD3
                have hkr : k < refs.length := by rw [hwa.length, (hco c hcm).1]; exact hin
                have hrk : refs[k]? = some refs[k] := List.getElem?_eq_getElem hkr
                obtain ⟨w2, hw2, a, ea, haw⟩ := LiI.paired_get hwa hrk
                rw [hck] at hw2
                cases hw2
                rw [ea] at hrk
                have sbd := s12.tr (sb.tr sd)
                have haD := sbd _ _ haw
                refine ⟨rfl, _, rfl, _, rfl, lc, refs, 0 + (k : Int), _, rfl, rfl, SqL.of (sbd _ _ hlc), (by rw [Int.zero_add]; exact atI_nat hrk), kc _ _ Sm.rf ⟨a, rfl, ne_of haD hD3 (fun z => nomatch z), ne_of haD (sd _ _ hD2) (fun z => nomatch z), haD⟩⟩
              · refine ka _ _ se ⟨D3, acc3, rfl, nD32, ⟨rng_ne ((g11.sm s12).sm sb) nD3, (ne_of_none (sb _ _ (s12 _ _ hF11)) nD3).symm⟩, hacc3, ?_⟩
                exact paired_mapL hpa3 fun c y ⟨a, e1, _, e3, e4⟩ => ⟨a, e1, e3, e4⟩
            · have s113 := s12.tr s13
              refine ⟨(by show 3 ≤ sizeLine; omega), fun b nb => ?_⟩
              have s14 : Sm H13 (upd H13 b (.tup [.str z, .ref tu, .ref D2])) := Sm.rf.up nb
              have hF14 := s14 _ _ (s113 _ _ hF11)
              have rvl : rv.length = rows.length := hrp.length
              have rnl : rows.length ≤ 4 := by
                have := congrArg List.length hnm
                rw [List.length_map, List.length_take] at this
                omega
              refine ⟨F, rv, _, rfl, rfl, hF14, by omega, ?_⟩
              have hbF := ne_of_none (s113 _ _ hF11) nb
              have nD2g := rng_ne (g11.sm s12) nD2
              have nD2F : D2 ≠ F := (ne_of_none (s12 _ _ hF11) nD2).symm
              have kall : ∀ c o, H13 c = some o → c ≠ F → (upd (upd H13 b (.tup [.str z, .ref tu, .ref D2])) F (.lst (rv ++ [.ref b]))) c = some o := fun c o e n => by
                rw [upd_ne n]
                exact s14 _ _ e
              have kF4 : ∀ c o, H4 c = some o → c ≠ g → c ≠ F → (upd (upd H13 b (.tup [.str z, .ref tu, .ref D2])) F (.lst (rv ++ [.ref b]))) c = some o := fun c o e n1 n2 => kall c o (s113 _ _ (k11 _ _ (k10 _ _ e (by simpa using n1)) (by simpa using n1))) n2
              have tF4 : ∀ c xs, H4 c = some (.tup xs) → (upd (upd H13 b (.tup [.str z, .ref tu, .ref D2])) F (.lst (rv ++ [.ref b]))) c = some (.tup xs) := fun c xs e => by
                obtain ⟨ga, gb, ge, _⟩ := g3
                exact kF4 c _ e (ne_of e ge (fun z => nomatch z)) (ne_of e hF (fun z => nomatch z))
              refine ⟨(k3.tr (k10.tr (k11.tr (.of (s113.tr s14))))).set nF, ?_, ⟨_, _, _, _, _, _, _, _, _, rfl⟩, rows ++ [⟨z, us, rowVs (1 + d9).toNat cols⟩], rv ++ [.ref b], upd_same, ?_, ?_, fun r hr => ?_⟩
              · obtain ⟨a, b', e, z⟩ := g11
                exact ⟨a, b', (upd_ne nFg.symm).trans (s14 _ _ (s113 _ _ e)), z⟩
              · refine (paired_mono hrp fun _ _ z => z.keep kF4 tF4).snoc ⟨b, tu, D2, acc, rfl, ?_, kall _ _ (s13 _ _ htu) (ne_of (s13 _ _ htu) (s113 _ _ hF11) (fun z => nomatch z)), nD2g, nD2F, kall _ _ hacc nD2F, ?_⟩
                · rw [upd_ne hbF.symm, upd_same]
                · unfold rowVs
                  exact paired_mapL hpa fun k v ⟨x, refs, e1, _, e0, e3, e4⟩ => ⟨x, refs, e1, e0.1, e0.2, kall _ _ e3 e0.2, paired_mono e4 fun _ _ ⟨a, z1, _, z3⟩ => ⟨a, z1, kall _ _ z3 (ne_of z3 (s113 _ _ hF11) (fun z => nomatch z))⟩⟩
              · rw [take_snoc ht, ← hnm]
                exact List.map_append ..
              · rcases List.mem_append.mp hr with hr | hr
                · exact hro r hr
                · rw [List.mem_singleton.mp hr]
                  exact row_of hzm (fun u hu => (hus1 u hu).1) husn (fun hz => (hus1 z hz).2 rfl) hcl hco (by omega) (by omega)
    · obtain ⟨k3, g3, ⟨x6, x7, x8, x9, x10, x11, x12, x13, x14, rfl⟩, rows, rv, hF, hrp, hnm, hro⟩ := p0
      rw [List.take_length] at hnm
      exact ⟨_, rfl, q H3 F rows (k02.tr k3) g3 nF0 ⟨rv, hF, paired_mono hrp fun _ _ z => z.is_⟩ (rows_ok hnm znd (by omega) (by omega) znm hro)⟩
end
end Gs
/-! ## GsL6 -/
namespace Gs
open PySem PySem.Spec PyProof.Rows L2
section
variable {P : Program} {w : World} {K : PySem.W.Frag} {mg : Str → Option Value} {base : Heap}
/-- the law's world as it stands in the heap: own slots aw -/
structure WorAt (H : Hp) (aw : Ad) (c : Cat) : Prop where
  wp : H (aw .wp) = some (.dK [(.inr "modules", .ref (aw .ml)), (.inr "uses", .ref (aw .ud)), (.inr "windows", .ref (aw .ww)), (.inr "there", .ref (aw .td))])
  ml : H (aw .ml) = some (.lst (c.mods.map V.str))
  ud : H (aw .ud) = some (.dK (c.mods.map fun m => (.inr m, .ref (aw (.xa m)))))
  xa : ∀ m ∈ c.mods, H (aw (.xa m)) = some (.lst ((c.uses m).map V.str))
  ww : H (aw .ww) = some (.dT (c.pairs.map fun p => (pk p, .ref (aw (.wa p.1 p.2)))))
  wa : ∀ p ∈ c.pairs, ∃ refs, H (aw (.wa p.1 p.2)) = some (.lst refs) ∧ WinsAre H refs (c.wins p.1 p.2)
  td : H (aw .td) = some (.dK (c.mods.map fun m => (.inr m, .ref (aw (.ta m)))))
  ta : ∀ m ∈ c.mods, H (aw (.ta m)) = some (.lst ((c.there m).map V.int))
theorem WorAt.kc {H H' : Hp} {aw : Ad} {c : Cat} (h : WorAt H aw c) (k : Kc H H') : WorAt H' aw c where
  wp := k _ _ h.wp fun _ z => nomatch z
  ml := k _ _ h.ml fun _ z => nomatch z
  ud := k _ _ h.ud fun _ z => nomatch z
  xa := fun m hm => k _ _ (h.xa m hm) fun _ z => nomatch z
  ww := k _ _ h.ww fun _ z => nomatch z
  wa := fun p hp => let ⟨r, a, b⟩ := h.wa p hp; ⟨r, k _ _ a (fun _ z => nomatch z), b.keep fun _ _ z => k _ _ z (fun _ z => nomatch z)⟩
  td := k _ _ h.td fun _ z => nomatch z
  ta := fun m hm => k _ _ (h.ta m hm) fun _ z => nomatch z
theorem WorAt.sm {H H' : Hp} {aw : Ad} {c : Cat} (h : WorAt H aw c) (s : Sm H H') : WorAt H' aw c := h.kc (Kc.of s)
theorem ok_l_contains (T : Txt K mg) : FnOk P w K mg base CX0 1 T.d_l_contains.f T.d_l_contains.fd ["_law_window", "_law_version"] (fun vs H Q _ => ∃ (a : Addr) (v : Win) (n : Int), vs = [.ref a, .int n] ∧ H a = some (.tup (winV v)) ∧ Q (.bl (holds v n)) H) := by
  have nd := sc_l_contains.nd
  refine T.d_l_contains.F.ok sc_l_contains (fun vs H Q E h => ?_) (fun cdv A outer s H vs Q E hr h => ?_)
  · obtain ⟨a, v, n, rfl, _⟩ := h; rfl
  · obtain ⟨a, v, n, rfl, ha, q⟩ := h
    refine ⟨_, (pss_one (ps_ret (pe_and (pe_cmpR op_le (pe_ix (r := rIxT K) ix_tup (pv 0) pe_int (fun _ _ => rfl)) (pv 1) (nomark _)) (pe_one (pe_or (pe_cmp (pc_isN (pe_ix (r := rIxT K) ix_tup (pv 0) pe_int (fun _ _ => rfl)))) (pe_one (pe_cmpR op_le (pv 1) (pe_ix (r := rIxT K) ix_tup (pv 0) pe_int (fun _ _ => rfl)) (nomark _)))))))), ?_⟩
    obtain ⟨lo, hi⟩ := v
    refine ⟨_, rfl, a, _, 0, _, rfl, rfl, SqT.of ha, at0, _, rfl, _, _, rfl, rfl, _, rfl, ?_⟩
    unfold holds reach at q
    by_cases h0 : lo ≤ n
    · refine ifT (decT h0) ?_
      rw [decT h0, Bool.true_and] at q
      refine ⟨_, rfl, a, _, 1, _, rfl, rfl, SqT.of ha, at1, _, rfl, ?_⟩
      cases hi with
      | none => exact ifT rfl q
      | some h => exact ifF rfl ⟨_, rfl, _, rfl, a, _, 1, _, rfl, rfl, SqT.of ha, at1, _, _, rfl, rfl, q⟩
    · refine ifF (decF h0) ?_
      rw [decF h0, Bool.false_and] at q
      exact q
/-- a partial state: the first modules' versions -/
def PairsOf (c : Cat) (dom : List Nm) (x : Nm → Int) : List (Nm × Nm) := c.pairs.filter fun q => decide (q.1 ∈ dom) && decide (q.2 ∈ dom) && !holds (winAt (c.wins q.1 q.2) (x q.1)) (x q.2)
end
end Gs
/-! ## GsL7 -/
namespace Gs
open PySem PySem.Spec PyProof.Rows L2
section
variable {P : Program} {w : World} {K : PySem.W.Frag} {mg : Str → Option Value} {base : Heap}
theorem val_dom {x : Nm → Int} {dom : List Nm} (h : dom.Nodup) {m : Nm} : valV (dom.map fun m => ((.inr m : Key), V.int (x m))) (.inr m) = if m ∈ dom then some (.int (x m)) else none := by
  by_cases e : m ∈ dom
  · rw [if_pos e]
    exact val_map (kf := fun m => (.inr m : Key)) (vf := fun m => V.int (x m)) (nodup_inr h) e
  · rw [if_neg e]
    exact val_none (kf := fun m : Nm => (.inr m : Key)) (vf := fun m => V.int (x m)) fun z hz q => e (by rw [← inr_inj _ _ q]; exact hz)
theorem nk {a b : Nm} (h : a ≠ b) : ¬ (Sum.inr a : Key) = Sum.inr b := fun e => h (inr_inj _ _ e)
section
variable {H : Hp} {aw : Ad} {c : Cat}
theorem WorAt.g_ml (h : WorAt H aw c) : DGet H (aw .wp) (.str "modules") (some (.ref (aw .ml))) := by
  have := DGet.k (k := (.inr "modules" : Key)) h.wp
  rwa [valV_pos rfl] at this
theorem WorAt.g_ud (h : WorAt H aw c) : DGet H (aw .wp) (.str "uses") (some (.ref (aw .ud))) := by
  have := DGet.k (k := (.inr "uses" : Key)) h.wp
  rwa [valV_neg (nk (by decide)), valV_pos rfl] at this
theorem WorAt.g_ww (h : WorAt H aw c) : DGet H (aw .wp) (.str "windows") (some (.ref (aw .ww))) := by
  have := DGet.k (k := (.inr "windows" : Key)) h.wp
  rwa [valV_neg (nk (by decide)), valV_neg (nk (by decide)), valV_pos rfl] at this
theorem WorAt.g_td (h : WorAt H aw c) : DGet H (aw .wp) (.str "there") (some (.ref (aw .td))) := by
  have := DGet.k (k := (.inr "there" : Key)) h.wp
  rwa [valV_neg (nk (by decide)), valV_neg (nk (by decide)), valV_neg (nk (by decide)), valV_pos rfl] at this
theorem WorAt.g_xa (h : WorAt H aw c) (wf : c.WF) {m : Nm} (hm : m ∈ c.mods) : DGet H (aw .ud) (.str m) (some (.ref (aw (.xa m)))) := by
  have := DGet.k (k := (.inr m : Key)) h.ud
  rwa [val_map (kf := fun m => (.inr m : Key)) (vf := fun m => V.ref (aw (.xa m))) (nodup_inr wf.nd) hm] at this
theorem WorAt.g_ta (h : WorAt H aw c) (wf : c.WF) {m : Nm} (hm : m ∈ c.mods) : DGet H (aw .td) (.str m) (some (.ref (aw (.ta m)))) := by
  have := DGet.k (k := (.inr m : Key)) h.td
  rwa [val_map (kf := fun m => (.inr m : Key)) (vf := fun m => V.ref (aw (.ta m))) (nodup_inr wf.nd) hm] at this
theorem WorAt.g_wa (h : WorAt H aw c) (wf : c.WF) {m u : Nm} (hm : m ∈ c.mods) (hu : u ∈ c.uses m) {b : Addr} (hb : H b = some (.tup [.str m, .str u])) : DGet H (aw .ww) (.ref b) (some (.ref (aw (.wa m u)))) := by
  have := DGet.t (k := pk (m, u)) h.ww hb
  rwa [val_map (kf := pk) (vf := fun p : Nm × Nm => V.ref (aw (.wa p.1 p.2))) (nodup_pk (pairs_nd wf.nd wf.und)) (mem_pairs.mpr ⟨hm, hu⟩)] at this
end
theorem ok_l_conflicts (T : Txt K mg) : FnOk P w K mg base CX0 2 T.d_l_conflicts.f T.d_l_conflicts.fd ["_law_world_here", "_law_state"] (fun vs H Q _ => ∃ (aw : Ad) (c : Cat) (p : Addr) (dom : List Nm) (x : Nm → Int), vs = [.ref (aw .wp), .ref p] ∧ WorAt H aw c ∧ c.WF ∧ H p = some (.dK (dom.map fun m => (.inr m, .int (x m)))) ∧ dom.Nodup ∧ (∀ m ∈ dom, m ∈ c.mods ∧ 0 ≤ x m ∧ x m < (c.cnt m : Nat)) ∧
    ∀ H' l, Sm H H' → H l = none → PrsAt H' l (PairsOf c dom x) → Q (.ref l) H') := by
  have nd := sc_l_conflicts.nd
  refine T.d_l_conflicts.F.ok sc_l_conflicts (fun vs H Q E h => ?_) (fun cdv A outer s H vs Q E hr h => ?_)
  · obtain ⟨aw, c, p, dom, x, rfl, _⟩ := h; rfl
  · obtain ⟨aw, c, p, dom, x, rfl, h, wf, hp, hdn, hdom, q⟩ := h
    have hu := hu_of hr
    have hs : sizeLine = 16777216 := sizeLine_eq
    have hpl := pairs_len wf
    refine ⟨_, (pss_cons (ps_set (i := 2) nd rfl (.inl rfl) (pe_lst pa_nil))
      (pss_cons (ps_for PassesOwn.never rfl (pi_listK (K := K) rfl (pe_dget hu (pv 0) pe_str (fun _ _ => rfl))) (pg_name (i := 3) nd rfl (.inl rfl))
      (pss_one (ps_for PassesOwn.never rfl (pi_listK (K := K) rfl (pe_dget hu (pe_dget hu (pv 0) pe_str (fun _ _ => rfl)) (pv 3) (fun _ _ => rfl))) (pg_name (i := 4) nd rfl (.inl rfl))
      (pss_one (ps_if (PW.pt (pw_and (pt_cmp (pc_din hu (pv 3) (pv 1))) (pw_and1 (pt_cmp (pc_din hu (pv 4) (pv 1)))))) (pss_one (ps_if (pt_not (pt_val (pcall (ok_l_contains T) T.d_l_contains.M (hr.mono (by decide)) (pa_cons (pe_ix (r := rIxL K) ix_list (pe_dget hu (pe_dget hu (pv 0) pe_str (fun _ _ => rfl)) (pe_tup (pa_cons (pv 3) (pa_cons (pv 4) pa_nil))) (fun _ _ => rfl)) (pe_dget hu (pv 1) (pv 3) (fun _ _ => rfl)) (fun _ _ => rfl)) (pa_cons (pe_dget hu (pv 1) (pv 4) (fun _ _ => rfl)) pa_nil))))) (pss_one (ps_expr (pe_bmK (K := K) rfl PySem.F.plainAttrs_list PySem.F.slot_list_append PySem.F.type_list_append mt_append (pv 2) (pa_cons (pe_tup (pa_cons (pv 3) (pa_cons (pv 4) pa_nil))) pa_nil)))) pss_nil)) pss_nil)))))
      (pss_one (ps_ret (pv 2))))), ?_⟩
    refine ⟨(by show 0 ≤ sizeLine; omega), fun F nF => ?_⟩
    have s1 : Sm H (upd H F (.lst [])) := Sm.rf.up nF
    have h1 := h.sm s1
    refine ⟨_, rfl, aw .wp, _, rfl, h1.g_ml, aw .ml, rfl, ⟨_, SqL.of h1.ml⟩, ?_⟩
    have wk := walk_list (K := K) (a := aw .ml) (xs := c.mods.map V.str)
    rw [List.length_map] at wk
    let P0 : Nm × Nm → Bool := fun q => decide (q.1 ∈ dom) && decide (q.2 ∈ dom) && !holds (winAt (c.wins q.1 q.2) (x q.1)) (x q.2)
    let L0 : Nat → List (Nm × Nm) := fun i => (c.mods.take i).flatMap fun m => (c.uses m).map fun u => (m, u)
    refine for_it wk (fun i σ H' => Sm H H' ∧ (∃ y z, σ = [some (.ref (aw .wp)), some (.ref p), some (.ref F), y, z]) ∧ ∃ fs, H' F = some (.lst fs) ∧ Paired (PrAt H') fs ((L0 i).filter P0)) ⟨s1, ⟨_, _, rfl⟩, [], upd_same, .nil⟩ (fun i σ H' _ p => SqL.of (p.1 _ _ h.ml)) (fun i y σ H3 H4 hi p0 yy => ?_) (fun σ H3 p0 => ?_)
    · obtain ⟨s3, ⟨y0, z0, rfl⟩, fs, hF, hfp⟩ := p0
      obtain ⟨rfl, hy⟩ := yy
      have ht : c.mods[i]? = some c.mods[i] := List.getElem?_eq_getElem hi
      generalize c.mods[i] = m at ht
      have hy := pick1 ht hy
      subst hy
      have hm := List.mem_of_getElem? ht
      have h4 := h.sm s3
      refine ⟨_, rfl, aw .wp, _, rfl, h4.g_ud, _, rfl, aw .ud, _, rfl, h4.g_xa wf hm, aw (.xa m), rfl, ⟨_, SqL.of (h4.xa m hm)⟩, ?_⟩
      have wk2 := walk_list (K := K) (a := aw (.xa m)) (xs := (c.uses m).map V.str)
      rw [List.length_map] at wk2
      have eL : L0 (i + 1) = L0 i ++ (c.uses m).map fun u => (m, u) := flatMap_take ht
      have hLl : (L0 (i + 1)).length ≤ 144 := by
        have e1 : c.pairs = L0 (i + 1) ++ (c.mods.drop (i + 1)).flatMap fun m => (c.uses m).map fun u => (m, u) := by
          show c.pairs = (c.mods.take (i + 1)).flatMap _ ++ _
          rw [← List.flatMap_append, List.take_append_drop]
          rfl
        have := congrArg List.length e1
        rw [List.length_append] at this
        omega
      rw [eL] at hLl
      rw [List.length_append, List.length_map] at hLl
      refine for_it wk2 (fun j σ H' => Sm H H' ∧ (∃ z, σ = [some (.ref (aw .wp)), some (.ref p), some (.ref F), some (.str m), z]) ∧ ∃ fs, H' F = some (.lst fs) ∧ Paired (PrAt H') fs ((L0 i ++ ((c.uses m).take j).map fun u => (m, u)).filter P0)) ⟨s3, ⟨_, rfl⟩, fs, hF, by rw [List.take_zero, List.map_nil, List.append_nil]; exact hfp⟩ (fun j σ H' _ p => SqL.of (p.1 _ _ (h.xa m hm))) (fun j y σ H5 H6 hj p0 yy => ?_) (fun σ H5 p0 => ?_)
      · obtain ⟨s5, ⟨z0, rfl⟩, fs, hF, hfp⟩ := p0
        obtain ⟨rfl, hy⟩ := yy
        have hu' : (c.uses m)[j]? = some (c.uses m)[j] := List.getElem?_eq_getElem hj
        generalize (c.uses m)[j] = u at hu'
        have hy := pick1 hu' hy
        subst hy
        have hum := List.mem_of_getElem? hu'
        have h6 := h.sm s5
        have hp6 := s5 _ _ hp
        have gd : ∀ k, ∀ H', Sm H6 H' → DGet H' p (.str k) (if k ∈ dom then some (.int (x k)) else none) := fun k H' s => by
          rw [← val_dom hdn]
          exact DGet.k (k := (.inr k : Key)) (s _ _ hp6)
        have eLL : L0 i ++ ((c.uses m).take (j + 1)).map (fun u => (m, u)) = (L0 i ++ ((c.uses m).take j).map fun u => (m, u)) ++ [(m, u)] := by
          rw [take_snoc hu', List.map_append, List.append_assoc]
          rfl
        have hfl : fs.length ≤ 144 := by
          rw [hfp.length]
          refine Nat.le_trans (List.length_filter_le ..) ?_
          rw [List.length_append, List.length_map, List.length_take]
          omega
        rw [eLL, List.filter_append]
        refine ⟨_, rfl, _, rfl, p, _, rfl, gd m _ Sm.rf, _, rfl, ?_⟩
        by_cases h1 : m ∈ dom
        · refine ifT (by rw [if_pos h1]; rfl) ⟨_, rfl, _, rfl, p, _, rfl, gd u _ Sm.rf, _, rfl, ?_⟩
          by_cases h2 : u ∈ dom
          · refine ifT (by rw [if_pos h2]; rfl) ?_
            have gm := gd m
            rw [if_pos h1] at gm
            have gu := gd u
            rw [if_pos h2] at gu
            obtain ⟨_, x0, x1⟩ := hdom m h1
            refine ⟨_, rfl, aw .wp, _, rfl, h6.g_ww, _, rfl, _, rfl, (by show 2 ≤ sizeLine; omega), fun b nb => ?_⟩
            have s7 : Sm H6 (upd H6 b (.tup [.str m, .str u])) := Sm.rf.up nb
            have h7 := h6.sm s7
            obtain ⟨refs, r1, r2⟩ := h7.wa (m, u) (mem_pairs.mpr ⟨hm, hum⟩)
            have hlen := wf.len m hm u hum
            obtain ⟨v, e1, e2⟩ : ∃ v, refs[(x m).toNat]? = some v ∧ ∃ a, v = .ref a ∧ (upd H6 b (.tup [.str m, .str u])) a = some (.tup (winV (winAt (c.wins m u) (x m)))) := by
              have hw := winAt_get (ws := c.wins m u) x0 (by omega)
              have hl : (x m).toNat < refs.length := by rw [r2.length]; exact (List.getElem?_eq_some_iff.mp hw).1
              have ev : refs[(x m).toNat]? = some refs[(x m).toNat] := List.getElem?_eq_getElem hl
              obtain ⟨w2, hw2, a, ea, haw⟩ := LiI.paired_get r2 ev
              have hw2 : (c.wins m u)[(x m).toNat]? = some w2 := hw2
              rw [hw] at hw2
              cases hw2
              exact ⟨_, ev, a, ea, haw⟩
            obtain ⟨a, rfl, haw⟩ := e2
            refine ⟨aw .ww, _, rfl, h7.g_wa wf hm hum upd_same, _, rfl, _, rfl, p, _, rfl, gm _ s7, aw (.wa m u), _, x m, _, rfl, rfl, SqL.of r1, (by rw [show x m = (((x m).toNat : Nat) : Int) by omega]; exact atI_nat e1), ?_⟩
            have hF7 := s7 _ _ hF
            refine ⟨_, rfl, _, rfl, p, _, rfl, gu _ s7, a, _, x u, rfl, haw, _, rfl, ?_⟩
            generalize (upd H6 b (.tup [.str m, .str u])) = H7 at s7 hF7
            cases e : holds (winAt (c.wins m u) (x m)) (x u) with
            | true =>
              have e2 : [(m, u)].filter P0 = [] := by simp [P0, e]
              rw [e2, List.append_nil]
              exact ifF rfl ⟨s5.tr s7, ⟨_, rfl⟩, fs, hF7, paired_mono hfp fun _ _ z => z.sm s7⟩
            | false =>
              have e2 : [(m, u)].filter P0 = [(m, u)] := by simp [P0, e, h1, h2]
              rw [e2]
              refine ifT rfl ⟨_, rfl, .inl ⟨rfl, _, .inl (.inl hF7)⟩, _, rfl, _, rfl, (by show 2 ≤ sizeLine; omega), fun b2 nb2 => ?_⟩
              have s8 : Sm H7 (upd H7 b2 (.tup [.str m, .str u])) := Sm.rf.up nb2
              have kp : ∀ z xs, H6 z = some (.tup xs) → (upd (upd H7 b2 (.tup [.str m, .str u])) F (.lst (fs ++ [.ref b2]))) z = some (.tup xs) := fun z xs e => by
                rw [upd_ne (ne_of hF e (by intro z; cases z)).symm]
                exact s8 _ _ (s7 _ _ e)
              refine ⟨F, fs, _, rfl, rfl, s8 _ _ hF7, by omega, ((s5.tr s7).tr s8).set nF, ⟨_, rfl⟩, _, upd_same, ?_⟩
              refine (paired_mono hfp fun _ _ z => z.keep kp).snoc ⟨b2, rfl, ?_⟩
              rw [upd_ne (ne_of_none hF7 nb2).symm, upd_same]
          · have e2 : [(m, u)].filter P0 = [] := by simp [P0, h2]
            rw [e2, List.append_nil]
            exact ifF (by rw [if_neg h2]; rfl) ⟨s5, ⟨_, rfl⟩, fs, hF, hfp⟩
        · have e2 : [(m, u)].filter P0 = [] := by simp [P0, h1]
          rw [e2, List.append_nil]
          exact ifF (by rw [if_neg h1]; rfl) ⟨s5, ⟨_, rfl⟩, fs, hF, hfp⟩
      · obtain ⟨s5, ⟨z0, rfl⟩, fs, hF, hfp⟩ := p0
        rw [List.take_length, ← eL] at hfp
        exact ⟨s5, ⟨_, _, rfl⟩, fs, hF, hfp⟩
    · obtain ⟨s3, ⟨y0, z0, rfl⟩, fs, hF, hfp⟩ := p0
      refine ⟨_, rfl, q H3 F s3 nF ⟨fs, hF, ?_⟩⟩
      have : L0 c.mods.length = c.pairs := by
        show (c.mods.take c.mods.length).flatMap _ = _
        rw [List.take_length]
        rfl
      rw [this] at hfp
      exact hfp
end
end Gs
/-! ## GsL8 -/
namespace Gs
open PySem PySem.Spec PyProof.Rows L2
section
variable {P : Program} {w : World} {K : PySem.W.Frag} {mg : Str → Option Value} {base : Heap}
theorem mergeK_nd : ∀ {more kvs : List (Key × V)}, ((kvs ++ more).map (·.1)).Nodup → mergeK kvs more = kvs ++ more
  | [], kvs, _ => by
    rw [List.append_nil]
    rfl
  | p :: r, kvs, h => by
    show mergeK (putK kvs p.1 p.2) r = _
    have hn : p.1 ∉ kvs.map (·.1) := fun hm => by
      rw [List.map_append] at h
      exact (List.nodup_append.mp h).2.2 p.1 hm p.1 List.mem_cons_self rfl
    rw [putK_app p.2 hn, mergeK_nd (by rw [List.append_assoc]; exact h), List.append_assoc]
    rfl
/-- the versions xs of the first modules -/
def someK (c : Cat) (xs : List Int) : List (Key × V) := (c.mods.zip xs).map fun q => (.inr q.1, .int q.2)
theorem zip_keys {c : Cat} (h : c.mods.Nodup) (xs : List Int) : ((someK c xs).map (·.1)).Nodup := by
  unfold someK
  rw [List.map_map]
  generalize c.mods = l at h
  induction l generalizing xs with
  | nil => exact List.nodup_nil
  | cons a l ih =>
    cases xs with
    | nil => exact List.nodup_nil
    | cons x xs =>
      have hn := List.nodup_cons.mp h
      rw [List.zip_cons_cons, List.map_cons]
      refine List.nodup_cons.mpr ⟨fun hm => ?_, ih xs hn.2⟩
      obtain ⟨q, hq, e⟩ := List.mem_map.mp hm
      have e : q.1 = a := inr_inj _ _ e
      exact hn.1 (e ▸ (List.of_mem_zip hq).1)
theorem paired_map2 {α β γ δ : Type} {R : α → β → Prop} {G : α → γ → Prop} {f : δ → β} {g : δ → γ} (k : ∀ a d, R a (f d) → G a (g d)) : ∀ {l : List δ} {ts : List α}, Paired R ts (l.map f) → Paired G ts (l.map g)
  | [], _, h => by cases h; exact .nil
  | d :: l, _, h => by
    cases h with
    | cons a t => exact .cons (k _ _ a) (paired_map2 k t)
theorem ok_l_as_dict (T : Txt K mg) : FnOk P w K mg base CX0 1 T.d_l_as_dict.f T.d_l_as_dict.fd ["_law_world_here", "_law_some"] (fun vs H Q _ => ∃ (aw : Ad) (c : Cat) (t : Addr) (xs : List Int), vs = [.ref (aw .wp), .ref t] ∧ WorAt H aw c ∧ c.WF ∧ H t = some (.tup (xs.map V.int)) ∧
    ∀ H' p, Sm H H' → H p = none → H' p = some (.dK (someK c xs)) → Q (.ref p) H') := by
  have nd := sc_l_as_dict.nd
  refine T.d_l_as_dict.F.ok sc_l_as_dict (fun vs H Q E h => ?_) (fun cdv A outer s H vs Q E hr h => ?_)
  · obtain ⟨aw, c, t, xs, rfl, _⟩ := h; rfl
  · obtain ⟨aw, c, t, xs, rfl, h, wf, ht, q⟩ := h
    have hu := hu_of hr
    refine ⟨_, (pss_one (ps_ret (pe_callTy (T := "dict") (call_dictP rfl) (by rfl) T.b_dict (by decide +kernel) (pa_cons (pe_listZip rfl (by rfl) T.b_list (by rfl) T.b_zip (pa_cons (pe_dget hu (pv 0) pe_str (fun _ _ => rfl)) (pa_cons (pv 1) pa_nil))) pa_nil)))), ?_⟩
    refine ⟨_, rfl, aw .wp, _, rfl, h.g_ml, _, rfl, aw .ml, t, _, _, rfl, SqL.of h.ml, SqT.of ht, fun H1 p1 ts s1 np1 nts npt hp1 pr => ?_⟩
    have s1 : Sm H H1 := s1
    refine ⟨p1, ts, someK c xs, rfl, SqL.of hp1, ?_, fun p np => ?_⟩
    · rw [List.zip_map] at pr
      unfold someK
      exact paired_map2 (G := fun (p : Addr) (kv : Key × V) => SqT K H1 p [kV kv.1, kv.2]) (g := fun q : Nm × Int => ((.inr q.1 : Key), V.int q.2)) (R := fun (t : Addr) (q : V × V) => H1 t = some (.tup [q.1, q.2])) (f := Prod.map V.str V.int) (fun a d e => SqT.of (show H1 a = some (.tup [V.str d.1, V.int d.2]) from e)) pr
    · rw [mergeK_nd (by rw [List.nil_append]; exact zip_keys wf.nd xs), List.nil_append]
      exact q _ p (s1.up np) (s1.un np) upd_same
end
end Gs
/-! ## GsL9 -/
namespace Gs
open PySem PySem.Spec PyProof.Rows L2
section
variable {P : Program} {w : World} {K : PySem.W.Frag} {mg : Str → Option Value} {base : Heap}
def IntsAt (H : Hp) (v : V) (xs : List Int) : Prop := ∃ a, v = .ref a ∧ H a = some (.tup (xs.map V.int))
theorem IntsAt.sm {H H' : Hp} {v : V} {xs : List Int} (h : IntsAt H v xs) (s : Sm H H') : IntsAt H' v xs := let ⟨a, e, z⟩ := h; ⟨a, e, s _ _ z⟩
theorem ints_of {α : Type} {P : α → Int → Prop} : ∀ {l : List α} {acc : List V}, Paired (fun k y => ∃ m, y = V.int m ∧ P k m) l acc → ∃ ys : List Int, acc = ys.map V.int ∧ Paired P l ys
  | _, _, .nil => ⟨[], rfl, .nil⟩
  | _, _, .cons h t => by
    obtain ⟨m, rfl, hm⟩ := h
    obtain ⟨ys, rfl, hp⟩ := ints_of t
    exact ⟨m :: ys, rfl, .cons hm hp⟩
theorem getD_at {xs : List Int} {k : Nat} (h : k < xs.length) : xs[k]? = some (xs.getD k 0) := by
  rw [List.getD_eq_getElem?_getD, List.getElem?_eq_getElem h]
  rfl
theorem ok_l_bound (T : Txt K mg) : FnOk P w K mg base CX0 1 T.d_l_bound.f T.d_l_bound.fd ["_law_states_here", "_law_sign"] (fun vs H Q _ => ∃ (p : Addr) (refs : List V) (sts : List (List Int)) (sg : Int) (n : Nat), vs = [.ref p, .int sg] ∧ H p = some (.lst refs) ∧ Paired (IntsAt H) refs sts ∧ sts ≠ [] ∧ (∀ xs ∈ sts, xs.length = n) ∧ n ≤ 100 ∧ (sg = 1 ∨ sg = -1) ∧ sts.length ≤ 1000000 ∧
    ∀ H' t (ys : List Int), Sm H H' → H t = none → H' t = some (.tup (ys.map V.int)) → ys.length = n → (∀ (k : Nat) y, ys[k]? = some y → (∃ xs ∈ sts, xs[k]? = some y) ∧ ∀ xs ∈ sts, ∀ z, xs[k]? = some z → sg * y ≤ sg * z) → Q (.ref t) H') := by
  have nd := sc_l_bound.nd
  refine T.d_l_bound.F.ok sc_l_bound (fun vs H Q E h => ?_) (fun cdv A outer s H vs Q E hr h => ?_)
  · obtain ⟨p, refs, sts, sg, n, rfl, _⟩ := h; rfl
  · obtain ⟨p, refs, sts, sg, n, rfl, hp, hst, hne, hlen, hn, hsg, hsl, q⟩ := h
    have hs : sizeLine = 16777216 := sizeLine_eq
    refine ⟨_, (pss_one (ps_ret (pe_callTy (T := "tuple") call_tuple_of (by rfl) T.b_tuple (by decide +kernel) (pa_cons (pe_lc (own := [("_law_k", 2)]) (tt := tYes) (g := (gName 2)) rfl nd (pi_range1 (by rfl) T.b_range (pa_cons (pe_callB (r := rLenS K) (id := "len") call_lenS (by rfl) T.b_len (by decide +kernel) (pa_cons (pe_ix (r := rIxL K) ix_list (pv 0) pe_int (fun _ _ => rfl)) pa_nil)) pa_nil)) (blkOk_by (N := N_l_bound) (sc := defScope s_l_bound) (by decide +kernel)) (fun _ _ _ _ _ => (pg_name (i := 2) nd rfl (.inr rfl))) (fun _ _ _ _ _ => pts_nil) (fun _ _ _ _ _ => (pe_op op_mul (pv 1) (pe_callB (r := rMin K) (id := "min") (cr_min rfl) (by rfl) T.b_min (by decide +kernel) (pa_cons (pe_lc (own := [("_law_some", 3)]) (tt := tYes) (g := (gName 3)) rfl nd (pi_listK (K := K) rfl (pv 0)) (blkOk_by (N := N_l_bound) (sc := ({ kind := .function, names := [((".0" : Str), .local), (("_law_k" : Str), .cell), (("min" : Str), .globalImplicit), (("_law_sign" : Str), .cell), (("_law_states_here" : Str), .cell)], isGenerator := false, isCoroutine := false } : Scope)) (by decide +kernel)) (fun _ _ _ _ _ => (pg_name (i := 3) nd rfl (.inl rfl))) (fun _ _ _ _ _ => pts_nil) (fun _ _ _ _ _ => (pe_op op_mul (pv 1) (pe_ix (r := rIxT K) ix_tup (pv 3) (pv 2) (fun _ _ => rfl))))) pa_nil))))) pa_nil)))), ?_⟩
    have hrl : refs.length = sts.length := hst.length
    obtain ⟨st0, h0⟩ : ∃ s, sts[0]? = some s := by
      cases sts with
      | nil => exact absurd rfl hne
      | cons s l => exact ⟨s, rfl⟩
    have h0l : 0 < refs.length := by rw [hrl]; exact (List.getElem?_eq_some_iff.mp h0).1
    have e0 : refs[0]? = some refs[0] := List.getElem?_eq_getElem h0l
    generalize refs[0] = v0 at e0
    obtain ⟨st1, h1, a0, rfl, ha0⟩ := LiI.paired_get hst e0
    have hn0 := hlen st1 (List.mem_of_getElem? h1)
    refine ⟨_, rfl, p, refs, 0, _, rfl, rfl, SqL.of hp, atI_nat e0, a0, _, rfl, .inr (SqT.of ha0), _, rfl, by rw [List.length_map]; omega, by rw [List.length_map]; omega, fun D nD => ?_⟩
    rw [List.length_map, hn0]
    have wkr : Walk (Itr 0 ((n : Nat) : Int).toNat) (List.range n).length (fun _ => True) (YFn fun i => .int (0 + i)) := by
      rw [List.length_range]
      have := walk_range (lo := 0) (n := ((n : Nat) : Int).toNat)
      rwa [show ((n : Nat) : Int).toNat = n by omega] at this ⊢
    refine lc_smY (List.range n) wkr (fun i H x H' y => sm_YFn y) nD (fun _ _ => trivial) (fun k y _ => ∃ m, y = .int m ∧ (∃ xs ∈ sts, xs[k]? = some m) ∧ ∀ xs ∈ sts, ∀ z, xs[k]? = some z → sg * m ≤ sg * z) (fun _ _ _ _ _ r => r) (by rw [List.length_range]; omega) (fun i k x Ha Hb Pa hk sa sb _ y ka => ?_) (fun H2 acc s2 hacc hpa => ?_)
    · obtain ⟨rfl, rfl⟩ := y
      have hki : i < n ∧ k = i := by
        have hl := (List.getElem?_eq_some_iff.mp hk).1
        rw [List.length_range] at hl
        rw [List.getElem?_range hl] at hk
        exact ⟨hl, (Option.some.inj hk).symm⟩
      obtain ⟨hin, rfl⟩ := hki
      have hpb := sb _ _ hp
      refine ⟨rfl, _, rfl, _, rfl, p, rfl, ⟨_, SqL.of hpb⟩, fun D3 nD3 => ?_⟩
      have wk3 := walk_list (K := K) (a := p) (xs := refs)
      rw [hrl] at wk3
      refine lc_smY sts wk3 (fun i H x H' y => sm_YAt y) nD3 (fun H' s => SqL.of (s _ _ hpb)) (fun xs y _ => y = .int (sg * xs.getD k 0)) (fun _ _ _ _ _ r => r) (by omega) (fun j xs x Hc Hd Pc hx sc sd _ y kc => ?_) (fun He acc3 se hacc3 hpa3 => ?_)
      · obtain ⟨rfl, hv⟩ := y
        obtain ⟨xs2, hx2, a, rfl, ha⟩ := LiI.paired_get hst hv
        rw [hx] at hx2
        cases hx2
        have hxl := hlen xs (List.mem_of_getElem? hx)
        have hck := getD_at (xs := xs) (k := k) (by omega)
        have had := sb.tr sd
        refine ⟨rfl, _, rfl, _, rfl, _, rfl, a, _, 0 + (k : Int), _, rfl, rfl, SqT.of (had _ _ ha), (by rw [Int.zero_add]; exact atI_nat (by rw [List.getElem?_map, hck]; rfl)), _, _, rfl, rfl, .inl ⟨by omega, by omega⟩, kc _ _ Sm.rf rfl⟩
      · have e := paired_eq (f := fun xs : List Int => V.int (sg * xs.getD k 0)) hpa3
        subst e
        refine ⟨D3, sts.map fun xs => sg * xs.getD k 0, rfl, (by rw [List.map_map]; exact SqL.of hacc3), by rw [List.length_map]; omega, fun m hm hmin => ?_⟩
        obtain ⟨xs, hxs, rfl⟩ := List.mem_map.mp hm
        have hxl := hlen xs hxs
        refine ⟨_, _, rfl, rfl, .inl ⟨by omega, by omega⟩, ka _ _ se ⟨_, rfl, ⟨xs, hxs, ?_⟩, fun zs hzs z hz => ?_⟩⟩
        · rw [getD_at (xs := xs) (k := k) (by omega)]
          rcases hsg with rfl | rfl <;> simp
        · have hzl := hlen zs hzs
          have h3 := hmin (sg * zs.getD k 0) (List.mem_map.mpr ⟨zs, hzs, rfl⟩)
          have h4 := getD_at (xs := zs) (k := k) (by omega)
          rw [hz] at h4
          have h4 := Option.some.inj h4
          rw [← h4] at h3
          rcases hsg with rfl | rfl
          · omega
          · omega
    · obtain ⟨ys, rfl, hy⟩ := ints_of hpa
      refine ⟨D, _, rfl, .inl ⟨SqL.of hacc, fun t nt => ?_⟩⟩
      refine q _ t ys (s2.up nt) (s2.un nt) upd_same (by rw [← hy.length, List.length_range]) fun k y hk => ?_
      have hkn : k < n := by
        have := (List.getElem?_eq_some_iff.mp hk).1
        rw [← hy.length, List.length_range] at this
        exact this
      obtain ⟨y2, h2, h3⟩ := LiI.paired_get hy (List.getElem?_range hkn)
      rw [hk] at h2
      cases h2
      exact h3
end
end Gs
/-! ## GsM2 -/
/-! The mathematics of the law's own readers: the chain, all states of the first modules. -/
namespace Gs
open PySem PySem.Spec PyProof.Rows L2
/-! ### the chain up from the first failing entry -/
structure Chain (c : Cat) (Ch : List Dm) (d : Dm) : Prop where
  last : Ch.getLast? = some d
  fst : ∃ s, Ch[0]? = some s ∧ s ∈ c.starts
  adj : ∀ (i : Nat) a b, Ch[i]? = some a → Ch[i + 1]? = some b → b ∈ c.next a
theorem up_chain {c : Cat} {i : Nat} {B : List En} (s : Srch c i B) {o : Option Dm} {L : List Dm} (U : Up B o L) : ∀ x ∈ B, o = some x.d → Chain c L.reverse x.d ∧ L.length = x.n := by
  induction U with
  | nil => intro x _ e; cases e
  | @cons x l hx hU ih =>
    intro y hy e
    have e : x.d = y.d := Option.some.inj e
    have := inj_en s.nd hx hy e
    subst this
    obtain ⟨j, hj⟩ := List.getElem?_of_mem hx
    rcases s.par j x hj with ⟨h1, h2, h3⟩ | ⟨k, y, _, hk, h1, h3, h4⟩
    · rw [h1] at hU
      cases hU
      refine ⟨⟨rfl, ⟨x.d, rfl, h2⟩, fun i a b ha hb => ?_⟩, by rw [h3]; rfl⟩
      have := (List.getElem?_eq_some_iff.mp hb).1
      simp at this
    · have hy := List.mem_of_getElem? hk
      obtain ⟨⟨c1, ⟨z, c2, c3⟩, c4⟩, c5⟩ := ih y hy h1
      have hl : 0 < l.reverse.length := (List.getElem?_eq_some_iff.mp c2).1
      refine ⟨⟨?_, ⟨z, ?_, c3⟩, fun i a b ha hb => ?_⟩, by rw [List.length_cons, c5, h3]⟩
      · rw [List.reverse_cons, List.getLast?_append]; rfl
      · rw [List.reverse_cons, List.getElem?_append_left hl]; exact c2
      · rw [List.reverse_cons] at ha hb
        by_cases hi : i + 1 < l.reverse.length
        · rw [List.getElem?_append_left (by omega)] at ha
          rw [List.getElem?_append_left hi] at hb
          exact c4 i a b ha hb
        · have hb1 := (List.getElem?_eq_some_iff.mp hb).1
          rw [List.length_append, List.length_singleton] at hb1
          have e : i + 1 = l.reverse.length := by omega
          rw [List.getElem?_append_left (by omega)] at ha
          rw [e, List.getElem?_append_right (Nat.le_refl _), Nat.sub_self] at hb
          have hb : x.d = b := by simpa using hb
          rw [List.getLast?_eq_getElem?, show l.reverse.length - 1 = i by omega] at c1
          rw [c1] at ha
          have ha := Option.some.inj ha
          rw [← ha, ← hb]
          exact h4
theorem fst_least {c : Cat} {i : Nat} {B : List En} {x : En} (s : Srch c i B) (e : B.find? (failP c) = some x) : x ∈ B ∧ c.settle x.d = none ∧ ∀ y ∈ B, c.settle y.d = none → x.n ≤ y.n := by
  obtain ⟨hp, as, bs, e2, no⟩ := List.find?_eq_some_iff_append.mp e
  refine ⟨by rw [e2]; simp, by unfold failP at hp; simpa using hp, fun y hy hn => ?_⟩
  obtain ⟨k, hk⟩ := List.getElem?_of_mem hy
  have hx : B[as.length]? = some x := by rw [e2]; simp
  by_cases hlt : k < as.length
  · rw [e2, List.getElem?_append_left hlt] at hk
    have := no y (List.mem_of_getElem? hk)
    unfold failP at this
    rw [hn] at this
    cases this
  · exact s.mono as.length k x y (by omega) hx hk
/-! ### states of the first modules -/
def asg (c : Cat) (xs : List Int) : Nm → Int := fun m => ((c.mods.zip xs).lookup m).getD 0
theorem asg_at {c : Cat} (h : c.mods.Nodup) {xs : List Int} {k : Nat} {m : Nm} {v : Int} (hm : c.mods[k]? = some m) (hv : xs[k]? = some v) : asg c xs m = v := by
  unfold asg
  rw [lookup_zip h hm hv]
  rfl
theorem asg_snoc {c : Cat} (h : c.mods.Nodup) {xs : List Int} {m k : Nm} {v : Int} (hm : c.mods[xs.length]? = some m) (hk : k ∈ c.mods.take (xs.length + 1)) : asg c (xs ++ [v]) k = setS (asg c xs) m v k := by
  obtain ⟨j, hj⟩ := List.getElem?_of_mem hk
  have hjl := (List.getElem?_eq_some_iff.mp hj).1
  rw [List.length_take] at hjl
  rw [List.getElem?_take_of_lt (by omega)] at hj
  unfold setS
  by_cases e : j = xs.length
  · subst e
    rw [hm] at hj
    have hj := Option.some.inj hj
    subst hj
    rw [if_pos rfl]
    exact asg_at h hm (by simp)
  · have hl : j < xs.length := by omega
    have hne : k ≠ m := fun q => by
      subst q
      have h1 := (List.getElem?_eq_some_iff.mp hj)
      have h2 := (List.getElem?_eq_some_iff.mp hm)
      exact absurd (h1.2.trans h2.2.symm) (List.pairwise_iff_getElem.mp h j xs.length h1.1 h2.1 hl)
    rw [if_neg hne, asg_at h hj (v := xs[j]) (by rw [List.getElem?_append_left hl]; exact List.getElem?_eq_getElem hl), asg_at h hj (List.getElem?_eq_getElem hl)]
structure Part (c : Cat) (i : Nat) (xs : List Int) : Prop where
  len : xs.length = i
  th : ∀ m ∈ c.mods.take i, asg c xs m ∈ c.there m
  co : ∀ p ∈ c.pairs, p.1 ∈ c.mods.take i → p.2 ∈ c.mods.take i → holds (winAt (c.wins p.1 p.2) (asg c xs p.1)) (asg c xs p.2) = true
theorem pairsOf_nil {c : Cat} {dom : List Nm} {x : Nm → Int} : PairsOf c dom x = [] ↔ ∀ p ∈ c.pairs, p.1 ∈ dom → p.2 ∈ dom → holds (winAt (c.wins p.1 p.2) (x p.1)) (x p.2) = true := by
  unfold PairsOf
  rw [List.filter_eq_nil_iff]
  constructor
  · intro h p hp h1 h2
    have := h p hp
    simpa [h1, h2] using this
  · intro h p hp q
    simp only [Bool.and_eq_true, decide_eq_true_eq, Bool.not_eq_true'] at q
    rw [h p hp q.1.1 q.1.2] at q
    exact nomatch q.2
def okV (c : Cat) (i : Nat) (m : Nm) (xs : List Int) (v : Int) : Bool := decide (PairsOf c (c.mods.take (i + 1)) (setS (asg c xs) m v) = [])
def ext (c : Cat) (i : Nat) (m : Nm) (xs : List Int) : List (List Int) := ((c.there m).filter (okV c i m xs)).map fun v => xs ++ [v]
def stsL (c : Cat) : Nat → List (List Int)
  | 0 => [[]]
  | i + 1 => match c.mods[i]? with
    | none => stsL c i
    | some m => (stsL c i).flatMap (ext c i m)
theorem stsL_succ {c : Cat} {i : Nat} {m : Nm} (h : c.mods[i]? = some m) : stsL c (i + 1) = (stsL c i).flatMap (ext c i m) := by
  show (match c.mods[i]? with | none => stsL c i | some m => (stsL c i).flatMap (ext c i m)) = _
  rw [h]
theorem stsL_len {c : Cat} (wf : c.WF) : ∀ i, (stsL c i).length ≤ 16 ^ i
  | 0 => Nat.le_refl _
  | i + 1 => by
    have ih := stsL_len wf i
    have hp : 16 ^ (i + 1) = 16 ^ i * 16 := Nat.pow_succ ..
    cases e : c.mods[i]? with
    | none =>
      have : stsL c (i + 1) = stsL c i := by
        show (match c.mods[i]? with | none => stsL c i | some m => (stsL c i).flatMap (ext c i m)) = _
        rw [e]
      rw [this]
      omega
    | some m =>
      rw [stsL_succ e]
      refine Nat.le_trans (flat_len (ext c i m) 16 _ fun xs _ => ?_) ?_
      · unfold ext
        rw [List.length_map]
        have h1 : ((c.there m).filter (okV c i m xs)).length ≤ (c.there m).length := List.length_filter_le ..
        have h2 := c.there_len m
        have h3 := wf.c16 m (List.mem_of_getElem? e)
        omega
      · rw [hp]
        exact Nat.mul_le_mul_right _ ih
theorem stsL_part {c : Cat} (wf : c.WF) : ∀ i, i ≤ c.mods.length → ∀ ys, ys ∈ stsL c i ↔ Part c i ys
  | 0, _, ys => by
    constructor
    · intro h
      have : ys = [] := by simpa [stsL] using h
      subst this
      exact ⟨rfl, fun m hm => by simp at hm, fun p _ hp => by simp at hp⟩
    · intro h
      have : ys = [] := List.eq_nil_of_length_eq_zero h.len
      subst this
      exact List.mem_singleton.mpr rfl
  | i + 1, hi, ys => by
    have ih := stsL_part wf i (by omega)
    have em : c.mods[i]? = some c.mods[i] := List.getElem?_eq_getElem (by omega)
    generalize c.mods[i] = m at em
    rw [stsL_succ em, List.mem_flatMap]
    have tk : c.mods.take (i + 1) = c.mods.take i ++ [m] := take_snoc em
    have hsub : ∀ k ∈ c.mods.take i, k ∈ c.mods.take (i + 1) := fun k hk => by rw [tk]; exact List.mem_append_left _ hk
    have hmi : m ∈ c.mods.take (i + 1) := by rw [tk]; simp
    have hne : ∀ k ∈ c.mods.take i, k ≠ m := fun k hk q => nin_take wf.nd em (q ▸ hk)
    have old : ∀ (xs : List Int) (v : Int), xs.length = i → ∀ k ∈ c.mods.take i, asg c (xs ++ [v]) k = asg c xs k := fun xs v hl k hk => by
      rw [asg_snoc wf.nd (by rw [hl]; exact em) (by rw [hl]; exact hsub k hk)]
      unfold setS
      rw [if_neg (hne k hk)]
    have new : ∀ (xs : List Int) (v : Int), xs.length = i → asg c (xs ++ [v]) m = v := fun xs v hl => by
      rw [asg_snoc wf.nd (by rw [hl]; exact em) (by rw [hl]; exact hmi)]
      unfold setS
      rw [if_pos rfl]
    constructor
    · rintro ⟨xs, hx, hy⟩
      have px := (ih xs).mp hx
      unfold ext at hy
      obtain ⟨v, hv, rfl⟩ := List.mem_map.mp hy
      obtain ⟨hv1, hv2⟩ := List.mem_filter.mp hv
      have hv2 := pairsOf_nil.mp (of_decide_eq_true hv2)
      refine ⟨by rw [List.length_append, px.len]; rfl, fun k hk => ?_, fun p hp h1 h2 => ?_⟩
      · rw [tk] at hk
        rcases List.mem_append.mp hk with hk | hk
        · rw [old xs v px.len k hk]; exact px.th k hk
        · rw [List.mem_singleton.mp hk, new xs v px.len]; exact hv1
      · have := hv2 p hp h1 h2
        rwa [asg_snoc wf.nd (by rw [px.len]; exact em) (by rw [px.len]; exact h1), asg_snoc wf.nd (by rw [px.len]; exact em) (by rw [px.len]; exact h2)]
    · intro py
      have hl := py.len
      obtain ⟨xs0, v, e⟩ : ∃ xs0 v, ys = xs0 ++ [v] := by
        rcases List.eq_nil_or_concat ys with q | ⟨l, b, q⟩
        · rw [q] at hl; cases hl
        · exact ⟨l, b, by rw [q, List.concat_eq_append]⟩
      have hxl : xs0.length = i := by rw [e, List.length_append] at hl; exact Nat.succ.inj hl
      subst e
      refine ⟨xs0, (ih xs0).mpr ⟨hxl, fun k hk => ?_, fun p hp h1 h2 => ?_⟩, ?_⟩
      · rw [← old xs0 v hxl k hk]; exact py.th k (hsub k hk)
      · have := py.co p hp (hsub _ h1) (hsub _ h2)
        rwa [old xs0 v hxl _ h1, old xs0 v hxl _ h2] at this
      · unfold ext
        refine List.mem_map.mpr ⟨v, List.mem_filter.mpr ⟨?_, decide_eq_true (pairsOf_nil.mpr fun p hp h1 h2 => ?_)⟩, rfl⟩
        · have := py.th m hmi
          rwa [new xs0 v hxl] at this
        · have := py.co p hp h1 h2
          rwa [asg_snoc wf.nd (by rw [hxl]; exact em) (by rw [hxl]; exact h1), asg_snoc wf.nd (by rw [hxl]; exact em) (by rw [hxl]; exact h2)] at this
theorem part_cons {c : Cat} (wf : c.WF) {ys : List Int} (p : Part c c.mods.length ys) : c.Cons (asg c ys) := by
  have tk : c.mods.take c.mods.length = c.mods := List.take_length
  exact ⟨fun m hm => p.th m (by rw [tk]; exact hm), fun m hm u hu => p.co (m, u) (mem_pairs.mpr ⟨hm, hu⟩) (by rw [tk]; exact hm) (by rw [tk]; exact wf.sub m hm u hu)⟩
theorem asg_map {c : Cat} (h : c.mods.Nodup) (x : Nm → Int) {m : Nm} (hm : m ∈ c.mods) : asg c (c.mods.map x) m = x m := by
  obtain ⟨k, hk⟩ := List.getElem?_of_mem hm
  exact asg_at h hk (by rw [List.getElem?_map, hk]; rfl)
theorem cons_part {c : Cat} (wf : c.WF) {x : Nm → Int} (h : c.Cons x) : Part c c.mods.length (c.mods.map x) := by
  refine ⟨List.length_map .., fun m hm => ?_, fun p hp _ _ => ?_⟩
  · have hm := List.mem_of_mem_take hm
    rw [asg_map wf.nd x hm]
    exact h.1 m hm
  · obtain ⟨h1, h2⟩ := mem_pairs.mp (show (p.1, p.2) ∈ c.pairs from hp)
    rw [asg_map wf.nd x h1, asg_map wf.nd x (wf.sub _ h1 _ h2)]
    exact h.2 _ h1 _ h2
abbrev allS (c : Cat) : List (List Int) := stsL c c.mods.length
theorem allS_nil {c : Cat} (wf : c.WF) : allS c = [] ↔ ∀ x, ¬ c.Cons x := by
  constructor
  · intro e x hx
    have := (stsL_part wf _ (Nat.le_refl _) _).mpr (cons_part wf hx)
    have e : stsL c c.mods.length = [] := e
    rw [e] at this
    cases this
  · intro h
    cases e : allS c with
    | nil => rfl
    | cons ys l =>
      have : ys ∈ stsL c c.mods.length := by
        show ys ∈ allS c
        rw [e]
        exact List.mem_cons_self
      exact absurd (part_cons wf ((stsL_part wf _ (Nat.le_refl _) _).mp this)) (h _)
theorem allS_len {c : Cat} {xs : List Int} (wf : c.WF) (h : xs ∈ allS c) : xs.length = c.mods.length := ((stsL_part wf _ (Nat.le_refl _) _).mp h).len
/-- the least (sg = 1), or the greatest (sg = -1), is the bound of all states -/
theorem bound_eq {c : Cat} (wf : c.WF) {g : Nm → Int} {sg : Int} (hs : sg = 1 ∨ sg = -1) (hg : c.Cons g) (hle : ∀ x, c.Cons x → ∀ m ∈ c.mods, sg * g m ≤ sg * x m) {ys : List Int} (hl : ys.length = c.mods.length)
    (hb : ∀ (k : Nat) y, ys[k]? = some y → (∃ xs ∈ allS c, xs[k]? = some y) ∧ ∀ xs ∈ allS c, ∀ z, xs[k]? = some z → sg * y ≤ sg * z) : ys = c.mods.map g := by
  apply List.ext_getElem?
  intro k
  by_cases hk : k < c.mods.length
  · have em : c.mods[k]? = some c.mods[k] := List.getElem?_eq_getElem hk
    generalize c.mods[k] = m at em
    have ey : ys[k]? = some ys[k] := List.getElem?_eq_getElem (by omega)
    generalize ys[k] = y at ey
    obtain ⟨⟨xs, hx, hxk⟩, hmin⟩ := hb k y ey
    have h1 := hmin _ ((stsL_part wf _ (Nat.le_refl _) _).mpr (cons_part wf hg)) (g m) (by rw [List.getElem?_map, em]; rfl)
    have h2 := hle _ (part_cons wf ((stsL_part wf _ (Nat.le_refl _) _).mp hx)) m (List.mem_of_getElem? em)
    rw [asg_at wf.nd em hxk] at h2
    rw [ey, List.getElem?_map, em]
    have : y = g m := by rcases hs with rfl | rfl <;> omega
    rw [this]
    rfl
  · rw [List.getElem?_eq_none (by omega), List.getElem?_eq_none (by rw [List.length_map]; omega)]
theorem someK_map {c : Cat} (g : Nm → Int) : someK c (c.mods.map g) = stK c g := by
  unfold someK stK
  generalize c.mods = l
  induction l with
  | nil => rfl
  | cons a l ih => rw [List.map_cons, List.zip_cons_cons, List.map_cons, ih, List.map_cons]
end Gs
/-! ## GsL10 -/
namespace Gs
open PySem PySem.Spec PyProof.Rows L2
section
variable {P : Program} {w : World} {K : PySem.W.Frag} {mg : Str → Option Value} {base : Heap}
def domK (dom : List Nm) (x : Nm → Int) : List (Key × V) := dom.map fun m => (.inr m, .int (x m))
theorem put_dom {dom : List Nm} {f : Nm → Int} {m : Nm} {v : Int} (hm : m ∈ dom) : putK (domK dom f) (.inr m) (.int v) = domK dom (setS f m v) := by
  unfold putK
  have e : ((domK dom f).any fun kv => decide (kv.1 = .inr m)) = true := List.any_eq_true.mpr ⟨(.inr m, .int (f m)), List.mem_map.mpr ⟨m, hm, rfl⟩, by simp⟩
  rw [if_pos e]
  unfold domK setS
  rw [List.map_map]
  refine List.map_congr_left fun k _ => ?_
  show (if (Sum.inr k : Key) = Sum.inr m then ((Sum.inr k : Key), V.int v) else (.inr k, .int (f k))) = (.inr k, .int (if k = m then v else f k))
  by_cases hk : k = m
  · rw [if_pos hk, hk, if_pos rfl]
  · rw [if_neg hk, if_neg fun z => hk (inr_inj _ _ z)]
theorem put_dom_new {dom : List Nm} {f : Nm → Int} {m : Nm} {v : Int} (hm : m ∉ dom) : putK (domK dom f) (.inr m) (.int v) = domK (dom ++ [m]) (setS f m v) := by
  rw [putK_app]
  · unfold domK setS
    rw [List.map_append]
    refine congr (congrArg _ (List.map_congr_left fun k hk => ?_)) (by simp)
    rw [if_neg fun e : k = m => hm (e ▸ hk)]
  · unfold domK
    rw [List.map_map]
    intro h
    obtain ⟨k, hk, e⟩ := List.mem_map.mp h
    exact hm (inr_inj _ _ e ▸ hk)
theorem setS_set (f : Nm → Int) (m : Nm) (v u : Int) : setS (setS f m v) m u = setS f m u := by
  funext k
  unfold setS
  by_cases e : k = m
  · rw [if_pos e, if_pos e]
  · rw [if_neg e, if_neg e, if_neg e]
theorem someK_dom {c : Cat} (h : c.mods.Nodup) {xs : List Int} (hl : xs.length ≤ c.mods.length) : someK c xs = domK (c.mods.take xs.length) (asg c xs) := by
  unfold someK domK
  apply List.ext_getElem?
  intro k
  rw [List.getElem?_map, List.getElem?_map]
  by_cases hk : k < xs.length
  · have em : c.mods[k]? = some c.mods[k] := List.getElem?_eq_getElem (by omega)
    have ex : xs[k]? = some xs[k] := List.getElem?_eq_getElem hk
    have ez : (c.mods.zip xs)[k]? = some (c.mods[k], xs[k]) := by rw [List.getElem?_zip_eq_some]; exact ⟨em, ex⟩
    rw [List.getElem?_take_of_lt hk, em, ez]
    show some ((Sum.inr c.mods[k] : Key), V.int xs[k]) = some (.inr c.mods[k], .int (asg c xs c.mods[k]))
    rw [asg_at h em ex]
  · rw [List.getElem?_eq_none (by rw [List.length_zip]; omega), List.getElem?_eq_none (by rw [List.length_take]; omega)]
    rfl
theorem ok_l_states (T : Txt K mg) : FnOk P w K mg base CX0 3 T.d_l_states.f T.d_l_states.fd ["_law_world_here"] (fun vs H Q _ => ∃ (aw : Ad) (c : Cat), vs = [.ref (aw .wp)] ∧ WorAt H aw c ∧ c.WF ∧ c.mods.length ≤ 4 ∧ (∀ m ∈ c.mods, NmOk m) ∧
    ∀ H' l refs, Sm H H' → H l = none → H' l = some (.lst refs) → Paired (IntsAt H') refs (allS c) → Q (.ref l) H') := by
  have nd := sc_l_states.nd
  refine T.d_l_states.F.ok sc_l_states (fun vs H Q E h => ?_) (fun cdv A outer s H vs Q E hr h => ?_)
  · obtain ⟨aw, c, rfl, _⟩ := h; rfl
  · obtain ⟨aw, c, rfl, h, wf, h4, nm, q⟩ := h
    have hu := hu_of hr
    have hu64 := hu64_of hr
    have hs : sizeLine = 16777216 := sizeLine_eq
    refine ⟨_, (pss_cons (ps_set (i := 1) nd rfl (.inl rfl) (pe_lst (pa_cons (pe_tup pa_nil) pa_nil)))
      (pss_cons (ps_for PassesOwn.never rfl (pi_enum (by rfl) T.b_enumerate (pa_cons (pe_dget hu (pv 0) pe_str (fun _ _ => rfl)) pa_nil)) (pg_tup rfl (pgs_cons (pg_name (i := 2) nd rfl (.inl rfl)) (pgs_cons (pg_name (i := 3) nd rfl (.inl rfl)) pgs_nil)))
      (pss_cons (ps_set (i := 4) nd rfl (.inl rfl) (pe_lst pa_nil))
      (pss_cons (ps_for PassesOwn.never rfl (pi_listK (K := K) rfl (pv 1)) (pg_name (i := 5) nd rfl (.inl rfl))
      (pss_cons (ps_set (i := 6) nd rfl (.inl rfl) (pe_callTy (T := "dict") (call_dictP rfl) (by rfl) T.b_dict (by decide +kernel) (pa_cons (pe_listZip rfl (by rfl) T.b_list (by rfl) T.b_zip (pa_cons (pe_dget hu (pv 0) pe_str (fun _ _ => rfl)) (pa_cons (pv 5) pa_nil))) pa_nil)))
      (pss_one (ps_for PassesOwn.never rfl (pi_listK (K := K) rfl (pe_dget hu (pe_dget hu (pv 0) pe_str (fun _ _ => rfl)) (pv 3) (fun _ _ => rfl))) (pg_name (i := 7) nd rfl (.inl rfl))
      (pss_cons (ps_dput hu (pv 6) (pv 3) (pv 7) rfl)
      (pss_one (ps_if (pt_cmpR (op_eqD hu64) (pcall (ok_l_conflicts T) T.d_l_conflicts.M (hr.mono (by decide)) (pa_cons (pv 0) (pa_cons (pv 6) pa_nil))) (pe_lst pa_nil) (nomark _)) (pss_one (ps_expr (pe_bmK (K := K) rfl PySem.F.plainAttrs_list PySem.F.slot_list_append PySem.F.type_list_append mt_append (pv 4) (pa_cons (pe_op (r := rCatA K) op_catA (pv 5) (pe_tup (pa_cons (pv 7) pa_nil))) pa_nil)))) pss_nil)))))))
      (pss_one (ps_set (i := 1) nd rfl (.inl rfl) (pv 4))))))
      (pss_one (ps_ret (pv 1))))), ?_⟩
    refine ⟨(by show 0 ≤ sizeLine; omega), fun t0 nt0 => ?_⟩
    have s0 : Sm H (upd H t0 (.tup [])) := Sm.rf.up nt0
    refine ⟨(by show 1 ≤ sizeLine; omega), fun F nF => ?_⟩
    have s1 : Sm H (upd (upd H t0 (.tup [])) F (.lst [.ref t0])) := s0.up nF
    have ht1 : (upd (upd H t0 (.tup [])) F (.lst [.ref t0])) t0 = some (.tup []) := by rw [upd_ne (ne_of_none upd_same nF)]; exact upd_same
    have hF1 : (upd (upd H t0 (.tup [])) F (.lst [.ref t0])) F = some (.lst [.ref t0]) := upd_same
    have nF0 : H F = none := s0.un nF
    generalize (upd (upd H t0 (.tup [])) F (.lst [.ref t0])) = H1 at s1 ht1 hF1
    have h1 := h.sm s1
    refine ⟨_, rfl, aw .wp, _, rfl, h1.g_ml, aw .ml, _, rfl, SqL.of h1.ml, ?_⟩
    have wk := walk_enum (K := K) (a := aw .ml) (xs := c.mods.map V.str)
    rw [List.length_map] at wk
    refine for_it wk (fun i σ H' => Sm H H' ∧ ∃ F refs x2 x3 x4 x5 x6 x7, σ = [some (.ref (aw .wp)), some (.ref F), x2, x3, x4, x5, x6, x7] ∧ H F = none ∧ H' F = some (.lst refs) ∧ Paired (IntsAt H') refs (stsL c i)) ⟨s1, F, _, _, _, _, _, _, _, rfl, nF0, hF1, .cons ⟨t0, rfl, ht1⟩ .nil⟩ (fun i σ H' _ p => SqL.of (p.1 _ _ h.ml)) (fun i x σ H2 H3 hi p y => ?_) (fun σ H2 p => ?_)
    · obtain ⟨s2, F, refs, x2, x3, x4, x5, x6, x7, rfl, nF0, hF, hFp⟩ := p
      obtain ⟨Tp, a1, b1, rfl, nT, rfl, ea, eb⟩ := y
      cases ea
      have em : c.mods[i]? = some c.mods[i] := List.getElem?_eq_getElem hi
      generalize c.mods[i] = m at em
      have eb := pick1 em eb
      subst eb
      have hm := List.mem_of_getElem? em
      have s3 : Sm H2 (upd H2 Tp (.tup [.int (i : Nat), .str m])) := Sm.rf.up nT
      refine ⟨Tp, _, rfl, SqT.of upd_same, rfl, _, _, rfl, _, _, rfl, rfl, ?_⟩
      have hF3 := s3 _ _ hF
      have hFp3 := paired_mono hFp fun _ _ z => IntsAt.sm z s3
      have s23 := s2.tr s3
      generalize (upd H2 Tp (.tup [.int (i : Nat), .str m])) = H3 at *
      refine ⟨(by show 0 ≤ sizeLine; omega), fun G nG => ?_⟩
      have s4 : Sm H3 (upd H3 G (.lst [])) := Sm.rf.up nG
      have nG0 : H G = none := s23.un nG
      have nFG : F ≠ G := ne_of_none hF3 nG
      refine ⟨_, rfl, F, rfl, ⟨_, SqL.of (s4 _ _ hF3)⟩, ?_⟩
      have wk2 := walk_list (K := K) (a := F) (xs := refs)
      have hrl : refs.length = (stsL c i).length := hFp.length
      have hsl : (stsL c i).length ≤ 4096 := Nat.le_trans (stsL_len wf i) (Nat.le_trans (Nat.pow_le_pow_right (by decide) (show i ≤ 3 by omega)) (by decide))
      rw [hrl] at wk2
      refine for_it wk2 (fun j σ H' => Sm H H' ∧ (∃ x2 x5 x6 x7, σ = [some (.ref (aw .wp)), some (.ref F), x2, some (.str m), some (.ref G), x5, x6, x7]) ∧ H' F = some (.lst refs) ∧ Paired (IntsAt H') refs (stsL c i) ∧ ∃ ls, H' G = some (.lst ls) ∧ Paired (IntsAt H') ls (((stsL c i).take j).flatMap (ext c i m))) ⟨s23.tr s4, ⟨_, _, _, _, rfl⟩, s4 _ _ hF3, paired_mono hFp3 (fun _ _ z => z.sm s4), [], upd_same, .nil⟩ (fun j σ H' _ p => SqL.of p.2.2.1) (fun j x σ H5 H6 hj p y => ?_) (fun σ H5 p => ?_)
      · obtain ⟨s5, ⟨x2, x5, x6, x7, rfl⟩, hF, hFp, ls, hG, hGp⟩ := p
        obtain ⟨rfl, hx⟩ := y
        obtain ⟨xs, hxs, a, rfl, ha⟩ := LiI.paired_get hFp hx
        have hxm := List.mem_of_getElem? hxs
        have px := (stsL_part wf i (by omega) xs).mp hxm
        have h5 := h.sm s5
        have efl : ((stsL c i).take (j + 1)).flatMap (ext c i m) = ((stsL c i).take j).flatMap (ext c i m) ++ ext c i m xs := flatMap_take hxs
        have lfl : (((stsL c i).take j).flatMap (ext c i m)).length ≤ 65536 := by
          refine Nat.le_trans (flat_len (ext c i m) 16 _ fun ys _ => ?_) ?_
          · unfold ext
            rw [List.length_map]
            have h1 : ((c.there m).filter (okV c i m ys)).length ≤ (c.there m).length := List.length_filter_le ..
            have h2 := c.there_len m
            have h3 := wf.c16 m hm
            omega
          · have : ((stsL c i).take j).length ≤ (stsL c i).length := by rw [List.length_take]; omega
            omega
        refine ⟨_, rfl, aw .wp, _, rfl, h5.g_ml, _, rfl, aw .ml, a, _, _, rfl, SqL.of h5.ml, SqT.of ha, fun H7 p1 ts s7 np1 nts npt hp1 pr => ?_⟩
        have s7 : Sm H6 H7 := s7
        refine ⟨p1, ts, someK c xs, rfl, SqL.of hp1, ?_, fun p np => ?_⟩
        · rw [List.zip_map] at pr
          unfold someK
          exact paired_map2 (G := fun (p : Addr) (kv : Key × V) => SqT K H7 p [kV kv.1, kv.2]) (g := fun q : Nm × Int => ((.inr q.1 : Key), V.int q.2)) (R := fun (t : Addr) (q : V × V) => H7 t = some (.tup [q.1, q.2])) (f := Prod.map V.str V.int) (fun a d e => SqT.of (show H7 a = some (.tup [V.str d.1, V.int d.2]) from e)) pr
        · rw [mergeK_nd (by rw [List.nil_append]; exact zip_keys wf.nd xs), List.nil_append, someK_dom wf.nd (by rw [px.len]; omega), px.len]
          have s8 : Sm H6 (upd H7 p (.dK (domK (c.mods.take i) (asg c xs)))) := s7.up np
          have np0 : H p = none := (s5.tr s7).un np
          have hG8 := s8 _ _ hG
          have hF8 := s8 _ _ hF
          have ha8 := s8 _ _ ha
          have hGp8 := paired_mono hGp fun _ _ z => IntsAt.sm z s8
          have hFp8 := paired_mono hFp fun _ _ z => IntsAt.sm z s8
          have hp8 : (upd H7 p (.dK (domK (c.mods.take i) (asg c xs)))) p = some (.dK (domK (c.mods.take i) (asg c xs))) := upd_same
          have s58 := s5.tr s8
          have npG : p ≠ G := (ne_of_none (s7 _ _ hG) np).symm
          have npF : p ≠ F := (ne_of_none (s7 _ _ hF) np).symm
          generalize (upd H7 p (.dK (domK (c.mods.take i) (asg c xs)))) = H8 at *
          have h8 := h.sm s58
          refine ⟨_, rfl, aw .wp, _, rfl, h8.g_td, _, rfl, aw .td, _, rfl, h8.g_ta wf hm, aw (.ta m), rfl, ⟨_, SqL.of (h8.ta m hm)⟩, ?_⟩
          have wk3 := walk_list (K := K) (a := aw (.ta m)) (xs := (c.there m).map V.int)
          rw [List.length_map] at wk3
          refine for_it wk3 (fun k σ H' => Sm H H' ∧ (∃ x2 x7, σ = [some (.ref (aw .wp)), some (.ref F), x2, some (.str m), some (.ref G), some (.ref a), some (.ref p), x7]) ∧ H' F = some (.lst refs) ∧ Paired (IntsAt H') refs (stsL c i) ∧ H' a = some (.tup (xs.map V.int)) ∧ (∃ kvs, H' p = some (.dK kvs) ∧ kvs.length ≤ 12 ∧ ∀ v, putK kvs (.inr m) (.int v) = domK (c.mods.take (i + 1)) (setS (asg c xs) m v)) ∧
            ∃ ls, H' G = some (.lst ls) ∧ Paired (IntsAt H') ls (((stsL c i).take j).flatMap (ext c i m) ++ (((c.there m).take k).filter (okV c i m xs)).map fun v => xs ++ [v])) ⟨s58, ⟨_, _, rfl⟩, hF8, hFp8, ha8, ⟨_, hp8, by unfold domK; rw [List.length_map, List.length_take]; omega, fun v => ?_⟩, ls, hG8, by rw [List.take_zero, List.filter_nil, List.map_nil, List.append_nil]; exact hGp8⟩ (fun k σ H' _ p => SqL.of (p.1 _ _ (h.ta m hm))) (fun k x σ H9 H10 hk p0 y => ?_) (fun σ H9 p0 => ?_)
          · rw [put_dom_new (nin_take wf.nd em), take_snoc em]
          · obtain ⟨s9, ⟨x2, x7, rfl⟩, hF, hFp, ha, ⟨kvs, hp, hkl, hput⟩, ls, hG, hGp⟩ := p0
            obtain ⟨rfl, hx⟩ := y
            have ev : (c.there m)[k]? = some (c.there m)[k] := List.getElem?_eq_getElem hk
            generalize (c.there m)[k] = v at ev
            have hx := pick1 ev hx
            subst hx
            have hv := List.mem_of_getElem? ev
            have hv0 := (Cat.mem_there.mp hv).1
            refine ⟨_, rfl, _, rfl, _, rfl, p, _, rfl, DPut.k (k := .inr m) hp (by omega), ?_⟩
            rw [hput]
            have sA : Sm H (upd H10 p (.dK (domK (c.mods.take (i + 1)) (setS (asg c xs) m v)))) := s9.set np0
            have kA : ∀ b o, H10 b = some o → b ≠ p → (upd H10 p (.dK (domK (c.mods.take (i + 1)) (setS (asg c xs) m v)))) b = some o := fun b o e n => by rw [upd_ne n]; exact e
            have iA : ∀ u ys, IntsAt H10 u ys → IntsAt (upd H10 p (.dK (domK (c.mods.take (i + 1)) (setS (asg c xs) m v)))) u ys := fun u ys ⟨b, e1, e2⟩ => ⟨b, e1, kA _ _ e2 (ne_of e2 hp (fun z => nomatch z))⟩
            have hpA : (upd H10 p (.dK (domK (c.mods.take (i + 1)) (setS (asg c xs) m v)))) p = some (.dK (domK (c.mods.take (i + 1)) (setS (asg c xs) m v))) := upd_same
            have hFA := kA _ _ hF npF.symm
            have hGA := kA _ _ hG npG.symm
            have haA := kA _ _ ha (ne_of ha hp (fun z => nomatch z))
            have hFpA := paired_mono hFp iA
            have hGpA := paired_mono hGp iA
            generalize (upd H10 p (.dK (domK (c.mods.take (i + 1)) (setS (asg c xs) m v)))) = HA at *
            have hdn : (c.mods.take (i + 1)).Nodup := wf.nd.sublist (List.take_sublist _ _)
            have hdom : ∀ z ∈ c.mods.take (i + 1), z ∈ c.mods ∧ 0 ≤ setS (asg c xs) m v z ∧ setS (asg c xs) m v z < (c.cnt z : Nat) := fun z hz => by
              refine ⟨List.mem_of_mem_take hz, ?_⟩
              rw [take_snoc em] at hz
              unfold setS
              by_cases e : z = m
              · rw [if_pos e, e]; exact hv0
              · rw [if_neg e]
                rcases List.mem_append.mp hz with hz | hz
                · exact (Cat.mem_there.mp (px.th z hz)).1
                · exact absurd (List.mem_singleton.mp hz) e
            refine ⟨_, rfl, _, rfl, aw, c, p, c.mods.take (i + 1), setS (asg c xs) m v, rfl, h.sm sA, wf, hpA, hdn, hdom, fun HB l sB nl hl => ?_⟩
            obtain ⟨pv, hpv, hpp⟩ := hl
            refine ⟨(by show 0 ≤ sizeLine; omega), fun e0 ne0 => ?_⟩
            have sC : Sm HB (upd HB e0 (.lst [])) := Sm.rf.up ne0
            have hnm : ∀ z ∈ PairsOf c (c.mods.take (i + 1)) (setS (asg c xs) m v), NmOk z.1 ∧ NmOk z.2 := fun z hz => by
              have hz := mem_pairs.mp (List.mem_filter.mp hz).1
              exact ⟨nm _ hz.1, nm _ (wf.sub _ hz.1 _ hz.2)⟩
            refine ⟨_, _, .lst (SqL.of (sC _ _ hpv)) (dp_prs_all (paired_mono hpp fun _ _ z => z.sm sC)), dp_nil upd_same, (lay_prs hnm).sh, lay_nil.sh, _, rfl, ?_⟩
            rw [eqv_nil]
            have sAC := sB.tr sC
            have sHC := sA.tr sAC
            have hGC := sAC _ _ hGA
            have hFC := sAC _ _ hFA
            have haC := sAC _ _ haA
            have hpC := sAC _ _ hpA
            have hGpC := paired_mono hGpA fun _ _ z => IntsAt.sm z sAC
            have hFpC := paired_mono hFpA fun _ _ z => IntsAt.sm z sAC
            generalize (upd HB e0 (.lst [])) = HC at *
            have eok : okV c i m xs v = decide (PairsOf c (c.mods.take (i + 1)) (setS (asg c xs) m v) = []) := rfl
            have kput : ∀ u, putK (domK (c.mods.take (i + 1)) (setS (asg c xs) m v)) (.inr m) (.int u) = domK (c.mods.take (i + 1)) (setS (asg c xs) m u) := fun u => by
              rw [put_dom (by rw [take_snoc em]; simp), setS_set]
            have kln : (domK (c.mods.take (i + 1)) (setS (asg c xs) m v)).length ≤ 12 := by unfold domK; rw [List.length_map, List.length_take]; omega
            rw [take_snoc ev, List.filter_append]
            have lsl : ls.length ≤ 70000 := by
              have e1 := hGp.length
              rw [List.length_append, List.length_map] at e1
              have e2 : (((c.there m).take k).filter (okV c i m xs)).length ≤ ((c.there m).take k).length := List.length_filter_le ..
              have e3 : ((c.there m).take k).length ≤ (c.there m).length := by rw [List.length_take]; omega
              have e4 := c.there_len m
              have e5 := wf.c16 m hm
              omega
            by_cases hno : PairsOf c (c.mods.take (i + 1)) (setS (asg c xs) m v) = []
            · refine ifT (by rw [hno]; rfl) ?_
              have ef : [v].filter (okV c i m xs) = [v] := by rw [List.filter_cons, if_pos (by rw [eok, decT hno]), List.filter_nil]
              rw [ef, List.map_append, ← List.append_assoc]
              have fin : ∀ HD b, Sm HC HD → HD b = some (.tup ((xs ++ [v]).map V.int)) → HD G = some (.lst ls) ∧ ls.length < sizeLine ∧ Sm H (upd HD G (.lst (ls ++ [.ref b]))) ∧ (upd HD G (.lst (ls ++ [.ref b]))) F = some (.lst refs) ∧ Paired (IntsAt (upd HD G (.lst (ls ++ [.ref b])))) refs (stsL c i) ∧ (upd HD G (.lst (ls ++ [.ref b]))) a = some (.tup (xs.map V.int)) ∧ (upd HD G (.lst (ls ++ [.ref b]))) p = some (.dK (domK (c.mods.take (i + 1)) (setS (asg c xs) m v))) ∧
                  Paired (IntsAt (upd HD G (.lst (ls ++ [.ref b])))) (ls ++ [.ref b]) ((((stsL c i).take j).flatMap (ext c i m) ++ (((c.there m).take k).filter (okV c i m xs)).map fun v => xs ++ [v]) ++ [xs ++ [v]]) := fun HD b sD hb => by
                have hGD := sD _ _ hGC
                have iD : ∀ u ys, IntsAt HC u ys → IntsAt (upd HD G (.lst (ls ++ [.ref b]))) u ys := fun u ys ⟨b2, e1, e2⟩ => ⟨b2, e1, by rw [upd_ne (ne_of (sD _ _ e2) hGD (fun z => nomatch z))]; exact sD _ _ e2⟩
                refine ⟨hGD, by omega, (sHC.tr sD).set nG0, by rw [upd_ne nFG]; exact sD _ _ hFC, paired_mono hFpC iD, ?_, by rw [upd_ne npG]; exact sD _ _ hpC, (paired_mono hGpC iD).snoc ⟨b, rfl, ?_⟩⟩
                · rw [upd_ne (ne_of (sD _ _ haC) hGD (fun z => nomatch z))]; exact sD _ _ haC
                · rw [upd_ne (ne_of hb hGD (fun z => nomatch z))]; exact hb
              refine ⟨_, rfl, .inl ⟨rfl, _, .inl (.inl hGC)⟩, _, rfl, _, rfl, (by show 1 ≤ sizeLine; omega), fun b nb => ?_⟩
              have sD : Sm HC (upd HC b (.tup [.int v])) := Sm.rf.up nb
              refine ⟨a, b, xs.map V.int, [.int v], rfl, rfl, SqT.of (sD _ _ haC), SqT.of upd_same, by rw [List.length_map, px.len]; show i + 1 ≤ sizeLine; omega, fun ex => ?_, fun _ e => (nomatch e), fun _ _ b2 nb2 => ?_⟩
              · have ex : xs = [] := List.map_eq_nil_iff.mp ex
                obtain ⟨f1, f2, f3, f4, f5, f6, f7, f8⟩ := fin _ b sD (by rw [ex]; exact upd_same)
                exact ⟨G, ls, _, rfl, rfl, f1, f2, f3, ⟨_, _, rfl⟩, f4, f5, f6, ⟨_, f7, kln, kput⟩, _, upd_same, f8⟩
              · have sE := sD.up (o := .tup (xs.map V.int ++ [V.int v])) nb2
                obtain ⟨f1, f2, f3, f4, f5, f6, f7, f8⟩ := fin _ b2 sE (by rw [List.map_append]; exact upd_same)
                exact ⟨G, ls, _, rfl, rfl, f1, f2, f3, ⟨_, _, rfl⟩, f4, f5, f6, ⟨_, f7, kln, kput⟩, _, upd_same, f8⟩
            · refine ifF (by simp [hno]) ?_
              have ef : [v].filter (okV c i m xs) = [] := by rw [List.filter_cons, if_neg (by rw [eok, decF hno]; simp), List.filter_nil]
              rw [ef, List.append_nil]
              exact ⟨sHC, ⟨_, _, rfl⟩, hFC, hFpC, haC, ⟨_, hpC, kln, kput⟩, ls, hGC, hGpC⟩
          · obtain ⟨s9, ⟨x2, x7, rfl⟩, hF, hFp, ha, _, ls, hG, hGp⟩ := p0
            rw [List.take_length] at hGp
            refine ⟨s9, ⟨_, _, _, _, rfl⟩, hF, hFp, ls, hG, ?_⟩
            rw [efl]
            exact hGp
      · obtain ⟨s5, ⟨x2, x5, x6, x7, rfl⟩, hF, hFp, ls, hG, hGp⟩ := p
        rw [List.take_length, ← stsL_succ em] at hGp
        exact ⟨_, rfl, s5, G, ls, _, _, _, _, _, _, rfl, nG0, hG, hGp⟩
    · obtain ⟨s2, F, refs, x2, x3, x4, x5, x6, x7, rfl, nF0, hF, hFp⟩ := p
      exact ⟨_, rfl, q H2 F refs s2 nF0 hF hFp⟩
end
end Gs
/-! ## GsL11 -/
namespace Gs
open PySem PySem.Spec PyProof.Rows L2
section
variable {P : Program} {w : World} {K : PySem.W.Frag} {mg : Str → Option Value} {base : Heap}
theorem hu65_of {A : Around} {k : Nat} (hr : Room k A) : A.units + 65 < cLine := by
  have := hr.un
  omega
theorem hu2_of {A : Around} {k : Nat} (hr : Room k A) : A.units + 2 < cLine := by
  have := hr.un
  omega
theorem first_range {α : Type} (p : α → Bool) (ws : List α) (d : α) : (((List.range ws.length).filter fun t => p (ws.getD t d)).map (fun t : Nat => (t : Int)) ++ [(ws.length : Int)])[0]? = some ((ws.findIdx p : Nat) : Int) := by
  have e : (((List.range ws.length).filter fun t => p (ws.getD t d)).map (fun t : Nat => (t : Int)) ++ [(ws.length : Int)])[0]? = some (((List.range ws.length).filter fun t => p (ws.getD t d)).head?.elim (ws.length : Int) fun t => (t : Int)) := by
    cases (List.range ws.length).filter fun t => p (ws.getD t d) with
    | nil => rfl
    | cons a l => rfl
  rw [e, List.head?_filter]
  cases q : (List.range ws.length).find? fun t => p (ws.getD t d) with
  | none =>
    rw [List.find?_eq_none] at q
    have : ws.findIdx p = ws.length := by
      rw [List.findIdx_eq_length]
      intro x hx
      obtain ⟨i, hi, rfl⟩ := List.mem_iff_getElem.mp hx
      have := q i (List.mem_range.mpr hi)
      rw [List.getD_eq_getElem?_getD, List.getElem?_eq_getElem hi] at this
      simpa using this
    rw [this]
    rfl
  | some t =>
    obtain ⟨h1, as, bs, h2, h3⟩ := List.find?_eq_some_iff_append.mp q
    have ht : as.length = t := by
      have : (List.range ws.length)[as.length]? = some t := by rw [h2]; simp
      have hl := (List.getElem?_eq_some_iff.mp this).1
      rw [List.length_range] at hl
      rw [List.getElem?_range hl] at this
      exact Option.some.inj this
    have hl : t < ws.length := by
      have : t ∈ List.range ws.length := by rw [h2]; simp
      exact List.mem_range.mp this
    have : ws.findIdx p = t := by
      refine (List.findIdx_eq hl).mpr ⟨?_, fun j hj => ?_⟩
      · rw [List.getD_eq_getElem?_getD, List.getElem?_eq_getElem hl] at h1
        exact h1
      · have hjm : j ∈ as := by
          have e2 : (List.range ws.length)[j]? = as[j]? := by rw [h2, List.getElem?_append_left (by omega)]
          rw [List.getElem?_range (by omega)] at e2
          exact List.mem_of_getElem? e2.symm
        have := h3 j hjm
        rw [List.getD_eq_getElem?_getD, List.getElem?_eq_getElem (by omega)] at this
        simpa using this
    rw [this]
    rfl
theorem sl_listK {X : Cx} {K : PySem.W.Frag} (hK : X.K = K) : SlR X (rSlL K) := by
  subst hK
  exact sl_list
theorem paired_take {α β : Type} {F : α → β → Prop} : ∀ (n : Nat) {xs : List α} {ys : List β}, Paired F xs ys → Paired F (xs.take n) (ys.take n)
  | 0, _, _, _ => .nil
  | _ + 1, _, _, .nil => .nil
  | n + 1, _, _, .cons h t => .cons h (paired_take n t)
def dm0 : Dm := ("", 0)
def keepD (fo : List Dm) (t : Nat) : Bool := decide (0 < (fo.getD t dm0).2) && !decide (fo.getD t dm0 ∈ fo.take t)
theorem keep_uniq (fo : List Dm) : ((List.range fo.length).filter (keepD fo)).map (fun t => fo.getD t dm0) = uniq (pos fo) := by
  have key : ∀ i, i ≤ fo.length → ((List.range i).filter (keepD fo)).map (fun t => fo.getD t dm0) = uniq (pos (fo.take i)) := by
    intro i
    induction i with
    | zero => intro _; rfl
    | succ i ih =>
      intro hi
      have e : fo[i]? = some (fo.getD i dm0) := by rw [List.getD_eq_getElem?_getD, List.getElem?_eq_getElem (by omega)]; rfl
      rw [List.range_succ, List.filter_append, List.map_append, ih (by omega), take_snoc e, uniq_pos_snoc]
      have ek : keepD fo i = (decide (0 < (fo.getD i dm0).2) && !decide (fo.getD i dm0 ∈ fo.take i)) := rfl
      by_cases h1 : 0 < (fo.getD i dm0).2
      · by_cases h2 : fo.getD i dm0 ∈ fo.take i
        · rw [decT h2, Bool.not_true, Bool.and_false] at ek
          rw [List.filter_cons, if_neg (by rw [ek]; exact Bool.false_ne_true), if_neg (fun q => q.2 h2), List.filter_nil, List.map_nil, List.append_nil]
        · rw [decT h1, decF h2] at ek
          rw [List.filter_cons, if_pos (by rw [ek]; rfl), if_pos ⟨h1, h2⟩, List.filter_nil]
          rfl
      · rw [decF h1, Bool.false_and] at ek
        rw [List.filter_cons, if_neg (by rw [ek]; exact Bool.false_ne_true), if_neg (fun q => h1 q.1), List.filter_nil, List.map_nil, List.append_nil]
  have := key fo.length (Nat.le_refl _)
  rwa [List.take_length] at this
/-- the answer: what follows, or None -/
def FolAt (H0 H : Hp) (c : Cat) (v : V) (d : Dm) : Prop := match c.settle d with
  | none => v = .non
  | some w => ∃ p, v = .ref p ∧ H0 p = none ∧ DmsAt H p (c.foll d.1 w)
theorem ok_l_following (T : Txt K mg) : FnOk P w K mg base CX0 1 T.d_l_following.f T.d_l_following.fd ["_law_world_here", "_law_demand"] (fun vs H Q _ => ∃ (aw : Ad) (c : Cat) (a : Addr) (d : Dm), vs = [.ref (aw .wp), .ref a] ∧ WorAt H aw c ∧ c.WF ∧ (∀ m ∈ c.mods, NmOk m) ∧ H a = some (.tup (dmV d)) ∧ d.1 ∈ c.mods ∧
    ∀ H' v, Sm H H' → FolAt H H' c v d → Q v H') := by
  have nd := sc_l_following.nd
  refine T.d_l_following.F.ok sc_l_following (fun vs H Q E h => ?_) (fun cdv A outer s H vs Q E hr h => ?_)
  · obtain ⟨aw, c, a, d, rfl, _⟩ := h; rfl
  · obtain ⟨aw, c, a, d, rfl, h, wf, nm, ha, hm, q⟩ := h
    have hu := hu_of hr
    have hu64 := hu64_of hr
    have hu65 := hu65_of hr
    have hs : sizeLine = 16777216 := sizeLine_eq
    have h12 := wf.few
    have hul : (c.uses d.1).length ≤ 12 := Nat.le_trans ((wf.und _ hm).length_le_of_subset fun x hx => wf.sub _ hm x hx) h12
    have husl : (c.users d.1).length ≤ 12 := Nat.le_trans (List.length_filter_le ..) h12
    have hcl := c.there_len d.1
    have hc16 := wf.c16 _ hm
    have at0' : ∀ {H' : Hp}, Sm H H' → SqT K H' a [.str d.1, .int d.2] := fun s => SqT.of (s _ _ ha)
    refine ⟨_, (pss_cons (ps_set (i := 2) nd rfl (.inr rfl) (pe_lc (own := [("_law_version", 7)]) (g := (gName 7)) rfl nd (pi_listK (K := K) rfl (pe_dget hu (pe_dget hu (pv 0) pe_str (fun _ _ => rfl)) (pe_ix (r := rIxT K) ix_tup (pv 1) pe_int (fun _ _ => rfl)) (fun _ _ => rfl))) (blkOk_by (N := N_l_following) (sc := defScope s_l_following) (by decide +kernel)) (fun _ _ _ _ _ => (pg_name (i := 7) nd rfl (.inl rfl))) (fun _ _ _ _ _ => (pts_one (pt_cmpR op_ge (pv 7) (pe_ix (r := rIxT K) ix_tup (pv 1) pe_int (fun _ _ => rfl)) (nomark _)))) (fun _ _ _ _ _ => (pv 7))))
      (pss_cons (ps_if (pt_cmpR (op_eqD hu64) (pv 2) (pe_lst pa_nil) (nomark _)) (pss_one (ps_ret pe_non)) pss_nil)
      (pss_cons (ps_set (i := 3) nd rfl (.inr rfl) (pe_lc (own := [("_law_used", 8)]) (tt := tYes) (g := (gName 8)) rfl nd (pi_listK (K := K) rfl (pe_dget hu (pe_dget hu (pv 0) pe_str (fun _ _ => rfl)) (pe_ix (r := rIxT K) ix_tup (pv 1) pe_int (fun _ _ => rfl)) (fun _ _ => rfl))) (blkOk_by (N := N_l_following) (sc := defScope s_l_following) (by decide +kernel)) (fun _ _ _ _ _ => (pg_name (i := 8) nd rfl (.inl rfl))) (fun _ _ _ _ _ => pts_nil) (fun _ _ _ _ _ => (pe_tup (pa_cons (pv 8) (pa_cons (pe_ix (r := rIxT K) ix_tup (pe_ix (r := rIxL K) ix_list (pe_dget hu (pe_dget hu (pv 0) pe_str (fun _ _ => rfl)) (pe_tup (pa_cons (pe_ix (r := rIxT K) ix_tup (pv 1) pe_int (fun _ _ => rfl)) (pa_cons (pv 8) pa_nil))) (fun _ _ => rfl)) (pe_ix (r := rIxL K) ix_list (pv 2) pe_int (fun _ _ => rfl)) (fun _ _ => rfl)) pe_int (fun _ _ => rfl)) pa_nil))))))
      (pss_cons (ps_for PassesOwn.never rfl (pi_listK (K := K) rfl (pe_lc (own := [("_law_name_here", 9)]) (g := (gName 9)) rfl nd (pi_listK (K := K) rfl (pe_dget hu (pv 0) pe_str (fun _ _ => rfl))) (blkOk_by (N := N_l_following) (sc := defScope s_l_following) (by decide +kernel)) (fun _ _ _ _ _ => (pg_name (i := 9) nd rfl (.inl rfl))) (fun _ _ _ _ _ => (pts_one (pt_cmpR (r := rIn K false) op_in_seq (pe_ix (r := rIxT K) ix_tup (pv 1) pe_int (fun _ _ => rfl)) (pe_dget hu (pe_dget hu (pv 0) pe_str (fun _ _ => rfl)) (pv 9) (fun _ _ => rfl)) rfl))) (fun _ _ _ _ _ => (pv 9)))) (pg_name (i := 4) nd rfl (.inl rfl))
      (pss_cons (ps_set (i := 5) nd rfl (.inl rfl) (pe_dget hu (pe_dget hu (pv 0) pe_str (fun _ _ => rfl)) (pe_tup (pa_cons (pv 4) (pa_cons (pe_ix (r := rIxT K) ix_tup (pv 1) pe_int (fun _ _ => rfl)) pa_nil))) (fun _ _ => rfl)))
      (pss_cons (ps_setLc (i := 6) (own := [("_law_k", 10), ("_law_window", 12)]) (g := (gTup K 2 (gCons (gName 10) (gCons (gName 12) gNil)))) rfl nd rfl rfl (sw_true rfl rfl rfl (by decide +kernel)) (pi_enum (by rfl) T.b_enumerate (pa_cons (pv 5) pa_nil)) (blkOk_by (N := N_l_following) (sc := defScope s_l_following) (by decide +kernel)) (fun _ _ _ _ _ => (pg_tup rfl (pgs_cons (pg_name (i := 10) nd rfl (.inl rfl)) (pgs_cons (pg_name (i := 12) nd rfl (.inl rfl)) pgs_nil)))) (fun _ _ _ _ _ => (pts_one (PW.pt (pw_or (pt_cmp (pc_isN (pe_ix (r := rIxT K) ix_tup (pv 12) pe_int (fun _ _ => rfl)))) (pw_or1 (pt_cmpR op_ge (pe_ix (r := rIxT K) ix_tup (pv 12) pe_int (fun _ _ => rfl)) (pe_ix (r := rIxL K) ix_list (pv 2) pe_int (fun _ _ => rfl)) (nomark _))))))) (fun _ _ _ _ _ => (pv 10)))
      (pss_one (ps_expr (pe_bmK (K := K) rfl PySem.F.plainAttrs_list PySem.F.slot_list_append PySem.F.type_list_append mt_append (pv 3) (pa_cons (pe_tup (pa_cons (pv 4) (pa_cons (pe_ix (r := rIxL K) ix_list (pe_op op_cat (pv 6) (pe_lst (pa_cons (pe_callB (r := rLenS K) (id := "len") call_lenS (by rfl) T.b_len (by decide +kernel) (pa_cons (pv 5) pa_nil)) pa_nil))) pe_int (fun _ _ => rfl)) pa_nil))) pa_nil)))))))
      (pss_one (ps_ret (pe_lc (own := [("_law_k", 10), ("_law_one", 11)]) (g := (gTup K 2 (gCons (gName 10) (gCons (gName 11) gNil)))) rfl nd (pi_enum (by rfl) T.b_enumerate (pa_cons (pv 3) pa_nil)) (blkOk_by (N := N_l_following) (sc := defScope s_l_following) (by decide +kernel)) (fun _ _ _ _ _ => (pg_tup rfl (pgs_cons (pg_name (i := 10) nd rfl (.inl rfl)) (pgs_cons (pg_name (i := 11) nd rfl (.inl rfl)) pgs_nil)))) (fun _ _ _ _ _ => (pts_one (PW.pt (pw_and (pt_cmpR op_gt (pe_ix (r := rIxT K) ix_tup (pv 11) pe_int (fun _ _ => rfl)) pe_int (nomark _)) (pw_and1 (pt_cmpR (r := rNotInD K) (op_notInD hu65) (pv 11) (pe_slice (sl_listK (K := K) rfl) (pv 3) po_none (po_some (pv 10))) rfl)))))) (fun _ _ _ _ _ => (pv 11))))))))), ?_⟩
    refine ⟨_, rfl, aw .wp, _, rfl, h.g_td, _, rfl, a, _, 0, _, rfl, rfl, at0' Sm.rf, at0, aw .td, _, rfl, h.g_ta wf hm, aw (.ta d.1), rfl, ⟨_, SqL.of (h.ta _ hm)⟩, fun D nD => ?_⟩
    have wk := walk_list (K := K) (a := aw (.ta d.1)) (xs := (c.there d.1).map V.int)
    rw [List.length_map] at wk
    refine lc_sm (c.there d.1) wk (fun i H x H' y => sm_YAt y) nD (fun H' s => SqL.of (s _ _ (h.ta _ hm))) (fun v => decide (d.2 ≤ v)) (fun x y _ => y = .int x) (fun _ _ _ _ _ r => r) (by omega) (fun i t x H2 H3 Pa Pb ht s2 s3 _ y ka kb => ?_) (fun H1 acc s1 hacc hp1 => ?_)
    · obtain ⟨rfl, hx⟩ := y
      have hx := pick1 ht hx
      subst hx
      refine ⟨rfl, _, rfl, _, rfl, a, _, 1, _, rfl, rfl, at0' s3, at1, _, _, rfl, rfl, _, rfl, ?_⟩
      by_cases hw : d.2 ≤ t
      · exact ifT (decT hw) ⟨_, rfl, ka _ _ Sm.rf (decT hw) rfl⟩
      · exact ifF (decF hw) (kb _ Sm.rf (decF hw))
    · have e := paired_eq (f := V.int) hp1
      subst e
      have s1 : Sm H H1 := s1
      have es : c.settle d = ((c.there d.1).filter fun v => decide (d.2 ≤ v)).head? := rfl
      generalize ((c.there d.1).filter fun v => decide (d.2 ≤ v)) = th at hacc es
      refine ⟨_, rfl, (by show 0 ≤ sizeLine; omega), fun p2 np2 => ?_⟩
      have s2 : Sm H1 (upd H1 p2 (.lst [])) := Sm.rf.up np2
      refine ⟨_, _, dp_ints (s2 _ _ hacc), dp_nil upd_same, (lay_ints _).sh, lay_nil.sh, _, rfl, ?_⟩
      rw [eqv_nil]
      have s12 := s1.tr s2
      have hD2 := s2 _ _ hacc
      have nD0 : H D = none := nD
      generalize (upd H1 p2 (.lst [])) = H2 at *
      cases th with
      | nil =>
        refine ifT rfl (q _ _ s12 ?_)
        unfold FolAt
        rw [es]
        rfl
      | cons w th =>
        refine ifF (by simp) ?_
        have es : c.settle d = some w := es
        have hw := (Cat.mem_there.mp (Cat.settle_some es).1).1
        have h2 := h.sm s12
        -- what the module uses
        refine ⟨_, rfl, aw .wp, _, rfl, h2.g_ud, _, rfl, a, _, 0, _, rfl, rfl, at0' s12, at0, aw .ud, _, rfl, h2.g_xa wf hm, aw (.xa d.1), rfl, ⟨_, SqL.of (h2.xa _ hm)⟩, fun F nF => ?_⟩
        have nF0 : H F = none := s12.un nF
        have nFD : F ≠ D := (ne_of_none hD2 nF).symm
        have wk1 := walk_list (K := K) (a := aw (.xa d.1)) (xs := (c.uses d.1).map V.str)
        rw [List.length_map] at wk1
        have wv : ∀ {m u : Nm} {x : Int} {H' : Hp}, WorAt H' aw c → m ∈ c.mods → u ∈ c.uses m → 0 ≤ x → x < (c.cnt m : Nat) → ∃ refs a, H' (aw (.wa m u)) = some (.lst refs) ∧ refs[x.toNat]? = some (.ref a) ∧ H' a = some (.tup (winV (winAt (c.wins m u) x))) := fun {m u x H'} h' hm' hu' x0 x1 => by
          obtain ⟨refs, r1, r2⟩ := h'.wa (m, u) (mem_pairs.mpr ⟨hm', hu'⟩)
          have hlen := wf.len m hm' u hu'
          have hw := winAt_get (ws := c.wins m u) x0 (by omega)
          have hl : x.toNat < refs.length := by rw [r2.length]; exact (List.getElem?_eq_some_iff.mp hw).1
          have ev : refs[x.toNat]? = some refs[x.toNat] := List.getElem?_eq_getElem hl
          obtain ⟨w2, hw2, b, eb, hbw⟩ := LiI.paired_get r2 ev
          have hw2 : (c.wins m u)[x.toNat]? = some w2 := hw2
          rw [hw] at hw2
          cases hw2
          exact ⟨refs, b, r1, by rw [ev, eb], hbw⟩
        refine lc_smY (c.uses d.1) wk1 (fun i H x H' y => sm_YAt y) nF (fun H' s => SqL.of (s _ _ (h2.xa _ hm))) (fun u y H => ∃ a, y = .ref a ∧ a ≠ F ∧ H a = some (.tup (dmV (u, (winAt (c.wins d.1 u) w).1)))) (fun t y H4 H5 o r => let ⟨a, e1, e2, e3⟩ := r; ⟨a, e1, e2, o _ _ e3 e2⟩) (by omega) (fun i u x H3 H4 Pa hu' s3 s4 hF y ka => ?_) (fun H3 acc s3 hacc3 hp3 => ?_)
        · obtain ⟨rfl, hx⟩ := y
          have hx := pick1 hu' hx
          subst hx
          have hum := List.mem_of_getElem? hu'
          have s04 := s12.tr s4
          have h4 := h.sm s04
          refine ⟨rfl, _, rfl, _, rfl, aw .wp, _, rfl, h4.g_ww, _, rfl, a, _, 0, _, rfl, rfl, at0' s04, at0, _, rfl, (by show 2 ≤ sizeLine; omega), fun b nb => ?_⟩
          have s5 : Sm H4 (upd H4 b (.tup [.str d.1, .str u])) := Sm.rf.up nb
          have h5 := h4.sm s5
          obtain ⟨refs, a2, r1, r2, r3⟩ := wv h5 hm hum hw.1 hw.2
          refine ⟨aw .ww, _, rfl, h5.g_wa wf hm hum upd_same, _, rfl, D, _, 0, _, rfl, rfl, SqL.of (s5 _ _ (s4 _ _ hD2)), at0, aw (.wa d.1 u), _, w, _, rfl, rfl, SqL.of r1, (by rw [show w = ((w.toNat : Nat) : Int) by omega]; exact atI_nat r2), a2, _, 0, _, rfl, rfl, SqT.of r3, at0, (by show 2 ≤ sizeLine; omega), fun b2 nb2 => ?_⟩
          obtain ⟨acc, hF⟩ := hF
          exact ka _ _ (s5.up nb2) ⟨b2, rfl, (ne_of_none (s5 _ _ hF) nb2).symm, upd_same⟩
        · have s3 : Sm H2 H3 := s3
          have s03 := s12.tr s3
          have h3 := h.sm s03
          have hp3 : Paired (DmAt H3) acc ((c.uses d.1).map fun u => (u, (winAt (c.wins d.1 u) w).1)) := paired_mapL hp3 fun u y ⟨a, e1, _, e3⟩ => ⟨a, e1, e3⟩
          -- the users
          refine ⟨_, rfl, aw .wp, _, rfl, h3.g_ml, aw .ml, rfl, ⟨_, SqL.of h3.ml⟩, fun U nU => ?_⟩
          have nFU : F ≠ U := ne_of_none hacc3 nU
          have wk2 := walk_list (K := K) (a := aw .ml) (xs := c.mods.map V.str)
          rw [List.length_map] at wk2
          refine lc_sm c.mods wk2 (fun i H x H' y => sm_YAt y) nU (fun H' s => SqL.of (s _ _ h3.ml)) (fun k => decide (d.1 ∈ c.uses k)) (fun x y _ => y = .str x) (fun _ _ _ _ _ r => r) (by omega) (fun i k x H4 H5 Pa Pb hk s4 s5 _ y ka kb => ?_) (fun H4 ac4 s4 hacc4 hp4 => ?_)
          · obtain ⟨rfl, hx⟩ := y
            have hx := pick1 hk hx
            subst hx
            have hkm := List.mem_of_getElem? hk
            have s05 := s03.tr s5
            have h5 := h.sm s05
            refine ⟨rfl, _, rfl, a, _, 0, _, rfl, rfl, at0' s05, at0, _, rfl, aw .wp, _, rfl, h5.g_ud, _, rfl, aw .ud, _, rfl, h5.g_xa wf hkm, _, _, rfl, .inl (SqL.of (h5.xa k hkm)), rfl, NmOk.strs, _, rfl, ?_⟩
            rw [if_neg Bool.false_ne_true, inV_str]
            by_cases hq : d.1 ∈ c.uses k
            · exact ifT (decT hq) ⟨_, rfl, ka _ _ Sm.rf (decT hq) rfl⟩
            · exact ifF (decF hq) (kb _ Sm.rf (decF hq))
          · have e := paired_eq (f := V.str) hp4
            subst e
            have s4 : Sm H3 H4 := s4
            have hU4 : H4 U = some (.lst ((c.users d.1).map V.str)) := hacc4
            have s04 := s03.tr s4
            refine ⟨U, rfl, ⟨_, SqL.of hU4⟩, ?_⟩
            have wk3 := walk_list (K := K) (a := U) (xs := (c.users d.1).map V.str)
            rw [List.length_map] at wk3
            let F1 : List Dm := (c.uses d.1).map fun u => (u, (winAt (c.wins d.1 u) w).1)
            refine for_it wk3 (fun i σ H' => Sm H H' ∧ H' U = some (.lst ((c.users d.1).map V.str)) ∧ H' D = some (.lst ((w :: th).map V.int)) ∧ (∃ x4 x5 x6 x7 x8 x9 x10 x11 x12, σ = [some (.ref (aw .wp)), some (.ref a), some (.ref D), some (.ref F), x4, x5, x6, x7, x8, x9, x10, x11, x12]) ∧ ∃ vs, H' F = some (.lst vs) ∧ Paired (DmAt H') vs (F1 ++ ((c.users d.1).take i).map fun k => (k, firstR (c.wins k d.1) w)))
              ⟨s04, hU4, s4 _ _ (s3 _ _ hD2), ⟨_, _, _, _, _, _, _, _, _, rfl⟩, acc, s4 _ _ hacc3, by rw [List.take_zero, List.map_nil, List.append_nil]; exact paired_mono hp3 fun _ _ z => z.sm s4⟩ (fun i σ H' _ p => SqL.of p.2.1) (fun i x σ H5 H6 hi p y => ?_) (fun σ H5 p => ?_)
            · obtain ⟨s5, hU, hD, ⟨x4, x5, x6, x7, x8, x9, x10, x11, x12, rfl⟩, vs, hF, hFp⟩ := p
              obtain ⟨rfl, hx⟩ := y
              have hk : (c.users d.1)[i]? = some (c.users d.1)[i] := List.getElem?_eq_getElem hi
              generalize (c.users d.1)[i] = k at hk
              have hx := pick1 hk hx
              subst hx
              obtain ⟨hk1, hk2⟩ := (Cat.mem_users).mp (List.mem_of_getElem? hk)
              have hvl : vs.length ≤ 24 := by
                rw [hFp.length, List.length_append, List.length_map, List.length_map, List.length_take]
                omega
              have h6 := h.sm s5
              refine ⟨_, rfl, aw .wp, _, rfl, h6.g_ww, _, rfl, _, rfl, a, _, 0, _, rfl, rfl, at0' s5, at0, (by show 2 ≤ sizeLine; omega), fun b nb => ?_⟩
              have s7 : Sm H6 (upd H6 b (.tup [.str k, .str d.1])) := Sm.rf.up nb
              have h7 := h6.sm s7
              refine ⟨aw .ww, _, rfl, h7.g_wa wf hk1 hk2 upd_same, ?_⟩
              obtain ⟨refs, r1, r2⟩ := h7.wa (k, d.1) (mem_pairs.mpr ⟨hk1, hk2⟩)
              have r1 : (upd H6 b (.tup [.str k, .str d.1])) (aw (.wa k d.1)) = some (.lst refs) := r1
              have r2 : WinsAre (upd H6 b (.tup [.str k, .str d.1])) refs (c.wins k d.1) := r2
              have hwl : (c.wins k d.1).length ≤ 16 := by rw [wf.len k hk1 _ hk2]; exact wf.c16 k hk1
              have hrl : refs.length = (c.wins k d.1).length := r2.length
              have hD7 := s7 _ _ hD
              have hU7 := s7 _ _ hU
              have hF7 := s7 _ _ hF
              generalize (upd H6 b (.tup [.str k, .str d.1])) = H7 at *
              have er : firstR (c.wins k d.1) w = (((c.wins k d.1).findIdx fun z => reach z w : Nat) : Int) := rfl
              generalize ews : c.wins k d.1 = ws at *
              have s57 := s5.tr s7
              refine ⟨_, rfl, aw (.wa k d.1), _, rfl, SqL.of r1, fun G nG => ?_⟩
              have wk4 := walk_enum (K := K) (a := aw (.wa k d.1)) (xs := refs)
              rw [hrl, show ws.length = (List.range ws.length).length by rw [List.length_range]] at wk4
              refine lc_sm (List.range ws.length) wk4 (fun i H x H' y => sm_YPair y) nG (fun H' s => SqL.of (s _ _ r1)) (fun t => reach (ws.getD t (0, none)) w) (fun t y _ => y = .int (t : Nat)) (fun _ _ _ _ _ r => r) (by rw [List.length_range]; omega) (fun j t x H8 H9 Pa Pb ht s8 s9 _ y ka kb => ?_) (fun H8 ac8 s8 hacc8 hp8 => ?_)
              · obtain ⟨Tp, a1, b1, rfl, nT, rfl, ea, eb⟩ := y
                cases ea
                have hj := (List.getElem?_eq_some_iff.mp ht).1
                rw [List.length_range] at hj
                rw [List.getElem?_range hj] at ht
                cases ht
                have ew : ws[j]? = some (ws.getD j (0, none)) := by rw [List.getD_eq_getElem?_getD, List.getElem?_eq_getElem hj]; rfl
                obtain ⟨w2, hw2, a2, rfl, ha2⟩ := LiI.paired_get r2 eb
                have hw2 : ws[j]? = some w2 := hw2
                rw [ew] at hw2
                have hw2 := Option.some.inj hw2
                rw [← hw2] at ha2
                have ha9 := s9 _ _ ha2
                generalize ws.getD j (0, none) = wn at ha9 ka kb
                obtain ⟨lo, hi⟩ := wn
                refine ⟨Tp, _, rfl, SqT.of upd_same, rfl, _, _, rfl, _, _, rfl, rfl, rfl, ?_⟩
                refine ⟨_, rfl, a2, _, 1, _, rfl, rfl, SqT.of ha9, at1, _, rfl, ?_⟩
                cases hi with
                | none => exact ifT rfl (ifT rfl ⟨_, rfl, ka _ _ Sm.rf rfl rfl⟩)
                | some hb =>
                  refine ifF rfl ⟨_, rfl, a2, _, 1, _, rfl, rfl, SqT.of ha9, at1, _, rfl, D, _, 0, _, rfl, rfl, SqL.of (s9 _ _ hD7), at0, _, _, rfl, rfl, _, rfl, ?_⟩
                  by_cases hq : w ≤ hb
                  · exact ifT (decT hq) ⟨_, rfl, ka _ _ Sm.rf (decT hq) rfl⟩
                  · exact ifF (decF hq) (kb _ Sm.rf (decF hq))
              · have e := paired_eq (f := fun t : Nat => V.int (t : Nat)) hp8
                subst e
                have s8 : Sm H7 H8 := s8
                have s08 := s57.tr s8
                have hF8 := s8 _ _ hF7
                refine ⟨_, rfl, .inl ⟨rfl, _, .inl (.inl hF8)⟩, _, rfl, _, rfl, _, rfl, aw (.wa k d.1), _, rfl, .inl (SqL.of (s8 _ _ r1)), (by show 1 ≤ sizeLine; omega), fun l1 nl1 => ?_⟩
                have sA : Sm H8 (upd H8 l1 (.lst [.int (refs.length : Nat)])) := Sm.rf.up nl1
                refine ⟨G, l1, _, _, rfl, rfl, sA _ _ hacc8, upd_same, ?_, fun l2 nl2 => ?_⟩
                · rw [List.length_map]
                  have : ((List.range ws.length).filter fun t => reach (ws.getD t (0, none)) w).length ≤ (List.range ws.length).length := List.length_filter_le ..
                  rw [List.length_range] at this
                  show _ + 1 ≤ _
                  omega
                · have e0 : ((((List.range ws.length).filter fun t => reach (ws.getD t (0, none)) w).map fun t : Nat => V.int (t : Nat)) ++ [V.int (refs.length : Nat)])[0]? = some (.int (firstR (c.wins k d.1) w)) := by
                    have := first_range (fun z => reach z w) ws ((0 : Int), (none : Option Int))
                    rw [ews, er, hrl]
                    have e2 := congrArg (Option.map V.int) this
                    rw [← List.getElem?_map, List.map_append, List.map_map] at e2
                    exact e2
                  have sB := sA.up (o := .lst ((((List.range ws.length).filter fun t => reach (ws.getD t (0, none)) w).map fun t : Nat => V.int (t : Nat)) ++ [V.int (refs.length : Nat)])) nl2
                  refine ⟨l2, _, 0, _, rfl, rfl, SqL.of upd_same, atI_nat e0, (by show 2 ≤ sizeLine; omega), fun b3 nb3 => ?_⟩
                  have sC := sB.up (o := .tup [.str k, .int (firstR (c.wins k d.1) w)]) nb3
                  refine ⟨F, vs, _, rfl, rfl, sC _ _ hF8, by omega, ?_⟩
                  have kp : ∀ z xs, H8 z = some (.tup xs) → (upd (upd (upd (upd H8 l1 (.lst [.int (refs.length : Nat)])) l2 (.lst ((((List.range ws.length).filter fun t => reach (ws.getD t (0, none)) w).map fun t : Nat => V.int (t : Nat)) ++ [V.int (refs.length : Nat)]))) b3 (.tup [.str k, .int (firstR (c.wins k d.1) w)])) F (.lst (vs ++ [.ref b3]))) z = some (.tup xs) := fun z xs e => by
                    rw [upd_ne (ne_of hF8 e (by intro z; cases z)).symm]
                    exact sC _ _ e
                  have nDF : D ≠ F := nFD.symm
                  have nUF : U ≠ F := nFU.symm
                  have sCH := s8.tr sC
                  refine ⟨(s08.tr sC).set nF0, by rw [upd_ne nUF]; exact sCH _ _ hU7, by rw [upd_ne nDF]; exact sCH _ _ hD7, ⟨_, _, _, _, _, _, _, _, _, rfl⟩, _, upd_same, ?_⟩
                  rw [take_snoc hk, List.map_append, ← List.append_assoc]
                  refine (paired_mono hFp fun _ _ z => z.keep fun b xs e => kp _ _ (s8 _ _ (s7 _ _ e))).snoc ⟨b3, rfl, ?_⟩
                  exact (upd_ne (ne_of_none (sB _ _ hF8) nb3).symm).trans upd_same
            · obtain ⟨s5, hU, hD, ⟨x4, x5, x6, x7, x8, x9, x10, x11, x12, rfl⟩, vs, hF, hFp⟩ := p
              rw [List.take_length] at hFp
              have hFp : Paired (DmAt H5) vs (c.foundOf d.1 w) := hFp
              have hfol : c.foll d.1 w = uniq (pos (c.foundOf d.1 w)) := rfl
              have hvl : vs.length ≤ 24 := by
                rw [hFp.length]
                unfold Cat.foundOf
                rw [List.length_append, List.length_map, List.length_map]
                omega
              have hfm : ∀ z ∈ c.foundOf d.1 w, NmOk z.1 := fun z hz => by
                rcases Cat.mem_foundOf.mp hz with ⟨u, h1, rfl⟩ | ⟨k, h1, rfl⟩
                · exact nm _ (wf.sub _ hm _ h1)
                · exact nm _ (Cat.mem_users.mp h1).1
              generalize c.foundOf d.1 w = fo at *
              have hfl : vs.length = fo.length := hFp.length
              refine ⟨_, rfl, F, _, rfl, SqL.of hF, fun G nG => ?_⟩
              have wk4 := walk_enum (K := K) (a := F) (xs := vs)
              rw [hfl, show fo.length = (List.range fo.length).length by rw [List.length_range]] at wk4
              refine lc_sm (List.range fo.length) wk4 (fun i H x H' y => sm_YPair y) nG (fun H' s => SqL.of (s _ _ hF)) (keepD fo) (fun t y H => ∃ a, y = .ref a ∧ a ≠ G ∧ H a = some (.tup (dmV (fo.getD t dm0)))) (fun t y H4 H5 o r => let ⟨a, e1, e2, e3⟩ := r; ⟨a, e1, e2, o _ _ e3 e2⟩) (by rw [List.length_range]; omega) (fun j t x H8 H9 Pa Pb ht s8 s9 hG y ka kb => ?_) (fun H8 ac8 s8 hacc8 hp8 => ?_)
              · obtain ⟨Tp, a1, b1, rfl, nT, rfl, ea, eb⟩ := y
                cases ea
                have hj := (List.getElem?_eq_some_iff.mp ht).1
                rw [List.length_range] at hj
                rw [List.getElem?_range hj] at ht
                cases ht
                have ew : fo[j]? = some (fo.getD j dm0) := by rw [List.getD_eq_getElem?_getD, List.getElem?_eq_getElem hj]; rfl
                obtain ⟨o, ho, a2, rfl, ha2⟩ := LiI.paired_get hFp eb
                rw [ew] at ho
                have ho := Option.some.inj ho
                have hon : NmOk o.1 := hfm o (by rw [← ho]; exact List.mem_of_getElem? ew)
                have ek : keepD fo j = (decide (0 < o.2) && !decide (o ∈ fo.take j)) := by rw [← ho]; rfl
                rw [ho] at ka
                have s8 : Sm H5 H8 := s8
                have ha9 := s9 _ _ ha2
                refine ⟨Tp, _, rfl, SqT.of upd_same, rfl, _, _, rfl, _, _, rfl, rfl, rfl, ?_⟩
                obtain ⟨ac, hG⟩ := hG
                have fin : ∀ H4, Sm H8 H4 → H4 a2 = some (.tup (dmV o)) → a2 ≠ G := fun H4 s4 e => ne_of e (s4 _ _ hG) (by intro z; cases z)
                refine ⟨_, rfl, a2, _, 1, _, rfl, rfl, SqT.of ha9, at1, _, _, rfl, rfl, _, rfl, ?_⟩
                have sT : Sm H8 (upd H8 Tp (.tup [.int (j : Nat), .ref a2])) := Sm.rf.up nT
                by_cases hq : 0 < o.2
                · refine ifT (decT hq) ⟨_, rfl, _, rfl, _, rfl, _, rfl, F, _, rfl, SqL.of (s9 _ _ hF), fun G2 nG2 => ?_⟩
                  have sG2 : Sm (upd H8 Tp (.tup [.int (j : Nat), .ref a2])) (upd (upd H8 Tp (.tup [.int (j : Nat), .ref a2])) G2 (.lst (cutV vs none (some (j : Nat))))) := Sm.rf.up nG2
                  have ecut : cutV vs none (some (j : Nat)) = vs.take j := by
                    rw [cut_take (by omega) (by omega)]
                    rfl
                  have s59 := (s8.tr sT).tr sG2
                  refine ⟨_, _, dp_dm (d := o) ⟨a2, rfl, sG2 _ _ ha9⟩, dp_dms (K := K) (SqL.of upd_same) (l := fo.take j) ?_, (lay_dm hon).sh, (lay_dms fun z hz => hfm z (List.mem_of_mem_take hz)).sh, _, rfl, ?_⟩
                  · rw [ecut] at s59 ⊢
                    exact paired_mono (paired_take j hFp) fun _ _ z => z.sm s59
                  · rw [any_dm]
                    by_cases hin : o ∈ fo.take j
                    · exact ifF (by rw [decT hin]; rfl) (kb _ sG2 (by rw [ek, decT hin]; simp))
                    · exact ifT (by rw [decF hin]; rfl) ⟨_, rfl, ka _ _ sG2 (by rw [ek, decT hq, decF hin]; rfl) ⟨a2, rfl, fin _ (sT.tr sG2) (sG2 _ _ ha9), sG2 _ _ ha9⟩⟩
                · exact ifF (decF hq) (kb _ Sm.rf (by rw [ek, decF hq]; rfl))
              · refine q _ _ (s5.tr s8) ?_
                unfold FolAt
                rw [es]
                show ∃ p, V.ref G = .ref p ∧ H p = none ∧ DmsAt H8 p (c.foll d.1 w)
                rw [hfol, ← keep_uniq]
                exact ⟨G, rfl, s5.un nG, ac8, hacc8, paired_mapL hp8 fun t y ⟨a, e1, _, e3⟩ => ⟨a, e1, e3⟩⟩
end
end Gs
/-! ## GsL12 -/
namespace Gs
open PySem PySem.Spec PyProof.Rows L2
section
variable {P : Program} {w : World} {K : PySem.W.Frag} {mg : Str → Option Value} {base : Heap}
theorem ok_l_next (T : Txt K mg) : FnOk P w K mg base CX0 2 T.d_l_next.f T.d_l_next.fd ["_law_world_here", "_law_demand"] (fun vs H Q _ => ∃ (aw : Ad) (c : Cat) (a : Addr) (d : Dm), vs = [.ref (aw .wp), .ref a] ∧ WorAt H aw c ∧ c.WF ∧ (∀ m ∈ c.mods, NmOk m) ∧ H a = some (.tup (dmV d)) ∧ d.1 ∈ c.mods ∧
    ∀ H' p, Sm H H' → H p = none → DmsAt H' p (c.next d) → Q (.ref p) H') := by
  have nd := sc_l_next.nd
  refine T.d_l_next.F.ok sc_l_next (fun vs H Q E h => ?_) (fun cdv A outer s H vs Q E hr h => ?_)
  · obtain ⟨aw, c, a, d, rfl, _⟩ := h; rfl
  · obtain ⟨aw, c, a, d, rfl, h, wf, nm, ha, hm, q⟩ := h
    have hs : sizeLine = 16777216 := sizeLine_eq
    refine ⟨_, (pss_cons (ps_set (i := 2) nd rfl (.inl rfl) (pcall (ok_l_following T) T.d_l_following.M (hr.mono (by decide)) (pa_cons (pv 0) (pa_cons (pv 1) pa_nil))))
      (pss_one (ps_ret (pe_ifExp (pt_cmp (pc_isN (pv 2))) (pe_lst pa_nil) (pv 2))))), ?_⟩
    refine ⟨_, rfl, _, rfl, aw, c, a, d, rfl, h, wf, nm, ha, hm, fun H1 v s1 hv => ?_⟩
    unfold FolAt at hv
    unfold Cat.next at q
    cases es : c.settle d with
    | none =>
      rw [es] at hv q
      have hv : v = .non := hv
      subst hv
      exact ⟨_, rfl, _, rfl, ifT rfl ⟨(by show 0 ≤ sizeLine; omega), fun p np => q _ p (s1.up np) (s1.un np) ⟨[], upd_same, .nil⟩⟩⟩
    | some w =>
      rw [es] at hv q
      obtain ⟨p, rfl, np, hp⟩ := hv
      exact ⟨_, rfl, _, rfl, ifF rfl ⟨_, rfl, q H1 p s1 np hp⟩⟩
def kvE (x : En) : List Key × V := (dmK x.d, .int (x.n : Nat))
theorem nodup_dmK {B : List En} (h : (keysE B).Nodup) : (B.map fun x => dmK x.d).Nodup := by
  have := nodup_map (f := dmK) (fun _ _ e => dmK_inj e) h
  unfold keysE at this
  rwa [List.map_map] at this
theorem val_kvE {B : List En} (h : (keysE B).Nodup) {x : En} (hx : x ∈ B) : valV (B.map kvE) (dmK x.d) = some (.int (x.n : Nat)) := val_map (kf := fun x : En => dmK x.d) (vf := fun x : En => V.int (x.n : Nat)) (nodup_dmK h) hx
theorem some_kvE {B : List En} (h : (keysE B).Nodup) {o : Dm} : (valV (B.map kvE) (dmK o)).isSome = decide (o ∈ keysE B) := by
  by_cases e : o ∈ keysE B
  · obtain ⟨x, hx, rfl⟩ := List.mem_map.mp e
    rw [val_kvE h hx, decT e]
    rfl
  · rw [decF e]
    have : valV (B.map kvE) (dmK o) = none := val_none (kf := fun x : En => dmK x.d) (vf := fun x : En => V.int (x.n : Nat)) fun x hx q => e (by rw [← dmK_inj q]; exact List.mem_map.mpr ⟨x, hx, rfl⟩)
    rw [this]
    rfl
theorem put_kvE {B : List En} {x : En} (h : x.d ∉ keysE B) : putK (B.map kvE) (dmK x.d) (.int (x.n : Nat)) = (B ++ [x]).map kvE := by
  rw [putK_app]
  · rw [List.map_append]
    rfl
  · rw [List.map_map]
    intro q
    obtain ⟨y, hy, e⟩ := List.mem_map.mp q
    have e : dmK y.d = dmK x.d := e
    exact h (by rw [← dmK_inj e]; exact List.mem_map.mpr ⟨y, hy, rfl⟩)
theorem pairT_of {K : PySem.W.Frag} {H : Hp} {D : Addr} : ∀ {l : List Dm} {acc : List V}, Paired (fun s y => ∃ t q, y = V.ref t ∧ t ≠ D ∧ q ≠ D ∧ H t = some (.tup [.ref q, .int 1]) ∧ H q = some (.tup (dmV s))) l acc → ∃ ps : List Addr, acc = ps.map V.ref ∧ PairT K H ps (l.map fun s => (dmK s, V.int 1))
  | _, _, .nil => ⟨[], rfl, .nil⟩
  | _, _, .cons h t => by
    obtain ⟨p, q, rfl, _, _, h1, h2⟩ := h
    obtain ⟨ps, rfl, hp⟩ := pairT_of t
    exact ⟨p :: ps, rfl, .cons ⟨q, SqT.of h1, h2⟩ hp⟩
theorem ok_l_distances (T : Txt K mg) : FnOk P w K mg base CX0 3 T.d_l_distances.f T.d_l_distances.fd ["_law_world_here", "_law_starts"] (fun vs H Q _ => ∃ (aw : Ad) (c : Cat) (p : Addr), vs = [.ref (aw .wp), .ref p] ∧ WorAt H aw c ∧ c.WF ∧ (∀ m ∈ c.mods, NmOk m) ∧ DmsAt H p c.starts ∧
    ∀ H' d N, Sm H H' → H d = none → H' d = some (.dT ((runB c N).map kvE)) → (runB c N).length ≤ N → Q (.ref d) H') := by
  have nd := sc_l_distances.nd
  refine T.d_l_distances.F.ok sc_l_distances (fun vs H Q E h => ?_) (fun cdv A outer s H vs Q E hr h => ?_)
  · obtain ⟨aw, c, p, rfl, _⟩ := h; rfl
  · obtain ⟨aw, c, p, rfl, h, wf, nm, ⟨sv, hsp, hsd⟩, q⟩ := h
    have hu := hu_of hr
    have hu2 := hu2_of hr
    have hs : sizeLine = 16777216 := sizeLine_eq
    have hul := univ_len wf
    have hlen : ∀ i, (runB c i).length ≤ 5000 := fun i => Nat.le_trans (srch_len (srch_run wf i)) hul
    have h12 := wf.few
    have hsl : c.starts.length = c.mods.length := by unfold Cat.starts; rw [List.length_map]
    refine ⟨_, (pss_cons (ps_par3 (i := 2) (j := 3) (l := 4) rfl nd rfl rfl rfl (by decide) (by decide) (by decide) rfl rfl rfl (pa_cons (pe_callTy (r := rDictPT K) (T := "dict") (call_dictPT rfl hu2) (by rfl) T.b_dict (by decide +kernel) (pa_cons (pe_lc (own := [("_law_one", 5)]) (tt := tYes) (g := (gName 5)) rfl nd (pi_listK (K := K) rfl (pv 1)) (blkOk_by (N := N_l_distances) (sc := defScope s_l_distances) (by decide +kernel)) (fun _ _ _ _ _ => (pg_name (i := 5) nd rfl (.inl rfl))) (fun _ _ _ _ _ => pts_nil) (fun _ _ _ _ _ => (pe_tup (pa_cons (pv 5) (pa_cons pe_int pa_nil))))) pa_nil)) (pa_cons (pe_callTy (r := rListS K) (T := "list") call_listS (by rfl) T.b_list (by decide +kernel) (pa_cons (pv 1) pa_nil)) (pa_cons pe_int pa_nil))) rfl)
      (pss_cons (ps_while PassesOwn.never (pt_cmpR op_lt (pv 4) (pe_callB (r := rLenS K) (id := "len") call_lenS (by rfl) T.b_len (by decide +kernel) (pa_cons (pv 3) pa_nil)) (nomark _))
      (pss_cons (ps_for PassesOwn.never rfl (pi_listK (K := K) rfl (pcall (ok_l_next T) T.d_l_next.M (hr.mono (by decide)) (pa_cons (pv 0) (pa_cons (pe_ix (r := rIxL K) ix_list (pv 3) (pv 4) (fun _ _ => rfl)) pa_nil)))) (pg_name (i := 5) nd rfl (.inl rfl))
      (pss_one (ps_if (pt_cmp (pc_dnotin hu (pv 5) (pv 2))) (pss_cons (ps_dput hu (pv 2) (pv 5) (pe_op op_add (pe_dget hu (pv 2) (pe_ix (r := rIxL K) ix_list (pv 3) (pv 4) (fun _ _ => rfl)) (fun _ _ => rfl)) pe_int) rfl)
      (pss_one (ps_expr (pe_bmK (K := K) rfl PySem.F.plainAttrs_list PySem.F.slot_list_append PySem.F.type_list_append mt_append (pv 3) (pa_cons (pv 5) pa_nil))))) pss_nil)))
      (pss_one (ps_set (i := 4) nd rfl (.inl rfl) (pe_op op_add (pv 4) pe_int)))))
      (pss_one (ps_ret (pv 2))))), ?_⟩
    refine ⟨_, rfl, p, rfl, ⟨_, SqL.of hsp⟩, fun D0 nD0 => ?_⟩
    have wk := walk_list (K := K) (a := p) (xs := sv)
    have hvl : sv.length = c.starts.length := hsd.length
    rw [hvl] at wk
    refine lc_smY c.starts wk (fun i H x H' y => sm_YAt y) nD0 (fun H' s => SqL.of (s _ _ hsp)) (fun s y H => ∃ t q, y = V.ref t ∧ t ≠ D0 ∧ q ≠ D0 ∧ H t = some (.tup [.ref q, .int 1]) ∧ H q = some (.tup (dmV s))) (fun t y H4 H5 o r => let ⟨a, b, e1, e2, e3, e4, e5⟩ := r; ⟨a, b, e1, e2, e3, o _ _ e4 e2, o _ _ e5 e3⟩) (by omega) (fun i d x H2 H3 Pa hd s2 s3 hD y ka => ?_) (fun H1 acc s1 hacc hp1 => ?_)
    · obtain ⟨rfl, hx⟩ := y
      obtain ⟨d2, hd2, a, rfl, ha⟩ := LiI.paired_get hsd hx
      rw [hd] at hd2
      cases hd2
      obtain ⟨ac, hD⟩ := hD
      have ha3 := s3 _ _ ha
      refine ⟨rfl, _, rfl, (by show 2 ≤ sizeLine; omega), fun b nb => ?_⟩
      have s4 : Sm H3 (upd H3 b (.tup [.ref a, .int 1])) := Sm.rf.up nb
      exact ka _ _ s4 ⟨b, a, rfl, (ne_of_none hD nb).symm, ne_of ha3 hD (by intro z; cases z), upd_same, s4 _ _ ha3⟩
    · obtain ⟨ps, rfl, hpt⟩ := pairT_of (K := K) hp1
      have s1 : Sm H H1 := s1
      have hst : c.starts.map (fun s => (dmK s, V.int 1)) = (start c).map kvE := by
        unfold start
        rw [List.map_map]
        rfl
      have hk0 : (keysE (start c)).Nodup := by rw [keysE_start]; exact starts_nodup wf
      refine ⟨D0, ps, _, rfl, SqL.of hacc, hpt, ?_, fun D nD => ?_⟩
      · rw [hst, List.map_map]
        exact nodup_dmK hk0
      · rw [hst]
        have s2 : Sm H (upd H1 D (.dT ((start c).map kvE))) := s1.up nD
        have nDH : H D = none := s1.un nD
        have hD2 : (upd H1 D (.dT ((start c).map kvE))) D = some (.dT ((start c).map kvE)) := upd_same
        generalize (upd H1 D (.dT ((start c).map kvE))) = HH at s2 hD2 ⊢
        refine ⟨_, rfl, p, _, rfl, .inl (SqL.of (s2 _ _ hsp)), fun L nL => ?_⟩
        have s3 : Sm HH (upd HH L (.lst sv)) := Sm.rf.up nL
        have nLH : H L = none := s2.un nL
        let Wd : Nat → L2.St → Hp → Prop := fun i σ H' => i ≤ (runB c i).length ∧ ∃ (ws : List V), Sm H H' ∧ H' D = some (.dT ((runB c i).map kvE)) ∧ H' L = some (.lst ws) ∧ Paired (DmAt H') ws (keysE (runB c i)) ∧ ∃ x5, σ = [some (.ref (aw .wp)), some (.ref p), some (.ref D), some (.ref L), some (.int (i : Nat)), x5]
        refine ⟨_, _, _, rfl, ?_⟩
        refine ⟨fun m σ H' => ∃ i : Nat, m = 5001 - i ∧ Wd i σ H', ⟨_, 0, rfl, Nat.zero_le _, sv, s2.tr s3, s3 _ _ hD2, upd_same, ?_, _, rfl⟩, ?_⟩
        · show Paired _ sv (keysE (start c))
          rw [keysE_start]
          exact paired_mono hsd fun _ _ z => z.sm (s2.tr s3)
        rintro m σ H4 ⟨i, rfl, hil, ws, s4, hD, hL, hW, x5, rfl⟩
        have hwl : ws.length = (runB c i).length := by rw [hW.length]; unfold keysE; rw [List.length_map]
        refine ⟨_, rfl, _, rfl, _, _, rfl, .inl (SqL.of hL), _, _, rfl, rfl, _, rfl, ?_⟩
        by_cases hlt : i < (runB c i).length
        · refine ifT (decT (by omega)) ?_
          obtain ⟨x, ex⟩ : ∃ x, (runB c i)[i]? = some x := ⟨_, List.getElem?_eq_getElem hlt⟩
          obtain ⟨v, ev, a, rfl, ha⟩ := keys_at hW ex
          have hrn : runB c (i + 1) = expand x (runB c i) (c.next x.d) := by
            show (match (runB c i)[i]? with | none => runB c i | some x => expand x (runB c i) (c.next x.d)) = _
            rw [ex]
          have hxm := (srch_run wf i).mods x (List.mem_of_getElem? ex)
          have h4 := h.sm s4
          have hil2 : i + 1 ≤ (runB c (i + 1)).length := by
            rw [hrn]
            obtain ⟨_, pf, _⟩ := mid_all wf (c.next x.d) ⟨srch_run wf i, ex⟩ fun o ho => ho
            have := pf.length_le
            omega
          refine ⟨Wd (i + 1), fun σ' H' z => ⟨_, (by have := hlen i; omega), i + 1, rfl, z⟩, ?_⟩
          refine ⟨_, rfl, _, rfl, _, rfl, L, ws, (i : Int), _, rfl, rfl, SqL.of hL, (by rw [atI_nat]; exact ev), aw, c, a, x.d, rfl, h4, wf, nm, ha, hxm, fun H5 f s5 nf hf => ?_⟩
          obtain ⟨fs, hf, hfp⟩ := hf
          have nfD : f ≠ D := (ne_of_none hD nf).symm
          have nfL : f ≠ L := (ne_of_none hL nf).symm
          have nDL : D ≠ L := ne_of hD hL (by intro z; cases z)
          have lk := walk_list (K := K) (a := f) (xs := fs)
          have elf : fs.length = (c.next x.d).length := hfp.length
          have m0 : Mid c i x (runB c i) := ⟨srch_run wf i, ex⟩
          refine ⟨f, rfl, ⟨_, SqL.of hf⟩, ?_⟩
          refine for_it lk (fun j σ H' => Sm H H' ∧ H' f = some (.lst fs) ∧ Paired (DmAt H') fs (c.next x.d) ∧ (∃ y, σ = [some (.ref (aw .wp)), some (.ref p), some (.ref D), some (.ref L), some (.int (i : Nat)), y]) ∧ ∃ (ws : List V), H' D = some (.dT ((expand x (runB c i) ((c.next x.d).take j)).map kvE)) ∧ H' L = some (.lst ws) ∧ Paired (DmAt H') ws (keysE (expand x (runB c i) ((c.next x.d).take j)))) ?_ (fun _ _ _ _ p => SqL.of p.2.1) (fun j y σ H8 H9 hj p yy => ?_) (fun σ H8 p => ?_)
          · exact ⟨s4.tr s5, hf, hfp, ⟨_, rfl⟩, ws, s5 _ _ hD, s5 _ _ hL, paired_mono hW fun _ _ z => z.sm s5⟩
          · obtain ⟨s8, hf8, hfp8, ⟨y0, rfl⟩, ws, hD, hL, hW⟩ := p
            obtain ⟨rfl, hx⟩ := yy
            obtain ⟨o, ho, b, rfl, hb⟩ := LiI.paired_get hfp8 hx
            have hoin := List.mem_of_getElem? ho
            have mj := (mid_all wf ((c.next x.d).take j) m0 fun o ho => List.mem_of_mem_take ho).1
            have hbl : (expand x (runB c i) ((c.next x.d).take j)).length ≤ 5000 := Nat.le_trans (srch_len mj.toSrch) hul
            have hwl : ws.length = (expand x (runB c i) ((c.next x.d).take j)).length := by rw [hW.length]; unfold keysE; rw [List.length_map]
            have et : expand x (runB c i) ((c.next x.d).take (j + 1)) = addE x (expand x (runB c i) ((c.next x.d).take j)) o := by
              rw [take_snoc ho]
              unfold expand
              rw [List.foldl_append]
              rfl
            rw [et]
            have hnd := mj.toSrch.nd
            have exj := mj.at_
            generalize expand x (runB c i) ((c.next x.d).take j) = B at *
            refine ⟨_, rfl, _, rfl, D, _, rfl, DGet.t (k := dmK o) hD hb, _, rfl, ?_⟩
            rw [some_kvE hnd]
            unfold addE
            by_cases hin : o ∈ keysE B
            · refine ifF (by rw [decT hin]; rfl) ?_
              rw [if_pos hin]
              exact ⟨s8, hf8, hfp8, ⟨_, rfl⟩, ws, hD, hL, hW⟩
            · refine ifT (by rw [decF hin]; rfl) ?_
              rw [if_neg hin]
              obtain ⟨v2, ev2, a2, rfl, ha2⟩ := keys_at hW exj
              have gx := DGet.t (k := dmK x.d) hD ha2
              rw [val_kvE hnd (List.mem_of_getElem? exj)] at gx
              refine ⟨_, rfl, _, rfl, _, rfl, L, ws, (i : Int), _, rfl, rfl, SqL.of hL, (by rw [atI_nat]; exact ev2), D, _, rfl, gx, _, _, rfl, rfl, _, rfl, _, rfl, D, _, rfl, DPut.t (k := dmK o) hD hb (by rw [List.length_map]; omega), ?_⟩
              have ep : putK (B.map kvE) (dmK o) (V.int ((x.n : Nat) + 1)) = (B ++ [(⟨o, some x.d, x.n + 1⟩ : En)]).map kvE := put_kvE (B := B) (x := ⟨o, some x.d, x.n + 1⟩) hin
              have hL2 : (upd H9 D (.dT (putK (B.map kvE) (dmK o) (V.int ((x.n : Nat) + 1))))) L = some (.lst ws) := by rw [upd_ne nDL.symm]; exact hL
              have kp1 : ∀ z xs, H9 z = some (.tup xs) → (upd H9 D (.dT (putK (B.map kvE) (dmK o) (V.int ((x.n : Nat) + 1))))) z = some (.tup xs) := fun z xs e => by
                rw [upd_ne (ne_of hD e (by intro z; cases z)).symm]
                exact e
              have kp : ∀ z xs, H9 z = some (.tup xs) → (upd (upd H9 D (.dT (putK (B.map kvE) (dmK o) (V.int ((x.n : Nat) + 1))))) L (.lst (ws ++ [.ref b]))) z = some (.tup xs) := fun z xs e => by
                rw [upd_ne (ne_of hL e (by intro z; cases z)).symm]
                exact kp1 _ _ e
              refine ⟨_, rfl, .inl ⟨rfl, _, .inl (.inl hL2)⟩, _, rfl, L, ws, _, rfl, rfl, hL2, by omega, ?_⟩
              refine ⟨(s8.set nDH).set nLH, ?_, paired_mono hfp8 fun _ _ z => z.keep kp, ⟨_, rfl⟩, _, ?_, upd_same, ?_⟩
              · rw [upd_ne nfL, upd_ne nfD]
                exact hf8
              · rw [upd_ne nDL, upd_same, ep]
              · rw [keysE_app]
                exact (paired_mono hW fun _ _ z => z.keep kp).snoc ⟨b, rfl, kp _ _ hb⟩
          · obtain ⟨s8, hf8, hfp8, ⟨y0, rfl⟩, ws, hD, hL, hW⟩ := p
            rw [elf, List.take_length, ← hrn] at hD hW
            exact ⟨_, rfl, _, _, rfl, rfl, hil2, ws, s8, hD, hL, hW, _, rfl⟩
        · refine ifF (decF (by omega)) ?_
          exact ⟨_, rfl, q _ D i s4 nDH hD (by omega)⟩
end
end Gs
/-! ## GsL13 -/
namespace Gs
open PySem PySem.Spec PyProof.Rows L2
section
variable {P : Program} {w : World} {K : PySem.W.Frag} {mg : Str → Option Value} {base : Heap}
theorem atI_end {xs : List V} {v : V} (h : xs[xs.length - 1]? = some v) : atI xs (-1) = some v := by
  rcases List.eq_nil_or_concat xs with q | ⟨l, b, q⟩
  · rw [q] at h
    cases h
  · rw [List.concat_eq_append] at q
    subst q
    rw [List.length_append, List.length_singleton, Nat.add_sub_cancel, List.getElem?_append_right (Nat.le_refl _), Nat.sub_self] at h
    cases h
    exact atI_last l _
theorem cut_drop1 (xs : List V) : cutV xs (some 1) none = xs.drop 1 := by
  unfold cutV
  have e2 : HT.sIx xs.length xs.length none = xs.length := rfl
  have e1 : HT.sIx xs.length 0 (some 1) = min 1 xs.length := HT.sIx_nat xs.length 0 1
  rw [e1, e2]
  cases xs with
  | nil => rfl
  | cons a l =>
    rw [show min 1 (a :: l).length = 1 by rw [List.length_cons]; omega]
    show ((a :: l).drop 1).take _ = _
    rw [List.take_of_length_le]
    rw [List.length_drop, List.length_cons]
    omega
theorem paired_drop {α β : Type} {F : α → β → Prop} : ∀ (n : Nat) {xs : List α} {ys : List β}, Paired F xs ys → Paired F (xs.drop n) (ys.drop n)
  | 0, _, _, h => h
  | _ + 1, _, _, .nil => .nil
  | n + 1, _, _, .cons _ t => paired_drop n t
theorem ok_l_is_chain (T : Txt K mg) : FnOk P w K mg base CX0 3 T.d_l_is_chain.f T.d_l_is_chain.fd ["_law_world_here", "_law_chain"] (fun vs H Q _ => ∃ (aw : Ad) (c : Cat) (p : Addr) (Ch : List Dm), vs = [.ref (aw .wp), .ref p] ∧ WorAt H aw c ∧ c.WF ∧ (∀ m ∈ c.mods, NmOk m) ∧ DmsAt H p Ch ∧ Ch ≠ [] ∧ Ch.length ≤ 10000 ∧ (∀ z ∈ Ch, z.1 ∈ c.mods) ∧
    (∀ (i : Nat) a b, Ch[i]? = some a → Ch[i + 1]? = some b → b ∈ c.next a) ∧ ∀ H', Sm H H' → Q (.bl true) H') := by
  have nd := sc_l_is_chain.nd
  refine T.d_l_is_chain.F.ok sc_l_is_chain (fun vs H Q E h => ?_) (fun cdv A outer s H vs Q E hr h => ?_)
  · obtain ⟨aw, c, p, Ch, rfl, _⟩ := h; rfl
  · obtain ⟨aw, c, p, Ch, rfl, h, wf, nm, ⟨vs, hp, hpp⟩, hne, hl, hmod, hadj, q⟩ := h
    have hu64 := hu64_of hr
    have hu65 := hu65_of hr
    have hs : sizeLine = 16777216 := sizeLine_eq
    have hvl : vs.length = Ch.length := hpp.length
    refine ⟨_, (pss_cons (ps_if (PW.pt (pw_or (pt_not (pt_val (pe_callB (r := rIsi K) (id := "isinstance") call_isi (by rfl) T.b_isinstance (by decide +kernel) (pa_cons (pv 1) (pa_cons (gTy (n := "list") T.b_list (by decide +kernel)) pa_nil))))) (pw_or1 (pt_cmpR (op_eqD hu64) (pv 1) (pe_lst pa_nil) (nomark _))))) (pss_one (ps_ret pe_bl)) pss_nil)
      (pss_one (ps_ret (pe_callB (r := rAll K) (id := "all") (cr_all rfl) (by rfl) T.b_all (by decide +kernel) (pa_cons (pe_lc (own := [("_law_one", 2), ("_law_other", 3)]) (tt := tYes) (g := (gTup K 2 (gCons (gName 2) (gCons (gName 3) gNil)))) rfl nd (pi_zip (by rfl) T.b_zip (pa_cons (pv 1) (pa_cons (pe_slice (sl_listK (K := K) rfl) (pv 1) (po_some pe_int) po_none) pa_nil))) (blkOk_by (N := N_l_is_chain) (sc := defScope s_l_is_chain) (by decide +kernel)) (fun _ _ _ _ _ => (pg_tup rfl (pgs_cons (pg_name (i := 2) nd rfl (.inl rfl)) (pgs_cons (pg_name (i := 3) nd rfl (.inl rfl)) pgs_nil)))) (fun _ _ _ _ _ => pts_nil) (fun _ _ _ _ _ => (pe_cmpR (r := rInD K) (op_inD hu65) (pv 3) (pcall (ok_l_next T) T.d_l_next.M (hr.mono (by decide)) (pa_cons (pv 0) (pa_cons (pv 2) pa_nil))) rfl))) pa_nil))))), ?_⟩
    refine ⟨_, rfl, _, _, _, _, _, rfl, .ty _, .base (.lst hp), kit_same, true, rfl, ifF rfl ?_⟩
    refine ⟨_, rfl, (by show 0 ≤ sizeLine; omega), fun p2 np2 => ?_⟩
    have s2 : Sm H (upd H p2 (.lst [])) := Sm.rf.up np2
    refine ⟨_, _, dp_dms (K := K) (SqL.of (s2 _ _ hp)) (paired_mono hpp fun _ _ z => z.sm s2), dp_nil upd_same, (lay_dms fun z hz => nm _ (hmod z hz)).sh, lay_nil.sh, _, rfl, ?_⟩
    refine ifF (by show PyData.eqv (.list (Ch.map dmD)) (.list []) = false; rw [eqv_nil]; simp [hne]) ?_
    have hp2 := s2 _ _ hp
    generalize (upd H p2 (.lst [])) = H2 at *
    refine ⟨_, rfl, _, rfl, 1, rfl, p, _, rfl, SqL.of hp2, fun P1 nP1 => ?_⟩
    rw [cut_drop1]
    have s3 : Sm H2 (upd H2 P1 (.lst (vs.drop 1))) := Sm.rf.up nP1
    refine ⟨p, P1, _, _, rfl, SqL.of (s3 _ _ hp2), SqL.of upd_same, fun D nD => ?_⟩
    have hP1 : (upd H2 P1 (.lst (vs.drop 1))) P1 = some (.lst (vs.drop 1)) := upd_same
    have hp3 := s3 _ _ hp2
    generalize (upd H2 P1 (.lst (vs.drop 1))) = H3 at *
    have s23 := s2.tr s3
    have wk := walk_zip (K := K) (a := p) (b := P1) (xs := vs) (ys := vs.drop 1) (n := Ch.length - 1) (by rw [List.length_drop]; omega)
    rw [show Ch.length - 1 = (List.range (Ch.length - 1)).length by rw [List.length_range]] at wk
    refine lc_smY (List.range (Ch.length - 1)) wk (fun i H x H' y => sm_YPair y) nD (fun H' s => ⟨SqL.of (s _ _ hp3), SqL.of (s _ _ hP1)⟩) (fun t y _ => y = .bl true) (fun _ _ _ _ _ r => r) (by rw [List.length_range]; omega) (fun i t x H4 H5 Pa ht s4 s5 _ y ka => ?_) (fun H4 acc s4 hacc hpa => ?_)
    · obtain ⟨Tp, a1, b1, rfl, nT, rfl, ea, eb⟩ := y
      obtain ⟨x, hx, a, rfl, ha⟩ := LiI.paired_get hpp ea
      obtain ⟨y, hy, b, rfl, hb⟩ := LiI.paired_get (paired_drop 1 hpp) eb
      rw [List.getElem?_drop, Nat.add_comm] at hy
      have hxy := hadj i x y hx hy
      have s45 : Sm H (upd H4 Tp (.tup [.ref a, .ref b])) := s23.tr s5
      have ha5 := s45 _ _ ha
      have hb5 := s45 _ _ hb
      refine ⟨Tp, _, rfl, SqT.of upd_same, rfl, _, _, rfl, _, _, rfl, rfl, rfl, ?_⟩
      have hxm := hmod x (List.mem_of_getElem? hx)
      have hym := hmod y (List.mem_of_getElem? hy)
      refine ⟨_, rfl, _, rfl, _, rfl, aw, c, a, x, rfl, h.sm s45, wf, nm, ha5, hxm, fun H6 f s6 nf hf => ?_⟩
      obtain ⟨fs, hf, hfp⟩ := hf
      refine ⟨_, _, dp_dm (d := y) ⟨b, rfl, s6 _ _ hb5⟩, dp_dms (K := K) (SqL.of hf) hfp, (lay_dm (nm _ hym)).sh, (lay_dms fun z hz => nm _ (Cat.next_mods wf hxm hz)).sh, ?_⟩
      rw [any_dm, decT hxy]
      exact ka _ _ s6 rfl
    · have e := paired_eq (f := fun _ : Nat => V.bl true) hpa
      subst e
      refine ⟨D, (List.range (Ch.length - 1)).map fun _ => true, rfl, ?_, ?_⟩
      · rw [List.map_map]
        exact SqL.of hacc
      · have ea : ((List.range (Ch.length - 1)).map fun _ => true).all id = true := by simp
        rw [ea]
        exact q _ (s23.tr s4)
theorem ok_l_is_failing (T : Txt K mg) : FnOk P w K mg base CX0 4 T.d_l_is_failing.f T.d_l_is_failing.fd ["_law_world_here", "_law_starts", "_law_chain"] (fun vs H Q _ => ∃ (aw : Ad) (c : Cat) (ps p : Addr) (Ch : List Dm) (N : Nat) (x : En), vs = [.ref (aw .wp), .ref ps, .ref p] ∧ WorAt H aw c ∧ c.WF ∧ (∀ m ∈ c.mods, NmOk m) ∧ DmsAt H ps c.starts ∧ DmsAt H p Ch ∧ Ch.length ≤ 10000 ∧
    Chain c Ch x.d ∧ Ch.length = x.n ∧ (∀ z ∈ Ch, z.1 ∈ c.mods) ∧ (runB c N).length ≤ N ∧ x ∈ runB c N ∧ c.settle x.d = none ∧ (∀ y ∈ runB c N, c.settle y.d = none → x.n ≤ y.n) ∧ ∀ H', Sm H H' → Q (.bl true) H') := by
  have nd := sc_l_is_failing.nd
  refine T.d_l_is_failing.F.ok sc_l_is_failing (fun vs H Q E h => ?_) (fun cdv A outer s H vs Q E hr h => ?_)
  · obtain ⟨aw, c, ps, p, Ch, N, x, rfl, _⟩ := h; rfl
  · obtain ⟨aw, c, ps, p, Ch, N, x, rfl, h, wf, nm, hst, hch, hl, ⟨hlast, ⟨z0, hz0, hzs⟩, hadj⟩, hlx, hmod, hN, hxB, hxs, hmin, q⟩ := h
    have hu := hu_of hr
    have hu65 := hu65_of hr
    have hs : sizeLine = 16777216 := sizeLine_eq
    have hne : Ch ≠ [] := fun e => by rw [e] at hz0; cases hz0
    have hsm : ∀ z ∈ c.starts, NmOk z.1 := fun z hz => by
      obtain ⟨m, hm, rfl⟩ := List.mem_map.mp hz
      exact nm m hm
    refine ⟨_, (pss_cons (ps_if (PW.pt (pw_or (pt_not (pt_val (pcall (ok_l_is_chain T) T.d_l_is_chain.M (hr.mono (by decide)) (pa_cons (pv 0) (pa_cons (pv 2) pa_nil))))) (pw_or (pt_cmpR (r := rNotInD K) (op_notInD hu65) (pe_ix (r := rIxL K) ix_list (pv 2) pe_int (fun _ _ => rfl)) (pv 1) rfl) (pw_or1 (pt_cmp (pc_notN (pcall (ok_l_following T) T.d_l_following.M (hr.mono (by decide)) (pa_cons (pv 0) (pa_cons (pe_ix (r := rIxL K) ix_list (pv 2) (pe_un un_neg pe_int) (fun _ _ => rfl)) pa_nil))))))))) (pss_one (ps_ret pe_bl)) pss_nil)
      (pss_cons (ps_set (i := 3) nd rfl (.inr rfl) (pcall (ok_l_distances T) T.d_l_distances.M (hr.mono (by decide)) (pa_cons (pv 0) (pa_cons (pv 1) pa_nil))))
      (pss_one (ps_lock (ps_ret (pe_cmpR op_eq (pe_callB (r := rLenS K) (id := "len") call_lenS (by rfl) T.b_len (by decide +kernel) (pa_cons (pv 2) pa_nil)) (pe_callB (r := rMin K) (id := "min") (cr_min rfl) (by rfl) T.b_min (by decide +kernel) (pa_cons (pe_lc (own := [("_law_one", 4)]) (g := (gName 4)) rfl nd (pi_keys (pv 3)) (blkOk_by (N := N_l_is_failing) (sc := defScope s_l_is_failing) (by decide +kernel)) (fun _ _ _ _ _ => (pg_name (i := 4) nd rfl (.inl rfl))) (fun _ _ _ _ _ => (pts_one (pt_cmp (pc_isN (pcall (ok_l_following T) T.d_l_following.M (hr.mono (by decide)) (pa_cons (pv 0) (pa_cons (pv 4) pa_nil))))))) (fun _ _ _ _ _ => (pe_dget hu (pv 3) (pv 4) (fun _ _ => rfl)))) pa_nil)) (nomark _))))))), ?_⟩
    refine ⟨_, rfl, _, rfl, aw, c, p, Ch, rfl, h, wf, nm, hch, hne, hl, hmod, hadj, fun H1 s1 => ?_⟩
    refine ⟨true, rfl, ifF rfl ?_⟩
    obtain ⟨vs, hp0, hpp0⟩ := hch
    have hp := s1 _ _ hp0
    have hpp := paired_mono hpp0 fun _ _ z => DmAt.sm z s1
    obtain ⟨v0, e0, hv0⟩ : ∃ v, vs[0]? = some v ∧ DmAt H1 v z0 := by
      obtain ⟨v, h1, h2⟩ := LiI.paired_get (paired_flip hpp) hz0
      exact ⟨v, h1, h2⟩
    obtain ⟨sv, hs1, hs2⟩ := hst.sm s1
    obtain ⟨a0, rfl, ha0⟩ := hv0
    refine ⟨_, rfl, p, _, 0, _, rfl, rfl, SqL.of hp, atI_nat e0, _, rfl, _, _, dp_dm (d := z0) ⟨a0, rfl, ha0⟩, dp_dms (K := K) (SqL.of hs1) hs2, (lay_dm (hsm _ hzs)).sh, (lay_dms hsm).sh, _, rfl, ?_⟩
    refine ifF (by rw [any_dm, decT hzs]; rfl) ?_
    obtain ⟨vl, el, hvl⟩ : ∃ v, vs[Ch.length - 1]? = some v ∧ DmAt H1 v x.d := by
      rw [List.getLast?_eq_getElem?] at hlast
      exact LiI.paired_get (paired_flip hpp) hlast
    obtain ⟨al, rfl, hal⟩ := hvl
    have hvsl : vs.length = Ch.length := hpp.length
    have hxm : x.d.1 ∈ c.mods := (srch_run wf N).mods x hxB
    have h1 := h.sm s1
    have eat : atI vs (-1) = some (.ref al) := atI_end (by rw [hvsl]; exact el)
    refine ⟨_, rfl, _, rfl, 1, rfl, p, _, (-1), _, rfl, rfl, SqL.of hp, eat, aw, c, al, x.d, rfl, h1, wf, nm, hal, hxm, fun H2 v s2 hv => ?_⟩
    unfold FolAt at hv
    rw [hxs] at hv
    have hv : v = .non := hv
    subst hv
    refine ⟨_, rfl, ifF rfl ?_⟩
    have s12 := s1.tr s2
    refine ⟨_, rfl, _, rfl, aw, c, ps, rfl, h.sm s12, wf, nm, hst.sm s12, fun H3 d N3 s3 nd3 hd hN3 => ?_⟩
    have eB : runB c N3 = runB c N := runB_eq hN3 hN
    rw [eB] at hd
    have sr := srch_run wf N
    have s13 := s12.tr s3
    have nd0 : H d = none := s12.un nd3
    have hul := univ_len wf
    have hbl : (runB c N).length ≤ 5000 := Nat.le_trans (srch_len sr) hul
    generalize runB c N = B at *
    refine ⟨d, _, hd, trivial, fun o => ?_⟩
    have s4 : Sm H (upd H3 d (.frz o (.dT (B.map kvE)))) := s13.set nd0
    have hd4 : (upd H3 d (.frz o (.dT (B.map kvE)))) d = some (.frz o (.dT (B.map kvE))) := upd_same
    have n3 : ∀ H', Sm (upd H3 d (.frz o (.dT (B.map kvE)))) H' → Sm H (upd H' d (.dT (B.map kvE))) := fun H' s => (s4.tr s).set nd0
    generalize (upd H3 d (.frz o (.dT (B.map kvE)))) = H4 at *
    have hp4 : H4 p = some (.lst vs) := s4 _ _ hp0
    refine ⟨_, rfl, p, _, rfl, .inl (SqL.of hp4), ?_⟩
    refine ⟨_, rfl, d, o, rfl, .inr ⟨_, hd4, fun D nD => ?_⟩⟩
    have wk := walk_keysT (d := d) (o := o) (kvs := B.map kvE)
    rw [List.length_map] at wk
    refine lc_sm B wk (fun i H x H' y => by rw [y.1]; exact Sm.rf) nD (fun H' s => s _ _ hd4) (failP c) (fun y z _ => z = .int (y.n : Nat)) (fun _ _ _ _ _ r => r) (by omega) (fun i t z H5 H6 Pa Pb ht s5 s6 _ y ka kb => ?_) (fun H5 acc s5 hacc hpa => ?_)
    · obtain ⟨rfl, k, v, qa, hk, rfl, hqa⟩ := y
      rw [List.getElem?_map, ht] at hk
      cases hk
      have htm := sr.mods t (List.mem_of_getElem? ht)
      have hqa : H6 qa = some (.tup (dmV t.d)) := hqa
      refine ⟨rfl, _, rfl, _, rfl, aw, c, qa, t.d, rfl, h.sm (s4.tr s6), wf, nm, hqa, htm, fun H7 v s7 hv => ⟨_, rfl, ?_⟩⟩
      have s67 := s6.tr s7
      unfold FolAt at hv
      have ef : failP c t = (c.settle t.d).isNone := rfl
      cases es : c.settle t.d with
      | none =>
        rw [es] at hv ef
        have hv : v = .non := hv
        subst hv
        exact ifT rfl ⟨_, rfl, _, rfl, d, _, rfl, .inr ⟨B.map kvE, dmK t.d, qa, .inr ⟨o, s67 _ _ hd4⟩, rfl, s7 _ _ hqa, (val_kvE sr.nd (List.mem_of_getElem? ht)).symm⟩, ka _ _ s7 ef rfl⟩
      | some w =>
        rw [es] at hv ef
        obtain ⟨f, rfl, _, _⟩ := hv
        exact ifF rfl (kb _ s7 ef)
    · have e := paired_eq (f := fun y : En => V.int (y.n : Nat)) hpa
      subst e
      have hxf : x ∈ B.filter (failP c) := List.mem_filter.mpr ⟨hxB, by unfold failP; rw [hxs]; rfl⟩
      refine ⟨D, (B.filter (failP c)).map fun y => ((y.n : Nat) : Int), rfl, (by rw [List.map_map]; exact SqL.of hacc), by rw [List.length_map]; exact List.length_pos_of_mem hxf, fun m hm hle => ?_⟩
      refine ⟨rfl, ?_⟩
      obtain ⟨y, hy, rfl⟩ := List.mem_map.mp hm
      obtain ⟨hy1, hy2⟩ := List.mem_filter.mp hy
      have hyf : c.settle y.d = none := by unfold failP at hy2; simpa using hy2
      have l1 := hmin y hy1 hyf
      have l2 := hle _ (List.mem_map.mpr ⟨x, hxf, rfl⟩)
      have eq : ((vs.length : Nat) : Int) = ((y.n : Nat) : Int) := by omega
      rw [eq, decT rfl]
      exact ⟨s5 _ _ hd4, q _ (n3 _ s5)⟩
end
end Gs
/-! ## GsL14 -/
namespace Gs
open PySem PySem.Spec PyProof.Rows L2
section
variable {P : Program} {w : World} {K : PySem.W.Frag} {mg : Str → Option Value} {base : Heap}
theorem takes_len {X : Cx} {W : WX} (tk : Takes X W) : Takes X (fun cls d σ H => σ.length = X.N.length → W cls d σ H) := fun e s x => by
  refine tk e s ?_
  obtain ⟨a, B, sI, pins, σ, H, cls, d, h1, J, h2, h3, h4, h5, h6, h7, z⟩ := x
  exact ⟨a, B, sI, pins, σ, H, cls, d, h1, J, h2, h3, h4, h5, h6, h7, z J.len⟩
/-- told: what the lambda returned, or the chain of the exception that it raised -/
def TTout (T : Txt K mg) : (XK → Hp → VK → Prop) → Hp → VK → Prop := fun tl H Q => ∀ l0, H l0 = none → ∀ (Ech : XK) (k : VK),
  (∀ v H', (∀ l, H' l = none → Q (.ref l) (upd H' l (.lst [.str "returned", v]))) → k v H') →
  (∀ dd v H', H' dd = some (.xd [("chain", v)]) → (∀ l, H' l = none → Q (.ref l) (upd H' l (.lst [.str "none", v]))) → Ech (.ref T.N) (some dd) H') → tl Ech (upd H l0 (.lst [.str "other"])) k
theorem gives_out (T : Txt K mg) {cdv : Value} {A : Around} {outer : List Env} {s : Shared} {H : Hp} {E : XK} {N0 : List Str} {qual q : Str} {scope : Scope} {f : Addr} (g : Addr) (cdg : Value) :
    LamX.GivesTo (cxOf CX0 P w K mg base N0 qual scope f cdv A outer s H E).nox N_l_outcome "_law_outcome" (defScope s_l_outcome) g cdg (defBody s_l_outcome) "_law_call" q (TTout T) := by
  intro f c' s H Q tl act hc h
  have nd := sc_l_outcome.nd
  have hs : sizeLine = 16777216 := sizeLine_eq
  refine ⟨_, pss_cons (ps_set (i := 1) nd rfl (.inl rfl) (pe_lst (pa_cons pe_str pa_nil))) (pss_cons (ps_try_as1 (i := 2) (c := .ref T.N)
    (tb := fun W D σ H => ∃ Ech : XK, (∀ cls d σ' H', Ech cls d H' → σ'.length = 3 → W cls d σ' H') ∧ tAsg (tLst (tCons (tC (.str "returned")) (tCons (fun σZ HZ Q => σZ[0]? = some (some (.ref f)) ∧ HZ c' = some (LamX.CodeO c' q) ∧ tl Ech HZ Q) tNil))) (gName 1) D σ H)
    rfl rfl nd rfl rfl ⟨by rfl, by decide, .inl T.mgN⟩ (fun W pn xe tk _ => ?_) (fun a oe cls d pn hz hf => pss_one (ps_set (i := 1) nd rfl (.inl rfl) (pe_ifExp (pt_not (pt_val (pe_isD T.xc hz hf (by rfl) T.b_isinstance (pa_cons (pv 2) (pa_cons (pe_glob (v := .ref T.U) rfl T.mgU rfl) pa_nil))))) (pe_lst (pa_cons pe_str (pa_cons (pe_xf T.xf T.nCh hz hf (pv 2)) pa_nil))) (pe_lst (pa_cons pe_str pa_nil))))))
    (pss_one (ps_ret (pv 1)))), ?_⟩
  · refine ⟨fun pins s' σ H' D I h' => ?_⟩
    obtain ⟨Ech, hW, h3⟩ := h'
    exact (pss_one (ps_set (i := 1) nd rfl (.inl rfl) (pe_lst (pa_cons pe_str (pa_cons (act (fun cls d σ' H' => σ'.length = 3 → W cls d σ' H') pn xe Ech _ _ (takes_len tk) (fun cls d σ' H' e => hW cls d σ' H' e)) pa_nil))))).run pins s' σ H' D I h3
  · refine ⟨(by show 1 ≤ sizeLine; omega), fun l0 nl0 => ?_⟩
    refine ⟨fun cls dx H' => cls = .ref T.N ∧ ∃ dd v, dx = some dd ∧ H' dd = some (.xd [("chain", v)]) ∧ ∀ l, H' l = none → Q (.ref l) (upd H' l (.lst [.str "none", v])), ?_, ?_⟩
    · rintro cls d σ' H' ⟨rfl, dd, v, rfl, hd, hq⟩ hl
      refine ⟨T.xm, fun a na => ?_⟩
      obtain ⟨x0, x1, x2, rfl⟩ : ∃ x0 x1 x2, σ' = [x0, x1, x2] := by
        match σ', hl with
        | [x0, x1, x2], _ => exact ⟨x0, x1, x2, rfl⟩
      refine ⟨_, rfl, rfl, dd, rfl, _, .ref T.U, false, _, rfl, ?_, T.xu, hd, ?_⟩
      · intro u r
        exact r
      · exact ⟨false, rfl, ifT rfl ⟨_, rfl, rfl, rfl, dd, _, v, rfl, hd, rfl, (by show 2 ≤ sizeLine; omega), fun l nl => ⟨_, rfl, hq l nl⟩⟩⟩
    · refine ⟨rfl, (upd_ne (ne_of_none hc nl0)).trans hc, h l0 nl0 _ _ (fun v H' e => ⟨(by show 2 ≤ sizeLine; omega), fun l nl => ⟨_, rfl, e l nl⟩⟩) fun dd v H' e1 e2 => ⟨rfl, dd, v, rfl, e1, e2⟩⟩
end
end Gs
/-! ## GsClr -/
/-! xs.clear() of a list. -/
namespace Gs
open PySem PySem.Spec PyProof.Rows L2
def rLClear : V → List V → Hp → VK → Prop := fun x vs H Q => ∃ (l : Addr) (xs : List V), x = .ref l ∧ vs = [] ∧ H l = some (.lst xs) ∧ Q .non (upd H l (.lst []))
theorem mt_lclear {X : Cx} : MtR X "list.clear" rLClear := by
  intro pins s σ H x vs v us Q I rx rv h
  obtain ⟨l, xs, rfl, rfl, hl, q⟩ := h
  cases rx
  have hus := rv.zero
  subst hus
  obtain ⟨z, its, n, r, len, e⟩ := I.lstM hl
  refine call_meets F.slot_list_clear ⟨_, e, rfl⟩ F.entry_list_clear (F.args_list_clear_1 _) (PySem.AutoSeq1.list_clear_list_0 l its.toArray n (by rw [List.size_toArray]; omega)) ⟨e, ?_⟩
  exact ⟨.non, _, I.lset (its' := []) hl e (by simp) .nil (Nat.zero_le _), rfl, q⟩
section
variable {X : Cx} {o : Expr} {to : TE} {apos cpos : Pos}
theorem pe_lclear (ho : PE X o to) (hbase : attributeBase o "clear" X.env (eval o X.env) = eval o X.env := by rfl) (hline : (apos.endLine == cpos.line) = true := by rfl) : PE X (.Call (.Attribute o "clear" apos) [] [] cpos) (tBM0 X.K "list" rLClear to) :=
  pe_bm0 F.plainAttrs_list F.slot_list_clear F.type_list_clear mt_lclear ho hbase hline
end
end Gs
/-! ## GsL15 -/
namespace Gs
open PySem PySem.Spec PyProof.Rows L2
section
variable {P : Program} {w : World} {K : PySem.W.Frag} {mg : Str → Option Value} {base : Heap}
/-- a def that makes a lambda and asks for repr -/
theorem okGL {x qual : Str} {st : Stmt} {f c : Addr} {fd : FuncData} {N ps : List Str} {k : Nat} {sp : Sp} (F : Fun K x qual st f fd) (hc : fd.code = .ref c) (S : FnScope N ps (defScope st)) (len : ∀ vs H Q E, sp vs H Q E → vs.length = ps.length)
    (hbody : ∀ (A : Around) (outer : List Env) (s : Shared) (H : Hp) (vs : List V) (Q : VK) (E : XK), Room k (A.deeper (envOfC qual (defScope st) s.heap.objs.size f (.ref c))) → (A.deeper (envOfC qual (defScope st) s.heap.objs.size f (.ref c))).guards = some [] → sp vs H Q E →
      ∃ t, PSs (cxOf CX0 P w K mg base N qual (defScope st) f (.ref c) A outer s H E).nox (defBody st) t ∧ t { nx := fun _ H' => Q .non H', rt := Q } (L2.start N vs) H) : FnOkG P w K mg base (k + 1) f fd ps sp := by
  obtain ⟨oc, od, kV, doc, pm, an, cdv, ct, osl, rfl, lk, hcd⟩ := F.ex
  have e : cdv = .ref c := hc
  subst e
  exact ⟨len, fun A outer s H args us vs Q E hr hg e0 hb r hsp => LamX.run_ofS lk hcd S hr e0 hb r (len _ _ _ _ hsp) fun hr' => let ⟨t, h, q⟩ := hbody A outer s H vs Q E hr' hg hsp; ⟨t, h.nox, q⟩⟩
theorem uniqR {T : Txt K mg} (l : Lx T) : ∀ z ∈ l.T, z.1 = l.pR → z.2 = "_law_is_right.<locals>.<lambda>" := fun z hz e => by
  rcases List.mem_cons.mp hz with rfl | hz
  · exact absurd e l.ne
  · rw [List.mem_singleton.mp hz]
theorem tabs_set {T : List (Addr × Str)} {H : Hp} {p : Addr} {o0 o : HO} (t : LamX.Tabs T H) (hp : H p = some o0) (h1 : ∀ ps, o0 ≠ .tbl ps) (h2 : ∀ c q, o0 ≠ LamX.CodeO c q) : LamX.Tabs T (upd H p o) := fun z hz => by
  obtain ⟨ps, e1, e2, e3⟩ := t z hz
  refine ⟨ps, ?_, e2, fun pos cv hc => ?_⟩
  · rw [upd_ne fun e => ?_]
    · exact e1
    · rw [e, hp] at e1
      exact h1 _ (Option.some.inj e1)
  · obtain ⟨c, e4, e5⟩ := e3 pos cv hc
    refine ⟨c, e4, ?_⟩
    rw [upd_ne fun e => ?_]
    · exact e5
    · rw [e, hp] at e5
      exact h2 _ _ (Option.some.inj e5)
theorem Kc.setN {H H' : Hp} {p : Addr} {o : HO} (k : Kc H H') (n : Nw H p) : Kc H (upd H' p o) := fun b u e nt => by
  rw [upd_ne (n.ne e nt)]
  exact k b u e nt
theorem IntsAt.kc {H H' : Hp} {v : V} {xs : List Int} (h : IntsAt H v xs) (k : Kc H H') : IntsAt H' v xs := let ⟨a, e, z⟩ := h; ⟨a, e, k _ _ z fun _ q => nomatch q⟩
theorem dp_ints_tup {H : Hp} : ∀ {vs : List V} {l : List (List Int)}, Paired (IntsAt H) vs l → DpAll K H vs (l.map fun xs => .tuple (xs.map .int))
  | _, _, .nil => .nil
  | _, _, .cons h t => by
    obtain ⟨a, rfl, e⟩ := h
    exact .cons (.tup (SqT.of e) (dp_ints_all _)) (dp_ints_tup t)
theorem lay_states (l : List (List Int)) : Lay 2 (.list (l.map fun xs => .tuple (xs.map .int))) := lay_list fun x hx => by
  obtain ⟨xs, _, rfl⟩ := List.mem_map.mp hx
  exact lay_tup fun d hd => by
    obtain ⟨i, _, rfl⟩ := List.mem_map.mp hd
    exact lay_int i
theorem up_mem {B : List En} {o : Option Dm} {L : List Dm} (u : Up B o L) : ∀ z ∈ L, ∃ x ∈ B, x.d = z := by
  induction u with
  | nil => intro z hz; cases hz
  | @cons x l hx _ ih =>
    intro z hz
    rcases List.mem_cons.mp hz with rfl | hz
    · exact ⟨x, hx, rfl⟩
    · exact ih z hz
def mK (c : Cat) (g : Nm → Int) : RM := c.mods.map fun m => (m, g m)
theorem mapK_mK {c : Cat} {g : Nm → Int} : mapK (mK c g) = stK c g := by
  unfold mapK mK stK
  rw [List.map_map]
  rfl
theorem small_st {c : Cat} {g : Nm → Int} (wf : c.WF) (nm : ∀ m ∈ c.mods, NmOk m) (hg : c.Cons g) : small (mK c g) := by
  refine ⟨by unfold mK; rw [List.length_map]; exact wf.few, fun q hq => ?_⟩
  obtain ⟨m, hm, rfl⟩ := List.mem_map.mp hq
  have h1 := (Cat.mem_there.mp (hg.1 m hm)).1
  have h2 := wf.c16 m hm
  have h3 := nm m hm
  refine ⟨h3.2.1, fun z hz => ?_, h1.1, ?_⟩
  · have := h3.2.2 z hz
    omega
  · show g m < 17
    omega
theorem ok_l_is_right (T : Txt K mg) (l : Lx T) (TB : LamX.TabB base mg l.cF l.pF) (TBR : LamX.TabB base mg l.cR l.pR) : FnOkG P w K mg base 14 T.d_l_is_right.f T.d_l_is_right.fd ["_law_catalog", "_law_world_here"] (fun vs H Q _ => ∃ (ad aw : Ad) (rn : Nat) (c : Cat), vs = [.ref (ad .cp), .ref (aw .wp)] ∧ Rd0 T H ad rn c ∧ WorAt H aw c ∧ c.mods.length ≤ 4 ∧ LamX.Tabs l.T H ∧
    ∀ H', Kc H H' → LamX.Tabs l.T H' → Q (.bl true) H') := by
  have nd := sc_l_is_right.nd
  refine okGL T.d_l_is_right.F l.hR sc_l_is_right (fun vs H Q E h => ?_) (fun A outer s H vs Q E hr hgd h => ?_)
  · obtain ⟨ad, aw, rn, c, rfl, _⟩ := h; rfl
  · obtain ⟨ad, aw, rn, c, rfl, h, hw, h4, ht, q⟩ := h
    have hu := hu_of hr
    have hu64 := hu64_of hr
    have hu10 : (A.deeper (envOfC "_law_is_right" (defScope s_l_is_right) s.heap.objs.size T.d_l_is_right.f (.ref l.cR))).units + 10 < cLine := by
      have := hr.un
      omega
    have hs : sizeLine = 16777216 := sizeLine_eq
    have wf := h.wf
    have nm := h.nm
    obtain ⟨oc, od, kV, doc, pm, an, cdv, ct, osl, efd, lk, hcd⟩ := T.d_l_outcome.F.ex
    have lk2 := lk
    have hB := T.d_l_outcome.B
    rw [efd] at lk2 hB
    by_cases hA : allS c = []
    · refine ⟨_, (pss_cons (ps_asg (pe_tup (pa_cons (pcall (ok_l_states T) T.d_l_states.M (hr.mono (by decide)) (pa_cons (pv 1) pa_nil)) (pa_cons (pe_lc (own := [("_law_name_here", 7)]) (tt := tYes) (g := (gName 7)) rfl nd (pi_listK (K := K) rfl (pe_dget hu (pv 1) pe_str (fun _ _ => rfl))) (blkOk_by (N := N_l_is_right) (sc := defScope s_l_is_right) (by decide +kernel)) (fun _ _ _ _ _ => (pg_name (i := 7) nd rfl (.inl rfl))) (fun _ _ _ _ _ => pts_nil) (fun _ _ _ _ _ => (pe_tup (pa_cons (pv 7) (pa_cons pe_int pa_nil))))) pa_nil))) (pg_tup rfl (pgs_cons (pg_name (i := 2) nd rfl (.inr rfl)) (pgs_cons (pg_name (i := 3) nd rfl (.inr rfl)) pgs_nil))))
      (pss_cons (ps_for PassesOwn.never rfl (pi_range1 (by rfl) T.b_range (pa_cons pe_int pa_nil)) (pg_name (i := 4) nd rfl (.inl rfl))
      (pss_cons (ps_set (i := 5) nd rfl (.inl rfl) (pe_lst (pa_cons (LamX.pe_lamcall (T := l.T) (TT := TTout T) (k := 11) (c := l.cR) (P := l.pR) (by rfl) T.d_l_outcome.M T.d_l_outcome.kp lk2 hcd hB sc_l_outcome rfl (.inl rfl) (gives_out T _ _) TBR rfl (.tail _ (.head _)) (uniqR l) hr (LamX.lamS_by (sc := defScope s_l_is_right) (by decide +kernel)) rfl (fun _ _ _ _ _ => rfl) (fun A outer s H E f c' hr => (pe_call (ok_least_state T l TB) (hr.mono (by decide)) (by rfl) T.d_least_state.M T.d_least_state.kp T.d_least_state.B .nil (passes_call (takes_of rfl rfl rfl rfl) (fun _ _ _ _ h => h)) (pa_cons (pv 0) pa_nil) (by decide) (by rfl) (by rfl)))) pa_nil)))
      (pss_cons (ps_expr (pe_bmK (K := K) rfl PySem.F.plainAttrs_list PySem.F.slot_list_append PySem.F.type_list_append mt_append (pv 5) (pa_cons (LamX.pe_lamcall (T := l.T) (TT := TTout T) (k := 11) (c := l.cR) (P := l.pR) (by rfl) T.d_l_outcome.M T.d_l_outcome.kp lk2 hcd hB sc_l_outcome rfl (.inl rfl) (gives_out T _ _) TBR rfl (.tail _ (.head _)) (uniqR l) hr (LamX.lamS_by (sc := defScope s_l_is_right) (by decide +kernel)) rfl (fun _ _ _ _ _ => rfl) (fun A outer s H E f c' hr => (pe_call (ok_greatest_state T l TB) (hr.mono (by decide)) (by rfl) T.d_greatest_state.M T.d_greatest_state.kp T.d_greatest_state.B .nil (passes_call (takes_of rfl rfl rfl rfl) (fun _ _ _ _ h => h)) (pa_cons (pv 0) pa_nil) (by decide) (by rfl) (by rfl)))) pa_nil)))
      (pss_cons (ps_if (pt_cmpR (op_eqD hu64) (pv 2) (pe_lst pa_nil) (nomark _)) (pss_one (ps_if (pt_not (pt_val (pe_callB (r := rAll K) (id := "all") (cr_all rfl) (by rfl) T.b_all (by decide +kernel) (pa_cons (pe_lc (own := [("_law_one", 9)]) (tt := tYes) (g := (gName 9)) rfl nd (pi_listK (K := K) rfl (pv 5)) (blkOk_by (N := N_l_is_right) (sc := defScope s_l_is_right) (by decide +kernel)) (fun _ _ _ _ _ => (pg_name (i := 9) nd rfl (.inl rfl))) (fun _ _ _ _ _ => pts_nil) (fun _ _ _ _ _ => (pe_and (pe_cmpR op_eq (pe_ix (r := rIxL K) ix_list (pv 9) pe_int (fun _ _ => rfl)) pe_str (nomark _)) (pe_one (pcall (ok_l_is_failing T) T.d_l_is_failing.M (hr.mono (by decide)) (pa_cons (pv 1) (pa_cons (pv 3) (pa_cons (pe_ix (r := rIxL K) ix_list (pv 9) pe_int (fun _ _ => rfl)) pa_nil)))))))) pa_nil)))) (pss_one (ps_ret pe_bl)) pss_nil)) (pss_cons (ps_setLc (i := 6) (own := [("_law_sign", 8)]) (tt := tYes) (g := (gName 8)) rfl nd rfl rfl (sw_true rfl rfl rfl (by decide +kernel)) (pi_tupK (K := K) rfl (pe_tup (pa_cons pe_int (pa_cons (pe_un un_neg pe_int) pa_nil)))) (blkOk_by (N := N_l_is_right) (sc := defScope s_l_is_right) (by decide +kernel)) (fun _ _ _ _ _ => (pg_name (i := 8) nd rfl (.inl rfl))) (fun _ _ _ _ _ => pts_nil) (fun _ _ _ _ _ => (pcall (ok_l_as_dict T) T.d_l_as_dict.M (hr.mono (by decide)) (pa_cons (pv 1) (pa_cons (pcall (ok_l_bound T) T.d_l_bound.M (hr.mono (by decide)) (pa_cons (pv 2) (pa_cons (pv 8) pa_nil))) pa_nil)))))
      (pss_one (ps_if (pt_cmpR op_ne (pe_callB (id := "repr") (call_reprT hgd hu10) (by rfl) T.b_repr (by decide +kernel) (pa_cons (pv 5) pa_nil)) (pe_callB (id := "repr") (call_reprT hgd hu10) (by rfl) T.b_repr (by decide +kernel) (pa_cons (pe_lc (own := [("_law_one", 9)]) (tt := tYes) (g := (gName 9)) rfl nd (pi_listK (K := K) rfl (pv 6)) (blkOk_by (N := N_l_is_right) (sc := defScope s_l_is_right) (by decide +kernel)) (fun _ _ _ _ _ => (pg_name (i := 9) nd rfl (.inl rfl))) (fun _ _ _ _ _ => pts_nil) (fun _ _ _ _ _ => (pe_lst (pa_cons pe_str (pa_cons (pv 9) pa_nil))))) pa_nil)) (nomark _)) (pss_one (ps_ret pe_bl)) pss_nil))))
      (pss_cons (ps_expr (pe_lclear (pe_ix (r := rIxL K) ix_list (pe_ix (r := rIxL K) ix_list (pv 5) pe_int (fun _ _ => rfl)) pe_int (fun _ _ => rfl))))
      (pss_one (ps_expr (pe_lclear (pe_ix (r := rIxL K) ix_list (pe_ix (r := rIxL K) ix_list (pv 5) pe_int (fun _ _ => rfl)) pe_int (fun _ _ => rfl))))))))))
      (pss_one (ps_ret pe_bl)))), ?_⟩
      refine ⟨_, rfl, aw, c, rfl, hw, wf, h4, nm, fun H1 F refs s1 nF hF hFp => ?_⟩
      have hw1 := hw.sm s1
      refine ⟨_, rfl, aw .wp, _, rfl, hw1.g_ml, aw .ml, rfl, ⟨_, SqL.of hw1.ml⟩, fun S nS => ?_⟩
      have wk := walk_list (K := K) (a := aw .ml) (xs := c.mods.map V.str)
      rw [List.length_map] at wk
      refine lc_smY c.mods wk (fun i H x H' y => sm_YAt y) nS (fun H' s => SqL.of (s _ _ hw1.ml)) (fun m y H => ∃ a, y = .ref a ∧ a ≠ S ∧ H a = some (.tup (dmV (m, 0)))) (fun t y H4 H5 o r => let ⟨a, e1, e2, e3⟩ := r; ⟨a, e1, e2, o _ _ e3 e2⟩) (by omega) (fun i m x H3 H4 Pa hm s3 s4 hS y ka => ?_) (fun H2 acc s2 hacc hpa => ?_)
      · obtain ⟨rfl, hx⟩ := y
        have hx := pick1 hm hx
        subst hx
        obtain ⟨ac, hS⟩ := hS
        exact ⟨rfl, _, rfl, (by show 2 ≤ sizeLine; omega), fun b nb => ka _ _ (Sm.rf.up nb) ⟨b, rfl, (ne_of_none hS nb).symm, upd_same⟩⟩
      · have s2 : Sm H1 H2 := s2
        have hst : DmsAt H2 S c.starts := ⟨acc, hacc, paired_mapL hpa fun m y ⟨a, e1, _, e3⟩ => ⟨a, e1, e3⟩⟩
        refine ⟨(by show 2 ≤ sizeLine; omega), fun tp ntp => ?_⟩
        have s3 : Sm H2 (upd H2 tp (.tup [.ref F, .ref S])) := Sm.rf.up ntp
        refine ⟨tp, _, rfl, SqT.of upd_same, rfl, _, _, rfl, _, _, rfl, rfl, ?_⟩
        have s13 := s2.tr s3
        have s03 := s1.tr s13
        have hst3 := hst.sm s3
        have hF3 := s13 _ _ hF
        have hFp3 := paired_mono hFp fun _ _ z => IntsAt.sm z s13
        have ht3 := ht.ext s03
        generalize (upd H2 tp (.tup [.ref F, .ref S])) = H3 at s03 hst3 hF3 hFp3 ht3 ⊢
        refine ⟨2, rfl, by decide, by decide, ?_⟩
        have wk2 := walk_range (lo := 0) (n := 2)
        refine for_it wk2 (fun i σ H' => Kc H3 H' ∧ LamX.Tabs l.T H' ∧ ∃ x4 x5 x6 x7 x8 x9, σ = [some (.ref (ad .cp)), some (.ref (aw .wp)), some (.ref F), some (.ref S), x4, x5, x6, x7, x8, x9]) ⟨Kc.rf, ht3, _, _, _, _, _, _, rfl⟩ (fun _ _ _ _ _ => trivial) (fun i x σ H4 H5 hi p y => ?_) (fun σ H4 p => ?_)
        · obtain ⟨k4, t4, x4, x5, x6, x7, x8, x9, rfl⟩ := p
          obtain ⟨rfl, rfl⟩ := y
          have k5 : Kc H H5 := (Kc.of s03).tr k4
          refine ⟨t4, fun H6 e6 t6 l0 nl0 Ech k hret hraise => ?_⟩
          have k6 : Kc H5 (upd H6 l0 (.lst [.str "other"])) := Kc.tr (show Kc H5 H6 from e6) (Kc.of (Sm.rf.up nl0))
          have t7 : LamX.Tabs l.T (upd H6 l0 (.lst [.str "other"])) := t6.ext (Sm.rf.up nl0)
          generalize (upd H6 l0 (.lst [.str "other"])) = H7 at k6 t7 ⊢
          refine ⟨_, rfl, ad, rn, c, rfl, h.kc (k5.tr k6), t7, fun H8 p1 g1 k8 t8 nw1 hls hp1 => absurd hls.co ((allS_nil wf).mp hA _), fun H8 p1 d1 L1 z1 N1 k8 t8 ns1 => ?_⟩
          refine hraise _ _ _ ns1.dx fun l1 nl1 => ?_
          obtain ⟨v1, hp1, hpp1⟩ := ns1.at_
          have nw1 := ns1.nw
          refine ⟨(by show 1 ≤ sizeLine; omega), fun L5 nL5 => ?_⟩
          have s10 : Sm H8 (upd (upd H8 l1 (.lst [.str "none", .ref p1])) L5 (.lst [.ref l1])) := (Sm.rf.up nl1).up nL5
          have hL5 : (upd (upd H8 l1 (.lst [.str "none", .ref p1])) L5 (.lst [.ref l1])) L5 = some (.lst [.ref l1]) := upd_same
          have h1l : (upd (upd H8 l1 (.lst [.str "none", .ref p1])) L5 (.lst [.ref l1])) l1 = some (.lst [.str "none", .ref p1]) := (upd_ne (ne_of_none upd_same nL5)).trans upd_same
          have h1p := s10 _ _ hp1
          have k10 := (k6.tr k8).tr (Kc.of s10)
          have t10 := t8.ext s10
          have e1L := ne_of_none (show (upd H8 l1 (.lst [.str "none", .ref p1])) l1 = _ from upd_same) nL5
          have e1p : p1 ≠ L5 := ne_of_none ((Sm.rf.up nl1) _ _ hp1) nL5
          have hpp1b := paired_mono hpp1 fun _ _ z => DmAt.sm z s10
          generalize (upd (upd H8 l1 (.lst [.str "none", .ref p1])) L5 (.lst [.ref l1])) = H10 at s10 hL5 h1l h1p k10 t10 hpp1b ⊢
          refine ⟨_, rfl, .inl ⟨rfl, _, .inl (.inl hL5)⟩, t10, fun H11 e11 t11 l0' nl0' Ech' k' hret' hraise' => ?_⟩
          have k12 : Kc H10 (upd H11 l0' (.lst [.str "other"])) := Kc.tr (show Kc H10 H11 from e11) (Kc.of (Sm.rf.up nl0'))
          have t12 : LamX.Tabs l.T (upd H11 l0' (.lst [.str "other"])) := t11.ext (Sm.rf.up nl0')
          generalize (upd H11 l0' (.lst [.str "other"])) = H12 at k12 t12 ⊢
          refine ⟨_, rfl, ad, rn, c, rfl, h.kc ((k5.tr k10).tr k12), t12, fun H13 p2 g2 k13 t13 nw2 hc2 hmax hp2 => absurd hc2 ((allS_nil wf).mp hA _), fun H13 p2 d2 L2 z2 N2 k13 t13 ns2 => ?_⟩
          refine hraise' _ _ _ ns2.dx fun l2 nl2 => ?_
          obtain ⟨v2, hp2, hpp2⟩ := ns2.at_
          have nw2 := ns2.nw
          have k1013 := k12.tr k13
          have hL5b := k1013 _ _ hL5 fun _ z => nomatch z
          have s14 : Sm H13 (upd H13 l2 (.lst [.str "none", .ref p2])) := Sm.rf.up nl2
          refine ⟨L5, [.ref l1], _, rfl, rfl, s14 _ _ hL5b, (by show 1 < sizeLine; omega), ?_⟩
          have e2L : l2 ≠ L5 := (ne_of_none hL5b nl2).symm
          have nw2b := nw2.back k12
          have e2p : p2 ≠ L5 := (nw2b.ne hL5 fun _ z => nomatch z).symm
          have ep12 : p1 ≠ p2 := nw2b.ne h1p fun _ z => nomatch z
          have e21 : l2 ≠ p1 := (ne_of_none (k1013 _ _ h1p fun _ z => nomatch z) nl2).symm
          have kAll : ∀ b o, H10 b = some o → (∀ ps, o ≠ .tbl ps) → b ≠ L5 → (upd (upd H13 l2 (.lst [.str "none", .ref p2])) L5 (.lst ([.ref l1] ++ [.ref l2]))) b = some o := fun b o e n ne => by
            rw [upd_ne ne]
            exact s14 _ _ (k1013 _ _ e n)
          have hL5c : (upd (upd H13 l2 (.lst [.str "none", .ref p2])) L5 (.lst ([.ref l1] ++ [.ref l2]))) L5 = some (.lst [.ref l1, .ref l2]) := upd_same
          have f1l := kAll _ _ h1l (fun _ z => nomatch z) e1L
          have f1p := kAll _ _ h1p (fun _ z => nomatch z) e1p
          have f2l : (upd (upd H13 l2 (.lst [.str "none", .ref p2])) L5 (.lst ([.ref l1] ++ [.ref l2]))) l2 = some (.lst [.str "none", .ref p2]) := (upd_ne e2L).trans upd_same
          have f2p : (upd (upd H13 l2 (.lst [.str "none", .ref p2])) L5 (.lst ([.ref l1] ++ [.ref l2]))) p2 = some (.lst v2) := (upd_ne e2p).trans (s14 _ _ hp2)
          have nL5H5 : Nw H5 L5 := Nw.back ((k6.tr k8).tr (Kc.of (Sm.rf.up nl1))) (.of nL5)
          have k15 : Kc H5 (upd (upd H13 l2 (.lst [.str "none", .ref p2])) L5 (.lst ([.ref l1] ++ [.ref l2]))) := ((k10.tr k1013).tr (Kc.of s14)).setN nL5H5
          have t15 : LamX.Tabs l.T (upd (upd H13 l2 (.lst [.str "none", .ref p2])) L5 (.lst ([.ref l1] ++ [.ref l2]))) := tabs_set ((t13.ext s14)) (s14 _ _ hL5b) (fun _ z => nomatch z) (fun _ _ z => nomatch z)
          have nwp1 : Nw H5 p1 := nw1.back k6
          have nwp2 : Nw H5 p2 := nw2.back (k10.tr k12)
          have tk1 : ∀ b xs, H10 b = some (.tup xs) → (upd (upd H13 l2 (.lst [.str "none", .ref p2])) L5 (.lst ([.ref l1] ++ [.ref l2]))) b = some (.tup xs) := fun b xs e => kAll _ _ e (fun _ z => nomatch z) (ne_of e hL5 fun z => nomatch z)
          have tk2 : ∀ b xs, H13 b = some (.tup xs) → (upd (upd H13 l2 (.lst [.str "none", .ref p2])) L5 (.lst ([.ref l1] ++ [.ref l2]))) b = some (.tup xs) := fun b xs e => by
            rw [upd_ne (ne_of e hL5b fun z => nomatch z)]
            exact s14 _ _ e
          have g1 : DmsAt (upd (upd H13 l2 (.lst [.str "none", .ref p2])) L5 (.lst ([.ref l1] ++ [.ref l2]))) p1 L1.reverse := ⟨v1, f1p, paired_mono hpp1b fun _ _ z => z.keep tk1⟩
          have g2 : DmsAt (upd (upd H13 l2 (.lst [.str "none", .ref p2])) L5 (.lst ([.ref l1] ++ [.ref l2]))) p2 L2.reverse := ⟨v2, f2p, paired_mono hpp2 fun _ _ z => z.keep tk2⟩
          generalize (upd (upd H13 l2 (.lst [.str "none", .ref p2])) L5 (.lst ([.ref l1] ++ [.ref l2]))) = HH at hL5c f1l f1p f2l f2p k15 t15 g1 g2 ⊢
          have k315 := k4.tr k15
          have hF4 := k315 _ _ hF3 fun _ z => nomatch z
          have hFp4 := paired_mono hFp3 fun _ _ z => IntsAt.kc z k315
          refine ⟨_, rfl, (by show 0 ≤ sizeLine; omega), fun e0 ne0 => ?_⟩
          have s16 : Sm HH (upd HH e0 (.lst [])) := Sm.rf.up ne0
          refine ⟨_, _, .lst (SqL.of (s16 _ _ hF4)) (dp_ints_tup (paired_mono hFp4 fun _ _ z => z.sm s16)), dp_nil upd_same, (lay_states _).sh, lay_nil.sh, _, rfl, ?_⟩
          generalize (upd HH e0 (.lst [])) = HI at s16 ⊢
          have k3I := k315.tr (Kc.of s16)
          have k0I := (Kc.of s03).tr k3I
          refine ifT (by rw [eqv_nil]; simp [hA]) ?_
          have hstI : DmsAt HI S c.starts := hst3.kc k3I
          have hwI := hw.kc k0I
          have hL5i := s16 _ _ hL5c
          have key : ∀ z ∈ [(l1, p1), (l2, p2)], ∃ (L : List Dm) (N : Nat) (x : En), HI z.1 = some (.lst [.str "none", .ref z.2]) ∧ DmsAt HI z.2 L.reverse ∧ Up (runB c N) (some x.d) L ∧ L.length ≤ 10000 ∧ (runB c N).length ≤ N ∧ (runB c N).find? (failP c) = some x := fun z hz => by
            rcases List.mem_cons.mp hz with rfl | hz
            · exact ⟨L1, N1, z1, s16 _ _ f1l, g1.sm s16, ns1.up, ns1.few, ns1.len, ns1.fst⟩
            · rw [List.mem_singleton.mp hz]
              exact ⟨L2, N2, z2, s16 _ _ f2l, g2.sm s16, ns2.up, ns2.few, ns2.len, ns2.fst⟩
          refine ⟨_, rfl, L5, rfl, ⟨_, SqL.of hL5i⟩, fun D nD => ?_⟩
          have wk3 := walk_list (K := K) (a := L5) (xs := [V.ref l1, V.ref l2])
          refine lc_smY [(l1, p1), (l2, p2)] wk3 (fun i H x H' y => sm_YAt y) nD (fun H' s => SqL.of (s _ _ hL5i)) (fun _ y _ => y = .bl true) (fun _ _ _ _ _ r => r) (by show 2 < sizeLine; omega) (fun i z x HA HB Pa hz sa sb _ y ka => ?_) (fun HA acc sa hacc hpa => ?_)
          · obtain ⟨rfl, hx⟩ := y
            have hx := pick1 (f := fun z : Addr × Addr => V.ref z.1) hz hx
            subst hx
            obtain ⟨L, N, e, z1, z2, z3, z4, z5, z6⟩ := key z (List.mem_of_getElem? hz)
            have sr := srch_run wf N
            obtain ⟨q1, q2, q3⟩ := fst_least sr z6
            obtain ⟨c1, c2⟩ := up_chain sr z3 e q1 rfl
            have hmod : ∀ y ∈ L.reverse, y.1 ∈ c.mods := fun y hy => by
              obtain ⟨b, hb, rfl⟩ := up_mem z3 y (List.mem_reverse.mp hy)
              exact sr.mods b hb
            refine ⟨rfl, _, rfl, z.1, _, 0, _, rfl, rfl, SqL.of (sb _ _ z1), at0, rfl, ?_⟩
            refine ⟨true, rfl, iteT ⟨_, rfl, _, rfl, _, rfl, z.1, _, 1, _, rfl, rfl, SqL.of (sb _ _ z1), at1, aw, c, S, z.2, L.reverse, N, e, rfl, hwI.sm sb, wf, nm, hstI.sm sb, z2.sm sb, by rw [List.length_reverse]; exact z4, c1, by rw [List.length_reverse]; exact c2, hmod, z5, q1, q2, q3, fun HC sc => ?_⟩⟩
            exact ka _ _ sc rfl
          · have e := paired_eq (f := fun _ : Addr × Addr => V.bl true) hpa
            subst e
            have sa : Sm HI HA := sa
            refine ⟨D, [true, true], rfl, SqL.of hacc, true, rfl, ifF rfl ?_⟩
            obtain ⟨w1, hw1, _⟩ := (g1.sm s16).sm sa
            obtain ⟨w2, hw2, _⟩ := (g2.sm s16).sm sa
            have a5 := sa _ _ hL5i
            have a1 := sa _ _ (s16 _ _ f1l)
            have a2 := sa _ _ (s16 _ _ f2l)
            have kA : Kc H5 HA := k15.tr (Kc.of (s16.tr sa))
            have tA : LamX.Tabs l.T HA := t15.ext (s16.tr sa)
            refine ⟨_, rfl, L5, _, 0, _, rfl, rfl, SqL.of a5, at0, l1, _, 1, _, rfl, rfl, SqL.of a1, at1, .inl ⟨rfl, _, .inl (.inl hw1)⟩, p1, w1, rfl, rfl, hw1, ?_⟩
            have b5 : (upd HA p1 (.lst [])) L5 = _ := (upd_ne e1p.symm).trans a5
            have b2 : (upd HA p1 (.lst [])) l2 = _ := (upd_ne e21).trans a2
            have bw : (upd HA p1 (.lst [])) p2 = _ := (upd_ne ep12.symm).trans hw2
            refine ⟨_, rfl, L5, _, 1, _, rfl, rfl, SqL.of b5, at1, l2, _, 1, _, rfl, rfl, SqL.of b2, at1, .inl ⟨rfl, _, .inl (.inl bw)⟩, p2, w2, rfl, rfl, bw, ?_⟩
            exact ⟨k4.tr ((kA.setN nwp1).setN nwp2), tabs_set (tabs_set tA hw1 (fun _ z => nomatch z) (fun _ _ z => nomatch z)) bw (fun _ z => nomatch z) (fun _ _ z => nomatch z), _, _, _, _, _, _, rfl⟩
        · obtain ⟨k4, t4, x4, x5, x6, x7, x8, x9, rfl⟩ := p
          exact q _ ((Kc.of s03).tr k4) t4
    · refine ⟨_, (pss_cons (ps_asg (pe_tup (pa_cons (pcall (ok_l_states T) T.d_l_states.M (hr.mono (by decide)) (pa_cons (pv 1) pa_nil)) (pa_cons (pe_lc (own := [("_law_name_here", 7)]) (tt := tYes) (g := (gName 7)) rfl nd (pi_listK (K := K) rfl (pe_dget hu (pv 1) pe_str (fun _ _ => rfl))) (blkOk_by (N := N_l_is_right) (sc := defScope s_l_is_right) (by decide +kernel)) (fun _ _ _ _ _ => (pg_name (i := 7) nd rfl (.inl rfl))) (fun _ _ _ _ _ => pts_nil) (fun _ _ _ _ _ => (pe_tup (pa_cons (pv 7) (pa_cons pe_int pa_nil))))) pa_nil))) (pg_tup rfl (pgs_cons (pg_name (i := 2) nd rfl (.inr rfl)) (pgs_cons (pg_name (i := 3) nd rfl (.inr rfl)) pgs_nil))))
      (pss_cons (ps_for PassesOwn.never rfl (pi_range1 (by rfl) T.b_range (pa_cons pe_int pa_nil)) (pg_name (i := 4) nd rfl (.inl rfl))
      (pss_cons (ps_set (i := 5) nd rfl (.inl rfl) (pe_lst (pa_cons (LamX.pe_lamcall (T := l.T) (TT := TTout T) (k := 11) (c := l.cR) (P := l.pR) (by rfl) T.d_l_outcome.M T.d_l_outcome.kp lk2 hcd hB sc_l_outcome rfl (.inl rfl) (gives_out T _ _) TBR rfl (.tail _ (.head _)) (uniqR l) hr (LamX.lamS_by (sc := defScope s_l_is_right) (by decide +kernel)) rfl (fun _ _ _ _ _ => rfl) (fun A outer s H E f c' hr => (pe_call (ok_least_state T l TB) (hr.mono (by decide)) (by rfl) T.d_least_state.M T.d_least_state.kp T.d_least_state.B .nil (passes_call (takes_of rfl rfl rfl rfl) (fun _ _ _ _ h => h)) (pa_cons (pv 0) pa_nil) (by decide) (by rfl) (by rfl)))) pa_nil)))
      (pss_cons (ps_expr (pe_bmK (K := K) rfl PySem.F.plainAttrs_list PySem.F.slot_list_append PySem.F.type_list_append mt_append (pv 5) (pa_cons (LamX.pe_lamcall (T := l.T) (TT := TTout T) (k := 11) (c := l.cR) (P := l.pR) (by rfl) T.d_l_outcome.M T.d_l_outcome.kp lk2 hcd hB sc_l_outcome rfl (.inl rfl) (gives_out T _ _) TBR rfl (.tail _ (.head _)) (uniqR l) hr (LamX.lamS_by (sc := defScope s_l_is_right) (by decide +kernel)) rfl (fun _ _ _ _ _ => rfl) (fun A outer s H E f c' hr => (pe_call (ok_greatest_state T l TB) (hr.mono (by decide)) (by rfl) T.d_greatest_state.M T.d_greatest_state.kp T.d_greatest_state.B .nil (passes_call (takes_of rfl rfl rfl rfl) (fun _ _ _ _ h => h)) (pa_cons (pv 0) pa_nil) (by decide) (by rfl) (by rfl)))) pa_nil)))
      (pss_cons (ps_if (pt_cmpR (op_eqD hu64) (pv 2) (pe_lst pa_nil) (nomark _)) (pss_one (ps_if (pt_not (pt_val (pe_callB (r := rAll K) (id := "all") (cr_all rfl) (by rfl) T.b_all (by decide +kernel) (pa_cons (pe_lc (own := [("_law_one", 9)]) (tt := tYes) (g := (gName 9)) rfl nd (pi_listK (K := K) rfl (pv 5)) (blkOk_by (N := N_l_is_right) (sc := defScope s_l_is_right) (by decide +kernel)) (fun _ _ _ _ _ => (pg_name (i := 9) nd rfl (.inl rfl))) (fun _ _ _ _ _ => pts_nil) (fun _ _ _ _ _ => (pe_and (pe_cmpR op_eq (pe_ix (r := rIxL K) ix_list (pv 9) pe_int (fun _ _ => rfl)) pe_str (nomark _)) (pe_one (pcall (ok_l_is_failing T) T.d_l_is_failing.M (hr.mono (by decide)) (pa_cons (pv 1) (pa_cons (pv 3) (pa_cons (pe_ix (r := rIxL K) ix_list (pv 9) pe_int (fun _ _ => rfl)) pa_nil)))))))) pa_nil)))) (pss_one (ps_ret pe_bl)) pss_nil)) (pss_cons (ps_setLc (i := 6) (own := [("_law_sign", 8)]) (tt := tYes) (g := (gName 8)) rfl nd rfl rfl (sw_true rfl rfl rfl (by decide +kernel)) (pi_tupK (K := K) rfl (pe_tup (pa_cons pe_int (pa_cons (pe_un un_neg pe_int) pa_nil)))) (blkOk_by (N := N_l_is_right) (sc := defScope s_l_is_right) (by decide +kernel)) (fun _ _ _ _ _ => (pg_name (i := 8) nd rfl (.inl rfl))) (fun _ _ _ _ _ => pts_nil) (fun _ _ _ _ _ => (pcall (ok_l_as_dict T) T.d_l_as_dict.M (hr.mono (by decide)) (pa_cons (pv 1) (pa_cons (pcall (ok_l_bound T) T.d_l_bound.M (hr.mono (by decide)) (pa_cons (pv 2) (pa_cons (pv 8) pa_nil))) pa_nil)))))
      (pss_one (ps_if (pt_cmpR op_ne (pe_callB (id := "repr") (call_reprT hgd hu10) (by rfl) T.b_repr (by decide +kernel) (pa_cons (pv 5) pa_nil)) (pe_callB (id := "repr") (call_reprT hgd hu10) (by rfl) T.b_repr (by decide +kernel) (pa_cons (pe_lc (own := [("_law_one", 9)]) (tt := tYes) (g := (gName 9)) rfl nd (pi_listK (K := K) rfl (pv 6)) (blkOk_by (N := N_l_is_right) (sc := defScope s_l_is_right) (by decide +kernel)) (fun _ _ _ _ _ => (pg_name (i := 9) nd rfl (.inl rfl))) (fun _ _ _ _ _ => pts_nil) (fun _ _ _ _ _ => (pe_lst (pa_cons pe_str (pa_cons (pv 9) pa_nil))))) pa_nil)) (nomark _)) (pss_one (ps_ret pe_bl)) pss_nil))))
      (pss_cons (ps_expr (pe_dclear (pe_ix (r := rIxL K) ix_list (pe_ix (r := rIxL K) ix_list (pv 5) pe_int (fun _ _ => rfl)) pe_int (fun _ _ => rfl))))
      (pss_one (ps_expr (pe_dclear (pe_ix (r := rIxL K) ix_list (pe_ix (r := rIxL K) ix_list (pv 5) pe_int (fun _ _ => rfl)) pe_int (fun _ _ => rfl))))))))))
      (pss_one (ps_ret pe_bl)))), ?_⟩
      refine ⟨_, rfl, aw, c, rfl, hw, wf, h4, nm, fun H1 F refs s1 nF hF hFp => ?_⟩
      have hw1 := hw.sm s1
      refine ⟨_, rfl, aw .wp, _, rfl, hw1.g_ml, aw .ml, rfl, ⟨_, SqL.of hw1.ml⟩, fun S nS => ?_⟩
      have wk := walk_list (K := K) (a := aw .ml) (xs := c.mods.map V.str)
      rw [List.length_map] at wk
      refine lc_smY c.mods wk (fun i H x H' y => sm_YAt y) nS (fun H' s => SqL.of (s _ _ hw1.ml)) (fun m y H => ∃ a, y = .ref a ∧ a ≠ S ∧ H a = some (.tup (dmV (m, 0)))) (fun t y H4 H5 o r => let ⟨a, e1, e2, e3⟩ := r; ⟨a, e1, e2, o _ _ e3 e2⟩) (by omega) (fun i m x H3 H4 Pa hm s3 s4 hS y ka => ?_) (fun H2 acc s2 hacc hpa => ?_)
      · obtain ⟨rfl, hx⟩ := y
        have hx := pick1 hm hx
        subst hx
        obtain ⟨ac, hS⟩ := hS
        exact ⟨rfl, _, rfl, (by show 2 ≤ sizeLine; omega), fun b nb => ka _ _ (Sm.rf.up nb) ⟨b, rfl, (ne_of_none hS nb).symm, upd_same⟩⟩
      · have s2 : Sm H1 H2 := s2
        have hst : DmsAt H2 S c.starts := ⟨acc, hacc, paired_mapL hpa fun m y ⟨a, e1, _, e3⟩ => ⟨a, e1, e3⟩⟩
        refine ⟨(by show 2 ≤ sizeLine; omega), fun tp ntp => ?_⟩
        have s3 : Sm H2 (upd H2 tp (.tup [.ref F, .ref S])) := Sm.rf.up ntp
        refine ⟨tp, _, rfl, SqT.of upd_same, rfl, _, _, rfl, _, _, rfl, rfl, ?_⟩
        have s13 := s2.tr s3
        have s03 := s1.tr s13
        have hst3 := hst.sm s3
        have hF3 := s13 _ _ hF
        have hFp3 := paired_mono hFp fun _ _ z => IntsAt.sm z s13
        have ht3 := ht.ext s03
        generalize (upd H2 tp (.tup [.ref F, .ref S])) = H3 at s03 hst3 hF3 hFp3 ht3 ⊢
        refine ⟨2, rfl, by decide, by decide, ?_⟩
        have wk2 := walk_range (lo := 0) (n := 2)
        refine for_it wk2 (fun i σ H' => Kc H3 H' ∧ LamX.Tabs l.T H' ∧ ∃ x4 x5 x6 x7 x8 x9, σ = [some (.ref (ad .cp)), some (.ref (aw .wp)), some (.ref F), some (.ref S), x4, x5, x6, x7, x8, x9]) ⟨Kc.rf, ht3, _, _, _, _, _, _, rfl⟩ (fun _ _ _ _ _ => trivial) (fun i x σ H4 H5 hi p y => ?_) (fun σ H4 p => ?_)
        · obtain ⟨k4, t4, x4, x5, x6, x7, x8, x9, rfl⟩ := p
          obtain ⟨rfl, rfl⟩ := y
          have k5 : Kc H H5 := (Kc.of s03).tr k4
          refine ⟨t4, fun H6 e6 t6 l0 nl0 Ech k hret hraise => ?_⟩
          have k6 : Kc H5 (upd H6 l0 (.lst [.str "other"])) := Kc.tr (show Kc H5 H6 from e6) (Kc.of (Sm.rf.up nl0))
          have t7 : LamX.Tabs l.T (upd H6 l0 (.lst [.str "other"])) := t6.ext (Sm.rf.up nl0)
          generalize (upd H6 l0 (.lst [.str "other"])) = H7 at k6 t7 ⊢
          refine ⟨_, rfl, ad, rn, c, rfl, h.kc (k5.tr k6), t7, fun H8 p1 g1 k8 t8 nw1 hls hp1 => ?_, fun H8 p1 d1 L1 z1 N1 k8 t8 ns1 => absurd ((allS_nil wf).mpr ns1.no) hA⟩
          refine hret _ _ fun l1 nl1 => ?_
          refine ⟨(by show 1 ≤ sizeLine; omega), fun L5 nL5 => ?_⟩
          have s10 : Sm H8 (upd (upd H8 l1 (.lst [.str "returned", .ref p1])) L5 (.lst [.ref l1])) := (Sm.rf.up nl1).up nL5
          have hL5 : (upd (upd H8 l1 (.lst [.str "returned", .ref p1])) L5 (.lst [.ref l1])) L5 = some (.lst [.ref l1]) := upd_same
          have h1l : (upd (upd H8 l1 (.lst [.str "returned", .ref p1])) L5 (.lst [.ref l1])) l1 = some (.lst [.str "returned", .ref p1]) := (upd_ne (ne_of_none upd_same nL5)).trans upd_same
          have h1p := s10 _ _ hp1
          have k10 := (k6.tr k8).tr (Kc.of s10)
          have t10 := t8.ext s10
          have e1L := ne_of_none (show (upd H8 l1 (.lst [.str "returned", .ref p1])) l1 = _ from upd_same) nL5
          have e1p : p1 ≠ L5 := ne_of_none ((Sm.rf.up nl1) _ _ hp1) nL5
          generalize (upd (upd H8 l1 (.lst [.str "returned", .ref p1])) L5 (.lst [.ref l1])) = H10 at s10 hL5 h1l h1p k10 t10 ⊢
          refine ⟨_, rfl, .inl ⟨rfl, _, .inl (.inl hL5)⟩, t10, fun H11 e11 t11 l0' nl0' Ech' k' hret' hraise' => ?_⟩
          have k12 : Kc H10 (upd H11 l0' (.lst [.str "other"])) := Kc.tr (show Kc H10 H11 from e11) (Kc.of (Sm.rf.up nl0'))
          have t12 : LamX.Tabs l.T (upd H11 l0' (.lst [.str "other"])) := t11.ext (Sm.rf.up nl0')
          generalize (upd H11 l0' (.lst [.str "other"])) = H12 at k12 t12 ⊢
          refine ⟨_, rfl, ad, rn, c, rfl, h.kc ((k5.tr k10).tr k12), t12, fun H13 p2 g2 k13 t13 nw2 hc2 hmax hp2 => ?_, fun H13 p2 d2 L2 z2 N2 k13 t13 ns2 => absurd ((allS_nil wf).mpr ns2.no) hA⟩
          refine hret' _ _ fun l2 nl2 => ?_
          have k1013 := k12.tr k13
          have hL5b := k1013 _ _ hL5 fun _ z => nomatch z
          have s14 : Sm H13 (upd H13 l2 (.lst [.str "returned", .ref p2])) := Sm.rf.up nl2
          refine ⟨L5, [.ref l1], _, rfl, rfl, s14 _ _ hL5b, (by show 1 < sizeLine; omega), ?_⟩
          have e2L : l2 ≠ L5 := (ne_of_none hL5b nl2).symm
          have nw2b := nw2.back k12
          have e2p : p2 ≠ L5 := (nw2b.ne hL5 fun _ z => nomatch z).symm
          have ep12 : p1 ≠ p2 := nw2b.ne h1p fun _ z => nomatch z
          have e21 : l2 ≠ p1 := (ne_of_none (k1013 _ _ h1p fun _ z => nomatch z) nl2).symm
          have kAll : ∀ b o, H10 b = some o → (∀ ps, o ≠ .tbl ps) → b ≠ L5 → (upd (upd H13 l2 (.lst [.str "returned", .ref p2])) L5 (.lst ([.ref l1] ++ [.ref l2]))) b = some o := fun b o e n ne => by
            rw [upd_ne ne]
            exact s14 _ _ (k1013 _ _ e n)
          have hL5c : (upd (upd H13 l2 (.lst [.str "returned", .ref p2])) L5 (.lst ([.ref l1] ++ [.ref l2]))) L5 = some (.lst [.ref l1, .ref l2]) := upd_same
          have f1l := kAll _ _ h1l (fun _ z => nomatch z) e1L
          have f1p := kAll _ _ h1p (fun _ z => nomatch z) e1p
          have f2l : (upd (upd H13 l2 (.lst [.str "returned", .ref p2])) L5 (.lst ([.ref l1] ++ [.ref l2]))) l2 = some (.lst [.str "returned", .ref p2]) := (upd_ne e2L).trans upd_same
          have f2p : (upd (upd H13 l2 (.lst [.str "returned", .ref p2])) L5 (.lst ([.ref l1] ++ [.ref l2]))) p2 = some (.dK (stK c g2)) := (upd_ne e2p).trans (s14 _ _ hp2)
          have nL5H5 : Nw H5 L5 := Nw.back ((k6.tr k8).tr (Kc.of (Sm.rf.up nl1))) (.of nL5)
          have k15 : Kc H5 (upd (upd H13 l2 (.lst [.str "returned", .ref p2])) L5 (.lst ([.ref l1] ++ [.ref l2]))) := ((k10.tr k1013).tr (Kc.of s14)).setN nL5H5
          have t15 : LamX.Tabs l.T (upd (upd H13 l2 (.lst [.str "returned", .ref p2])) L5 (.lst ([.ref l1] ++ [.ref l2]))) := tabs_set ((t13.ext s14)) (s14 _ _ hL5b) (fun _ z => nomatch z) (fun _ _ z => nomatch z)
          have nwp1 : Nw H5 p1 := nw1.back k6
          have nwp2 : Nw H5 p2 := nw2.back (k10.tr k12)
          generalize (upd (upd H13 l2 (.lst [.str "returned", .ref p2])) L5 (.lst ([.ref l1] ++ [.ref l2]))) = HH at hL5c f1l f1p f2l f2p k15 t15 ⊢
          have k315 := k4.tr k15
          have hF4 := k315 _ _ hF3 fun _ z => nomatch z
          have hFp4 := paired_mono hFp3 fun _ _ z => IntsAt.kc z k315
          refine ⟨_, rfl, (by show 0 ≤ sizeLine; omega), fun e0 ne0 => ?_⟩
          have s16 : Sm HH (upd HH e0 (.lst [])) := Sm.rf.up ne0
          refine ⟨_, _, .lst (SqL.of (s16 _ _ hF4)) (dp_ints_tup (paired_mono hFp4 fun _ _ z => z.sm s16)), dp_nil upd_same, (lay_states _).sh, lay_nil.sh, _, rfl, ?_⟩
          generalize (upd HH e0 (.lst [])) = HI at s16 ⊢
          have k3I := k315.tr (Kc.of s16)
          have k0I := (Kc.of s03).tr k3I
          refine ifF (by rw [eqv_nil]; simp [hA]) ?_
          refine ⟨1, rfl, (by show 2 ≤ sizeLine; omega), fun tt ntt => ?_⟩
          have s17 : Sm HI (upd HI tt (.tup [.int 1, .int (-1)])) := Sm.rf.up ntt
          have htt : (upd HI tt (.tup [.int 1, .int (-1)])) tt = some (.tup [.int 1, .int (-1)]) := upd_same
          generalize (upd HI tt (.tup [.int 1, .int (-1)])) = HJ at s17 htt ⊢
          have sJ := s16.tr s17
          have hwJ := hw.kc (k0I.tr (Kc.of s17))
          have hFJ := sJ _ _ hF4
          have hFpJ := paired_mono hFp4 fun _ _ z => IntsAt.sm z sJ
          refine ⟨tt, rfl, ⟨_, SqT.of htt⟩, fun D nD => ?_⟩
          have wk3 := walk_tup (K := K) (a := tt) (xs := [V.int 1, .int (-1)])
          have hsl : (allS c).length ≤ 1000000 := Nat.le_trans (stsL_len wf _) (Nat.le_trans (Nat.pow_le_pow_right (by decide) h4) (by decide))
          refine lc_smY ([1, -1] : List Int) wk3 (fun i H x H' y => sm_YAt y) nD (fun H' s => SqT.of (s _ _ htt)) (fun sg y H => ∃ d, y = .ref d ∧ d ≠ D ∧ H d = some (.dK (stK c (if sg = 1 then g1 else g2)))) (fun t y H4 H5 o r => let ⟨a, e1, e2, e3⟩ := r; ⟨a, e1, e2, o _ _ e3 e2⟩) (by show 2 < sizeLine; omega) (fun i sg x HA HB Pa hz sa sb hD y ka => ?_) (fun HA acc sa hacc hpa => ?_)
          · obtain ⟨rfl, hx⟩ := y
            have hx := pick1 (f := V.int) hz hx
            subst hx
            have hsg : sg = 1 ∨ sg = -1 := by simpa using List.mem_of_getElem? hz
            obtain ⟨ac, hD⟩ := hD
            have hg : c.Cons (if sg = 1 then g1 else g2) ∧ ∀ y, c.Cons y → ∀ m ∈ c.mods, sg * (if sg = 1 then g1 else g2) m ≤ sg * y m := by
              rcases hsg with rfl | rfl
              · refine ⟨hls.co, fun y hy m hm => ?_⟩
                have := hls.le y hy m hm
                rw [if_pos rfl]
                omega
              · refine ⟨hc2, fun y hy m hm => ?_⟩
                have := hmax y hy m hm
                rw [if_neg (by decide)]
                omega
            refine ⟨rfl, _, rfl, _, rfl, _, rfl, F, refs, allS c, sg, c.mods.length, rfl, sb _ _ hFJ, paired_mono hFpJ (fun _ _ z => z.sm sb), hA, fun xs hx => allS_len wf hx, by omega, hsg, hsl, fun HC t ys sc nt hty hyl hyb => ?_⟩
            have ey := bound_eq wf hsg hg.1 hg.2 hyl hyb
            refine ⟨aw, c, t, ys, rfl, (hwJ.sm sb).sm sc, wf, hty, fun HE p se np hp => ?_⟩
            exact ka _ _ (sc.tr se) ⟨p, rfl, (ne_of_none (sc _ _ hD) np).symm, by rw [hp, ey, someK_map]⟩
          · have sa : Sm HJ HA := sa
            obtain ⟨d1, d2, hacc, hd1, hd2⟩ : ∃ d1 d2, HA D = some (.lst [.ref d1, .ref d2]) ∧ HA d1 = some (.dK (stK c g1)) ∧ HA d2 = some (.dK (stK c g2)) := by
              cases hpa with
              | cons r1 t1 =>
                cases t1 with
                | cons r2 t2 =>
                  cases t2
                  obtain ⟨d1, rfl, _, e1⟩ := r1
                  obtain ⟨d2, rfl, _, e2⟩ := r2
                  exact ⟨d1, d2, hacc, e1, e2⟩
            have sA := sJ.tr sa
            have a5 := sA _ _ hL5c
            have a1 := sA _ _ f1l
            have a2 := sA _ _ f2l
            have aw1 := sA _ _ f1p
            have aw2 := sA _ _ f2p
            have kA : Kc H5 HA := k15.tr (Kc.of sA)
            have tA : LamX.Tabs l.T HA := t15.ext sA
            have sm1 := small_st wf nm hls.co
            have sm2 := small_st wf nm hc2
            have lg : ∀ q ∈ mK c g1 ++ mK c g2, q.2.natAbs.log2 < 1920 := fun q hq => (List.mem_append.mp hq).elim (fun z => small_log sm1 q z) fun z => small_log sm2 q z
            refine ⟨_, rfl, L5, l1, l2, mK c g1, mK c g2, rfl, a5, ⟨p1, a1, by rw [mapK_mK]; exact aw1⟩, ⟨p2, a2, by rw [mapK_mK]; exact aw2⟩, lg, told_fits sm1 sm2, ?_⟩
            refine ⟨_, rfl, D, rfl, ⟨_, SqL.of hacc⟩, fun D2 nD2 => ?_⟩
            have wk4 := walk_list (K := K) (a := D) (xs := [V.ref d1, .ref d2])
            refine lc_smY ([1, -1] : List Int) wk4 (fun i H x H' y => sm_YAt y) nD2 (fun H' s => SqL.of (s _ _ hacc)) (fun sg y H => ∃ a, y = .ref a ∧ a ≠ D2 ∧ H a = some (.lst [.str "returned", .ref (if sg = 1 then d1 else d2)])) (fun t y H4 H5 o r => let ⟨a, e1, e2, e3⟩ := r; ⟨a, e1, e2, o _ _ e3 e2⟩) (by show 2 < sizeLine; omega) (fun i sg x HB HC Pa hz sb sc hD y ka => ?_) (fun HB ac2 sb hac2 hpb => ?_)
            · obtain ⟨rfl, hx⟩ := y
              have hx := pick1 (f := fun sg : Int => V.ref (if sg = 1 then d1 else d2)) hz hx
              subst hx
              obtain ⟨ac, hD⟩ := hD
              exact ⟨rfl, _, rfl, (by show 2 ≤ sizeLine; omega), fun b nb => ka _ _ (Sm.rf.up nb) ⟨b, rfl, (ne_of_none hD nb).symm, upd_same⟩⟩
            · have sb : Sm HA HB := sb
              obtain ⟨e1, e2, hac2, he1, he2⟩ : ∃ e1 e2, HB D2 = some (.lst [.ref e1, .ref e2]) ∧ HB e1 = some (.lst [.str "returned", .ref d1]) ∧ HB e2 = some (.lst [.str "returned", .ref d2]) := by
                cases hpb with
                | cons r1 t1 =>
                  cases t1 with
                  | cons r2 t2 =>
                    cases t2
                    obtain ⟨d1, rfl, _, e1⟩ := r1
                    obtain ⟨d2, rfl, _, e2⟩ := r2
                    exact ⟨d1, d2, hac2, e1, e2⟩
              refine ⟨D2, e1, e2, mK c g1, mK c g2, rfl, hac2, ⟨d1, he1, by rw [mapK_mK]; exact sb _ _ hd1⟩, ⟨d2, he2, by rw [mapK_mK]; exact sb _ _ hd2⟩, lg, told_fits sm1 sm2, rfl, _, rfl, ?_⟩
              refine ifF (by simp) ?_
              have c5 := sb _ _ a5
              have c1 := sb _ _ a1
              have c2 := sb _ _ a2
              have cw1 := sb _ _ aw1
              have cw2 := sb _ _ aw2
              refine ⟨_, rfl, L5, _, 0, _, rfl, rfl, SqL.of c5, at0, l1, _, 1, _, rfl, rfl, SqL.of c1, at1, .inr (.inr (.inl ⟨rfl, .inl ⟨_, cw1⟩⟩)), p1, _, rfl, rfl, cw1, ?_⟩
              have b5 : (upd HB p1 (.dK [])) L5 = _ := (upd_ne e1p.symm).trans c5
              have b2 : (upd HB p1 (.dK [])) l2 = _ := (upd_ne e21).trans c2
              have bw : (upd HB p1 (.dK [])) p2 = _ := (upd_ne ep12.symm).trans cw2
              refine ⟨_, rfl, L5, _, 1, _, rfl, rfl, SqL.of b5, at1, l2, _, 1, _, rfl, rfl, SqL.of b2, at1, .inr (.inr (.inl ⟨rfl, .inl ⟨_, bw⟩⟩)), p2, _, rfl, rfl, bw, ?_⟩
              have kB := kA.tr (Kc.of sb)
              exact ⟨k4.tr ((kB.setN nwp1).setN nwp2), tabs_set (tabs_set (tA.ext sb) cw1 (fun _ z => nomatch z) (fun _ _ z => nomatch z)) bw (fun _ z => nomatch z) (fun _ _ z => nomatch z), _, _, _, _, _, _, rfl⟩
        · obtain ⟨k4, t4, x4, x5, x6, x7, x8, x9, rfl⟩ := p
          exact q _ ((Kc.of s03).tr k4) t4
end
end Gs
/-! ## GsL16 -/
namespace Gs
open PySem PySem.Spec PyProof.Rows L2
section
variable {P : Program} {w : World} {K : PySem.W.Frag} {mg : Str → Option Value} {base : Heap}
noncomputable instance : DecidableEq Sl := fun _ _ => Classical.propDecidable _
noncomputable def setA (aw : Ad) (s : Sl) (q : Addr) : Ad := fun t => if t = s then q else aw t
theorem setA_eq {aw : Ad} {s : Sl} {q : Addr} : setA aw s q s = q := if_pos rfl
theorem setA_ne {aw : Ad} {s t : Sl} {q : Addr} (h : t ≠ s) : setA aw s q t = aw t := if_neg h
theorem inj_set {aw : Ad} {S S' : Sl → Prop} {s : Sl} {q : Addr} (i : Inj aw S) (h : ∀ t, S' t → t = s ∨ S t) (hq : ∀ t, S t → aw t ≠ q) : Inj (setA aw s q) S' := fun a b ha hb e => by
  by_cases ea : a = s
  · by_cases eb : b = s
    · rw [ea, eb]
    · have sb := (h b hb).resolve_left eb
      rw [ea, setA_eq, setA_ne eb] at e
      exact absurd e.symm (hq b sb)
  · have sa := (h a ha).resolve_left ea
    by_cases eb : b = s
    · rw [eb, setA_eq, setA_ne ea] at e
      exact absurd e (hq a sa)
    · have sb := (h b hb).resolve_left eb
      rw [setA_ne ea, setA_ne eb] at e
      exact i a b sa sb e
/-- the slots of a world that is being made -/
def LW (xm tm : List Nm) (wl : List (Nm × Nm)) : Sl → Prop
  | .wp | .ml | .ud | .ww | .td => True
  | .xa m => m ∈ xm
  | .ta m => m ∈ tm
  | .wa m u => (m, u) ∈ wl
  | _ => False
abbrev LiveW (c : Cat) : Sl → Prop := LW c.mods c.mods c.pairs
structure WI (H0 H : Hp) (aw : Ad) (c : Cat) (xm tm : List Nm) (wl : List (Nm × Nm)) : Prop where
  sm : Sm H0 H
  inj : Inj aw (LW xm tm wl)
  nw : ∀ s, LW xm tm wl s → H0 (aw s) = none
  wp : H (aw .wp) = some (.dK [(.inr "modules", .ref (aw .ml)), (.inr "uses", .ref (aw .ud)), (.inr "windows", .ref (aw .ww)), (.inr "there", .ref (aw .td))])
  ml : H (aw .ml) = some (.lst (c.mods.map V.str))
  ud : H (aw .ud) = some (.dK (xm.map fun m => (.inr m, .ref (aw (.xa m)))))
  xa : ∀ m ∈ xm, H (aw (.xa m)) = some (.lst ((c.uses m).map V.str))
  ww : H (aw .ww) = some (.dT (wl.map fun p => (pk p, .ref (aw (.wa p.1 p.2)))))
  wa : ∀ p ∈ wl, ∃ refs, H (aw (.wa p.1 p.2)) = some (.lst refs) ∧ WinsAre H refs (c.wins p.1 p.2)
  td : H (aw .td) = some (.dK (tm.map fun m => (.inr m, .ref (aw (.ta m)))))
  ta : ∀ m ∈ tm, H (aw (.ta m)) = some (.lst ((upTo (c.cnt m)).map V.int))
section
variable {H0 H : Hp} {aw : Ad} {c : Cat} {xm tm : List Nm} {wl : List (Nm × Nm)}
theorem WI.ext {H1 : Hp} (w : WI H0 H aw c xm tm wl) (s : Sm H H1) : WI H0 H1 aw c xm tm wl := ⟨w.sm.tr s, w.inj, w.nw, s _ _ w.wp, s _ _ w.ml, s _ _ w.ud, fun m hm => s _ _ (w.xa m hm), s _ _ w.ww, fun p hp => let ⟨r, a, b⟩ := w.wa p hp; ⟨r, s _ _ a, b.keep fun _ _ z => s _ _ z⟩, s _ _ w.td, fun m hm => s _ _ (w.ta m hm)⟩
theorem WI.there (w : WI H0 H aw c xm tm wl) {s : Sl} (hs : LW xm tm wl s) : ∃ o, H (aw s) = some o := by
  cases s with
  | wp => exact ⟨_, w.wp⟩
  | ml => exact ⟨_, w.ml⟩
  | ud => exact ⟨_, w.ud⟩
  | ww => exact ⟨_, w.ww⟩
  | td => exact ⟨_, w.td⟩
  | xa m => exact ⟨_, w.xa m hs⟩
  | ta m => exact ⟨_, w.ta m hs⟩
  | wa m u => obtain ⟨r, e, _⟩ := w.wa (m, u) hs; exact ⟨_, e⟩
  | _ => exact hs.elim
theorem WI.fresh (w : WI H0 H aw c xm tm wl) {q : Addr} (nq : H q = none) : ∀ t, LW xm tm wl t → aw t ≠ q := fun t ht => by
  obtain ⟨o, e⟩ := w.there ht
  exact ne_of_none e nq
/-- what is written at slot s alone -/
theorem WI.off {o : HO} (w : WI H0 H aw c xm tm wl) {s : Sl} (hs : LW xm tm wl s) : ∀ t u, LW xm tm wl t → t ≠ s → H (aw t) = some u → (upd H (aw s) o) (aw t) = some u := fun t u ht n e => by
  rw [upd_ne fun q => n (w.inj _ _ ht hs q)]
  exact e
theorem map_setA {α β : Type} {l : List α} {f : α → Sl} {s : Sl} {q : Addr} (h : ∀ x ∈ l, f x ≠ s) (g : α → Addr → β) : (l.map fun x => g x (aw (f x))) = l.map fun x => g x (setA aw s q (f x)) := List.map_congr_left fun x hx => by rw [setA_ne (h x hx)]
theorem WI.addX (w : WI H0 H aw c xm tm wl) {m : Nm} {q : Addr} {o : HO} (hm : m ∉ xm) (nq : H q = none) (ho : o = .dK (putK (xm.map fun m => (.inr m, .ref (aw (.xa m)))) (.inr m) (.ref q))) :
    WI H0 (upd (upd H q (.lst ((c.uses m).map V.str))) (aw .ud) o) (setA aw (.xa m) q) c (xm ++ [m]) tm wl := by
  have sq : Sm H (upd H q (.lst ((c.uses m).map V.str))) := Sm.rf.up nq
  have w1 := w.ext sq
  have fr := w.fresh nq
  have hu : LW xm tm wl .ud := trivial
  have dif : ∀ t, LW xm tm wl t → t ≠ .xa m := fun t ht e => by
    subst e
    exact hm ht
  have k : ∀ t u, LW xm tm wl t → t ≠ .ud → H (aw t) = some u → (upd (upd H q (.lst ((c.uses m).map V.str))) (aw .ud) o) (setA aw (.xa m) q t) = some u := fun t u ht n e => by
    rw [setA_ne (dif t ht)]
    exact w1.off hu t u ht n (sq _ _ e)
  have tk : ∀ b xs, H b = some (.tup xs) → (upd (upd H q (.lst ((c.uses m).map V.str))) (aw .ud) o) b = some (.tup xs) := fun b xs e => by
    rw [upd_ne (ne_of e w.ud fun z => nomatch z)]
    exact sq _ _ e
  have e1 : putK (xm.map fun m => ((.inr m : Key), V.ref (aw (.xa m)))) (.inr m) (.ref q) = (xm ++ [m]).map fun k => ((.inr k : Key), V.ref (setA aw (.xa m) q (.xa k))) := by
    rw [putK_app]
    · rw [List.map_append, map_setA (aw := aw) (f := Sl.xa) (s := .xa m) (q := q) (fun x hx e => hm (by cases e; exact hx)) (fun k a => ((.inr k : Key), V.ref a))]
      simp [setA_eq]
    · rw [List.map_map]
      intro h
      obtain ⟨k, hk, e⟩ := List.mem_map.mp h
      exact hm (inr_inj _ _ e ▸ hk)
  refine ⟨(w.sm.tr sq).set (w.nw _ hu), inj_set w.inj (fun t ht => ?_) fr, fun t ht => ?_, ?_, ?_, ?_, fun k' hk => ?_, ?_, fun p hp => ?_, ?_, fun k' hk => ?_⟩
  · cases t with
    | xa k =>
      rcases List.mem_append.mp (show k ∈ xm ++ [m] from ht) with h | h
      · exact .inr h
      · rw [List.mem_singleton.mp h]; exact .inl rfl
    | _ => exact .inr ht
  · by_cases e : t = .xa m
    · rw [e, setA_eq]
      exact w.sm.un nq
    · rw [setA_ne e]
      refine w.nw t ?_
      cases t with
      | xa k =>
        rcases List.mem_append.mp (show k ∈ xm ++ [m] from ht) with h | h
        · exact h
        · exact absurd (by rw [List.mem_singleton.mp h]) e
      | _ => exact ht
  · have := k .wp _ trivial (by intro z; cases z) w.wp
    rw [this, setA_ne (by intro z; cases z), setA_ne (by intro z; cases z), setA_ne (by intro z; cases z), setA_ne (by intro z; cases z)]
  · exact k .ml _ trivial (by intro z; cases z) w.ml
  · rw [setA_ne (show Sl.ud ≠ .xa m by intro z; cases z), upd_same, ho, e1]
  · by_cases e : k' = m
    · subst e
      rw [setA_eq, upd_ne (fr .ud trivial).symm, upd_same]
    · have hk' : k' ∈ xm := (List.mem_append.mp hk).resolve_right fun z => e (List.mem_singleton.mp z)
      exact k (.xa k') _ hk' (by intro z; cases z) (w.xa k' hk')
  · rw [k .ww _ trivial (by intro z; cases z) w.ww, map_setA (aw := aw) (f := fun p : Nm × Nm => Sl.wa p.1 p.2) (s := .xa m) (q := q) (fun x _ e => nomatch e) (fun p a => (pk p, V.ref a))]
  · obtain ⟨r, a, b⟩ := w.wa p hp
    exact ⟨r, k (.wa p.1 p.2) _ hp (by intro z; cases z) a, b.keep tk⟩
  · rw [k .td _ trivial (by intro z; cases z) w.td, map_setA (aw := aw) (f := Sl.ta) (s := .xa m) (q := q) (fun x _ e => nomatch e) (fun p a => ((.inr p : Key), V.ref a))]
  · exact k (.ta k') _ hk (by intro z; cases z) (w.ta k' hk)
theorem WI.addT (w : WI H0 H aw c xm tm wl) {m : Nm} {q : Addr} {o : HO} (hm : m ∉ tm) (nq : H q = none) (ho : o = .dK (putK (tm.map fun m => (.inr m, .ref (aw (.ta m)))) (.inr m) (.ref q))) :
    WI H0 (upd (upd H q (.lst ((upTo (c.cnt m)).map V.int))) (aw .td) o) (setA aw (.ta m) q) c xm (tm ++ [m]) wl := by
  have sq : Sm H (upd H q (.lst ((upTo (c.cnt m)).map V.int))) := Sm.rf.up nq
  have w1 := w.ext sq
  have fr := w.fresh nq
  have hu : LW xm tm wl .td := trivial
  have dif : ∀ t, LW xm tm wl t → t ≠ .ta m := fun t ht e => by
    subst e
    exact hm ht
  have k : ∀ t u, LW xm tm wl t → t ≠ .td → H (aw t) = some u → (upd (upd H q (.lst ((upTo (c.cnt m)).map V.int))) (aw .td) o) (setA aw (.ta m) q t) = some u := fun t u ht n e => by
    rw [setA_ne (dif t ht)]
    exact w1.off hu t u ht n (sq _ _ e)
  have tk : ∀ b xs, H b = some (.tup xs) → (upd (upd H q (.lst ((upTo (c.cnt m)).map V.int))) (aw .td) o) b = some (.tup xs) := fun b xs e => by
    rw [upd_ne (ne_of e w.td fun z => nomatch z)]
    exact sq _ _ e
  have e1 : putK (tm.map fun m => ((.inr m : Key), V.ref (aw (.ta m)))) (.inr m) (.ref q) = (tm ++ [m]).map fun k => ((.inr k : Key), V.ref (setA aw (.ta m) q (.ta k))) := by
    rw [putK_app]
    · rw [List.map_append, map_setA (aw := aw) (f := Sl.ta) (s := .ta m) (q := q) (fun x hx e => hm (by cases e; exact hx)) (fun k a => ((.inr k : Key), V.ref a))]
      simp [setA_eq]
    · rw [List.map_map]
      intro h
      obtain ⟨k, hk, e⟩ := List.mem_map.mp h
      exact hm (inr_inj _ _ e ▸ hk)
  refine ⟨(w.sm.tr sq).set (w.nw _ hu), inj_set w.inj (fun t ht => ?_) fr, fun t ht => ?_, ?_, ?_, ?_, fun k' hk => ?_, ?_, fun p hp => ?_, ?_, fun k' hk => ?_⟩
  · cases t with
    | ta k =>
      rcases List.mem_append.mp (show k ∈ tm ++ [m] from ht) with h | h
      · exact .inr h
      · rw [List.mem_singleton.mp h]; exact .inl rfl
    | _ => exact .inr ht
  · by_cases e : t = .ta m
    · rw [e, setA_eq]
      exact w.sm.un nq
    · rw [setA_ne e]
      refine w.nw t ?_
      cases t with
      | ta k =>
        rcases List.mem_append.mp (show k ∈ tm ++ [m] from ht) with h | h
        · exact h
        · exact absurd (by rw [List.mem_singleton.mp h]) e
      | _ => exact ht
  · have := k .wp _ trivial (by intro z; cases z) w.wp
    rw [this, setA_ne (by intro z; cases z), setA_ne (by intro z; cases z), setA_ne (by intro z; cases z), setA_ne (by intro z; cases z)]
  · exact k .ml _ trivial (by intro z; cases z) w.ml
  · rw [k .ud _ trivial (by intro z; cases z) w.ud, map_setA (aw := aw) (f := Sl.xa) (s := .ta m) (q := q) (fun x _ e => nomatch e) (fun p a => ((.inr p : Key), V.ref a))]
  · exact k (.xa k') _ hk (by intro z; cases z) (w.xa k' hk)
  · rw [k .ww _ trivial (by intro z; cases z) w.ww, map_setA (aw := aw) (f := fun p : Nm × Nm => Sl.wa p.1 p.2) (s := .ta m) (q := q) (fun x _ e => nomatch e) (fun p a => (pk p, V.ref a))]
  · obtain ⟨r, a, b⟩ := w.wa p hp
    exact ⟨r, k (.wa p.1 p.2) _ hp (by intro z; cases z) a, b.keep tk⟩
  · rw [setA_ne (show Sl.td ≠ .ta m by intro z; cases z), upd_same, ho, e1]
  · by_cases e : k' = m
    · subst e
      rw [setA_eq, upd_ne (fr .td trivial).symm, upd_same]
    · have hk' : k' ∈ tm := (List.mem_append.mp hk).resolve_right fun z => e (List.mem_singleton.mp z)
      exact k (.ta k') _ hk' (by intro z; cases z) (w.ta k' hk')
theorem WI.addW (w : WI H0 H aw c xm tm wl) {H1 : Hp} {m u : Nm} {q : Addr} {o : HO} {refs : List V} (hm : (m, u) ∉ wl) (s : Sm H H1) (nq : H q = none) (hq : H1 q = some (.lst refs)) (hr : WinsAre H1 refs (c.wins m u)) (ho : o = .dT (putK (wl.map fun p => (pk p, .ref (aw (.wa p.1 p.2)))) (pk (m, u)) (.ref q))) :
    WI H0 (upd H1 (aw .ww) o) (setA aw (.wa m u) q) c xm tm (wl ++ [(m, u)]) := by
  have w1 := w.ext s
  have fr := w.fresh nq
  have hu : LW xm tm wl .ww := trivial
  have dif : ∀ t, LW xm tm wl t → t ≠ .wa m u := fun t ht e => by
    subst e
    exact hm ht
  have k : ∀ t z, LW xm tm wl t → t ≠ .ww → H (aw t) = some z → (upd H1 (aw .ww) o) (setA aw (.wa m u) q t) = some z := fun t z ht n e => by
    rw [setA_ne (dif t ht)]
    exact w1.off hu t z ht n (s _ _ e)
  have tk1 : ∀ b xs, H1 b = some (.tup xs) → (upd H1 (aw .ww) o) b = some (.tup xs) := fun b xs e => by
    rw [upd_ne (ne_of e w1.ww fun z => nomatch z)]
    exact e
  have tk : ∀ b xs, H b = some (.tup xs) → (upd H1 (aw .ww) o) b = some (.tup xs) := fun b xs e => tk1 b xs (s _ _ e)
  have e1 : putK (wl.map fun p => (pk p, V.ref (aw (.wa p.1 p.2)))) (pk (m, u)) (.ref q) = (wl ++ [(m, u)]).map fun p => (pk p, V.ref (setA aw (.wa m u) q (.wa p.1 p.2))) := by
    rw [putK_app]
    · rw [List.map_append, map_setA (aw := aw) (f := fun p : Nm × Nm => Sl.wa p.1 p.2) (s := .wa m u) (q := q) (fun x hx e => hm (by cases x; cases e; exact hx)) (fun k a => (pk k, V.ref a))]
      simp [setA_eq]
    · rw [List.map_map]
      intro h
      obtain ⟨k, hk, e⟩ := List.mem_map.mp h
      exact hm (pk_inj e ▸ hk)
  refine ⟨(w.sm.tr s).set (w.nw _ hu), inj_set w.inj (fun t ht => ?_) fr, fun t ht => ?_, ?_, ?_, ?_, fun k' hk => ?_, ?_, fun p hp => ?_, ?_, fun k' hk => ?_⟩
  · cases t with
    | wa k v =>
      rcases List.mem_append.mp (show (k, v) ∈ wl ++ [(m, u)] from ht) with h | h
      · exact .inr h
      · cases List.mem_singleton.mp h; exact .inl rfl
    | _ => exact .inr ht
  · by_cases e : t = .wa m u
    · rw [e, setA_eq]
      exact w.sm.un nq
    · rw [setA_ne e]
      refine w.nw t ?_
      cases t with
      | wa k v =>
        rcases List.mem_append.mp (show (k, v) ∈ wl ++ [(m, u)] from ht) with h | h
        · exact h
        · exact absurd (by cases List.mem_singleton.mp h; rfl) e
      | _ => exact ht
  · have := k .wp _ trivial (by intro z; cases z) w.wp
    rw [this, setA_ne (by intro z; cases z), setA_ne (by intro z; cases z), setA_ne (by intro z; cases z), setA_ne (by intro z; cases z)]
  · exact k .ml _ trivial (by intro z; cases z) w.ml
  · rw [k .ud _ trivial (by intro z; cases z) w.ud, map_setA (aw := aw) (f := Sl.xa) (s := .wa m u) (q := q) (fun x _ e => nomatch e) (fun p a => ((.inr p : Key), V.ref a))]
  · exact k (.xa k') _ hk (by intro z; cases z) (w.xa k' hk)
  · rw [setA_ne (show Sl.ww ≠ .wa m u by intro z; cases z), upd_same, ho, e1]
  · by_cases e : p = (m, u)
    · subst e
      refine ⟨refs, ?_, hr.keep tk1⟩
      rw [setA_eq, upd_ne (fr .ww trivial).symm]
      exact hq
    · have hp' : p ∈ wl := (List.mem_append.mp hp).resolve_right fun z => e (List.mem_singleton.mp z)
      obtain ⟨r, a, b⟩ := w.wa p hp'
      exact ⟨r, k (.wa p.1 p.2) _ hp' (by intro z; cases z) a, b.keep tk⟩
  · rw [k .td _ trivial (by intro z; cases z) w.td, map_setA (aw := aw) (f := Sl.ta) (s := .wa m u) (q := q) (fun x _ e => nomatch e) (fun p a => ((.inr p : Key), V.ref a))]
  · exact k (.ta k') _ hk (by intro z; cases z) (w.ta k' hk)
end
end
end Gs
/-! ## GsL17 -/
namespace Gs
open PySem PySem.Spec PyProof.Rows L2
section
variable {P : Program} {w : World} {K : PySem.W.Frag} {mg : Str → Option Value} {base : Heap}
theorem WI.world {H0 H : Hp} {aw : Ad} {c : Cat} (w : WI H0 H aw c c.mods c.mods c.pairs) (hd : ∀ m ∈ c.mods, c.wd m = []) : WorAt H aw c :=
  ⟨w.wp, w.ml, w.ud, w.xa, w.ww, w.wa, w.td, fun m hm => by
    have e : c.there m = upTo (c.cnt m) := by
      unfold Cat.there
      rw [hd m hm]
      simp
    rw [e]
    exact w.ta m hm⟩
theorem lw5 {s : Sl} (h : LW [] [] [] s) : s = .wp ∨ s = .ml ∨ s = .ud ∨ s = .ww ∨ s = .td := by
  cases s <;> simp [LW] at h ⊢
def ad5 (W M U X D : Addr) : Ad
  | .wp => W
  | .ml => M
  | .ud => U
  | .ww => X
  | .td => D
  | _ => 0
section
variable {H0 H : Hp} {aw : Ad} {c : Cat} {xm tm : List Nm} {wl : List (Nm × Nm)} {W : Addr}
theorem WI.g_ud (w : WI H0 H aw c xm tm wl) (e : aw .wp = W) : DGet H W (.str "uses") (some (.ref (aw .ud))) := by
  have := DGet.k (k := (.inr "uses" : Key)) w.wp
  rwa [e, valV_neg (nk (by decide)), valV_pos rfl] at this
theorem WI.g_ww (w : WI H0 H aw c xm tm wl) (e : aw .wp = W) : DGet H W (.str "windows") (some (.ref (aw .ww))) := by
  have := DGet.k (k := (.inr "windows" : Key)) w.wp
  rwa [e, valV_neg (nk (by decide)), valV_neg (nk (by decide)), valV_pos rfl] at this
theorem WI.g_td (w : WI H0 H aw c xm tm wl) (e : aw .wp = W) : DGet H W (.str "there") (some (.ref (aw .td))) := by
  have := DGet.k (k := (.inr "there" : Key)) w.wp
  rwa [e, valV_neg (nk (by decide)), valV_neg (nk (by decide)), valV_neg (nk (by decide)), valV_pos rfl] at this
end
theorem rgV_upTo (n : Nat) : rgV 0 (n : Nat) = (upTo n).map V.int := by
  unfold rgV upTo
  rw [List.map_map, show ((n : Int) - 0).toNat = n by omega]
  refine List.map_congr_left fun i _ => ?_
  show V.int (0 + (i : Nat)) = V.int (i : Nat)
  rw [Int.zero_add]
theorem ok_l_world (T : Txt K mg) : FnOk P w K mg base CX0 1 T.d_l_world.f T.d_l_world.fd ["_law_rows_here"] (fun vs H Q _ => ∃ (p : Addr) (rows : List Row) (c : Cat), vs = [.ref p] ∧ RowsAt H p rows ∧ RowsOk rows ∧ CatRows c rows ∧ c.WF ∧
    ∀ H' aw, Sm H H' → WorAt H' aw c → Inj aw (LiveW c) → (∀ s, LiveW c s → H (aw s) = none) → Q (.ref (aw .wp)) H') := by
  have nd := sc_l_world.nd
  refine T.d_l_world.F.ok sc_l_world (fun vs H Q E h => ?_) (fun cdv A outer s H vs Q E hr h => ?_)
  · obtain ⟨p, rows, c, rfl, _⟩ := h; rfl
  · obtain ⟨p, rows, c, rfl, ⟨rv, hp, hrp⟩, ro, cr, wf, q⟩ := h
    have hu := hu_of hr
    have hs : sizeLine = 16777216 := sizeLine_eq
    have h4 := ro.few
    have hrl : rv.length = rows.length := hrp.length
    refine ⟨_, (pss_cons (ps_set (i := 1) nd rfl (.inl rfl) (pe_disp (pps_cons pe_str (pe_lc (own := [("_law_row", 7)]) (tt := tYes) (g := (gName 7)) rfl nd (pi_listK (K := K) rfl (pv 0)) (blkOk_by (N := N_l_world) (sc := defScope s_l_world) (by decide +kernel)) (fun _ _ _ _ _ => (pg_name (i := 7) nd rfl (.inl rfl))) (fun _ _ _ _ _ => pts_nil) (fun _ _ _ _ _ => (pe_ix (r := rIxT K) ix_tup (pv 7) pe_int (fun _ _ => rfl)))) (pps_cons pe_str pe_dnewK (pps_cons pe_str pe_dnewT (pps_cons pe_str pe_dnewK pps_nil)))) rfl rfl (by simp) (by decide)))
      (pss_cons (ps_for PassesOwn.never rfl (pi_listK (K := K) rfl (pv 0)) (pg_tup rfl (pgs_cons (pg_name (i := 2) nd rfl (.inl rfl)) (pgs_cons (pg_name (i := 3) nd rfl (.inl rfl)) (pgs_cons (pg_name (i := 4) nd rfl (.inl rfl)) pgs_nil))))
      (pss_cons (ps_dput hu (pe_dget hu (pv 1) pe_str (fun _ _ => rfl)) (pv 2) (pe_callTy (r := rListS K) (T := "list") call_listS (by rfl) T.b_list (by decide +kernel) (pa_cons (pv 3) pa_nil)) rfl)
      (pss_cons (ps_dput hu (pe_dget hu (pv 1) pe_str (fun _ _ => rfl)) (pv 2) (pe_listRg rfl (by rfl) T.b_list (prg_1 (by rfl) T.b_range (pe_callB (r := rLenS K) (id := "len") call_lenS (by rfl) T.b_len (by decide +kernel) (pa_cons (pv 4) pa_nil)))) rfl)
      (pss_one (ps_for PassesOwn.never rfl (pi_enumT (by rfl) T.b_enumerate (pa_cons (pv 3) pa_nil)) (pg_tup rfl (pgs_cons (pg_name (i := 5) nd rfl (.inr rfl)) (pgs_cons (pg_name (i := 6) nd rfl (.inl rfl)) pgs_nil)))
      (pss_one (ps_dput hu (pe_dget hu (pv 1) pe_str (fun _ _ => rfl)) (pe_tup (pa_cons (pv 2) (pa_cons (pv 6) pa_nil))) (pe_lc (own := [("_law_windows_here", 8)]) (tt := tYes) (g := (gName 8)) rfl nd (pi_listK (K := K) rfl (pv 4)) (blkOk_by (N := N_l_world) (sc := defScope s_l_world) (by decide +kernel)) (fun _ _ _ _ _ => (pg_name (i := 8) nd rfl (.inl rfl))) (fun _ _ _ _ _ => pts_nil) (fun _ _ _ _ _ => (pe_ix (r := rIxL K) ix_list (pv 8) (pv 5) (fun _ _ => rfl)))) rfl)))))))
      (pss_one (ps_ret (pv 1))))), ?_⟩
    refine fun W nW => ?_
    have s1 : Sm H (upd H W (.dK [])) := Sm.rf.up nW
    refine ⟨_, rfl, p, rfl, ⟨_, SqL.of (s1 _ _ hp)⟩, fun M nM => ?_⟩
    have wk := walk_list (K := K) (a := p) (xs := rv)
    rw [hrl] at wk
    refine lc_smY rows wk (fun i H x H' y => sm_YAt y) nM (fun H' s => SqL.of (s _ _ (s1 _ _ hp))) (fun r y _ => y = .str r.nm) (fun _ _ _ _ _ r => r) (by omega) (fun i r x H3 H4 Pa hri s3 s4 _ y ka => ?_) (fun H2 acc s2 hacc hpa => ?_)
    · obtain ⟨rfl, hx⟩ := y
      obtain ⟨r2, hr2, a, t, l, ls, ra⟩ := LiI.paired_get hrp hx
      rw [hri] at hr2
      cases hr2
      obtain rfl := ra.eq
      have ra4 := ra.sm (s1.tr s4)
      exact ⟨rfl, _, rfl, a, _, 0, _, rfl, rfl, SqT.of ra4.at_, at0, ka _ _ Sm.rf rfl⟩
    · have e := paired_eq (f := fun r : Row => V.str r.nm) hpa
      subst e
      have s2 : Sm (upd H W (.dK [])) H2 := s2
      have hW2 := s2 W (.dK []) upd_same
      refine fun U nU => ?_
      have s3 := Sm.rf.up (o := .dK []) nU
      refine fun X nX => ?_
      have s4 := s3.up (o := .dT []) nX
      refine fun D nD => ?_
      have s5 := s4.up (o := .dK []) nD
      have hU : (upd H2 U (.dK [])) U = some (.dK []) := upd_same
      have hX : (upd (upd H2 U (.dK [])) X (.dT [])) X = some (.dT []) := upd_same
      have hU2 := (Sm.rf.up (o := .dT []) nX) _ _ hU
      have hU3 := (Sm.rf.up (o := .dK []) nD) _ _ hU2
      have hX3 := (Sm.rf.up (o := .dK []) nD) _ _ hX
      have hD3 : (upd (upd (upd H2 U (.dK [])) X (.dT [])) D (.dK [])) D = some (.dK []) := upd_same
      have hW3 := s5 _ _ hW2
      have hM3 := s5 _ _ hacc
      have nUW : U ≠ W := (ne_of_none hW2 nU).symm
      have nUM : U ≠ M := (ne_of_none hacc nU).symm
      have nXU : X ≠ U := (ne_of_none hU nX).symm
      have nXW : X ≠ W := (ne_of_none (s3 _ _ hW2) nX).symm
      have nXM : X ≠ M := (ne_of_none (s3 _ _ hacc) nX).symm
      have nDX : D ≠ X := (ne_of_none hX nD).symm
      have nDU : D ≠ U := (ne_of_none hU2 nD).symm
      have nDW : D ≠ W := (ne_of_none (s4 _ _ hW2) nD).symm
      have nDM : D ≠ M := (ne_of_none (s4 _ _ hacc) nD).symm
      have nMW : M ≠ W := ne_of hacc hW2 fun z => nomatch z
      have hU0 : H U = none := s1.un (s2.un nU)
      have hX0 : H X = none := s1.un (s2.un (s3.un nX))
      have hD0 : H D = none := s1.un (s2.un (s4.un nD))
      have hM0 : H M = none := s1.un nM
      have s05 := s1.tr (s2.tr s5)
      generalize (upd (upd (upd H2 U (.dK [])) X (.dT [])) D (.dK [])) = H5 at hU3 hX3 hD3 hW3 hM3 s05 ⊢
      refine ⟨hW3, [(.inr "modules", .ref M), (.inr "uses", .ref U), (.inr "windows", .ref X), (.inr "there", .ref D)], rfl, (by show 4 ≤ 15; decide), ?_⟩
      have em : mergeK [] [(.inr "modules", .ref M), (.inr "uses", .ref U), (.inr "windows", .ref X), (.inr "there", .ref D)] = ([(.inr "modules", .ref M), (.inr "uses", .ref U), (.inr "windows", .ref X), (.inr "there", .ref D)] : List (Key × V)) := by
        rw [mergeK_nd]
        · rfl
        · show ([.inr "modules", .inr "uses", .inr "windows", .inr "there"] : List Key).Nodup
          decide
      rw [em]
      have w0 : WI H (upd H5 W (.dK [(.inr "modules", .ref M), (.inr "uses", .ref U), (.inr "windows", .ref X), (.inr "there", .ref D)])) (ad5 W M U X D) c [] [] [] := by
        refine ⟨s05.set nW, fun a b ha hb e => ?_, fun s hs => ?_, upd_same, ?_, ?_, fun _ h => (nomatch h), ?_, fun _ h => (nomatch h), ?_, fun _ h => (nomatch h)⟩
        · rcases lw5 ha with rfl | rfl | rfl | rfl | rfl <;> rcases lw5 hb with rfl | rfl | rfl | rfl | rfl <;> first
            | rfl
            | exact absurd e nMW
            | exact absurd e nMW.symm
            | exact absurd e nUW
            | exact absurd e nUW.symm
            | exact absurd e nUM
            | exact absurd e nUM.symm
            | exact absurd e nXU
            | exact absurd e nXU.symm
            | exact absurd e nXW
            | exact absurd e nXW.symm
            | exact absurd e nXM
            | exact absurd e nXM.symm
            | exact absurd e nDX
            | exact absurd e nDX.symm
            | exact absurd e nDU
            | exact absurd e nDU.symm
            | exact absurd e nDW
            | exact absurd e nDW.symm
            | exact absurd e nDM
            | exact absurd e nDM.symm
        · rcases lw5 hs with rfl | rfl | rfl | rfl | rfl
          · exact nW
          · exact hM0
          · exact hU0
          · exact hX0
          · exact hD0
        · show (upd H5 W _) M = _
          rw [upd_ne nMW, hM3, cr.mods]
          unfold names
          rw [List.map_map]
          rfl
        · exact (upd_ne nUW).trans hU3
        · exact (upd_ne nXW).trans hX3
        · exact (upd_ne nDW).trans hD3
      generalize (upd H5 W (.dK [(.inr "modules", .ref M), (.inr "uses", .ref U), (.inr "windows", .ref X), (.inr "there", .ref D)])) = H6 at w0 ⊢
      have hp6 := w0.sm _ _ hp
      have hml : c.mods.length = rows.length := by rw [cr.mods]; exact List.length_map ..
      let PR : Nat → List (Nm × Nm) := fun i => (c.mods.take i).flatMap fun m => (c.uses m).map fun u => (m, u)
      refine ⟨_, rfl, p, rfl, ⟨_, SqL.of hp6⟩, ?_⟩
      refine for_it wk (fun i σ H' => ∃ aw, WI H H' aw c (c.mods.take i) (c.mods.take i) (PR i) ∧ aw .wp = W ∧ ∃ x2 x3 x4 x5 x6 x7 x8, σ = [some (.ref p), some (.ref W), x2, x3, x4, x5, x6, x7, x8]) ⟨_, w0, rfl, _, _, _, _, _, _, _, rfl⟩ (fun i σ H' _ ⟨aw, w, _⟩ => SqL.of (w.sm _ _ hp)) (fun i x σ H7 H8 hi p0 y => ?_) (fun σ H7 p0 => ?_)
      · obtain ⟨aw, w, eW, x2, x3, x4, x5, x6, x7, x8, rfl⟩ := p0
        obtain ⟨rfl, hx⟩ := y
        obtain ⟨r, hri, a, t, l, ls, ra0⟩ := LiI.paired_get hrp hx
        obtain rfl := ra0.eq
        have hr := List.mem_of_getElem? hri
        have em : c.mods[i]? = some r.nm := by rw [cr.mods, List.getElem?_map, hri]; rfl
        have hm := List.mem_of_getElem? em
        have hnm := nin_take wf.nd em
        have eu := cr.us r hr
        have ra := ra0.sm w.sm
        have hul : (c.uses r.nm).length ≤ 12 := Nat.le_trans ((wf.und _ hm).length_le_of_subset fun x hx => wf.sub _ hm x hx) wf.few
        have tl : (c.mods.take i).length ≤ 4 := by rw [List.length_take]; omega
        refine ⟨a, _, rfl, SqT.of ra.at_, rfl, _, _, rfl, _, _, rfl, _, _, rfl, rfl, ?_⟩
        -- what it uses
        refine ⟨_, rfl, t, _, rfl, .inr (SqT.of ra.us), fun b nb => ?_⟩
        have sb := Sm.rf.up (o := .lst (r.us.map V.str)) nb
        have wb := w.ext sb
        refine ⟨_, rfl, W, _, rfl, wb.g_ud eW, _, rfl, aw .ud, _, rfl, DPut.k (k := .inr r.nm) wb.ud (by rw [List.length_map]; omega), ?_⟩
        rw [← eu]
        have w1 := w.addX hnm nb rfl
        rw [← take_snoc em] at w1
        have eW1 : setA aw (.xa r.nm) b .wp = W := (setA_ne (by intro z; cases z)).trans eW
        generalize (upd (upd H8 b (.lst ((c.uses r.nm).map V.str))) (aw .ud) (.dK (putK ((c.mods.take i).map fun m => ((.inr m : Key), V.ref (aw (.xa m)))) (.inr r.nm) (.ref b)))) = HA at w1 ⊢
        generalize setA aw (.xa r.nm) b = aw1 at w1 eW1
        have raA := ra0.sm w1.sm
        -- its versions
        refine ⟨_, rfl, l, _, rfl, .inl (SqL.of raA.vl), _, rfl, RgOk.of_le (by omega) (by have := raA.vs.length; have := ro.few5 r hr; omega) (by omega) (by omega), fun b2 nb2 => ?_⟩
        have lsl : ls.length = c.cnt r.nm := by rw [raA.vs.length, cr.cnt r hr]
        rw [lsl, rgV_upTo]
        have sb2 := Sm.rf.up (o := .lst ((upTo (c.cnt r.nm)).map V.int)) nb2
        have wb2 := w1.ext sb2
        refine ⟨_, rfl, W, _, rfl, wb2.g_td eW1, _, rfl, aw1 .td, _, rfl, DPut.k (k := .inr r.nm) wb2.td (by rw [List.length_map]; omega), ?_⟩
        have w2 := w1.addT hnm nb2 rfl
        rw [← take_snoc em] at w2
        have eW2 : setA aw1 (.ta r.nm) b2 .wp = W := (setA_ne (by intro z; cases z)).trans eW1
        generalize (upd (upd HA b2 (.lst ((upTo (c.cnt r.nm)).map V.int))) (aw1 .td) (.dK (putK ((c.mods.take i).map fun m => ((.inr m : Key), V.ref (aw1 (.ta m)))) (.inr r.nm) (.ref b2)))) = HB at w2 ⊢
        generalize setA aw1 (.ta r.nm) b2 = aw2 at w2 eW2
        have raB := ra0.sm w2.sm
        refine ⟨_, rfl, t, _, rfl, SqT.of raB.us, ?_⟩
        have wk3 := walk_enumT (K := K) (a := t) (xs := r.us.map V.str)
        rw [List.length_map] at wk3
        have ePR : PR (i + 1) = PR i ++ (c.uses r.nm).map fun u => (r.nm, u) := flatMap_take em
        have lPR : (PR i).length ≤ 48 := by
          refine Nat.le_trans (flat_len (fun m => (c.uses m).map fun u => (m, u)) 12 _ fun m hm' => ?_) (by omega)
          have hm' := List.mem_of_mem_take hm'
          rw [List.length_map]
          exact Nat.le_trans ((wf.und _ hm').length_le_of_subset fun x hx => wf.sub _ hm' x hx) wf.few
        refine for_it wk3 (fun j σ H' => ∃ aw, WI H H' aw c (c.mods.take (i + 1)) (c.mods.take (i + 1)) (PR i ++ ((c.uses r.nm).take j).map fun u => (r.nm, u)) ∧ aw .wp = W ∧ ∃ x5 x6 x7 x8, σ = [some (.ref p), some (.ref W), some (.str r.nm), some (.ref t), some (.ref l), x5, x6, x7, x8]) ⟨aw2, by rw [List.take_zero, List.map_nil, List.append_nil]; exact w2, eW2, _, _, _, _, rfl⟩ (fun j σ H' _ ⟨aw, w, _⟩ => SqT.of (ra0.sm w.sm).us) (fun j x σ HC HD hj p0 y => ?_) (fun σ HC p0 => ?_)
        · obtain ⟨aw, w, eW, x5, x6, x7, x8, rfl⟩ := p0
          obtain ⟨Tp, a1, b1, rfl, nT, rfl, ea, eb⟩ := y
          cases ea
          have euj : r.us[j]? = some r.us[j] := List.getElem?_eq_getElem hj
          generalize r.us[j] = u at euj
          have eb := pick1 euj eb
          subst eb
          have euc : (c.uses r.nm)[j]? = some u := by rw [eu]; exact euj
          have hum := List.mem_of_getElem? euc
          have hnu := nin_take (wf.und _ hm) euc
          refine ⟨Tp, _, rfl, SqT.of upd_same, rfl, _, _, rfl, _, _, rfl, rfl, ?_⟩
          have w3 := w.ext (Sm.rf.up (o := .tup [.int (j : Nat), .str u]) nT)
          generalize (upd HC Tp (.tup [.int (j : Nat), .str u])) = HE at w3 ⊢
          have raE := ra0.sm w3.sm
          refine ⟨_, rfl, l, rfl, ⟨_, SqL.of raE.vl⟩, fun D2 nD2 => ?_⟩
          have wk4 := walk_list (K := K) (a := l) (xs := ls)
          rw [raE.vs.length] at wk4
          refine lc_smY r.vs wk4 (fun i H x H' y => sm_YAt y) nD2 (fun H' s => SqL.of (s _ _ raE.vl)) (fun ws y H => ∃ a, y = .ref a ∧ a ≠ D2 ∧ H a = some (.tup (winV (ws.getD j (0, none))))) (fun t y H4 H5 o r => let ⟨a, e1, e2, e3⟩ := r; ⟨a, e1, e2, o _ _ e3 e2⟩) (by have := ro.few5 r hr; omega) (fun k ws x HF HG Pa hk sf sg hD y ka => ?_) (fun HF ac2 sf hac2 hpb => ?_)
          · obtain ⟨rfl, hx⟩ := y
            obtain ⟨ws2, hws2, lx, rx, rfl, hlx, hwx⟩ := LiI.paired_get raE.vs hx
            rw [hk] at hws2
            cases hws2
            have hwl := ro.len r hr ws (List.mem_of_getElem? hk)
            have ew := getD_mem (c := ws) (k := j) (by rw [hwl]; exact hj)
            have hrx : j < rx.length := by rw [hwx.length, hwl]; exact hj
            have erx : rx[j]? = some rx[j] := List.getElem?_eq_getElem hrx
            obtain ⟨w5, hw5, a5, ea5, ha5⟩ := LiI.paired_get hwx erx
            rw [ew] at hw5
            cases hw5
            rw [ea5] at erx
            obtain ⟨acD, hD⟩ := hD
            have ha6 := sg _ _ ha5
            exact ⟨rfl, _, rfl, _, rfl, lx, rx, (j : Nat), _, rfl, rfl, SqL.of (sg _ _ hlx), atI_nat erx, ka _ _ Sm.rf ⟨a5, rfl, ne_of ha6 hD (fun z => nomatch z), ha6⟩⟩
          · have sf : Sm HE HF := sf
            have wF := w3.ext sf
            have hwn : WinsAre HF ac2 (c.wins r.nm u) := by
              rw [cr.wins r hr j u euj]
              exact paired_mapL hpb fun ws y ⟨a, e1, _, e3⟩ => ⟨a, e1, e3⟩
            refine ⟨_, rfl, W, _, rfl, wF.g_ww eW, _, rfl, _, rfl, (by show 2 ≤ sizeLine; omega), fun b nb => ?_⟩
            have sb := Sm.rf.up (o := .tup [.str r.nm, .str u]) nb
            have wG := wF.ext sb
            have hmem : (r.nm, u) ∉ PR i ++ ((c.uses r.nm).take j).map fun u => (r.nm, u) := fun hq => by
              rcases List.mem_append.mp hq with hq | hq
              · obtain ⟨m', hm', hq⟩ := List.mem_flatMap.mp hq
                obtain ⟨u', _, e⟩ := List.mem_map.mp hq
                exact hnm ((Prod.mk.inj e).1 ▸ hm')
              · obtain ⟨u', hu', e⟩ := List.mem_map.mp hq
                exact hnu ((Prod.mk.inj e).2 ▸ hu')
            refine ⟨aw .ww, _, rfl, DPut.t (k := pk (r.nm, u)) wG.ww upd_same (by rw [List.length_map, List.length_append, List.length_map, List.length_take]; omega), ?_⟩
            have w4 := w3.addW hmem (sf.tr sb) nD2 (sb _ _ hac2) (hwn.keep fun _ _ z => sb _ _ z) rfl
            rw [List.append_assoc] at w4
            have et : ((c.uses r.nm).take (j + 1)).map (fun u => (r.nm, u)) = ((c.uses r.nm).take j).map (fun u => (r.nm, u)) ++ [(r.nm, u)] := by
              rw [take_snoc euc, List.map_append]
              rfl
            exact ⟨_, by rw [et]; exact w4, (setA_ne (by intro z; cases z)).trans eW, _, _, _, _, rfl⟩
        · obtain ⟨aw, w, eW, x5, x6, x7, x8, rfl⟩ := p0
          have el : r.us.length = (c.uses r.nm).length := by rw [eu]
          rw [el, List.take_length, ← ePR] at w
          exact ⟨aw, w, eW, _, _, _, _, _, _, _, rfl⟩
      · obtain ⟨aw, w, eW, x2, x3, x4, x5, x6, x7, x8, rfl⟩ := p0
        have e1 : c.mods.take rows.length = c.mods := by rw [← hml, List.take_length]
        have e2 : PR rows.length = c.pairs := by
          show (c.mods.take rows.length).flatMap _ = _
          rw [e1]
          rfl
        rw [e1, e2] at w
        refine ⟨_, rfl, ?_⟩
        rw [← eW]
        exact q H7 aw w.sm (w.world fun m hm => by
          rw [cr.mods] at hm
          obtain ⟨r, hr, rfl⟩ := List.mem_map.mp hm
          exact cr.wd r hr) w.inj w.nw
end
end Gs
/-! ## GsL18 -/
namespace Gs
open PySem PySem.Spec PyProof.Rows L2
section
variable {P : Program} {w : World} {K : PySem.W.Frag} {mg : Str → Option Value} {base : Heap}
/-- the slots of catalog, world and generator -/
def LA (c : Cat) (s : Sl) : Prop := LiveC c s ∨ LiveW c s ∨ s = .rg
theorem LA.ct {c : Cat} {s : Sl} (h : LiveC c s) : LA c s := .inl h
theorem LA.wd {c : Cat} {s : Sl} (h : LiveW c s) : LA c s := .inr (.inl h)
theorem LA.gn {c : Cat} : LA c .rg := .inr (.inr rfl)
theorem noCW {c : Cat} {s : Sl} (h : LiveC c s) : ¬ LiveW c s ∧ s ≠ .rg := by
  cases s <;> first
    | exact False.elim h
    | exact ⟨fun z => z, fun z => nomatch z⟩
theorem noWC {c : Cat} {s : Sl} (h : LiveW c s) : ¬ LiveC c s ∧ s ≠ .rg := by
  cases s <;> first
    | exact False.elim h
    | exact ⟨fun z => z, fun z => nomatch z⟩
structure St (T : Txt K mg) (H : Hp) (A : Ad) (rn : Nat) (c : Cat) : Prop where
  rd : Rd0 T H A rn c
  wo : WorAt H A c
  rg : RngAt H (A .rg)
  inj : Inj A (LA c)
  few : c.mods.length ≤ 4
  pos : ∀ m ∈ c.mods, 1 ≤ c.cnt m
  wdl : ∀ m ∈ c.mods, ∀ v ∈ c.wd m, v < (c.cnt m : Nat)
theorem St.cx {T : Txt K mg} {H : Hp} {A : Ad} {rn : Nat} {c : Cat} (h : St T H A rn c) : CatX T H A rn c := ⟨h.rd, fun s t hs ht e => h.inj s t (.ct hs) (.ct ht) e⟩
section
variable {H H' : Hp} {A : Ad} {c : Cat}
theorem WorAt.live (h : WorAt H A c) {s : Sl} (hs : LiveW c s) : ∃ o, H (A s) = some o ∧ (∀ xs, o ≠ .tup xs) ∧ (∀ ps, o ≠ .tbl ps) ∧ ∀ a q, o ≠ LamX.CodeO a q := by
  cases s with
  | wp => exact ⟨_, h.wp, fun _ z => (nomatch z), fun _ z => (nomatch z), fun _ _ z => (nomatch z)⟩
  | ml => exact ⟨_, h.ml, fun _ z => (nomatch z), fun _ z => (nomatch z), fun _ _ z => (nomatch z)⟩
  | ud => exact ⟨_, h.ud, fun _ z => (nomatch z), fun _ z => (nomatch z), fun _ _ z => (nomatch z)⟩
  | ww => exact ⟨_, h.ww, fun _ z => (nomatch z), fun _ z => (nomatch z), fun _ _ z => (nomatch z)⟩
  | td => exact ⟨_, h.td, fun _ z => (nomatch z), fun _ z => (nomatch z), fun _ _ z => (nomatch z)⟩
  | xa m => exact ⟨_, h.xa m hs, fun _ z => (nomatch z), fun _ z => (nomatch z), fun _ _ z => (nomatch z)⟩
  | ta m => exact ⟨_, h.ta m hs, fun _ z => (nomatch z), fun _ z => (nomatch z), fun _ _ z => (nomatch z)⟩
  | wa m u => obtain ⟨r, e, _⟩ := h.wa (m, u) hs; exact ⟨_, e, fun _ z => (nomatch z), fun _ z => (nomatch z), fun _ _ z => (nomatch z)⟩
  | _ => exact hs.elim
/-- the world stands where only other slots are written -/
theorem WorAt.keep (h : WorAt H A c) (k : ∀ s o, LiveW c s → H (A s) = some o → H' (A s) = some o) (tk : ∀ b xs, H b = some (.tup xs) → H' b = some (.tup xs)) : WorAt H' A c where
  wp := k .wp _ trivial h.wp
  ml := k .ml _ trivial h.ml
  ud := k .ud _ trivial h.ud
  xa := fun m hm => k (.xa m) _ hm (h.xa m hm)
  ww := k .ww _ trivial h.ww
  wa := fun p hp => let ⟨r, a, b⟩ := h.wa p hp; ⟨r, k (.wa p.1 p.2) _ hp a, b.keep tk⟩
  td := k .td _ trivial h.td
  ta := fun m hm => k (.ta m) _ hm (h.ta m hm)
theorem CatAt.keep {C : Addr} {rn : Nat} (h : CatAt C H A rn c) (k : ∀ s o, LiveC c s → H (A s) = some o → H' (A s) = some o) (tk : ∀ b xs, H b = some (.tup xs) → H' b = some (.tup xs)) : CatAt C H' A rn c where
  ob := k .cp _ trivial h.ob
  ut := k .ut _ trivial h.ut
  us := fun m hm => tk _ _ (h.us m hm)
  wt := k .wt _ trivial h.wt
  ws := fun p hp => let ⟨r, a, b⟩ := h.ws p hp; ⟨r, k (.ca p.1 p.2) _ (mem_pairs.mp (show (p.1, p.2) ∈ c.pairs from hp)) a, b.keep tk⟩
  ct := k .ct _ trivial h.ct
  cw := k .cw _ trivial h.cw
  ds := fun m hm => k (.da m) _ hm (h.ds m hm)
  rc := let ⟨r, a, b⟩ := h.rc; ⟨r, k .rc _ trivial a, b⟩
  wl := h.wl
end
/-- what stands at no live slot stands -/
def FrA (A : Ad) (c : Cat) (H H' : Hp) : Prop := ∀ b o, H b = some o → (∀ s, LA c s → b ≠ A s) → H' b = some o
theorem FrA.rf {A : Ad} {c : Cat} {H : Hp} : FrA A c H H := fun _ _ e _ => e
theorem FrA.tr {A : Ad} {c : Cat} {H H1 H2 : Hp} (a : FrA A c H H1) (b : FrA A c H1 H2) : FrA A c H H2 := fun x o e n => b x o (a x o e n) n
theorem FrA.kp {A : Ad} {c : Cat} {S : List Sl} {H H' : Hp} (k : Kp (S.map A) H H') (hS : ∀ s ∈ S, LA c s) : FrA A c H H' := fun b o e n => k b o e fun hb => by
  obtain ⟨s, hs, rfl⟩ := List.mem_map.mp hb
  exact n s (hS s hs) rfl
theorem FrA.of {A : Ad} {c : Cat} {H H' : Hp} (s : Sm H H') : FrA A c H H' := fun b o e _ => s b o e
theorem FrA.up {A : Ad} {c : Cat} {H H' : Hp} {s : Sl} {o : HO} (k : FrA A c H H') (hs : LA c s) : FrA A c H (upd H' (A s) o) := fun b u e n => by
  rw [upd_ne (n s hs)]
  exact k b u e n
section
variable {T : Txt K mg} {H H' : Hp} {A : Ad} {rn : Nat} {c : Cat}
theorem St.live (h : St T H A rn c) {s : Sl} (hs : LA c s) : ∃ o, H (A s) = some o ∧ (∀ xs, o ≠ .tup xs) ∧ (∀ ps, o ≠ .tbl ps) ∧ ∀ a q, o ≠ LamX.CodeO a q := by
  rcases hs with hs | hs | rfl
  · cases s with
    | cp => exact ⟨_, h.rd.at_.ob, fun _ z => (nomatch z), fun _ z => (nomatch z), fun _ _ z => (nomatch z)⟩
    | ut => exact ⟨_, h.rd.at_.ut, fun _ z => (nomatch z), fun _ z => (nomatch z), fun _ _ z => (nomatch z)⟩
    | wt => exact ⟨_, h.rd.at_.wt, fun _ z => (nomatch z), fun _ z => (nomatch z), fun _ _ z => (nomatch z)⟩
    | ct => exact ⟨_, h.rd.at_.ct, fun _ z => (nomatch z), fun _ z => (nomatch z), fun _ _ z => (nomatch z)⟩
    | cw => exact ⟨_, h.rd.at_.cw, fun _ z => (nomatch z), fun _ z => (nomatch z), fun _ _ z => (nomatch z)⟩
    | rc => obtain ⟨rs, e, _⟩ := h.rd.at_.rc; exact ⟨_, e, fun _ z => (nomatch z), fun _ z => (nomatch z), fun _ _ z => (nomatch z)⟩
    | da m => exact ⟨_, h.rd.at_.ds m hs, fun _ z => (nomatch z), fun _ z => (nomatch z), fun _ _ z => (nomatch z)⟩
    | ca m u => obtain ⟨rs, e, _⟩ := h.rd.at_.ws (m, u) (mem_pairs.mpr hs); exact ⟨_, e, fun _ z => (nomatch z), fun _ z => (nomatch z), fun _ _ z => (nomatch z)⟩
    | _ => exact hs.elim
  · exact h.wo.live hs
  · obtain ⟨a, b, e, _⟩ := h.rg
    exact ⟨_, e, fun _ z => (nomatch z), fun _ z => (nomatch z), fun _ _ z => (nomatch z)⟩
theorem St.tabs {L : List (Addr × Str)} (h : St T H A rn c) (t : LamX.Tabs L H) (f : FrA A c H H') : LamX.Tabs L H' := fun z hz => by
  obtain ⟨ps, e1, e2, e3⟩ := t z hz
  refine ⟨ps, f _ _ e1 fun s hs e => ?_, e2, fun pos cv hc => ?_⟩
  · obtain ⟨o, h1, _, h3, _⟩ := h.live hs
    rw [e, h1] at e1
    exact h3 _ (Option.some.inj e1)
  · obtain ⟨a, e4, e5⟩ := e3 pos cv hc
    refine ⟨a, e4, f _ _ e5 fun s hs e => ?_⟩
    obtain ⟨o, h1, _, _, h4⟩ := h.live hs
    rw [e, h1] at e5
    exact h4 _ _ (Option.some.inj e5)
theorem St.tup (h : St T H A rn c) (f : FrA A c H H') : ∀ b xs, H b = some (.tup xs) → H' b = some (.tup xs) := fun b xs e => f _ _ e fun s hs z => by
  obtain ⟨o, h1, h2, _⟩ := h.live hs
  rw [z, h1] at e
  exact h2 _ (Option.some.inj e)
theorem Kp.at_ {S : List Sl} (k : Kp (S.map A) H H') (i : Inj A (LA c)) (hS : ∀ s ∈ S, LA c s) {s : Sl} (hs : LA c s) (n : s ∉ S) {o : HO} (e : H (A s) = some o) : H' (A s) = some o := k _ _ e fun hb => by
  obtain ⟨t, ht, q⟩ := List.mem_map.mp hb
  exact n (i _ _ hs (hS t ht) q.symm ▸ ht)
/-- the generator alone moved -/
theorem St.rng (h : St T H A rn c) (k : Kp [A .rg] H H') (g : RngAt H' (A .rg)) : St T H' A rn c := by
  have k' : Kp ([Sl.rg].map A) H H' := k
  have hS : ∀ s ∈ [Sl.rg], LA c s := fun s hs => by rw [List.mem_singleton.mp hs]; exact .gn
  have tk := h.tup (FrA.kp k' hS)
  exact ⟨⟨h.rd.at_.keep (fun s o hs e => k'.at_ h.inj hS (.ct hs) (fun z => (noCW hs).2 (List.mem_singleton.mp z)) e) tk, h.rd.wf, h.rd.nm⟩, h.wo.keep (fun s o hs e => k'.at_ h.inj hS (.wd hs) (fun z => (noWC hs).2 (List.mem_singleton.mp z)) e) tk, g, h.inj, h.few, h.pos, h.wdl⟩
theorem St.sm (h : St T H A rn c) (s : Sm H H') : St T H' A rn c := ⟨h.rd.sm s, h.wo.sm s, h.rg.sm s, h.inj, h.few, h.pos, h.wdl⟩
theorem FrA.rng (k : Kp [A .rg] H H') : FrA A c H H' := FrA.kp (S := [.rg]) k fun s hs => by rw [List.mem_singleton.mp hs]; exact .gn
theorem there_erase {m : Nm} {v : Int} : (c.there m).erase v = (c.wdr m v).there m := by
  have nd : (c.there m).Nodup := (c.there_sorted m).imp fun h => by omega
  rw [nd.erase_eq_filter]
  show _ = (upTo (c.cnt m)).filter fun z => !decide (z ∈ if m = m then c.wd m ++ [v] else c.wd m)
  rw [if_pos rfl]
  unfold Cat.there
  rw [List.filter_filter]
  refine List.filter_congr fun z _ => ?_
  by_cases h1 : z = v <;> by_cases h2 : z ∈ c.wd m <;> simp [h1, h2]
theorem there_other {m k : Nm} {v : Int} (h : k ≠ m) : (c.wdr m v).there k = c.there k := by
  show (upTo (c.cnt k)).filter (fun z => !decide (z ∈ if k = m then c.wd k ++ [v] else c.wd k)) = _
  rw [if_neg h]
  rfl
end
theorem LA_eq {c c' : Cat} (em : c'.mods = c.mods) (eu : c'.uses = c.uses) : LA c' = LA c := by
  have ep : c'.pairs = c.pairs := by
    unfold Cat.pairs
    rw [em, eu]
  funext s
  unfold LA LiveW
  rw [ep, em]
  cases s <;> simp only [LiveC, em, eu]
theorem St.wdr {T : Txt K mg} {H H' : Hp} {A : Ad} {rn : Nat} {c : Cat} {m : Nm} {v : Int} (h : St T H A rn c) (hm : m ∈ c.mods) (hv : v ∈ c.there m) (k : Kp ([.da m, .rc].map A) H H') (cx : CatX T H' A (rn + 1) (c.wdr m v)) :
    WorAt H' A c ∧ St T (upd H' (A (.ta m)) (.lst (((c.there m).erase v).map V.int))) A (rn + 1) (c.wdr m v) ∧ FrA A c H (upd H' (A (.ta m)) (.lst (((c.there m).erase v).map V.int))) := by
  have hS : ∀ s ∈ ([.da m, .rc] : List Sl), LA c s := fun s hs => by
    rcases List.mem_cons.mp hs with rfl | hs
    · exact .ct hm
    · rw [List.mem_singleton.mp hs]; exact .ct trivial
  have f := FrA.kp k hS
  have tk := h.tup f
  have wo : WorAt H' A c := h.wo.keep (fun s o hs e => k.at_ h.inj hS (.wd hs) (fun z => (noWC hs).1 (by
    rcases List.mem_cons.mp z with rfl | z
    · exact hm
    · rw [List.mem_singleton.mp z]; exact trivial)) e) tk
  have lt : LA c (.ta m) := .wd hm
  have ne : ∀ s, LA c s → s ≠ .ta m → ∀ o, H' (A s) = some o → (upd H' (A (.ta m)) (.lst (((c.there m).erase v).map V.int))) (A s) = some o := fun s hs n o e => by
    rw [upd_ne fun z => n (h.inj _ _ hs lt z)]
    exact e
  have tk2 : ∀ b xs, H' b = some (.tup xs) → (upd H' (A (.ta m)) (.lst (((c.there m).erase v).map V.int))) b = some (.tup xs) := fun b xs e => by
    rw [upd_ne (ne_of e (wo.ta m hm) fun z => nomatch z)]
    exact e
  refine ⟨wo, ⟨⟨cx.rd.at_.keep (fun s o hs e => ne s (.ct hs) (fun z => by subst z; exact hs) o e) tk2, cx.rd.wf, cx.rd.nm⟩, ⟨ne .wp (.wd trivial) (by intro z; cases z) _ wo.wp, ne .ml (.wd trivial) (by intro z; cases z) _ wo.ml, ne .ud (.wd trivial) (by intro z; cases z) _ wo.ud, fun k hk => ne (.xa k) (.wd hk) (by intro z; cases z) _ (wo.xa k hk), ne .ww (.wd trivial) (by intro z; cases z) _ wo.ww, fun p hp => ?_, ne .td (.wd trivial) (by intro z; cases z) _ wo.td, fun k hk => ?_⟩, ?_, h.inj, h.few, h.pos, fun z hz u hu => ?_⟩, f.up lt⟩
  · obtain ⟨r, a, b⟩ := wo.wa p hp
    exact ⟨r, ne (.wa p.1 p.2) (.wd hp) (by intro z; cases z) _ a, b.keep tk2⟩
  · by_cases e : k = m
    · subst e
      rw [upd_same, there_erase]
    · rw [there_other e]
      exact ne (.ta k) (.wd hk) (by intro z; cases z; exact e rfl) _ (wo.ta k hk)
  · obtain ⟨a, b, e, z⟩ := h.rg
    exact ⟨a, b, ne .rg .gn (by intro z; cases z) _ (k.at_ h.inj hS .gn (by simp) e), z⟩
  · have hu : u ∈ (if z = m then c.wd z ++ [v] else c.wd z) := hu
    by_cases e : z = m
    · rw [if_pos e] at hu
      rcases List.mem_append.mp hu with hu | hu
      · exact h.wdl z hz u hu
      · rw [List.mem_singleton.mp hu]
        show v < (c.cnt z : Nat)
        rw [e]
        exact (Cat.mem_there.mp hv).1.2
    · rw [if_neg e] at hu
      exact h.wdl z hz u hu
theorem ok_l_withdrawn (T : Txt K mg) : FnOk P w K mg base CX0 5 T.d_l_withdrawn.f T.d_l_withdrawn.fd ["_law_rng_here", "_law_catalog", "_law_world_here", "_law_most"] (fun vs H Q _ => ∃ (A : Ad) (rn : Nat) (c : Cat), vs = [.ref (A .rg), .ref (A .cp), .ref (A .wp), .int 4] ∧ St T H A rn c ∧ rn ≤ 9000 ∧
    ∀ H' rn' c', FrA A c H H' → St T H' A rn' c' → rn' ≤ rn + 4 → c'.mods = c.mods → c'.uses = c.uses → Q .non H') := by
  have nd := sc_l_withdrawn.nd
  refine T.d_l_withdrawn.F.ok sc_l_withdrawn (fun vs H Q E h => ?_) (fun cdv A outer s H vs Q E hr h => ?_)
  · obtain ⟨A, rn, c, rfl, _⟩ := h; rfl
  · obtain ⟨ad, rn, c, rfl, h, hrn, q⟩ := h
    have hu := hu_of hr
    have hs : sizeLine = 16777216 := sizeLine_eq
    refine ⟨_, (pss_one (ps_for PassesOwn.never rfl (pi_range1 (by rfl) T.b_range (pa_cons (pcall (ok_l_draw T) T.d_l_draw.M (hr.mono (by decide)) (pa_cons (pv 0) (pa_cons (pe_op op_add (pv 3) pe_int) pa_nil))) pa_nil)) (pg_name (i := 4) nd rfl (.inl rfl))
      (pss_cons (ps_set (i := 5) nd rfl (.inl rfl) (pcall (ok_l_choice T) T.d_l_choice.M (hr.mono (by decide)) (pa_cons (pv 0) (pa_cons (pe_dget hu (pv 2) pe_str (fun _ _ => rfl)) pa_nil))))
      (pss_one (ps_if (pt_cmpR op_gt (pe_callB (r := rLenS K) (id := "len") call_lenS (by rfl) T.b_len (by decide +kernel) (pa_cons (pe_dget hu (pe_dget hu (pv 2) pe_str (fun _ _ => rfl)) (pv 5) (fun _ _ => rfl)) pa_nil)) pe_int (nomark _)) (pss_cons (ps_set (i := 6) nd rfl (.inl rfl) (pcall (ok_l_choice T) T.d_l_choice.M (hr.mono (by decide)) (pa_cons (pv 0) (pa_cons (pe_dget hu (pe_dget hu (pv 2) pe_str (fun _ _ => rfl)) (pv 5) (fun _ _ => rfl)) pa_nil))))
      (pss_cons (ps_expr (pe_meth (pv 1) T.cl T.d_Catalog_withdraw.me (ok_Catalog_withdraw T) (hr.mono (by decide)) T.d_Catalog_withdraw.B .nil pass0 (pa_cons (pv 5) (pa_cons (pv 6) pa_nil))))
      (pss_one (ps_expr (pe_bmK (K := K) rfl PySem.F.plainAttrs_list PySem.F.slot_list_remove PySem.F.type_list_remove mt_remove (pe_dget hu (pe_dget hu (pv 2) pe_str (fun _ _ => rfl)) (pv 5) (fun _ _ => rfl)) (pa_cons (pv 6) pa_nil)))))) pss_nil))))), ?_⟩
    refine ⟨_, rfl, _, rfl, _, _, rfl, rfl, ad .rg, 5, rfl, h.rg, by decide, by decide, fun H1 d k1 g1 d0 d1 => ?_⟩
    refine ⟨d, rfl, by omega, by omega, ?_⟩
    have h1 := h.rng k1 g1
    have wk := walk_range (lo := 0) (n := d.toNat)
    refine for_it wk (fun i σ H' => ∃ rn' c', FrA ad c H H' ∧ St T H' ad rn' c' ∧ rn' ≤ rn + i ∧ c'.mods = c.mods ∧ c'.uses = c.uses ∧ ∃ x4 x5 x6, σ = [some (.ref (ad .rg)), some (.ref (ad .cp)), some (.ref (ad .wp)), some (.int 4), x4, x5, x6]) ⟨rn, c, FrA.rng k1, h1, Nat.le_refl _, rfl, rfl, _, _, _, rfl⟩ (fun _ _ _ _ _ => trivial) (fun i x σ H2 H3 hi p y => ?_) (fun σ H2 p => ?_)
    · obtain ⟨rn', c', f2, h2, hrn', em, eu, x4, x5, x6, rfl⟩ := p
      obtain ⟨rfl, rfl⟩ := y
      have hi4 : i < 5 := by omega
      have eLA := LA_eq em eu
      have fr : ∀ {Ha Hb : Hp}, FrA ad c' Ha Hb → FrA ad c Ha Hb := fun f => by
        unfold FrA at f ⊢
        rw [← eLA]
        exact f
      have wf := h2.rd.wf
      have hml : 0 < c'.mods.length := List.length_pos_iff.mpr wf.ne
      have h4l := h2.few
      have ng : ∀ {s : Sl}, LiveW c' s → ad s ≠ ad .rg := fun hs e => (noWC hs).2 (h2.inj _ _ (.wd hs) .gn e)
      refine ⟨_, rfl, _, rfl, ad .wp, _, rfl, h2.wo.g_ml, ad .rg, ad .ml, _, rfl, h2.rg, h2.wo.ml, ng (s := .ml) trivial, by rw [List.length_map]; exact hml, by rw [List.length_map]; omega, fun H4 x k4 g4 hx => ?_⟩
      obtain ⟨m, hm, rfl⟩ := List.mem_map.mp hx
      have h4 := h2.rng k4 g4
      have f4 := f2.tr (fr (FrA.rng k4))
      have htl : (c'.there m).length ≤ 16 := Nat.le_trans (c'.there_len m) (wf.c16 m hm)
      refine ⟨_, rfl, ad .wp, _, rfl, h4.wo.g_td, _, rfl, ad .td, _, rfl, h4.wo.g_ta wf hm, ad (.ta m), _, rfl, .inl (SqL.of (h4.wo.ta m hm)), _, _, rfl, rfl, _, rfl, ?_⟩
      rw [List.length_map]
      by_cases hgt : (1 : Int) < ((c'.there m).length : Nat)
      · refine ifT (decT hgt) ?_
        refine ⟨_, rfl, _, rfl, ad .wp, _, rfl, h4.wo.g_td, _, rfl, ad .td, _, rfl, h4.wo.g_ta wf hm, ad .rg, ad (.ta m), _, rfl, h4.rg, h4.wo.ta m hm, ng (s := .ta m) hm, by rw [List.length_map]; omega, by rw [List.length_map]; omega, fun H5 y k5 g5 hy => ?_⟩
        obtain ⟨v, hv, rfl⟩ := List.mem_map.mp hy
        have h5 := h4.rng k5 g5
        have f5 := f4.tr (fr (FrA.rng k5))
        refine ⟨_, rfl, _, _, _, rfl, h5.rd.at_.ob, rfl, _, rfl, _, rfl, ad, rn', c', m, v, rfl, h5.cx, by omega, hm, hv, fun H6 k6 cx6 => ?_⟩
        obtain ⟨wo6, st6, fr6⟩ := h5.wdr hm hv k6 cx6
        obtain ⟨j, j1, j2, j3, j4⟩ := first_at hv
        refine ⟨_, rfl, ad .wp, _, rfl, wo6.g_td, _, rfl, ad .td, _, rfl, wo6.g_ta wf hm, .inl ⟨rfl, _, .inl (.inl (wo6.ta m hm))⟩, _, rfl, ad (.ta m), c'.there m, v, j, rfl, rfl, wo6.ta m hm, j2, j3, ?_⟩
        rw [j4]
        exact ⟨rn' + 1, c'.wdr m v, f5.tr (fr fr6), st6, by omega, em, eu, _, _, _, rfl⟩
      · exact ifF (decF hgt) ⟨rn', c', f4, h4, by omega, em, eu, _, _, _, rfl⟩
    · obtain ⟨rn', c', f2, h2, hrn', em, eu, _⟩ := p
      exact q _ rn' c' f2 h2 (by omega) em eu
end
end Gs
/-! ## GsL19 -/
namespace Gs
open PySem PySem.Spec PyProof.Rows L2
section
variable {P : Program} {w : World} {K : PySem.W.Frag} {mg : Str → Option Value} {base : Heap}
theorem lookup_zip_at {α β : Type} [BEq α] [LawfulBEq α] : ∀ {l : List α} {ws : List β} {i : Nat} {u : α}, l.Nodup → l[i]? = some u → (l.zip ws).lookup u = ws[i]?
  | [], _, _, _, _, h => by cases h
  | _ :: _, [], _, _, _, _ => rfl
  | a :: l, x :: ws, 0, u, _, h => by
    cases h
    simp [List.lookup]
  | a :: l, x :: ws, i + 1, u, hn, h => by
    have hn' := List.nodup_cons.mp hn
    have hm : u ∈ l := List.mem_of_getElem? (show l[i]? = some u from h)
    have ne : (u == a) = false := by
      rw [beq_eq_false_iff_ne]
      intro e
      subst e
      exact hn'.1 hm
    rw [List.zip_cons_cons, List.lookup_cons, ne]
    exact lookup_zip_at hn'.2 h
/-- module m's new windows ws, as far as they are made -/
def Cat.pre (c : Cat) (m : Nm) (ws : List Win) : Cat := { c with wins := fun a b => if a = m then c.wins a b ++ (((c.uses m).zip ws).lookup b).toList else c.wins a b }
theorem pre_other {c : Cat} {m a b : Nm} {ws : List Win} (h : a ≠ m) : (c.pre m ws).wins a b = c.wins a b := if_neg h
theorem pre_at {c : Cat} {m b : Nm} {ws : List Win} {i : Nat} (nd : (c.uses m).Nodup) (h : (c.uses m)[i]? = some b) : (c.pre m ws).wins m b = c.wins m b ++ ws[i]?.toList := by
  show (if m = m then c.wins m b ++ (((c.uses m).zip ws).lookup b).toList else _) = _
  rw [if_pos rfl, lookup_zip_at nd h]
section
variable {H H' : Hp} {aw : Ad} {c : Cat}
theorem WorAt.xa_get (h : WorAt H aw c) (nd : c.mods.Nodup) {m : Nm} (hm : m ∈ c.mods) : DGet H (aw .ud) (.str m) (some (.ref (aw (.xa m)))) := by
  have := DGet.k (k := (.inr m : Key)) h.ud
  rwa [val_map (kf := fun m => (.inr m : Key)) (vf := fun m => V.ref (aw (.xa m))) (nodup_inr nd) hm] at this
theorem WorAt.ta_get (h : WorAt H aw c) (nd : c.mods.Nodup) {m : Nm} (hm : m ∈ c.mods) : DGet H (aw .td) (.str m) (some (.ref (aw (.ta m)))) := by
  have := DGet.k (k := (.inr m : Key)) h.td
  rwa [val_map (kf := fun m => (.inr m : Key)) (vf := fun m => V.ref (aw (.ta m))) (nodup_inr nd) hm] at this
theorem WorAt.wa_get (h : WorAt H aw c) (nd : c.mods.Nodup) (und : ∀ m ∈ c.mods, (c.uses m).Nodup) {m u : Nm} (hm : m ∈ c.mods) (hu : u ∈ c.uses m) {b : Addr} (hb : H b = some (.tup [.str m, .str u])) : DGet H (aw .ww) (.ref b) (some (.ref (aw (.wa m u)))) := by
  have := DGet.t (k := pk (m, u)) h.ww hb
  rwa [val_map (kf := pk) (vf := fun p : Nm × Nm => V.ref (aw (.wa p.1 p.2))) (nodup_pk (pairs_nd nd und)) (mem_pairs.mpr ⟨hm, hu⟩)] at this
end
/-- a state while windows are being made -/
structure Pre (T : Txt K mg) (H : Hp) (A : Ad) (rn : Nat) (c : Cat) (m : Nm) (ws : List Win) : Prop where
  rd : Rd0 T H A rn c
  wo : WorAt H A (c.pre m ws)
  rg : RngAt H (A .rg)
theorem St.pre {T : Txt K mg} {H : Hp} {A : Ad} {rn : Nat} {c : Cat} (h : St T H A rn c) {m : Nm} (hm : m ∈ c.mods) : Pre T H A rn c m [] := by
  refine ⟨h.rd, ⟨h.wo.wp, h.wo.ml, h.wo.ud, h.wo.xa, h.wo.ww, fun p hp => ?_, h.wo.td, h.wo.ta⟩, h.rg⟩
  obtain ⟨r, a, b⟩ := h.wo.wa p hp
  refine ⟨r, a, ?_⟩
  have e : (c.pre m []).wins p.1 p.2 = c.wins p.1 p.2 := by
    show (if p.1 = m then c.wins p.1 p.2 ++ (((c.uses m).zip []).lookup p.2).toList else _) = _
    rw [List.zip_nil_right]
    split
    · exact List.append_nil _
    · rfl
  rw [e]
  exact b
section
variable {T : Txt K mg} {H H' : Hp} {A : Ad} {rn : Nat} {c : Cat} {m : Nm} {ws : List Win}
theorem Pre.sm (h : Pre T H A rn c m ws) (s : Sm H H') : Pre T H' A rn c m ws := ⟨h.rd.sm s, h.wo.sm s, h.rg.sm s⟩
theorem Pre.tupG (h : Pre T H A rn c m ws) (k : Kp [A .rg] H H') : ∀ b xs, H b = some (.tup xs) → H' b = some (.tup xs) := fun b xs e => k _ _ e fun hb => by
  obtain ⟨a, b2, e2, _⟩ := h.rg
  rw [List.mem_singleton.mp hb, e2] at e
  cases e
theorem Pre.rng (h : Pre T H A rn c m ws) (i : Inj A (LA c)) (k : Kp [A .rg] H H') (g : RngAt H' (A .rg)) : Pre T H' A rn c m ws := by
  have k' : Kp ([Sl.rg].map A) H H' := k
  have hS : ∀ s ∈ [Sl.rg], LA c s := fun s hs => by rw [List.mem_singleton.mp hs]; exact .gn
  have tk := h.tupG k
  exact ⟨⟨h.rd.at_.keep (fun s o hs e => k'.at_ i hS (.ct hs) (fun z => (noCW hs).2 (List.mem_singleton.mp z)) e) tk, h.rd.wf, h.rd.nm⟩, h.wo.keep (fun s o hs e => k'.at_ i hS (.wd hs) (fun z => (noWC (c := c) hs).2 (List.mem_singleton.mp z)) e) tk, g⟩
/-- one window more -/
theorem Pre.step (h : Pre T H A rn c m ws) (i : Inj A (LA c)) {WL b : Addr} {u : Nm} {w : Win} {refs : List V} {xs : List V} (hm : m ∈ c.mods) (hu : (c.uses m)[ws.length]? = some u) (hL : H WL = some (.lst xs)) (hne : ∀ s, LA c s → A s ≠ WL) (hr : H (A (.wa m u)) = some (.lst refs)) (hw : WinsAre H refs (c.wins m u))
    (k : ∀ a o, H a = some o → a ≠ WL → a ≠ A (.wa m u) → H' a = some o) (e1 : H' (A (.wa m u)) = some (.lst (refs ++ [.ref b]))) (e2 : H' b = some (.tup (winV w))) : Pre T H' A rn c m (ws ++ [w]) := by
  have hum := List.mem_of_getElem? hu
  have und := h.rd.wf.und m hm
  have lw : LA c (.wa m u) := .wd (show (m, u) ∈ c.pairs from mem_pairs.mpr ⟨hm, hum⟩)
  have ks : ∀ s o, LA c s → s ≠ .wa m u → H (A s) = some o → H' (A s) = some o := fun s o hs n e => k _ _ e (hne s hs) fun z => n (i _ _ hs lw z)
  have tk : ∀ b xs, H b = some (.tup xs) → H' b = some (.tup xs) := fun b ys e => k _ _ e (ne_of e hL fun z => nomatch z) (ne_of e hr fun z => nomatch z)
  refine ⟨⟨h.rd.at_.keep (fun s o hs e => ks s o (.ct hs) (fun z => by subst z; exact hs) e) tk, h.rd.wf, h.rd.nm⟩, ⟨ks .wp _ (.wd trivial) (by intro z; cases z) h.wo.wp, ks .ml _ (.wd trivial) (by intro z; cases z) h.wo.ml, ks .ud _ (.wd trivial) (by intro z; cases z) h.wo.ud, fun n hn => ks (.xa n) _ (.wd hn) (by intro z; cases z) (h.wo.xa n hn), ks .ww _ (.wd trivial) (by intro z; cases z) h.wo.ww, fun p hp => ?_, ks .td _ (.wd trivial) (by intro z; cases z) h.wo.td, fun n hn => ks (.ta n) _ (.wd hn) (by intro z; cases z) (h.wo.ta n hn)⟩, ?_⟩
  · have hp2 : p.1 ∈ c.mods ∧ p.2 ∈ c.uses p.1 := mem_pairs.mp (show (p.1, p.2) ∈ c.pairs from hp)
    by_cases e : p = (m, u)
    · subst e
      refine ⟨_, e1, ?_⟩
      have ew : (c.pre m (ws ++ [w])).wins m u = c.wins m u ++ [w] := by
        rw [pre_at und hu]
        simp
      rw [ew]
      exact (hw.keep tk).snoc ⟨b, rfl, e2⟩
    · obtain ⟨r, a, b⟩ := h.wo.wa p hp
      refine ⟨r, ks (.wa p.1 p.2) _ (.wd hp) (fun z => e (by cases p; cases z; rfl)) a, ?_⟩
      have ew : (c.pre m (ws ++ [w])).wins p.1 p.2 = (c.pre m ws).wins p.1 p.2 := by
        by_cases em : p.1 = m
        · have hp3 := hp2.2
          rw [em] at hp3 ⊢
          obtain ⟨n, hn⟩ := List.getElem?_of_mem hp3
          rw [pre_at und hn, pre_at und hn]
          have nl : n ≠ ws.length := fun z => by
            rw [z, hu] at hn
            exact e (Prod.ext em (Option.some.inj hn).symm)
          by_cases hlt : n < ws.length
          · rw [List.getElem?_append_left hlt]
          · rw [List.getElem?_eq_none (by rw [List.length_append, List.length_singleton]; omega), List.getElem?_eq_none (by omega)]
        · rw [pre_other em, pre_other em]
      rw [ew]
      exact b.keep tk
  · obtain ⟨a, b, e, z⟩ := h.rg
    exact ⟨a, b, ks .rg _ .gn (by intro z; cases z) e, z⟩
theorem there_pub {m : Nm} {ws : List Win} (h : ∀ v ∈ c.wd m, v < (c.cnt m : Nat)) : (c.pub m ws).there m = c.there m ++ [((c.cnt m : Nat) : Int)] := by
  show (upTo (if m = m then c.cnt m + 1 else c.cnt m)).filter (fun z => !decide (z ∈ c.wd m)) = _
  rw [if_pos rfl]
  have e : upTo (c.cnt m + 1) = upTo (c.cnt m) ++ [((c.cnt m : Nat) : Int)] := by
    unfold upTo
    rw [List.range_succ, List.map_append]
    rfl
  rw [e, List.filter_append]
  have n : ((c.cnt m : Nat) : Int) ∉ c.wd m := fun z => by
    have := h _ z
    omega
  rw [List.filter_cons, if_pos (by simp [n]), List.filter_nil]
  rfl
theorem there_pub_other {m k : Nm} {ws : List Win} (h : k ≠ m) : (c.pub m ws).there k = c.there k := by
  show (upTo (if k = m then c.cnt k + 1 else c.cnt k)).filter (fun z => !decide (z ∈ c.wd k)) = _
  rw [if_neg h]
  rfl
/-- the state behind a publication -/
theorem Pre.pub {H1 : Hp} (h : Pre T H A rn c m ws) (i : Inj A (LA c)) (few : c.mods.length ≤ 4) (pos : ∀ m ∈ c.mods, 1 ≤ c.cnt m) (wdl : ∀ m ∈ c.mods, ∀ v ∈ c.wd m, v < (c.cnt m : Nat)) (hm : m ∈ c.mods) (k : Kp ((pubL c m).map A) H H1) (cx : CatX T H1 A (rn + 1) (c.pub m ws)) :
    H1 (A (.ta m)) = some (.lst ((c.there m).map V.int)) ∧ St T (upd H1 (A (.ta m)) (.lst ((c.there m).map V.int ++ [.int (c.cnt m : Nat)]))) A (rn + 1) (c.pub m ws) ∧ ∀ b o, H b = some o → (∀ s, LA c s → b ≠ A s) → (upd H1 (A (.ta m)) (.lst ((c.there m).map V.int ++ [.int (c.cnt m : Nat)]))) b = some o := by
  have hS : ∀ s ∈ pubL c m, LA c s := fun s hs => .ct (pubL_live hm s hs)
  have lt : LA c (.ta m) := .wd hm
  have kw : ∀ s o, LiveW c s → H (A s) = some o → H1 (A s) = some o := fun s o hs e => k.at_ i hS (.wd hs) (fun z => (noWC hs).1 (pubL_live hm s z)) e
  have tk : ∀ b xs, H b = some (.tup xs) → H1 b = some (.tup xs) := k.tup (h.rd.at_.ntup (pubL_live hm))
  have wo : WorAt H1 A (c.pre m ws) := h.wo.keep (fun s o hs e => kw s o hs e) tk
  have hta : H1 (A (.ta m)) = some (.lst ((c.there m).map V.int)) := wo.ta m hm
  have ks : ∀ s o, LA c s → s ≠ .ta m → H1 (A s) = some o → (upd H1 (A (.ta m)) (.lst ((c.there m).map V.int ++ [.int (c.cnt m : Nat)]))) (A s) = some o := fun s o hs n e => by
    rw [upd_ne fun z => n (i _ _ hs lt z)]
    exact e
  have tk2 : ∀ b xs, H1 b = some (.tup xs) → (upd H1 (A (.ta m)) (.lst ((c.there m).map V.int ++ [.int (c.cnt m : Nat)]))) b = some (.tup xs) := fun b xs e => by
    rw [upd_ne (ne_of e hta fun z => nomatch z)]
    exact e
  refine ⟨hta, ⟨⟨cx.rd.at_.keep (fun s o hs e => ks s o (.ct hs) (fun z => by subst z; exact hs) e) tk2, cx.rd.wf, cx.rd.nm⟩, ⟨ks .wp _ (.wd trivial) (by intro z; cases z) wo.wp, ks .ml _ (.wd trivial) (by intro z; cases z) wo.ml, ks .ud _ (.wd trivial) (by intro z; cases z) wo.ud, fun n hn => ks (.xa n) _ (.wd hn) (by intro z; cases z) (wo.xa n hn), ks .ww _ (.wd trivial) (by intro z; cases z) wo.ww, fun p hp => ?_, ks .td _ (.wd trivial) (by intro z; cases z) wo.td, fun n hn => ?_⟩, ?_, i, few, fun n hn => ?_, fun n hn v hv => ?_⟩, fun b o e n => ?_⟩
  · obtain ⟨r, a, b⟩ := wo.wa p hp
    exact ⟨r, ks (.wa p.1 p.2) _ (.wd hp) (by intro z; cases z) a, b.keep tk2⟩
  · by_cases e : n = m
    · subst e
      rw [upd_same, there_pub (wdl n hn), List.map_append]
      rfl
    · rw [there_pub_other e]
      exact ks (.ta n) _ (.wd hn) (by intro z; cases z; exact e rfl) (wo.ta n hn)
  · obtain ⟨a, b, e, z⟩ := h.rg
    exact ⟨a, b, ks .rg _ .gn (by intro z; cases z) (k.at_ i hS .gn (fun z => (noCW (pubL_live hm _ z)).2 rfl) e), z⟩
  · show 1 ≤ if n = m then c.cnt n + 1 else c.cnt n
    have := pos n hn
    split <;> omega
  · show v < ((if n = m then c.cnt n + 1 else c.cnt n : Nat) : Int)
    have := wdl n hn v hv
    split <;> omega
  · rw [upd_ne (n _ lt)]
    exact k _ _ e fun hb => by
      obtain ⟨s, hs, rfl⟩ := List.mem_map.mp hb
      exact n s (hS s hs) rfl
end
end
end Gs
/-! ## GsL20 -/
namespace Gs
open PySem PySem.Spec PyProof.Rows L2
section
variable {P : Program} {w : World} {K : PySem.W.Frag} {mg : Str → Option Value} {base : Heap}
theorem ok_l_published (T : Txt K mg) : FnOk P w K mg base CX0 7 T.d_l_published.f T.d_l_published.fd ["_law_rng_here", "_law_catalog", "_law_world_here"] (fun vs H Q _ => ∃ (A : Ad) (rn : Nat) (c : Cat), vs = [.ref (A .rg), .ref (A .cp), .ref (A .wp)] ∧ St T H A rn c ∧ rn ≤ 9000 ∧
    ∀ H' rn' c', FrA A c H H' → St T H' A rn' c' → rn' ≤ rn + 1 → c'.mods = c.mods → c'.uses = c.uses → Q .non H') := by
  have nd := sc_l_published.nd
  refine T.d_l_published.F.ok sc_l_published (fun vs H Q E h => ?_) (fun cdv A outer s H vs Q E hr h => ?_)
  · obtain ⟨A, rn, c, rfl, _⟩ := h; rfl
  · obtain ⟨ad, rn, c, rfl, h, hrn, q⟩ := h
    have hu := hu_of hr
    have hs : sizeLine = 16777216 := sizeLine_eq
    have wf := h.rd.wf
    have h4l := h.few
    have hml : 0 < c.mods.length := List.length_pos_iff.mpr wf.ne
    have ng : ∀ {s : Sl}, LiveW c s → ad s ≠ ad .rg := fun hs e => (noWC hs).2 (h.inj _ _ (.wd hs) .gn e)
    refine ⟨_, (pss_cons (ps_par (i := 3) (j := 4) rfl nd rfl rfl (by decide) rfl rfl (pa_cons (pcall (ok_l_choice T) T.d_l_choice.M (hr.mono (by decide)) (pa_cons (pv 0) (pa_cons (pe_dget hu (pv 2) pe_str (fun _ _ => rfl)) pa_nil))) (pa_cons (pe_lst pa_nil) pa_nil)) rfl)
      (pss_one (ps_if (pt_cmpR op_lt (pe_meth (pv 1) T.cl T.d_Catalog_versions.me (ok_Catalog_versions T) (hr.mono (by decide)) T.d_Catalog_versions.B .nil pass0 (pa_cons (pv 3) pa_nil)) pe_int (nomark _)) (pss_cons (ps_for PassesOwn.never rfl (pi_listK (K := K) rfl (pe_dget hu (pe_dget hu (pv 2) pe_str (fun _ _ => rfl)) (pv 3) (fun _ _ => rfl))) (pg_name (i := 5) nd rfl (.inl rfl))
      (pss_cons (ps_asg (pe_ix (r := rIxL K) ix_list (pe_dget hu (pe_dget hu (pv 2) pe_str (fun _ _ => rfl)) (pe_tup (pa_cons (pv 3) (pa_cons (pv 5) pa_nil))) (fun _ _ => rfl)) (pe_un un_neg pe_int) (fun _ _ => rfl)) (pg_tup rfl (pgs_cons (pg_name (i := 6) nd rfl (.inl rfl)) (pgs_cons (pg_name (i := 7) nd rfl (.inl rfl)) pgs_nil))))
      (pss_cons (ps_set (i := 7) nd rfl (.inl rfl) (pe_ifExp (PW.pt (pw_or (pt_cmp (pc_isN (pv 7))) (pw_or1 (pt_cmpR op_eq (pcall (ok_l_draw T) T.d_l_draw.M (hr.mono (by decide)) (pa_cons (pv 0) (pa_cons pe_int pa_nil))) pe_int (nomark _))))) pe_non (pe_op op_add (pv 7) (pcall (ok_l_draw T) T.d_l_draw.M (hr.mono (by decide)) (pa_cons (pv 0) (pa_cons pe_int pa_nil))))))
      (pss_cons (ps_expr (pe_bmK (K := K) rfl PySem.F.plainAttrs_list PySem.F.slot_list_append PySem.F.type_list_append mt_append (pv 4) (pa_cons (pe_tup (pa_cons (pv 6) (pa_cons (pv 7) pa_nil))) pa_nil)))
      (pss_one (ps_expr (pe_bmK (K := K) rfl PySem.F.plainAttrs_list PySem.F.slot_list_append PySem.F.type_list_append mt_append (pe_dget hu (pe_dget hu (pv 2) pe_str (fun _ _ => rfl)) (pe_tup (pa_cons (pv 3) (pa_cons (pv 5) pa_nil))) (fun _ _ => rfl)) (pa_cons (pe_tup (pa_cons (pv 6) (pa_cons (pv 7) pa_nil))) pa_nil))))))))
      (pss_one (ps_expr (pe_bmK (K := K) rfl PySem.F.plainAttrs_list PySem.F.slot_list_append PySem.F.type_list_append mt_append (pe_dget hu (pe_dget hu (pv 2) pe_str (fun _ _ => rfl)) (pv 3) (fun _ _ => rfl)) (pa_cons (pe_meth (pv 1) T.cl T.d_Catalog_publish.me (ok_Catalog_publish T) (hr.mono (by decide)) T.d_Catalog_publish.B .nil pass0 (pa_cons (pv 3) (pa_cons (pv 4) pa_nil))) pa_nil))))) pss_nil))), ?_⟩
    refine ⟨_, rfl, _, rfl, ad .wp, _, rfl, h.wo.g_ml, ad .rg, ad .ml, _, rfl, h.rg, h.wo.ml, ng (s := .ml) trivial, by rw [List.length_map]; exact hml, by rw [List.length_map]; omega, fun H1 x k1 g1 hx => ?_⟩
    obtain ⟨m, hm, rfl⟩ := List.mem_map.mp hx
    have h1 := h.rng k1 g1
    have f1 := FrA.rng (c := c) k1
    refine ⟨(by show 0 ≤ sizeLine; omega), fun WL nWL => ⟨_, _, rfl, ?_⟩⟩
    have s2 : Sm H1 (upd H1 WL (.lst [])) := Sm.rf.up nWL
    have hne : ∀ s, LA c s → ad s ≠ WL := fun s hs => by
      obtain ⟨o, e, _⟩ := h1.live hs
      exact ne_of_none e nWL
    have nWLH : H WL = none := k1.un nWL fun z => hne .rg .gn (List.mem_singleton.mp z).symm
    have h2 := h1.sm s2
    have f2 := f1.tr (FrA.of s2)
    have hWL2 : (upd H1 WL (.lst [])) WL = some (.lst []) := upd_same
    generalize (upd H1 WL (.lst [])) = H2 at h2 f2 hWL2 ⊢
    refine ⟨_, rfl, _, _, _, rfl, h2.rd.at_.ob, rfl, _, rfl, ad, rn, c, m, rfl, h2.rd, hm, _, _, rfl, rfl, _, rfl, ?_⟩
    by_cases h16 : ((c.cnt m : Nat) : Int) < 16
    · refine ifT (decT h16) ?_
      refine ⟨_, rfl, ad .wp, _, rfl, h2.wo.g_ud, _, rfl, ad .ud, _, rfl, h2.wo.g_xa wf hm, ad (.xa m), rfl, ⟨_, SqL.of (h2.wo.xa m hm)⟩, ?_⟩
      have wk := walk_list (K := K) (a := ad (.xa m)) (xs := (c.uses m).map V.str)
      rw [List.length_map] at wk
      have hul : (c.uses m).length ≤ 12 := Nat.le_trans ((wf.und _ hm).length_le_of_subset fun x hx => wf.sub _ hm x hx) wf.few
      let Pv : Nat → L2.St → Hp → Prop := fun j σ H' => ∃ as : List (Addr × Win), FrA ad c H H' ∧ Pre T H' ad rn c m (as.map Prod.snd) ∧ as.length = j ∧ H' WL = some (.lst (as.map fun p => .ref p.1)) ∧ (∀ p ∈ as, H' p.1 = some (.tup (winV p.2))) ∧ (∀ p ∈ as, okWin p.2) ∧
        (∀ (n : Nat) u w a, (c.uses m)[n]? = some u → (as.map Prod.snd)[n]? = some w → (c.wins m u).getLast? = some a → rise a w = true) ∧ ∃ x5 x6 x7, σ = [some (.ref (ad .rg)), some (.ref (ad .cp)), some (.ref (ad .wp)), some (.str m), some (.ref WL), x5, x6, x7]
      refine for_it wk Pv ⟨[], f2, h2.pre hm, rfl, hWL2, fun _ h => (nomatch h), fun _ h => (nomatch h), fun n u w a _ h => by simp at h, _, _, _, rfl⟩ (fun j σ H' _ ⟨as, _, p, _⟩ => SqL.of (p.wo.xa m hm)) (fun j x σ H3 H4 hj p y => ?_) (fun σ H3 p => ?_)
      · obtain ⟨as, f3, p3, hal, hWL, has, hao, har, x5, x6, x7, rfl⟩ := p
        obtain ⟨rfl, hx⟩ := y
        have eu : (c.uses m)[j]? = some (c.uses m)[j] := List.getElem?_eq_getElem hj
        generalize (c.uses m)[j] = u at eu
        have hx := pick1 eu hx
        subst hx
        have hum := List.mem_of_getElem? eu
        have hsl : (as.map Prod.snd).length = j := by rw [List.length_map, hal]
        -- the window before
        refine ⟨_, rfl, ad .wp, _, rfl, p3.wo.g_ww, _, rfl, _, rfl, (by show 2 ≤ sizeLine; omega), fun b nb => ?_⟩
        have s5 : Sm H4 (upd H4 b (.tup [.str m, .str u])) := Sm.rf.up nb
        have p5 := p3.sm s5
        have hb5 : (upd H4 b (.tup [.str m, .str u])) b = some (.tup [.str m, .str u]) := upd_same
        have hWL5 := s5 _ _ hWL
        have f5 := f3.tr (FrA.of s5)
        have has5 : ∀ p ∈ as, (upd H4 b (.tup [.str m, .str u])) p.1 = some (.tup (winV p.2)) := fun p hp => s5 _ _ (has p hp)
        generalize (upd H4 b (.tup [.str m, .str u])) = H5 at p5 hb5 hWL5 f5 has5 ⊢
        obtain ⟨refs, r1, r2⟩ := p5.wo.wa (m, u) (mem_pairs.mpr ⟨hm, hum⟩)
        have r1 : H5 (ad (.wa m u)) = some (.lst refs) := r1
        have r2 : WinsAre H5 refs ((c.pre m (as.map Prod.snd)).wins m u) := r2
        have ew : (c.pre m (as.map Prod.snd)).wins m u = c.wins m u := by
          rw [pre_at (wf.und m hm) eu, List.getElem?_eq_none (by omega)]
          exact List.append_nil _
        rw [ew] at r2
        have hlen := wf.len m hm u hum
        have hpos := h.pos m hm
        have hrl : refs.length = c.cnt m := by rw [r2.length, hlen]
        have elast : (c.wins m u).getLast? = (c.wins m u)[c.cnt m - 1]? := by rw [List.getLast?_eq_getElem?, hlen]
        obtain ⟨wl, hwl⟩ : ∃ wl, (c.wins m u)[c.cnt m - 1]? = some wl := ⟨_, List.getElem?_eq_getElem (by omega)⟩
        obtain ⟨v, ev, az, rfl, haz⟩ : ∃ v, refs[c.cnt m - 1]? = some v ∧ ∃ a, v = .ref a ∧ H5 a = some (.tup (winV wl)) := LiI.paired_get (paired_flip r2) hwl
        have okl := wf.okw m hm u hum wl (List.mem_of_getElem? hwl)
        have nd2 := wf.nd
        have gwa := p5.wo.wa_get (c := c.pre m (as.map Prod.snd)) nd2 wf.und hm hum hb5
        refine ⟨ad .ww, _, rfl, gwa, 1, rfl, ad (.wa m u), refs, (-1), _, rfl, rfl, SqL.of r1, atI_end (by rw [hrl]; exact ev), ?_⟩
        obtain ⟨lo, hi⟩ := wl
        refine ⟨az, _, rfl, SqT.of haz, rfl, _, _, rfl, _, _, rfl, rfl, ?_⟩
        have lm : LA c (.wa m u) := .wd (show (m, u) ∈ c.pairs from mem_pairs.mpr ⟨hm, hum⟩)
        have nwaL := hne _ lm
        -- the tail, once
        have core : ∀ (H7 : Hp) (hi' : Option Int), Kp [ad .rg] H5 H7 → RngAt H7 (ad .rg) → okWin (lo, hi') → rise (lo, hi) (lo, hi') = true → ∀ b1, H7 b1 = none → ∀ H9, H9 = upd (upd H7 b1 (.tup [.int lo, hiV hi'])) WL (.lst ((as.map fun p => V.ref p.1) ++ [.ref b1])) →
            WorAt H9 ad (c.pre m (as.map Prod.snd)) ∧ ∀ b2, H9 b2 = none → WorAt (upd H9 b2 (.tup [.str m, .str u])) ad (c.pre m (as.map Prod.snd)) ∧ (upd H9 b2 (.tup [.str m, .str u])) (ad (.wa m u)) = some (.lst refs) ∧ ∀ b3, (upd H9 b2 (.tup [.str m, .str u])) b3 = none →
            (upd (upd H9 b2 (.tup [.str m, .str u])) b3 (.tup [.int lo, hiV hi'])) (ad (.wa m u)) = some (.lst refs) ∧
            ∀ y, Pv (j + 1) [some (.ref (ad .rg)), some (.ref (ad .cp)), some (.ref (ad .wp)), some (.str m), some (.ref WL), some (.str u), some (.int lo), y] (upd (upd (upd H9 b2 (.tup [.str m, .str u])) b3 (.tup [.int lo, hiV hi'])) (ad (.wa m u)) (.lst (refs ++ [.ref b3]))) := by
          intro H7 hi' k7 g7 ok7 ri7 b1 nb1 H9 e9
          have p7 := p5.rng h.inj k7 g7
          have tk7 := p5.tupG k7
          have ngL : WL ∉ [ad .rg] := fun z => hne .rg .gn (List.mem_singleton.mp z).symm
          have hWL7 := k7 _ _ hWL5 ngL
          have r17 := k7 _ _ r1 (by simpa using ng (s := .wa m u) (show (m, u) ∈ c.pairs from mem_pairs.mpr ⟨hm, hum⟩))
          have r27 := r2.keep tk7
          have n1L : b1 ≠ WL := (ne_of_none hWL7 nb1).symm
          have k79 : ∀ a o, H7 a = some o → a ≠ WL → H9 a = some o := fun a o e n => by
            rw [e9, upd_ne n, upd_ne (ne_of_none e nb1)]
            exact e
          have hL9 : H9 WL = some (.lst ((as.map fun p => V.ref p.1) ++ [.ref b1])) := by rw [e9]; exact upd_same
          have h19 : H9 b1 = some (.tup [.int lo, hiV hi']) := by rw [e9, upd_ne n1L, upd_same]
          have wo9 : WorAt H9 ad (c.pre m (as.map Prod.snd)) := p7.wo.keep (fun s o hs e => k79 _ _ e (hne s (.wd hs))) (fun z xs e => k79 _ _ e (ne_of e hWL7 fun z => nomatch z))
          refine ⟨wo9, fun b2 nb2 => ?_⟩
          have sA : Sm H9 (upd H9 b2 (.tup [.str m, .str u])) := Sm.rf.up nb2
          have r19 := k79 _ _ r17 nwaL
          refine ⟨wo9.sm sA, sA _ _ r19, fun b3 nb3 => ?_⟩
          have sB := sA.up (o := .tup [.int lo, hiV hi']) nb3
          have r1B := sB _ _ r19
          refine ⟨r1B, fun y => ?_⟩
          have kE : ∀ a o, H7 a = some o → a ≠ WL → a ≠ ad (.wa m u) → (upd (upd (upd H9 b2 (.tup [.str m, .str u])) b3 (.tup [.int lo, hiV hi'])) (ad (.wa m u)) (.lst (refs ++ [.ref b3]))) a = some o := fun a o e n1 n2 => by
            rw [upd_ne n2]
            exact sB _ _ (k79 _ _ e n1)
          have k9E : ∀ a o, H9 a = some o → a ≠ ad (.wa m u) → (upd (upd (upd H9 b2 (.tup [.str m, .str u])) b3 (.tup [.int lo, hiV hi'])) (ad (.wa m u)) (.lst (refs ++ [.ref b3]))) a = some o := fun a o e n2 => by
            rw [upd_ne n2]
            exact sB _ _ e
          have nb3w : b3 ≠ ad (.wa m u) := (ne_of_none (sA _ _ r19) nb3).symm
          have e2 : (upd (upd (upd H9 b2 (.tup [.str m, .str u])) b3 (.tup [.int lo, hiV hi'])) (ad (.wa m u)) (.lst (refs ++ [.ref b3]))) b3 = some (.tup (winV (lo, hi'))) := (upd_ne nb3w).trans upd_same
          have pE := p7.step h.inj hm (by rw [hsl]; exact eu) hWL7 hne r17 r27 kE upd_same e2
          have nb1w : b1 ≠ ad (.wa m u) := (ne_of_none r17 nb1).symm
          refine ⟨as ++ [(b1, (lo, hi'))], ?_, by rw [List.map_append]; exact pE, by rw [List.length_append, hal]; rfl, by rw [List.map_append]; exact k9E _ _ hL9 nwaL.symm, fun p hp => ?_, fun p hp => ?_, fun n u' w a hn hw' ha => ?_, _, _, _, rfl⟩
          · intro z o e n
            have f7 : FrA ad c H H7 := f5.tr (FrA.rng k7)
            exact kE _ _ (f7 _ _ e n) (ne_of_none e nWLH) (n _ lm)
          · rcases List.mem_append.mp hp with hp | hp
            · have e7 := tk7 _ _ (has5 p hp)
              exact kE _ _ e7 (ne_of e7 hWL7 fun z => nomatch z) (ne_of e7 r17 fun z => nomatch z)
            · rw [List.mem_singleton.mp hp]
              exact k9E _ _ h19 nb1w
          · rcases List.mem_append.mp hp with hp | hp
            · exact hao p hp
            · rw [List.mem_singleton.mp hp]
              exact ok7
          · rw [List.map_append] at hw'
            by_cases hlt : n < (as.map Prod.snd).length
            · rw [List.getElem?_append_left hlt] at hw'
              exact har n u' w a hn hw' ha
            · have hnl := (List.getElem?_eq_some_iff.mp hw').1
              rw [List.length_append, List.length_map, List.length_map] at hnl
              have hnl : n < as.length + 1 := hnl
              have en : n = j := by rw [hsl] at hlt; omega
              subst en
              rw [eu] at hn
              cases hn
              rw [elast, hwl] at ha
              cases ha
              rw [List.getElem?_append_right (by omega), hsl, Nat.sub_self] at hw'
              cases hw'
              exact ri7
        refine ⟨_, rfl, _, rfl, ?_⟩
        cases hi with
        | none =>
          refine ifT rfl (ifT rfl ?_)
          have hWL7 := (Kp.of Sm.rf) _ _ hWL5 fun z => hne .rg .gn (List.mem_singleton.mp z).symm
          refine ⟨_, rfl, .inl ⟨rfl, _, .inl (.inl hWL7)⟩, _, rfl, _, rfl, (by show 2 ≤ sizeLine; omega), fun b1 nb1 => ?_⟩
          obtain ⟨wo9, nx⟩ := core _ (none) (Kp.of Sm.rf) (p5.rg) (⟨okl.1, fun _ e => nomatch e⟩) (by simp [rise]) b1 nb1 _ rfl
          refine ⟨WL, _, _, rfl, rfl, (Sm.rf.up nb1) _ _ hWL7, (by rw [List.length_map]; omega), ?_⟩
          refine ⟨_, rfl, ad .wp, _, rfl, wo9.g_ww, _, rfl, _, rfl, (by show 2 ≤ sizeLine; omega), fun b2 nb2 => ?_⟩
          obtain ⟨woA, rA, nx⟩ := nx b2 nb2
          refine ⟨ad .ww, _, rfl, woA.wa_get (c := c.pre m (as.map Prod.snd)) nd2 wf.und hm hum upd_same, .inl ⟨rfl, _, .inl (.inl rA)⟩, _, rfl, _, rfl, (by show 2 ≤ sizeLine; omega), fun b3 nb3 => ?_⟩
          obtain ⟨rB, nx⟩ := nx b3 nb3
          refine ⟨ad (.wa m u), refs, _, rfl, rfl, rB, (by have := wf.c16 m hm; omega), ?_⟩
          exact nx _
        | some hb =>
          refine ifF rfl ⟨_, rfl, ad .rg, 4, rfl, p5.rg, by decide, by decide, fun H6 d6 k6 g6 d60 d61 => ⟨rfl, _, rfl, ?_⟩⟩
          by_cases h0 : d6 = 0
          · refine ifT (by simp [h0]) ?_
            have hWL7 := (k6) _ _ hWL5 fun z => hne .rg .gn (List.mem_singleton.mp z).symm
            refine ⟨_, rfl, .inl ⟨rfl, _, .inl (.inl hWL7)⟩, _, rfl, _, rfl, (by show 2 ≤ sizeLine; omega), fun b1 nb1 => ?_⟩
            obtain ⟨wo9, nx⟩ := core _ (none) (k6) (g6) (⟨okl.1, fun _ e => nomatch e⟩) (by simp [rise, reach]) b1 nb1 _ rfl
            refine ⟨WL, _, _, rfl, rfl, (Sm.rf.up nb1) _ _ hWL7, (by rw [List.length_map]; omega), ?_⟩
            refine ⟨_, rfl, ad .wp, _, rfl, wo9.g_ww, _, rfl, _, rfl, (by show 2 ≤ sizeLine; omega), fun b2 nb2 => ?_⟩
            obtain ⟨woA, rA, nx⟩ := nx b2 nb2
            refine ⟨ad .ww, _, rfl, woA.wa_get (c := c.pre m (as.map Prod.snd)) nd2 wf.und hm hum upd_same, .inl ⟨rfl, _, .inl (.inl rA)⟩, _, rfl, _, rfl, (by show 2 ≤ sizeLine; omega), fun b3 nb3 => ?_⟩
            obtain ⟨rB, nx⟩ := nx b3 nb3
            refine ⟨ad (.wa m u), refs, _, rfl, rfl, rB, (by have := wf.c16 m hm; omega), ?_⟩
            exact nx _
          · refine ifF (by simp [h0]) ⟨_, rfl, _, rfl, ad .rg, 2, rfl, g6, by decide, by decide, fun H7 d7 k7 g7 d70 d71 => ⟨_, _, rfl, rfl, ?_⟩⟩
            have hWL7 := (k6.tr k7) _ _ hWL5 fun z => hne .rg .gn (List.mem_singleton.mp z).symm
            refine ⟨_, rfl, .inl ⟨rfl, _, .inl (.inl hWL7)⟩, _, rfl, _, rfl, (by show 2 ≤ sizeLine; omega), fun b1 nb1 => ?_⟩
            obtain ⟨wo9, nx⟩ := core _ (some (hb + d7)) (k6.tr k7) (g7) (⟨okl.1, fun z e => by cases e; have := okl.2 hb rfl; show lo ≤ hb + d7; have : lo ≤ hb := this; omega⟩) (by simp [rise, reach]; omega) b1 nb1 _ rfl
            refine ⟨WL, _, _, rfl, rfl, (Sm.rf.up nb1) _ _ hWL7, (by rw [List.length_map]; omega), ?_⟩
            refine ⟨_, rfl, ad .wp, _, rfl, wo9.g_ww, _, rfl, _, rfl, (by show 2 ≤ sizeLine; omega), fun b2 nb2 => ?_⟩
            obtain ⟨woA, rA, nx⟩ := nx b2 nb2
            refine ⟨ad .ww, _, rfl, woA.wa_get (c := c.pre m (as.map Prod.snd)) nd2 wf.und hm hum upd_same, .inl ⟨rfl, _, .inl (.inl rA)⟩, _, rfl, _, rfl, (by show 2 ≤ sizeLine; omega), fun b3 nb3 => ?_⟩
            obtain ⟨rB, nx⟩ := nx b3 nb3
            refine ⟨ad (.wa m u), refs, _, rfl, rfl, rB, (by have := wf.c16 m hm; omega), ?_⟩
            exact nx _
      · skip
        obtain ⟨as, f3, p3, hal, hWL, has, hao, har, x5, x6, x7, rfl⟩ := p
        have hpub : PubOk c m (as.map Prod.snd) := ⟨hm, by rw [List.length_map, hal], fun w hw => by
          obtain ⟨p, hp, rfl⟩ := List.mem_map.mp hw
          exact hao p hp, fun n u w a h1 h2 h3 => har n u w a h1 h2 h3, by omega⟩
        refine ⟨_, rfl, ad .wp, _, rfl, p3.wo.g_td, _, rfl, ad .td, _, rfl, p3.wo.ta_get (c := c.pre m (as.map Prod.snd)) wf.nd hm, .inl ⟨rfl, _, .inl (.inl (p3.wo.ta m hm))⟩, _, rfl, _, _, _, rfl, p3.rd.at_.ob, rfl, _, rfl, _, rfl, ad, rn, c, m, WL, as, rfl, ⟨p3.rd, h.cx.sep⟩, by omega, hWL, has, fun s hs => hne s (.ct hs), hpub, fun H4 k4 cx4 => ?_⟩
        obtain ⟨hta, st4, fr4⟩ := p3.pub h.inj h.few h.pos h.wdl hm k4 cx4
        have htl : (c.there m).length ≤ 16 := Nat.le_trans (c.there_len m) (wf.c16 m hm)
        refine ⟨ad (.ta m), _, _, rfl, rfl, hta, (by rw [List.length_map]; omega), ?_⟩
        exact q _ (rn + 1) _ (f3.tr fr4) st4 (Nat.le_refl _) rfl rfl
    · refine ifF (decF h16) ?_
      exact q _ rn c f2 h2 (by omega) rfl rfl
end
end Gs
/-! ## GsL21 -/
namespace Gs
open PySem PySem.Spec PyProof.Rows L2
section
variable {P : Program} {w : World} {K : PySem.W.Frag} {mg : Str → Option Value} {base : Heap}
/-- one address function for catalog, world and generator -/
def mrg (ad aw : Ad) (g : Addr) : Ad
  | .wp => aw .wp
  | .ml => aw .ml
  | .ud => aw .ud
  | .ww => aw .ww
  | .td => aw .td
  | .xa m => aw (.xa m)
  | .wa m u => aw (.wa m u)
  | .ta m => aw (.ta m)
  | .rg => g
  | s => ad s
theorem mrg_c {ad aw : Ad} {g : Addr} {c : Cat} {s : Sl} (h : LiveC c s) : mrg ad aw g s = ad s := by
  cases s <;> first
    | rfl
    | exact False.elim h
theorem mrg_w {ad aw : Ad} {g : Addr} {c : Cat} {s : Sl} (h : LiveW c s) : mrg ad aw g s = aw s := by
  cases s <;> first
    | rfl
    | exact False.elim h
theorem sum40 {c : Cat} (wf : c.WF) (h : c.mods.length ≤ 4) : (c.mods.map fun m => (c.uses m).length).sum ≤ 40 := by
  have := sum_le (f := fun m => (c.uses m).length) (b := 4) (l := c.mods) fun m hm => Nat.le_trans ((wf.und _ hm).length_le_of_subset fun x hx => wf.sub _ hm x hx) h
  omega
theorem St.kc {T : Txt K mg} {H H' : Hp} {A : Ad} {rn : Nat} {c : Cat} (h : St T H A rn c) (k : Kc H H') : St T H' A rn c :=
  ⟨h.rd.kc k, h.wo.kc k, let ⟨a, b, e, z⟩ := h.rg; ⟨a, b, k _ _ e (fun _ z => nomatch z), z⟩, h.inj, h.few, h.pos, h.wdl⟩
/-- all but the generator at g and code tables stands -/
def KcG (g : Addr) (H H' : Hp) : Prop := ∀ b o, H b = some o → b ≠ g → (∀ ps, o ≠ .tbl ps) → H' b = some o
theorem KcG.tr {g : Addr} {H H1 H2 : Hp} (a : KcG g H H1) (b : KcG g H1 H2) : KcG g H H2 := fun x o e n t => b x o (a x o e n t) n t
theorem KcG.kc {g : Addr} {H H' : Hp} (k : Kc H H') : KcG g H H' := fun b o e _ t => k b o e t
theorem KcG.kp {g : Addr} {H H' : Hp} (k : Kp [g] H H') : KcG g H H' := fun b o e n _ => k b o e fun h => n (List.mem_singleton.mp h)
theorem ok_l_right (T : Txt K mg) (l : Lx T) (TB : LamX.TabB base mg l.cF l.pF) (TBR : LamX.TabB base mg l.cR l.pR) : FnOkG P w K mg base 15 T.d_l_right.f T.d_l_right.fd ["_law_rng_here"] (fun vs H Q _ => ∃ (g : Addr), vs = [.ref g] ∧ RngAt H g ∧ LamX.Tabs l.T H ∧
    ∀ H', KcG g H H' → LamX.Tabs l.T H' → Q (.bl true) H') := by
  have nd := sc_l_right.nd
  refine okG T.d_l_right.F sc_l_right (fun vs H Q E h => ?_) (fun cdv A outer s H vs Q E hr hgd h => ?_)
  · obtain ⟨g, rfl, _⟩ := h; rfl
  · obtain ⟨g, rfl, hg, ht, q⟩ := h
    have hs : sizeLine = 16777216 := sizeLine_eq
    refine ⟨_, (pss_cons (ps_set (i := 1) nd rfl (.inl rfl) (pcall (ok_l_rows T) T.d_l_rows.M (hr.mono (by decide)) (pa_cons (pv 0) (pa_cons pe_int (pa_cons pe_int (pa_cons (pcall (ok_l_draw T) T.d_l_draw.M (hr.mono (by decide)) (pa_cons (pv 0) (pa_cons pe_int pa_nil))) pa_nil))))))
      (pss_cons (ps_par (i := 2) (j := 3) rfl nd rfl rfl (by decide) rfl rfl (pa_cons (pcall (ok_catalog_of T) T.d_catalog_of.M (hr.mono (by decide)) (pa_cons (pv 1) pa_nil)) (pa_cons (pcall (ok_l_world T) T.d_l_world.M (hr.mono (by decide)) (pa_cons (pv 1) pa_nil)) pa_nil)) rfl)
      (pss_cons (ps_for PassesOwn.never rfl (pi_range1 (by rfl) T.b_range (pa_cons pe_int pa_nil)) (pg_name (i := 4) nd rfl (.inl rfl))
      (pss_cons (ps_set (i := 5) nd rfl (.inl rfl) (pe_meth0 (pv 2) T.cl T.d_Catalog_clone.me (ok_Catalog_clone T) (hr.mono (by decide)) T.d_Catalog_clone.B .nil pass0))
      (pss_cons (ps_if (PW.pt (pw_or (pt_not (pt_val (pe_callG (ok_l_is_right T l TB TBR) (hr.mono (by decide)) hgd (by rfl) T.d_l_is_right.M T.d_l_is_right.kp T.d_l_is_right.B (pa_cons (pv 2) (pa_cons (pv 3) pa_nil))))) (pw_or1 (pt_cmpR (op_neO (ok_Catalog_eq T) T.cO T.cNe T.d_Catalog_eq.me.at_ T.d_Catalog_eq.me.fn T.d_Catalog_eq.B (hr.mono (by decide))) (pv 2) (pv 5) (nomark _))))) (pss_one (ps_ret pe_bl)) pss_nil)
      (pss_cons (ps_expr (pcall (ok_l_withdrawn T) T.d_l_withdrawn.M (hr.mono (by decide)) (pa_cons (pv 0) (pa_cons (pv 2) (pa_cons (pv 3) (pa_cons pe_int pa_nil))))))
      (pss_one (ps_for PassesOwn.never rfl (pi_range1 (by rfl) T.b_range (pa_cons (pcall (ok_l_draw T) T.d_l_draw.M (hr.mono (by decide)) (pa_cons (pv 0) (pa_cons pe_int pa_nil))) pa_nil)) (pg_name (i := 6) nd rfl (.inl rfl))
      (pss_one (ps_expr (pcall (ok_l_published T) T.d_l_published.M (hr.mono (by decide)) (pa_cons (pv 0) (pa_cons (pv 2) (pa_cons (pv 3) pa_nil))))))))))))
      (pss_one (ps_ret (pe_callG (ok_l_is_right T l TB TBR) (hr.mono (by decide)) hgd (by rfl) T.d_l_is_right.M T.d_l_is_right.kp T.d_l_is_right.B (pa_cons (pv 2) (pa_cons (pv 3) pa_nil)))))))), ?_⟩
    refine ⟨_, rfl, _, rfl, g, 2, rfl, hg, by decide, by decide, fun H1 d k1 g1 d0 d1 => ?_⟩
    refine ⟨g, d, rfl, g1, by omega, fun H2 lr rows k2 g2 nl hrows hok => ?_⟩
    have kpTab : ∀ {Ha Hb : Hp}, RngAt Ha g → Kp [g] Ha Hb → LamX.Tabs l.T Ha → LamX.Tabs l.T Hb := fun {Ha Hb} hg k t z hz => by
      obtain ⟨x, y, eg, _⟩ := hg
      obtain ⟨ps, e1, e2, e3⟩ := t z hz
      refine ⟨ps, k _ _ e1 fun h => ?_, e2, fun pos cv hc => ?_⟩
      · rw [List.mem_singleton.mp h, eg] at e1
        cases e1
      · obtain ⟨a, e4, e5⟩ := e3 pos cv hc
        refine ⟨a, e4, k _ _ e5 fun h => ?_⟩
        rw [List.mem_singleton.mp h, eg] at e5
        cases e5
    have t2 := kpTab g1 k2 (kpTab hg k1 ht)
    have k02 := k1.tr k2
    refine ⟨_, rfl, lr, rows, rfl, hrows, hok, fun H3 ad rn c s3 cx hrn hcr hnw => ?_⟩
    refine ⟨_, rfl, lr, rows, c, rfl, hrows.sm s3, hok, hcr, cx.rd.wf, fun H4 aw s4 hw hinj hnw2 => ⟨_, _, rfl, ?_⟩⟩
    have s24 := s3.tr s4
    have cx4 := cx.rd.sm s4
    have g4 := g2.sm s24
    have ec : ∀ s, LiveC c s → ad s ≠ g := fun s hs e => by
      obtain ⟨o, z⟩ := g2.some_
      have := hnw s hs
      rw [e, z] at this
      cases this
    have ewg : ∀ s, LiveW c s → aw s ≠ g := fun s hs e => by
      obtain ⟨o, z⟩ := (g2.sm s3).some_
      have := hnw2 s hs
      rw [e, z] at this
      cases this
    have ecw : ∀ s t, LiveC c s → LiveW c t → ad s ≠ aw t := fun s t hs ht e => by
      obtain ⟨o, z, _⟩ := cx.rd.at_.live hs
      have := hnw2 t ht
      rw [← e, z] at this
      cases this
    have inj : Inj (mrg ad aw g) (LA c) := fun a b ha hb e => by
      rcases ha with ha | ha | rfl
      · rw [mrg_c ha] at e
        rcases hb with hb | hb | rfl
        · rw [mrg_c hb] at e
          exact cx.sep _ _ ha hb e
        · rw [mrg_w hb] at e
          exact absurd e (ecw _ _ ha hb)
        · exact absurd e (ec _ ha)
      · rw [mrg_w ha] at e
        rcases hb with hb | hb | rfl
        · rw [mrg_c hb] at e
          exact absurd e.symm (ecw _ _ hb ha)
        · rw [mrg_w hb] at e
          exact hinj _ _ ha hb e
        · exact absurd e (ewg _ ha)
      · rcases hb with hb | hb | rfl
        · rw [mrg_c hb] at e
          exact absurd e.symm (ec _ hb)
        · rw [mrg_w hb] at e
          exact absurd e.symm (ewg _ hb)
        · rfl
    have new : ∀ s, LA c s → s ≠ .rg → H (mrg ad aw g s) = none := fun s hs n => by
      rcases hs with hs | hs | rfl
      · rw [mrg_c hs]
        exact k02.un (hnw s hs) fun z => ec s hs (List.mem_singleton.mp z)
      · rw [mrg_w hs]
        exact k02.un (s3.un (hnw2 s hs)) fun z => ewg s hs (List.mem_singleton.mp z)
      · exact absurd rfl n
    have hmn : c.mods = names rows := hcr.mods
    have st4 : St T H4 (mrg ad aw g) rn c := by
      refine ⟨⟨⟨cx4.at_.ob, cx4.at_.ut, cx4.at_.us, cx4.at_.wt, cx4.at_.ws, cx4.at_.ct, cx4.at_.cw, cx4.at_.ds, cx4.at_.rc, cx4.at_.wl⟩, cx4.wf, cx4.nm⟩, ⟨hw.wp, hw.ml, hw.ud, hw.xa, hw.ww, hw.wa, hw.td, hw.ta⟩, g4, inj, ?_, fun m hm => ?_, fun m hm v hv => ?_⟩
      · rw [hmn]
        show (rows.map _).length ≤ 4
        rw [List.length_map]
        exact hok.few
      · rw [hmn] at hm
        obtain ⟨r, hr, rfl⟩ := List.mem_map.mp hm
        rw [hcr.cnt r hr]
        exact hok.pos r hr
      · rw [hmn] at hm
        obtain ⟨r, hr, rfl⟩ := List.mem_map.mp hm
        rw [hcr.wd r hr] at hv
        cases hv
    have t4 := t2.ext s24
    have k04 : KcG g H H4 := (KcG.kp k02).tr (KcG.kc (Kc.of s24))
    have frK : ∀ {Ha Hb : Hp}, KcG g H Ha → FrA (mrg ad aw g) c Ha Hb → KcG g H Hb := fun ka f b o e n t => f b o (ka b o e n t) fun s hs z => by
      by_cases hr : s = .rg
      · rw [hr] at z
        exact n z
      · rw [z, new s hs hr] at e
        cases e
    obtain ⟨A, hA⟩ : ∃ A, A = mrg ad aw g := ⟨_, rfl⟩
    have eg : A .rg = g := by rw [hA]; rfl
    have ecp : A .cp = ad .cp := by rw [hA]; rfl
    have ewp : A .wp = aw .wp := by rw [hA]; rfl
    rw [← hA] at st4
    have frK : ∀ {Ha Hb : Hp}, KcG g H Ha → FrA A c Ha Hb → KcG g H Hb := fun {Ha Hb} => by rw [hA]; exact frK
    rw [← ecp, ← ewp]
    clear hA inj new
    subst eg
    refine ⟨3, rfl, by decide, by decide, ?_⟩
    have wk := walk_range (lo := 0) (n := 3)
    let Pv : Nat → L2.St → Hp → Prop := fun i σ H' => ∃ rn' c', KcG (A .rg) H H' ∧ LamX.Tabs l.T H' ∧ St T H' A rn' c' ∧ rn' ≤ rn + 6 * i ∧ LA c' = LA c ∧ ∃ x1 x4 x5 x6, σ = [some (.ref (A .rg)), x1, some (.ref (A .cp)), some (.ref (A .wp)), x4, x5, x6]
    refine for_it wk Pv ⟨rn, c, k04, t4, st4, Nat.le_refl _, rfl, _, _, _, _, rfl⟩ (fun _ _ _ _ _ => trivial) (fun i x σ H5 H6 hi p y => ?_) (fun σ H5 p => ?_)
    · obtain ⟨rn', c', k5, t5, st5, hrn', eLA, x1, x4, x5, x6, rfl⟩ := p
      obtain ⟨rfl, rfl⟩ := y
      have hi3 : i < 3 := hi
      refine ⟨_, rfl, _, _, _, rfl, st5.rd.at_.ob, rfl, A, rn', c', rfl, st5.rd, by omega, sum40 st5.rd.wf st5.few, fun H7 ad2 s7 rd2 sw => ?_⟩
      have st7 := st5.sm s7
      have t7 := t5.ext s7
      have k7 := k5.tr (KcG.kc (Kc.of s7))
      refine ⟨_, rfl, _, rfl, A, A, rn', c', rfl, st7.rd, st7.wo, st7.few, t7, fun H8 k8 t8 => ⟨true, rfl, ifF rfl ?_⟩⟩
      have st8 := st7.kc k8
      have rd8 := rd2.kc k8
      refine ⟨_, rfl, _, rfl, A .cp, ad2 .cp, _, _, _, _, rfl, rfl, st8.rd.at_.ob, rd8.at_.ob, A, ad2, rn', rn', c', rfl, st8.rd, rd8, sw.kc k8, fun H9 s9 => ⟨true, rfl, _, rfl, ifF rfl ?_⟩⟩
      have st9 := st8.sm s9
      have t9 := t8.ext s9
      have k9 := (k7.tr (KcG.kc k8)).tr (KcG.kc (Kc.of s9))
      have frL : ∀ {Ha Hb : Hp} {c'' : Cat}, LA c'' = LA c → FrA A c'' Ha Hb → FrA A c Ha Hb := fun {Ha Hb c''} e f => by
        unfold FrA at f ⊢
        rw [← e]
        exact f
      refine ⟨_, rfl, _, rfl, _, rfl, A, rn', c', rfl, st9, by omega, fun H10 r10 c10 f10 st10 hr10 em10 eu10 => ?_⟩
      have e10 : LA c10 = LA c := (LA_eq em10 eu10).trans eLA
      have k10 := frK k9 (frL eLA f10)
      have t10 := st9.tabs t9 f10
      refine ⟨_, rfl, A .rg, 3, rfl, st10.rg, by decide, by decide, fun H11 d11 k11 g11 d110 d111 => ⟨d11, rfl, by omega, by omega, ?_⟩⟩
      have f11 := FrA.rng (c := c10) k11
      have st11 := st10.rng k11 g11
      have wk2 := walk_range (lo := 0) (n := d11.toNat)
      refine for_it wk2 (fun j σ H' => ∃ rn'' c'', KcG (A .rg) H H' ∧ LamX.Tabs l.T H' ∧ St T H' A rn'' c'' ∧ rn'' ≤ rn + 6 * i + 4 + j ∧ LA c'' = LA c ∧ ∃ x1 x4 x5 x6, σ = [some (.ref (A .rg)), x1, some (.ref (A .cp)), some (.ref (A .wp)), x4, x5, x6]) ⟨r10, c10, frK k10 (frL e10 f11), st10.tabs t10 f11, st11, by omega, e10, _, _, _, _, rfl⟩ (fun _ _ _ _ _ => trivial) (fun j x σ H12 H13 hj p y => ?_) (fun σ H12 p => ?_)
      · obtain ⟨r12, c12, k12, t12, st12, hr12, e12, x1, x4, x5, x6, rfl⟩ := p
        obtain ⟨rfl, rfl⟩ := y
        refine ⟨_, rfl, _, rfl, _, rfl, A, r12, c12, rfl, st12, by omega, fun H14 r14 c14 f14 st14 hr14 em14 eu14 => ?_⟩
        exact ⟨r14, c14, frK k12 (frL e12 f14), st12.tabs t12 f14, st14, by omega, (LA_eq em14 eu14).trans e12, _, _, _, _, rfl⟩
      · obtain ⟨r12, c12, k12, t12, st12, hr12, e12, x1, x4, x5, x6, rfl⟩ := p
        exact ⟨r12, c12, k12, t12, st12, by omega, e12, _, _, _, _, rfl⟩
    · obtain ⟨rn', c', k5, t5, st5, hrn', eLA, x1, x4, x5, x6, rfl⟩ := p
      exact ⟨_, rfl, _, rfl, A, A, rn', c', rfl, st5.rd, st5.wo, st5.few, t5, fun H' k t' => q H' (k5.tr (KcG.kc k)) t'⟩
theorem SqL.kcG {g : Addr} {H H' : Hp} {p : Addr} {xs : List V} (h : SqL K H p xs) (k : KcG g H H') (n : p ≠ g) : SqL K H' p xs := by
  rcases h with (h | ⟨o, h⟩) | h
  · exact .inl (.inl (k _ _ h n fun _ z => nomatch z))
  · exact .inl (.inr ⟨o, k _ _ h n fun _ z => nomatch z⟩)
  · exact .inr h
def spLaw {T : Txt K mg} (l : Lx T) : Sp := fun vs H Q _ => ∃ (p : Addr) (ns : List Int), vs = [.ref p] ∧ SqL K H p (ns.map V.int) ∧ ns.length ≤ 63 ∧ LamX.Tabs l.T H ∧
    ∀ H', Q (.bl true) H'
theorem ok_law (T : Txt K mg) (l : Lx T) (TB : LamX.TabB base mg l.cF l.pF) (TBR : LamX.TabB base mg l.cR l.pR) : FnOkG P w K mg base 16 T.d_law.f T.d_law.fd ["_law_script"] (spLaw l) := by
  have nd := sc_law.nd
  refine okG T.d_law.F sc_law (fun vs H Q E h => ?_) (fun cdv A outer s H vs Q E hr hgd h => ?_)
  · obtain ⟨p, ns, rfl, _⟩ := h; rfl
  · obtain ⟨p, ns, rfl, hp, hl, ht, q⟩ := h
    have hs : sizeLine = 16777216 := sizeLine_eq
    refine ⟨_, (pss_one (ps_ret (pe_callB (r := rAll K) (id := "all") (cr_all rfl) (by rfl) T.b_all (by decide +kernel) (pa_cons (pe_lc (own := [("_law_k", 1)]) (tt := tYes) (g := (gName 1)) rfl nd (pi_range1 (by rfl) T.b_range (pa_cons (pe_callB (id := "max") (call_max2 rfl) (by rfl) T.b_max (by decide +kernel) (pa_cons pe_int (pa_cons (pe_callB (id := "min") (call_min2 rfl) (by rfl) T.b_min (by decide +kernel) (pa_cons (pe_callB (r := rLenS K) (id := "len") call_lenS (by rfl) T.b_len (by decide +kernel) (pa_cons (pv 0) pa_nil)) (pa_cons pe_int pa_nil))) pa_nil))) pa_nil)) (blkOk_by (N := N_law) (sc := defScope s_law) (by decide +kernel)) (fun _ _ _ _ _ => (pg_name (i := 1) nd rfl (.inl rfl))) (fun _ _ _ _ _ => pts_nil) (fun _ _ _ _ _ => (pe_callG (ok_l_right T l TB TBR) (hr.mono (by decide)) hgd (by rfl) T.d_l_right.M T.d_l_right.kp T.d_l_right.B (pa_cons (pcall (ok_l_rng T) T.d_l_rng.M (hr.mono (by decide)) (pa_cons (pv 0) (pa_cons (pv 1) pa_nil))) pa_nil)))) pa_nil)))), ?_⟩
    refine ⟨_, rfl, p, _, rfl, .inl hp, _, _, rfl, _, _, rfl, ?_⟩
    rw [List.length_map]
    obtain ⟨n, hn, hn4⟩ : ∃ n : Nat, (if (if (4 : Int) < (ns.length : Nat) then (4 : Int) else (ns.length : Nat)) > 1 then (if (4 : Int) < (ns.length : Nat) then (4 : Int) else (ns.length : Nat)) else 1) = ((n : Nat) : Int) ∧ n ≤ 4 := by
      by_cases h4 : (4 : Int) < (ns.length : Nat)
      · exact ⟨4, by rw [if_pos h4, if_pos (by decide)]; rfl, Nat.le_refl _⟩
      · rw [if_neg h4]
        by_cases h1 : ((ns.length : Nat) : Int) > 1
        · exact ⟨ns.length, by rw [if_pos h1], by omega⟩
        · exact ⟨1, by rw [if_neg h1]; rfl, by decide⟩
    rw [hn]
    refine ⟨_, rfl, by omega, by omega, fun D nD => ?_⟩
    have wk := walk_range (lo := 0) (n := ((n : Nat) : Int).toNat)
    have sql : ∀ H', (∀ o, H p = some o → (∀ ps, o ≠ .tbl ps) → H' p = some o) → SqL K H' p (ns.map V.int) := fun H' k => by
      rcases hp with (h | ⟨o, h⟩) | h
      · exact .inl (.inl (k _ h fun _ z => nomatch z))
      · exact .inl (.inr ⟨o, k _ h fun _ z => nomatch z⟩)
      · exact .inr h
    have npD : ∀ o, H p = some o → p ≠ D := fun o e => ne_of_none e nD
    refine walk_it wk (fun i H' => i ≤ 4 ∧ LamX.Tabs l.T H' ∧ (∀ o, H p = some o → (∀ ps, o ≠ .tbl ps) → H' p = some o) ∧ H' D = some (.lst ((List.replicate i true).map V.bl))) ⟨by omega, ht.ext (Sm.rf.up nD), fun o e _ => (Sm.rf.up nD) _ _ e, upd_same⟩ (fun _ _ _ _ => trivial) (fun i x H2 H3 hi p0 y => ?_) (fun H2 p0 => ?_)
    · obtain ⟨i4, t2, p2, hD⟩ := p0
      obtain ⟨rfl, rfl⟩ := y
      refine ⟨rfl, _, rfl, _, rfl, p, ns, i, by show [V.ref p, V.int (0 + ((i : Nat) : Int))] = _; rw [Int.zero_add], sql _ p2, by omega, fun H4 g s4 ng g4 => ?_⟩
      refine ⟨g, rfl, g4, t2.ext s4, fun H5 k5 t5 => ?_⟩
      have nDg : D ≠ g := ne_of_none hD ng
      have hD5 := k5 _ _ (s4 _ _ hD) nDg fun _ z => nomatch z
      refine ⟨_, hD5, (by rw [List.length_map, List.length_replicate]; omega), by omega, tabs_set t5 hD5 (fun _ z => nomatch z) (fun _ _ z => nomatch z), fun o e nt => ?_, ?_⟩
      · rw [upd_ne (npD o e)]
        exact k5 _ _ (s4 _ _ (p2 o e nt)) (ne_of_none (p2 o e nt) ng) nt
      · rw [upd_same, List.replicate_succ', List.map_append]
        rfl
    · obtain ⟨_, _, _, hD⟩ := p0
      refine ⟨D, _, rfl, SqL.of hD, ?_⟩
      have ea : (List.replicate ((n : Nat) : Int).toNat true).all id = true := by simp
      rw [ea]
      exact q _
end
end Gs
/-! ## GsFin -/
namespace Gs
open PySem PySem.Spec PyProof.Rows L2
theorem fun_of {K : PySem.W.Frag} {x qual : Str} {st : Stmt} {f : Addr} {fd : FuncData} (h : FunD K x qual (defArgs st) (defBody st) (defScope st) [] [] f fd) : Fun K x qual st f fd := by
  obtain ⟨oc, od, dV, kV, doc, pm, an, cdv, ct, osl, e1, e2, e3, e4, _⟩ := h.ex
  have e : dV = .none := by
    rcases e4 with ⟨_, e⟩ | ⟨e, _⟩
    · exact e
    · exact absurd rfl e
  subst e
  exact ⟨⟨oc, od, kV, doc, pm, an, cdv, ct, osl, e1, e2, e3⟩, h.kp⟩
theorem code_of {K : PySem.W.Frag} {x qual : Str} {st : Stmt} {fd : FuncData} {p : Str × Option Str} (h : Fun K x qual st (He.fAd K p) fd) : fd.code = .ref (He.cT K p).1 := by
  obtain ⟨oc, od, kV, doc, pm, an, cdv, ct, osl, e1, e2, e3⟩ := h.ex
  obtain ⟨a, ea⟩ := He.codeIn_ref e3
  have ec : fd.code = .ref a := by rw [e1]; exact ea
  rw [ec, show (He.cT K p).1 = He.codeOf K p from rfl, He.codeOf_eq e2 ec]
/-- the text's facts out of the head's -/
theorem txt_of {K : PySem.W.Frag} {h : Heap} {mg : Str → Option Value} (X : K.In h) (G : h.Ns mainGlobals mg) (s : Says h K) : ∃ T : Txt K mg, T.d_law.f = He.ga K "law" ∧ (∀ (s : Shared) (u : Value), BindsTo s T.d_law.fd ⟨[u], []⟩ [("_law_script", u)]) ∧
    T.d_first_failing.fd.code = .ref (He.cT K ("first_failing", none)).1 ∧ T.d_l_is_right.fd.code = .ref (He.cT K ("_law_is_right", none)).1 := by
  have c : He.SaysD fa fn K := Prod.ext (by show (_ && _) = true; rw [s.facts, s.defs]; rfl) s.objs
  obtain ⟨hc, hN, hL⟩ := all3 s.more
  obtain ⟨v0, G0⟩ := c.def_ 0 (d := d_NoState_init) rfl
  have F0 := fun_of (st := s_NoState_init) G0
  obtain ⟨v1, G1⟩ := c.def_ 1 (d := d_is_integer) rfl
  have F1 := fun_of (st := s_is_integer) G1
  obtain ⟨v2, G2⟩ := c.def_ 2 (d := d_is_name) rfl
  have F2 := fun_of (st := s_is_name) G2
  obtain ⟨v3, G3⟩ := c.def_ 3 (d := d_is_version) rfl
  have F3 := fun_of (st := s_is_version) G3
  obtain ⟨v4, G4⟩ := c.def_ 4 (d := d_require_version) rfl
  have F4 := fun_of (st := s_require_version) G4
  obtain ⟨v5, G5⟩ := c.def_ 5 (d := d_is_window) rfl
  have F5 := fun_of (st := s_is_window) G5
  obtain ⟨v6, G6⟩ := c.def_ 6 (d := d_require_window) rfl
  have F6 := fun_of (st := s_require_window) G6
  obtain ⟨v7, G7⟩ := c.def_ 7 (d := d_reaches) rfl
  have F7 := fun_of (st := s_reaches) G7
  obtain ⟨v8, G8⟩ := c.def_ 8 (d := d_contains) rfl
  have F8 := fun_of (st := s_contains) G8
  obtain ⟨v9, G9⟩ := c.def_ 9 (d := d_rises) rfl
  have F9 := fun_of (st := s_rises) G9
  obtain ⟨v10, G10⟩ := c.def_ 10 (d := d_is_row_of_names) rfl
  have F10 := fun_of (st := s_is_row_of_names) G10
  obtain ⟨v11, G11⟩ := c.def_ 11 (d := d_check_uses) rfl
  have F11 := fun_of (st := s_check_uses) G11
  obtain ⟨v12, G12⟩ := c.def_ 12 (d := d_check_new_windows) rfl
  have F12 := fun_of (st := s_check_new_windows) G12
  obtain ⟨v13, G13⟩ := c.def_ 13 (d := d_Catalog_init) rfl
  have F13 := fun_of (st := s_Catalog_init) G13
  obtain ⟨v14, G14⟩ := c.def_ 14 (d := d_Catalog_modules) rfl
  have F14 := fun_of (st := s_Catalog_modules) G14
  obtain ⟨v15, G15⟩ := c.def_ 15 (d := d_Catalog_uses) rfl
  have F15 := fun_of (st := s_Catalog_uses) G15
  obtain ⟨v16, G16⟩ := c.def_ 16 (d := d_Catalog_users) rfl
  have F16 := fun_of (st := s_Catalog_users) G16
  obtain ⟨v17, G17⟩ := c.def_ 17 (d := d_Catalog_versions) rfl
  have F17 := fun_of (st := s_Catalog_versions) G17
  obtain ⟨v18, G18⟩ := c.def_ 18 (d := d_Catalog_publish) rfl
  have F18 := fun_of (st := s_Catalog_publish) G18
  obtain ⟨v19, G19⟩ := c.def_ 19 (d := d_Catalog_withdraw) rfl
  have F19 := fun_of (st := s_Catalog_withdraw) G19
  obtain ⟨v20, G20⟩ := c.def_ 20 (d := d_Catalog_window) rfl
  have F20 := fun_of (st := s_Catalog_window) G20
  obtain ⟨v21, G21⟩ := c.def_ 21 (d := d_Catalog_is_available) rfl
  have F21 := fun_of (st := s_Catalog_is_available) G21
  obtain ⟨v22, G22⟩ := c.def_ 22 (d := d_Catalog_available) rfl
  have F22 := fun_of (st := s_Catalog_available) G22
  obtain ⟨v23, G23⟩ := c.def_ 23 (d := d_Catalog_clone) rfl
  have F23 := fun_of (st := s_Catalog_clone) G23
  obtain ⟨v24, G24⟩ := c.def_ 24 (d := d_Catalog_eq) rfl
  have F24 := fun_of (st := s_Catalog_eq) G24
  obtain ⟨v25, G25⟩ := c.def_ 25 (d := d_Catalog_len) rfl
  have F25 := fun_of (st := s_Catalog_len) G25
  obtain ⟨v26, G26⟩ := c.def_ 26 (d := d_require_module) rfl
  have F26 := fun_of (st := s_require_module) G26
  obtain ⟨v27, G27⟩ := c.def_ 27 (d := d_all_uses) rfl
  have F27 := fun_of (st := s_all_uses) G27
  obtain ⟨v28, G28⟩ := c.def_ 28 (d := d_check_rows) rfl
  have F28 := fun_of (st := s_check_rows) G28
  obtain ⟨v29, G29⟩ := c.def_ 29 (d := d_catalog_of) rfl
  have F29 := fun_of (st := s_catalog_of) G29
  obtain ⟨v30, G30⟩ := c.def_ 30 (d := d_settled_version) rfl
  have F30 := fun_of (st := s_settled_version) G30
  obtain ⟨v31, G31⟩ := c.def_ 31 (d := d_first_reaching) rfl
  have F31 := fun_of (st := s_first_reaching) G31
  obtain ⟨v32, G32⟩ := c.def_ 32 (d := d_demands_of_version) rfl
  have F32 := fun_of (st := s_demands_of_version) G32
  obtain ⟨v33, G33⟩ := c.def_ 33 (d := d_searched) rfl
  have F33 := fun_of (st := s_searched) G33
  obtain ⟨v34, G34⟩ := c.def_ 34 (d := d_chain_to) rfl
  have F34 := fun_of (st := s_chain_to) G34
  obtain ⟨v35, G35⟩ := c.def_ 35 (d := d_shortest_chain) rfl
  have F35 := fun_of (st := s_shortest_chain) G35
  obtain ⟨v36, G36⟩ := c.def_ 36 (d := d_first_failing) rfl
  have F36 := fun_of (st := s_first_failing) G36
  obtain ⟨v37, G37⟩ := c.def_ 37 (d := d_require_state) rfl
  have F37 := fun_of (st := s_require_state) G37
  obtain ⟨v38, G38⟩ := c.def_ 38 (d := d_found_conflicts) rfl
  have F38 := fun_of (st := s_found_conflicts) G38
  obtain ⟨v39, G39⟩ := c.def_ 39 (d := d_conflicts) rfl
  have F39 := fun_of (st := s_conflicts) G39
  obtain ⟨v40, G40⟩ := c.def_ 40 (d := d_first_conflict) rfl
  have F40 := fun_of (st := s_first_conflict) G40
  obtain ⟨v41, G41⟩ := c.def_ 41 (d := d_first_demands) rfl
  have F41 := fun_of (st := s_first_demands) G41
  obtain ⟨v42, G42⟩ := c.def_ 42 (d := d_demanded_versions) rfl
  have F42 := fun_of (st := s_demanded_versions) G42
  obtain ⟨v43, G43⟩ := c.def_ 43 (d := d_latest) rfl
  have F43 := fun_of (st := s_latest) G43
  obtain ⟨v44, G44⟩ := c.def_ 44 (d := d_lowered) rfl
  have F44 := fun_of (st := s_lowered) G44
  obtain ⟨v45, G45⟩ := c.def_ 45 (d := d_least_state) rfl
  have F45 := fun_of (st := s_least_state) G45
  obtain ⟨v46, G46⟩ := c.def_ 46 (d := d_greatest_state) rfl
  have F46 := fun_of (st := s_greatest_state) G46
  obtain ⟨v47, G47⟩ := c.def_ 47 (d := d_l_rng) rfl
  have F47 := fun_of (st := s_l_rng) G47
  obtain ⟨v48, G48⟩ := c.def_ 48 (d := d_l_draw) rfl
  have F48 := fun_of (st := s_l_draw) G48
  obtain ⟨v49, G49⟩ := c.def_ 49 (d := d_l_choice) rfl
  have F49 := fun_of (st := s_l_choice) G49
  obtain ⟨v50, G50⟩ := c.def_ 50 (d := d_l_shuffled) rfl
  have F50 := fun_of (st := s_l_shuffled) G50
  obtain ⟨v51, G51⟩ := c.def_ 51 (d := d_l_name) rfl
  have F51 := fun_of (st := s_l_name) G51
  obtain ⟨v52, G52⟩ := c.def_ 52 (d := d_l_names) rfl
  have F52 := fun_of (st := s_l_names) G52
  obtain ⟨v53, G53⟩ := c.def_ 53 (d := d_l_windows) rfl
  have F53 := fun_of (st := s_l_windows) G53
  obtain ⟨v54, G54⟩ := c.def_ 54 (d := d_l_rows) rfl
  have F54 := fun_of (st := s_l_rows) G54
  obtain ⟨v55, G55⟩ := c.def_ 55 (d := d_l_world) rfl
  have F55 := fun_of (st := s_l_world) G55
  obtain ⟨v56, G56⟩ := c.def_ 56 (d := d_l_withdrawn) rfl
  have F56 := fun_of (st := s_l_withdrawn) G56
  obtain ⟨v57, G57⟩ := c.def_ 57 (d := d_l_contains) rfl
  have F57 := fun_of (st := s_l_contains) G57
  obtain ⟨v58, G58⟩ := c.def_ 58 (d := d_l_conflicts) rfl
  have F58 := fun_of (st := s_l_conflicts) G58
  obtain ⟨v59, G59⟩ := c.def_ 59 (d := d_l_states) rfl
  have F59 := fun_of (st := s_l_states) G59
  obtain ⟨v60, G60⟩ := c.def_ 60 (d := d_l_as_dict) rfl
  have F60 := fun_of (st := s_l_as_dict) G60
  obtain ⟨v61, G61⟩ := c.def_ 61 (d := d_l_bound) rfl
  have F61 := fun_of (st := s_l_bound) G61
  obtain ⟨v62, G62⟩ := c.def_ 62 (d := d_l_following) rfl
  have F62 := fun_of (st := s_l_following) G62
  obtain ⟨v63, G63⟩ := c.def_ 63 (d := d_l_next) rfl
  have F63 := fun_of (st := s_l_next) G63
  obtain ⟨v64, G64⟩ := c.def_ 64 (d := d_l_distances) rfl
  have F64 := fun_of (st := s_l_distances) G64
  obtain ⟨v65, G65⟩ := c.def_ 65 (d := d_l_is_chain) rfl
  have F65 := fun_of (st := s_l_is_chain) G65
  obtain ⟨v66, G66⟩ := c.def_ 66 (d := d_l_outcome) rfl
  have F66 := fun_of (st := s_l_outcome) G66
  obtain ⟨v67, G67⟩ := c.def_ 67 (d := d_l_is_failing) rfl
  have F67 := fun_of (st := s_l_is_failing) G67
  obtain ⟨v68, G68⟩ := c.def_ 68 (d := d_l_is_right) rfl
  have F68 := fun_of (st := s_l_is_right) G68
  obtain ⟨v69, G69⟩ := c.def_ 69 (d := d_l_published) rfl
  have F69 := fun_of (st := s_l_published) G69
  obtain ⟨v70, G70⟩ := c.def_ 70 (d := d_l_right) rfl
  have F70 := fun_of (st := s_l_right) G70
  obtain ⟨v71, G71⟩ := c.def_ 71 (d := d_law) rfl
  have F71 := fun_of (st := s_law) G71
  refine ⟨{ C := He.ga K "Catalog"
            cl := He.cls_ok (c.fact 85 (f := .cls "Catalog") rfl)
            mgC := He.glo_ok X G (c.fact 58 (f := .glo "Catalog") rfl)
            kC := (He.mkr_ok (c.fact 86 (f := .mkr "Catalog") rfl)).kp
            nU := He.noat_ok (c.fact 100 (f := .noat "Catalog" "use_table") rfl)
            nW := He.noat_ok (c.fact 101 (f := .noat "Catalog" "window_table") rfl)
            nC := He.noat_ok (c.fact 102 (f := .noat "Catalog" "count_table") rfl)
            nD := He.noat_ok (c.fact 103 (f := .noat "Catalog" "withdrawn_table") rfl)
            nR := He.noat_ok (c.fact 104 (f := .noat "Catalog" "record") rfl)
            cO := of_decide_eq_true (nth hc 3 rfl)
            ic := say_ic (He.cls_ok (c.fact 85 (f := .cls "Catalog") rfl)) hc
            cNe := of_decide_eq_true (nth hc 5 rfl)
            N := He.ga K "NoState"
            mgN := He.glo_ok X G (c.fact 59 (f := .glo "NoState") rfl)
            ax := say_ax hN
            nCh := of_decide_eq_true (nth hN 5 rfl)
            xf := xfB_ok (nth hN 6 rfl)
            xc := say_xc hc hN
            xm := He.exm_ok (c.fact 105 (f := .exm "NoState" "NoState" true) rfl)
            L := He.ga K "LimitReached"
            mgL := He.glo_ok X G (c.fact 61 (f := .glo "LimitReached") rfl)
            ab := say_ab hL
            U := He.ga K "Unreachable"
            mgU := He.glo_ok X G (c.fact 60 (f := .glo "Unreachable") rfl)
            xu := of_decide_eq_true (nth hN 10 rfl)
            iLetters := He.str_ok X G (c.fact 84 (f := .str "LETTERS" "abcdefghijklmnopqrstuvwxyz") rfl)
            iML := He.int_ok X G (c.fact 80 (f := .int "MAX_LETTERS" 8) rfl)
            iMM := He.int_ok X G (c.fact 81 (f := .int "MOST_MODULES" 12) rfl)
            iMV := He.int_ok X G (c.fact 82 (f := .int "MOST_VERSIONS" 16) rfl)
            iMU := He.int_ok X G (c.fact 83 (f := .int "MOST_USES" 40) rfl)
            b_abs := He.free_ok X G (c.fact 62 (f := .free "abs") rfl)
            b_len := He.free_ok X G (c.fact 63 (f := .free "len") rfl)
            b_max := He.free_ok X G (c.fact 64 (f := .free "max") rfl)
            b_divmod := He.free_ok X G (c.fact 65 (f := .free "divmod") rfl)
            b_list := He.free_ok X G (c.fact 66 (f := .free "list") rfl)
            b_range := He.free_ok X G (c.fact 67 (f := .free "range") rfl)
            b_min := He.free_ok X G (c.fact 68 (f := .free "min") rfl)
            b_tuple := He.free_ok X G (c.fact 69 (f := .free "tuple") rfl)
            b_enumerate := He.free_ok X G (c.fact 70 (f := .free "enumerate") rfl)
            b_dict := He.free_ok X G (c.fact 71 (f := .free "dict") rfl)
            b_zip := He.free_ok X G (c.fact 72 (f := .free "zip") rfl)
            b_all := He.free_ok X G (c.fact 73 (f := .free "all") rfl)
            b_isinstance := He.free_ok X G (c.fact 74 (f := .free "isinstance") rfl)
            b_repr := He.free_ok X G (c.fact 75 (f := .free "repr") rfl)
            b_sum := He.free_ok X G (c.fact 76 (f := .free "sum") rfl)
            b_int := He.free_ok X G (c.fact 77 (f := .free "int") rfl)
            b_bool := He.free_ok X G (c.fact 78 (f := .free "bool") rfl)
            b_str := He.free_ok X G (c.fact 79 (f := .free "str") rfl)
            d_NoState_init := ⟨_, v0, F0, (FunD.bindsN G0 fun _ _ _ _ _ _ us hl => match us, hl with | [_, _], _ => rfl), F0.kp⟩
            nI := of_decide_eq_true (nth hN 11 rfl)
            tI := of_decide_eq_true (nth hN 12 rfl)
            d_is_integer := ⟨⟨_, v1, F1, (FunD.bindsN G1 fun _ _ _ _ _ _ us hl => match us, hl with | [_], _ => rfl), F1.kp⟩, He.glo_ok X G (c.fact 0 (f := .glo "is_integer") rfl)⟩
            d_is_name := ⟨⟨_, v2, F2, (FunD.bindsN G2 fun _ _ _ _ _ _ us hl => match us, hl with | [_], _ => rfl), F2.kp⟩, He.glo_ok X G (c.fact 1 (f := .glo "is_name") rfl)⟩
            d_is_version := ⟨⟨_, v3, F3, (FunD.bindsN G3 fun _ _ _ _ _ _ us hl => match us, hl with | [_], _ => rfl), F3.kp⟩, He.glo_ok X G (c.fact 2 (f := .glo "is_version") rfl)⟩
            d_require_version := ⟨⟨_, v4, F4, (FunD.bindsN G4 fun _ _ _ _ _ _ us hl => match us, hl with | [_], _ => rfl), F4.kp⟩, He.glo_ok X G (c.fact 3 (f := .glo "require_version") rfl)⟩
            d_is_window := ⟨⟨_, v5, F5, (FunD.bindsN G5 fun _ _ _ _ _ _ us hl => match us, hl with | [_], _ => rfl), F5.kp⟩, He.glo_ok X G (c.fact 4 (f := .glo "is_window") rfl)⟩
            d_require_window := ⟨⟨_, v6, F6, (FunD.bindsN G6 fun _ _ _ _ _ _ us hl => match us, hl with | [_], _ => rfl), F6.kp⟩, He.glo_ok X G (c.fact 5 (f := .glo "require_window") rfl)⟩
            d_reaches := ⟨⟨_, v7, F7, (FunD.bindsN G7 fun _ _ _ _ _ _ us hl => match us, hl with | [_, _], _ => rfl), F7.kp⟩, He.glo_ok X G (c.fact 6 (f := .glo "reaches") rfl)⟩
            d_contains := ⟨⟨_, v8, F8, (FunD.bindsN G8 fun _ _ _ _ _ _ us hl => match us, hl with | [_, _], _ => rfl), F8.kp⟩, He.glo_ok X G (c.fact 7 (f := .glo "contains") rfl)⟩
            d_rises := ⟨⟨_, v9, F9, (FunD.bindsN G9 fun _ _ _ _ _ _ us hl => match us, hl with | [_, _], _ => rfl), F9.kp⟩, He.glo_ok X G (c.fact 8 (f := .glo "rises") rfl)⟩
            d_is_row_of_names := ⟨⟨_, v10, F10, (FunD.bindsN G10 fun _ _ _ _ _ _ us hl => match us, hl with | [_, _], _ => rfl), F10.kp⟩, He.glo_ok X G (c.fact 9 (f := .glo "is_row_of_names") rfl)⟩
            d_check_uses := ⟨⟨_, v11, F11, (FunD.bindsN G11 fun _ _ _ _ _ _ us hl => match us, hl with | [_], _ => rfl), F11.kp⟩, He.glo_ok X G (c.fact 10 (f := .glo "check_uses") rfl)⟩
            d_check_new_windows := ⟨⟨_, v12, F12, (FunD.bindsN G12 fun _ _ _ _ _ _ us hl => match us, hl with | [_, _], _ => rfl), F12.kp⟩, He.glo_ok X G (c.fact 11 (f := .glo "check_new_windows") rfl)⟩
            d_Catalog_init := ⟨⟨_, v13, F13, (FunD.bindsN G13 fun _ _ _ _ _ _ us hl => match us, hl with | [_, _], _ => rfl), F13.kp⟩, He.meth_ok (c.fact 87 (f := .meth "Catalog" "__init__") rfl)⟩
            d_Catalog_modules := ⟨⟨_, v14, F14, (FunD.bindsN G14 fun _ _ _ _ _ _ us hl => match us, hl with | [_], _ => rfl), F14.kp⟩, He.meth_ok (c.fact 88 (f := .meth "Catalog" "modules") rfl)⟩
            d_Catalog_uses := ⟨⟨_, v15, F15, (FunD.bindsN G15 fun _ _ _ _ _ _ us hl => match us, hl with | [_, _], _ => rfl), F15.kp⟩, He.meth_ok (c.fact 89 (f := .meth "Catalog" "uses") rfl)⟩
            d_Catalog_users := ⟨⟨_, v16, F16, (FunD.bindsN G16 fun _ _ _ _ _ _ us hl => match us, hl with | [_, _], _ => rfl), F16.kp⟩, He.meth_ok (c.fact 90 (f := .meth "Catalog" "users") rfl)⟩
            d_Catalog_versions := ⟨⟨_, v17, F17, (FunD.bindsN G17 fun _ _ _ _ _ _ us hl => match us, hl with | [_, _], _ => rfl), F17.kp⟩, He.meth_ok (c.fact 91 (f := .meth "Catalog" "versions") rfl)⟩
            d_Catalog_publish := ⟨⟨_, v18, F18, (FunD.bindsN G18 fun _ _ _ _ _ _ us hl => match us, hl with | [_, _, _], _ => rfl), F18.kp⟩, He.meth_ok (c.fact 92 (f := .meth "Catalog" "publish") rfl)⟩
            d_Catalog_withdraw := ⟨⟨_, v19, F19, (FunD.bindsN G19 fun _ _ _ _ _ _ us hl => match us, hl with | [_, _, _], _ => rfl), F19.kp⟩, He.meth_ok (c.fact 93 (f := .meth "Catalog" "withdraw") rfl)⟩
            d_Catalog_window := ⟨⟨_, v20, F20, (FunD.bindsN G20 fun _ _ _ _ _ _ us hl => match us, hl with | [_, _, _, _], _ => rfl), F20.kp⟩, He.meth_ok (c.fact 94 (f := .meth "Catalog" "window") rfl)⟩
            d_Catalog_is_available := ⟨⟨_, v21, F21, (FunD.bindsN G21 fun _ _ _ _ _ _ us hl => match us, hl with | [_, _, _], _ => rfl), F21.kp⟩, He.meth_ok (c.fact 95 (f := .meth "Catalog" "is_available") rfl)⟩
            d_Catalog_available := ⟨⟨_, v22, F22, (FunD.bindsN G22 fun _ _ _ _ _ _ us hl => match us, hl with | [_, _], _ => rfl), F22.kp⟩, He.meth_ok (c.fact 96 (f := .meth "Catalog" "available") rfl)⟩
            d_Catalog_clone := ⟨⟨_, v23, F23, (FunD.bindsN G23 fun _ _ _ _ _ _ us hl => match us, hl with | [_], _ => rfl), F23.kp⟩, He.meth_ok (c.fact 97 (f := .meth "Catalog" "clone") rfl)⟩
            d_Catalog_eq := ⟨⟨_, v24, F24, (FunD.bindsN G24 fun _ _ _ _ _ _ us hl => match us, hl with | [_, _], _ => rfl), F24.kp⟩, He.meth_ok (c.fact 98 (f := .meth "Catalog" "__eq__") rfl)⟩
            d_Catalog_len := ⟨⟨_, v25, F25, (FunD.bindsN G25 fun _ _ _ _ _ _ us hl => match us, hl with | [_], _ => rfl), F25.kp⟩, He.meth_ok (c.fact 99 (f := .meth "Catalog" "__len__") rfl)⟩
            d_require_module := ⟨⟨_, v26, F26, (FunD.bindsN G26 fun _ _ _ _ _ _ us hl => match us, hl with | [_, _], _ => rfl), F26.kp⟩, He.glo_ok X G (c.fact 12 (f := .glo "require_module") rfl)⟩
            d_all_uses := ⟨⟨_, v27, F27, (FunD.bindsN G27 fun _ _ _ _ _ _ us hl => match us, hl with | [_], _ => rfl), F27.kp⟩, He.glo_ok X G (c.fact 13 (f := .glo "all_uses") rfl)⟩
            d_check_rows := ⟨⟨_, v28, F28, (FunD.bindsN G28 fun _ _ _ _ _ _ us hl => match us, hl with | [_], _ => rfl), F28.kp⟩, He.glo_ok X G (c.fact 14 (f := .glo "check_rows") rfl)⟩
            d_catalog_of := ⟨⟨_, v29, F29, (FunD.bindsN G29 fun _ _ _ _ _ _ us hl => match us, hl with | [_], _ => rfl), F29.kp⟩, He.glo_ok X G (c.fact 15 (f := .glo "catalog_of") rfl)⟩
            d_settled_version := ⟨⟨_, v30, F30, (FunD.bindsN G30 fun _ _ _ _ _ _ us hl => match us, hl with | [_, _, _], _ => rfl), F30.kp⟩, He.glo_ok X G (c.fact 16 (f := .glo "settled_version") rfl)⟩
            d_first_reaching := ⟨⟨_, v31, F31, (FunD.bindsN G31 fun _ _ _ _ _ _ us hl => match us, hl with | [_, _, _, _], _ => rfl), F31.kp⟩, He.glo_ok X G (c.fact 17 (f := .glo "first_reaching") rfl)⟩
            d_demands_of_version := ⟨⟨_, v32, F32, (FunD.bindsN G32 fun _ _ _ _ _ _ us hl => match us, hl with | [_, _, _], _ => rfl), F32.kp⟩, He.glo_ok X G (c.fact 18 (f := .glo "demands_of_version") rfl)⟩
            d_searched := ⟨⟨_, v33, F33, (FunD.bindsN G33 fun _ _ _ _ _ _ us hl => match us, hl with | [_, _], _ => rfl), F33.kp⟩, He.glo_ok X G (c.fact 19 (f := .glo "searched") rfl)⟩
            d_chain_to := ⟨⟨_, v34, F34, (FunD.bindsN G34 fun _ _ _ _ _ _ us hl => match us, hl with | [_, _], _ => rfl), F34.kp⟩, He.glo_ok X G (c.fact 20 (f := .glo "chain_to") rfl)⟩
            d_shortest_chain := ⟨⟨_, v35, F35, (FunD.bindsN G35 fun _ _ _ _ _ _ us hl => match us, hl with | [_, _, _], _ => rfl), F35.kp⟩, He.glo_ok X G (c.fact 21 (f := .glo "shortest_chain") rfl)⟩
            d_first_failing := ⟨⟨_, v36, F36, (FunD.bindsN G36 fun _ _ _ _ _ _ us hl => match us, hl with | [_, _], _ => rfl), F36.kp⟩, He.glo_ok X G (c.fact 22 (f := .glo "first_failing") rfl)⟩
            d_require_state := ⟨⟨_, v37, F37, (FunD.bindsN G37 fun _ _ _ _ _ _ us hl => match us, hl with | [_, _], _ => rfl), F37.kp⟩, He.glo_ok X G (c.fact 23 (f := .glo "require_state") rfl)⟩
            d_found_conflicts := ⟨⟨_, v38, F38, (FunD.bindsN G38 fun _ _ _ _ _ _ us hl => match us, hl with | [_, _], _ => rfl), F38.kp⟩, He.glo_ok X G (c.fact 24 (f := .glo "found_conflicts") rfl)⟩
            d_conflicts := ⟨⟨_, v39, F39, (FunD.bindsN G39 fun _ _ _ _ _ _ us hl => match us, hl with | [_, _], _ => rfl), F39.kp⟩, He.glo_ok X G (c.fact 25 (f := .glo "conflicts") rfl)⟩
            d_first_conflict := ⟨⟨_, v40, F40, (FunD.bindsN G40 fun _ _ _ _ _ _ us hl => match us, hl with | [_, _], _ => rfl), F40.kp⟩, He.glo_ok X G (c.fact 26 (f := .glo "first_conflict") rfl)⟩
            d_first_demands := ⟨⟨_, v41, F41, (FunD.bindsN G41 fun _ _ _ _ _ _ us hl => match us, hl with | [_], _ => rfl), F41.kp⟩, He.glo_ok X G (c.fact 27 (f := .glo "first_demands") rfl)⟩
            d_demanded_versions := ⟨⟨_, v42, F42, (FunD.bindsN G42 fun _ _ _ _ _ _ us hl => match us, hl with | [_, _], _ => rfl), F42.kp⟩, He.glo_ok X G (c.fact 28 (f := .glo "demanded_versions") rfl)⟩
            d_latest := ⟨⟨_, v43, F43, (FunD.bindsN G43 fun _ _ _ _ _ _ us hl => match us, hl with | [_, _], _ => rfl), F43.kp⟩, He.glo_ok X G (c.fact 29 (f := .glo "latest") rfl)⟩
            d_lowered := ⟨⟨_, v44, F44, (FunD.bindsN G44 fun _ _ _ _ _ _ us hl => match us, hl with | [_, _], _ => rfl), F44.kp⟩, He.glo_ok X G (c.fact 30 (f := .glo "lowered") rfl)⟩
            d_least_state := ⟨⟨_, v45, F45, (FunD.bindsN G45 fun _ _ _ _ _ _ us hl => match us, hl with | [_], _ => rfl), F45.kp⟩, He.glo_ok X G (c.fact 31 (f := .glo "least_state") rfl)⟩
            d_greatest_state := ⟨⟨_, v46, F46, (FunD.bindsN G46 fun _ _ _ _ _ _ us hl => match us, hl with | [_], _ => rfl), F46.kp⟩, He.glo_ok X G (c.fact 32 (f := .glo "greatest_state") rfl)⟩
            d_l_rng := ⟨⟨_, v47, F47, (FunD.bindsN G47 fun _ _ _ _ _ _ us hl => match us, hl with | [_, _], _ => rfl), F47.kp⟩, He.glo_ok X G (c.fact 33 (f := .glo "_law_rng") rfl)⟩
            d_l_draw := ⟨⟨_, v48, F48, (FunD.bindsN G48 fun _ _ _ _ _ _ us hl => match us, hl with | [_, _], _ => rfl), F48.kp⟩, He.glo_ok X G (c.fact 34 (f := .glo "_law_draw") rfl)⟩
            d_l_choice := ⟨⟨_, v49, F49, (FunD.bindsN G49 fun _ _ _ _ _ _ us hl => match us, hl with | [_, _], _ => rfl), F49.kp⟩, He.glo_ok X G (c.fact 35 (f := .glo "_law_choice") rfl)⟩
            d_l_shuffled := ⟨⟨_, v50, F50, (FunD.bindsN G50 fun _ _ _ _ _ _ us hl => match us, hl with | [_, _], _ => rfl), F50.kp⟩, He.glo_ok X G (c.fact 36 (f := .glo "_law_shuffled") rfl)⟩
            d_l_name := ⟨⟨_, v51, F51, (FunD.bindsN G51 fun _ _ _ _ _ _ us hl => match us, hl with | [_, _], _ => rfl), F51.kp⟩, He.glo_ok X G (c.fact 37 (f := .glo "_law_name") rfl)⟩
            d_l_names := ⟨⟨_, v52, F52, (FunD.bindsN G52 fun _ _ _ _ _ _ us hl => match us, hl with | [_, _, _], _ => rfl), F52.kp⟩, He.glo_ok X G (c.fact 38 (f := .glo "_law_names") rfl)⟩
            d_l_windows := ⟨⟨_, v53, F53, (FunD.bindsN G53 fun _ _ _ _ _ _ us hl => match us, hl with | [_, _, _], _ => rfl), F53.kp⟩, He.glo_ok X G (c.fact 39 (f := .glo "_law_windows") rfl)⟩
            d_l_rows := ⟨⟨_, v54, F54, (FunD.bindsN G54 fun _ _ _ _ _ _ us hl => match us, hl with | [_, _, _, _], _ => rfl), F54.kp⟩, He.glo_ok X G (c.fact 40 (f := .glo "_law_rows") rfl)⟩
            d_l_world := ⟨⟨_, v55, F55, (FunD.bindsN G55 fun _ _ _ _ _ _ us hl => match us, hl with | [_], _ => rfl), F55.kp⟩, He.glo_ok X G (c.fact 41 (f := .glo "_law_world") rfl)⟩
            d_l_withdrawn := ⟨⟨_, v56, F56, (FunD.bindsN G56 fun _ _ _ _ _ _ us hl => match us, hl with | [_, _, _, _], _ => rfl), F56.kp⟩, He.glo_ok X G (c.fact 42 (f := .glo "_law_withdrawn") rfl)⟩
            d_l_contains := ⟨⟨_, v57, F57, (FunD.bindsN G57 fun _ _ _ _ _ _ us hl => match us, hl with | [_, _], _ => rfl), F57.kp⟩, He.glo_ok X G (c.fact 43 (f := .glo "_law_contains") rfl)⟩
            d_l_conflicts := ⟨⟨_, v58, F58, (FunD.bindsN G58 fun _ _ _ _ _ _ us hl => match us, hl with | [_, _], _ => rfl), F58.kp⟩, He.glo_ok X G (c.fact 44 (f := .glo "_law_conflicts") rfl)⟩
            d_l_states := ⟨⟨_, v59, F59, (FunD.bindsN G59 fun _ _ _ _ _ _ us hl => match us, hl with | [_], _ => rfl), F59.kp⟩, He.glo_ok X G (c.fact 45 (f := .glo "_law_states") rfl)⟩
            d_l_as_dict := ⟨⟨_, v60, F60, (FunD.bindsN G60 fun _ _ _ _ _ _ us hl => match us, hl with | [_, _], _ => rfl), F60.kp⟩, He.glo_ok X G (c.fact 46 (f := .glo "_law_as_dict") rfl)⟩
            d_l_bound := ⟨⟨_, v61, F61, (FunD.bindsN G61 fun _ _ _ _ _ _ us hl => match us, hl with | [_, _], _ => rfl), F61.kp⟩, He.glo_ok X G (c.fact 47 (f := .glo "_law_bound") rfl)⟩
            d_l_following := ⟨⟨_, v62, F62, (FunD.bindsN G62 fun _ _ _ _ _ _ us hl => match us, hl with | [_, _], _ => rfl), F62.kp⟩, He.glo_ok X G (c.fact 48 (f := .glo "_law_following") rfl)⟩
            d_l_next := ⟨⟨_, v63, F63, (FunD.bindsN G63 fun _ _ _ _ _ _ us hl => match us, hl with | [_, _], _ => rfl), F63.kp⟩, He.glo_ok X G (c.fact 49 (f := .glo "_law_next") rfl)⟩
            d_l_distances := ⟨⟨_, v64, F64, (FunD.bindsN G64 fun _ _ _ _ _ _ us hl => match us, hl with | [_, _], _ => rfl), F64.kp⟩, He.glo_ok X G (c.fact 50 (f := .glo "_law_distances") rfl)⟩
            d_l_is_chain := ⟨⟨_, v65, F65, (FunD.bindsN G65 fun _ _ _ _ _ _ us hl => match us, hl with | [_, _], _ => rfl), F65.kp⟩, He.glo_ok X G (c.fact 51 (f := .glo "_law_is_chain") rfl)⟩
            d_l_outcome := ⟨⟨_, v66, F66, (FunD.bindsN G66 fun _ _ _ _ _ _ us hl => match us, hl with | [_], _ => rfl), F66.kp⟩, He.glo_ok X G (c.fact 52 (f := .glo "_law_outcome") rfl)⟩
            d_l_is_failing := ⟨⟨_, v67, F67, (FunD.bindsN G67 fun _ _ _ _ _ _ us hl => match us, hl with | [_, _, _], _ => rfl), F67.kp⟩, He.glo_ok X G (c.fact 53 (f := .glo "_law_is_failing") rfl)⟩
            d_l_is_right := ⟨⟨_, v68, F68, (FunD.bindsN G68 fun _ _ _ _ _ _ us hl => match us, hl with | [_, _], _ => rfl), F68.kp⟩, He.glo_ok X G (c.fact 54 (f := .glo "_law_is_right") rfl)⟩
            d_l_published := ⟨⟨_, v69, F69, (FunD.bindsN G69 fun _ _ _ _ _ _ us hl => match us, hl with | [_, _, _], _ => rfl), F69.kp⟩, He.glo_ok X G (c.fact 55 (f := .glo "_law_published") rfl)⟩
            d_l_right := ⟨⟨_, v70, F70, (FunD.bindsN G70 fun _ _ _ _ _ _ us hl => match us, hl with | [_], _ => rfl), F70.kp⟩, He.glo_ok X G (c.fact 56 (f := .glo "_law_right") rfl)⟩
            d_law := ⟨⟨_, v71, F71, (FunD.bindsN G71 fun _ _ _ _ _ _ us hl => match us, hl with | [_], _ => rfl), F71.kp⟩, He.glo_ok X G (c.fact 57 (f := .glo "law") rfl)⟩
            mkC := He.mkr_ok (c.fact 86 (f := .mkr "Catalog") rfl) }, rfl, fun s u => ?_, code_of F36, code_of F68⟩
  exact FunD.bindsA (ps := ["_law_script"]) G71 (fun _ _ _ _ _ _ us hl => match us, hl with | [_], _ => rfl) s [u] rfl
theorem lx_of {K : PySem.W.Frag} {h : Heap} {mg : Str → Option Value} (s : Says h K) (T : Txt K mg) (e1 : T.d_first_failing.fd.code = .ref (He.cT K ("first_failing", none)).1) (e2 : T.d_l_is_right.fd.code = .ref (He.cT K ("_law_is_right", none)).1) :
    ∃ l : Lx T, l.cF = (He.cT K ("first_failing", none)).1 ∧ l.pF = (He.cT K ("first_failing", none)).2 ∧ l.cR = (He.cT K ("_law_is_right", none)).1 ∧ l.pR = (He.cT K ("_law_is_right", none)).2 := by
  refine ⟨⟨_, (He.cT K ("first_failing", none)).2, e1, _, (He.cT K ("_law_is_right", none)).2, e2, fun e => ?_⟩, rfl, rfl, rfl, rfl⟩
  have := s.tne
  unfold tneB at this
  rw [e, decide_eq_true rfl] at this
  cases this
theorem fin {P : Program} {w : World} {mg : Str → Option Value} {fa : Addr} {h : Heap} (Y : ∃ K : PySem.W.Frag, K.In h ∧ Says h K) (G : h.Ns mainGlobals mg) (hmg : mg "law" = some (.ref fa)) : ∃ (K : PySem.W.Frag) (fd : FuncData) (cs : List (Addr × Addr)) (sp : Sp), K.In h ∧
    (∀ p ∈ cs, h.get? p.2 = some { cls := .none, data := .fields #[] }) ∧ (∀ p ∈ cs, K.lookup p.2 = none) ∧ (∀ p ∈ cs, PySem.W.CodeHd h p.1 p.2) ∧ (∀ (s : Shared) (u : Value), BindsTo s fd ⟨[u], []⟩ [("_law_script", u)]) ∧
    (∀ (H : Hp) (a : Addr) (ns : List Int), ns.length ≤ 63 → (∀ z ∈ ns, Builtin.Int.intBits z ≤ 1048576) → (∀ p ∈ cs, H p.2 = some (.tbl #[])) → SqL K H a (ns.map V.int) → sp [.ref a] H (fun v _ => v = .bl true) fun _ _ _ => False) ∧
    ∀ base : Heap, K.In base → base.Ns mainGlobals mg → (∀ p ∈ cs, LamX.TabB base mg p.1 p.2) → FnOkG P w K mg base 16 fa fd ["_law_script"] sp := by
  obtain ⟨K, KX, s⟩ := Y
  obtain ⟨T, ef, hb, c1, c2⟩ := txt_of KX G s
  obtain ⟨l, e1, e2, e3, e4⟩ := lx_of s T c1 c2
  have efa : fa = T.d_law.f := by
    have := T.d_law.M
    rw [hmg] at this
    injection this with this
    injection this
  subst efa
  refine ⟨K, T.d_law.fd, [He.cT K ("first_failing", none), He.cT K ("_law_is_right", none)], spLaw l, KX, fun p hp => ?_, fun p hp => ?_, fun p hp => ?_, hb, fun H a ns hl _ hH hS => ?_, fun base KB GB hTB => ?_⟩
  · rcases List.mem_cons.mp hp with rfl | hp
    · exact s.empty _ List.mem_cons_self
    · rw [List.mem_singleton.mp hp]
      exact s.empty _ (List.mem_cons_of_mem _ List.mem_cons_self)
  · rcases List.mem_cons.mp hp with rfl | hp
    · exact s.out _ List.mem_cons_self
    · rw [List.mem_singleton.mp hp]
      exact s.out _ (List.mem_cons_of_mem _ List.mem_cons_self)
  · rcases List.mem_cons.mp hp with rfl | hp
    · exact PySem.W.codeHd_of_K KX (s.hd _ List.mem_cons_self)
    · rw [List.mem_singleton.mp hp]
      exact PySem.W.codeHd_of_K KX (s.hd _ (List.mem_cons_of_mem _ List.mem_cons_self))
  · refine ⟨a, ns, rfl, hS, hl, fun z hz => ?_, fun _ => rfl⟩
    rcases List.mem_cons.mp hz with rfl | hz
    · exact LamX.TabS.nil (by show H l.pF = _; rw [e2]; exact hH _ List.mem_cons_self)
    · rw [List.mem_singleton.mp hz]
      exact LamX.TabS.nil (by show H l.pR = _; rw [e4]; exact hH _ (List.mem_cons_of_mem _ List.mem_cons_self))
  · have TB : LamX.TabB base mg l.cF l.pF := by
      rw [e1, e2]
      exact hTB _ List.mem_cons_self
    have TBR : LamX.TabB base mg l.cR l.pR := by
      rw [e3, e4]
      exact hTB _ (List.mem_cons_of_mem _ List.mem_cons_self)
    exact ok_law T l TB TBR
end Gs
open PySem PySem.W PySem.Calls PyProof.Rows
theorem PySem.Challenge.cw_groupsteps_k41_whole_least_and_greatest_holds : PySem.Challenge.rw_groupsteps_k41_whole_least_and_greatest.Holds := by
  w_on; o_law
  refine HandSHeadRun.head_any (r := Gs.R) (q := view Gs.R.prog [90]) (H := Gs.hk) (ob := Gs.ob) (M := 9000) (loose := Gs.looseN) (d := HandSHeadRun.topDef Gs.R.prog 90) (kwd := []) Gs.ob_eq
    (by kernel_rfl) (fun s => by kernel_rfl) Gs.run (by kernel_rfl) (by kernel_rfl) (by kernel_rfl) (by rfl) (by first | assumption | decide +kernel) (by decide +kernel) ⟨rfl, rfl, rfl, rfl, rfl, by decide +kernel⟩ ?hw ?hc
  case hw => w_witness2
  case hc =>
    refine Gs.walkG (l := PySem.Challenge.rw_groupsteps_k41_whole_least_and_greatest) (n := 63) (k := 16) (x := "_law_script") rfl (by decide) (by kernel_rfl) ⟨rfl, by decide, by decide⟩ ?F
    intro w mg fa h Y G hmg0
    have e : (HandSHeadRun.topDef Gs.R.prog 90).name = ("law" : PySem.Str) := by kernel_rfl
    exact Gs.fin Y G ((congrArg mg e).symm.trans hmg0)
