import PyProof.Rows.All
import Wide.All
import OpenK.AllK
import Wide.FinOn
import HandS.ForMost
import HandS.HeadHook1
import HandS.HeadHook2
import HandS.HeadHook3
import HandS.HeadHook4
import HandS.Defaults
import KE.KExcInit
import KE.KStateDown
import Lean
import HandS.Head0
import HandS.Head1
import HandS.Head2
import HandS.HeadEnd
import HandS.HeadWalk
import HandS.AnyAll
import HandS.Deep
import HandS.FStr
import HandS.DictTup
import KE.Datum
import HandS.Ends
import KE.KIntText
import PyProof.DictCompW
import PyProof.DictMoreH
import HandS.DictComp
import KE.SortData
import KE.KDictSum
import HandS.Conv
import HandS.Iter
import HandS.Walk
import HandS.TupLen
import HandS.Steps
import KE.GoesMore
import KE.KDictKeyed
import HandS.DictEq
import KE.DatumOrd
import HandS.SortKw
import HandS.List
import HandS.More
import KE.KSuper
import KE.KExcSuper
import HandS.Exc
import HandS.ExcInit
import HandS.ExcSuper
import HandS.ExcOwn
import HandS.IsInst
import HandS.ExcField
import PySem.Challenge.RW_authsync_k83_whole_caches_are_true
set_option Elab.async false
set_option linter.all false
set_option maxRecDepth 100000
set_option maxHeartbeats 4000000
/-! the text by places -/
namespace K83
open PySem L2
def top (i : Nat) : Stmt := PySem.Challenge.pw_authsync_k83_whole_caches_are_true.main.body.getD i (.Pass ⟨0, 0, 0, 0⟩)
abbrev s_Refused_init : Stmt := inClass (top 4) 0
abbrev s_is_sign : Stmt := top 8
abbrev s_is_word : Stmt := top 9
abbrev s_is_identifier : Stmt := top 10
abbrev s_type_of : Stmt := top 11
abbrev s_split_reference : Stmt := top 12
abbrev s_token_of : Stmt := top 13
abbrev s_split_token : Stmt := top 14
abbrev s_Cache_init : Stmt := inClass (top 16) 0
abbrev s_Cache_revision : Stmt := inClass (top 16) 2
abbrev s_Cache_questions : Stmt := inClass (top 16) 4
abbrev s_Cache_number_of : Stmt := inClass (top 16) 5
abbrev s_Cache_use : Stmt := inClass (top 16) 6
abbrev s_Cache_store : Stmt := inClass (top 16) 7
abbrev s_Cache_apply : Stmt := inClass (top 16) 8
abbrev s_Cache_lookup : Stmt := inClass (top 16) 9
abbrev s_Cache_check : Stmt := inClass (top 16) 10
abbrev s_difference : Stmt := top 18
abbrev s_applies : Stmt := top 19
abbrev s_apply_change : Stmt := top 20
abbrev s_Line_init : Stmt := inClass (top 27) 0
abbrev s_Line_next_part : Stmt := inClass (top 27) 2
abbrev s_Line_take : Stmt := inClass (top 27) 3
abbrev s_Line_expect : Stmt := inClass (top 27) 4
abbrev s_Line_name : Stmt := inClass (top 27) 5
abbrev s_Line_accepts : Stmt := inClass (top 27) 6
abbrev s_Line_finish : Stmt := inClass (top 27) 7
abbrev s_parts_of_line : Stmt := top 28
abbrev s_read_subject : Stmt := top 29
abbrev s_read_relation : Stmt := top 30
abbrev s_read_term : Stmt := top 31
abbrev s_read_permission : Stmt := top 32
abbrev s_read_line : Stmt := top 33
abbrev s_check_duplicates : Stmt := top 34
abbrev s_entry_of : Stmt := top 35
abbrev s_definition : Stmt := top 36
abbrev s_led_types : Stmt := top 37
abbrev s_is_known : Stmt := top 38
abbrev s_needs_of : Stmt := top 39
abbrev s_strata : Stmt := top 40
abbrev s_read_schema : Stmt := top 41
abbrev s_conforms : Stmt := top 43
abbrev s_check_relationships : Stmt := top 44
abbrev s_Graph_init : Stmt := inClass (top 46) 0
abbrev s_Graph_subjects_of : Stmt := inClass (top 46) 1
abbrev s_Graph_stratum_of : Stmt := inClass (top 46) 2
abbrev s_Graph_pairs_of : Stmt := inClass (top 46) 3
abbrev s_Graph_depends_on : Stmt := inClass (top 46) 4
abbrev s_count_of : Stmt := top 47
abbrev s_least : Stmt := top 48
abbrev s_both : Stmt := top 49
abbrev s_rule_count : Stmt := top 50
abbrev s_names_by_stratum : Stmt := top 51
abbrev s_ranks_for : Stmt := top 52
abbrev s_ranked : Stmt := top 53
abbrev s_evaluate : Stmt := top 54
abbrev s_Revision_init : Stmt := inClass (top 58) 0
abbrev s_Primary_init : Stmt := inClass (top 59) 0
abbrev s_Primary_revision : Stmt := inClass (top 59) 2
abbrev s_Primary_token : Stmt := inClass (top 59) 4
abbrev s_Primary_check_room : Stmt := inClass (top 59) 5
abbrev s_Primary_check_update : Stmt := inClass (top 59) 6
abbrev s_Primary_after_updates : Stmt := inClass (top 59) 7
abbrev s_Primary_write : Stmt := inClass (top 59) 9
abbrev s_Primary_number_at : Stmt := inClass (top 59) 13
abbrev s_Primary_check_revision : Stmt := inClass (top 59) 14
abbrev s_Primary_at_number : Stmt := inClass (top 59) 15
abbrev s_Primary_relationships : Stmt := inClass (top 59) 16
abbrev s_Primary_grants : Stmt := inClass (top 59) 18
abbrev s_Primary_snapshot : Stmt := inClass (top 59) 19
abbrev s_Primary_entry : Stmt := inClass (top 59) 21
abbrev s_Replica_init : Stmt := inClass (top 63) 0
abbrev s_Replica_store_id : Stmt := inClass (top 63) 1
abbrev s_Replica_revision : Stmt := inClass (top 63) 2
abbrev s_Replica_fits : Stmt := inClass (top 63) 3
abbrev s_Replica_check_entry : Stmt := inClass (top 63) 4
abbrev s_Replica_receive : Stmt := inClass (top 63) 5
abbrev s_Replica_take_waiting : Stmt := inClass (top 63) 6
abbrev s_Replica_check : Stmt := inClass (top 63) 9
abbrev s_law_cell : Stmt := top 65
abbrev s_law_draws : Stmt := top 66
abbrev s_law_store : Stmt := top 67
abbrev s_law_question : Stmt := top 68
abbrev s_law_number : Stmt := top 70
abbrev s_law_is_true : Stmt := top 71
abbrev s_law_checked : Stmt := top 72
abbrev s_law_known : Stmt := top 73
abbrev s_law_applied : Stmt := top 74
abbrev s_law : Stmt := top 75
/-! the data of each def, for the head's facts -/
def d_is_sign : He.DefD := ⟨("is_sign", none), "is_sign", "is_sign", defArgs s_is_sign, defBody s_is_sign, defScope s_is_sign, [], []⟩
def d_is_word : He.DefD := ⟨("is_word", none), "is_word", "is_word", defArgs s_is_word, defBody s_is_word, defScope s_is_word, [], []⟩
def d_is_identifier : He.DefD := ⟨("is_identifier", none), "is_identifier", "is_identifier", defArgs s_is_identifier, defBody s_is_identifier, defScope s_is_identifier, [], []⟩
def d_type_of : He.DefD := ⟨("type_of", none), "type_of", "type_of", defArgs s_type_of, defBody s_type_of, defScope s_type_of, [], []⟩
def d_split_reference : He.DefD := ⟨("split_reference", none), "split_reference", "split_reference", defArgs s_split_reference, defBody s_split_reference, defScope s_split_reference, [], []⟩
def d_token_of : He.DefD := ⟨("token_of", none), "token_of", "token_of", defArgs s_token_of, defBody s_token_of, defScope s_token_of, [], []⟩
def d_split_token : He.DefD := ⟨("split_token", none), "split_token", "split_token", defArgs s_split_token, defBody s_split_token, defScope s_split_token, [], []⟩
def d_Cache_init : He.DefD := ⟨("Cache", some "__init__"), "__init__", "Cache.__init__", defArgs s_Cache_init, defBody s_Cache_init, defScope s_Cache_init, [], []⟩
def d_Cache_revision : He.DefD := ⟨("Cache", some "revision"), "revision", "Cache.revision", defArgs s_Cache_revision, defBody s_Cache_revision, defScope s_Cache_revision, [], []⟩
def d_Cache_questions : He.DefD := ⟨("Cache", some "questions"), "questions", "Cache.questions", defArgs s_Cache_questions, defBody s_Cache_questions, defScope s_Cache_questions, [], []⟩
def d_Cache_number_of : He.DefD := ⟨("Cache", some "number_of"), "number_of", "Cache.number_of", defArgs s_Cache_number_of, defBody s_Cache_number_of, defScope s_Cache_number_of, [], []⟩
def d_Cache_use : He.DefD := ⟨("Cache", some "use"), "use", "Cache.use", defArgs s_Cache_use, defBody s_Cache_use, defScope s_Cache_use, [], []⟩
def d_Cache_store : He.DefD := ⟨("Cache", some "store"), "store", "Cache.store", defArgs s_Cache_store, defBody s_Cache_store, defScope s_Cache_store, [], []⟩
def d_Cache_apply : He.DefD := ⟨("Cache", some "apply"), "apply", "Cache.apply", defArgs s_Cache_apply, defBody s_Cache_apply, defScope s_Cache_apply, [], []⟩
def d_Cache_lookup : He.DefD := ⟨("Cache", some "lookup"), "lookup", "Cache.lookup", defArgs s_Cache_lookup, defBody s_Cache_lookup, defScope s_Cache_lookup, [], []⟩
def d_Cache_check : He.DefD := ⟨("Cache", some "check"), "check", "Cache.check", defArgs s_Cache_check, defBody s_Cache_check, defScope s_Cache_check, [], []⟩
def d_difference : He.DefD := ⟨("difference", none), "difference", "difference", defArgs s_difference, defBody s_difference, defScope s_difference, [], []⟩
def d_applies : He.DefD := ⟨("applies", none), "applies", "applies", defArgs s_applies, defBody s_applies, defScope s_applies, [], []⟩
def d_apply_change : He.DefD := ⟨("apply_change", none), "apply_change", "apply_change", defArgs s_apply_change, defBody s_apply_change, defScope s_apply_change, [], []⟩
def d_Line_init : He.DefD := ⟨("Line", some "__init__"), "__init__", "Line.__init__", defArgs s_Line_init, defBody s_Line_init, defScope s_Line_init, [], []⟩
def d_Line_next_part : He.DefD := ⟨("Line", some "next_part"), "next_part", "Line.next_part", defArgs s_Line_next_part, defBody s_Line_next_part, defScope s_Line_next_part, [], []⟩
def d_Line_take : He.DefD := ⟨("Line", some "take"), "take", "Line.take", defArgs s_Line_take, defBody s_Line_take, defScope s_Line_take, [], []⟩
def d_Line_expect : He.DefD := ⟨("Line", some "expect"), "expect", "Line.expect", defArgs s_Line_expect, defBody s_Line_expect, defScope s_Line_expect, [], []⟩
def d_Line_name : He.DefD := ⟨("Line", some "name"), "name", "Line.name", defArgs s_Line_name, defBody s_Line_name, defScope s_Line_name, [], []⟩
def d_Line_accepts : He.DefD := ⟨("Line", some "accepts"), "accepts", "Line.accepts", defArgs s_Line_accepts, defBody s_Line_accepts, defScope s_Line_accepts, [], []⟩
def d_Line_finish : He.DefD := ⟨("Line", some "finish"), "finish", "Line.finish", defArgs s_Line_finish, defBody s_Line_finish, defScope s_Line_finish, [], []⟩
def d_parts_of_line : He.DefD := ⟨("parts_of_line", none), "parts_of_line", "parts_of_line", defArgs s_parts_of_line, defBody s_parts_of_line, defScope s_parts_of_line, [], []⟩
def d_read_subject : He.DefD := ⟨("read_subject", none), "read_subject", "read_subject", defArgs s_read_subject, defBody s_read_subject, defScope s_read_subject, [], []⟩
def d_read_relation : He.DefD := ⟨("read_relation", none), "read_relation", "read_relation", defArgs s_read_relation, defBody s_read_relation, defScope s_read_relation, [], []⟩
def d_read_term : He.DefD := ⟨("read_term", none), "read_term", "read_term", defArgs s_read_term, defBody s_read_term, defScope s_read_term, [], []⟩
def d_read_permission : He.DefD := ⟨("read_permission", none), "read_permission", "read_permission", defArgs s_read_permission, defBody s_read_permission, defScope s_read_permission, [], []⟩
def d_read_line : He.DefD := ⟨("read_line", none), "read_line", "read_line", defArgs s_read_line, defBody s_read_line, defScope s_read_line, [], []⟩
def d_check_duplicates : He.DefD := ⟨("check_duplicates", none), "check_duplicates", "check_duplicates", defArgs s_check_duplicates, defBody s_check_duplicates, defScope s_check_duplicates, [], []⟩
def d_entry_of : He.DefD := ⟨("entry_of", none), "entry_of", "entry_of", defArgs s_entry_of, defBody s_entry_of, defScope s_entry_of, [], []⟩
def d_definition : He.DefD := ⟨("definition", none), "definition", "definition", defArgs s_definition, defBody s_definition, defScope s_definition, [], []⟩
def d_led_types : He.DefD := ⟨("led_types", none), "led_types", "led_types", defArgs s_led_types, defBody s_led_types, defScope s_led_types, [], []⟩
def d_is_known : He.DefD := ⟨("is_known", none), "is_known", "is_known", defArgs s_is_known, defBody s_is_known, defScope s_is_known, [], []⟩
def d_needs_of : He.DefD := ⟨("needs_of", none), "needs_of", "needs_of", defArgs s_needs_of, defBody s_needs_of, defScope s_needs_of, [], []⟩
def d_strata : He.DefD := ⟨("strata", none), "strata", "strata", defArgs s_strata, defBody s_strata, defScope s_strata, [], []⟩
def d_read_schema : He.DefD := ⟨("read_schema", none), "read_schema", "read_schema", defArgs s_read_schema, defBody s_read_schema, defScope s_read_schema, [], []⟩
def d_conforms : He.DefD := ⟨("conforms", none), "conforms", "conforms", defArgs s_conforms, defBody s_conforms, defScope s_conforms, [], []⟩
def d_check_relationships : He.DefD := ⟨("check_relationships", none), "check_relationships", "check_relationships", defArgs s_check_relationships, defBody s_check_relationships, defScope s_check_relationships, [], []⟩
def d_Graph_init : He.DefD := ⟨("Graph", some "__init__"), "__init__", "Graph.__init__", defArgs s_Graph_init, defBody s_Graph_init, defScope s_Graph_init, [], []⟩
def d_Graph_subjects_of : He.DefD := ⟨("Graph", some "subjects_of"), "subjects_of", "Graph.subjects_of", defArgs s_Graph_subjects_of, defBody s_Graph_subjects_of, defScope s_Graph_subjects_of, [], []⟩
def d_Graph_stratum_of : He.DefD := ⟨("Graph", some "stratum_of"), "stratum_of", "Graph.stratum_of", defArgs s_Graph_stratum_of, defBody s_Graph_stratum_of, defScope s_Graph_stratum_of, [], []⟩
def d_Graph_pairs_of : He.DefD := ⟨("Graph", some "pairs_of"), "pairs_of", "Graph.pairs_of", defArgs s_Graph_pairs_of, defBody s_Graph_pairs_of, defScope s_Graph_pairs_of, [], []⟩
def d_Graph_depends_on : He.DefD := ⟨("Graph", some "depends_on"), "depends_on", "Graph.depends_on", defArgs s_Graph_depends_on, defBody s_Graph_depends_on, defScope s_Graph_depends_on, [], []⟩
def d_count_of : He.DefD := ⟨("count_of", none), "count_of", "count_of", defArgs s_count_of, defBody s_count_of, defScope s_count_of, [], []⟩
def d_least : He.DefD := ⟨("least", none), "least", "least", defArgs s_least, defBody s_least, defScope s_least, [], []⟩
def d_both : He.DefD := ⟨("both", none), "both", "both", defArgs s_both, defBody s_both, defScope s_both, [], []⟩
def d_rule_count : He.DefD := ⟨("rule_count", none), "rule_count", "rule_count", defArgs s_rule_count, defBody s_rule_count, defScope s_rule_count, [], []⟩
def d_names_by_stratum : He.DefD := ⟨("names_by_stratum", none), "names_by_stratum", "names_by_stratum", defArgs s_names_by_stratum, defBody s_names_by_stratum, defScope s_names_by_stratum, [], []⟩
def d_ranks_for : He.DefD := ⟨("ranks_for", none), "ranks_for", "ranks_for", defArgs s_ranks_for, defBody s_ranks_for, defScope s_ranks_for, [], []⟩
def d_ranked : He.DefD := ⟨("ranked", none), "ranked", "ranked", defArgs s_ranked, defBody s_ranked, defScope s_ranked, [], []⟩
def d_evaluate : He.DefD := ⟨("evaluate", none), "evaluate", "evaluate", defArgs s_evaluate, defBody s_evaluate, defScope s_evaluate, [], []⟩
def d_Revision_init : He.DefD := ⟨("Revision", some "__init__"), "__init__", "Revision.__init__", defArgs s_Revision_init, defBody s_Revision_init, defScope s_Revision_init, [], []⟩
def d_Primary_init : He.DefD := ⟨("Primary", some "__init__"), "__init__", "Primary.__init__", defArgs s_Primary_init, defBody s_Primary_init, defScope s_Primary_init, [.adr (He.dflAt ("Primary", some "__init__") 0)], []⟩
def d_Primary_revision : He.DefD := ⟨("Primary", some "revision"), "revision", "Primary.revision", defArgs s_Primary_revision, defBody s_Primary_revision, defScope s_Primary_revision, [], []⟩
def d_Primary_token : He.DefD := ⟨("Primary", some "token"), "token", "Primary.token", defArgs s_Primary_token, defBody s_Primary_token, defScope s_Primary_token, [], []⟩
def d_Primary_check_room : He.DefD := ⟨("Primary", some "check_room"), "check_room", "Primary.check_room", defArgs s_Primary_check_room, defBody s_Primary_check_room, defScope s_Primary_check_room, [], []⟩
def d_Primary_check_update : He.DefD := ⟨("Primary", some "check_update"), "check_update", "Primary.check_update", defArgs s_Primary_check_update, defBody s_Primary_check_update, defScope s_Primary_check_update, [], []⟩
def d_Primary_after_updates : He.DefD := ⟨("Primary", some "after_updates"), "after_updates", "Primary.after_updates", defArgs s_Primary_after_updates, defBody s_Primary_after_updates, defScope s_Primary_after_updates, [], []⟩
def d_Primary_write : He.DefD := ⟨("Primary", some "write"), "write", "Primary.write", defArgs s_Primary_write, defBody s_Primary_write, defScope s_Primary_write, [], []⟩
def d_Primary_number_at : He.DefD := ⟨("Primary", some "number_at"), "number_at", "Primary.number_at", defArgs s_Primary_number_at, defBody s_Primary_number_at, defScope s_Primary_number_at, [], []⟩
def d_Primary_check_revision : He.DefD := ⟨("Primary", some "check_revision"), "check_revision", "Primary.check_revision", defArgs s_Primary_check_revision, defBody s_Primary_check_revision, defScope s_Primary_check_revision, [], []⟩
def d_Primary_at_number : He.DefD := ⟨("Primary", some "at_number"), "at_number", "Primary.at_number", defArgs s_Primary_at_number, defBody s_Primary_at_number, defScope s_Primary_at_number, [], []⟩
def d_Primary_relationships : He.DefD := ⟨("Primary", some "relationships"), "relationships", "Primary.relationships", defArgs s_Primary_relationships, defBody s_Primary_relationships, defScope s_Primary_relationships, [], []⟩
def d_Primary_grants : He.DefD := ⟨("Primary", some "grants"), "grants", "Primary.grants", defArgs s_Primary_grants, defBody s_Primary_grants, defScope s_Primary_grants, [], []⟩
def d_Primary_snapshot : He.DefD := ⟨("Primary", some "snapshot"), "snapshot", "Primary.snapshot", defArgs s_Primary_snapshot, defBody s_Primary_snapshot, defScope s_Primary_snapshot, [], []⟩
def d_Primary_entry : He.DefD := ⟨("Primary", some "entry"), "entry", "Primary.entry", defArgs s_Primary_entry, defBody s_Primary_entry, defScope s_Primary_entry, [], []⟩
def d_Replica_init : He.DefD := ⟨("Replica", some "__init__"), "__init__", "Replica.__init__", defArgs s_Replica_init, defBody s_Replica_init, defScope s_Replica_init, [], []⟩
def d_Replica_store_id : He.DefD := ⟨("Replica", some "store_id"), "store_id", "Replica.store_id", defArgs s_Replica_store_id, defBody s_Replica_store_id, defScope s_Replica_store_id, [], []⟩
def d_Replica_revision : He.DefD := ⟨("Replica", some "revision"), "revision", "Replica.revision", defArgs s_Replica_revision, defBody s_Replica_revision, defScope s_Replica_revision, [], []⟩
def d_Replica_fits : He.DefD := ⟨("Replica", some "fits"), "fits", "Replica.fits", defArgs s_Replica_fits, defBody s_Replica_fits, defScope s_Replica_fits, [], []⟩
def d_Replica_check_entry : He.DefD := ⟨("Replica", some "check_entry"), "check_entry", "Replica.check_entry", defArgs s_Replica_check_entry, defBody s_Replica_check_entry, defScope s_Replica_check_entry, [], []⟩
def d_Replica_receive : He.DefD := ⟨("Replica", some "receive"), "receive", "Replica.receive", defArgs s_Replica_receive, defBody s_Replica_receive, defScope s_Replica_receive, [], []⟩
def d_Replica_take_waiting : He.DefD := ⟨("Replica", some "take_waiting"), "take_waiting", "Replica.take_waiting", defArgs s_Replica_take_waiting, defBody s_Replica_take_waiting, defScope s_Replica_take_waiting, [], []⟩
def d_Replica_check : He.DefD := ⟨("Replica", some "check"), "check", "Replica.check", defArgs s_Replica_check, defBody s_Replica_check, defScope s_Replica_check, [], []⟩
def d_law_cell : He.DefD := ⟨("_law_cell", none), "_law_cell", "_law_cell", defArgs s_law_cell, defBody s_law_cell, defScope s_law_cell, [], []⟩
def d_law_draws : He.DefD := ⟨("_law_draws", none), "_law_draws", "_law_draws", defArgs s_law_draws, defBody s_law_draws, defScope s_law_draws, [], []⟩
def d_law_store : He.DefD := ⟨("_law_store", none), "_law_store", "_law_store", defArgs s_law_store, defBody s_law_store, defScope s_law_store, [], []⟩
def d_law_question : He.DefD := ⟨("_law_question", none), "_law_question", "_law_question", defArgs s_law_question, defBody s_law_question, defScope s_law_question, [], []⟩
def d_law_number : He.DefD := ⟨("_law_number", none), "_law_number", "_law_number", defArgs s_law_number, defBody s_law_number, defScope s_law_number, [], []⟩
def d_law_is_true : He.DefD := ⟨("_law_is_true", none), "_law_is_true", "_law_is_true", defArgs s_law_is_true, defBody s_law_is_true, defScope s_law_is_true, [], []⟩
def d_law_checked : He.DefD := ⟨("_law_checked", none), "_law_checked", "_law_checked", defArgs s_law_checked, defBody s_law_checked, defScope s_law_checked, [], []⟩
def d_law_known : He.DefD := ⟨("_law_known", none), "_law_known", "_law_known", defArgs s_law_known, defBody s_law_known, defScope s_law_known, [], []⟩
def d_law_applied : He.DefD := ⟨("_law_applied", none), "_law_applied", "_law_applied", defArgs s_law_applied, defBody s_law_applied, defScope s_law_applied, [], []⟩
def d_law : He.DefD := ⟨("law", none), "law", "law", defArgs s_law, defBody s_law, defScope s_law, [], []⟩
def fn0 : List He.DefD := [d_is_sign, d_is_word, d_is_identifier, d_type_of, d_split_reference, d_token_of, d_split_token, d_Cache_init, d_Cache_revision, d_Cache_questions, d_Cache_number_of, d_Cache_use, d_Cache_store, d_Cache_apply, d_Cache_lookup, d_Cache_check, d_difference, d_applies, d_apply_change, d_Line_init, d_Line_next_part, d_Line_take, d_Line_expect, d_Line_name, d_Line_accepts, d_Line_finish, d_parts_of_line, d_read_subject, d_read_relation, d_read_term]
def fn1 : List He.DefD := [d_read_permission, d_read_line, d_check_duplicates, d_entry_of, d_definition, d_led_types, d_is_known, d_needs_of, d_strata, d_read_schema, d_conforms, d_check_relationships, d_Graph_init, d_Graph_subjects_of, d_Graph_stratum_of, d_Graph_pairs_of, d_Graph_depends_on, d_count_of, d_least, d_both, d_rule_count, d_names_by_stratum, d_ranks_for, d_ranked, d_evaluate, d_Revision_init, d_Primary_init, d_Primary_revision, d_Primary_token, d_Primary_check_room]
def fn2 : List He.DefD := [d_Primary_check_update, d_Primary_after_updates, d_Primary_write, d_Primary_number_at, d_Primary_check_revision, d_Primary_at_number, d_Primary_relationships, d_Primary_grants, d_Primary_snapshot, d_Primary_entry, d_Replica_init, d_Replica_store_id, d_Replica_revision, d_Replica_fits, d_Replica_check_entry, d_Replica_receive, d_Replica_take_waiting, d_Replica_check, d_law_cell, d_law_draws, d_law_store, d_law_question, d_law_number, d_law_is_true, d_law_checked, d_law_known, d_law_applied, d_law]
def fn : List He.DefD := fn0 ++ (fn1 ++ (fn2))
def fa0 : List He.Fa := [.glo "AuthError", .glo "Refused", .int "MOST" 20, .int "REVISION_MOST" 1000, .glo "is_sign", .glo "is_word", .glo "is_identifier", .glo "type_of", .glo "split_reference", .glo "token_of", .glo "split_token", .glo "Cache", .cls "Cache", .mkr "Cache", .noat "Cache" "own_id", .noat "Cache" "number", .noat "Cache" "capacity", .noat "Cache" "entries", .meth "Cache" "revision", .meth "Cache" "questions", .meth "Cache" "number_of", .meth "Cache" "use", .meth "Cache" "store", .meth "Cache" "apply", .meth "Cache" "lookup", .meth "Cache" "check", .glo "difference", .glo "applies", .glo "apply_change", .int "TYPES_MOST" 8]
def fa1 : List He.Fa := [.int "NAMES_MOST" 8, .int "SUBJECTS_MOST" 8, .int "TERMS_MOST" 16, .glo "Line", .cls "Line", .mkr "Line", .noat "Line" "number", .noat "Line" "parts", .noat "Line" "at", .meth "Line" "next_part", .meth "Line" "take", .meth "Line" "expect", .meth "Line" "name", .meth "Line" "accepts", .meth "Line" "finish", .glo "parts_of_line", .glo "read_subject", .glo "read_relation", .glo "read_term", .glo "read_permission", .glo "read_line", .glo "check_duplicates", .glo "entry_of", .glo "definition", .glo "led_types", .glo "is_known", .glo "needs_of", .glo "strata", .glo "read_schema", .glo "conforms"]
def fa2 : List He.Fa := [.glo "check_relationships", .glo "Graph", .cls "Graph", .mkr "Graph", .noat "Graph" "schema", .noat "Graph" "strata", .noat "Graph" "subjects", .noat "Graph" "objects", .noat "Graph" "people", .meth "Graph" "subjects_of", .meth "Graph" "stratum_of", .meth "Graph" "pairs_of", .meth "Graph" "depends_on", .glo "count_of", .glo "least", .glo "both", .glo "rule_count", .glo "names_by_stratum", .glo "ranks_for", .glo "ranked", .glo "evaluate", .int "MOST_REVISIONS" 40, .int "MOST_RELATIONSHIPS" 40, .glo "Revision", .cls "Revision", .mkr "Revision", .noat "Revision" "schema", .noat "Revision" "relationships", .noat "Revision" "table", .glo "Primary"]
def fa3 : List He.Fa := [.cls "Primary", .mkr "Primary", .noat "Primary" "name", .noat "Primary" "first", .noat "Primary" "revisions", .meth "Primary" "revision", .meth "Primary" "token", .meth "Primary" "check_room", .meth "Primary" "check_update", .meth "Primary" "after_updates", .meth "Primary" "write", .meth "Primary" "number_at", .meth "Primary" "check_revision", .meth "Primary" "at_number", .meth "Primary" "relationships", .meth "Primary" "grants", .meth "Primary" "snapshot", .meth "Primary" "entry", .int "MOST_GRANTS" 12800, .int "MOST_AHEAD" 40, .glo "Replica", .cls "Replica", .mkr "Replica", .noat "Replica" "name", .noat "Replica" "number", .noat "Replica" "table", .noat "Replica" "later", .meth "Replica" "store_id", .meth "Replica" "revision", .meth "Replica" "fits"]
def fa4 : List He.Fa := [.meth "Replica" "check_entry", .meth "Replica" "receive", .meth "Replica" "take_waiting", .meth "Replica" "check", .glo "_law_cell", .glo "_law_draws", .glo "_law_store", .glo "_law_question", .glo "_law_number", .glo "_law_is_true", .glo "_law_checked", .glo "_law_known", .glo "_law_applied", .glo "law", .free "all", .free "any", .free "bool", .free "enumerate", .free "int", .free "isinstance", .free "len", .free "list", .free "max", .free "min", .free "range", .free "sorted", .free "str", .free "super", .free "tuple", .exm "Refused" "Refused" true]
def fa : List He.Fa := fa0 ++ (fa1 ++ (fa2 ++ (fa3 ++ (fa4))))
def tf : List He.Defn := [("is_word", none), ("split_token", none), ("applies", none), ("check_duplicates", none), ("is_known", none)]
def loose0 : List PySem.Str := ["_wall", "AuthError", "BadSchema", "Refused", "MOST", "REVISION_MOST", "is_sign", "is_word", "is_identifier", "type_of", "split_reference", "token_of", "split_token", "Cache", "difference", "applies", "apply_change", "TYPES_MOST", "NAMES_MOST", "SUBJECTS_MOST", "TERMS_MOST", "OPERATORS", "Line", "parts_of_line", "read_subject", "read_relation", "read_term", "read_permission", "read_line", "check_duplicates"]
def loose1 : List PySem.Str := ["entry_of", "definition", "led_types", "is_known", "needs_of", "strata", "read_schema", "conforms", "check_relationships", "check_question", "Graph", "count_of", "least", "both", "rule_count", "names_by_stratum", "ranks_for", "ranked", "evaluate", "MOST_REVISIONS", "MOST_RELATIONSHIPS", "Revision", "Primary", "MOST_GRANTS", "MOST_AHEAD", "Replica", "_law_cell", "_law_draws", "_law_store", "_law_question"]
def loose2 : List PySem.Str := ["_law_at", "_law_number", "_law_is_true", "_law_checked", "_law_known", "_law_applied"]
def loose : List PySem.Str := loose0 ++ (loose1 ++ (loose2))
end K83
set_option maxHeartbeats 0
namespace K83
open PySem PySem.Spec PyProof.Rows L2
/-! a tuple of the written part at an address -/
def tupAtB (K : PySem.W.Frag) (a : Addr) (vs : List V) : Bool := match K.lookup a with
  | some ⟨.type c, _, .seq its _, _⟩ => decide (c = "tuple") && (decide (its.size ≤ sizeLine) && He.relAll vs its.toList)
  | _ => false
def refC (K : PySem.W.Frag) : Addr := He.ga K "Refused"
def autC (K : PySem.W.Frag) : Addr := He.ga K "AuthError"
def refI (K : PySem.W.Frag) : Addr := He.ma K (refC K) "__init__"
/-! the mro behind Refused -/
def tailC (K : PySem.W.Frag) : List Value := [.ref (autC K), .type "ValueError", .type "Exception", .type "BaseException", .type "object"]
def veTl : List Value := [.type "ValueError", .type "Exception", .type "BaseException", .type "object"]
def mroEq (K : PySem.W.Frag) : Bool := match PySem.W.clsIn K (refC K) with
  | some cd => decide (cd.mro = .ref (refC K) :: tailC K) && cd.hasDict
  | none => false
/-! what only Refused.__init__ has: a cell for super() -/
abbrev FnR : Type := Option (Str × Str × Arguments × FuncBody × Scope × Addr × List Str × Addr)
def fnR (K : PySem.W.Frag) : FnR := match K.lookup (refI K) with
  | some ⟨_, _, .func fd, _⟩ => some (fd.name, fd.qualname, fd.params, fd.body, fd.scope, fd.globals, fd.closure.map (·.1), fd.builtins)
  | _ => none
def valR : FnR := some ("__init__", "Refused.__init__", defArgs s_Refused_init, .stmts (defBody s_Refused_init), defScope s_Refused_init, mainGlobals, ["__class__"], builtinsNs)
def cellB (K : PySem.W.Frag) (l : List (Str × Addr)) : Bool := match l with
  | [(_, c)] => (match K.lookup c with
    | some ⟨_, _, .cell (some (.ref a)), _⟩ => decide (a = refC K)
    | _ => false)
  | _ => false
def fileB (K : PySem.W.Frag) (cd : Value) : Bool := match cd with
  | .ref c => (match K.lookup c with
    | some ⟨_, _, .fields vs, _⟩ => (match vs.getD 2 Value.none with
      | .str f _ => decide (("/claim/cut.py" : Str) = f)
      | _ => false)
    | _ => false)
  | _ => false
def noneB (v : Value) : Bool := match v with
  | .none => true
  | _ => false
def rfB (K : PySem.W.Frag) : Bool := match K.lookup (refI K) with
  | some ⟨_, _, .func fd, _⟩ => noneB fd.defaults && (noneB fd.kwdefaults && (PySem.W.codeIn K fd.code "Refused.__init__" && (cellB K fd.closure && fileB K fd.code)))
  | _ => false
/-! the further facts, one Bool -/
def exL (K : PySem.W.Frag) : List Bool := [
  He.tupB K "OPERATORS" [.str "|", .str "&", .str "-"],
  tupAtB K (He.dflAt ("Primary", some "__init__") 0 K) [],
  PySem.W.excInitIn K (refC K) veTl "ValueError.__new__",
  mroEq K,
  He.eqO (PySem.W.findIn K (.ref (refC K)) "__setattr__") (some (some (.builtin "object.__setattr__"))),
  He.eqO (PySem.W.findIn K (.ref (refC K)) "__getattribute__") (some (some (.builtin "BaseException.__getattribute__"))),
  He.eqO (PySem.W.findIn K (.ref (refC K)) "__getattr__") (some none),
  He.eqO (PySem.W.findIn K (.ref (refC K)) "what") (some none),
  He.eqO (PySem.W.findIn K (.ref (refC K)) "index") (some none),
  He.eqO (PySem.W.findIn K (.ref (refC K)) "__init__") (some (some (.ref (refI K)))),
  decide (PySem.W.typeIn K (.ref (refI K)) = some (.type "function")),
  PySem.W.keepIn K (.ref (refC K)),
  decide (PySem.W.subIn K (.ref (refC K)) (.type "BaseException") = some true),
  decide (PySem.W.typeIn K (.ref (refC K)) = some (.type "type")),
  PySem.W.hasDictIn K (refC K),
  He.eqO (PySem.W.alongIn K "__init__" (tailC K)) (some (some (.builtin "ValueError.__init__"))),
  decide (PySem.W.subIn K (.ref (refC K)) (.type "ValueError") = some true),
  decide (PySem.W.mroIn K (refC K) (.ref (refC K)) = some true),
  rfB K,
  He.eqO (PySem.W.nsIn K cStatics "thirdparty.any") (some none),
  He.eqO (PySem.W.nsIn K mainGlobals "OPERATORS") (some (some (.ref (He.ga K "OPERATORS"))))]
def ex (K : PySem.W.Frag) : Bool := (exL K).all id
/-! what is looked at: the module's names, the classes' own dicts, the functions, their code, cells and defaults -/
def refsC (o : Obj) : List Addr := match o.data with
  | .dict es _ => es.toList.flatMap fun e => He.refV e.val
  | .func fd => He.refV fd.code ++ (He.refV fd.defaults ++ fd.closure.map (·.2))
  | .cls cd => [cd.ns]
  | .seq its _ => its.toList.flatMap He.refV
  | _ => []
def nextC (g : Addr → Option Obj) (l : List Addr) : List Addr := l.flatMap fun a => match g a with
  | some o => refsC o
  | none => []
def asC (g : Addr → Option Obj) : List Addr :=
  let l1 := nextC g [mainGlobals]
  let l2 := nextC g l1
  let l3 := nextC g l2
  let l4 := nextC g l3
  let l5 := nextC g l4
  mainGlobals :: cStatics :: (l1 ++ (l2 ++ (l3 ++ (l4 ++ l5))))
/-! a list's spine is made ahead -/
def spine {A B : Type} : List A → (List A → B) → B
  | [], k => k []
  | a :: l, k => spine l fun r => k (a :: r)
theorem spine_eq {A B : Type} : ∀ (l : List A) (k : List A → B), spine l k = k l
  | [], _ => rfl
  | a :: l, k => spine_eq l fun r => k (a :: r)
def kOf (g : Addr → Option Obj) : PySem.W.Frag := He.frT g (asC g)
abbrev AlC : Type := He.AlX × FnR
def obsC (g : Addr → Option Obj) : AlC := spine (kOf g) fun K => ((He.obsT fa fn [] K, ex K && He.tabsB g tf K), fnR K)
structure SaysC (w : World) (h : Heap) (K : PySem.W.Frag) : Prop where
  x : He.SaysX fa fn [] tf ex w h K
  r : fnR K = valR
def hookC : PySem.W.Hook where
  α := AlC
  obs := fun s => obsC s.heap.get?
  val := fun w => (He.valX fn [] w, valR)
  says := fun w h => ∃ K : PySem.W.Frag, K.In h ∧ SaysC w h K
  of := fun w s e => by
    have e0 : obsC s.heap.get? = (He.valX fn [] w, valR) := e
    unfold obsC at e0
    rw [spine_eq] at e0
    have e1 : He.obsT fa fn [] (kOf s.heap.get?) = He.valT fn [] w := congrArg (fun z : AlC => z.1.1) e0
    have e2 : (ex (kOf s.heap.get?) && He.tabsB s.heap.get? tf (kOf s.heap.get?)) = true := congrArg (fun z : AlC => z.1.2) e0
    have e3 : fnR (kOf s.heap.get?) = valR := congrArg (fun z : AlC => z.2) e0
    have h1 := (Bool.and_eq_true_iff.mp e2).1
    have h2 := (Bool.and_eq_true_iff.mp e2).2
    have each : ∀ p ∈ tf, PySem.W.codeHdIn (kOf s.heap.get?) (He.cT (kOf s.heap.get?) p).1 (He.cT (kOf s.heap.get?) p).2 = true ∧ ∃ o, s.heap.get? (He.cT (kOf s.heap.get?) p).2 = some o ∧ He.emptyTab o = true := by
      intro p hp
      have z := Bool.and_eq_true_iff.mp (List.all_eq_true.mp h2 p hp)
      refine ⟨z.1, ?_⟩
      have z2 := z.2
      cases q : s.heap.get? (He.cT (kOf s.heap.get?) p).2 with
      | none => rw [q] at z2; cases z2
      | some o => rw [q] at z2; exact ⟨o, rfl, z2⟩
    refine ⟨kOf s.heap.get?, He.frT_in, ⟨e1, h1, fun p hp => (each p hp).1, ?_, ?_⟩, e3⟩
    · intro p hp
      obtain ⟨o, q, z⟩ := (each p hp).2
      exact He.frT_none q z
    · intro p hp
      obtain ⟨o, q, z⟩ := (each p hp).2
      rw [q, He.emptyTab_eq z]
  keeps := fun w h h' x k => by
    obtain ⟨K, hK, c⟩ := x
    exact ⟨K, PySem.W.Frag.In.keeps hK k, ⟨c.x.t, c.x.more, c.x.hd, c.x.out, fun p hp => k _ _ (c.x.empty p hp)⟩, c.r⟩
abbrev R : PySem.W.OpenRow := PySem.W.OpenLaw.row PySem.Challenge.rw_authsync_k83_whole_caches_are_true
def ob (s : PySem.W.SharedT) : AlC := obsC (HandSHeadRun.getT s)
theorem ob_eq (s : PySem.W.SharedT) : ob s = hookC.obs s.abs := by
  have e : HandSHeadRun.getT s = s.abs.heap.get? := funext (HandSHeadRun.getT_eq s)
  unfold ob
  rw [e]
  rfl
end K83
namespace K83
open PySem PySem.Spec PyProof.Rows L2
theorem run (w : World) : HandSHeadRun.RunEq R (PySem.W.view R.prog [75]) hookC ob 8000 loose w := by
  intro os
  kernel_rfl
end K83
set_option maxHeartbeats 4000000
namespace K83
open PySem PySem.Spec PyProof.Rows L2 GxR
/-! ### all(..), any(..) of a generator expression over a text, a list, a tuple: one name, or two -/
section
variable {X : Cx} {pins : List (Addr × Obj)} {σ : L2.St} {H : Hp} {s : Shared}
/-- how iter(xv) begins at s1, one name -/
def Src1 (P : Program) (w : World) (T : Addr) (s1 : Shared) (xv : Value) (n : Nat) (F : Nat → Value → Prop) : Prop :=
  ∀ (A : Around) (E : Value → Shared → Prop) (Q : Value → Shared → Prop),
    (∀ (o : Obj) (fp : List Addr) (St : Nat → Heap → Prop), (∀ A' : Around, A'.handled = none → Walks P w A' s1.heap.objs.size fp [s1.heap.objs.size] n F St) → St 0 (s1.heap.push o) →
      (∀ b ∈ fp, b ≠ T ∧ b < s1.heap.objs.size + 1) → Q (.ref s1.heap.objs.size) { s1 with heap := s1.heap.push o }) → wpAny (model P w) A (pyIter xv) Q E s1
/-- two names: each item a tuple of two -/
def Src2 (P : Program) (w : World) (T : Addr) (s1 : Shared) (xv : Value) (n : Nat) (F : Nat → Array Value → Prop) : Prop :=
  ∀ (A : Around) (E : Value → Shared → Prop) (Q : Value → Shared → Prop),
    (∀ (o : Obj) (fp : List Addr) (St : Nat → Heap → Prop) (Mid : Nat → Addr → Heap → Prop), (∀ A' : Around, A'.handled = none → WalksU P w A' s1.heap.objs.size fp [s1.heap.objs.size] n F St Mid) → St 0 (s1.heap.push o) →
      (∀ b ∈ fp, b ≠ T ∧ b < s1.heap.objs.size + 1) → (∀ i vals, F i vals → ∃ va vb, vals = #[va, vb]) → Q (.ref s1.heap.objs.size) { s1 with heap := s1.heap.push o }) → wpAny (model P w) A (pyIter xv) Q E s1
/-- the element, one name: at a state that keeps s1 but for the table -/
def El1 (X : Cx) (sc : Scope) (x : Str) (elt : Expr) (T : Addr) (s1 : Shared) (F : Nat → Value → Prop) (pb : Nat → Bool) : Prop :=
  ∀ (L : Addr) (code : Value) (bi : Addr) (A' : Around) (E' : Value → Shared → Prop) (i : Nat) (v : Value) (s2 : Shared) (m2 : Str → Option Value), A'.handled = none → A'.depth ≤ X.A.depth + 1 → A'.units ≤ X.A.units + 8 → F i v → s2.heap.Ns L m2 → m2 x = some v →
    (∀ b o, b ≠ T → s1.heap.get? b = some o → s2.heap.get? b = some o) → wpAny (model X.prog X.w) A' (eval elt (genEnv sc (cloFrom X.env.cells sc.names []) L code bi X.env)) (fun y s3 => y = .bool (pb i) ∧ Keeps s2 s3) E' s2
def El2 (X : Cx) (sc : Scope) (x y : Str) (elt : Expr) (T : Addr) (s1 : Shared) (F : Nat → Array Value → Prop) (pb : Nat → Bool) : Prop :=
  ∀ (L : Addr) (code : Value) (bi : Addr) (A' : Around) (E' : Value → Shared → Prop) (i : Nat) (va vb : Value) (s2 : Shared) (m2 : Str → Option Value), A'.handled = none → A'.depth ≤ X.A.depth + 1 → A'.units ≤ X.A.units + 8 → F i #[va, vb] → s2.heap.Ns L m2 → m2 x = some va → m2 y = some vb →
    (∀ b o, b ≠ T → s1.heap.get? b = some o → s2.heap.get? b = some o) → wpAny (model X.prog X.w) A' (eval elt (genEnv sc (cloFrom X.env.cells sc.names []) L code bi X.env)) (fun y s3 => y = .bool (pb i) ∧ Keeps s2 s3) E' s2
/-- the scope of a generator expression: the names of its target -/
structure GenSc (env : Env) (sc : Scope) (xs : List Str) : Prop where
  kind : sc.kind = .function
  co : sc.isCoroutine = false
  cell : ∀ y ∈ sc.names, y.2 ≠ .cell
  dot : sc.names.lookup (".0" : Str) = some NameKind.local
  loc : ∀ x ∈ xs, sc.names.lookup x = some .local
  free : ∀ y ∈ sc.names, y.2 = .free → ∃ c, env.cells.lookup y.1 = some c
/-- the generator g, ready to be walked -/
def Rdy (X : Cx) (pins : List (Addr × Obj)) (σ : L2.St) (H1 : Hp) (T : Addr) (n : Nat) (pb : Nat → Bool) (g : Addr) (s5 : Shared) : Prop :=
  ∃ (fp wr : List Addr) (G : Array GenState → Array GenState → Prop) (F : Nat → Value → Prop) (St : Nat → Shared → Prop),
    WalksS X.prog X.w X.A.in1 g fp wr G n F St ∧ St 0 s5 ∧ TruthOf X.prog X.w X.A.in1 F pb ∧ ∀ s', Moved wr G s5 s' → ∃ H2, Tabbed T H1 H2 ∧ Inv X pins σ H2 s'
/-- what is asked behind the iterator's making -/
theorem gen_mid {c T : Addr} {sc : Scope} {gpos : Pos} {H1 : Hp} {s1 : Shared} {o : Obj} {Z : Value → Addr → Shared → Prop} (TB : TabB X.base X.mg c T) (hcode : X.env.code = .ref c) (I1 : Inv X pins σ H1 s1) (hT : TabG H1 T)
    (hz : ∀ (code : Value) (bi : Addr) (h3 : Heap) (tk : Nat), (∀ b u, b ≠ T → (s1.heap.push o).get? b = some u → h3.get? b = some u) → s1.heap.objs.size < h3.objs.size → h3.NoLimit →
      (∀ (h' : Heap) (g' : Array GenState) (d' : Drawn) (t' : Nat), AllBare g' → (∀ b u, b < s1.heap.objs.size → h3.get? b = some u → h'.get? b = some u) → ∃ H2, Tabbed T H1 H2 ∧ Inv X pins σ H2 { s1 with heap := h', gens := g', drawn := d', toks := t' }) →
      Z code bi { s1 with heap := h3, toks := tk }) :
    (s1.heap.push o).NoLimit ∧ wpAny (model X.prog X.w) X.A (genexprCode X.env gpos (X.env.qual ++ "<genexpr>") sc) (fun code s3 => wpAny (model X.prog X.w) X.A (builtinsFor X.env.globals X.env.builtins) (fun bi s4 => Z code bi s4) X.xe s3) X.xe { s1 with heap := s1.heap.push o } := by
  obtain ⟨ps, hP, ht⟩ := hT
  have hPs : s1.heap.get? T = some { cls := .none, data := .fields ps } := I1.hok T _ hP
  have hPlt : T < s1.heap.objs.size := Heap.lt_size hPs
  have hP2 : (s1.heap.push o).get? T = some { cls := .none, data := .fields ps } := Heap.get?_push_of_some _ hPs
  have cd : PySem.W.CodeHd (s1.heap.push o) c T := TB.code.keeps fun b u e => Heap.get?_push_of_some _ (I1.bk b u e)
  have lim2 : (s1.heap.push o).NoLimit := I1.nolimit.push o
  have hcP : cStatics ≠ T := fun e => by
    obtain ⟨_, hns, _⟩ := I1.nolimit
    obtain ⟨o', es, ep, ho, hd, _⟩ := hns
    rw [e, hPs] at ho
    cases ho
    cases hd
  have go : ∀ (code : Value) (h3 : Heap) (tk : Nat) (ps' : Array Value), Heap.ExtBut T (s1.heap.push o) h3 → (s1.heap.push o).objs.size ≤ h3.objs.size → h3.get? T = some { cls := .none, data := .fields ps' } → (∃ more, ps' = ps ++ more) → TriplesOk ps'.toList →
      wpAny (model X.prog X.w) X.A (builtinsFor X.env.globals X.env.builtins) (fun bi s4 => Z code bi s4) X.xe { s1 with heap := h3, toks := tk } := by
    intro code h3 tk ps' hx hsz hP3 hmore ht3
    obtain ⟨bm, ob, e1, e2, e3, e4, e5, e6, e7, e8⟩ := TB.bm
    have sz2 : (s1.heap.push o).objs.size = s1.heap.objs.size + 1 := Heap.size_push ..
    have keep3 : ∀ b u, b ≠ T → s1.heap.get? b = some u → h3.get? b = some u := fun b u hb e => hx b u hb (Heap.get?_push_of_some _ e)
    refine wpAny_builtinsFor (m := X.mg) (by rw [I1.ok.glob]; exact ((I1.mod.glob.keeps I1.bk).push o).extBut hx TB.gP) e1 e2 (keep3 _ _ e4 (I1.bk _ _ e5)) e6 e7 e8 ?_
    refine hz code _ h3 tk (fun b u hb e => hx b u hb e) (by omega) (lim2.extBut hx hcP) fun h' g' d' t' hg' hk' => ?_
    obtain ⟨more, em⟩ := hmore
    refine ⟨upd H1 T (.tbl (ps ++ more)), ⟨⟨ps ++ more, upd_same, by rw [← em]; exact ht3⟩, fun b hb => upd_ne hb⟩, ?_⟩
    exact inv_tab (more := more) I1 hP (fun b u hb e => hk' b u (Heap.lt_size e) (keep3 b u hb e)) (by rw [← em]; exact hk' T _ hPlt hP3) hg'
  refine ⟨lim2, ?_⟩
  cases hf : codeAmong gpos ps.toList with
  | none =>
    refine wpAny_genexprCodeX hcode (cd.code hP2 ht) (cd.tab hP2) hf fun c' h' tk hx hge hlt hco' _ htab' _ => ?_
    obtain ⟨o1, vs, f1, tf, fl, tg, inF, tx, tt, op, _, _, _, _, _, _, _, _, _, htr, _⟩ := hco'
    exact go _ h' tk _ hx (Nat.le_trans hge (Nat.le_of_lt hlt)) htab'.2 ⟨_, rfl⟩ htr
  | some cv =>
    refine wpAny_genexprCode_hit hcode (cd.code hP2 ht) hf ?_
    exact go cv (s1.heap.push o) s1.toks ps (Heap.ExtBut.refl _ _) (Nat.le_refl _) hP2 ⟨#[], by simp⟩ ht
/-- behind the walk: all that was there stands -/
theorem gen_back {T : Addr} {h3 h5 : Heap} {H1 : Hp} {s1 : Shared} {tk5 : Nat} {gs : GenState} {s' : Shared} (I1 : Inv X pins σ H1 s1) (hgb : gs.bare = true) (hk5 : ∀ b u, h3.get? b = some u → h5.get? b = some u) (hlt : s1.heap.objs.size < h3.objs.size)
    (hinv : ∀ (h' : Heap) (g' : Array GenState) (d' : Drawn) (t' : Nat), AllBare g' → (∀ b u, b < s1.heap.objs.size → h3.get? b = some u → h'.get? b = some u) → ∃ H2, Tabbed T H1 H2 ∧ Inv X pins σ H2 { s1 with heap := h', gens := g', drawn := d', toks := t' })
    (hm : Moved (h3.objs.size :: [s1.heap.objs.size]) (GenOnlyQ s1.gens.size) { s1 with gens := s1.gens.push gs, toks := tk5, heap := h5 } s') : ∃ H2, Tabbed T H1 H2 ∧ Inv X pins σ H2 s' := by
  obtain ⟨H2, hT, J⟩ := hinv s'.heap s'.gens s'.drawn s'.toks (AllBare.movedS (I1.bare.push hgb) hm) fun b u hb e => hm.heap b u (fun hmem => by
    rcases List.mem_cons.mp hmem with z | z
    · rw [z] at hb
      exact absurd (Nat.lt_trans hb hlt) (Nat.lt_irrefl _)
    · rcases List.mem_cons.mp z with z | z
      · rw [z] at hb
        exact Nat.lt_irrefl _ hb
      · cases z) (hk5 b u e)
  rw [sh_eta s1 s' hm.os] at J
  exact ⟨H2, hT, J⟩
theorem truth_of_bool {A : Around} {n : Nat} {pb : Nat → Bool} : TruthOf X.prog X.w A (fun j y => ∃ i, (passing (fun _ => true) n 0)[j]? = some i ∧ y = .bool (pb i)) pb := by
  intro j y sj Qj Ej hy hQj
  obtain ⟨i, hij, rfl⟩ := hy
  rw [GxR.passing_true] at hij
  obtain ⟨hj, ej⟩ := List.getElem?_eq_some_iff.mp hij
  rw [List.getElem_range] at ej
  subst ej
  exact wpAny_truthy_bool hQj
theorem gen_one {c T : Addr} {elt iter : Expr} {x : Str} {px gpos : Pos} {sc : Scope} {te : TE} {k : Nat} {Q' : Value → Shared → Prop} {D : Type} {Cnd : V → Hp → D → Prop} {n : D → Nat} {F : Shared → Value → D → Nat → Value → Prop} {pb : D → Nat → Bool} {R : D → Hp → Prop}
    (hr : Room k X.A) (TB : TabB X.base X.mg c T) (hcode : X.env.code = .ref c) (S : GenSc X.env sc [x]) (hi : PE X iter te) (hs : ∀ v, genFold iter X.env v = pure v)
    (hsrc : ∀ H1 s1 v u d, Inv X pins σ H1 s1 → RelV v u → TabG H1 T → Cnd v H1 d → Src1 X.prog X.w T s1 u (n d) (F s1 u d)) (hel : ∀ H1 s1 v u d, Inv X pins σ H1 s1 → RelV v u → TabG H1 T → Cnd v H1 d → El1 X sc x elt T s1 (F s1 u d) (pb d))
    (I : Inv X pins σ H s) (h : te σ H fun v H1 => ∃ d, Cnd v H1 d ∧ TabG H1 T ∧ R d H1) (hQ : ∀ d H1 g s5, R d H1 → Rdy X pins σ H1 T (n d) (pb d) g s5 → Q' (.ref g) s5) :
    wpAny (model X.prog X.w) X.A (eval (.GeneratorExp elt [⟨.Name x px, iter, [], 0⟩] sc gpos) X.env) Q' X.xe s := by
  refine wpAny_GeneratorExp_walksQD hr.hd S.co (closure_ok S.free) S.cell S.dot (S.loc x (by simp)) S.kind (by have := hr.dp; omega) ?_ hs
  refine thn (hi.run pins s σ H _ I h) fun xv s1 ⟨v, H1, I1, r1, d, hc, hT, q1⟩ => ?_
  refine hsrc H1 s1 v xv d I1 r1 hT hc X.A _ _ fun o fp St W hst hfp => ?_
  refine gen_mid TB hcode I1 hT fun code bi h3 tk hk3 hlt lim hinv => ?_
  refine ⟨s1.heap.objs.size, fp, [s1.heap.objs.size], n d, F s1 xv d, St, (fun _ => true), (fun i y => y = .bool (pb d i)), rfl, W, ?_, ?_, lim, ?_, ?_, ?_⟩
  · exact (W X.A hr.hd).frame _ _ _ hst fun b hb u e => hk3 b u (hfp b hb).1 e
  · intro b hb
    exact Nat.lt_of_lt_of_le (hfp b hb).2 hlt
  · intro z
    rcases List.mem_cons.mp z with z | z
    · have hcl : cStatics < s1.heap.objs.size := let ⟨_, hns, _⟩ := I1.nolimit; hns.lt
      exact Nat.ne_of_lt hcl z
    · cases z
  · intro href hhref
    have kk : ∀ (s2 : Shared), (∀ b ∈ List.range h3.objs.size, b ∉ [s1.heap.objs.size] → ∀ o, href.get? b = some o → s2.heap.get? b = some o) → ∀ b o, b ≠ T → s1.heap.get? b = some o → s2.heap.get? b = some o := fun s2 hk b u hb e =>
      hk b (List.mem_range.mpr (Nat.lt_trans (Heap.lt_size e) hlt)) (fun z => by
        rcases List.mem_cons.mp z with z | z
        · rw [z] at e
          exact absurd (Heap.lt_size e) (Nat.lt_irrefl _)
        · cases z) u (hhref b u (hk3 b u hb (Heap.get?_push_of_some _ e)))
    refine ⟨fun A' E' i v s₂ m₂ hA hd hu hPv hn hm hk => ?_, fun A' E' i v s₂ m₂ hA hd hu hPv hp hn hm hk => ?_⟩
    · simp only [List.forIn_nil]
      exact wpAny_pure ⟨rfl, keeps_refl _⟩
    · exact hel H1 s1 _ xv d I1 r1 hT hc _ _ _ A' E' i v s₂ m₂ hA hd hu hPv hn hm (kk s₂ hk)
  · intro g h5 tk5 gs hgb hag hsz5 hk5 W5 hat
    have e0 : (passing (fun _ => true) (n d) 0).length = n d := by rw [GxR.passing_true, List.length_range]
    rw [e0] at W5
    exact hQ d H1 g _ q1 ⟨_, _, _, _, _, W5.in4_1, hat, truth_of_bool, fun s' hm => gen_back I1 hgb hk5 hlt hinv hm⟩
theorem gen_two {c T : Addr} {elt iter : Expr} {x y : Str} {px py pt gpos : Pos} {kt : Nat} {sc : Scope} {te : TE} {k : Nat} {Q' : Value → Shared → Prop} {D : Type} {Cnd : V → Hp → D → Prop} {n : D → Nat} {F : Shared → Value → D → Nat → Array Value → Prop} {pb : D → Nat → Bool} {R : D → Hp → Prop}
    (hr : Room k X.A) (TB : TabB X.base X.mg c T) (hcode : X.env.code = .ref c) (S : GenSc X.env sc [x, y]) (hxy : x ≠ y) (hi : PE X iter te) (hs : ∀ v, genFold iter X.env v = pure v)
    (hsrc : ∀ H1 s1 v u d, Inv X pins σ H1 s1 → RelV v u → TabG H1 T → Cnd v H1 d → Src2 X.prog X.w T s1 u (n d) (F s1 u d)) (hel : ∀ H1 s1 v u d, Inv X pins σ H1 s1 → RelV v u → TabG H1 T → Cnd v H1 d → El2 X sc x y elt T s1 (F s1 u d) (pb d))
    (I : Inv X pins σ H s) (h : te σ H fun v H1 => ∃ d, Cnd v H1 d ∧ TabG H1 T ∧ R d H1) (hQ : ∀ d H1 g s5, R d H1 → Rdy X pins σ H1 T (n d) (pb d) g s5 → Q' (.ref g) s5) :
    wpAny (model X.prog X.w) X.A (eval (.GeneratorExp elt [⟨.Tuple [.Name x px, .Name y py] kt pt, iter, [], 0⟩] sc gpos) X.env) Q' X.xe s := by
  refine wpAny_GeneratorExp_walksQTD hr.hd S.co (closure_ok S.free) S.cell S.dot (S.loc x (by simp)) (S.loc y (by simp)) hxy S.kind (by have := hr.dp; omega) ?_ hs
  refine thn (hi.run pins s σ H _ I h) fun xv s1 ⟨v, H1, I1, r1, d, hc, hT, q1⟩ => ?_
  refine hsrc H1 s1 v xv d I1 r1 hT hc X.A _ _ fun o fp St Mid W hst hfp h2 => ?_
  refine gen_mid TB hcode I1 hT fun code bi h3 tk hk3 hlt lim hinv => ?_
  refine ⟨s1.heap.objs.size, fp, [s1.heap.objs.size], n d, F s1 xv d, St, Mid, (fun _ => true), (fun i y => y = .bool (pb d i)), rfl, W, h2, ?_, ?_, lim, ?_, ?_, ?_⟩
  · exact (W X.A hr.hd).frame _ _ _ hst fun b hb u e => hk3 b u (hfp b hb).1 e
  · intro b hb
    exact Nat.lt_of_lt_of_le (hfp b hb).2 hlt
  · intro z
    rcases List.mem_cons.mp z with z | z
    · have hcl : cStatics < s1.heap.objs.size := let ⟨_, hns, _⟩ := I1.nolimit; hns.lt
      exact Nat.ne_of_lt hcl z
    · cases z
  · intro href hhref
    have kk : ∀ (s2 : Shared), (∀ b ∈ List.range h3.objs.size, b ∉ [s1.heap.objs.size] → ∀ o, href.get? b = some o → s2.heap.get? b = some o) → ∀ b o, b ≠ T → s1.heap.get? b = some o → s2.heap.get? b = some o := fun s2 hk b u hb e =>
      hk b (List.mem_range.mpr (Nat.lt_trans (Heap.lt_size e) hlt)) (fun z => by
        rcases List.mem_cons.mp z with z | z
        · rw [z] at e
          exact absurd (Heap.lt_size e) (Nat.lt_irrefl _)
        · cases z) u (hhref b u (hk3 b u hb (Heap.get?_push_of_some _ e)))
    refine ⟨fun A' E' i va vb s₂ m₂ hA hd hu hPv hn hm hm' hk => ?_, fun A' E' i va vb s₂ m₂ hA hd hu hPv hp hn hm hm' hk => ?_⟩
    · simp only [List.forIn_nil]
      exact wpAny_pure ⟨rfl, keeps_refl _⟩
    · exact hel H1 s1 _ xv d I1 r1 hT hc _ _ _ A' E' i va vb s₂ m₂ hA hd hu hPv hn hm hm' (kk s₂ hk)
  · intro g h5 tk5 gs hgb hag hsz5 hk5 W5 hat
    have e0 : (passing (fun _ => true) (n d) 0).length = n d := by rw [GxR.passing_true, List.length_range]
    rw [e0] at W5
    exact hQ d H1 g _ q1 ⟨_, _, _, _, _, W5.in4_1, hat, truth_of_bool, fun s' hm => gen_back I1 hgb hk5 hlt hinv hm⟩
/-- the readings: a source v that is told by d, n d items, pb d the tests -/
def tAllG {D : Type} (T : Addr) (Cnd : L2.St → V → Hp → D → Prop) (n : D → Nat) (pb : D → Nat → Bool) (te : TE) : TE := fun σ H Q => te σ H fun v H1 => ∃ d, Cnd σ v H1 d ∧ TabG H1 T ∧ ∀ H2, Tabbed T H1 H2 → Q (.bl ((List.range (n d)).all (pb d))) H2
def tAnyG {D : Type} (T : Addr) (Cnd : L2.St → V → Hp → D → Prop) (n : D → Nat) (pb : D → Nat → Bool) (te : TE) : TE := fun σ H Q => te σ H fun v H1 => ∃ d, Cnd σ v H1 d ∧ TabG H1 T ∧ ∀ H2, Tabbed T H1 H2 → Q (.bl ((List.range (n d)).any (pb d))) H2
theorem boot_all : bootBuiltins "all" = some (.builtin "all") := by decide +kernel
section
variable {c T : Addr} {elt iter : Expr} {x y : Str} {px py pt p pos gpos : Pos} {kt : Nat} {sc : Scope} {te : TE} {k : Nat} {D : Type} {Cnd : L2.St → V → Hp → D → Prop} {n : D → Nat} {pb : D → Nat → Bool}
theorem pe_allG1 {F : Shared → Value → D → Nat → Value → Prop} (hr : Room k X.A) (hg : Gl X "all") (hm : X.mg "all" = none) (TB : TabB X.base X.mg c T) (hcode : X.env.code = .ref c) (S : GenSc X.env sc [x]) (hi : PE X iter te) (hs : ∀ v, genFold iter X.env v = pure v)
    (hsrc : ∀ pins σ H1 s1 v u d, Inv X pins σ H1 s1 → RelV v u → TabG H1 T → Cnd σ v H1 d → Src1 X.prog X.w T s1 u (n d) (F s1 u d)) (hel : ∀ pins σ H1 s1 v u d, Inv X pins σ H1 s1 → RelV v u → TabG H1 T → Cnd σ v H1 d → El1 X sc x elt T s1 (F s1 u d) (pb d))
    (he : starEach [.GeneratorExp elt [⟨.Name x px, iter, [], 0⟩] sc gpos] X.env = (false, eval (.GeneratorExp elt [⟨.Name x px, iter, [], 0⟩] sc gpos) X.env) :: starEach [] X.env := by rfl) :
    PE X (.Call (.Name "all" p) [.GeneratorExp elt [⟨.Name x px, iter, [], 0⟩] sc gpos] [] pos) (tAllG T Cnd n pb te) := by
  refine ⟨fun pins s σ H Q I h => ?_⟩
  refine wpAny_Call_Name_kw (ld_blt I hg hm boot_all ?_)
  refine PyProof.Rows.callWith_builtin1 ?_ he (by rfl)
  rw [he]
  refine Calls.spliced_cons (gen_one (Cnd := Cnd σ) (R := fun d H1 => ∀ H2, Tabbed T H1 H2 → Q (.bl ((List.range (n d)).all (pb d))) H2) hr TB hcode S hi hs (fun H1 s1 v u d => hsrc pins σ H1 s1 v u d) (fun H1 s1 v u d => hel pins σ H1 s1 v u d) I h fun d H1 g s5 hR hG => ?_)
  obtain ⟨fp, wr, G, F, St, W, hst, htr, hI⟩ := hG
  refine Calls.spliced_nil (call_all_walkS (W.self 0 _ _ _ hst ⟨g, fp, wr, G, _, F, St, _, rfl, W, hst, htr, fun s' hmv => ?_⟩))
  obtain ⟨H2, hT, J⟩ := hI s' hmv
  exact ⟨.bl _, H2, J, rfl, hR H2 hT⟩
theorem pe_anyG1 {F : Shared → Value → D → Nat → Value → Prop} (hr : Room k X.A) (hg : Gl X "any") (hm : X.mg "any" = none) (TB : TabB X.base X.mg c T) (hcode : X.env.code = .ref c) (S : GenSc X.env sc [x]) (hi : PE X iter te) (hs : ∀ v, genFold iter X.env v = pure v)
    (hsrc : ∀ pins σ H1 s1 v u d, Inv X pins σ H1 s1 → RelV v u → TabG H1 T → Cnd σ v H1 d → Src1 X.prog X.w T s1 u (n d) (F s1 u d)) (hel : ∀ pins σ H1 s1 v u d, Inv X pins σ H1 s1 → RelV v u → TabG H1 T → Cnd σ v H1 d → El1 X sc x elt T s1 (F s1 u d) (pb d))
    (he : starEach [.GeneratorExp elt [⟨.Name x px, iter, [], 0⟩] sc gpos] X.env = (false, eval (.GeneratorExp elt [⟨.Name x px, iter, [], 0⟩] sc gpos) X.env) :: starEach [] X.env := by rfl) :
    PE X (.Call (.Name "any" p) [.GeneratorExp elt [⟨.Name x px, iter, [], 0⟩] sc gpos] [] pos) (tAnyG T Cnd n pb te) := by
  refine ⟨fun pins s σ H Q I h => ?_⟩
  refine wpAny_Call_Name_kw (ld_blt I hg hm boot_any ?_)
  refine PyProof.Rows.callWith_builtin1 ?_ he (by rfl)
  rw [he]
  refine Calls.spliced_cons (gen_one (Cnd := Cnd σ) (R := fun d H1 => ∀ H2, Tabbed T H1 H2 → Q (.bl ((List.range (n d)).any (pb d))) H2) hr TB hcode S hi hs (fun H1 s1 v u d => hsrc pins σ H1 s1 v u d) (fun H1 s1 v u d => hel pins σ H1 s1 v u d) I h fun d H1 g s5 hR hG => ?_)
  obtain ⟨fp, wr, G, F, St, W, hst, htr, hI⟩ := hG
  refine Calls.spliced_nil (call_any_walkS (W.self 0 _ _ _ hst ⟨g, fp, wr, G, _, F, St, _, rfl, W, hst, htr, fun s' hmv => ?_⟩))
  obtain ⟨H2, hT, J⟩ := hI s' hmv
  exact ⟨.bl _, H2, J, rfl, hR H2 hT⟩
theorem pe_allG2 {F : Shared → Value → D → Nat → Array Value → Prop} (hr : Room k X.A) (hg : Gl X "all") (hm : X.mg "all" = none) (TB : TabB X.base X.mg c T) (hcode : X.env.code = .ref c) (S : GenSc X.env sc [x, y]) (hxy : x ≠ y) (hi : PE X iter te) (hs : ∀ v, genFold iter X.env v = pure v)
    (hsrc : ∀ pins σ H1 s1 v u d, Inv X pins σ H1 s1 → RelV v u → TabG H1 T → Cnd σ v H1 d → Src2 X.prog X.w T s1 u (n d) (F s1 u d)) (hel : ∀ pins σ H1 s1 v u d, Inv X pins σ H1 s1 → RelV v u → TabG H1 T → Cnd σ v H1 d → El2 X sc x y elt T s1 (F s1 u d) (pb d))
    (he : starEach [.GeneratorExp elt [⟨.Tuple [.Name x px, .Name y py] kt pt, iter, [], 0⟩] sc gpos] X.env = (false, eval (.GeneratorExp elt [⟨.Tuple [.Name x px, .Name y py] kt pt, iter, [], 0⟩] sc gpos) X.env) :: starEach [] X.env := by rfl) :
    PE X (.Call (.Name "all" p) [.GeneratorExp elt [⟨.Tuple [.Name x px, .Name y py] kt pt, iter, [], 0⟩] sc gpos] [] pos) (tAllG T Cnd n pb te) := by
  refine ⟨fun pins s σ H Q I h => ?_⟩
  refine wpAny_Call_Name_kw (ld_blt I hg hm boot_all ?_)
  refine PyProof.Rows.callWith_builtin1 ?_ he (by rfl)
  rw [he]
  refine Calls.spliced_cons (gen_two (Cnd := Cnd σ) (R := fun d H1 => ∀ H2, Tabbed T H1 H2 → Q (.bl ((List.range (n d)).all (pb d))) H2) hr TB hcode S hxy hi hs (fun H1 s1 v u d => hsrc pins σ H1 s1 v u d) (fun H1 s1 v u d => hel pins σ H1 s1 v u d) I h fun d H1 g s5 hR hG => ?_)
  obtain ⟨fp, wr, G, F, St, W, hst, htr, hI⟩ := hG
  refine Calls.spliced_nil (call_all_walkS (W.self 0 _ _ _ hst ⟨g, fp, wr, G, _, F, St, _, rfl, W, hst, htr, fun s' hmv => ?_⟩))
  obtain ⟨H2, hT, J⟩ := hI s' hmv
  exact ⟨.bl _, H2, J, rfl, hR H2 hT⟩
end
end
/-! ### the sources -/
section
variable {X : Cx} {pins : List (Addr × Obj)} {σ : L2.St} {H : Hp} {s1 : Shared} {T : Addr}
theorem tab_at (I : Inv X pins σ H s1) (hT : TabG H T) : ∃ ps, s1.heap.get? T = some { cls := .none, data := .fields ps } := by
  obtain ⟨ps, hP, _⟩ := hT
  exact ⟨ps, I.hok T _ hP⟩
/-- a text, sign by sign -/
theorem src_text {z : Str} {u : Value} (I : Inv X pins σ H s1) (hT : TabG H T) (r : RelV (.str z) u) : Src1 X.prog X.w T s1 u z.cps.size (SignAt z) := by
  obtain ⟨t, rfl⟩ := r
  obtain ⟨ps, hP⟩ := tab_at I hT
  intro A E Q h
  refine wpAny_pyIter_str fun o St W hst => h o _ St W hst fun b hb => ?_
  have e : b = s1.heap.objs.size := by simpa using hb
  subst e
  exact ⟨Nat.ne_of_gt (Heap.lt_size hP), Nat.lt_succ_self _⟩
/-- a list -/
theorem src_list {l : Addr} {its : Array Value} (I : Inv X pins σ H s1) (hT : TabG H T) (hl : s1.heap.IsList l its) : Src1 X.prog X.w T s1 (.ref l) its.size (fun i v => its[i]? = some v) := by
  obtain ⟨ps, hP⟩ := tab_at I hT
  have hlt : l < s1.heap.objs.size := let ⟨_, e, _⟩ := id hl; Heap.lt_size e
  have hlT : l ≠ T := fun z => by
    obtain ⟨_, e, _, _, hd⟩ := id hl
    rw [z, hP] at e
    cases e
    cases hd
  intro A E Q h
  refine wpAny_pyIter_list hl ?_
  refine h _ [s1.heap.objs.size, l] (fun i h => h.IsListIter s1.heap.objs.size l i ∧ h.IsList l its) (fun A' hA => Walks.list hA _ _ (Nat.ne_of_lt hlt) _) ⟨⟨_, Heap.get?_push_size _ rfl, rfl, rfl⟩, hl.push _⟩ fun b hb => ?_
  rcases List.mem_cons.mp hb with e | e
  · subst e
    exact ⟨Nat.ne_of_gt (Heap.lt_size hP), Nat.lt_succ_self _⟩
  · have e : b = l := by simpa using e
    subst e
    exact ⟨hlT, Nat.lt_succ_of_lt hlt⟩
end
end K83
namespace K83
open PySem PySem.Spec PyProof.Rows L2 GxR
/-! what the top has left, by names -/
structure Wd (K : PySem.W.Frag) (mg : Str → Option Value) (base : Heap) : Prop where
  d : He.SaysD fa fn K
  e : ex K = true
  r : fnR K = valR
  kin : K.In base
  ns : base.Ns mainGlobals mg
  tb : ∀ p ∈ tf, TabB base mg (He.cT K p).1 (He.cT K p).2
def fdOf (K : PySem.W.Frag) (f : Addr) : FuncData := match K.lookup f with
  | some ⟨_, _, .func fd, _⟩ => fd
  | _ => PySem.W.fnOf "" "" ⟨[], [], none, [], [], none, []⟩ [] ⟨.function, [], false, false, []⟩ .none .none .none .none none .none .none
theorem fun_fd {K : PySem.W.Frag} {x qual : Str} {params : Arguments} {body : List Stmt} {scope : Scope} {dvs : List V} {kws : List (Str × V)} {f : Addr} (h : ∃ fd, FunD K x qual params body scope dvs kws f fd) : FunD K x qual params body scope dvs kws f (fdOf K f) := by
  obtain ⟨fd, F⟩ := h
  obtain ⟨oc, od, dV, kV, doc, pm, an, cdv, ct, osl, e, lk, r⟩ := F.ex
  have e2 : fdOf K f = fd := by
    unfold fdOf
    rw [lk]
  rw [e2]
  exact F
theorem pe_gint {X : Cx} {x : Str} {p : Pos} {i : Int} (hg : Gl X x) (h : ∃ t, X.mg x = some (.int i t)) (hd : (x == ("__debug__" : Str)) = false := by decide) : PE X (.Name x p) (tC (.int i)) := by
  obtain ⟨t, e⟩ := h
  exact pe_glob hg e ⟨t, rfl⟩ hd
section
variable {K : PySem.W.Frag} {mg : Str → Option Value} {base : Heap}
def A_is_sign (K : PySem.W.Frag) : Addr := He.fAd K ("is_sign", none)
def F_is_sign (K : PySem.W.Frag) : FuncData := fdOf K (A_is_sign K)
theorem Wd.fu_is_sign (W : Wd K mg base) : FunD K "is_sign" "is_sign" (defArgs s_is_sign) (defBody s_is_sign) (defScope s_is_sign) [] [] (A_is_sign K) (F_is_sign K) := fun_fd (W.d.def_ 0 (d := d_is_sign) rfl)
theorem Wd.bd_is_sign (W : Wd K mg base) : Binds K (F_is_sign K) ["sign"] [] := (W.fu_is_sign).bindsN fun _ _ _ _ _ _ us hl => match us, hl with | [_], _ => rfl
theorem sc_is_sign : FnScope ["sign"] ["sign"] (defScope s_is_sign) := ⟨rfl, rfl, rfl, by decide +kernel, rfl, by decide +kernel, by decide +kernel⟩
def A_is_word (K : PySem.W.Frag) : Addr := He.fAd K ("is_word", none)
def F_is_word (K : PySem.W.Frag) : FuncData := fdOf K (A_is_word K)
theorem Wd.fu_is_word (W : Wd K mg base) : FunD K "is_word" "is_word" (defArgs s_is_word) (defBody s_is_word) (defScope s_is_word) [] [] (A_is_word K) (F_is_word K) := fun_fd (W.d.def_ 1 (d := d_is_word) rfl)
theorem Wd.bd_is_word (W : Wd K mg base) : Binds K (F_is_word K) ["text"] [] := (W.fu_is_word).bindsN fun _ _ _ _ _ _ us hl => match us, hl with | [_], _ => rfl
theorem sc_is_word : FnScope ["text"] ["text"] (defScope s_is_word) := ⟨rfl, rfl, rfl, by decide +kernel, rfl, by decide +kernel, by decide +kernel⟩
def A_is_identifier (K : PySem.W.Frag) : Addr := He.fAd K ("is_identifier", none)
def F_is_identifier (K : PySem.W.Frag) : FuncData := fdOf K (A_is_identifier K)
theorem Wd.fu_is_identifier (W : Wd K mg base) : FunD K "is_identifier" "is_identifier" (defArgs s_is_identifier) (defBody s_is_identifier) (defScope s_is_identifier) [] [] (A_is_identifier K) (F_is_identifier K) := fun_fd (W.d.def_ 2 (d := d_is_identifier) rfl)
theorem Wd.bd_is_identifier (W : Wd K mg base) : Binds K (F_is_identifier K) ["text"] [] := (W.fu_is_identifier).bindsN fun _ _ _ _ _ _ us hl => match us, hl with | [_], _ => rfl
theorem sc_is_identifier : FnScope ["text"] ["text"] (defScope s_is_identifier) := ⟨rfl, rfl, rfl, by decide +kernel, rfl, by decide +kernel, by decide +kernel⟩
def A_type_of (K : PySem.W.Frag) : Addr := He.fAd K ("type_of", none)
def F_type_of (K : PySem.W.Frag) : FuncData := fdOf K (A_type_of K)
theorem Wd.fu_type_of (W : Wd K mg base) : FunD K "type_of" "type_of" (defArgs s_type_of) (defBody s_type_of) (defScope s_type_of) [] [] (A_type_of K) (F_type_of K) := fun_fd (W.d.def_ 3 (d := d_type_of) rfl)
theorem Wd.bd_type_of (W : Wd K mg base) : Binds K (F_type_of K) ["thing"] [] := (W.fu_type_of).bindsN fun _ _ _ _ _ _ us hl => match us, hl with | [_], _ => rfl
theorem sc_type_of : FnScope ["thing"] ["thing"] (defScope s_type_of) := ⟨rfl, rfl, rfl, by decide +kernel, rfl, by decide +kernel, by decide +kernel⟩
def A_split_reference (K : PySem.W.Frag) : Addr := He.fAd K ("split_reference", none)
def F_split_reference (K : PySem.W.Frag) : FuncData := fdOf K (A_split_reference K)
theorem Wd.fu_split_reference (W : Wd K mg base) : FunD K "split_reference" "split_reference" (defArgs s_split_reference) (defBody s_split_reference) (defScope s_split_reference) [] [] (A_split_reference K) (F_split_reference K) := fun_fd (W.d.def_ 4 (d := d_split_reference) rfl)
theorem Wd.bd_split_reference (W : Wd K mg base) : Binds K (F_split_reference K) ["reference"] [] := (W.fu_split_reference).bindsN fun _ _ _ _ _ _ us hl => match us, hl with | [_], _ => rfl
theorem sc_split_reference : FnScope ["reference", "thing", "sign", "name"] ["reference"] (defScope s_split_reference) := ⟨rfl, rfl, rfl, by decide +kernel, rfl, by decide +kernel, by decide +kernel⟩
def A_token_of (K : PySem.W.Frag) : Addr := He.fAd K ("token_of", none)
def F_token_of (K : PySem.W.Frag) : FuncData := fdOf K (A_token_of K)
theorem Wd.fu_token_of (W : Wd K mg base) : FunD K "token_of" "token_of" (defArgs s_token_of) (defBody s_token_of) (defScope s_token_of) [] [] (A_token_of K) (F_token_of K) := fun_fd (W.d.def_ 5 (d := d_token_of) rfl)
theorem Wd.bd_token_of (W : Wd K mg base) : Binds K (F_token_of K) ["store", "revision"] [] := (W.fu_token_of).bindsN fun _ _ _ _ _ _ us hl => match us, hl with | [_, _], _ => rfl
theorem sc_token_of : FnScope ["store", "revision"] ["store", "revision"] (defScope s_token_of) := ⟨rfl, rfl, rfl, by decide +kernel, rfl, by decide +kernel, by decide +kernel⟩
def A_split_token (K : PySem.W.Frag) : Addr := He.fAd K ("split_token", none)
def F_split_token (K : PySem.W.Frag) : FuncData := fdOf K (A_split_token K)
theorem Wd.fu_split_token (W : Wd K mg base) : FunD K "split_token" "split_token" (defArgs s_split_token) (defBody s_split_token) (defScope s_split_token) [] [] (A_split_token K) (F_split_token K) := fun_fd (W.d.def_ 6 (d := d_split_token) rfl)
theorem Wd.bd_split_token (W : Wd K mg base) : Binds K (F_split_token K) ["text"] [] := (W.fu_split_token).bindsN fun _ _ _ _ _ _ us hl => match us, hl with | [_], _ => rfl
theorem sc_split_token : FnScope ["text", "store", "sign", "digits"] ["text"] (defScope s_split_token) := ⟨rfl, rfl, rfl, by decide +kernel, rfl, by decide +kernel, by decide +kernel⟩
def A_Cache_init (K : PySem.W.Frag) : Addr := He.fAd K ("Cache", some "__init__")
def F_Cache_init (K : PySem.W.Frag) : FuncData := fdOf K (A_Cache_init K)
theorem Wd.fu_Cache_init (W : Wd K mg base) : FunD K "__init__" "Cache.__init__" (defArgs s_Cache_init) (defBody s_Cache_init) (defScope s_Cache_init) [] [] (A_Cache_init K) (F_Cache_init K) := fun_fd (W.d.def_ 7 (d := d_Cache_init) rfl)
theorem Wd.bd_Cache_init (W : Wd K mg base) : Binds K (F_Cache_init K) ["self", "store", "revision", "capacity"] [] := (W.fu_Cache_init).bindsN fun _ _ _ _ _ _ us hl => match us, hl with | [_, _, _, _], _ => rfl
theorem sc_Cache_init : FnScope ["self", "store", "revision", "capacity"] ["self", "store", "revision", "capacity"] (defScope s_Cache_init) := ⟨rfl, rfl, rfl, by decide +kernel, rfl, by decide +kernel, by decide +kernel⟩
def A_Cache_revision (K : PySem.W.Frag) : Addr := He.fAd K ("Cache", some "revision")
def F_Cache_revision (K : PySem.W.Frag) : FuncData := fdOf K (A_Cache_revision K)
theorem Wd.fu_Cache_revision (W : Wd K mg base) : FunD K "revision" "Cache.revision" (defArgs s_Cache_revision) (defBody s_Cache_revision) (defScope s_Cache_revision) [] [] (A_Cache_revision K) (F_Cache_revision K) := fun_fd (W.d.def_ 8 (d := d_Cache_revision) rfl)
theorem Wd.bd_Cache_revision (W : Wd K mg base) : Binds K (F_Cache_revision K) ["self"] [] := (W.fu_Cache_revision).bindsN fun _ _ _ _ _ _ us hl => match us, hl with | [_], _ => rfl
theorem sc_Cache_revision : FnScope ["self"] ["self"] (defScope s_Cache_revision) := ⟨rfl, rfl, rfl, by decide +kernel, rfl, by decide +kernel, by decide +kernel⟩
def A_Cache_questions (K : PySem.W.Frag) : Addr := He.fAd K ("Cache", some "questions")
def F_Cache_questions (K : PySem.W.Frag) : FuncData := fdOf K (A_Cache_questions K)
theorem Wd.fu_Cache_questions (W : Wd K mg base) : FunD K "questions" "Cache.questions" (defArgs s_Cache_questions) (defBody s_Cache_questions) (defScope s_Cache_questions) [] [] (A_Cache_questions K) (F_Cache_questions K) := fun_fd (W.d.def_ 9 (d := d_Cache_questions) rfl)
theorem Wd.bd_Cache_questions (W : Wd K mg base) : Binds K (F_Cache_questions K) ["self"] [] := (W.fu_Cache_questions).bindsN fun _ _ _ _ _ _ us hl => match us, hl with | [_], _ => rfl
theorem sc_Cache_questions : FnScope ["self"] ["self"] (defScope s_Cache_questions) := ⟨rfl, rfl, rfl, by decide +kernel, rfl, by decide +kernel, by decide +kernel⟩
def A_Cache_number_of (K : PySem.W.Frag) : Addr := He.fAd K ("Cache", some "number_of")
def F_Cache_number_of (K : PySem.W.Frag) : FuncData := fdOf K (A_Cache_number_of K)
theorem Wd.fu_Cache_number_of (W : Wd K mg base) : FunD K "number_of" "Cache.number_of" (defArgs s_Cache_number_of) (defBody s_Cache_number_of) (defScope s_Cache_number_of) [] [] (A_Cache_number_of K) (F_Cache_number_of K) := fun_fd (W.d.def_ 10 (d := d_Cache_number_of) rfl)
theorem Wd.bd_Cache_number_of (W : Wd K mg base) : Binds K (F_Cache_number_of K) ["self", "token"] [] := (W.fu_Cache_number_of).bindsN fun _ _ _ _ _ _ us hl => match us, hl with | [_, _], _ => rfl
theorem sc_Cache_number_of : FnScope ["self", "token", "store", "number"] ["self", "token"] (defScope s_Cache_number_of) := ⟨rfl, rfl, rfl, by decide +kernel, rfl, by decide +kernel, by decide +kernel⟩
def A_Cache_use (K : PySem.W.Frag) : Addr := He.fAd K ("Cache", some "use")
def F_Cache_use (K : PySem.W.Frag) : FuncData := fdOf K (A_Cache_use K)
theorem Wd.fu_Cache_use (W : Wd K mg base) : FunD K "use" "Cache.use" (defArgs s_Cache_use) (defBody s_Cache_use) (defScope s_Cache_use) [] [] (A_Cache_use K) (F_Cache_use K) := fun_fd (W.d.def_ 11 (d := d_Cache_use) rfl)
theorem Wd.bd_Cache_use (W : Wd K mg base) : Binds K (F_Cache_use K) ["self", "question", "entry"] [] := (W.fu_Cache_use).bindsN fun _ _ _ _ _ _ us hl => match us, hl with | [_, _, _], _ => rfl
theorem sc_Cache_use : FnScope ["self", "question", "entry"] ["self", "question", "entry"] (defScope s_Cache_use) := ⟨rfl, rfl, rfl, by decide +kernel, rfl, by decide +kernel, by decide +kernel⟩
def A_Cache_store (K : PySem.W.Frag) : Addr := He.fAd K ("Cache", some "store")
def F_Cache_store (K : PySem.W.Frag) : FuncData := fdOf K (A_Cache_store K)
theorem Wd.fu_Cache_store (W : Wd K mg base) : FunD K "store" "Cache.store" (defArgs s_Cache_store) (defBody s_Cache_store) (defScope s_Cache_store) [] [] (A_Cache_store K) (F_Cache_store K) := fun_fd (W.d.def_ 12 (d := d_Cache_store) rfl)
theorem Wd.bd_Cache_store (W : Wd K mg base) : Binds K (F_Cache_store K) ["self", "target", "name", "subject", "answer"] [] := (W.fu_Cache_store).bindsN fun _ _ _ _ _ _ us hl => match us, hl with | [_, _, _, _, _], _ => rfl
theorem sc_Cache_store : FnScope ["self", "target", "name", "subject", "answer", "question", "number", "known"] ["self", "target", "name", "subject", "answer"] (defScope s_Cache_store) := ⟨rfl, rfl, rfl, by decide +kernel, rfl, by decide +kernel, by decide +kernel⟩
def A_Cache_apply (K : PySem.W.Frag) : Addr := He.fAd K ("Cache", some "apply")
def F_Cache_apply (K : PySem.W.Frag) : FuncData := fdOf K (A_Cache_apply K)
theorem Wd.fu_Cache_apply (W : Wd K mg base) : FunD K "apply" "Cache.apply" (defArgs s_Cache_apply) (defBody s_Cache_apply) (defScope s_Cache_apply) [] [] (A_Cache_apply K) (F_Cache_apply K) := fun_fd (W.d.def_ 13 (d := d_Cache_apply) rfl)
theorem Wd.bd_Cache_apply (W : Wd K mg base) : Binds K (F_Cache_apply K) ["self", "entry"] [] := (W.fu_Cache_apply).bindsN fun _ _ _ _ _ _ us hl => match us, hl with | [_, _], _ => rfl
theorem sc_Cache_apply : FnScope ["self", "entry", "store", "number", "gained", "lost", "question", "allowed", "until"] ["self", "entry"] (defScope s_Cache_apply) := ⟨rfl, rfl, rfl, by decide +kernel, rfl, by decide +kernel, by decide +kernel⟩
def A_Cache_lookup (K : PySem.W.Frag) : Addr := He.fAd K ("Cache", some "lookup")
def F_Cache_lookup (K : PySem.W.Frag) : FuncData := fdOf K (A_Cache_lookup K)
theorem Wd.fu_Cache_lookup (W : Wd K mg base) : FunD K "lookup" "Cache.lookup" (defArgs s_Cache_lookup) (defBody s_Cache_lookup) (defScope s_Cache_lookup) [] [] (A_Cache_lookup K) (F_Cache_lookup K) := fun_fd (W.d.def_ 14 (d := d_Cache_lookup) rfl)
theorem Wd.bd_Cache_lookup (W : Wd K mg base) : Binds K (F_Cache_lookup K) ["self", "target", "name", "subject", "at_least"] [] := (W.fu_Cache_lookup).bindsN fun _ _ _ _ _ _ us hl => match us, hl with | [_, _, _, _, _], _ => rfl
theorem sc_Cache_lookup : FnScope ["self", "target", "name", "subject", "at_least", "least", "question", "known"] ["self", "target", "name", "subject", "at_least"] (defScope s_Cache_lookup) := ⟨rfl, rfl, rfl, by decide +kernel, rfl, by decide +kernel, by decide +kernel⟩
def A_Cache_check (K : PySem.W.Frag) : Addr := He.fAd K ("Cache", some "check")
def F_Cache_check (K : PySem.W.Frag) : FuncData := fdOf K (A_Cache_check K)
theorem Wd.fu_Cache_check (W : Wd K mg base) : FunD K "check" "Cache.check" (defArgs s_Cache_check) (defBody s_Cache_check) (defScope s_Cache_check) [] [] (A_Cache_check K) (F_Cache_check K) := fun_fd (W.d.def_ 15 (d := d_Cache_check) rfl)
theorem Wd.bd_Cache_check (W : Wd K mg base) : Binds K (F_Cache_check K) ["self", "replica", "target", "name", "subject", "at_least"] [] := (W.fu_Cache_check).bindsN fun _ _ _ _ _ _ us hl => match us, hl with | [_, _, _, _, _, _], _ => rfl
theorem sc_Cache_check : FnScope ["self", "replica", "target", "name", "subject", "at_least", "found", "answer"] ["self", "replica", "target", "name", "subject", "at_least"] (defScope s_Cache_check) := ⟨rfl, rfl, rfl, by decide +kernel, rfl, by decide +kernel, by decide +kernel⟩
def A_difference (K : PySem.W.Frag) : Addr := He.fAd K ("difference", none)
def F_difference (K : PySem.W.Frag) : FuncData := fdOf K (A_difference K)
theorem Wd.fu_difference (W : Wd K mg base) : FunD K "difference" "difference" (defArgs s_difference) (defBody s_difference) (defScope s_difference) [] [] (A_difference K) (F_difference K) := fun_fd (W.d.def_ 16 (d := d_difference) rfl)
theorem Wd.bd_difference (W : Wd K mg base) : Binds K (F_difference K) ["before", "after"] [] := (W.fu_difference).bindsN fun _ _ _ _ _ _ us hl => match us, hl with | [_, _], _ => rfl
theorem sc_difference : FnScope ["before", "after", "old", "new", "grant"] ["before", "after"] (defScope s_difference) := ⟨rfl, rfl, rfl, by decide +kernel, rfl, by decide +kernel, by decide +kernel⟩
def A_applies (K : PySem.W.Frag) : Addr := He.fAd K ("applies", none)
def F_applies (K : PySem.W.Frag) : FuncData := fdOf K (A_applies K)
theorem Wd.fu_applies (W : Wd K mg base) : FunD K "applies" "applies" (defArgs s_applies) (defBody s_applies) (defScope s_applies) [] [] (A_applies K) (F_applies K) := fun_fd (W.d.def_ 17 (d := d_applies) rfl)
theorem Wd.bd_applies (W : Wd K mg base) : Binds K (F_applies K) ["grants", "change"] [] := (W.fu_applies).bindsN fun _ _ _ _ _ _ us hl => match us, hl with | [_, _], _ => rfl
theorem sc_applies : FnScope ["grants", "change", "known", "grant"] ["grants", "change"] (defScope s_applies) := ⟨rfl, rfl, rfl, by decide +kernel, rfl, by decide +kernel, by decide +kernel⟩
def A_apply_change (K : PySem.W.Frag) : Addr := He.fAd K ("apply_change", none)
def F_apply_change (K : PySem.W.Frag) : FuncData := fdOf K (A_apply_change K)
theorem Wd.fu_apply_change (W : Wd K mg base) : FunD K "apply_change" "apply_change" (defArgs s_apply_change) (defBody s_apply_change) (defScope s_apply_change) [] [] (A_apply_change K) (F_apply_change K) := fun_fd (W.d.def_ 18 (d := d_apply_change) rfl)
theorem Wd.bd_apply_change (W : Wd K mg base) : Binds K (F_apply_change K) ["grants", "change"] [] := (W.fu_apply_change).bindsN fun _ _ _ _ _ _ us hl => match us, hl with | [_, _], _ => rfl
theorem sc_apply_change : FnScope ["grants", "change", "lost", "grant"] ["grants", "change"] (defScope s_apply_change) := ⟨rfl, rfl, rfl, by decide +kernel, rfl, by decide +kernel, by decide +kernel⟩
def A_Line_init (K : PySem.W.Frag) : Addr := He.fAd K ("Line", some "__init__")
def F_Line_init (K : PySem.W.Frag) : FuncData := fdOf K (A_Line_init K)
theorem Wd.fu_Line_init (W : Wd K mg base) : FunD K "__init__" "Line.__init__" (defArgs s_Line_init) (defBody s_Line_init) (defScope s_Line_init) [] [] (A_Line_init K) (F_Line_init K) := fun_fd (W.d.def_ 19 (d := d_Line_init) rfl)
theorem Wd.bd_Line_init (W : Wd K mg base) : Binds K (F_Line_init K) ["self", "number", "parts"] [] := (W.fu_Line_init).bindsN fun _ _ _ _ _ _ us hl => match us, hl with | [_, _, _], _ => rfl
theorem sc_Line_init : FnScope ["self", "number", "parts"] ["self", "number", "parts"] (defScope s_Line_init) := ⟨rfl, rfl, rfl, by decide +kernel, rfl, by decide +kernel, by decide +kernel⟩
def A_Line_next_part (K : PySem.W.Frag) : Addr := He.fAd K ("Line", some "next_part")
def F_Line_next_part (K : PySem.W.Frag) : FuncData := fdOf K (A_Line_next_part K)
theorem Wd.fu_Line_next_part (W : Wd K mg base) : FunD K "next_part" "Line.next_part" (defArgs s_Line_next_part) (defBody s_Line_next_part) (defScope s_Line_next_part) [] [] (A_Line_next_part K) (F_Line_next_part K) := fun_fd (W.d.def_ 20 (d := d_Line_next_part) rfl)
theorem Wd.bd_Line_next_part (W : Wd K mg base) : Binds K (F_Line_next_part K) ["self"] [] := (W.fu_Line_next_part).bindsN fun _ _ _ _ _ _ us hl => match us, hl with | [_], _ => rfl
theorem sc_Line_next_part : FnScope ["self"] ["self"] (defScope s_Line_next_part) := ⟨rfl, rfl, rfl, by decide +kernel, rfl, by decide +kernel, by decide +kernel⟩
def A_Line_take (K : PySem.W.Frag) : Addr := He.fAd K ("Line", some "take")
def F_Line_take (K : PySem.W.Frag) : FuncData := fdOf K (A_Line_take K)
theorem Wd.fu_Line_take (W : Wd K mg base) : FunD K "take" "Line.take" (defArgs s_Line_take) (defBody s_Line_take) (defScope s_Line_take) [] [] (A_Line_take K) (F_Line_take K) := fun_fd (W.d.def_ 21 (d := d_Line_take) rfl)
theorem Wd.bd_Line_take (W : Wd K mg base) : Binds K (F_Line_take K) ["self"] [] := (W.fu_Line_take).bindsN fun _ _ _ _ _ _ us hl => match us, hl with | [_], _ => rfl
theorem sc_Line_take : FnScope ["self", "found"] ["self"] (defScope s_Line_take) := ⟨rfl, rfl, rfl, by decide +kernel, rfl, by decide +kernel, by decide +kernel⟩
def A_Line_expect (K : PySem.W.Frag) : Addr := He.fAd K ("Line", some "expect")
def F_Line_expect (K : PySem.W.Frag) : FuncData := fdOf K (A_Line_expect K)
theorem Wd.fu_Line_expect (W : Wd K mg base) : FunD K "expect" "Line.expect" (defArgs s_Line_expect) (defBody s_Line_expect) (defScope s_Line_expect) [] [] (A_Line_expect K) (F_Line_expect K) := fun_fd (W.d.def_ 22 (d := d_Line_expect) rfl)
theorem Wd.bd_Line_expect (W : Wd K mg base) : Binds K (F_Line_expect K) ["self", "part"] [] := (W.fu_Line_expect).bindsN fun _ _ _ _ _ _ us hl => match us, hl with | [_, _], _ => rfl
theorem sc_Line_expect : FnScope ["self", "part"] ["self", "part"] (defScope s_Line_expect) := ⟨rfl, rfl, rfl, by decide +kernel, rfl, by decide +kernel, by decide +kernel⟩
def A_Line_name (K : PySem.W.Frag) : Addr := He.fAd K ("Line", some "name")
def F_Line_name (K : PySem.W.Frag) : FuncData := fdOf K (A_Line_name K)
theorem Wd.fu_Line_name (W : Wd K mg base) : FunD K "name" "Line.name" (defArgs s_Line_name) (defBody s_Line_name) (defScope s_Line_name) [] [] (A_Line_name K) (F_Line_name K) := fun_fd (W.d.def_ 23 (d := d_Line_name) rfl)
theorem Wd.bd_Line_name (W : Wd K mg base) : Binds K (F_Line_name K) ["self"] [] := (W.fu_Line_name).bindsN fun _ _ _ _ _ _ us hl => match us, hl with | [_], _ => rfl
theorem sc_Line_name : FnScope ["self", "found"] ["self"] (defScope s_Line_name) := ⟨rfl, rfl, rfl, by decide +kernel, rfl, by decide +kernel, by decide +kernel⟩
def A_Line_accepts (K : PySem.W.Frag) : Addr := He.fAd K ("Line", some "accepts")
def F_Line_accepts (K : PySem.W.Frag) : FuncData := fdOf K (A_Line_accepts K)
theorem Wd.fu_Line_accepts (W : Wd K mg base) : FunD K "accepts" "Line.accepts" (defArgs s_Line_accepts) (defBody s_Line_accepts) (defScope s_Line_accepts) [] [] (A_Line_accepts K) (F_Line_accepts K) := fun_fd (W.d.def_ 24 (d := d_Line_accepts) rfl)
theorem Wd.bd_Line_accepts (W : Wd K mg base) : Binds K (F_Line_accepts K) ["self", "part"] [] := (W.fu_Line_accepts).bindsN fun _ _ _ _ _ _ us hl => match us, hl with | [_, _], _ => rfl
theorem sc_Line_accepts : FnScope ["self", "part"] ["self", "part"] (defScope s_Line_accepts) := ⟨rfl, rfl, rfl, by decide +kernel, rfl, by decide +kernel, by decide +kernel⟩
def A_Line_finish (K : PySem.W.Frag) : Addr := He.fAd K ("Line", some "finish")
def F_Line_finish (K : PySem.W.Frag) : FuncData := fdOf K (A_Line_finish K)
theorem Wd.fu_Line_finish (W : Wd K mg base) : FunD K "finish" "Line.finish" (defArgs s_Line_finish) (defBody s_Line_finish) (defScope s_Line_finish) [] [] (A_Line_finish K) (F_Line_finish K) := fun_fd (W.d.def_ 25 (d := d_Line_finish) rfl)
theorem Wd.bd_Line_finish (W : Wd K mg base) : Binds K (F_Line_finish K) ["self"] [] := (W.fu_Line_finish).bindsN fun _ _ _ _ _ _ us hl => match us, hl with | [_], _ => rfl
theorem sc_Line_finish : FnScope ["self"] ["self"] (defScope s_Line_finish) := ⟨rfl, rfl, rfl, by decide +kernel, rfl, by decide +kernel, by decide +kernel⟩
def A_parts_of_line (K : PySem.W.Frag) : Addr := He.fAd K ("parts_of_line", none)
def F_parts_of_line (K : PySem.W.Frag) : FuncData := fdOf K (A_parts_of_line K)
theorem Wd.fu_parts_of_line (W : Wd K mg base) : FunD K "parts_of_line" "parts_of_line" (defArgs s_parts_of_line) (defBody s_parts_of_line) (defScope s_parts_of_line) [] [] (A_parts_of_line K) (F_parts_of_line K) := fun_fd (W.d.def_ 26 (d := d_parts_of_line) rfl)
theorem Wd.bd_parts_of_line (W : Wd K mg base) : Binds K (F_parts_of_line K) ["number", "text"] [] := (W.fu_parts_of_line).bindsN fun _ _ _ _ _ _ us hl => match us, hl with | [_, _], _ => rfl
theorem sc_parts_of_line : FnScope ["number", "text", "parts", "is_inside", "sign"] ["number", "text"] (defScope s_parts_of_line) := ⟨rfl, rfl, rfl, by decide +kernel, rfl, by decide +kernel, by decide +kernel⟩
def A_read_subject (K : PySem.W.Frag) : Addr := He.fAd K ("read_subject", none)
def F_read_subject (K : PySem.W.Frag) : FuncData := fdOf K (A_read_subject K)
theorem Wd.fu_read_subject (W : Wd K mg base) : FunD K "read_subject" "read_subject" (defArgs s_read_subject) (defBody s_read_subject) (defScope s_read_subject) [] [] (A_read_subject K) (F_read_subject K) := fun_fd (W.d.def_ 27 (d := d_read_subject) rfl)
theorem Wd.bd_read_subject (W : Wd K mg base) : Binds K (F_read_subject K) ["line"] [] := (W.fu_read_subject).bindsN fun _ _ _ _ _ _ us hl => match us, hl with | [_], _ => rfl
theorem sc_read_subject : FnScope ["line", "kind"] ["line"] (defScope s_read_subject) := ⟨rfl, rfl, rfl, by decide +kernel, rfl, by decide +kernel, by decide +kernel⟩
def A_read_relation (K : PySem.W.Frag) : Addr := He.fAd K ("read_relation", none)
def F_read_relation (K : PySem.W.Frag) : FuncData := fdOf K (A_read_relation K)
theorem Wd.fu_read_relation (W : Wd K mg base) : FunD K "read_relation" "read_relation" (defArgs s_read_relation) (defBody s_read_relation) (defScope s_read_relation) [] [] (A_read_relation K) (F_read_relation K) := fun_fd (W.d.def_ 28 (d := d_read_relation) rfl)
theorem Wd.bd_read_relation (W : Wd K mg base) : Binds K (F_read_relation K) ["line"] [] := (W.fu_read_relation).bindsN fun _ _ _ _ _ _ us hl => match us, hl with | [_], _ => rfl
theorem sc_read_relation : FnScope ["line", "name", "subjects"] ["line"] (defScope s_read_relation) := ⟨rfl, rfl, rfl, by decide +kernel, rfl, by decide +kernel, by decide +kernel⟩
def A_read_term (K : PySem.W.Frag) : Addr := He.fAd K ("read_term", none)
def F_read_term (K : PySem.W.Frag) : FuncData := fdOf K (A_read_term K)
theorem Wd.fu_read_term (W : Wd K mg base) : FunD K "read_term" "read_term" (defArgs s_read_term) (defBody s_read_term) (defScope s_read_term) [] [] (A_read_term K) (F_read_term K) := fun_fd (W.d.def_ 29 (d := d_read_term) rfl)
theorem Wd.bd_read_term (W : Wd K mg base) : Binds K (F_read_term K) ["line", "operator"] [] := (W.fu_read_term).bindsN fun _ _ _ _ _ _ us hl => match us, hl with | [_, _], _ => rfl
theorem sc_read_term : FnScope ["line", "operator", "first"] ["line", "operator"] (defScope s_read_term) := ⟨rfl, rfl, rfl, by decide +kernel, rfl, by decide +kernel, by decide +kernel⟩
def A_read_permission (K : PySem.W.Frag) : Addr := He.fAd K ("read_permission", none)
def F_read_permission (K : PySem.W.Frag) : FuncData := fdOf K (A_read_permission K)
theorem Wd.fu_read_permission (W : Wd K mg base) : FunD K "read_permission" "read_permission" (defArgs s_read_permission) (defBody s_read_permission) (defScope s_read_permission) [] [] (A_read_permission K) (F_read_permission K) := fun_fd (W.d.def_ 30 (d := d_read_permission) rfl)
theorem Wd.bd_read_permission (W : Wd K mg base) : Binds K (F_read_permission K) ["line"] [] := (W.fu_read_permission).bindsN fun _ _ _ _ _ _ us hl => match us, hl with | [_], _ => rfl
theorem sc_read_permission : FnScope ["line", "name", "terms"] ["line"] (defScope s_read_permission) := ⟨rfl, rfl, rfl, by decide +kernel, rfl, by decide +kernel, by decide +kernel⟩
def A_read_line (K : PySem.W.Frag) : Addr := He.fAd K ("read_line", none)
def F_read_line (K : PySem.W.Frag) : FuncData := fdOf K (A_read_line K)
theorem Wd.fu_read_line (W : Wd K mg base) : FunD K "read_line" "read_line" (defArgs s_read_line) (defBody s_read_line) (defScope s_read_line) [] [] (A_read_line K) (F_read_line K) := fun_fd (W.d.def_ 31 (d := d_read_line) rfl)
theorem Wd.bd_read_line (W : Wd K mg base) : Binds K (F_read_line K) ["line", "types"] [] := (W.fu_read_line).bindsN fun _ _ _ _ _ _ us hl => match us, hl with | [_, _], _ => rfl
theorem sc_read_line : FnScope ["line", "types", "kind", "entry"] ["line", "types"] (defScope s_read_line) := ⟨rfl, rfl, rfl, by decide +kernel, rfl, by decide +kernel, by decide +kernel⟩
def A_check_duplicates (K : PySem.W.Frag) : Addr := He.fAd K ("check_duplicates", none)
def F_check_duplicates (K : PySem.W.Frag) : FuncData := fdOf K (A_check_duplicates K)
theorem Wd.fu_check_duplicates (W : Wd K mg base) : FunD K "check_duplicates" "check_duplicates" (defArgs s_check_duplicates) (defBody s_check_duplicates) (defScope s_check_duplicates) [] [] (A_check_duplicates K) (F_check_duplicates K) := fun_fd (W.d.def_ 32 (d := d_check_duplicates) rfl)
theorem Wd.bd_check_duplicates (W : Wd K mg base) : Binds K (F_check_duplicates K) ["types"] [] := (W.fu_check_duplicates).bindsN fun _ _ _ _ _ _ us hl => match us, hl with | [_], _ => rfl
theorem sc_check_duplicates : FnScope ["types", "faults", "at", "name", "number", "entries", "names", "entry"] ["types"] (defScope s_check_duplicates) := ⟨rfl, rfl, rfl, by decide +kernel, rfl, by decide +kernel, by decide +kernel⟩
def A_entry_of (K : PySem.W.Frag) : Addr := He.fAd K ("entry_of", none)
def F_entry_of (K : PySem.W.Frag) : FuncData := fdOf K (A_entry_of K)
theorem Wd.fu_entry_of (W : Wd K mg base) : FunD K "entry_of" "entry_of" (defArgs s_entry_of) (defBody s_entry_of) (defScope s_entry_of) [] [] (A_entry_of K) (F_entry_of K) := fun_fd (W.d.def_ 33 (d := d_entry_of) rfl)
theorem Wd.bd_entry_of (W : Wd K mg base) : Binds K (F_entry_of K) ["schema", "kind", "name"] [] := (W.fu_entry_of).bindsN fun _ _ _ _ _ _ us hl => match us, hl with | [_, _, _], _ => rfl
theorem sc_entry_of : FnScope ["schema", "kind", "name", "other", "entries", "entry"] ["schema", "kind", "name"] (defScope s_entry_of) := ⟨rfl, rfl, rfl, by decide +kernel, rfl, by decide +kernel, by decide +kernel⟩
def A_definition (K : PySem.W.Frag) : Addr := He.fAd K ("definition", none)
def F_definition (K : PySem.W.Frag) : FuncData := fdOf K (A_definition K)
theorem Wd.fu_definition (W : Wd K mg base) : FunD K "definition" "definition" (defArgs s_definition) (defBody s_definition) (defScope s_definition) [] [] (A_definition K) (F_definition K) := fun_fd (W.d.def_ 34 (d := d_definition) rfl)
theorem Wd.bd_definition (W : Wd K mg base) : Binds K (F_definition K) ["schema", "kind", "name"] [] := (W.fu_definition).bindsN fun _ _ _ _ _ _ us hl => match us, hl with | [_, _, _], _ => rfl
theorem sc_definition : FnScope ["schema", "kind", "name", "entry"] ["schema", "kind", "name"] (defScope s_definition) := ⟨rfl, rfl, rfl, by decide +kernel, rfl, by decide +kernel, by decide +kernel⟩
def A_led_types (K : PySem.W.Frag) : Addr := He.fAd K ("led_types", none)
def F_led_types (K : PySem.W.Frag) : FuncData := fdOf K (A_led_types K)
theorem Wd.fu_led_types (W : Wd K mg base) : FunD K "led_types" "led_types" (defArgs s_led_types) (defBody s_led_types) (defScope s_led_types) [] [] (A_led_types K) (F_led_types K) := fun_fd (W.d.def_ 35 (d := d_led_types) rfl)
theorem Wd.bd_led_types (W : Wd K mg base) : Binds K (F_led_types K) ["schema", "kind", "relation", "name"] [] := (W.fu_led_types).bindsN fun _ _ _ _ _ _ us hl => match us, hl with | [_, _, _, _], _ => rfl
theorem sc_led_types : FnScope ["schema", "kind", "relation", "name", "entry", "other", "inner"] ["schema", "kind", "relation", "name"] (defScope s_led_types) := ⟨rfl, rfl, rfl, by decide +kernel, rfl, by decide +kernel, by decide +kernel⟩
def A_is_known (K : PySem.W.Frag) : Addr := He.fAd K ("is_known", none)
def F_is_known (K : PySem.W.Frag) : FuncData := fdOf K (A_is_known K)
theorem Wd.fu_is_known (W : Wd K mg base) : FunD K "is_known" "is_known" (defArgs s_is_known) (defBody s_is_known) (defScope s_is_known) [] [] (A_is_known K) (F_is_known K) := fun_fd (W.d.def_ 36 (d := d_is_known) rfl)
theorem Wd.bd_is_known (W : Wd K mg base) : Binds K (F_is_known K) ["schema", "kind", "entry"] [] := (W.fu_is_known).bindsN fun _ _ _ _ _ _ us hl => match us, hl with | [_, _, _], _ => rfl
theorem sc_is_known : FnScope ["schema", "kind", "entry", "types", "named", "is_there", "operator", "relation", "name", "other", "entries", "pair"] ["schema", "kind", "entry"] (defScope s_is_known) := ⟨rfl, rfl, rfl, by decide +kernel, rfl, by decide +kernel, by decide +kernel⟩
def A_needs_of (K : PySem.W.Frag) : Addr := He.fAd K ("needs_of", none)
def F_needs_of (K : PySem.W.Frag) : FuncData := fdOf K (A_needs_of K)
theorem Wd.fu_needs_of (W : Wd K mg base) : FunD K "needs_of" "needs_of" (defArgs s_needs_of) (defBody s_needs_of) (defScope s_needs_of) [] [] (A_needs_of K) (F_needs_of K) := fun_fd (W.d.def_ 37 (d := d_needs_of) rfl)
theorem Wd.bd_needs_of (W : Wd K mg base) : Binds K (F_needs_of K) ["schema", "kind", "entry"] [] := (W.fu_needs_of).bindsN fun _ _ _ _ _ _ us hl => match us, hl with | [_, _, _], _ => rfl
theorem sc_needs_of : FnScope ["schema", "kind", "entry", "found", "operator", "relation", "name", "kinds", "other", "inner"] ["schema", "kind", "entry"] (defScope s_needs_of) := ⟨rfl, rfl, rfl, by decide +kernel, rfl, by decide +kernel, by decide +kernel⟩
def A_strata (K : PySem.W.Frag) : Addr := He.fAd K ("strata", none)
def F_strata (K : PySem.W.Frag) : FuncData := fdOf K (A_strata K)
theorem Wd.fu_strata (W : Wd K mg base) : FunD K "strata" "strata" (defArgs s_strata) (defBody s_strata) (defScope s_strata) [] [] (A_strata K) (F_strata K) := fun_fd (W.d.def_ 38 (d := d_strata) rfl)
theorem Wd.bd_strata (W : Wd K mg base) : Binds K (F_strata K) ["schema"] [] := (W.fu_strata).bindsN fun _ _ _ _ _ _ us hl => match us, hl with | [_], _ => rfl
theorem sc_strata : FnScope ["schema", "levels", "needs", "kind", "entries", "entry", "round_number", "raised", "pair", "lower", "other", "name", "is_negative"] ["schema"] (defScope s_strata) := ⟨rfl, rfl, rfl, by decide +kernel, rfl, by decide +kernel, by decide +kernel⟩
def A_read_schema (K : PySem.W.Frag) : Addr := He.fAd K ("read_schema", none)
def F_read_schema (K : PySem.W.Frag) : FuncData := fdOf K (A_read_schema K)
theorem Wd.fu_read_schema (W : Wd K mg base) : FunD K "read_schema" "read_schema" (defArgs s_read_schema) (defBody s_read_schema) (defScope s_read_schema) [] [] (A_read_schema K) (F_read_schema K) := fun_fd (W.d.def_ 39 (d := d_read_schema) rfl)
theorem Wd.bd_read_schema (W : Wd K mg base) : Binds K (F_read_schema K) ["text"] [] := (W.fu_read_schema).bindsN fun _ _ _ _ _ _ us hl => match us, hl with | [_], _ => rfl
theorem sc_read_schema : FnScope ["text", "types", "at", "line_text", "parts", "schema", "name", "number", "entries", "place", "entry"] ["text"] (defScope s_read_schema) := ⟨rfl, rfl, rfl, by decide +kernel, rfl, by decide +kernel, by decide +kernel⟩
def A_conforms (K : PySem.W.Frag) : Addr := He.fAd K ("conforms", none)
def F_conforms (K : PySem.W.Frag) : FuncData := fdOf K (A_conforms K)
theorem Wd.fu_conforms (W : Wd K mg base) : FunD K "conforms" "conforms" (defArgs s_conforms) (defBody s_conforms) (defScope s_conforms) [] [] (A_conforms K) (F_conforms K) := fun_fd (W.d.def_ 40 (d := d_conforms) rfl)
theorem Wd.bd_conforms (W : Wd K mg base) : Binds K (F_conforms K) ["schema", "relationship"] [] := (W.fu_conforms).bindsN fun _ _ _ _ _ _ us hl => match us, hl with | [_, _], _ => rfl
theorem sc_conforms : FnScope ["schema", "relationship", "found", "target", "name"] ["schema", "relationship"] (defScope s_conforms) := ⟨rfl, rfl, rfl, by decide +kernel, rfl, by decide +kernel, by decide +kernel⟩
def A_check_relationships (K : PySem.W.Frag) : Addr := He.fAd K ("check_relationships", none)
def F_check_relationships (K : PySem.W.Frag) : FuncData := fdOf K (A_check_relationships K)
theorem Wd.fu_check_relationships (W : Wd K mg base) : FunD K "check_relationships" "check_relationships" (defArgs s_check_relationships) (defBody s_check_relationships) (defScope s_check_relationships) [] [] (A_check_relationships K) (F_check_relationships K) := fun_fd (W.d.def_ 41 (d := d_check_relationships) rfl)
theorem Wd.bd_check_relationships (W : Wd K mg base) : Binds K (F_check_relationships K) ["schema", "relationships"] [] := (W.fu_check_relationships).bindsN fun _ _ _ _ _ _ us hl => match us, hl with | [_, _], _ => rfl
theorem sc_check_relationships : FnScope ["schema", "relationships", "index", "relationship"] ["schema", "relationships"] (defScope s_check_relationships) := ⟨rfl, rfl, rfl, by decide +kernel, rfl, by decide +kernel, by decide +kernel⟩
def A_Graph_init (K : PySem.W.Frag) : Addr := He.fAd K ("Graph", some "__init__")
def F_Graph_init (K : PySem.W.Frag) : FuncData := fdOf K (A_Graph_init K)
theorem Wd.fu_Graph_init (W : Wd K mg base) : FunD K "__init__" "Graph.__init__" (defArgs s_Graph_init) (defBody s_Graph_init) (defScope s_Graph_init) [] [] (A_Graph_init K) (F_Graph_init K) := fun_fd (W.d.def_ 42 (d := d_Graph_init) rfl)
theorem Wd.bd_Graph_init (W : Wd K mg base) : Binds K (F_Graph_init K) ["self", "schema", "relationships"] [] := (W.fu_Graph_init).bindsN fun _ _ _ _ _ _ us hl => match us, hl with | [_, _, _], _ => rfl
theorem sc_Graph_init : FnScope ["self", "schema", "relationships", "objects", "people", "target", "relation", "subject"] ["self", "schema", "relationships"] (defScope s_Graph_init) := ⟨rfl, rfl, rfl, by decide +kernel, rfl, by decide +kernel, by decide +kernel⟩
def A_Graph_subjects_of (K : PySem.W.Frag) : Addr := He.fAd K ("Graph", some "subjects_of")
def F_Graph_subjects_of (K : PySem.W.Frag) : FuncData := fdOf K (A_Graph_subjects_of K)
theorem Wd.fu_Graph_subjects_of (W : Wd K mg base) : FunD K "subjects_of" "Graph.subjects_of" (defArgs s_Graph_subjects_of) (defBody s_Graph_subjects_of) (defScope s_Graph_subjects_of) [] [] (A_Graph_subjects_of K) (F_Graph_subjects_of K) := fun_fd (W.d.def_ 43 (d := d_Graph_subjects_of) rfl)
theorem Wd.bd_Graph_subjects_of (W : Wd K mg base) : Binds K (F_Graph_subjects_of K) ["self", "target", "relation"] [] := (W.fu_Graph_subjects_of).bindsN fun _ _ _ _ _ _ us hl => match us, hl with | [_, _, _], _ => rfl
theorem sc_Graph_subjects_of : FnScope ["self", "target", "relation"] ["self", "target", "relation"] (defScope s_Graph_subjects_of) := ⟨rfl, rfl, rfl, by decide +kernel, rfl, by decide +kernel, by decide +kernel⟩
def A_Graph_stratum_of (K : PySem.W.Frag) : Addr := He.fAd K ("Graph", some "stratum_of")
def F_Graph_stratum_of (K : PySem.W.Frag) : FuncData := fdOf K (A_Graph_stratum_of K)
theorem Wd.fu_Graph_stratum_of (W : Wd K mg base) : FunD K "stratum_of" "Graph.stratum_of" (defArgs s_Graph_stratum_of) (defBody s_Graph_stratum_of) (defScope s_Graph_stratum_of) [] [] (A_Graph_stratum_of K) (F_Graph_stratum_of K) := fun_fd (W.d.def_ 44 (d := d_Graph_stratum_of) rfl)
theorem Wd.bd_Graph_stratum_of (W : Wd K mg base) : Binds K (F_Graph_stratum_of K) ["self", "target", "name"] [] := (W.fu_Graph_stratum_of).bindsN fun _ _ _ _ _ _ us hl => match us, hl with | [_, _, _], _ => rfl
theorem sc_Graph_stratum_of : FnScope ["self", "target", "name"] ["self", "target", "name"] (defScope s_Graph_stratum_of) := ⟨rfl, rfl, rfl, by decide +kernel, rfl, by decide +kernel, by decide +kernel⟩
def A_Graph_pairs_of (K : PySem.W.Frag) : Addr := He.fAd K ("Graph", some "pairs_of")
def F_Graph_pairs_of (K : PySem.W.Frag) : FuncData := fdOf K (A_Graph_pairs_of K)
theorem Wd.fu_Graph_pairs_of (W : Wd K mg base) : FunD K "pairs_of" "Graph.pairs_of" (defArgs s_Graph_pairs_of) (defBody s_Graph_pairs_of) (defScope s_Graph_pairs_of) [] [] (A_Graph_pairs_of K) (F_Graph_pairs_of K) := fun_fd (W.d.def_ 45 (d := d_Graph_pairs_of) rfl)
theorem Wd.bd_Graph_pairs_of (W : Wd K mg base) : Binds K (F_Graph_pairs_of K) ["self", "target", "part"] [] := (W.fu_Graph_pairs_of).bindsN fun _ _ _ _ _ _ us hl => match us, hl with | [_, _, _], _ => rfl
theorem sc_Graph_pairs_of : FnScope ["self", "target", "part", "operator", "relation", "name", "found", "other", "other_name"] ["self", "target", "part"] (defScope s_Graph_pairs_of) := ⟨rfl, rfl, rfl, by decide +kernel, rfl, by decide +kernel, by decide +kernel⟩
def A_Graph_depends_on (K : PySem.W.Frag) : Addr := He.fAd K ("Graph", some "depends_on")
def F_Graph_depends_on (K : PySem.W.Frag) : FuncData := fdOf K (A_Graph_depends_on K)
theorem Wd.fu_Graph_depends_on (W : Wd K mg base) : FunD K "depends_on" "Graph.depends_on" (defArgs s_Graph_depends_on) (defBody s_Graph_depends_on) (defScope s_Graph_depends_on) [] [] (A_Graph_depends_on K) (F_Graph_depends_on K) := fun_fd (W.d.def_ 46 (d := d_Graph_depends_on) rfl)
theorem Wd.bd_Graph_depends_on (W : Wd K mg base) : Binds K (F_Graph_depends_on K) ["self", "target", "name"] [] := (W.fu_Graph_depends_on).bindsN fun _ _ _ _ _ _ us hl => match us, hl with | [_, _, _], _ => rfl
theorem sc_Graph_depends_on : FnScope ["self", "target", "name", "found", "pairs", "part", "pair"] ["self", "target", "name"] (defScope s_Graph_depends_on) := ⟨rfl, rfl, rfl, by decide +kernel, rfl, by decide +kernel, by decide +kernel⟩
def A_count_of (K : PySem.W.Frag) : Addr := He.fAd K ("count_of", none)
def F_count_of (K : PySem.W.Frag) : FuncData := fdOf K (A_count_of K)
theorem Wd.fu_count_of (W : Wd K mg base) : FunD K "count_of" "count_of" (defArgs s_count_of) (defBody s_count_of) (defScope s_count_of) [] [] (A_count_of K) (F_count_of K) := fun_fd (W.d.def_ 47 (d := d_count_of) rfl)
theorem Wd.bd_count_of (W : Wd K mg base) : Binds K (F_count_of K) ["graph", "target", "name", "pair", "ranks"] [] := (W.fu_count_of).bindsN fun _ _ _ _ _ _ us hl => match us, hl with | [_, _, _, _, _], _ => rfl
theorem sc_count_of : FnScope ["graph", "target", "name", "pair", "ranks", "rank"] ["graph", "target", "name", "pair", "ranks"] (defScope s_count_of) := ⟨rfl, rfl, rfl, by decide +kernel, rfl, by decide +kernel, by decide +kernel⟩
def A_least (K : PySem.W.Frag) : Addr := He.fAd K ("least", none)
def F_least (K : PySem.W.Frag) : FuncData := fdOf K (A_least K)
theorem Wd.fu_least (W : Wd K mg base) : FunD K "least" "least" (defArgs s_least) (defBody s_least) (defScope s_least) [] [] (A_least K) (F_least K) := fun_fd (W.d.def_ 48 (d := d_least) rfl)
theorem Wd.bd_least (W : Wd K mg base) : Binds K (F_least K) ["counts"] [] := (W.fu_least).bindsN fun _ _ _ _ _ _ us hl => match us, hl with | [_], _ => rfl
theorem sc_least : FnScope ["counts", "count"] ["counts"] (defScope s_least) := ⟨rfl, rfl, rfl, by decide +kernel, rfl, by decide +kernel, by decide +kernel⟩
def A_both (K : PySem.W.Frag) : Addr := He.fAd K ("both", none)
def F_both (K : PySem.W.Frag) : FuncData := fdOf K (A_both K)
theorem Wd.fu_both (W : Wd K mg base) : FunD K "both" "both" (defArgs s_both) (defBody s_both) (defScope s_both) [] [] (A_both K) (F_both K) := fun_fd (W.d.def_ 49 (d := d_both) rfl)
theorem Wd.bd_both (W : Wd K mg base) : Binds K (F_both K) ["operator", "one", "other"] [] := (W.fu_both).bindsN fun _ _ _ _ _ _ us hl => match us, hl with | [_, _, _], _ => rfl
theorem sc_both : FnScope ["operator", "one", "other"] ["operator", "one", "other"] (defScope s_both) := ⟨rfl, rfl, rfl, by decide +kernel, rfl, by decide +kernel, by decide +kernel⟩
def A_rule_count (K : PySem.W.Frag) : Addr := He.fAd K ("rule_count", none)
def F_rule_count (K : PySem.W.Frag) : FuncData := fdOf K (A_rule_count K)
theorem Wd.fu_rule_count (W : Wd K mg base) : FunD K "rule_count" "rule_count" (defArgs s_rule_count) (defBody s_rule_count) (defScope s_rule_count) [] [] (A_rule_count K) (F_rule_count K) := fun_fd (W.d.def_ 50 (d := d_rule_count) rfl)
theorem Wd.bd_rule_count (W : Wd K mg base) : Binds K (F_rule_count K) ["graph", "target", "name", "subject", "ranks"] [] := (W.fu_rule_count).bindsN fun _ _ _ _ _ _ us hl => match us, hl with | [_, _, _, _, _], _ => rfl
theorem sc_rule_count : FnScope ["graph", "target", "name", "subject", "ranks", "found", "counts", "total", "part", "count", "pair"] ["graph", "target", "name", "subject", "ranks"] (defScope s_rule_count) := ⟨rfl, rfl, rfl, by decide +kernel, rfl, by decide +kernel, by decide +kernel⟩
def A_names_by_stratum (K : PySem.W.Frag) : Addr := He.fAd K ("names_by_stratum", none)
def F_names_by_stratum (K : PySem.W.Frag) : FuncData := fdOf K (A_names_by_stratum K)
theorem Wd.fu_names_by_stratum (W : Wd K mg base) : FunD K "names_by_stratum" "names_by_stratum" (defArgs s_names_by_stratum) (defBody s_names_by_stratum) (defScope s_names_by_stratum) [] [] (A_names_by_stratum K) (F_names_by_stratum K) := fun_fd (W.d.def_ 51 (d := d_names_by_stratum) rfl)
theorem Wd.bd_names_by_stratum (W : Wd K mg base) : Binds K (F_names_by_stratum K) ["graph"] [] := (W.fu_names_by_stratum).bindsN fun _ _ _ _ _ _ us hl => match us, hl with | [_], _ => rfl
theorem sc_names_by_stratum : FnScope ["graph", "most", "found", "target", "kind", "name", "key", "number"] ["graph"] (defScope s_names_by_stratum) := ⟨rfl, rfl, rfl, by decide +kernel, rfl, by decide +kernel, by decide +kernel⟩
def A_ranks_for (K : PySem.W.Frag) : Addr := He.fAd K ("ranks_for", none)
def F_ranks_for (K : PySem.W.Frag) : FuncData := fdOf K (A_ranks_for K)
theorem Wd.fu_ranks_for (W : Wd K mg base) : FunD K "ranks_for" "ranks_for" (defArgs s_ranks_for) (defBody s_ranks_for) (defScope s_ranks_for) [] [] (A_ranks_for K) (F_ranks_for K) := fun_fd (W.d.def_ 52 (d := d_ranks_for) rfl)
theorem Wd.bd_ranks_for (W : Wd K mg base) : Binds K (F_ranks_for K) ["graph", "subject"] [] := (W.fu_ranks_for).bindsN fun _ _ _ _ _ _ us hl => match us, hl with | [_, _], _ => rfl
theorem sc_ranks_for : FnScope ["graph", "subject", "ranks", "pairs", "going", "rank", "new", "pair"] ["graph", "subject"] (defScope s_ranks_for) := ⟨rfl, rfl, rfl, by decide +kernel, rfl, by decide +kernel, by decide +kernel⟩
def A_ranked (K : PySem.W.Frag) : Addr := He.fAd K ("ranked", none)
def F_ranked (K : PySem.W.Frag) : FuncData := fdOf K (A_ranked K)
theorem Wd.fu_ranked (W : Wd K mg base) : FunD K "ranked" "ranked" (defArgs s_ranked) (defBody s_ranked) (defScope s_ranked) [] [] (A_ranked K) (F_ranked K) := fun_fd (W.d.def_ 53 (d := d_ranked) rfl)
theorem Wd.bd_ranked (W : Wd K mg base) : Binds K (F_ranked K) ["schema", "relationships"] [] := (W.fu_ranked).bindsN fun _ _ _ _ _ _ us hl => match us, hl with | [_, _], _ => rfl
theorem sc_ranked : FnScope ["schema", "relationships", "graph", "found", "subject", "ranks", "target", "name"] ["schema", "relationships"] (defScope s_ranked) := ⟨rfl, rfl, rfl, by decide +kernel, rfl, by decide +kernel, by decide +kernel⟩
def A_evaluate (K : PySem.W.Frag) : Addr := He.fAd K ("evaluate", none)
def F_evaluate (K : PySem.W.Frag) : FuncData := fdOf K (A_evaluate K)
theorem Wd.fu_evaluate (W : Wd K mg base) : FunD K "evaluate" "evaluate" (defArgs s_evaluate) (defBody s_evaluate) (defScope s_evaluate) [] [] (A_evaluate K) (F_evaluate K) := fun_fd (W.d.def_ 54 (d := d_evaluate) rfl)
theorem Wd.bd_evaluate (W : Wd K mg base) : Binds K (F_evaluate K) ["schema", "relationships"] [] := (W.fu_evaluate).bindsN fun _ _ _ _ _ _ us hl => match us, hl with | [_, _], _ => rfl
theorem sc_evaluate : FnScope ["schema", "relationships"] ["schema", "relationships"] (defScope s_evaluate) := ⟨rfl, rfl, rfl, by decide +kernel, rfl, by decide +kernel, by decide +kernel⟩
def A_Revision_init (K : PySem.W.Frag) : Addr := He.fAd K ("Revision", some "__init__")
def F_Revision_init (K : PySem.W.Frag) : FuncData := fdOf K (A_Revision_init K)
theorem Wd.fu_Revision_init (W : Wd K mg base) : FunD K "__init__" "Revision.__init__" (defArgs s_Revision_init) (defBody s_Revision_init) (defScope s_Revision_init) [] [] (A_Revision_init K) (F_Revision_init K) := fun_fd (W.d.def_ 55 (d := d_Revision_init) rfl)
theorem Wd.bd_Revision_init (W : Wd K mg base) : Binds K (F_Revision_init K) ["self", "schema", "relationships"] [] := (W.fu_Revision_init).bindsN fun _ _ _ _ _ _ us hl => match us, hl with | [_, _, _], _ => rfl
theorem sc_Revision_init : FnScope ["self", "schema", "relationships"] ["self", "schema", "relationships"] (defScope s_Revision_init) := ⟨rfl, rfl, rfl, by decide +kernel, rfl, by decide +kernel, by decide +kernel⟩
def A_Primary_init (K : PySem.W.Frag) : Addr := He.fAd K ("Primary", some "__init__")
def F_Primary_init (K : PySem.W.Frag) : FuncData := fdOf K (A_Primary_init K)
theorem Wd.fu_Primary_init (W : Wd K mg base) : FunD K "__init__" "Primary.__init__" (defArgs s_Primary_init) (defBody s_Primary_init) (defScope s_Primary_init) (d_Primary_init.dvs K) [] (A_Primary_init K) (F_Primary_init K) := fun_fd (W.d.def_ 56 (d := d_Primary_init) rfl)
theorem sc_Primary_init : FnScope ["self", "name", "schema", "relationships"] ["self", "name", "schema", "relationships"] (defScope s_Primary_init) := ⟨rfl, rfl, rfl, by decide +kernel, rfl, by decide +kernel, by decide +kernel⟩
def A_Primary_revision (K : PySem.W.Frag) : Addr := He.fAd K ("Primary", some "revision")
def F_Primary_revision (K : PySem.W.Frag) : FuncData := fdOf K (A_Primary_revision K)
theorem Wd.fu_Primary_revision (W : Wd K mg base) : FunD K "revision" "Primary.revision" (defArgs s_Primary_revision) (defBody s_Primary_revision) (defScope s_Primary_revision) [] [] (A_Primary_revision K) (F_Primary_revision K) := fun_fd (W.d.def_ 57 (d := d_Primary_revision) rfl)
theorem Wd.bd_Primary_revision (W : Wd K mg base) : Binds K (F_Primary_revision K) ["self"] [] := (W.fu_Primary_revision).bindsN fun _ _ _ _ _ _ us hl => match us, hl with | [_], _ => rfl
theorem sc_Primary_revision : FnScope ["self"] ["self"] (defScope s_Primary_revision) := ⟨rfl, rfl, rfl, by decide +kernel, rfl, by decide +kernel, by decide +kernel⟩
def A_Primary_token (K : PySem.W.Frag) : Addr := He.fAd K ("Primary", some "token")
def F_Primary_token (K : PySem.W.Frag) : FuncData := fdOf K (A_Primary_token K)
theorem Wd.fu_Primary_token (W : Wd K mg base) : FunD K "token" "Primary.token" (defArgs s_Primary_token) (defBody s_Primary_token) (defScope s_Primary_token) [] [] (A_Primary_token K) (F_Primary_token K) := fun_fd (W.d.def_ 58 (d := d_Primary_token) rfl)
theorem Wd.bd_Primary_token (W : Wd K mg base) : Binds K (F_Primary_token K) ["self"] [] := (W.fu_Primary_token).bindsN fun _ _ _ _ _ _ us hl => match us, hl with | [_], _ => rfl
theorem sc_Primary_token : FnScope ["self"] ["self"] (defScope s_Primary_token) := ⟨rfl, rfl, rfl, by decide +kernel, rfl, by decide +kernel, by decide +kernel⟩
def A_Primary_check_room (K : PySem.W.Frag) : Addr := He.fAd K ("Primary", some "check_room")
def F_Primary_check_room (K : PySem.W.Frag) : FuncData := fdOf K (A_Primary_check_room K)
theorem Wd.fu_Primary_check_room (W : Wd K mg base) : FunD K "check_room" "Primary.check_room" (defArgs s_Primary_check_room) (defBody s_Primary_check_room) (defScope s_Primary_check_room) [] [] (A_Primary_check_room K) (F_Primary_check_room K) := fun_fd (W.d.def_ 59 (d := d_Primary_check_room) rfl)
theorem Wd.bd_Primary_check_room (W : Wd K mg base) : Binds K (F_Primary_check_room K) ["self"] [] := (W.fu_Primary_check_room).bindsN fun _ _ _ _ _ _ us hl => match us, hl with | [_], _ => rfl
theorem sc_Primary_check_room : FnScope ["self"] ["self"] (defScope s_Primary_check_room) := ⟨rfl, rfl, rfl, by decide +kernel, rfl, by decide +kernel, by decide +kernel⟩
def A_Primary_check_update (K : PySem.W.Frag) : Addr := He.fAd K ("Primary", some "check_update")
def F_Primary_check_update (K : PySem.W.Frag) : FuncData := fdOf K (A_Primary_check_update K)
theorem Wd.fu_Primary_check_update (W : Wd K mg base) : FunD K "check_update" "Primary.check_update" (defArgs s_Primary_check_update) (defBody s_Primary_check_update) (defScope s_Primary_check_update) [] [] (A_Primary_check_update K) (F_Primary_check_update K) := fun_fd (W.d.def_ 60 (d := d_Primary_check_update) rfl)
theorem Wd.bd_Primary_check_update (W : Wd K mg base) : Binds K (F_Primary_check_update K) ["self", "index", "updates", "known"] [] := (W.fu_Primary_check_update).bindsN fun _ _ _ _ _ _ us hl => match us, hl with | [_, _, _, _], _ => rfl
theorem sc_Primary_check_update : FnScope ["self", "index", "updates", "known", "kind", "relationship", "update"] ["self", "index", "updates", "known"] (defScope s_Primary_check_update) := ⟨rfl, rfl, rfl, by decide +kernel, rfl, by decide +kernel, by decide +kernel⟩
def A_Primary_after_updates (K : PySem.W.Frag) : Addr := He.fAd K ("Primary", some "after_updates")
def F_Primary_after_updates (K : PySem.W.Frag) : FuncData := fdOf K (A_Primary_after_updates K)
theorem Wd.fu_Primary_after_updates (W : Wd K mg base) : FunD K "after_updates" "Primary.after_updates" (defArgs s_Primary_after_updates) (defBody s_Primary_after_updates) (defScope s_Primary_after_updates) [] [] (A_Primary_after_updates K) (F_Primary_after_updates K) := fun_fd (W.d.def_ 61 (d := d_Primary_after_updates) rfl)
theorem Wd.bd_Primary_after_updates (W : Wd K mg base) : Binds K (F_Primary_after_updates K) ["self", "updates"] [] := (W.fu_Primary_after_updates).bindsN fun _ _ _ _ _ _ us hl => match us, hl with | [_, _], _ => rfl
theorem sc_Primary_after_updates : FnScope ["self", "updates", "known", "index", "deleted", "put", "relationships", "update", "relationship"] ["self", "updates"] (defScope s_Primary_after_updates) := ⟨rfl, rfl, rfl, by decide +kernel, rfl, by decide +kernel, by decide +kernel⟩
def A_Primary_write (K : PySem.W.Frag) : Addr := He.fAd K ("Primary", some "write")
def F_Primary_write (K : PySem.W.Frag) : FuncData := fdOf K (A_Primary_write K)
theorem Wd.fu_Primary_write (W : Wd K mg base) : FunD K "write" "Primary.write" (defArgs s_Primary_write) (defBody s_Primary_write) (defScope s_Primary_write) [] [] (A_Primary_write K) (F_Primary_write K) := fun_fd (W.d.def_ 62 (d := d_Primary_write) rfl)
theorem Wd.bd_Primary_write (W : Wd K mg base) : Binds K (F_Primary_write K) ["self", "updates"] [] := (W.fu_Primary_write).bindsN fun _ _ _ _ _ _ us hl => match us, hl with | [_, _], _ => rfl
theorem sc_Primary_write : FnScope ["self", "updates"] ["self", "updates"] (defScope s_Primary_write) := ⟨rfl, rfl, rfl, by decide +kernel, rfl, by decide +kernel, by decide +kernel⟩
def A_Primary_number_at (K : PySem.W.Frag) : Addr := He.fAd K ("Primary", some "number_at")
def F_Primary_number_at (K : PySem.W.Frag) : FuncData := fdOf K (A_Primary_number_at K)
theorem Wd.fu_Primary_number_at (W : Wd K mg base) : FunD K "number_at" "Primary.number_at" (defArgs s_Primary_number_at) (defBody s_Primary_number_at) (defScope s_Primary_number_at) [] [] (A_Primary_number_at K) (F_Primary_number_at K) := fun_fd (W.d.def_ 63 (d := d_Primary_number_at) rfl)
theorem Wd.bd_Primary_number_at (W : Wd K mg base) : Binds K (F_Primary_number_at K) ["self", "at"] [] := (W.fu_Primary_number_at).bindsN fun _ _ _ _ _ _ us hl => match us, hl with | [_, _], _ => rfl
theorem sc_Primary_number_at : FnScope ["self", "at", "name", "number"] ["self", "at"] (defScope s_Primary_number_at) := ⟨rfl, rfl, rfl, by decide +kernel, rfl, by decide +kernel, by decide +kernel⟩
def A_Primary_check_revision (K : PySem.W.Frag) : Addr := He.fAd K ("Primary", some "check_revision")
def F_Primary_check_revision (K : PySem.W.Frag) : FuncData := fdOf K (A_Primary_check_revision K)
theorem Wd.fu_Primary_check_revision (W : Wd K mg base) : FunD K "check_revision" "Primary.check_revision" (defArgs s_Primary_check_revision) (defBody s_Primary_check_revision) (defScope s_Primary_check_revision) [] [] (A_Primary_check_revision K) (F_Primary_check_revision K) := fun_fd (W.d.def_ 64 (d := d_Primary_check_revision) rfl)
theorem Wd.bd_Primary_check_revision (W : Wd K mg base) : Binds K (F_Primary_check_revision K) ["self", "number", "least"] [] := (W.fu_Primary_check_revision).bindsN fun _ _ _ _ _ _ us hl => match us, hl with | [_, _, _], _ => rfl
theorem sc_Primary_check_revision : FnScope ["self", "number", "least"] ["self", "number", "least"] (defScope s_Primary_check_revision) := ⟨rfl, rfl, rfl, by decide +kernel, rfl, by decide +kernel, by decide +kernel⟩
def A_Primary_at_number (K : PySem.W.Frag) : Addr := He.fAd K ("Primary", some "at_number")
def F_Primary_at_number (K : PySem.W.Frag) : FuncData := fdOf K (A_Primary_at_number K)
theorem Wd.fu_Primary_at_number (W : Wd K mg base) : FunD K "at_number" "Primary.at_number" (defArgs s_Primary_at_number) (defBody s_Primary_at_number) (defScope s_Primary_at_number) [] [] (A_Primary_at_number K) (F_Primary_at_number K) := fun_fd (W.d.def_ 65 (d := d_Primary_at_number) rfl)
theorem Wd.bd_Primary_at_number (W : Wd K mg base) : Binds K (F_Primary_at_number K) ["self", "number"] [] := (W.fu_Primary_at_number).bindsN fun _ _ _ _ _ _ us hl => match us, hl with | [_, _], _ => rfl
theorem sc_Primary_at_number : FnScope ["self", "number"] ["self", "number"] (defScope s_Primary_at_number) := ⟨rfl, rfl, rfl, by decide +kernel, rfl, by decide +kernel, by decide +kernel⟩
def A_Primary_relationships (K : PySem.W.Frag) : Addr := He.fAd K ("Primary", some "relationships")
def F_Primary_relationships (K : PySem.W.Frag) : FuncData := fdOf K (A_Primary_relationships K)
theorem Wd.fu_Primary_relationships (W : Wd K mg base) : FunD K "relationships" "Primary.relationships" (defArgs s_Primary_relationships) (defBody s_Primary_relationships) (defScope s_Primary_relationships) [] [] (A_Primary_relationships K) (F_Primary_relationships K) := fun_fd (W.d.def_ 66 (d := d_Primary_relationships) rfl)
theorem Wd.bd_Primary_relationships (W : Wd K mg base) : Binds K (F_Primary_relationships K) ["self", "at"] [] := (W.fu_Primary_relationships).bindsN fun _ _ _ _ _ _ us hl => match us, hl with | [_, _], _ => rfl
theorem sc_Primary_relationships : FnScope ["self", "at"] ["self", "at"] (defScope s_Primary_relationships) := ⟨rfl, rfl, rfl, by decide +kernel, rfl, by decide +kernel, by decide +kernel⟩
def A_Primary_grants (K : PySem.W.Frag) : Addr := He.fAd K ("Primary", some "grants")
def F_Primary_grants (K : PySem.W.Frag) : FuncData := fdOf K (A_Primary_grants K)
theorem Wd.fu_Primary_grants (W : Wd K mg base) : FunD K "grants" "Primary.grants" (defArgs s_Primary_grants) (defBody s_Primary_grants) (defScope s_Primary_grants) [] [] (A_Primary_grants K) (F_Primary_grants K) := fun_fd (W.d.def_ 67 (d := d_Primary_grants) rfl)
theorem Wd.bd_Primary_grants (W : Wd K mg base) : Binds K (F_Primary_grants K) ["self", "at"] [] := (W.fu_Primary_grants).bindsN fun _ _ _ _ _ _ us hl => match us, hl with | [_, _], _ => rfl
theorem sc_Primary_grants : FnScope ["self", "at"] ["self", "at"] (defScope s_Primary_grants) := ⟨rfl, rfl, rfl, by decide +kernel, rfl, by decide +kernel, by decide +kernel⟩
def A_Primary_snapshot (K : PySem.W.Frag) : Addr := He.fAd K ("Primary", some "snapshot")
def F_Primary_snapshot (K : PySem.W.Frag) : FuncData := fdOf K (A_Primary_snapshot K)
theorem Wd.fu_Primary_snapshot (W : Wd K mg base) : FunD K "snapshot" "Primary.snapshot" (defArgs s_Primary_snapshot) (defBody s_Primary_snapshot) (defScope s_Primary_snapshot) [] [] (A_Primary_snapshot K) (F_Primary_snapshot K) := fun_fd (W.d.def_ 68 (d := d_Primary_snapshot) rfl)
theorem Wd.bd_Primary_snapshot (W : Wd K mg base) : Binds K (F_Primary_snapshot K) ["self", "at"] [] := (W.fu_Primary_snapshot).bindsN fun _ _ _ _ _ _ us hl => match us, hl with | [_, _], _ => rfl
theorem sc_Primary_snapshot : FnScope ["self", "at", "number"] ["self", "at"] (defScope s_Primary_snapshot) := ⟨rfl, rfl, rfl, by decide +kernel, rfl, by decide +kernel, by decide +kernel⟩
def A_Primary_entry (K : PySem.W.Frag) : Addr := He.fAd K ("Primary", some "entry")
def F_Primary_entry (K : PySem.W.Frag) : FuncData := fdOf K (A_Primary_entry K)
theorem Wd.fu_Primary_entry (W : Wd K mg base) : FunD K "entry" "Primary.entry" (defArgs s_Primary_entry) (defBody s_Primary_entry) (defScope s_Primary_entry) [] [] (A_Primary_entry K) (F_Primary_entry K) := fun_fd (W.d.def_ 69 (d := d_Primary_entry) rfl)
theorem Wd.bd_Primary_entry (W : Wd K mg base) : Binds K (F_Primary_entry K) ["self", "number"] [] := (W.fu_Primary_entry).bindsN fun _ _ _ _ _ _ us hl => match us, hl with | [_, _], _ => rfl
theorem sc_Primary_entry : FnScope ["self", "number", "gained", "lost"] ["self", "number"] (defScope s_Primary_entry) := ⟨rfl, rfl, rfl, by decide +kernel, rfl, by decide +kernel, by decide +kernel⟩
def A_Replica_init (K : PySem.W.Frag) : Addr := He.fAd K ("Replica", some "__init__")
def F_Replica_init (K : PySem.W.Frag) : FuncData := fdOf K (A_Replica_init K)
theorem Wd.fu_Replica_init (W : Wd K mg base) : FunD K "__init__" "Replica.__init__" (defArgs s_Replica_init) (defBody s_Replica_init) (defScope s_Replica_init) [] [] (A_Replica_init K) (F_Replica_init K) := fun_fd (W.d.def_ 70 (d := d_Replica_init) rfl)
theorem Wd.bd_Replica_init (W : Wd K mg base) : Binds K (F_Replica_init K) ["self", "snapshot"] [] := (W.fu_Replica_init).bindsN fun _ _ _ _ _ _ us hl => match us, hl with | [_, _], _ => rfl
theorem sc_Replica_init : FnScope ["self", "snapshot", "grants"] ["self", "snapshot"] (defScope s_Replica_init) := ⟨rfl, rfl, rfl, by decide +kernel, rfl, by decide +kernel, by decide +kernel⟩
def A_Replica_store_id (K : PySem.W.Frag) : Addr := He.fAd K ("Replica", some "store_id")
def F_Replica_store_id (K : PySem.W.Frag) : FuncData := fdOf K (A_Replica_store_id K)
theorem Wd.fu_Replica_store_id (W : Wd K mg base) : FunD K "store_id" "Replica.store_id" (defArgs s_Replica_store_id) (defBody s_Replica_store_id) (defScope s_Replica_store_id) [] [] (A_Replica_store_id K) (F_Replica_store_id K) := fun_fd (W.d.def_ 71 (d := d_Replica_store_id) rfl)
theorem Wd.bd_Replica_store_id (W : Wd K mg base) : Binds K (F_Replica_store_id K) ["self"] [] := (W.fu_Replica_store_id).bindsN fun _ _ _ _ _ _ us hl => match us, hl with | [_], _ => rfl
theorem sc_Replica_store_id : FnScope ["self"] ["self"] (defScope s_Replica_store_id) := ⟨rfl, rfl, rfl, by decide +kernel, rfl, by decide +kernel, by decide +kernel⟩
def A_Replica_revision (K : PySem.W.Frag) : Addr := He.fAd K ("Replica", some "revision")
def F_Replica_revision (K : PySem.W.Frag) : FuncData := fdOf K (A_Replica_revision K)
theorem Wd.fu_Replica_revision (W : Wd K mg base) : FunD K "revision" "Replica.revision" (defArgs s_Replica_revision) (defBody s_Replica_revision) (defScope s_Replica_revision) [] [] (A_Replica_revision K) (F_Replica_revision K) := fun_fd (W.d.def_ 72 (d := d_Replica_revision) rfl)
theorem Wd.bd_Replica_revision (W : Wd K mg base) : Binds K (F_Replica_revision K) ["self"] [] := (W.fu_Replica_revision).bindsN fun _ _ _ _ _ _ us hl => match us, hl with | [_], _ => rfl
theorem sc_Replica_revision : FnScope ["self"] ["self"] (defScope s_Replica_revision) := ⟨rfl, rfl, rfl, by decide +kernel, rfl, by decide +kernel, by decide +kernel⟩
def A_Replica_fits (K : PySem.W.Frag) : Addr := He.fAd K ("Replica", some "fits")
def F_Replica_fits (K : PySem.W.Frag) : FuncData := fdOf K (A_Replica_fits K)
theorem Wd.fu_Replica_fits (W : Wd K mg base) : FunD K "fits" "Replica.fits" (defArgs s_Replica_fits) (defBody s_Replica_fits) (defScope s_Replica_fits) [] [] (A_Replica_fits K) (F_Replica_fits K) := fun_fd (W.d.def_ 73 (d := d_Replica_fits) rfl)
theorem Wd.bd_Replica_fits (W : Wd K mg base) : Binds K (F_Replica_fits K) ["self", "change"] [] := (W.fu_Replica_fits).bindsN fun _ _ _ _ _ _ us hl => match us, hl with | [_, _], _ => rfl
theorem sc_Replica_fits : FnScope ["self", "change"] ["self", "change"] (defScope s_Replica_fits) := ⟨rfl, rfl, rfl, by decide +kernel, rfl, by decide +kernel, by decide +kernel⟩
def A_Replica_check_entry (K : PySem.W.Frag) : Addr := He.fAd K ("Replica", some "check_entry")
def F_Replica_check_entry (K : PySem.W.Frag) : FuncData := fdOf K (A_Replica_check_entry K)
theorem Wd.fu_Replica_check_entry (W : Wd K mg base) : FunD K "check_entry" "Replica.check_entry" (defArgs s_Replica_check_entry) (defBody s_Replica_check_entry) (defScope s_Replica_check_entry) [] [] (A_Replica_check_entry K) (F_Replica_check_entry K) := fun_fd (W.d.def_ 74 (d := d_Replica_check_entry) rfl)
theorem Wd.bd_Replica_check_entry (W : Wd K mg base) : Binds K (F_Replica_check_entry K) ["self", "number", "change"] [] := (W.fu_Replica_check_entry).bindsN fun _ _ _ _ _ _ us hl => match us, hl with | [_, _, _], _ => rfl
theorem sc_Replica_check_entry : FnScope ["self", "number", "change"] ["self", "number", "change"] (defScope s_Replica_check_entry) := ⟨rfl, rfl, rfl, by decide +kernel, rfl, by decide +kernel, by decide +kernel⟩
def A_Replica_receive (K : PySem.W.Frag) : Addr := He.fAd K ("Replica", some "receive")
def F_Replica_receive (K : PySem.W.Frag) : FuncData := fdOf K (A_Replica_receive K)
theorem Wd.fu_Replica_receive (W : Wd K mg base) : FunD K "receive" "Replica.receive" (defArgs s_Replica_receive) (defBody s_Replica_receive) (defScope s_Replica_receive) [] [] (A_Replica_receive K) (F_Replica_receive K) := fun_fd (W.d.def_ 75 (d := d_Replica_receive) rfl)
theorem Wd.bd_Replica_receive (W : Wd K mg base) : Binds K (F_Replica_receive K) ["self", "entry"] [] := (W.fu_Replica_receive).bindsN fun _ _ _ _ _ _ us hl => match us, hl with | [_, _], _ => rfl
theorem sc_Replica_receive : FnScope ["self", "entry", "name", "number", "gained", "lost", "change"] ["self", "entry"] (defScope s_Replica_receive) := ⟨rfl, rfl, rfl, by decide +kernel, rfl, by decide +kernel, by decide +kernel⟩
def A_Replica_take_waiting (K : PySem.W.Frag) : Addr := He.fAd K ("Replica", some "take_waiting")
def F_Replica_take_waiting (K : PySem.W.Frag) : FuncData := fdOf K (A_Replica_take_waiting K)
theorem Wd.fu_Replica_take_waiting (W : Wd K mg base) : FunD K "take_waiting" "Replica.take_waiting" (defArgs s_Replica_take_waiting) (defBody s_Replica_take_waiting) (defScope s_Replica_take_waiting) [] [] (A_Replica_take_waiting K) (F_Replica_take_waiting K) := fun_fd (W.d.def_ 76 (d := d_Replica_take_waiting) rfl)
theorem Wd.bd_Replica_take_waiting (W : Wd K mg base) : Binds K (F_Replica_take_waiting K) ["self"] [] := (W.fu_Replica_take_waiting).bindsN fun _ _ _ _ _ _ us hl => match us, hl with | [_], _ => rfl
theorem sc_Replica_take_waiting : FnScope ["self", "applied", "change"] ["self"] (defScope s_Replica_take_waiting) := ⟨rfl, rfl, rfl, by decide +kernel, rfl, by decide +kernel, by decide +kernel⟩
def A_Replica_check (K : PySem.W.Frag) : Addr := He.fAd K ("Replica", some "check")
def F_Replica_check (K : PySem.W.Frag) : FuncData := fdOf K (A_Replica_check K)
theorem Wd.fu_Replica_check (W : Wd K mg base) : FunD K "check" "Replica.check" (defArgs s_Replica_check) (defBody s_Replica_check) (defScope s_Replica_check) [] [] (A_Replica_check K) (F_Replica_check K) := fun_fd (W.d.def_ 77 (d := d_Replica_check) rfl)
theorem Wd.bd_Replica_check (W : Wd K mg base) : Binds K (F_Replica_check K) ["self", "target", "name", "subject", "at_least"] [] := (W.fu_Replica_check).bindsN fun _ _ _ _ _ _ us hl => match us, hl with | [_, _, _, _, _], _ => rfl
theorem sc_Replica_check : FnScope ["self", "target", "name", "subject", "at_least", "store", "number"] ["self", "target", "name", "subject", "at_least"] (defScope s_Replica_check) := ⟨rfl, rfl, rfl, by decide +kernel, rfl, by decide +kernel, by decide +kernel⟩
def A_law_cell (K : PySem.W.Frag) : Addr := He.fAd K ("_law_cell", none)
def F_law_cell (K : PySem.W.Frag) : FuncData := fdOf K (A_law_cell K)
theorem Wd.fu_law_cell (W : Wd K mg base) : FunD K "_law_cell" "_law_cell" (defArgs s_law_cell) (defBody s_law_cell) (defScope s_law_cell) [] [] (A_law_cell K) (F_law_cell K) := fun_fd (W.d.def_ 78 (d := d_law_cell) rfl)
theorem Wd.bd_law_cell (W : Wd K mg base) : Binds K (F_law_cell K) ["_law_script", "_law_k"] [] := (W.fu_law_cell).bindsN fun _ _ _ _ _ _ us hl => match us, hl with | [_, _], _ => rfl
theorem sc_law_cell : FnScope ["_law_script", "_law_k"] ["_law_script", "_law_k"] (defScope s_law_cell) := ⟨rfl, rfl, rfl, by decide +kernel, rfl, by decide +kernel, by decide +kernel⟩
def A_law_draws (K : PySem.W.Frag) : Addr := He.fAd K ("_law_draws", none)
def F_law_draws (K : PySem.W.Frag) : FuncData := fdOf K (A_law_draws K)
theorem Wd.fu_law_draws (W : Wd K mg base) : FunD K "_law_draws" "_law_draws" (defArgs s_law_draws) (defBody s_law_draws) (defScope s_law_draws) [] [] (A_law_draws K) (F_law_draws K) := fun_fd (W.d.def_ 79 (d := d_law_draws) rfl)
theorem Wd.bd_law_draws (W : Wd K mg base) : Binds K (F_law_draws K) ["_law_cell_here", "_law_count"] [] := (W.fu_law_draws).bindsN fun _ _ _ _ _ _ us hl => match us, hl with | [_, _], _ => rfl
theorem sc_law_draws : FnScope ["_law_cell_here", "_law_count", "_law_found", "_law_is_wide", "_law_k", "_law_mixed"] ["_law_cell_here", "_law_count"] (defScope s_law_draws) := ⟨rfl, rfl, rfl, by decide +kernel, rfl, by decide +kernel, by decide +kernel⟩
def A_law_store (K : PySem.W.Frag) : Addr := He.fAd K ("_law_store", none)
def F_law_store (K : PySem.W.Frag) : FuncData := fdOf K (A_law_store K)
theorem Wd.fu_law_store (W : Wd K mg base) : FunD K "_law_store" "_law_store" (defArgs s_law_store) (defBody s_law_store) (defScope s_law_store) [] [] (A_law_store K) (F_law_store K) := fun_fd (W.d.def_ 80 (d := d_law_store) rfl)
theorem Wd.bd_law_store (W : Wd K mg base) : Binds K (F_law_store K) ["_law_script", "_law_start", "_law_many"] [] := (W.fu_law_store).bindsN fun _ _ _ _ _ _ us hl => match us, hl with | [_, _, _], _ => rfl
theorem sc_law_store : FnScope ["_law_script", "_law_start", "_law_many", "_law_schema", "_law_primary", "_law_k", "_law_draws_here", "_law_updates", "_law_j", "_law_kind", "_law_thing", "_law_who", "_law_line"] ["_law_script", "_law_start", "_law_many"] (defScope s_law_store) := ⟨rfl, rfl, rfl, by decide +kernel, rfl, by decide +kernel, by decide +kernel⟩
def A_law_question (K : PySem.W.Frag) : Addr := He.fAd K ("_law_question", none)
def F_law_question (K : PySem.W.Frag) : FuncData := fdOf K (A_law_question K)
theorem Wd.fu_law_question (W : Wd K mg base) : FunD K "_law_question" "_law_question" (defArgs s_law_question) (defBody s_law_question) (defScope s_law_question) [] [] (A_law_question K) (F_law_question K) := fun_fd (W.d.def_ 81 (d := d_law_question) rfl)
theorem Wd.bd_law_question (W : Wd K mg base) : Binds K (F_law_question K) ["_law_draw"] [] := (W.fu_law_question).bindsN fun _ _ _ _ _ _ us hl => match us, hl with | [_], _ => rfl
theorem sc_law_question : FnScope ["_law_draw", "_law_thing", "_law_name"] ["_law_draw"] (defScope s_law_question) := ⟨rfl, rfl, rfl, by decide +kernel, rfl, by decide +kernel, by decide +kernel⟩
def A_law_number (K : PySem.W.Frag) : Addr := He.fAd K ("_law_number", none)
def F_law_number (K : PySem.W.Frag) : FuncData := fdOf K (A_law_number K)
theorem Wd.fu_law_number (W : Wd K mg base) : FunD K "_law_number" "_law_number" (defArgs s_law_number) (defBody s_law_number) (defScope s_law_number) [] [] (A_law_number K) (F_law_number K) := fun_fd (W.d.def_ 82 (d := d_law_number) rfl)
theorem Wd.bd_law_number (W : Wd K mg base) : Binds K (F_law_number K) ["_law_token"] [] := (W.fu_law_number).bindsN fun _ _ _ _ _ _ us hl => match us, hl with | [_], _ => rfl
theorem sc_law_number : FnScope ["_law_token"] ["_law_token"] (defScope s_law_number) := ⟨rfl, rfl, rfl, by decide +kernel, rfl, by decide +kernel, by decide +kernel⟩
def A_law_is_true (K : PySem.W.Frag) : Addr := He.fAd K ("_law_is_true", none)
def F_law_is_true (K : PySem.W.Frag) : FuncData := fdOf K (A_law_is_true K)
theorem Wd.fu_law_is_true (W : Wd K mg base) : FunD K "_law_is_true" "_law_is_true" (defArgs s_law_is_true) (defBody s_law_is_true) (defScope s_law_is_true) [] [] (A_law_is_true K) (F_law_is_true K) := fun_fd (W.d.def_ 83 (d := d_law_is_true) rfl)
theorem Wd.bd_law_is_true (W : Wd K mg base) : Binds K (F_law_is_true K) ["_law_tables", "_law_question_here", "_law_answer", "_law_least"] [] := (W.fu_law_is_true).bindsN fun _ _ _ _ _ _ us hl => match us, hl with | [_, _, _, _], _ => rfl
theorem sc_law_is_true : FnScope ["_law_tables", "_law_question_here", "_law_answer", "_law_least", "_law_number_here"] ["_law_tables", "_law_question_here", "_law_answer", "_law_least"] (defScope s_law_is_true) := ⟨rfl, rfl, rfl, by decide +kernel, rfl, by decide +kernel, by decide +kernel⟩
def A_law_checked (K : PySem.W.Frag) : Addr := He.fAd K ("_law_checked", none)
def F_law_checked (K : PySem.W.Frag) : FuncData := fdOf K (A_law_checked K)
theorem Wd.fu_law_checked (W : Wd K mg base) : FunD K "_law_checked" "_law_checked" (defArgs s_law_checked) (defBody s_law_checked) (defScope s_law_checked) [] [] (A_law_checked K) (F_law_checked K) := fun_fd (W.d.def_ 84 (d := d_law_checked) rfl)
theorem Wd.bd_law_checked (W : Wd K mg base) : Binds K (F_law_checked K) ["_law_cache", "_law_replica", "_law_question_here", "_law_token"] [] := (W.fu_law_checked).bindsN fun _ _ _ _ _ _ us hl => match us, hl with | [_, _, _, _], _ => rfl
theorem sc_law_checked : FnScope ["_law_cache", "_law_replica", "_law_question_here", "_law_token", "e"] ["_law_cache", "_law_replica", "_law_question_here", "_law_token"] (defScope s_law_checked) := ⟨rfl, rfl, rfl, by decide +kernel, rfl, by decide +kernel, by decide +kernel⟩
def A_law_known (K : PySem.W.Frag) : Addr := He.fAd K ("_law_known", none)
def F_law_known (K : PySem.W.Frag) : FuncData := fdOf K (A_law_known K)
theorem Wd.fu_law_known (W : Wd K mg base) : FunD K "_law_known" "_law_known" (defArgs s_law_known) (defBody s_law_known) (defScope s_law_known) [] [] (A_law_known K) (F_law_known K) := fun_fd (W.d.def_ 85 (d := d_law_known) rfl)
theorem Wd.bd_law_known (W : Wd K mg base) : Binds K (F_law_known K) ["_law_cache", "_law_question_here", "_law_token"] [] := (W.fu_law_known).bindsN fun _ _ _ _ _ _ us hl => match us, hl with | [_, _, _], _ => rfl
theorem sc_law_known : FnScope ["_law_cache", "_law_question_here", "_law_token"] ["_law_cache", "_law_question_here", "_law_token"] (defScope s_law_known) := ⟨rfl, rfl, rfl, by decide +kernel, rfl, by decide +kernel, by decide +kernel⟩
def A_law_applied (K : PySem.W.Frag) : Addr := He.fAd K ("_law_applied", none)
def F_law_applied (K : PySem.W.Frag) : FuncData := fdOf K (A_law_applied K)
theorem Wd.fu_law_applied (W : Wd K mg base) : FunD K "_law_applied" "_law_applied" (defArgs s_law_applied) (defBody s_law_applied) (defScope s_law_applied) [] [] (A_law_applied K) (F_law_applied K) := fun_fd (W.d.def_ 86 (d := d_law_applied) rfl)
theorem Wd.bd_law_applied (W : Wd K mg base) : Binds K (F_law_applied K) ["_law_cache", "_law_entry", "_law_tables"] [] := (W.fu_law_applied).bindsN fun _ _ _ _ _ _ us hl => match us, hl with | [_, _, _], _ => rfl
theorem sc_law_applied : FnScope ["_law_cache", "_law_entry", "_law_tables", "_law_before", "_law_token", "_law_questions", "_law_current", "_law_question_here", "_law_answer", "_law_touched"] ["_law_cache", "_law_entry", "_law_tables"] (defScope s_law_applied) := ⟨rfl, rfl, rfl, by decide +kernel, rfl, by decide +kernel, by decide +kernel⟩
def A_law (K : PySem.W.Frag) : Addr := He.fAd K ("law", none)
def F_law (K : PySem.W.Frag) : FuncData := fdOf K (A_law K)
theorem Wd.fu_law (W : Wd K mg base) : FunD K "law" "law" (defArgs s_law) (defBody s_law) (defScope s_law) [] [] (A_law K) (F_law K) := fun_fd (W.d.def_ 87 (d := d_law) rfl)
theorem Wd.bd_law (W : Wd K mg base) : Binds K (F_law K) ["_law_script"] [] := (W.fu_law).bindsN fun _ _ _ _ _ _ us hl => match us, hl with | [_], _ => rfl
theorem sc_law : FnScope ["_law_script", "_law_primary", "_law_last", "_law_tables", "_law_start", "_law_replica", "_law_cache", "_law_k", "_law_draws_here", "_law_kind", "_law_question_here", "_law_least", "_law_known_here", "_law_answer"] ["_law_script"] (defScope s_law) := ⟨rfl, rfl, rfl, by decide +kernel, rfl, by decide +kernel, by decide +kernel⟩
theorem Wd.gl_AuthError (W : Wd K mg base) : mg "AuthError" = some (.ref (He.ga K "AuthError")) := He.glo_ok W.kin W.ns (W.d.fact 0 (f := .glo "AuthError") rfl)
theorem Wd.gl_Refused (W : Wd K mg base) : mg "Refused" = some (.ref (He.ga K "Refused")) := He.glo_ok W.kin W.ns (W.d.fact 1 (f := .glo "Refused") rfl)
theorem Wd.in_MOST (W : Wd K mg base) : ∃ t, mg "MOST" = some (.int 20 t) := He.int_ok W.kin W.ns (W.d.fact 2 (f := .int "MOST" 20) rfl)
theorem Wd.in_REVISION_MOST (W : Wd K mg base) : ∃ t, mg "REVISION_MOST" = some (.int 1000 t) := He.int_ok W.kin W.ns (W.d.fact 3 (f := .int "REVISION_MOST" 1000) rfl)
theorem Wd.gl_is_sign (W : Wd K mg base) : mg "is_sign" = some (.ref (He.ga K "is_sign")) := He.glo_ok W.kin W.ns (W.d.fact 4 (f := .glo "is_sign") rfl)
theorem Wd.gl_is_word (W : Wd K mg base) : mg "is_word" = some (.ref (He.ga K "is_word")) := He.glo_ok W.kin W.ns (W.d.fact 5 (f := .glo "is_word") rfl)
theorem Wd.gl_is_identifier (W : Wd K mg base) : mg "is_identifier" = some (.ref (He.ga K "is_identifier")) := He.glo_ok W.kin W.ns (W.d.fact 6 (f := .glo "is_identifier") rfl)
theorem Wd.gl_type_of (W : Wd K mg base) : mg "type_of" = some (.ref (He.ga K "type_of")) := He.glo_ok W.kin W.ns (W.d.fact 7 (f := .glo "type_of") rfl)
theorem Wd.gl_split_reference (W : Wd K mg base) : mg "split_reference" = some (.ref (He.ga K "split_reference")) := He.glo_ok W.kin W.ns (W.d.fact 8 (f := .glo "split_reference") rfl)
theorem Wd.gl_token_of (W : Wd K mg base) : mg "token_of" = some (.ref (He.ga K "token_of")) := He.glo_ok W.kin W.ns (W.d.fact 9 (f := .glo "token_of") rfl)
theorem Wd.gl_split_token (W : Wd K mg base) : mg "split_token" = some (.ref (He.ga K "split_token")) := He.glo_ok W.kin W.ns (W.d.fact 10 (f := .glo "split_token") rfl)
theorem Wd.gl_Cache (W : Wd K mg base) : mg "Cache" = some (.ref (He.ga K "Cache")) := He.glo_ok W.kin W.ns (W.d.fact 11 (f := .glo "Cache") rfl)
theorem Wd.cl_Cache (W : Wd K mg base) : Cls K (He.ga K "Cache") := He.cls_ok (W.d.fact 12 (f := .cls "Cache") rfl)
theorem Wd.mk_Cache (W : Wd K mg base) : Mk K (He.ga K "Cache") (A_Cache_init K) := He.mkr_ok (W.d.fact 13 (f := .mkr "Cache") rfl)
theorem Wd.na_Cache_own_id (W : Wd K mg base) : NoAttr K (He.ga K "Cache") "own_id" := He.noat_ok (W.d.fact 14 (f := .noat "Cache" "own_id") rfl)
theorem Wd.na_Cache_number (W : Wd K mg base) : NoAttr K (He.ga K "Cache") "number" := He.noat_ok (W.d.fact 15 (f := .noat "Cache" "number") rfl)
theorem Wd.na_Cache_capacity (W : Wd K mg base) : NoAttr K (He.ga K "Cache") "capacity" := He.noat_ok (W.d.fact 16 (f := .noat "Cache" "capacity") rfl)
theorem Wd.na_Cache_entries (W : Wd K mg base) : NoAttr K (He.ga K "Cache") "entries" := He.noat_ok (W.d.fact 17 (f := .noat "Cache" "entries") rfl)
theorem Wd.mt_Cache_revision (W : Wd K mg base) : Meth K (He.ga K "Cache") "revision" (A_Cache_revision K) := He.meth_ok (W.d.fact 18 (f := .meth "Cache" "revision") rfl)
theorem Wd.mt_Cache_questions (W : Wd K mg base) : Meth K (He.ga K "Cache") "questions" (A_Cache_questions K) := He.meth_ok (W.d.fact 19 (f := .meth "Cache" "questions") rfl)
theorem Wd.mt_Cache_number_of (W : Wd K mg base) : Meth K (He.ga K "Cache") "number_of" (A_Cache_number_of K) := He.meth_ok (W.d.fact 20 (f := .meth "Cache" "number_of") rfl)
theorem Wd.mt_Cache_use (W : Wd K mg base) : Meth K (He.ga K "Cache") "use" (A_Cache_use K) := He.meth_ok (W.d.fact 21 (f := .meth "Cache" "use") rfl)
theorem Wd.mt_Cache_store (W : Wd K mg base) : Meth K (He.ga K "Cache") "store" (A_Cache_store K) := He.meth_ok (W.d.fact 22 (f := .meth "Cache" "store") rfl)
theorem Wd.mt_Cache_apply (W : Wd K mg base) : Meth K (He.ga K "Cache") "apply" (A_Cache_apply K) := He.meth_ok (W.d.fact 23 (f := .meth "Cache" "apply") rfl)
theorem Wd.mt_Cache_lookup (W : Wd K mg base) : Meth K (He.ga K "Cache") "lookup" (A_Cache_lookup K) := He.meth_ok (W.d.fact 24 (f := .meth "Cache" "lookup") rfl)
theorem Wd.mt_Cache_check (W : Wd K mg base) : Meth K (He.ga K "Cache") "check" (A_Cache_check K) := He.meth_ok (W.d.fact 25 (f := .meth "Cache" "check") rfl)
theorem Wd.gl_difference (W : Wd K mg base) : mg "difference" = some (.ref (He.ga K "difference")) := He.glo_ok W.kin W.ns (W.d.fact 26 (f := .glo "difference") rfl)
theorem Wd.gl_applies (W : Wd K mg base) : mg "applies" = some (.ref (He.ga K "applies")) := He.glo_ok W.kin W.ns (W.d.fact 27 (f := .glo "applies") rfl)
theorem Wd.gl_apply_change (W : Wd K mg base) : mg "apply_change" = some (.ref (He.ga K "apply_change")) := He.glo_ok W.kin W.ns (W.d.fact 28 (f := .glo "apply_change") rfl)
theorem Wd.in_TYPES_MOST (W : Wd K mg base) : ∃ t, mg "TYPES_MOST" = some (.int 8 t) := He.int_ok W.kin W.ns (W.d.fact 29 (f := .int "TYPES_MOST" 8) rfl)
theorem Wd.in_NAMES_MOST (W : Wd K mg base) : ∃ t, mg "NAMES_MOST" = some (.int 8 t) := He.int_ok W.kin W.ns (W.d.fact 30 (f := .int "NAMES_MOST" 8) rfl)
theorem Wd.in_SUBJECTS_MOST (W : Wd K mg base) : ∃ t, mg "SUBJECTS_MOST" = some (.int 8 t) := He.int_ok W.kin W.ns (W.d.fact 31 (f := .int "SUBJECTS_MOST" 8) rfl)
theorem Wd.in_TERMS_MOST (W : Wd K mg base) : ∃ t, mg "TERMS_MOST" = some (.int 16 t) := He.int_ok W.kin W.ns (W.d.fact 32 (f := .int "TERMS_MOST" 16) rfl)
theorem Wd.gl_Line (W : Wd K mg base) : mg "Line" = some (.ref (He.ga K "Line")) := He.glo_ok W.kin W.ns (W.d.fact 33 (f := .glo "Line") rfl)
theorem Wd.cl_Line (W : Wd K mg base) : Cls K (He.ga K "Line") := He.cls_ok (W.d.fact 34 (f := .cls "Line") rfl)
theorem Wd.mk_Line (W : Wd K mg base) : Mk K (He.ga K "Line") (A_Line_init K) := He.mkr_ok (W.d.fact 35 (f := .mkr "Line") rfl)
theorem Wd.na_Line_number (W : Wd K mg base) : NoAttr K (He.ga K "Line") "number" := He.noat_ok (W.d.fact 36 (f := .noat "Line" "number") rfl)
theorem Wd.na_Line_parts (W : Wd K mg base) : NoAttr K (He.ga K "Line") "parts" := He.noat_ok (W.d.fact 37 (f := .noat "Line" "parts") rfl)
theorem Wd.na_Line_at (W : Wd K mg base) : NoAttr K (He.ga K "Line") "at" := He.noat_ok (W.d.fact 38 (f := .noat "Line" "at") rfl)
theorem Wd.mt_Line_next_part (W : Wd K mg base) : Meth K (He.ga K "Line") "next_part" (A_Line_next_part K) := He.meth_ok (W.d.fact 39 (f := .meth "Line" "next_part") rfl)
theorem Wd.mt_Line_take (W : Wd K mg base) : Meth K (He.ga K "Line") "take" (A_Line_take K) := He.meth_ok (W.d.fact 40 (f := .meth "Line" "take") rfl)
theorem Wd.mt_Line_expect (W : Wd K mg base) : Meth K (He.ga K "Line") "expect" (A_Line_expect K) := He.meth_ok (W.d.fact 41 (f := .meth "Line" "expect") rfl)
theorem Wd.mt_Line_name (W : Wd K mg base) : Meth K (He.ga K "Line") "name" (A_Line_name K) := He.meth_ok (W.d.fact 42 (f := .meth "Line" "name") rfl)
theorem Wd.mt_Line_accepts (W : Wd K mg base) : Meth K (He.ga K "Line") "accepts" (A_Line_accepts K) := He.meth_ok (W.d.fact 43 (f := .meth "Line" "accepts") rfl)
theorem Wd.mt_Line_finish (W : Wd K mg base) : Meth K (He.ga K "Line") "finish" (A_Line_finish K) := He.meth_ok (W.d.fact 44 (f := .meth "Line" "finish") rfl)
theorem Wd.gl_parts_of_line (W : Wd K mg base) : mg "parts_of_line" = some (.ref (He.ga K "parts_of_line")) := He.glo_ok W.kin W.ns (W.d.fact 45 (f := .glo "parts_of_line") rfl)
theorem Wd.gl_read_subject (W : Wd K mg base) : mg "read_subject" = some (.ref (He.ga K "read_subject")) := He.glo_ok W.kin W.ns (W.d.fact 46 (f := .glo "read_subject") rfl)
theorem Wd.gl_read_relation (W : Wd K mg base) : mg "read_relation" = some (.ref (He.ga K "read_relation")) := He.glo_ok W.kin W.ns (W.d.fact 47 (f := .glo "read_relation") rfl)
theorem Wd.gl_read_term (W : Wd K mg base) : mg "read_term" = some (.ref (He.ga K "read_term")) := He.glo_ok W.kin W.ns (W.d.fact 48 (f := .glo "read_term") rfl)
theorem Wd.gl_read_permission (W : Wd K mg base) : mg "read_permission" = some (.ref (He.ga K "read_permission")) := He.glo_ok W.kin W.ns (W.d.fact 49 (f := .glo "read_permission") rfl)
theorem Wd.gl_read_line (W : Wd K mg base) : mg "read_line" = some (.ref (He.ga K "read_line")) := He.glo_ok W.kin W.ns (W.d.fact 50 (f := .glo "read_line") rfl)
theorem Wd.gl_check_duplicates (W : Wd K mg base) : mg "check_duplicates" = some (.ref (He.ga K "check_duplicates")) := He.glo_ok W.kin W.ns (W.d.fact 51 (f := .glo "check_duplicates") rfl)
theorem Wd.gl_entry_of (W : Wd K mg base) : mg "entry_of" = some (.ref (He.ga K "entry_of")) := He.glo_ok W.kin W.ns (W.d.fact 52 (f := .glo "entry_of") rfl)
theorem Wd.gl_definition (W : Wd K mg base) : mg "definition" = some (.ref (He.ga K "definition")) := He.glo_ok W.kin W.ns (W.d.fact 53 (f := .glo "definition") rfl)
theorem Wd.gl_led_types (W : Wd K mg base) : mg "led_types" = some (.ref (He.ga K "led_types")) := He.glo_ok W.kin W.ns (W.d.fact 54 (f := .glo "led_types") rfl)
theorem Wd.gl_is_known (W : Wd K mg base) : mg "is_known" = some (.ref (He.ga K "is_known")) := He.glo_ok W.kin W.ns (W.d.fact 55 (f := .glo "is_known") rfl)
theorem Wd.gl_needs_of (W : Wd K mg base) : mg "needs_of" = some (.ref (He.ga K "needs_of")) := He.glo_ok W.kin W.ns (W.d.fact 56 (f := .glo "needs_of") rfl)
theorem Wd.gl_strata (W : Wd K mg base) : mg "strata" = some (.ref (He.ga K "strata")) := He.glo_ok W.kin W.ns (W.d.fact 57 (f := .glo "strata") rfl)
theorem Wd.gl_read_schema (W : Wd K mg base) : mg "read_schema" = some (.ref (He.ga K "read_schema")) := He.glo_ok W.kin W.ns (W.d.fact 58 (f := .glo "read_schema") rfl)
theorem Wd.gl_conforms (W : Wd K mg base) : mg "conforms" = some (.ref (He.ga K "conforms")) := He.glo_ok W.kin W.ns (W.d.fact 59 (f := .glo "conforms") rfl)
theorem Wd.gl_check_relationships (W : Wd K mg base) : mg "check_relationships" = some (.ref (He.ga K "check_relationships")) := He.glo_ok W.kin W.ns (W.d.fact 60 (f := .glo "check_relationships") rfl)
theorem Wd.gl_Graph (W : Wd K mg base) : mg "Graph" = some (.ref (He.ga K "Graph")) := He.glo_ok W.kin W.ns (W.d.fact 61 (f := .glo "Graph") rfl)
theorem Wd.cl_Graph (W : Wd K mg base) : Cls K (He.ga K "Graph") := He.cls_ok (W.d.fact 62 (f := .cls "Graph") rfl)
theorem Wd.mk_Graph (W : Wd K mg base) : Mk K (He.ga K "Graph") (A_Graph_init K) := He.mkr_ok (W.d.fact 63 (f := .mkr "Graph") rfl)
theorem Wd.na_Graph_schema (W : Wd K mg base) : NoAttr K (He.ga K "Graph") "schema" := He.noat_ok (W.d.fact 64 (f := .noat "Graph" "schema") rfl)
theorem Wd.na_Graph_strata (W : Wd K mg base) : NoAttr K (He.ga K "Graph") "strata" := He.noat_ok (W.d.fact 65 (f := .noat "Graph" "strata") rfl)
theorem Wd.na_Graph_subjects (W : Wd K mg base) : NoAttr K (He.ga K "Graph") "subjects" := He.noat_ok (W.d.fact 66 (f := .noat "Graph" "subjects") rfl)
theorem Wd.na_Graph_objects (W : Wd K mg base) : NoAttr K (He.ga K "Graph") "objects" := He.noat_ok (W.d.fact 67 (f := .noat "Graph" "objects") rfl)
theorem Wd.na_Graph_people (W : Wd K mg base) : NoAttr K (He.ga K "Graph") "people" := He.noat_ok (W.d.fact 68 (f := .noat "Graph" "people") rfl)
theorem Wd.mt_Graph_subjects_of (W : Wd K mg base) : Meth K (He.ga K "Graph") "subjects_of" (A_Graph_subjects_of K) := He.meth_ok (W.d.fact 69 (f := .meth "Graph" "subjects_of") rfl)
theorem Wd.mt_Graph_stratum_of (W : Wd K mg base) : Meth K (He.ga K "Graph") "stratum_of" (A_Graph_stratum_of K) := He.meth_ok (W.d.fact 70 (f := .meth "Graph" "stratum_of") rfl)
theorem Wd.mt_Graph_pairs_of (W : Wd K mg base) : Meth K (He.ga K "Graph") "pairs_of" (A_Graph_pairs_of K) := He.meth_ok (W.d.fact 71 (f := .meth "Graph" "pairs_of") rfl)
theorem Wd.mt_Graph_depends_on (W : Wd K mg base) : Meth K (He.ga K "Graph") "depends_on" (A_Graph_depends_on K) := He.meth_ok (W.d.fact 72 (f := .meth "Graph" "depends_on") rfl)
theorem Wd.gl_count_of (W : Wd K mg base) : mg "count_of" = some (.ref (He.ga K "count_of")) := He.glo_ok W.kin W.ns (W.d.fact 73 (f := .glo "count_of") rfl)
theorem Wd.gl_least (W : Wd K mg base) : mg "least" = some (.ref (He.ga K "least")) := He.glo_ok W.kin W.ns (W.d.fact 74 (f := .glo "least") rfl)
theorem Wd.gl_both (W : Wd K mg base) : mg "both" = some (.ref (He.ga K "both")) := He.glo_ok W.kin W.ns (W.d.fact 75 (f := .glo "both") rfl)
theorem Wd.gl_rule_count (W : Wd K mg base) : mg "rule_count" = some (.ref (He.ga K "rule_count")) := He.glo_ok W.kin W.ns (W.d.fact 76 (f := .glo "rule_count") rfl)
theorem Wd.gl_names_by_stratum (W : Wd K mg base) : mg "names_by_stratum" = some (.ref (He.ga K "names_by_stratum")) := He.glo_ok W.kin W.ns (W.d.fact 77 (f := .glo "names_by_stratum") rfl)
theorem Wd.gl_ranks_for (W : Wd K mg base) : mg "ranks_for" = some (.ref (He.ga K "ranks_for")) := He.glo_ok W.kin W.ns (W.d.fact 78 (f := .glo "ranks_for") rfl)
theorem Wd.gl_ranked (W : Wd K mg base) : mg "ranked" = some (.ref (He.ga K "ranked")) := He.glo_ok W.kin W.ns (W.d.fact 79 (f := .glo "ranked") rfl)
theorem Wd.gl_evaluate (W : Wd K mg base) : mg "evaluate" = some (.ref (He.ga K "evaluate")) := He.glo_ok W.kin W.ns (W.d.fact 80 (f := .glo "evaluate") rfl)
theorem Wd.in_MOST_REVISIONS (W : Wd K mg base) : ∃ t, mg "MOST_REVISIONS" = some (.int 40 t) := He.int_ok W.kin W.ns (W.d.fact 81 (f := .int "MOST_REVISIONS" 40) rfl)
theorem Wd.in_MOST_RELATIONSHIPS (W : Wd K mg base) : ∃ t, mg "MOST_RELATIONSHIPS" = some (.int 40 t) := He.int_ok W.kin W.ns (W.d.fact 82 (f := .int "MOST_RELATIONSHIPS" 40) rfl)
theorem Wd.gl_Revision (W : Wd K mg base) : mg "Revision" = some (.ref (He.ga K "Revision")) := He.glo_ok W.kin W.ns (W.d.fact 83 (f := .glo "Revision") rfl)
theorem Wd.cl_Revision (W : Wd K mg base) : Cls K (He.ga K "Revision") := He.cls_ok (W.d.fact 84 (f := .cls "Revision") rfl)
theorem Wd.mk_Revision (W : Wd K mg base) : Mk K (He.ga K "Revision") (A_Revision_init K) := He.mkr_ok (W.d.fact 85 (f := .mkr "Revision") rfl)
theorem Wd.na_Revision_schema (W : Wd K mg base) : NoAttr K (He.ga K "Revision") "schema" := He.noat_ok (W.d.fact 86 (f := .noat "Revision" "schema") rfl)
theorem Wd.na_Revision_relationships (W : Wd K mg base) : NoAttr K (He.ga K "Revision") "relationships" := He.noat_ok (W.d.fact 87 (f := .noat "Revision" "relationships") rfl)
theorem Wd.na_Revision_table (W : Wd K mg base) : NoAttr K (He.ga K "Revision") "table" := He.noat_ok (W.d.fact 88 (f := .noat "Revision" "table") rfl)
theorem Wd.gl_Primary (W : Wd K mg base) : mg "Primary" = some (.ref (He.ga K "Primary")) := He.glo_ok W.kin W.ns (W.d.fact 89 (f := .glo "Primary") rfl)
theorem Wd.cl_Primary (W : Wd K mg base) : Cls K (He.ga K "Primary") := He.cls_ok (W.d.fact 90 (f := .cls "Primary") rfl)
theorem Wd.mk_Primary (W : Wd K mg base) : Mk K (He.ga K "Primary") (A_Primary_init K) := He.mkr_ok (W.d.fact 91 (f := .mkr "Primary") rfl)
theorem Wd.na_Primary_name (W : Wd K mg base) : NoAttr K (He.ga K "Primary") "name" := He.noat_ok (W.d.fact 92 (f := .noat "Primary" "name") rfl)
theorem Wd.na_Primary_first (W : Wd K mg base) : NoAttr K (He.ga K "Primary") "first" := He.noat_ok (W.d.fact 93 (f := .noat "Primary" "first") rfl)
theorem Wd.na_Primary_revisions (W : Wd K mg base) : NoAttr K (He.ga K "Primary") "revisions" := He.noat_ok (W.d.fact 94 (f := .noat "Primary" "revisions") rfl)
theorem Wd.mt_Primary_revision (W : Wd K mg base) : Meth K (He.ga K "Primary") "revision" (A_Primary_revision K) := He.meth_ok (W.d.fact 95 (f := .meth "Primary" "revision") rfl)
theorem Wd.mt_Primary_token (W : Wd K mg base) : Meth K (He.ga K "Primary") "token" (A_Primary_token K) := He.meth_ok (W.d.fact 96 (f := .meth "Primary" "token") rfl)
theorem Wd.mt_Primary_check_room (W : Wd K mg base) : Meth K (He.ga K "Primary") "check_room" (A_Primary_check_room K) := He.meth_ok (W.d.fact 97 (f := .meth "Primary" "check_room") rfl)
theorem Wd.mt_Primary_check_update (W : Wd K mg base) : Meth K (He.ga K "Primary") "check_update" (A_Primary_check_update K) := He.meth_ok (W.d.fact 98 (f := .meth "Primary" "check_update") rfl)
theorem Wd.mt_Primary_after_updates (W : Wd K mg base) : Meth K (He.ga K "Primary") "after_updates" (A_Primary_after_updates K) := He.meth_ok (W.d.fact 99 (f := .meth "Primary" "after_updates") rfl)
theorem Wd.mt_Primary_write (W : Wd K mg base) : Meth K (He.ga K "Primary") "write" (A_Primary_write K) := He.meth_ok (W.d.fact 100 (f := .meth "Primary" "write") rfl)
theorem Wd.mt_Primary_number_at (W : Wd K mg base) : Meth K (He.ga K "Primary") "number_at" (A_Primary_number_at K) := He.meth_ok (W.d.fact 101 (f := .meth "Primary" "number_at") rfl)
theorem Wd.mt_Primary_check_revision (W : Wd K mg base) : Meth K (He.ga K "Primary") "check_revision" (A_Primary_check_revision K) := He.meth_ok (W.d.fact 102 (f := .meth "Primary" "check_revision") rfl)
theorem Wd.mt_Primary_at_number (W : Wd K mg base) : Meth K (He.ga K "Primary") "at_number" (A_Primary_at_number K) := He.meth_ok (W.d.fact 103 (f := .meth "Primary" "at_number") rfl)
theorem Wd.mt_Primary_relationships (W : Wd K mg base) : Meth K (He.ga K "Primary") "relationships" (A_Primary_relationships K) := He.meth_ok (W.d.fact 104 (f := .meth "Primary" "relationships") rfl)
theorem Wd.mt_Primary_grants (W : Wd K mg base) : Meth K (He.ga K "Primary") "grants" (A_Primary_grants K) := He.meth_ok (W.d.fact 105 (f := .meth "Primary" "grants") rfl)
theorem Wd.mt_Primary_snapshot (W : Wd K mg base) : Meth K (He.ga K "Primary") "snapshot" (A_Primary_snapshot K) := He.meth_ok (W.d.fact 106 (f := .meth "Primary" "snapshot") rfl)
theorem Wd.mt_Primary_entry (W : Wd K mg base) : Meth K (He.ga K "Primary") "entry" (A_Primary_entry K) := He.meth_ok (W.d.fact 107 (f := .meth "Primary" "entry") rfl)
theorem Wd.in_MOST_GRANTS (W : Wd K mg base) : ∃ t, mg "MOST_GRANTS" = some (.int 12800 t) := He.int_ok W.kin W.ns (W.d.fact 108 (f := .int "MOST_GRANTS" 12800) rfl)
theorem Wd.in_MOST_AHEAD (W : Wd K mg base) : ∃ t, mg "MOST_AHEAD" = some (.int 40 t) := He.int_ok W.kin W.ns (W.d.fact 109 (f := .int "MOST_AHEAD" 40) rfl)
theorem Wd.gl_Replica (W : Wd K mg base) : mg "Replica" = some (.ref (He.ga K "Replica")) := He.glo_ok W.kin W.ns (W.d.fact 110 (f := .glo "Replica") rfl)
theorem Wd.cl_Replica (W : Wd K mg base) : Cls K (He.ga K "Replica") := He.cls_ok (W.d.fact 111 (f := .cls "Replica") rfl)
theorem Wd.mk_Replica (W : Wd K mg base) : Mk K (He.ga K "Replica") (A_Replica_init K) := He.mkr_ok (W.d.fact 112 (f := .mkr "Replica") rfl)
theorem Wd.na_Replica_name (W : Wd K mg base) : NoAttr K (He.ga K "Replica") "name" := He.noat_ok (W.d.fact 113 (f := .noat "Replica" "name") rfl)
theorem Wd.na_Replica_number (W : Wd K mg base) : NoAttr K (He.ga K "Replica") "number" := He.noat_ok (W.d.fact 114 (f := .noat "Replica" "number") rfl)
theorem Wd.na_Replica_table (W : Wd K mg base) : NoAttr K (He.ga K "Replica") "table" := He.noat_ok (W.d.fact 115 (f := .noat "Replica" "table") rfl)
theorem Wd.na_Replica_later (W : Wd K mg base) : NoAttr K (He.ga K "Replica") "later" := He.noat_ok (W.d.fact 116 (f := .noat "Replica" "later") rfl)
theorem Wd.mt_Replica_store_id (W : Wd K mg base) : Meth K (He.ga K "Replica") "store_id" (A_Replica_store_id K) := He.meth_ok (W.d.fact 117 (f := .meth "Replica" "store_id") rfl)
theorem Wd.mt_Replica_revision (W : Wd K mg base) : Meth K (He.ga K "Replica") "revision" (A_Replica_revision K) := He.meth_ok (W.d.fact 118 (f := .meth "Replica" "revision") rfl)
theorem Wd.mt_Replica_fits (W : Wd K mg base) : Meth K (He.ga K "Replica") "fits" (A_Replica_fits K) := He.meth_ok (W.d.fact 119 (f := .meth "Replica" "fits") rfl)
theorem Wd.mt_Replica_check_entry (W : Wd K mg base) : Meth K (He.ga K "Replica") "check_entry" (A_Replica_check_entry K) := He.meth_ok (W.d.fact 120 (f := .meth "Replica" "check_entry") rfl)
theorem Wd.mt_Replica_receive (W : Wd K mg base) : Meth K (He.ga K "Replica") "receive" (A_Replica_receive K) := He.meth_ok (W.d.fact 121 (f := .meth "Replica" "receive") rfl)
theorem Wd.mt_Replica_take_waiting (W : Wd K mg base) : Meth K (He.ga K "Replica") "take_waiting" (A_Replica_take_waiting K) := He.meth_ok (W.d.fact 122 (f := .meth "Replica" "take_waiting") rfl)
theorem Wd.mt_Replica_check (W : Wd K mg base) : Meth K (He.ga K "Replica") "check" (A_Replica_check K) := He.meth_ok (W.d.fact 123 (f := .meth "Replica" "check") rfl)
theorem Wd.gl_law_cell (W : Wd K mg base) : mg "_law_cell" = some (.ref (He.ga K "_law_cell")) := He.glo_ok W.kin W.ns (W.d.fact 124 (f := .glo "_law_cell") rfl)
theorem Wd.gl_law_draws (W : Wd K mg base) : mg "_law_draws" = some (.ref (He.ga K "_law_draws")) := He.glo_ok W.kin W.ns (W.d.fact 125 (f := .glo "_law_draws") rfl)
theorem Wd.gl_law_store (W : Wd K mg base) : mg "_law_store" = some (.ref (He.ga K "_law_store")) := He.glo_ok W.kin W.ns (W.d.fact 126 (f := .glo "_law_store") rfl)
theorem Wd.gl_law_question (W : Wd K mg base) : mg "_law_question" = some (.ref (He.ga K "_law_question")) := He.glo_ok W.kin W.ns (W.d.fact 127 (f := .glo "_law_question") rfl)
theorem Wd.gl_law_number (W : Wd K mg base) : mg "_law_number" = some (.ref (He.ga K "_law_number")) := He.glo_ok W.kin W.ns (W.d.fact 128 (f := .glo "_law_number") rfl)
theorem Wd.gl_law_is_true (W : Wd K mg base) : mg "_law_is_true" = some (.ref (He.ga K "_law_is_true")) := He.glo_ok W.kin W.ns (W.d.fact 129 (f := .glo "_law_is_true") rfl)
theorem Wd.gl_law_checked (W : Wd K mg base) : mg "_law_checked" = some (.ref (He.ga K "_law_checked")) := He.glo_ok W.kin W.ns (W.d.fact 130 (f := .glo "_law_checked") rfl)
theorem Wd.gl_law_known (W : Wd K mg base) : mg "_law_known" = some (.ref (He.ga K "_law_known")) := He.glo_ok W.kin W.ns (W.d.fact 131 (f := .glo "_law_known") rfl)
theorem Wd.gl_law_applied (W : Wd K mg base) : mg "_law_applied" = some (.ref (He.ga K "_law_applied")) := He.glo_ok W.kin W.ns (W.d.fact 132 (f := .glo "_law_applied") rfl)
theorem Wd.gl_law (W : Wd K mg base) : mg "law" = some (.ref (He.ga K "law")) := He.glo_ok W.kin W.ns (W.d.fact 133 (f := .glo "law") rfl)
theorem Wd.fr_all (W : Wd K mg base) : mg "all" = none := He.free_ok W.kin W.ns (W.d.fact 134 (f := .free "all") rfl)
theorem Wd.fr_any (W : Wd K mg base) : mg "any" = none := He.free_ok W.kin W.ns (W.d.fact 135 (f := .free "any") rfl)
theorem Wd.fr_bool (W : Wd K mg base) : mg "bool" = none := He.free_ok W.kin W.ns (W.d.fact 136 (f := .free "bool") rfl)
theorem Wd.fr_enumerate (W : Wd K mg base) : mg "enumerate" = none := He.free_ok W.kin W.ns (W.d.fact 137 (f := .free "enumerate") rfl)
theorem Wd.fr_int (W : Wd K mg base) : mg "int" = none := He.free_ok W.kin W.ns (W.d.fact 138 (f := .free "int") rfl)
theorem Wd.fr_isinstance (W : Wd K mg base) : mg "isinstance" = none := He.free_ok W.kin W.ns (W.d.fact 139 (f := .free "isinstance") rfl)
theorem Wd.fr_len (W : Wd K mg base) : mg "len" = none := He.free_ok W.kin W.ns (W.d.fact 140 (f := .free "len") rfl)
theorem Wd.fr_list (W : Wd K mg base) : mg "list" = none := He.free_ok W.kin W.ns (W.d.fact 141 (f := .free "list") rfl)
theorem Wd.fr_max (W : Wd K mg base) : mg "max" = none := He.free_ok W.kin W.ns (W.d.fact 142 (f := .free "max") rfl)
theorem Wd.fr_min (W : Wd K mg base) : mg "min" = none := He.free_ok W.kin W.ns (W.d.fact 143 (f := .free "min") rfl)
theorem Wd.fr_range (W : Wd K mg base) : mg "range" = none := He.free_ok W.kin W.ns (W.d.fact 144 (f := .free "range") rfl)
theorem Wd.fr_sorted (W : Wd K mg base) : mg "sorted" = none := He.free_ok W.kin W.ns (W.d.fact 145 (f := .free "sorted") rfl)
theorem Wd.fr_str (W : Wd K mg base) : mg "str" = none := He.free_ok W.kin W.ns (W.d.fact 146 (f := .free "str") rfl)
theorem Wd.fr_super (W : Wd K mg base) : mg "super" = none := He.free_ok W.kin W.ns (W.d.fact 147 (f := .free "super") rfl)
theorem Wd.fr_tuple (W : Wd K mg base) : mg "tuple" = none := He.free_ok W.kin W.ns (W.d.fact 148 (f := .free "tuple") rfl)
theorem Wd.exm_Refused (W : Wd K mg base) : PySem.W.exmOne K (.ref (He.ga K "Refused")) (.ref (He.ga K "Refused")) = some true := He.exm_ok (W.d.fact 149 (f := .exm "Refused" "Refused" true) rfl)
end
end K83
namespace K83
open PySem PySem.Spec PyProof.Rows L2 GxR
/-! ### heaps: what stands as before, but for the objects in M -/
structure Sx (M : Addr → Prop) (H H' : Hp) : Prop where
  keep : ∀ b o, H b = some o → ¬ M b → (∀ ps, o ≠ .tbl ps) → H' b = some o
  tups : ∀ b xs, H b = some (.tup xs) → H' b = some (.tup xs)
  frzs : ∀ b o u, H b = some (.frz o u) → H' b = some (.frz o u)
  tabs : ∀ T, TabG H T → TabG H' T
  old : ∀ b, H' b = none → H b = none
abbrev Nob : Addr → Prop := fun _ => False
abbrev Sm : Hp → Hp → Prop := Sx Nob
section
variable {M M' : Addr → Prop} {H H1 H2 H' : Hp} {K : PySem.W.Frag}
theorem Sx.refl (H : Hp) : Sx M H H := ⟨fun _ _ h _ _ => h, fun _ _ h => h, fun _ _ _ h => h, fun _ h => h, fun _ h => h⟩
theorem Sx.trans (a : Sx M H H1) (b : Sx M H1 H2) : Sx M H H2 := ⟨fun c o h m n => b.keep c o (a.keep c o h m n) m n, fun c xs h => b.tups c xs (a.tups c xs h), fun c o u h => b.frzs c o u (a.frzs c o u h), fun T h => b.tabs T (a.tabs T h), fun c h => a.old c (b.old c h)⟩
theorem Sx.mono (a : Sx M H H1) (h : ∀ b, M b → M' b) : Sx M' H H1 := ⟨fun c o e m n => a.keep c o e (fun z => m (h c z)) n, a.tups, a.frzs, a.tabs, a.old⟩
theorem Sx.of (a : Sm H H1) : Sx M H H1 := Sx.mono a fun _ z => z.elim
theorem Sx.at (a : Sx M H H1) {b : Addr} {o : HO} (h : H b = some o) (m : ¬ M b) (n : ∀ ps, o ≠ .tbl ps := by intro _ z; cases z) : H1 b = some o := a.keep b o h m n
theorem Sx.atS (a : Sm H H1) {b : Addr} {o : HO} (h : H b = some o) (n : ∀ ps, o ≠ .tbl ps := by intro _ z; cases z) : H1 b = some o := a.keep b o h (fun z => z) n
/-- what is new in the middle may change: it was not there at the start -/
theorem Sx.after (a : Sx M H H1) (b : Sx M' H1 H2) (h : ∀ c o, H c = some o → M' c → M c) : Sx M H H2 := by
  refine ⟨fun c o e m n => b.keep c o (a.keep c o e m n) (fun z => m (h c o e z)) n, fun c xs e => b.tups c xs (a.tups c xs e), fun c o u e => b.frzs c o u (a.frzs c o u e), fun T e => b.tabs T (a.tabs T e), fun c e => a.old c (b.old c e)⟩
theorem Sx.new {p : Addr} {o : HO} (h : H p = none) : Sx M H (upd H p o) := by
  refine ⟨fun b u e _ _ => by rw [upd_ne (ne_of_none e h)]; exact e, fun b xs e => by rw [upd_ne (ne_of_none e h)]; exact e, fun b ob u e => by rw [upd_ne (ne_of_none e h)]; exact e, fun T e => ?_, fun b e => ?_⟩
  · obtain ⟨ps, e, t⟩ := e
    exact ⟨ps, by rw [upd_ne (ne_of_none e h)]; exact e, t⟩
  · by_cases z : b = p
    · rw [z]; exact h
    · rw [upd_ne z] at e; exact e
/-- an object that may change is written -/
theorem Sx.put {p : Addr} {o u : HO} (h : H p = some u) (m : M p) (n1 : ∀ xs, u ≠ .tup xs := by intro _ z; cases z) (n2 : ∀ ps, u ≠ .tbl ps := by intro _ z; cases z) (n3 : ∀ a b, u ≠ .frz a b := by intro _ _ z; cases z) : Sx M H (upd H p o) := by
  have ne : ∀ {b : Addr} {v : HO}, H b = some v → (v = u → False) → b ≠ p := fun {b v} e q z => by
    rw [z, h] at e
    exact q (Option.some.inj e).symm
  refine ⟨fun b v e mb _ => by rw [upd_ne (fun z => mb (by rw [z]; exact m))]; exact e, fun b xs e => by rw [upd_ne (ne e fun z => n1 xs z.symm)]; exact e, fun b ob v e => by rw [upd_ne (ne e fun z => n3 ob v z.symm)]; exact e, fun T e => ?_, fun b e => ?_⟩
  · obtain ⟨ps, e, t⟩ := e
    exact ⟨ps, by rw [upd_ne (ne e fun z => n2 ps z.symm)]; exact e, t⟩
  · by_cases z : b = p
    · rw [z, upd_same] at e; cases e
    · rw [upd_ne z] at e; exact e
theorem Sx.tab {T : Addr} (h : TabG H T) (t : Tabbed T H H1) : Sx M H H1 := by
  obtain ⟨⟨ps, e, q⟩, k⟩ := t
  obtain ⟨ps0, e0, q0⟩ := h
  have ne : ∀ {b : Addr} {v : HO}, H b = some v → (∀ ps, v ≠ .tbl ps) → b ≠ T := fun {b v} eb n z => by
    rw [z, e0] at eb
    exact n ps0 (Option.some.inj eb).symm
  refine ⟨fun b v eb _ n => by rw [k b (ne eb n)]; exact eb, fun b xs eb => by rw [k b (ne eb fun _ z => by cases z)]; exact eb, fun b ob v eb => by rw [k b (ne eb fun _ z => by cases z)]; exact eb, fun T' h' => ?_, fun b eb => ?_⟩
  · by_cases z : T' = T
    · rw [z]; exact ⟨ps, e, q⟩
    · obtain ⟨ps', e', q'⟩ := h'
      exact ⟨ps', by rw [k T' z]; exact e', q'⟩
  · by_cases z : b = T
    · rw [z, e] at eb; cases eb
    · rw [k b z] at eb; exact eb
theorem Sx.sqT (a : Sx M H H1) {p : Addr} {xs : List V} (h : SqT K H p xs) : SqT K H1 p xs := by
  rcases h with (h | ⟨o, h⟩) | h
  · exact .inl (.inl (a.tups _ _ h))
  · exact .inl (.inr ⟨o, a.frzs _ _ _ h⟩)
  · exact .inr h
theorem Sx.sqL (a : Sx M H H1) {p : Addr} {xs : List V} (h : SqL K H p xs) (m : ¬ M p) : SqL K H1 p xs := by
  rcases h with (h | ⟨o, h⟩) | h
  · exact .inl (.inl (a.at h m))
  · exact .inl (.inr ⟨o, a.frzs _ _ _ h⟩)
  · exact .inr h
theorem Sx.sqLS (a : Sm H H1) {p : Addr} {xs : List V} (h : SqL K H p xs) : SqL K H1 p xs := a.sqL h fun z => z
end
/-! ### the code tables of the defs with generator expressions -/
def Tabs (K : PySem.W.Frag) (H : Hp) : Prop := ∀ p ∈ tf, TabG H (He.cT K p).2
theorem Tabs.sx {M : Addr → Prop} {K : PySem.W.Frag} {H H1 : Hp} (t : Tabs K H) (a : Sx M H H1) : Tabs K H1 := fun p hp => a.tabs _ (t p hp)
/-! ### data without lists: it stays -/
mutual
def noL : PyData → Bool
  | .list _ => false
  | .dict _ => false
  | .tuple ds => noLs ds
  | .none => true
  | .bool _ => true
  | .int _ => true
  | .str _ => true
def noLs : List PyData → Bool
  | [] => true
  | d :: ds => noL d && noLs ds
end
section
variable {M : Addr → Prop} {H H1 : Hp} {K : PySem.W.Frag}
mutual
theorem dp_sx (a : Sx M H H1) : ∀ (d : PyData) (v : V), noL d = true → Dp K H v d → Dp K H1 v d
  | .none, _, _, h => by cases h; exact .non
  | .bool b, _, _, h => by cases h; exact .bl b
  | .int i, _, _, h => by cases h; exact .int i
  | .str x, _, _, h => by cases h; exact .str x
  | .list ds, _, n, _ => by simp [noL] at n
  | .dict ds, _, n, _ => by simp [noL] at n
  | .tuple ds, _, n, h => by
    cases h with
    | tup hs ha => exact .tup (a.sqT hs) (dps_sx a ds _ (by simpa [noL] using n) ha)
theorem dps_sx (a : Sx M H H1) : ∀ (ds : List PyData) (vs : List V), noLs ds = true → DpAll K H vs ds → DpAll K H1 vs ds
  | [], _, _, h => by cases h; exact .nil
  | d :: ds, _, n, h => by
    have n' : noL d = true ∧ noLs ds = true := by simpa [noLs] using n
    cases h with
    | cons h1 h2 => exact .cons (dp_sx a d _ n'.1 h1) (dps_sx a ds _ n'.2 h2)
end
end
/-! ### tuples of texts -/
def Tu (H : Hp) (v : V) (ks : List Str) : Prop := ∃ b, v = .ref b ∧ H b = some (.tup (ks.map V.str))
abbrev Tus (H : Hp) : List V → List (List Str) → Prop := Paired (Tu H)
def tD (ks : List Str) : PyData := .tuple (ks.map PyData.str)
section
variable {M : Addr → Prop} {H H1 : Hp} {K : PySem.W.Frag}
theorem Tu.sx {v : V} {ks : List Str} (a : Sx M H H1) (h : Tu H v ks) : Tu H1 v ks := by
  obtain ⟨b, e, h⟩ := h
  exact ⟨b, e, a.tups _ _ h⟩
theorem Tus.sx {vs : List V} {l : List (List Str)} (a : Sx M H H1) (h : Tus H vs l) : Tus H1 vs l := Paired.mapP h fun _ _ => Tu.sx a
theorem strs_dp : ∀ ks : List Str, DpAll K H (ks.map V.str) (ks.map PyData.str)
  | [] => .nil
  | k :: ks => .cons (.str k) (strs_dp ks)
theorem Tu.dp {v : V} {ks : List Str} (h : Tu H v ks) : Dp K H v (tD ks) := by
  obtain ⟨b, rfl, h⟩ := h
  exact .tup (SqT.of h) (strs_dp ks)
theorem Tus.dp {vs : List V} {l : List (List Str)} (h : Tus H vs l) : DpAll K H vs (l.map tD) := by
  induction h with
  | nil => exact .nil
  | cons h _ k => exact .cons h.dp k
theorem Tu.inj {v : V} {k l : List Str} (h : Tu H v k) (h' : Tu H v l) : k = l := by
  obtain ⟨b, rfl, h⟩ := h
  obtain ⟨b', e, h'⟩ := h'
  cases e
  rw [h] at h'
  have e : k.map V.str = l.map V.str := by
    injection h' with e
    injection e
  have g : ∀ k l : List Str, k.map V.str = l.map V.str → k = l := fun k => by
    induction k with
    | nil => intro l e; cases l with
      | nil => rfl
      | cons a l => cases e
    | cons a k ih => intro l e; cases l with
      | nil => cases e
      | cons b l =>
        injection e with e1 e2
        injection e1 with e1
        rw [e1, ih l e2]
  exact g k l e
end
theorem tD_datum (ks : List Str) : tD ks = PySem.W.Datum.toD (PySem.W.Tup.mk ks) := rfl
theorem tD_eqv (a b : List Str) : PyData.eqv (tD a) (tD b) = decide (a = b) := by
  rw [tD_datum, tD_datum, PySem.W.Datum.eqv]
  exact decide_eq_decide.mpr ⟨fun e => by injection e, fun e => by rw [e]⟩
theorem strs_plain : ∀ ks : List Str, PyData.plainAll (ks.map PyData.str) = true := fun ks => PySem.W.plainAll_map ks
theorem tD_plain (ks : List Str) : (tD ks).plain = true := by
  rw [tD_datum]
  exact PySem.W.Datum.plain _
theorem strs_depth : ∀ ks : List Str, PyData.depthAll (ks.map PyData.str) = 0
  | [] => by simp [PyData.depthAll]
  | k :: ks => by simp [PyData.depthAll, PyData.depth, strs_depth ks]
theorem tD_depth (ks : List Str) : (tD ks).depth = 1 := by simp [tD, PyData.depth, strs_depth]
theorem tDs_plain : ∀ l : List (List Str), PyData.plainAll (l.map tD) = true
  | [] => by simp [PyData.plainAll]
  | k :: ks => by simp [PyData.plainAll, tD_plain, tDs_plain ks]
theorem tDs_any (l : List (List Str)) (k : List Str) : ((l.map tD).any fun z => PyData.eqv z (tD k)) = decide (k ∈ l) := by
  rw [Bool.eq_iff_iff, List.any_map]
  simp only [List.any_eq_true, Function.comp, tD_eqv, decide_eq_true_eq]
  constructor
  · rintro ⟨a, ha, rfl⟩
    exact ha
  · intro h
    exact ⟨k, h, rfl⟩
/-! ### ==, in of data, in tuples and lists -/
section
variable {X : Cx}
def rEqP (K : PySem.W.Frag) : R2 := fun x y H Q => ∃ d e, Dp K H x d ∧ Dp K H y e ∧ d.plain = true ∧ e.plain = true ∧ d.depth ≤ 64 ∧ Q (.bl (PyData.eqv d e)) H
def rNeP (K : PySem.W.Frag) : R2 := fun x y H Q => ∃ d e, Dp K H x d ∧ Dp K H y e ∧ d.plain = true ∧ e.plain = true ∧ d.depth ≤ 64 ∧ Q (.bl (!PyData.eqv d e)) H
theorem op_eqP (hu : X.A.units + 64 < cLine) : OpR X (compareOp .Eq) (rEqP X.K) := by
  intro pins s σ H x y v u Q I rx ry h
  obtain ⟨d, e, hd, he, sd, se, hl, q⟩ := h
  obtain ⟨as, r1⟩ := Dp.reads I d x v hd rx
  obtain ⟨bs, r2⟩ := Dp.reads I e y u he ry
  exact PySem.SeqAt.eq_plain r1 r2 sd se (PySem.W.room_datum hl hu) ⟨.bl _, H, I, rfl, q⟩
theorem op_neP (hu : X.A.units + 64 < cLine) : OpR X (compareOp .NotEq) (rNeP X.K) := by
  intro pins s σ H x y v u Q I rx ry h
  obtain ⟨d, e, hd, he, sd, se, hl, q⟩ := h
  obtain ⟨as, r1⟩ := Dp.reads I d x v hd rx
  obtain ⟨bs, r2⟩ := Dp.reads I e y u he ry
  exact PySem.SeqAt.ne_plain r1 r2 sd se (PySem.W.room_datum hl hu) ⟨.bl _, H, I, rfl, q⟩
theorem room_in {u m d : Nat} (h : d ≤ 63) (hu : u + 64 < cLine) : u + 1 + min m d < cLine := by
  have := Nat.min_le_right m d
  omega
/-- a tuple of texts among a list, or a tuple, of such -/
def rInL (K : PySem.W.Frag) : R2 := fun x y H Q => ∃ (k : List Str) (l : List (List Str)) (a : Addr) (xs : List V), Tu H x k ∧ y = .ref a ∧ SqL K H a xs ∧ Tus H xs l ∧ Q (.bl (decide (k ∈ l))) H
def rNotInL (K : PySem.W.Frag) : R2 := fun x y H Q => ∃ (k : List Str) (l : List (List Str)) (a : Addr) (xs : List V), Tu H x k ∧ y = .ref a ∧ SqL K H a xs ∧ Tus H xs l ∧ Q (.bl (!decide (k ∈ l))) H
def rInU (K : PySem.W.Frag) : R2 := fun x y H Q => ∃ (k : List Str) (l : List (List Str)), Tu H x k ∧ Dp K H y (.tuple (l.map tD)) ∧ Q (.bl (decide (k ∈ l))) H
theorem op_inL (hu : X.A.units + 64 < cLine) : OpR X (compareOp .In) (rInL X.K) := by
  intro pins s σ H x y v u Q I rx ry h
  obtain ⟨k, l, a, xs, hk, rfl, hs, hl, q⟩ := h
  obtain ⟨as, r1⟩ := Dp.reads I (tD k) x v hk.dp rx
  obtain ⟨bs, r2⟩ := Dp.reads I (.list (l.map tD)) (.ref a) u (.lst hs hl.dp) ry
  exact PySem.SeqAt.in_list_data r2 r1 (tDs_plain l) (tD_plain k) (room_in (by rw [tD_depth]; decide) hu) ⟨.bl _, H, I, rfl, by rw [tDs_any]; exact q⟩
theorem op_notInL (hu : X.A.units + 64 < cLine) : OpR X (compareOp .NotIn) (rNotInL X.K) := by
  intro pins s σ H x y v u Q I rx ry h
  obtain ⟨k, l, a, xs, hk, rfl, hs, hl, q⟩ := h
  obtain ⟨as, r1⟩ := Dp.reads I (tD k) x v hk.dp rx
  obtain ⟨bs, r2⟩ := Dp.reads I (.list (l.map tD)) (.ref a) u (.lst hs hl.dp) ry
  exact PySem.SeqAt.notIn_list_data r2 r1 (tDs_plain l) (tD_plain k) (room_in (by rw [tD_depth]; decide) hu) ⟨.bl _, H, I, rfl, by rw [tDs_any]; exact q⟩
theorem op_inU (hu : X.A.units + 64 < cLine) : OpR X (compareOp .In) (rInU X.K) := by
  intro pins s σ H x y v u Q I rx ry h
  obtain ⟨k, l, hk, hl, q⟩ := h
  obtain ⟨as, r1⟩ := Dp.reads I (tD k) x v hk.dp rx
  obtain ⟨bs, r2⟩ := Dp.reads I (.tuple (l.map tD)) y u hl ry
  exact PySem.SeqAt.in_tuple_data r2 r1 (tDs_plain l) (tD_plain k) (room_in (by rw [tD_depth]; decide) hu) ⟨.bl _, H, I, rfl, by rw [tDs_any]; exact q⟩
/-- two tuples of texts -/
def rEqU : R2 := fun x y H Q => ∃ (k l : List Str), Tu H x k ∧ Tu H y l ∧ Q (.bl (decide (k = l))) H
theorem op_eqU (hu : X.A.units + 64 < cLine) : OpR X (compareOp .Eq) rEqU := by
  intro pins s σ H x y v u Q I rx ry h
  obtain ⟨k, l, hk, hl, q⟩ := h
  exact op_eqP hu pins s σ H x y v u Q I rx ry ⟨tD k, tD l, hk.dp, hl.dp, tD_plain k, tD_plain l, by rw [tD_depth]; decide, by rw [tD_eqv]; exact q⟩
end
/-! ### a Paired list by place -/
section
variable {α β : Type} {F : α → β → Prop}
theorem pr_get : ∀ {xs : List α} {ys : List β} {i : Nat} {x : α}, Paired F xs ys → xs[i]? = some x → ∃ y, ys[i]? = some y ∧ F x y
  | _, _, _, _, .nil, e => by simp at e
  | _, _, 0, _, .cons h _, e => by simp at e; subst e; exact ⟨_, rfl, h⟩
  | _, _, i + 1, x, .cons _ t, e => by
    obtain ⟨y, h1, h2⟩ := pr_get (i := i) (x := x) t (by simpa using e)
    exact ⟨y, by simpa using h1, h2⟩
theorem pr_get2 : ∀ {xs : List α} {ys : List β} {i : Nat} {y : β}, Paired F xs ys → ys[i]? = some y → ∃ x, xs[i]? = some x ∧ F x y
  | _, _, _, _, .nil, e => by simp at e
  | _, _, 0, _, .cons h _, e => by simp at e; subst e; exact ⟨_, rfl, h⟩
  | _, _, i + 1, x, .cons _ t, e => by
    obtain ⟨y, h1, h2⟩ := pr_get2 (i := i) (y := x) t (by simpa using e)
    exact ⟨y, by simpa using h1, h2⟩
theorem pr_app : ∀ {xs xs' : List α} {ys ys' : List β}, Paired F xs ys → Paired F xs' ys' → Paired F (xs ++ xs') (ys ++ ys')
  | _, _, _, _, .nil, s => s
  | _, _, _, _, .cons r t, s => .cons r (pr_app t s)
theorem pr_snoc {xs : List α} {ys : List β} {x : α} {y : β} (h : Paired F xs ys) (r : F x y) : Paired F (xs ++ [x]) (ys ++ [y]) := pr_app h (.cons r .nil)
theorem pr_take : ∀ {xs : List α} {ys : List β} (n : Nat), Paired F xs ys → Paired F (xs.take n) (ys.take n)
  | _, _, 0, _ => .nil
  | _, _, _ + 1, .nil => .nil
  | _, _, n + 1, .cons r t => .cons r (pr_take n t)
theorem pr_drop : ∀ {xs : List α} {ys : List β} (n : Nat), Paired F xs ys → Paired F (xs.drop n) (ys.drop n)
  | _, _, 0, r => r
  | _, _, _ + 1, .nil => .nil
  | _, _, n + 1, .cons _ t => pr_drop n t
end
theorem dps_get {K : PySem.W.Frag} {H : Hp} : ∀ {vs : List V} {ds : List PyData} {i : Nat} {d : PyData}, DpAll K H vs ds → ds[i]? = some d → ∃ v, vs[i]? = some v ∧ Dp K H v d
  | _, _, _, _, .nil, e => by simp at e
  | _, _, 0, _, .cons h _, e => by simp at e; subst e; exact ⟨_, rfl, h⟩
  | _, _, i + 1, d, .cons _ t, e => by
    obtain ⟨v, h1, h2⟩ := dps_get (i := i) (d := d) t (by simpa using e)
    exact ⟨v, by simpa using h1, h2⟩
theorem dps_get2 {K : PySem.W.Frag} {H : Hp} : ∀ {vs : List V} {ds : List PyData} {i : Nat} {v : V}, DpAll K H vs ds → vs[i]? = some v → ∃ d, ds[i]? = some d ∧ Dp K H v d
  | _, _, _, _, .nil, e => by simp at e
  | _, _, 0, _, .cons h _, e => by simp at e; subst e; exact ⟨_, rfl, h⟩
  | _, _, i + 1, d, .cons _ t, e => by
    obtain ⟨v, h1, h2⟩ := dps_get2 (i := i) (v := d) t (by simpa using e)
    exact ⟨v, by simpa using h1, h2⟩
theorem dps_len {K : PySem.W.Frag} {H : Hp} : ∀ {vs : List V} {ds : List PyData}, DpAll K H vs ds → vs.length = ds.length
  | _, _, .nil => rfl
  | _, _, .cons _ t => by simp [dps_len t]
theorem tD_noL (ks : List Str) : noL (tD ks) = true := by
  have h : ∀ ks : List Str, noLs (ks.map PyData.str) = true := fun ks => by
    induction ks with
    | nil => simp [noLs]
    | cons k ks ih => simp [noLs, noL, ih]
  simp [tD, noL, h]
theorem noLs_map {α : Type} (f : α → PyData) (l : List α) (h : ∀ a ∈ l, noL (f a) = true) : noLs (l.map f) = true := by
  induction l with
  | nil => simp [noLs]
  | cons a l ih =>
    rw [List.map_cons, noLs, h a List.mem_cons_self, ih fun b hb => h b (List.mem_cons_of_mem _ hb)]
    rfl
end K83
namespace K83
open PySem PySem.Spec PyProof.Rows L2 GxR
/-! ### expressions that change nothing, in any function's frame -/
theorem kTr {s s1 s2 : Shared} (a : Keeps s s1) (b : Keeps s1 s2) : Keeps s s2 := by
  obtain ⟨h, t, rfl, k⟩ := a
  obtain ⟨h2, t2, rfl, k2⟩ := b
  exact ⟨h2, t2, rfl, fun b o e => k2 b o (k b o e)⟩
theorem kNs {s s1 : Shared} (a : Keeps s s1) {L : Addr} {m : Str → Option Value} (h : s.heap.Ns L m) : s1.heap.Ns L m := by
  obtain ⟨h1, t, rfl, k⟩ := a
  exact h.keeps k
theorem kHp {s s1 : Shared} {g : Heap} (a : Keeps s s1) (k : ∀ b o, g.get? b = some o → s.heap.get? b = some o) : ∀ b o, g.get? b = some o → s1.heap.get? b = some o := by
  obtain ⟨h1, t, rfl, q⟩ := a
  exact fun b o e => q b o (k b o e)
/-- e is v wherever g's objects stand -/
structure PU (P : Program) (w : World) (A : Around) (env : Env) (m : Str → Option Value) (g : Heap) (e : Expr) (v : V) : Prop where
  run : ∀ (s : Shared) (E : Value → Shared → Prop), s.heap.Ns env.locals m → (∀ b o, g.get? b = some o → s.heap.get? b = some o) → wpAny (model P w) A (eval e env) (fun u s' => RelV v u ∧ Keeps s s') E s
def leS (x y : Str) : Bool := !decide (y.cps.toList < x.cps.toList)
section
variable {P : Program} {w : World} {A : Around} {env : Env} {m : Str → Option Value} {g : Heap} {a b c : Expr} {x y z : Str} {pos : Pos}
theorem pu_loc {v : V} {u : Value} (hk : env.scope.kind = .function) (hl : env.scope.names.lookup x = some .local) (hv : m x = some u) (r : RelV v u) (hd : (x == ("__debug__" : Str)) = false := by decide) : PU P w A env m g (.Name x pos) v :=
  ⟨fun s E hn hg => wpAny_Name (wpAny_loadName_local hk hl hn hv ⟨r, keeps_refl _⟩) hd⟩
theorem pu_str {j} : PU P w A env m g (.Constant (.str x) j pos) (.str x) := ⟨fun s E hn hg => Calls.Constant_str ⟨⟨_, rfl⟩, keeps_tok _ _⟩⟩
theorem pu_chain (ha : PU P w A env m g a (.str x)) (hb : PU P w A env m g b (.str y)) (hc : PU P w A env m g c (.str z)) (hm : lastMarks [.LtE, .LtE] [b, c] = false := by with_unfolding_all rfl) :
    PU P w A env m g (.Compare a [.LtE, .LtE] [b, c] pos) (.bl (leS x y && leS y z)) := by
  refine ⟨fun s E hn hg => Compare_chain (thn (ha.run s E hn hg) fun u s1 ⟨r1, k1⟩ => chain_link (thn (hb.run s1 E (kNs k1 hn) (kHp k1 hg)) fun u2 s2 ⟨r2, k2⟩ => ?_)) hm⟩
  obtain ⟨t1, rfl⟩ := r1
  obtain ⟨t2, rfl⟩ := r2
  refine PySem.P.le_str (wpAny_truthy_bool ?_)
  have e : (!decide (y.cps.toList < x.cps.toList)) = leS x y := rfl
  rw [e]
  cases h : leS x y with
  | false => exact ite_ff ⟨rfl, kTr k1 k2⟩
  | true =>
    refine ite_tt (chain_last (thn (hc.run s2 E (kNs (kTr k1 k2) hn) (kHp (kTr k1 k2) hg)) fun u3 s3 ⟨r3, k3⟩ => ?_))
    obtain ⟨t3, rfl⟩ := r3
    exact PySem.P.le_str ⟨rfl, kTr (kTr k1 k2) k3⟩
theorem pu_eq (ha : PU P w A env m g a (.str x)) (hb : PU P w A env m g b (.str y)) (hm : behindInMarks .Eq b = false := by with_unfolding_all rfl) : PU P w A env m g (.Compare a [.Eq] [b] pos) (.bl (decide (x = y))) := by
  refine ⟨fun s E hn hg => wpAny_Compare1 (thn (ha.run s E hn hg) fun u s1 ⟨r1, k1⟩ => thn (hb.run s1 E (kNs k1 hn) (kHp k1 hg)) fun u2 s2 ⟨r2, k2⟩ => ?_) hm⟩
  obtain ⟨t1, rfl⟩ := r1
  obtain ⟨t2, rfl⟩ := r2
  refine PySem.P.eq_str ⟨?_, kTr k1 k2⟩
  show Value.bool _ = Value.bool _
  congr 1
  rw [Bool.eq_iff_iff]
  cases x
  cases y
  simp
theorem pu_one {op} {v : V} (h : PU P w A env m g a v) : PU P w A env m g (.BoolOp op [a] pos) v := ⟨fun s E hn hg => BoolOp_one (h.run s E hn hg)⟩
theorem pu_or {rest : List Expr} {p q : Bool} (ha : PU P w A env m g a (.bl p)) (hb : PU P w A env m g (.BoolOp .Or (b :: rest) pos) (.bl q)) : PU P w A env m g (.BoolOp .Or (a :: b :: rest) pos) (.bl (p || q)) := by
  refine ⟨fun s E hn hg => BoolOp_or (thn (ha.run s E hn hg) fun u s1 ⟨r1, k1⟩ => ?_)⟩
  cases r1
  refine wpAny_truthy_bool ?_
  cases p with
  | true => exact ⟨rfl, k1⟩
  | false => exact thn (hb.run s1 E (kNs k1 hn) (kHp k1 hg)) fun u2 s2 ⟨r2, k2⟩ => ⟨r2, kTr k1 k2⟩
end
/-! ### '0' <= sign <= '9' and is_sign(sign) as elements of a generator expression -/
def isDig (c : Nat) : Bool := leS "0" ⟨#[c]⟩ && leS ⟨#[c]⟩ "9"
def isSign (c : Nat) : Bool := (leS "a" ⟨#[c]⟩ && leS ⟨#[c]⟩ "z") || (isDig c || decide ((⟨#[c]⟩ : Str) = "_"))
section
variable {X : Cx} {pins : List (Addr × Obj)} {σ : L2.St} {H1 : Hp} {s1 s2 : Shared} {T : Addr}
/-- what the module has stands beside the table -/
theorem base_at (I : Inv X pins σ H1 s1) (hT : TabG H1 T) (hk : ∀ b o, b ≠ T → s1.heap.get? b = some o → s2.heap.get? b = some o) : ∀ b o, X.base.get? b = some o → s2.heap.get? b = some o := fun b o e => by
  obtain ⟨ps, hP, _⟩ := hT
  obtain ⟨e1, e2⟩ := I.bs b o e
  exact hk b o (fun z => by rw [z, hP] at e2; cases e2) e1
theorem sign_at {z : Str} {i : Nat} {v : Value} (h : SignAt z i v) : ∃ c, z.cps[i]? = some c ∧ RelV (.str ⟨#[c]⟩) v := by
  obtain ⟨c, t, hc, rfl⟩ := h
  exact ⟨c, hc, t, rfl⟩
def sgB (f : Nat → Bool) (z : Str) (i : Nat) : Bool := match z.cps[i]? with
  | some c => f c
  | none => false
theorem sgB_at {f : Nat → Bool} {z : Str} {i c : Nat} (h : z.cps[i]? = some c) : sgB f z i = f c := by
  unfold sgB
  rw [h]
theorem sgB_all (f : Nat → Bool) (z : Str) : (List.range z.cps.size).all (sgB f z) = z.cps.toList.all f := by
  rw [Bool.eq_iff_iff, List.all_eq_true, List.all_eq_true]
  constructor
  · intro h b hb
    obtain ⟨j, hj, e⟩ := List.getElem_of_mem hb
    have q := h j (List.mem_range.mpr (by simpa using hj))
    rw [sgB_at (c := b) (by rw [← Array.getElem?_toList, List.getElem?_eq_getElem hj, e])] at q
    exact q
  · intro h j hj
    have hj' := List.mem_range.mp hj
    rw [sgB_at (Array.getElem?_eq_getElem hj')]
    exact h _ (Array.getElem_mem_toList hj')
theorem el_dig {sc : Scope} {x : Str} {z : Str} {p1 p2 p3 p4 : Pos} {j k} (S : GenSc X.env sc [x]) (hd : (x == ("__debug__" : Str)) = false := by decide) :
    El1 X sc x (.Compare (.Constant (.str "0") j p1) [.LtE, .LtE] [.Name x p2, .Constant (.str "9") k p3] p4) T s1 (SignAt z) (sgB isDig z) := by
  intro L code bi A' E' i v s2 m2 hA hdp hu hF hn hm hk
  obtain ⟨c, hc, r⟩ := sign_at hF
  rw [sgB_at hc]
  exact thn ((pu_chain (pu_str) (pu_loc S.kind (S.loc x (by simp)) hm r hd) pu_str).run s2 E' hn fun _ _ q => q) fun u s3 ⟨r3, k3⟩ => ⟨r3, k3⟩
/-- is_sign(sign), the def's body and its call -/
theorem sign_body {P : Program} {w : World} {A : Around} {env : Env} {m : Str → Option Value} {g : Heap} {c : Nat} {u : Value} (he : env.scope = defScope s_is_sign) (hv : m "sign" = some u) (r : RelV (.str ⟨#[c]⟩) u) :
    ∃ e pos, defBody s_is_sign = [.Return (some e) pos] ∧ PU P w A env m g e (.bl (isSign c)) := by
  have hk : env.scope.kind = .function := by rw [he]; rfl
  have hl : env.scope.names.lookup ("sign" : Str) = some .local := by rw [he]; rfl
  refine ⟨_, _, rfl, pu_or (pu_chain pu_str (pu_loc hk hl hv r) pu_str) (pu_or (pu_chain pu_str (pu_loc hk hl hv r) pu_str) (pu_one (pu_eq (pu_loc hk hl hv r) pu_str)))⟩
theorem call_sign {K : PySem.W.Frag} {mg : Str → Option Value} {base : Heap} (W : Wd K mg base) {P : Program} {w : World} {A : Around} {E : Value → Shared → Prop} {s : Shared} {c : Nat} {u : Value} (kin : K.In s.heap) (lim : s.heap.NoLimit) (hd : A.depth < recursionLimit) (r : RelV (.str ⟨#[c]⟩) u) :
    wpAny (model P w) A (call (.ref (A_is_sign K)) [u]) (fun y s3 => y = .bool (isSign c) ∧ Keeps s s3) E s := by
  obtain ⟨oc, od, dV, kV, doc, pm, an, cdv, ct, osl, e, lk, hcd, _, _⟩ := W.fu_is_sign.ex
  have hb := W.bd_is_sign s [u] kin rfl
  rw [e] at lk hb
  refine wpAny_call (Att.call_fn kin lim lk hcd hd hb (by rfl) (fun s1 x => ?_) rfl rfl rfl)
  obtain ⟨ex, pos, eb, hU⟩ := sign_body (P := P) (w := w) (A := A.deeper (envOfC "is_sign" (defScope s_is_sign) s.heap.objs.size (A_is_sign K) cdv)) (env := envOfC "is_sign" (defScope s_is_sign) s.heap.objs.size (A_is_sign K) cdv)
    (g := s1.heap) (m := bindL (envOfC "is_sign" (defScope s_is_sign) s.heap.objs.size (A_is_sign K) cdv).kindOf [("sign", u)] fun _ => none) rfl (by rfl) r
  rw [eb]
  refine wpAny_execs_cons (wpAny_Return_some (thn (hU.run s1 _ x.toInCall.ns fun _ _ q => q) fun v s2 ⟨rv, k⟩ => ?_))
  cases rv
  obtain ⟨h1, t1, e1⟩ := x.toInCall.same
  exact ⟨rfl, kTr ⟨h1, t1, e1, by intro b o q; have := x.toInCall.keep b o q; rw [e1] at this; exact this⟩ k⟩
theorem el_sign {K : PySem.W.Frag} {mg : Str → Option Value} {base : Heap} (W : Wd K mg base) (hK : X.K = K) (hmg : X.mg = mg) (I : Inv X pins σ H1 s1) (hT : TabG H1 T) {k : Nat} (hr : Room k X.A) (hk1 : 2 ≤ k) {sc : Scope} {x : Str} {z : Str} {p1 p2 p3 : Pos} (S : GenSc X.env sc [x])
    (hx : sc.names.lookup ("is_sign" : Str) = some .globalImplicit) (hd : (x == ("__debug__" : Str)) = false := by decide) :
    El1 X sc x (.Call (.Name "is_sign" p1) [.Name x p2] [] p3) T s1 (SignAt z) (sgB isSign z) := by
  subst hK hmg
  intro L code bi A' E' i v s2 m2 hA hdp hu hF hn hm hk
  obtain ⟨c, hc, r⟩ := sign_at hF
  rw [sgB_at hc]
  have kb := base_at I hT hk
  have kin := I.mod.kin.keeps kb
  refine wpAny_Call_Name_kw (Calls.Name_function_global S.kind ?_ (Calls.loadGlobal_global (show s2.heap.Ns X.env.globals X.mg by rw [I.ok.glob]; exact I.mod.glob.keeps kb) W.gl_is_sign ?_))
  · exact hx
  refine PySem.W.callWith_K (h₀ := X.base) I.mod.kin W.fu_is_sign.kp (Calls.spliced_cons (thn ((pu_loc (P := X.prog) (w := X.w) (A := A') (g := s2.heap) S.kind (S.loc x (by simp)) hm r hd).run s2 E' hn fun _ _ q => q) fun u s3 ⟨r3, k3⟩ => Calls.spliced_nil ?_))
  obtain ⟨h3, t3, rfl, kk⟩ := k3
  have kin3 := kin.keeps kk
  refine ⟨kin3, ?_⟩
  refine thn (call_sign W kin3 ((I.mod.nolimit.keeps kb).keeps kk) ?_ r3) fun y s4 ⟨e, k4⟩ => ⟨e, kTr ⟨h3, t3, rfl, kk⟩ k4⟩
  have := hr.dp
  omega
end
end K83
namespace K83
open PySem PySem.Spec PyProof.Rows L2 GxR
/-! ### a def with a generator expression: its code object is known -/
theorem code_ref {K : PySem.W.Frag} {cdv : Value} {q : Str} (h : PySem.W.codeIn K cdv q = true) : ∃ c, cdv = .ref c := by
  unfold PySem.W.codeIn at h
  cases cdv <;> simp at h
  exact ⟨_, rfl⟩
section
variable {P : Program} {w : World} {K : PySem.W.Frag} {mg : Str → Option Value} {base : Heap}
theorem okG {CX : CXT} {x qual : Str} {params : Arguments} {body : List Stmt} {scope : Scope} {dvs : List V} {kws : List (Str × V)} {d : He.Defn} {fd : FuncData} {N ps : List Str} {k : Nat} {sp : Sp} (F : FunD K x qual params body scope dvs kws (He.fAd K d) fd) (S : FnScope N ps scope) (len : ∀ vs H Q E, sp vs H Q E → vs.length = ps.length)
    (hbody : ∀ (A : Around) (outer : List Env) (s : Shared) (H : Hp) (vs : List V) (Q : VK) (E : XK), Room k (A.deeper (envOfC qual scope s.heap.objs.size (He.fAd K d) (.ref (He.cT K d).1))) → sp vs H Q E →
      ∃ t, PSs (cxOf CX P w K mg base N qual scope (He.fAd K d) (.ref (He.cT K d).1) A outer s H E) body t ∧ t { nx := fun _ H' => Q .non H', rt := Q } (start N vs) H) : FnOk P w K mg base CX (k + 1) (He.fAd K d) fd ps sp := by
  obtain ⟨oc, od, dV, kV, doc, pm, an, cdv, ct, osl, rfl, lk, hcd, _, _⟩ := F.ex
  obtain ⟨c, rfl⟩ := code_ref hcd
  have e : He.codeOf K d = c := He.codeOf_eq lk rfl
  have e2 : (He.cT K d).1 = c := e
  refine fn_of lk hcd S len fun A outer s H vs Q E hr hsp => ?_
  rw [← e2] at hr ⊢
  exact hbody A outer s H vs Q E hr hsp
end
/-- the scope of a generator expression, by looking -/
def gscB (up sc : Scope) (xs : List Str) : Bool := decide (sc.kind = .function) && (!sc.isCoroutine && (sc.names.all (fun y => decide (y.2 ≠ .cell) && (decide (y.2 ≠ .free) || decide (up.names.lookup y.1 = some .cell))) && (decide (sc.names.lookup (".0" : Str) = some NameKind.local) && xs.all fun x => decide (sc.names.lookup x = some .local))))
theorem gsc {env : Env} {sc : Scope} {xs : List Str} {n : Nat} (hc : env.cells = cellsFrom n env.scope.names []) (h : gscB env.scope sc xs = true) : GenSc env sc xs := by
  unfold gscB at h
  simp only [Bool.and_eq_true, decide_eq_true_eq, Bool.not_eq_true', List.all_eq_true, Bool.or_eq_true] at h
  obtain ⟨h1, h2, h3, h4, h5⟩ := h
  refine ⟨h1, h2, fun y hy => (h3 y hy).1, h4, h5, fun y hy e => ?_⟩
  rcases (h3 y hy).2 with z | z
  · exact absurd e z
  · rw [hc]
    exact Option.isSome_iff_exists.mp (PySem.W.cellsFrom_some _ _ _ (.inl z))
theorem chn {k : Bool} {A : Prop} {B : Prop} (h1 : k = true → A) (h2 : k = false → B) : if k = true then A else B := by
  cases k
  · exact h2 rfl
  · exact h1 rfl
/-! ### texts -/
def isWord (z : Str) : Bool := decide ((1 : Int) ≤ (z.length : Int)) && (decide ((z.length : Int) ≤ 20) && z.cps.toList.all isSign)
def isIdent (z : Str) : Bool := isWord z && match z.cps[0]? with
  | some c => leS "a" ⟨#[c]⟩ && leS ⟨#[c]⟩ "z"
  | none => false
def typeOf (z : Str) : Str := (Txt.partition z ":").1
def refA (z : Str) : Str := (Txt.partition z "#").1
def refB (z : Str) : Str := (Txt.partition z "#").2.2
/-! ### the tokens that are met: main@0 .. main@40 -/
def num (k : Nat) : Str := Str.ofString (toString (k : Int))
def tok (k : Nat) : Str := Str.ofString "main@" ++ num k
theorem tok_f : ∀ k < 41, ((Str.empty ++ Str.ofString "main") ++ Str.ofString "@") ++ num k = tok k := by decide +kernel
theorem tok_part : ∀ k < 41, Txt.partition (tok k) "@" = (Str.ofString "main", Str.ofString "@", num k) := by decide +kernel
theorem num_len : ∀ k < 41, 1 ≤ (num k).length ∧ (num k).length ≤ 4 := by decide +kernel
theorem num_dig : ∀ k < 41, (num k).cps.toList.all isDig = true := by decide +kernel
theorem num_int : ∀ k < 41, PySem.intText? (num k) = some (k : Int) := by decide +kernel
theorem num_0 : ∀ k < 41, ∃ c, (num k).cps.toList.head? = some c ∧ (((⟨#[c]⟩ : Str) = "0") → num k = "0") := by
  intro k h
  have e : ∀ k < 41, (match (num k).cps.toList.head? with
    | some c => !decide ((⟨#[c]⟩ : Str) = "0") || decide (num k = "0")
    | none => false) = true := by decide +kernel
  have e := e k h
  cases q : (num k).cps.toList.head? with
  | none => rw [q] at e; cases e
  | some c =>
    rw [q] at e
    refine ⟨c, rfl, fun z => ?_⟩
    have e' : (!decide ((⟨#[c]⟩ : Str) = "0") || decide (num k = "0")) = true := e
    rw [decide_eq_true z] at e'
    simpa using e'
theorem tok_ne : ∀ k < 41, tok k ≠ "" := by decide +kernel
theorem tok_len : ∀ k < 41, (tok k).length ≤ 10 := by decide +kernel
theorem main_id : isIdent "main" = true := by decide +kernel
theorem tok_inj : ∀ k < 41, ∀ j < 41, tok k = tok j → k = j := by decide +kernel
def sp_is_sign : Sp := fun vs H Q _ => ∃ c : Nat, vs = [.str ⟨#[c]⟩] ∧ Q (.bl (isSign c)) H
def sp_is_word (K : PySem.W.Frag) : Sp := fun vs H Q _ => ∃ z : Str, vs = [.str z] ∧ z.length ≤ sizeLine ∧ Tabs K H ∧ ∀ H', Sm H H' → Q (.bl (isWord z)) H'
section
variable {P : Program} {w : World} {K : PySem.W.Frag} {mg : Str → Option Value} {base : Heap}
theorem ok_is_sign (W : Wd K mg base) : FnOk P w K mg base CX0 1 (A_is_sign K) (F_is_sign K) ["sign"] sp_is_sign := by
  refine W.fu_is_sign.ok sc_is_sign (fun vs H Q E h => by obtain ⟨_, rfl, _⟩ := h; rfl) fun cdv A outer s H vs Q E hr h => ?_
  obtain ⟨c, rfl, hQ⟩ := h
  refine ⟨_, PSs.nox (pss_one (ps_ret (pe_or (pe_chain op_le_str op_le_str pe_str (pv 0) pe_str) (pe_or (pe_chain op_le_str op_le_str pe_str (pv 0) pe_str) (pe_one (pe_cmpR op_eq (pv 0) pe_str (nomark _))))))), ?_⟩
  have fin : ∀ b, b = isSign c → Q (.bl b) H := fun b e => by rw [e]; exact hQ
  have last : ∀ f : Bool, (leS "a" ⟨#[c]⟩ && leS ⟨#[c]⟩ "z") = false → (tOrV (tChain (fun x y H Q => ∃ i j, x = V.str i ∧ y = V.str j ∧ Q (V.bl !decide (j.cps.toList < i.cps.toList)) H) (fun x y H Q => ∃ i j, x = V.str i ∧ y = V.str j ∧ Q (V.bl !decide (j.cps.toList < i.cps.toList)) H) (tC (V.str "0")) (tVar 0) (tC (V.str "9")))
      (tOp rEq (tVar 0) (tC (V.str "_")))) (L2.start ["sign"] [V.str ⟨#[c]⟩]) H Q := fun _ e0 => by
    have lst : isDig c = false → (tOp rEq (tVar 0) (tC (V.str "_"))) (L2.start ["sign"] [V.str ⟨#[c]⟩]) H Q := fun e1 => by
      refine ⟨_, rfl, rfl, fin _ ?_⟩
      unfold isSign
      rw [e0, e1, Bool.false_or, Bool.false_or]
      simp
    refine ⟨_, rfl, _, _, rfl, rfl, _, rfl, chn (fun e1 => ⟨_, _, rfl, rfl, _, rfl, chn (fun e2 => fin _ ?_) fun e2 => lst ?_⟩) fun e1 => ⟨_, rfl, chn (fun z => by cases z) fun _ => lst ?_⟩⟩
    · unfold isSign isDig
      rw [e0, show leS "0" ⟨#[c]⟩ = true from e1, show leS ⟨#[c]⟩ "9" = true from e2]
      rfl
    · unfold isDig
      rw [show leS "0" ⟨#[c]⟩ = true from e1, show leS ⟨#[c]⟩ "9" = false from e2]
      rfl
    · unfold isDig
      rw [show leS "0" ⟨#[c]⟩ = false from e1]
      rfl
  refine ⟨_, rfl, _, _, rfl, rfl, _, rfl, chn (fun e1 => ⟨_, _, rfl, rfl, _, rfl, chn (fun e2 => fin _ ?_) fun e2 => last true ?_⟩) fun e1 => ⟨_, rfl, chn (fun z => by cases z) fun _ => last true ?_⟩⟩
  · unfold isSign
    rw [show leS "a" ⟨#[c]⟩ = true from e1, show leS ⟨#[c]⟩ "z" = true from e2]
    rfl
  · rw [show leS "a" ⟨#[c]⟩ = true from e1, show leS ⟨#[c]⟩ "z" = false from e2]
    rfl
  · rw [show leS "a" ⟨#[c]⟩ = false from e1]
    rfl
theorem ok_is_word (W : Wd K mg base) : FnOk P w K mg base CX0 3 (A_is_word K) (F_is_word K) ["text"] (sp_is_word K) := by
  refine okG W.fu_is_word sc_is_word (fun vs H Q E h => by obtain ⟨_, rfl, _⟩ := h; rfl) fun A outer s H vs Q E hr h => ?_
  obtain ⟨z, rfl, hz, hT, hQ⟩ := h
  have fin : ∀ b H2, b = isWord z → Sm H H2 → Q (.bl b) H2 := fun b H2 e a => by rw [e]; exact hQ H2 a
  refine ⟨_, PSs.nox (pss_one (ps_ret (pe_and (pe_chain op_le op_le pe_int (pe_callB call_len_str (by rfl) W.fr_len PySem.boot_len (pa_cons (pv 0) pa_nil)) (pe_gint rfl W.in_MOST)) (pe_one (pe_allG1 hr rfl W.fr_all (W.tb _ (.head _)) rfl (gsc (n := s.heap.objs.size + 1) rfl (by rfl)) (pv 0) (fun _ => rfl) (Cnd := fun _ v _ z => v = V.str z) (n := fun z => z.cps.size) (pb := fun z => sgB isSign z) (fun pins σ H1 s1 v u d I r hT hc => src_text I hT (by rw [← hc]; exact r)) (fun pins σ H1 s1 v u d I r hT hc => el_sign W rfl rfl I hT hr (by decide) (gsc (n := s.heap.objs.size + 1) rfl (by rfl)) rfl)))))), ?_⟩
  refine ⟨_, rfl, z, rfl, hz, _, _, rfl, rfl, _, rfl, chn (fun e1 => ⟨_, _, rfl, rfl, _, rfl, chn (fun e2 => ⟨_, rfl, z, rfl, hT _ (.head _), fun H2 t => ?_⟩) fun e2 => ?_⟩) fun e1 => ⟨_, rfl, chn (fun q => by cases q) fun _ => ?_⟩⟩
  · refine fin _ _ ?_ (Sx.tab (hT _ (.head _)) t)
    rw [sgB_all]
    unfold isWord
    rw [e1, e2]
    rfl
  · refine fin _ _ ?_ (Sx.refl _)
    unfold isWord
    rw [e1, e2]
    rfl
  · refine fin _ _ ?_ (Sx.refl _)
    unfold isWord
    rw [e1]
    rfl
def sp_txt (K : PySem.W.Frag) (f : Str → V) : Sp := fun vs H Q _ => ∃ z : Str, vs = [.str z] ∧ z.length ≤ sizeLine ∧ Tabs K H ∧ ∀ H', Sm H H' → Q (f z) H'
theorem ok_is_identifier (W : Wd K mg base) : FnOk P w K mg base CX0 4 (A_is_identifier K) (F_is_identifier K) ["text"] (sp_txt K fun z => .bl (isIdent z)) := by
  refine W.fu_is_identifier.ok sc_is_identifier (fun vs H Q E h => by obtain ⟨_, rfl, _⟩ := h; rfl) fun cdv A outer s H vs Q E hr h => ?_
  obtain ⟨z, rfl, hz, hT, hQ⟩ := h
  have fin : ∀ b H2, b = isIdent z → Sm H H2 → Q (.bl b) H2 := fun b H2 e a => by rw [e]; exact hQ H2 a
  refine ⟨_, PSs.nox (pss_one (ps_ret (pe_and (pe_call (ok_is_word W) (hr.mono (by decide)) rfl W.gl_is_word (W.fu_is_word).kp W.bd_is_word .nil pass0 (pa_cons (pv 0) pa_nil)) (pe_one (pe_chain op_le_str op_le_str pe_str (pe_ix ix_str (pv 0) pe_int (fun _ _ => rfl)) pe_str))))), ?_⟩
  refine ⟨_, rfl, z, rfl, hz, hT, fun H2 a => ⟨_, rfl, chn (fun e1 => ?_) fun e1 => ?_⟩⟩
  · obtain ⟨c, hc⟩ : ∃ c, z.cps[0]? = some c := by
      unfold isWord at e1
      simp only [Bool.and_eq_true, decide_eq_true_eq] at e1
      have h0 : 0 < z.cps.size := by
        have := e1.1
        have : 1 ≤ z.length := by omega
        exact this
      exact ⟨_, Array.getElem?_eq_getElem h0⟩
    have e2 : isIdent z = (leS "a" ⟨#[c]⟩ && leS ⟨#[c]⟩ "z") := by
      unfold isIdent
      rw [e1, hc]
      rfl
    have at0 : atI z.cps.toList ((0 : Nat) : Int) = some c := atI_nat (by rw [Array.getElem?_toList]; exact hc)
    refine ⟨_, rfl, z, 0, c, rfl, rfl, hz, at0, _, _, rfl, rfl, _, rfl, chn (fun e3 => ⟨_, _, rfl, rfl, fin _ _ ?_ a⟩) fun e3 => fin _ _ ?_ a⟩
    · rw [e2, show leS "a" ⟨#[c]⟩ = true from e3]
      rfl
    · rw [e2, show leS "a" ⟨#[c]⟩ = false from e3]
      rfl
  · refine fin _ _ ?_ a
    unfold isIdent
    rw [e1]
    rfl
theorem ok_type_of (W : Wd K mg base) : FnOk P w K mg base CX0 1 (A_type_of K) (F_type_of K) ["thing"] (sp_txt K fun z => .str (typeOf z)) := by
  refine W.fu_type_of.ok sc_type_of (fun vs H Q E h => by obtain ⟨_, rfl, _⟩ := h; rfl) fun cdv A outer s H vs Q E hr h => ?_
  obtain ⟨z, rfl, hz, hT, hQ⟩ := h
  refine ⟨_, PSs.nox (pss_one (ps_ret (pe_ix ix_tup (pe_partition (pv 0) pe_str) pe_int (fun _ _ => rfl)))), ?_⟩
  refine ⟨_, rfl, ⟨_, rfl⟩, z, _, rfl, rfl, rfl, hz, fun p hp => ⟨_, _, _, _, rfl, rfl, SqT.of upd_same, rfl, ?_⟩⟩
  exact hQ _ (Sx.new hp)
def sp_split_reference (K : PySem.W.Frag) : Sp := fun vs H Q _ => ∃ z : Str, vs = [.str z] ∧ z.length ≤ sizeLine ∧ ∀ v H', Sm H H' → Tu H' v [refA z, refB z] → Q v H'
theorem ok_split_reference (W : Wd K mg base) : FnOk P w K mg base CX0 1 (A_split_reference K) (F_split_reference K) ["reference"] (sp_split_reference K) := by
  refine W.fu_split_reference.ok sc_split_reference (fun vs H Q E h => by obtain ⟨_, rfl, _⟩ := h; rfl) fun cdv A outer s H vs Q E hr h => ?_
  obtain ⟨z, rfl, hz, hQ⟩ := h
  refine ⟨_, PSs.nox (pss_cons (ps_asg (pe_partition (pv 0) pe_str) (pg_tup rfl (pgs_cons (pg_name (i := 1) sc_split_reference.nd rfl (by first | exact Or.inl rfl | exact Or.inr rfl)) (pgs_cons (pg_name (i := 2) sc_split_reference.nd rfl (by first | exact Or.inl rfl | exact Or.inr rfl)) (pgs_cons (pg_name (i := 3) sc_split_reference.nd rfl (by first | exact Or.inl rfl | exact Or.inr rfl)) pgs_nil)))))
      (pss_one (ps_ret (pe_tup (pa_cons (pv 1) (pa_cons (pv 3) pa_nil)))))), ?_⟩
  refine ⟨_, rfl, ⟨_, rfl⟩, z, _, rfl, rfl, rfl, hz, fun p hp => ⟨_, _, rfl, SqT.of upd_same, rfl, _, _, rfl, _, _, rfl, _, _, rfl, rfl, ?_⟩⟩
  refine ⟨_, rfl, _, rfl, (by show 2 ≤ sizeLine; decide), fun q hq => hQ _ _ ((Sx.new hp).trans (Sx.new hq)) ⟨q, rfl, upd_same⟩⟩
def sp_token_of : Sp := fun vs H Q _ => ∃ k : Nat, vs = [.str "main", .int k] ∧ k < 41 ∧ Q (.str (tok k)) H
theorem ok_token_of (W : Wd K mg base) : FnOk P w K mg base CX0 1 (A_token_of K) (F_token_of K) ["store", "revision"] sp_token_of := by
  refine W.fu_token_of.ok sc_token_of (fun vs H Q E h => by obtain ⟨_, rfl, _⟩ := h; rfl) fun cdv A outer s H vs Q E hr h => ?_
  obtain ⟨k, rfl, hk, hQ⟩ := h
  refine ⟨_, PSs.nox (pss_one (ps_ret (pe_joined (PJ.cons (pe_fmt (pv 0)) (PJ.cons pe_str (PJ.cons (pe_fmt (pv 1)) PJ.nil)))))), ?_⟩
  have e := tok_f k hk
  have hl := tok_len k hk
  refine ⟨_, rfl, .inl ⟨_, rfl, by decide +kernel, _, rfl, by decide +kernel, _, rfl, by decide +kernel, _, rfl, .inr ⟨_, rfl, ?_, _, rfl, ?_, ?_⟩⟩⟩
  · have : ∀ k : Nat, k < 41 → (k : Int).natAbs.log2 < 1920 := by decide +kernel
    exact this k hk
  · show (((Str.empty ++ Str.ofString "main") ++ Str.ofString "@") ++ num k).length ≤ sizeLine
    rw [e]
    exact Nat.le_trans hl (by decide)
  · show Q (.str (((Str.empty ++ Str.ofString "main") ++ Str.ofString "@") ++ num k)) H
    rw [e]
    exact hQ
theorem call_int_txt {X : Cx} : CallR X (.type "int") (fun xs H Q => ∃ z i, xs = [.str z] ∧ PySem.intText? z = some i ∧ z.length ≤ 640 ∧ Q (.int i) H) := by
  intro pins s σ H xs us Q I r h
  obtain ⟨z, i, rfl, hi, hl, q⟩ := h
  obtain ⟨u, rfl, t, rfl⟩ := vals1 r
  exact PySem.W.KIN.call_text hi hl ⟨.int i, H, I.tok _, ⟨_, rfl⟩, q⟩
def sp_split_token (K : PySem.W.Frag) : Sp := fun vs H Q _ => ∃ k : Nat, vs = [.str (tok k)] ∧ k < 41 ∧ Tabs K H ∧ ∀ v H', Sm H H' → (∃ b, v = .ref b ∧ H' b = some (.tup [.str "main", .int k])) → Q v H'
theorem ok_split_token (W : Wd K mg base) : FnOk P w K mg base CX0 5 (A_split_token K) (F_split_token K) ["text"] (sp_split_token K) := by
  refine okG W.fu_split_token sc_split_token (fun vs H Q E h => by obtain ⟨_, rfl, _⟩ := h; rfl) fun A outer s H vs Q E hr h => ?_
  obtain ⟨k, rfl, hk, hT, hQ⟩ := h
  refine ⟨_, PSs.nox (pss_cons (ps_asg (pe_partition (pv 0) pe_str) (pg_tup rfl (pgs_cons (pg_name (i := 1) sc_split_token.nd rfl (by first | exact Or.inl rfl | exact Or.inr rfl)) (pgs_cons (pg_name (i := 2) sc_split_token.nd rfl (by first | exact Or.inl rfl | exact Or.inr rfl)) (pgs_cons (pg_name (i := 3) sc_split_token.nd rfl (by first | exact Or.inl rfl | exact Or.inr rfl)) pgs_nil)))))
      (pss_cons (ps_if (PW.pt (pw_or (pt_not (pt_val (pe_call (ok_is_identifier W) (hr.mono (by decide)) rfl W.gl_is_identifier (W.fu_is_identifier).kp W.bd_is_identifier .nil pass0 (pa_cons (pv 1) pa_nil)))) (pw_or (pt_not (pt_chain op_le op_le pe_int (pe_callB call_len_str (by rfl) W.fr_len PySem.boot_len (pa_cons (pv 3) pa_nil)) pe_int)) (pw_or1 (pt_not (pt_val (pe_allG1 hr rfl W.fr_all (W.tb _ (.tail _ (.head _))) rfl (gsc (n := s.heap.objs.size + 1) rfl (by rfl)) (pv 3) (fun _ => rfl) (Cnd := fun _ v _ z => v = V.str z) (n := fun z => z.cps.size) (pb := fun z => sgB isDig z) (fun pins σ H1 s1 v u d I r hT hc => src_text I hT (by rw [← hc]; exact r)) (fun pins σ H1 s1 v u d I r hT hc => el_dig (gsc (n := s.heap.objs.size + 1) rfl (by rfl)))))))))) (pss_one (ps_ret pe_non)) pss_nil)
      (pss_cons (ps_if (PW.pt (pw_or (PW.pt (pw_and (pt_cmpR op_eq (pe_ix ix_str (pv 3) pe_int (fun _ _ => rfl)) pe_str (nomark _)) (pw_and1 (pt_cmpR op_ne (pv 3) pe_str (nomark _))))) (pw_or1 (pt_cmpR op_gt (pe_callTy call_int_txt (by rfl) W.fr_int (by decide +kernel) (pa_cons (pv 3) pa_nil)) (pe_gint rfl W.in_REVISION_MOST) (nomark _))))) (pss_one (ps_ret pe_non)) pss_nil)
      (pss_one (ps_ret (pe_tup (pa_cons (pv 1) (pa_cons (pe_callTy call_int_txt (by rfl) W.fr_int (by decide +kernel) (pa_cons (pv 3) pa_nil)) pa_nil)))))))), ?_⟩
  have hl := tok_len k hk
  have hp := tok_part k hk
  have ni := num_int k hk
  have nl := num_len k hk
  obtain ⟨c, c0, cz⟩ := num_0 k hk
  have sz : sizeLine = 16777216 := sizeLine_eq
  have at0 : atI (num k).cps.toList ((0 : Nat) : Int) = some c := atI_nat (by rw [← List.head?_eq_getElem?]; exact c0)
  refine ⟨_, rfl, ⟨_, rfl⟩, tok k, _, rfl, rfl, rfl, by omega, fun p hp0 => ?_⟩
  rw [hp]
  have a1 : Sm H (upd H p (.tup [.str "main", .str "@", .str (num k)])) := Sx.new hp0
  refine ⟨_, _, rfl, SqT.of upd_same, rfl, _, _, rfl, _, _, rfl, _, _, rfl, rfl, ?_⟩
  refine ⟨_, rfl, "main", rfl, by decide +kernel, hT.sx a1, fun H2 a2 => ?_⟩
  refine ⟨_, rfl, ?_⟩
  rw [main_id]
  have d1 : decide ((1 : Int) ≤ ((num k).length : Int)) = true := decide_eq_true (by omega)
  have d2 : decide (((num k).length : Int) ≤ 4) = true := decide_eq_true (by omega)
  refine iteF ?_
  refine ⟨_, rfl, num k, rfl, by omega, _, _, rfl, rfl, _, rfl, ?_⟩
  rw [d1]
  refine iteT ⟨_, _, rfl, rfl, _, rfl, ?_⟩
  rw [d2]
  refine iteF ⟨_, rfl, num k, rfl, hT.sx (a1.trans a2) _ (.tail _ (.head _)), fun H3 t3 => ⟨_, rfl, ?_⟩⟩
  have a3 : Sm H H3 := (a1.trans a2).trans (Sx.tab (hT.sx (a1.trans a2) _ (.tail _ (.head _))) t3)
  rw [sgB_all, num_dig k hk]
  refine iteF ?_
  have ki : decide ((1000 : Int) < (k : Int)) = false := decide_eq_false (by omega)
  by_cases z : V.str ⟨#[c]⟩ = V.str "0"
  · have e0 : num k = "0" := cz (by injection z)
    refine ⟨_, rfl, num k, 0, c, rfl, rfl, by omega, at0, rfl, _, rfl, ?_⟩
    rw [decide_eq_true z]
    refine iteT ⟨_, rfl, rfl, _, rfl, ?_⟩
    rw [decide_eq_true (show V.str (num k) = V.str "0" by rw [e0])]
    refine iteF ⟨_, rfl, num k, _, rfl, ni, by omega, _, _, rfl, rfl, _, rfl, ?_⟩
    rw [ki]
    exact iteF ⟨_, rfl, _, rfl, num k, _, rfl, ni, by omega, (by show 2 ≤ sizeLine; decide), fun q hq => hQ _ _ (a3.trans (Sx.new hq)) ⟨q, rfl, upd_same⟩⟩
  · refine ⟨_, rfl, num k, 0, c, rfl, rfl, by omega, at0, rfl, _, rfl, ?_⟩
    rw [decide_eq_false z]
    refine iteF ⟨_, rfl, num k, _, rfl, ni, by omega, _, _, rfl, rfl, _, rfl, ?_⟩
    rw [ki]
    exact iteF ⟨_, rfl, _, rfl, num k, _, rfl, ni, by omega, (by show 2 ≤ sizeLine; decide), fun q hq => hQ _ _ (a3.trans (Sx.new hq)) ⟨q, rfl, upd_same⟩⟩
end
end K83
namespace K83
open PySem PySem.Spec PyProof.Rows L2 GxR
/-! ### a dict made by a comprehension, keys that are tuples -/
theorem dset {X : Cx} {pins : List (Addr × Obj)} {σ : L2.St} {H G : Hp} {s : Shared} {E : Value → Shared → Prop} {D : Addr} {y v : V} {u r : Value} {Q : Unit → Shared → Prop} (hu : X.A.units + 2 < cLine) (I : Inv X pins σ H s) (g : DPut H D y v G) (ry : RelV y u) (rv : RelV v r)
    (h : ∀ t, Inv X pins σ G t → Q () t) : wpAny (model X.prog X.w) X.A (dictSet D u r) Q E s := by
  rcases g with ⟨kvs, k, e, rfl, l, rfl⟩ | ⟨kvs, k, b, e, rfl, eb, l, rfl⟩
  · exact d_dictSet I e l ry rv h
  · cases (show u = Value.ref b from ry)
    obtain ⟨z, hd, xs, rel, dd⟩ := dt_of I.hok e
    have lx : xs.length ≤ sizeLine := by rw [← Paired.length rel]; exact z
    have lp := length_putK kvs k v
    refine wpAny_dictSet_heap (hsz := lx) (show X.A.units < cLine by omega) (key_of I.hok eb) dd fun g2 dd2 sb => h _ ?_
    obtain ⟨q, es, ep, hq, j2, j3, j4, _, j5⟩ := dd2
    refine d_write I (by rw [e]; trivial) sb ⟨q, hq⟩ ⟨by omega, hd, _, (rel.put k eb rv).keeps fun c ys ec => ?_, q, es, ep, hq, j2, j3, j4, j5⟩
    exact (upd_ne (ne_of ec e fun z => nomatch z)).trans ec
/-- the reading: D the new dict -/
def tDcP (wi : TI) (g : TG) (tk tv : TE) (vs : List Nat) : TE := fun σ H Q => wi σ H fun J H1 => ∀ D, H1 D = none →
  ∃ W : Nat → Nat → Hp → Prop, (∃ m, W 0 m (upd H1 D (.dT []))) ∧ ∀ i m G, W i m G → (J.stop i G ∧ Q (.ref D) G) ∨
    (J.go i G ∧ ∃ Nx : Hp → Prop, (∀ G', Nx G' → ∃ n, n < m ∧ W (i + 1) n G') ∧ ∀ x G', J.yld i G x G' → g x (wipe σ vs) G' fun τ G2 => wipe τ vs = wipe σ vs ∧ tk τ G2 fun y G3 => tv τ G3 fun z G4 => ∃ G5, DPut G4 D y z G5 ∧ Nx G5)
theorem pe_dcP {X : Cx} {kx vx tg iter : Expr} {scope : Scope} {own : List (Str × Nat)} {pos : Pos} {wi : TI} {g : TG} {tk tv : TE} (hu : X.A.units + 2 < cLine) (hc : X.calm = true) (hN : X.N.Nodup) (hi : PI X tg iter wi) (ok : BlkOk X.N X.env.scope scope own)
    (hg : ∀ s H C cl fp, PG (X.blk s H scope (compEnvC scope cl C X.env) fp) tg g)
    (hk : ∀ s H C cl fp, PE (X.blk s H scope (compEnvC scope cl C X.env) fp) kx tk)
    (hv : ∀ s H C cl fp, PE (X.blk s H scope (compEnvC scope cl C X.env) fp) vx tv) (hs : ∀ x, foldedSetIterable iter X.env x = pure x := by intro _; rfl) :
    PE X (.DictComp kx vx [⟨tg, iter, [], 0⟩] scope pos) (tDcP wi g tk tv (own.map (·.2))) := by
  refine ⟨fun pins s σ H Q I h => ?_⟩
  rw [arm_eval_DictComp]
  have cells : ∀ y ∈ scope.names, y.2 = .free → ∃ c, X.env.cells.lookup y.1 = some c := fun y hy e => (ok.free y hy e).elim (fun z => I.ok.has _ (.inl z)) fun z => I.ok.has _ (.inr z)
  refine wpAny_comprehension_free (use := none) rfl hs (closure_ok cells) ok.kind (fun y hy e => by rw [ok.uniq y hy, e]) (thn (hi.run pins s σ H _ I h) fun xv sa ha => thn ha fun itv sb hb => ?_)
  obtain ⟨it, fp, tn, J, Hb, rfl, Ib, T, stb, fb, q⟩ := hb
  refine wpAny_newObj_type (newEnv_comp ?_)
  have Dn : Hb sb.heap.objs.size = none := Ib.hok.fresh (Nat.le_refl _)
  obtain ⟨W, ⟨m0, w0⟩, turn⟩ := q _ Dn
  -- with the new dict
  have Ic : Inv X pins σ (upd Hb sb.heap.objs.size (.dT [])) { sb with heap := sb.heap.push { cls := .type "dict", data := .dict #[] } } :=
    Ib.laid (t' := sb.toks) (fun b o e => Heap.get?_push_of_some _ e) (Nat.le_refl _) (dt_empty sb.heap Ib.big)
  have lt : ∀ b ∈ fp, b < sb.heap.objs.size := fun b hb => let ⟨_, e, _⟩ := T.obj _ _ stb b hb; Heap.lt_size e
  generalize hG : upd Hb sb.heap.objs.size (.dT []) = G at Ic w0
  generalize hD : sb.heap.objs.size = D at Dn Ic w0 turn hG ⊢
  have fc : ∀ b ∈ fp, FpOk X pins G b ∧ b < (sb.heap.push { cls := .type "dict", data := .dict #[] }).objs.size := fun b hb => by
    have l := lt b hb
    refine ⟨⟨?_, (fb b hb).2⟩, by rw [Heap.size_push]; exact Nat.lt_succ_of_lt l⟩
    rw [← hG, upd_ne (by rw [← hD]; exact Nat.ne_of_lt l)]
    exact (fb b hb).1
  have stc : tn 0 (sb.heap.push { cls := .type "dict", data := .dict #[] }) := T.keep _ _ _ stb fun b _ o e => Heap.get?_push_of_some _ e
  generalize hsc : ({ sb with heap := sb.heap.push { cls := .type "dict", data := .dict #[] } } : Shared) = sc at Ic
  have hc2 : sb.heap.push { cls := .type "dict", data := .dict #[] } = sc.heap := by rw [← hsc]
  rw [hc2] at fc stc
  have Id := block_start Ic ok hN fc
  generalize hce : compEnvC scope (cellsFrom (sc.heap.objs.size + 1) scope.names (cloFrom X.env.cells scope.names [])) sc.heap.objs.size X.env = ce at Id
  have pg := hg sc G sc.heap.objs.size (cellsFrom (sc.heap.objs.size + 1) scope.names (cloFrom X.env.cells scope.names [])) fp
  have pk := hk sc G sc.heap.objs.size (cellsFrom (sc.heap.objs.size + 1) scope.names (cloFrom X.env.cells scope.names [])) fp
  have pv := hv sc G sc.heap.objs.size (cellsFrom (sc.heap.objs.size + 1) scope.names (cloFrom X.env.cells scope.names [])) fp
  rw [hce] at pg pk pv
  have cl : ce.locals = sc.heap.objs.size := by rw [← hce]; rfl
  show codeAny _ _ (.compStart (.DictComp kx vx [⟨tg, iter, [], 0⟩] scope pos) 0 (.ref it) (.ref D) (compEnvC scope (cellsFrom (sc.heap.objs.size + 1) scope.names (cloFrom X.env.cells scope.names [])) sc.heap.objs.size X.env)) (compPost (model X.prog X.w) X.A X.xe none (EP X pins σ Q) (.ref D) sc.heap.objs.size) { sc with heap := pushCells (sc.heap.push { cls := .type "dict", data := .dict #[] }) scope.names }
  rw [hce]
  generalize hsd : ({ sc with heap := pushCells (sc.heap.push { cls := .type "dict", data := .dict #[] }) scope.names } : Shared) = sd at Id ⊢
  have std : tn 0 sd.heap := T.keep _ _ _ stc fun b _ o e => by rw [← hsd]; exact pushCells_keeps _ _ _ _ (Heap.get?_push_of_some _ e)
  have free : ∀ {τ : L2.St} {G' : Hp} {t : Shared}, Inv (X.blk sc G scope ce fp) [] τ G' t → (∀ b ∈ fp, G' b = none) → ∀ b ∈ fp, FpOk (X.blk sc G scope ce fp) [] G' b := fun {τ G' t} I' hn b hb =>
    ⟨hn b hb, (I'.ok.exf b hb).1, I'.ok.exfs b hb, .inl hb, fun x c e => (I'.ok.exf b hb).2 x c e, fun p hp => absurd (show p ∈ ([] : List (Addr × Obj)) ++ [] from hp) (by simp)⟩
  have loop : codeAny (model X.prog X.w) X.A (.compLoop (.DictComp kx vx [⟨tg, iter, [], 0⟩] scope pos) 0 (.ref it) (.ref D) ce) (compPost (model X.prog X.w) X.A X.xe none (EP X pins σ Q) (.ref D) sc.heap.objs.size) sd := by
    refine compLoop_anyD (fun n t => ∃ i G', Inv (X.blk sc G scope ce fp) [] (wipe σ (own.map (·.2))) G' t ∧ tn i t.heap ∧ (∀ b ∈ fp, G' b = none) ∧ W i n G') ?_ m0 ⟨0, G, Id, std, fun b hb => (fc b hb).1.1, w0⟩
    rintro n t ⟨i, Gt, It, stt, nt, wt⟩
    rcases turn i n Gt wt with ⟨stop, qq⟩ | ⟨go, Nx, hNx, step⟩
    · refine thnF (T.done (X.blk sc G scope ce fp) rfl rfl rfl hc i [] t _ Gt (fun _ _ => False) It (free It nt) stt stop) fun r t1 ⟨e, I1⟩ => ?_
      subst e
      have Ix : Inv X pins σ Gt t1 := Ic.call' (ch := fp) I1.os I1.base I1.hok I1.bare fun b hb => ⟨(fc b hb).1.2.2.2.1, (fc b hb).1.2.1, (fc b hb).1.2.2.2.2.1, (fc b hb).1.2.2.2.2.2⟩
      have nC : Gt sc.heap.objs.size = none := by
        have z : Gt ce.locals = none := I1.free
        rwa [cl] at z
      obtain ⟨m, hn, _⟩ := I1.loc
      have hn2 : t1.heap.Ns ce.locals m := hn
      rw [cl] at hn2
      obtain ⟨k0, k1, k2, k3, k4, k5⟩ := Ic.fpOk (Nat.le_refl _) nC
      exact ⟨m, hn2, fun h2 sb => ⟨.ref D, Gt, Ix.turned (t' := t1.toks) (fun b o hb e => (sb.2 b hb).trans e) k0 k1 k3 k4 k5, rfl, qq⟩⟩
    · refine thnF (T.item (X.blk sc G scope ce fp) rfl rfl rfl hc i [] t _ Gt (fun _ _ => False) It (free It nt) stt go) fun r t1 ⟨u, e, h1⟩ => ?_
      subst e
      refine thnF h1 fun _ t2 ⟨x, G2, I2, r2, y2, st2, n2⟩ => ?_
      have I2p := I2.pinned (free I2 n2) (T.obj _ _ st2)
      refine thnF (pg.run _ t2 _ G2 x u _ I2p r2 (step x G2 y2)) fun _ t3 ⟨τ, G3, I3, hw, q3⟩ => ?_
      simp only [List.forIn_nil]
      refine wpAny_pure ?_
      rw [if_pos rfl]
      refine thnF (pk.run _ t3 τ G3 _ I3 q3) fun z1 t4 ⟨yk, G4, I4, r4, q4⟩ => thnF (pv.run _ t4 τ G4 _ I4 q4) fun z2 t5 ⟨yv, G5, I5, r5, G6, put, nx⟩ => ?_
      refine dset (X := X.blk sc G scope ce fp) hu I5 put r4 r5 fun t6 I6 => ?_
      obtain ⟨m', hm, w'⟩ := hNx G6 nx
      have pin : ∀ b ∈ fp, ∀ o, t2.heap.get? b = some o → t6.heap.get? b = some o ∧ G6 b = none := fun b hb o e =>
        have z := I6.pin (b, o) (List.mem_append_right _ (List.mem_append_right _ (mem_pinsAt hb e)))
        ⟨z.1, z.2.1⟩
      refine ⟨m', hm, i + 1, G6, (I6.unpinned (pins := [])).weak (by rw [← hw, wipe_length]) (fun j v e => ?_), T.keep _ _ _ st2 fun b hb o e => (pin b hb o e).1, fun b hb => ?_, w'⟩
      · rw [← hw] at e
        exact (wipe_some e).1
      · obtain ⟨o, e, _⟩ := T.obj _ _ st2 b hb
        exact (pin b hb o e).2
  exact codeAny_compStart_dict loop (T.self X.A 0 _ _ _ std loop)
end K83
namespace K83
open PySem PySem.Spec PyProof.Rows L2 GxR
/-! ### sorted(..) of tuples of texts: of a list, of a dict's keys -/
def sortU (l : List (List Str)) : List (List Str) := l.mergeSort (PySem.W.dataLe false tD)
theorem sortU_perm (l : List (List Str)) : (sortU l).Perm l := List.mergeSort_perm _ _
theorem alike_strs : ∀ a b : List Str, PySem.W.alikeAll (a.map PyData.str) (b.map PyData.str) = true
  | [], _ => by simp [PySem.W.alikeAll]
  | _ :: _, [] => by simp [PySem.W.alikeAll]
  | _ :: a, _ :: b => by simp [PySem.W.alikeAll, PySem.W.alike, alike_strs a b]
theorem alike_tD (a b : List Str) : PySem.W.alike (tD a) (tD b) = true := by simp [tD, PySem.W.alike, alike_strs]
theorem sortable_tD {l : List (List Str)} (h : ∀ k ∈ l, k ≠ []) : PySem.W.Sortable (l.map tD) := .inl fun d hd => by
  obtain ⟨k, hk, rfl⟩ := List.mem_map.mp hd
  cases k with
  | nil => exact absurd rfl (h _ hk)
  | cons x r => exact ⟨_, _, rfl⟩
/-- a value that is such a tuple -/
def Rt (H : Hp) (v : Value) (k : List Str) : Prop := ∃ b, v = .ref b ∧ H b = some (.tup (k.map V.str))
theorem reads_strs {h : Heap} : ∀ {ks : List Str} {us : List Value}, Vals (ks.map V.str) us → ReadsAll h us (ks.map PyData.str) []
  | [], _, r => by cases r; exact .nil
  | k :: ks, _, r => by
    cases r with
    | cons r1 r2 =>
      obtain ⟨t, rfl⟩ := r1
      exact ReadsAll.cons (as := []) (bs := []) (.str k t) (reads_strs r2)
section
variable {X : Cx} {pins : List (Addr × Obj)} {σ : L2.St} {H : Hp} {s : Shared}
theorem rt_reads (I : Inv X pins σ H s) {v : Value} {k : List Str} (h : Rt H v k) : Reads s.heap v (tD k) [] := by
  obtain ⟨b, rfl, hb⟩ := h
  obtain ⟨_, its, rv, ⟨o, ho, hc, n, hd⟩⟩ := (show ObjOk X.prog X.w H s.heap b (.tup (k.map V.str)) from I.hok b _ hb)
  exact .tuple ho hc hd (reads_strs rv)
theorem rts_of : ∀ {xs : List V} {us : List Value} {l : List (List Str)}, Tus H xs l → Vals xs us → PySem.W.EachIs (Rt H) us l
  | _, _, _, .nil, r => by cases r; exact .nil
  | _, _, _, .cons h t, r => by
    cases r with
    | cons r1 r2 =>
      obtain ⟨b, rfl, hb⟩ := h
      cases r1
      exact .cons ⟨b, rfl, hb⟩ (rts_of t r2)
theorem rts_out : ∀ {us : List Value} {l : List (List Str)}, PySem.W.EachIs (Rt H) us l → ∃ xs, Vals xs us ∧ Tus H xs l
  | _, _, .nil => ⟨[], .nil, .nil⟩
  | _, _, .cons h t => by
    obtain ⟨b, rfl, hb⟩ := h
    obtain ⟨xs, r, q⟩ := rts_out t
    exact ⟨.ref b :: xs, .cons rfl r, .cons ⟨b, rfl, hb⟩ q⟩
end
section
variable {X : Cx}
def rSrt (K : PySem.W.Frag) : List V → Hp → VK → Prop := fun vs H Q => ∃ (a : Addr) (l : List (List Str)), vs = [.ref a] ∧ (∀ k ∈ l, k ≠ []) ∧ ((∃ xs, SqL K H a xs ∧ Tus H xs l) ∨ ∃ kvs, Rd H a (.dT kvs) ∧ kvs.map (·.1) = l.map fun k => k.map Sum.inr) ∧
  ∀ p ys, H p = none → Tus H ys (sortU l) → Q (.ref p) (upd H p (.lst ys))
theorem cr_srt (hc : X.calm = true) (hu : X.A.units + 64 < cLine) : CallR X (.builtin "sorted") (rSrt X.K) := by
  intro pins s σ H xs us Q I r h
  obtain ⟨a, l, rfl, hne, src, q⟩ := h
  obtain ⟨u, rfl, rx⟩ := vals1 r
  cases rx
  have hal : PySem.W.AllAlike (l.map tD) := .of alike_tD
  have hk := sortable_tD hne
  rcases src with ⟨xs, hs, ht⟩ | ⟨kvs, hd, hks⟩
  · obtain ⟨its, rv, pl, hz⟩ := I.list hs
    have e := rts_of ht rv
    have hl : l.length ≤ sizeLine := by rw [← e.length, ← rv.length]; exact hz
    refine PySem.W.sorted_data (vs := its) (bs := l) (enc := tD) (R := Rt H) pl.isList e (e.mono fun v b x => ⟨_, rt_reads I x⟩) hal hk hl (fun b _ => by rw [tD_depth]; omega) fun out lo eo => ?_
    obtain ⟨ys, ry, ty⟩ := rts_out eo
    obtain ⟨c, hat⟩ := PyProof.Rows.sortedAll_at s.heap its out.toArray
    refine ⟨.ref (s.heap.objs.size + 1), _, I.laid (t' := s.toks) (o := .lst ys) (fun b o z => PyProof.Rows.sortedAll_old z) (Nat.le_succ _) ?_, rfl, q _ ys (I.hok.fresh (Nat.le_succ _)) ty⟩
    exact ⟨by rw [ry.length, lo]; exact hl, out, c, ry, hat⟩
  · obtain ⟨z, lo, ks, pr, o, es, ep, ho, hx, hdt, he, hn⟩ := (show ObjOk X.prog X.w H s.heap a (.dT kvs) from hd.ok I.hok)
    have l1 : es.size = ks.length := size_of_entries he
    have l2 : kvs.length = ks.length := Paired.length pr
    have l3 : kvs.length = l.length := by simpa using congrArg List.length hks
    refine Calls.call_function_entry PyProof.Rows.kind_sorted PyProof.Rows.plain_sorted PyProof.Rows.entry_sorted (PyProof.Rows.args_sorted1 _) ?_
    unfold Builtin.«sorted»
    refine wpAny_bind (m := checkCount "sorted" 1 1 _) (wpAny_pure ?_)
    refine wpAny_bind (PySem.W.kdu_collect (A := X.A.in1) (kdl_raw lo hx hdt) (I.ok.hd hc) ho (by omega) fun h' tk acc hkp it => ?_)
    have ea : acc.toList = ks.map fun x => Value.ref x.2.1 := by
      have hl : acc.toList.length = ks.length := by rw [Array.length_toList, it.1]; exact l1
      refine List.ext_getElem? fun j => ?_
      rw [List.getElem?_map]
      cases hj : acc.toList[j]? with
      | none =>
        have := List.getElem?_eq_none_iff.mp hj
        rw [List.getElem?_eq_none (by omega)]
        rfl
      | some v =>
        obtain ⟨en, hen, hv⟩ := it.2 j v (by rw [← Array.getElem?_toList]; exact hj)
        have qe := entry_at he j
        rw [hen] at qe
        cases hb : ks[j]? with
        | none => rw [hb] at qe; cases qe
        | some b =>
          rw [hb] at qe
          have e2 : en = entryOfKey (tupleKind (mixKind X.prog X.w)) b := Option.some.inj qe
          rw [hv, e2]
          rfl
    have hkt : ∀ {kvs : List (List Key × V)} {ks : List (List Key × Addr × Value)} {l : List (List Str)}, KT H kvs ks → kvs.map (·.1) = l.map (fun k => k.map Sum.inr) → PySem.W.EachIs (Rt H) (ks.map fun x => Value.ref x.2.1) l := by
      intro kvs ks l pr
      induction pr generalizing l with
      | nil => intro e; cases l with
        | nil => exact .nil
        | cons _ _ => cases e
      | @cons p q ps qs h t ih => intro e; cases l with
        | nil => cases e
        | cons k l =>
          injection e with e1 e2
          refine .cons ⟨_, rfl, ?_⟩ (ih e2)
          have e3 := h.2.1
          rw [show p.1 = k.map Sum.inr from e1, List.map_map] at e3
          exact e3
    have e := hkt pr hks
    rw [← ea] at e
    have I1 : Inv X pins σ H { s with heap := h', toks := tk } := I.kept hkp
    have hl : l.length ≤ sizeLine := by omega
    have hla : acc.toList.length = l.length := e.length
    refine wpAny_bind (wpAny_newList ?_ (by rw [hla]; exact hl))
    have hoL : (h'.push (seqObj "list" acc.toList.toArray 0)).get? h'.objs.size = some (seqObj "list" acc.toList.toArray 0) := Heap.get?_push_size _ rfl
    have I2 : Inv X pins σ H { s with heap := h'.push (seqObj "list" acc.toList.toArray 0), toks := tk } := I1.kept (t' := tk) fun b o z => Heap.get?_push_of_some _ z
    show wpAny _ _ _ _ _ { s with heap := h'.push (seqObj "list" acc.toList.toArray 0), toks := tk }
    refine wpAny_bind (wpAny_holding (PySem.W.list_sort_data (s := { s with heap := h'.push (seqObj "list" acc.toList.toArray 0), toks := tk }) (vs := acc.toList) (bs := l) (enc := tD) (R := Rt H) hoL e (e.mono fun v b x => ⟨_, rt_reads I2 x, by simp⟩) hal hk hl (fun b _ => by rw [tD_depth]; show X.A.units + 1 + 1 + 1 < cLine; omega) fun out lo eo => ?_))
    obtain ⟨ys, ry, ty⟩ := rts_out eo
    obtain ⟨c, hat⟩ := PyProof.Rows.sortedHeap_at (vs := acc.toList) (out := out.toArray) hoL
    refine wpAny_pure ⟨_, rfl, .ref h'.objs.size, _, I1.laid (t' := tk) (o := .lst ys) (fun b u z => ?_) (Nat.le_refl _) ⟨by rw [ry.length, lo]; exact hl, out, c, ry, hat⟩, rfl, q _ ys (I1.hok.fresh (Nat.le_refl _)) ty⟩
    have hb : b < h'.objs.size := Heap.lt_size z
    rw [PyProof.Rows.sortedHeap_old (Nat.ne_of_lt hb) (by rw [size_push']; exact Nat.lt_succ_of_lt hb)]
    exact Heap.get?_push_of_some _ z
end
end K83
namespace K83
open PySem PySem.Spec PyProof.Rows L2 GxR
/-! ### elements with names of the def around -/
theorem clo_at {cells : List (Str × Addr)} {names : List (Str × NameKind)} {n : Str} {c : Addr} (h : names.lookup n = some .free) (hc : cells.lookup n = some c) : (cloFrom cells names []).lookup n = some c := by
  have m := cloFrom_has (cells := cells) (acc := []) (PySem.mem_of_lookup h)
  obtain ⟨d, hd⟩ := mem_lookup m
  rcases cloFrom_mem (PySem.mem_of_lookup hd) with z | ⟨_, e⟩
  · cases z
  · rw [hd, e, hc]
    rfl
section
variable {X : Cx} {pins : List (Addr × Obj)} {σ : L2.St} {H1 : Hp} {s1 s2 : Shared} {T : Addr}
theorem free_at (I : Inv X pins σ H1 s1) (hT : TabG H1 T) (hk : ∀ b o, b ≠ T → s1.heap.get? b = some o → s2.heap.get? b = some o) {i : Nat} {x : Str} {v : V} (hN : X.N[i]? = some x) (hc : X.env.scope.names.lookup x = some .cell) (hv : σ[i]? = some (some v)) :
    ∃ c u, X.env.cells.lookup x = some c ∧ s2.heap.IsCell c (some u) ∧ RelV v u := by
  obtain ⟨m, _, hl⟩ := I.loc
  obtain ⟨u, r, l⟩ := hl i x v hN hv (.inr (.inl hc))
  rcases l with ⟨hl, _⟩ | ⟨_, c, e, o, ho, hd⟩
  · have q : X.env.kindOf x = some .cell := hc
    rw [q] at hl
    cases hl
  · obtain ⟨ps, hP⟩ := tab_at I hT
    refine ⟨c, u, e, ⟨o, hk c o (fun z => ?_) ho, hd⟩, r⟩
    rw [z, hP] at ho
    cases ho
    cases hd
/-- what is tracked beside the table, at the element's state -/
theorem hok_at (I : Inv X pins σ H1 s1) (hT : TabG H1 T) (hk : ∀ b o, b ≠ T → s1.heap.get? b = some o → s2.heap.get? b = some o) : HOk X.prog X.w (fun b => if b = T then none else H1 b) s2.heap := by
  obtain ⟨ps, hP, _⟩ := hT
  have ne : ∀ {b o}, H1 b = some o → (∀ q, o ≠ .tbl q) → b ≠ T := fun {b o} e n z => by
    rw [z, hP] at e
    exact n ps (Option.some.inj e).symm
  intro a o e
  have e' : (if a = T then none else H1 a) = some o := e
  by_cases z : a = T
  · rw [if_pos z] at e'
    cases e'
  · rw [if_neg z] at e'
    refine (I.hok a o e').stay (fun b u hb q => hk b u ?_ q) (fun b q => ?_) fun b xs q => ?_
    · rcases hb with rfl | hb
      · exact z
      · exact ne hb fun _ w => nomatch w
    · exact (if_neg (ne q fun _ w => nomatch w)).trans q
    · exact (if_neg (ne q fun _ w => nomatch w)).trans q
theorem at_of (I : Inv X pins σ H1 s1) (hT : TabG H1 T) {b : Addr} {o : HO} (h : H1 b = some o) (n : ∀ q, o ≠ .tbl q := by intro _ z; cases z) : (fun b => if b = T then none else H1 b) b = some o := by
  obtain ⟨ps, hP, _⟩ := hT
  exact (if_neg fun z => by rw [z, hP] at h; exact n ps (Option.some.inj h).symm).trans h
end
section
variable {P : Program} {w : World} {A : Around} {env : Env} {m : Str → Option Value} {g : Heap} {a b : Expr} {x : Str} {pos : Pos}
theorem pu_free {v : V} {u : Value} {c : Addr} (hk : env.scope.kind = .function) (hl : env.scope.names.lookup x = some .free) (hc : env.cells.lookup x = some c) (hv : g.IsCell c (some u)) (r : RelV v u) (hd : (x == ("__debug__" : Str)) = false := by decide) (hn : (x == ("__classdict__" : Str)) = false := by decide) : PU P w A env m g (.Name x pos) v :=
  ⟨fun s E hn2 hg => wpAny_Name (wpAny_loadName_free hk hl hc (hv.keeps hg) ⟨r, keeps_refl _⟩ hn) hd⟩
/-- any comparison whose rule speaks of values that stand in g -/
theorem pu_cmp {op : CmpOp} {va vb : V} {k : Bool} (ha : PU P w A env m g a va) (hb : PU P w A env m g b vb)
    (h : ∀ s E u1 u2, (∀ b o, g.get? b = some o → s.heap.get? b = some o) → RelV va u1 → RelV vb u2 → wpAny (model P w) A (compareOp op u1 u2) (fun y s' => y = .bool k ∧ Keeps s s') E s) (hm : behindInMarks op b = false := by with_unfolding_all rfl) : PU P w A env m g (.Compare a [op] [b] pos) (.bl k) := by
  refine ⟨fun s E hn hg => wpAny_Compare1 (thn (ha.run s E hn hg) fun u s1 ⟨r1, k1⟩ => thn (hb.run s1 E (kNs k1 hn) (kHp k1 hg)) fun u2 s2 ⟨r2, k2⟩ => thn (h s2 E u u2 (kHp (kTr k1 k2) hg) r1 r2) fun y s3 ⟨e, k3⟩ => ⟨e, kTr (kTr k1 k2) k3⟩) hm⟩
end
/-- the items of a list, as they stand -/
def itsO : Option Obj → Array Value
  | some ⟨_, _, .seq its _, _⟩ => its
  | _ => #[]
def itsOf (s : Shared) : Value → Array Value
  | .ref a => itsO (s.heap.get? a)
  | _ => #[]
theorem itsO_of {x : Option Obj} {o : Obj} {its : Array Value} {n : Nat} (h : x = some o) (hd : o.data = .seq its n) : itsO x = its := by
  subst h
  obtain ⟨cls, dd, data, sl⟩ := o
  simp only at hd
  subst hd
  rfl
theorem itsOf_list {s : Shared} {a : Addr} {its : Array Value} (h : s.heap.IsList a its) : itsOf s (.ref a) = its := by
  obtain ⟨o, ho, hc, n, hd⟩ := h
  exact itsO_of ho hd
theorem itsOf_tup {s : Shared} {a : Addr} {its : Array Value} (h : s.heap.IsTuple a its) : itsOf s (.ref a) = its := by
  obtain ⟨o, ho, hc, n, hd⟩ := h
  exact itsO_of ho hd
/-! ### grant (not) in known: known a dict of the def, its keys tuples -/
def dU (l : List (List Str)) : List (List Key × V) := l.map fun k => (k.map Sum.inr, V.bl true)
theorem inr_kV (k : List Str) : (k.map (Sum.inr : Str → Key)).map kV = k.map V.str := by rw [List.map_map]; rfl
theorem inr_inj {a b : List Str} (h : a.map (Sum.inr : Str → Key) = b.map Sum.inr) : a = b := by
  induction a generalizing b with
  | nil => cases b with
    | nil => rfl
    | cons _ _ => cases h
  | cons x a ih => cases b with
    | nil => cases h
    | cons y b =>
      injection h with h1 h2
      injection h1 with h1
      rw [h1, ih h2]
theorem dU_val (l : List (List Str)) (k : List Str) : (valV (dU l) (k.map Sum.inr)).isSome = decide (k ∈ l) := by
  induction l with
  | nil => rfl
  | cons a l ih =>
    show (valV ((a.map Sum.inr, V.bl true) :: dU l) (k.map Sum.inr)).isSome = _
    by_cases h : a = k
    · rw [valV_pos (by rw [h])]
      simp [h]
    · rw [valV_neg (fun z => h (inr_inj z)), ih]
      simp [show ¬ k = a from fun z => h z.symm]
/-- what a source and the known dict hold -/
structure KnD where
  a : Addr
  xs : List V
  l : List (List Str)
  d : Addr
  kd : List (List Str)
def KnC (K : PySem.W.Frag) (j : Nat) (σ : L2.St) (v : V) (H : Hp) (z : KnD) : Prop := v = .ref z.a ∧ SqL K H z.a z.xs ∧ Tus H z.xs z.l ∧ σ[j]? = some (some (.ref z.d)) ∧ H z.d = some (.dT (dU z.kd))
def knB (f : Bool → Bool) (z : KnD) (i : Nat) : Bool := match z.l[i]? with
  | some k => f (decide (k ∈ z.kd))
  | none => false
theorem knB_all (f : Bool → Bool) (z : KnD) : (List.range z.l.length).all (knB f z) = z.l.all fun k => f (decide (k ∈ z.kd)) := by
  rw [Bool.eq_iff_iff, List.all_eq_true, List.all_eq_true]
  constructor
  · intro h b hb
    obtain ⟨j, hj, e⟩ := List.getElem_of_mem hb
    have q := h j (List.mem_range.mpr hj)
    unfold knB at q
    rw [List.getElem?_eq_getElem hj, e] at q
    exact q
  · intro h j hj
    have hj' := List.mem_range.mp hj
    unfold knB
    rw [List.getElem?_eq_getElem hj']
    exact h _ (List.getElem_mem hj')
section
variable {X : Cx} {pins : List (Addr × Obj)} {σ : L2.St} {H1 : Hp} {s1 : Shared} {T : Addr}
theorem src_kn {j : Nat} {v : V} {u : Value} {z : KnD} (I : Inv X pins σ H1 s1) (hT : TabG H1 T) (r : RelV v u) (h : KnC X.K j σ v H1 z) : Src1 X.prog X.w T s1 u z.l.length (fun i y => (itsOf s1 u)[i]? = some y) := by
  obtain ⟨rfl, hs, ht, _⟩ := h
  cases r
  obtain ⟨its, rv, pl, _⟩ := I.list hs
  have e : its.toArray.size = z.l.length := by
    rw [List.size_toArray, ← rv.length]
    exact Paired.length ht
  rw [itsOf_list pl.isList, ← e]
  exact src_list I hT pl.isList
theorem el_kn {j : Nat} {v : V} {u : Value} {z : KnD} (neg : Bool) (I : Inv X pins σ H1 s1) (hT : TabG H1 T) (r : RelV v u) (h : KnC X.K j σ v H1 z) {k : Nat} (hr : Room k X.A) {sc : Scope} {x y : Str} {p1 p2 p3 : Pos} (S : GenSc X.env sc [x])
    (hN : X.N[j]? = some y) (hc : X.env.scope.names.lookup y = some .cell) (hf : sc.names.lookup y = some .free) (hd : (x == ("__debug__" : Str)) = false := by decide) (hd2 : (y == ("__debug__" : Str)) = false := by decide) (hd3 : (y == ("__classdict__" : Str)) = false := by decide) :
    El1 X sc x (.Compare (.Name x p1) [if neg then .NotIn else .In] [.Name y p2] p3) T s1 (fun i y => (itsOf s1 u)[i]? = some y) (knB (fun b => if neg then !b else b) z) := by
  obtain ⟨rfl, hs, ht, hσ, hdk⟩ := h
  cases r
  intro L code bi A' E' i v2 s2 m2 hA hdp hu hF hn hm hk
  obtain ⟨its, rv, pl, _⟩ := I.list hs
  rw [itsOf_list pl.isList] at hF
  have hF' : its[i]? = some v2 := by simpa using hF
  obtain ⟨xv, hx, rx⟩ : ∃ xv, z.xs[i]? = some xv ∧ RelV xv v2 := by
    cases q : z.xs[i]? with
    | none => rw [rv.none_of q] at hF'; cases hF'
    | some xv =>
      obtain ⟨u2, h1, h2⟩ := rv.get q
      rw [hF'] at h1
      cases h1
      exact ⟨xv, rfl, h2⟩
  obtain ⟨kk, hkk, b, rfl, hb⟩ := pr_get ht hx
  have eB : knB (fun b => if neg then !b else b) z i = (if neg then !decide (kk ∈ z.kd) else decide (kk ∈ z.kd)) := by
    unfold knB
    rw [hkk]
  rw [eB]
  obtain ⟨c, uc, hcl, hcell, ru⟩ := free_at (x := y) I hT hk hN hc hσ
  cases rx
  have hok := hok_at I hT hk
  have hbT := at_of I hT hb
  have hdT := at_of I hT hdk
  have units : A'.units + 1 < cLine := by have := hr.un; omega
  rw [← inr_kV] at hbT
  obtain ⟨_, lo, es, rel, dd⟩ := dt_rd hok (.inl hdT)
  have hky := key_of hok hbT
  have q := (rel.val (kk.map Sum.inr)).isSome_eq
  rw [Option.isSome_map, dU_val] at q
  refine thn ((pu_cmp (k := if neg then !decide (kk ∈ z.kd) else decide (kk ∈ z.kd)) (pu_loc (P := X.prog) (w := X.w) (A := A') (g := s2.heap) S.kind (S.loc x (by simp)) hm (v := .ref b) rfl hd) (pu_free S.kind hf (clo_at hf hcl) hcell ru hd2 hd3) ?_).run s2 E' hn fun _ _ e => e) fun y s3 h => h
  intro s E u1 u2 hg r1 r2
  cases r1
  cases r2
  have dd' : s.heap.DictOfH (tupleKind (mixKind X.prog X.w)) z.d es := by
    obtain ⟨o, e1, e2, h1, h2, h3, h4, h5, h6⟩ := dd
    refine ⟨o, e1, e2, hg _ _ h1, h2, h3, h4, fun y hy => ?_, h6⟩
    obtain ⟨o, its, n, g1, g2, g3, g4⟩ := h5 y hy
    exact ⟨o, its, n, hg _ _ g1, g2, g3, g4⟩
  have hky' : (tupleKind (mixKind X.prog X.w)).is s.heap (kk.map Sum.inr) b := by
    obtain ⟨o, its, n, g1, g2, g3, g4⟩ := hky
    exact ⟨o, its, n, hg _ _ g1, g2, g3, g4⟩
  cases neg with
  | true =>
    refine wpAny_notIn_heap (tupleKind_room_in1 units) hky' lo dd' ⟨?_, keeps_tok _ _⟩
    rw [← q]
    rfl
  | false =>
    refine wpAny_in_heap (tupleKind_room_in1 units) hky' lo dd' ⟨?_, keeps_tok _ _⟩
    rw [← q]
    rfl
end
end K83
namespace K83
open PySem PySem.Spec PyProof.Rows L2 GxR
theorem hu2_of {k : Nat} {A : Around} (r : Room k A) : A.units + 2 < cLine := by have := r.units; omega
/-! ### {x: True for x in l} -/
theorem dU_snoc (l : List (List Str)) (k : List Str) : dU (l ++ [k]) = dU l ++ [(k.map Sum.inr, V.bl true)] := by simp [dU]
theorem dU_none {l : List (List Str)} {k : List Str} (h : k ∉ l) : valV (dU l) (k.map Sum.inr) = none := by
  have e := dU_val l k
  rw [decide_eq_false h] at e
  cases q : valV (dU l) (k.map Sum.inr) with
  | none => rfl
  | some v => rw [q] at e; cases e
theorem dcU {K : PySem.W.Frag} {a : Addr} {xs : List V} {l : List (List Str)} {j : Nat} {σ : L2.St} {vs : List Nat} {H : Hp} {D : Addr} {Q : Hp → Prop} (hs : SqL K H a xs) (ht : Tus H xs l) (nd : l.Nodup) (hz : l.length ≤ sizeLine) (hD : H D = none)
    (hw : ∀ v : V, wipe ((wipe σ vs).set j (some v)) vs = wipe σ vs) (hj : ∀ v : V, ((wipe σ vs).set j (some v))[j]? = some (some v)) (q : Q (upd H D (.dT (dU l)))) :
    ∃ W : Nat → Nat → Hp → Prop, (∃ m, W 0 m (upd H D (.dT []))) ∧ ∀ i m G, W i m G → ((Itl K a).stop i G ∧ Q G) ∨
      ((Itl K a).go i G ∧ ∃ Nx : Hp → Prop, (∀ G', Nx G' → ∃ n, n < m ∧ W (i + 1) n G') ∧ ∀ x G', (Itl K a).yld i G x G' → gName j x (wipe σ vs) G' fun τ G2 => wipe τ vs = wipe σ vs ∧ tVar j τ G2 fun y G3 => tC (.bl true) τ G3 fun z G4 => ∃ G5, DPut G4 D y z G5 ∧ Nx G5) := by
  have hl : xs.length = l.length := Paired.length ht
  have sq : ∀ o, SqL K (upd H D o) a xs := fun o => Sx.sqLS (Sx.new hD) hs
  refine ⟨fun i m G => m = l.length - i ∧ i ≤ l.length ∧ G = upd H D (.dT (dU (l.take i))), ⟨_, rfl, Nat.zero_le _, by simp [dU]⟩, ?_⟩
  rintro i m G ⟨rfl, hi, rfl⟩
  by_cases lt : i < l.length
  · refine .inr ⟨⟨xs, xs[i]'(by omega), sq _, List.getElem?_eq_getElem _⟩, fun G' => G' = upd H D (.dT (dU (l.take (i + 1)))), fun G' e => ⟨_, by omega, rfl, lt, e⟩, ?_⟩
    rintro x G' ⟨rfl, hx⟩
    obtain ⟨k, hk, b, rfl, hb⟩ := pr_get ht (hx xs (sq _))
    refine ⟨hw _, _, hj _, _, DPut.t (k := k.map Sum.inr) upd_same (b := b) ?_ ?_, ?_⟩
    · rw [inr_kV, upd_ne (ne_of_none hb hD)]
      exact hb
    · simp [dU]
      omega
    · have ek : l[i] = k := by
        rw [List.getElem?_eq_getElem lt] at hk
        exact Option.some.inj hk
      have nk : k ∉ l.take i := by
        rw [← ek]
        intro z
        have e2 := nd
        rw [← List.take_append_drop i l] at e2
        exact (List.nodup_append.mp e2).2.2 _ z _ (by rw [List.drop_eq_getElem_cons lt]; exact List.mem_cons_self) rfl
      show upd (upd H D _) D (.dT (putK (dU (l.take i)) (k.map Sum.inr) (.bl true))) = _
      rw [upd_upd, putK_new _ (dU_none nk), ← dU_snoc, List.take_succ_eq_append_getElem lt, ek]
  · have e : i = l.length := by omega
    subst e
    rw [List.take_length]
    exact .inl ⟨⟨xs, sq _, by omega⟩, q⟩
/-! ### a locked dict, back again -/
theorem Sx.lock {M : Addr → Prop} {H G : Hp} {d : Addr} {od : Obj} {u : HO} (h : H d = some u) (a : Sx M (upd H d (.frz od u)) G) (n1 : ∀ xs, u ≠ .tup xs := by intro _ z; cases z) (n2 : ∀ ps, u ≠ .tbl ps := by intro _ z; cases z) (n3 : ∀ a b, u ≠ .frz a b := by intro _ _ z; cases z) : Sx M H (upd G d u) := by
  have ne : ∀ {b : Addr} {v : HO}, H b = some v → (v = u → False) → b ≠ d := fun {b v} e q z => by
    rw [z, h] at e
    exact q (Option.some.inj e).symm
  refine ⟨fun b v e m n => ?_, fun b xs e => ?_, fun b o v e => ?_, fun T e => ?_, fun b e => ?_⟩
  · by_cases z : b = d
    · rw [z, h] at e
      cases e
      rw [z, upd_same]
    · rw [upd_ne z]
      exact a.keep b v (by rw [upd_ne z]; exact e) m n
  · have z := ne e fun w => n1 xs w.symm
    rw [upd_ne z]
    exact a.tups b xs (by rw [upd_ne z]; exact e)
  · have z := ne e fun w => n3 o v w.symm
    rw [upd_ne z]
    exact a.frzs b o v (by rw [upd_ne z]; exact e)
  · obtain ⟨ps, e, t⟩ := e
    have z := ne e fun w => n2 ps w.symm
    obtain ⟨ps', e', t'⟩ := a.tabs T ⟨ps, by rw [upd_ne z]; exact e, t⟩
    exact ⟨ps', by rw [upd_ne z]; exact e', t'⟩
  · by_cases z : b = d
    · rw [z, upd_same] at e
      cases e
    · rw [upd_ne z] at e
      have q := a.old b e
      rw [upd_ne z] at q
      exact q
theorem upd_back {H : Hp} {d D : Addr} {o u f : HO} (h : H d = some u) (n : D ≠ d) : upd (upd (upd H d f) D o) d u = upd H D o := by
  funext b
  by_cases z : b = d
  · rw [z, upd_same, upd_ne n.symm, h]
  · rw [upd_ne z]
    by_cases y : b = D
    · rw [y, upd_same, upd_same]
    · rw [upd_ne y, upd_ne y, upd_ne z]
/-- [x for x in .. if test]: the tuples of l that pass -/
theorem flW {J : It} {G : Hp → Prop} {Y : Nat → Hp → V → Hp → Prop} {l : List (List Str)} {p : List Str → Bool} {j : Nat} {σ : L2.St} {vs : List Nat} {H : Hp} {D : Addr} {Q : Hp → Prop} {tt : TT} (w : Walk J l.length G Y) (hD : H D = none) (hz : l.length ≤ sizeLine) (hG : ∀ ys, G (upd H D (.lst ys)))
    (hY : ∀ i ys x H', Y i (upd H D (.lst ys)) x H' → H' = upd H D (.lst ys) ∧ ∃ k b, l[i]? = some k ∧ x = V.ref b ∧ H b = some (.tup (k.map V.str)))
    (hw : ∀ v : V, wipe ((wipe σ vs).set j (some v)) vs = wipe σ vs) (hj : ∀ v : V, ((wipe σ vs).set j (some v))[j]? = some (some v))
    (ht : ∀ k b ys (R : Bool → Hp → Prop), H b = some (.tup (k.map V.str)) → upd H D (.lst ys) b = some (.tup (k.map V.str)) → R (p k) (upd H D (.lst ys)) → tt ((wipe σ vs).set j (some (.ref b))) (upd H D (.lst ys)) R) (q : ∀ ys, Tus H ys (l.filter p) → Q (upd H D (.lst ys))) :
    ∃ W : Nat → Nat → Hp → Prop, (∃ m, W 0 m (upd H D (.lst []))) ∧ ∀ i m G, W i m G → (J.stop i G ∧ Q G) ∨ (J.go i G ∧ ∃ Nx : Hp → Prop, (∀ G', Nx G' → ∃ n, n < m ∧ W (i + 1) n G') ∧ ∀ x G', J.yld i G x G' → gName j x (wipe σ vs) G' fun τ G2 => wipe τ vs = wipe σ vs ∧ tt τ G2 fun b G3 =>
      if b = true then tVar j τ G3 fun y G4 => ∃ acc, G4 D = some (.lst acc) ∧ acc.length < sizeLine ∧ Nx (upd G4 D (.lst (acc ++ [y]))) else Nx G3) := by
  refine lc_it w (fun i G => ∃ ys, G = upd H D (.lst ys) ∧ Tus H ys ((l.take i).filter p)) ⟨[], rfl, by rw [List.take_zero]; exact .nil⟩ (fun i G hi ⟨ys, e, _⟩ => by rw [e]; exact hG ys) (fun i x G G' hi ⟨ys, e, hp⟩ hy => ?_) fun G ⟨ys, e, hp⟩ => ?_
  · subst e
    obtain ⟨rfl, k, b, hk, rfl, hb⟩ := hY i ys x G' hy
    have es : l.take (i + 1) = l.take i ++ [k] := by
      rw [List.take_succ_eq_append_getElem hi]
      rw [List.getElem?_eq_getElem hi] at hk
      rw [Option.some.inj hk]
    refine ⟨hw _, ht k b ys _ hb (by rw [upd_ne (ne_of_none hb hD)]; exact hb) ?_⟩
    cases hpk : p k with
    | true =>
      refine iteT ⟨_, hj _, ys, upd_same, ?_, ys ++ [.ref b], by rw [upd_upd], ?_⟩
      · have e1 : ys.length = ((l.take i).filter p).length := Paired.length hp
        have e2 := List.length_filter_le p (l.take i)
        have e3 := List.length_take_le i l
        have e4 : (l.take i).length = min i l.length := List.length_take
        omega
      · rw [es, List.filter_append, List.filter_cons_of_pos hpk, List.filter_nil]
        exact pr_snoc hp ⟨b, rfl, hb⟩
    | false =>
      refine iteF ⟨ys, rfl, ?_⟩
      rw [es, List.filter_append, List.filter_cons_of_neg (by rw [hpk]; decide), List.filter_nil, List.append_nil]
      exact hp
  · subst e
    rw [List.take_length] at hp
    exact q ys hp
/-- over a list -/
theorem flL {K : PySem.W.Frag} {a : Addr} {xs : List V} {l : List (List Str)} {p : List Str → Bool} {j : Nat} {σ : L2.St} {vs : List Nat} {H : Hp} {D : Addr} {Q : Hp → Prop} {tt : TT} (hs : SqL K H a xs) (hl : Tus H xs l) (hD : H D = none) (hz : l.length ≤ sizeLine)
    (hw : ∀ v : V, wipe ((wipe σ vs).set j (some v)) vs = wipe σ vs) (hj : ∀ v : V, ((wipe σ vs).set j (some v))[j]? = some (some v))
    (ht : ∀ k b ys (R : Bool → Hp → Prop), H b = some (.tup (k.map V.str)) → upd H D (.lst ys) b = some (.tup (k.map V.str)) → R (p k) (upd H D (.lst ys)) → tt ((wipe σ vs).set j (some (.ref b))) (upd H D (.lst ys)) R) (q : ∀ ys, Tus H ys (l.filter p) → Q (upd H D (.lst ys))) :
    ∃ W : Nat → Nat → Hp → Prop, (∃ m, W 0 m (upd H D (.lst []))) ∧ ∀ i m G, W i m G → ((Itl K a).stop i G ∧ Q G) ∨ ((Itl K a).go i G ∧ ∃ Nx : Hp → Prop, (∀ G', Nx G' → ∃ n, n < m ∧ W (i + 1) n G') ∧ ∀ x G', (Itl K a).yld i G x G' → gName j x (wipe σ vs) G' fun τ G2 => wipe τ vs = wipe σ vs ∧ tt τ G2 fun b G3 =>
      if b = true then tVar j τ G3 fun y G4 => ∃ acc, G4 D = some (.lst acc) ∧ acc.length < sizeLine ∧ Nx (upd G4 D (.lst (acc ++ [y]))) else Nx G3) := by
  have w : Walk (Itl K a) l.length (fun H => SqL K H a xs) (YAt xs) := by
    have := walk_list (K := K) (a := a) (xs := xs)
    rwa [show xs.length = l.length from Paired.length hl] at this
  refine flW w hD hz (fun ys => Sx.sqLS (Sx.new hD) hs) (fun i ys x H' ⟨e, hx⟩ => ⟨e, ?_⟩) hw hj ht q
  obtain ⟨k, hk, b, e, hb⟩ := pr_get hl hx
  exact ⟨k, b, hk, e, hb⟩
/-- over the keys of a locked dict -/
theorem flD {l : List (List Str)} {d : Addr} {od : Obj} {p : List Str → Bool} {j : Nat} {σ : L2.St} {vs : List Nat} {H : Hp} {D : Addr} {Q : Hp → Prop} {tt : TT} (hd : H d = some (.dT (dU l))) (hD : upd H d (.frz od (.dT (dU l))) D = none) (hz : l.length ≤ sizeLine)
    (hw : ∀ v : V, wipe ((wipe σ vs).set j (some v)) vs = wipe σ vs) (hj : ∀ v : V, ((wipe σ vs).set j (some v))[j]? = some (some v))
    (ht : ∀ k b ys (R : Bool → Hp → Prop), H b = some (.tup (k.map V.str)) → upd (upd H d (.frz od (.dT (dU l)))) D (.lst ys) b = some (.tup (k.map V.str)) → R (p k) (upd (upd H d (.frz od (.dT (dU l)))) D (.lst ys)) → tt ((wipe σ vs).set j (some (.ref b))) (upd (upd H d (.frz od (.dT (dU l)))) D (.lst ys)) R) (q : ∀ ys, H D = none → Tus H ys (l.filter p) → Q (upd H D (.lst ys))) :
    ∃ W : Nat → Nat → Hp → Prop, (∃ m, W 0 m (upd (upd H d (.frz od (.dT (dU l)))) D (.lst []))) ∧ ∀ i m G, W i m G → ((Itkt d od (dU l)).stop i G ∧ G d = some (.frz od (.dT (dU l))) ∧ Q (upd G d (.dT (dU l)))) ∨ ((Itkt d od (dU l)).go i G ∧ ∃ Nx : Hp → Prop, (∀ G', Nx G' → ∃ n, n < m ∧ W (i + 1) n G') ∧ ∀ x G', (Itkt d od (dU l)).yld i G x G' → gName j x (wipe σ vs) G' fun τ G2 => wipe τ vs = wipe σ vs ∧ tt τ G2 fun b G3 =>
      if b = true then tVar j τ G3 fun y G4 => ∃ acc, G4 D = some (.lst acc) ∧ acc.length < sizeLine ∧ Nx (upd G4 D (.lst (acc ++ [y]))) else Nx G3) := by
  have nd : D ≠ d := fun z => by rw [z, upd_same] at hD; cases hD
  have hD' : H D = none := by rwa [upd_ne nd] at hD
  have w := walk_keysT (d := d) (o := od) (kvs := dU l)
  rw [show (dU l).length = l.length from by simp [dU]] at w
  have back : ∀ {b : Addr} {k : List Str}, upd H d (.frz od (.dT (dU l))) b = some (.tup (k.map V.str)) → H b = some (.tup (k.map V.str)) := fun {b k} e => by
    by_cases z : b = d
    · rw [z, upd_same] at e; cases e
    · rwa [upd_ne z] at e
  refine flW w hD hz (fun ys => by rw [upd_ne nd.symm, upd_same]) (fun i ys x H' ⟨e, k, v, b, hk, ex, hb⟩ => ⟨e, ?_⟩) hw hj (fun k b ys R hb hb2 r => ht k b ys R (back hb) hb2 r) fun ys hy => ⟨by rw [upd_ne nd.symm, upd_same], ?_⟩
  · simp only [dU, List.getElem?_map] at hk
    cases hl : l[i]? with
    | none => rw [hl] at hk; cases hk
    | some kk =>
      rw [hl] at hk
      cases hk
      refine ⟨kk, b, rfl, ex, ?_⟩
      rw [inr_kV] at hb
      by_cases z : b = D
      · rw [z, upd_same] at hb; cases hb
      · rwa [upd_ne z] at hb
  · rw [upd_back hd nd]
    exact q ys hD' (Paired.mapP hy fun v k ⟨b, e, h⟩ => ⟨b, e, back h⟩)
/-! ### lists of tuples of texts -/
def Lu (H : Hp) (v : V) (l : List (List Str)) : Prop := ∃ a xs, v = .ref a ∧ H a = some (.lst xs) ∧ Tus H xs l
theorem Lu.sx {H H1 : Hp} {v : V} {l : List (List Str)} (a : Sm H H1) (h : Lu H v l) : Lu H1 v l := by
  obtain ⟨p, xs, e, h1, h2⟩ := h
  exact ⟨p, xs, e, a.atS h1, h2.sx a⟩
/-- of a list: each tuple has a text, no two are alike, not too many -/
structure Gd (l : List (List Str)) : Prop where
  nd : l.Nodup
  ne : ∀ k ∈ l, k ≠ []
  len : l.length ≤ 6000
theorem Gd.filter {l : List (List Str)} (g : Gd l) (p : List Str → Bool) : Gd (l.filter p) := ⟨g.nd.filter _, fun k hk => g.ne k ((List.mem_filter.mp hk).1), Nat.le_trans (List.length_filter_le _ _) g.len⟩
theorem Gd.sort {l : List (List Str)} (g : Gd l) : Gd (sortU l) := ⟨(sortU_perm l).nodup_iff.mpr g.nd, fun k hk => g.ne k ((sortU_perm l).mem_iff.mp hk), by rw [(sortU_perm l).length_eq]; exact g.len⟩
def gainU (la lb : List (List Str)) : List (List Str) := sortU (lb.filter fun k => !decide (k ∈ la))
/-- v: a tuple of two lists -/
def Ch (H : Hp) (v : V) (ga lo : List (List Str)) : Prop := ∃ p x y, v = .ref p ∧ H p = some (.tup [x, y]) ∧ Lu H x ga ∧ Lu H y lo
def sp_difference : Sp := fun vs H Q _ => ∃ va vb la lb, vs = [va, vb] ∧ Lu H va la ∧ Lu H vb lb ∧ Gd la ∧ Gd lb ∧ ∀ v H', Sm H H' → Ch H' v (gainU la lb) (gainU lb la) → Q v H'
section
variable {P : Program} {w : World} {K : PySem.W.Frag} {mg : Str → Option Value} {base : Heap}
abbrev N_difference : List Str := ["before", "after", "old", "new", "grant"]
theorem ok_difference (W : Wd K mg base) : FnOk P w K mg base CX0 1 (A_difference K) (F_difference K) ["before", "after"] sp_difference := by
  refine W.fu_difference.ok sc_difference (fun vs H Q E h => by obtain ⟨_, _, _, _, rfl, _⟩ := h; rfl) fun cdv A outer s H vs Q E hr h => ?_
  obtain ⟨va, vb, la, lb, rfl, hva, hvb, ga, gb, hQ⟩ := h
  refine ⟨_, PSs.nox (pss_cons (ps_set (i := 2) sc_difference.nd rfl (by first | exact Or.inl rfl | exact Or.inr rfl) (pe_dcP (own := [("grant", 4)]) (hu2_of hr) rfl sc_difference.nd (pi_list (pv 0)) (blkOk_by (own := [("grant", 4)]) (N := N_difference) (sc := defScope s_difference) (by decide +kernel)) (fun _ _ _ _ _ => (pg_name (i := 4) sc_difference.nd rfl (by first | exact Or.inl rfl | exact Or.inr rfl))) (fun _ _ _ _ _ => (pv 4)) (fun _ _ _ _ _ => pe_bl)))
      (pss_cons (ps_set (i := 3) sc_difference.nd rfl (by first | exact Or.inl rfl | exact Or.inr rfl) (pe_dcP (own := [("grant", 4)]) (hu2_of hr) rfl sc_difference.nd (pi_list (pv 1)) (blkOk_by (own := [("grant", 4)]) (N := N_difference) (sc := defScope s_difference) (by decide +kernel)) (fun _ _ _ _ _ => (pg_name (i := 4) sc_difference.nd rfl (by first | exact Or.inl rfl | exact Or.inr rfl))) (fun _ _ _ _ _ => (pv 4)) (fun _ _ _ _ _ => pe_bl)))
      (pss_one (ps_ret (pe_tup (pa_cons (pe_callB (cr_srt rfl hr.units) (by rfl) W.fr_sorted (by decide +kernel) (pa_cons (pe_lock (pe_lc (own := [("grant", 4)]) rfl sc_difference.nd (pi_keys (pv 3)) (blkOk_by (own := [("grant", 4)]) (N := N_difference) (sc := defScope s_difference) (by decide +kernel)) (fun _ _ _ _ _ => (pg_name (i := 4) sc_difference.nd rfl (by first | exact Or.inl rfl | exact Or.inr rfl))) (fun _ _ _ _ _ => (pts_one (pt_cmp (pc_dnotin (hu_of hr) (pv 4) (pv 2))))) (fun _ _ _ _ _ => (pv 4)))) pa_nil)) (pa_cons (pe_callB (cr_srt rfl hr.units) (by rfl) W.fr_sorted (by decide +kernel) (pa_cons (pe_lock (pe_lc (own := [("grant", 4)]) rfl sc_difference.nd (pi_keys (pv 2)) (blkOk_by (own := [("grant", 4)]) (N := N_difference) (sc := defScope s_difference) (by decide +kernel)) (fun _ _ _ _ _ => (pg_name (i := 4) sc_difference.nd rfl (by first | exact Or.inl rfl | exact Or.inr rfl))) (fun _ _ _ _ _ => (pts_one (pt_cmp (pc_dnotin (hu_of hr) (pv 4) (pv 3))))) (fun _ _ _ _ _ => (pv 4)))) pa_nil)) pa_nil))))))), ?_⟩
  obtain ⟨a, xs, rfl, ha, hxs⟩ := hva
  obtain ⟨b, ys, rfl, hb, hys⟩ := hvb
  have sz : sizeLine = 16777216 := sizeLine_eq
  have za := ga.len
  have zb := gb.len
  refine ⟨_, rfl, a, rfl, ⟨xs, .of ha⟩, fun D hD => dcU (.of ha) hxs ga.nd (by omega) hD (fun _ => rfl) (fun _ => rfl) ?_⟩
  have s1 : Sm H (upd H D (.dT (dU la))) := Sx.new hD
  refine ⟨_, rfl, b, rfl, ⟨ys, .of (s1.atS hb)⟩, fun E hE => dcU (.of (s1.atS hb)) (hys.sx s1) gb.nd (by omega) hE (fun _ => rfl) (fun _ => rfl) ?_⟩
  have s2 : Sm H (upd (upd H D (.dT (dU la))) E (.dT (dU lb))) := s1.trans (Sx.new hE)
  generalize eG : upd (upd H D (.dT (dU la))) E (.dT (dU lb)) = G at s2
  have hDE : D ≠ E := fun z => by rw [z, upd_same] at hE; cases hE
  have gD : G D = some (.dT (dU la)) := by rw [← eG, upd_ne hDE, upd_same]
  have gE : G E = some (.dT (dU lb)) := by rw [← eG, upd_same]
  -- gained
  refine ⟨E, _, gE, trivial, fun od => ⟨_, rfl, E, od, rfl, .inr ⟨_, upd_same, fun F hF => flD gE hF (by omega) (fun _ => rfl) (fun _ => rfl) (p := fun k => !decide (k ∈ la)) (fun k c zs R _ hc hR => ?_) fun g hFn hg => ?_⟩⟩⟩
  · have nF : D ≠ F := fun z => by
      rw [← z, upd_ne hDE, gD] at hF
      cases hF
    refine ⟨_, rfl, _, rfl, D, _, rfl, DGet.t (kvs := dU la) (k := k.map Sum.inr) (b := c) (by rw [upd_ne nF, upd_ne hDE]; exact gD) (by rw [inr_kV]; exact hc), _, rfl, ?_⟩
    rw [dU_val]
    exact hR
  have s3 : Sm G (upd G F (.lst g)) := Sx.new hFn
  refine ⟨F, lb.filter fun k => !decide (k ∈ la), rfl, (gb.filter _).ne, .inl ⟨g, .of upd_same, hg.sx s3⟩, fun p1 g1 hp1 hg1 => ?_⟩
  have s4 := s3.trans (Sx.new (M := Nob) (o := .lst g1) hp1)
  have e1 : upd (upd G F (.lst g)) p1 (.lst g1) p1 = some (.lst g1) := upd_same
  have hg1' := hg1.sx (Sx.new (M := Nob) (o := .lst g1) hp1)
  have gD4 := s4.atS gD
  have gE4 := s4.atS gE
  generalize upd (upd G F (.lst g)) p1 (.lst g1) = G4 at s4 e1 hg1' gD4 gE4
  refine ⟨D, _, gD4, trivial, fun od2 => ⟨_, rfl, D, od2, rfl, .inr ⟨_, upd_same, fun F2 hF2 => flD gD4 hF2 (by omega) (fun _ => rfl) (fun _ => rfl) (p := fun k => !decide (k ∈ lb)) (fun k c zs R _ hc hR => ?_) fun g2 hFn2 hg2 => ?_⟩⟩⟩
  · have nF : E ≠ F2 := fun z => by
      rw [← z, upd_ne hDE.symm, gE4] at hF2
      cases hF2
    refine ⟨_, rfl, _, rfl, E, _, rfl, DGet.t (kvs := dU lb) (k := k.map Sum.inr) (b := c) (by rw [upd_ne nF, upd_ne hDE.symm]; exact gE4) (by rw [inr_kV]; exact hc), _, rfl, ?_⟩
    rw [dU_val]
    exact hR
  have s5 : Sm G4 (upd G4 F2 (.lst g2)) := Sx.new hFn2
  refine ⟨F2, la.filter fun k => !decide (k ∈ lb), rfl, (ga.filter _).ne, .inl ⟨g2, .of upd_same, hg2.sx s5⟩, fun p2 g3 hp2 hg3 => ?_⟩
  have s6 : Sm G4 (upd (upd G4 F2 (.lst g2)) p2 (.lst g3)) := s5.trans (Sx.new hp2)
  refine ⟨by show 2 ≤ sizeLine; omega, fun q hq => ?_⟩
  have s7 : Sm G4 (upd (upd (upd G4 F2 (.lst g2)) p2 (.lst g3)) q (.tup [.ref p1, .ref p2])) := s6.trans (Sx.new hq)
  refine hQ _ _ ((s2.trans s4).trans s7) ⟨q, _, _, rfl, upd_same, Lu.sx s7 ⟨p1, g1, rfl, e1, hg1'⟩, Lu.sx (Sx.new hq) ⟨p2, g3, rfl, upd_same, hg3.sx (Sx.new (M := Nob) hp2)⟩⟩
def applyB (g ga lo : List (List Str)) : Bool := (ga.all fun k => !decide (k ∈ g)) && lo.all fun k => decide (k ∈ g)
def sp_applies (K : PySem.W.Frag) : Sp := fun vs H Q _ => ∃ vg vc g ga lo, vs = [vg, vc] ∧ Lu H vg g ∧ Ch H vc ga lo ∧ Gd g ∧ Tabs K H ∧ ∀ H', Sm H H' → Q (.bl (applyB g ga lo)) H'
abbrev N_applies : List Str := ["grants", "change", "known", "grant"]
theorem ok_applies (W : Wd K mg base) : FnOk P w K mg base CX0 1 (A_applies K) (F_applies K) ["grants", "change"] (sp_applies K) := by
  refine okG W.fu_applies sc_applies (fun vs H Q E h => by obtain ⟨_, _, _, _, _, rfl, _⟩ := h; rfl) fun A outer s H vs Q E hr h => ?_
  obtain ⟨vg, vc, g, ga, lo, rfl, hg, hc, gg, hT, hQ⟩ := h
  refine ⟨_, PSs.nox (pss_cons (ps_set (i := 2) sc_applies.nd rfl (by first | exact Or.inl rfl | exact Or.inr rfl) (pe_dcP (own := [("grant", 3)]) (hu2_of hr) rfl sc_applies.nd (pi_list (pv 0)) (blkOk_by (own := [("grant", 3)]) (N := N_applies) (sc := defScope s_applies) (by decide +kernel)) (fun _ _ _ _ _ => (pg_name (i := 3) sc_applies.nd rfl (by first | exact Or.inl rfl | exact Or.inr rfl))) (fun _ _ _ _ _ => (pv 3)) (fun _ _ _ _ _ => pe_bl)))
      (pss_one (ps_ret (pe_and (pe_allG1 hr rfl W.fr_all (W.tb _ (.tail _ (.tail _ (.head _)))) rfl (gsc (n := s.heap.objs.size + 1) rfl (by rfl)) (pe_ix ix_tup (pv 1) pe_int (fun _ _ => rfl)) (fun _ => rfl) (Cnd := KnC K 2) (n := fun z => z.l.length) (pb := fun z => knB (fun b => if true then !b else b) z) (fun pins σ H1 s1 v u d I r hT hc => src_kn I hT r hc) (fun pins σ H1 s1 v u d I r hT hc => el_kn true I hT r hc hr (gsc (n := s.heap.objs.size + 1) rfl (by rfl)) rfl rfl rfl)) (pe_one (pe_allG1 hr rfl W.fr_all (W.tb _ (.tail _ (.tail _ (.head _)))) rfl (gsc (n := s.heap.objs.size + 1) rfl (by rfl)) (pe_ix ix_tup (pv 1) pe_int (fun _ _ => rfl)) (fun _ => rfl) (Cnd := KnC K 2) (n := fun z => z.l.length) (pb := fun z => knB (fun b => if false then !b else b) z) (fun pins σ H1 s1 v u d I r hT hc => src_kn I hT r hc) (fun pins σ H1 s1 v u d I r hT hc => el_kn false I hT r hc hr (gsc (n := s.heap.objs.size + 1) rfl (by rfl)) rfl rfl rfl))))))), ?_⟩
  obtain ⟨a, xs, rfl, ha, hxs⟩ := hg
  obtain ⟨b, v1, v2, rfl, hb, ⟨c, ys, rfl, hc, hys⟩, ⟨e, zs, rfl, he, hzs⟩⟩ := hc
  have sz : sizeLine = 16777216 := sizeLine_eq
  have zg := gg.len
  refine ⟨_, rfl, a, rfl, ⟨xs, .of ha⟩, fun D hD => dcU (.of ha) hxs gg.nd (by omega) hD (fun _ => rfl) (fun _ => rfl) ?_⟩
  have s1 : Sm H (upd H D (.dT (dU g))) := Sx.new hD
  have gD : upd H D (.dT (dU g)) D = some (.dT (dU g)) := upd_same
  have hT1 := hT.sx s1
  generalize upd H D (.dT (dU g)) = G at s1 gD hT1
  refine ⟨_, rfl, b, _, 0, .ref c, rfl, rfl, .of (s1.tups _ _ hb), atI_nat (j := 0) rfl, ⟨c, ys, ga, D, g⟩, ⟨rfl, .of (s1.atS hc), hys.sx s1, rfl, gD⟩, hT1 _ (.tail _ (.tail _ (.head _))), fun G2 t2 => ⟨_, rfl, ?_⟩⟩
  have s2 : Sm G G2 := Sx.tab (hT1 _ (.tail _ (.tail _ (.head _)))) t2
  have hT2 := hT1.sx s2
  have s12 := s1.trans s2
  rw [knB_all]
  refine chn (fun q1 => ?_) fun q1 => ?_
  · refine ⟨_, rfl, b, _, 1, .ref e, rfl, rfl, .of (s12.tups _ _ hb), atI_nat (j := 1) rfl, ⟨e, zs, lo, D, g⟩, ⟨rfl, .of (s12.atS he), hzs.sx s12, rfl, s2.atS gD⟩, hT2 _ (.tail _ (.tail _ (.head _))), fun G3 t3 => ?_⟩
    rw [knB_all]
    have q := hQ G3 (s12.trans (Sx.tab (hT2 _ (.tail _ (.tail _ (.head _)))) t3))
    unfold applyB at q
    have q1' : (ga.all fun k => !decide (k ∈ g)) = true := q1
    rw [q1', Bool.true_and] at q
    exact q
  · have q := hQ G2 s12
    unfold applyB at q
    have q1' : (ga.all fun k => !decide (k ∈ g)) = false := q1
    rw [q1', Bool.false_and] at q
    exact q
def appU (g ga lo : List (List Str)) : List (List Str) := sortU ((g.filter fun k => !decide (k ∈ lo)) ++ ga)
def sp_apply_change (K : PySem.W.Frag) : Sp := fun vs H Q _ => ∃ vg vc g ga lo, vs = [vg, vc] ∧ Lu H vg g ∧ Ch H vc ga lo ∧ Gd g ∧ Gd ga ∧ Gd lo ∧ applyB g ga lo = true ∧ Tabs K H ∧ ∀ v H', Sm H H' → Lu H' v (appU g ga lo) → Q v H'
abbrev N_apply_change : List Str := ["grants", "change", "lost", "grant"]
theorem ok_apply_change (W : Wd K mg base) : FnOk P w K mg base CX0 2 (A_apply_change K) (F_apply_change K) ["grants", "change"] (sp_apply_change K) := by
  refine W.fu_apply_change.ok sc_apply_change (fun vs H Q E h => by obtain ⟨_, _, _, _, _, rfl, _⟩ := h; rfl) fun cdv A outer s H vs Q E hr h => ?_
  obtain ⟨vg, vc, g, ga, lo, rfl, hg, hc, gg, gga, glo, hap, hT, hQ⟩ := h
  refine ⟨_, PSs.nox (pss_cons (ps_if (pt_not (pt_val (pe_call (ok_applies W) (hr.mono (by decide)) rfl W.gl_applies (W.fu_applies).kp W.bd_applies .nil pass0 (pa_cons (pv 0) (pa_cons (pv 1) pa_nil))))) (pss_one ps_never) pss_nil)
      (pss_cons (ps_set (i := 2) sc_apply_change.nd rfl (by first | exact Or.inl rfl | exact Or.inr rfl) (pe_dcP (own := [("grant", 3)]) (hu2_of hr) rfl sc_apply_change.nd (pi_list (pe_ix ix_tup (pv 1) pe_int (fun _ _ => rfl))) (blkOk_by (own := [("grant", 3)]) (N := N_apply_change) (sc := defScope s_apply_change) (by decide +kernel)) (fun _ _ _ _ _ => (pg_name (i := 3) sc_apply_change.nd rfl (by first | exact Or.inl rfl | exact Or.inr rfl))) (fun _ _ _ _ _ => (pv 3)) (fun _ _ _ _ _ => pe_bl)))
      (pss_one (ps_ret (pe_callB (cr_srt rfl hr.units) (by rfl) W.fr_sorted (by decide +kernel) (pa_cons (pe_op op_cat (pe_lc (own := [("grant", 3)]) rfl sc_apply_change.nd (pi_list (pv 0)) (blkOk_by (own := [("grant", 3)]) (N := N_apply_change) (sc := defScope s_apply_change) (by decide +kernel)) (fun _ _ _ _ _ => (pg_name (i := 3) sc_apply_change.nd rfl (by first | exact Or.inl rfl | exact Or.inr rfl))) (fun _ _ _ _ _ => (pts_one (pt_cmp (pc_dnotin (hu_of hr) (pv 3) (pv 2))))) (fun _ _ _ _ _ => (pv 3))) (pe_callTy call_list_of (by rfl) W.fr_list (by decide +kernel) (pa_cons (pe_ix ix_tup (pv 1) pe_int (fun _ _ => rfl)) pa_nil))) pa_nil)))))), ?_⟩
  refine ⟨_, rfl, _, rfl, vg, vc, g, ga, lo, rfl, hg, hc, gg, hT, fun G a1 => ⟨_, rfl, ?_⟩⟩
  rw [hap]
  refine iteF ?_
  have hg := hg.sx a1
  have hb0 := hc
  obtain ⟨b, v1, v2, rfl, hb, hv1, hv2⟩ := hc
  obtain ⟨a, xs, rfl, ha, hxs⟩ := hg
  obtain ⟨c, ys, rfl, hc, hys⟩ := hv1.sx a1
  obtain ⟨e, zs, rfl, he, hzs⟩ := hv2.sx a1
  have hb := a1.tups _ _ hb
  have sz : sizeLine = 16777216 := sizeLine_eq
  have zg := gg.len
  have za := gga.len
  have zl := glo.len
  refine ⟨_, rfl, b, _, 1, .ref e, rfl, rfl, .of hb, atI_nat (j := 1) rfl, e, rfl, ⟨zs, .of he⟩, fun D hD => dcU (.of he) hzs glo.nd (by omega) hD (fun _ => rfl) (fun _ => rfl) ?_⟩
  have a2 : Sm G (upd G D (.dT (dU lo))) := Sx.new hD
  have gD : upd G D (.dT (dU lo)) D = some (.dT (dU lo)) := upd_same
  generalize upd G D (.dT (dU lo)) = G2 at a2 gD
  refine ⟨_, rfl, a, rfl, ⟨xs, .of (a2.atS ha)⟩, fun F hF => flL (.of (a2.atS ha)) (hxs.sx a2) hF (by omega) (fun _ => rfl) (fun _ => rfl) (p := fun k => !decide (k ∈ lo)) (fun k c zs R _ hc hR => ?_) fun r hr2 => ?_⟩
  · refine ⟨_, rfl, _, rfl, D, _, rfl, DGet.t (kvs := dU lo) (k := k.map Sum.inr) (b := c) (by rw [upd_ne (ne_of_none gD hF)]; exact gD) (by rw [inr_kV]; exact hc), _, rfl, ?_⟩
    rw [dU_val]
    exact hR
  have a3 : Sm G2 (upd G2 F (.lst r)) := Sx.new hF
  have gF : upd G2 F (.lst r) F = some (.lst r) := upd_same
  have hr3 := hr2.sx a3
  generalize upd G2 F (.lst r) = G3 at a3 gF hr3
  have a23 := a2.trans a3
  refine ⟨_, rfl, b, _, 0, .ref c, rfl, rfl, .of (a23.tups _ _ hb), atI_nat (j := 0) rfl, c, ys, rfl, .inl (.of (a23.atS hc)), fun L hL => ?_⟩
  have a4 : Sm G3 (upd G3 L (.lst ys)) := Sx.new hL
  have l1 : r.length = (g.filter fun k => !decide (k ∈ lo)).length := Paired.length hr3
  have l2 := List.length_filter_le (fun k => !decide (k ∈ lo)) g
  have l3 : ys.length = ga.length := Paired.length hys
  refine ⟨F, L, r, ys, rfl, rfl, a4.atS gF, upd_same, by omega, fun M hM => ?_⟩
  have a5 := a4.trans (Sx.new (M := Nob) (o := .lst (r ++ ys)) hM)
  refine ⟨M, (g.filter fun k => !decide (k ∈ lo)) ++ ga, rfl, fun k hk => ?_, .inl ⟨r ++ ys, .of upd_same, pr_app (hr3.sx a5) ((hys.sx a23).sx a5)⟩, fun p ps hp hps => ?_⟩
  · rcases List.mem_append.mp hk with z | z
    · exact gg.ne k (List.mem_filter.mp z).1
    · exact gga.ne k z
  have a6 := a5.trans (Sx.new (M := Nob) (o := .lst ps) hp)
  exact hQ _ _ ((a1.trans a23).trans a6) ⟨p, ps, rfl, upd_same, hps.sx (Sx.new (M := Nob) hp)⟩
end
end K83
namespace K83
open PySem PySem.Spec PyProof.Rows L2 GxR
/-! ### dicts with tuple keys: pop(k), setdefault(k, v) -/
section
variable {X : Cx}
theorem kt_val {H : Hp} {kvs : List (List Key × V)} {xs : List (List Key × Addr × Value)} (rel : KT H kvs xs) (k : List Key) : (valV kvs k = none ∧ atKey xs k = none) ∨ ∃ v p, valV kvs k = some v ∧ atKey xs k = some p ∧ RelV v p.2 := by
  have r := rel.val k
  cases e1 : valV kvs k with
  | none =>
    rw [e1] at r
    cases e2 : atKey xs k with
    | none => exact .inl ⟨rfl, rfl⟩
    | some p => rw [e2] at r; exact (show False from r).elim
  | some v =>
    rw [e1] at r
    cases e2 : atKey xs k with
    | none => rw [e2] at r; exact (show False from r).elim
    | some p => rw [e2] at r; exact .inr ⟨v, p, rfl, rfl, r⟩
def rPopT1 : V → List V → Hp → VK → Prop := fun x xs H Q => ∃ (a : Addr) (kvs : List (List Key × V)) (k : List Key) (b : Addr) (v : V), x = .ref a ∧ xs = [.ref b] ∧ H a = some (.dT kvs) ∧ H b = some (.tup (k.map kV)) ∧ valV kvs k = some v ∧ Q v (upd H a (.dT (dropK kvs k)))
theorem mt_popT1 (hu : X.A.units + 1 < cLine) : MtR X "dict.pop" rPopT1 := by
  intro pins s σ H x xs v us Q I rx rxs h
  obtain ⟨a, kvs, k, b, v0, rfl, rfl, ha, hb, hv, q⟩ := h
  cases rx
  obtain ⟨u1, rfl, r1⟩ := vals1 rxs
  cases r1
  obtain ⟨z, hd, es, rel, dd⟩ := dt_of I.hok ha
  have hz : es.length ≤ sizeLine := by rw [← Paired.length rel]; exact z
  rcases kt_val rel k with ⟨e, _⟩ | ⟨v1, p, e1, e2, r⟩
  · rw [hv] at e; cases e
  · rw [hv] at e1
    cases e1
    refine call_pop_heap (more := []) (hsz := hz) (.inl rfl) (PySem.F.args_dict_pop_2 _ _) (tupleKind_room_in1 hu) (key_of I.hok hb) hd dd e2 fun h' dd' sb => ?_
    obtain ⟨o, es', ep, hq, h2, h3, h4, _, h5⟩ := dd'
    refine ⟨v0, _, d_write (ob := .dT (dropK kvs k)) I (by rw [ha]; trivial) sb ⟨o, hq⟩ ⟨Nat.le_trans (dropK_le kvs k) z, hd, _, (L2.DX.KT_drop k rel).keeps (fun c ys ec => ?_), o, es', ep, hq, h2, h3, h4, h5⟩, r, q⟩
    exact (upd_ne (ne_of ec ha fun z => nomatch z)).trans ec
def rSetdT : V → List V → Hp → VK → Prop := fun x xs H Q => ∃ (a : Addr) (kvs : List (List Key × V)) (k : List Key) (b : Addr) (d : V), x = .ref a ∧ xs = [.ref b, d] ∧ H a = some (.dT kvs) ∧ H b = some (.tup (k.map kV)) ∧ kvs.length < sizeLine ∧
  (∀ v, valV kvs k = some v → Q v H) ∧ (valV kvs k = none → Q d (upd H a (.dT (putK kvs k d))))
theorem mt_setdT (hu : X.A.units + 1 < cLine) : MtR X "dict.setdefault" rSetdT := by
  intro pins s σ H x xs v us Q I rx rxs h
  obtain ⟨a, kvs, k, b, d, rfl, rfl, ha, hb, hl, q1, q2⟩ := h
  cases rx
  obtain ⟨u1, u2, rfl, r1, r2⟩ := vals2 rxs
  cases r1
  obtain ⟨z, hd, es, rel, dd⟩ := dt_of I.hok ha
  have hz : es.length ≤ sizeLine := by rw [← Paired.length rel]; exact z
  have hp := length_putK kvs k d
  refine call_setdefault_heap (hsz := hz) (tupleKind_room_in1 hu) (key_of I.hok hb) hd dd (fun p hp => ?_) fun hn h' dd' sb => ?_
  · rcases kt_val rel k with ⟨_, e⟩ | ⟨v1, p1, e1, e2, r⟩
    · rw [hp] at e; cases e
    · rw [hp] at e2
      cases e2
      exact ⟨v1, H, I.tok _, r, q1 v1 e1⟩
  · rcases kt_val rel k with ⟨e, _⟩ | ⟨v1, p1, e1, e2, r⟩
    · obtain ⟨o, es', ep, hq, h2, h3, h4, _, h5⟩ := dd'
      refine ⟨d, _, d_write (ob := .dT (putK kvs k d)) I (by rw [ha]; trivial) sb ⟨o, hq⟩ ⟨by omega, hd, _, (rel.put k hb r2).keeps (fun c ys ec => ?_), o, es', ep, hq, h2, h3, h4, h5⟩, r2, q2 e⟩
      exact (upd_ne (ne_of ec ha fun z => nomatch z)).trans ec
    · rw [hn] at e2; cases e2
end
end K83
namespace K83
open PySem PySem.Spec PyProof.Rows L2 L2.DX GxR
/-! ### the cache -/
abbrev flC (n c : Int) (e : Addr) : List (Str × V) := [("own_id", .str "main"), ("number", .int n), ("capacity", .int c), ("entries", .ref e)]
/-- an entry: the question, the answer, until when -/
abbrev Ent : Type := List Str × Bool × Nat
def EnV (H : Hp) (v : V) (x : Bool × Nat) : Prop := ∃ b, v = .ref b ∧ H b = some (.tup [.bl x.1, .int x.2])
def Ens (H : Hp) (kvs : List (List Key × V)) (es : List Ent) : Prop := Paired (fun p q => p.1 = q.1.map Sum.inr ∧ EnV H p.2 q.2) kvs es
structure CaAt (C : Addr) (H : Hp) (p e : Addr) (n c : Nat) (es : List Ent) : Prop where
  ins : ∃ dx, H p = some (.ins C dx (flC n c e))
  ent : ∃ kvs, H e = some (.dT kvs) ∧ Ens H kvs es
/-- a token or none -/
def tokS : Option Nat → Str
  | none => ""
  | some k => tok k
def tokI : Option Nat → Int
  | none => -1
  | some k => k
def TokOk (o : Option Nat) : Prop := ∀ k, o = some k → k < 41
def es_use (es : List Ent) (q : List Str) (x : Bool × Nat) : List Ent := (es.filter fun z => decide (z.1 ≠ q)) ++ [(q, x)]
def es_at (es : List Ent) (q : List Str) : Option (Bool × Nat) := (es.find? fun z => decide (z.1 = q)).map (·.2)
section
variable {P : Program} {w : World} {K : PySem.W.Frag} {mg : Str → Option Value} {base : Heap}
abbrev cC (K : PySem.W.Frag) : Addr := He.ga K "Cache"
def sp_Cache_init (K : PySem.W.Frag) : Sp := fun vs H Q _ => ∃ (p dx : Addr) (n c : Nat), vs = [.ref p, .str "main", .int n, .int c] ∧ H p = some (.ins (cC K) dx []) ∧ ∀ e H', H e = none → e ≠ p → Sx (fun b => b = p) H H' → CaAt (cC K) H' p e n c [] → Q .non H'
theorem ok_Cache_init (W : Wd K mg base) : FnOk P w K mg base CX0 1 (A_Cache_init K) (F_Cache_init K) ["self", "store", "revision", "capacity"] (sp_Cache_init K) := by
  refine W.fu_Cache_init.ok sc_Cache_init (fun vs H Q E h => by obtain ⟨_, _, _, _, rfl, _⟩ := h; rfl) fun cdv A outer s H vs Q E hr h => ?_
  obtain ⟨p, dx, n, c, rfl, hp, hQ⟩ := h
  refine ⟨_, PSs.nox (pss_cons (ps_fld (pv 0) (pv 1) rfl)
      (pss_cons (ps_fld (pv 0) (pv 2) rfl)
      (pss_cons (ps_fld (pv 0) (pv 3) rfl)
      (pss_one (ps_fld (pv 0) pe_dnewT rfl))))), ?_⟩
  refine ⟨_, rfl, _, rfl, p, cC K, dx, _, rfl, hp, W.cl_Cache, W.na_Cache_own_id, (by show 0 < 1000; decide), ?_⟩
  refine ⟨_, rfl, _, rfl, p, cC K, dx, _, rfl, upd_same, W.cl_Cache, W.na_Cache_number, (by show 1 < 1000; decide), ?_⟩
  refine ⟨_, rfl, _, rfl, p, cC K, dx, _, rfl, upd_same, W.cl_Cache, W.na_Cache_capacity, (by show 2 < 1000; decide), ?_⟩
  rw [upd_upd, upd_upd]
  have a1 : ∀ o, Sx (fun b => b = p) H (upd H p o) := fun o => Sx.put hp rfl
  refine fun e he => ⟨_, rfl, p, cC K, dx, _, rfl, by rw [upd_ne (ne_of_none upd_same he)]; exact upd_same, W.cl_Cache, W.na_Cache_entries, (by show 3 < 1000; decide), ?_⟩
  have a2 := (a1 _).trans (Sx.new (M := fun b => b = p) (o := .dT []) he)
  have ep : e ≠ p := fun z => by rw [z, upd_same] at he; cases he
  refine hQ e _ ((a1 _).old e he) ep (a2.trans (Sx.put (u := .ins (cC K) dx [("own_id", .str "main"), ("number", .int n), ("capacity", .int c)]) (by rw [upd_ne ep.symm]; exact upd_same) rfl)) ⟨⟨dx, upd_same⟩, [], by rw [upd_ne ep, upd_same], .nil⟩
def sp_Cache_get (K : PySem.W.Frag) (f : Nat → V) : Sp := fun vs H Q _ => ∃ (p e : Addr) (n c : Nat) (es : List Ent), vs = [.ref p] ∧ CaAt (cC K) H p e n c es ∧ Q (f n) H
theorem ok_Cache_revision (W : Wd K mg base) : FnOk P w K mg base CX0 1 (A_Cache_revision K) (F_Cache_revision K) ["self"] (sp_Cache_get K fun n => .int n) := by
  refine W.fu_Cache_revision.ok sc_Cache_revision (fun vs H Q E h => by obtain ⟨_, _, _, _, _, rfl, _⟩ := h; rfl) fun cdv A outer s H vs Q E hr h => ?_
  obtain ⟨p, e, n, c, es, rfl, ⟨⟨dx, hp⟩, _⟩, hQ⟩ := h
  refine ⟨_, PSs.nox (pss_one (ps_ret (pe_fld (pv 0) rfl))), ?_⟩
  exact ⟨_, rfl, p, cC K, dx, _, _, rfl, hp, W.cl_Cache, W.na_Cache_number, rfl, hQ⟩
/-- the questions, oldest first: a new list -/
def sp_Cache_questions (K : PySem.W.Frag) : Sp := fun vs H Q _ => ∃ (p e : Addr) (n c : Nat) (es : List Ent), vs = [.ref p] ∧ CaAt (cC K) H p e n c es ∧ ∀ l xs, H l = none → Tus H xs (es.map (·.1)) → Q (.ref l) (upd H l (.lst xs))
theorem ens_keys {H : Hp} {kvs : List (List Key × V)} {es : List Ent} (h : Ens H kvs es) : ∀ {bs : List Addr}, IsKeys H kvs bs → Tus H (bs.map V.ref) (es.map (·.1)) := by
  unfold Ens at h
  induction h with
  | nil => intro bs r; cases r; exact .nil
  | @cons a b as bs' h t ih =>
    intro bs r
    cases r with
    | cons r1 r2 =>
      refine .cons ⟨_, rfl, ?_⟩ (ih r2)
      rw [h.1, inr_kV] at r1
      exact r1
theorem ok_Cache_questions (W : Wd K mg base) : FnOk P w K mg base CX0 1 (A_Cache_questions K) (F_Cache_questions K) ["self"] (sp_Cache_questions K) := by
  refine W.fu_Cache_questions.ok sc_Cache_questions (fun vs H Q E h => by obtain ⟨_, _, _, _, _, rfl, _⟩ := h; rfl) fun cdv A outer s H vs Q E hr h => ?_
  obtain ⟨p, e, n, c, es, rfl, ⟨⟨dx, hp⟩, kvs, he, hes⟩, hQ⟩ := h
  refine ⟨_, PSs.nox (pss_one (ps_ret (pe_callTy (call_list_dT rfl) (by rfl) W.fr_list (by decide +kernel) (pa_cons (pe_fld (pv 0) rfl) pa_nil)))), ?_⟩
  exact ⟨_, rfl, p, cC K, dx, _, _, rfl, hp, W.cl_Cache, W.na_Cache_entries, rfl, e, kvs, rfl, .of he, fun l bs hl hk => hQ l _ hl (ens_keys hes hk)⟩
def sp_Cache_number_of (K : PySem.W.Frag) : Sp := fun vs H Q _ => ∃ (p e : Addr) (n c : Nat) (es : List Ent) (o : Option Nat), vs = [.ref p, .str (tokS o)] ∧ TokOk o ∧ Tabs K H ∧ CaAt (cC K) H p e n c es ∧ ∀ H', Sm H H' → Q (.int (tokI o)) H'
theorem tokS_empty : ∀ o, TokOk o → (tokS o = "" ↔ o = none)
  | none, _ => ⟨fun _ => rfl, fun _ => rfl⟩
  | some k, h => ⟨fun e => absurd e (tok_ne k (h k rfl)), fun e => by cases e⟩
theorem ok_Cache_number_of (W : Wd K mg base) : FnOk P w K mg base CX0 6 (A_Cache_number_of K) (F_Cache_number_of K) ["self", "token"] (sp_Cache_number_of K) := by
  refine W.fu_Cache_number_of.ok sc_Cache_number_of (fun vs H Q E h => by obtain ⟨_, _, _, _, _, _, rfl, _⟩ := h; rfl) fun cdv A outer s H vs Q E hr h => ?_
  obtain ⟨p, e, n, c, es, o, rfl, ho, hT, ⟨⟨dx, hp⟩, _⟩, hQ⟩ := h
  refine ⟨_, PSs.nox (pss_cons (ps_if (pt_cmpR op_eq (pv 1) pe_str (nomark _)) (pss_one (ps_ret (pe_un un_neg pe_int))) pss_nil)
      (pss_cons (ps_asg (pe_call (ok_split_token W) (hr.mono (by decide)) rfl W.gl_split_token (W.fu_split_token).kp W.bd_split_token .nil pass0 (pa_cons (pv 1) pa_nil)) (pg_tup rfl (pgs_cons (pg_name (i := 2) sc_Cache_number_of.nd rfl (by first | exact Or.inl rfl | exact Or.inr rfl)) (pgs_cons (pg_name (i := 3) sc_Cache_number_of.nd rfl (by first | exact Or.inl rfl | exact Or.inr rfl)) pgs_nil))))
      (pss_cons (ps_if (pt_cmpR op_ne (pv 2) (pe_fld (pv 0) rfl) (nomark _)) (pss_one ps_never) pss_nil)
      (pss_one (ps_ret (pv 3)))))), ?_⟩
  refine ⟨_, rfl, rfl, _, rfl, ?_⟩
  cases o with
  | none => exact iteT ⟨_, rfl, hQ H (Sx.refl H)⟩
  | some k =>
    have hk := ho k rfl
    rw [show decide (V.str (tokS (some k)) = V.str "") = false from decide_eq_false fun z => tok_ne k hk (by injection z)]
    refine iteF ⟨_, rfl, k, rfl, hk, hT, fun v G a ⟨b, ev, hb⟩ => ?_⟩
    subst ev
    refine ⟨b, _, rfl, .of hb, rfl, _, _, rfl, _, _, rfl, rfl, _, rfl, _, rfl, p, cC K, dx, _, _, rfl, a.atS hp, W.cl_Cache, W.na_Cache_own_id, rfl, rfl, _, rfl, ?_⟩
    rw [show (!decide (V.str "main" = V.str "main")) = false by simp]
    exact iteF ⟨_, rfl, hQ G a⟩
theorem tyT {H : Hp} {p : Addr} {kvs : List (List Key × V)} (h : H p = some (.dT kvs)) : tyV K "dict" (.ref p) H := .inr (.inr (.inl ⟨rfl, .inr ⟨kvs, h⟩⟩))
theorem EnV.sx {M : Addr → Prop} {H H1 : Hp} {v : V} {x : Bool × Nat} (a : Sx M H H1) (h : EnV H v x) : EnV H1 v x := let ⟨b, e, h⟩ := h; ⟨b, e, a.tups _ _ h⟩
theorem ens_sx {M : Addr → Prop} {H H1 : Hp} {kvs : List (List Key × V)} {es : List Ent} (a : Sx M H H1) (h : Ens H kvs es) : Ens H1 kvs es := Paired.mapP h fun _ _ z => ⟨z.1, z.2.sx a⟩
theorem ens_at {H : Hp} {q : List Str} {kvs : List (List Key × V)} {es : List Ent} (h : Ens H kvs es) : (valV kvs (q.map Sum.inr) = none ∧ es_at es q = none) ∨ ∃ v x, valV kvs (q.map Sum.inr) = some v ∧ es_at es q = some x ∧ EnV H v x := by
  unfold Ens at h
  induction h with
  | nil => exact .inl ⟨rfl, rfl⟩
  | @cons a b as bs h t ih =>
    by_cases e : b.1 = q
    · refine .inr ⟨a.2, b.2, valV_pos (by rw [h.1, e]), ?_, h.2⟩
      unfold es_at
      rw [List.find?_cons_of_pos (by simpa using e)]
      rfl
    · rw [valV_neg (fun z => e (inr_inj (by rw [← h.1]; exact z)))]
      have e2 : es_at (b :: bs) q = es_at bs q := by
        unfold es_at
        rw [List.find?_cons_of_neg (by simpa using e)]
      rw [e2]
      exact ih
theorem ens_drop {H : Hp} {q : List Str} {kvs : List (List Key × V)} {es : List Ent} (h : Ens H kvs es) : Ens H (dropK kvs (q.map Sum.inr)) (es.filter fun z => decide (z.1 ≠ q)) := by
  unfold Ens at h
  induction h with
  | nil => exact .nil
  | @cons a b as bs h t ih =>
    unfold dropK
    by_cases e : b.1 = q
    · rw [List.filter_cons_of_neg (by simp [h.1, e]), List.filter_cons_of_neg (by simp [e])]
      exact ih
    · rw [List.filter_cons_of_pos (by simp only [h.1]; exact decide_eq_true fun z => e (inr_inj z)), List.filter_cons_of_pos (by simpa using e)]
      exact .cons h ih
theorem dropK_none (kvs : List (List Key × V)) (k : List Key) : valV (dropK kvs k) k = none := by
  have e : (dropK kvs k).find? (fun kv => decide (kv.1 = k)) = none := List.find?_eq_none.mpr fun x hx => by
    have := (List.mem_filter.mp hx).2
    simpa using this
  unfold valV
  rw [e]
  rfl
theorem drop_of_none {kvs : List (List Key × V)} {k : List Key} (h : valV kvs k = none) : dropK kvs k = kvs := by
  refine List.filter_eq_self.mpr fun x hx => decide_eq_true fun e => ?_
  unfold valV at h
  rw [Option.map_eq_none_iff] at h
  have := List.find?_eq_none.mp h x hx
  simp [e] at this
theorem ens_use {H : Hp} {q : List Str} {v : V} {x : Bool × Nat} {kvs : List (List Key × V)} {es : List Ent} (h : Ens H kvs es) (hv : EnV H v x) : Ens H (putK (dropK kvs (q.map Sum.inr)) (q.map Sum.inr) v) (es_use es q x) := by
  rw [putK_new v (dropK_none _ _)]
  exact pr_snoc (ens_drop h) ⟨rfl, hv⟩
theorem ens_len {H : Hp} {kvs : List (List Key × V)} {es : List Ent} (h : Ens H kvs es) : kvs.length = es.length := Paired.length h
def sp_Cache_use (K : PySem.W.Frag) : Sp := fun vs H Q _ => ∃ (p e : Addr) (n c : Nat) (es : List Ent) (qv ev : V) (q : List Str) (x : Bool × Nat), vs = [.ref p, qv, ev] ∧ CaAt (cC K) H p e n c es ∧ Tu H qv q ∧ EnV H ev x ∧ es.length ≤ 1000 ∧
  ∀ H', Sx (fun b => b = e) H H' → CaAt (cC K) H' p e n c (es_use es q x) → Q .non H'
theorem ok_Cache_use (W : Wd K mg base) : FnOk P w K mg base CX0 1 (A_Cache_use K) (F_Cache_use K) ["self", "question", "entry"] (sp_Cache_use K) := by
  refine W.fu_Cache_use.ok sc_Cache_use (fun vs H Q E h => by obtain ⟨_, _, _, _, _, _, _, _, _, rfl, _⟩ := h; rfl) fun cdv A outer s H vs Q E hr h => ?_
  obtain ⟨p, e, n, c, es, qv, ev, q, x, rfl, ⟨⟨dx, hp⟩, kvs, he, hes⟩, ⟨b, rfl, hb⟩, hx, hl, hQ⟩ := h
  refine ⟨_, PSs.nox (pss_cons (ps_expr (pe_bm PySem.F.plainAttrs_dict PySem.F.slot_dict_pop PySem.F.type_dict_pop (mt_popT (hu_of hr)) (pe_fld (pv 0) rfl) (pa_cons (pv 1) (pa_cons pe_non pa_nil))))
      (pss_one (ps_dput (hu_of hr) (pe_fld (pv 0) rfl) (pv 1) (pv 2) rfl))), ?_⟩
  have sz : sizeLine = 16777216 := sizeLine_eq
  have hb2 : H b = some (.tup ((q.map Sum.inr).map kV)) := by rw [inr_kV]; exact hb
  have pe : p ≠ e := ne_of hp he fun z => nomatch z
  have be : b ≠ e := ne_of hb he fun z => nomatch z
  have l1 := ens_len hes
  have l2 := dropK_le kvs (q.map Sum.inr)
  have go : ∀ G, Sx (fun b => b = e) H G → G p = H p → G e = some (.dT (dropK kvs (q.map Sum.inr))) →
      (sDPut (tFld K (tVar 0) "entries") (tVar 1) (tVar 2)) { nx := fun _ H' => Q .non H', rt := Q } (L2.start ["self", "question", "entry"] [.ref p, .ref b, ev]) G := by
    intro G a gp ge
    refine ⟨_, rfl, _, rfl, p, cC K, dx, _, _, rfl, gp.trans hp, W.cl_Cache, W.na_Cache_entries, rfl, _, rfl, e, _, rfl, DPut.t (k := q.map Sum.inr) ge (by rw [inr_kV]; exact a.tups _ _ hb) (by omega), ?_⟩
    refine hQ _ (a.trans (Sx.put ge rfl)) ⟨⟨dx, by rw [upd_ne pe, gp]; exact hp⟩, _, upd_same, ?_⟩
    exact ens_sx (a.trans (Sx.put (o := .dT (putK (dropK kvs (q.map Sum.inr)) (q.map Sum.inr) ev)) ge rfl)) (ens_use hes hx)
  refine ⟨_, rfl, p, cC K, dx, _, _, rfl, hp, W.cl_Cache, W.na_Cache_entries, rfl, tyT he, _, rfl, e, kvs, q.map Sum.inr, b, .non, rfl, rfl, he, hb2, fun v hv => ?_, fun hv => ?_⟩
  · exact go _ (Sx.put he rfl) (upd_ne pe) upd_same
  · exact go H (Sx.refl H) rfl (by rw [drop_of_none hv]; exact he)
def lookR (es : List Ent) (q : List Str) (o : Option Nat) : Option (Bool × Nat) := match es_at es q with
  | some x => if (x.2 : Int) < tokI o then none else some x
  | none => none
def lookE (es : List Ent) (q : List Str) (o : Option Nat) : List Ent := match lookR es q o with
  | some x => es_use es q x
  | none => es
def AnV (H : Hp) (v : V) : Option (Bool × Nat) → Prop
  | none => v = .non
  | some x => ∃ b, v = .ref b ∧ H b = some (.tup [.bl x.1, .str (tok x.2)])
def sp_Cache_lookup (K : PySem.W.Frag) : Sp := fun vs H Q _ => ∃ (p e : Addr) (n c : Nat) (es : List Ent) (t m u : Str) (o : Option Nat), vs = [.ref p, .str t, .str m, .str u, .str (tokS o)] ∧ TokOk o ∧ Tabs K H ∧ CaAt (cC K) H p e n c es ∧ es.length ≤ 1000 ∧ (∀ z ∈ es, z.2.2 < 41) ∧
  ∀ v H', Sx (fun b => b = e) H H' → CaAt (cC K) H' p e n c (lookE es [t, m, u] o) → AnV H' v (lookR es [t, m, u] o) → Q v H'
theorem es_at_mem {es : List Ent} {q : List Str} {x : Bool × Nat} (h : es_at es q = some x) : (q, x) ∈ es := by
  unfold es_at at h
  obtain ⟨z, hz, e⟩ := Option.map_eq_some_iff.mp h
  have h1 := List.mem_of_find?_eq_some hz
  have h2 := List.find?_some hz
  have h2 : z.1 = q := by simpa using h2
  rw [← h2, ← e]
  exact h1
theorem ok_Cache_lookup (W : Wd K mg base) : FnOk P w K mg base CX0 7 (A_Cache_lookup K) (F_Cache_lookup K) ["self", "target", "name", "subject", "at_least"] (sp_Cache_lookup K) := by
  refine W.fu_Cache_lookup.ok sc_Cache_lookup (fun vs H Q E h => by obtain ⟨_, _, _, _, _, _, _, _, _, rfl, _⟩ := h; rfl) fun cdv A outer s H vs Q E hr h => ?_
  obtain ⟨p, e, n, c, es, t, m, u, o, rfl, ho, hT, hC, hl, hu, hQ⟩ := h
  refine ⟨_, PSs.nox (pss_cons (ps_set (i := 5) sc_Cache_lookup.nd rfl (by first | exact Or.inl rfl | exact Or.inr rfl) (pe_meth (pv 0) W.cl_Cache W.mt_Cache_number_of (ok_Cache_number_of W) (hr.mono (by decide)) W.bd_Cache_number_of .nil pass0 (pa_cons (pv 4) pa_nil)))
      (pss_cons (ps_set (i := 6) sc_Cache_lookup.nd rfl (by first | exact Or.inl rfl | exact Or.inr rfl) (pe_tup (pa_cons (pv 1) (pa_cons (pv 2) (pa_cons (pv 3) pa_nil)))))
      (pss_cons (ps_set (i := 7) sc_Cache_lookup.nd rfl (by first | exact Or.inl rfl | exact Or.inr rfl) (pe_dget1 (hu_of hr) (pe_fld (pv 0) rfl) (pv 6) ⟨by rfl, by rfl, by rfl, by rfl⟩))
      (pss_cons (ps_if (PW.pt (pw_or (pt_cmpR op_isN (pv 7) pe_non (nomark _)) (pw_or1 (pt_cmpR op_lt (pe_ix ix_tup (pv 7) pe_int (fun _ _ => rfl)) (pv 5) (nomark _))))) (pss_one (ps_ret pe_non)) pss_nil)
      (pss_cons (ps_expr (pe_meth (pv 0) W.cl_Cache W.mt_Cache_use (ok_Cache_use W) (hr.mono (by decide)) W.bd_Cache_use .nil pass0 (pa_cons (pv 6) (pa_cons (pv 7) pa_nil))))
      (pss_one (ps_ret (pe_tup (pa_cons (pe_ix ix_tup (pv 7) pe_int (fun _ _ => rfl)) (pa_cons (pe_call (ok_token_of W) (hr.mono (by decide)) rfl W.gl_token_of (W.fu_token_of).kp W.bd_token_of .nil pass0 (pa_cons (pe_fld (pv 0) rfl) (pa_cons (pe_ix ix_tup (pv 7) pe_int (fun _ _ => rfl)) pa_nil))) pa_nil)))))))))), ?_⟩
  obtain ⟨⟨dx, hp⟩, kvs, he, hes⟩ := id hC
  have sz : sizeLine = 16777216 := sizeLine_eq
  refine ⟨_, rfl, p, dx, _, rfl, hp, rfl, _, rfl, p, e, n, c, es, o, rfl, ho, hT, hC, fun G a1 => ?_⟩
  refine ⟨_, rfl, _, rfl, _, rfl, by show 3 ≤ sizeLine; omega, fun b hb => ?_⟩
  have a2 : Sm H (upd G b (.tup [.str t, .str m, .str u])) := a1.trans (Sx.new hb)
  have hq : upd G b (.tup [.str t, .str m, .str u]) b = some (.tup ([t, m, u].map V.str)) := upd_same
  generalize upd G b (.tup [.str t, .str m, .str u]) = G2 at a2 hq
  have hp2 := a2.atS hp
  have he2 := a2.atS he
  have hes2 := ens_sx a2 hes
  have hq' : G2 b = some (.tup (([t, m, u].map Sum.inr).map kV)) := by rw [inr_kV]; exact hq
  refine ⟨_, rfl, p, cC K, dx, _, _, rfl, hp2, W.cl_Cache, W.na_Cache_entries, rfl, e, rfl, .inr ⟨kvs, .of he2⟩, _, rfl, _, DGet.t he2 hq', ?_⟩
  rcases ens_at (q := [t, m, u]) hes2 with ⟨e1, e2⟩ | ⟨v, x, e1, e2, b2, rfl, hb2⟩
  · have r1 : lookR es [t, m, u] o = none := by unfold lookR; rw [e2]
    rw [e1]
    refine ⟨_, rfl, rfl, _, rfl, iteT ?_⟩
    have q := hQ .non G2 (Sx.of a2) (by unfold lookE; rw [r1]; exact ⟨⟨dx, hp2⟩, kvs, he2, hes2⟩) (by rw [r1]; rfl)
    exact q
  · have hx := hu _ (es_at_mem e2)
    rw [e1]
    refine ⟨_, rfl, rfl, _, rfl, iteF ⟨_, rfl, b2, _, 1, _, rfl, rfl, .of hb2, atI_nat (j := 1) rfl, _, rfl, _, _, rfl, rfl, _, rfl, chn (fun q1 => ?_) fun q1 => ?_⟩⟩
    · have r1 : lookR es [t, m, u] o = none := by
        unfold lookR
        rw [e2]
        exact if_pos (of_decide_eq_true q1)
      exact hQ .non G2 (Sx.of a2) (by unfold lookE; rw [r1]; exact ⟨⟨dx, hp2⟩, kvs, he2, hes2⟩) (by rw [r1]; rfl)
    · have r1 : lookR es [t, m, u] o = some x := by
        unfold lookR
        rw [e2]
        exact if_neg (of_decide_eq_false q1)
      refine ⟨_, rfl, p, dx, _, rfl, hp2, rfl, _, rfl, _, rfl, p, e, n, c, es, _, _, [t, m, u], x, rfl, ⟨⟨dx, hp2⟩, kvs, he2, hes2⟩, ⟨b, rfl, hq⟩, ⟨b2, rfl, hb2⟩, hl, fun G3 a3 hC3 => ?_⟩
      obtain ⟨dx3, hp3⟩ := hC3.ins
      have hb3 := a3.tups _ _ hb2
      refine ⟨_, rfl, b2, _, 0, _, rfl, rfl, .of hb3, atI_nat (j := 0) rfl, _, rfl, p, cC K, dx3, _, _, rfl, hp3, W.cl_Cache, W.na_Cache_own_id, rfl, _, rfl, b2, _, 1, _, rfl, rfl, .of hb3, atI_nat (j := 1) rfl, x.2, rfl, hx, ?_⟩
      refine ⟨by show 2 ≤ sizeLine; omega, fun r hr => ?_⟩
      have a4 : Sm G3 (upd G3 r (.tup [.bl x.1, .str (tok x.2)])) := Sx.new hr
      obtain ⟨kvs3, he3, hes3⟩ := hC3.ent
      refine hQ _ _ ((Sx.of a2).trans (a3.trans (Sx.of a4))) ?_ (by rw [r1]; exact ⟨r, rfl, upd_same⟩)
      unfold lookE
      rw [r1]
      exact ⟨⟨dx3, a4.atS hp3⟩, kvs3, a4.atS he3, ens_sx a4 hes3⟩
end
end K83
namespace K83
open PySem PySem.Spec PyProof.Rows L2 L2.DX GxR
section
variable {P : Program} {w : World} {K : PySem.W.Frag} {mg : Str → Option Value} {base : Heap}
/-! ### the cache's store -/
def popE (es : List Ent) (c : Nat) : List Ent := if c < es.length then (match es with
  | z :: r => (z :: r).filter fun y => decide (y.1 ≠ z.1)
  | [] => []) else es
def storeE (es : List Ent) (q : List Str) (x : Bool × Nat) (c : Nat) : List Ent := match es_at es q with
  | some y => if x.2 ≤ y.2 then es_use es q y else popE (es_use es q x) c
  | none => popE (es_use es q x) c
def sp_Cache_store (K : PySem.W.Frag) : Sp := fun vs H Q _ => ∃ (p e : Addr) (n c : Nat) (es : List Ent) (t m u : Str) (b : Addr) (a : Bool) (k : Nat), vs = [.ref p, .str t, .str m, .str u, .ref b] ∧ H b = some (.tup [.bl a, .str (tok k)]) ∧ k < 41 ∧ k ≤ n ∧ Tabs K H ∧ CaAt (cC K) H p e n c es ∧ es.length ≤ 1000 ∧
  ∀ H', Sx (fun b => b = e) H H' → CaAt (cC K) H' p e n c (storeE es [t, m, u] (a, k) c) → Q .non H'
theorem ok_Cache_store (W : Wd K mg base) : FnOk P w K mg base CX0 7 (A_Cache_store K) (F_Cache_store K) ["self", "target", "name", "subject", "answer"] (sp_Cache_store K) := by
  refine W.fu_Cache_store.ok sc_Cache_store (fun vs H Q E h => by obtain ⟨_, _, _, _, _, _, _, _, _, _, _, rfl, _⟩ := h; rfl) fun cdv A outer s H vs Q E hr h => ?_
  obtain ⟨p, e, n, c, es, t, m, u, b, a, k, rfl, hb, hk, hkn, hT, hC, hl, hQ⟩ := h
  refine ⟨_, PSs.nox (pss_cons (ps_set (i := 5) sc_Cache_store.nd rfl (by first | exact Or.inl rfl | exact Or.inr rfl) (pe_tup (pa_cons (pv 1) (pa_cons (pv 2) (pa_cons (pv 3) pa_nil)))))
      (pss_cons (ps_set (i := 6) sc_Cache_store.nd rfl (by first | exact Or.inl rfl | exact Or.inr rfl) (pe_meth (pv 0) W.cl_Cache W.mt_Cache_number_of (ok_Cache_number_of W) (hr.mono (by decide)) W.bd_Cache_number_of .nil pass0 (pa_cons (pe_ix ix_tup (pv 4) pe_int (fun _ _ => rfl)) pa_nil)))
      (pss_cons (ps_if (pt_cmpR op_gt (pv 6) (pe_fld (pv 0) rfl) (nomark _)) (pss_one ps_never) pss_nil)
      (pss_cons (ps_set (i := 7) sc_Cache_store.nd rfl (by first | exact Or.inl rfl | exact Or.inr rfl) (pe_dget1 (hu_of hr) (pe_fld (pv 0) rfl) (pv 5) ⟨by rfl, by rfl, by rfl, by rfl⟩))
      (pss_cons (ps_if (PW.pt (pw_and (pt_cmpR op_notN (pv 7) pe_non (nomark _)) (pw_and1 (pt_cmpR op_ge (pe_ix ix_tup (pv 7) pe_int (fun _ _ => rfl)) (pv 6) (nomark _))))) (pss_cons (ps_expr (pe_meth (pv 0) W.cl_Cache W.mt_Cache_use (ok_Cache_use W) (hr.mono (by decide)) W.bd_Cache_use .nil pass0 (pa_cons (pv 5) (pa_cons (pv 7) pa_nil))))
      (pss_one ps_retN)) pss_nil)
      (pss_cons (ps_expr (pe_meth (pv 0) W.cl_Cache W.mt_Cache_use (ok_Cache_use W) (hr.mono (by decide)) W.bd_Cache_use .nil pass0 (pa_cons (pv 5) (pa_cons (pe_tup (pa_cons (pe_ix ix_tup (pv 4) pe_int (fun _ _ => rfl)) (pa_cons (pv 6) pa_nil))) pa_nil))))
      (pss_one (ps_if (pt_cmpR op_gt (pe_callB call_len_dT (by rfl) W.fr_len PySem.boot_len (pa_cons (pe_fld (pv 0) rfl) pa_nil)) (pe_fld (pv 0) rfl) (nomark _)) (pss_one (ps_expr (pe_bm PySem.F.plainAttrs_dict PySem.F.slot_dict_pop PySem.F.type_dict_pop (mt_popT1 (hu_of hr)) (pe_fld (pv 0) rfl) (pa_cons (pe_ix ix_list (pe_callTy (call_list_dT rfl) (by rfl) W.fr_list (by decide +kernel) (pa_cons (pe_fld (pv 0) rfl) pa_nil)) pe_int (fun _ _ => rfl)) pa_nil)))) pss_nil)))))))), ?_⟩
  obtain ⟨⟨dx, hp⟩, kvs, he, hes⟩ := id hC
  have sz : sizeLine = 16777216 := sizeLine_eq
  refine ⟨_, rfl, _, rfl, _, rfl, by show 3 ≤ sizeLine; omega, fun qb hqb => ?_⟩
  have a1 : Sm H (upd H qb (.tup [.str t, .str m, .str u])) := Sx.new hqb
  have hq : upd H qb (.tup [.str t, .str m, .str u]) qb = some (.tup ([t, m, u].map V.str)) := upd_same
  generalize upd H qb (.tup [.str t, .str m, .str u]) = G1 at a1 hq
  refine ⟨_, rfl, p, dx, _, rfl, a1.atS hp, rfl, _, rfl, b, _, 1, _, rfl, rfl, .of (a1.tups _ _ hb), atI_nat (j := 1) rfl, p, e, n, c, es, some k, rfl, fun j ej => (by cases ej; exact hk), hT.sx a1, ⟨⟨dx, a1.atS hp⟩, kvs, a1.atS he, ens_sx a1 hes⟩, fun G2 a2 => ?_⟩
  have a12 := a1.trans a2
  have hp2 := a12.atS hp
  have he2 := a12.atS he
  have hes2 := ens_sx a12 hes
  have hb2 := a12.tups _ _ hb
  have hq2 := a2.tups _ _ hq
  have hq' : G2 qb = some (.tup (([t, m, u].map Sum.inr).map kV)) := by rw [inr_kV]; exact hq2
  have hC2 : CaAt (cC K) G2 p e n c es := ⟨⟨dx, hp2⟩, kvs, he2, hes2⟩
  refine ⟨_, rfl, _, rfl, p, cC K, dx, _, _, rfl, hp2, W.cl_Cache, W.na_Cache_number, rfl, _, _, rfl, rfl, _, rfl, ?_⟩
  rw [show decide ((n : Int) < tokI (some k)) = false from decide_eq_false (by show ¬ (n : Int) < (k : Int); omega)]
  refine iteF ⟨_, rfl, p, cC K, dx, _, _, rfl, hp2, W.cl_Cache, W.na_Cache_entries, rfl, e, rfl, .inr ⟨kvs, .of he2⟩, _, rfl, _, DGet.t he2 hq', ?_⟩
  -- a new entry, the oldest may go
  have put : ∀ ve : V, storeE es [t, m, u] (a, k) c = popE (es_use es [t, m, u] (a, k)) c →
      (tSeq (tDrop (tMeth (cC K) "use" (sp_Cache_use K) [] E0 (tVar 0) (tCons (tVar 5) (tCons (tTup (tCons (tOp (rIxT K) (tVar 4) (tC (.int 0))) (tCons (tVar 6) tNil))) tNil))))
        (tIfS (tTest (tOp (rI0 fun i j => .bl (decide (j < i))) (tCB (rLenT) (tCons (tFld K (tVar 0) "entries") tNil)) (tFld K (tVar 0) "capacity")))
          (tDrop (tBM K "dict" rPopT1 (tFld K (tVar 0) "entries") (tCons (tOp (rIxL K) (tCB (fun xs H Q => ∃ d kvs, xs = [V.ref d] ∧ Rd H d (.dT kvs) ∧ ∀ p bs, H p = none → IsKeys H kvs bs → Q (.ref p) (upd H p (.lst (bs.map V.ref)))) (tCons (tFld K (tVar 0) "entries") tNil)) (tC (.int 0))) tNil)))
          tNext)) { nx := fun _ H' => Q .non H', rt := Q } ((((L2.start ["self", "target", "name", "subject", "answer", "question", "number", "known"] [.ref p, .str t, .str m, .str u, .ref b]).set 5 (some (.ref qb))).set 6 (some (.int (tokI (some k))))).set 7 (some ve)) G2 := by
    intro ve est
    refine ⟨_, rfl, p, dx, _, rfl, hp2, rfl, _, rfl, _, rfl, b, _, 0, _, rfl, rfl, .of hb2, atI_nat (j := 0) rfl, _, rfl, by show 2 ≤ sizeLine; omega, fun r hr => ?_⟩
    have a3 : Sm G2 (upd G2 r (.tup [.bl a, .int (tokI (some k))])) := Sx.new hr
    have hr2 : upd G2 r (.tup [.bl a, .int (tokI (some k))]) r = some (.tup [.bl a, .int k]) := upd_same
    generalize upd G2 r (.tup [.bl a, .int (tokI (some k))]) = G3 at a3 hr2
    refine ⟨p, e, n, c, es, _, _, [t, m, u], (a, k), rfl, ⟨⟨dx, a3.atS hp2⟩, kvs, a3.atS he2, ens_sx a3 hes2⟩, ⟨qb, rfl, a3.tups _ _ hq2⟩, ⟨r, rfl, hr2⟩, hl, fun G4 a4 hC4 => ?_⟩
    have a14 := (Sx.of (M := fun b => b = e) (a12.trans a3)).trans a4
    obtain ⟨⟨dx4, hp4⟩, kvs4, he4, hes4⟩ := id hC4
    refine ⟨_, rfl, p, cC K, dx4, _, _, rfl, hp4, W.cl_Cache, W.na_Cache_entries, rfl, e, kvs4, rfl, he4, _, rfl, p, cC K, dx4, _, _, rfl, hp4, W.cl_Cache, W.na_Cache_capacity, rfl, _, _, rfl, rfl, _, rfl, chn (fun q1 => ?_) fun q1 => ?_⟩
    · have q1 := of_decide_eq_true q1
      have l4 := ens_len hes4
      refine ⟨_, rfl, p, cC K, dx4, _, _, rfl, hp4, W.cl_Cache, W.na_Cache_entries, rfl, tyT he4, _, rfl, p, cC K, dx4, _, _, rfl, hp4, W.cl_Cache, W.na_Cache_entries, rfl, e, kvs4, rfl, .of he4, fun l bs hln hk2 => ?_⟩
      generalize e4' : es_use es [t, m, u] (a, k) = es4 at hes4 est l4
      cases hes4 with
      | nil => simp at q1; omega
      | @cons kv z kvr er h4 t4 =>
        unfold IsKeys at hk2
        cases hk2 with
        | @cons _ b0 _ br hb0 hbr =>
          have a5 : Sm G4 (upd G4 l (.lst ((b0 :: br).map V.ref))) := Sx.new hln
          have hl5 : upd G4 l (.lst ((b0 :: br).map V.ref)) l = some (.lst ((b0 :: br).map V.ref)) := upd_same
          generalize upd G4 l (.lst ((b0 :: br).map V.ref)) = G5 at a5 hl5
          have he5 := a5.atS he4
          refine ⟨l, _, 0, .ref b0, rfl, rfl, .of hl5, atI_nat (j := 0) rfl, e, kv :: kvr, kv.1, b0, kv.2, rfl, rfl, he5, a5.tups _ _ hb0, valV_pos rfl, ?_⟩
          have pe : p ≠ e := ne_of hp4 he4 fun z => nomatch z
          have a6 : Sx (fun b => b = e) G5 (upd G5 e (.dT (dropK (kv :: kvr) kv.1))) := Sx.put he5 rfl
          refine hQ _ (a14.trans ((Sx.of a5).trans a6)) ?_
          rw [est]
          refine ⟨⟨dx4, by rw [upd_ne pe]; exact a5.atS hp4⟩, _, upd_same, ?_⟩
          have e5 := ens_drop (q := z.1) (ens_sx ((Sx.of a5).trans a6) (show Ens G4 (kv :: kvr) (z :: er) from .cons h4 t4))
          unfold popE
          rw [if_pos (by rw [← l4]; omega)]
          rw [← h4.1] at e5
          exact e5
    · have q1 := of_decide_eq_false q1
      have l4 := ens_len hes4
      refine hQ _ a14 ?_
      rw [est]
      unfold popE
      rw [if_neg (by omega)]
      exact hC4
  rcases ens_at (q := [t, m, u]) hes2 with ⟨e1, e2⟩ | ⟨v, x, e1, e2, b2, rfl, hbx⟩
  · rw [e1]
    refine ⟨_, rfl, rfl, _, rfl, iteF (put _ ?_)⟩
    unfold storeE
    rw [e2]
  · rw [e1]
    refine ⟨_, rfl, rfl, _, rfl, iteT ⟨_, rfl, b2, _, 1, _, rfl, rfl, .of hbx, atI_nat (j := 1) rfl, _, rfl, _, _, rfl, rfl, _, rfl, chn (fun q1 => ?_) fun q1 => ?_⟩⟩
    · have q1 := of_decide_eq_true q1
      have r1 : storeE es [t, m, u] (a, k) c = es_use es [t, m, u] x := by
        unfold storeE
        rw [e2]
        exact if_pos (by have : (k : Int) ≤ (x.2 : Int) := q1; show k ≤ x.2; omega)
      refine ⟨_, rfl, p, dx, _, rfl, hp2, rfl, _, rfl, _, rfl, p, e, n, c, es, _, _, [t, m, u], x, rfl, hC2, ⟨qb, rfl, hq2⟩, ⟨b2, rfl, hbx⟩, hl, fun G3 a3 hC3 => ?_⟩
      exact hQ _ ((Sx.of a12).trans a3) (by rw [r1]; exact hC3)
    · have q1 := of_decide_eq_false q1
      refine put _ ?_
      unfold storeE
      rw [e2]
      exact if_neg (by intro z; apply q1; show (k : Int) ≤ (x.2 : Int); omega)
/-! ### an entry of the log -/
def EntryAt (H : Hp) (v : V) (n : Nat) (ga lo : List (List Str)) : Prop := ∃ p x y, v = .ref p ∧ H p = some (.tup [.str "main", .int n, x, y]) ∧ Lu H x ga ∧ Lu H y lo
def appE1 (ga lo : List (List Str)) (n : Nat) (z : Ent) : Ent := if z.1 ∈ ga ∨ z.1 ∈ lo then (z.1, decide (z.1 ∈ ga), n + 1) else if z.2.2 = n then (z.1, z.2.1, n + 1) else z
theorem appE1_key (ga lo : List (List Str)) (n : Nat) (z : Ent) : (appE1 ga lo n z).1 = z.1 := by
  unfold appE1
  by_cases h : z.1 ∈ ga ∨ z.1 ∈ lo
  · rw [if_pos h]
  · rw [if_neg h]
    by_cases h2 : z.2.2 = n
    · rw [if_pos h2]
    · rw [if_neg h2]
def upE (es : List Ent) (q : List Str) (x : Bool × Nat) : List Ent := es.map fun y => if y.1 = q then (y.1, x) else y
theorem upE_id {q : List Str} {x : Bool × Nat} : ∀ {l : List Ent}, (∀ y ∈ l, y.1 ≠ q) → upE l q x = l
  | [], _ => rfl
  | y :: l, h => by
    show (if y.1 = q then (y.1, x) else y) :: upE l q x = y :: l
    rw [if_neg (h y List.mem_cons_self), upE_id fun z hz => h z (List.mem_cons_of_mem _ hz)]
theorem ens_put {H : Hp} {q : List Str} {v : V} {x : Bool × Nat} {kvs : List (List Key × V)} {es : List Ent} (h : Ens H kvs es) (hv : EnV H v x) (hs : valV kvs (q.map Sum.inr) ≠ none) : Ens H (putK kvs (q.map Sum.inr) v) (upE es q x) := by
  have e : putK kvs (q.map Sum.inr) v = kvs.map fun kv => if kv.1 = q.map Sum.inr then (kv.1, v) else kv := by
    unfold putK
    rw [if_pos (by
      rw [valV_any]
      cases z : valV kvs (q.map Sum.inr) with
      | none => exact absurd z hs
      | some _ => rfl)]
  rw [e]
  clear e hs
  unfold Ens at h
  induction h with
  | nil => exact .nil
  | @cons a b as bs h t ih =>
    refine .cons ?_ ih
    dsimp only
    by_cases z : b.1 = q
    · rw [if_pos (by rw [h.1, z]), if_pos z]
      exact ⟨h.1, hv⟩
    · rw [if_neg (fun w => z (inr_inj (by rw [← h.1]; exact w))), if_neg z]
      exact h
def sp_Cache_apply (K : PySem.W.Frag) : Sp := fun vs H Q _ => ∃ (p e : Addr) (n c : Nat) (es : List Ent) (v : V) (ga lo : List (List Str)), vs = [.ref p, v] ∧ EntryAt H v (n + 1) ga lo ∧ CaAt (cC K) H p e n c es ∧ (es.map (·.1)).Nodup ∧ es.length ≤ 1000 ∧
  ∀ H', Sx (fun b => b = e ∨ b = p) H H' → CaAt (cC K) H' p e (n + 1) c (es.map (appE1 ga lo n)) → Q .non H'
theorem ok_Cache_apply (W : Wd K mg base) : FnOk P w K mg base CX0 1 (A_Cache_apply K) (F_Cache_apply K) ["self", "entry"] (sp_Cache_apply K) := by
  refine W.fu_Cache_apply.ok sc_Cache_apply (fun vs H Q E h => by obtain ⟨_, _, _, _, _, _, _, _, rfl, _⟩ := h; rfl) fun cdv A outer s H vs Q E hr h => ?_
  obtain ⟨p, e, n, c, es, v, ga, lo, rfl, hv, hC, nd, hl, hQ⟩ := h
  refine ⟨_, PSs.nox (pss_cons (ps_asg (pv 1) (pg_tup rfl (pgs_cons (pg_name (i := 2) sc_Cache_apply.nd rfl (by first | exact Or.inl rfl | exact Or.inr rfl)) (pgs_cons (pg_name (i := 3) sc_Cache_apply.nd rfl (by first | exact Or.inl rfl | exact Or.inr rfl)) (pgs_cons (pg_name (i := 4) sc_Cache_apply.nd rfl (by first | exact Or.inl rfl | exact Or.inr rfl)) (pgs_cons (pg_name (i := 5) sc_Cache_apply.nd rfl (by first | exact Or.inl rfl | exact Or.inr rfl)) pgs_nil))))))
      (pss_cons (ps_if (pt_cmpR op_ne (pv 2) (pe_fld (pv 0) rfl) (nomark _)) (pss_one ps_never) pss_nil)
      (pss_cons (ps_if (pt_cmpR op_ne (pv 3) (pe_op op_add (pe_fld (pv 0) rfl) pe_int) (nomark _)) (pss_one ps_never) pss_nil)
      (pss_cons (ps_for PassesOwn.never rfl (pi_list (pe_callTy (call_list_dT rfl) (by rfl) W.fr_list (by decide +kernel) (pa_cons (pe_fld (pv 0) rfl) pa_nil))) (pg_name (i := 6) sc_Cache_apply.nd rfl (by first | exact Or.inl rfl | exact Or.inr rfl)) (pss_cons (ps_asg (pe_dget (hu_of hr) (pe_fld (pv 0) rfl) (pv 6) (fun _ _ => rfl)) (pg_tup rfl (pgs_cons (pg_name (i := 7) sc_Cache_apply.nd rfl (by first | exact Or.inl rfl | exact Or.inr rfl)) (pgs_cons (pg_name (i := 8) sc_Cache_apply.nd rfl (by first | exact Or.inl rfl | exact Or.inr rfl)) pgs_nil))))
      (pss_one (ps_if (PW.pt (pw_or (pt_cmpR (op_inL hr.units) (pv 6) (pv 4) (by rfl)) (pw_or1 (pt_cmpR (op_inL hr.units) (pv 6) (pv 5) (by rfl))))) (pss_one (ps_dput (hu_of hr) (pe_fld (pv 0) rfl) (pv 6) (pe_tup (pa_cons (pe_cmpR (op_inL hr.units) (pv 6) (pv 4) (by rfl)) (pa_cons (pv 3) pa_nil))) rfl)) (pss_one (ps_if (pt_cmpR op_eq (pv 8) (pe_fld (pv 0) rfl) (nomark _)) (pss_one (ps_dput (hu_of hr) (pe_fld (pv 0) rfl) (pv 6) (pe_tup (pa_cons (pv 7) (pa_cons (pv 3) pa_nil))) rfl)) pss_nil))))))
      (pss_one (ps_fld (pv 0) (pv 3) rfl)))))), ?_⟩
  obtain ⟨⟨dx, hp⟩, kvs, he, hes⟩ := id hC
  obtain ⟨b, gv, lv, rfl, hb, hgv, hlv⟩ := hv
  have sz : sizeLine = 16777216 := sizeLine_eq
  have pe : p ≠ e := ne_of hp he fun z => nomatch z
  refine ⟨_, rfl, b, _, rfl, .of hb, rfl, _, _, rfl, _, _, rfl, _, _, rfl, _, _, rfl, rfl, ?_⟩
  refine ⟨_, rfl, _, rfl, p, cC K, dx, _, _, rfl, hp, W.cl_Cache, W.na_Cache_own_id, rfl, rfl, _, rfl, ?_⟩
  rw [show (!decide (V.str "main" = V.str "main")) = false by simp]
  refine iteF ⟨_, rfl, _, rfl, p, cC K, dx, _, _, rfl, hp, W.cl_Cache, W.na_Cache_number, rfl, _, _, rfl, rfl, rfl, _, rfl, ?_⟩
  rw [show (!decide (V.int ((n + 1 : Nat) : Int) = V.int ((n : Int) + 1))) = false by simp]
  refine iteF ⟨_, rfl, p, cC K, dx, _, _, rfl, hp, W.cl_Cache, W.na_Cache_entries, rfl, e, kvs, rfl, .of he, fun l bs hln hbs => ?_⟩
  have hks := ens_keys hes hbs
  have a1 : Sm H (upd H l (.lst (bs.map V.ref))) := Sx.new hln
  have hl1 : upd H l (.lst (bs.map V.ref)) l = some (.lst (bs.map V.ref)) := upd_same
  have hks1 := hks.sx a1
  generalize upd H l (.lst (bs.map V.ref)) = H1 at a1 hl1 hks1
  have he1 := a1.atS he
  have hp1 := a1.atS hp
  have hes1 := ens_sx a1 hes
  have hgv1 := hgv.sx a1
  have hlv1 := hlv.sx a1
  obtain ⟨ag, gx, rfl, hag, hgx⟩ := hgv1
  obtain ⟨al, lx, rfl, hal, hlx⟩ := hlv1
  have le : l ≠ e := ne_of hl1 he1 fun z => nomatch z
  have ge : ag ≠ e := ne_of hag he1 fun z => nomatch z
  have lle : al ≠ e := ne_of hal he1 fun z => nomatch z
  have w := walk_list (K := K) (a := l) (xs := bs.map V.ref)
  have hlen : (bs.map V.ref).length = es.length := by have := Paired.length hks; simpa using this
  rw [hlen] at w
  refine ⟨l, rfl, ⟨_, .of hl1⟩, for_it w (fun i τ G => ∃ o6 o7 o8, τ = [some (.ref p), some (.ref b), some (.str "main"), some (.int ((n + 1 : Nat) : Int)), some (.ref ag), some (.ref al), o6, o7, o8] ∧ Sx (fun b => b = e) H1 G ∧ ∃ kv, G e = some (.dT kv) ∧ Ens G kv ((es.take i).map (appE1 ga lo n) ++ es.drop i))
    ⟨none, none, none, rfl, Sx.refl _, kvs, he1, by simpa using hes1⟩ (fun i τ G _ ⟨_, _, _, _, a, _⟩ => .of (a.at hl1 le)) (fun i x τ G0 G hi ⟨o6, o7, o8, eτ, a, kv, hkv, hen⟩ ⟨eG, hx⟩ => ?_) fun τ G ⟨o6, o7, o8, eτ, a, kv, hkv, hen⟩ => ?_⟩
  · subst eτ eG
    obtain ⟨q, hq, bq, rfl, hbq⟩ := pr_get hks1 hx
    have hq' : es[i].1 = q := by
      rw [List.getElem?_map, List.getElem?_eq_getElem hi] at hq
      exact Option.some.inj hq
    have hbq2 := a.tups _ _ hbq
    have hbq4 : G bq = some (.tup ((q.map Sum.inr).map kV)) := by rw [inr_kV]; exact hbq2
    have hdrop : es.drop i = es[i] :: es.drop (i + 1) := List.drop_eq_getElem_cons hi
    have htake : es.take (i + 1) = es.take i ++ [es[i]] := List.take_succ_eq_append_getElem hi
    have npre : ∀ y ∈ es.take i, y.1 ≠ q := fun y hy z => by
      have e2 := nd
      rw [← List.take_append_drop i es, hdrop, List.map_append, List.map_cons] at e2
      exact (List.nodup_append.mp e2).2.2 _ (List.mem_map.mpr ⟨y, hy, rfl⟩) _ List.mem_cons_self (by rw [hq', z])
    have npost : ∀ y ∈ es.drop (i + 1), y.1 ≠ q := fun y hy z => by
      have e2 := nd
      rw [← List.take_append_drop i es, hdrop, List.map_append, List.map_cons] at e2
      have e3 := (List.nodup_append.mp e2).2.1
      exact (List.nodup_cons.mp e3).1 (List.mem_map.mpr ⟨y, hy, by rw [hq', z]⟩)
    have npre2 : ∀ y ∈ (es.take i).map (appE1 ga lo n), y.1 ≠ q := fun y hy => by
      obtain ⟨y0, h0, rfl⟩ := List.mem_map.mp hy
      rw [appE1_key]
      exact npre y0 h0
    rw [hdrop] at hen
    have hfind : es_at ((es.take i).map (appE1 ga lo n) ++ es[i] :: es.drop (i + 1)) q = some es[i].2 := by
      unfold es_at
      rw [List.find?_append, List.find?_eq_none.mpr fun y hy => by simpa using npre2 y hy, Option.none_or, List.find?_cons_of_pos (by simpa using hq')]
      rfl
    rcases ens_at (q := q) hen with ⟨_, e2⟩ | ⟨v, x, e1, e2, bx, rfl, hbx⟩
    · rw [hfind] at e2; cases e2
    rw [hfind] at e2
    have ex : es[i].2 = x := Option.some.inj e2
    have hcur : ∀ (y : Bool × Nat), upE ((es.take i).map (appE1 ga lo n) ++ es[i] :: es.drop (i + 1)) q y = (es.take i).map (appE1 ga lo n) ++ (q, y) :: es.drop (i + 1) := fun y => by
      have h1 : upE ((es.take i).map (appE1 ga lo n) ++ es[i] :: es.drop (i + 1)) q y = upE ((es.take i).map (appE1 ga lo n)) q y ++ upE (es[i] :: es.drop (i + 1)) q y := by
        unfold upE
        rw [List.map_append]
      have h2 : upE (es[i] :: es.drop (i + 1)) q y = (es[i].1, y) :: upE (es.drop (i + 1)) q y := by
        show (if es[i].1 = q then (es[i].1, y) else es[i]) :: upE (es.drop (i + 1)) q y = _
        rw [if_pos hq']
      rw [h1, h2, upE_id npre2, upE_id npost, hq']
    have hnext : ∀ z, appE1 ga lo n es[i] = z → (es.take (i + 1)).map (appE1 ga lo n) ++ es.drop (i + 1) = (es.take i).map (appE1 ga lo n) ++ z :: es.drop (i + 1) := fun z hz => by
      rw [htake, List.map_append, List.append_assoc]
      rw [← hz]
      rfl
    have hpG := a.at hp1 pe
    -- store a new value
    have put : ∀ (y : Bool) (r : Addr) (G2 : Hp), Sm G G2 → G2 r = some (.tup [.bl y, .int ((n + 1 : Nat) : Int)]) → appE1 ga lo n es[i] = (q, y, n + 1) →
        ∃ a1 G3, V.ref e = V.ref a1 ∧ DPut G2 a1 (.ref bq) (.ref r) G3 ∧ Sx (fun b => b = e) H1 G3 ∧ ∃ kv, G3 e = some (.dT kv) ∧ Ens G3 kv ((es.take (i + 1)).map (appE1 ga lo n) ++ es.drop (i + 1)) := fun y r G2 a2 hr2 hz => by
      have hkv2 := a2.atS hkv
      have hz1 := ens_len hen
      have hz2 : ((es.take i).map (appE1 ga lo n) ++ es[i] :: es.drop (i + 1)).length ≤ 1000 := by
        have z1 : (es.take i).length = min i es.length := List.length_take
        have z2 : (es.drop (i + 1)).length = es.length - (i + 1) := List.length_drop
        rw [List.length_append, List.length_map, List.length_cons]
        omega
      have a3 : Sx (fun b => b = e) G2 (upd G2 e (.dT (putK kv (q.map Sum.inr) (.ref r)))) := Sx.put hkv2 rfl
      refine ⟨e, _, rfl, DPut.t (k := q.map Sum.inr) hkv2 (a2.tups _ _ hbq4) (by omega), a.trans ((Sx.of a2).trans a3), _, upd_same, ?_⟩
      rw [hnext _ hz, ← hcur]
      exact ens_put (ens_sx ((Sx.of a2).trans a3) hen) ⟨r, rfl, a3.tups _ _ hr2⟩ (by rw [e1]; exact fun z => nomatch z)
    refine ⟨_, rfl, p, cC K, dx, _, _, rfl, hpG, W.cl_Cache, W.na_Cache_entries, rfl, _, rfl, e, _, rfl, (by have g := DGet.t hkv hbq4; rw [e1] at g; exact g), bx, _, rfl, .of hbx, rfl, _, _, rfl, _, _, rfl, rfl, ?_⟩
    refine ⟨_, rfl, _, rfl, q, ga, ag, gx, ⟨bq, rfl, hbq2⟩, rfl, .of (a.at hag ge), hgx.sx a, _, rfl, chn (fun q1 => ?_) fun q1 => ?_⟩
    · refine ⟨_, rfl, _, rfl, q, ga, ag, gx, ⟨bq, rfl, hbq2⟩, rfl, .of (a.at hag ge), hgx.sx a, _, rfl, by show 2 ≤ sizeLine; omega, fun r hr => ?_⟩
      have a2 : Sm G (upd G r (.tup [.bl (decide (q ∈ ga)), .int ((n + 1 : Nat) : Int)])) := Sx.new hr
      obtain ⟨a1', G3, h1, h2, h3, h4⟩ := put _ r _ a2 upd_same (by unfold appE1; rw [hq', if_pos (.inl (of_decide_eq_true q1))])
      exact ⟨_, rfl, p, cC K, dx, _, _, rfl, a2.atS hpG, W.cl_Cache, W.na_Cache_entries, rfl, _, rfl, a1', G3, h1, h2, _, _, _, rfl, h3, h4⟩
    refine ⟨_, rfl, _, rfl, q, lo, al, lx, ⟨bq, rfl, hbq2⟩, rfl, .of (a.at hal lle), hlx.sx a, _, rfl, chn (fun q2 => ?_) fun q2 => ?_⟩
    · refine ⟨_, rfl, _, rfl, q, ga, ag, gx, ⟨bq, rfl, hbq2⟩, rfl, .of (a.at hag ge), hgx.sx a, _, rfl, by show 2 ≤ sizeLine; omega, fun r hr => ?_⟩
      have a2 : Sm G (upd G r (.tup [.bl (decide (q ∈ ga)), .int ((n + 1 : Nat) : Int)])) := Sx.new hr
      obtain ⟨a1', G3, h1, h2, h3, h4⟩ := put _ r _ a2 upd_same (by unfold appE1; rw [hq', if_pos (.inr (of_decide_eq_true q2))])
      exact ⟨_, rfl, p, cC K, dx, _, _, rfl, a2.atS hpG, W.cl_Cache, W.na_Cache_entries, rfl, _, rfl, a1', G3, h1, h2, _, _, _, rfl, h3, h4⟩
    have hno : ¬ (q ∈ ga ∨ q ∈ lo) := fun z => z.elim (of_decide_eq_false q1) (of_decide_eq_false q2)
    refine ⟨_, rfl, _, rfl, p, cC K, dx, _, _, rfl, hpG, W.cl_Cache, W.na_Cache_number, rfl, rfl, _, rfl, chn (fun q3 => ?_) fun q3 => ?_⟩
    · have q3 : V.int (x.2 : Int) = V.int (n : Int) := of_decide_eq_true q3
      have q3' : x.2 = n := by injection q3 with z; omega
      refine ⟨_, rfl, _, rfl, by show 2 ≤ sizeLine; omega, fun r hr => ?_⟩
      have a2 : Sm G (upd G r (.tup [.bl x.1, .int ((n + 1 : Nat) : Int)])) := Sx.new hr
      obtain ⟨a1', G3, h1, h2, h3, h4⟩ := put x.1 r _ a2 upd_same (by unfold appE1; rw [hq', if_neg hno, if_pos (by rw [ex]; exact q3'), ex])
      exact ⟨_, rfl, p, cC K, dx, _, _, rfl, a2.atS hpG, W.cl_Cache, W.na_Cache_entries, rfl, _, rfl, a1', G3, h1, h2, _, _, _, rfl, h3, h4⟩
    · have q3 : ¬ V.int (x.2 : Int) = V.int (n : Int) := of_decide_eq_false q3
      have q3' : ¬ x.2 = n := fun z => q3 (by rw [z])
      refine ⟨_, _, _, rfl, a, kv, hkv, ?_⟩
      rw [hnext es[i] (by unfold appE1; rw [hq', if_neg hno, if_neg (by rw [ex]; exact q3')])]
      exact hen
  · subst eτ
    rw [List.take_length, List.drop_length, List.append_nil] at hen
    refine ⟨_, rfl, _, rfl, p, cC K, dx, _, rfl, a.at hp1 pe, W.cl_Cache, W.na_Cache_number, (by show 4 < 1000; decide), ?_⟩
    have a4 : Sx (fun b => b = e ∨ b = p) G (upd G p (.ins (cC K) dx (putF "number" (.int ((n + 1 : Nat) : Int)) (flC n c e)))) := Sx.put (a.at hp1 pe) (.inr rfl)
    refine hQ _ ((Sx.of a1).trans ((a.mono fun _ => .inl).trans a4)) ⟨⟨dx, upd_same⟩, kv, by rw [upd_ne pe.symm]; exact hkv, ens_sx a4 hen⟩
end
end K83
namespace K83
open PySem PySem.Spec PyProof.Rows L2 L2.DX GxR
/-! ### o.f as a target among several -/
def gFld (K : PySem.W.Frag) (to : TE) (f : Str) : TG := fun v σ H Q => to σ H fun x H2 => ∃ a C dx fs, x = .ref a ∧ H2 a = some (.ins C dx fs) ∧ Cls K C ∧ NoAttr K C f ∧ fs.length < 1000 ∧ Q σ (upd H2 a (.ins C dx (putF f v fs)))
theorem pg_fld {X : Cx} {o : Expr} {f : Str} {pos : Pos} {to : TE} (ho : PE X o to) : PG X (.Attribute o f pos) (gFld X.K to f) := by
  refine ⟨fun pins s σ H v u Q I r h => ?_⟩
  rw [assign_Attribute]
  refine wpAny_bind (wpAny_holding (thn (ho.run pins s σ H _ I h) fun ov s2 ⟨x, H2, I2, rx, a, C, dx, fs, ex, ea, c, n, l, q⟩ => ?_))
  subst ex
  obtain rfl : ov = Value.ref a := rx
  exact wpAny_bind (wpAny_standAt (wpAny_bind (wpAny_holding (setattr_ok I2 ea c n l r fun s3 I3 => wpAny_release ⟨σ, _, I3, q⟩))))
/-! ### the replica -/
abbrev flR (n : Int) (t : V) (l : Addr) : List (Str × V) := [("name", .str "main"), ("number", .int n), ("table", t), ("later", .ref l)]
def SameU (a b : List (List Str)) : Prop := a.Nodup ∧ ∀ x, x ∈ a ↔ x ∈ b
theorem SameU.perm {a b : List (List Str)} (h : SameU a b) (nd : b.Nodup) : a.Perm b := (List.perm_ext_iff_of_nodup h.1 nd).mpr h.2
theorem SameU.gd {a b : List (List Str)} (h : SameU a b) (g : Gd b) : Gd a := ⟨h.1, fun k hk => g.ne k ((h.2 k).mp hk), by rw [(h.perm g.nd).length_eq]; exact g.len⟩
abbrev chG (T : Nat → List (List Str)) (k : Nat) : List (List Str) := gainU (T (k - 1)) (T k)
abbrev chL (T : Nat → List (List Str)) (k : Nat) : List (List Str) := gainU (T k) (T (k - 1))
theorem gainU_gd {a b : List (List Str)} (h : Gd b) : Gd (gainU a b) := (h.filter _).sort
theorem mem_gainU {a b : List (List Str)} {x : List Str} : x ∈ gainU a b ↔ x ∈ b ∧ x ∉ a := by
  unfold gainU
  rw [(sortU_perm _).mem_iff, List.mem_filter]
  simp
/-- what waits: changes of later revisions -/
def Lat (B : Nat) (T : Nat → List (List Str)) (H : Hp) (n : Nat) (kvs : List (Key × V)) : Prop := (kvs.map (·.1)).Nodup ∧ ∀ kv ∈ kvs, ∃ k : Nat, kv.1 = Sum.inl (k : Int) ∧ n < k ∧ k < B ∧ Ch H kv.2 (chG T k) (chL T k)
theorem nodup_le {α : Type} [DecidableEq α] : ∀ (l m : List α), l.Nodup → (∀ x ∈ l, x ∈ m) → l.length ≤ m.length
  | [], _, _, _ => Nat.zero_le _
  | x :: l, m, nd, h => by
    have hx := h x List.mem_cons_self
    have h2 := nodup_le l (m.erase x) (List.nodup_cons.mp nd).2 fun y hy => (List.mem_erase_of_ne fun z => (List.nodup_cons.mp nd).1 (by rw [← z]; exact hy)).mpr (h y (List.mem_cons_of_mem _ hy))
    rw [List.length_erase_of_mem hx] at h2
    have h3 : 0 < m.length := List.length_pos_of_mem hx
    rw [List.length_cons]
    omega
theorem lat_len {B : Nat} {T : Nat → List (List Str)} {H : Hp} {n : Nat} {kvs : List (Key × V)} (h : Lat B T H n kvs) : kvs.length ≤ B := by
  have e := nodup_le (kvs.map (·.1)) ((List.range B).map fun k : Nat => (Sum.inl (k : Int) : Key)) h.1 fun x hx => by
    obtain ⟨kv, hkv, rfl⟩ := List.mem_map.mp hx
    obtain ⟨k, e, _, h2, _⟩ := h.2 kv hkv
    exact List.mem_map.mpr ⟨k, List.mem_range.mpr h2, e.symm⟩
  simpa using e
structure ReAt (C : Addr) (B : Nat) (T : Nat → List (List Str)) (H : Hp) (p l : Addr) (n : Nat) : Prop where
  ins : ∃ dx vt tb, H p = some (.ins C dx (flR n vt l)) ∧ Lu H vt tb ∧ SameU tb (T n)
  lat : ∃ kvs, H l = some (.dK kvs) ∧ Lat B T H n kvs
  lt : n < B ∧ B ≤ 41
def ReM (p l : Addr) : Addr → Prop := fun b => b = p ∨ b = l
section
variable {P : Program} {w : World} {K : PySem.W.Frag} {mg : Str → Option Value} {base : Heap}
abbrev cR (K : PySem.W.Frag) : Addr := He.ga K "Replica"
def sp_Replica_init (K : PySem.W.Frag) : Sp := fun vs H Q _ => ∃ (B : Nat) (T : Nat → List (List Str)) (p dx : Addr) (n : Nat) (b : Addr) (vt : V), vs = [.ref p, .ref b] ∧ H p = some (.ins (cR K) dx []) ∧ H b = some (.tup [.str "main", .int n, vt]) ∧ Lu H vt (T n) ∧ Gd (T n) ∧ n < B ∧ B ≤ 41 ∧
  ∀ l H', H l = none → Sx (fun b => b = p) H H' → ReAt (cR K) B T H' p l n → Q .non H'
theorem ok_Replica_init (W : Wd K mg base) : FnOk P w K mg base CX0 1 (A_Replica_init K) (F_Replica_init K) ["self", "snapshot"] (sp_Replica_init K) := by
  refine W.fu_Replica_init.ok sc_Replica_init (fun vs H Q E h => by obtain ⟨_, _, _, _, _, _, _, rfl, _⟩ := h; rfl) fun cdv A outer s H vs Q E hr h => ?_
  obtain ⟨B, T, p, dx, n, b, vt, rfl, hp, hb, ⟨a, xs, rfl, ha, hxs⟩, hg, hn, hB, hQ⟩ := h
  refine ⟨_, PSs.nox (pss_cons (ps_asg (pv 1) (pg_tup rfl (pgs_cons (pg_fld (pv 0)) (pgs_cons (pg_fld (pv 0)) (pgs_cons (pg_name (i := 2) sc_Replica_init.nd rfl (by first | exact Or.inl rfl | exact Or.inr rfl)) pgs_nil)))))
      (pss_cons (ps_fld (pv 0) (pe_callB (cr_srt rfl hr.units) (by rfl) W.fr_sorted (by decide +kernel) (pa_cons (pv 2) pa_nil)) rfl)
      (pss_one (ps_fld (pv 0) pe_dnewK rfl)))), ?_⟩
  have a1 : ∀ o, Sx (fun b => b = p) H (upd H p o) := fun o => Sx.put hp rfl
  have pa : p ≠ a := ne_of hp ha fun z => nomatch z
  refine ⟨_, rfl, b, _, rfl, .of hb, rfl, _, _, rfl, ⟨_, rfl, p, cR K, dx, _, rfl, hp, W.cl_Replica, W.na_Replica_name, (by show 0 < 1000; decide), ?_⟩⟩
  refine ⟨_, _, rfl, ⟨_, rfl, p, cR K, dx, _, rfl, upd_same, W.cl_Replica, W.na_Replica_number, (by show 1 < 1000; decide), _, _, rfl, rfl, ?_⟩⟩
  rw [upd_upd]
  have hp1 : upd H p (.ins (cR K) dx (putF "number" (.int n) (putF "name" (.str "main") []))) p = some (.ins (cR K) dx [("name", .str "main"), ("number", .int n)]) := upd_same
  have a2 := a1 (.ins (cR K) dx (putF "number" (.int n) (putF "name" (.str "main") [])))
  generalize upd H p (.ins (cR K) dx (putF "number" (.int n) (putF "name" (.str "main") []))) = G at hp1 a2
  refine ⟨_, rfl, a, T n, rfl, hg.ne, .inl ⟨xs, .of (a2.at ha pa.symm), hxs.sx a2⟩, fun q ys hq hys => ?_⟩
  have a3 : Sm G (upd G q (.lst ys)) := Sx.new hq
  have hq3 : upd G q (.lst ys) q = some (.lst ys) := upd_same
  have hys3 := hys.sx a3
  generalize upd G q (.lst ys) = G3 at a3 hq3 hys3
  have hp3 := a3.atS hp1
  refine ⟨_, rfl, p, cR K, dx, _, rfl, hp3, W.cl_Replica, W.na_Replica_table, (by show 2 < 1000; decide), fun l hl => ⟨_, rfl, p, cR K, dx, _, rfl, by rw [upd_ne (ne_of_none upd_same hl)]; exact upd_same, W.cl_Replica, W.na_Replica_later, (by show 3 < 1000; decide), ?_⟩⟩
  have lp : l ≠ p := fun z => by rw [z, upd_same] at hl; cases hl
  have qp : q ≠ p := ne_of hq3 hp3 fun z => nomatch z
  have lq : q ≠ l := fun z => by rw [← z, upd_ne qp, hq3] at hl; cases hl
  have a4 : Sx (fun b => b = p) G3 (upd G3 p (.ins (cR K) dx (putF "table" (.ref q) [("name", .str "main"), ("number", .int n)]))) := Sx.put hp3 rfl
  have a5 := a4.trans (Sx.new (M := fun b => b = p) (o := .dK []) hl)
  have a6 := a5.trans (Sx.put (M := fun b => b = p) (o := .ins (cR K) dx (putF "later" (.ref l) (putF "table" (.ref q) [("name", .str "main"), ("number", .int n)]))) (u := .ins (cR K) dx [("name", .str "main"), ("number", .int n), ("table", .ref q)]) (by rw [upd_ne lp.symm]; exact upd_same) rfl)
  have aa := (a2.trans (Sx.of a3)).trans a6
  refine hQ l _ ?_ aa ⟨⟨dx, .ref q, sortU (T n), upd_same, ⟨q, ys, rfl, ?_, hys3.sx a6⟩, hg.sort.nd, fun x => (sortU_perm _).mem_iff⟩, ⟨[], ?_, List.nodup_nil, fun kv hkv => by cases hkv⟩, hn, hB⟩
  · exact (a2.trans (Sx.of a3)).old l (a4.old l hl)
  · rw [upd_ne qp, upd_ne lq, upd_ne qp]
    exact hq3
  · rw [upd_ne lp, upd_same]
def sp_Replica_get (K : PySem.W.Frag) (f : Nat → V) : Sp := fun vs H Q _ => ∃ B T p l n, vs = [.ref p] ∧ ReAt (cR K) B T H p l n ∧ Q (f n) H
theorem ok_Replica_revision (W : Wd K mg base) : FnOk P w K mg base CX0 1 (A_Replica_revision K) (F_Replica_revision K) ["self"] (sp_Replica_get K fun n => .int n) := by
  refine W.fu_Replica_revision.ok sc_Replica_revision (fun vs H Q E h => by obtain ⟨_, _, _, _, _, rfl, _⟩ := h; rfl) fun cdv A outer s H vs Q E hr h => ?_
  obtain ⟨B, T, p, l, n, rfl, ⟨⟨dx, vt, tb, hp, _⟩, _, _⟩, hQ⟩ := h
  refine ⟨_, PSs.nox (pss_one (ps_ret (pe_fld (pv 0) rfl))), ?_⟩
  exact ⟨_, rfl, p, cR K, dx, _, _, rfl, hp, W.cl_Replica, W.na_Replica_number, rfl, hQ⟩
theorem ok_Replica_store_id (W : Wd K mg base) : FnOk P w K mg base CX0 1 (A_Replica_store_id K) (F_Replica_store_id K) ["self"] (sp_Replica_get K fun n => .str "main") := by
  refine W.fu_Replica_store_id.ok sc_Replica_store_id (fun vs H Q E h => by obtain ⟨_, _, _, _, _, rfl, _⟩ := h; rfl) fun cdv A outer s H vs Q E hr h => ?_
  obtain ⟨B, T, p, l, n, rfl, ⟨⟨dx, vt, tb, hp, _⟩, _, _⟩, hQ⟩ := h
  refine ⟨_, PSs.nox (pss_one (ps_ret (pe_fld (pv 0) rfl))), ?_⟩
  exact ⟨_, rfl, p, cR K, dx, _, _, rfl, hp, W.cl_Replica, W.na_Replica_name, rfl, hQ⟩
def sp_Replica_fits (K : PySem.W.Frag) : Sp := fun vs H Q _ => ∃ (p dx l : Addr) (n : Int) (vt vc : V) (tb ga lo : List (List Str)), vs = [.ref p, vc] ∧ H p = some (.ins (cR K) dx (flR n vt l)) ∧ Lu H vt tb ∧ Ch H vc ga lo ∧ Gd tb ∧ ga.length ≤ 6000 ∧ Tabs K H ∧
  ∀ H', Sm H H' → Q (.bl (applyB tb ga lo)) H'
theorem ok_Replica_fits (W : Wd K mg base) : FnOk P w K mg base CX0 2 (A_Replica_fits K) (F_Replica_fits K) ["self", "change"] (sp_Replica_fits K) := by
  refine W.fu_Replica_fits.ok sc_Replica_fits (fun vs H Q E h => by obtain ⟨_, _, _, _, _, _, _, _, _, rfl, _⟩ := h; rfl) fun cdv A outer s H vs Q E hr h => ?_
  obtain ⟨p, dx, l, n, vt, vc, tb, ga, lo, rfl, hp, ht, hc, hg, hga, hT, hQ⟩ := h
  refine ⟨_, PSs.nox (pss_one (ps_ret (pe_and (pe_call (ok_applies W) (hr.mono (by decide)) rfl W.gl_applies (W.fu_applies).kp W.bd_applies .nil pass0 (pa_cons (pe_fld (pv 0) rfl) (pa_cons (pv 1) pa_nil))) (pe_one (pe_cmpR op_le (pe_op op_sub (pe_op op_add (pe_callB call_len_seq (by rfl) W.fr_len PySem.boot_len (pa_cons (pe_fld (pv 0) rfl) pa_nil)) (pe_callB call_len_seq (by rfl) W.fr_len PySem.boot_len (pa_cons (pe_ix ix_tup (pv 1) pe_int (fun _ _ => rfl)) pa_nil))) (pe_callB call_len_seq (by rfl) W.fr_len PySem.boot_len (pa_cons (pe_ix ix_tup (pv 1) pe_int (fun _ _ => rfl)) pa_nil))) (pe_gint rfl W.in_MOST_GRANTS) (nomark _)))))), ?_⟩
  refine ⟨_, rfl, p, cR K, dx, _, _, rfl, hp, W.cl_Replica, W.na_Replica_table, rfl, _, rfl, vt, vc, tb, ga, lo, rfl, ht, hc, hg, hT, fun G a => ⟨_, rfl, chn (fun q1 => ?_) fun q1 => ?_⟩⟩
  · obtain ⟨x, xs, rfl, hx, hxs⟩ := ht.sx a
    obtain ⟨b, v1, v2, rfl, hb, ⟨c, ys, rfl, hc, hys⟩, ⟨e, zs, rfl, he, hzs⟩⟩ := hc
    have hb := a.tups _ _ hb
    have l1 : xs.length = tb.length := Paired.length hxs
    have l2 : ys.length = ga.length := Paired.length hys
    have l3 := hg.len
    refine ⟨_, rfl, p, cR K, dx, _, _, rfl, a.atS hp, W.cl_Replica, W.na_Replica_table, rfl, x, xs, rfl, .inl (.of hx), _, rfl, b, _, 0, _, rfl, rfl, .of hb, atI_nat (j := 0) rfl, c, ys, rfl, .inl (.of (a.atS hc)), _, _, rfl, rfl, _, rfl, b, _, 1, _, rfl, rfl, .of hb, atI_nat (j := 1) rfl, e, zs, rfl, .inl (.of (a.atS he)), _, _, rfl, rfl, _, _, rfl, rfl, ?_⟩
    have q := hQ G a
    rw [q1] at q
    show Q (.bl (decide ((xs.length : Int) + (ys.length : Int) - (zs.length : Int) ≤ 12800))) G
    rw [show decide ((xs.length : Int) + (ys.length : Int) - (zs.length : Int) ≤ 12800) = true from decide_eq_true (by omega)]
    exact q
  · have q := hQ G a
    rw [q1] at q
    exact q
/-- the change of the next revision fits -/
theorem fits_next {T : Nat → List (List Str)} {n : Nat} {tb : List (List Str)} (h : SameU tb (T n)) : applyB tb (chG T (n + 1)) (chL T (n + 1)) = true := by
  unfold applyB
  rw [Bool.and_eq_true, List.all_eq_true, List.all_eq_true]
  refine ⟨fun x hx => ?_, fun x hx => ?_⟩
  · have := (mem_gainU.mp hx).2
    have h2 : x ∉ tb := fun z => this ((h.2 x).mp z)
    simp [h2]
  · have := (mem_gainU.mp hx).1
    have h2 : x ∈ tb := (h.2 x).mpr this
    simp [h2]
theorem app_next {T : Nat → List (List Str)} {n : Nat} {tb : List (List Str)} (h : SameU tb (T n)) (g : Gd (T (n + 1))) : SameU (appU tb (chG T (n + 1)) (chL T (n + 1))) (T (n + 1)) := by
  unfold appU
  have mem : ∀ x, x ∈ (tb.filter fun k => !decide (k ∈ chL T (n + 1))) ++ chG T (n + 1) ↔ x ∈ T (n + 1) := fun x => by
    rw [List.mem_append, List.mem_filter]
    have e2 : x ∈ chG T (n + 1) ↔ x ∈ T (n + 1) ∧ x ∉ T n := mem_gainU
    have e : x ∈ chL T (n + 1) ↔ x ∈ T n ∧ x ∉ T (n + 1) := mem_gainU
    simp only [Bool.not_eq_true', decide_eq_false_iff_not, e, e2, h.2 x]
    by_cases h1 : x ∈ T n <;> by_cases h2 : x ∈ T (n + 1) <;> simp [h1, h2]
  refine ⟨(sortU_perm _).nodup_iff.mpr (List.nodup_append.mpr ⟨h.1.filter _, (gainU_gd g).nd, fun a ha b hb z => ?_⟩), fun x => by rw [(sortU_perm _).mem_iff]; exact mem x⟩
  subst z
  have h1 := (h.2 a).mp (List.mem_filter.mp ha).1
  exact (mem_gainU.mp hb).2 h1
def sp_Replica_check_entry (K : PySem.W.Frag) : Sp := fun vs H Q _ => ∃ (B : Nat) (T : Nat → List (List Str)) (p l n k : Nat) (vc : V) (kvs : List (Key × V)), vs = [.ref p, .int k, vc] ∧ ReAt (cR K) B T H p l n ∧ H l = some (.dK kvs) ∧ valV kvs (Sum.inl (k : Int)) = none ∧ n < k ∧ k < 41 ∧ Ch H vc (chG T k) (chL T k) ∧ (∀ j, Gd (T j)) ∧ Tabs K H ∧
  ∀ H', Sm H H' → Q .non H'
theorem ok_Replica_check_entry (W : Wd K mg base) : FnOk P w K mg base CX0 3 (A_Replica_check_entry K) (F_Replica_check_entry K) ["self", "number", "change"] (sp_Replica_check_entry K) := by
  refine W.fu_Replica_check_entry.ok sc_Replica_check_entry (fun vs H Q E h => by obtain ⟨_, _, _, _, _, _, _, _, rfl, _⟩ := h; rfl) fun cdv A outer s H vs Q E hr h => ?_
  obtain ⟨B, T, p, l, n, k, vc, kvs, rfl, ⟨⟨dx, vt, tb, hp, ht, hs⟩, _, hn⟩, hl, hv, hnk, hk, hc, hg, hT, hQ⟩ := h
  refine ⟨_, PSs.nox (pss_cons (ps_if (pt_cmp (pc_din (hu_of hr) (pv 1) (pe_fld (pv 0) rfl))) (pss_one ps_never) pss_nil)
      (pss_cons (ps_if (pt_cmpR op_gt (pv 1) (pe_op op_add (pe_fld (pv 0) rfl) (pe_gint rfl W.in_MOST_AHEAD)) (nomark _)) (pss_one ps_never) pss_nil)
      (pss_one (ps_if (PW.pt (pw_and (pt_cmpR op_eq (pv 1) (pe_op op_add (pe_fld (pv 0) rfl) pe_int) (nomark _)) (pw_and1 (pt_not (pt_val (pe_meth (pv 0) W.cl_Replica W.mt_Replica_fits (ok_Replica_fits W) (hr.mono (by decide)) W.bd_Replica_fits .nil pass0 (pa_cons (pv 2) pa_nil))))))) (pss_one ps_never) pss_nil)))), ?_⟩
  refine ⟨_, rfl, _, rfl, p, cR K, dx, _, _, rfl, hp, W.cl_Replica, W.na_Replica_later, rfl, l, _, rfl, DGet.k (k := Sum.inl (k : Int)) hl, _, rfl, ?_⟩
  rw [hv]
  refine iteF ⟨_, rfl, _, rfl, p, cR K, dx, _, _, rfl, hp, W.cl_Replica, W.na_Replica_number, rfl, _, _, rfl, rfl, _, _, rfl, rfl, _, rfl, ?_⟩
  rw [show decide ((n : Int) + 40 < (k : Int)) = false from decide_eq_false (by omega)]
  refine iteF ⟨_, rfl, _, rfl, p, cR K, dx, _, _, rfl, hp, W.cl_Replica, W.na_Replica_number, rfl, _, _, rfl, rfl, rfl, _, rfl, chn (fun q1 => ?_) fun q1 => ?_⟩
  · have q1 : V.int (k : Int) = V.int ((n : Int) + 1) := of_decide_eq_true q1
    have q2 : k = n + 1 := by injection q1 with z; omega
    subst q2
    refine ⟨_, rfl, p, dx, _, rfl, hp, rfl, _, rfl, p, dx, l, n, vt, vc, tb, _, _, rfl, hp, ht, hc, hs.gd (hg n), (gainU_gd (hg _)).len, hT, fun G a => ⟨_, rfl, ?_⟩⟩
    rw [fits_next hs]
    exact iteF (hQ G a)
  · exact iteF (hQ H (Sx.refl H))
def NoL (M : Addr → Prop) (H : Hp) : Prop := ∀ b xs, H b = some (.lst xs) → ¬ M b
theorem Lu.sxM {M : Addr → Prop} {H H1 : Hp} {v : V} {l : List (List Str)} (a : Sx M H H1) (n : NoL M H) (h : Lu H v l) : Lu H1 v l := by
  obtain ⟨p, xs, e, h1, h2⟩ := h
  exact ⟨p, xs, e, a.at h1 (n p xs h1), h2.sx a⟩
theorem Ch.sxM {M : Addr → Prop} {H H1 : Hp} {v : V} {ga lo : List (List Str)} (a : Sx M H H1) (n : NoL M H) (h : Ch H v ga lo) : Ch H1 v ga lo := by
  obtain ⟨p, x, y, e, h1, h2, h3⟩ := h
  exact ⟨p, x, y, e, a.tups _ _ h1, h2.sxM a n, h3.sxM a n⟩
theorem noL_nob {H : Hp} : NoL Nob H := fun _ _ _ z => z
theorem Ch.sx {H H1 : Hp} {v : V} {ga lo : List (List Str)} (a : Sm H H1) (h : Ch H v ga lo) : Ch H1 v ga lo := h.sxM a noL_nob
theorem Lat.sxM {B : Nat} {M : Addr → Prop} {T : Nat → List (List Str)} {H H1 : Hp} {n : Nat} {kvs : List (Key × V)} (a : Sx M H H1) (nl : NoL M H) (h : Lat B T H n kvs) : Lat B T H1 n kvs :=
  ⟨h.1, fun kv hkv => let ⟨k, e, h1, h2, h3⟩ := h.2 kv hkv; ⟨k, e, h1, h2, h3.sxM a nl⟩⟩
theorem noL_re {C : Addr} {B : Nat} {T : Nat → List (List Str)} {H : Hp} {p l n : Nat} (h : ReAt C B T H p l n) : NoL (ReM p l) H := by
  obtain ⟨⟨dx, vt, tb, hp, _⟩, ⟨kvs, hl, _⟩, _⟩ := h
  intro b xs hb z
  rcases z with rfl | rfl
  · rw [hp] at hb; cases hb
  · rw [hl] at hb; cases hb
/-- the replica where neither it nor its dict is touched -/
theorem ReAt.sxM {M : Addr → Prop} {C : Addr} {B : Nat} {T : Nat → List (List Str)} {H H1 : Hp} {p l n : Nat} (a : Sx M H H1) (nl : NoL M H) (np : ¬ M p) (nl2 : ¬ M l) (h : ReAt C B T H p l n) : ReAt C B T H1 p l n := by
  obtain ⟨⟨dx, vt, tb, hp, ht, hs⟩, ⟨kvs, hl, hk⟩, hn⟩ := h
  exact ⟨⟨dx, vt, tb, a.at hp np, ht.sxM a nl, hs⟩, ⟨kvs, a.at hl nl2, hk.sxM a nl⟩, hn⟩
theorem ReAt.sx {C : Addr} {B : Nat} {T : Nat → List (List Str)} {H H1 : Hp} {p l n : Nat} (a : Sm H H1) (h : ReAt C B T H p l n) : ReAt C B T H1 p l n := h.sxM a noL_nob (fun z => z) fun z => z
theorem valV_mem {κ : Type} [DecidableEq κ] {kvs : List (κ × V)} {k : κ} {v : V} (h : valV kvs k = some v) : (k, v) ∈ kvs := by
  unfold valV at h
  obtain ⟨z, hz, e⟩ := Option.map_eq_some_iff.mp h
  have h1 := List.mem_of_find?_eq_some hz
  have h2 := List.find?_some hz
  have h2 : z.1 = k := by simpa using h2
  rw [← h2, ← e]
  exact h1
theorem lat_drop {B : Nat} {T : Nat → List (List Str)} {H : Hp} {n : Nat} {kvs : List (Key × V)} (h : Lat B T H n kvs) : Lat B T H (n + 1) (dropK kvs (Sum.inl ((n : Int) + 1))) := by
  refine ⟨h.1.sublist (List.Sublist.map _ List.filter_sublist), fun kv hkv => ?_⟩
  obtain ⟨h1, h2⟩ := List.mem_filter.mp hkv
  obtain ⟨k, e, h3, h4, h5⟩ := h.2 kv h1
  have h2 : kv.1 ≠ Sum.inl ((n : Int) + 1) := by simpa using h2
  refine ⟨k, e, ?_, h4, h5⟩
  have : k ≠ n + 1 := fun z => h2 (by rw [e, z]; rfl)
  omega
def sp_Replica_take (K : PySem.W.Frag) : Sp := fun vs H Q _ => ∃ (B : Nat) (T : Nat → List (List Str)) (p l n : Nat), vs = [.ref p] ∧ ReAt (cR K) B T H p l n ∧ (∀ j, Gd (T j)) ∧ Tabs K H ∧ ∀ v H' n', Sx (ReM p l) H H' → ReAt (cR K) B T H' p l n' → Q v H'
theorem ok_Replica_take_waiting (W : Wd K mg base) : FnOk P w K mg base CX0 4 (A_Replica_take_waiting K) (F_Replica_take_waiting K) ["self"] (sp_Replica_take K) := by
  refine W.fu_Replica_take_waiting.ok sc_Replica_take_waiting (fun vs H Q E h => by obtain ⟨_, _, _, _, _, rfl, _⟩ := h; rfl) fun cdv A outer s H vs Q E hr h => ?_
  obtain ⟨B, T, p, l, n, rfl, hR, hg, hT, hQ⟩ := h
  refine ⟨_, PSs.nox (pss_cons (ps_set (i := 1) sc_Replica_take_waiting.nd rfl (by first | exact Or.inl rfl | exact Or.inr rfl) pe_int)
      (pss_cons (ps_while PassesOwn.never (pt_cmp (pc_din (hu_of hr) (pe_op op_add (pe_fld (pv 0) rfl) pe_int) (pe_fld (pv 0) rfl))) (pss_cons (ps_set (i := 2) sc_Replica_take_waiting.nd rfl (by first | exact Or.inl rfl | exact Or.inr rfl) (pe_dpop1 (pe_fld (pv 0) rfl) (pe_op op_add (pe_fld (pv 0) rfl) pe_int) ⟨by rfl, by rfl, by rfl, by rfl⟩))
      (pss_cons (ps_if (pt_not (pt_val (pe_meth (pv 0) W.cl_Replica W.mt_Replica_fits (ok_Replica_fits W) (hr.mono (by decide)) W.bd_Replica_fits .nil pass0 (pa_cons (pv 2) pa_nil)))) (pss_one (ps_ret (pv 1))) pss_nil)
      (pss_cons (ps_fld (pv 0) (pe_call (ok_apply_change W) (hr.mono (by decide)) rfl W.gl_apply_change (W.fu_apply_change).kp W.bd_apply_change .nil pass0 (pa_cons (pe_fld (pv 0) rfl) (pa_cons (pv 2) pa_nil))) rfl)
      (pss_cons (ps_fld (pv 0) (pe_op op_add (pe_fld (pv 0) rfl) pe_int) rfl)
      (pss_one (ps_set (i := 1) sc_Replica_take_waiting.nd rfl (by first | exact Or.inl rfl | exact Or.inr rfl) (pe_op op_add (pv 1) pe_int))))))))
      (pss_one (ps_ret (pv 1))))), ?_⟩
  refine ⟨fun m τ G => ∃ (a : Int) (o : Option V) (n' : Nat), τ = [some (.ref p), some (.int a), o] ∧ Sx (ReM p l) H G ∧ ReAt (cR K) B T G p l n' ∧ Tabs K G ∧ m = 41 - n', ⟨_, 0, none, n, rfl, Sx.refl H, hR, hT, rfl⟩, ?_⟩
  rintro m τ G ⟨a, o, n', rfl, s1, hR1, hT1, rfl⟩
  obtain ⟨⟨dx, vt, tb, hp, ht, hs⟩, ⟨kvs, hl, hk⟩, hn⟩ := id hR1
  refine ⟨_, rfl, p, cR K, dx, _, _, rfl, hp, W.cl_Replica, W.na_Replica_number, rfl, _, _, rfl, rfl, _, rfl, p, cR K, dx, _, _, rfl, hp, W.cl_Replica, W.na_Replica_later, rfl, l, _, rfl, DGet.k (k := Sum.inl ((n' : Int) + 1)) hl, _, rfl, ?_⟩
  cases hv : valV kvs (Sum.inl ((n' : Int) + 1)) with
  | none => exact iteF ⟨_, rfl, hQ _ G n' s1 hR1⟩
  | some vc =>
    obtain ⟨k, ek, h1, h2, h3⟩ := hk.2 _ (valV_mem hv)
    have ek2 : k = n' + 1 := by
      have : (Sum.inl ((n' : Int) + 1) : Key) = Sum.inl (k : Int) := ek
      injection this with z
      omega
    subst ek2
    have nl := noL_re hR1
    have pl : p ≠ l := ne_of hp hl fun z => nomatch z
    refine iteT ⟨fun τ' G' => ∃ (a : Int) (o : Option V), τ' = [some (.ref p), some (.int a), o] ∧ Sx (ReM p l) H G' ∧ ReAt (cR K) B T G' p l (n' + 1) ∧ Tabs K G', fun τ' G' ⟨a, o, e, b1, b2, b3⟩ => ⟨41 - (n' + 1), by omega, a, o, n' + 1, e, b1, b2, b3, rfl⟩, ?_⟩
    refine ⟨_, rfl, p, cR K, dx, _, _, rfl, hp, W.cl_Replica, W.na_Replica_later, rfl, l, rfl, .inl ⟨kvs, .of hl⟩, _, rfl, p, cR K, dx, _, _, rfl, hp, W.cl_Replica, W.na_Replica_number, rfl, _, _, rfl, rfl, kvs, Sum.inl ((n' : Int) + 1), vc, hl, rfl, hv, ?_⟩
    have a2 : Sx (ReM p l) G (upd G l (.dK (dropK kvs (Sum.inl ((n' : Int) + 1))))) := Sx.put hl (.inr rfl)
    have hl2 : upd G l (.dK (dropK kvs (Sum.inl ((n' : Int) + 1)))) l = some (.dK (dropK kvs (Sum.inl ((n' : Int) + 1)))) := upd_same
    have hp2 : upd G l (.dK (dropK kvs (Sum.inl ((n' : Int) + 1)))) p = some (.ins (cR K) dx (flR n' vt l)) := by rw [upd_ne pl]; exact hp
    have ht2 := ht.sxM a2 nl
    have hk2 := (lat_drop hk).sxM a2 nl
    have h32 := h3.sxM a2 nl
    have hT2 := hT1.sx a2
    generalize upd G l (.dK (dropK kvs (Sum.inl ((n' : Int) + 1)))) = G2 at a2 hl2 hp2 ht2 hk2 h32 hT2
    refine ⟨_, rfl, p, dx, _, rfl, hp2, rfl, _, rfl, p, dx, l, n', vt, vc, tb, _, _, rfl, hp2, ht2, h32, hs.gd (hg n'), (gainU_gd (hg _)).len, hT2, fun G3 a3 => ⟨_, rfl, ?_⟩⟩
    rw [fits_next hs]
    have hp3 := a3.atS hp2
    refine iteF ⟨_, rfl, p, cR K, dx, _, _, rfl, hp3, W.cl_Replica, W.na_Replica_table, rfl, _, rfl, vt, vc, tb, _, _, rfl, ht2.sx a3, h32.sx a3, hs.gd (hg n'), gainU_gd (hg _), gainU_gd (hg _), fits_next hs, hT2.sx a3, fun v4 G4 a4 ht4 => ?_⟩
    have hp4 := a4.atS hp3
    have a24 := a3.trans a4
    refine ⟨_, rfl, p, cR K, dx, _, rfl, hp4, W.cl_Replica, W.na_Replica_table, (by show 4 < 1000; decide), ?_⟩
    refine ⟨_, rfl, p, cR K, dx, _, _, rfl, upd_same, W.cl_Replica, W.na_Replica_number, rfl, _, _, rfl, rfl, _, rfl, p, cR K, dx, _, rfl, upd_same, W.cl_Replica, W.na_Replica_number, (by show 4 < 1000; decide), _, rfl, _, _, rfl, rfl, ?_⟩
    rw [upd_upd]
    have a5 : Sx (ReM p l) G4 (upd G4 p (.ins (cR K) dx (flR ((n' : Int) + 1) v4 l))) := Sx.put hp4 (.inl rfl)
    have aa := (a2.trans (Sx.of a24)).trans a5
    have nl4 : NoL (ReM p l) G4 := by
      intro b xs hb z
      rcases z with rfl | rfl
      · rw [hp4] at hb; cases hb
      · rw [a24.atS hl2] at hb; cases hb
    refine ⟨_, _, rfl, s1.trans aa, ⟨⟨dx, v4, _, upd_same, ht4.sxM a5 nl4, app_next hs (hg _)⟩, ⟨_, by rw [upd_ne pl.symm]; exact a24.atS hl2, (hk2.sxM a24 noL_nob).sxM a5 nl4⟩, h2, hn.2⟩, hT1.sx aa⟩
def chD (ga lo : List (List Str)) : PyData := .tuple [.list (ga.map tD), .list (lo.map tD)]
theorem Lu.dp {H : Hp} {v : V} {l : List (List Str)} (h : Lu H v l) : Dp K H v (.list (l.map tD)) := by
  obtain ⟨p, xs, rfl, h1, h2⟩ := h
  exact .lst (.of h1) h2.dp
theorem Ch.dp {H : Hp} {v : V} {ga lo : List (List Str)} (h : Ch H v ga lo) : Dp K H v (chD ga lo) := by
  obtain ⟨p, x, y, rfl, h1, h2, h3⟩ := h
  exact .tup (.of h1) (.cons h2.dp (.cons h3.dp .nil))
theorem chD_plain (ga lo : List (List Str)) : (chD ga lo).plain = true := by simp [chD, PyData.plain, PyData.plainAll, tDs_plain]
theorem tDs_depth (l : List (List Str)) : PyData.depthAll (l.map tD) ≤ 1 := by
  induction l with
  | nil => simp [PyData.depthAll]
  | cons k ks ih =>
    have h2 := tD_depth k
    simp only [List.map_cons, PyData.depthAll]
    omega
theorem chD_depth (ga lo : List (List Str)) : (chD ga lo).depth ≤ 64 := by
  have h1 := tDs_depth ga
  have h2 := tDs_depth lo
  simp only [chD, PyData.depth, PyData.depthAll]
  omega
theorem tDs_self (l : List (List Str)) : PyData.eqvAll (l.map tD) (l.map tD) = true := by
  induction l with
  | nil => simp [PyData.eqvAll]
  | cons k ks ih => simp [PyData.eqvAll, tD_eqv, ih]
theorem chD_self (ga lo : List (List Str)) : PyData.eqv (chD ga lo) (chD ga lo) = true := by simp [chD, PyData.eqv, PyData.eqvAll, tDs_self]
def sp_Replica_receive (K : PySem.W.Frag) : Sp := fun vs H Q _ => ∃ (B : Nat) (T : Nat → List (List Str)) (p l n k : Nat) (v : V), vs = [.ref p, v] ∧ ReAt (cR K) B T H p l n ∧ (∀ j, Gd (T j)) ∧ EntryAt H v k (chG T k) (chL T k) ∧ 1 ≤ k ∧ k < B ∧ Tabs K H ∧ ∀ v H' n', Sx (ReM p l) H H' → ReAt (cR K) B T H' p l n' → Q v H'
theorem ok_Replica_receive (W : Wd K mg base) : FnOk P w K mg base CX0 5 (A_Replica_receive K) (F_Replica_receive K) ["self", "entry"] (sp_Replica_receive K) := by
  refine W.fu_Replica_receive.ok sc_Replica_receive (fun vs H Q E h => by obtain ⟨_, _, _, _, _, _, _, rfl, _⟩ := h; rfl) fun cdv A outer s H vs Q E hr h => ?_
  obtain ⟨B, T, p, l, n, k, v, rfl, hR, hg, ⟨b, gv, lv, rfl, hb, hgv, hlv⟩, hk1, hk, hT, hQ⟩ := h
  refine ⟨_, PSs.nox (pss_cons (ps_asg (pv 1) (pg_tup rfl (pgs_cons (pg_name (i := 2) sc_Replica_receive.nd rfl (by first | exact Or.inl rfl | exact Or.inr rfl)) (pgs_cons (pg_name (i := 3) sc_Replica_receive.nd rfl (by first | exact Or.inl rfl | exact Or.inr rfl)) (pgs_cons (pg_name (i := 4) sc_Replica_receive.nd rfl (by first | exact Or.inl rfl | exact Or.inr rfl)) (pgs_cons (pg_name (i := 5) sc_Replica_receive.nd rfl (by first | exact Or.inl rfl | exact Or.inr rfl)) pgs_nil))))))
      (pss_cons (ps_set (i := 6) sc_Replica_receive.nd rfl (by first | exact Or.inl rfl | exact Or.inr rfl) (pe_tup (pa_cons (pe_callTy call_list_of (by rfl) W.fr_list (by decide +kernel) (pa_cons (pv 4) pa_nil)) (pa_cons (pe_callTy call_list_of (by rfl) W.fr_list (by decide +kernel) (pa_cons (pv 5) pa_nil)) pa_nil))))
      (pss_cons (ps_if (pt_cmpR op_ne (pv 2) (pe_fld (pv 0) rfl) (nomark _)) (pss_one ps_never) pss_nil)
      (pss_cons (ps_if (PW.pt (pw_or (pt_cmpR op_le (pv 3) (pe_fld (pv 0) rfl) (nomark _)) (pw_or1 (pt_cmpR (op_eqP hr.units) (pe_dget1 (hu_of hr) (pe_fld (pv 0) rfl) (pv 3) ⟨by rfl, by rfl, by rfl, by rfl⟩) (pv 6) (nomark _))))) (pss_one (ps_ret pe_int)) pss_nil)
      (pss_cons (ps_expr (pe_meth (pv 0) W.cl_Replica W.mt_Replica_check_entry (ok_Replica_check_entry W) (hr.mono (by decide)) W.bd_Replica_check_entry .nil pass0 (pa_cons (pv 3) (pa_cons (pv 6) pa_nil))))
      (pss_cons (ps_dput (hu_of hr) (pe_fld (pv 0) rfl) (pv 3) (pv 6) rfl)
      (pss_one (ps_ret (pe_meth0 (pv 0) W.cl_Replica W.mt_Replica_take_waiting (ok_Replica_take_waiting W) (hr.mono (by decide)) W.bd_Replica_take_waiting .nil pass0))))))))), ?_⟩
  have sz : sizeLine = 16777216 := sizeLine_eq
  obtain ⟨ag, xs, rfl, hag, hxs⟩ := hgv
  obtain ⟨al, ys, rfl, hal, hys⟩ := hlv
  refine ⟨_, rfl, b, _, rfl, .of hb, rfl, _, _, rfl, _, _, rfl, _, _, rfl, _, _, rfl, rfl, ?_⟩
  refine ⟨_, rfl, ag, xs, rfl, .inl (.of hag), fun l1 hl1 => ?_⟩
  have a1 : Sm H (upd H l1 (.lst xs)) := Sx.new hl1
  refine ⟨_, rfl, al, ys, rfl, .inl (.of (a1.atS hal)), fun l2 hl2 => ⟨by show 2 ≤ sizeLine; omega, fun c hc => ?_⟩⟩
  have a2 := a1.trans (Sx.new (M := Nob) (o := .lst ys) hl2)
  have a3 := a2.trans (Sx.new (M := Nob) (o := .tup [.ref l1, .ref l2]) hc)
  have hch : Ch (upd (upd (upd H l1 (.lst xs)) l2 (.lst ys)) c (.tup [.ref l1, .ref l2])) (.ref c) (chG T k) (chL T k) := by
    refine ⟨c, _, _, rfl, upd_same, ⟨l1, xs, rfl, ?_, hxs.sx a3⟩, ⟨l2, ys, rfl, ?_, hys.sx a3⟩⟩
    · have q1 : upd H l1 (.lst xs) l1 = some (.lst xs) := upd_same
      have q2 := (Sx.new (M := Nob) (o := .lst ys) hl2).atS q1
      exact (Sx.new (M := Nob) (o := .tup [.ref l1, .ref l2]) hc).atS q2
    · exact (Sx.new (M := Nob) (o := .tup [.ref l1, .ref l2]) hc).atS (b := l2) (o := .lst ys) upd_same
  generalize upd (upd (upd H l1 (.lst xs)) l2 (.lst ys)) c (.tup [.ref l1, .ref l2]) = G at a3 hch
  have hR3 := hR.sx a3
  have hT3 := hT.sx a3
  obtain ⟨⟨dx, vt, tb, hp, ht, hs⟩, ⟨kvs, hl, hk2⟩, hn⟩ := id hR3
  have pl : p ≠ l := ne_of hp hl fun z => nomatch z
  refine ⟨_, rfl, _, rfl, p, cR K, dx, _, _, rfl, hp, W.cl_Replica, W.na_Replica_name, rfl, rfl, _, rfl, ?_⟩
  rw [show (!decide (V.str "main" = V.str "main")) = false by simp]
  refine iteF ⟨_, rfl, _, rfl, p, cR K, dx, _, _, rfl, hp, W.cl_Replica, W.na_Replica_number, rfl, _, _, rfl, rfl, _, rfl, chn (fun q1 => ?_) fun q1 => ?_⟩
  · exact hQ _ G n (Sx.of a3) hR3
  have q1' : ¬ ((k : Int) ≤ (n : Int)) := of_decide_eq_false q1
  have hnk : n < k := by omega
  refine ⟨_, rfl, p, cR K, dx, _, _, rfl, hp, W.cl_Replica, W.na_Replica_later, rfl, l, rfl, .inl ⟨kvs, .of hl⟩, _, rfl, _, DGet.k (k := Sum.inl (k : Int)) hl, _, rfl, ?_⟩
  cases hv : valV kvs (Sum.inl (k : Int)) with
  | some vc =>
    obtain ⟨j, ej, h1, h2, h3⟩ := hk2.2 _ (valV_mem hv)
    have ek2 : j = k := by
      have : (Sum.inl (k : Int) : Key) = Sum.inl (j : Int) := ej
      injection this with z
      omega
    subst ek2
    refine ⟨_, _, h3.dp, hch.dp, chD_plain _ _, chD_plain _ _, chD_depth _ _, _, rfl, ?_⟩
    rw [chD_self]
    exact iteT (hQ _ G n (Sx.of a3) hR3)
  | none =>
    refine ⟨.none, _, .non, hch.dp, rfl, chD_plain _ _, by decide, _, rfl, ?_⟩
    refine iteF ⟨_, rfl, p, dx, _, rfl, hp, rfl, _, rfl, _, rfl, B, T, p, l, n, k, _, kvs, rfl, hR3, hl, hv, hnk, by omega, hch, hg, hT3, fun G4 a4 => ?_⟩
    have hp4 := a4.atS hp
    have hl4 := a4.atS hl
    have hR4 := hR3.sx a4
    have nl := noL_re hR4
    have hzl := lat_len hk2
    refine ⟨_, rfl, _, rfl, p, cR K, dx, _, _, rfl, hp4, W.cl_Replica, W.na_Replica_later, rfl, _, rfl, l, _, rfl, DPut.k (k := Sum.inl (k : Int)) hl4 (by omega), ?_⟩
    have a5 : Sx (ReM p l) G4 (upd G4 l (.dK (putK kvs (Sum.inl (k : Int)) (.ref c)))) := Sx.put hl4 (.inr rfl)
    have hp5 : upd G4 l (.dK (putK kvs (Sum.inl (k : Int)) (.ref c))) p = some (.ins (cR K) dx (flR n vt l)) := by rw [upd_ne pl]; exact hp4
    have nl5 : NoL (ReM p l) G4 := nl
    have eput : putK kvs (Sum.inl (k : Int)) (.ref c) = kvs ++ [(Sum.inl (k : Int), .ref c)] := putK_new _ hv
    have hk4 := hk2.sxM a4 noL_nob
    have hnk2 : (Sum.inl (k : Int) : Key) ∉ kvs.map (·.1) := fun z => by
      obtain ⟨kv, h1, h2⟩ := List.mem_map.mp z
      unfold valV at hv
      rw [Option.map_eq_none_iff] at hv
      have := List.find?_eq_none.mp hv kv h1
      simp [h2] at this
    refine ⟨_, rfl, p, dx, _, rfl, hp5, rfl, B, T, p, l, n, rfl, ⟨⟨dx, vt, tb, hp5, (ht.sx a4).sxM a5 nl, hs⟩, ⟨_, upd_same, ?_⟩, hn⟩, hg, (hT3.sx a4).sx a5, fun v H' n' a6 hR6 => hQ v H' n' ((Sx.of (a3.trans a4)).trans (a5.trans a6)) hR6⟩
    rw [eput] at a5 ⊢
    have hch5 := (hch.sx a4).sxM a5 nl
    have hk5 := hk4.sxM a5 nl
    refine ⟨?_, fun kv hkv => ?_⟩
    · rw [List.map_append]
      exact List.nodup_append.mpr ⟨hk2.1, by simp, fun a ha b hb z => by
        have : b = Sum.inl (k : Int) := by simpa using hb
        exact hnk2 (by rw [← this, ← z]; exact ha)⟩
    · rcases List.mem_append.mp hkv with z | z
      · exact hk5.2 kv z
      · have e : kv = (Sum.inl (k : Int), .ref c) := by simpa using z
        rw [e]
        exact ⟨k, rfl, hnk, hk, hch5⟩
end
end K83
namespace K83
open PySem PySem.Spec PyProof.Rows L2 L2.DX GxR
/-! ### a line of the schema, read from the left -/
abbrev fdL (n : Int) (l : Addr) (k : Int) : List (Str × V) := [("number", .int n), ("parts", .ref l), ("at", .int k)]
structure LnAt (C : Addr) (H : Hp) (p l : Addr) (n : Int) (rest : List Str) : Prop where
  ex : ∃ (dx : Addr) (parts : List Str) (k : Nat), H p = some (.ins C dx (fdL n l k)) ∧ H l = some (.lst (parts.map V.str)) ∧ k ≤ parts.length ∧ rest = parts.drop k ∧ parts.length ≤ 1000 ∧ ∀ z ∈ parts, z.length ≤ 1000
def hdS (rest : List Str) : Str := rest.headD ""
section
variable {P : Program} {w : World} {K : PySem.W.Frag} {mg : Str → Option Value} {base : Heap}
abbrev cL (K : PySem.W.Frag) : Addr := He.ga K "Line"
theorem LnAt.sx {C : Addr} {H H1 : Hp} {p l : Addr} {n : Int} {rest : List Str} (a : Sm H H1) (h : LnAt C H p l n rest) : LnAt C H1 p l n rest := by
  obtain ⟨dx, ps, k, h1, h2, h3⟩ := h.ex
  exact ⟨dx, ps, k, a.atS h1, a.atS h2, h3⟩
def sp_Line_init (K : PySem.W.Frag) : Sp := fun vs H Q _ => ∃ (p dx l : Addr) (n : Int) (parts : List Str), vs = [.ref p, .int n, .ref l] ∧ H p = some (.ins (cL K) dx []) ∧ H l = some (.lst (parts.map V.str)) ∧ parts.length ≤ 1000 ∧ (∀ z ∈ parts, z.length ≤ 1000) ∧
  ∀ H', Sx (fun b => b = p) H H' → LnAt (cL K) H' p l n parts → Q .non H'
theorem ok_Line_init (W : Wd K mg base) : FnOk P w K mg base CX0 1 (A_Line_init K) (F_Line_init K) ["self", "number", "parts"] (sp_Line_init K) := by
  refine W.fu_Line_init.ok sc_Line_init (fun vs H Q E h => by obtain ⟨_, _, _, _, _, rfl, _⟩ := h; rfl) fun cdv A outer s H vs Q E hr h => ?_
  obtain ⟨p, dx, l, n, parts, rfl, hp, hl, hz, hzz, hQ⟩ := h
  refine ⟨_, PSs.nox (pss_cons (ps_fld (pv 0) (pv 1) rfl)
      (pss_cons (ps_fld (pv 0) (pv 2) rfl)
      (pss_one (ps_fld (pv 0) pe_int rfl)))), ?_⟩
  have pl : p ≠ l := ne_of hp hl fun z => nomatch z
  refine ⟨_, rfl, _, rfl, p, cL K, dx, _, rfl, hp, W.cl_Line, W.na_Line_number, (by show 0 < 1000; decide), ?_⟩
  refine ⟨_, rfl, _, rfl, p, cL K, dx, _, rfl, upd_same, W.cl_Line, W.na_Line_parts, (by show 1 < 1000; decide), ?_⟩
  refine ⟨_, rfl, p, cL K, dx, _, rfl, upd_same, W.cl_Line, W.na_Line_at, (by show 2 < 1000; decide), ?_⟩
  rw [upd_upd, upd_upd]
  exact hQ _ (Sx.put hp rfl) ⟨dx, parts, 0, upd_same, by rw [upd_ne pl.symm]; exact hl, Nat.zero_le _, rfl, hz, hzz⟩
def sp_Line_next_part (K : PySem.W.Frag) : Sp := fun vs H Q _ => ∃ (p l : Addr) (n : Int) (rest : List Str), vs = [.ref p] ∧ LnAt (cL K) H p l n rest ∧ Q (.str (hdS rest)) H
theorem ok_Line_next_part (W : Wd K mg base) : FnOk P w K mg base CX0 1 (A_Line_next_part K) (F_Line_next_part K) ["self"] (sp_Line_next_part K) := by
  refine W.fu_Line_next_part.ok sc_Line_next_part (fun vs H Q E h => by obtain ⟨_, _, _, _, rfl, _⟩ := h; rfl) fun cdv A outer s H vs Q E hr h => ?_
  obtain ⟨p, l, n, rest, rfl, ⟨dx, parts, k, hp, hl, hk, hrest, hz⟩, hQ⟩ := h
  refine ⟨_, PSs.nox (pss_one (ps_ret (pe_ifExp (pt_cmpR op_lt (pe_fld (pv 0) rfl) (pe_callB call_len_seq (by rfl) W.fr_len PySem.boot_len (pa_cons (pe_fld (pv 0) rfl) pa_nil)) (nomark _)) (pe_ix ix_list (pe_fld (pv 0) rfl) (pe_fld (pv 0) rfl) (fun _ _ => rfl)) pe_str))), ?_⟩
  refine ⟨_, rfl, p, cL K, dx, _, _, rfl, hp, W.cl_Line, W.na_Line_at, rfl, _, rfl, p, cL K, dx, _, _, rfl, hp, W.cl_Line, W.na_Line_parts, rfl, l, _, rfl, .inl (.of hl), _, _, rfl, rfl, _, rfl, chn (fun q1 => ?_) fun q1 => ?_⟩
  · have q1 := of_decide_eq_true q1
    have h1 : k < parts.length := by simpa using q1
    have e : hdS rest = parts[k] := by
      rw [hrest, List.drop_eq_getElem_cons h1]
      rfl
    refine ⟨_, rfl, p, cL K, dx, _, _, rfl, hp, W.cl_Line, W.na_Line_parts, rfl, _, rfl, p, cL K, dx, _, _, rfl, hp, W.cl_Line, W.na_Line_at, rfl, l, _, _, .str parts[k], rfl, rfl, .of hl, atI_nat (by rw [List.getElem?_map, List.getElem?_eq_getElem h1]; rfl), ?_⟩
    rw [e] at hQ
    exact hQ
  · have q1 := of_decide_eq_false q1
    have h1 : k = parts.length := by
      have : ¬ k < parts.length := by simpa using q1
      omega
    have e : hdS rest = "" := by
      rw [hrest, h1, List.drop_length]
      rfl
    rw [e] at hQ
    exact hQ
/-- one part is taken -/
def LnM (p : Addr) : Addr → Prop := fun b => b = p
def sp_Line_take (K : PySem.W.Frag) : Sp := fun vs H Q _ => ∃ (p l : Addr) (n : Int) (x : Str) (r : List Str), vs = [.ref p] ∧ LnAt (cL K) H p l n (x :: r) ∧ ∀ H', Sx (LnM p) H H' → LnAt (cL K) H' p l n r → Q (.str x) H'
theorem ok_Line_take (W : Wd K mg base) : FnOk P w K mg base CX0 2 (A_Line_take K) (F_Line_take K) ["self"] (sp_Line_take K) := by
  refine W.fu_Line_take.ok sc_Line_take (fun vs H Q E h => by obtain ⟨_, _, _, _, _, rfl, _⟩ := h; rfl) fun cdv A outer s H vs Q E hr h => ?_
  obtain ⟨p, l, n, x, r, rfl, hL, hQ⟩ := h
  refine ⟨_, PSs.nox (pss_cons (ps_set (i := 1) sc_Line_take.nd rfl (by first | exact Or.inl rfl | exact Or.inr rfl) (pe_meth0 (pv 0) W.cl_Line W.mt_Line_next_part (ok_Line_next_part W) (hr.mono (by decide)) W.bd_Line_next_part .nil pass0))
      (pss_cons (ps_fldaug (pv 0) pe_int in_add)
      (pss_one (ps_ret (pv 1))))), ?_⟩
  obtain ⟨dx, parts, k, hp, hl, hk, hrest, hz⟩ := hL.ex
  have pl : p ≠ l := ne_of hp hl fun z => nomatch z
  refine ⟨_, rfl, p, dx, _, rfl, hp, rfl, p, l, n, x :: r, rfl, hL, ?_⟩
  refine ⟨_, rfl, p, cL K, dx, _, _, rfl, hp, W.cl_Line, W.na_Line_at, rfl, _, _, rfl, rfl, _, _, hp, (by show 3 < 1000; decide), ?_⟩
  refine ⟨_, rfl, hQ _ (Sx.put hp rfl) ⟨dx, parts, k + 1, upd_same, by rw [upd_ne pl.symm]; exact hl, ?_, ?_, hz⟩⟩
  · have : k < parts.length := by
      have e := congrArg List.length hrest
      rw [List.length_cons, List.length_drop] at e
      omega
    omega
  · have : parts.drop (k + 1) = (parts.drop k).drop 1 := by rw [List.drop_drop]
    rw [this, ← hrest]
    rfl
def sp_Line_expect (K : PySem.W.Frag) : Sp := fun vs H Q _ => ∃ (p l : Addr) (n : Int) (x : Str) (r : List Str), vs = [.ref p, .str x] ∧ LnAt (cL K) H p l n (x :: r) ∧ ∀ H', Sx (LnM p) H H' → LnAt (cL K) H' p l n r → Q .non H'
theorem ok_Line_expect (W : Wd K mg base) : FnOk P w K mg base CX0 3 (A_Line_expect K) (F_Line_expect K) ["self", "part"] (sp_Line_expect K) := by
  refine W.fu_Line_expect.ok sc_Line_expect (fun vs H Q E h => by obtain ⟨_, _, _, _, _, rfl, _⟩ := h; rfl) fun cdv A outer s H vs Q E hr h => ?_
  obtain ⟨p, l, n, x, r, rfl, hL, hQ⟩ := h
  refine ⟨_, PSs.nox (pss_one (ps_if (pt_cmpR op_ne (pe_meth0 (pv 0) W.cl_Line W.mt_Line_take (ok_Line_take W) (hr.mono (by decide)) W.bd_Line_take .nil pass0) (pv 1) (nomark _)) (pss_one ps_never) pss_nil)), ?_⟩
  obtain ⟨dx, parts, k, hp, _⟩ := hL.ex
  refine ⟨_, rfl, p, dx, _, rfl, hp, rfl, p, l, n, x, r, rfl, hL, fun G a hG => ⟨_, rfl, rfl, _, rfl, ?_⟩⟩
  rw [show (!decide (V.str x = V.str x)) = false by simp]
  exact iteF (hQ G a hG)
def sp_Line_name (K : PySem.W.Frag) : Sp := fun vs H Q _ => ∃ (p l : Addr) (n : Int) (x : Str) (r : List Str), vs = [.ref p] ∧ LnAt (cL K) H p l n (x :: r) ∧ isIdent x = true ∧ Tabs K H ∧ ∀ H', Sx (LnM p) H H' → LnAt (cL K) H' p l n r → Q (.str x) H'
theorem ok_Line_name (W : Wd K mg base) : FnOk P w K mg base CX0 5 (A_Line_name K) (F_Line_name K) ["self"] (sp_Line_name K) := by
  refine W.fu_Line_name.ok sc_Line_name (fun vs H Q E h => by obtain ⟨_, _, _, _, _, rfl, _⟩ := h; rfl) fun cdv A outer s H vs Q E hr h => ?_
  obtain ⟨p, l, n, x, r, rfl, hL, hx, hT, hQ⟩ := h
  refine ⟨_, PSs.nox (pss_cons (ps_set (i := 1) sc_Line_name.nd rfl (by first | exact Or.inl rfl | exact Or.inr rfl) (pe_meth0 (pv 0) W.cl_Line W.mt_Line_take (ok_Line_take W) (hr.mono (by decide)) W.bd_Line_take .nil pass0))
      (pss_cons (ps_if (pt_not (pt_val (pe_call (ok_is_identifier W) (hr.mono (by decide)) rfl W.gl_is_identifier (W.fu_is_identifier).kp W.bd_is_identifier .nil pass0 (pa_cons (pv 1) pa_nil)))) (pss_one ps_never) pss_nil)
      (pss_one (ps_ret (pv 1))))), ?_⟩
  obtain ⟨dx, parts, k, hp, hl, hk, hrest, hz, hzz⟩ := hL.ex
  have sz : sizeLine = 16777216 := sizeLine_eq
  have lx : x.length ≤ 1000 := hzz x (by have : x ∈ parts.drop k := by rw [← hrest]; exact List.mem_cons_self
                                         exact List.mem_of_mem_drop this)
  refine ⟨_, rfl, p, dx, _, rfl, hp, rfl, p, l, n, x, r, rfl, hL, fun G a hG => ?_⟩
  refine ⟨_, rfl, x, rfl, by omega, hT.sx a, fun G2 a2 => ⟨_, rfl, ?_⟩⟩
  rw [hx]
  exact iteF ⟨_, rfl, hQ G2 (a.trans (Sx.of a2)) (hG.sx a2)⟩
def sp_Line_accepts (K : PySem.W.Frag) : Sp := fun vs H Q _ => ∃ (p l : Addr) (n : Int) (x : Str) (rest : List Str), vs = [.ref p, .str x] ∧ LnAt (cL K) H p l n rest ∧ x ≠ "" ∧ ((∀ r, rest ≠ x :: r) → Q (.bl false) H) ∧ ∀ r, rest = x :: r → ∀ H', Sx (LnM p) H H' → LnAt (cL K) H' p l n r → Q (.bl true) H'
theorem ok_Line_accepts (W : Wd K mg base) : FnOk P w K mg base CX0 2 (A_Line_accepts K) (F_Line_accepts K) ["self", "part"] (sp_Line_accepts K) := by
  refine W.fu_Line_accepts.ok sc_Line_accepts (fun vs H Q E h => by obtain ⟨_, _, _, _, _, rfl, _⟩ := h; rfl) fun cdv A outer s H vs Q E hr h => ?_
  obtain ⟨p, l, n, x, rest, rfl, hL, hx, hQ0, hQ1⟩ := h
  refine ⟨_, PSs.nox (pss_cons (ps_if (pt_cmpR op_ne (pe_meth0 (pv 0) W.cl_Line W.mt_Line_next_part (ok_Line_next_part W) (hr.mono (by decide)) W.bd_Line_next_part .nil pass0) (pv 1) (nomark _)) (pss_one (ps_ret pe_bl)) pss_nil)
      (pss_cons (ps_fldaug (pv 0) pe_int in_add)
      (pss_one (ps_ret pe_bl)))), ?_⟩
  obtain ⟨dx, parts, k, hp, hl, hk, hrest, hz⟩ := hL.ex
  have pl : p ≠ l := ne_of hp hl fun z => nomatch z
  refine ⟨_, rfl, p, dx, _, rfl, hp, rfl, p, l, n, rest, rfl, hL, _, rfl, rfl, _, rfl, chn (fun q1 => ?_) fun q1 => ?_⟩
  · refine hQ0 fun r e => ?_
    have q1 : ¬ V.str (hdS rest) = V.str x := by simpa using q1
    rw [e] at q1
    exact q1 rfl
  · have q1 : hdS rest = x := by
      have : V.str (hdS rest) = V.str x := by simpa using q1
      injection this
    obtain ⟨r, er⟩ : ∃ r, rest = x :: r := by
      cases rest with
      | nil => exact absurd q1.symm hx
      | cons y r => exact ⟨r, by rw [← q1]; rfl⟩
    refine ⟨_, rfl, p, cL K, dx, _, _, rfl, hp, W.cl_Line, W.na_Line_at, rfl, _, _, rfl, rfl, _, _, hp, (by show 3 < 1000; decide), ?_⟩
    refine hQ1 r er _ (Sx.put hp rfl) ⟨dx, parts, k + 1, upd_same, by rw [upd_ne pl.symm]; exact hl, ?_, ?_, hz⟩
    · have e := congrArg List.length hrest
      rw [er, List.length_cons, List.length_drop] at e
      omega
    · have : parts.drop (k + 1) = (parts.drop k).drop 1 := by rw [List.drop_drop]
      rw [this, ← hrest, er]
      rfl
def sp_Line_finish (K : PySem.W.Frag) : Sp := fun vs H Q _ => ∃ (p l : Addr) (n : Int), vs = [.ref p] ∧ LnAt (cL K) H p l n [] ∧ Q .non H
theorem ok_Line_finish (W : Wd K mg base) : FnOk P w K mg base CX0 1 (A_Line_finish K) (F_Line_finish K) ["self"] (sp_Line_finish K) := by
  refine W.fu_Line_finish.ok sc_Line_finish (fun vs H Q E h => by obtain ⟨_, _, _, rfl, _⟩ := h; rfl) fun cdv A outer s H vs Q E hr h => ?_
  obtain ⟨p, l, n, rfl, hL, hQ⟩ := h
  refine ⟨_, PSs.nox (pss_one (ps_if (pt_cmpR op_lt (pe_fld (pv 0) rfl) (pe_callB call_len_seq (by rfl) W.fr_len PySem.boot_len (pa_cons (pe_fld (pv 0) rfl) pa_nil)) (nomark _)) (pss_one ps_never) pss_nil)), ?_⟩
  obtain ⟨dx, parts, k, hp, hl, hk, hrest, hz⟩ := hL.ex
  have e := congrArg List.length hrest
  rw [List.length_nil, List.length_drop] at e
  refine ⟨_, rfl, p, cL K, dx, _, _, rfl, hp, W.cl_Line, W.na_Line_at, rfl, _, rfl, p, cL K, dx, _, _, rfl, hp, W.cl_Line, W.na_Line_parts, rfl, l, _, rfl, .inl (.of hl), _, _, rfl, rfl, _, rfl, ?_⟩
  rw [show decide ((k : Int) < ((parts.map V.str).length : Int)) = false from decide_eq_false (by rw [List.length_map]; omega)]
  exact iteF hQ
end
end K83
namespace K83
open PySem PySem.Spec PyProof.Rows L2 L2.DX GxR
/-! ### what the line's readers answer -/
/-- an entry of the schema: its name, its kind, its items (subjects or terms) -/
abbrev Sen : Type := Str × Str × List (List Str)
def entD (e : Sen) : PyData := .tuple [.str e.1, .str e.2.1, .tuple (e.2.2.map tD)]
def rdName : List Str → Option (Str × List Str)
  | x :: r => if isIdent x then some (x, r) else none
  | [] => none
def rdSubject (rest : List Str) : Option (List Str × List Str) := match rdName rest with
  | some (k, r) => if hdS r = "#" then (match rdName r.tail with
    | some (n, r2) => some ([k, n], r2)
    | none => none) else some ([k, ""], r)
  | none => none
def rdRest : Nat → List Str → Option (List (List Str) × List Str)
  | 0, _ => none
  | m + 1, rest => if hdS rest = "," then (match rdSubject rest.tail with
    | some (s, r) => (match rdRest m r with
      | some (ss, r2) => some (s :: ss, r2)
      | none => none)
    | none => none) else some ([], rest)
def rdRelation (rest : List Str) : Option Sen := match rdName rest with
  | some (nm, r) => if hdS r = ":" then (match rdSubject r.tail with
    | some (s, r2) => (match rdRest 10 r2 with
      | some (ss, []) => if ss.length ≤ 7 then some (nm, "relation", s :: ss) else none
      | _ => none)
    | none => none) else none
  | none => none
def rdTerm (op : Str) (rest : List Str) : Option (List Str × List Str) := match rdName rest with
  | some (f, r) => if hdS r = "." then (match rdName r.tail with
    | some (n, r2) => some ([op, f, n], r2)
    | none => none) else some ([op, "", f], r)
  | none => none
def isOp (x : Str) : Bool := decide (x = "|") || (decide (x = "&") || decide (x = "-"))
def rdTerms : Nat → List Str → Option (List (List Str) × List Str)
  | 0, _ => none
  | m + 1, rest => if isOp (hdS rest) then (match rdTerm (hdS rest) rest.tail with
    | some (s, r) => (match rdTerms m r with
      | some (ss, r2) => some (s :: ss, r2)
      | none => none)
    | none => none) else some ([], rest)
def rdPermission (rest : List Str) : Option Sen := match rdName rest with
  | some (nm, r) => if hdS r = "=" then (match rdTerm "" r.tail with
    | some (s, r2) => (match rdTerms 20 r2 with
      | some (ss, []) => if ss.length ≤ 15 then some (nm, "permission", s :: ss) else none
      | _ => none)
    | none => none) else none
  | none => none
theorem rdName_some {rest : List Str} {x : Str} {r : List Str} (h : rdName rest = some (x, r)) : rest = x :: r ∧ isIdent x = true := by
  cases rest with
  | nil => cases h
  | cons y t =>
    have h : (if isIdent y = true then some (y, t) else none) = some (x, r) := h
    by_cases c : isIdent y = true
    · rw [if_pos c] at h
      cases h
      exact ⟨rfl, c⟩
    · rw [if_neg c] at h
      cases h
theorem hdS_pos {r : List Str} {x : Str} (hx : x ≠ "") (h : hdS r = x) : r = x :: r.tail := by
  cases r with
  | nil => exact absurd h.symm hx
  | cons y t => rw [← h]; rfl
theorem hdS_neg {r : List Str} {x : Str} (h : hdS r ≠ x) : ∀ t, r ≠ x :: t := fun t e => h (by rw [e]; rfl)
section
variable {P : Program} {w : World} {K : PySem.W.Frag} {mg : Str → Option Value} {base : Heap}
theorem LnAt.meth {C : Addr} {H : Hp} {p l : Addr} {n : Int} {rest : List Str} (h : LnAt C H p l n rest) : ∃ dx fs, H p = some (.ins C dx fs) ∧ fs.lookup ("name" : Str) = none ∧ fs.lookup ("take" : Str) = none ∧ fs.lookup ("accepts" : Str) = none ∧ fs.lookup ("expect" : Str) = none ∧ fs.lookup ("finish" : Str) = none ∧ fs.lookup ("next_part" : Str) = none ∧ fs.lookup ("number" : Str) = some (.int n) := by
  obtain ⟨dx, ps, k, h1, _⟩ := h.ex
  exact ⟨dx, _, h1, rfl, rfl, rfl, rfl, rfl, rfl, rfl⟩
def sp_read_subject (K : PySem.W.Frag) : Sp := fun vs H Q _ => ∃ (p l : Addr) (n : Int) (rest : List Str) (s r : List Str), vs = [.ref p] ∧ LnAt (cL K) H p l n rest ∧ rdSubject rest = some (s, r) ∧ Tabs K H ∧ ∀ v H', Sx (LnM p) H H' → LnAt (cL K) H' p l n r → Tu H' v s → Q v H'
theorem ok_read_subject (W : Wd K mg base) : FnOk P w K mg base CX0 6 (A_read_subject K) (F_read_subject K) ["line"] (sp_read_subject K) := by
  refine W.fu_read_subject.ok sc_read_subject (fun vs H Q E h => by obtain ⟨_, _, _, _, _, _, rfl, _⟩ := h; rfl) fun cdv A outer s H vs Q E hr h => ?_
  obtain ⟨p, l, n, rest, sb, r, rfl, hL, hrd, hT, hQ⟩ := h
  refine ⟨_, PSs.nox (pss_cons (ps_set (i := 1) sc_read_subject.nd rfl (by first | exact Or.inl rfl | exact Or.inr rfl) (pe_meth0 (pv 0) W.cl_Line W.mt_Line_name (ok_Line_name W) (hr.mono (by decide)) W.bd_Line_name .nil pass0))
      (pss_one (ps_ret (pe_tup (pa_cons (pv 1) (pa_cons (pe_ifExp (pt_val (pe_meth (pv 0) W.cl_Line W.mt_Line_accepts (ok_Line_accepts W) (hr.mono (by decide)) W.bd_Line_accepts .nil pass0 (pa_cons pe_str pa_nil))) (pe_meth0 (pv 0) W.cl_Line W.mt_Line_name (ok_Line_name W) (hr.mono (by decide)) W.bd_Line_name .nil pass0) pe_str) pa_nil)))))), ?_⟩
  have sz : sizeLine = 16777216 := sizeLine_eq
  unfold rdSubject at hrd
  cases e1 : rdName rest with
  | none => rw [e1] at hrd; cases hrd
  | some q =>
    obtain ⟨k, r1⟩ := q
    rw [e1] at hrd
    obtain ⟨rfl, hk⟩ := rdName_some e1
    obtain ⟨dx, fs, hp, h1, h2, h3, h4, _⟩ := hL.meth
    refine ⟨_, rfl, p, dx, _, rfl, hp, h1, p, l, n, k, r1, rfl, hL, hk, hT, fun G a hG => ?_⟩
    obtain ⟨dx2, fs2, hp2, g1, g2, g3, _⟩ := hG.meth
    refine ⟨_, rfl, _, rfl, p, dx2, _, rfl, hp2, g3, p, l, n, _, r1, rfl, hG, by decide, fun hno => ⟨_, rfl, ?_⟩, fun r2 er G2 a2 hG2 => ⟨_, rfl, ?_⟩⟩
    · have hd : hdS r1 ≠ "#" := fun z => hno _ (hdS_pos (by decide) z)
      dsimp only at hrd
      rw [if_neg hd] at hrd
      cases hrd
      refine iteF ⟨by show 2 ≤ sizeLine; omega, fun b hb => ?_⟩
      exact hQ _ _ (a.trans (Sx.new hb)) (hG.sx (Sx.new hb)) ⟨b, rfl, upd_same⟩
    · have hd : hdS r1 = "#" := by rw [er]; rfl
      dsimp only at hrd
      rw [if_pos hd, er] at hrd
      cases e2 : rdName r2 with
      | none => rw [show (("#" : Str) :: r2).tail = r2 from rfl, e2] at hrd; cases hrd
      | some q =>
        obtain ⟨nm, r3⟩ := q
        rw [show (("#" : Str) :: r2).tail = r2 from rfl, e2] at hrd
        cases hrd
        obtain ⟨rfl, hnm⟩ := rdName_some e2
        obtain ⟨dx3, fs3, hp3, k1, _⟩ := hG2.meth
        refine iteT ⟨_, rfl, p, dx3, _, rfl, hp3, k1, p, l, n, nm, r, rfl, hG2, hnm, (hT.sx a).sx a2, fun G3 a3 hG3 => ?_⟩
        refine ⟨by show 2 ≤ sizeLine; omega, fun b hb => ?_⟩
        exact hQ _ _ ((a.trans (a2.trans a3)).trans (Sx.new hb)) (hG3.sx (Sx.new hb)) ⟨b, rfl, upd_same⟩
/-- the line and one list that is made here -/
def LnN (p l : Addr) : Addr → Prop := fun b => b = p ∨ b = l
theorem back_new {p l : Addr} {H H1 H2 : Hp} (a : Sx (LnM p) H H1) (b : Sx (LnN p l) H1 H2) (hl : H l = none) : Sx (LnM p) H H2 := Sx.after a b fun c o e m => by
  rcases m with z | z
  · exact z
  · rw [z, hl] at e
    cases e
theorem LnAt.sxM {M : Addr → Prop} {C : Addr} {H H1 : Hp} {p l : Addr} {n : Int} {rest : List Str} (a : Sx M H H1) (m : ¬ M p) (m2 : ¬ M l) (h : LnAt C H p l n rest) : LnAt C H1 p l n rest := by
  obtain ⟨dx, ps, k, h1, h2, h3⟩ := h.ex
  exact ⟨dx, ps, k, a.at h1 m, a.at h2 m2, h3⟩
def sp_read_entry (K : PySem.W.Frag) (f : List Str → Option Sen) : Sp := fun vs H Q _ => ∃ (p l : Addr) (n : Int) (rest : List Str) (e : Sen), vs = [.ref p] ∧ LnAt (cL K) H p l n rest ∧ f rest = some e ∧ Tabs K H ∧ ∀ v H', Sx (LnM p) H H' → LnAt (cL K) H' p l n [] → Dp K H' v (entD e) → Q v H'
theorem dp_ent {H : Hp} {b c : Addr} {nm kd : Str} {xs : List V} {ss : List (List Str)} (hb : H b = some (.tup [.str nm, .str kd, .ref c])) (hc : H c = some (.tup xs)) (ht : Tus H xs ss) : Dp K H (.ref b) (entD (nm, kd, ss)) :=
  .tup (.of hb) (.cons (.str nm) (.cons (.str kd) (.cons (.tup (.of hc) ht.dp) .nil)))
theorem ok_read_relation (W : Wd K mg base) : FnOk P w K mg base CX0 7 (A_read_relation K) (F_read_relation K) ["line"] (sp_read_entry K rdRelation) := by
  refine W.fu_read_relation.ok sc_read_relation (fun vs H Q E h => by obtain ⟨_, _, _, _, _, rfl, _⟩ := h; rfl) fun cdv A outer s H vs Q E hr h => ?_
  obtain ⟨p, l, n, rest, en, rfl, hL, hrd, hT, hQ⟩ := h
  refine ⟨_, PSs.nox (pss_cons (ps_set (i := 1) sc_read_relation.nd rfl (by first | exact Or.inl rfl | exact Or.inr rfl) (pe_meth0 (pv 0) W.cl_Line W.mt_Line_name (ok_Line_name W) (hr.mono (by decide)) W.bd_Line_name .nil pass0))
      (pss_cons (ps_expr (pe_meth (pv 0) W.cl_Line W.mt_Line_expect (ok_Line_expect W) (hr.mono (by decide)) W.bd_Line_expect .nil pass0 (pa_cons pe_str pa_nil)))
      (pss_cons (ps_set (i := 2) sc_read_relation.nd rfl (by first | exact Or.inl rfl | exact Or.inr rfl) (pe_lst (pa_cons (pe_call (ok_read_subject W) (hr.mono (by decide)) rfl W.gl_read_subject (W.fu_read_subject).kp W.bd_read_subject .nil pass0 (pa_cons (pv 0) pa_nil)) pa_nil)))
      (pss_cons (ps_while PassesOwn.never (pt_val (pe_meth (pv 0) W.cl_Line W.mt_Line_accepts (ok_Line_accepts W) (hr.mono (by decide)) W.bd_Line_accepts .nil pass0 (pa_cons pe_str pa_nil))) (pss_one (ps_expr (pe_bm PySem.F.plainAttrs_list PySem.F.slot_list_append PySem.F.type_list_append mt_append (pv 2) (pa_cons (pe_call (ok_read_subject W) (hr.mono (by decide)) rfl W.gl_read_subject (W.fu_read_subject).kp W.bd_read_subject .nil pass0 (pa_cons (pv 0) pa_nil)) pa_nil)))))
      (pss_cons (ps_expr (pe_meth0 (pv 0) W.cl_Line W.mt_Line_finish (ok_Line_finish W) (hr.mono (by decide)) W.bd_Line_finish .nil pass0))
      (pss_cons (ps_if (pt_cmpR op_gt (pe_callB call_len_seq (by rfl) W.fr_len PySem.boot_len (pa_cons (pv 2) pa_nil)) (pe_gint rfl W.in_SUBJECTS_MOST) (nomark _)) (pss_one ps_never) pss_nil)
      (pss_one (ps_ret (pe_tup (pa_cons (pv 1) (pa_cons pe_str (pa_cons (pe_callTy call_tuple_of (by rfl) W.fr_tuple (by decide +kernel) (pa_cons (pv 2) pa_nil)) pa_nil)))))))))))), ?_⟩
  have sz : sizeLine = 16777216 := sizeLine_eq
  unfold rdRelation at hrd
  cases e1 : rdName rest with
  | none => rw [e1] at hrd; cases hrd
  | some q =>
    obtain ⟨nm, r1⟩ := q
    rw [e1] at hrd
    dsimp only at hrd
    obtain ⟨rfl, hk⟩ := rdName_some e1
    by_cases hc : hdS r1 = ":"
    rotate_left
    · rw [if_neg hc] at hrd; cases hrd
    rw [if_pos hc] at hrd
    have er1 := hdS_pos (by decide) hc
    cases e2 : rdSubject r1.tail with
    | none => rw [e2] at hrd; cases hrd
    | some q2 =>
      obtain ⟨sb, r2⟩ := q2
      rw [e2] at hrd
      dsimp only at hrd
      cases e3 : rdRest 10 r2 with
      | none => rw [e3] at hrd; cases hrd
      | some q3 =>
        obtain ⟨ss, r3⟩ := q3
        rw [e3] at hrd
        cases r3 with
        | cons _ _ => cases hrd
        | nil =>
          dsimp only at hrd
          by_cases hlen : ss.length ≤ 7
          rotate_left
          · rw [if_neg hlen] at hrd; cases hrd
          rw [if_pos hlen] at hrd
          cases hrd
          obtain ⟨dx, fs, hp, h1, _⟩ := hL.meth
          refine ⟨_, rfl, p, dx, _, rfl, hp, h1, p, l, n, nm, r1, rfl, hL, hk, hT, fun G1 a1 hG1 => ?_⟩
          obtain ⟨dx1, fs1, hp1, _, _, _, h4, _⟩ := hG1.meth
          rw [er1] at hG1
          refine ⟨_, rfl, p, dx1, _, rfl, hp1, h4, p, l, n, ":", r1.tail, rfl, hG1, fun G2 a2 hG2 => ?_⟩
          have a12 := a1.trans a2
          refine ⟨_, rfl, p, l, n, r1.tail, sb, r2, rfl, hG2, e2, hT.sx a12, fun v G3 a3 hG3 hv => ?_⟩
          have a13 := a12.trans a3
          refine ⟨by show 1 ≤ sizeLine; omega, fun ls hls => ?_⟩
          have a4 := a13.trans (Sx.new (M := LnM p) (o := .lst [v]) hls)
          have hls4 : upd G3 ls (.lst [v]) ls = some (.lst [v]) := upd_same
          have hv4 := hv.sx (Sx.new (M := Nob) (o := .lst [v]) hls)
          have hG4 := hG3.sx (Sx.new (M := Nob) (o := .lst [v]) hls)
          have hl0 : H ls = none := a13.old ls hls
          have lnl : l ≠ ls := by
            obtain ⟨_, _, _, _, z, _⟩ := hG3.ex
            exact ne_of_none z hls
          generalize upd G3 ls (.lst [v]) = G4 at a4 hls4 hv4 hG4
          refine ⟨fun m τ G => ∃ (xs : List V) (dn tl : List (List Str)) (rs : List Str), τ = [some (.ref p), some (.str nm), some (.ref ls)] ∧ Sx (LnN p ls) G4 G ∧ LnAt (cL K) G p l n rs ∧ G ls = some (.lst xs) ∧ Tus G xs dn ∧ rdRest m rs = some (tl, []) ∧ dn ++ tl = sb :: ss, ⟨10, [v], [sb], ss, r2, rfl, Sx.refl _, hG4, hls4, .cons hv4 .nil, e3, rfl⟩, ?_⟩
          rintro m τ G ⟨xs, dn, tl, rs, rfl, aG, hG, hxs, htu, hrr, hdn⟩
          obtain ⟨dx5, fs5, hp5, _, _, h53, _⟩ := hG.meth
          have pls : p ≠ ls := ne_of hp5 hxs fun z => nomatch z
          cases m with
          | zero => cases hrr
          | succ m =>
            have hrr : (if hdS rs = "," then (match rdSubject rs.tail with
              | some (s, r) => (match rdRest m r with
                | some (ss, r2) => some (s :: ss, r2)
                | none => none)
              | none => none) else some ([], rs)) = some (tl, []) := hrr
            refine ⟨_, rfl, p, dx5, _, rfl, hp5, h53, p, l, n, _, rs, rfl, hG, by decide, fun hno => ⟨_, rfl, ?_⟩, fun r4 er4 G5 a5 hG5 => ⟨_, rfl, ?_⟩⟩
            · rw [if_neg fun z => hno _ (hdS_pos (by decide) z)] at hrr
              cases hrr
              rw [List.append_nil] at hdn
              subst hdn
              obtain ⟨dx6, fs6, hp6, _, _, _, _, h66, _⟩ := hG.meth
              have lxs : xs.length = ss.length + 1 := Paired.length htu
              refine iteF ⟨_, rfl, p, dx6, _, rfl, hp6, h66, p, l, n, rfl, hG, ?_⟩
              refine ⟨_, rfl, ls, xs, rfl, .inl (.of hxs), _, _, rfl, rfl, _, rfl, ?_⟩
              rw [show decide ((8 : Int) < (xs.length : Int)) = false from decide_eq_false (by omega)]
              refine iteF ⟨_, rfl, _, rfl, ls, xs, rfl, .inl ⟨.of hxs, fun c hc2 => ⟨by show 3 ≤ sizeLine; omega, fun b hb => ?_⟩⟩⟩
              have b1 : Sm G (upd G c (.tup xs)) := Sx.new hc2
              have b2 := b1.trans (Sx.new (M := Nob) (o := .tup [.str nm, .str "relation", .ref c]) hb)
              refine hQ _ _ ((back_new a4 aG hl0).trans (Sx.of b2)) (hG.sx b2) (dp_ent upd_same ?_ (htu.sx b2))
              exact (Sx.new (M := Nob) (o := .tup [.str nm, .str "relation", .ref c]) hb).tups _ _ upd_same
            · have hd : hdS rs = "," := by rw [er4]; rfl
              rw [if_pos hd, er4] at hrr
              rw [show (("," : Str) :: r4).tail = r4 from rfl] at hrr
              cases e5 : rdSubject r4 with
              | none => rw [e5] at hrr; cases hrr
              | some q5 =>
                obtain ⟨s5, r5⟩ := q5
                rw [e5] at hrr
                dsimp only at hrr
                cases e6 : rdRest m r5 with
                | none => rw [e6] at hrr; cases hrr
                | some q6 =>
                  obtain ⟨ss6, r6⟩ := q6
                  rw [e6] at hrr
                  cases hrr
                  refine iteT ⟨fun τ' G' => ∃ (xs : List V) (dn tl : List (List Str)) (rs : List Str), τ' = [some (.ref p), some (.str nm), some (.ref ls)] ∧ Sx (LnN p ls) G4 G' ∧ LnAt (cL K) G' p l n rs ∧ G' ls = some (.lst xs) ∧ Tus G' xs dn ∧ rdRest m rs = some (tl, []) ∧ dn ++ tl = sb :: ss, fun τ' G' ⟨xs, dn, tl, rs, h⟩ => ⟨m, by omega, xs, dn, tl, rs, h⟩, ?_⟩
                  have hls5 := a5.at hxs pls.symm
                  refine ⟨_, rfl, .inl ⟨rfl, xs, .of hls5⟩, _, rfl, p, l, n, r4, s5, r5, rfl, hG5, e5, (((hT.sx a4).sx aG).sx a5), fun v6 G6 a6 hG6 hv6 => ?_⟩
                  have hls6 := a6.at hls5 pls.symm
                  have lxs : xs.length = dn.length := Paired.length htu
                  have ldn := congrArg List.length hdn
                  rw [List.length_append, List.length_cons] at ldn
                  refine ⟨ls, xs, _, rfl, rfl, hls6, by rw [List.length_cons] at ldn; omega, ?_⟩
                  have a7 : Sx (LnN p ls) G6 (upd G6 ls (.lst (xs ++ [v6]))) := Sx.put hls6 (.inr rfl)
                  have a57 := ((a5.trans a6).mono (M' := LnN p ls) fun _ z => .inl z).trans a7
                  have a7' : Sx (fun b => b = ls) G6 (upd G6 ls (.lst (xs ++ [v6]))) := Sx.put hls6 rfl
                  refine ⟨xs ++ [v6], dn ++ [s5], ss6, r5, rfl, aG.trans a57, hG6.sxM a7' pls lnl, upd_same, pr_snoc (htu.sx a57) (hv6.sx a7), e6, by rw [List.append_assoc]; exact hdn⟩
end
end K83
namespace K83
open PySem PySem.Spec PyProof.Rows L2 L2.DX GxR
section
variable {P : Program} {w : World} {K : PySem.W.Frag} {mg : Str → Option Value} {base : Heap}
theorem Wd.more (W : Wd K mg base) {i : Nat} {b : Bool} (h : (exL K)[i]? = some b) : b = true := by
  have e := W.e
  unfold ex at e
  exact List.all_eq_true.mp e b (List.mem_of_getElem? h)
theorem Wd.gl_OPERATORS (W : Wd K mg base) : mg "OPERATORS" = some (.ref (He.ga K "OPERATORS")) := PySem.W.mg_of W.kin W.ns (He.eqO_ok (W.more (i := 20) rfl))
theorem Wd.ops (W : Wd K mg base) (H : Hp) : SqT K H (He.ga K "OPERATORS") [.str "|", .str "&", .str "-"] := He.tupB_ok (W.more (i := 0) rfl) H
theorem inV_op (x : Str) : inV (.str x) [.str "|", .str "&", .str "-"] = isOp x := by
  show ((("|" : Str) == x) || ((("&" : Str) == x) || ((("-" : Str) == x) || false))) = isOp x
  unfold isOp
  have h : ∀ y : Str, (y == x) = decide (x = y) := fun y => by
    rw [Bool.eq_iff_iff, beq_iff_eq, decide_eq_true_eq]
    exact eq_comm
  rw [h, h, h, Bool.or_false]
def sp_read_term (K : PySem.W.Frag) : Sp := fun vs H Q _ => ∃ (p l : Addr) (n : Int) (op : Str) (rest : List Str) (s r : List Str), vs = [.ref p, .str op] ∧ LnAt (cL K) H p l n rest ∧ rdTerm op rest = some (s, r) ∧ Tabs K H ∧ ∀ v H', Sx (LnM p) H H' → LnAt (cL K) H' p l n r → Tu H' v s → Q v H'
theorem ok_read_term (W : Wd K mg base) : FnOk P w K mg base CX0 6 (A_read_term K) (F_read_term K) ["line", "operator"] (sp_read_term K) := by
  refine W.fu_read_term.ok sc_read_term (fun vs H Q E h => by obtain ⟨_, _, _, _, _, _, _, rfl, _⟩ := h; rfl) fun cdv A outer s H vs Q E hr h => ?_
  obtain ⟨p, l, n, op, rest, sb, r, rfl, hL, hrd, hT, hQ⟩ := h
  refine ⟨_, PSs.nox (pss_cons (ps_set (i := 2) sc_read_term.nd rfl (by first | exact Or.inl rfl | exact Or.inr rfl) (pe_meth0 (pv 0) W.cl_Line W.mt_Line_name (ok_Line_name W) (hr.mono (by decide)) W.bd_Line_name .nil pass0))
      (pss_cons (ps_if (pt_val (pe_meth (pv 0) W.cl_Line W.mt_Line_accepts (ok_Line_accepts W) (hr.mono (by decide)) W.bd_Line_accepts .nil pass0 (pa_cons pe_str pa_nil))) (pss_one (ps_ret (pe_tup (pa_cons (pv 1) (pa_cons (pv 2) (pa_cons (pe_meth0 (pv 0) W.cl_Line W.mt_Line_name (ok_Line_name W) (hr.mono (by decide)) W.bd_Line_name .nil pass0) pa_nil)))))) pss_nil)
      (pss_one (ps_ret (pe_tup (pa_cons (pv 1) (pa_cons pe_str (pa_cons (pv 2) pa_nil)))))))), ?_⟩
  have sz : sizeLine = 16777216 := sizeLine_eq
  unfold rdTerm at hrd
  cases e1 : rdName rest with
  | none => rw [e1] at hrd; cases hrd
  | some q =>
    obtain ⟨k, r1⟩ := q
    rw [e1] at hrd
    obtain ⟨rfl, hk⟩ := rdName_some e1
    obtain ⟨dx, fs, hp, h1, h2, h3, h4, _⟩ := hL.meth
    refine ⟨_, rfl, p, dx, _, rfl, hp, h1, p, l, n, k, r1, rfl, hL, hk, hT, fun G a hG => ?_⟩
    obtain ⟨dx2, fs2, hp2, g1, g2, g3, _⟩ := hG.meth
    refine ⟨_, rfl, p, dx2, _, rfl, hp2, g3, p, l, n, _, r1, rfl, hG, by decide, fun hno => ⟨_, rfl, ?_⟩, fun r2 er G2 a2 hG2 => ⟨_, rfl, ?_⟩⟩
    · dsimp only at hrd
      rw [if_neg fun z => hno _ (hdS_pos (by decide) z)] at hrd
      cases hrd
      refine iteF ⟨_, rfl, _, rfl, by show 3 ≤ sizeLine; omega, fun b hb => ?_⟩
      exact hQ _ _ (a.trans (Sx.new hb)) (hG.sx (Sx.new hb)) ⟨b, rfl, upd_same⟩
    · have hd : hdS r1 = "." := by rw [er]; rfl
      dsimp only at hrd
      rw [if_pos hd, er] at hrd
      rw [show (("." : Str) :: r2).tail = r2 from rfl] at hrd
      cases e2 : rdName r2 with
      | none => rw [e2] at hrd; cases hrd
      | some q =>
        obtain ⟨nm, r3⟩ := q
        rw [e2] at hrd
        cases hrd
        obtain ⟨rfl, hnm⟩ := rdName_some e2
        obtain ⟨dx3, fs3, hp3, k1, _⟩ := hG2.meth
        refine iteT ⟨_, rfl, _, rfl, _, rfl, p, dx3, _, rfl, hp3, k1, p, l, n, nm, r, rfl, hG2, hnm, (hT.sx a).sx a2, fun G3 a3 hG3 => ?_⟩
        refine ⟨by show 3 ≤ sizeLine; omega, fun b hb => ?_⟩
        exact hQ _ _ ((a.trans (a2.trans a3)).trans (Sx.new hb)) (hG3.sx (Sx.new hb)) ⟨b, rfl, upd_same⟩
theorem ok_read_permission (W : Wd K mg base) : FnOk P w K mg base CX0 7 (A_read_permission K) (F_read_permission K) ["line"] (sp_read_entry K rdPermission) := by
  refine W.fu_read_permission.ok sc_read_permission (fun vs H Q E h => by obtain ⟨_, _, _, _, _, rfl, _⟩ := h; rfl) fun cdv A outer s H vs Q E hr h => ?_
  obtain ⟨p, l, n, rest, en, rfl, hL, hrd, hT, hQ⟩ := h
  refine ⟨_, PSs.nox (pss_cons (ps_set (i := 1) sc_read_permission.nd rfl (by first | exact Or.inl rfl | exact Or.inr rfl) (pe_meth0 (pv 0) W.cl_Line W.mt_Line_name (ok_Line_name W) (hr.mono (by decide)) W.bd_Line_name .nil pass0))
      (pss_cons (ps_expr (pe_meth (pv 0) W.cl_Line W.mt_Line_expect (ok_Line_expect W) (hr.mono (by decide)) W.bd_Line_expect .nil pass0 (pa_cons pe_str pa_nil)))
      (pss_cons (ps_set (i := 2) sc_read_permission.nd rfl (by first | exact Or.inl rfl | exact Or.inr rfl) (pe_lst (pa_cons (pe_call (ok_read_term W) (hr.mono (by decide)) rfl W.gl_read_term (W.fu_read_term).kp W.bd_read_term .nil pass0 (pa_cons (pv 0) (pa_cons pe_str pa_nil))) pa_nil)))
      (pss_cons (ps_while PassesOwn.never (pt_cmpR op_in_seq (pe_meth0 (pv 0) W.cl_Line W.mt_Line_next_part (ok_Line_next_part W) (hr.mono (by decide)) W.bd_Line_next_part .nil pass0) (pe_glob (v := .ref (He.ga K "OPERATORS")) rfl W.gl_OPERATORS rfl) (by rfl)) (pss_one (ps_expr (pe_bm PySem.F.plainAttrs_list PySem.F.slot_list_append PySem.F.type_list_append mt_append (pv 2) (pa_cons (pe_call (ok_read_term W) (hr.mono (by decide)) rfl W.gl_read_term (W.fu_read_term).kp W.bd_read_term .nil pass0 (pa_cons (pv 0) (pa_cons (pe_meth0 (pv 0) W.cl_Line W.mt_Line_take (ok_Line_take W) (hr.mono (by decide)) W.bd_Line_take .nil pass0) pa_nil))) pa_nil)))))
      (pss_cons (ps_expr (pe_meth0 (pv 0) W.cl_Line W.mt_Line_finish (ok_Line_finish W) (hr.mono (by decide)) W.bd_Line_finish .nil pass0))
      (pss_cons (ps_if (pt_cmpR op_gt (pe_callB call_len_seq (by rfl) W.fr_len PySem.boot_len (pa_cons (pv 2) pa_nil)) (pe_gint rfl W.in_TERMS_MOST) (nomark _)) (pss_one ps_never) pss_nil)
      (pss_one (ps_ret (pe_tup (pa_cons (pv 1) (pa_cons pe_str (pa_cons (pe_callTy call_tuple_of (by rfl) W.fr_tuple (by decide +kernel) (pa_cons (pv 2) pa_nil)) pa_nil)))))))))))), ?_⟩
  have sz : sizeLine = 16777216 := sizeLine_eq
  unfold rdPermission at hrd
  cases e1 : rdName rest with
  | none => rw [e1] at hrd; cases hrd
  | some q =>
    obtain ⟨nm, r1⟩ := q
    rw [e1] at hrd
    dsimp only at hrd
    obtain ⟨rfl, hk⟩ := rdName_some e1
    by_cases hc : hdS r1 = "="
    rotate_left
    · rw [if_neg hc] at hrd; cases hrd
    rw [if_pos hc] at hrd
    have er1 := hdS_pos (by decide) hc
    cases e2 : rdTerm "" r1.tail with
    | none => rw [e2] at hrd; cases hrd
    | some q2 =>
      obtain ⟨sb, r2⟩ := q2
      rw [e2] at hrd
      dsimp only at hrd
      cases e3 : rdTerms 20 r2 with
      | none => rw [e3] at hrd; cases hrd
      | some q3 =>
        obtain ⟨ss, r3⟩ := q3
        rw [e3] at hrd
        cases r3 with
        | cons _ _ => cases hrd
        | nil =>
          dsimp only at hrd
          by_cases hlen : ss.length ≤ 15
          rotate_left
          · rw [if_neg hlen] at hrd; cases hrd
          rw [if_pos hlen] at hrd
          cases hrd
          obtain ⟨dx, fs, hp, h1, _⟩ := hL.meth
          refine ⟨_, rfl, p, dx, _, rfl, hp, h1, p, l, n, nm, r1, rfl, hL, hk, hT, fun G1 a1 hG1 => ?_⟩
          obtain ⟨dx1, fs1, hp1, _, _, _, h4, _⟩ := hG1.meth
          rw [er1] at hG1
          refine ⟨_, rfl, p, dx1, _, rfl, hp1, h4, p, l, n, "=", r1.tail, rfl, hG1, fun G2 a2 hG2 => ?_⟩
          have a12 := a1.trans a2
          refine ⟨_, rfl, p, l, n, "", r1.tail, sb, r2, rfl, hG2, e2, hT.sx a12, fun v G3 a3 hG3 hv => ?_⟩
          have a13 := a12.trans a3
          refine ⟨by show 1 ≤ sizeLine; omega, fun ls hls => ?_⟩
          have a4 := a13.trans (Sx.new (M := LnM p) (o := .lst [v]) hls)
          have hls4 : upd G3 ls (.lst [v]) ls = some (.lst [v]) := upd_same
          have hv4 := hv.sx (Sx.new (M := Nob) (o := .lst [v]) hls)
          have hG4 := hG3.sx (Sx.new (M := Nob) (o := .lst [v]) hls)
          have hl0 : H ls = none := a13.old ls hls
          have lnl : l ≠ ls := by
            obtain ⟨_, _, _, _, z, _⟩ := hG3.ex
            exact ne_of_none z hls
          generalize upd G3 ls (.lst [v]) = G4 at a4 hls4 hv4 hG4
          refine ⟨fun m τ G => ∃ (xs : List V) (dn tl : List (List Str)) (rs : List Str), τ = [some (.ref p), some (.str nm), some (.ref ls)] ∧ Sx (LnN p ls) G4 G ∧ LnAt (cL K) G p l n rs ∧ G ls = some (.lst xs) ∧ Tus G xs dn ∧ rdTerms m rs = some (tl, []) ∧ dn ++ tl = sb :: ss, ⟨20, [v], [sb], ss, r2, rfl, Sx.refl _, hG4, hls4, .cons hv4 .nil, e3, rfl⟩, ?_⟩
          rintro m τ G ⟨xs, dn, tl, rs, rfl, aG, hG, hxs, htu, hrr, hdn⟩
          obtain ⟨dx5, fs5, hp5, _, h52, _, _, _, h57, _⟩ := hG.meth
          have pls : p ≠ ls := ne_of hp5 hxs fun z => nomatch z
          cases m with
          | zero => cases hrr
          | succ m =>
            have hrr : (if isOp (hdS rs) = true then (match rdTerm (hdS rs) rs.tail with
              | some (s, r) => (match rdTerms m r with
                | some (ss, r2) => some (s :: ss, r2)
                | none => none)
              | none => none) else some ([], rs)) = some (tl, []) := hrr
            refine ⟨_, rfl, p, dx5, _, rfl, hp5, h57, p, l, n, rs, rfl, hG, He.ga K "OPERATORS", [.str "|", .str "&", .str "-"], rfl, .inr (W.ops G), rfl, rfl, _, rfl, ?_⟩
            show if inV (V.str (hdS rs)) [.str "|", .str "&", .str "-"] = true then _ else _
            rw [inV_op]
            refine chn (fun hop => ?_) fun hop => ?_
            rotate_left
            · rw [if_neg (by rw [hop]; decide)] at hrr
              cases hrr
              rw [List.append_nil] at hdn
              subst hdn
              obtain ⟨dx6, fs6, hp6, _, _, _, _, h66, _⟩ := hG.meth
              have lxs : xs.length = ss.length + 1 := Paired.length htu
              refine ⟨_, rfl, p, dx6, _, rfl, hp6, h66, p, l, n, rfl, hG, ?_⟩
              refine ⟨_, rfl, ls, xs, rfl, .inl (.of hxs), _, _, rfl, rfl, _, rfl, ?_⟩
              rw [show decide ((16 : Int) < (xs.length : Int)) = false from decide_eq_false (by omega)]
              refine iteF ⟨_, rfl, _, rfl, ls, xs, rfl, .inl ⟨.of hxs, fun c hc2 => ⟨by show 3 ≤ sizeLine; omega, fun b hb => ?_⟩⟩⟩
              have b1 : Sm G (upd G c (.tup xs)) := Sx.new hc2
              have b2 := b1.trans (Sx.new (M := Nob) (o := .tup [.str nm, .str "permission", .ref c]) hb)
              refine hQ _ _ ((back_new a4 aG hl0).trans (Sx.of b2)) (hG.sx b2) (dp_ent upd_same ?_ (htu.sx b2))
              exact (Sx.new (M := Nob) (o := .tup [.str nm, .str "permission", .ref c]) hb).tups _ _ upd_same
            · rw [if_pos hop] at hrr
              cases e5 : rdTerm (hdS rs) rs.tail with
              | none => rw [e5] at hrr; cases hrr
              | some q5 =>
                obtain ⟨s5, r5⟩ := q5
                rw [e5] at hrr
                dsimp only at hrr
                cases e6 : rdTerms m r5 with
                | none => rw [e6] at hrr; cases hrr
                | some q6 =>
                  obtain ⟨ss6, r6⟩ := q6
                  rw [e6] at hrr
                  cases hrr
                  refine ⟨fun τ' G' => ∃ (xs : List V) (dn tl : List (List Str)) (rs : List Str), τ' = [some (.ref p), some (.str nm), some (.ref ls)] ∧ Sx (LnN p ls) G4 G' ∧ LnAt (cL K) G' p l n rs ∧ G' ls = some (.lst xs) ∧ Tus G' xs dn ∧ rdTerms m rs = some (tl, []) ∧ dn ++ tl = sb :: ss, fun τ' G' ⟨xs, dn, tl, rs, h⟩ => ⟨m, by omega, xs, dn, tl, rs, h⟩, ?_⟩
                  have ers : rs = hdS rs :: rs.tail := by
                    cases rs with
                    | nil => exact absurd (show isOp "" = true from hop) (by decide)
                    | cons y t => rfl
                  rw [ers] at hG
                  refine ⟨_, rfl, .inl ⟨rfl, xs, .of hxs⟩, _, rfl, _, rfl, p, dx5, _, rfl, hp5, h52, p, l, n, hdS rs, rs.tail, rfl, hG, fun G5 a5 hG5 => ?_⟩
                  have hls5 := a5.at hxs pls.symm
                  refine ⟨p, l, n, hdS rs, rs.tail, s5, r5, rfl, hG5, e5, (((hT.sx a4).sx aG).sx a5), fun v6 G6 a6 hG6 hv6 => ?_⟩
                  have hls6 := a6.at hls5 pls.symm
                  have lxs : xs.length = dn.length := Paired.length htu
                  have ldn := congrArg List.length hdn
                  rw [List.length_append, List.length_cons] at ldn
                  refine ⟨ls, xs, _, rfl, rfl, hls6, by rw [List.length_cons] at ldn; omega, ?_⟩
                  have a7 : Sx (LnN p ls) G6 (upd G6 ls (.lst (xs ++ [v6]))) := Sx.put hls6 (.inr rfl)
                  have a57 := ((a5.trans a6).mono (M' := LnN p ls) fun _ z => .inl z).trans a7
                  have a7' : Sx (fun b => b = ls) G6 (upd G6 ls (.lst (xs ++ [v6]))) := Sx.put hls6 rfl
                  exact ⟨xs ++ [v6], dn ++ [s5], ss6, r5, rfl, aG.trans a57, hG6.sxM a7' pls lnl, upd_same, pr_snoc (htu.sx a57) (hv6.sx a7), e6, by rw [List.append_assoc]; exact hdn⟩
end
end K83
namespace K83
open PySem PySem.Spec PyProof.Rows L2 L2.DX GxR
/-! ### a line's parts -/
def stepP (acc : List Str) (ins : Bool) (c : Nat) : Option (List Str × Bool) :=
  if isSign c then some (if ins then acc.dropLast ++ [acc.getLastD "" ++ ⟨#[c]⟩] else acc ++ [⟨#[c]⟩], true)
  else if c ∈ (":,#=.|&-" : Str).cps.toList then some (acc ++ [⟨#[c]⟩], false)
  else if (⟨#[c]⟩ : Str) = " " then some (acc, false) else none
def goP : List Nat → List Str → Bool → Option (List Str)
  | [], acc, _ => some acc
  | c :: cs, acc, ins => match stepP acc ins c with
    | some (a, b) => goP cs a b
    | none => none
theorem len_app (a : Str) (c : Nat) : (a ++ (⟨#[c]⟩ : Str)).length = a.length + 1 := by
  show (a.cps ++ #[c]).size = a.cps.size + 1
  simp
theorem stepP_ok {acc : List Str} {ins : Bool} {c i : Nat} {a : List Str} {b : Bool} (h : stepP acc ins c = some (a, b)) (hi : ins = true → acc ≠ []) (hl : acc.length ≤ i) (hx : ∀ x ∈ acc, x.length ≤ i) :
    (b = true → a ≠ []) ∧ a.length ≤ i + 1 ∧ ∀ x ∈ a, x.length ≤ i + 1 := by
  have one : ∀ x : Str, x ∈ [(⟨#[c]⟩ : Str)] → x.length ≤ i + 1 := fun x hx => by
    have : x = ⟨#[c]⟩ := by simpa using hx
    rw [this]
    show 1 ≤ i + 1
    omega
  unfold stepP at h
  by_cases h1 : isSign c = true
  · rw [if_pos h1] at h
    cases ins with
    | true =>
      cases h
      have ne := hi rfl
      have hpos := List.length_pos_iff.mpr ne
      refine ⟨fun _ => by simp, by simp; omega, fun x hxm => ?_⟩
      rcases List.mem_append.mp hxm with z | z
      · exact Nat.le_succ_of_le (hx x (List.dropLast_subset _ z))
      · have e : x = acc.getLastD "" ++ ⟨#[c]⟩ := by simpa using z
        rw [e, len_app]
        have : acc.getLastD "" ∈ acc := by
          rw [List.getLastD_eq_getLast?, List.getLast?_eq_some_getLast ne]
          exact List.getLast_mem ne
        have := hx _ this
        omega
    | false =>
      cases h
      refine ⟨fun _ => by simp, by simp; omega, fun x hxm => ?_⟩
      rcases List.mem_append.mp hxm with z | z
      · exact Nat.le_succ_of_le (hx x z)
      · exact one x z
  · rw [if_neg h1] at h
    by_cases h2 : c ∈ (":,#=.|&-" : Str).cps.toList
    · rw [if_pos h2] at h
      cases h
      refine ⟨fun z => (by cases z), by simp; omega, fun x hxm => ?_⟩
      rcases List.mem_append.mp hxm with z | z
      · exact Nat.le_succ_of_le (hx x z)
      · exact one x z
    · rw [if_neg h2] at h
      by_cases h3 : (⟨#[c]⟩ : Str) = " "
      · rw [if_pos h3] at h
        cases h
        exact ⟨fun z => (by cases z), by omega, fun x hxm => Nat.le_succ_of_le (hx x hxm)⟩
      · rw [if_neg h3] at h
        cases h
section
variable {P : Program} {w : World} {K : PySem.W.Frag} {mg : Str → Option Value} {base : Heap}
def sp_parts_of_line : Sp := fun vs H Q _ => ∃ (n : Int) (z : Str) (parts : List Str), vs = [.int n, .str z] ∧ z.length ≤ 1000 ∧ goP z.cps.toList [] false = some parts ∧ ∀ l, H l = none → parts.length ≤ 1000 → (∀ x ∈ parts, x.length ≤ 1000) → Q (.ref l) (upd H l (.lst (parts.map V.str)))
theorem ok_parts_of_line (W : Wd K mg base) : FnOk P w K mg base CX0 2 (A_parts_of_line K) (F_parts_of_line K) ["number", "text"] sp_parts_of_line := by
  refine W.fu_parts_of_line.ok sc_parts_of_line (fun vs H Q E h => by obtain ⟨_, _, _, rfl, _⟩ := h; rfl) fun cdv A outer s H vs Q E hr h => ?_
  obtain ⟨n, z, parts, rfl, hz, hgo, hQ⟩ := h
  refine ⟨_, PSs.nox (pss_cons (ps_set (i := 2) sc_parts_of_line.nd rfl (by first | exact Or.inl rfl | exact Or.inr rfl) (pe_lst pa_nil))
      (pss_cons (ps_set (i := 3) sc_parts_of_line.nd rfl (by first | exact Or.inl rfl | exact Or.inr rfl) pe_bl)
      (pss_cons (ps_for PassesOwn.never rfl (pi_str (pv 1)) (pg_name (i := 4) sc_parts_of_line.nd rfl (by first | exact Or.inl rfl | exact Or.inr rfl)) (pss_cons (ps_if (pt_val (pe_call (ok_is_sign W) (hr.mono (by decide)) rfl W.gl_is_sign (W.fu_is_sign).kp W.bd_is_sign .nil pass0 (pa_cons (pv 4) pa_nil))) (pss_one (ps_if (pt_val (pv 3)) (pss_one (ps_asg (pe_op op_add_str (pe_ix ix_list (pv 2) (pe_un un_neg pe_int) (fun _ _ => rfl)) (pv 4)) (pg_sub (pv 2) (pe_un un_neg pe_int) set_list))) (pss_one (ps_expr (pe_bm PySem.F.plainAttrs_list PySem.F.slot_list_append PySem.F.type_list_append mt_append (pv 2) (pa_cons (pv 4) pa_nil)))))) (pss_one (ps_if (pt_cmpR op_in_sign (pv 4) pe_str (by rfl)) (pss_one (ps_expr (pe_bm PySem.F.plainAttrs_list PySem.F.slot_list_append PySem.F.type_list_append mt_append (pv 2) (pa_cons (pv 4) pa_nil)))) (pss_one (ps_if (pt_cmpR op_ne (pv 4) pe_str (nomark _)) (pss_one ps_never) pss_nil)))))
      (pss_one (ps_set (i := 3) sc_parts_of_line.nd rfl (by first | exact Or.inl rfl | exact Or.inr rfl) (pe_call (ok_is_sign W) (hr.mono (by decide)) rfl W.gl_is_sign (W.fu_is_sign).kp W.bd_is_sign .nil pass0 (pa_cons (pv 4) pa_nil))))))
      (pss_one (ps_ret (pv 2)))))), ?_⟩
  have sz : sizeLine = 16777216 := sizeLine_eq
  refine ⟨by show 0 ≤ sizeLine; omega, fun l hl => ?_⟩
  refine ⟨_, rfl, z, rfl, for_it walk_str (fun i τ G => ∃ (acc : List Str) (ins : Bool) (o : Option V), τ = [some (.int n), some (.str z), some (.ref l), some (.bl ins), o] ∧ G = upd H l (.lst (acc.map V.str)) ∧ goP (z.cps.toList.drop i) acc ins = some parts ∧ (ins = true → acc ≠ []) ∧ acc.length ≤ i ∧ ∀ x ∈ acc, x.length ≤ i)
    ⟨[], false, none, rfl, rfl, hgo, fun z => (by cases z), Nat.le_refl _, fun x hx => by cases hx⟩ (fun _ _ _ _ _ => trivial) (fun i x τ G0 G hi ⟨acc, ins, o, eτ, eG, hg, hin, hla, hlx⟩ ⟨eG2, c, hc, ex⟩ => ?_) fun τ G ⟨acc, ins, o, eτ, eG, hg, hin, hla, hlx⟩ => ?_⟩
  · subst eG2 ex eτ
    have hi2 : i < z.cps.toList.length := by simpa using hi
    have hc2 : z.cps.toList[i] = c := by
      have : z.cps.toList[i]? = some c := by rw [Array.getElem?_toList]; exact hc
      rw [List.getElem?_eq_getElem hi2] at this
      exact Option.some.inj this
    rw [List.drop_eq_getElem_cons hi2, hc2] at hg
    have hzi : i < 1000 := by
      have : z.cps.size = z.length := rfl
      omega
    cases hst : stepP acc ins c with
    | none => unfold goP at hg; rw [hst] at hg; cases hg
    | some ab =>
      obtain ⟨a, b⟩ := ab
      have hg2 : goP (z.cps.toList.drop (i + 1)) a b = some parts := by
        unfold goP at hg
        rw [hst] at hg
        exact hg
      obtain ⟨k1, k2, k3⟩ := stepP_ok hst hin hla hlx
      have fin : ∀ o, ∃ (acc : List Str) (ins : Bool) (o' : Option V), ([some (.int n), some (.str z), some (.ref l), some (.bl b), o] : L2.St) = [some (.int n), some (.str z), some (.ref l), some (.bl ins), o'] ∧ upd H l (.lst (a.map V.str)) = upd H l (.lst (acc.map V.str)) ∧ goP (z.cps.toList.drop (i + 1)) acc ins = some parts ∧ (ins = true → acc ≠ []) ∧ acc.length ≤ i + 1 ∧ ∀ x ∈ acc, x.length ≤ i + 1 :=
        fun o => ⟨a, b, o, rfl, rfl, hg2, k1, k2, k3⟩
      have hGl : G l = some (.lst (acc.map V.str)) := by rw [eG, upd_same]
      unfold stepP at hst
      refine ⟨_, rfl, c, rfl, _, rfl, chn (fun h1 => ?_) fun h1 => ?_⟩
      · rw [if_pos h1] at hst
        cases ins with
        | true =>
          cases hst
          have ne := hin rfl
          have hpos := List.length_pos_iff.mpr ne
          have elast : acc.getLast? = some (acc.getLastD "") := by rw [List.getLastD_eq_getLast?, List.getLast?_eq_some_getLast ne]; rfl
          have eacc : acc.map V.str = acc.dropLast.map V.str ++ [V.str (acc.getLastD "")] := by
            have := List.dropLast_concat_getLast ne
            have e2 : acc.getLast ne = acc.getLastD "" := by rw [List.getLastD_eq_getLast?, List.getLast?_eq_some_getLast ne]; rfl
            rw [← e2, ← List.map_singleton (f := V.str), ← List.map_append, this]
          have lmem : acc.getLastD "" ∈ acc := by
            rw [List.getLastD_eq_getLast?, List.getLast?_eq_some_getLast ne]
            exact List.getLast_mem ne
          have ll := hlx _ lmem
          refine ⟨_, rfl, _, rfl, iteT ⟨_, rfl, _, rfl, l, _, -1, .str (acc.getLastD ""), rfl, rfl, .of hGl, (by rw [eacc]; exact atI_last _ _), _, rfl, _, _, rfl, rfl, (by show (acc.getLastD "").length + 1 ≤ sizeLine; omega), ?_⟩⟩
          refine ⟨_, rfl, _, rfl, l, _, -1, acc.length - 1, rfl, rfl, hGl, ?_, ?_⟩
          · rw [List.length_map]
            unfold ixN
            rw [if_neg (by decide), if_pos (by omega)]
            congr 1
            omega
          · have es : (acc.map V.str).set (acc.length - 1) (.str (acc.getLastD "" ++ ⟨#[c]⟩)) = (acc.dropLast ++ [acc.getLastD "" ++ ⟨#[c]⟩]).map V.str := by
              rw [eacc, List.map_append, List.set_append_right _ _ (by simp)]
              simp
            rw [es, eG, upd_upd]
            refine ⟨_, rfl, c, rfl, ?_⟩
            rw [h1]
            exact fin _
        | false =>
          cases hst
          refine ⟨_, rfl, _, rfl, iteF ⟨_, rfl, .inl ⟨rfl, _, .of hGl⟩, _, rfl, l, _, _, rfl, rfl, hGl, (by rw [List.length_map]; omega), ?_⟩⟩
          have es : acc.map V.str ++ [V.str (⟨#[c]⟩ : Str)] = (acc ++ [(⟨#[c]⟩ : Str)]).map V.str := by rw [List.map_append]; rfl
          rw [es, eG, upd_upd]
          refine ⟨_, rfl, c, rfl, ?_⟩
          rw [h1]
          exact fin _
      · rw [if_neg (by rw [h1]; decide)] at hst
        refine ⟨_, rfl, c, _, rfl, rfl, _, rfl, chn (fun h2 => ?_) fun h2 => ?_⟩
        · rw [if_pos (of_decide_eq_true h2)] at hst
          cases hst
          refine ⟨_, rfl, .inl ⟨rfl, _, .of hGl⟩, _, rfl, l, _, _, rfl, rfl, hGl, (by rw [List.length_map]; omega), ?_⟩
          have es : acc.map V.str ++ [V.str (⟨#[c]⟩ : Str)] = (acc ++ [(⟨#[c]⟩ : Str)]).map V.str := by rw [List.map_append]; rfl
          rw [es, eG, upd_upd]
          refine ⟨_, rfl, c, rfl, ?_⟩
          rw [h1]
          exact fin _
        · rw [if_neg (of_decide_eq_false h2)] at hst
          by_cases h3 : (⟨#[c]⟩ : Str) = " "
          · rw [if_pos h3] at hst
            cases hst
            refine ⟨_, rfl, rfl, _, rfl, ?_⟩
            rw [show (!decide (V.str ⟨#[c]⟩ = V.str " ")) = false by rw [h3]; simp]
            refine iteF ⟨_, rfl, c, rfl, ?_⟩
            rw [h1, eG]
            exact fin _
          · rw [if_neg h3] at hst
            cases hst
  · subst eτ eG
    rw [List.drop_eq_nil_of_le (by simp)] at hg
    cases hg
    have : z.cps.size = z.length := rfl
    exact ⟨_, rfl, hQ l hl (by omega) fun x hx => by have := hlx x hx; omega⟩
end
end K83
namespace K83
open PySem PySem.Spec PyProof.Rows L2 L2.DX GxR
/-! ### the types as they are read -/
abbrev Ty : Type := Str × Nat × List (Nat × Sen)
section
variable {P : Program} {w : World} {K : PySem.W.Frag} {mg : Str → Option Value} {base : Heap}
def PlV (K : PySem.W.Frag) (H : Hp) (y : V) (z : Nat × Sen) : Prop := ∃ c ev, y = .ref c ∧ H c = some (.tup [.int z.1, ev]) ∧ Dp K H ev (entD z.2)
def TyV (K : PySem.W.Frag) (H : Hp) (r : V × Addr) (ty : Ty) : Prop := ∃ b ys, r.1 = .ref b ∧ H b = some (.tup [.str ty.1, .int ty.2.1, .ref r.2]) ∧ H r.2 = some (.lst ys) ∧ Paired (PlV K H) ys ty.2.2
structure TyAt (K : PySem.W.Frag) (H : Hp) (t : Addr) (rows : List (V × Addr)) (tys : List Ty) : Prop where
  lst : H t = some (.lst (rows.map (·.1)))
  nd : (rows.map (·.2)).Nodup
  nt : t ∉ rows.map (·.2)
  row : Paired (TyV K H) rows tys
theorem entD_noL (e : Sen) : noL (entD e) = true := by
  have h : noLs (e.2.2.map tD) = true := noLs_map tD _ fun k _ => tD_noL k
  simp [entD, noL, noLs, h]
theorem PlV.sx {M : Addr → Prop} {H H1 : Hp} {y : V} {z : Nat × Sen} (a : Sx M H H1) (h : PlV K H y z) : PlV K H1 y z := by
  obtain ⟨c, ev, e, h1, h2⟩ := h
  exact ⟨c, ev, e, a.tups _ _ h1, dp_sx a _ _ (entD_noL _) h2⟩
theorem TyV.sx {M : Addr → Prop} {H H1 : Hp} {r : V × Addr} {ty : Ty} (a : Sx M H H1) (m : ¬ M r.2) (h : TyV K H r ty) : TyV K H1 r ty := by
  obtain ⟨b, ys, e, h1, h2, h3⟩ := h
  exact ⟨b, ys, e, a.tups _ _ h1, a.at h2 m, Paired.mapP h3 fun _ _ => PlV.sx a⟩
theorem pr_memP {α β : Type} {F G : α → β → Prop} : ∀ {xs : List α} {ys : List β}, Paired F xs ys → (∀ x y, x ∈ xs → F x y → G x y) → Paired G xs ys
  | _, _, .nil, _ => .nil
  | _, _, .cons h t, g => .cons (g _ _ List.mem_cons_self h) (pr_memP t fun x y hx => g x y (List.mem_cons_of_mem _ hx))
theorem TyAt.sx {M : Addr → Prop} {H H1 : Hp} {t : Addr} {rows : List (V × Addr)} {tys : List Ty} (a : Sx M H H1) (m : ¬ M t) (m2 : ∀ e ∈ rows.map (·.2), ¬ M e) (h : TyAt K H t rows tys) : TyAt K H1 t rows tys :=
  ⟨a.at h.lst m, h.nd, h.nt, pr_memP h.row fun x y hx hv => hv.sx a (m2 _ (List.mem_map.mpr ⟨x, hx, rfl⟩))⟩
theorem TyAt.sxS {H H1 : Hp} {t : Addr} {rows : List (V × Addr)} {tys : List Ty} (a : Sm H H1) (h : TyAt K H t rows tys) : TyAt K H1 t rows tys := h.sx a (fun z => z) fun _ _ z => z
def rdLine (tys : List Ty) (n : Nat) (rest : List Str) : Option (List Ty) := match rest with
  | k :: r => if k = "type" then (match rdName r with
      | some (nm, []) => if tys.length ≤ 7 then some (tys ++ [(nm, n, [])]) else none
      | _ => none)
    else if k = "relation" ∨ k = "permission" then (match (if k = "relation" then rdRelation r else rdPermission r), tys.getLast? with
      | some e, some ty => if ty.2.2.length ≤ 7 then some (tys.dropLast ++ [(ty.1, ty.2.1, ty.2.2 ++ [(n, e)])]) else none
      | _, _ => none)
    else none
  | [] => none
def TyM (p t : Addr) (rows : List (V × Addr)) : Addr → Prop := fun b => b = p ∨ b = t ∨ b ∈ rows.map (·.2)
theorem pr_last {α β : Type} {F : α → β → Prop} {xs : List α} {ys : List β} {y : β} (h : Paired F xs (ys ++ [y])) : ∃ xa x, xs = xa ++ [x] ∧ Paired F xa ys ∧ F x y := by
  induction ys generalizing xs with
  | nil => cases h with
    | cons h t => cases t with
      | nil => exact ⟨[], _, rfl, .nil, h⟩
  | cons z ys ih => cases h with
    | cons h t =>
      obtain ⟨xa, x, e, h1, h2⟩ := ih t
      exact ⟨_ :: xa, x, by rw [e]; rfl, .cons h h1, h2⟩
def sp_read_line (K : PySem.W.Frag) : Sp := fun vs H Q _ => ∃ (p l t : Addr) (n : Nat) (rest : List Str) (rows : List (V × Addr)) (tys tys' : List Ty), vs = [.ref p, .ref t] ∧ LnAt (cL K) H p l n rest ∧ TyAt K H t rows tys ∧ l ≠ t ∧ l ∉ rows.map (·.2) ∧ rdLine tys n rest = some tys' ∧ Tabs K H ∧
  ∀ H' rows', Sx (TyM p t rows) H H' → TyAt K H' t rows' tys' → (∀ e ∈ rows'.map (·.2), e ∈ rows.map (·.2) ∨ H e = none) → Q .non H'
theorem ok_read_line (W : Wd K mg base) : FnOk P w K mg base CX0 8 (A_read_line K) (F_read_line K) ["line", "types"] (sp_read_line K) := by
  refine W.fu_read_line.ok sc_read_line (fun vs H Q E h => by obtain ⟨_, _, _, _, _, _, _, _, rfl, _⟩ := h; rfl) fun cdv A outer s H vs Q E hr h => ?_
  obtain ⟨p, l, t, n, rest, rows, tys, tys', rfl, hL, hTy, hlt, hlr, hrd, hT, hQ⟩ := h
  refine ⟨_, PSs.nox (pss_cons (ps_set (i := 2) sc_read_line.nd rfl (by first | exact Or.inl rfl | exact Or.inr rfl) (pe_meth0 (pv 0) W.cl_Line W.mt_Line_take (ok_Line_take W) (hr.mono (by decide)) W.bd_Line_take .nil pass0))
      (pss_cons (ps_if (pt_cmpR op_eq (pv 2) pe_str (nomark _)) (pss_cons (ps_expr (pe_bm PySem.F.plainAttrs_list PySem.F.slot_list_append PySem.F.type_list_append mt_append (pv 1) (pa_cons (pe_tup (pa_cons (pe_meth0 (pv 0) W.cl_Line W.mt_Line_name (ok_Line_name W) (hr.mono (by decide)) W.bd_Line_name .nil pass0) (pa_cons (pe_fld (pv 0) rfl) (pa_cons (pe_lst pa_nil) pa_nil)))) pa_nil)))
      (pss_cons (ps_expr (pe_meth0 (pv 0) W.cl_Line W.mt_Line_finish (ok_Line_finish W) (hr.mono (by decide)) W.bd_Line_finish .nil pass0))
      (pss_cons (ps_if (pt_cmpR op_gt (pe_callB call_len_seq (by rfl) W.fr_len PySem.boot_len (pa_cons (pv 1) pa_nil)) (pe_gint rfl W.in_TYPES_MOST) (nomark _)) (pss_one ps_never) pss_nil)
      (pss_one ps_retN)))) pss_nil)
      (pss_cons (ps_if (PW.pt (pw_or (pt_cmpR op_notIn_seq (pv 2) (pe_tup (pa_cons pe_str (pa_cons pe_str pa_nil))) (by rfl)) (pw_or1 (pt_not (pt_truth (pv 1) (by intro _; rfl)))))) (pss_one ps_never) pss_nil)
      (pss_cons (ps_set (i := 3) sc_read_line.nd rfl (by first | exact Or.inl rfl | exact Or.inr rfl) (pe_ifExp (pt_cmpR op_eq (pv 2) pe_str (nomark _)) (pe_call (ok_read_relation W) (hr.mono (by decide)) rfl W.gl_read_relation (W.fu_read_relation).kp W.bd_read_relation .nil pass0 (pa_cons (pv 0) pa_nil)) (pe_call (ok_read_permission W) (hr.mono (by decide)) rfl W.gl_read_permission (W.fu_read_permission).kp W.bd_read_permission .nil pass0 (pa_cons (pv 0) pa_nil))))
      (pss_cons (ps_expr (pe_bm PySem.F.plainAttrs_list PySem.F.slot_list_append PySem.F.type_list_append mt_append (pe_ix ix_tup (pe_ix ix_list (pv 1) (pe_un un_neg pe_int) (fun _ _ => rfl)) pe_int (fun _ _ => rfl)) (pa_cons (pe_tup (pa_cons (pe_fld (pv 0) rfl) (pa_cons (pv 3) pa_nil))) pa_nil)))
      (pss_one (ps_if (pt_cmpR op_gt (pe_callB call_len_seq (by rfl) W.fr_len PySem.boot_len (pa_cons (pe_ix ix_tup (pe_ix ix_list (pv 1) (pe_un un_neg pe_int) (fun _ _ => rfl)) pe_int (fun _ _ => rfl)) pa_nil)) (pe_gint rfl W.in_NAMES_MOST) (nomark _)) (pss_one ps_never) pss_nil))))))), ?_⟩
  have sz : sizeLine = 16777216 := sizeLine_eq
  cases rest with
  | nil => cases hrd
  | cons k r =>
    obtain ⟨dx, fs, hp, _, h2, _⟩ := hL.meth
    have hrd : (if k = "type" then (match rdName r with
      | some (nm, []) => if tys.length ≤ 7 then some (tys ++ [(nm, n, [])]) else none
      | _ => none)
    else if k = "relation" ∨ k = "permission" then (match (if k = "relation" then rdRelation r else rdPermission r), tys.getLast? with
      | some e, some ty => if ty.2.2.length ≤ 7 then some (tys.dropLast ++ [(ty.1, ty.2.1, ty.2.2 ++ [(n, e)])]) else none
      | _, _ => none)
    else none) = some tys' := hrd
    have pt : p ≠ t := ne_of hp hTy.lst fun z => nomatch z
    have pr : ∀ e ∈ rows.map (·.2), e ≠ p ∧ ∃ ys, H e = some (.lst ys) := fun e he => by
      obtain ⟨x, hx, rfl⟩ := List.mem_map.mp he
      obtain ⟨i, hi, ei⟩ := List.getElem_of_mem hx
      obtain ⟨ty, _, b, ys, _, _, h4, _⟩ := pr_get hTy.row (i := i) (x := x) (by rw [List.getElem?_eq_getElem hi, ei])
      exact ⟨fun z => (by rw [z, hp] at h4; cases h4), ys, h4⟩
    refine ⟨_, rfl, p, dx, _, rfl, hp, h2, p, l, n, k, r, rfl, hL, fun G1 a1 hG1 => ?_⟩
    refine ⟨_, rfl, rfl, _, rfl, chn (fun q1 => ?_) fun q1 => ?_⟩
    · have ek : k = "type" := by
        have : V.str k = V.str "type" := of_decide_eq_true q1
        injection this
      rw [if_pos ek] at hrd
      cases e1 : rdName r with
      | none => rw [e1] at hrd; cases hrd
      | some q =>
        obtain ⟨nm, r1⟩ := q
        rw [e1] at hrd
        cases r1 with
        | cons _ _ => cases hrd
        | nil =>
          dsimp only at hrd
          by_cases hlen : tys.length ≤ 7
          rotate_left
          · rw [if_neg hlen] at hrd; cases hrd
          rw [if_pos hlen] at hrd
          cases hrd
          obtain ⟨rfl, hid⟩ := rdName_some e1
          have ht1 := a1.at hTy.lst pt.symm
          obtain ⟨dx1, fs1, hp1, h11, _⟩ := hG1.meth
          refine ⟨_, rfl, .inl ⟨rfl, _, .of ht1⟩, _, rfl, p, dx1, _, rfl, hp1, h11, p, l, n, nm, [], rfl, hG1, hid, hT.sx a1, fun G2 a2 hG2 => ?_⟩
          obtain ⟨dx2, fs2, hp2, _, _, _, _, h26, _, h28⟩ := hG2.meth
          have a12 := a1.trans a2
          refine ⟨_, rfl, p, cL K, dx2, _, _, rfl, hp2, W.cl_Line, W.na_Line_number, h28, by show 0 ≤ sizeLine; omega, fun e he => ⟨by show 3 ≤ sizeLine; omega, fun b hb => ?_⟩⟩
          have a3 : Sm G2 (upd (upd G2 e (.lst [])) b (.tup [.str nm, .int n, .ref e])) := (Sx.new he).trans (Sx.new hb)
          have he3 : upd (upd G2 e (.lst [])) b (.tup [.str nm, .int n, .ref e]) e = some (.lst []) := (Sx.new (M := Nob) hb).atS upd_same
          have hb3 : upd (upd G2 e (.lst [])) b (.tup [.str nm, .int n, .ref e]) b = some (.tup [.str nm, .int n, .ref e]) := upd_same
          have ht2 := a2.at ht1 pt.symm
          have te : t ≠ e := ne_of_none ht2 he
          have le : l ≠ e := by
            obtain ⟨_, _, _, _, z, _⟩ := hG2.ex
            exact ne_of_none z he
          have re : ∀ x ∈ rows.map (·.2), x ≠ e := fun x hx => by
            obtain ⟨z1, ys, z2⟩ := pr x hx
            exact ne_of_none (a12.at z2 z1) he
          have he0 : H e = none := a12.old e he
          generalize upd (upd G2 e (.lst [])) b (.tup [.str nm, .int n, .ref e]) = G3 at a3 he3 hb3
          have ht3 := a3.atS ht2
          have lrows : rows.length = tys.length := Paired.length hTy.row
          refine ⟨t, _, _, rfl, rfl, ht3, by rw [List.length_map]; omega, ?_⟩
          have a4 : Sx (fun b => b = t) G3 (upd G3 t (.lst (rows.map (·.1) ++ [.ref b]))) := Sx.put ht3 rfl
          have hG4 := (hG2.sx a3).sxM a4 (fun z => pt z) (fun z => hlt z)
          obtain ⟨dx4, fs4, hp4, _, _, _, _, h46, _⟩ := hG4.meth
          have a123 := a12.trans (Sx.of a3)
          have aa : Sx (TyM p t rows) H (upd G3 t (.lst (rows.map (·.1) ++ [.ref b]))) := (a123.mono fun _ z => .inl z).trans (a4.mono fun _ z => .inr (.inl z))
          have hT4 : TyAt K (upd G3 t (.lst (rows.map (·.1) ++ [.ref b]))) t (rows ++ [(.ref b, e)]) (tys ++ [(nm, n, [])]) := by
            refine ⟨by rw [List.map_append]; exact upd_same, ?_, ?_, pr_snoc (pr_memP hTy.row fun x y hx hv => ?_) ⟨b, [], rfl, a4.tups _ _ hb3, a4.at he3 (fun z => te z.symm), .nil⟩⟩
            · rw [List.map_append]
              exact List.nodup_append.mpr ⟨hTy.nd, by simp, fun x hx y hy => by
                have : y = e := by simpa using hy
                rw [this]
                exact re x hx⟩
            · rw [List.map_append, List.mem_append]
              rintro (z | z)
              · exact hTy.nt z
              · exact te (by simpa using z)
            · have hx2 : x.2 ∈ rows.map (·.2) := List.mem_map.mpr ⟨x, hx, rfl⟩
              exact (hv.sx a123 (pr _ hx2).1).sx a4 fun z => hTy.nt (by rw [← z]; exact hx2)
          refine ⟨_, rfl, p, dx4, _, rfl, hp4, h46, p, l, n, rfl, hG4, ?_⟩
          refine ⟨_, rfl, t, _, rfl, .inl (.of upd_same), _, _, rfl, rfl, _, rfl, ?_⟩
          rw [show decide ((8 : Int) < ((rows.map (·.1) ++ [V.ref b]).length : Int)) = false from decide_eq_false (by rw [List.length_append, List.length_map, List.length_singleton]; omega)]
          refine iteF (hQ _ _ aa hT4 fun x hx => ?_)
          rw [List.map_append, List.mem_append] at hx
          rcases hx with z | z
          · exact .inl z
          · right
            have : x = e := by simpa using z
            rw [this]
            exact he0
    · have ek : ¬ k = "type" := fun z => of_decide_eq_false q1 (by rw [z])
      rw [if_neg ek] at hrd
      by_cases hk : k = "relation" ∨ k = "permission"
      rotate_left
      · rw [if_neg hk] at hrd; cases hrd
      rw [if_pos hk] at hrd
      cases e1 : (if k = "relation" then rdRelation r else rdPermission r) with
      | none => rw [e1] at hrd; cases hrd
      | some en =>
        rw [e1] at hrd
        cases e2 : tys.getLast? with
        | none => rw [e2] at hrd; cases hrd
        | some ty =>
          rw [e2] at hrd
          dsimp only at hrd
          by_cases hlen : ty.2.2.length ≤ 7
          rotate_left
          · rw [if_neg hlen] at hrd; cases hrd
          rw [if_pos hlen] at hrd
          cases hrd
          have etys : tys = tys.dropLast ++ [ty] := by
            have ne : tys ≠ [] := fun z => by rw [z] at e2; cases e2
            rw [List.getLast?_eq_some_getLast ne] at e2
            have := List.dropLast_concat_getLast ne
            rw [Option.some.inj e2] at this
            exact this.symm
          have hrow := hTy.row
          rw [etys] at hrow
          obtain ⟨ra, rl, erows, hra, b, ys, erl, hb, hys, hpl⟩ := pr_last hrow
          have ht1 := a1.at hTy.lst pt.symm
          have hin : inV (.str k) [.str "relation", .str "permission"] = true := by
            show (("relation" == k) || (("permission" == k) || false)) = true
            rcases hk with z | z
            · rw [z]; rfl
            · rw [z]; rfl
          refine ⟨_, rfl, by show 2 ≤ sizeLine; omega, fun q hq => ⟨q, _, rfl, .inr (.of upd_same), rfl, rfl, _, rfl, ?_⟩⟩
          have a2 : Sm G1 (upd G1 q (.tup [.str "relation", .str "permission"])) := Sx.new hq
          show if (!inV (V.str k) [.str "relation", .str "permission"]) = true then _ else _
          rw [hin]
          have ht2 := a2.atS ht1
          have hG2 := hG1.sx a2
          generalize upd G1 q (.tup [.str "relation", .str "permission"]) = G2 at a2 ht2 hG2
          refine iteF ⟨_, rfl, true, .inl ⟨_, .of ht2, by rw [erows]; simp⟩, iteF ?_⟩
          have key : ∀ (R : V → Hp → Prop), (∀ v G3, Sx (LnM p) G2 G3 → LnAt (cL K) G3 p l n [] → Dp K G3 v (entD en) → R v G3) →
              (tIf (tTest (tOp rEq (tVar 2) (tC (.str "relation")))) (tCall (sp_read_entry K rdRelation) [] E0 (tCons (tVar 0) tNil)) (tCall (sp_read_entry K rdPermission) [] E0 (tCons (tVar 0) tNil))) ((L2.start ["line", "types", "kind", "entry"] [.ref p, .ref t]).set 2 (some (.str k))) G2 R := fun R hR => by
            refine ⟨_, rfl, rfl, _, rfl, chn (fun z => ?_) fun z => ?_⟩
            · have : k = "relation" := by
                have : V.str k = V.str "relation" := of_decide_eq_true z
                injection this
              rw [if_pos this] at e1
              exact ⟨_, rfl, p, l, n, r, en, rfl, hG2, e1, (hT.sx a1).sx a2, fun v G3 a hG hv => hR v G3 a hG hv⟩
            · have : ¬ k = "relation" := fun y => of_decide_eq_false z (by rw [y])
              rw [if_neg this] at e1
              exact ⟨_, rfl, p, l, n, r, en, rfl, hG2, e1, (hT.sx a1).sx a2, fun v G3 a hG hv => hR v G3 a hG hv⟩
          refine key _ fun ev G3 a3 hG3 hev => ?_
          have a13 := (a1.trans (Sx.of a2)).trans a3
          have ht3 := a3.at ht2 pt.symm
          have hb3 := a13.tups _ _ hb
          have hrl : rl.2 ∈ rows.map (·.2) := by rw [erows, List.map_append]; simp
          have hys3 := a13.at hys (pr _ hrl).1
          have hpl3 := Paired.mapP hpl fun _ _ => PlV.sx a13
          have ert : rl.2 ≠ t := fun z => hTy.nt (by rw [← z]; exact hrl)
          obtain ⟨dx3, fs3, hp3, _, _, _, _, _, _, h38⟩ := hG3.meth
          have hix : atI (rows.map (·.1)) (-1) = some (.ref b) := by rw [erows, List.map_append, ← erl]; exact atI_last _ _
          refine ⟨_, rfl, _, rfl, t, _, -1, .ref b, rfl, rfl, .of ht3, hix, b, _, 2, .ref rl.2, rfl, rfl, .of hb3, atI_nat (j := 2) rfl, .inl ⟨rfl, _, .of hys3⟩, _, rfl, p, cL K, dx3, _, _, rfl, hp3, W.cl_Line, W.na_Line_number, h38, _, rfl, by show 2 ≤ sizeLine; omega, fun c hc => ?_⟩
          have a4 : Sm G3 (upd G3 c (.tup [.int n, ev])) := Sx.new hc
          have hc4 : upd G3 c (.tup [.int n, ev]) c = some (.tup [.int n, ev]) := upd_same
          have hev4 := dp_sx a4 _ _ (entD_noL en) hev
          have hpl4 := Paired.mapP hpl3 fun _ _ => PlV.sx a4
          generalize upd G3 c (.tup [.int n, ev]) = G4 at a4 hc4 hev4 hpl4
          have hys4 := a4.atS hys3
          have ly : ys.length = ty.2.2.length := Paired.length hpl
          refine ⟨rl.2, _, _, rfl, rfl, hys4, by omega, ?_⟩
          have a5 : Sx (fun b => b = rl.2) G4 (upd G4 rl.2 (.lst (ys ++ [.ref c]))) := Sx.put hys4 rfl
          have a14 := a13.trans (Sx.of a4)
          have aa : Sx (TyM p t rows) H (upd G4 rl.2 (.lst (ys ++ [.ref c]))) := (a14.mono fun _ z => .inl z).trans (a5.mono fun _ z => .inr (.inr (by rw [z]; exact hrl)))
          have ht5 := a5.at (a4.atS ht3) ert.symm
          have hb5 := a5.tups _ _ (a4.tups _ _ hb3)
          have hTf : TyAt K (upd G4 rl.2 (.lst (ys ++ [.ref c]))) t rows (tys.dropLast ++ [(ty.1, ty.2.1, ty.2.2 ++ [(n, en)])]) := by
            refine ⟨ht5, hTy.nd, hTy.nt, ?_⟩
            rw [erows]
            refine pr_snoc (pr_memP hra fun x y hx hv => ?_) ⟨b, ys ++ [.ref c], erl, hb5, upd_same, pr_snoc (Paired.mapP hpl4 fun _ _ => PlV.sx a5) ⟨c, ev, rfl, a5.tups _ _ hc4, dp_sx a5 _ _ (entD_noL en) hev4⟩⟩
            have hx2 : x.2 ∈ rows.map (·.2) := by rw [erows, List.map_append]; exact List.mem_append_left _ (List.mem_map.mpr ⟨x, hx, rfl⟩)
            refine (hv.sx a14 (pr _ hx2).1).sx a5 fun z => ?_
            have nd := hTy.nd
            rw [erows, List.map_append] at nd
            exact (List.nodup_append.mp nd).2.2 x.2 (List.mem_map.mpr ⟨x, hx, rfl⟩) rl.2 (by simp) z
          refine ⟨_, rfl, _, rfl, t, _, -1, .ref b, rfl, rfl, .of ht5, hix, b, _, 2, .ref rl.2, rfl, rfl, .of hb5, atI_nat (j := 2) rfl, rl.2, _, rfl, .inl (.of upd_same), _, _, rfl, rfl, _, rfl, ?_⟩
          rw [show decide ((8 : Int) < ((ys ++ [V.ref c]).length : Int)) = false from decide_eq_false (by rw [List.length_append, List.length_singleton]; omega)]
          exact iteF (hQ _ _ aa hTf fun x hx => .inl hx)
end
end K83
namespace K83
open PySem PySem.Spec PyProof.Rows L2 L2.DX GxR
/-! ### name == other[0], other in types -/
section
variable {P : Program} {w : World} {A : Around} {env : Env} {m : Str → Option Value} {g : Heap} {a b : Expr} {x : Str} {pos : Pos}
theorem pu_int {i : Int} {j} : PU P w A env m g (.Constant (.int i) j pos) (.int i) := ⟨fun s E hn hg => wpAny_Constant_int ⟨⟨_, rfl⟩, keeps_tok _ _⟩⟩
theorem pu_ixT {t : Addr} {its : Array Value} {i : Nat} {u : Value} {v : V} {p1 : Pos} {j} (ha : PU P w A env m g a (.ref t)) (hi : IsTup g t its) (h : its[i]? = some u) (r : RelV v u) (hz : its.size ≤ sizeLine) : PU P w A env m g (.Subscript a (.Constant (.int (i : Nat)) j p1) pos) v := by
  refine ⟨fun s E hn hg => Subscript_ (thn (ha.run s E hn hg) fun u1 s1 ⟨r1, k1⟩ => thn (pu_int.run s1 E (kNs k1 hn) (kHp k1 hg)) fun u2 s2 ⟨r2, k2⟩ => ?_)⟩
  cases r1
  obtain ⟨tk, rfl⟩ := r2
  have hi2 : IsTup s2.heap t its := by
    obtain ⟨o, h1, h2, h3⟩ := hi
    exact ⟨o, kHp (kTr k1 k2) hg _ _ h1, h2, h3⟩
  have hlt : i < its.size := (Array.getElem?_eq_some_iff.mp h).1
  have sz := sizeLine_eq
  refine subscriptTail_builtinR (x := u) hi2.typeIs slot_tuple_getitem.lookup (PyProof.Rows.getItem_tuple (j := i) (Q := fun r s' => r = u ∧ (RelV v r ∧ Keeps s s')) hi2 (by omega) (by omega) ?_ h ⟨rfl, r, kTr k1 k2⟩)
  rw [seqIndex_of (by omega) (by omega)]
  simp
end
/-- items that are tuples, to a target of several names -/
theorem walksU_of {prog : Program} {w : World} {A : Around} {I : Addr} {fp wr : List Addr} {n : Nat} {P : Nat → Value → Prop} {St : Nat → Heap → Prop} (W : Walks prog w A I fp wr n P St) (Ts : Nat → Addr) (vals : Nat → Array Value)
    (hP : ∀ j v, j < n → P j v → v = .ref (Ts j)) (hT : ∀ j, j < n → Ts j ∉ wr)
    (hgo : ∀ (elts : List Expr) (k : Nat) (pos : Pos) i v (s : Shared) (Q : Unit → Shared → Prop) (E : Value → Shared → Prop), St i s.heap → Q () s → wpAny (model prog w) A (letOwnedTupleGo (.Tuple elts k pos) (.ref I) v) Q E s) :
    WalksU prog w A I (fp ++ (List.range n).map Ts) wr n (fun j v => j < n ∧ v = vals j) (fun j h => St j h ∧ ∀ k, k < n → h.IsTuple (Ts k) (vals k))
      (fun j T h => (j < n ∧ T = Ts j) ∧ St (j + 1) h ∧ ∀ k, k < n → h.IsTuple (Ts k) (vals k)) where
  sub := fun b hb => List.mem_append_left _ (W.sub b hb)
  frame := fun i h h' st hk => ⟨W.frame i h h' st.1 fun b hb => hk b (List.mem_append_left _ hb), fun k hkn => (st.2 k hkn).at fun o e => hk (Ts k) (List.mem_append_right _ (List.mem_map.mpr ⟨k, List.mem_range.mpr hkn, rfl⟩)) o e⟩
  item := fun i s Q E hi st hQ => W.item i s Q E hi st.1 fun v h' tk hv st' hk => by
    have tup : ∀ k, k < n → h'.IsTuple (Ts k) (vals k) := fun k hkn => (st.2 k hkn).at fun o e => hk (Ts k) o (hT k hkn) e
    obtain rfl := hP i v hi hv
    exact hQ (Ts i) (vals i) h' tk ⟨hi, rfl⟩ (tup i hi) ⟨⟨hi, rfl⟩, st', tup⟩ hk
  go := fun elts k pos i T s Q E hm hQ => hgo elts k pos (i + 1) (.ref T) s Q E hm.2.1 (hQ s.heap hm.2 fun _ _ _ e => e)
  apart := fun j T h hm hmem => hT j hm.1.1 (by rw [← hm.1.2]; exact hmem)
  done := fun s Q E st hQ => W.done s Q E st.1 fun h' tk hk => hQ h' tk hk
  self := fun i s Q E st hQ => W.self i s Q E st.1 hQ
/-! ### other over a slice of the types -/
structure DuD where
  a : Addr
  xs : List V
  l : List Str
  nm : Str
def DuC (K : PySem.W.Frag) (j : Nat) (σ : L2.St) (v : V) (H : Hp) (z : DuD) : Prop := v = .ref z.a ∧ SqL K H z.a z.xs ∧ Paired (fun x k => ∃ b rest, x = .ref b ∧ H b = some (.tup (.str k :: rest))) z.xs z.l ∧ σ[j]? = some (some (.str z.nm))
def duB (z : DuD) (i : Nat) : Bool := match z.l[i]? with
  | some k => decide (z.nm = k)
  | none => false
theorem duB_any {z : DuD} (h : z.nm ∉ z.l) : (List.range z.l.length).any (duB z) = false := by
  rw [List.any_eq_false]
  intro i hi q
  have hi' := List.mem_range.mp hi
  unfold duB at q
  rw [List.getElem?_eq_getElem hi'] at q
  have e : z.nm = z.l[i] := by simpa using q
  exact h (by rw [e]; exact List.getElem_mem hi')
section
variable {X : Cx} {pins : List (Addr × Obj)} {σ : L2.St} {H1 : Hp} {s1 : Shared} {T : Addr}
theorem src_lst {v : V} {u : Value} {a : Addr} {xs : List V} {n : Nat} (I : Inv X pins σ H1 s1) (hT : TabG H1 T) (r : RelV v u) (ev : v = .ref a) (hs : SqL X.K H1 a xs) (hn : xs.length = n) : Src1 X.prog X.w T s1 u n (fun i y => (itsOf s1 u)[i]? = some y) := by
  subst ev
  cases r
  obtain ⟨its, rv, pl, _⟩ := I.list hs
  have e : its.toArray.size = n := by rw [List.size_toArray, ← rv.length, hn]
  rw [itsOf_list pl.isList, ← e]
  exact src_list I hT pl.isList
theorem tup_at {g : Heap} {H : Hp} {P : Program} {w : World} {b : Addr} {xs : List V} (hok : HOk P w H g) (hb : H b = some (.tup xs)) : ∃ its : List Value, Vals xs its ∧ IsTup g b its.toArray ∧ its.toArray.size ≤ sizeLine := by
  obtain ⟨z, its, rv, ht⟩ := (show ObjOk P w H g b (.tup xs) from hok b _ hb)
  exact ⟨its, rv, ht, by rw [List.size_toArray, ← rv.length]; exact z⟩
theorem el_dup {j : Nat} {v : V} {u : Value} {z : DuD} (I : Inv X pins σ H1 s1) (hT : TabG H1 T) (r : RelV v u) (h : DuC X.K j σ v H1 z) {sc : Scope} {x y : Str} {p1 p2 p3 p4 p5 : Pos} {k} (S : GenSc X.env sc [x])
    (hN : X.N[j]? = some y) (hc : X.env.scope.names.lookup y = some .cell) (hf : sc.names.lookup y = some .free) (hd : (x == ("__debug__" : Str)) = false := by decide) (hd2 : (y == ("__debug__" : Str)) = false := by decide) (hd3 : (y == ("__classdict__" : Str)) = false := by decide) :
    El1 X sc x (.Compare (.Name y p1) [.Eq] [.Subscript (.Name x p2) (.Constant (.int ((0 : Nat) : Int)) k p3) p4] p5) T s1 (fun i y => (itsOf s1 u)[i]? = some y) (duB z) := by
  obtain ⟨rfl, hs, ht, hσ⟩ := h
  cases r
  intro L code bi A' E' i v2 s2 m2 hA hdp hu hF hn hm hk
  obtain ⟨its, rv, pl, _⟩ := I.list hs
  rw [itsOf_list pl.isList] at hF
  have hF' : its[i]? = some v2 := by simpa using hF
  obtain ⟨xv, hx, rx⟩ : ∃ xv, z.xs[i]? = some xv ∧ RelV xv v2 := by
    cases q : z.xs[i]? with
    | none => rw [rv.none_of q] at hF'; cases hF'
    | some xv =>
      obtain ⟨u2, h1, h2⟩ := rv.get q
      rw [hF'] at h1
      cases h1
      exact ⟨xv, rfl, h2⟩
  obtain ⟨kk, hkk, b, rest, rfl, hb⟩ := pr_get ht hx
  have eB : duB z i = decide (z.nm = kk) := by
    unfold duB
    rw [hkk]
  rw [eB]
  obtain ⟨c, uc, hcl, hcell, ru⟩ := free_at (x := y) I hT hk hN hc hσ
  cases rx
  have hok := hok_at I hT hk
  obtain ⟨tis, rt, hti, hz⟩ := tup_at hok (at_of I hT hb)
  obtain ⟨w0, hw0, rw0⟩ := rt.get (i := 0) rfl
  refine thn ((pu_cmp (k := decide (z.nm = kk)) (pu_free (P := X.prog) (w := X.w) (A := A') (g := s2.heap) S.kind hf (clo_at hf hcl) hcell ru hd2 hd3) (pu_ixT (i := 0) (pu_loc S.kind (S.loc x (by simp)) hm (v := .ref b) rfl hd) hti (by simpa using hw0) rw0 hz) ?_).run s2 E' hn fun _ _ e => e) fun y s3 h => h
  intro s E u1 u2 hg r1 r2
  obtain ⟨t1, rfl⟩ := r1
  obtain ⟨t2, rfl⟩ := r2
  refine PySem.P.eq_str ⟨?_, keeps_refl _⟩
  congr 1
  rw [Bool.eq_iff_iff]
  obtain ⟨nx⟩ := z.nm
  obtain ⟨kx⟩ := kk
  simp
end
/-! ### other over the first of pairs: a text among the types -/
structure InD where
  a : Addr
  xs : List V
  l : List (List Str)
  t : Addr
  ts : List Str
def InC (K : PySem.W.Frag) (j : Nat) (σ : L2.St) (v : V) (H : Hp) (z : InD) : Prop := v = .ref z.a ∧ SqT K H z.a z.xs ∧ Paired (fun x k => ∃ b, x = V.ref b ∧ SqT K H b (k.map V.str)) z.xs z.l ∧ (∀ k ∈ z.l, k.length = 2) ∧ σ[j]? = some (some (.ref z.t)) ∧ H z.t = some (.lst (z.ts.map V.str))
def inB (z : InD) (i : Nat) : Bool := match z.l[i]? with
  | some k => decide (k.headD "" ∈ z.ts)
  | none => false
theorem inB_all {z : InD} (h : ∀ k ∈ z.l, k.headD "" ∈ z.ts) : (List.range z.l.length).all (inB z) = true := by
  rw [List.all_eq_true]
  intro i hi
  have hi' := List.mem_range.mp hi
  unfold inB
  rw [List.getElem?_eq_getElem hi']
  exact decide_eq_true (h _ (List.getElem_mem hi'))
end K83
namespace K83
open PySem PySem.Spec PyProof.Rows L2 L2.DX GxR
/-! ### no name twice -/
theorem inV_strs (x : Str) : ∀ l : List Str, inV (.str x) (l.map V.str) = decide (x ∈ l)
  | [] => rfl
  | y :: l => by
    show ((y == x) || inV (.str x) (l.map V.str)) = _
    rw [inV_strs x l]
    by_cases h : y = x
    · rw [h, decide_eq_true (List.mem_cons_self : x ∈ x :: l), beq_self_eq_true]
      rfl
    · rw [beq_eq_false_iff_ne.mpr h, Bool.false_or]
      exact decide_eq_decide.mpr ⟨List.mem_cons_of_mem _, fun z => (List.mem_cons.mp z).resolve_left fun e => h e.symm⟩
theorem flat_strs (l : List Str) : (l.map V.str).all flatV = true := by
  rw [List.all_eq_true]
  intro v hv
  obtain ⟨x, _, rfl⟩ := List.mem_map.mp hv
  rfl
theorem cut_take (xs : List V) {i : Nat} (h : i ≤ xs.length) : cutV xs none (some (i : Int)) = xs.take i := by
  unfold cutV
  rw [HT.sIx_none, HT.sIx_nat, List.drop_zero, Nat.sub_zero, Nat.min_eq_left h]
structure DupOk (tys : List Ty) : Prop where
  nd : (tys.map (·.1)).Nodup
  ent : ∀ ty ∈ tys, (ty.2.2.map (·.2.1)).Nodup ∧ ty.2.2.length ≤ 100
  len : tys.length ≤ 100
section
variable {P : Program} {w : World} {K : PySem.W.Frag} {mg : Str → Option Value} {base : Heap}
theorem row_names {H : Hp} {rows : List (V × Addr)} {tys : List Ty} (h : Paired (TyV K H) rows tys) : Paired (fun x k => ∃ b rest, x = V.ref b ∧ H b = some (.tup (.str k :: rest))) (rows.map (·.1)) (tys.map (·.1)) := by
  induction h with
  | nil => exact .nil
  | cons h _ ih =>
    obtain ⟨b, ys, e, hb, _⟩ := h
    exact .cons ⟨b, _, e, hb⟩ ih
def sp_check_duplicates (K : PySem.W.Frag) : Sp := fun vs H Q _ => ∃ (t : Addr) (rows : List (V × Addr)) (tys : List Ty), vs = [.ref t] ∧ TyAt K H t rows tys ∧ DupOk tys ∧ Tabs K H ∧ ∀ H', Sm H H' → Q .non H'
abbrev N_check_duplicates : List Str := ["types", "faults", "at", "name", "number", "entries", "names", "entry"]
theorem ok_check_duplicates (W : Wd K mg base) : FnOk P w K mg base CX0 1 (A_check_duplicates K) (F_check_duplicates K) ["types"] (sp_check_duplicates K) := by
  refine okG W.fu_check_duplicates sc_check_duplicates (fun vs H Q E h => by obtain ⟨_, _, _, rfl, _⟩ := h; rfl) fun A outer s H vs Q E hr h => ?_
  obtain ⟨t, rows, tys, rfl, hTy, hD, hT, hQ⟩ := h
  refine ⟨_, PSs.nox (pss_cons (ps_set (i := 1) sc_check_duplicates.nd rfl (by first | exact Or.inl rfl | exact Or.inr rfl) (pe_lst pa_nil))
      (pss_cons (ps_for PassesOwn.never rfl (pi_enum (by rfl) W.fr_enumerate (pa_cons (pv 0) pa_nil)) (pg_tup rfl (pgs_cons (pg_name (i := 2) sc_check_duplicates.nd rfl (by first | exact Or.inl rfl | exact Or.inr rfl)) (pgs_cons (pg_tup rfl (pgs_cons (pg_name (i := 3) sc_check_duplicates.nd rfl (by first | exact Or.inl rfl | exact Or.inr rfl)) (pgs_cons (pg_name (i := 4) sc_check_duplicates.nd rfl (by first | exact Or.inl rfl | exact Or.inr rfl)) (pgs_cons (pg_name (i := 5) sc_check_duplicates.nd rfl (by first | exact Or.inl rfl | exact Or.inr rfl)) pgs_nil)))) pgs_nil))) (pss_cons (ps_if (pt_val (pe_anyG1 hr rfl W.fr_any (W.tb _ (.tail _ (.tail _ (.tail _ (.head _))))) rfl (gsc (n := s.heap.objs.size + 1) rfl (by rfl)) (pe_slice sl_list (pv 0) po_none (po_some (pv 2))) (fun _ => rfl) (Cnd := DuC K 3) (n := fun z => z.l.length) (pb := fun z => duB z) (fun pins σ H1 s1 v u d I r hT hc => src_lst I hT r hc.1 hc.2.1 (Paired.length hc.2.2.1)) (fun pins σ H1 s1 v u d I r hT hc => el_dup I hT r hc (gsc (n := s.heap.objs.size + 1) rfl (by rfl)) rfl rfl rfl))) (pss_one (ps_expr (pe_bm PySem.F.plainAttrs_list PySem.F.slot_list_append PySem.F.type_list_append mt_append (pv 1) (pa_cons (pv 4) pa_nil)))) pss_nil)
      (pss_cons (ps_set (i := 6) sc_check_duplicates.nd rfl (by first | exact Or.inl rfl | exact Or.inr rfl) (pe_lst pa_nil))
      (pss_one (ps_for PassesOwn.never rfl (pi_list (pv 5)) (pg_tup rfl (pgs_cons (pg_name (i := 4) sc_check_duplicates.nd rfl (by first | exact Or.inl rfl | exact Or.inr rfl)) (pgs_cons (pg_name (i := 7) sc_check_duplicates.nd rfl (by first | exact Or.inl rfl | exact Or.inr rfl)) pgs_nil))) (pss_cons (ps_if (pt_cmpR op_in_seq (pe_ix ix_tup (pv 7) pe_int (fun _ _ => rfl)) (pv 6) (by rfl)) (pss_one (ps_expr (pe_bm PySem.F.plainAttrs_list PySem.F.slot_list_append PySem.F.type_list_append mt_append (pv 1) (pa_cons (pv 4) pa_nil)))) pss_nil)
      (pss_one (ps_expr (pe_bm PySem.F.plainAttrs_list PySem.F.slot_list_append PySem.F.type_list_append mt_append (pv 6) (pa_cons (pe_ix ix_tup (pv 7) pe_int (fun _ _ => rfl)) pa_nil))))))))))
      (pss_one (ps_if (pt_truth (pv 1) (by intro _; rfl)) (pss_one ps_never) pss_nil)))), ?_⟩
  have sz : sizeLine = 16777216 := sizeLine_eq
  refine ⟨by show 0 ≤ sizeLine; omega, fun f hf => ?_⟩
  have a1 : Sm H (upd H f (.lst [])) := Sx.new hf
  have hf1 : upd H f (.lst []) f = some (.lst []) := upd_same
  have hTy1 := hTy.sxS a1
  have hT1 := hT.sx a1
  generalize upd H f (.lst []) = H1 at a1 hf1 hTy1 hT1
  have lrow : rows.length = tys.length := Paired.length hTy.row
  have w := walk_enum (K := K) (a := t) (xs := rows.map (·.1))
  rw [List.length_map] at w
  refine ⟨_, rfl, t, _, rfl, .of hTy1.lst, for_it w (fun i τ G => ∃ o2 o3 o4 o5 o6 o7, τ = [some (.ref t), some (.ref f), o2, o3, o4, o5, o6, o7] ∧ Sm H1 G) ⟨none, none, none, none, none, none, rfl, Sx.refl _⟩ (fun i τ G _ ⟨_, _, _, _, _, _, _, a⟩ => .of (a.atS hTy1.lst))
    (fun i x τ G0 G hi ⟨o2, o3, o4, o5, o6, o7, eτ, a⟩ ⟨T, x1, x2, ex, hTn, eG, ex1, ex2⟩ => ?_) fun τ G ⟨o2, o3, o4, o5, o6, o7, eτ, a⟩ => ?_⟩
  · subst eτ ex
    have ex1 : V.int (i : Nat) = x1 := Option.some.inj ex1
    subst ex1
    have ex2 : (rows.map (·.1))[i]? = some x2 := ex2
    have ex2 : rows[i].1 = x2 := by
      rw [List.getElem?_map, List.getElem?_eq_getElem hi] at ex2
      exact Option.some.inj ex2
    have a2 : Sm H1 G := by rw [eG]; exact a.trans (Sx.new hTn)
    have hTT : G T = some (.tup [.int (i : Nat), x2]) := by rw [eG, upd_same]
    clear eG
    have hTyG := hTy1.sxS a2
    have hit : i < tys.length := by omega
    obtain ⟨ty, hty, b, ys, eb, hb, hys, hpl⟩ := pr_get hTyG.row (i := i) (x := rows[i]) (List.getElem?_eq_getElem hi)
    have ety : tys[i] = ty := by
      rw [List.getElem?_eq_getElem hit] at hty
      exact Option.some.inj hty
    rw [ex2] at eb
    subst eb
    refine ⟨T, _, rfl, .of hTT, rfl, _, _, rfl, _, _, rfl, ⟨b, _, rfl, .of hb, rfl, _, _, rfl, _, _, rfl, _, _, rfl, rfl, rfl, ?_⟩⟩
    refine ⟨_, rfl, _, rfl, i, rfl, t, _, rfl, .of hTyG.lst, fun sl hsl => ?_⟩
    have a3 : Sm G (upd G sl (.lst (cutV (rows.map (·.1)) none (some ((i : Nat) : Int))))) := Sx.new hsl
    have hsl3 : upd G sl (.lst (cutV (rows.map (·.1)) none (some ((i : Nat) : Int)))) sl = some (.lst ((rows.map (·.1)).take i)) := by rw [upd_same, cut_take _ (by rw [List.length_map]; omega)]
    generalize upd G sl (.lst (cutV (rows.map (·.1)) none (some ((i : Nat) : Int)))) = G3 at a3 hsl3
    have hTy3 := hTyG.sxS a3
    have hT3 := (hT1.sx a2).sx a3
    have hpre : Paired (fun x k => ∃ b rest, x = V.ref b ∧ G3 b = some (.tup (.str k :: rest))) ((rows.map (·.1)).take i) ((tys.map (·.1)).take i) := by
      exact pr_take i (row_names hTy3.row)
    have hno : ty.1 ∉ (tys.map (·.1)).take i := by
      have nd := hD.nd
      rw [← List.take_append_drop i (tys.map (·.1))] at nd
      intro z
      refine (List.nodup_append.mp nd).2.2 _ z ty.1 ?_ rfl
      rw [List.drop_eq_getElem_cons (by rw [List.length_map]; omega), List.getElem_map, ety]
      exact List.mem_cons_self
    refine ⟨⟨sl, _, _, ty.1⟩, ⟨rfl, .of hsl3, hpre, rfl⟩, hT3 _ (.tail _ (.tail _ (.tail _ (.head _)))), fun G4 t4 => ⟨_, rfl, ?_⟩⟩
    rw [duB_any hno]
    have a4 : Sm G3 G4 := Sx.tab (hT3 _ (.tail _ (.tail _ (.tail _ (.head _))))) t4
    have a34 := a3.trans a4
    refine iteF ⟨by show 0 ≤ sizeLine; omega, fun nl hnl => ?_⟩
    have a5 : Sm G4 (upd G4 nl (.lst [])) := Sx.new hnl
    have hnl5 : upd G4 nl (.lst []) nl = some (.lst []) := upd_same
    have hn0 : H1 nl = none := (a2.trans a34).old nl hnl
    have hys4 := (a34.trans a5).atS hys
    have hpl4 := Paired.mapP hpl fun _ _ => PlV.sx (a34.trans a5)
    have nly : rows[i].2 ≠ nl := ne_of_none (a34.atS hys) hnl
    generalize upd G4 nl (.lst []) = G5 at a5 hnl5 hys4 hpl4
    have hent := hD.ent ty (by rw [← ety]; exact List.getElem_mem hit)
    have ly : ys.length = ty.2.2.length := Paired.length hpl
    have w2 := walk_list (K := K) (a := rows[i].2) (xs := ys)
    rw [ly] at w2
    refine ⟨_, rfl, rows[i].2, rfl, ⟨_, .of hys4⟩, for_it w2 (fun j τ G' => ∃ p4 p7, τ = [some (.ref t), some (.ref f), some (.int (i : Nat)), some (.str ty.1), p4, some (.ref rows[i].2), some (.ref nl), p7] ∧ Sx (fun b => b = nl) G5 G' ∧ G' nl = some (.lst (((ty.2.2.take j).map (·.2.1)).map V.str))) ⟨_, _, rfl, Sx.refl _, hnl5⟩
      (fun j τ G' _ ⟨_, _, _, aa, _⟩ => .of (aa.at hys4 nly)) (fun j x τ G0' G' hj ⟨p4, p7, eτ, aa, hn⟩ ⟨eG', hx⟩ => ?_) fun τ G' ⟨p4, p7, eτ, aa, hn⟩ => ?_⟩
    · subst eτ eG'
      obtain ⟨z, hz, c, ev, rfl, hc, hev⟩ := pr_get hpl4 hx
      have hc' := aa.tups _ _ hc
      have hev' := dp_sx aa _ _ (entD_noL z.2) hev
      have ez : ty.2.2[j] = z := by
        rw [List.getElem?_eq_getElem hj] at hz
        exact Option.some.inj hz
      refine ⟨c, _, rfl, .of hc', rfl, _, _, rfl, _, _, rfl, rfl, ?_⟩
      obtain ⟨e1, e2, rfl, hst, hda⟩ : ∃ e1 es, ev = V.ref e1 ∧ SqT K G' e1 es ∧ DpAll K G' es [.str z.2.1, .str z.2.2.1, .tuple (z.2.2.2.map tD)] := by
        cases hev' with
        | tup h1 h2 => exact ⟨_, _, rfl, h1, h2⟩
      cases hda with
      | cons d1 d2 =>
        cases d1
        have hnod : z.2.1 ∉ (ty.2.2.take j).map (·.2.1) := by
          have nd := hent.1
          rw [← List.take_append_drop j ty.2.2, List.map_append] at nd
          intro y
          refine (List.nodup_append.mp nd).2.2 _ y z.2.1 ?_ rfl
          rw [List.drop_eq_getElem_cons hj, List.map_cons, ez]
          exact List.mem_cons_self
        refine ⟨_, rfl, e1, _, 0, .str z.2.1, rfl, rfl, hst, atI_nat (j := 0) rfl, _, rfl, nl, _, rfl, .inl (.of hn), rfl, flat_strs _, _, rfl, ?_⟩
        show if inV (V.str z.2.1) _ = true then _ else _
        rw [inV_strs, decide_eq_false hnod]
        have a6 : Sx (fun b => b = nl) G' (upd G' nl (.lst (((ty.2.2.take j).map (·.2.1)).map V.str ++ [.str z.2.1]))) := Sx.put hn rfl
        refine iteF ⟨_, rfl, .inl ⟨rfl, _, .of hn⟩, _, rfl, e1, _, 0, .str z.2.1, rfl, rfl, hst, atI_nat (j := 0) rfl, nl, _, _, rfl, rfl, hn, ?_, _, _, rfl, aa.trans a6, ?_⟩
        · rw [List.length_map, List.length_map, List.length_take]
          have := hent.2
          omega
        · rw [upd_same, List.take_succ_eq_append_getElem hj, ez, List.map_append, List.map_append]
          rfl
    · subst eτ
      refine ⟨_, _, _, _, _, _, rfl, (a2.trans (a34.trans a5)).after aa fun c o e m => ?_⟩
      rw [m] at e
      rw [hn0] at e
      cases e
  · subst eτ
    refine ⟨_, rfl, false, .inl ⟨[], .of (a.atS hf1), rfl⟩, iteF (hQ _ (a1.trans a))⟩
end
end K83
namespace K83
open PySem PySem.Spec PyProof.Rows L2 L2.DX GxR
/-! ### the schema as data; entry_of, walked over the bare heap -/
abbrev Sch : Type := List (Str × List Sen)
def schD (S : Sch) : PyData := .tuple (S.map fun p => .tuple [.str p.1, .tuple (p.2.map entD)])
def entF (kind name : Str) (p : Str × List Sen) : Option Sen := if p.1 = kind then p.2.find? (fun e => decide (e.1 = name)) else none
def entOf (S : Sch) (kind name : Str) : Option Sen := S.findSome? (entF kind name)
section
variable {s0 s : Shared} {L : Addr} {m : Str → Option Value}
theorem ic_keep {I : Addr} {h' : Heap} {tk : Nat} (x : InCall s0 L m s) (k : ∀ b o, b ≠ I → s.heap.get? b = some o → h'.get? b = some o) (n : L ≠ I) (hI : s0.heap.objs.size ≤ I) : InCall s0 L m { s with heap := h', toks := tk } := by
  obtain ⟨h, t, e⟩ := x.same
  refine ⟨⟨h', tk, by rw [e]⟩, ?_, fun b o eb => k b o (fun z => ?_) (x.keep b o eb), x.fresh⟩
  · obtain ⟨o, es, ep, ho, r⟩ := x.ns
    exact ⟨o, es, ep, k L o n ho, r⟩
  · have := Heap.lt_size eb
    rw [z] at this
    exact absurd (Nat.lt_of_lt_of_le this hI) (Nat.lt_irrefl _)
theorem ic_keeps {s1 : Shared} (x : InCall s0 L m s) (k : Keeps s s1) : InCall s0 L m s1 := by
  obtain ⟨h, t, e⟩ := x.same
  obtain ⟨h1, t1, e1, k1⟩ := k
  subst e1
  exact ⟨⟨h1, t1, by rw [e]⟩, x.ns.keeps k1, fun b o eb => k1 b o (x.keep b o eb), x.fresh⟩
theorem ic_done (x : InCall s0 L m s) : Keeps s0 s := by
  obtain ⟨h, t, e⟩ := x.same
  exact ⟨h, t, e, fun b o eb => by have := x.keep b o eb; rw [e] at this; exact this⟩
theorem ic_store {M : Model} {A : Around} {E : Value → Shared → Prop} {env : Env} {x : Str} {v : Value} {Q : Unit → Shared → Prop} (i : InCall s0 L m s) (hL : env.locals = L) (hl : env.kindOf x = some .local) (hp : (env.scope.kind == .class || (env.scope.kind == .module && env.locals != env.globals)) = false)
    (h : ∀ s', InCall s0 L (fun y => if y = x then some v else m y) s' → (∀ b o, b ≠ L → s.heap.get? b = some o → s'.heap.get? b = some o) → Q () s') : wpAny M A (storeName env x v) Q E s := by
  subst hL
  refine wpAny_storeName_local hl i.ns (fun h' hn sb => h _ ?_ fun b o hb e => (sb.2 b hb).trans e) hp
  obtain ⟨g, t, e⟩ := i.same
  refine ⟨⟨h', s.toks + 1, by rw [e]⟩, hn, fun b o eb => (sb.2 b fun z => ?_).trans (i.keep b o eb), i.fresh⟩
  have := Heap.lt_size eb
  rw [z] at this
  exact absurd (Nat.lt_of_lt_of_le this i.fresh) (Nat.lt_irrefl _)
end
/-- an entry of a type: a tuple whose first item is its name -/
def EnA (h : Heap) (R : Value → Sen → Prop) (v : Value) (e : Sen) : Prop := R v e ∧ ∃ b its w0, v = .ref b ∧ IsTup h b its ∧ its[0]? = some w0 ∧ RelV (.str e.1) w0 ∧ its.size ≤ sizeLine
/-- a type: a tuple of its name and the tuple of its entries -/
def TpA (h : Heap) (R : Value → Sen → Prop) (v : Value) (p : Str × List Sen) : Prop := ∃ b w1 e eits, v = .ref b ∧ IsTup h b #[w1, .ref e] ∧ RelV (.str p.1) w1 ∧ IsTup h e eits ∧ Paired (EnA h R) eits.toList p.2
def ScA (h : Heap) (R : Value → Sen → Prop) (u : Value) (S : Sch) : Prop := ∃ t its, u = .ref t ∧ IsTup h t its ∧ Paired (TpA h R) its.toList S
section
variable {P : Program} {w : World} {A : Around} {env : Env} {m : Str → Option Value} {g : Heap} {a b : Expr} {pos : Pos} {s0 s : Shared} {L : Addr}
/-- a test of two texts -/
theorem if_eq {E : Value → Shared → Prop} {x y : Str} {yes no : List Stmt} {Q : Flow → Shared → Prop} (ha : PU P w A env m s0.heap a (.str x)) (hb : PU P w A env m s0.heap b (.str y)) (i : InCall s0 env.locals m s) (hm : behindInMarks .Eq b = false)
    (h1 : x = y → ∀ s', InCall s0 env.locals m s' → (∀ b o, s.heap.get? b = some o → s'.heap.get? b = some o) → wpAny (model P w) A (execs yes env) Q E s') (h2 : x ≠ y → ∀ s', InCall s0 env.locals m s' → (∀ b o, s.heap.get? b = some o → s'.heap.get? b = some o) → wpAny (model P w) A (execs no env) Q E s') :
    wpAny (model P w) A (exec (.If (.Compare a [.Eq] [b] pos) yes no pos) env) Q E s := by
  refine wpAny_If (wpAny_isTrue_Compare1 (thn (ha.run s E i.ns i.keep) fun u s1 ⟨r1, k1⟩ => thn (hb.run s1 E (kNs k1 i.ns) (kHp k1 i.keep)) fun u2 s2 ⟨r2, k2⟩ => ?_) hm)
  obtain ⟨t1, rfl⟩ := r1
  obtain ⟨t2, rfl⟩ := r2
  have i2 := ic_keeps i (kTr k1 k2)
  have kk : ∀ b o, s.heap.get? b = some o → s2.heap.get? b = some o := by
    obtain ⟨h, t, e, k⟩ := kTr k1 k2
    subst e
    exact k
  refine PySem.P.eq_str (wpAny_truthy_bool ?_)
  have eb : (x.cps.toList == y.cps.toList) = decide (x = y) := by
    rw [Bool.eq_iff_iff]
    cases x
    cases y
    simp
  by_cases e : x = y
  · rw [decide_eq_true e] at eb
    rw [eb]
    exact iteT (h1 e s2 i2 kk)
  · rw [decide_eq_false e] at eb
    rw [eb]
    exact iteF (h2 e s2 i2 kk)
end
/-- what the frame holds -/
def Mk3 (m : Str → Option Value) (u1 u2 u3 : Value) : Prop := m "schema" = some u1 ∧ m "kind" = some u2 ∧ m "name" = some u3
theorem Mk3.set {m : Str → Option Value} {u1 u2 u3 v : Value} {x : Str} (h : Mk3 m u1 u2 u3) (n1 : ¬ ("schema" : Str) = x) (n2 : ¬ ("kind" : Str) = x) (n3 : ¬ ("name" : Str) = x) : Mk3 (fun y => if y = x then some v else m y) u1 u2 u3 :=
  ⟨(if_neg n1).trans h.1, (if_neg n2).trans h.2.1, (if_neg n3).trans h.2.2⟩
section
variable {P : Program} {w : World} {K : PySem.W.Frag} {mg : Str → Option Value} {base : Heap}
/-- the answer, over the heap -/
def EntR (R : Value → Sen → Prop) (S : Sch) (kind name : Str) (u : Value) : Prop := (entOf S kind name = none ∧ u = .none) ∨ ∃ e, entOf S kind name = some e ∧ R u e
theorem entOf_pre {S : Sch} {kind name : Str} {i : Nat} (h : ∀ j (hj : j < S.length), j < i → entF kind name S[j] = none) (hi : i < S.length) {e : Sen} (he : entF kind name S[i] = some e) : entOf S kind name = some e := by
  unfold entOf
  induction S generalizing i with
  | nil => simp at hi
  | cons p S ih =>
    cases i with
    | zero =>
      rw [List.findSome?_cons]
      have he : entF kind name p = some e := he
      rw [he]
    | succ i =>
      have h0 := h 0 (by simp) (by omega)
      rw [List.findSome?_cons]
      have h0 : entF kind name p = none := h0
      rw [h0]
      exact ih (i := i) (fun j hj hji => h (j + 1) (by simp; omega) (by omega)) (by simpa using hi) he
theorem entOf_none {S : Sch} {kind name : Str} (h : ∀ j (hj : j < S.length), entF kind name S[j] = none) : entOf S kind name = none := by
  unfold entOf
  rw [List.findSome?_eq_none_iff]
  intro p hp
  obtain ⟨j, hj, e⟩ := List.getElem_of_mem hp
  rw [← e]
  exact h j hj
theorem find_pre {l : List Sen} {name : Str} {i : Nat} (h : ∀ j (hj : j < l.length), j < i → l[j].1 ≠ name) (hi : i < l.length) (he : l[i].1 = name) : l.find? (fun e => decide (e.1 = name)) = some l[i] := by
  induction l generalizing i with
  | nil => simp at hi
  | cons p l ih =>
    cases i with
    | zero => rw [List.find?_cons_of_pos (by simpa using he)]; rfl
    | succ i =>
      have h0 : p.1 ≠ name := h 0 (by simp) (by omega)
      rw [List.find?_cons_of_neg (by simpa using h0)]
      exact ih (fun j hj hji => h (j + 1) (by simp; omega) (by omega)) (by simpa using hi) he
theorem find_no {l : List Sen} {name : Str} (h : ∀ j (hj : j < l.length), l[j].1 ≠ name) : l.find? (fun e => decide (e.1 = name)) = none := by
  rw [List.find?_eq_none]
  intro e he
  obtain ⟨j, hj, ej⟩ := List.getElem_of_mem he
  have := h j hj
  rw [ej] at this
  simpa using this
theorem ent_walk {A : Around} {R : Value → Sen → Prop} {S : Sch} {kind name : Str} {s0 s1 : Shared} {env : Env} {m0 : Str → Option Value} {u1 u2 u3 : Value} (hA : A.handled = none) (he : env.scope = defScope s_entry_of) (i0 : InCall s0 env.locals m0 s1) (hm0 : Mk3 m0 u1 u2 u3)
    (h1 : ScA s0.heap R u1 S) (h2 : RelV (.str kind) u2) (h3 : RelV (.str name) u3) :
    wpAny (model P w) A (execs (defBody s_entry_of) env) (fun fl s' => ∃ u, fl = .ret u ∧ EntR R S kind name u ∧ Keeps s0 s') (fun _ _ => False) s1 := by
  have hk : env.scope.kind = .function := by rw [he]; rfl
  have hp : (env.scope.kind == .class || (env.scope.kind == .module && env.locals != env.globals)) = false := by rw [he]; rfl
  have l1 : env.kindOf "schema" = some .local := by show env.scope.names.lookup _ = _; rw [he]; rfl
  have l2 : env.kindOf "kind" = some .local := by show env.scope.names.lookup _ = _; rw [he]; rfl
  have l3 : env.kindOf "name" = some .local := by show env.scope.names.lookup _ = _; rw [he]; rfl
  have l4 : env.kindOf "other" = some .local := by show env.scope.names.lookup _ = _; rw [he]; rfl
  have l5 : env.kindOf "entries" = some .local := by show env.scope.names.lookup _ = _; rw [he]; rfl
  have l6 : env.kindOf "entry" = some .local := by show env.scope.names.lookup _ = _; rw [he]; rfl
  obtain ⟨t, its, rfl, hit, hps⟩ := h1
  have lS : its.size = S.length := by rw [← Array.length_toList]; exact Paired.length hps
  refine wpAny_execs_cons (wpAny_mono (Q := fun fl s' => (∃ u, fl = .ret u ∧ EntR R S kind name u ∧ Keeps s0 s') ∨ (fl = .next ∧ entOf S kind name = none ∧ ∃ m, InCall s0 env.locals m s')) (E := fun _ _ => False) ?_ (fun fl s' hq => ?_) fun _ _ z => z)
  rotate_left
  · rcases hq with ⟨u, rfl, r, k⟩ | ⟨rfl, hn, m, i⟩
    · exact ⟨u, rfl, r, k⟩
    · exact wpAny_execs_cons (wpAny_Return_some (Constant_none ⟨_, rfl, .inl ⟨hn, rfl⟩, ic_done i⟩))
  -- the types
  refine exec_For_goes (wpAny_Name (wpAny_loadName_local hk l1 i0.ns hm0.1 (wpAny_pyIter_tuple (hit.keeps i0.keep) ?_)))
  have hlt : t < s1.heap.objs.size := by
    obtain ⟨o, ho, _⟩ := hit.keeps i0.keep
    exact Heap.lt_size ho
  have hLlt : env.locals < s1.heap.objs.size := i0.ns.lt
  refine ⟨s1.heap.objs.size, _, _, its.size, _, _, fun i s' => (∃ m, InCall s0 env.locals m s' ∧ Mk3 m (.ref t) u2 u3) ∧ (∀ j (hj : j < S.length), j < i → entF kind name S[j] = none), rfl, Goes.tuple hA _ t (Nat.ne_of_lt hlt) its, ⟨⟨_, Heap.get?_push_size _ rfl, rfl, rfl⟩, (hit.keeps i0.keep).keeps fun b o e => Heap.get?_push_of_some _ e⟩, ⟨⟨m0, ic_keep i0 (fun b o _ e => Heap.get?_push_of_some _ e) (Nat.ne_of_lt hLlt) (Nat.le_trans i0.fresh (Nat.le_of_lt hLlt)), hm0⟩, fun j _ hj => absurd hj (Nat.not_lt_zero j)⟩, ?_, ?_, ?_⟩
  · rintro i s' h' tk ⟨⟨m, hi, hm⟩, hpre⟩ hk2 _
    exact ⟨⟨m, ic_keep hi (fun b o hb e => hk2 b o (by simpa using hb) e) (Nat.ne_of_lt hLlt) (Nat.le_trans i0.fresh (Nat.le_of_lt hLlt)), hm⟩, hpre⟩
  · rintro i v s2 hin hv hst ⟨⟨m, hi, hm⟩, hpre⟩
    have hiS : i < S.length := by omega
    obtain ⟨p, hpp, b, w1, e, eits, rfl, hb, hw1, heit, hen⟩ := pr_get hps (i := i) (x := v) (by simpa using hv)
    have ep : S[i] = p := by
      rw [List.getElem?_eq_getElem hiS] at hpp
      exact Option.some.inj hpp
    have hIL : s1.heap.objs.size ≠ env.locals := Nat.ne_of_gt hLlt
    -- the iterator stands while only the frame changes
    have stay : ∀ s' : Shared, (∀ b o, b ≠ env.locals → s2.heap.get? b = some o → s'.heap.get? b = some o) → s'.heap.IsTupleIter s1.heap.objs.size t (i + 1) ∧ s'.heap.IsTuple t its := fun s' k => by
      obtain ⟨⟨o1, ho1, hc1, hd1⟩, o, ho, r⟩ := hst
      refine ⟨⟨o1, k _ o1 hIL ho1, hc1, hd1⟩, ?_⟩
      refine ⟨o, k t o (fun z => ?_) ho, r⟩
      obtain ⟨o2, es, ep2, ho2, hd2, _⟩ := hi.ns
      rw [z, ho2] at ho
      cases ho
      obtain ⟨hc, n, hd⟩ := r
      rw [hd2] at hd
      cases hd
    refine assign_Tuple_tuple hA (hb.keeps hi.keep) (by rfl) (by rfl) fun h' hx => ?_
    have kx : ∀ b o, s2.heap.get? b = some o → h'.get? b = some o := fun b o e => hx b o (Nat.ne_of_lt (Heap.lt_size e)) e
    have hi1 : InCall s0 env.locals m { s2 with heap := h' } := ic_keeps hi ⟨h', s2.toks, rfl, kx⟩
    refine assignInOrder_cons (wpAny_assign_Name (ic_store hi1 rfl l4 hp fun s3 i3 k3 => assignInOrder_cons (wpAny_assign_Name (ic_store i3 rfl l5 hp fun s4 i4 k4 => assignInOrder_nil ?_))))
    have k24 : ∀ b o, b ≠ env.locals → s2.heap.get? b = some o → s4.heap.get? b = some o := fun b o hb e => k4 b o hb (k3 b o hb (kx b o e))
    have hm4 : Mk3 (fun y => if y = "entries" then some (.ref e) else if y = "other" then some w1 else m y) (.ref t) u2 u3 := (hm.set (x := "other") (by decide) (by decide) (by decide)).set (by decide) (by decide) (by decide)
    have go : ∀ (s' : Shared) (m' : Str → Option Value), InCall s0 env.locals m' s' → Mk3 m' (.ref t) u2 u3 → (∀ b o, b ≠ env.locals → s2.heap.get? b = some o → s'.heap.get? b = some o) → entF kind name S[i] = none →
        ((∃ m, InCall s0 env.locals m s' ∧ Mk3 m (.ref t) u2 u3) ∧ ∀ j (hj : j < S.length), j < i + 1 → entF kind name S[j] = none) ∧ s'.heap.IsTupleIter s1.heap.objs.size t (i + 1) ∧ s'.heap.IsTuple t its := fun s' m' h1 h2 k hn =>
      ⟨⟨⟨m', h1, h2⟩, fun j hj hji => by
        by_cases z : j = i
        · subst z; exact hn
        · exact hpre j hj (by omega)⟩, stay s' k⟩
    refine wpAny_execs_cons (wpAny_mono (Q := fun fl s' => TurnEnds (fun v s' => (∃ u, Flow.ret v = .ret u ∧ EntR R S kind name u ∧ Keeps s0 s') ∨ (Flow.ret v = .next ∧ entOf S kind name = none ∧ ∃ m, InCall s0 env.locals m s')) (fun s' => False) (fun s' => (((∃ m, InCall s0 env.locals m s' ∧ Mk3 m (.ref t) u2 u3) ∧ ∀ j (hj : j < S.length), j < i + 1 → entF kind name S[j] = none) ∧ s'.heap.IsTupleIter s1.heap.objs.size t (i + 1) ∧ s'.heap.IsTuple t its)) fl s') (E := fun _ _ => False) ?_ (fun fl s' hq => ?_) fun _ _ z => z)
    rotate_left
    · cases fl with
      | ret v => exact hq
      | brk => exact hq.elim
      | next => exact wpAny_execs_nil hq
      | cont => exact hq
    refine if_eq (m := fun y => if y = "entries" then some (.ref e) else if y = "other" then some w1 else m y) (pu_loc hk l4 (v := .str p.1) (u := w1) (by rfl) hw1) (pu_loc hk l2 hm4.2.1 h2) i4 (by rfl) (fun eqk s5 i5 k5 => ?_) fun nek s5 i5 k5 => wpAny_execs_nil (go s5 _ i5 hm4 (fun b o hb e => k5 b o (k24 b o hb e)) (by rw [ep]; exact if_neg nek))
    -- its entries
    have k25 : ∀ b o, b ≠ env.locals → s2.heap.get? b = some o → s5.heap.get? b = some o := fun b o hb e => k5 b o (k24 b o hb e)
    have eF : entF kind name S[i] = p.2.find? (fun e => decide (e.1 = name)) := by rw [ep]; exact if_pos eqk
    have lE : eits.size = p.2.length := by rw [← Array.length_toList]; exact Paired.length hen
    have hLlt5 : env.locals < s5.heap.objs.size := i5.ns.lt
    have helt : e < s5.heap.objs.size := by
      obtain ⟨o, ho, _⟩ := heit.keeps i5.keep
      exact Heap.lt_size ho
    refine wpAny_execs_cons (wpAny_mono (Q := fun fl s' => (∃ u, fl = .ret u ∧ EntR R S kind name u ∧ Keeps s0 s') ∨ (fl = .next ∧ entF kind name S[i] = none ∧ (∃ m, InCall s0 env.locals m s' ∧ Mk3 m (.ref t) u2 u3) ∧ ∀ b o, b ≠ env.locals → s2.heap.get? b = some o → s'.heap.get? b = some o)) (E := fun _ _ => False) ?_ (fun fl s' hq => ?_) fun _ _ z => z)
    rotate_left
    · rcases hq with ⟨u, rfl, r, k⟩ | ⟨rfl, hn, ⟨m', h1, h2⟩, k⟩
      · exact .inl ⟨u, rfl, r, k⟩
      · exact wpAny_execs_nil (go s' m' h1 h2 k hn)
    refine exec_For_goes (wpAny_Name (wpAny_loadName_local hk l5 i5.ns (v := .ref e) (by rfl) (wpAny_pyIter_tuple (heit.keeps i5.keep) ?_)))
    refine ⟨s5.heap.objs.size, _, _, eits.size, _, _, fun j s' => ((∃ m, InCall s0 env.locals m s' ∧ Mk3 m (.ref t) u2 u3) ∧ ∀ b o, b ≠ env.locals → s2.heap.get? b = some o → s'.heap.get? b = some o) ∧ (∀ k (hk : k < p.2.length), k < j → p.2[k].1 ≠ name), rfl, Goes.tuple hA _ e (Nat.ne_of_lt helt) eits, ⟨⟨_, Heap.get?_push_size _ rfl, rfl, rfl⟩, (heit.keeps i5.keep).keeps fun b o e => Heap.get?_push_of_some _ e⟩, ⟨⟨⟨_, ic_keep i5 (fun b o _ e => Heap.get?_push_of_some _ e) (Nat.ne_of_lt hLlt5) (Nat.le_trans i5.fresh (Nat.le_of_lt hLlt5)), hm4⟩, fun b o hb e => Heap.get?_push_of_some _ (k25 b o hb e)⟩, fun k _ hk => absurd hk (Nat.not_lt_zero k)⟩, ?_, ?_, ?_⟩
    · rintro j s' h' tk ⟨⟨⟨m', hi', hm'⟩, kk⟩, hpre'⟩ hk2 _
      refine ⟨⟨⟨m', ic_keep hi' (fun b o hb e => hk2 b o (by simpa using hb) e) (Nat.ne_of_lt hLlt5) (Nat.le_trans i5.fresh (Nat.le_of_lt hLlt5)), hm'⟩, fun b o hb e => hk2 b o (fun z => ?_) (kk b o hb e)⟩, hpre'⟩
      have z : b = s5.heap.objs.size := by simpa using z
      have := Heap.lt_size (k25 b o hb e)
      rw [z] at this
      exact Nat.lt_irrefl _ this
    · rintro j v s6 hjn hv6 hst6 ⟨⟨⟨m', hi', hm'⟩, kk⟩, hpre'⟩
      have hjp : j < p.2.length := by omega
      obtain ⟨en, hen6, hR, b6, its6, w0, rfl, hb6, hw0, hrw0, hz6⟩ := pr_get hen (i := j) (x := v) (by simpa using hv6)
      have een : p.2[j] = en := by
        rw [List.getElem?_eq_getElem hjp] at hen6
        exact Option.some.inj hen6
      refine wpAny_assign_Name (ic_store hi' rfl l6 hp fun s7 i7 k7 => ?_)
      have hm7 : Mk3 (fun y => if y = "entry" then some (.ref b6) else m' y) (.ref t) u2 u3 := hm'.set (by decide) (by decide) (by decide)
      have hIJ : s5.heap.objs.size ≠ env.locals := Nat.ne_of_gt hLlt5
      have stay2 : ∀ s' : Shared, (∀ b o, b ≠ env.locals → s6.heap.get? b = some o → s'.heap.get? b = some o) → s'.heap.IsTupleIter s5.heap.objs.size e (j + 1) ∧ s'.heap.IsTuple e eits := fun s' k => by
        obtain ⟨⟨o1, ho1, hc1, hd1⟩, o, ho, r⟩ := hst6
        refine ⟨⟨o1, k _ o1 hIJ ho1, hc1, hd1⟩, o, k e o (fun z => ?_) ho, r⟩
        obtain ⟨o2, es, ep2, ho2, hd2, _⟩ := hi'.ns
        rw [z, ho2] at ho
        cases ho
        obtain ⟨hc, n, hd⟩ := r
        rw [hd2] at hd
        cases hd
      refine wpAny_execs_cons (wpAny_mono (Q := fun fl s' => (∃ u, fl = .ret u ∧ EntR R S kind name u ∧ Keeps s0 s') ∨ (fl = .next ∧ (((∃ m, InCall s0 env.locals m s' ∧ Mk3 m (.ref t) u2 u3) ∧ ∀ b o, b ≠ env.locals → s2.heap.get? b = some o → s'.heap.get? b = some o) ∧ (∀ k (hk : k < p.2.length), k < j + 1 → p.2[k].1 ≠ name)) ∧ s'.heap.IsTupleIter s5.heap.objs.size e (j + 1) ∧ s'.heap.IsTuple e eits)) (E := fun _ _ => False) ?_ (fun fl s' hq => ?_) fun _ _ z => z)
      rotate_left
      · rcases hq with ⟨u, rfl, r, k⟩ | ⟨rfl, h⟩
        · exact .inl ⟨u, rfl, r, k⟩
        · exact wpAny_execs_nil h
      refine if_eq (m := fun y => if y = "entry" then some (.ref b6) else m' y) (pu_ixT (i := 0) (pu_loc hk l6 (v := .ref b6) (u := .ref b6) (by rfl) rfl) hb6 hw0 hrw0 hz6) (pu_loc hk l3 hm7.2.2 h3) i7 (by rfl) (fun eqn s8 i8 k8 => ?_) fun nen s8 i8 k8 => ?_
      · refine wpAny_execs_cons (wpAny_Return_some (wpAny_Name (wpAny_loadName_local hk l6 i8.ns (v := .ref b6) (by rfl) (.inl ⟨_, rfl, .inr ⟨en, ?_, hR⟩, ic_done i8⟩))))
        refine entOf_pre hpre hiS ?_
        rw [eF, ← een]
        exact find_pre hpre' hjp (by rw [een]; exact eqn)
      · refine wpAny_execs_nil (.inr ⟨rfl, ⟨⟨⟨_, i8, hm7⟩, fun b o hb e => k8 b o (k7 b o hb (kk b o hb e))⟩, fun k hk hkj => ?_⟩, stay2 s8 fun b o hb e => k8 b o (k7 b o hb e)⟩)
        by_cases z : k = j
        · subst z
          rw [een]
          exact nen
        · exact hpre' k hk (by omega)
    · rintro s' ⟨⟨⟨m', hi', hm'⟩, kk⟩, hpre'⟩
      refine wpAny_execs_nil (.inr ⟨rfl, ?_, ⟨m', hi', hm'⟩, kk⟩)
      rw [eF]
      exact find_no fun k hk => hpre' k hk (by omega)
  · rintro s' ⟨⟨m, hi, hm⟩, hpre⟩
    exact wpAny_execs_nil (.inr ⟨rfl, entOf_none fun j hj => hpre j hj (by omega), m, hi⟩)
theorem ent_code (W : Wd K mg base) {A : Around} {R : Value → Sen → Prop} {S : Sch} {kind name : Str} {s : Shared} {u1 u2 u3 : Value} (kin : K.In s.heap) (lim : s.heap.NoLimit) (hh : A.handled = none) (hd : A.depth < recursionLimit)
    (h1 : ScA s.heap R u1 S) (h2 : RelV (.str kind) u2) (h3 : RelV (.str name) u3) {args : Args} (hb : BindsTo s (F_entry_of K) args [("schema", u1), ("kind", u2), ("name", u3)]) :
    codeAny (model P w) A (.call (.ref (A_entry_of K)) args) (fun r s' => ∃ u, r = .ok (.ret u) ∧ EntR R S kind name u ∧ Keeps s s') s := by
  obtain ⟨oc, od, dV, kV, doc, pm, an, cdv, ct, osl, e, lk, hcd, _, _⟩ := W.fu_entry_of.ex
  rw [e] at lk hb
  refine Att.call_fn kin lim lk hcd hd hb (by rfl) (fun s1 x => ?_) rfl rfl rfl
  refine wpAny_mono (ent_walk (P := P) (w := w) (A := A.deeper (envOfC "entry_of" (defScope s_entry_of) s.heap.objs.size (A_entry_of K) cdv)) (s0 := s) (env := envOfC "entry_of" (defScope s_entry_of) s.heap.objs.size (A_entry_of K) cdv) hh rfl x.toInCall ⟨rfl, rfl, rfl⟩ h1 h2 h3) (fun fl s' ⟨u, ef, r, k⟩ => ?_) fun _ _ z => z.elim
  subst ef
  exact ⟨u, rfl, r, k⟩
/-- from the tracked data -/
theorem sqt_at {H : Hp} {h : Heap} {a : Addr} {xs : List V} (hok : HOk P w H h) (kin : K.In h) (hs : SqT K H a xs) : ∃ its : List Value, Vals xs its ∧ IsTup h a its.toArray ∧ xs.length ≤ sizeLine := by
  rcases hs with hs | ⟨o, its, n, hk, hc, hd, hz, r⟩
  · obtain ⟨z, its, r, p⟩ := hs.ok hok
    exact ⟨its, r, p, z⟩
  · refine ⟨its.toList, r, ⟨o, kin a o hk, hc, n, by simpa using hd⟩, ?_⟩
    have e := r.length
    simp only [Array.length_toList] at e
    omega
def DpR (K : PySem.W.Frag) (H : Hp) (u : Value) (e : Sen) : Prop := ∃ v, RelV v u ∧ Dp K H v (entD e)
theorem ena_of {H : Hp} {h : Heap} (hok : HOk P w H h) (kin : K.In h) {v : V} {u : Value} {e : Sen} (r : RelV v u) (hd : Dp K H v (entD e)) : EnA h (DpR K H) u e := by
  refine ⟨⟨v, r, hd⟩, ?_⟩
  cases hd with
  | tup hs ha =>
    cases r
    obtain ⟨its, rv, ht, hz⟩ := sqt_at hok kin hs
    cases ha with
    | cons d1 _ =>
      cases d1
      obtain ⟨w0, hw0, rw0⟩ := rv.get (i := 0) rfl
      exact ⟨_, _, w0, rfl, ht, by simpa using hw0, rw0, by rw [List.size_toArray, ← rv.length]; exact hz⟩
theorem enas_of {H : Hp} {h : Heap} (hok : HOk P w H h) (kin : K.In h) : ∀ (ens : List Sen) {xs : List V} {its : List Value}, DpAll K H xs (ens.map entD) → Vals xs its → Paired (EnA h (DpR K H)) its ens
  | [], _, _, ha, rv => by cases ha; cases rv; exact .nil
  | e :: ens, _, _, ha, rv => by
    cases ha with
    | cons f1 f2 =>
      cases rv with
      | cons g1 g2 => exact .cons (ena_of hok kin g1 f1) (enas_of hok kin ens f2 g2)
theorem sca_of {H : Hp} {h : Heap} (hok : HOk P w H h) (kin : K.In h) {v : V} {u : Value} {S : Sch} (r : RelV v u) (hd : Dp K H v (schD S)) : ScA h (DpR K H) u S := by
  cases hd with
  | tup hs ha =>
    cases r
    obtain ⟨its, rv, ht, hz⟩ := sqt_at hok kin hs
    refine ⟨_, _, rfl, ht, ?_⟩
    show Paired (TpA h (DpR K H)) its S
    clear ht hz hs
    rename_i xs
    induction S generalizing xs its with
    | nil => cases ha; cases rv; exact .nil
    | cons p S ih =>
      cases ha with
      | cons d1 d2 =>
        cases rv with
        | cons r1 r2 =>
          refine .cons ?_ (ih (xs := _) d2 _ r2)
          cases d1 with
          | tup hs1 ha1 =>
            cases r1
            obtain ⟨its1, rv1, ht1, _⟩ := sqt_at hok kin hs1
            cases ha1 with
            | cons e1 e2 =>
              cases e2 with
              | cons e3 e4 =>
                cases e4
                cases e1
                cases e3 with
                | tup hs2 ha2 =>
                  cases rv1 with
                  | cons q1 q2 =>
                    cases q2 with
                    | cons q3 q4 =>
                      cases q4
                      cases q3
                      obtain ⟨its2, rv2, ht2, _⟩ := sqt_at hok kin hs2
                      refine ⟨_, _, _, _, rfl, ht1, q1, ht2, ?_⟩
                      exact enas_of hok kin p.2 ha2 rv2
/-- entry_of's promise -/
def sp_entry_of (K : PySem.W.Frag) : Sp := fun vs H Q _ => ∃ (v : V) (S : Sch) (kind name : Str), vs = [v, .str kind, .str name] ∧ Dp K H v (schD S) ∧ (entOf S kind name = none → Q .non H) ∧ ∀ e u, entOf S kind name = some e → Dp K H u (entD e) → Q u H
theorem ok_entry_of (W : Wd K mg base) : FnOk P w K mg base CX0 1 (A_entry_of K) (F_entry_of K) ["schema", "kind", "name"] (sp_entry_of K) := by
  refine ⟨fun vs H Q E h => by obtain ⟨_, _, _, _, rfl, _⟩ := h; rfl, fun A outer s H args us vs Q E hr e0 hb r hsp => ?_⟩
  obtain ⟨v, S, kind, name, rfl, hd, hn, hs⟩ := hsp
  cases r with
  | cons r1 r =>
    cases r with
    | cons r2 r =>
      cases r with
      | cons r3 r =>
        cases r
        have kin : K.In s.heap := e0.mod.kin.keeps fun b o e => (e0.bs b o e).1
        have lim : s.heap.NoLimit := e0.mod.nolimit.keeps fun b o e => (e0.bs b o e).1
        refine codeAny_mono (ent_code W kin lim hr.hd hr.depth (sca_of e0.hok kin r1 hd) r2 r3 hb) fun q s' ⟨u, eq, hR, k⟩ => ?_
        subst eq
        obtain ⟨h', tk, es, kk⟩ := k
        subst es
        have fin : ∀ {x : V}, RelV x u → Q x H → CE outer P w H s Q u { s with heap := h', toks := tk } := fun {x} rx q => ⟨x, H, rfl, e0.bare, Un.kept kk, e0.hok.kept kk, rx, q⟩
        rcases hR with ⟨h1, rfl⟩ | ⟨e, h1, x, rx, dx⟩
        · exact fin (x := .non) rfl (hn h1)
        · exact fin rx (hs e x h1 dx)
end
end K83
namespace K83
open PySem PySem.Spec PyProof.Rows L2 L2.DX GxR
/-! ### elements over pairs of texts -/
def prF (s1 : Shared) (u : Value) (n : Nat) : Nat → Array Value → Prop := fun j v => j < n ∧ v = itsOf s1 ((itsOf s1 u)[j]?.getD .none)
def TusK (K : PySem.W.Frag) (H : Hp) (xs : List V) (l : List (List Str)) : Prop := Paired (fun x k => ∃ b, x = V.ref b ∧ SqT K H b (k.map V.str)) xs l
section
variable {X : Cx} {pins : List (Addr × Obj)} {σ : L2.St} {H1 : Hp} {s1 : Shared} {T : Addr}
/-- a pair at its place -/
theorem pair_at (I : Inv X pins σ H1 s1) {xs : List V} {l : List (List Str)} {its : List Value} (rv : Vals xs its) (ht : TusK X.K H1 xs l) (h2 : ∀ k ∈ l, k.length = 2) {i : Nat} {k : List Str} (hi : l[i]? = some k) :
    ∃ b a1 a2 w1 w2, its[i]? = some (.ref b) ∧ SqT X.K H1 b [.str a1, .str a2] ∧ k = [a1, a2] ∧ IsTup s1.heap b #[w1, w2] ∧ RelV (.str a1) w1 ∧ RelV (.str a2) w2 := by
  obtain ⟨x, hx, b, rfl, hb⟩ := pr_get2 ht hi
  obtain ⟨u, hu, ru⟩ := rv.get hx
  cases ru
  have hl := h2 k (List.mem_of_getElem? hi)
  match k, hl with
  | [a1, a2], _ =>
    obtain ⟨pits, pr, pt, _⟩ := I.tuple hb
    cases pr with
    | cons q1 q2 =>
      cases q2 with
      | cons q3 q4 =>
        cases q4
        exact ⟨b, a1, a2, _, _, hu, hb, rfl, pt, q1, q3⟩
theorem src_pairs (isL : Bool) {v : V} {u : Value} {a : Addr} {xs : List V} {l : List (List Str)} (I : Inv X pins σ H1 s1) (hT : TabG H1 T) (r : RelV v u) (ev : v = .ref a) (hs : if isL then SqL X.K H1 a xs else SqT X.K H1 a xs) (ht : TusK X.K H1 xs l) (h2 : ∀ k ∈ l, k.length = 2) :
    Src2 X.prog X.w T s1 u l.length (prF s1 u l.length) := by
  subst ev
  cases r
  obtain ⟨ps, hP⟩ := tab_at I hT
  obtain ⟨its, rv, hit, ho, hne⟩ : ∃ its : List Value, Vals xs its ∧ itsOf s1 (.ref a) = its.toArray ∧ (if isL then s1.heap.IsList a its.toArray else s1.heap.IsTuple a its.toArray) ∧ a ≠ T := by
    cases isL with
    | true =>
      obtain ⟨its, rv, pl, _⟩ := I.list hs
      refine ⟨its, rv, itsOf_list pl.isList, pl.isList, fun z => ?_⟩
      obtain ⟨o, n, e, _, _, hd⟩ := pl
      rw [z, hP] at e
      cases e
      cases hd
    | false =>
      obtain ⟨its, rv, pl, _⟩ := I.tuple hs
      refine ⟨its, rv, itsOf_tup pl, pl, fun z => ?_⟩
      obtain ⟨o, e, hc, n, hd⟩ := pl
      rw [z, hP] at e
      cases e
      cases hd
  have hlen : its.length = l.length := by rw [← rv.length]; exact Paired.length ht
  have hat : ∀ i, i < l.length → ∃ b w1 w2, its[i]? = some (.ref b) ∧ IsTup s1.heap b #[w1, w2] ∧ b ≠ T := fun i hi => by
    obtain ⟨b, a1, a2, w1, w2, h1, hb, _, h3, _⟩ := pair_at I rv ht h2 (List.getElem?_eq_getElem hi)
    refine ⟨b, w1, w2, h1, h3, fun z => ?_⟩
    obtain ⟨o, e, hc, n, hd⟩ := h3
    rw [z, hP] at e
    cases e
    cases hd
  have hTs : ∃ Ts : Nat → Addr, ∀ i, i < l.length → its[i]? = some (.ref (Ts i)) ∧ (∃ w1 w2, IsTup s1.heap (Ts i) #[w1, w2]) ∧ Ts i ≠ T := by
    refine ⟨fun i => if h : i < l.length then (hat i h).choose else 0, fun i hi => ?_⟩
    dsimp only
    rw [dif_pos hi]
    obtain ⟨w1, w2, h1, h2, h3⟩ := (hat i hi).choose_spec
    exact ⟨h1, ⟨w1, w2, h2⟩, h3⟩
  obtain ⟨Ts, hTs⟩ := hTs
  have hvals : ∀ i, i < l.length → itsOf s1 ((itsOf s1 (.ref a))[i]?.getD .none) = itsOf s1 (.ref (Ts i)) := fun i hi => by
    rw [hit, List.getElem?_toArray, (hTs i hi).1]
    rfl
  have hlt : a < s1.heap.objs.size := by
    cases isL with
    | true => obtain ⟨o, e, _⟩ := ho; exact Heap.lt_size e
    | false => obtain ⟨o, e, _⟩ := ho; exact Heap.lt_size e
  have two : ∀ i vals, prF s1 (.ref a) l.length i vals → ∃ va vb, vals = #[va, vb] := fun i vals ⟨hi, e⟩ => by
    obtain ⟨w1, w2, h⟩ := (hTs i hi).2.1
    rw [e, hvals i hi, itsOf_tup h]
    exact ⟨w1, w2, rfl⟩
  have tup : ∀ k, k < l.length → ∀ o, (s1.heap.push o).IsTuple (Ts k) (itsOf s1 ((itsOf s1 (.ref a))[k]?.getD .none)) := fun k hk o => by
    obtain ⟨w1, w2, h⟩ := (hTs k hk).2.1
    rw [hvals k hk, itsOf_tup h]
    exact h.keeps fun b o e => Heap.get?_push_of_some _ e
  have ltT : ∀ k, k < l.length → Ts k < s1.heap.objs.size := fun k hk => by
    obtain ⟨w1, w2, o, e, _⟩ := (hTs k hk).2.1
    exact Heap.lt_size e
  have fpok : ∀ b ∈ [s1.heap.objs.size, a] ++ (List.range l.length).map Ts, b ≠ T ∧ b < s1.heap.objs.size + 1 := fun b hb => by
    rcases List.mem_append.mp hb with z | z
    · rcases List.mem_cons.mp z with e | e
      · subst e
        exact ⟨Nat.ne_of_gt (Heap.lt_size hP), Nat.lt_succ_self _⟩
      · have e : b = a := by simpa using e
        subst e
        exact ⟨hne, Nat.lt_succ_of_lt hlt⟩
    · obtain ⟨k, hk, rfl⟩ := List.mem_map.mp z
      have hk := List.mem_range.mp hk
      exact ⟨(hTs k hk).2.2, Nat.lt_succ_of_lt (ltT k hk)⟩
  intro A E Q h
  have conv : ∀ j v, j < l.length → its.toArray[j]? = some v → v = .ref (Ts j) := fun j v hj e => by
    rw [List.getElem?_toArray, (hTs j hj).1] at e
    exact (Option.some.inj e).symm
  have hsz : its.toArray.size = l.length := by simpa using hlen
  cases isL with
  | true =>
    refine wpAny_pyIter_list ho ?_
    refine h _ _ _ _ (fun A' hA => by
      have W := Walks.list (prog := X.prog) (w := X.w) (A := A') hA s1.heap.objs.size a (Nat.ne_of_lt hlt) its.toArray
      rw [hsz] at W
      exact walksU_of W Ts (fun j => itsOf s1 ((itsOf s1 (.ref a))[j]?.getD .none)) (fun j v hj e => conv j v hj e) (fun j hj z => Nat.ne_of_lt (ltT j hj) (by simpa using z)) fun elts k pos i v s Q E st q => by
        obtain ⟨o, ho, hc, hd⟩ := st.1
        exact letGo_of_cls ho hc hd (by decide) q) ?_ fpok two
    exact ⟨⟨⟨_, Heap.get?_push_size _ rfl, rfl, rfl⟩, ho.push _⟩, fun k hk => tup k hk _⟩
  | false =>
    refine wpAny_pyIter_tuple ho ?_
    refine h _ _ _ _ (fun A' hA => by
      have W := Walks.tuple (prog := X.prog) (w := X.w) (A := A') hA s1.heap.objs.size a (Nat.ne_of_lt hlt) its.toArray
      rw [hsz] at W
      exact walksU_of W Ts (fun j => itsOf s1 ((itsOf s1 (.ref a))[j]?.getD .none)) (fun j v hj e => conv j v hj e) (fun j hj z => Nat.ne_of_lt (ltT j hj) (by simpa using z)) fun elts k pos i v s Q E st q => by
        obtain ⟨o, ho, hc, hd⟩ := st.1
        exact letGo_of_cls ho hc hd (by decide) q) ?_ fpok two
    exact ⟨⟨⟨_, Heap.get?_push_size _ rfl, rfl, rfl⟩, IsTup.keeps ho fun b o e => Heap.get?_push_of_some _ e⟩, fun k hk => tup k hk _⟩
theorem pr_el (isL : Bool) {a : Addr} {xs : List V} {l : List (List Str)} (I : Inv X pins σ H1 s1) (hs : if isL then SqL X.K H1 a xs else SqT X.K H1 a xs) (ht : TusK X.K H1 xs l) (h2 : ∀ k ∈ l, k.length = 2) {i : Nat} {va vb : Value} (h : prF s1 (.ref a) l.length i #[va, vb]) :
    ∃ a1 a2, l[i]? = some [a1, a2] ∧ RelV (.str a1) va ∧ RelV (.str a2) vb := by
  obtain ⟨hi, e⟩ := h
  obtain ⟨its, rv, hit⟩ : ∃ its : List Value, Vals xs its ∧ itsOf s1 (.ref a) = its.toArray := by
    cases isL with
    | true =>
      obtain ⟨its, rv, pl, _⟩ := I.list hs
      exact ⟨its, rv, itsOf_list pl.isList⟩
    | false =>
      obtain ⟨its, rv, pl, _⟩ := I.tuple hs
      exact ⟨its, rv, itsOf_tup pl⟩
  obtain ⟨b, a1, a2, w1, w2, h1, hb, ek, h3, r1, r2⟩ := pair_at I rv ht h2 (List.getElem?_eq_getElem hi)
  rw [hit, List.getElem?_toArray, h1] at e
  have e : #[va, vb] = itsOf s1 (.ref b) := e
  rw [itsOf_tup h3] at e
  have e : [va, vb] = [w1, w2] := congrArg Array.toList e
  cases e
  exact ⟨a1, a2, by rw [List.getElem?_eq_getElem hi, ek], r1, r2⟩
end
mutual
theorem dp_of {K : PySem.W.Frag} {H H1 : Hp} (h : ∀ p xs, SqT K H p xs → SqT K H1 p xs) : ∀ (d : PyData) (v : V), noL d = true → Dp K H v d → Dp K H1 v d
  | .none, _, _, q => by cases q; exact .non
  | .bool b, _, _, q => by cases q; exact .bl b
  | .int i, _, _, q => by cases q; exact .int i
  | .str x, _, _, q => by cases q; exact .str x
  | .list ds, _, n, _ => by simp [noL] at n
  | .dict ds, _, n, _ => by simp [noL] at n
  | .tuple ds, _, n, q => by
    cases q with
    | tup hs ha => exact .tup (h _ _ hs) (dps_of h ds _ (by simpa [noL] using n) ha)
theorem dps_of {K : PySem.W.Frag} {H H1 : Hp} (h : ∀ p xs, SqT K H p xs → SqT K H1 p xs) : ∀ (ds : List PyData) (vs : List V), noLs ds = true → DpAll K H vs ds → DpAll K H1 vs ds
  | [], _, _, q => by cases q; exact .nil
  | d :: ds, _, n, q => by
    have n' : noL d = true ∧ noLs ds = true := by simpa [noLs] using n
    cases q with
    | cons h1 h2 => exact .cons (dp_of h d _ n'.1 h1) (dps_of h ds _ n'.2 h2)
end
theorem schD_noL (S : Sch) : noL (schD S) = true := by
  have h : noLs (S.map fun p => PyData.tuple [.str p.1, .tuple (p.2.map entD)]) = true := noLs_map _ _ fun p _ => by
    have h2 : noLs (p.2.map entD) = true := noLs_map _ _ fun e _ => entD_noL e
    simp [noL, noLs, h2]
  simp [schD, noL, h]
section
variable {X : Cx} {pins : List (Addr × Obj)} {σ : L2.St} {H1 : Hp} {s1 : Shared} {T : Addr}
theorem sqt_T {K : PySem.W.Frag} (hT : TabG H1 T) : ∀ p xs, SqT K H1 p xs → SqT K (fun b => if b = T then none else H1 b) p xs := fun p xs h => by
  obtain ⟨ps, hP, _⟩ := hT
  have go : ∀ {b o}, H1 b = some o → (∀ q, o ≠ .tbl q) → (if b = T then none else H1 b) = some o := fun {b o} e n => (if_neg fun z => by rw [z, hP] at e; exact n ps (Option.some.inj e).symm).trans e
  rcases h with (h | ⟨o, h⟩) | h
  · exact .inl (.inl (go h fun _ z => nomatch z))
  · exact .inl (.inr ⟨o, go h fun _ z => nomatch z⟩)
  · exact .inr h
theorem el_inT {j : Nat} {v : V} {u : Value} {z : InD} (I : Inv X pins σ H1 s1) (hT : TabG H1 T) (r : RelV v u) (h : InC X.K j σ v H1 z) {k : Nat} (hr : Room k X.A) {sc : Scope} {x x2 y : Str} {p1 p2 p3 : Pos} (S : GenSc X.env sc [x, x2])
    (hN : X.N[j]? = some y) (hc : X.env.scope.names.lookup y = some .cell) (hf : sc.names.lookup y = some .free) (hd : (x == ("__debug__" : Str)) = false := by decide) (hd2 : (y == ("__debug__" : Str)) = false := by decide) (hd3 : (y == ("__classdict__" : Str)) = false := by decide) :
    El2 X sc x x2 (.Compare (.Name x p1) [.In] [.Name y p2] p3) T s1 (prF s1 u z.l.length) (inB z) := by
  obtain ⟨rfl, hs, ht, h2, hσ, htl⟩ := h
  cases r
  intro L code bi A' E' i va vb s2 m2 hA hdp hu hF hn hm hm' hk
  obtain ⟨a1, a2, hl, r1, r2⟩ := pr_el false I hs ht h2 hF
  have eB : inB z i = decide (a1 ∈ z.ts) := by
    unfold inB
    rw [hl]
    rfl
  rw [eB]
  obtain ⟨c, uc, hcl, hcell, ru⟩ := free_at (x := y) I hT hk hN hc hσ
  have hok := hok_at I hT hk
  obtain ⟨_, its, n, rv, hobj⟩ := (show ObjOk X.prog X.w _ s2.heap z.t (.lst (z.ts.map V.str)) from hok z.t _ (at_of I hT htl))
  refine thn ((pu_cmp (k := decide (a1 ∈ z.ts)) (pu_loc (P := X.prog) (w := X.w) (A := A') (g := s2.heap) S.kind (S.loc x (by simp)) hm r1 hd) (pu_free S.kind hf (clo_at hf hcl) hcell ru hd2 hd3) ?_).run s2 E' hn fun _ _ e => e) fun y s3 h => h
  intro s E u1 u2 hg q1 q2
  obtain ⟨t1, rfl⟩ := q1
  cases q2
  have units : A'.units + 1 < cLine := by have := hr.un; omega
  refine PySem.SeqAt.in_list_data (xs := z.ts.map PyData.str) (d := .str a1) (as := z.t :: []) (.list (hg _ _ hobj) rfl rfl (reads_strs rv)) (.str a1 t1) (strs_plain z.ts) rfl ?_ ⟨?_, keeps_refl _⟩
  · rw [strs_depth]
    show A'.units + 1 + min 0 _ < cLine
    rw [Nat.zero_min]
    exact units
  · congr 1
    rw [List.any_map, Bool.eq_iff_iff]
    simp only [List.any_eq_true, Function.comp, decide_eq_true_eq]
    constructor
    · rintro ⟨y, hy, e⟩
      have : y = a1 := by simpa [PyData.eqv] using e
      rw [← this]
      exact hy
    · intro hy
      exact ⟨a1, hy, by simp [PyData.eqv]⟩
/-- the pairs that are named, and the schema -/
structure KwD where
  a : Addr
  xs : List V
  l : List (List Str)
  v : V
  S : Sch
def KwC (K : PySem.W.Frag) (j : Nat) (σ : L2.St) (v : V) (H : Hp) (z : KwD) : Prop := v = .ref z.a ∧ SqL K H z.a z.xs ∧ TusK K H z.xs z.l ∧ (∀ k ∈ z.l, k.length = 2) ∧ σ[j]? = some (some z.v) ∧ Dp K H z.v (schD z.S) ∧ ∀ k ∈ z.l, ∀ a1 a2, k = [a1, a2] → (entOf z.S a1 a2).isSome = true
def kwB (z : KwD) (i : Nat) : Bool := true
theorem el_kw {K : PySem.W.Frag} {mg : Str → Option Value} {base : Heap} (W : Wd K mg base) (hK : X.K = K) (hmg : X.mg = mg) {j : Nat} {v : V} {u : Value} {z : KwD} (I : Inv X pins σ H1 s1) (hT : TabG H1 T) (r : RelV v u) (h : KwC X.K j σ v H1 z) {k : Nat} (hr : Room k X.A) (hk2 : 2 ≤ k) {sc : Scope} {x x2 y : Str} {p1 p2 p3 p4 p5 p6 p7 : Pos} {jj : Nat} (S : GenSc X.env sc [x, x2])
    (hg : sc.names.lookup ("entry_of" : Str) = some .globalImplicit) (hN : X.N[j]? = some y) (hc : X.env.scope.names.lookup y = some .cell) (hf : sc.names.lookup y = some .free) (hd : (x == ("__debug__" : Str)) = false := by decide) (hd' : (x2 == ("__debug__" : Str)) = false := by decide) (hd2 : (y == ("__debug__" : Str)) = false := by decide) (hd3 : (y == ("__classdict__" : Str)) = false := by decide) :
    El2 X sc x x2 (.Compare (.Call (.Name "entry_of" p1) [.Name y p2, .Name x p3, .Name x2 p4] [] p5) [.IsNot] [.Constant .none jj p6] p7) T s1 (prF s1 u z.l.length) (kwB z) := by
  subst hK hmg
  obtain ⟨rfl, hs, ht, h2, hσ, hdp2, hsome⟩ := h
  cases r
  intro L code bi A' E' i va vb s2 m2 hA hdp hu hF hn hm hm' hk
  obtain ⟨a1, a2, hl, r1, r2⟩ := pr_el true I hs ht h2 hF
  obtain ⟨c, uc, hcl, hcell, ru⟩ := free_at (x := y) I hT hk hN hc hσ
  have hok := hok_at I hT hk
  have kb := base_at I hT hk
  have kin := I.mod.kin.keeps kb
  have hdT := dp_of (sqt_T hT) _ _ (schD_noL z.S) hdp2
  refine wpAny_Compare1 (wpAny_Call_Name_kw (Calls.Name_function_global S.kind hg (Calls.loadGlobal_global (show s2.heap.Ns X.env.globals X.mg by rw [I.ok.glob]; exact I.mod.glob.keeps kb) W.gl_entry_of ?_))) (by with_unfolding_all rfl)
  refine PySem.W.callWith_K (h₀ := X.base) I.mod.kin W.fu_entry_of.kp (Calls.spliced_cons (thn ((pu_free (P := X.prog) (w := X.w) (A := A') (m := m2) (g := s2.heap) S.kind hf (clo_at hf hcl) hcell ru hd2 hd3).run s2 E' hn fun _ _ q => q) fun w1 s3 ⟨q1, k1⟩ => ?_))
  refine Calls.spliced_cons (thn ((pu_loc (P := X.prog) (w := X.w) (A := A') (g := s2.heap) S.kind (S.loc x (by simp)) hm r1 hd).run s3 E' (kNs k1 hn) (kHp k1 fun _ _ q => q)) fun w2 s4 ⟨q2, k2⟩ => ?_)
  refine Calls.spliced_cons (thn ((pu_loc (P := X.prog) (w := X.w) (A := A') (g := s2.heap) S.kind (S.loc x2 (by simp)) hm' r2 hd').run s4 E' (kNs (kTr k1 k2) hn) (kHp (kTr k1 k2) fun _ _ q => q)) fun w3 s5 ⟨q3, k3⟩ => Calls.spliced_nil ?_)
  have k25 := kTr (kTr k1 k2) k3
  have h25 := kHp k25 (g := s2.heap) fun _ _ q => q
  have kin5 := kin.keeps h25
  refine ⟨kin5, ?_⟩
  have hdep := hr.dp
  refine wpAny_call (codeAny_mono (ent_code W kin5 ((I.mod.nolimit.keeps kb).keeps h25) hA (by omega) (sca_of (hok.kept h25) kin5 q1 hdT) q2 q3 (W.bd_entry_of s5 [w1, w2, w3] kin5 rfl)) fun q s6 ⟨uu, eq, hR, k6⟩ => ?_)
  subst eq
  refine Constant_none ?_
  have hsm := hsome _ (List.mem_of_getElem? hl) a1 a2 rfl
  rcases hR with ⟨e, _⟩ | ⟨e, he, x0, rx, dx⟩
  · rw [e] at hsm
    cases hsm
  · refine isnot_none_gen ⟨?_, kTr k25 k6⟩
    cases dx with
    | tup _ _ => cases rx; rfl
end
end K83
namespace K83
open PySem PySem.Spec PyProof.Rows L2 L2.DX GxR
/-! ### definition, led_types, is_known -/
theorem itT {c : Bool} {A B : Prop} (h : c = true) (q : A) : if c = true then A else B := by rw [if_pos h]; exact q
theorem itF {c : Bool} {A B : Prop} (h : c = false) (q : B) : if c = true then A else B := by rw [h]; exact iteF q
def WfE (e : Sen) : Prop := (e.2.1 = "relation" → ∀ k ∈ e.2.2, k.length = 2) ∧ (e.2.1 ≠ "relation" → ∀ k ∈ e.2.2, k.length = 3)
def WfS (S : Sch) : Prop := ∀ p ∈ S, ∀ e ∈ p.2, WfE e
theorem entOf_mem {S : Sch} {kind name : Str} {e : Sen} (h : entOf S kind name = some e) : ∃ p ∈ S, e ∈ p.2 ∧ p.1 = kind ∧ e.1 = name := by
  unfold entOf at h
  obtain ⟨p, hp, he⟩ := List.exists_of_findSome?_eq_some h
  unfold entF at he
  by_cases c : p.1 = kind
  · rw [if_pos c] at he
    exact ⟨p, hp, List.mem_of_find?_eq_some he, c, by simpa using List.find?_some he⟩
  · rw [if_neg c] at he
    cases he
def defD (e : Sen) : PyData := .tuple [.str e.2.1, .tuple (e.2.2.map tD)]
theorem defD_noL (e : Sen) : noL (defD e) = true := by
  have h : noLs (e.2.2.map tD) = true := noLs_map tD _ fun k _ => tD_noL k
  simp [defD, noL, noLs, h]
section
variable {P : Program} {w : World} {K : PySem.W.Frag} {mg : Str → Option Value} {base : Heap}
/-- an entry's parts -/
theorem ent_parts {H : Hp} {v : V} {e : Sen} (h : Dp K H v (entD e)) : ∃ b c xs, v = .ref b ∧ SqT K H b [.str e.1, .str e.2.1, .ref c] ∧ SqT K H c xs ∧ DpAll K H xs (e.2.2.map tD) := by
  cases h with
  | tup hs ha =>
    cases ha with
    | cons d1 d2 => cases d2 with
      | cons d2 d3 => cases d3 with
        | cons d3 d4 =>
          cases d4
          cases d1
          cases d2
          cases d3 with
          | tup h1 h2 => exact ⟨_, _, _, rfl, hs, h1, h2⟩
theorem item_of {H : Hp} {xs : List V} {l : List (List Str)} {i : Nat} {x : V} (h : DpAll K H xs (l.map tD)) (hx : xs[i]? = some x) : ∃ k b ys, l[i]? = some k ∧ x = .ref b ∧ SqT K H b ys ∧ ys = k.map V.str := by
  obtain ⟨d, hd, hp⟩ := dps_get2 h hx
  rw [List.getElem?_map] at hd
  cases hl : l[i]? with
  | none => rw [hl] at hd; cases hd
  | some k =>
    rw [hl] at hd
    cases hd
    cases hp with
    | tup h1 h2 =>
      refine ⟨k, _, _, rfl, rfl, h1, ?_⟩
      have go : ∀ {ys : List V} {k : List Str}, DpAll K H ys (k.map PyData.str) → ys = k.map V.str := by
        intro ys k
        induction k generalizing ys with
        | nil => intro q; cases q; rfl
        | cons a k ih => intro q; cases q with
          | cons q1 q2 =>
            cases q1
            rw [ih q2]
            rfl
      exact go h2
def sp_definition (K : PySem.W.Frag) : Sp := fun vs H Q _ => ∃ (v : V) (S : Sch) (kind name : Str), vs = [v, .str kind, .str name] ∧ Dp K H v (schD S) ∧ (entOf S kind name = none → Q .non H) ∧ ∀ e u H', entOf S kind name = some e → Sm H H' → Dp K H' u (defD e) → Q u H'
theorem ok_definition (W : Wd K mg base) : FnOk P w K mg base CX0 2 (A_definition K) (F_definition K) ["schema", "kind", "name"] (sp_definition K) := by
  refine W.fu_definition.ok sc_definition (fun vs H Q E h => by obtain ⟨_, _, _, _, rfl, _⟩ := h; rfl) fun cdv A outer s H vs Q E hr h => ?_
  obtain ⟨v, S, kind, name, rfl, hd, hn, hs⟩ := h
  refine ⟨_, PSs.nox (pss_cons (ps_set (i := 3) sc_definition.nd rfl (by first | exact Or.inl rfl | exact Or.inr rfl) (pe_call (ok_entry_of W) (hr.mono (by decide)) rfl W.gl_entry_of (W.fu_entry_of).kp W.bd_entry_of .nil pass0 (pa_cons (pv 0) (pa_cons (pv 1) (pa_cons (pv 2) pa_nil)))))
      (pss_one (ps_ret (pe_ifExp (pt_cmpR op_isN (pv 3) pe_non (nomark _)) pe_non (pe_tup (pa_cons (pe_ix ix_tup (pv 3) pe_int (fun _ _ => rfl)) (pa_cons (pe_ix ix_tup (pv 3) pe_int (fun _ _ => rfl)) pa_nil))))))), ?_⟩
  have sz : sizeLine = 16777216 := sizeLine_eq
  refine ⟨_, rfl, _, rfl, _, rfl, v, S, kind, name, rfl, hd, fun h => ⟨_, rfl, rfl, _, rfl, iteT (hn h)⟩, fun e u he hu => ?_⟩
  obtain ⟨b, c, xs, rfl, h1, h2, h3⟩ := ent_parts hu
  refine ⟨_, rfl, rfl, _, rfl, iteF ⟨_, rfl, b, _, 1, _, rfl, rfl, h1, atI_nat (j := 1) rfl, _, rfl, b, _, 2, _, rfl, rfl, h1, atI_nat (j := 2) rfl, by show 2 ≤ sizeLine; omega, fun p hp => ?_⟩⟩
  have a : Sm H (upd H p (.tup [.str e.2.1, .ref c])) := Sx.new hp
  exact hs e _ _ he a (.tup (.of upd_same) (.cons (.str _) (.cons (.tup (a.sqT h2) (dps_sx a _ _ (noLs_map tD _ fun k _ => tD_noL k) h3)) .nil)))
def ledP (S : Sch) (name : Str) (k : List Str) : Bool := match k with
  | [o, i] => decide (i = "") && (entOf S o name).isSome
  | _ => false
def ledOf (S : Sch) (kind rel name : Str) : List Str := match entOf S kind rel with
  | some e => if e.2.1 = "relation" then (e.2.2.filter (ledP S name)).map (·.headD "") else []
  | none => []
def sp_led_types (K : PySem.W.Frag) : Sp := fun vs H Q _ => ∃ (v : V) (S : Sch) (kind rel name : Str), vs = [v, .str kind, .str rel, .str name] ∧ Dp K H v (schD S) ∧ WfS S ∧ (∀ p ∈ S, ∀ e ∈ p.2, e.2.2.length ≤ 1000) ∧ ∀ l, H l = none → Q (.ref l) (upd H l (.lst ((ledOf S kind rel name).map V.str)))
abbrev N_led_types : List Str := ["schema", "kind", "relation", "name", "entry", "other", "inner"]
theorem ok_led_types (W : Wd K mg base) : FnOk P w K mg base CX0 2 (A_led_types K) (F_led_types K) ["schema", "kind", "relation", "name"] (sp_led_types K) := by
  refine W.fu_led_types.ok sc_led_types (fun vs H Q E h => by obtain ⟨_, _, _, _, _, rfl, _⟩ := h; rfl) fun cdv A outer s H vs Q E hr h => ?_
  obtain ⟨v, S, kind, rel, name, rfl, hd, hw, hz, hQ⟩ := h
  refine ⟨_, PSs.nox (pss_cons (ps_set (i := 4) sc_led_types.nd rfl (by first | exact Or.inl rfl | exact Or.inr rfl) (pe_call (ok_entry_of W) (hr.mono (by decide)) rfl W.gl_entry_of (W.fu_entry_of).kp W.bd_entry_of .nil pass0 (pa_cons (pv 0) (pa_cons (pv 1) (pa_cons (pv 2) pa_nil)))))
      (pss_cons (ps_if (PW.pt (pw_or (pt_cmpR op_isN (pv 4) pe_non (nomark _)) (pw_or1 (pt_cmpR op_ne (pe_ix ix_tup (pv 4) pe_int (fun _ _ => rfl)) pe_str (nomark _))))) (pss_one (ps_ret (pe_lst pa_nil))) pss_nil)
      (pss_one (ps_ret (pe_lc (own := [("other", 5), ("inner", 6)]) (g := (gTup K 2 (gCons (gName 5) (gCons (gName 6) gNil)))) rfl sc_led_types.nd (pi_tup (pe_ix ix_tup (pv 4) pe_int (fun _ _ => rfl))) (blkOk_by (own := [("other", 5), ("inner", 6)]) (N := N_led_types) (sc := defScope s_led_types) (by decide +kernel)) (fun _ _ _ _ _ => (pg_tup rfl (pgs_cons (pg_name (i := 5) sc_led_types.nd rfl (by first | exact Or.inl rfl | exact Or.inr rfl)) (pgs_cons (pg_name (i := 6) sc_led_types.nd rfl (by first | exact Or.inl rfl | exact Or.inr rfl)) pgs_nil)))) (fun _ _ _ _ _ => (pts_one (PW.pt (pw_and (pt_cmpR op_eq (pv 6) pe_str (nomark _)) (pw_and1 (pt_cmpR op_notN (pe_call (ok_entry_of W) (hr.mono (by decide)) rfl W.gl_entry_of (W.fu_entry_of).kp W.bd_entry_of .nil pass0 (pa_cons (pv 0) (pa_cons (pv 5) (pa_cons (pv 3) pa_nil)))) pe_non (nomark _))))))) (fun _ _ _ _ _ => (pv 5))))))), ?_⟩
  refine ⟨_, rfl, _, rfl, _, rfl, v, S, kind, rel, rfl, hd, fun hn => ?_, fun e u he hu => ?_⟩
  · refine ⟨_, rfl, rfl, _, rfl, iteT (iteT ⟨Nat.zero_le _, fun l hl => ?_⟩)⟩
    have := hQ l hl
    unfold ledOf at this
    rw [hn] at this
    exact this
  · obtain ⟨b, c, xs, rfl, h1, h2, h3⟩ := ent_parts hu
    have sz : sizeLine = 16777216 := sizeLine_eq
    refine ⟨_, rfl, rfl, _, rfl, iteF ⟨_, rfl, b, _, 1, _, rfl, rfl, h1, atI_nat (j := 1) rfl, rfl, _, rfl, ?_⟩⟩
    by_cases hk : e.2.1 = "relation"
    · refine itF (by simp [hk]) ⟨_, rfl, b, _, 2, _, rfl, rfl, h1, atI_nat (j := 2) rfl, c, rfl, ⟨_, h2⟩, fun D hD => ?_⟩
      obtain ⟨p, hp, hep, _, _⟩ := entOf_mem he
      have hlen : xs.length = e.2.2.length := by rw [dps_len h3, List.length_map]
      have h1000 := hz p hp e hep
      refine lc_it (walk_tup (K := K) (a := c) (xs := xs)) (fun i G => ∃ zs : List Str, G = upd H D (.lst (zs.map V.str)) ∧ zs = ((e.2.2.take i).filter (ledP S name)).map (·.headD "")) ⟨[], rfl, rfl⟩ (fun i G hi ⟨zs, eG, _⟩ => by rw [eG]; exact (Sx.new (M := fun _ => False) hD).sqT h2) (fun i x G G' hi ⟨zs, eG, ez⟩ ⟨eG', hx⟩ => ?_) fun G ⟨zs, eG, ez⟩ => ?_
      · subst eG'
        have a : Sm H G' := by rw [eG]; exact Sx.new hD
        have h3' := dps_sx a _ _ (noLs_map tD _ fun k _ => tD_noL k) h3
        obtain ⟨k, b', ys, hkk, rfl, hs, rfl⟩ := item_of h3' hx
        have hkm : k ∈ e.2.2 := List.mem_of_getElem? hkk
        have hk2 := (hw p hp e hep).1 hk k hkm
        match k, hk2 with
        | [o, i'], _ =>
          have hlz : zs.length < sizeLine := by
            rw [ez, List.length_map]
            have e2 := List.length_filter_le (ledP S name) (e.2.2.take i)
            have e4 : (e.2.2.take i).length = min i e.2.2.length := List.length_take
            omega
          have es : e.2.2.take (i + 1) = e.2.2.take i ++ [[o, i']] := by
            have hi' : i < e.2.2.length := by omega
            rw [List.take_succ_eq_append_getElem hi']
            rw [List.getElem?_eq_getElem hi'] at hkk
            rw [Option.some.inj hkk]
          have Tr : ledP S name [o, i'] = true → ∃ zs', upd G' D (.lst (zs.map V.str ++ [V.str o])) = upd H D (.lst (zs'.map V.str)) ∧ zs' = ((e.2.2.take (i + 1)).filter (ledP S name)).map (·.headD "") := fun h => ⟨zs ++ [o], by rw [eG, upd_upd, List.map_append]; rfl, by rw [es, List.filter_append, List.filter_cons_of_pos h, List.map_append, ez]; rfl⟩
          have Fl : ledP S name [o, i'] = false → ∃ zs', G' = upd H D (.lst (zs'.map V.str)) ∧ zs' = ((e.2.2.take (i + 1)).filter (ledP S name)).map (·.headD "") := fun h => ⟨zs, eG, by rw [es, List.filter_append, List.filter_cons_of_neg (by rw [h]; decide), List.filter_nil, List.append_nil, ez]⟩
          refine ⟨b', _, rfl, hs, rfl, _, _, rfl, _, _, rfl, rfl, rfl, _, rfl, rfl, _, rfl, ?_⟩
          by_cases hi0 : i' = ""
          · refine itT (by simp [hi0]) ⟨_, rfl, _, rfl, _, rfl, v, S, o, name, rfl, dp_sx a _ _ (schD_noL S) hd, fun hno => ⟨rfl, _, rfl, itF rfl (Fl (by simp [ledP, hno]))⟩, fun e2 u2 he2 hu2 => ?_⟩
            obtain ⟨b2, c2, xs2, rfl, _, _, _⟩ := ent_parts hu2
            exact ⟨rfl, _, rfl, itT rfl ⟨_, rfl, _, by rw [eG, upd_same], by rw [List.length_map]; exact hlz, Tr (by simp [ledP, hi0, he2])⟩⟩
          · exact itF (by simp [hi0]) (itF rfl (Fl (by simp [ledP, hi0])))
      · rw [eG, ez]
        have := hQ D hD
        unfold ledOf at this
        rw [he] at this
        simp only [if_pos hk] at this
        rw [hlen, List.take_length]
        exact this
    · refine itT (by simp [hk]) ⟨Nat.zero_le _, fun l hl => ?_⟩
      have := hQ l hl
      unfold ledOf at this
      rw [he] at this
      simp only [if_neg hk] at this
      exact this
theorem ix_tupK {X : Cx} {K : PySem.W.Frag} (h : X.K = K) : IxR X (rIxT K) := by subst h; exact ix_tup
theorem tYes_i {σ : L2.St} {H : Hp} {Q : Bool → Hp → Prop} (h : Q true H) : tYes σ H Q := h
def nmP (k : List Str) : Bool := match k with
  | [_, i] => decide (i ≠ "")
  | _ => false
theorem TusK.sx {K : PySem.W.Frag} {M : Addr → Prop} {H H1 : Hp} {xs : List V} {l : List (List Str)} (a : Sx M H H1) (h : TusK K H xs l) : TusK K H1 xs l := Paired.mapP h fun _ _ ⟨b, e, q⟩ => ⟨b, e, a.sqT q⟩
def knP (S : Sch) (kind : Str) (e : Sen) : Prop :=
  (e.2.1 = "relation" → ∀ k ∈ e.2.2, k.headD "" ∈ S.map (·.1) ∧ ∀ a1 a2, k = [a1, a2] → a2 ≠ "" → (entOf S a1 a2).isSome = true) ∧
  (e.2.1 ≠ "relation" → ∀ k ∈ e.2.2, ∀ o r n, k = [o, r, n] → (r = "" → (entOf S kind n).isSome = true) ∧ (r ≠ "" → ledOf S kind r n ≠ []))
def rowD (p : Str × List Sen) : PyData := .tuple [.str p.1, .tuple (p.2.map entD)]
theorem rowD_noL (p : Str × List Sen) : noL (rowD p) = true := by
  have h2 : noLs (p.2.map entD) = true := noLs_map _ _ fun e _ => entD_noL e
  simp [rowD, noL, noLs, h2]
theorem sch_parts {H : Hp} {v : V} {S : Sch} (h : Dp K H v (schD S)) : ∃ a rows, v = .ref a ∧ SqT K H a rows ∧ DpAll K H rows (S.map rowD) := by
  cases h with
  | tup hs ha => exact ⟨_, _, rfl, hs, ha⟩
theorem row_of {H : Hp} {rows : List V} {S : Sch} {i : Nat} {x : V} (h : DpAll K H rows (S.map rowD)) (hx : rows[i]? = some x) : ∃ p b c es, S[i]? = some p ∧ x = .ref b ∧ SqT K H b [.str p.1, .ref c] ∧ SqT K H c es ∧ DpAll K H es (p.2.map entD) := by
  obtain ⟨d, hd, hp⟩ := dps_get2 h hx
  rw [List.getElem?_map] at hd
  cases hl : S[i]? with
  | none => rw [hl] at hd; cases hd
  | some p =>
    rw [hl] at hd
    cases hd
    cases hp with
    | tup h1 h2 =>
      cases h2 with
      | cons q1 q2 => cases q2 with
        | cons q2 q3 =>
          cases q3
          cases q1
          cases q2 with
          | tup r1 r2 => exact ⟨p, _, _, _, rfl, rfl, h1, r1, r2⟩
theorem items_tusK {H : Hp} {xs : List V} {l : List (List Str)} (h : DpAll K H xs (l.map tD)) : TusK K H xs l := by
  induction l generalizing xs with
  | nil => cases h; exact .nil
  | cons k l ih =>
    have h0 := h
    cases h with
    | cons q1 q2 =>
      obtain ⟨k', b, ys, hk, rfl, hs, rfl⟩ := item_of (l := k :: l) (i := 0) h0 rfl
      cases hk
      exact .cons ⟨b, rfl, hs⟩ (ih q2)
theorem take_snoc {α : Type} {l : List α} {i : Nat} {x : α} (h : l[i]? = some x) : l.take (i + 1) = l.take i ++ [x] := by
  obtain ⟨hi, e⟩ := List.getElem?_eq_some_iff.mp h
  rw [List.take_succ_eq_append_getElem hi, e]
def sp_is_known (K : PySem.W.Frag) : Sp := fun vs H Q _ => ∃ (v u : V) (S : Sch) (kind : Str) (e : Sen), vs = [v, .str kind, u] ∧ Dp K H v (schD S) ∧ Dp K H u (entD e) ∧ Tabs K H ∧ WfS S ∧ WfE e ∧ S.length ≤ 1000 ∧ e.2.2.length ≤ 1000 ∧ (∀ p ∈ S, ∀ e ∈ p.2, e.2.2.length ≤ 1000) ∧ knP S kind e ∧ ∀ H', Sm H H' → Q (.bl true) H'
abbrev N_is_known : List Str := ["schema", "kind", "entry", "types", "named", "is_there", "operator", "relation", "name", "other", "entries", "pair"]
theorem ok_is_known (W : Wd K mg base) : FnOk P w K mg base CX0 3 (A_is_known K) (F_is_known K) ["schema", "kind", "entry"] (sp_is_known K) := by
  refine okG W.fu_is_known sc_is_known (fun vs H Q E h => by obtain ⟨_, _, _, _, _, rfl, _⟩ := h; rfl) fun A outer s H vs Q E hr h => ?_
  obtain ⟨v, u, S, kind, e, rfl, hd, hu, hT, hw, hwe, hz, hz2, hz3, hk, hQ⟩ := h
  refine ⟨_, PSs.nox (pss_cons (ps_set (i := 3) sc_is_known.nd rfl (by first | exact Or.inl rfl | exact Or.inr rfl) (pe_lc (own := [("other", 9), ("entries", 10)]) (g := (gTup K 2 (gCons (gName 9) (gCons (gName 10) gNil)))) rfl sc_is_known.nd (pi_tup (pv 0)) (blkOk_by (own := [("other", 9), ("entries", 10)]) (N := N_is_known) (sc := defScope s_is_known) (by decide +kernel)) (fun _ _ _ _ _ => (pg_tup rfl (pgs_cons (pg_name (i := 9) sc_is_known.nd rfl (by first | exact Or.inl rfl | exact Or.inr rfl)) (pgs_cons (pg_name (i := 10) sc_is_known.nd rfl (by first | exact Or.inl rfl | exact Or.inr rfl)) pgs_nil)))) (fun _ _ _ _ _ => pts_nil) (fun _ _ _ _ _ => (pv 9))))
      (pss_cons (ps_if (pt_cmpR op_eq (pe_ix ix_tup (pv 2) pe_int (fun _ _ => rfl)) pe_str (nomark _)) (pss_cons (ps_setLc (i := 4) (own := [("pair", 11)]) rfl sc_is_known.nd rfl rfl (sw_true rfl rfl rfl (by decide +kernel)) (pi_tup (pe_ix ix_tup (pv 2) pe_int (fun _ _ => rfl))) (blkOk_by (own := [("pair", 11)]) (N := N_is_known) (sc := defScope s_is_known) (by decide +kernel)) (fun _ _ _ _ _ => (pg_name (i := 11) sc_is_known.nd rfl (by first | exact Or.inl rfl | exact Or.inr rfl))) (fun _ _ _ _ _ => (pts_one (pt_cmpR op_ne (pe_ix (ix_tupK (K := K) rfl) (pv 11) pe_int (fun _ _ => rfl)) pe_str (nomark _)))) (fun _ _ _ _ _ => (pv 11)))
      (pss_cons (ps_set (i := 5) sc_is_known.nd rfl (by first | exact Or.inl rfl | exact Or.inr rfl) (pe_allG2 hr rfl W.fr_all (W.tb _ (.tail _ (.tail _ (.tail _ (.tail _ (.head _)))))) rfl (gsc (n := s.heap.objs.size + 1) rfl (by rfl)) (by decide) (pe_ix ix_tup (pv 2) pe_int (fun _ _ => rfl)) (fun _ => rfl) (Cnd := InC K 3) (n := fun z => z.l.length) (pb := fun z => inB z) (fun pins σ H1 s1 v u d I r hT hc => src_pairs false I hT r hc.1 hc.2.1 hc.2.2.1 hc.2.2.2.1) (fun pins σ H1 s1 v u d I r hT hc => el_inT I hT r hc hr (gsc (n := s.heap.objs.size + 1) rfl (by rfl)) rfl rfl rfl)))
      (pss_one (ps_ret (pe_and (pv 5) (pe_one (pe_allG2 hr rfl W.fr_all (W.tb _ (.tail _ (.tail _ (.tail _ (.tail _ (.head _)))))) rfl (gsc (n := s.heap.objs.size + 1) rfl (by rfl)) (by decide) (pv 4) (fun _ => rfl) (Cnd := KwC K 0) (n := fun z => z.l.length) (pb := fun z => kwB z) (fun pins σ H1 s1 v u d I r hT hc => src_pairs true I hT r hc.1 hc.2.1 hc.2.2.1 hc.2.2.2.1) (fun pins σ H1 s1 v u d I r hT hc => el_kw W rfl rfl I hT r hc hr (by decide) (gsc (n := s.heap.objs.size + 1) rfl (by rfl)) rfl rfl rfl rfl)))))))) pss_nil)
      (pss_cons (ps_for PassesOwn.never rfl (pi_tup (pe_ix ix_tup (pv 2) pe_int (fun _ _ => rfl))) (pg_tup rfl (pgs_cons (pg_name (i := 6) sc_is_known.nd rfl (by first | exact Or.inl rfl | exact Or.inr rfl)) (pgs_cons (pg_name (i := 7) sc_is_known.nd rfl (by first | exact Or.inl rfl | exact Or.inr rfl)) (pgs_cons (pg_name (i := 8) sc_is_known.nd rfl (by first | exact Or.inl rfl | exact Or.inr rfl)) pgs_nil)))) (pss_cons (ps_if (PW.pt (pw_and (pt_cmpR op_eq (pv 7) pe_str (nomark _)) (pw_and1 (pt_cmpR op_isN (pe_call (ok_entry_of W) (hr.mono (by decide)) rfl W.gl_entry_of (W.fu_entry_of).kp W.bd_entry_of .nil pass0 (pa_cons (pv 0) (pa_cons (pv 1) (pa_cons (pv 8) pa_nil)))) pe_non (nomark _))))) (pss_one (ps_ret pe_bl)) pss_nil)
      (pss_one (ps_if (PW.pt (pw_and (pt_cmpR op_ne (pv 7) pe_str (nomark _)) (pw_and1 (pt_not (pt_truth (pe_call (ok_led_types W) (hr.mono (by decide)) rfl W.gl_led_types (W.fu_led_types).kp W.bd_led_types .nil pass0 (pa_cons (pv 0) (pa_cons (pv 1) (pa_cons (pv 7) (pa_cons (pv 8) pa_nil))))) (by intro _; rfl)))))) (pss_one (ps_ret pe_bl)) pss_nil))))
      (pss_one (ps_ret pe_bl))))), ?_⟩
  obtain ⟨a, rows, rfl, hs, hrows⟩ := sch_parts hd
  obtain ⟨b, c, xs, rfl, h1, h2, h3⟩ := ent_parts hu
  have sz : sizeLine = 16777216 := sizeLine_eq
  have lrow : rows.length = S.length := by rw [dps_len hrows, List.length_map]
  have lxs : xs.length = e.2.2.length := by rw [dps_len h3, List.length_map]
  refine ⟨_, rfl, a, rfl, ⟨_, hs⟩, fun D hD => ?_⟩
  refine lc_it (walk_tup (K := K) (a := a) (xs := rows)) (fun i G => G = upd H D (.lst (((S.take i).map (·.1)).map V.str))) rfl (fun i G hi eG => by rw [eG]; exact (Sx.new (M := fun _ => False) hD).sqT hs) (fun i x G G' hi eG ⟨eG', hx⟩ => ?_) fun G eG => ?_
  · subst eG'
    have a0 : Sm H G' := by rw [eG]; exact Sx.new hD
    obtain ⟨p, b', c', es, hp, rfl, hb', _, _⟩ := row_of hrows hx
    have hb2 := a0.sqT hb'
    refine ⟨b', _, rfl, hb2, rfl, _, _, rfl, _, _, rfl, rfl, rfl, ?_⟩
    refine tYes_i ?_
    refine iteT ⟨_, rfl, _, by rw [eG, upd_same], ?_, ?_⟩
    · rw [List.length_map, List.length_map, List.length_take]
      omega
    · rw [eG, upd_upd, take_snoc hp, List.map_append, List.map_append]
      rfl
  have a1 : Sm H G := by rw [eG]; exact Sx.new hD
  have hD1 : G D = some (.lst ((S.map (·.1)).map V.str)) := by rw [eG, upd_same, lrow, List.take_length]
  clear eG
  have hd1 := dp_sx a1 _ _ (schD_noL S) hd
  have g1 := a1.sqT h1
  have g2 := a1.sqT h2
  have g3 := dps_sx a1 _ _ (noLs_map tD _ fun k _ => tD_noL k) h3
  have hT1 := hT.sx a1
  refine ⟨_, rfl, b, _, 1, _, rfl, rfl, g1, atI_nat (j := 1) rfl, rfl, _, rfl, ?_⟩
  by_cases hr0 : e.2.1 = "relation"
  · refine itT (by simp [hr0]) ⟨_, rfl, b, _, 2, _, rfl, rfl, g1, atI_nat (j := 2) rfl, c, rfl, ⟨_, g2⟩, fun D2 hD2 => ?_⟩
    have k2 : ∀ k ∈ e.2.2, k.length = 2 := hwe.1 hr0
    have hkp := hk.1 hr0
    refine lc_it (walk_tup (K := K) (a := c) (xs := xs)) (fun i G' => ∃ ys, G' = upd G D2 (.lst ys) ∧ TusK K G ys ((e.2.2.take i).filter nmP)) ⟨[], rfl, .nil⟩ (fun i G' hi ⟨ys, eG, _⟩ => by rw [eG]; exact (Sx.new (M := fun _ => False) hD2).sqT g2) (fun i x G0' G' hi ⟨ys, eG, hys⟩ ⟨eG', hx⟩ => ?_) fun G' ⟨ys, eG, hys⟩ => ?_
    · subst eG'
      have aa : Sm G G' := by rw [eG]; exact Sx.new hD2
      obtain ⟨k, b', ys', hkk, rfl, hs', rfl⟩ := item_of g3 hx
      match k, k2 k (List.mem_of_getElem? hkk) with
      | [o, i'], _ =>
        have hly : ys.length < sizeLine := by
          have e1 : ys.length = ((e.2.2.take i).filter nmP).length := Paired.length hys
          have e2 := List.length_filter_le nmP (e.2.2.take i)
          have e4 : (e.2.2.take i).length = min i e.2.2.length := List.length_take
          omega
        refine ⟨rfl, _, rfl, b', _, 1, _, rfl, rfl, aa.sqT hs', atI_nat (j := 1) rfl, rfl, _, rfl, ?_⟩
        by_cases hi0 : i' = ""
        · refine itF (by simp [hi0]) ⟨ys, eG, ?_⟩
          rw [take_snoc hkk, List.filter_append, List.filter_cons_of_neg (by simp [nmP, hi0]), List.filter_nil, List.append_nil]
          exact hys
        · refine itT (by simp [hi0]) ⟨_, rfl, ys, by rw [eG, upd_same], hly, ys ++ [.ref b'], by rw [eG, upd_upd], ?_⟩
          rw [take_snoc hkk, List.filter_append, List.filter_cons_of_pos (by simp [nmP, hi0]), List.filter_nil]
          exact pr_snoc hys ⟨b', rfl, hs'⟩
    · have aa : Sm G G' := by rw [eG]; exact Sx.new hD2
      have hD2' : G' D2 = some (.lst ys) := by rw [eG, upd_same]
      have nD : D ≠ D2 := ne_of_none hD1 hD2
      have hD1' : G' D = some (.lst ((S.map (·.1)).map V.str)) := by rw [eG, upd_ne nD]; exact hD1
      clear eG
      rw [lxs, List.take_length] at hys
      have hT2 := hT1.sx aa
      have hTb := hT2 _ (.tail _ (.tail _ (.tail _ (.tail _ (.head _)))))
      refine ⟨_, rfl, b, _, 2, _, rfl, rfl, aa.sqT g1, atI_nat (j := 2) rfl, ⟨c, xs, e.2.2, D, S.map (·.1)⟩, ⟨rfl, aa.sqT g2, items_tusK (dps_sx aa _ _ (noLs_map tD _ fun k _ => tD_noL k) g3), k2, rfl, hD1'⟩, hTb, fun G4 t4 => ?_⟩
      have a4 : Sm G' G4 := Sx.tab hTb t4
      have hys4 := (hys.sx aa).sx a4
      have hD24 := SqL.of (K := K) (a4.atS hD2')
      refine ⟨_, rfl, _, rfl, ?_⟩
      rw [inB_all (z := ⟨c, xs, e.2.2, D, S.map (·.1)⟩) fun k hk => (hkp k hk).1]
      have hTb4 := (hT2.sx a4) _ (.tail _ (.tail _ (.tail _ (.tail _ (.head _)))))
      refine iteT ⟨_, rfl, ⟨D2, ys, e.2.2.filter nmP, .ref a, S⟩, ⟨rfl, hD24, hys4, fun k hk => k2 k ((List.mem_filter.mp hk).1), rfl, dp_sx (aa.trans a4) _ _ (schD_noL S) hd1, fun k hk a1 a2 ek => ?_⟩, hTb4, fun G5 t5 => ?_⟩
      · have hm := List.mem_filter.mp hk
        refine (hkp k hm.1).2 a1 a2 ek ?_
        have := hm.2
        rw [ek] at this
        simpa [nmP] using this
      · rw [show (List.range (e.2.2.filter nmP).length).all (kwB ⟨D2, ys, e.2.2.filter nmP, .ref a, S⟩) = true from by rw [List.all_eq_true]; intro _ _; rfl]
        exact hQ _ (a1.trans (aa.trans (a4.trans (Sx.tab hTb4 t5))))
  · refine itF (by simp [hr0]) ⟨_, rfl, b, _, 2, _, rfl, rfl, g1, atI_nat (j := 2) rfl, c, rfl, ⟨_, g2⟩, for_it (walk_tup (K := K) (a := c) (xs := xs)) (fun i τ G' => ∃ o6 o7 o8, τ = [some (.ref a), some (.str kind), some (.ref b), some (.ref D), none, none, o6, o7, o8, none, none, none] ∧ Sm G G') ⟨_, _, _, rfl, Sx.refl _⟩
      (fun i τ G' _ ⟨_, _, _, _, aa⟩ => aa.sqT g2) (fun i x τ G0' G' hi ⟨o6, o7, o8, eτ, aa⟩ ⟨eG', hx⟩ => ?_) fun τ G' ⟨o6, o7, o8, eτ, aa⟩ => ?_⟩
    · subst eτ eG'
      obtain ⟨k, b', ys, hkk, rfl, hs', rfl⟩ := item_of g3 hx
      have hkm : k ∈ e.2.2 := List.mem_of_getElem? hkk
      have hk3 := hwe.2 hr0 k hkm
      have hkp := hk.2 hr0 k hkm
      match k, hk3 with
      | [o, r, n], _ =>
        obtain ⟨k1, k2⟩ := hkp o r n rfl
        refine ⟨b', _, rfl, aa.sqT hs', rfl, _, _, rfl, _, _, rfl, _, _, rfl, rfl, _, rfl, rfl, _, rfl, ?_⟩
        have hd2 := dp_sx aa _ _ (schD_noL S) hd1
        by_cases hr1 : r = ""
        · subst hr1
          have k1' := k1 rfl
          refine itT rfl ⟨_, rfl, _, rfl, _, rfl, .ref a, S, kind, n, rfl, hd2, fun hno => ?_, fun e2 u2 he2 hu2 => ?_⟩
          · rw [hno] at k1'
            cases k1'
          · obtain ⟨b2, c2, xs2, rfl, _, _, _⟩ := ent_parts hu2
            exact ⟨rfl, _, rfl, iteF ⟨_, rfl, rfl, _, rfl, iteF (iteF ⟨_, _, _, rfl, aa⟩)⟩⟩
        · refine itF (by simp [hr1]) (itF rfl ⟨_, rfl, rfl, _, rfl, ?_⟩)
          refine itT (by simp [hr1]) ⟨_, rfl, _, rfl, _, rfl, _, rfl, .ref a, S, kind, r, n, rfl, hd2, hw, hz3, fun l hl => ⟨true, .inl ⟨_, .of upd_same, ?_⟩, iteF ⟨_, _, _, rfl, aa.trans (Sx.new hl)⟩⟩⟩
          have := k2 hr1
          cases hh : ledOf S kind r n with
          | nil => exact absurd hh this
          | cons x y => rfl
    · subst eτ
      exact hQ _ (a1.trans aa)
end
end K83
namespace K83
open PySem PySem.Spec PyProof.Rows L2 L2.DX GxR
/-! ### needs_of -/
abbrev Nd := Str × Str × Bool
def ndR (k : List Str) : Nd := match k with
  | [o, i] => (o, i, false)
  | _ => ("", "", false)
def ndP (S : Sch) (kind : Str) (k : List Str) : List Nd := match k with
  | [op, r, n] => (if r = "" then [kind] else ledOf S kind r n).map fun o => (o, n, decide (op = "-"))
  | _ => []
def needOf (S : Sch) (kind : Str) (e : Sen) : List Nd := if e.2.1 = "relation" then (e.2.2.filter nmP).map ndR else e.2.2.flatMap (ndP S kind)
def NdV (H : Hp) (x : V) (d : Nd) : Prop := ∃ t, x = .ref t ∧ H t = some (.tup [.str d.1, .str d.2.1, .bl d.2.2])
theorem NdV.sx {M : Addr → Prop} {H H1 : Hp} {x : V} {d : Nd} (a : Sx M H H1) (h : NdV H x d) : NdV H1 x d := by
  obtain ⟨t, e, q⟩ := h
  exact ⟨t, e, a.tups _ _ q⟩
/-- a list that was not there at the start -/
theorem Sx.aft {H H1 H2 : Hp} {D : Addr} (hD : H D = none) (a : Sm H H1) (b : Sx (fun c => c = D) H1 H2) : Sm H H2 := a.after b fun c o e m => by
  rw [m, hD] at e
  cases e
section
variable {P : Program} {w : World} {K : PySem.W.Frag} {mg : Str → Option Value} {base : Heap}
theorem ledOf_len {S : Sch} (h : ∀ p ∈ S, ∀ e ∈ p.2, e.2.2.length ≤ 1000) (kind r n : Str) : (ledOf S kind r n).length ≤ 1000 := by
  unfold ledOf
  cases he : entOf S kind r with
  | none => exact Nat.zero_le _
  | some e =>
    obtain ⟨p, hp, hep, _, _⟩ := entOf_mem he
    have := h p hp e hep
    dsimp only
    split
    · rw [List.length_map]
      have := List.length_filter_le (ledP S n) e.2.2
      omega
    · exact Nat.zero_le _
theorem ndP_len {S : Sch} (h : ∀ p ∈ S, ∀ e ∈ p.2, e.2.2.length ≤ 1000) (kind : Str) (k : List Str) : (ndP S kind k).length ≤ 1000 := by
  unfold ndP
  split
  · rw [List.length_map]
    split
    · show 1 ≤ 1000; omega
    · exact ledOf_len h _ _ _
  · exact Nat.zero_le _
theorem flat_len {α β : Type} {f : α → List β} (h : ∀ x, (f x).length ≤ 1000) : ∀ l : List α, (l.flatMap f).length ≤ l.length * 1000
  | [] => Nat.zero_le _
  | x :: l => by
    have := flat_len h l
    have := h x
    rw [List.flatMap_cons, List.length_append, List.length_cons]
    omega
theorem kinds_if {σ : L2.St} {G : Hp} {Q : VK} {S : Sch} {v : V} {kind r n : Str} (e0 : σ[0]? = some (some v)) (e1 : σ[1]? = some (some (.str kind))) (e5 : σ[5]? = some (some (.str r))) (e6 : σ[6]? = some (some (.str n)))
    (hd : Dp K G v (schD S)) (hw : WfS S) (hz3 : ∀ p ∈ S, ∀ e ∈ p.2, e.2.2.length ≤ 1000) (q : ∀ l G2, G l = none → Sm G G2 → G2 l = some (.lst ((if r = "" then [kind] else ledOf S kind r n).map V.str)) → Q (.ref l) G2) :
    tIf (tTest (tOp rEq (tVar 5) (tC (.str "")))) (tLst (tCons (tVar 1) tNil)) (tCall (sp_led_types K) [] E0 (tCons (tVar 0) (tCons (tVar 1) (tCons (tVar 5) (tCons (tVar 6) tNil))))) σ G Q := by
  refine ⟨_, e5, rfl, _, rfl, ?_⟩
  by_cases hr : r = ""
  · rw [if_pos hr] at q
    refine itT (by simp [hr]) ⟨_, e1, by show 1 ≤ sizeLine; rw [sizeLine_eq]; decide, fun l hl => q l _ hl (Sx.new hl) upd_same⟩
  · rw [if_neg hr] at q
    exact itF (by simp [hr]) ⟨_, e0, _, e1, _, e5, _, e6, v, S, kind, r, n, rfl, hd, hw, hz3, fun l hl => q l _ hl (Sx.new hl) upd_same⟩
def sp_needs_of (K : PySem.W.Frag) : Sp := fun vs H Q _ => ∃ (v u : V) (S : Sch) (kind : Str) (e : Sen), vs = [v, .str kind, u] ∧ Dp K H v (schD S) ∧ Dp K H u (entD e) ∧ WfS S ∧ WfE e ∧ e.2.2.length ≤ 1000 ∧ (∀ p ∈ S, ∀ e ∈ p.2, e.2.2.length ≤ 1000) ∧ ∀ l ys H', H l = none → Sm H H' → H' l = some (.lst ys) → Paired (NdV H') ys (needOf S kind e) → Q (.ref l) H'
abbrev N_needs_of : List Str := ["schema", "kind", "entry", "found", "operator", "relation", "name", "kinds", "other", "inner"]
theorem ok_needs_of (W : Wd K mg base) : FnOk P w K mg base CX0 3 (A_needs_of K) (F_needs_of K) ["schema", "kind", "entry"] (sp_needs_of K) := by
  refine W.fu_needs_of.ok sc_needs_of (fun vs H Q E h => by obtain ⟨_, _, _, _, _, rfl, _⟩ := h; rfl) fun cdv A outer s H vs Q E hr h => ?_
  obtain ⟨v, u, S, kind, e, rfl, hd, hu, hw, hwe, hz2, hz3, hQ⟩ := h
  refine ⟨_, PSs.nox (pss_cons (ps_if (pt_cmpR op_eq (pe_ix ix_tup (pv 2) pe_int (fun _ _ => rfl)) pe_str (nomark _)) (pss_one (ps_ret (pe_lc (own := [("other", 8), ("inner", 9)]) (g := (gTup K 2 (gCons (gName 8) (gCons (gName 9) gNil)))) rfl sc_needs_of.nd (pi_tup (pe_ix ix_tup (pv 2) pe_int (fun _ _ => rfl))) (blkOk_by (own := [("other", 8), ("inner", 9)]) (N := N_needs_of) (sc := defScope s_needs_of) (by decide +kernel)) (fun _ _ _ _ _ => (pg_tup rfl (pgs_cons (pg_name (i := 8) sc_needs_of.nd rfl (by first | exact Or.inl rfl | exact Or.inr rfl)) (pgs_cons (pg_name (i := 9) sc_needs_of.nd rfl (by first | exact Or.inl rfl | exact Or.inr rfl)) pgs_nil)))) (fun _ _ _ _ _ => (pts_one (pt_cmpR op_ne (pv 9) pe_str (nomark _)))) (fun _ _ _ _ _ => (pe_tup (pa_cons (pv 8) (pa_cons (pv 9) (pa_cons pe_bl pa_nil)))))))) pss_nil)
      (pss_cons (ps_set (i := 3) sc_needs_of.nd rfl (by first | exact Or.inl rfl | exact Or.inr rfl) (pe_lst pa_nil))
      (pss_cons (ps_for PassesOwn.never rfl (pi_tup (pe_ix ix_tup (pv 2) pe_int (fun _ _ => rfl))) (pg_tup rfl (pgs_cons (pg_name (i := 4) sc_needs_of.nd rfl (by first | exact Or.inl rfl | exact Or.inr rfl)) (pgs_cons (pg_name (i := 5) sc_needs_of.nd rfl (by first | exact Or.inl rfl | exact Or.inr rfl)) (pgs_cons (pg_name (i := 6) sc_needs_of.nd rfl (by first | exact Or.inl rfl | exact Or.inr rfl)) pgs_nil)))) (pss_cons (ps_set (i := 7) sc_needs_of.nd rfl (by first | exact Or.inl rfl | exact Or.inr rfl) (pe_ifExp (pt_cmpR op_eq (pv 5) pe_str (nomark _)) (pe_lst (pa_cons (pv 1) pa_nil)) (pe_call (ok_led_types W) (hr.mono (by decide)) rfl W.gl_led_types (W.fu_led_types).kp W.bd_led_types .nil pass0 (pa_cons (pv 0) (pa_cons (pv 1) (pa_cons (pv 5) (pa_cons (pv 6) pa_nil)))))))
      (pss_one (ps_expr (pe_bm PySem.F.plainAttrs_list PySem.F.slot_list_extend PySem.F.type_list_extend mt_extend (pv 3) (pa_cons (pe_lc (own := [("other", 8)]) rfl sc_needs_of.nd (pi_list (pv 7)) (blkOk_by (own := [("other", 8)]) (N := N_needs_of) (sc := defScope s_needs_of) (by decide +kernel)) (fun _ _ _ _ _ => (pg_name (i := 8) sc_needs_of.nd rfl (by first | exact Or.inl rfl | exact Or.inr rfl))) (fun _ _ _ _ _ => pts_nil) (fun _ _ _ _ _ => (pe_tup (pa_cons (pv 8) (pa_cons (pv 6) (pa_cons (pe_cmpR op_eq (pv 4) pe_str (nomark _)) pa_nil)))))) pa_nil))))))
      (pss_one (ps_ret (pv 3)))))), ?_⟩
  obtain ⟨b, c, xs, rfl, h1, h2, h3⟩ := ent_parts hu
  have sz : sizeLine = 16777216 := sizeLine_eq
  have lxs : xs.length = e.2.2.length := by rw [dps_len h3, List.length_map]
  refine ⟨_, rfl, b, _, 1, _, rfl, rfl, h1, atI_nat (j := 1) rfl, rfl, _, rfl, ?_⟩
  by_cases hr0 : e.2.1 = "relation"
  · have k2 : ∀ k ∈ e.2.2, k.length = 2 := hwe.1 hr0
    have eN : needOf S kind e = (e.2.2.filter nmP).map ndR := if_pos hr0
    refine itT (by simp [hr0]) ⟨_, rfl, b, _, 2, _, rfl, rfl, h1, atI_nat (j := 2) rfl, c, rfl, ⟨_, h2⟩, fun D hD => ?_⟩
    have a0 : Sm H (upd H D (.lst [])) := Sx.new hD
    refine lc_it (walk_tup (K := K) (a := c) (xs := xs)) (fun i G => ∃ ys, Sx (fun c => c = D) (upd H D (.lst [])) G ∧ G D = some (.lst ys) ∧ Paired (NdV G) ys (((e.2.2.take i).filter nmP).map ndR)) ⟨[], Sx.refl _, upd_same, .nil⟩ (fun i G hi ⟨ys, aa, _⟩ => (a0.sqT h2 |> aa.sqT)) (fun i x G0' G hi ⟨ys, aa, hGD, hys⟩ ⟨eG', hx⟩ => ?_) fun G ⟨ys, aa, hGD, hys⟩ => ?_
    · subst eG'
      have a1 := a0.aft hD aa
      obtain ⟨k, b', ys', hkk, rfl, hs', rfl⟩ := item_of h3 hx
      match k, k2 k (List.mem_of_getElem? hkk) with
      | [o, i'], _ =>
        have hly : ys.length < sizeLine := by
          have e1 : ys.length = (((e.2.2.take i).filter nmP).map ndR).length := Paired.length hys
          rw [List.length_map] at e1
          have e2 := List.length_filter_le nmP (e.2.2.take i)
          have e4 : (e.2.2.take i).length = min i e.2.2.length := List.length_take
          omega
        refine ⟨b', _, rfl, a1.sqT hs', rfl, _, _, rfl, _, _, rfl, rfl, rfl, _, rfl, rfl, _, rfl, ?_⟩
        by_cases hi0 : i' = ""
        · refine itF (by simp [hi0]) ⟨ys, aa, hGD, ?_⟩
          rw [take_snoc hkk, List.filter_append, List.filter_cons_of_neg (by simp [nmP, hi0]), List.filter_nil, List.append_nil]
          exact hys
        · refine itT (by simp [hi0]) ⟨_, rfl, _, rfl, by show 3 ≤ sizeLine; omega, fun p hp => ⟨ys, ?_, hly, ys ++ [.ref p], ?_, upd_same, ?_⟩⟩
          · rw [upd_ne (ne_of_none hGD hp)]
            exact hGD
          · exact (aa.trans (Sx.new hp)).trans (Sx.put (u := .lst ys) (by rw [upd_ne (ne_of_none hGD hp)]; exact hGD) rfl)
          · rw [take_snoc hkk, List.filter_append, List.filter_cons_of_pos (by simp [nmP, hi0]), List.filter_nil, List.map_append]
            have pD : p ≠ D := fun z => by rw [z, hGD] at hp; cases hp
            refine pr_snoc (Paired.mapP hys fun _ _ q => ?_) ⟨p, rfl, by rw [upd_ne pD, upd_same]; rfl⟩
            obtain ⟨t, e1, q1⟩ := q
            refine ⟨t, e1, ?_⟩
            rw [upd_ne (fun z => by rw [z, hGD] at q1; cases q1), upd_ne (ne_of_none q1 hp)]
            exact q1
    · refine hQ D ys G hD (a0.aft hD aa) hGD ?_
      rw [eN]
      rw [lxs, List.take_length] at hys
      exact hys
  · have k3 : ∀ k ∈ e.2.2, k.length = 3 := hwe.2 hr0
    have eN : needOf S kind e = e.2.2.flatMap (ndP S kind) := if_neg hr0
    refine itF (by simp [hr0]) ⟨Nat.zero_le _, fun D hD => ?_⟩
    have a0 : Sm H (upd H D (.lst [])) := Sx.new hD
    refine ⟨_, rfl, b, _, 2, _, rfl, rfl, a0.sqT h1, atI_nat (j := 2) rfl, c, rfl, ⟨_, a0.sqT h2⟩, for_it (walk_tup (K := K) (a := c) (xs := xs)) (fun i τ G => ∃ o4 o5 o6 o7 ys, τ = [some v, some (.str kind), some (.ref b), some (.ref D), o4, o5, o6, o7, none, none] ∧ Sx (fun c => c = D) (upd H D (.lst [])) G ∧ G D = some (.lst ys) ∧ Paired (NdV G) ys ((e.2.2.take i).flatMap (ndP S kind))) ⟨_, _, _, _, _, rfl, Sx.refl _, upd_same, .nil⟩
      (fun i τ G _ ⟨_, _, _, _, _, _, aa, _⟩ => aa.sqT (a0.sqT h2)) (fun i x τ G0' G hi ⟨o4, o5, o6, o7, ys, eτ, aa, hGD, hys⟩ ⟨eG', hx⟩ => ?_) fun τ G ⟨o4, o5, o6, o7, ys, eτ, aa, hGD, hys⟩ => ?_⟩
    · subst eτ eG'
      have a1 := a0.aft hD aa
      obtain ⟨k, b', ys', hkk, rfl, hs', rfl⟩ := item_of h3 hx
      have hly : ys.length ≤ i * 1000 := by
        have e1 : ys.length = ((e.2.2.take i).flatMap (ndP S kind)).length := Paired.length hys
        have e2 := flat_len (ndP_len hz3 kind) (e.2.2.take i)
        have e4 : (e.2.2.take i).length = min i e.2.2.length := List.length_take
        omega
      match k, k3 k (List.mem_of_getElem? hkk) with
      | [op, r, n], _ =>
        refine ⟨b', _, rfl, a1.sqT hs', rfl, _, _, rfl, _, _, rfl, _, _, rfl, rfl, ?_⟩
        refine kinds_if rfl rfl rfl rfl (dp_sx a1 _ _ (schD_noL S) hd) hw hz3 fun l G2 hl a2 hG2 => ?_
        have hGD2 := a2.atS hGD
        have nlD : D ≠ l := ne_of_none hGD hl
        have hys2 := Paired.mapP hys fun _ _ => NdV.sx a2
        have aa2 := aa.trans (Sx.of a2)
        clear hys
        have eP : ndP S kind [op, r, n] = (if r = "" then [kind] else ledOf S kind r n).map fun o => (o, n, decide (op = "-")) := rfl
        have lks : (if r = "" then [kind] else ledOf S kind r n).length ≤ 1000 := by
          have := ndP_len hz3 kind [op, r, n]
          rwa [eP, List.length_map] at this
        generalize (if r = "" then [kind] else ledOf S kind r n) = ks at hG2 eP lks
        refine ⟨_, rfl, .inl ⟨rfl, _, .of hGD2⟩, _, rfl, l, rfl, ⟨_, .of hG2⟩, fun D2 hD2 => ?_⟩
        have b0 : Sm G2 (upd G2 D2 (.lst [])) := Sx.new hD2
        have lD2 : l ≠ D2 := ne_of_none hG2 hD2
        refine lc_it (walk_list (K := K) (a := l) (xs := ks.map V.str)) (fun j G3 => ∃ zs, Sx (fun c => c = D2) (upd G2 D2 (.lst [])) G3 ∧ G3 D2 = some (.lst zs) ∧ Paired (NdV G3) zs ((ks.take j).map fun o => (o, n, decide (op = "-")))) ⟨[], Sx.refl _, upd_same, .nil⟩ (fun j G3 hj ⟨zs, bb, _⟩ => .of (bb.at (b0.atS hG2) lD2)) (fun j x G0' G3 hj ⟨zs, bb, hG3, hzs⟩ ⟨eG', hx⟩ => ?_) fun G3 ⟨zs, bb, hG3, hzs⟩ => ?_
        · subst eG'
          rw [List.getElem?_map] at hx
          cases hko : ks[j]? with
          | none => rw [hko] at hx; cases hx
          | some o =>
            rw [hko] at hx
            cases hx
            have hlz : zs.length < sizeLine := by
              have e1 : zs.length = ((ks.take j).map fun o => (o, n, decide (op = "-"))).length := Paired.length hzs
              rw [List.length_map, List.length_take] at e1
              omega
            refine ⟨rfl, tYes_i ?_⟩
            refine iteT ⟨_, rfl, _, rfl, _, rfl, rfl, by show 3 ≤ sizeLine; omega, fun p hp => ⟨zs, ?_, hlz, zs ++ [.ref p], ?_, upd_same, ?_⟩⟩
            · rw [upd_ne (ne_of_none hG3 hp)]
              exact hG3
            · exact (bb.trans (Sx.new hp)).trans (Sx.put (u := .lst zs) (by rw [upd_ne (ne_of_none hG3 hp)]; exact hG3) rfl)
            · rw [take_snoc hko, List.map_append]
              have pD : p ≠ D2 := fun z => by rw [z, hG3] at hp; cases hp
              refine pr_snoc (Paired.mapP hzs fun _ _ q => ?_) ⟨p, rfl, by rw [upd_ne pD, upd_same]; simp⟩
              obtain ⟨t, e1, q1⟩ := q
              refine ⟨t, e1, ?_⟩
              rw [upd_ne (fun z => by rw [z, hG3] at q1; cases q1), upd_ne (ne_of_none q1 hp)]
              exact q1
        · have b1 := b0.aft hD2 bb
          have hGD3 := b1.atS hGD2
          rw [List.length_map, List.take_length] at hzs
          have lz : zs.length = ks.length := by rw [Paired.length hzs, List.length_map]
          refine ⟨D, D2, ys, zs, rfl, rfl, hGD3, hG3, by omega, _, _, _, _, ys ++ zs, rfl, ?_, upd_same, ?_⟩
          · exact (aa2.trans (Sx.of b1)).trans (Sx.put hGD3 rfl)
          · rw [take_snoc hkk, List.flatMap_append, List.flatMap_cons, List.flatMap_nil, List.append_nil, eP]
            have up : ∀ x y, NdV G3 x y → NdV (upd G3 D (.lst (ys ++ zs))) x y := fun x y ⟨t, e1, q1⟩ => ⟨t, e1, by rw [upd_ne (fun z => by rw [z, hGD3] at q1; cases q1)]; exact q1⟩
            exact pr_app (Paired.mapP hys2 fun _ _ q => up _ _ (q.sx b1)) (Paired.mapP hzs up)
    · subst eτ
      refine ⟨_, rfl, hQ D ys G hD (a0.aft hD aa) hGD ?_⟩
      rw [eN]
      rw [lxs, List.take_length] at hys
      exact hys
end
end K83
/-! == of two dicts whose keys are tuples -/
namespace PySem.W
open PySem PySem.Calls PyProof.Rows PyProof.V PySem.Spec
section
variable {prog : Program} {w : World} {K : Type} [DecidableEq K] {knd : HeapKind prog w K} {A : Around} {E : Value → Shared → Prop} {s : Shared}
theorem samePairsH {nm : String} {a b : Addr} {ka kb : List (K × Addr × Value)} {r : Bool} {Q : Bool → Shared → Prop} (hu : knd.room A) (ha : (a == sysModules) = false) (hb : (b == sysModules) = false)
    (da : s.heap.DictOfH knd a ka) (db : s.heap.DictOfH knd b kb) (hits : ka.length = kb.length → KeqHitsP prog w A s (pairsH kb) (pairsH ka) r) (h : Q (ka.length == kb.length && r) s) :
    wpAny (model prog w) A (Builtin.Dict.samePairs nm a b) Q E s := by
  obtain ⟨oa, es, ep, hoa, _, hda, hea, hisa, hna⟩ := da
  obtain ⟨ob, es', ep', hob, _, hdb, heb, hisb, hnb⟩ := db
  have hla : ka.length = es.size := (size_of_entries hea).symm
  have hlb : kb.length = es'.size := (size_of_entries heb).symm
  rw [hla, hlb] at h
  unfold Builtin.Dict.samePairs Builtin.Dict.showsAll
  rw [if_neg (show ¬ (a == sysModules) = true by rw [ha]; exact Bool.false_ne_true), if_neg (show ¬ (b == sysModules) = true by rw [hb]; exact Bool.false_ne_true)]
  refine wpAny_bind (wpAny_pure (wpAny_bind (wpAny_pure ?_)))
  refine wpAny_bind (wpAny_dictEntries hoa hda ?_)
  dsimp only
  refine wpAny_bind (wpAny_dictEntries hob hdb ?_)
  by_cases hsz : es.size = es'.size
  case neg =>
    rw [if_pos (by simpa using hsz)]
    have hbf : (es.size == es'.size) = false := by simpa using hsz
    rw [hbf, Bool.false_and] at h
    exact wpAny_bind (wpAny_rule (wpAny_pure h))
  case pos =>
    have h' : Q r s := by simpa [hsz] using h
    have hits' := hits (by rw [hla, hlb]; exact hsz)
    rw [if_neg (by rw [hsz]; simp)]
    refine wpAny_bind (wpAny_dictEpoch hoa hda ?_)
    refine wpAny_bind ?_
    rw [Std.Legacy.Range.forIn_eq_forIn_range']
    simp only [Std.Legacy.Range.size, Nat.sub_zero, Nat.add_sub_cancel, Nat.div_one]
    refine wpAny_forIn_list _
      (fun rest q s' => s' = s ∧ q = (none, ()) ∧ ∃ i, rest = List.range' i (es.size - i) ∧ i ≤ es.size ∧ KeqHitsP prog w A s (pairsH kb) ((pairsH ka).drop i) r)
      _ ?_ ?_ _ _ ⟨rfl, rfl, 0, by simp, Nat.zero_le _, hits'⟩
    · rintro x rest q s' ⟨rfl, rfl, i, hr, hi, hpre⟩
      have hlt : i < es.size := by
        rcases Nat.lt_or_ge i es.size with h | h
        · exact h
        · rw [Nat.sub_eq_zero_of_le h] at hr; simp at hr
      obtain ⟨rfl, hrest⟩ : x = i ∧ rest = List.range' (i + 1) (es.size - (i + 1)) := by
        have e : es.size - i = (es.size - (i + 1)) + 1 := by omega
        rw [e, List.range'_succ] at hr
        injection hr with h1 h2
        exact ⟨h1, h2⟩
      refine wpAny_bind (wpAny_dictEntries hoa hda ?_)
      have hlt' : x < ka.length := by rw [hla]; exact hlt
      obtain ⟨k, ad, v, hkv⟩ : ∃ k ad v, ka[x]? = some (k, ad, v) := ⟨_, _, _, List.getElem?_eq_getElem hlt'⟩
      have hp' : (pairsH ka)[x]? = some (k, v) := by unfold pairsH; rw [List.getElem?_map, hkv]; rfl
      have hdrop : (pairsH ka).drop x = (k, v) :: (pairsH ka).drop (x + 1) := by
        obtain ⟨hl, e⟩ := List.getElem?_eq_some_iff.mp hp'
        rw [List.drop_eq_getElem_cons hl, e]
      have hent : es[x]? = some (entryOfKey knd (k, ad, v)) := by rw [entry_at hea x, hkv]; rfl
      rw [hent]
      rw [hdrop] at hpre
      have hkey : knd.is s'.heap k ad := hisa _ (List.mem_of_getElem? hkv)
      dsimp only [entryOfKey]
      refine wpAny_bind (wpAny_holding (wpAny_bind (wpAny_dictFind_heap (o := ob) (es := es') (ep := ep') (xs := kb) hu hkey hob hdb heb hisb hnb (fun hno => ?_) fun j p hj => ?_)))
      · have hn : valueAt (pairsH kb) k = none := by rw [valueAt_pairsH, atKey_none_of_get hno]; rfl
        rcases hpre.inv with ⟨_, er⟩ | ⟨y, _, _, hy, _⟩
        · rw [er] at h'
          refine wpAny_pure ?_
          show wpAny _ _ (if (!false) = true then _ else _) _ _ _
          rw [if_pos (by decide)]
          exact wpAny_pure (wpAny_pure h')
        · rw [hn] at hy; exact nomatch hy
      · have hv' : valueAt (pairsH kb) k = some p.2 := by rw [valueAt_pairsH, atKey_of_get hnb hj]; rfl
        refine wpAny_bind (wpAny_dictEntries hob hdb ?_)
        have hent' : es'[j]? = some (entryOfKey knd (k, p)) := by rw [entry_at heb j, hj]; rfl
        rw [hent']
        dsimp only [entryOfKey]
        rcases hpre.inv with ⟨hn, _⟩ | ⟨y, e, b', hy, he, hrr, er⟩
        · rw [hv'] at hn; exact nomatch hn
        · have ey : p.2 = y := Option.some.inj (hv'.symm.trans hy)
          rw [← ey] at he
          refine wpAny_holding (he _ _ ?_)
          cases e with
          | false =>
            rw [er, Bool.false_and] at h'
            show wpAny _ _ (if (!false) = true then _ else _) _ _ _
            rw [if_pos (by decide)]
            exact wpAny_pure (wpAny_pure h')
          | true =>
            rw [Bool.true_and] at er
            rw [← er] at hrr
            show wpAny _ _ (if (!true) = true then _ else _) _ _ _
            rw [if_neg (by decide)]
            refine wpAny_bind (wpAny_dictEpoch hoa hda ?_)
            rw [if_neg (by simp)]
            exact wpAny_pure ⟨rfl, rfl, x + 1, hrest, hlt, hrr⟩
    · rintro q s' ⟨rfl, rfl, i, hr, hi, hpre⟩
      have hin : i = es.size := by
        rcases Nat.lt_or_ge i es.size with h | h
        · have e : es.size - i = (es.size - (i + 1)) + 1 := by omega
          rw [e, List.range'_succ] at hr; exact nomatch hr
        · exact Nat.le_antisymm hi h
      refine wpAny_pure ?_
      have hlp : (pairsH ka).length = es.size := by unfold pairsH; rw [List.length_map, hla]
      rw [hin, ← hlp, List.drop_length] at hpre
      cases hpre
      exact h'
theorem eqH {a b : Addr} {ka kb : List (K × Addr × Value)} {r : Bool} {Q : Value → Shared → Prop} (hr : knd.room A.in1) (ha : (a == sysModules) = false) (hb : (b == sysModules) = false)
    (da : s.heap.DictOfH knd a ka) (db : s.heap.DictOfH knd b kb) (hu : A.units < cLine) (hits : ka.length = kb.length → KeqHitsP prog w A.in1 s (pairsH kb) (pairsH ka) r) (h : Q (.bool (ka.length == kb.length && r)) s) :
    wpAny (model prog w) A (compareOp .Eq (.ref a) (.ref b)) Q E s := by
  refine wpAny_richCompare_same_room (op := .Eq) da.typeIs db.typeIs PySem.F.slot_dict_eq (wpAny_call_entry PySem.F.slot_dict_eq da.typeIs PySem.F.entry_dict_eq ?_ (PySem.F.args_dict_eq_2 _ _)) hu
  show wpAny _ _ (Builtin.Dict.dictSlotArgs "__eq__" ⟨[.ref a, .ref b], []⟩ >>= _) _ _ s
  refine wpAny_bind ?_
  unfold Builtin.Dict.dictSlotArgs
  refine wpAny_bind (wpAny_notOrdered_dict da.typeIs ?_)
  show wpAny _ _ (pure (Value.ref a, Value.ref b)) _ _ s
  refine wpAny_pure ?_
  refine wpAny_bind (wpAny_isInstance (T := "dict") db.typeIs PySem.F.sub_dict_dict ?_)
  simp only [Bool.not_true, Bool.false_eq_true, if_false]
  refine wpAny_bind (wpAny_pure (wpAny_bind (wpAny_pure ?_)))
  refine wpAny_bind (samePairsH hr ha hb da db hits ?_)
  refine wpAny_pure ⟨_, rfl, ?_, ?_⟩
  · exact fun x => nomatch x
  · simpa using h
end
end PySem.W
namespace K83
open PySem PySem.Spec PyProof.Rows L2 L2.DX GxR
section
variable {X : Cx}
/-- the dict of a list of keys and ints -/
def iD (ks : List (List Str)) (f : List Str → Int) : List (List Key × V) := ks.map fun k => (k.map Sum.inr, V.int (f k))
def rEqI : R2 := fun x y H Q => ∃ a b ks f g, x = .ref a ∧ y = .ref b ∧ H a = some (.dT (iD ks f)) ∧ H b = some (.dT (iD ks g)) ∧ Q (.bl (decide (∀ k ∈ ks, f k = g k))) H
theorem valV_iD {ks : List (List Str)} {f : List Str → Int} {k : List Str} (h : k ∈ ks) : valV (iD ks f) (k.map Sum.inr) = some (.int (f k)) := by
  induction ks with
  | nil => cases h
  | cons a ks ih =>
    show valV ((a.map Sum.inr, V.int (f a)) :: iD ks f) _ = _
    by_cases e : a = k
    · subst e
      exact valV_pos rfl
    · rw [valV_neg (fun z => e (inr_inj z))]
      rcases List.mem_cons.mp h with z | z
      · exact absurd z.symm e
      · exact ih z
theorem hits_iD {P : Program} {w : World} {A : Around} {s : Shared} {H : Hp} {ks : List (List Str)} {f g : List Str → Int} {xb : List (List Key × Addr × Value)} (rb : KT H (iD ks g) xb) :
    ∀ (ls : List (List Str)) (xa : List (List Key × Addr × Value)), (∀ k ∈ ls, k ∈ ks) → KT H (iD ls f) xa → PySem.W.KeqHitsP P w A s (pairsH xb) (pairsH xa) (decide (∀ k ∈ ls, f k = g k))
  | [], _, _, h => by
    cases h
    have : decide (∀ k ∈ ([] : List (List Str)), f k = g k) = true := by simp
    rw [this]
    exact .nil
  | k :: ls, _, sub, h => by
    cases h with
    | @cons _ q _ qs h1 h2 =>
      have hv : RelO (some (.int (g k))) ((atKey xb (k.map Sum.inr)).map (·.2)) := by rw [← valV_iD (ks := ks) (f := g) (sub k List.mem_cons_self)]; exact rb.val _
      rw [← valueAt_pairsH] at hv
      obtain ⟨y, hy, ry⟩ := hv.some_of
      obtain ⟨e1, _, r2⟩ := h1
      have e1 : k.map Sum.inr = q.1 := e1
      have r2 : RelV (.int (f k)) q.2.2 := r2
      rw [e1] at hy
      have ih := hits_iD (P := P) (w := w) (A := A) (s := s) rb ls qs (fun k' hk' => sub k' (List.mem_cons_of_mem _ hk')) h2
      have ed : decide (∀ k' ∈ k :: ls, f k' = g k') = ((f k == g k) && decide (∀ k' ∈ ls, f k' = g k')) := by
        rw [Bool.eq_iff_iff]
        simp
      rw [ed]
      show PySem.W.KeqHitsP P w A s (pairsH xb) ((q.1, q.2.2) :: pairsH qs) _
      refine .hit hy ?_ ih
      obtain ⟨t, e⟩ := r2
      obtain ⟨t', e'⟩ := ry
      rw [e, e']
      exact fun E Q h => SeqAt.EqAt.int_int (A := A) (s := s) (f k) t (g k) t' _ _ _ _ h
theorem op_eqI (hu : X.A.units + 1 < cLine) : OpR X (compareOp .Eq) rEqI := by
  intro pins s σ H x y v u Q I rx ry h
  obtain ⟨a, b, ks, f, g, rfl, rfl, ea, eb, q⟩ := h
  obtain rfl : v = Value.ref a := rx
  obtain rfl : u = Value.ref b := ry
  obtain ⟨_, ya, va, ra, da⟩ := dt_of I.hok ea
  obtain ⟨_, yb, vb, rb, db⟩ := dt_of I.hok eb
  have hl : va.length = vb.length := by
    have h1 : (iD ks f).length = va.length := Paired.length ra
    have h2 : (iD ks g).length = vb.length := Paired.length rb
    rw [← h1, ← h2]
    simp [iD]
  exact PySem.W.eqH (tupleKind_room_in1 hu) ya yb da db (by omega) (fun _ => hits_iD rb ks va (fun _ z => z) ra) (fin_bl I q (by simp [hl]))
end
end K83
/-! max(ints, default=d), min(ints, default=d) -/
namespace K83
open PySem PySem.Spec PyProof.Rows L2 L2.DX GxR
section
variable {X : Cx}
def mxV (l : List Int) (d : V) : V := match l with
  | [] => d
  | y :: ys => .int (PySem.W.maxOf y ys)
def mnV (l : List Int) (d : V) : V := match l with
  | [] => d
  | y :: ys => .int (PySem.W.minOf y ys)
def rMaxD (K : PySem.W.Frag) : List V → List V → Hp → VK → Prop := fun xs zs H Q => ∃ a is d, xs = [V.ref a] ∧ zs = [d] ∧ SqL K H a (is.map V.int) ∧ Q (mxV is d) H
def rMinD (K : PySem.W.Frag) : List V → List V → Hp → VK → Prop := fun xs zs H Q => ∃ a is d, xs = [V.ref a] ∧ zs = [d] ∧ SqL K H a (is.map V.int) ∧ Q (mnV is d) H
theorem cr_maxD (hc : X.calm = true) (hu : X.A.units + 64 < cLine) : CallRK X (.builtin "max") [Str.ofString "default"] (rMaxD X.K) := by
  intro pins s σ H xs zs us ws Q I r rz h
  obtain ⟨a, is, d, rfl, rfl, hs, q⟩ := h
  obtain ⟨u2, rfl, ru2⟩ := rz.one
  rw [Vals.ref1 r]
  obtain ⟨its, rv, hl, hz⟩ := I.list hs
  have hi := rv.ints
  have hd : PySem.W.Datum.depth Int ≤ 8 := by decide
  have hu2 : X.A.units + 1 + PySem.W.Datum.depth Int < cLine := by omega
  show wpAny (model X.prog X.w) X.A (call (.builtin "max") [.ref a] [(Str.ofString "default", u2)]) (EP X pins σ Q) X.xe s
  refine PySem.W.max_list_datum_default (xs := is) (I.ok.hd hc) hl.isList (by simpa using PySem.W.HoldAll.of_ints hi) hu2 (fun e h' tk hk => ?_) fun y ys i v h' tk e hv hh hk => ?_
  · subst e
    exact ⟨d, H, I.kept hk, ru2, q⟩
  · subst e
    obtain ⟨t, rfl⟩ := PySem.W.int_of_holds hh
    exact ⟨.int _, H, I.kept hk, ⟨t, rfl⟩, q⟩
theorem cr_minD (hc : X.calm = true) (hu : X.A.units + 64 < cLine) : CallRK X (.builtin "min") [Str.ofString "default"] (rMinD X.K) := by
  intro pins s σ H xs zs us ws Q I r rz h
  obtain ⟨a, is, d, rfl, rfl, hs, q⟩ := h
  obtain ⟨u2, rfl, ru2⟩ := rz.one
  rw [Vals.ref1 r]
  obtain ⟨its, rv, hl, hz⟩ := I.list hs
  have hi := rv.ints
  have hd : PySem.W.Datum.depth Int ≤ 8 := by decide
  have hu2 : X.A.units + 1 + PySem.W.Datum.depth Int < cLine := by omega
  show wpAny (model X.prog X.w) X.A (call (.builtin "min") [.ref a] [(Str.ofString "default", u2)]) (EP X pins σ Q) X.xe s
  refine PySem.W.min_list_datum_default (xs := is) (I.ok.hd hc) hl.isList (by simpa using PySem.W.HoldAll.of_ints hi) hu2 (fun e h' tk hk => ?_) fun y ys i v h' tk e hv hh hk => ?_
  · subst e
    exact ⟨d, H, I.kept hk, ru2, q⟩
  · subst e
    obtain ⟨t, rfl⟩ := PySem.W.int_of_holds hh
    exact ⟨.int _, H, I.kept hk, ⟨t, rfl⟩, q⟩
end
end K83
namespace K83
open PySem PySem.Spec PyProof.Rows L2 L2.DX GxR
/-! ### strata -/
theorem putK_iD {f : List Str → Int} {ks : List (List Str)} {k : List Str} (h : k ∉ ks) : putK (iD ks f) (k.map Sum.inr) (.int (f k)) = iD (ks ++ [k]) f := by
  have hn : valV (iD ks f) (k.map Sum.inr) = none := by
    induction ks with
    | nil => rfl
    | cons a ks ih =>
      show valV ((a.map Sum.inr, V.int (f a)) :: iD ks f) _ = none
      rw [valV_neg (fun z => h (by rw [← inr_inj z]; exact List.mem_cons_self))]
      exact ih fun z => h (List.mem_cons_of_mem _ z)
  rw [putK_new _ hn]
  unfold iD
  rw [List.map_append]
  rfl
theorem iD_len {f : List Str → Int} {ks : List (List Str)} : (iD ks f).length = ks.length := by simp [iD]
def prs (S : Sch) : List (Str × Sen) := S.flatMap fun p => p.2.map fun e => (p.1, e)
def keyOf (q : Str × Sen) : List Str := [q.1, q.2.1]
def ksOf (S : Sch) : List (List Str) := (prs S).map keyOf
def ndAt (S : Sch) (k : List Str) : List Nd := match (prs S).find? (fun q => decide (keyOf q = k)) with
  | some q => needOf S q.1 q.2
  | none => []
def lowOf (f : List Str → Int) (d : Nd) : Int := f [d.1, d.2.1] + (if d.2.2 = true then 1 else 0)
def mx0 (l : List Int) : Int := match l with
  | [] => 0
  | y :: ys => PySem.W.maxOf y ys
def stepL (S : Sch) (f : List Str → Int) (k : List Str) : Int := mx0 ((ndAt S k).map (lowOf f))
def lev (S : Sch) : Nat → List Str → Int
  | 0 => fun _ => 0
  | i + 1 => stepL S (lev S i)
structure StrOk (S : Sch) : Prop where
  wf : WfS S
  hz : ∀ p ∈ S, ∀ e ∈ p.2, e.2.2.length ≤ 1000
  nd : (ksOf S).Nodup
  cl : ∀ q ∈ prs S, ∀ d ∈ needOf S q.1 q.2, [d.1, d.2.1] ∈ ksOf S
  ln : ∀ q ∈ prs S, (needOf S q.1 q.2).length ≤ 1000000
  fx : ∃ r, r ≤ (ksOf S).length ∧ ∀ k ∈ ksOf S, lev S (r + 1) k = lev S r k
  len : (ksOf S).length ≤ 1000
theorem ndAt_of {S : Sch} (h : (ksOf S).Nodup) {q : Str × Sen} (hq : q ∈ prs S) : ndAt S (keyOf q) = needOf S q.1 q.2 := by
  unfold ndAt
  have go : ∀ {l : List (Str × Sen)}, (l.map keyOf).Nodup → q ∈ l → l.find? (fun r => decide (keyOf r = keyOf q)) = some q := by
    intro l
    induction l with
    | nil => intro _ z; cases z
    | cons a l ih =>
      intro nd hm
      rw [List.map_cons, List.nodup_cons] at nd
      rcases List.mem_cons.mp hm with e | hm'
      · subst e
        rw [List.find?_cons_of_pos (by simp)]
      · rw [List.find?_cons_of_neg, ih nd.2 hm']
        simp only [decide_eq_true_eq]
        exact fun z => nd.1 (List.mem_map.mpr ⟨q, hm', z.symm⟩)
  rw [go h hq]
def NeV (S : Sch) (H : Hp) (kv : List Key × V) (q : Str × Sen) : Prop := kv.1 = (keyOf q).map Sum.inr ∧ ∃ l ys, kv.2 = .ref l ∧ H l = some (.lst ys) ∧ Paired (NdV H) ys (needOf S q.1 q.2)
theorem NeV.sx {S : Sch} {M : Addr → Prop} {H H1 : Hp} {kv : List Key × V} {q : Str × Sen} (a : Sx M H H1) (hM : ∀ b, M b → ∀ ys, H b ≠ some (.lst ys)) (h : NeV S H kv q) : NeV S H1 kv q := by
  obtain ⟨e, l, ys, e1, h1, h2⟩ := h
  exact ⟨e, l, ys, e1, a.at h1 fun z => hM _ z _ h1, Paired.mapP h2 fun _ _ => NdV.sx a⟩
theorem putK_ne {S : Sch} {H : Hp} {kvs : List (List Key × V)} {qs : List (Str × Sen)} {q : Str × Sen} {v : V} (h : Paired (NeV S H) kvs qs) (hq : keyOf q ∉ qs.map keyOf) : putK kvs ((keyOf q).map Sum.inr) v = kvs ++ [((keyOf q).map Sum.inr, v)] := by
  refine putK_new _ ?_
  induction h with
  | nil => rfl
  | @cons a b as bs h1 _ ih =>
    rw [List.map_cons] at hq
    rw [valV_neg]
    · exact ih fun z => hq (List.mem_cons_of_mem _ z)
    · rw [h1.1]
      exact fun z => hq (by rw [← inr_inj z]; exact List.mem_cons_self)
theorem valV_ne {S : Sch} {H : Hp} {kvs : List (List Key × V)} {qs : List (Str × Sen)} (h : Paired (NeV S H) kvs qs) (nd : (qs.map keyOf).Nodup) {q : Str × Sen} (hq : q ∈ qs) : ∃ l ys, valV kvs ((keyOf q).map Sum.inr) = some (.ref l) ∧ H l = some (.lst ys) ∧ Paired (NdV H) ys (needOf S q.1 q.2) := by
  induction h with
  | nil => cases hq
  | @cons a b as bs h1 _ ih =>
    rw [List.map_cons, List.nodup_cons] at nd
    rcases List.mem_cons.mp hq with e | hm
    · subst e
      obtain ⟨e1, l, ys, e2, h2, h3⟩ := h1
      exact ⟨l, ys, by rw [valV_pos e1, e2], h2, h3⟩
    · rw [valV_neg]
      · exact ih nd.2 hm
      · rw [h1.1]
        exact fun z => nd.1 (List.mem_map.mpr ⟨q, hm, (inr_inj z).symm⟩)
theorem ite_int {c : Bool} {Q : VK} {H : Hp} (h : Q (.int (if c = true then 1 else 0)) H) : if c = true then Q (.int 1) H else Q (.int 0) H := by
  cases c with
  | true => exact h
  | false => exact h
theorem mxV_int (l : List Int) : mxV l (.int 0) = .int (mx0 l) := by cases l <;> rfl
/-- a dict is locked and unlocked -/
theorem Sx.unlock {M : Addr → Prop} {H G : Hp} {d : Addr} {od : Obj} {u : HO} (hd : H d = some u) (a : Sx M (upd H d (.frz od u)) G) (n1 : ∀ xs, u ≠ .tup xs := by intro _ z; cases z) (n2 : ∀ ps, u ≠ .tbl ps := by intro _ z; cases z) (n3 : ∀ a b, u ≠ .frz a b := by intro _ _ z; cases z) : Sx M H (upd G d u) := by
  have ne : ∀ {b : Addr} {v : HO}, H b = some v → (v = u → False) → b ≠ d := fun {b v} e q z => by
    rw [z, hd] at e
    exact q (Option.some.inj e).symm
  have go : ∀ {b : Addr} {v : HO}, H b = some v → (v = u → False) → upd H d (.frz od u) b = some v := fun {b v} e q => by rw [upd_ne (ne e q)]; exact e
  refine ⟨fun b o e m n => ?_, fun b xs e => ?_, fun b o v e => ?_, fun T e => ?_, fun b e => ?_⟩
  · by_cases z : b = d
    · rw [z, hd] at e
      rw [z, upd_same, e]
    · rw [upd_ne z]
      exact a.keep b o (by rw [upd_ne z]; exact e) m n
  · rw [upd_ne (ne e fun z => n1 xs z.symm)]
    exact a.tups b xs (go e fun z => n1 xs z.symm)
  · rw [upd_ne (ne e fun z => n3 o v z.symm)]
    exact a.frzs b o v (go e fun z => n3 o v z.symm)
  · obtain ⟨ps, e, t⟩ := e
    obtain ⟨ps', e', t'⟩ := a.tabs T ⟨ps, go e fun z => n2 ps z.symm, t⟩
    exact ⟨ps', by rw [upd_ne (ne e fun z => n2 ps z.symm)]; exact e', t'⟩
  · by_cases z : b = d
    · rw [z, upd_same] at e; cases e
    · rw [upd_ne z] at e
      have := a.old b e
      rwa [upd_ne z] at this
theorem prs_take {S : Sch} {i : Nat} {p : Str × List Sen} (h : S[i]? = some p) : prs (S.take (i + 1)) = prs (S.take i) ++ p.2.map (fun e => (p.1, e)) := by
  unfold prs
  rw [take_snoc h, List.flatMap_append]
  simp
theorem prs_split {S : Sch} {i j : Nat} {p : Str × List Sen} {e : Sen} (h : S[i]? = some p) (he : p.2[j]? = some e) : ∃ r, prs S = (prs (S.take i) ++ (p.2.take j).map (fun e => (p.1, e))) ++ (p.1, e) :: r := by
  obtain ⟨hi, ei⟩ := List.getElem?_eq_some_iff.mp h
  obtain ⟨hj, ej⟩ := List.getElem?_eq_some_iff.mp he
  refine ⟨(p.2.drop (j + 1)).map (fun e => (p.1, e)) ++ prs (S.drop (i + 1)), ?_⟩
  have e1 : S = S.take i ++ p :: S.drop (i + 1) := by
    rw [← ei, ← List.drop_eq_getElem_cons hi, List.take_append_drop]
  have e2 : p.2 = p.2.take j ++ e :: p.2.drop (j + 1) := by
    rw [← ej, ← List.drop_eq_getElem_cons hj, List.take_append_drop]
  conv => lhs; rw [e1]
  unfold prs
  rw [List.flatMap_append, List.flatMap_cons]
  conv => lhs; rw [e2]
  simp
section
variable {P : Program} {w : World} {K : PySem.W.Frag} {mg : Str → Option Value} {base : Heap}
def sp_strata (K : PySem.W.Frag) : Sp := fun vs H Q _ => ∃ (v : V) (S : Sch), vs = [v] ∧ Dp K H v (schD S) ∧ StrOk S ∧ ∀ d i H', i ≤ (ksOf S).length → H d = none → Sm H H' → H' d = some (.dT (iD (ksOf S) (lev S i))) → Q (.ref d) H'
abbrev N_strata : List Str := ["schema", "levels", "needs", "kind", "entries", "entry", "round_number", "raised", "pair", "lower", "other", "name", "is_negative"]
theorem ok_strata (W : Wd K mg base) : FnOk P w K mg base CX0 4 (A_strata K) (F_strata K) ["schema"] (sp_strata K) := by
  refine W.fu_strata.ok sc_strata (fun vs H Q E h => by obtain ⟨_, _, rfl, _⟩ := h; rfl) fun cdv A outer s H vs Q E hr h => ?_
  obtain ⟨v, S, rfl, hd, hS, hQ⟩ := h
  refine ⟨_, PSs.nox (pss_cons (ps_set (i := 1) sc_strata.nd rfl (by first | exact Or.inl rfl | exact Or.inr rfl) pe_dnewT)
      (pss_cons (ps_set (i := 2) sc_strata.nd rfl (by first | exact Or.inl rfl | exact Or.inr rfl) pe_dnewT)
      (pss_cons (ps_for PassesOwn.never rfl (pi_tup (pv 0)) (pg_tup rfl (pgs_cons (pg_name (i := 3) sc_strata.nd rfl (by first | exact Or.inl rfl | exact Or.inr rfl)) (pgs_cons (pg_name (i := 4) sc_strata.nd rfl (by first | exact Or.inl rfl | exact Or.inr rfl)) pgs_nil))) (pss_one (ps_for PassesOwn.never rfl (pi_tup (pv 4)) (pg_name (i := 5) sc_strata.nd rfl (by first | exact Or.inl rfl | exact Or.inr rfl)) (pss_cons (ps_dput (hu_of hr) (pv 1) (pe_tup (pa_cons (pv 3) (pa_cons (pe_ix ix_tup (pv 5) pe_int (fun _ _ => rfl)) pa_nil))) pe_int rfl)
      (pss_one (ps_dput (hu_of hr) (pv 2) (pe_tup (pa_cons (pv 3) (pa_cons (pe_ix ix_tup (pv 5) pe_int (fun _ _ => rfl)) pa_nil))) (pe_call (ok_needs_of W) (hr.mono (by decide)) rfl W.gl_needs_of (W.fu_needs_of).kp W.bd_needs_of .nil pass0 (pa_cons (pv 0) (pa_cons (pv 3) (pa_cons (pv 5) pa_nil)))) rfl))))))
      (pss_cons (ps_for PassesOwn.never rfl (pi_range1 rfl W.fr_range (pa_cons (pe_op op_add (pe_callB call_len_dT (by rfl) W.fr_len PySem.boot_len (pa_cons (pv 1) pa_nil)) pe_int) pa_nil)) (pg_name (i := 6) sc_strata.nd rfl (by first | exact Or.inl rfl | exact Or.inr rfl)) (pss_cons (ps_set (i := 7) sc_strata.nd rfl (by first | exact Or.inl rfl | exact Or.inr rfl) pe_dnewT)
      (pss_cons (ps_lock (ps_for PassesOwn.never rfl (pi_keys (pv 1)) (pg_name (i := 8) sc_strata.nd rfl (by first | exact Or.inl rfl | exact Or.inr rfl)) (pss_cons (ps_setLc (i := 9) (own := [("other", 10), ("name", 11), ("is_negative", 12)]) (g := (gTup K 3 (gCons (gName 10) (gCons (gName 11) (gCons (gName 12) gNil))))) rfl sc_strata.nd rfl rfl (sw_true rfl rfl rfl (by decide +kernel)) (pi_list (pe_dget (hu_of hr) (pv 2) (pv 8) (fun _ _ => rfl))) (blkOk_by (own := [("other", 10), ("name", 11), ("is_negative", 12)]) (N := N_strata) (sc := defScope s_strata) (by decide +kernel)) (fun _ _ _ _ _ => (pg_tup rfl (pgs_cons (pg_name (i := 10) sc_strata.nd rfl (by first | exact Or.inl rfl | exact Or.inr rfl)) (pgs_cons (pg_name (i := 11) sc_strata.nd rfl (by first | exact Or.inl rfl | exact Or.inr rfl)) (pgs_cons (pg_name (i := 12) sc_strata.nd rfl (by first | exact Or.inl rfl | exact Or.inr rfl)) pgs_nil))))) (fun _ _ _ _ _ => pts_nil) (fun _ _ _ _ _ => (pe_op op_add (pe_dget (hu_of hr) (pv 1) (pe_tup (pa_cons (pv 10) (pa_cons (pv 11) pa_nil))) (fun _ _ => rfl)) (pe_ifExp (pt_val (pv 12)) pe_int pe_int))))
      (pss_one (ps_dput (hu_of hr) (pv 7) (pv 8) (pe_callBK (cr_maxD rfl hr.units) (by rfl) W.fr_max (by decide +kernel) (pa_cons (pv 9) pa_nil) (pk_cons pe_int pk_nil)) rfl)))))
      (pss_cons (ps_if (pt_cmpR (op_eqI (hu_of hr)) (pv 7) (pv 1) (by rfl)) (pss_one (ps_ret (pv 1))) pss_nil)
      (pss_one (ps_set (i := 1) sc_strata.nd rfl (by first | exact Or.inl rfl | exact Or.inr rfl) (pv 7)))))))
      (pss_one ps_never))))), ?_⟩
  obtain ⟨a, rows, rfl, hs, hrows⟩ := sch_parts hd
  have sz : sizeLine = 16777216 := sizeLine_eq
  have lrow : rows.length = S.length := by rw [dps_len hrows, List.length_map]
  intro L hL N hN
  have aL : Sm H (upd H L (.dT [])) := Sx.new hL
  have aN : Sm (upd H L (.dT [])) (upd (upd H L (.dT [])) N (.dT [])) := Sx.new hN
  have a0 := aL.trans aN
  have hL0 : upd (upd H L (.dT [])) N (.dT []) L = some (.dT []) := by rw [upd_ne (ne_of_none upd_same hN), upd_same]
  have hN0 : upd (upd H L (.dT [])) N (.dT []) N = some (.dT []) := upd_same
  have nLN : L ≠ N := ne_of_none upd_same hN
  have hNn : H N = none := aL.old N hN
  generalize upd (upd H L (.dT [])) N (.dT []) = H0 at a0 hL0 hN0
  clear aL aN hN
  have fr : ∀ {G : Hp}, Sx (fun b => b = L ∨ b = N) H0 G → Sm H G := fun {G} b => a0.after b fun c o e m => by
    rcases m with m | m
    · rw [m, hL] at e; cases e
    · rw [m, hNn] at e; cases e
  have lkk : (ksOf S).length = (prs S).length := by simp [ksOf]
  have hlen := hS.len
  have hlys := hS.ln
  refine ⟨_, rfl, a, rfl, ⟨_, a0.sqT hs⟩, for_it (walk_tup (K := K) (a := a) (xs := rows)) (fun i τ G => ∃ o3 o4 o5 kvs, τ = [some (.ref a), some (.ref L), some (.ref N), o3, o4, o5, none, none, none, none, none, none, none] ∧ Sx (fun b => b = L ∨ b = N) H0 G ∧ G L = some (.dT (iD ((prs (S.take i)).map keyOf) (fun _ => 0))) ∧ G N = some (.dT kvs) ∧ Paired (NeV S G) kvs (prs (S.take i)))
    ⟨_, _, _, [], rfl, Sx.refl _, hL0, hN0, .nil⟩ (fun i τ G _ ⟨_, _, _, _, _, b, _⟩ => (fr b).sqT hs) (fun i x τ G0' G hi ⟨o3, o4, o5, kvs, eτ, b, gL, gN, hne⟩ ⟨eG', hx⟩ => ?_) fun τ G ⟨o3, o4, o5, kvs, eτ, b, gL, gN, hne⟩ => ?_⟩
  · subst eτ eG'
    obtain ⟨p, b', c', es, hp, rfl, hb', hc', hes⟩ := row_of hrows hx
    have les : es.length = p.2.length := by rw [dps_len hes, List.length_map]
    have hpS : p ∈ S := List.mem_of_getElem? hp
    refine ⟨b', _, rfl, (fr b).sqT hb', rfl, _, _, rfl, _, _, rfl, rfl, _, rfl, c', rfl, ⟨_, (fr b).sqT hc'⟩, for_it (walk_tup (K := K) (a := c') (xs := es)) (fun j τ G => ∃ o5 kvs, τ = [some (.ref a), some (.ref L), some (.ref N), some (.str p.1), some (.ref c'), o5, none, none, none, none, none, none, none] ∧ Sx (fun b => b = L ∨ b = N) H0 G ∧ G L = some (.dT (iD ((prs (S.take i) ++ (p.2.take j).map (fun e => (p.1, e))).map keyOf) (fun _ => 0))) ∧ G N = some (.dT kvs) ∧ Paired (NeV S G) kvs (prs (S.take i) ++ (p.2.take j).map (fun e => (p.1, e))))
      ⟨_, kvs, rfl, b, by rw [List.take_zero, List.map_nil, List.append_nil]; exact gL, gN, by rw [List.take_zero, List.map_nil, List.append_nil]; exact hne⟩ (fun j τ G _ ⟨_, _, _, b, _⟩ => (fr b).sqT hc') (fun j x τ G0' G2 hj ⟨o5, kvs, eτ, b, gL, gN, hne⟩ ⟨eG', hx⟩ => ?_) fun τ G ⟨o5, kvs, eτ, b, gL, gN, hne⟩ => ?_⟩
    · subst eτ eG'
      obtain ⟨de, hde, hdp⟩ := dps_get2 hes hx
      rw [List.getElem?_map] at hde
      cases hej : p.2[j]? with
      | none => rw [hej] at hde; cases hde
      | some e =>
        rw [hej] at hde
        cases hde
        obtain ⟨b2, c2, xs2, rfl, h1, h2, h3⟩ := ent_parts hdp
        have hep : e ∈ p.2 := List.mem_of_getElem? hej
        obtain ⟨r, hsp⟩ := prs_split hp hej
        have hnd := hS.nd
        have hnin : keyOf (p.1, e) ∉ (prs (S.take i) ++ (p.2.take j).map (fun e => (p.1, e))).map keyOf := by
          unfold ksOf at hnd
          rw [hsp, List.map_append, List.map_cons] at hnd
          intro z
          exact (List.nodup_append.mp hnd).2.2 _ z _ List.mem_cons_self rfl
        have hlq : (prs (S.take i) ++ (p.2.take j).map (fun e => (p.1, e))).length < 1000 := by
          have : (prs S).length = ((prs (S.take i) ++ (p.2.take j).map (fun e => (p.1, e))) ++ (p.1, e) :: r).length := by rw [← hsp]
          rw [List.length_append, List.length_cons] at this
          omega
        have enx : prs (S.take i) ++ (p.2.take (j + 1)).map (fun e => (p.1, e)) = (prs (S.take i) ++ (p.2.take j).map (fun e => (p.1, e))) ++ [(p.1, e)] := by
          rw [take_snoc hej, List.map_append, List.append_assoc]
          rfl
        rw [enx]
        generalize prs (S.take i) ++ (p.2.take j).map (fun e => (p.1, e)) = qs at gL hne hnin hlq
        have lkv : kvs.length = qs.length := Paired.length hne
        refine ⟨_, rfl, _, rfl, _, rfl, b2, _, 0, _, rfl, rfl, (fr b).sqT h1, atI_nat (j := 0) rfl, by show 2 ≤ sizeLine; omega, fun k1 hk1 => ⟨L, _, rfl, .inr ⟨_, (keyOf (p.1, e)).map Sum.inr, k1, by rw [upd_ne (ne_of_none gL hk1)]; exact gL, rfl, upd_same, by rw [iD_len, List.length_map]; omega, rfl⟩, ?_⟩⟩
        rw [putK_iD (f := fun _ => 0) hnin]
        have e1 : Sx (fun b => b = L ∨ b = N) G2 (upd (upd G2 k1 (.tup [.str p.1, .str e.1])) L (.dT (iD (qs.map keyOf ++ [keyOf (p.1, e)]) (fun _ => 0)))) := (Sx.new hk1).trans (Sx.put (u := .dT (iD (qs.map keyOf) (fun _ => 0))) (by rw [upd_ne (ne_of_none gL hk1)]; exact gL) (.inl rfl))
        have gL1 : upd (upd G2 k1 (.tup [.str p.1, .str e.1])) L (.dT (iD (qs.map keyOf ++ [keyOf (p.1, e)]) (fun _ => 0))) L = some (.dT (iD (qs.map keyOf ++ [keyOf (p.1, e)]) (fun _ => 0))) := upd_same
        have gN1 : upd (upd G2 k1 (.tup [.str p.1, .str e.1])) L (.dT (iD (qs.map keyOf ++ [keyOf (p.1, e)]) (fun _ => 0))) N = some (.dT kvs) := by rw [upd_ne nLN.symm, upd_ne (ne_of_none gN hk1)]; exact gN
        have hM : ∀ {G : Hp} {x y}, G L = some (.dT x) → G N = some (.dT y) → ∀ b, (b = L ∨ b = N) → ∀ ys, G b ≠ some (.lst ys) := fun {G x y} g1 g2 b m ys z => by
          rcases m with m | m
          · rw [m, g1] at z; cases z
          · rw [m, g2] at z; cases z
        have hne1 := Paired.mapP hne fun _ _ => NeV.sx e1 (hM gL gN)
        have b1 := b.trans e1
        generalize upd (upd G2 k1 (.tup [.str p.1, .str e.1])) L (.dT (iD (qs.map keyOf ++ [keyOf (p.1, e)]) (fun _ => 0))) = G3 at e1 gL1 gN1 hne1 b1
        refine ⟨_, rfl, _, rfl, _, rfl, .ref a, .ref b2, S, p.1, e, rfl, dp_sx (fr b1) _ _ (schD_noL S) hd, dp_sx (fr b1) _ _ (entD_noL e) hdp, hS.wf, hS.wf p hpS e hep, hS.hz p hpS e hep, hS.hz, fun l ys G4 hl a4 hG4 hys => ?_⟩
        have gL4 := a4.atS gL1
        have gN4 := a4.atS gN1
        have hne4 := Paired.mapP hne1 fun _ _ => NeV.sx a4 fun b z => z.elim
        have b4 := b1.trans (Sx.of a4)
        refine ⟨_, rfl, _, rfl, _, rfl, b2, _, 0, _, rfl, rfl, (fr b4).sqT h1, atI_nat (j := 0) rfl, by show 2 ≤ sizeLine; omega, fun k2 hk2 => ⟨N, _, rfl, .inr ⟨kvs, (keyOf (p.1, e)).map Sum.inr, k2, by rw [upd_ne (ne_of_none gN4 hk2)]; exact gN4, rfl, upd_same, by omega, rfl⟩, ?_⟩⟩
        rw [putK_ne hne4 hnin]
        have a5 : Sm G4 (upd G4 k2 (.tup [.str p.1, .str e.1])) := Sx.new hk2
        have gN5 := a5.atS gN4
        have gL5 := a5.atS gL4
        have a6 : Sx (fun b => b = L ∨ b = N) (upd G4 k2 (.tup [.str p.1, .str e.1])) (upd (upd G4 k2 (.tup [.str p.1, .str e.1])) N (.dT (kvs ++ [((keyOf (p.1, e)).map Sum.inr, .ref l)]))) := Sx.put gN5 (.inr rfl)
        refine ⟨_, _, rfl, (b4.trans (Sx.of a5)).trans a6, ?_, upd_same, ?_⟩
        · show upd (upd G4 k2 _) N _ L = _
          rw [upd_ne nLN, gL5, List.map_append]
          rfl
        · refine pr_snoc (Paired.mapP (Paired.mapP hne4 fun _ _ => NeV.sx a5 fun b z => z.elim) fun _ _ => NeV.sx a6 (hM gL5 gN5)) ?_
          exact NeV.sx a6 (hM gL5 gN5) (NeV.sx a5 (fun b z => z.elim) ⟨rfl, l, ys, rfl, hG4, hys⟩)
    · subst eτ
      rw [les, List.take_length, ← prs_take hp] at gL hne
      exact ⟨_, _, _, kvs, rfl, b, gL, gN, hne⟩
  · subst eτ
    rw [lrow, List.take_length] at gL hne
    have fG := fr b
    clear b hL0 hN0 a0 fr
    have hn : ∀ {G' : Hp}, Sm G G' → Paired (NeV S G') kvs (prs S) := fun {G'} a => Paired.mapP hne fun _ _ => NeV.sx a fun b z => z.elim
    refine ⟨_, rfl, L, _, rfl, gL, _, _, rfl, rfl, _, rfl, by rw [iD_len, List.length_map]; omega, by rw [iD_len, List.length_map]; omega, for_it walk_range (fun i τ G' => ∃ Lv o3 o4 o5 o6 o7 o8 o9, τ = [some (.ref a), some (.ref Lv), some (.ref N), o3, o4, o5, o6, o7, o8, o9, none, none, none] ∧ Sm G G' ∧ G' Lv = some (.dT (iD (ksOf S) (lev S i))) ∧ H Lv = none ∧ Lv ≠ N ∧ ∀ j, j < i → ¬ ∀ k ∈ ksOf S, lev S (j + 1) k = lev S j k)
      ⟨L, _, _, _, _, _, _, _, rfl, Sx.refl _, gL, hL, nLN, fun j hj => absurd hj (Nat.not_lt_zero j)⟩ (fun _ _ _ _ _ => True.intro) (fun i x τ G0' G' hi ⟨Lv, o3, o4, o5, o6, o7, o8, o9, eτ, aG, gLv, hLv, nLvN, hno⟩ ⟨eG', hx⟩ => ?_) fun τ G' ⟨Lv, o3, o4, o5, o6, o7, o8, o9, eτ, aG, gLv, hLv, nLvN, hno⟩ => ?_⟩
    · subst eτ eG' hx
      have hi' : i < (ksOf S).length + 1 := by
        rw [iD_len, List.length_map] at hi
        have : (prs S).length = (ksOf S).length := lkk.symm
        omega
      intro R hR
      have a1 : Sm G' (upd G' R (.dT [])) := Sx.new hR
      have hR1 : upd G' R (.dT []) R = some (.dT []) := upd_same
      have gLv1 := a1.atS gLv
      have nRL : R ≠ Lv := fun z => by rw [z] at hR; rw [hR] at gLv; cases gLv
      have nRN : R ≠ N := fun z => by rw [z, aG.atS gN] at hR; cases hR
      have hRn : H R = none := fG.old _ (aG.old _ hR)
      have aG1 := aG.trans a1
      generalize upd G' R (.dT []) = G1 at a1 hR1 gLv1 aG1
      refine ⟨Lv, _, gLv1, True.intro, fun od => ?_⟩
      have aLk : Sx (fun b => b = Lv) G1 (upd G1 Lv (.frz od (.dT (iD (ksOf S) (lev S i))))) := Sx.put gLv1 rfl
      have gR1 : upd G1 Lv (.frz od (.dT (iD (ksOf S) (lev S i)))) R = some (.dT []) := by rw [upd_ne nRL]; exact hR1
      have gF1 : upd G1 Lv (.frz od (.dT (iD (ksOf S) (lev S i)))) Lv = some (.frz od (.dT (iD (ksOf S) (lev S i)))) := upd_same
      have hunl : ∀ {G2 : Hp}, Sx (fun b => b = R) (upd G1 Lv (.frz od (.dT (iD (ksOf S) (lev S i))))) G2 → Sx (fun b => b = R) G1 (upd G2 Lv (.dT (iD (ksOf S) (lev S i)))) := fun {G2} a => Sx.unlock gLv1 a
      have hneF : Paired (NeV S (upd G1 Lv (.frz od (.dT (iD (ksOf S) (lev S i)))))) kvs (prs S) := Paired.mapP (hn aG1) fun _ _ => NeV.sx aLk fun b m ys z => by rw [m, gLv1] at z; cases z
      have gNF : upd G1 Lv (.frz od (.dT (iD (ksOf S) (lev S i)))) N = some (.dT kvs) := by
        rw [upd_ne nLvN.symm]
        exact aG1.atS gN
      have aH : Sx (fun b => b = Lv) G (upd G1 Lv (.frz od (.dT (iD (ksOf S) (lev S i))))) := (Sx.of aG1).trans aLk
      generalize upd G1 Lv (.frz od (.dT (iD (ksOf S) (lev S i)))) = GF at gR1 gF1 hunl hneF gNF aH ⊢
      have hF : ∀ {G2 : Hp}, Sx (fun b => b = R) GF G2 → G2 Lv = some (.frz od (.dT (iD (ksOf S) (lev S i)))) := fun {G2} a => a.frzs _ _ _ gF1
      refine ⟨_, rfl, Lv, od, rfl, .inr ⟨_, gF1, for_it walk_keysT (fun j τ G2 => ∃ o8 o9, τ = [some (.ref a), some (.ref Lv), some (.ref N), o3, o4, o5, some (.int (0 + (i : Nat))), some (.ref R), o8, o9, none, none, none] ∧ Sx (fun b => b = R) GF G2 ∧ G2 R = some (.dT (iD ((ksOf S).take j) (lev S (i + 1))))) ⟨o8, o9, rfl, Sx.refl _, gR1⟩ (fun j τ G2 _ ⟨_, _, _, aa, _⟩ => hF aa) (fun j x τ G0' G2 hj ⟨o8, o9, eτ, aa, gR⟩ ⟨eG', k', vv, q, hkv, ex, hq⟩ => ?_) fun τ G2 ⟨o8, o9, eτ, aa, gR⟩ => ?_⟩⟩
      · subst eτ eG' ex
        have hjp : j < (prs S).length := by rw [iD_len] at hj; omega
        obtain ⟨qe, hqe⟩ : ∃ qe, (prs S)[j]? = some qe := ⟨_, List.getElem?_eq_getElem hjp⟩
        have hkj : (ksOf S)[j]? = some (keyOf qe) := by unfold ksOf; rw [List.getElem?_map, hqe]; rfl
        have ek : k' = (keyOf qe).map Sum.inr := by
          unfold iD at hkv
          rw [List.getElem?_map, hkj] at hkv
          cases hkv
          rfl
        subst ek
        have hqm : qe ∈ prs S := List.mem_of_getElem? hqe
        have nd := hS.nd
        obtain ⟨l, ys, hval, hl, hys⟩ := valV_ne hneF nd hqm
        have hl2 := aa.at hl fun z => by rw [z, gR1] at hl; cases hl
        have hys2 := Paired.mapP hys fun _ _ => NdV.sx aa
        have gN2 := aa.at gNF nRN.symm
        have gF2 := hF aa
        have lys : ys.length = (needOf S qe.1 qe.2).length := Paired.length hys
        refine ⟨_, rfl, _, rfl, N, .ref l, rfl, .inr ⟨kvs, _, q, .inl gN2, rfl, hq, hval.symm⟩, l, rfl, ⟨_, .of hl2⟩, fun D hD => ?_⟩
        have c0 : Sm G2 (upd G2 D (.lst [])) := Sx.new hD
        have nlD : l ≠ D := ne_of_none hl2 hD
        refine lc_it (walk_list (K := K) (a := l) (xs := ys)) (fun m G3 => Sx (fun b => b = D) (upd G2 D (.lst [])) G3 ∧ G3 D = some (.lst ((((needOf S qe.1 qe.2).take m).map (lowOf (lev S i))).map V.int))) ⟨Sx.refl _, upd_same⟩ (fun m G3 _ ⟨cc, _⟩ => .of (cc.at (c0.atS hl2) nlD)) (fun m x G0' G3 hm ⟨cc, hG3⟩ ⟨eG', hx⟩ => ?_) fun G3 ⟨cc, hG3⟩ => ?_
        · subst eG'
          obtain ⟨d, hd', t, rfl, ht⟩ := pr_get hys2 hx
          have ht3 := (c0.aft hD cc).atS ht
          have gF3 := (c0.aft hD cc).atS gF2
          have hdm : [d.1, d.2.1] ∈ ksOf S := hS.cl qe hqm d (List.mem_of_getElem? hd')
          refine ⟨t, _, rfl, .of ht3, rfl, _, _, rfl, _, _, rfl, _, _, rfl, rfl, rfl, tYes_i ?_⟩
          refine iteT ⟨_, rfl, _, rfl, _, rfl, by show 2 ≤ sizeLine; omega, fun p hp => ⟨Lv, .int (lev S i [d.1, d.2.1]), rfl, .inr ⟨_, [d.1, d.2.1].map Sum.inr, p, .inr ⟨od, by rw [upd_ne (ne_of_none gF3 hp)]; exact gF3⟩, rfl, upd_same, (valV_iD hdm).symm⟩, _, rfl, d.2.2, rfl, ?_⟩⟩
          have fin : ∃ acc, upd G3 p (.tup [.str d.1, .str d.2.1]) D = some (.lst acc) ∧ acc.length < sizeLine ∧ Sx (fun b => b = D) (upd G2 D (.lst [])) (upd (upd G3 p (.tup [.str d.1, .str d.2.1])) D (.lst (acc ++ [.int (lowOf (lev S i) d)]))) ∧ upd (upd G3 p (.tup [.str d.1, .str d.2.1])) D (.lst (acc ++ [.int (lowOf (lev S i) d)])) D = some (.lst ((((needOf S qe.1 qe.2).take (m + 1)).map (lowOf (lev S i))).map V.int)) := by
            have gD : upd G3 p (.tup [.str d.1, .str d.2.1]) D = some (.lst ((((needOf S qe.1 qe.2).take m).map (lowOf (lev S i))).map V.int)) := (upd_ne (ne_of_none hG3 hp)).trans hG3
            refine ⟨_, gD, ?_, (cc.trans (Sx.new hp)).trans (Sx.put gD rfl), ?_⟩
            · rw [List.length_map, List.length_map, List.length_take]
              have := hlys qe hqm
              omega
            · rw [upd_same, take_snoc hd', List.map_append, List.map_append]
              rfl
          by_cases hneg : d.2.2 = true
          · refine itT hneg ⟨_, _, rfl, rfl, ?_⟩
            have e : lev S i [d.1, d.2.1] + 1 = lowOf (lev S i) d := by unfold lowOf; rw [if_pos hneg]
            show ∃ acc, upd G3 p (.tup [.str d.1, .str d.2.1]) D = some (.lst acc) ∧ acc.length < sizeLine ∧ Sx (fun b => b = D) (upd G2 D (.lst [])) (upd (upd G3 p (.tup [.str d.1, .str d.2.1])) D (.lst (acc ++ [.int (lev S i [d.1, d.2.1] + 1)]))) ∧ upd (upd G3 p (.tup [.str d.1, .str d.2.1])) D (.lst (acc ++ [.int (lev S i [d.1, d.2.1] + 1)])) D = some (.lst ((((needOf S qe.1 qe.2).take (m + 1)).map (lowOf (lev S i))).map V.int))
            rw [e]
            exact fin
          · refine itF (by simpa using hneg) ⟨_, _, rfl, rfl, ?_⟩
            have e : lev S i [d.1, d.2.1] + 0 = lowOf (lev S i) d := by unfold lowOf; rw [if_neg hneg]
            show ∃ acc, upd G3 p (.tup [.str d.1, .str d.2.1]) D = some (.lst acc) ∧ acc.length < sizeLine ∧ Sx (fun b => b = D) (upd G2 D (.lst [])) (upd (upd G3 p (.tup [.str d.1, .str d.2.1])) D (.lst (acc ++ [.int (lev S i [d.1, d.2.1] + 0)]))) ∧ upd (upd G3 p (.tup [.str d.1, .str d.2.1])) D (.lst (acc ++ [.int (lev S i [d.1, d.2.1] + 0)])) D = some (.lst ((((needOf S qe.1 qe.2).take (m + 1)).map (lowOf (lev S i))).map V.int))
            rw [e]
            exact fin
        · rw [lys, List.take_length] at hG3
          have c1 := c0.aft hD cc
          have gR3 := c1.atS gR
          refine ⟨_, rfl, D, _, .int 0, rfl, rfl, .of hG3, _, rfl, _, rfl, R, _, rfl, .inr ⟨_, (keyOf qe).map Sum.inr, q, gR3, rfl, c1.tups _ _ hq, by rw [iD_len, List.length_take]; omega, rfl⟩, ?_⟩
          have hnk : keyOf qe ∉ (ksOf S).take j := by
            have nd2 := nd
            rw [← List.take_append_drop j (ksOf S)] at nd2
            obtain ⟨hjl, ej⟩ := List.getElem?_eq_some_iff.mp hkj
            rw [List.drop_eq_getElem_cons hjl, ej] at nd2
            exact fun z => (List.nodup_append.mp nd2).2.2 _ z _ List.mem_cons_self rfl
          have ev : mxV ((needOf S qe.1 qe.2).map (lowOf (lev S i))) (.int 0) = .int (lev S (i + 1) (keyOf qe)) := by
            rw [mxV_int, ← ndAt_of nd hqm]
            rfl
          rw [ev, putK_iD hnk, ← take_snoc hkj]
          exact ⟨_, _, rfl, (aa.trans (Sx.of c1)).trans (Sx.put gR3 rfl), upd_same⟩
      · subst eτ
        refine ⟨hF aa, ?_⟩
        have aU := hunl aa
        have aRU : Sm G' (upd G2 Lv (.dT (iD (ksOf S) (lev S i)))) := a1.aft hR aU
        have gLvU : upd G2 Lv (.dT (iD (ksOf S) (lev S i))) Lv = some (.dT (iD (ksOf S) (lev S i))) := upd_same
        have gRU : upd G2 Lv (.dT (iD (ksOf S) (lev S i))) R = some (.dT (iD (ksOf S) (lev S (i + 1)))) := by
          rw [upd_ne nRL, gR, iD_len, List.take_length]
        generalize upd G2 Lv (.dT (iD (ksOf S) (lev S i))) = G3 at aU gLvU gRU aRU ⊢
        refine ⟨_, rfl, _, rfl, R, Lv, ksOf S, lev S (i + 1), lev S i, rfl, rfl, gRU, gLvU, _, rfl, ?_⟩
        have aG3 : Sm H G3 := fG.trans (aG.trans aRU)
        by_cases hfx : ∀ k ∈ ksOf S, lev S (i + 1) k = lev S i k
        · exact itT (decide_eq_true hfx) ⟨_, rfl, hQ Lv i G3 (by omega) hLv aG3 gLvU⟩
        · refine itF (decide_eq_false hfx) ⟨_, rfl, R, _, _, _, _, _, _, _, rfl, aG.trans aRU, gRU, hRn, nRN, fun j hj => ?_⟩
          rcases Nat.lt_succ_iff_lt_or_eq.mp hj with z | z
          · exact hno j z
          · rw [z]; exact hfx
    · subst eτ
      obtain ⟨r, hr1, hr2⟩ := hS.fx
      refine absurd hr2 (hno r ?_)
      rw [iD_len, List.length_map]
      omega
end
end K83
namespace K83
open PySem PySem.Spec PyProof.Rows L2 L2.DX GxR
/-! ### read_schema -/
section
variable {P : Program} {w : World} {K : PySem.W.Frag} {mg : Str → Option Value} {base : Heap}
theorem pi_listK {X : Cx} {tg l : Expr} {tl : TE} (K : PySem.W.Frag) (h : X.K = K) (hl : PE X l tl) : PI X tg l (iList K tl) := by subst h; exact pi_list hl
def rTupK (K : PySem.W.Frag) : List V → Hp → VK → Prop := fun xs H Q => ∃ p ys, xs = [V.ref p] ∧ ((SqL K H p ys ∧ ∀ (l : Addr), H l = none → Q (V.ref l) (upd H l (HO.tup ys))) ∨ SqT K H p ys ∧ Q (V.ref p) H)
theorem call_tuple_ofK {X : Cx} (K : PySem.W.Frag) (h : X.K = K) : CallR X (.type "tuple") (rTupK K) := by subst h; exact call_tuple_of
def rdAll : List Ty → Nat → List Str → Option (List Ty)
  | tys, _, [] => some tys
  | tys, n, x :: ls => match goP x.cps.toList [] false with
    | some parts => if x.length ≤ 1000 then (if parts = [] then rdAll tys (n + 1) ls else match rdLine tys (n + 1) parts with
      | some t' => rdAll t' (n + 1) ls
      | none => none) else none
    | none => none
def schOf (tys : List Ty) : Sch := tys.map fun ty => (ty.1, ty.2.2.map (·.2))
structure RdOk (z : Str) (tys : List Ty) : Prop where
  len : z.length ≤ 100000
  ln : (Txt.split z "\n").length ≤ 1000
  all : rdAll [] 0 (Txt.split z "\n") = some tys
  dup : DupOk tys
  str : StrOk (schOf tys)
  kn : ∀ p ∈ schOf tys, ∀ e ∈ p.2, knP (schOf tys) p.1 e
theorem row_some {H : Hp} {t : Addr} {rows : List (V × Addr)} {tys : List Ty} (h : TyAt K H t rows tys) : ∀ e ∈ rows.map (·.2), ∃ ys, H e = some (.lst ys) := by
  have go : ∀ {rows : List (V × Addr)} {tys : List Ty}, Paired (TyV K H) rows tys → ∀ e ∈ rows.map (·.2), ∃ ys, H e = some (.lst ys) := by
    intro rows tys q
    induction q with
    | nil => intro e z; cases z
    | @cons r ty rs ts h1 _ ih =>
      intro e z
      rw [List.map_cons] at z
      rcases List.mem_cons.mp z with z | z
      · obtain ⟨b, ys, _, _, h2, _⟩ := h1
        exact ⟨ys, by rw [z]; exact h2⟩
      · exact ih e z
  exact go h.row
def sp_read_schema (K : PySem.W.Frag) : Sp := fun vs H Q _ => ∃ (z : Str) (tys : List Ty), vs = [.str z] ∧ RdOk z tys ∧ Tabs K H ∧ ∀ v H', Sm H H' → Dp K H' v (schD (schOf tys)) → Q v H'
theorem dps_snoc {H : Hp} : ∀ {vs : List V} {ds : List PyData} {v : V} {d : PyData}, DpAll K H vs ds → Dp K H v d → DpAll K H (vs ++ [v]) (ds ++ [d])
  | _, _, _, _, .nil, h => .cons h .nil
  | _, _, _, _, .cons a t, h => .cons a (dps_snoc t h)
theorem schD_eq (tys : List Ty) : schD (schOf tys) = .tuple (tys.map fun ty => rowD (ty.1, ty.2.2.map (·.2))) := by
  unfold schD schOf
  rw [List.map_map]
  rfl
abbrev N_read_schema : List Str := ["text", "types", "at", "line_text", "parts", "schema", "name", "number", "entries", "place", "entry"]
theorem ok_read_schema (W : Wd K mg base) : FnOk P w K mg base CX0 9 (A_read_schema K) (F_read_schema K) ["text"] (sp_read_schema K) := by
  refine W.fu_read_schema.ok sc_read_schema (fun vs H Q E h => by obtain ⟨_, _, rfl, _⟩ := h; rfl) fun cdv A outer s H vs Q E hr h => ?_
  obtain ⟨z, tys, rfl, hz, hT, hQ⟩ := h
  refine ⟨_, PSs.nox (pss_cons (ps_set (i := 1) sc_read_schema.nd rfl (by first | exact Or.inl rfl | exact Or.inr rfl) (pe_lst pa_nil))
      (pss_cons (ps_for PassesOwn.never rfl (pi_enum (by rfl) W.fr_enumerate (pa_cons (pe_split (pv 0) pe_str) pa_nil)) (pg_tup rfl (pgs_cons (pg_name (i := 2) sc_read_schema.nd rfl (by first | exact Or.inl rfl | exact Or.inr rfl)) (pgs_cons (pg_name (i := 3) sc_read_schema.nd rfl (by first | exact Or.inl rfl | exact Or.inr rfl)) pgs_nil))) (pss_cons (ps_set (i := 4) sc_read_schema.nd rfl (by first | exact Or.inl rfl | exact Or.inr rfl) (pe_call (ok_parts_of_line W) (hr.mono (by decide)) rfl W.gl_parts_of_line (W.fu_parts_of_line).kp W.bd_parts_of_line .nil pass0 (pa_cons (pe_op op_add (pv 2) pe_int) (pa_cons (pv 3) pa_nil))))
      (pss_one (ps_if (pt_truth (pv 4) (by intro _; rfl)) (pss_one (ps_expr (pe_call (ok_read_line W) (hr.mono (by decide)) rfl W.gl_read_line (W.fu_read_line).kp W.bd_read_line .nil pass0 (pa_cons (pe_make W.mk_Line (ok_Line_init W) (hr.mono (by decide)) rfl W.gl_Line W.bd_Line_init .nil pass0 (pa_cons (pe_op op_add (pv 2) pe_int) (pa_cons (pv 4) pa_nil))) (pa_cons (pv 1) pa_nil))))) pss_nil))))
      (pss_cons (ps_expr (pe_call (ok_check_duplicates W) (hr.mono (by decide)) rfl W.gl_check_duplicates (W.fu_check_duplicates).kp W.bd_check_duplicates .nil pass0 (pa_cons (pv 1) pa_nil)))
      (pss_cons (ps_set (i := 5) sc_read_schema.nd rfl (by first | exact Or.inl rfl | exact Or.inr rfl) (pe_callTy call_tuple_of (by rfl) W.fr_tuple (by decide +kernel) (pa_cons (pe_lc (own := [("name", 6), ("number", 7), ("entries", 8)]) (g := (gTup K 3 (gCons (gName 6) (gCons (gName 7) (gCons (gName 8) gNil))))) rfl sc_read_schema.nd (pi_list (pv 1)) (blkOk_by (own := [("name", 6), ("number", 7), ("entries", 8)]) (N := N_read_schema) (sc := defScope s_read_schema) (by decide +kernel)) (fun _ _ _ _ _ => (pg_tup rfl (pgs_cons (pg_name (i := 6) sc_read_schema.nd rfl (by first | exact Or.inl rfl | exact Or.inr rfl)) (pgs_cons (pg_name (i := 7) sc_read_schema.nd rfl (by first | exact Or.inl rfl | exact Or.inr rfl)) (pgs_cons (pg_name (i := 8) sc_read_schema.nd rfl (by first | exact Or.inl rfl | exact Or.inr rfl)) pgs_nil))))) (fun _ _ _ _ _ => pts_nil) (fun _ _ _ _ _ => (pe_tup (pa_cons (pv 6) (pa_cons (pe_callTy (T := "tuple") (call_tuple_ofK K rfl) (by rfl) W.fr_tuple (by decide +kernel) (pa_cons (pe_lc (own := [("place", 9), ("entry", 10)]) (g := (gTup K 2 (gCons (gName 9) (gCons (gName 10) gNil)))) rfl sc_read_schema.nd (pi_listK K rfl (pv 8)) (blkOk_by (own := [("place", 9), ("entry", 10)]) (N := N_read_schema) (sc := _) (by with_unfolding_all rfl)) (fun _ _ _ _ _ => (pg_tup rfl (pgs_cons (pg_name (i := 9) sc_read_schema.nd rfl (by first | exact Or.inl rfl | exact Or.inr rfl)) (pgs_cons (pg_name (i := 10) sc_read_schema.nd rfl (by first | exact Or.inl rfl | exact Or.inr rfl)) pgs_nil)))) (fun _ _ _ _ _ => pts_nil) (fun _ _ _ _ _ => (pv 10))) pa_nil)) pa_nil))))) pa_nil)))
      (pss_cons (ps_for PassesOwn.never rfl (pi_list (pv 1)) (pg_tup rfl (pgs_cons (pg_name (i := 6) sc_read_schema.nd rfl (by first | exact Or.inl rfl | exact Or.inr rfl)) (pgs_cons (pg_name (i := 7) sc_read_schema.nd rfl (by first | exact Or.inl rfl | exact Or.inr rfl)) (pgs_cons (pg_name (i := 8) sc_read_schema.nd rfl (by first | exact Or.inl rfl | exact Or.inr rfl)) pgs_nil)))) (pss_one (ps_for PassesOwn.never rfl (pi_listK K rfl (pv 8)) (pg_tup rfl (pgs_cons (pg_name (i := 9) sc_read_schema.nd rfl (by first | exact Or.inl rfl | exact Or.inr rfl)) (pgs_cons (pg_name (i := 10) sc_read_schema.nd rfl (by first | exact Or.inl rfl | exact Or.inr rfl)) pgs_nil))) (pss_one (ps_if (pt_not (pt_val (pe_call (ok_is_known W) (hr.mono (by decide)) rfl W.gl_is_known (W.fu_is_known).kp W.bd_is_known .nil pass0 (pa_cons (pv 5) (pa_cons (pv 6) (pa_cons (pv 10) pa_nil)))))) (pss_one ps_never) pss_nil)))))
      (pss_cons (ps_expr (pe_call (ok_strata W) (hr.mono (by decide)) rfl W.gl_strata (W.fu_strata).kp W.bd_strata .nil pass0 (pa_cons (pv 5) pa_nil)))
      (pss_one (ps_ret (pv 5))))))))), ?_⟩
  have sz : sizeLine = 16777216 := sizeLine_eq
  refine ⟨Nat.zero_le _, fun t ht => ?_⟩
  have at0 : Sm H (upd H t (.lst [])) := Sx.new ht
  have gt0 : upd H t (.lst []) t = some (.lst []) := upd_same
  generalize upd H t (.lst []) = H0 at at0 gt0 ⊢
  refine ⟨_, rfl, ⟨_, rfl⟩, _, _, rfl, rfl, rfl, by have := hz.len; omega, fun a ha => ?_⟩
  have aa0 : Sm H0 (upd H0 a (.lst ((Txt.split z "\n").map V.str))) := Sx.new ha
  have ga1 : upd H0 a (.lst ((Txt.split z "\n").map V.str)) a = some (.lst ((Txt.split z "\n").map V.str)) := upd_same
  have gt1 := aa0.atS gt0
  have nat' : a ≠ t := fun z => by rw [z, gt0] at ha; cases ha
  have a1 := at0.trans aa0
  have hal := hz.all
  have hln := hz.ln
  generalize upd H0 a (.lst ((Txt.split z "\n").map V.str)) = H1 at a1 ga1 gt1 ⊢
  generalize Txt.split z "\n" = ls at ga1 hal hln ⊢
  have w := walk_enum (K := K) (a := a) (xs := ls.map V.str)
  rw [List.length_map] at w
  refine ⟨a, _, rfl, .of ga1, for_it w (fun i τ G => ∃ rows tyi o2 o3 o4, τ = [some (.str z), some (.ref t), o2, o3, o4, none, none, none, none, none, none] ∧ Sm H G ∧ G a = some (.lst (ls.map V.str)) ∧ TyAt K G t rows tyi ∧ a ∉ rows.map (·.2) ∧ (∀ e ∈ rows.map (·.2), H e = none) ∧ rdAll tyi i (ls.drop i) = some tys)
    ⟨[], [], _, _, _, rfl, a1, ga1, ⟨gt1, List.nodup_nil, List.not_mem_nil, .nil⟩, List.not_mem_nil, fun e h => absurd h List.not_mem_nil, hal⟩ (fun i τ G _ ⟨_, _, _, _, _, _, _, ga, _⟩ => .of ga)
    (fun i x τ G0 G hi ⟨rows, tyi, o2, o3, o4, eτ, aG, ga, hTy, har, hfr, hrd⟩ ⟨T, x1, x2, ex, hTn, eG, ex1, ex2⟩ => ?_) fun τ G ⟨rows, tyi, o2, o3, o4, eτ, aG, ga, hTy, har, hfr, hrd⟩ => ?_⟩
  · subst eτ ex
    have ex1 : V.int (i : Nat) = x1 := Option.some.inj ex1
    subst ex1
    have ex2 : (ls.map V.str)[i]? = some x2 := ex2
    rw [List.getElem?_map, List.getElem?_eq_getElem hi] at ex2
    cases ex2
    rw [List.drop_eq_getElem_cons hi] at hrd
    have aT : Sm G0 G := by rw [eG]; exact Sx.new hTn
    have hTT : G T = some (.tup [.int (i : Nat), .str ls[i]]) := by rw [eG, upd_same]
    clear eG
    have aG1 := aG.trans aT
    have ga1 := aT.atS ga
    have hTy1 := hTy.sxS aT
    generalize ls[i] = x at hrd hTT
    unfold rdAll at hrd
    cases hgo : goP x.cps.toList [] false with
    | none => rw [hgo] at hrd; cases hrd
    | some parts =>
      rw [hgo] at hrd
      dsimp only at hrd
      split at hrd
      case isFalse => cases hrd
      case isTrue hxl =>
        refine ⟨T, _, rfl, .of hTT, rfl, _, _, rfl, _, _, rfl, rfl, _, rfl, _, _, rfl, rfl, _, rfl, _, x, parts, rfl, hxl, hgo, fun l hl hpz hpzz => ?_⟩
        have al : Sm G (upd G l (.lst (parts.map V.str))) := Sx.new hl
        have gl : upd G l (.lst (parts.map V.str)) l = some (.lst (parts.map V.str)) := upd_same
        have aG2 := aG1.trans al
        have ga2 := al.atS ga1
        have hTy2 := hTy1.sxS al
        have nla : l ≠ a := fun z => by rw [z, ga1] at hl; cases hl
        have nlt : l ≠ t := fun z => by rw [z, hTy1.lst] at hl; cases hl
        have nlr : l ∉ rows.map (·.2) := fun z => by
          obtain ⟨ys, e⟩ := row_some hTy1 _ z
          rw [hl] at e
          cases e
        generalize upd G l (.lst (parts.map V.str)) = G2 at al gl aG2 ga2 hTy2 ⊢
        refine ⟨_, rfl, !parts.isEmpty, .inl ⟨_, .of gl, by cases parts <;> rfl⟩, ?_⟩
        by_cases hp0 : parts = []
        · subst hp0
          rw [if_pos rfl] at hrd
          exact iteF ⟨rows, tyi, _, _, _, rfl, aG2, ga2, hTy2, har, hfr, hrd⟩
        · rw [if_neg hp0] at hrd
          refine itT (by cases parts with | nil => exact absurd rfl hp0 | cons _ _ => rfl) ?_
          cases hrl : rdLine tyi (i + 1) parts with
          | none => rw [hrl] at hrd; cases hrd
          | some tyn =>
            rw [hrl] at hrd
            dsimp only at hrd
            refine ⟨_, rfl, _, _, rfl, rfl, _, rfl, fun p dx hp hdx ndx => ?_⟩
            have am : Sm G2 (upd (upd G2 dx (.own p)) p (.ins (cL K) dx [])) := (Sx.new hdx).trans (Sx.new (by rw [upd_ne ndx.symm]; exact hp))
            have gp : upd (upd G2 dx (.own p)) p (.ins (cL K) dx []) p = some (.ins (cL K) dx []) := upd_same
            have glm := am.atS gl
            refine ⟨p, dx, l, _, parts, rfl, gp, glm, hpz, hpzz, fun G3 a3 hLn => ⟨rfl, _, rfl, ?_⟩⟩
            have npx : ∀ {b : Addr} {o : HO}, G2 b = some o → b ≠ p := fun {b o} e z => by rw [z, hp] at e; cases e
            have b3 : Sm G2 G3 := am.after a3 fun c o e m => by rw [m, hp] at e; cases e
            have hTy3 := hTy2.sxS b3
            have aG3 := aG2.trans b3
            have ga3 := b3.atS ga2
            refine ⟨p, l, t, i + 1, parts, rows, tyi, tyn, rfl, hLn, hTy3, nlt, nlr, hrl, hT.sx aG3, fun G4 rows' a4 hTy4 hsub => ?_⟩
            have hfr' : ∀ e ∈ rows'.map (·.2), H e = none := fun e he => by
              rcases hsub e he with z | z
              · exact hfr e z
              · exact aG3.old e z
            refine ⟨rows', tyn, _, _, _, rfl, aG3.after a4 fun c o e m => ?_, a4.at ga3 fun m => ?_, hTy4, fun z => ?_, hfr', hrd⟩
            · rcases m with m | m | m
              · rw [m, aG2.old p hp] at e; cases e
              · rw [m, ht] at e; cases e
              · rw [hfr c m] at e; cases e
            · rcases m with m | m | m
              · exact npx ga2 m
              · exact nat' m
              · exact har m
            · rcases hsub a z with z | z
              · exact har z
              · rw [ga3] at z; cases z
  · subst eτ
    rw [List.drop_length] at hrd
    have hrd : some tyi = some tys := hrd
    cases hrd
    have hdup := hz.dup
    have lrow : rows.length = tys.length := Paired.length hTy.row
    refine ⟨_, rfl, t, rows, tys, rfl, hTy, hdup, hT.sx aG, fun G1 a1 => ?_⟩
    have aG1 := aG.trans a1
    have hTy1 := hTy.sxS a1
    refine ⟨_, rfl, t, rfl, ⟨_, .of hTy1.lst⟩, fun D hD => ?_⟩
    have aD : Sm G1 (upd G1 D (.lst [])) := Sx.new hD
    have w1 := walk_list (K := K) (a := t) (xs := rows.map (·.1))
    rw [List.length_map] at w1
    refine lc_it w1 (fun i G => ∃ vs, Sx (fun b => b = D) (upd G1 D (.lst [])) G ∧ G D = some (.lst vs) ∧ DpAll K G vs ((tys.take i).map fun ty => rowD (ty.1, ty.2.2.map (·.2)))) ⟨[], Sx.refl _, upd_same, .nil⟩ (fun i G _ ⟨_, b, _⟩ => .of ((aD.aft hD b).atS hTy1.lst)) (fun i x G0 G2 hi ⟨vs, b, gD, hvs⟩ ⟨eG, hx⟩ => ?_) fun G2 ⟨vs, b, gD, hvs⟩ => ?_
    · subst eG
      have bD := aD.aft hD b
      have hi' : i < tys.length := by omega
      obtain ⟨ty, hty, b', ys, rfl, hb', hys, hpl⟩ : ∃ ty, tys[i]? = some ty ∧ ∃ b' ys, x = .ref b' ∧ G1 b' = some (.tup [.str ty.1, .int ty.2.1, .ref (rows[i]'(by omega)).2]) ∧ G1 (rows[i]'(by omega)).2 = some (.lst ys) ∧ Paired (PlV K G1) ys ty.2.2 := by
        obtain ⟨ty, h1, b', ys, h2, h3, h4, h5⟩ := pr_get hTy1.row (i := i) (x := rows[i]'(by omega)) (List.getElem?_eq_getElem (by omega))
        refine ⟨ty, h1, b', ys, ?_, h3, h4, h5⟩
        rw [List.getElem?_map, List.getElem?_eq_getElem (by omega)] at hx
        rw [← h2]
        exact (Option.some.inj hx).symm
      have hent := (hdup.ent ty (List.mem_of_getElem? hty)).2
      have lys : ys.length = ty.2.2.length := Paired.length hpl
      have hys2 := bD.atS hys
      have hpl2 := Paired.mapP hpl fun _ _ => PlV.sx bD
      refine ⟨b', _, rfl, .of (bD.atS hb'), rfl, _, _, rfl, _, _, rfl, _, _, rfl, rfl, rfl, tYes_i ?_⟩
      refine iteT ⟨_, rfl, _, rfl, _, rfl, ⟨_, .of hys2⟩, fun D2 hD2 => ?_⟩
      have cD : Sm G2 (upd G2 D2 (.lst [])) := Sx.new hD2
      have w2 := walk_list (K := K) (a := (rows[i]'(by omega)).2) (xs := ys)
      rw [lys] at w2
      refine lc_it w2 (fun j G => ∃ zs, G = upd G2 D2 (.lst zs) ∧ zs.length = j ∧ DpAll K G2 zs ((ty.2.2.take j).map fun q => entD q.2)) ⟨[], rfl, rfl, .nil⟩ (fun j G _ ⟨zs, e, _⟩ => by rw [e]; exact .of ((Sx.new (M := Nob) hD2).atS hys2)) (fun j x G0 G hj ⟨zs, e, lz, hzs⟩ ⟨eG, hx⟩ => ?_) fun G ⟨zs, e, lz, hzs⟩ => ?_
      · subst eG
        obtain ⟨q, hq, c, ev, rfl, hc, hev⟩ := pr_get hpl2 hx
        have hc' : G c = some (.tup [.int q.1, ev]) := by rw [e]; exact (Sx.new (M := Nob) hD2).atS hc
        refine ⟨c, _, rfl, .of hc', rfl, _, _, rfl, _, _, rfl, rfl, rfl, tYes_i ?_⟩
        refine iteT ⟨ev, rfl, zs, by rw [e, upd_same], by omega, zs ++ [ev], by rw [e, upd_upd], by rw [List.length_append, lz]; rfl, ?_⟩
        rw [take_snoc hq, List.map_append]
        exact dps_snoc hzs hev
      · have cG : Sm G2 G := by rw [e]; exact Sx.new hD2
        have gDG := cG.atS gD
        have hGD2 : G D2 = some (.lst zs) := by rw [e, upd_same]
        rw [List.take_length] at hzs
        refine ⟨D2, zs, rfl, .inl ⟨.of hGD2, fun l hl => ⟨by show 2 ≤ sizeLine; omega, fun p hp => ?_⟩⟩⟩
        have d1 : Sm G (upd G l (.tup zs)) := Sx.new hl
        have d2 : Sm (upd G l (.tup zs)) (upd (upd G l (.tup zs)) p (.tup [.str ty.1, .ref l])) := Sx.new hp
        have gl : upd (upd G l (.tup zs)) p (.tup [.str ty.1, .ref l]) l = some (.tup zs) := d2.atS upd_same
        have gp : upd (upd G l (.tup zs)) p (.tup [.str ty.1, .ref l]) p = some (.tup [.str ty.1, .ref l]) := upd_same
        have d3 := cG.trans (d1.trans d2)
        have gD4 := d2.atS (d1.atS gDG)
        show ∃ acc, upd (upd G l (.tup zs)) p (.tup [.str ty.1, .ref l]) D = some (.lst acc) ∧ acc.length < sizeLine ∧ _
        generalize upd (upd G l (.tup zs)) p (.tup [.str ty.1, .ref l]) = G4 at d3 gl gp gD4 ⊢
        have lvs : vs.length = (tys.take i).length := by rw [dps_len hvs, List.length_map]
        have d5 : Sx (fun b => b = D) G4 (upd G4 D (.lst (vs ++ [.ref p]))) := Sx.put gD4 rfl
        refine ⟨vs, gD4, by rw [lvs, List.length_take]; have := hdup.len; omega, vs ++ [.ref p], (b.trans (Sx.of d3)).trans d5, upd_same, ?_⟩
        have nl : ∀ l' : List Ty, noLs (l'.map fun ty => rowD (ty.1, ty.2.2.map (·.2))) = true := fun l' => noLs_map _ _ fun ty _ => rowD_noL _
        rw [take_snoc hty, List.map_append]
        refine dps_snoc (dps_sx d5 _ _ (nl _) (dps_sx d3 _ _ (nl _) hvs)) ?_
        refine .tup (.of (d5.tups _ _ gp)) (.cons (.str _) (.cons (.tup (.of (d5.tups _ _ gl)) ?_) .nil))
        have ne : noLs (ty.2.2.map fun q => entD q.2) = true := noLs_map _ _ fun q _ => entD_noL q.2
        rw [List.map_map]
        exact dps_sx d5 _ _ ne (dps_sx d3 _ _ ne hzs)
    · have bD := aD.aft hD b
      rw [lrow, List.take_length] at hvs
      refine ⟨D, vs, rfl, .inl ⟨.of gD, fun l hl => ?_⟩⟩
      have nl : noLs (tys.map fun ty => rowD (ty.1, ty.2.2.map (·.2))) = true := noLs_map _ _ fun ty _ => rowD_noL _
      have dl : Sm G2 (upd G2 l (.tup vs)) := Sx.new hl
      have hdl : Dp K (upd G2 l (.tup vs)) (.ref l) (schD (schOf tys)) := by
        rw [schD_eq]
        exact .tup (.of upd_same) (dps_sx dl _ _ nl hvs)
      have aG3 := aG1.trans (bD.trans dl)
      have hTy3 := (hTy1.sxS bD).sxS dl
      generalize upd G2 l (.tup vs) = G3 at aG3 hdl hTy3 ⊢
      clear dl bD
      have hSok := hz.str
      have hSl : (schOf tys).length ≤ 1000 := by
        unfold schOf
        rw [List.length_map]
        have := hdup.len
        omega
      have w3 := walk_list (K := K) (a := t) (xs := rows.map (·.1))
      rw [List.length_map] at w3
      refine ⟨_, rfl, t, rfl, ⟨_, .of hTy3.lst⟩, for_it w3 (fun i τ G => ∃ o2 o3 o4 o6 o7 o8 o9 o10, τ = [some (.str z), some (.ref t), o2, o3, o4, some (.ref l), o6, o7, o8, o9, o10] ∧ Sm G3 G) ⟨_, _, _, _, _, _, _, _, rfl, Sx.refl _⟩ (fun i τ G _ ⟨_, _, _, _, _, _, _, _, _, b⟩ => .of (b.atS hTy3.lst)) (fun i x τ G0 G hi ⟨o2, o3, o4, o6, o7, o8, o9, o10, eτ, b⟩ ⟨eG, hx⟩ => ?_) fun τ G ⟨o2, o3, o4, o6, o7, o8, o9, o10, eτ, b⟩ => ?_⟩
      · subst eτ eG
        obtain ⟨ty, hty, b', ys, rfl, hb', hys, hpl⟩ : ∃ ty, tys[i]? = some ty ∧ ∃ b' ys, x = .ref b' ∧ G3 b' = some (.tup [.str ty.1, .int ty.2.1, .ref (rows[i]'(by omega)).2]) ∧ G3 (rows[i]'(by omega)).2 = some (.lst ys) ∧ Paired (PlV K G3) ys ty.2.2 := by
          obtain ⟨ty, h1, b', ys, h2, h3, h4, h5⟩ := pr_get hTy3.row (i := i) (x := rows[i]'(by omega)) (List.getElem?_eq_getElem (by omega))
          refine ⟨ty, h1, b', ys, ?_, h3, h4, h5⟩
          rw [List.getElem?_map, List.getElem?_eq_getElem (by omega)] at hx
          rw [← h2]
          exact (Option.some.inj hx).symm
        have lys : ys.length = ty.2.2.length := Paired.length hpl
        have w4 := walk_list (K := K) (a := (rows[i]'(by omega)).2) (xs := ys)
        rw [lys] at w4
        refine ⟨b', _, rfl, .of (b.atS hb'), rfl, _, _, rfl, _, _, rfl, _, _, rfl, rfl, _, rfl, _, rfl, ⟨_, .of (b.atS hys)⟩, for_it w4 (fun j τ G => ∃ o9 o10, τ = [some (.str z), some (.ref t), o2, o3, o4, some (.ref l), some (.str ty.1), some (.int ty.2.1), some (.ref (rows[i]'(by omega)).2), o9, o10] ∧ Sm G3 G) ⟨_, _, rfl, b⟩ (fun j τ G _ ⟨_, _, _, b⟩ => .of (b.atS hys)) (fun j x τ G0 G hj ⟨o9, o10, eτ, b⟩ ⟨eG, hx⟩ => ?_) fun τ G ⟨o9, o10, eτ, b⟩ => ?_⟩
        · subst eτ eG
          obtain ⟨q, hq, c, ev, rfl, hc, hev⟩ := pr_get hpl hx
          have hp : (ty.1, ty.2.2.map (·.2)) ∈ schOf tys := List.mem_map.mpr ⟨ty, List.mem_of_getElem? hty, rfl⟩
          have he : q.2 ∈ ty.2.2.map (·.2) := List.mem_map.mpr ⟨q, List.mem_of_getElem? hq, rfl⟩
          refine ⟨c, _, rfl, .of (b.atS hc), rfl, _, _, rfl, _, _, rfl, rfl, _, rfl, _, rfl, _, rfl, .ref l, ev, schOf tys, ty.1, q.2, rfl, dp_sx b _ _ (schD_noL _) hdl, dp_sx b _ _ (entD_noL _) hev, hT.sx (aG3.trans b), hSok.wf, hSok.wf _ hp _ he, hSl, hSok.hz _ hp _ he, hSok.hz, hz.kn _ hp _ he, fun G' c' => ⟨true, rfl, iteF ⟨_, _, rfl, b.trans c'⟩⟩⟩
        · subst eτ
          exact ⟨_, _, _, _, _, _, _, _, rfl, b⟩
      · subst eτ
        refine ⟨_, rfl, .ref l, schOf tys, rfl, dp_sx b _ _ (schD_noL _) hdl, hSok, fun d i G' _ _ c _ => ⟨_, rfl, hQ _ G' (aG3.trans (b.trans c)) (dp_sx (b.trans c) _ _ (schD_noL _) hdl)⟩⟩
end
end K83
namespace K83
open PySem PySem.Spec PyProof.Rows L2 L2.DX GxR
/-! ### the law's schema -/
def lawText : Str := "type u\ntype g\nrelation m: u, g#m\ntype d\nrelation o: u\nrelation w: u, g#m\nrelation b: u\npermission v = o | w - b"
def lawTys : List Ty := [("u", 1, []), ("g", 2, [(3, ("m", "relation", [["u", ""], ["g", "m"]]))]), ("d", 4, [(5, ("o", "relation", [["u", ""]])), (6, ("w", "relation", [["u", ""], ["g", "m"]])), (7, ("b", "relation", [["u", ""]])), (8, ("v", "permission", [["", "", "o"], ["|", "", "w"], ["-", "", "b"]]))])]
def lawSch : Sch := [("u", []), ("g", [("m", "relation", [["u", ""], ["g", "m"]])]), ("d", [("o", "relation", [["u", ""]]), ("w", "relation", [["u", ""], ["g", "m"]]), ("b", "relation", [["u", ""]]), ("v", "permission", [["", "", "o"], ["|", "", "w"], ["-", "", "b"]])])]
theorem lawSch_eq : schOf lawTys = lawSch := rfl
def lawLines : List Str := ["type u", "type g", "relation m: u, g#m", "type d", "relation o: u", "relation w: u, g#m", "relation b: u", "permission v = o | w - b"]
theorem law_split : Txt.split lawText "\n" = lawLines := by decide +kernel
theorem law_rdAll : rdAll [] 0 lawLines = some lawTys := by kernel_rfl
def lawKs : List (List Str) := [["g", "m"], ["d", "o"], ["d", "w"], ["d", "b"], ["d", "v"]]
theorem law_ks : ksOf lawSch = lawKs := rfl
def wfB (e : Sen) : Bool := if e.2.1 = "relation" then e.2.2.all (fun k => k.length == 2) else e.2.2.all (fun k => k.length == 3)
theorem wfB_ok {e : Sen} (h : wfB e = true) : WfE e := by
  unfold wfB at h
  refine ⟨fun c => ?_, fun c => ?_⟩
  · rw [if_pos c] at h
    simpa using h
  · rw [if_neg c] at h
    simpa using h
def knwB (S : Sch) (kind : Str) (e : Sen) : Bool := if e.2.1 = "relation" then e.2.2.all (fun k => decide (k.headD "" ∈ S.map (·.1)) && (match k with
    | [a1, a2] => decide (a2 = "") || (entOf S a1 a2).isSome
    | _ => true)) else e.2.2.all fun k => match k with
    | [o, r, n] => if r = "" then (entOf S kind n).isSome else !(ledOf S kind r n).isEmpty
    | _ => true
theorem knwB_ok {S : Sch} {kind : Str} {e : Sen} (h : knwB S kind e = true) : knP S kind e := by
  unfold knwB at h
  refine ⟨fun c k hk => ?_, fun c k hk o r n ek => ?_⟩
  · rw [if_pos c, List.all_eq_true] at h
    have := h k hk
    rw [Bool.and_eq_true] at this
    refine ⟨of_decide_eq_true this.1, fun a1 a2 ek h2 => ?_⟩
    have q := this.2
    rw [ek] at q
    dsimp only at q
    rw [decide_eq_false h2, Bool.false_or] at q
    exact q
  · rw [if_neg c, List.all_eq_true] at h
    have q := h k hk
    rw [ek] at q
    dsimp only at q
    refine ⟨fun e => by rwa [if_pos e] at q, fun e z => ?_⟩
    rw [if_neg e, z] at q
    cases q
theorem law_str : StrOk lawSch where
  wf := fun p hp e he => wfB_ok (by
    have : (lawSch.all fun p => p.2.all wfB) = true := by decide +kernel
    exact List.all_eq_true.mp (List.all_eq_true.mp this p hp) e he)
  hz := fun p hp e he => by
    have : (lawSch.all fun p => p.2.all fun e => decide (e.2.2.length ≤ 1000)) = true := by decide +kernel
    exact of_decide_eq_true (List.all_eq_true.mp (List.all_eq_true.mp this p hp) e he)
  nd := by rw [law_ks]; decide +kernel
  cl := fun q hq d hd => by
    have : ((prs lawSch).all fun q => (needOf lawSch q.1 q.2).all fun d => decide ([d.1, d.2.1] ∈ ksOf lawSch)) = true := by decide +kernel
    exact of_decide_eq_true (List.all_eq_true.mp (List.all_eq_true.mp this q hq) d hd)
  ln := fun q hq => by
    have : ((prs lawSch).all fun q => decide ((needOf lawSch q.1 q.2).length ≤ 1000000)) = true := by decide +kernel
    exact of_decide_eq_true (List.all_eq_true.mp this q hq)
  fx := ⟨1, by decide +kernel, by decide +kernel⟩
  len := by decide +kernel
theorem law_rd : RdOk lawText lawTys where
  len := by decide +kernel
  ln := by rw [law_split]; decide
  all := by rw [law_split]; exact law_rdAll
  dup := ⟨by decide +kernel, fun ty hty => by
    have : (lawTys.all fun ty => decide ((ty.2.2.map (·.2.1)).Nodup ∧ ty.2.2.length ≤ 100)) = true := by decide +kernel
    exact of_decide_eq_true (List.all_eq_true.mp this ty hty), by decide +kernel⟩
  str := law_str
  kn := fun p hp e he => knwB_ok (by
    have : (lawSch.all fun p => p.2.all fun e => knwB lawSch p.1 e) = true := by decide +kernel
    exact List.all_eq_true.mp (List.all_eq_true.mp this p hp) e he)
end K83
namespace K83
open PySem PySem.Spec PyProof.Rows L2 L2.DX GxR
/-! ### the relationships that the law writes -/
def lawLn (t w : Str) : List (List Str) := [[t, "o", w], [t, "w", w], [t, "b", w], [t, "w", "g:x#m"], ["g:x", "m", w]]
def allR : List (List Str) := (["d:p", "d:q"] : List Str).flatMap fun t => (["u:a", "u:b", "u:c"] : List Str).flatMap fun w => lawLn t w
def cfB (S : Sch) (k : List Str) : Bool := match k with
  | [t, r, s] => match entOf S (typeOf t) r with
    | some e => decide (e.2.1 = "relation") && decide ([typeOf (refA s), refB s] ∈ e.2.2)
    | none => false
  | _ => false
theorem allR_cf : ∀ k ∈ allR, cfB lawSch k = true := by decide +kernel
def szB (k : List Str) : Bool := match k with
  | [t, r, s] => decide (t.length ≤ 100) && decide (r.length ≤ 100) && decide (s.length ≤ 100) && decide ((refA s).length ≤ 100) && decide ((refB s).length ≤ 100)
  | _ => false
theorem allR_sz : ∀ k ∈ allR, szB k = true := by decide +kernel
theorem allR_3 {k : List Str} (h : k ∈ allR) : ∃ t r s, k = [t, r, s] ∧ t.length ≤ 100 ∧ r.length ≤ 100 ∧ s.length ≤ 100 ∧ (refA s).length ≤ 100 ∧ (refB s).length ≤ 100 := by
  have q := allR_sz k h
  unfold szB at q
  split at q
  · simp only [Bool.and_eq_true, decide_eq_true_eq] at q
    exact ⟨_, _, _, rfl, q.1.1.1.1, q.1.1.1.2, q.1.1.2, q.1.2, q.2⟩
  · cases q
section
variable {P : Program} {w : World} {K : PySem.W.Frag} {mg : Str → Option Value} {base : Heap}
def sp_conforms (K : PySem.W.Frag) : Sp := fun vs H Q _ => ∃ (v u : V) (k : List Str), vs = [v, u] ∧ Dp K H v (schD lawSch) ∧ Tabs K H ∧ Tu H u k ∧ k ∈ allR ∧ ∀ H', Sm H H' → Q (.bl true) H'
abbrev N_conforms : List Str := ["schema", "relationship", "found", "target", "name"]
theorem ok_conforms (W : Wd K mg base) : FnOk P w K mg base CX0 3 (A_conforms K) (F_conforms K) ["schema", "relationship"] (sp_conforms K) := by
  refine W.fu_conforms.ok sc_conforms (fun vs H Q E h => by obtain ⟨_, _, _, rfl, _⟩ := h; rfl) fun cdv A outer s H vs Q E hr h => ?_
  obtain ⟨v, u, k, rfl, hd, hT, ⟨b, rfl, hb⟩, hk, hQ⟩ := h
  refine ⟨_, PSs.nox (pss_cons (ps_set (i := 2) sc_conforms.nd rfl (by first | exact Or.inl rfl | exact Or.inr rfl) (pe_call (ok_definition W) (hr.mono (by decide)) rfl W.gl_definition (W.fu_definition).kp W.bd_definition .nil pass0 (pa_cons (pv 0) (pa_cons (pe_call (ok_type_of W) (hr.mono (by decide)) rfl W.gl_type_of (W.fu_type_of).kp W.bd_type_of .nil pass0 (pa_cons (pe_ix ix_tup (pv 1) pe_int (fun _ _ => rfl)) pa_nil)) (pa_cons (pe_ix ix_tup (pv 1) pe_int (fun _ _ => rfl)) pa_nil)))))
      (pss_cons (ps_if (PW.pt (pw_or (pt_cmpR op_isN (pv 2) pe_non (nomark _)) (pw_or1 (pt_cmpR op_ne (pe_ix ix_tup (pv 2) pe_int (fun _ _ => rfl)) pe_str (nomark _))))) (pss_one (ps_ret pe_bl)) pss_nil)
      (pss_cons (ps_asg (pe_call (ok_split_reference W) (hr.mono (by decide)) rfl W.gl_split_reference (W.fu_split_reference).kp W.bd_split_reference .nil pass0 (pa_cons (pe_ix ix_tup (pv 1) pe_int (fun _ _ => rfl)) pa_nil)) (pg_tup rfl (pgs_cons (pg_name (i := 3) sc_conforms.nd rfl (by first | exact Or.inl rfl | exact Or.inr rfl)) (pgs_cons (pg_name (i := 4) sc_conforms.nd rfl (by first | exact Or.inl rfl | exact Or.inr rfl)) pgs_nil))))
      (pss_one (ps_ret (pe_cmpR (op_inU hr.units) (pe_tup (pa_cons (pe_call (ok_type_of W) (hr.mono (by decide)) rfl W.gl_type_of (W.fu_type_of).kp W.bd_type_of .nil pass0 (pa_cons (pv 3) pa_nil)) (pa_cons (pv 4) pa_nil))) (pe_ix ix_tup (pv 2) pe_int (fun _ _ => rfl)) (by rfl))))))), ?_⟩
  have sz : sizeLine = 16777216 := sizeLine_eq
  obtain ⟨t, r, z, rfl, ht, hr', hz', hza, hzb⟩ := allR_3 hk
  have hc := allR_cf _ hk
  unfold cfB at hc
  dsimp only at hc
  cases he : entOf lawSch (typeOf t) r with
  | none => rw [he] at hc; cases hc
  | some e =>
    rw [he] at hc
    dsimp only at hc
    rw [Bool.and_eq_true] at hc
    have h1 : e.2.1 = "relation" := of_decide_eq_true hc.1
    have h2 : [typeOf (refA z), refB z] ∈ e.2.2 := of_decide_eq_true hc.2
    refine ⟨_, rfl, _, rfl, b, _, 0, _, rfl, rfl, .of hb, atI_nat (j := 0) rfl, t, rfl, by omega, hT, fun H0 a0 => ⟨_, rfl, b, _, 1, _, rfl, rfl, .of (a0.atS hb), atI_nat (j := 1) rfl, v, lawSch, typeOf t, r, rfl, dp_sx a0 _ _ (schD_noL _) hd, fun hn => ?_, fun e' u H1 he' a1' hu => ?_⟩⟩
    · rw [hn] at he; cases he
    · rw [he] at he'
      cases he'
      have a1 := a0.trans a1'
      obtain ⟨c, c2, xs, rfl, hc1, hc2, hc3⟩ : ∃ c c2 xs, u = .ref c ∧ SqT K H1 c [.str e.2.1, .ref c2] ∧ SqT K H1 c2 xs ∧ DpAll K H1 xs (e.2.2.map tD) := by
        cases hu with
        | tup hs ha => cases ha with
          | cons d1 d2 => cases d2 with
            | cons d2 d3 =>
              cases d3
              cases d1
              cases d2 with
              | tup q1 q2 => exact ⟨_, _, _, rfl, hs, q1, q2⟩
      refine ⟨_, rfl, rfl, _, rfl, iteF ⟨_, rfl, c, _, 0, _, rfl, rfl, hc1, atI_nat (j := 0) rfl, rfl, _, rfl, ?_⟩⟩
      refine itF (by simp [h1]) ⟨_, rfl, b, _, 2, _, rfl, rfl, .of (a1.atS hb), atI_nat (j := 2) rfl, z, rfl, by omega, fun v2 H2 a2 ⟨b2, ev, hb2⟩ => ?_⟩
      subst ev
      refine ⟨b2, _, rfl, .of hb2, rfl, _, _, rfl, _, _, rfl, rfl, _, rfl, refA z, rfl, by omega, hT.sx (a1.trans a2), fun H3 a3' => ⟨_, rfl, by show 2 ≤ sizeLine; omega, fun p hp => ⟨_, rfl, c, _, 1, _, rfl, rfl, ((a2.trans a3').trans (Sx.new hp)).sqT hc1, atI_nat (j := 1) rfl, [typeOf (refA z), refB z], e.2.2, ⟨p, rfl, upd_same⟩, ?_, ?_⟩⟩⟩
      · have a3 : Sm H1 (upd H3 p (.tup [.str (typeOf (refA z)), .str (refB z)])) := (a2.trans a3').trans (Sx.new hp)
        exact .tup (a3.sqT hc2) (dps_sx a3 _ _ (noLs_map tD _ fun k _ => tD_noL k) hc3)
      · rw [decide_eq_true h2]
        exact hQ _ (a1.trans ((a2.trans a3').trans (Sx.new hp)))
def sp_check_relationships (K : PySem.W.Frag) : Sp := fun vs H Q _ => ∃ (v u : V) (l : List (List Str)), vs = [v, u] ∧ Dp K H v (schD lawSch) ∧ Tabs K H ∧ Lu H u l ∧ l.Nodup ∧ (∀ k ∈ l, k ∈ allR) ∧ l.length ≤ 1000 ∧ ∀ H', Sm H H' → Q .non H'
abbrev N_check_relationships : List Str := ["schema", "relationships", "index", "relationship"]
theorem ok_check_relationships (W : Wd K mg base) : FnOk P w K mg base CX0 4 (A_check_relationships K) (F_check_relationships K) ["schema", "relationships"] (sp_check_relationships K) := by
  refine W.fu_check_relationships.ok sc_check_relationships (fun vs H Q E h => by obtain ⟨_, _, _, rfl, _⟩ := h; rfl) fun cdv A outer s H vs Q E hr h => ?_
  obtain ⟨v, u, l, rfl, hd, hT, ⟨a, xs, rfl, ha, hxs⟩, nd, hR, hlen, hQ⟩ := h
  refine ⟨_, PSs.nox (pss_cons (ps_for PassesOwn.never rfl (pi_enum (by rfl) W.fr_enumerate (pa_cons (pv 1) pa_nil)) (pg_tup rfl (pgs_cons (pg_name (i := 2) sc_check_relationships.nd rfl (by first | exact Or.inl rfl | exact Or.inr rfl)) (pgs_cons (pg_name (i := 3) sc_check_relationships.nd rfl (by first | exact Or.inl rfl | exact Or.inr rfl)) pgs_nil))) (pss_one (ps_if (pt_not (pt_val (pe_call (ok_conforms W) (hr.mono (by decide)) rfl W.gl_conforms (W.fu_conforms).kp W.bd_conforms .nil pass0 (pa_cons (pv 0) (pa_cons (pv 3) pa_nil))))) (pss_one ps_never) pss_nil)))
      (pss_one (ps_if (pt_cmpR op_lt (pe_callB call_len_dT (by rfl) W.fr_len PySem.boot_len (pa_cons (pe_dcP (own := [("relationship", 3)]) (hu2_of hr) rfl sc_check_relationships.nd (pi_list (pv 1)) (blkOk_by (own := [("relationship", 3)]) (N := N_check_relationships) (sc := defScope s_check_relationships) (by decide +kernel)) (fun _ _ _ _ _ => (pg_name (i := 3) sc_check_relationships.nd rfl (by first | exact Or.inl rfl | exact Or.inr rfl))) (fun _ _ _ _ _ => (pv 3)) (fun _ _ _ _ _ => pe_bl)) pa_nil)) (pe_callB call_len_seq (by rfl) W.fr_len PySem.boot_len (pa_cons (pv 1) pa_nil)) (nomark _)) (pss_one ps_never) pss_nil))), ?_⟩
  have sz : sizeLine = 16777216 := sizeLine_eq
  have lx : xs.length = l.length := Paired.length hxs
  refine ⟨_, rfl, a, _, rfl, .of ha, for_it (walk_enum (K := K) (a := a) (xs := xs)) (fun i τ G => ∃ o2 o3, τ = [some v, some (.ref a), o2, o3] ∧ Sm H G) ⟨_, _, rfl, Sx.refl _⟩ (fun i τ G _ ⟨_, _, _, b⟩ => .of (b.atS ha))
    (fun i x τ G0 G hi ⟨o2, o3, eτ, b⟩ ⟨T, x1, x2, ex, hTn, eG, ex1, ex2⟩ => ?_) fun τ G ⟨o2, o3, eτ, b⟩ => ?_⟩
  · subst eτ ex
    have ex1 : V.int (i : Nat) = x1 := Option.some.inj ex1
    subst ex1
    have bT : Sm G0 G := by rw [eG]; exact Sx.new hTn
    have hTT : G T = some (.tup [.int (i : Nat), x2]) := by rw [eG, upd_same]
    obtain ⟨k, hk, hu⟩ := pr_get hxs ex2
    have b1 := b.trans bT
    refine ⟨T, _, rfl, .of hTT, rfl, _, _, rfl, _, _, rfl, rfl, _, rfl, _, rfl, v, x2, k, rfl, dp_sx b1 _ _ (schD_noL _) hd, hT.sx b1, hu.sx b1, hR k (List.mem_of_getElem? hk), fun H' b2 => ⟨true, rfl, iteF ⟨_, _, rfl, b1.trans b2⟩⟩⟩
  · subst eτ
    refine ⟨_, rfl, a, rfl, ⟨_, .of (b.atS ha)⟩, fun D hD => ?_⟩
    refine dcU (.of (b.atS ha)) (Paired.mapP hxs fun _ _ => Tu.sx b) nd (by omega) hD (fun _ => rfl) (fun _ => rfl) ?_
    have bD : Sm G (upd G D (.dT (dU l))) := Sx.new hD
    refine ⟨D, _, rfl, upd_same, _, rfl, a, xs, rfl, .inl (.of (bD.atS (b.atS ha))), _, _, rfl, rfl, _, rfl, ?_⟩
    refine itF ?_ (hQ _ (b.trans bD))
    have e : ((dU l).length : Int) = (xs.length : Int) := by rw [lx]; simp [dU]
    rw [e]
    exact decide_eq_false (Int.lt_irrefl _)
end
end K83
namespace K83
open PySem PySem.Spec PyProof.Rows L2 L2.DX GxR
/-! ### the graph: what its parts are -/
def thU : List Str := ["d:p", "d:q", "g:x", "u:a", "u:b", "u:c"]
def nmU : List Str := ["", "m", "o", "w", "b", "v"]
def peU : List Str := ["u:a", "u:b", "u:c"]
def PairP (k : List Str) : Prop := ∃ t n, k = [t, n] ∧ t ∈ thU ∧ n ∈ nmU
def rU (k : List Str) : Bool := match k with
  | [t, r, s] => decide (t ∈ thU) && decide (r ∈ nmU) && decide (refA s ∈ thU) && decide (refB s ∈ nmU) && (!decide (refB s = "") || decide (s ∈ peU))
  | _ => false
theorem allR_U : ∀ k ∈ allR, rU k = true := by decide +kernel
theorem allR_th {t r s : Str} (h : [t, r, s] ∈ allR) : t ∈ thU ∧ r ∈ nmU ∧ refA s ∈ thU ∧ refB s ∈ nmU ∧ (refB s = "" → s ∈ peU) := by
  have q := allR_U _ h
  unfold rU at q
  simp only [Bool.and_eq_true, decide_eq_true_eq, Bool.or_eq_true, Bool.not_eq_true', decide_eq_false_iff_not] at q
  refine ⟨q.1.1.1.1, q.1.1.1.2, q.1.1.2, q.1.2, fun e => ?_⟩
  rcases q.2 with z | z
  · exact absurd e z
  · exact z
/-- a list of pairs, at most n -/
def PLs (H : Hp) (l : Addr) (n : Nat) : Prop := ∃ ys ps, H l = some (.lst ys) ∧ Tus H ys ps ∧ (∀ k ∈ ps, PairP k) ∧ ps.length ≤ n
theorem PLs.sx {H H1 : Hp} {l : Addr} {n : Nat} (a : Sm H H1) (h : PLs H l n) : PLs H1 l n := by
  obtain ⟨ys, ps, h1, h2, h3⟩ := h
  exact ⟨ys, ps, a.atS h1, Paired.mapP h2 fun _ _ => Tu.sx a, h3⟩
def SubA (H : Hp) (kvs : List (List Key × V)) (n : Nat) : Prop := ∀ kv ∈ kvs, ∃ l, kv.2 = V.ref l ∧ PLs H l n
def SubF (H0 H : Hp) (kvs : List (List Key × V)) (n : Nat) : Prop := ∀ kv ∈ kvs, ∃ l, kv.2 = V.ref l ∧ H0 l = none ∧ PLs H l n
theorem SubF.sx {H0 H H1 : Hp} {kvs : List (List Key × V)} {n : Nat} {M : Addr → Prop} (a : Sx M H H1) (hM : ∀ b, M b → ∀ ys, H b ≠ some (.lst ys)) (h : SubF H0 H kvs n) : SubF H0 H1 kvs n := fun kv hkv => by
  obtain ⟨l, e, hl, ys, ps, h1, h2, h3⟩ := h kv hkv
  exact ⟨l, e, hl, ys, ps, a.at h1 fun z => hM _ z _ h1, Paired.mapP h2 fun _ _ => Tu.sx a, h3⟩
def dS (l : List Str) : List (Key × V) := l.map fun z => (Sum.inr z, V.bl true)
def addS (l : List Str) (z : Str) : List Str := if z ∈ l then l else l ++ [z]
theorem dS_none {l : List Str} {z : Str} (h : z ∉ l) : valV (dS l) (Sum.inr z) = none := by
  induction l with
  | nil => rfl
  | cons a l ih =>
    show valV ((Sum.inr a, V.bl true) :: dS l) _ = none
    rw [valV_neg (fun z => h (by rw [← Sum.inr.inj z]; exact List.mem_cons_self))]
    exact ih fun z => h (List.mem_cons_of_mem _ z)
theorem putK_dS (l : List Str) (z : Str) : putK (dS l) (Sum.inr z) (V.bl true) = dS (addS l z) := by
  unfold addS
  by_cases h : z ∈ l
  · rw [if_pos h]
    unfold putK
    have e : ((dS l).any fun kv => decide (kv.1 = Sum.inr z)) = true := by
      rw [List.any_eq_true]
      exact ⟨(Sum.inr z, .bl true), List.mem_map.mpr ⟨z, h, rfl⟩, by simp⟩
    rw [if_pos e]
    unfold dS
    rw [List.map_map]
    refine List.map_congr_left fun a _ => ?_
    simp only [Function.comp]
    split <;> rfl
  · rw [if_neg h, putK_new _ (dS_none h)]
    simp [dS]
theorem addS_ok {l : List Str} {z : Str} {U : List Str} (nd : l.Nodup) (h : ∀ x ∈ l, x ∈ U) (hz : z ∈ U) : (addS l z).Nodup ∧ ∀ x ∈ addS l z, x ∈ U := by
  unfold addS
  by_cases c : z ∈ l
  · rw [if_pos c]
    exact ⟨nd, h⟩
  · rw [if_neg c]
    refine ⟨List.nodup_append.mpr ⟨nd, by simp, fun a ha b hb e => c (by simp at hb; rw [← hb, ← e]; exact ha)⟩, fun x hx => ?_⟩
    rcases List.mem_append.mp hx with q | q
    · exact h x q
    · simp at q
      rw [q]
      exact hz
theorem valV_some {kvs : List (List Key × V)} {k : List Key} {v : V} (h : valV kvs k = some v) : ∃ kv ∈ kvs, kv.2 = v := by
  unfold valV at h
  cases e : kvs.find? (fun kv => decide (kv.1 = k)) with
  | none => rw [e] at h; cases h
  | some kv =>
    rw [e] at h
    exact ⟨kv, List.mem_of_find?_eq_some e, Option.some.inj h⟩
theorem PLs.mono {H : Hp} {l : Addr} {n m : Nat} (h : PLs H l n) (hm : n ≤ m) : PLs H l m := by
  obtain ⟨ys, ps, h1, h2, h3, h4⟩ := h
  exact ⟨ys, ps, h1, h2, h3, by omega⟩
theorem setd_i {H0 G : Hp} {Q : VK} {sd kq nl : Addr} {kvs : List (List Key × V)} {k : List Str} {n : Nat} (gs : G sd = some (.dT kvs)) (hkq : G kq = some (.tup (k.map V.str))) (hnl : G nl = some (.lst [])) (hn0 : H0 nl = none) (lk : kvs.length ≤ n) (hn : n < 1000) (hS : SubF H0 G kvs n)
    (q : ∀ li kvs' G', Sx (fun b => b = sd) G G' → G' sd = some (.dT kvs') → kvs'.length ≤ n + 1 → SubF H0 G' kvs' n → H0 li = none → PLs G' li n → Q (.ref li) G') : rSetdT (.ref sd) [.ref kq, .ref nl] G Q := by
  have sz : sizeLine = 16777216 := sizeLine_eq
  refine ⟨sd, kvs, k.map Sum.inr, kq, .ref nl, rfl, rfl, gs, by rw [inr_kV]; exact hkq, by omega, fun v hv => ?_, fun hv => ?_⟩
  · obtain ⟨kv, hkv, e⟩ := valV_some hv
    obtain ⟨l, e2, hl, hp⟩ := hS kv hkv
    rw [← e, e2]
    exact q l kvs G (Sx.refl _) gs (by omega) hS hl hp
  · have a : Sx (fun b => b = sd) G (upd G sd (.dT (putK kvs (k.map Sum.inr) (.ref nl)))) := Sx.put gs rfl
    have hM : ∀ b, b = sd → ∀ ys, G b ≠ some (.lst ys) := fun b e ys z => by rw [e, gs] at z; cases z
    have hnl2 := a.at hnl fun z => hM _ z _ hnl
    have hP : PLs (upd G sd (.dT (putK kvs (k.map Sum.inr) (.ref nl)))) nl n := ⟨[], [], hnl2, .nil, fun k h => absurd h List.not_mem_nil, Nat.zero_le _⟩
    rw [putK_new _ hv] at a hP ⊢
    refine q nl _ _ a upd_same (by rw [List.length_append]; show kvs.length + 1 ≤ n + 1; omega) (fun kv hkv => ?_) hn0 hP
    rcases List.mem_append.mp hkv with z | z
    · exact SubF.sx a hM hS kv z
    · have z : kv = (k.map Sum.inr, .ref nl) := by simpa using z
      rw [z]
      exact ⟨nl, rfl, hn0, hP⟩
theorem PLs.app {H : Hp} {li l : Addr} {ys : List V} {ps : List (List Str)} {k : List Str} {x : V} {n m : Nat} (h : PLs H l m) (gl : H li = some (.lst ys)) (hys : Tus H ys ps) (hp : ∀ k ∈ ps, PairP k) (hn : ps.length ≤ n) (hx : Tu H x k) (hk : PairP k) (hm : m ≤ n + 1) : PLs (upd H li (.lst (ys ++ [x]))) l (n + 1) := by
  have a : Sx (fun b => b = li) H (upd H li (.lst (ys ++ [x]))) := Sx.put gl rfl
  by_cases e : l = li
  · rw [e]
    refine ⟨ys ++ [x], ps ++ [k], upd_same, pr_snoc (Paired.mapP hys fun _ _ => Tu.sx a) (Tu.sx a hx), fun k' hk' => ?_, by rw [List.length_append]; show ps.length + 1 ≤ n + 1; omega⟩
    rcases List.mem_append.mp hk' with z | z
    · exact hp k' z
    · simp at z
      rw [z]
      exact hk
  · obtain ⟨ys', ps', h1, h2, h3, h4⟩ := h
    exact ⟨ys', ps', a.at h1 e, Paired.mapP h2 fun _ _ => Tu.sx a, h3, by omega⟩
theorem SubF.app {H0 H : Hp} {kvs : List (List Key × V)} {li : Addr} {ys : List V} {ps : List (List Str)} {k : List Str} {x : V} {n : Nat} (h : SubF H0 H kvs n) (gl : H li = some (.lst ys)) (hys : Tus H ys ps) (hp : ∀ k ∈ ps, PairP k) (hn : ps.length ≤ n) (hx : Tu H x k) (hk : PairP k) : SubF H0 (upd H li (.lst (ys ++ [x]))) kvs (n + 1) := fun kv hkv => by
  obtain ⟨l, e, hl, hP⟩ := h kv hkv
  exact ⟨l, e, hl, hP.app gl hys hp hn hx hk (by omega)⟩
abbrev cG (K : PySem.W.Frag) : Addr := He.ga K "Graph"
structure GrAt (K : PySem.W.Frag) (H : Hp) (p : Addr) : Prop where
  ex : ∃ (dx st sd ob pe : Addr) (v : V) (f : List Str → Int) (kvs : List (List Key × V)) (obs pes : List Str),
    H p = some (.ins (cG K) dx [("schema", v), ("strata", .ref st), ("subjects", .ref sd), ("objects", .ref ob), ("people", .ref pe)]) ∧ Dp K H v (schD lawSch) ∧ H st = some (.dT (iD lawKs f)) ∧ (∀ k ∈ lawKs, 0 ≤ f k ∧ f k ≤ 5) ∧
    H sd = some (.dT kvs) ∧ SubA H kvs 100 ∧ H ob = some (.lst (obs.map V.str)) ∧ obs.Nodup ∧ (∀ z ∈ obs, z ∈ thU) ∧ H pe = some (.lst (pes.map V.str)) ∧ pes.Nodup ∧ ∀ z ∈ pes, z ∈ peU
theorem lev_bd : ∀ i, i ≤ (ksOf lawSch).length → ∀ k ∈ lawKs, 0 ≤ lev lawSch i k ∧ lev lawSch i k ≤ 5 := by
  have h : ∀ i ∈ List.range 6, ∀ k ∈ lawKs, 0 ≤ lev lawSch i k ∧ lev lawSch i k ≤ 5 := by decide +kernel
  intro i hi
  exact h i (List.mem_range.mpr (by rw [law_ks] at hi; exact Nat.lt_succ_of_le hi))
section
variable {P : Program} {w : World} {K : PySem.W.Frag} {mg : Str → Option Value} {base : Heap}
def sp_Graph_init (K : PySem.W.Frag) : Sp := fun vs H Q _ => ∃ (p dx : Addr) (v u : V) (l : List (List Str)), vs = [.ref p, v, u] ∧ H p = some (.ins (cG K) dx []) ∧ Dp K H v (schD lawSch) ∧ Tabs K H ∧ Lu H u l ∧ (∀ k ∈ l, k ∈ allR) ∧ l.length ≤ 100 ∧ ∀ H', Sx (fun b => b = p) H H' → GrAt K H' p → Q .non H'
abbrev N_Graph_init : List Str := ["self", "schema", "relationships", "objects", "people", "target", "relation", "subject"]
theorem ok_Graph_init (W : Wd K mg base) : FnOk P w K mg base CX0 5 (A_Graph_init K) (F_Graph_init K) ["self", "schema", "relationships"] (sp_Graph_init K) := by
  refine W.fu_Graph_init.ok sc_Graph_init (fun vs H Q E h => by obtain ⟨_, _, _, _, _, rfl, _⟩ := h; rfl) fun cdv A outer s H vs Q E hr h => ?_
  obtain ⟨p, dx, v, u, l, rfl, hp, hd, hT, ⟨a, xs, rfl, ha, hxs⟩, hR, hlen, hQ⟩ := h
  refine ⟨_, PSs.nox (pss_cons (ps_fld (pv 0) (pv 1) rfl)
      (pss_cons (ps_fld (pv 0) (pe_call (ok_strata W) (hr.mono (by decide)) rfl W.gl_strata (W.fu_strata).kp W.bd_strata .nil pass0 (pa_cons (pv 1) pa_nil)) rfl)
      (pss_cons (ps_fld (pv 0) pe_dnewT rfl)
      (pss_cons (ps_set (i := 3) sc_Graph_init.nd rfl (by first | exact Or.inl rfl | exact Or.inr rfl) pe_dnewK)
      (pss_cons (ps_set (i := 4) sc_Graph_init.nd rfl (by first | exact Or.inl rfl | exact Or.inr rfl) pe_dnewK)
      (pss_cons (ps_for PassesOwn.never rfl (pi_list (pv 2)) (pg_tup rfl (pgs_cons (pg_name (i := 5) sc_Graph_init.nd rfl (by first | exact Or.inl rfl | exact Or.inr rfl)) (pgs_cons (pg_name (i := 6) sc_Graph_init.nd rfl (by first | exact Or.inl rfl | exact Or.inr rfl)) (pgs_cons (pg_name (i := 7) sc_Graph_init.nd rfl (by first | exact Or.inl rfl | exact Or.inr rfl)) pgs_nil)))) (pss_cons (ps_expr (pe_bm PySem.F.plainAttrs_list PySem.F.slot_list_append PySem.F.type_list_append mt_append (pe_bm PySem.F.plainAttrs_dict PySem.F.slot_dict_setdefault PySem.F.type_dict_setdefault (mt_setdT (hu_of hr)) (pe_fld (pv 0) rfl) (pa_cons (pe_tup (pa_cons (pv 5) (pa_cons (pv 6) pa_nil))) (pa_cons (pe_lst pa_nil) pa_nil))) (pa_cons (pe_call (ok_split_reference W) (hr.mono (by decide)) rfl W.gl_split_reference (W.fu_split_reference).kp W.bd_split_reference .nil pass0 (pa_cons (pv 7) pa_nil)) pa_nil)))
      (pss_cons (ps_dput (hu_of hr) (pv 3) (pv 5) pe_bl rfl)
      (pss_cons (ps_dput (hu_of hr) (pv 3) (pe_ix ix_tup (pe_call (ok_split_reference W) (hr.mono (by decide)) rfl W.gl_split_reference (W.fu_split_reference).kp W.bd_split_reference .nil pass0 (pa_cons (pv 7) pa_nil)) pe_int (fun _ _ => rfl)) pe_bl rfl)
      (pss_one (ps_if (pt_cmpR op_eq (pe_ix ix_tup (pe_call (ok_split_reference W) (hr.mono (by decide)) rfl W.gl_split_reference (W.fu_split_reference).kp W.bd_split_reference .nil pass0 (pa_cons (pv 7) pa_nil)) pe_int (fun _ _ => rfl)) pe_str (nomark _)) (pss_one (ps_dput (hu_of hr) (pv 4) (pv 7) pe_bl rfl)) pss_nil))))))
      (pss_cons (ps_fld (pv 0) (pe_callB (call_sortedD rfl) (by rfl) W.fr_sorted (by decide +kernel) (pa_cons (pv 3) pa_nil)) rfl)
      (pss_one (ps_fld (pv 0) (pe_callB (call_sortedD rfl) (by rfl) W.fr_sorted (by decide +kernel) (pa_cons (pv 4) pa_nil)) rfl))))))))), ?_⟩
  have sz : sizeLine = 16777216 := sizeLine_eq
  have pa : p ≠ a := ne_of hp ha fun z => nomatch z
  refine ⟨_, rfl, _, rfl, p, cG K, dx, _, rfl, hp, W.cl_Graph, W.na_Graph_schema, (by show 0 < 1000; decide), ?_⟩
  have a1 : Sx (fun b => b = p) H (upd H p (.ins (cG K) dx (putF "schema" v []))) := Sx.put hp rfl
  have hp1 : upd H p (.ins (cG K) dx (putF "schema" v [])) p = some (.ins (cG K) dx [("schema", v)]) := upd_same
  generalize upd H p (.ins (cG K) dx (putF "schema" v [])) = G1 at a1 hp1 ⊢
  refine ⟨_, rfl, v, lawSch, rfl, dp_sx a1 _ _ (schD_noL _) hd, law_str, fun st ri G2 hri hst a2 gst => ⟨_, rfl, p, cG K, dx, _, rfl, a2.atS hp1, W.cl_Graph, W.na_Graph_strata, (by show 1 < 1000; decide), fun sd hsd => ⟨_, rfl, p, cG K, dx, _, rfl, by rw [upd_ne (ne_of_none upd_same hsd)]; exact upd_same, W.cl_Graph, W.na_Graph_subjects, (by show 2 < 1000; decide), ?_⟩⟩⟩
  rw [law_ks] at gst
  have hf := lev_bd ri hri
  generalize lev lawSch ri = f at gst hf
  have hp2 := a2.atS hp1
  have nsp : st ≠ p := ne_of gst hp2 fun z => nomatch z
  have a12 : Sx (fun b => b = p) H G2 := a1.trans (Sx.of a2)
  have b1 : Sx (fun b => b = p) G2 (upd G2 p (.ins (cG K) dx (putF "strata" (.ref st) [("schema", v)]))) := Sx.put hp2 rfl
  have hp3 : upd G2 p (.ins (cG K) dx (putF "strata" (.ref st) [("schema", v)])) p = some (.ins (cG K) dx [("schema", v), ("strata", .ref st)]) := upd_same
  have gst3 := b1.at gst nsp
  generalize upd G2 p (.ins (cG K) dx (putF "strata" (.ref st) [("schema", v)])) = G3 at b1 hp3 hsd gst3 ⊢
  have b2 : Sm G3 (upd G3 sd (.dT [])) := Sx.new hsd
  have hp4 := b2.atS hp3
  have gst4 := b2.atS gst3
  have gsd4 : upd G3 sd (.dT []) sd = some (.dT []) := upd_same
  have a13 := a12.trans b1
  have hsdH : H sd = none := a13.old sd hsd
  have a14 := a13.trans (Sx.of b2)
  generalize upd G3 sd (.dT []) = G4 at b2 hp4 gst4 gsd4 a14 ⊢
  have nsdp : sd ≠ p := ne_of gsd4 hp4 fun z => nomatch z
  have b3 : Sx (fun b => b = p) G4 (upd G4 p (.ins (cG K) dx (putF "subjects" (.ref sd) (putF "strata" (.ref st) [("schema", v)])))) := Sx.put hp4 rfl
  have hp5 : upd G4 p (.ins (cG K) dx (putF "subjects" (.ref sd) (putF "strata" (.ref st) [("schema", v)]))) p = some (.ins (cG K) dx [("schema", v), ("strata", .ref st), ("subjects", .ref sd)]) := upd_same
  have gst5 := b3.at gst4 nsp
  have gsd5 := b3.at gsd4 nsdp
  have a15 := a14.trans b3
  generalize upd G4 p (.ins (cG K) dx (putF "subjects" (.ref sd) (putF "strata" (.ref st) [("schema", v)]))) = G5 at b3 hp5 gst5 gsd5 a15 ⊢
  clear b1 b2 b3 hp4 gst4 gsd4 a14 a13 a12 hp3 gst3 hsd hp2 gst hst a2 hp1 a1
  intro O hO E1 hE
  have c1 : Sm G5 (upd G5 O (.dK [])) := Sx.new hO
  have c2 : Sm (upd G5 O (.dK [])) (upd (upd G5 O (.dK [])) E1 (.dK [])) := Sx.new hE
  have nOE : O ≠ E1 := ne_of_none upd_same hE
  have gO : upd (upd G5 O (.dK [])) E1 (.dK []) O = some (.dK (dS [])) := by rw [upd_ne nOE, upd_same]; rfl
  have gE : upd (upd G5 O (.dK [])) E1 (.dK []) E1 = some (.dK (dS [])) := upd_same
  have c12 := c1.trans c2
  have hE5 : G5 E1 = none := c1.old _ hE
  generalize upd (upd G5 O (.dK [])) E1 (.dK []) = G6 at c12 gO gE ⊢
  clear c1 c2
  have hOH : H O = none := a15.old _ hO
  have hEH : H E1 = none := a15.old _ hE5
  have a16 : Sx (fun b => b = p) H G6 := a15.trans (Sx.of c12)
  have hp6 := c12.atS hp5
  have gst6 := c12.atS gst5
  have gsd6 := c12.atS gsd5
  have ga6 := a16.at ha (fun z => pa z.symm)
  have hstH : st ≠ sd ∧ st ≠ O ∧ st ≠ E1 := by
    refine ⟨fun z => ?_, ne_of gst6 gO (fun z => nomatch z), ne_of gst6 gE (fun z => nomatch z)⟩
    rw [z, gsd6] at gst6
    have e : ([] : List (List Key × V)) = iD lawKs f := HO.dT.inj (Option.some.inj gst6)
    have := congrArg List.length e
    rw [iD_len] at this
    exact absurd this (by decide)
  have hxs6 : Tus G6 xs l := Paired.mapP hxs fun _ _ => Tu.sx a16
  have lx : xs.length = l.length := Paired.length hxs
  refine ⟨_, rfl, a, rfl, ⟨_, .of ga6⟩, for_it (walk_list (K := K) (a := a) (xs := xs)) (fun i τ G => ∃ o5 o6 o7 kvs obs pes, τ = [some (.ref p), some v, some (.ref a), some (.ref O), some (.ref E1), o5, o6, o7] ∧ Sx (fun b => b = sd ∨ b = O ∨ b = E1) G6 G ∧ G sd = some (.dT kvs) ∧ kvs.length ≤ i ∧ SubF G6 G kvs i ∧ G O = some (.dK (dS obs)) ∧ obs.Nodup ∧ (∀ z ∈ obs, z ∈ thU) ∧ G E1 = some (.dK (dS pes)) ∧ pes.Nodup ∧ ∀ z ∈ pes, z ∈ peU)
    ⟨_, _, _, [], [], [], rfl, Sx.refl _, gsd6, Nat.le_refl _, fun kv h => absurd h List.not_mem_nil, gO, List.nodup_nil, fun z h => absurd h List.not_mem_nil, gE, List.nodup_nil, fun z h => absurd h List.not_mem_nil⟩
    (fun i τ G _ ⟨_, _, _, _, _, _, _, b, _⟩ => .of (b.at ga6 ?_)) (fun i x τ G0 G hi ⟨o5, o6, o7, kvs, obs, pes, eτ, b, gs, lk, hS, gO, nO, uO, gE, nE, uE⟩ ⟨eG, hx⟩ => ?_) fun τ G ⟨o5, o6, o7, kvs, obs, pes, eτ, b, gs, lk, hS, gO, nO, uO, gE, nE, uE⟩ => ?_⟩
  · rintro (z | z | z)
    · rw [z, hsdH] at ha; cases ha
    · rw [z, hOH] at ha; cases ha
    · rw [z, hEH] at ha; cases ha
  · subst eτ eG
    obtain ⟨k, hk, bx, rfl, hbx⟩ := pr_get hxs6 hx
    have hkR := hR k (List.mem_of_getElem? hk)
    obtain ⟨t, r, z, rfl, ht, hr', hz', hza, hzb⟩ := allR_3 hkR
    obtain ⟨u1, u2, u3, u4, u5⟩ := allR_th hkR
    have hi100 : i < 100 := by omega
    have hMl : ∀ {G : Hp} {x y w}, G sd = some (.dT x) → G O = some (.dK y) → G E1 = some (.dK w) → ∀ b, (b = sd ∨ b = O ∨ b = E1) → ∀ ys, G b ≠ some (.lst ys) := fun {G x y w} g1 g2 g3 b m ys z => by
      rcases m with m | m | m
      · rw [m, g1] at z; cases z
      · rw [m, g2] at z; cases z
      · rw [m, g3] at z; cases z
    have hpM : ¬ (p = sd ∨ p = O ∨ p = E1) := by
      rintro (z | z | z)
      · exact nsdp z.symm
      · rw [z, hOH] at hp; cases hp
      · rw [z, hEH] at hp; cases hp
    have lO := nodup_le obs thU nO uO
    have lE := nodup_le pes peU nE uE
    have lth : thU.length = 6 := rfl
    have lpe : peU.length = 3 := rfl
    refine ⟨bx, _, rfl, .of (b.tups _ _ hbx), rfl, _, _, rfl, _, _, rfl, _, _, rfl, rfl, _, rfl, p, cG K, dx, _, _, rfl, b.at hp6 hpM, W.cl_Graph, W.na_Graph_subjects, rfl, .inr (.inr (.inl ⟨rfl, .inr ⟨_, gs⟩⟩)), _, rfl, _, rfl, by show 2 ≤ sizeLine; omega, fun kq hkq => ⟨Nat.zero_le _, fun nl hnl => ?_⟩⟩
    have d1 : Sm G (upd G kq (.tup [.str t, .str r])) := Sx.new hkq
    have d2 : Sm (upd G kq (.tup [.str t, .str r])) (upd (upd G kq (.tup [.str t, .str r])) nl (.lst [])) := Sx.new hnl
    have gkq : upd (upd G kq (.tup [.str t, .str r])) nl (.lst []) kq = some (.tup (([t, r] : List Str).map V.str)) := d2.atS upd_same
    have gnl : upd (upd G kq (.tup [.str t, .str r])) nl (.lst []) nl = some (.lst []) := upd_same
    have d12 := d1.trans d2
    have hnl0 : G6 nl = none := b.old _ (d1.old _ hnl)
    generalize upd (upd G kq (.tup [.str t, .str r])) nl (.lst []) = Ga at gkq gnl d12 ⊢
    have ba := b.trans (Sx.of d12)
    have gsa := d12.atS gs
    have gOa := d12.atS gO
    have gEa := d12.atS gE
    have hSa : SubF G6 Ga kvs i := hS.sx d12 fun b z => z.elim
    dsimp only [tNil]
    refine setd_i (k := [t, r]) gsa gkq gnl hnl0 lk (by omega) hSa fun li kvs' Gb e1 gsb lkb hSb hli hPb => ?_
    obtain ⟨ys, ps, hly, hys, hps, lps⟩ := hPb
    have bb := ba.trans (e1.mono (M' := fun b => b = sd ∨ b = O ∨ b = E1) fun c h => .inl h)
    have gOb := e1.at gOa (ne_of gOa gsa fun z => nomatch z)
    have gEb := e1.at gEa (ne_of gEa gsa fun z => nomatch z)
    refine ⟨.inl ⟨rfl, _, .of hly⟩, _, rfl, z, rfl, by omega, fun v2 Gc e2 hv2 => ?_⟩
    have gsc := e2.atS gsb
    have gOc := e2.atS gOb
    have gEc := e2.atS gEb
    have hlc := e2.atS hly
    have bc := bb.trans (Sx.of e2)
    have hSc : SubF G6 Gc kvs' i := hSb.sx e2 fun b z => z.elim
    have hSd : SubF G6 (upd Gc li (.lst (ys ++ [v2]))) kvs' (i + 1) := hSc.app hlc (Paired.mapP hys fun _ _ => Tu.sx e2) hps lps hv2 ⟨_, _, rfl, u3, u4⟩
    have e3 : Sx (fun b => b = li) Gc (upd Gc li (.lst (ys ++ [v2]))) := Sx.put hlc rfl
    have lps' : ys.length = ps.length := Paired.length hys
    refine ⟨li, ys, v2, rfl, rfl, hlc, by omega, ?_⟩
    have gsd' := e3.at gsc (ne_of gsc hlc fun z => nomatch z)
    have gOd := e3.at gOc (ne_of gOc hlc fun z => nomatch z)
    have gEd := e3.at gEc (ne_of gEc hlc fun z => nomatch z)
    have bd : Sx (fun b => b = sd ∨ b = O ∨ b = E1) G6 (upd Gc li (.lst (ys ++ [v2]))) := bc.after e3 fun c o e m => by rw [m, hli] at e; cases e
    generalize upd Gc li (.lst (ys ++ [v2])) = Gd at gsd' gOd gEd bd hSd ⊢
    clear e3 hSc bc hlc gsc gOc gEc e2 hv2 gOb gEb bb hSb gsb e1
    have ldS : ∀ l : List Str, (dS l).length = l.length := fun l => by simp [dS]
    refine ⟨_, rfl, _, rfl, O, _, rfl, .inl ⟨dS obs, Sum.inr t, gOd, rfl, by rw [ldS]; omega, rfl⟩, ?_⟩
    rw [putK_dS]
    have f1 : Sx (fun b => b = sd ∨ b = O ∨ b = E1) Gd (upd Gd O (.dK (dS (addS obs t)))) := Sx.put gOd (.inr (.inl rfl))
    have gse := (upd_ne (o := .dK (dS (addS obs t))) (ne_of gsd' gOd fun z => nomatch z)).trans gsd'
    have gEe := (upd_ne (o := .dK (dS (addS obs t))) nOE.symm).trans gEd
    have gOe : upd Gd O (.dK (dS (addS obs t))) O = some (.dK (dS (addS obs t))) := upd_same
    have hSe := hSd.sx f1 (hMl gsd' gOd gEd)
    have be := bd.trans f1
    obtain ⟨nO1, uO1⟩ := addS_ok nO uO u1
    generalize upd Gd O (.dK (dS (addS obs t))) = Ge at gse gEe gOe hSe be ⊢
    refine ⟨_, rfl, _, rfl, z, rfl, by omega, fun v3 Gf e4 ⟨b3, ev3, hb3⟩ => ?_⟩
    subst ev3
    have gsf := e4.atS gse
    have gOf := e4.atS gOe
    have gEf := e4.atS gEe
    have hSf : SubF G6 Gf kvs' (i + 1) := hSe.sx e4 fun b z => z.elim
    have bf := be.trans (Sx.of e4)
    have lO1 := nodup_le _ thU nO1 uO1
    refine ⟨b3, _, 0, _, rfl, rfl, .of hb3, atI_nat (j := 0) rfl, O, _, rfl, .inl ⟨dS (addS obs t), Sum.inr (refA z), gOf, rfl, by rw [ldS]; omega, rfl⟩, ?_⟩
    rw [putK_dS]
    have f2 : Sx (fun b => b = sd ∨ b = O ∨ b = E1) Gf (upd Gf O (.dK (dS (addS (addS obs t) (refA z))))) := Sx.put gOf (.inr (.inl rfl))
    have gsg := (upd_ne (o := .dK (dS (addS (addS obs t) (refA z)))) (ne_of gsf gOf fun z => nomatch z)).trans gsf
    have gEg := (upd_ne (o := .dK (dS (addS (addS obs t) (refA z)))) nOE.symm).trans gEf
    have gOg : upd Gf O (.dK (dS (addS (addS obs t) (refA z)))) O = some (.dK (dS (addS (addS obs t) (refA z)))) := upd_same
    have hSg := hSf.sx f2 (hMl gsf gOf gEf)
    have bg := bf.trans f2
    obtain ⟨nO2, uO2⟩ := addS_ok nO1 uO1 u3
    generalize upd Gf O (.dK (dS (addS (addS obs t) (refA z)))) = Gg at gsg gEg gOg hSg bg ⊢
    refine ⟨_, rfl, z, rfl, by omega, fun v4 Gh e5 ⟨b4, ev4, hb4⟩ => ?_⟩
    subst ev4
    have gsh := e5.atS gsg
    have gOh := e5.atS gOg
    have gEh := e5.atS gEg
    have hSh : SubF G6 Gh kvs' (i + 1) := hSg.sx e5 fun b z => z.elim
    have bh := bg.trans (Sx.of e5)
    refine ⟨b4, _, 1, _, rfl, rfl, .of hb4, atI_nat (j := 1) rfl, rfl, _, rfl, ?_⟩
    by_cases hz0 : refB z = ""
    · refine itT (by simp [hz0]) ⟨_, rfl, _, rfl, E1, _, rfl, .inl ⟨dS pes, Sum.inr z, gEh, rfl, by rw [ldS]; omega, rfl⟩, ?_⟩
      rw [putK_dS]
      have f3 : Sx (fun b => b = sd ∨ b = O ∨ b = E1) Gh (upd Gh E1 (.dK (dS (addS pes z)))) := Sx.put gEh (.inr (.inr rfl))
      obtain ⟨nE1, uE1⟩ := addS_ok nE uE (u5 hz0)
      exact ⟨_, _, _, kvs', _, _, rfl, bh.trans f3, (upd_ne (ne_of gsh gEh fun z => nomatch z)).trans gsh, lkb, hSh.sx f3 (hMl gsh gOh gEh), (upd_ne nOE).trans gOh, nO2, uO2, upd_same, nE1, uE1⟩
    · exact itF (by simp [hz0]) ⟨_, _, _, kvs', _, _, rfl, bh, gsh, lkb, hSh, gOh, nO2, uO2, gEh, nE, uE⟩
  · subst eτ
    have ldS : ∀ l : List Str, (dS l).length = l.length := fun l => by simp [dS]
    have hpM : ¬ (p = sd ∨ p = O ∨ p = E1) := by
      rintro (z | z | z)
      · exact nsdp z.symm
      · rw [z, hOH] at hp; cases hp
      · rw [z, hEH] at hp; cases hp
    have lO := nodup_le obs thU nO uO
    have lE := nodup_le pes peU nE uE
    have lth : thU.length = 6 := rfl
    have lpe : peU.length = 3 := rfl
    have hpG := b.at hp6 hpM
    have hkeys : ∀ l : List Str, (dS l).map (·.1) = l.map Sum.inr := fun l => by simp [dS]
    refine ⟨_, rfl, O, dS obs, obs, rfl, .inl gO, hkeys obs, by omega, fun ob o1 pob _ ho1 => ?_⟩
    have d1 : Sm G (upd G o1 (.lst (ob.map V.str))) := Sx.new ho1
    have hp1 := d1.atS hpG
    have gE1 := d1.atS gE
    have go1 : upd G o1 (.lst (ob.map V.str)) o1 = some (.lst (ob.map V.str)) := upd_same
    generalize upd G o1 (.lst (ob.map V.str)) = Go at d1 hp1 gE1 go1 ⊢
    refine ⟨_, rfl, p, cG K, dx, _, rfl, hp1, W.cl_Graph, W.na_Graph_objects, (by show 3 < 1000; decide), ?_⟩
    have d2 : Sx (fun b => b = p) Go (upd Go p (.ins (cG K) dx (putF "objects" (.ref o1) [("schema", v), ("strata", .ref st), ("subjects", .ref sd)]))) := Sx.put hp1 rfl
    have gE2 := d2.at gE1 (ne_of gE1 hp1 fun z => nomatch z)
    have go2 := d2.at go1 (ne_of go1 hp1 fun z => nomatch z)
    have hp2 : upd Go p (.ins (cG K) dx (putF "objects" (.ref o1) [("schema", v), ("strata", .ref st), ("subjects", .ref sd)])) p = some (.ins (cG K) dx [("schema", v), ("strata", .ref st), ("subjects", .ref sd), ("objects", .ref o1)]) := upd_same
    generalize upd Go p (.ins (cG K) dx (putF "objects" (.ref o1) [("schema", v), ("strata", .ref st), ("subjects", .ref sd)])) = Gp at d2 gE2 go2 hp2 ⊢
    refine ⟨_, rfl, E1, dS pes, pes, rfl, .inl gE2, hkeys pes, by omega, fun pe o3 ppe _ ho3 => ?_⟩
    have d3 : Sm Gp (upd Gp o3 (.lst (pe.map V.str))) := Sx.new ho3
    have hp3 := d3.atS hp2
    have go3 := d3.atS go2
    have ge3 : upd Gp o3 (.lst (pe.map V.str)) o3 = some (.lst (pe.map V.str)) := upd_same
    generalize upd Gp o3 (.lst (pe.map V.str)) = Gq at d3 hp3 go3 ge3 ⊢
    refine ⟨_, rfl, p, cG K, dx, _, rfl, hp3, W.cl_Graph, W.na_Graph_people, (by show 4 < 1000; decide), ?_⟩
    have d4 : Sx (fun b => b = p) Gq (upd Gq p (.ins (cG K) dx (putF "people" (.ref o3) [("schema", v), ("strata", .ref st), ("subjects", .ref sd), ("objects", .ref o1)]))) := Sx.put hp3 rfl
    have dd := (((Sx.of d1).trans d2).trans (Sx.of d3)).trans d4
    have bb : Sx (fun b => b = p) H G := a16.after b fun c o e m => by
      rcases m with z | z | z
      · rw [z, hsdH] at e; cases e
      · rw [z, hOH] at e; cases e
      · rw [z, hEH] at e; cases e
    have hst := b.at gst6 (fun m => by
      rcases m with z | z | z
      · exact hstH.1 z
      · exact hstH.2.1 z
      · exact hstH.2.2 z)
    refine hQ _ (bb.trans dd) ⟨dx, st, sd, o1, o3, v, f, kvs, ob, pe, upd_same, dp_sx (bb.trans dd) _ _ (schD_noL _) hd, dd.at hst nsp, hf, dd.at gs nsdp, fun kv hkv => ?_, d4.at go3 (ne_of go3 hp3 fun z => nomatch z), pob.nodup_iff.mpr nO, fun z hz => uO z (pob.mem_iff.mp hz), d4.at ge3 (ne_of ge3 hp3 fun z => nomatch z), ppe.nodup_iff.mpr nE, fun z hz => uE z (ppe.mem_iff.mp hz)⟩
    obtain ⟨l', e, hl', ys, ps, h1, h2, h3, h4⟩ := hS kv hkv
    exact ⟨l', e, ys, ps, dd.at h1 (fun z => by rw [z, hpG] at h1; cases h1), Paired.mapP h2 fun _ _ => Tu.sx dd, h3, by omega⟩
end
end K83
namespace K83
open PySem PySem.Spec PyProof.Rows L2 L2.DX GxR
theorem GrAt.sx {K : PySem.W.Frag} {H H1 : Hp} {p : Addr} (a : Sm H H1) (h : GrAt K H p) : GrAt K H1 p := by
  obtain ⟨dx, st, sd, ob, pe, v, f, kvs, obs, pes, h1, h2, h3, h4, h5, h6, h7, h8, h9, h10, h11⟩ := h.ex
  exact ⟨dx, st, sd, ob, pe, v, f, kvs, obs, pes, a.atS h1, dp_sx a _ _ (schD_noL _) h2, a.atS h3, h4, a.atS h5, fun kv hkv => let ⟨l, e, q⟩ := h6 kv hkv; ⟨l, e, q.sx a⟩, a.atS h7, h8, h9, a.atS h10, h11⟩
theorem thU_len : ∀ z ∈ thU, z.length ≤ 100 := by decide +kernel
theorem nmU_len : ∀ z ∈ nmU, z.length ≤ 100 := by decide +kernel
def itB (e : Sen) : Bool := decide (e.2.2.length ≤ 3) && (decide (e.2.1 = "relation") || e.2.2.all fun k => match k with
  | [o, r, n] => decide (r ∈ nmU) && decide (n ∈ nmU)
  | _ => false)
theorem law_it : ∀ p ∈ lawSch, ∀ e ∈ p.2, itB e = true := fun p hp e he => by
  have : (lawSch.all fun p => p.2.all itB) = true := by decide +kernel
  exact List.all_eq_true.mp (List.all_eq_true.mp this p hp) e he
theorem law_ent {kind name : Str} {e : Sen} (h : entOf lawSch kind name = some e) : e.2.2.length ≤ 3 ∧ (e.2.1 ≠ "relation" → ∀ k ∈ e.2.2, ∃ o r n, k = [o, r, n] ∧ r ∈ nmU ∧ n ∈ nmU) := by
  obtain ⟨p, hp, he, _, _⟩ := entOf_mem h
  have q := law_it p hp e he
  unfold itB at q
  rw [Bool.and_eq_true, decide_eq_true_eq] at q
  refine ⟨q.1, fun hr k hk => ?_⟩
  have q2 := q.2
  rw [decide_eq_false hr, Bool.false_or, List.all_eq_true] at q2
  have q3 := q2 k hk
  split at q3
  · rw [Bool.and_eq_true, decide_eq_true_eq, decide_eq_true_eq] at q3
    exact ⟨_, _, _, rfl, q3⟩
  · cases q3
/-- [x for x in list if test]: the tuples of l that pass, each test asked of a tuple of l -/
theorem flLm {K : PySem.W.Frag} {a : Addr} {xs : List V} {l : List (List Str)} {p : List Str → Bool} {j : Nat} {σ : L2.St} {vs : List Nat} {H : Hp} {D : Addr} {Q : Hp → Prop} {tt : TT} (hs : SqL K H a xs) (hl : Tus H xs l) (hD : H D = none) (hz : l.length ≤ sizeLine)
    (hw : ∀ v : V, wipe ((wipe σ vs).set j (some v)) vs = wipe σ vs) (hj : ∀ v : V, ((wipe σ vs).set j (some v))[j]? = some (some v))
    (ht : ∀ k ∈ l, ∀ b ys (R : Bool → Hp → Prop), upd H D (.lst ys) b = some (.tup (k.map V.str)) → R (p k) (upd H D (.lst ys)) → tt ((wipe σ vs).set j (some (.ref b))) (upd H D (.lst ys)) R) (q : ∀ ys, Tus H ys (l.filter p) → Q (upd H D (.lst ys))) :
    ∃ W : Nat → Nat → Hp → Prop, (∃ m, W 0 m (upd H D (.lst []))) ∧ ∀ i m G, W i m G → ((Itl K a).stop i G ∧ Q G) ∨ ((Itl K a).go i G ∧ ∃ Nx : Hp → Prop, (∀ G', Nx G' → ∃ n, n < m ∧ W (i + 1) n G') ∧ ∀ x G', (Itl K a).yld i G x G' → gName j x (wipe σ vs) G' fun τ G2 => wipe τ vs = wipe σ vs ∧ tt τ G2 fun b G3 =>
      if b = true then tVar j τ G3 fun y G4 => ∃ acc, G4 D = some (.lst acc) ∧ acc.length < sizeLine ∧ Nx (upd G4 D (.lst (acc ++ [y]))) else Nx G3) := by
  have w : Walk (Itl K a) l.length (fun H => SqL K H a xs) (YAt xs) := by
    have := walk_list (K := K) (a := a) (xs := xs)
    rwa [show xs.length = l.length from Paired.length hl] at this
  refine lc_it w (fun i G => ∃ ys, G = upd H D (.lst ys) ∧ Tus H ys ((l.take i).filter p)) ⟨[], rfl, by rw [List.take_zero]; exact .nil⟩ (fun i G hi ⟨ys, e, _⟩ => by rw [e]; exact Sx.sqLS (Sx.new hD) hs) (fun i x G G' hi ⟨ys, e, hp⟩ ⟨eG, hx⟩ => ?_) fun G ⟨ys, e, hp⟩ => ?_
  · subst eG e
    obtain ⟨k, hk, b, rfl, hb⟩ := pr_get hl hx
    refine ⟨hw _, ht k (List.mem_of_getElem? hk) b ys _ (by rw [upd_ne (ne_of_none hb hD)]; exact hb) ?_⟩
    cases hpk : p k with
    | true =>
      refine iteT ⟨_, hj _, ys, upd_same, ?_, ys ++ [.ref b], by rw [upd_upd], ?_⟩
      · have e1 : ys.length = ((l.take i).filter p).length := Paired.length hp
        have e2 := List.length_filter_le p (l.take i)
        have e4 : (l.take i).length = min i l.length := List.length_take
        omega
      · rw [take_snoc hk, List.filter_append, List.filter_cons_of_pos hpk, List.filter_nil]
        exact pr_snoc hp ⟨b, rfl, hb⟩
    | false =>
      refine iteF ⟨ys, rfl, ?_⟩
      rw [take_snoc hk, List.filter_append, List.filter_cons_of_neg (by rw [hpk]; decide), List.filter_nil, List.append_nil]
      exact hp
  · subst e
    rw [List.take_length] at hp
    exact q ys hp
section
variable {P : Program} {w : World} {K : PySem.W.Frag} {mg : Str → Option Value} {base : Heap}
def sp_Graph_subjects_of (K : PySem.W.Frag) : Sp := fun vs H Q _ => ∃ (H0 : Hp) (p : Addr) (t n : Str), vs = [.ref p, .str t, .str n] ∧ GrAt K H0 p ∧ Sm H0 H ∧ ∀ l H', Sm H H' → PLs H' l 100 → (H l = none ∨ ∃ o, H0 l = some o) → Q (.ref l) H'
abbrev N_Graph_subjects_of : List Str := ["self", "target", "relation"]
theorem ok_Graph_subjects_of (W : Wd K mg base) : FnOk P w K mg base CX0 1 (A_Graph_subjects_of K) (F_Graph_subjects_of K) ["self", "target", "relation"] (sp_Graph_subjects_of K) := by
  refine W.fu_Graph_subjects_of.ok sc_Graph_subjects_of (fun vs H Q E h => by obtain ⟨_, _, _, _, rfl, _⟩ := h; rfl) fun cdv A outer s H vs Q E hr h => ?_
  obtain ⟨H0, p, t, n, rfl, hG, a0, hQ⟩ := h
  refine ⟨_, PSs.nox (pss_one (ps_ret (pe_dget2 (hu_of hr) (pe_fld (pv 0) rfl) (pe_tup (pa_cons (pv 1) (pa_cons (pv 2) pa_nil))) (pe_lst pa_nil) ⟨by rfl, by rfl, by rfl, by rfl⟩))), ?_⟩
  have sz : sizeLine = 16777216 := sizeLine_eq
  obtain ⟨dx, st, sd, ob, pe, v, f, kvs, obs, pes, h1, h2, h3, h4, h5, h6, _⟩ := hG.ex
  refine ⟨_, rfl, p, cG K, dx, _, _, rfl, a0.atS h1, W.cl_Graph, W.na_Graph_subjects, rfl, sd, rfl, .inr ⟨_, .inl (a0.atS h5)⟩, _, rfl, _, rfl, by show 2 ≤ sizeLine; omega, fun q hq => ⟨Nat.zero_le _, fun l hl => ?_⟩⟩
  have a1 : Sm H (upd H q (.tup [.str t, .str n])) := Sx.new hq
  have a2 : Sm (upd H q (.tup [.str t, .str n])) (upd (upd H q (.tup [.str t, .str n])) l (.lst [])) := Sx.new hl
  have gl : upd (upd H q (.tup [.str t, .str n])) l (.lst []) l = some (.lst []) := upd_same
  have gq : upd (upd H q (.tup [.str t, .str n])) l (.lst []) q = some (.tup ((([t, n] : List Str).map Sum.inr).map kV)) := a2.atS upd_same
  have a := a1.trans a2
  generalize upd (upd H q (.tup [.str t, .str n])) l (.lst []) = G at a gl gq ⊢
  refine ⟨valV kvs (([t, n] : List Str).map Sum.inr), .inr ⟨kvs, _, q, .inl (a.atS (a0.atS h5)), rfl, gq, rfl⟩, ?_⟩
  cases hv : valV kvs (([t, n] : List Str).map Sum.inr) with
  | none => exact hQ l G a ⟨[], [], gl, .nil, fun k h => absurd h List.not_mem_nil, Nat.zero_le _⟩ (.inl (a1.old _ hl))
  | some x =>
    obtain ⟨kv, hkv, e⟩ := valV_some hv
    obtain ⟨l', e2, q'⟩ := h6 kv hkv
    rw [← e, e2]
    refine hQ l' G a (q'.sx (a0.trans a)) (.inr ?_)
    obtain ⟨ys, _, z, _⟩ := q'
    exact ⟨_, z⟩
def sp_Graph_stratum_of (K : PySem.W.Frag) : Sp := fun vs H Q _ => ∃ (p : Addr) (t n : Str), vs = [.ref p, .str t, .str n] ∧ GrAt K H p ∧ Tabs K H ∧ t.length ≤ 100 ∧ ∀ (i : Int) H', Sm H H' → Q (.int i) H'
abbrev N_Graph_stratum_of : List Str := ["self", "target", "name"]
theorem ok_Graph_stratum_of (W : Wd K mg base) : FnOk P w K mg base CX0 2 (A_Graph_stratum_of K) (F_Graph_stratum_of K) ["self", "target", "name"] (sp_Graph_stratum_of K) := by
  refine W.fu_Graph_stratum_of.ok sc_Graph_stratum_of (fun vs H Q E h => by obtain ⟨_, _, _, rfl, _⟩ := h; rfl) fun cdv A outer s H vs Q E hr h => ?_
  obtain ⟨p, t, n, rfl, hG, hT, ht, hQ⟩ := h
  refine ⟨_, PSs.nox (pss_one (ps_ret (pe_dget2 (hu_of hr) (pe_fld (pv 0) rfl) (pe_tup (pa_cons (pe_call (ok_type_of W) (hr.mono (by decide)) rfl W.gl_type_of (W.fu_type_of).kp W.bd_type_of .nil pass0 (pa_cons (pv 1) pa_nil)) (pa_cons (pv 2) pa_nil))) (pe_un un_neg pe_int) ⟨by rfl, by rfl, by rfl, by rfl⟩))), ?_⟩
  have sz : sizeLine = 16777216 := sizeLine_eq
  obtain ⟨dx, st, sd, ob, pe, v, f, kvs, obs, pes, h1, h2, h3, h4, h5, h6, _⟩ := hG.ex
  refine ⟨_, rfl, p, cG K, dx, _, _, rfl, h1, W.cl_Graph, W.na_Graph_strata, rfl, st, rfl, .inr ⟨_, .inl h3⟩, _, rfl, t, rfl, by omega, hT, fun H1 a1 => ⟨_, rfl, by show 2 ≤ sizeLine; omega, fun q hq => ?_⟩⟩
  have a2 : Sm H1 (upd H1 q (.tup [.str (typeOf t), .str n])) := Sx.new hq
  have a := a1.trans a2
  have gq : upd H1 q (.tup [.str (typeOf t), .str n]) q = some (.tup ((([typeOf t, n] : List Str).map Sum.inr).map kV)) := upd_same
  generalize upd H1 q (.tup [.str (typeOf t), .str n]) = G at a gq ⊢
  refine ⟨1, rfl, valV (iD lawKs f) (([typeOf t, n] : List Str).map Sum.inr), .inr ⟨_, _, q, .inl (a.atS h3), rfl, gq, rfl⟩, ?_⟩
  cases hv : valV (iD lawKs f) (([typeOf t, n] : List Str).map Sum.inr) with
  | none => exact hQ _ G a
  | some x =>
    obtain ⟨kv, hkv, e⟩ := valV_some hv
    obtain ⟨k, _, e2⟩ := List.mem_map.mp hkv
    rw [← e2] at e
    rw [← e]
    exact hQ _ G a
/-- the pairs that a part leads to -/
def sp_Graph_pairs_of (K : PySem.W.Frag) : Sp := fun vs H Q _ => ∃ (p b : Addr) (t o r n : Str), vs = [.ref p, .str t, .ref b] ∧ GrAt K H p ∧ Tabs K H ∧ SqT K H b [.str o, .str r, .str n] ∧ t ∈ thU ∧ n ∈ nmU ∧ ∀ l H', Sm H H' → PLs H' l 100 → Q (.ref l) H'
abbrev N_Graph_pairs_of : List Str := ["self", "target", "part", "operator", "relation", "name", "found", "other", "other_name"]
theorem ok_Graph_pairs_of (W : Wd K mg base) : FnOk P w K mg base CX0 3 (A_Graph_pairs_of K) (F_Graph_pairs_of K) ["self", "target", "part"] (sp_Graph_pairs_of K) := by
  refine W.fu_Graph_pairs_of.ok sc_Graph_pairs_of (fun vs H Q E h => by obtain ⟨_, _, _, _, _, _, rfl, _⟩ := h; rfl) fun cdv A outer s H vs Q E hr h => ?_
  obtain ⟨p, b, t, o, r, n, rfl, hG, hT, hb, ht, hn, hQ⟩ := h
  refine ⟨_, PSs.nox (pss_cons (ps_asg (pv 2) (pg_tup rfl (pgs_cons (pg_name (i := 3) sc_Graph_pairs_of.nd rfl (by first | exact Or.inl rfl | exact Or.inr rfl)) (pgs_cons (pg_name (i := 4) sc_Graph_pairs_of.nd rfl (by first | exact Or.inl rfl | exact Or.inr rfl)) (pgs_cons (pg_name (i := 5) sc_Graph_pairs_of.nd rfl (by first | exact Or.inl rfl | exact Or.inr rfl)) pgs_nil)))))
      (pss_cons (ps_if (pt_cmpR op_eq (pv 4) pe_str (nomark _)) (pss_one (ps_ret (pe_lst (pa_cons (pe_tup (pa_cons (pv 1) (pa_cons (pv 5) pa_nil))) pa_nil)))) pss_nil)
      (pss_cons (ps_set (i := 6) sc_Graph_pairs_of.nd rfl (by first | exact Or.inl rfl | exact Or.inr rfl) (pe_lst pa_nil))
      (pss_cons (ps_for PassesOwn.never rfl (pi_list (pe_meth (pv 0) W.cl_Graph W.mt_Graph_subjects_of (ok_Graph_subjects_of W) (hr.mono (by decide)) W.bd_Graph_subjects_of .nil pass0 (pa_cons (pv 1) (pa_cons (pv 4) pa_nil)))) (pg_tup rfl (pgs_cons (pg_name (i := 7) sc_Graph_pairs_of.nd rfl (by first | exact Or.inl rfl | exact Or.inr rfl)) (pgs_cons (pg_name (i := 8) sc_Graph_pairs_of.nd rfl (by first | exact Or.inl rfl | exact Or.inr rfl)) pgs_nil))) (pss_one (ps_if (PW.pt (pw_and (pt_cmpR op_eq (pv 8) pe_str (nomark _)) (pw_and1 (pt_cmpR op_ge (pe_meth (pv 0) W.cl_Graph W.mt_Graph_stratum_of (ok_Graph_stratum_of W) (hr.mono (by decide)) W.bd_Graph_stratum_of .nil pass0 (pa_cons (pv 7) (pa_cons (pv 5) pa_nil))) pe_int (nomark _))))) (pss_one (ps_expr (pe_bm PySem.F.plainAttrs_list PySem.F.slot_list_append PySem.F.type_list_append mt_append (pv 6) (pa_cons (pe_tup (pa_cons (pv 7) (pa_cons (pv 5) pa_nil))) pa_nil)))) pss_nil)))
      (pss_one (ps_ret (pv 6))))))), ?_⟩
  have sz : sizeLine = 16777216 := sizeLine_eq
  refine ⟨_, rfl, b, _, rfl, hb, rfl, _, _, rfl, _, _, rfl, _, _, rfl, rfl, _, rfl, rfl, _, rfl, ?_⟩
  by_cases hr0 : r = ""
  · refine itT (by simp [hr0]) ⟨_, rfl, _, rfl, by show 2 ≤ sizeLine; omega, fun q hq => ⟨by show 1 ≤ sizeLine; omega, fun l hl => ?_⟩⟩
    have a1 : Sm H (upd H q (.tup [.str t, .str n])) := Sx.new hq
    have a2 : Sm (upd H q (.tup [.str t, .str n])) (upd (upd H q (.tup [.str t, .str n])) l (.lst [.ref q])) := Sx.new hl
    refine hQ l _ (a1.trans a2) ⟨[.ref q], [[t, n]], upd_same, .cons ⟨q, rfl, a2.atS upd_same⟩ .nil, fun k hk => ?_, by show 1 ≤ 100; omega⟩
    simp at hk
    rw [hk]
    exact ⟨t, n, rfl, ht, hn⟩
  · refine itF (by simp [hr0]) ⟨Nat.zero_le _, fun D hD => ?_⟩
    have aD : Sm H (upd H D (.lst [])) := Sx.new hD
    have gD : upd H D (.lst []) D = some (.lst []) := upd_same
    generalize upd H D (.lst []) = G0 at aD gD ⊢
    have hG0 := hG.sx aD
    obtain ⟨dx, st, sd, ob, pe, v, f, kvs, obs, pes, hpH, _⟩ := hG.ex
    have hp := aD.atS hpH
    refine ⟨_, rfl, p, dx, _, rfl, hp, rfl, _, rfl, _, rfl, H, p, t, r, rfl, hG, aD, fun ls G1 a1 hls hwh => ?_⟩
    obtain ⟨ys, ps, gl, hys, hps, lps⟩ := hls
    have gD1 := a1.atS gD
    have hG1 := hG0.sx a1
    have hT1 := hT.sx (aD.trans a1)
    have nlD : ls ≠ D := fun z => by
      rcases hwh with q | ⟨o, q⟩
      · rw [z, gD] at q; cases q
      · rw [z, hD] at q; cases q
    have ly : ys.length = ps.length := Paired.length hys
    refine ⟨ls, rfl, ⟨_, .of gl⟩, for_it (walk_list (K := K) (a := ls) (xs := ys)) (fun i τ G => ∃ o7 o8 zs qs, τ = [some (.ref p), some (.str t), some (.ref b), some (.str o), some (.str r), some (.str n), some (.ref D), o7, o8] ∧ Sx (fun c => c = D) G1 G ∧ G D = some (.lst zs) ∧ Tus G zs qs ∧ (∀ k ∈ qs, PairP k) ∧ qs.length ≤ i) ⟨_, _, [], [], rfl, Sx.refl _, gD1, .nil, fun k h => absurd h List.not_mem_nil, Nat.le_refl _⟩
      (fun i τ G _ ⟨_, _, _, _, _, b, _⟩ => .of (b.at gl nlD)) (fun i x τ G0 G hi ⟨o7, o8, zs, qs, eτ, bb, gDG, hzs, hqs, lqs⟩ ⟨eG, hx⟩ => ?_) fun τ G ⟨o7, o8, zs, qs, eτ, bb, gDG, hzs, hqs, lqs⟩ => ?_⟩
    · subst eτ eG
      obtain ⟨k, hk, bx, rfl, hbx⟩ := pr_get hys hx
      obtain ⟨t', n', rfl, ht', hn'⟩ := hps k (List.mem_of_getElem? hk)
      have a2 : Sm H G := (aD.trans a1).after bb fun c o e m => by rw [m, hD] at e; cases e
      have lzq : zs.length = qs.length := Paired.length hzs
      refine ⟨bx, _, rfl, .of (bb.tups _ _ hbx), rfl, _, _, rfl, _, _, rfl, rfl, _, rfl, rfl, _, rfl, ?_⟩
      by_cases hn0 : n' = ""
      · refine itT (by simp [hn0]) ⟨_, rfl, p, dx, _, rfl, a2.atS hpH, rfl, _, rfl, _, rfl, p, t', n, rfl, hG.sx a2, hT.sx a2, thU_len t' ht', fun i2 G2 a3 => ⟨_, _, rfl, rfl, _, rfl, ?_⟩⟩
        have gD2 := a3.atS gDG
        have hzs2 := Paired.mapP hzs fun _ _ => Tu.sx a3
        have b2 := bb.trans (Sx.of a3)
        by_cases hi2 : 0 ≤ i2
        · refine itT (decide_eq_true hi2) ⟨_, rfl, .inl ⟨rfl, _, .of gD2⟩, _, rfl, _, rfl, by show 2 ≤ sizeLine; omega, fun q hq => ⟨D, zs, .ref q, rfl, rfl, by rw [upd_ne (ne_of_none gD2 hq)]; exact gD2, by omega, ?_⟩⟩
          have a4 : Sm G2 (upd G2 q (.tup [.str t', .str n])) := Sx.new hq
          have gq : upd G2 q (.tup [.str t', .str n]) q = some (.tup [.str t', .str n]) := upd_same
          have gD4 := a4.atS gD2
          have hzs4 := Paired.mapP hzs2 fun _ _ => Tu.sx a4
          have b4 := b2.trans (Sx.of a4)
          generalize upd G2 q (.tup [.str t', .str n]) = G4 at gq gD4 hzs4 b4 ⊢
          have a5 : Sx (fun c => c = D) G4 (upd G4 D (.lst (zs ++ [.ref q]))) := Sx.put gD4 rfl
          refine ⟨_, _, zs ++ [.ref q], qs ++ [[t', n]], rfl, b4.trans a5, upd_same, pr_snoc (Paired.mapP hzs4 fun _ _ => Tu.sx a5) ⟨q, rfl, a5.tups _ _ gq⟩, fun k hk => ?_, by rw [List.length_append]; show qs.length + 1 ≤ i + 1; omega⟩
          rcases List.mem_append.mp hk with z | z
          · exact hqs k z
          · simp at z
            rw [z]
            exact ⟨t', n, rfl, ht', hn⟩
        · exact itF (decide_eq_false hi2) ⟨_, _, zs, qs, rfl, b2, gD2, hzs2, hqs, by omega⟩
      · exact itF (by simp [hn0]) (iteF ⟨_, _, zs, qs, rfl, bb, gDG, hzs, hqs, by omega⟩)
    · subst eτ
      refine ⟨_, rfl, hQ D G ?_ ⟨zs, qs, gDG, hzs, hqs, by omega⟩⟩
      exact (aD.trans a1).after bb fun c o e m => by rw [m, hD] at e; cases e
def sp_Graph_depends_on (K : PySem.W.Frag) : Sp := fun vs H Q _ => ∃ (p : Addr) (t n : Str), vs = [.ref p, .str t, .str n] ∧ GrAt K H p ∧ Tabs K H ∧ t ∈ thU ∧ n ∈ nmU ∧ ∀ l H', Sm H H' → PLs H' l 400 → Q (.ref l) H'
abbrev N_Graph_depends_on : List Str := ["self", "target", "name", "found", "pairs", "part", "pair"]
theorem ok_Graph_depends_on (W : Wd K mg base) : FnOk P w K mg base CX0 4 (A_Graph_depends_on K) (F_Graph_depends_on K) ["self", "target", "name"] (sp_Graph_depends_on K) := by
  refine W.fu_Graph_depends_on.ok sc_Graph_depends_on (fun vs H Q E h => by obtain ⟨_, _, _, rfl, _⟩ := h; rfl) fun cdv A outer s H vs Q E hr h => ?_
  obtain ⟨p, t, n, rfl, hG, hT, ht, hn, hQ⟩ := h
  refine ⟨_, PSs.nox (pss_cons (ps_set (i := 3) sc_Graph_depends_on.nd rfl (by first | exact Or.inl rfl | exact Or.inr rfl) (pe_call (ok_definition W) (hr.mono (by decide)) rfl W.gl_definition (W.fu_definition).kp W.bd_definition .nil pass0 (pa_cons (pe_fld (pv 0) rfl) (pa_cons (pe_call (ok_type_of W) (hr.mono (by decide)) rfl W.gl_type_of (W.fu_type_of).kp W.bd_type_of .nil pass0 (pa_cons (pv 1) pa_nil)) (pa_cons (pv 2) pa_nil)))))
      (pss_cons (ps_if (pt_cmpR op_isN (pv 3) pe_non (nomark _)) (pss_one (ps_ret (pe_lst pa_nil))) pss_nil)
      (pss_cons (ps_if (pt_cmpR op_eq (pe_ix ix_tup (pv 3) pe_int (fun _ _ => rfl)) pe_str (nomark _)) (pss_one (ps_ret (pe_lc (own := [("pair", 6)]) rfl sc_Graph_depends_on.nd (pi_list (pe_meth (pv 0) W.cl_Graph W.mt_Graph_subjects_of (ok_Graph_subjects_of W) (hr.mono (by decide)) W.bd_Graph_subjects_of .nil pass0 (pa_cons (pv 1) (pa_cons (pv 2) pa_nil)))) (blkOk_by (own := [("pair", 6)]) (N := N_Graph_depends_on) (sc := defScope s_Graph_depends_on) (by decide +kernel)) (fun _ _ _ _ _ => (pg_name (i := 6) sc_Graph_depends_on.nd rfl (by first | exact Or.inl rfl | exact Or.inr rfl))) (fun _ _ _ _ _ => (pts_one (pt_cmpR op_ne (pe_ix (ix_tupK (K := K) rfl) (pv 6) pe_int (fun _ _ => rfl)) pe_str (nomark _)))) (fun _ _ _ _ _ => (pv 6))))) pss_nil)
      (pss_cons (ps_set (i := 4) sc_Graph_depends_on.nd rfl (by first | exact Or.inl rfl | exact Or.inr rfl) (pe_lst pa_nil))
      (pss_cons (ps_for PassesOwn.never rfl (pi_tup (pe_ix ix_tup (pv 3) pe_int (fun _ _ => rfl))) (pg_name (i := 5) sc_Graph_depends_on.nd rfl (by first | exact Or.inl rfl | exact Or.inr rfl)) (pss_one (ps_expr (pe_bm PySem.F.plainAttrs_list PySem.F.slot_list_extend PySem.F.type_list_extend mt_extend (pv 4) (pa_cons (pe_meth (pv 0) W.cl_Graph W.mt_Graph_pairs_of (ok_Graph_pairs_of W) (hr.mono (by decide)) W.bd_Graph_pairs_of .nil pass0 (pa_cons (pv 1) (pa_cons (pv 5) pa_nil))) pa_nil)))))
      (pss_one (ps_ret (pv 4)))))))), ?_⟩
  have sz : sizeLine = 16777216 := sizeLine_eq
  obtain ⟨dx, st, sd, ob, pe, v, f, kvs, obs, pes, hp, hd, _⟩ := hG.ex
  have ht1 := thU_len t ht
  refine ⟨_, rfl, p, cG K, dx, _, _, rfl, hp, W.cl_Graph, W.na_Graph_schema, rfl, _, rfl, t, rfl, by omega, hT, fun H1 a1 => ⟨_, rfl, v, lawSch, typeOf t, n, rfl, dp_sx a1 _ _ (schD_noL _) hd, fun hno => ?_, fun e u H2 he a2 hu => ?_⟩⟩
  · exact ⟨_, rfl, rfl, _, rfl, iteT ⟨Nat.zero_le _, fun l hl => hQ l _ (a1.trans (Sx.new hl)) ⟨[], [], upd_same, .nil, fun k h => absurd h List.not_mem_nil, Nat.zero_le _⟩⟩⟩
  · obtain ⟨hl3, hit⟩ := law_ent he
    have a12 := a1.trans a2
    obtain ⟨c, c2, xs, rfl, hc1, hc2, hc3⟩ : ∃ c c2 xs, u = .ref c ∧ SqT K H2 c [.str e.2.1, .ref c2] ∧ SqT K H2 c2 xs ∧ DpAll K H2 xs (e.2.2.map tD) := by
      cases hu with
      | tup hs ha => cases ha with
        | cons d1 d2 => cases d2 with
          | cons d2 d3 =>
            cases d3
            cases d1
            cases d2 with
            | tup q1 q2 => exact ⟨_, _, _, rfl, hs, q1, q2⟩
    refine ⟨_, rfl, rfl, _, rfl, iteF ⟨_, rfl, c, _, 0, _, rfl, rfl, hc1, atI_nat (j := 0) rfl, rfl, _, rfl, ?_⟩⟩
    by_cases hrel : e.2.1 = "relation"
    · refine itT (by simp [hrel]) ⟨_, rfl, p, dx, _, rfl, a12.atS hp, rfl, _, rfl, _, rfl, H, p, t, n, rfl, hG, a12, fun ls G1 a3 ⟨ys, ps, gl, hys, hps, lps⟩ _ => ⟨ls, rfl, ⟨_, .of gl⟩, fun D hD => ?_⟩⟩
      have ly : ys.length = ps.length := Paired.length hys
      refine flLm (p := nmP) (.of gl) hys hD (by omega) (fun _ => rfl) (fun _ => rfl) (fun k hk b zs R hb hR => ?_) fun zs hzs => ?_
      · obtain ⟨t', n', rfl, _, _⟩ := hps k hk
        exact ⟨_, rfl, b, _, 1, _, rfl, rfl, .of hb, atI_nat (j := 1) rfl, rfl, _, rfl, by simpa [nmP] using hR⟩
      · have a4 : Sm G1 (upd G1 D (.lst zs)) := Sx.new hD
        refine hQ D _ (a12.trans (a3.trans a4)) ⟨zs, ps.filter nmP, upd_same, Paired.mapP hzs fun _ _ => Tu.sx a4, fun k hk => hps k (List.mem_filter.mp hk).1, Nat.le_trans (List.length_filter_le _ _) (by omega)⟩
    · refine itF (by simp [hrel]) ⟨Nat.zero_le _, fun D hD => ?_⟩
      have aD : Sm H2 (upd H2 D (.lst [])) := Sx.new hD
      have gD : upd H2 D (.lst []) D = some (.lst []) := upd_same
      generalize upd H2 D (.lst []) = G0 at aD gD ⊢
      have lxs : xs.length = e.2.2.length := by rw [dps_len hc3, List.length_map]
      refine ⟨_, rfl, c, _, 1, _, rfl, rfl, aD.sqT hc1, atI_nat (j := 1) rfl, c2, rfl, ⟨_, aD.sqT hc2⟩, for_it (walk_tup (K := K) (a := c2) (xs := xs)) (fun i τ G => ∃ o5 zs qs, τ = [some (.ref p), some (.str t), some (.str n), some (.ref c), some (.ref D), o5, none] ∧ Sx (fun c => c = D) G0 G ∧ G D = some (.lst zs) ∧ Tus G zs qs ∧ (∀ k ∈ qs, PairP k) ∧ qs.length ≤ 100 * i) ⟨_, [], [], rfl, Sx.refl _, gD, .nil, fun k h => absurd h List.not_mem_nil, Nat.zero_le _⟩
        (fun i τ G _ ⟨_, _, _, _, b, _⟩ => b.sqT (aD.sqT hc2)) (fun i x τ G0' G hi ⟨o5, zs, qs, eτ, bb, gDG, hzs, hqs, lqs⟩ ⟨eG, hx⟩ => ?_) fun τ G ⟨o5, zs, qs, eτ, bb, gDG, hzs, hqs, lqs⟩ => ?_⟩
      · subst eτ eG
        have a3 : Sm H2 G := aD.after bb fun c o e m => by rw [m, hD] at e; cases e
        have a0 := a12.trans a3
        obtain ⟨k, b', ys, hkk, rfl, hs', rfl⟩ := item_of (dps_sx a3 _ _ (noLs_map tD _ fun k _ => tD_noL k) hc3) hx
        obtain ⟨o, r, n', rfl, _, hn'⟩ := hit hrel k (List.mem_of_getElem? hkk)
        have lzq : zs.length = qs.length := Paired.length hzs
        refine ⟨_, rfl, .inl ⟨rfl, _, .of gDG⟩, _, rfl, p, dx, _, rfl, a0.atS hp, rfl, _, rfl, _, rfl, p, b', t, o, r, n', rfl, hG.sx a0, hT.sx a0, hs', ht, hn', fun l G1 a4 ⟨ws, ps, gl, hws, hps, lps⟩ => ?_⟩
        have gD1 := a4.atS gDG
        have lw : ws.length = ps.length := Paired.length hws
        have a5 : Sx (fun c => c = D) G1 (upd G1 D (.lst (zs ++ ws))) := Sx.put gD1 rfl
        refine ⟨D, l, zs, ws, rfl, rfl, gD1, gl, by omega, _, zs ++ ws, qs ++ ps, rfl, (bb.trans (Sx.of a4)).trans a5, upd_same, pr_app (Paired.mapP hzs fun _ _ q => (Tu.sx a4 q).sx a5) (Paired.mapP hws fun _ _ => Tu.sx a5), fun k hk => ?_, by rw [List.length_append]; omega⟩
        rcases List.mem_append.mp hk with z | z
        · exact hqs k z
        · exact hps k z
      · subst eτ
        refine ⟨_, rfl, hQ D G (a12.trans (aD.after bb fun c o e m => by rw [m, hD] at e; cases e)) ⟨zs, qs, gDG, hzs, hqs, by omega⟩⟩
end
end K83
namespace K83
open PySem PySem.Spec PyProof.Rows L2 L2.DX GxR
/-- None or an int -/
def OI (x : V) : Prop := x = .non ∨ ∃ i : Int, x = .int i
def RkA (H : Hp) (rk : Addr) : Prop := ∃ kvs : List (List Key × V), H rk = some (.dT kvs) ∧ (∀ kv ∈ kvs, ∃ i : Int, kv.2 = .int i) ∧ (∀ kv ∈ kvs, ∃ k, kv.1 = k.map Sum.inr ∧ PairP k)
theorem RkA.sx {H H1 : Hp} {rk : Addr} (a : Sm H H1) (h : RkA H rk) : RkA H1 rk := let ⟨kvs, h1, h2⟩ := h; ⟨kvs, a.atS h1, h2⟩
section
variable {P : Program} {w : World} {K : PySem.W.Frag} {mg : Str → Option Value} {base : Heap}
def sp_count_of (K : PySem.W.Frag) : Sp := fun vs H Q _ => ∃ (p rk : Addr) (t n : Str) (x : V) (k : List Str), vs = [.ref p, .str t, .str n, x, .ref rk] ∧ GrAt K H p ∧ Tabs K H ∧ t ∈ thU ∧ Tu H x k ∧ PairP k ∧ RkA H rk ∧ ∀ o H', OI o → Sm H H' → Q o H'
abbrev N_count_of : List Str := ["graph", "target", "name", "pair", "ranks", "rank"]
theorem ok_count_of (W : Wd K mg base) : FnOk P w K mg base CX0 3 (A_count_of K) (F_count_of K) ["graph", "target", "name", "pair", "ranks"] (sp_count_of K) := by
  refine W.fu_count_of.ok sc_count_of (fun vs H Q E h => by obtain ⟨_, _, _, _, _, _, rfl, _⟩ := h; rfl) fun cdv A outer s H vs Q E hr h => ?_
  obtain ⟨p, rk, t, n, x, k, rfl, hG, hT, ht, ⟨b, rfl, hb⟩, ⟨t', n', rfl, ht', hn'⟩, ⟨kvs, hk, hi, _⟩, hQ⟩ := h
  refine ⟨_, PSs.nox (pss_cons (ps_set (i := 5) sc_count_of.nd rfl (by first | exact Or.inl rfl | exact Or.inr rfl) (pe_dget2 (hu_of hr) (pv 4) (pv 3) pe_int ⟨by rfl, by rfl, by rfl, by rfl⟩))
      (pss_cons (ps_if (pt_cmpR op_eq (pv 5) pe_int (nomark _)) (pss_one (ps_ret pe_non)) pss_nil)
      (pss_one (ps_ret (pe_ifExp (pt_cmpR op_eq (pe_meth (pv 0) W.cl_Graph W.mt_Graph_stratum_of (ok_Graph_stratum_of W) (hr.mono (by decide)) W.bd_Graph_stratum_of .nil pass0 (pa_cons (pe_ix ix_tup (pv 3) pe_int (fun _ _ => rfl)) (pa_cons (pe_ix ix_tup (pv 3) pe_int (fun _ _ => rfl)) pa_nil))) (pe_meth (pv 0) W.cl_Graph W.mt_Graph_stratum_of (ok_Graph_stratum_of W) (hr.mono (by decide)) W.bd_Graph_stratum_of .nil pass0 (pa_cons (pv 1) (pa_cons (pv 2) pa_nil))) (nomark _)) (pv 5) pe_int))))), ?_⟩
  obtain ⟨dx, st, sd, ob, pe, v, f, kvs', obs, pes, hp, _⟩ := hG.ex
  have hb2 : H b = some (.tup ((([t', n'] : List Str).map Sum.inr).map kV)) := hb
  refine ⟨_, rfl, rk, rfl, .inr ⟨_, .inl hk⟩, _, rfl, valV kvs (([t', n'] : List Str).map Sum.inr), .inr ⟨kvs, _, b, .inl hk, rfl, hb2, rfl⟩, ?_⟩
  obtain ⟨i, ei⟩ : ∃ i : Int, (valV kvs (([t', n'] : List Str).map Sum.inr)).getD (.int 0) = .int i := by
    cases hv : valV kvs (([t', n'] : List Str).map Sum.inr) with
    | none => exact ⟨0, rfl⟩
    | some x =>
      obtain ⟨kv, hkv, e⟩ := valV_some hv
      obtain ⟨i, e2⟩ := hi kv hkv
      exact ⟨i, by rw [← e2, e]; rfl⟩
  rw [ei]
  refine ⟨_, rfl, rfl, _, rfl, ?_⟩
  by_cases hi0 : i = 0
  · exact itT (by simp [hi0]) (hQ _ H (.inl rfl) (Sx.refl _))
  · refine itF (by simp [hi0]) ⟨_, rfl, p, dx, _, rfl, hp, rfl, _, rfl, b, _, 0, _, rfl, rfl, .of hb, atI_nat (j := 0) rfl, _, rfl, b, _, 1, _, rfl, rfl, .of hb, atI_nat (j := 1) rfl, p, t', n', rfl, hG, hT, thU_len t' ht', fun i1 H1 a1 => ⟨_, rfl, p, dx, _, rfl, a1.atS hp, rfl, _, rfl, _, rfl, p, t, n, rfl, hG.sx a1, hT.sx a1, thU_len t ht, fun i2 H2 a2 => ⟨rfl, _, rfl, ?_⟩⟩⟩
    by_cases e : i1 = i2
    · exact itT (by simp [e]) ⟨_, rfl, hQ _ H2 (.inr ⟨i, rfl⟩) (a1.trans a2)⟩
    · exact itF (by simp [e]) (hQ _ H2 (.inr ⟨0, rfl⟩) (a1.trans a2))
def toI (x : V) : Option Int := match x with
  | .int i => some i
  | _ => none
def sp_least (K : PySem.W.Frag) : Sp := fun vs H Q _ => ∃ (l : Addr) (xs : List V), vs = [.ref l] ∧ H l = some (.lst xs) ∧ (∀ x ∈ xs, OI x) ∧ xs.length ≤ 10000 ∧ ∀ o H', OI o → Sm H H' → Q o H'
abbrev N_least : List Str := ["counts", "count"]
theorem ok_least (W : Wd K mg base) : FnOk P w K mg base CX0 1 (A_least K) (F_least K) ["counts"] (sp_least K) := by
  refine W.fu_least.ok sc_least (fun vs H Q E h => by obtain ⟨_, _, rfl, _⟩ := h; rfl) fun cdv A outer s H vs Q E hr h => ?_
  obtain ⟨l, xs, rfl, hl, hxs, hlen, hQ⟩ := h
  refine ⟨_, PSs.nox (pss_one (ps_ret (pe_callBK (cr_minD rfl hr.units) (by rfl) W.fr_min (by decide +kernel) (pa_cons (pe_lc (own := [("count", 1)]) rfl sc_least.nd (pi_list (pv 0)) (blkOk_by (own := [("count", 1)]) (N := N_least) (sc := defScope s_least) (by decide +kernel)) (fun _ _ _ _ _ => (pg_name (i := 1) sc_least.nd rfl (by first | exact Or.inl rfl | exact Or.inr rfl))) (fun _ _ _ _ _ => (pts_one (pt_cmpR op_notN (pv 1) pe_non (nomark _)))) (fun _ _ _ _ _ => (pv 1))) pa_nil) (pk_cons pe_non pk_nil)))), ?_⟩
  have sz : sizeLine = 16777216 := sizeLine_eq
  refine ⟨_, rfl, l, rfl, ⟨_, .of hl⟩, fun D hD => ?_⟩
  refine lc_it (walk_list (K := K) (a := l) (xs := xs)) (fun i G => G = upd H D (.lst (((xs.take i).filterMap toI).map V.int))) rfl (fun i G _ e => by rw [e]; exact .of ((Sx.new (M := Nob) hD).atS hl)) (fun i x G0 G hi e ⟨eG, hx⟩ => ?_) fun G e => ?_
  · subst eG
    have lt : ((xs.take i).filterMap toI).length < sizeLine := by
      have h1 := List.length_filterMap_le toI (xs.take i)
      have h2 : (xs.take i).length = min i xs.length := List.length_take
      omega
    rcases hxs x (List.mem_of_getElem? hx) with rfl | ⟨j, rfl⟩
    · refine ⟨rfl, _, rfl, rfl, _, rfl, ?_⟩
      refine itF rfl ?_
      rw [e, take_snoc hx, List.filterMap_append, show [V.non].filterMap toI = [] from rfl, List.append_nil]
    · refine ⟨rfl, _, rfl, rfl, _, rfl, ?_⟩
      refine itT rfl ⟨_, rfl, _, by rw [e, upd_same], by rw [List.length_map]; exact lt, ?_⟩
      rw [e, upd_upd, take_snoc hx, List.filterMap_append, List.map_append]
      rfl
  · refine ⟨D, _, .non, rfl, rfl, by rw [e]; exact .of upd_same, hQ _ G ?_ (by rw [e]; exact Sx.new hD)⟩
    cases (xs.take xs.length).filterMap toI with
    | nil => exact .inl rfl
    | cons y ys => exact .inr ⟨_, rfl⟩
def sp_both (K : PySem.W.Frag) : Sp := fun vs H Q _ => ∃ (op : Str) (a b : V), vs = [.str op, a, b] ∧ OI a ∧ OI b ∧ ∀ o H', OI o → Sm H H' → Q o H'
abbrev N_both : List Str := ["operator", "one", "other"]
theorem ok_both (W : Wd K mg base) : FnOk P w K mg base CX0 2 (A_both K) (F_both K) ["operator", "one", "other"] (sp_both K) := by
  refine W.fu_both.ok sc_both (fun vs H Q E h => by obtain ⟨_, _, _, rfl, _⟩ := h; rfl) fun cdv A outer s H vs Q E hr h => ?_
  obtain ⟨op, a, b, rfl, ha, hb, hQ⟩ := h
  refine ⟨_, PSs.nox (pss_cons (ps_if (pt_cmpR op_eq (pv 0) pe_str (nomark _)) (pss_one (ps_ret (pe_call (ok_least W) (hr.mono (by decide)) rfl W.gl_least (W.fu_least).kp W.bd_least .nil pass0 (pa_cons (pe_lst (pa_cons (pv 1) (pa_cons (pv 2) pa_nil))) pa_nil)))) pss_nil)
      (pss_cons (ps_if (pt_cmpR op_eq (pv 0) pe_str (nomark _)) (pss_one (ps_ret (pe_ifExp (pt_cmpR op_isN (pv 2) pe_non (nomark _)) (pv 1) pe_non))) pss_nil)
      (pss_one (ps_ret (pe_ifExp (PW.pt (pw_or (pt_cmpR op_isN (pv 1) pe_non (nomark _)) (pw_or1 (pt_cmpR op_isN (pv 2) pe_non (nomark _))))) pe_non (pe_callB (call_max2 rfl) (by rfl) W.fr_max (by decide +kernel) (pa_cons (pv 1) (pa_cons (pv 2) pa_nil)))))))), ?_⟩
  refine ⟨_, rfl, rfl, _, rfl, ?_⟩
  have sz : sizeLine = 16777216 := sizeLine_eq
  by_cases h1 : op = "|"
  · refine itT (by simp [h1]) ⟨_, rfl, _, rfl, by show 2 ≤ sizeLine; omega, fun l hl => ⟨l, _, rfl, upd_same, fun x hx => ?_, by show 2 ≤ 10000; omega, fun o H' ho aa => hQ o H' ho ((Sx.new hl).trans aa)⟩⟩
    simp at hx
    rcases hx with rfl | rfl
    · exact ha
    · exact hb
  · refine itF (by simp [h1]) ⟨_, rfl, rfl, _, rfl, ?_⟩
    by_cases h2 : op = "-"
    · refine itT (by simp [h2]) ⟨_, rfl, rfl, _, rfl, ?_⟩
      rcases hb with rfl | ⟨j, rfl⟩
      · exact itT rfl ⟨_, rfl, hQ _ H ha (Sx.refl _)⟩
      · exact itF rfl (hQ _ H (.inl rfl) (Sx.refl _))
    · refine itF (by simp [h2]) ⟨_, rfl, rfl, _, rfl, ?_⟩
      rcases ha with rfl | ⟨i, rfl⟩
      · exact itT rfl (itT rfl (hQ _ H (.inl rfl) (Sx.refl _)))
      · refine itF rfl ⟨_, rfl, rfl, _, rfl, ?_⟩
        rcases hb with rfl | ⟨j, rfl⟩
        · exact itT rfl (hQ _ H (.inl rfl) (Sx.refl _))
        · exact itF rfl ⟨_, rfl, _, rfl, i, j, rfl, hQ _ H (.inr ⟨_, rfl⟩) (Sx.refl _)⟩
end
end K83
namespace K83
open PySem PySem.Spec PyProof.Rows L2 L2.DX GxR
section
variable {P : Program} {w : World} {K : PySem.W.Frag} {mg : Str → Option Value} {base : Heap}
/-- the counts of a list of pairs -/
theorem cnt_lc {σ : L2.St} {vs : List Nat} {p rk ls D : Addr} {t n : Str} {G1 : Hp} {N : Nat} {Q : Hp → Prop} (s0 : ∀ v : V, ((wipe σ vs).set 10 (some v))[0]? = some (some (.ref p))) (s1 : ∀ v : V, ((wipe σ vs).set 10 (some v))[1]? = some (some (.str t))) (s2 : ∀ v : V, ((wipe σ vs).set 10 (some v))[2]? = some (some (.str n)))
    (s10 : ∀ v : V, ((wipe σ vs).set 10 (some v))[10]? = some (some v)) (s4 : ∀ v : V, ((wipe σ vs).set 10 (some v))[4]? = some (some (.ref rk))) (hw : ∀ v : V, wipe ((wipe σ vs).set 10 (some v)) vs = wipe σ vs)
    (hG : GrAt K G1 p) (hT : Tabs K G1) (ht : t ∈ thU) (hR : RkA G1 rk) (hl : PLs G1 ls N) (hN : N ≤ 10000) (hD : G1 D = none) (q : ∀ xs G, Sm G1 G → G D = some (.lst xs) → (∀ x ∈ xs, OI x) → xs.length ≤ N → Q G) :
    ∃ W : Nat → Nat → Hp → Prop, (∃ m, W 0 m (upd G1 D (.lst []))) ∧ ∀ i m G, W i m G → ((Itl K ls).stop i G ∧ Q G) ∨ ((Itl K ls).go i G ∧ ∃ Nx : Hp → Prop, (∀ G', Nx G' → ∃ n, n < m ∧ W (i + 1) n G') ∧ ∀ x G', (Itl K ls).yld i G x G' → gName 10 x (wipe σ vs) G' fun τ G2 => wipe τ vs = wipe σ vs ∧ tYes τ G2 fun b G3 =>
      if b = true then tCall (sp_count_of K) [] E0 (tCons (tVar 0) (tCons (tVar 1) (tCons (tVar 2) (tCons (tVar 10) (tCons (tVar 4) tNil))))) τ G3 fun y G4 => ∃ acc, G4 D = some (.lst acc) ∧ acc.length < sizeLine ∧ Nx (upd G4 D (.lst (acc ++ [y]))) else Nx G3) := by
  have sz : sizeLine = 16777216 := sizeLine_eq
  obtain ⟨ys, ps, gl, hys, hps, lps⟩ := hl
  have ly : ys.length = ps.length := Paired.length hys
  have aD : Sm G1 (upd G1 D (.lst [])) := Sx.new hD
  refine lc_it (walk_list (K := K) (a := ls) (xs := ys)) (fun i G => ∃ zs, Sx (fun c => c = D) (upd G1 D (.lst [])) G ∧ G D = some (.lst zs) ∧ (∀ x ∈ zs, OI x) ∧ zs.length = i) ⟨[], Sx.refl _, upd_same, fun x h => absurd h List.not_mem_nil, rfl⟩ (fun i G _ ⟨_, b, _⟩ => .of ((aD.aft hD b).atS gl)) (fun i x G0 G hi ⟨zs, b, gD, hzs, lz⟩ ⟨eG, hx⟩ => ?_) fun G ⟨zs, b, gD, hzs, lz⟩ => ?_
  · subst eG
    have a := aD.aft hD b
    obtain ⟨k, hk, hu⟩ := pr_get hys hx
    refine ⟨hw _, tYes_i ?_⟩
    refine iteT ⟨_, s0 _, _, s1 _, _, s2 _, _, s10 _, _, s4 _, p, rk, t, n, x, k, rfl, hG.sx a, hT.sx a, ht, Tu.sx a hu, hps k (List.mem_of_getElem? hk), hR.sx a, fun o G2 ho a2 => ⟨zs, a2.atS gD, by omega, zs ++ [o], (b.trans (Sx.of a2)).trans (Sx.put (a2.atS gD) rfl), upd_same, fun x hx => ?_, by rw [List.length_append, lz]; rfl⟩⟩
    rcases List.mem_append.mp hx with z | z
    · exact hzs x z
    · simp at z
      rw [z]
      exact ho
  · exact q zs G (aD.aft hD b) gD hzs (by omega)
def sp_rule_count (K : PySem.W.Frag) : Sp := fun vs H Q _ => ∃ (p rk : Addr) (t n s : Str), vs = [.ref p, .str t, .str n, .str s, .ref rk] ∧ GrAt K H p ∧ Tabs K H ∧ t ∈ thU ∧ n ∈ nmU ∧ RkA H rk ∧ ∀ o H', OI o → Sm H H' → Q o H'
abbrev N_rule_count : List Str := ["graph", "target", "name", "subject", "ranks", "found", "counts", "total", "part", "count", "pair"]
theorem ok_rule_count (W : Wd K mg base) : FnOk P w K mg base CX0 5 (A_rule_count K) (F_rule_count K) ["graph", "target", "name", "subject", "ranks"] (sp_rule_count K) := by
  refine W.fu_rule_count.ok sc_rule_count (fun vs H Q E h => by obtain ⟨_, _, _, _, _, rfl, _⟩ := h; rfl) fun cdv A outer s H vs Q E hr h => ?_
  obtain ⟨p, rk, t, n, su, rfl, hG, hT, ht, hn, hR, hQ⟩ := h
  refine ⟨_, PSs.nox (pss_cons (ps_set (i := 5) sc_rule_count.nd rfl (by first | exact Or.inl rfl | exact Or.inr rfl) (pe_call (ok_definition W) (hr.mono (by decide)) rfl W.gl_definition (W.fu_definition).kp W.bd_definition .nil pass0 (pa_cons (pe_fld (pv 0) rfl) (pa_cons (pe_call (ok_type_of W) (hr.mono (by decide)) rfl W.gl_type_of (W.fu_type_of).kp W.bd_type_of .nil pass0 (pa_cons (pv 1) pa_nil)) (pa_cons (pv 2) pa_nil)))))
      (pss_cons (ps_if (pt_cmpR op_isN (pv 5) pe_non (nomark _)) (pss_one (ps_ret pe_non)) pss_nil)
      (pss_cons (ps_if (pt_cmpR op_eq (pe_ix ix_tup (pv 5) pe_int (fun _ _ => rfl)) pe_str (nomark _)) (pss_cons (ps_setLc (i := 6) (own := [("pair", 10)]) rfl sc_rule_count.nd rfl rfl (sw_true rfl rfl rfl (by decide +kernel)) (pi_list (pe_meth (pv 0) W.cl_Graph W.mt_Graph_subjects_of (ok_Graph_subjects_of W) (hr.mono (by decide)) W.bd_Graph_subjects_of .nil pass0 (pa_cons (pv 1) (pa_cons (pv 2) pa_nil)))) (blkOk_by (own := [("pair", 10)]) (N := N_rule_count) (sc := defScope s_rule_count) (by decide +kernel)) (fun _ _ _ _ _ => (pg_name (i := 10) sc_rule_count.nd rfl (by first | exact Or.inl rfl | exact Or.inr rfl))) (fun _ _ _ _ _ => (pts_one (pt_cmpR (op_eqU hr.units) (pv 10) (pe_tup (pa_cons (pv 3) (pa_cons pe_str pa_nil))) (by rfl)))) (fun _ _ _ _ _ => pe_int))
      (pss_cons (ps_expr (pe_bm PySem.F.plainAttrs_list PySem.F.slot_list_extend PySem.F.type_list_extend mt_extend (pv 6) (pa_cons (pe_lc (own := [("pair", 10)]) rfl sc_rule_count.nd (pi_list (pe_meth (pv 0) W.cl_Graph W.mt_Graph_depends_on (ok_Graph_depends_on W) (hr.mono (by decide)) W.bd_Graph_depends_on .nil pass0 (pa_cons (pv 1) (pa_cons (pv 2) pa_nil)))) (blkOk_by (own := [("pair", 10)]) (N := N_rule_count) (sc := defScope s_rule_count) (by decide +kernel)) (fun _ _ _ _ _ => (pg_name (i := 10) sc_rule_count.nd rfl (by first | exact Or.inl rfl | exact Or.inr rfl))) (fun _ _ _ _ _ => pts_nil) (fun _ _ _ _ _ => (pe_call (ok_count_of W) (hr.mono (by decide)) rfl W.gl_count_of (W.fu_count_of).kp W.bd_count_of .nil pass0 (pa_cons (pv 0) (pa_cons (pv 1) (pa_cons (pv 2) (pa_cons (pv 10) (pa_cons (pv 4) pa_nil)))))))) pa_nil)))
      (pss_one (ps_ret (pe_call (ok_least W) (hr.mono (by decide)) rfl W.gl_least (W.fu_least).kp W.bd_least .nil pass0 (pa_cons (pv 6) pa_nil)))))) pss_nil)
      (pss_cons (ps_set (i := 7) sc_rule_count.nd rfl (by first | exact Or.inl rfl | exact Or.inr rfl) pe_non)
      (pss_cons (ps_for PassesOwn.never rfl (pi_tup (pe_ix ix_tup (pv 5) pe_int (fun _ _ => rfl))) (pg_name (i := 8) sc_rule_count.nd rfl (by first | exact Or.inl rfl | exact Or.inr rfl)) (pss_cons (ps_set (i := 9) sc_rule_count.nd rfl (by first | exact Or.inl rfl | exact Or.inr rfl) (pe_call (ok_least W) (hr.mono (by decide)) rfl W.gl_least (W.fu_least).kp W.bd_least .nil pass0 (pa_cons (pe_lc (own := [("pair", 10)]) rfl sc_rule_count.nd (pi_list (pe_meth (pv 0) W.cl_Graph W.mt_Graph_pairs_of (ok_Graph_pairs_of W) (hr.mono (by decide)) W.bd_Graph_pairs_of .nil pass0 (pa_cons (pv 1) (pa_cons (pv 8) pa_nil)))) (blkOk_by (own := [("pair", 10)]) (N := N_rule_count) (sc := defScope s_rule_count) (by decide +kernel)) (fun _ _ _ _ _ => (pg_name (i := 10) sc_rule_count.nd rfl (by first | exact Or.inl rfl | exact Or.inr rfl))) (fun _ _ _ _ _ => pts_nil) (fun _ _ _ _ _ => (pe_call (ok_count_of W) (hr.mono (by decide)) rfl W.gl_count_of (W.fu_count_of).kp W.bd_count_of .nil pass0 (pa_cons (pv 0) (pa_cons (pv 1) (pa_cons (pv 2) (pa_cons (pv 10) (pa_cons (pv 4) pa_nil)))))))) pa_nil)))
      (pss_one (ps_set (i := 7) sc_rule_count.nd rfl (by first | exact Or.inl rfl | exact Or.inr rfl) (pe_ifExp (pt_cmpR op_eq (pe_ix ix_tup (pv 8) pe_int (fun _ _ => rfl)) pe_str (nomark _)) (pv 9) (pe_call (ok_both W) (hr.mono (by decide)) rfl W.gl_both (W.fu_both).kp W.bd_both .nil pass0 (pa_cons (pe_ix ix_tup (pv 8) pe_int (fun _ _ => rfl)) (pa_cons (pv 7) (pa_cons (pv 9) pa_nil)))))))))
      (pss_one (ps_ret (pv 7)))))))), ?_⟩
  have sz : sizeLine = 16777216 := sizeLine_eq
  obtain ⟨dx, st, sd, ob, pe, v, f, kvs, obs, pes, hp, hd, _⟩ := hG.ex
  have ht1 := thU_len t ht
  refine ⟨_, rfl, p, cG K, dx, _, _, rfl, hp, W.cl_Graph, W.na_Graph_schema, rfl, _, rfl, t, rfl, by omega, hT, fun H1 a1 => ⟨_, rfl, v, lawSch, typeOf t, n, rfl, dp_sx a1 _ _ (schD_noL _) hd, fun hno => ?_, fun e u H2 he a2 hu => ?_⟩⟩
  · exact ⟨_, rfl, rfl, _, rfl, iteT (hQ _ H1 (.inl rfl) a1)⟩
  · obtain ⟨hl3, hit⟩ := law_ent he
    have a12 := a1.trans a2
    obtain ⟨c, c2, xs, rfl, hc1, hc2, hc3⟩ : ∃ c c2 xs, u = .ref c ∧ SqT K H2 c [.str e.2.1, .ref c2] ∧ SqT K H2 c2 xs ∧ DpAll K H2 xs (e.2.2.map tD) := by
      cases hu with
      | tup hs ha => cases ha with
        | cons d1 d2 => cases d2 with
          | cons d2 d3 =>
            cases d3
            cases d1
            cases d2 with
            | tup q1 q2 => exact ⟨_, _, _, rfl, hs, q1, q2⟩
    refine ⟨_, rfl, rfl, _, rfl, iteF ⟨_, rfl, c, _, 0, _, rfl, rfl, hc1, atI_nat (j := 0) rfl, rfl, _, rfl, ?_⟩⟩
    by_cases hrel : e.2.1 = "relation"
    · refine itT (by simp [hrel]) ⟨_, rfl, p, dx, _, rfl, a12.atS hp, rfl, _, rfl, _, rfl, H, p, t, n, rfl, hG, a12, fun ls G1 a3 ⟨ys, ps, gl, hys, hps, lps⟩ _ => ⟨ls, rfl, ⟨_, .of gl⟩, fun D hD => ?_⟩⟩
      have ly : ys.length = ps.length := Paired.length hys
      have aD : Sm G1 (upd G1 D (.lst [])) := Sx.new hD
      refine lc_it (walk_list (K := K) (a := ls) (xs := ys)) (fun i G => ∃ zs, Sx (fun c => c = D) (upd G1 D (.lst [])) G ∧ G D = some (.lst zs) ∧ (∀ x ∈ zs, OI x) ∧ zs.length ≤ i) ⟨[], Sx.refl _, upd_same, fun x h => absurd h List.not_mem_nil, Nat.le_refl _⟩ (fun i G _ ⟨_, b, _⟩ => .of ((aD.aft hD b).atS gl)) (fun i x G0 G hi ⟨zs, b, gD, hzs, lz⟩ ⟨eG, hx⟩ => ?_) fun G ⟨zs, b, gD, hzs, lz⟩ => ?_
      · subst eG
        have a := aD.aft hD b
        obtain ⟨k, hk, hu⟩ := pr_get hys hx
        refine ⟨rfl, _, rfl, _, rfl, by show 2 ≤ sizeLine; omega, fun q hq => ⟨k, [su, ""], Tu.sx (a.trans (Sx.new hq)) hu, ⟨q, rfl, upd_same⟩, _, rfl, ?_⟩⟩
        have b2 : Sx (fun c => c = D) (upd G1 D (.lst [])) (upd G q (.tup [.str su, .str ""])) := b.trans (Sx.new hq)
        have gD2 : upd G q (.tup [.str su, .str ""]) D = some (.lst zs) := (upd_ne (ne_of_none gD hq)).trans gD
        by_cases hk0 : k = [su, ""]
        · refine itT (decide_eq_true hk0) ⟨zs, gD2, by omega, zs ++ [.int 0], b2.trans (Sx.put gD2 rfl), upd_same, fun x hx => ?_, by rw [List.length_append]; show zs.length + 1 ≤ i + 1; omega⟩
          rcases List.mem_append.mp hx with z | z
          · exact hzs x z
          · simp at z
            rw [z]
            exact .inr ⟨0, rfl⟩
        · exact itF (decide_eq_false hk0) ⟨zs, b2, gD2, hzs, by omega⟩
      · have a4 := a12.trans (a3.trans (aD.aft hD b))
        refine ⟨_, rfl, .inl ⟨rfl, _, .of gD⟩, _, rfl, p, dx, _, rfl, a4.atS hp, rfl, _, rfl, _, rfl, p, t, n, rfl, hG.sx a4, hT.sx a4, ht, hn, fun ls2 G2 a5 hls2 => ⟨ls2, rfl, hls2.elim fun ys2 h => h.elim fun ps2 h => ⟨_, .of h.1⟩, fun D2 hD2 => ?_⟩⟩
        have a6 := a4.trans a5
        refine cnt_lc (fun _ => rfl) (fun _ => rfl) (fun _ => rfl) (fun _ => rfl) (fun _ => rfl) (fun _ => rfl) (hG.sx a6) (hT.sx a6) ht (hR.sx a6) hls2 (by omega) hD2 fun ws G3 a7 gD3 hws lws => ?_
        have gDD := a7.atS (a5.atS gD)
        refine ⟨D, D2, zs, ws, rfl, rfl, gDD, gD3, by omega, _, rfl, D, zs ++ ws, rfl, upd_same, fun x hx => ?_, by rw [List.length_append]; omega, fun o H' ho a8 => hQ o H' ho ?_⟩
        · rcases List.mem_append.mp hx with z | z
          · exact hzs x z
          · exact hws x z
        · have d1 : Sx (fun c => c = D) (upd G1 D (.lst [])) (upd G3 D (.lst (zs ++ ws))) := (b.trans (Sx.of (a5.trans a7))).trans (Sx.put gDD rfl)
          exact (a12.trans (a3.trans (aD.aft hD d1))).trans a8
    · refine itF (by simp [hrel]) ⟨_, rfl, c, _, 1, _, rfl, rfl, hc1, atI_nat (j := 1) rfl, c2, rfl, ⟨_, hc2⟩, for_it (walk_tup (K := K) (a := c2) (xs := xs)) (fun i τ G => ∃ tot o8 o9, OI tot ∧ τ = [some (.ref p), some (.str t), some (.str n), some (.str su), some (.ref rk), some (.ref c), none, some tot, o8, o9, none] ∧ Sm H2 G) ⟨.non, _, _, .inl rfl, rfl, Sx.refl _⟩ (fun i τ G _ ⟨_, _, _, _, _, b⟩ => b.sqT hc2) (fun i x τ G0 G hi ⟨tot, o8, o9, htot, eτ, b⟩ ⟨eG, hx⟩ => ?_) fun τ G ⟨tot, o8, o9, htot, eτ, b⟩ => ?_⟩
      · subst eτ eG
        have a := a12.trans b
        obtain ⟨k, b', ys, hkk, rfl, hs', rfl⟩ := item_of (dps_sx b _ _ (noLs_map tD _ fun k _ => tD_noL k) hc3) hx
        obtain ⟨o, r, n', rfl, _, hn'⟩ := hit hrel k (List.mem_of_getElem? hkk)
        refine ⟨_, rfl, p, dx, _, rfl, a.atS hp, rfl, _, rfl, _, rfl, p, b', t, o, r, n', rfl, hG.sx a, hT.sx a, hs', ht, hn', fun ls G1 a3 hls => ⟨ls, rfl, hls.elim fun ys2 h => h.elim fun ps2 h => ⟨_, .of h.1⟩, fun D hD => ?_⟩⟩
        have a4 := a.trans a3
        refine cnt_lc (fun _ => rfl) (fun _ => rfl) (fun _ => rfl) (fun _ => rfl) (fun _ => rfl) (fun _ => rfl) (hG.sx a4) (hT.sx a4) ht (hR.sx a4) hls (by omega) hD fun ws G3 a5 gD3 hws lws => ?_
        refine ⟨D, ws, rfl, gD3, hws, by omega, fun cnt G4 hcnt a6 => ?_⟩
        have b4 := b.trans (a3.trans (a5.trans a6))
        have hs4 := (a3.trans (a5.trans a6)).sqT hs'
        refine ⟨_, rfl, b', _, 0, _, rfl, rfl, hs4, atI_nat (j := 0) rfl, rfl, _, rfl, ?_⟩
        by_cases ho0 : o = ""
        · exact itT (by simp [ho0]) ⟨_, rfl, cnt, _, _, hcnt, rfl, b4⟩
        · exact itF (by simp [ho0]) ⟨_, rfl, b', _, 0, _, rfl, rfl, hs4, atI_nat (j := 0) rfl, _, rfl, _, rfl, o, tot, cnt, rfl, htot, hcnt, fun o2 G5 ho2 a7 => ⟨o2, _, _, ho2, rfl, b4.trans a7⟩⟩
      · subst eτ
        exact ⟨_, rfl, hQ tot G htot (a12.trans b)⟩
end
end K83
namespace K83
open PySem PySem.Spec PyProof.Rows L2 L2.DX GxR
def k2B (k : List Str) : Bool := match k with
  | [a, b] => decide (b ∈ nmU)
  | _ => false
theorem lawKs_2 {k : List Str} (h : k ∈ lawKs) : ∃ a b, k = [a, b] ∧ b ∈ nmU := by
  have q : lawKs.all k2B = true := by decide +kernel
  have q2 := List.all_eq_true.mp q k h
  unfold k2B at q2
  split at q2
  · exact ⟨_, _, rfl, of_decide_eq_true q2⟩
  · cases q2
theorem maxOf_spec : ∀ (ys : List Int) (y : Int), y ≤ PySem.W.maxOf y ys ∧ (∀ z ∈ ys, z ≤ PySem.W.maxOf y ys) ∧ (PySem.W.maxOf y ys = y ∨ PySem.W.maxOf y ys ∈ ys)
  | [], y => ⟨Int.le_refl y, fun z h => absurd h List.not_mem_nil, .inl rfl⟩
  | a :: ys, y => by
    have e : PySem.W.maxOf y (a :: ys) = PySem.W.maxOf (if PySem.W.DatumOrd.lt y a = true then a else y) ys := rfl
    have el : PySem.W.DatumOrd.lt y a = decide (y < a) := rfl
    rw [e, el]
    by_cases h : y < a
    · rw [decide_eq_true h, if_pos rfl]
      obtain ⟨h1, h2, h3⟩ := maxOf_spec ys a
      refine ⟨by omega, fun z hz => ?_, ?_⟩
      · rcases List.mem_cons.mp hz with q | q
        · rw [q]; exact h1
        · exact h2 z q
      · rcases h3 with q | q
        · exact .inr (by rw [q]; exact List.mem_cons_self)
        · exact .inr (List.mem_cons_of_mem _ q)
    · rw [decide_eq_false h, if_neg (by decide)]
      obtain ⟨h1, h2, h3⟩ := maxOf_spec ys y
      refine ⟨h1, fun z hz => ?_, ?_⟩
      · rcases List.mem_cons.mp hz with q | q
        · rw [q]; omega
        · exact h2 z q
      · rcases h3 with q | q
        · exact .inl q
        · exact .inr (List.mem_cons_of_mem _ q)
theorem most_ok {f : List Str → Int} (h : ∀ k ∈ lawKs, 0 ≤ f k ∧ f k ≤ 5) : ∃ m : Nat, mxV (lawKs.map f) (.int (-1)) = .int m ∧ m ≤ 5 ∧ ∀ k ∈ lawKs, f k ≤ m := by
  obtain ⟨y, ys, e⟩ : ∃ y ys, lawKs.map f = y :: ys := ⟨_, _, rfl⟩
  obtain ⟨h1, h2, h3⟩ := maxOf_spec ys y
  have hm : PySem.W.maxOf y ys ∈ lawKs.map f := by
    rw [e]
    rcases h3 with q | q
    · rw [q]; exact List.mem_cons_self
    · exact List.mem_cons_of_mem _ q
  obtain ⟨k, hk, ek⟩ := List.mem_map.mp hm
  have hb := h k hk
  rw [ek] at hb
  refine ⟨(PySem.W.maxOf y ys).toNat, ?_, by omega, fun k' hk' => ?_⟩
  · rw [e]
    show V.int (PySem.W.maxOf y ys) = _
    rw [Int.toNat_of_nonneg hb.1]
  · have : f k' ∈ y :: ys := by rw [← e]; exact List.mem_map.mpr ⟨k', hk', rfl⟩
    rw [Int.toNat_of_nonneg hb.1]
    rcases List.mem_cons.mp this with q | q
    · rw [q]; exact h1
    · exact h2 _ q
section
variable {P : Program} {w : World} {K : PySem.W.Frag} {mg : Str → Option Value} {base : Heap}
theorem pe_fldK {X : Cx} {e : Expr} {f : Str} {pos : Pos} {ta : TE} (K : PySem.W.Frag) (h : X.K = K) (he : PE X e ta) (hb : attributeBase e f X.env (eval e X.env) = eval e X.env) : PE X (.Attribute e f pos) (tFld K ta f) := by subst h; exact pe_fld he hb
def sp_names_by_stratum (K : PySem.W.Frag) : Sp := fun vs H Q _ => ∃ (p : Addr), vs = [.ref p] ∧ GrAt K H p ∧ Tabs K H ∧ ∀ (l : Addr) (ls : List Addr) H', Sm H H' → H l = none → H' l = some (.lst (ls.map V.ref)) → (∀ a ∈ ls, PLs H' a 30) → ls.length ≤ 10 → Q (.ref l) H'
abbrev N_names_by_stratum : List Str := ["graph", "most", "found", "target", "kind", "name", "key", "number"]
theorem ok_names_by_stratum (W : Wd K mg base) : FnOk P w K mg base CX0 2 (A_names_by_stratum K) (F_names_by_stratum K) ["graph"] (sp_names_by_stratum K) := by
  refine W.fu_names_by_stratum.ok sc_names_by_stratum (fun vs H Q E h => by obtain ⟨_, rfl, _⟩ := h; rfl) fun cdv A outer s H vs Q E hr h => ?_
  obtain ⟨p, rfl, hG, hT, hQ⟩ := h
  refine ⟨_, PSs.nox (pss_cons (ps_set (i := 1) sc_names_by_stratum.nd rfl (by first | exact Or.inl rfl | exact Or.inr rfl) (pe_callBK (cr_maxD rfl hr.units) (by rfl) W.fr_max (by decide +kernel) (pa_cons (pe_lock (pe_lc (own := [("key", 6)]) rfl sc_names_by_stratum.nd (pi_keys (pe_fld (pv 0) rfl)) (blkOk_by (own := [("key", 6)]) (N := N_names_by_stratum) (sc := defScope s_names_by_stratum) (by decide +kernel)) (fun _ _ _ _ _ => (pg_name (i := 6) sc_names_by_stratum.nd rfl (by first | exact Or.inl rfl | exact Or.inr rfl))) (fun _ _ _ _ _ => pts_nil) (fun _ _ _ _ _ => (pe_dget (hu_of hr) (pe_fldK K rfl (pv 0) rfl) (pv 6) (fun _ _ => rfl))))) pa_nil) (pk_cons (pe_un un_neg pe_int) pk_nil)))
      (pss_cons (ps_setLc (i := 2) (own := [("number", 7)]) rfl sc_names_by_stratum.nd rfl rfl (sw_true rfl rfl rfl (by decide +kernel)) (pi_range1 rfl W.fr_range (pa_cons (pe_op op_add (pv 1) pe_int) pa_nil)) (blkOk_by (own := [("number", 7)]) (N := N_names_by_stratum) (sc := defScope s_names_by_stratum) (by decide +kernel)) (fun _ _ _ _ _ => (pg_name (i := 7) sc_names_by_stratum.nd rfl (by first | exact Or.inl rfl | exact Or.inr rfl))) (fun _ _ _ _ _ => pts_nil) (fun _ _ _ _ _ => (pe_lst pa_nil)))
      (pss_cons (ps_for PassesOwn.never rfl (pi_list (pe_fld (pv 0) rfl)) (pg_name (i := 3) sc_names_by_stratum.nd rfl (by first | exact Or.inl rfl | exact Or.inr rfl)) (pss_one (ps_lock (ps_for PassesOwn.never rfl (pi_keys (pe_fld (pv 0) rfl)) (pg_tup rfl (pgs_cons (pg_name (i := 4) sc_names_by_stratum.nd rfl (by first | exact Or.inl rfl | exact Or.inr rfl)) (pgs_cons (pg_name (i := 5) sc_names_by_stratum.nd rfl (by first | exact Or.inl rfl | exact Or.inr rfl)) pgs_nil))) (pss_one (ps_if (pt_cmpR op_eq (pv 4) (pe_call (ok_type_of W) (hr.mono (by decide)) rfl W.gl_type_of (W.fu_type_of).kp W.bd_type_of .nil pass0 (pa_cons (pv 3) pa_nil)) (nomark _)) (pss_one (ps_expr (pe_bm PySem.F.plainAttrs_list PySem.F.slot_list_append PySem.F.type_list_append mt_append (pe_ix ix_list (pv 2) (pe_dget (hu_of hr) (pe_fld (pv 0) rfl) (pe_tup (pa_cons (pv 4) (pa_cons (pv 5) pa_nil))) (fun _ _ => rfl)) (fun _ _ => rfl)) (pa_cons (pe_tup (pa_cons (pv 3) (pa_cons (pv 5) pa_nil))) pa_nil)))) pss_nil))))))
      (pss_one (ps_ret (pv 2)))))), ?_⟩
  have sz : sizeLine = 16777216 := sizeLine_eq
  obtain ⟨dx, st, sd, ob, pe, v, f, kvs, obs, pes, hp, hd, hst, hf, hsd, hsub, hob, nob, uob, _⟩ := hG.ex
  obtain ⟨m, hm, hm5, hfm⟩ := most_ok hf
  have nsp : st ≠ p := ne_of hst hp fun z => nomatch z
  refine ⟨st, _, hst, True.intro, fun od => ?_⟩
  have gF : upd H st (.frz od (.dT (iD lawKs f))) st = some (.frz od (.dT (iD lawKs f))) := upd_same
  have hpF : upd H st (.frz od (.dT (iD lawKs f))) p = some (.ins (cG K) dx [("schema", v), ("strata", .ref st), ("subjects", .ref sd), ("objects", .ref ob), ("people", .ref pe)]) := (upd_ne nsp.symm).trans hp
  have unl : ∀ {G : Hp}, Sm (upd H st (.frz od (.dT (iD lawKs f)))) G → Sm H (upd G st (.dT (iD lawKs f))) := fun {G} a => Sx.unlock hst a
  generalize upd H st (.frz od (.dT (iD lawKs f))) = HF at gF hpF unl ⊢
  refine ⟨_, rfl, p, cG K, dx, _, _, rfl, hpF, W.cl_Graph, W.na_Graph_strata, rfl, st, od, rfl, .inr ⟨_, gF, fun D hD => ?_⟩⟩
  have aD : Sm HF (upd HF D (.lst [])) := Sx.new hD
  refine lc_it walk_keysT (fun i G => G = upd HF D (.lst (((lawKs.take i).map f).map V.int))) rfl (fun i G _ e => by rw [e]; exact (Sx.new (M := Nob) hD).frzs _ _ _ gF) (fun i x G0 G hi e ⟨eG, k', vv, q, hkv, ex, hq⟩ => ?_) fun G e => ?_
  · subst eG ex
    have a : Sm HF G := by rw [e]; exact Sx.new hD
    have hi' : i < lawKs.length := by rw [iD_len] at hi; exact hi
    have hk : lawKs[i]? = some lawKs[i] := List.getElem?_eq_getElem hi'
    have hkm : lawKs[i] ∈ lawKs := List.getElem_mem hi'
    have ek : k' = lawKs[i].map Sum.inr := by
      unfold iD at hkv
      rw [List.getElem?_map, hk] at hkv
      exact ((Prod.mk.inj (Option.some.inj hkv)).1).symm
    subst ek
    refine ⟨rfl, tYes_i ?_⟩
    refine iteT ⟨_, rfl, p, cG K, dx, _, _, rfl, a.atS hpF, W.cl_Graph, W.na_Graph_strata, rfl, _, rfl, st, _, rfl, .inr ⟨_, _, q, .inr ⟨od, a.frzs _ _ _ gF⟩, rfl, hq, (valV_iD hkm).symm⟩, _, by rw [e, upd_same], ?_, ?_⟩
    · rw [List.length_map, List.length_map, List.length_take]
      have : lawKs.length = 5 := rfl
      omega
    · rw [e, upd_upd, take_snoc hk, List.map_append, List.map_append]
      rfl
  · have a : Sm HF G := by rw [e]; exact Sx.new hD
    have gD : G D = some (.lst ((lawKs.map f).map V.int)) := by rw [e, upd_same, iD_len, List.take_length]
    refine ⟨a.frzs _ _ _ gF, ?_⟩
    have aH := unl a
    have nDs : D ≠ st := fun z => by rw [z, gF] at hD; cases hD
    have gD2 : upd G st (.dT (iD lawKs f)) D = some (.lst ((lawKs.map f).map V.int)) := (upd_ne nDs).trans gD
    generalize upd G st (.dT (iD lawKs f)) = G1 at aH gD2 ⊢
    refine ⟨1, rfl, D, lawKs.map f, .int (-1), rfl, rfl, .of gD2, ?_⟩
    rw [hm]
    clear hd gF hpF unl hsub
    have hG1 := hG.sx aH
    refine ⟨_, rfl, _, _, rfl, rfl, _, rfl, by omega, by omega, fun F hF => ?_⟩
    have aF : Sm G1 (upd G1 F (.lst [])) := Sx.new hF
    refine lc_it walk_range (fun i G => ∃ ls : List Addr, Sx (fun c => c = F) (upd G1 F (.lst [])) G ∧ G F = some (.lst (ls.map V.ref)) ∧ ls.length = i ∧ ∀ a ∈ ls, PLs G a 0 ∧ G1 a = none ∧ a ≠ F) ⟨[], Sx.refl _, upd_same, rfl, fun a h => absurd h List.not_mem_nil⟩ (fun _ _ _ _ => True.intro) (fun i x G0 G hi ⟨ls, b, gF, ll, hls⟩ ⟨eG, hx⟩ => ?_) fun G ⟨ls, b, gF, ll, hls⟩ => ?_
    · subst eG hx
      refine ⟨rfl, tYes_i ?_⟩
      refine iteT ⟨Nat.zero_le _, fun l hl => ⟨_, (upd_ne (ne_of_none gF hl)).trans gF, by rw [List.length_map]; omega, ls ++ [l], ?_, ?_, by rw [List.length_append, ll]; rfl, fun a ha => ?_⟩⟩
      · exact (b.trans (Sx.new hl)).trans (Sx.put ((upd_ne (ne_of_none gF hl)).trans gF) rfl)
      · rw [upd_same, List.map_append]
        rfl
      · have lF : l ≠ F := fun z => by rw [z, gF] at hl; cases hl
        rcases List.mem_append.mp ha with z | z
        · obtain ⟨⟨ys, ps, h1, h2, h3, h4⟩, h5, h6⟩ := hls a z
          have e1 : Sx (fun c => c = F) G (upd (upd G l (.lst [])) F (.lst (ls.map V.ref ++ [.ref l]))) := (Sx.new hl).trans (Sx.put ((upd_ne (ne_of_none gF hl)).trans gF) rfl)
          exact ⟨⟨ys, ps, e1.at h1 h6, Paired.mapP h2 fun _ _ => Tu.sx e1, h3, h4⟩, h5, h6⟩
        · simp at z
          subst z
          exact ⟨⟨[], [], (upd_ne lF).trans upd_same, .nil, fun k h => absurd h List.not_mem_nil, Nat.le_refl _⟩, (aF.aft hF b).old _ hl, lF⟩
    · have aG := aF.aft hF b
      have aHG := aH.trans aG
      have hpG := aHG.atS hp
      have hstG := aHG.atS hst
      have hobG := aHG.atS hob
      have lls : ls.length = m + 1 := by rw [ll]; omega
      have frs : ∀ a ∈ ls, H a = none := fun a ha => aH.old a (hls a ha).2.1
      have lob := nodup_le obs thU nob uob
      have lth : thU.length = 6 := rfl
      have w1 := walk_list (K := K) (a := ob) (xs := obs.map V.str)
      rw [List.length_map] at w1
      refine ⟨_, rfl, p, cG K, dx, _, _, rfl, hpG, W.cl_Graph, W.na_Graph_objects, rfl, ob, rfl, ⟨_, .of hobG⟩, for_it w1 (fun i τ G' => ∃ o3 o4 o5, τ = [some (.ref p), some (.int m), some (.ref F), o3, o4, o5, none, none] ∧ Sx (fun c => c ∈ ls) G G' ∧ ∀ a ∈ ls, PLs G' a (5 * i)) ⟨_, _, _, rfl, Sx.refl _, fun a ha => (hls a ha).1⟩
        (fun i τ G' _ ⟨_, _, _, _, bb, _⟩ => .of (bb.at hobG fun z => by rw [frs ob z] at hob; cases hob)) (fun i x τ G0 G' hi ⟨o3, o4, o5, eτ, bb, hL⟩ ⟨eG, hx⟩ => ?_) fun τ G' ⟨o3, o4, o5, eτ, bb, hL⟩ => ?_⟩
      · subst eτ eG
        rw [List.getElem?_map, List.getElem?_eq_getElem hi] at hx
        cases hx
        have htU := uob _ (List.getElem_mem hi)
        generalize obs[i] = t at htU ⊢
        have aa : Sm H G' := aHG.after bb fun c o e m => by rw [frs c m] at e; cases e
        have hst' := aa.atS hst
        refine ⟨st, _, hst', True.intro, fun od2 => ?_⟩
        have kl : Sx (fun b => b = st) G' (upd G' st (.frz od2 (.dT (iD lawKs f)))) := Sx.put hst' rfl
        have gF2 : upd G' st (.frz od2 (.dT (iD lawKs f))) st = some (.frz od2 (.dT (iD lawKs f))) := upd_same
        have unl2 : ∀ {G2 : Hp}, Sx (fun c => c ∈ ls) (upd G' st (.frz od2 (.dT (iD lawKs f)))) G2 → Sx (fun c => c ∈ ls) G' (upd G2 st (.dT (iD lawKs f))) := fun {G2} a => Sx.unlock hst' a
        have hsl : st ∉ ls := fun z => by rw [frs st z] at hst; cases hst
        have gFF : upd G' st (.frz od2 (.dT (iD lawKs f))) F = some (.lst (ls.map V.ref)) := by
          have gF' := bb.at gF (fun z => (hls F z).2.2 rfl)
          rw [upd_ne (ne_of gF' hst' fun z => nomatch z)]
          exact gF'
        have hLF : ∀ a ∈ ls, PLs (upd G' st (.frz od2 (.dT (iD lawKs f)))) a (5 * i) := fun a ha => by
          obtain ⟨ys, ps, h1, h2, h3, h4⟩ := hL a ha
          exact ⟨ys, ps, kl.at h1 (fun z => hsl (by rw [← z]; exact ha)), Paired.mapP h2 fun _ _ => Tu.sx kl, h3, h4⟩
        generalize upd G' st (.frz od2 (.dT (iD lawKs f))) = GL at kl gF2 unl2 hLF gFF ⊢
        have hpL := kl.at (aa.atS hp) nsp.symm
        have hTL : Tabs K GL := (hT.sx aa).sx kl
        refine ⟨_, rfl, p, cG K, dx, _, _, rfl, hpL, W.cl_Graph, W.na_Graph_strata, rfl, st, od2, rfl, .inr ⟨_, gF2, for_it walk_keysT (fun j τ G2 => ∃ o4 o5, τ = [some (.ref p), some (.int m), some (.ref F), some (.str t), o4, o5, none, none] ∧ Sx (fun c => c ∈ ls) GL G2 ∧ ∀ a ∈ ls, PLs G2 a (5 * i + j)) ⟨_, _, rfl, Sx.refl _, hLF⟩ (fun j τ G2 _ ⟨_, _, _, c, _⟩ => c.frzs _ _ _ gF2) (fun j x τ G0 G2 hj ⟨o4, o5, eτ, c, hL2⟩ ⟨eG, k', vv, q, hkv, ex, hq⟩ => ?_) fun τ G2 ⟨o4, o5, eτ, c, hL2⟩ => ?_⟩⟩
        · subst eτ eG ex
          have hj' : j < lawKs.length := by rw [iD_len] at hj; exact hj
          have hk : lawKs[j]? = some lawKs[j] := List.getElem?_eq_getElem hj'
          have hkm : lawKs[j] ∈ lawKs := List.getElem_mem hj'
          have ek : k' = lawKs[j].map Sum.inr := by
            unfold iD at hkv
            rw [List.getElem?_map, hk] at hkv
            exact ((Prod.mk.inj (Option.some.inj hkv)).1).symm
          subst ek
          obtain ⟨k1, k2, ekk, hk2⟩ := lawKs_2 hkm
          rw [ekk] at hq hkm
          have hq : G2 q = some (.tup [.str k1, .str k2]) := hq
          have htl := thU_len t htU
          refine ⟨q, _, rfl, .of hq, rfl, _, _, rfl, _, _, rfl, rfl, _, rfl, _, rfl, t, rfl, by omega, hTL.sx c, fun G3 a3 => ⟨rfl, _, rfl, ?_⟩⟩
          have c3 := c.trans (Sx.of a3)
          have hL3 : ∀ a ∈ ls, PLs G3 a (5 * i + j) := fun a ha => (hL2 a ha).sx a3
          by_cases hty : k1 = typeOf t
          · have hfk := hf _ hkm
            have hfm' := hfm _ hkm
            obtain ⟨nn, hnn⟩ : ∃ nn : Nat, f [k1, k2] = (nn : Int) := ⟨(f [k1, k2]).toNat, (Int.toNat_of_nonneg hfk.1).symm⟩
            have hnl : nn < ls.length := by rw [hnn] at hfm'; omega
            have hga : ls[nn]? = some ls[nn] := List.getElem?_eq_getElem hnl
            have hal : ls[nn] ∈ ls := List.getElem_mem hnl
            generalize ls[nn] = la at hga hal
            have hFl : ¬ F ∈ ls := fun z => (hls F z).2.2 rfl
            have gF3 := c3.at gFF hFl
            have gs3 := c3.frzs _ _ _ gF2
            have hp3 := c3.at hpL (fun z => by rw [frs p z] at hp; cases hp)
            refine itT (decide_eq_true (by rw [hty])) ⟨_, rfl, _, rfl, p, cG K, dx, _, _, rfl, hp3, W.cl_Graph, W.na_Graph_strata, rfl, _, rfl, _, rfl, by show 2 ≤ sizeLine; omega, fun q2 hq2 => ?_⟩
            have d2 : Sm G3 (upd G3 q2 (.tup [.str k1, .str k2])) := Sx.new hq2
            have gq2 : upd G3 q2 (.tup [.str k1, .str k2]) q2 = some (.tup ((([k1, k2] : List Str).map Sum.inr).map kV)) := upd_same
            have hL4 : ∀ a ∈ ls, PLs (upd G3 q2 (.tup [.str k1, .str k2])) a (5 * i + j) := fun a ha => (hL3 a ha).sx d2
            have c4 := c3.trans (Sx.of d2)
            generalize upd G3 q2 (.tup [.str k1, .str k2]) = G4 at d2 gq2 hL4 c4 ⊢
            obtain ⟨ys, ps, h1, h2, h3, h4⟩ := hL4 la hal
            refine ⟨st, .int (f [k1, k2]), rfl, .inr ⟨_, _, q2, .inr ⟨od2, d2.frzs _ _ _ gs3⟩, rfl, gq2, (valV_iD hkm).symm⟩, F, _, f [k1, k2], .ref la, rfl, rfl, .of (d2.atS gF3), ?_, .inl ⟨rfl, _, .of h1⟩, _, rfl, _, rfl, by show 2 ≤ sizeLine; omega, fun q3 hq3 => ⟨la, ys, .ref q3, rfl, rfl, (upd_ne (ne_of_none h1 hq3)).trans h1, ?_, ?_⟩⟩
            · rw [hnn]
              exact atI_nat (by rw [List.getElem?_map, hga]; rfl)
            · have : ys.length = ps.length := Paired.length h2
              have : lawKs.length = 5 := rfl
              omega
            · have d3 : Sm G4 (upd G4 q3 (.tup [.str t, .str k2])) := Sx.new hq3
              have gq3 : upd G4 q3 (.tup [.str t, .str k2]) q3 = some (.tup [.str t, .str k2]) := upd_same
              have h15 := d3.atS h1
              have h25 := Paired.mapP h2 fun _ _ => Tu.sx d3
              have hL5 : ∀ a ∈ ls, PLs (upd G4 q3 (.tup [.str t, .str k2])) a (5 * i + j) := fun a ha => (hL4 a ha).sx d3
              have c5 := c4.trans (Sx.of d3)
              generalize upd G4 q3 (.tup [.str t, .str k2]) = G5 at gq3 h15 h25 hL5 c5 ⊢
              refine ⟨_, _, rfl, c5.trans (Sx.put h15 hal), fun a ha => ?_⟩
              exact (hL5 a ha).app (n := 5 * i + j) (k := [t, k2]) h15 h25 h3 h4 ⟨q3, rfl, gq3⟩ ⟨t, k2, rfl, htU, hk2⟩ (by omega)
          · exact itF (decide_eq_false fun z => hty (V.str.inj z)) ⟨_, _, rfl, c3, fun a ha => (hL3 a ha).mono (by omega)⟩
        · subst eτ
          refine ⟨c.frzs _ _ _ gF2, _, _, _, rfl, bb.trans (unl2 c), fun a ha => ?_⟩
          obtain ⟨ys, ps, h1, h2, h3, h4⟩ := hL2 a ha
          have gs2 := c.frzs _ _ _ gF2
          have up : ∀ b xs, G2 b = some (.tup xs) → upd G2 st (.dT (iD lawKs f)) b = some (.tup xs) := fun b xs e => (upd_ne (fun z => by rw [z, gs2] at e; cases e)).trans e
          refine ⟨ys, ps, (upd_ne (fun z => hsl (by rw [← z]; exact ha))).trans h1, Paired.mapP h2 fun _ _ ⟨b, e, q⟩ => ⟨b, e, up _ _ q⟩, h3, ?_⟩
          rw [iD_len] at h4
          have : lawKs.length = 5 := rfl
          omega
      · subst eτ
        have gF' := bb.at gF (fun z => (hls F z).2.2 rfl)
        have aa : Sm H G' := aHG.after bb fun c o e m => by rw [frs c m] at e; cases e
        refine ⟨_, rfl, hQ F ls G' aa (aH.old F hF) gF' (fun a ha => ?_) (by omega)⟩
        obtain ⟨ys, ps, h1, h2, h3, h4⟩ := hL a ha
        exact ⟨ys, ps, h1, h2, h3, by omega⟩
end
end K83
namespace K83
open PySem PySem.Spec PyProof.Rows L2 L2.DX GxR
/-! ### ranks_for -/
def allP : List (List Str) := thU.flatMap fun t => nmU.map fun n => [t, n]
theorem mem_allP {k : List Str} (h : PairP k) : k ∈ allP := by
  obtain ⟨t, n, rfl, ht, hn⟩ := h
  exact List.mem_flatMap.mpr ⟨t, ht, List.mem_map.mpr ⟨n, hn, rfl⟩⟩
structure RkN (kvs : List (List Key × V)) : Prop where
  nd : (kvs.map (·.1)).Nodup
  ok : ∀ kv ∈ kvs, (∃ i : Int, kv.2 = .int i) ∧ ∃ k, kv.1 = k.map Sum.inr ∧ PairP k
theorem RkN.len {kvs : List (List Key × V)} (h : RkN kvs) : kvs.length ≤ 36 := by
  have := nodup_le (kvs.map (·.1)) (allP.map fun k => k.map Sum.inr) h.nd fun x hx => by
    obtain ⟨kv, hkv, rfl⟩ := List.mem_map.mp hx
    obtain ⟨_, k, e, hp⟩ := h.ok kv hkv
    rw [e]
    exact List.mem_map.mpr ⟨k, mem_allP hp, rfl⟩
  rw [List.length_map, List.length_map] at this
  exact this
theorem RkN.rka {H : Hp} {rk : Addr} {kvs : List (List Key × V)} (h : RkN kvs) (e : H rk = some (.dT kvs)) : RkA H rk := ⟨kvs, e, fun kv hkv => (h.ok kv hkv).1, fun kv hkv => (h.ok kv hkv).2⟩
theorem RkN.put {kvs : List (List Key × V)} {k : List Str} {i : Int} (h : RkN kvs) (hk : PairP k) : RkN (putK kvs (k.map Sum.inr) (.int i)) ∧ kvs.length ≤ (putK kvs (k.map Sum.inr) (.int i)).length ∧ (valV kvs (k.map Sum.inr) = none → kvs.length < (putK kvs (k.map Sum.inr) (.int i)).length) := by
  cases hv : valV kvs (k.map Sum.inr) with
  | none =>
    rw [putK_new _ hv]
    refine ⟨⟨?_, fun kv hkv => ?_⟩, by rw [List.length_append]; omega, fun _ => by rw [List.length_append]; show kvs.length < kvs.length + 1; omega⟩
    · rw [List.map_append, List.nodup_append]
      refine ⟨h.nd, by simp, fun a ha b hb e => ?_⟩
      have hb : b = k.map Sum.inr := by simpa using hb
      obtain ⟨kv, hkv, e2⟩ := List.mem_map.mp ha
      have : (kvs.any fun kv => decide (kv.1 = k.map Sum.inr)) = true := List.any_eq_true.mpr ⟨kv, hkv, decide_eq_true (by rw [e2, e, hb])⟩
      rw [valV_any, hv] at this
      cases this
    · rcases List.mem_append.mp hkv with z | z
      · exact h.ok kv z
      · have z : kv = (k.map Sum.inr, .int i) := by simpa using z
        rw [z]
        exact ⟨⟨i, rfl⟩, k, rfl, hk⟩
  | some v =>
    have e : putK kvs (k.map Sum.inr) (.int i) = kvs.map fun kv => if kv.1 = k.map Sum.inr then (kv.1, .int i) else kv := by
      unfold putK
      rw [valV_any, hv]
      rfl
    rw [e]
    refine ⟨⟨?_, fun kv hkv => ?_⟩, by rw [List.length_map]; exact Nat.le_refl _, fun z => by cases z⟩
    · rw [List.map_map]
      have : ((fun x : List Key × V => x.1) ∘ fun kv : List Key × V => if kv.1 = k.map Sum.inr then (kv.1, V.int i) else kv) = fun x => x.1 := by
        funext kv
        simp only [Function.comp]
        split <;> rfl
      rw [this]
      exact h.nd
    · obtain ⟨kv', h', e'⟩ := List.mem_map.mp hkv
      rw [← e']
      by_cases q : kv'.1 = k.map Sum.inr
      · rw [if_pos q]
        exact ⟨⟨i, rfl⟩, (h.ok kv' h').2⟩
      · rw [if_neg q]
        exact h.ok kv' h'
section
variable {P : Program} {w : World} {K : PySem.W.Frag} {mg : Str → Option Value} {base : Heap}
def sp_ranks_for (K : PySem.W.Frag) : Sp := fun vs H Q _ => ∃ (p : Addr) (s : Str), vs = [.ref p, .str s] ∧ GrAt K H p ∧ Tabs K H ∧ ∀ rk kvs H', Sm H H' → H rk = none → H' rk = some (.dT kvs) → RkN kvs → Q (.ref rk) H'
abbrev N_ranks_for : List Str := ["graph", "subject", "ranks", "pairs", "going", "rank", "new", "pair"]
theorem ok_ranks_for (W : Wd K mg base) : FnOk P w K mg base CX0 6 (A_ranks_for K) (F_ranks_for K) ["graph", "subject"] (sp_ranks_for K) := by
  refine W.fu_ranks_for.ok sc_ranks_for (fun vs H Q E h => by obtain ⟨_, _, rfl, _⟩ := h; rfl) fun cdv A outer s H vs Q E hr h => ?_
  obtain ⟨p, su, rfl, hG, hT, hQ⟩ := h
  refine ⟨_, PSs.nox (pss_cons (ps_set (i := 2) sc_ranks_for.nd rfl (by first | exact Or.inl rfl | exact Or.inr rfl) pe_dnewT)
      (pss_cons (ps_for PassesOwn.never rfl (pi_list (pe_call (ok_names_by_stratum W) (hr.mono (by decide)) rfl W.gl_names_by_stratum (W.fu_names_by_stratum).kp W.bd_names_by_stratum .nil pass0 (pa_cons (pv 0) pa_nil))) (pg_name (i := 3) sc_ranks_for.nd rfl (by first | exact Or.inl rfl | exact Or.inr rfl)) (pss_cons (ps_set (i := 4) sc_ranks_for.nd rfl (by first | exact Or.inl rfl | exact Or.inr rfl) pe_bl)
      (pss_cons (ps_set (i := 5) sc_ranks_for.nd rfl (by first | exact Or.inl rfl | exact Or.inr rfl) pe_int)
      (pss_one (ps_while PassesOwn.never (pt_val (pv 4)) (pss_cons (ps_set (i := 5) sc_ranks_for.nd rfl (by first | exact Or.inl rfl | exact Or.inr rfl) (pe_op op_add (pv 5) pe_int))
      (pss_cons (ps_set (i := 6) sc_ranks_for.nd rfl (by first | exact Or.inl rfl | exact Or.inr rfl) (pe_lst pa_nil))
      (pss_cons (ps_for PassesOwn.never rfl (pi_list (pv 3)) (pg_name (i := 7) sc_ranks_for.nd rfl (by first | exact Or.inl rfl | exact Or.inr rfl)) (pss_one (ps_if (PW.pt (pw_and (pt_cmp (pc_dnotin (hu_of hr) (pv 7) (pv 2))) (pw_and1 (pt_cmpR op_notN (pe_call (ok_rule_count W) (hr.mono (by decide)) rfl W.gl_rule_count (W.fu_rule_count).kp W.bd_rule_count .nil pass0 (pa_cons (pv 0) (pa_cons (pe_ix ix_tup (pv 7) pe_int (fun _ _ => rfl)) (pa_cons (pe_ix ix_tup (pv 7) pe_int (fun _ _ => rfl)) (pa_cons (pv 1) (pa_cons (pv 2) pa_nil)))))) pe_non (nomark _))))) (pss_one (ps_expr (pe_bm PySem.F.plainAttrs_list PySem.F.slot_list_append PySem.F.type_list_append mt_append (pv 6) (pa_cons (pv 7) pa_nil)))) pss_nil)))
      (pss_cons (ps_for PassesOwn.never rfl (pi_list (pv 6)) (pg_name (i := 7) sc_ranks_for.nd rfl (by first | exact Or.inl rfl | exact Or.inr rfl)) (pss_one (ps_dput (hu_of hr) (pv 2) (pv 7) (pv 5) rfl)))
      (pss_one (ps_set (i := 4) sc_ranks_for.nd rfl (by first | exact Or.inl rfl | exact Or.inr rfl) (pe_cmpR op_gt (pe_callB call_len_seq (by rfl) W.fr_len PySem.boot_len (pa_cons (pv 6) pa_nil)) pe_int (nomark _)))))))))))))
      (pss_one (ps_ret (pv 2))))), ?_⟩
  have sz : sizeLine = 16777216 := sizeLine_eq
  intro rk hrk
  have ark : Sm H (upd H rk (.dT [])) := Sx.new hrk
  have grk : upd H rk (.dT []) rk = some (.dT []) := upd_same
  generalize upd H rk (.dT []) = H0 at ark grk ⊢
  refine ⟨_, rfl, p, rfl, hG.sx ark, hT.sx ark, fun l ls H1 a1 hl0 hl hls lls => ⟨l, rfl, ⟨_, .of hl⟩, ?_⟩⟩
  have aH1 := ark.trans a1
  have grk1 := a1.atS grk
  have hlr : l ≠ rk := ne_of hl grk1 fun z => nomatch z
  have w1 := walk_list (K := K) (a := l) (xs := ls.map V.ref)
  rw [List.length_map] at w1
  refine for_it w1 (fun i τ G => ∃ o3 o4 o5 o6 o7 kvs, τ = [some (.ref p), some (.str su), some (.ref rk), o3, o4, o5, o6, o7] ∧ Sx (fun c => c = rk) H1 G ∧ G rk = some (.dT kvs) ∧ RkN kvs) ⟨_, _, _, _, _, [], rfl, Sx.refl _, grk1, ⟨List.nodup_nil, fun kv h => absurd h List.not_mem_nil⟩⟩ (fun i τ G _ ⟨_, _, _, _, _, _, _, b, _⟩ => .of (b.at hl hlr)) (fun i x τ G0 G hi ⟨o3, o4, o5, o6, o7, kvs, eτ, b, gk, hk⟩ ⟨eG, hx⟩ => ?_) fun τ G ⟨o3, o4, o5, o6, o7, kvs, eτ, b, gk, hk⟩ => ?_
  · subst eτ eG
    rw [List.getElem?_map, List.getElem?_eq_getElem hi] at hx
    cases hx
    have hPa := hls _ (List.getElem_mem hi)
    generalize ls[i] = a at hPa ⊢
    obtain ⟨ys, ps, ha, hys, hps, lps⟩ := hPa
    have har : a ≠ rk := ne_of ha grk1 fun z => nomatch z
    have ly : ys.length = ps.length := Paired.length hys
    refine ⟨fun m τ G => ∃ (bb : Bool) (r : Int) (o6 o7 : Option V) (kvs : List (List Key × V)), τ = [some (.ref p), some (.str su), some (.ref rk), some (.ref a), some (.bl bb), some (.int r), o6, o7] ∧ Sx (fun c => c = rk) H1 G ∧ G rk = some (.dT kvs) ∧ RkN kvs ∧ m = (if bb = true then 1 else 0) + 2 * (36 - kvs.length), ⟨_, true, 0, _, _, kvs, rfl, b, gk, hk, rfl⟩, ?_⟩
    clear hk gk b
    rintro m τ G ⟨bb, r, o6, o7, kvs, rfl, b, gk, hk, rfl⟩
    refine ⟨_, rfl, bb, rfl, ?_⟩
    cases bb with
    | false => exact iteF ⟨_, _, _, _, _, kvs, rfl, b, gk, hk⟩
    | true =>
      refine iteT ⟨fun τ' G' => ∃ (bb : Bool) (r : Int) (o6 o7 : Option V) (kvs' : List (List Key × V)), τ' = [some (.ref p), some (.str su), some (.ref rk), some (.ref a), some (.bl bb), some (.int r), o6, o7] ∧ Sx (fun c => c = rk) H1 G' ∧ G' rk = some (.dT kvs') ∧ RkN kvs' ∧ kvs.length ≤ kvs'.length ∧ (bb = true → kvs.length < kvs'.length), fun τ' G' ⟨bb, r, o6, o7, kvs', e, b', g', k', l1, l2⟩ => ⟨_, ?_, bb, r, o6, o7, kvs', e, b', g', k', rfl⟩, ?_⟩
      · have := k'.len
        cases bb with
        | false => rw [if_pos rfl, if_neg (by decide)]; omega
        | true => have := l2 rfl; rw [if_pos rfl]; omega
      · have lk := hk.len
        refine ⟨_, rfl, _, _, rfl, rfl, Nat.zero_le _, fun nw hnw => ?_⟩
        have aw : Sm G (upd G nw (.lst [])) := Sx.new hnw
        have gw : upd G nw (.lst []) nw = some (.lst []) := upd_same
        have gk1 := aw.atS gk
        have nwr : nw ≠ rk := fun z => by rw [z, gk] at hnw; cases hnw
        have b1 := b.trans (Sx.of aw)
        generalize upd G nw (.lst []) = G1 at aw gw gk1 b1 ⊢
        have ha1 := b1.at ha har
        have nwa : a ≠ nw := fun z => by rw [← z, b.at ha har] at hnw; cases hnw
        refine ⟨_, rfl, a, rfl, ⟨_, .of ha1⟩, for_it (walk_list (K := K) (a := a) (xs := ys)) (fun j τ G' => ∃ o7 zs qs, τ = [some (.ref p), some (.str su), some (.ref rk), some (.ref a), some (.bl true), some (.int (r + 1)), some (.ref nw), o7] ∧ Sx (fun c => c = nw) G1 G' ∧ G' nw = some (.lst zs) ∧ Tus G' zs qs ∧ (∀ k ∈ qs, PairP k ∧ valV kvs (k.map Sum.inr) = none) ∧ qs.length ≤ j) ⟨_, [], [], rfl, Sx.refl _, gw, .nil, fun k h => absurd h List.not_mem_nil, Nat.le_refl _⟩
          (fun j τ G' _ ⟨_, _, _, _, c, _⟩ => .of (c.at ha1 nwa)) (fun j x τ G0 G' hj ⟨o7, zs, qs, eτ, c, gn, hzs, hqs, lqs⟩ ⟨eG, hx⟩ => ?_) fun τ G' ⟨o7, zs, qs, eτ, c, gn, hzs, hqs, lqs⟩ => ?_⟩
        · subst eτ eG
          obtain ⟨k, hk', bx, rfl, hbx⟩ := pr_get hys hx
          have hkP := hps k (List.mem_of_getElem? hk')
          have hbx' := c.tups _ _ (b1.tups _ _ hbx)
          have gkc : G' rk = some (.dT kvs) := c.at gk1 nwr.symm
          refine ⟨_, rfl, _, rfl, rk, _, rfl, DGet.t (k := k.map Sum.inr) gkc (by rw [inr_kV]; exact hbx'), _, rfl, ?_⟩
          cases hv : valV kvs (k.map Sum.inr) with
          | some v => exact iteF (iteF ⟨_, zs, qs, rfl, c, gn, hzs, hqs, by omega⟩)
          | none =>
            obtain ⟨t', n', rfl, ht', hn'⟩ := id hkP
            have aG' : Sm H G' := (aH1.after b1 fun c o e m => by rw [m, hrk] at e; cases e).after c fun c o e m => by
              have := aH1.after b (fun c o e m => by rw [m, hrk] at e; cases e)
              rw [m, this.old _ hnw] at e
              cases e
            refine iteT ⟨_, rfl, _, rfl, bx, _, 0, _, rfl, rfl, .of hbx', atI_nat (j := 0) rfl, _, rfl, bx, _, 1, _, rfl, rfl, .of hbx', atI_nat (j := 1) rfl, _, rfl, _, rfl, p, rk, t', n', su, rfl, hG.sx aG', hT.sx aG', ht', hn', hk.rka gkc, fun o G2 ho a2 => ⟨rfl, _, rfl, ?_⟩⟩
            have c2 := c.trans (Sx.of a2)
            have hzs2 := Paired.mapP hzs fun _ _ => Tu.sx a2
            have gn2 := a2.atS gn
            have lzq : zs.length = qs.length := Paired.length hzs
            by_cases ho : o = .non
            · exact itF (by simp [ho]) ⟨_, zs, qs, rfl, c2, gn2, hzs2, hqs, by omega⟩
            · have a3 : Sx (fun c => c = nw) G2 (upd G2 nw (.lst (zs ++ [.ref bx]))) := Sx.put gn2 rfl
              refine itT (by simp [ho]) ⟨_, rfl, .inl ⟨rfl, _, .of gn2⟩, _, rfl, nw, zs, .ref bx, rfl, rfl, gn2, by omega, _, zs ++ [.ref bx], qs ++ [[t', n']], rfl, c2.trans a3, upd_same, pr_snoc (Paired.mapP hzs2 fun _ _ => Tu.sx a3) ⟨bx, rfl, a3.tups _ _ (a2.tups _ _ hbx')⟩, fun k hk => ?_, by rw [List.length_append]; show qs.length + 1 ≤ j + 1; omega⟩
              rcases List.mem_append.mp hk with z | z
              · exact hqs k z
              · have z : k = [t', n'] := by simpa using z
                rw [z]
                exact ⟨hkP, hv⟩
        · subst eτ
          have gkc : G' rk = some (.dT kvs) := c.at gk1 nwr.symm
          have lzq : zs.length = qs.length := Paired.length hzs
          have b2 := b1.after c fun c o e m => by rw [m, b.old _ hnw] at e; cases e
          refine ⟨_, rfl, nw, rfl, ⟨_, .of gn⟩, for_it (walk_list (K := K) (a := nw) (xs := zs)) (fun j τ G2 => ∃ o7 kv2, τ = [some (.ref p), some (.str su), some (.ref rk), some (.ref a), some (.bl true), some (.int (r + 1)), some (.ref nw), o7] ∧ Sx (fun c => c = rk) G' G2 ∧ G2 rk = some (.dT kv2) ∧ RkN kv2 ∧ kvs.length ≤ kv2.length ∧ (j = 0 → kv2 = kvs) ∧ (0 < j → kvs.length < kv2.length)) ⟨_, kvs, rfl, Sx.refl _, gkc, hk, Nat.le_refl _, fun _ => rfl, fun z => absurd z (Nat.lt_irrefl 0)⟩
            (fun j τ G2 _ ⟨_, _, _, d, _⟩ => .of (d.at gn nwr)) (fun j x τ G0 G2 hj ⟨o7, kv2, eτ, d, gk2, hk2, l1, l2, l3⟩ ⟨eG, hx⟩ => ?_) fun τ G2 ⟨o7, kv2, eτ, d, gk2, hk2, l1, l2, l3⟩ => ?_⟩
          · subst eτ eG
            obtain ⟨k, hk', bx, rfl, hbx⟩ := pr_get hzs hx
            obtain ⟨hkP, hv⟩ := hqs k (List.mem_of_getElem? hk')
            have hbx' := d.tups _ _ hbx
            have := hk2.len
            obtain ⟨p1, p2, p3⟩ := hk2.put (k := k) (i := r + 1) hkP
            refine ⟨_, rfl, _, rfl, _, rfl, rk, _, rfl, DPut.t (k := k.map Sum.inr) gk2 (by rw [inr_kV]; exact hbx') (by omega), ?_⟩
            refine ⟨_, _, rfl, d.trans (Sx.put gk2 rfl), upd_same, p1, by omega, fun z => by omega, fun _ => ?_⟩
            by_cases hj0 : j = 0
            · have e := l2 hj0
              subst e
              exact p3 hv
            · have := l3 (by omega)
              omega
          · subst eτ
            refine ⟨_, rfl, nw, zs, rfl, .inl (.of (d.at gn nwr)), _, _, rfl, rfl, _, _, _, _, kv2, rfl, b2.trans d, gk2, hk2, l1, fun z => l3 ?_⟩
            have := of_decide_eq_true z
            omega
  · subst eτ
    refine ⟨_, rfl, hQ rk kvs G (aH1.after b fun c o e m => by rw [m, hrk] at e; cases e) hrk gk hk⟩
end
end K83
namespace K83
open PySem PySem.Spec PyProof.Rows L2 L2.DX GxR
/-! ### ranked, evaluate -/
def TrP (k : List Str) : Prop := ∃ t n s, k = [t, n, s] ∧ t ∈ thU ∧ n ∈ nmU ∧ s ∈ peU
def allT : List (List Str) := thU.flatMap fun t => nmU.flatMap fun n => peU.map fun s => [t, n, s]
theorem mem_allT {k : List Str} (h : TrP k) : k ∈ allT := by
  obtain ⟨t, n, s, rfl, ht, hn, hs⟩ := h
  exact List.mem_flatMap.mpr ⟨t, ht, List.mem_flatMap.mpr ⟨n, hn, List.mem_map.mpr ⟨s, hs, rfl⟩⟩⟩
structure FdN (kvs : List (List Key × V)) : Prop where
  nd : (kvs.map (·.1)).Nodup
  ok : ∀ kv ∈ kvs, ∃ k, kv.1 = k.map Sum.inr ∧ TrP k
theorem FdN.len {kvs : List (List Key × V)} (h : FdN kvs) : kvs.length ≤ 108 := by
  have := nodup_le (kvs.map (·.1)) (allT.map fun k => k.map Sum.inr) h.nd fun x hx => by
    obtain ⟨kv, hkv, rfl⟩ := List.mem_map.mp hx
    obtain ⟨k, e, hp⟩ := h.ok kv hkv
    rw [e]
    exact List.mem_map.mpr ⟨k, mem_allT hp, rfl⟩
  rw [List.length_map, List.length_map] at this
  exact this
theorem FdN.put {kvs : List (List Key × V)} {k : List Str} {v : V} (h : FdN kvs) (hk : TrP k) : FdN (putK kvs (k.map Sum.inr) v) := by
  cases hv : valV kvs (k.map Sum.inr) with
  | none =>
    rw [putK_new _ hv]
    refine ⟨?_, fun kv hkv => ?_⟩
    · rw [List.map_append, List.nodup_append]
      refine ⟨h.nd, by simp, fun a ha b hb e => ?_⟩
      have hb : b = k.map Sum.inr := by simpa using hb
      obtain ⟨kv, hkv, e2⟩ := List.mem_map.mp ha
      have : (kvs.any fun kv => decide (kv.1 = k.map Sum.inr)) = true := List.any_eq_true.mpr ⟨kv, hkv, decide_eq_true (by rw [e2, e, hb])⟩
      rw [valV_any, hv] at this
      cases this
    · rcases List.mem_append.mp hkv with z | z
      · exact h.ok kv z
      · have z : kv = (k.map Sum.inr, v) := by simpa using z
        rw [z]
        exact ⟨k, rfl, hk⟩
  | some w =>
    have e : putK kvs (k.map Sum.inr) v = kvs.map fun kv => if kv.1 = k.map Sum.inr then (kv.1, v) else kv := by
      unfold putK
      rw [valV_any, hv]
      rfl
    rw [e]
    refine ⟨?_, fun kv hkv => ?_⟩
    · rw [List.map_map]
      have : ((fun x : List Key × V => x.1) ∘ fun kv : List Key × V => if kv.1 = k.map Sum.inr then (kv.1, v) else kv) = fun x => x.1 := by
        funext kv
        simp only [Function.comp]
        split <;> rfl
      rw [this]
      exact h.nd
    · obtain ⟨kv', h', e'⟩ := List.mem_map.mp hkv
      rw [← e']
      by_cases q : kv'.1 = k.map Sum.inr
      · rw [if_pos q]
        exact h.ok kv' h'
      · rw [if_neg q]
        exact h.ok kv' h'
/-- the keys as texts -/
theorem FdN.keys {kvs : List (List Key × V)} (h : FdN kvs) : ∃ l : List (List Str), kvs.map (·.1) = l.map (fun k => k.map Sum.inr) ∧ Gd l ∧ ∀ k ∈ l, TrP k := by
  have go : ∀ kvs : List (List Key × V), (∀ kv ∈ kvs, ∃ k, kv.1 = k.map Sum.inr ∧ TrP k) → ∃ l : List (List Str), kvs.map (·.1) = l.map (fun k => k.map Sum.inr) ∧ ∀ k ∈ l, TrP k := by
    intro kvs
    induction kvs with
    | nil => exact fun _ => ⟨[], rfl, fun k h => absurd h List.not_mem_nil⟩
    | cons kv kvs ih =>
      intro h
      obtain ⟨k, e, hk⟩ := h kv List.mem_cons_self
      obtain ⟨l, el, hl⟩ := ih fun z hz => h z (List.mem_cons_of_mem _ hz)
      refine ⟨k :: l, by rw [List.map_cons, List.map_cons, e, el], fun z hz => ?_⟩
      rcases List.mem_cons.mp hz with q | q
      · rw [q]; exact hk
      · exact hl z q
  obtain ⟨l, e, hl⟩ := go kvs h.ok
  have hlen := congrArg List.length e
  rw [List.length_map, List.length_map] at hlen
  have l1 := h.len
  have nd := h.nd
  rw [e] at nd
  refine ⟨l, e, ⟨List.Pairwise.of_map _ (fun a b q z => q (by rw [z])) nd, fun k hk z => ?_, by omega⟩, hl⟩
  obtain ⟨t, n, s, e, _⟩ := hl k hk
  rw [e] at z
  cases z
/-- a new object and its __init__ -/
theorem Sm.made {H H2 : Hp} {x dx C : Addr} (hx : H x = none) (hd : H dx = none) (ne : dx ≠ x) (a : Sx (fun b => b = x) (upd (upd H dx (.own x)) x (.ins C dx [])) H2) : Sm H H2 := by
  have a1 : Sm H (upd H dx (.own x)) := Sx.new hd
  have hx1 : upd H dx (.own x) x = none := (upd_ne ne.symm).trans hx
  have a2 : Sm (upd H dx (.own x)) (upd (upd H dx (.own x)) x (.ins C dx [])) := Sx.new hx1
  exact (a1.trans a2).after a fun c o e m => by rw [m, hx] at e; cases e
theorem Sm.made0 {H : Hp} {x dx C : Addr} (hx : H x = none) (hd : H dx = none) (ne : dx ≠ x) : Sm H (upd (upd H dx (.own x)) x (.ins C dx [])) := by
  have a1 : Sm H (upd H dx (.own x)) := Sx.new hd
  have hx1 : upd H dx (.own x) x = none := (upd_ne ne.symm).trans hx
  exact a1.trans (Sx.new hx1)
section
variable {P : Program} {w : World} {K : PySem.W.Frag} {mg : Str → Option Value} {base : Heap}
def sp_ranked (K : PySem.W.Frag) : Sp := fun vs H Q _ => ∃ (v u : V) (l : List (List Str)), vs = [v, u] ∧ Dp K H v (schD lawSch) ∧ Tabs K H ∧ Lu H u l ∧ (∀ k ∈ l, k ∈ allR) ∧ l.length ≤ 100 ∧ ∀ fd kvs H', Sm H H' → H fd = none → H' fd = some (.dT kvs) → FdN kvs → Q (.ref fd) H'
abbrev N_ranked : List Str := ["schema", "relationships", "graph", "found", "subject", "ranks", "target", "name"]
theorem ok_ranked (W : Wd K mg base) : FnOk P w K mg base CX0 7 (A_ranked K) (F_ranked K) ["schema", "relationships"] (sp_ranked K) := by
  refine W.fu_ranked.ok sc_ranked (fun vs H Q E h => by obtain ⟨_, _, _, rfl, _⟩ := h; rfl) fun cdv A outer s H vs Q E hr h => ?_
  obtain ⟨v, u, l, rfl, hd, hT, hl, hR, hlen, hQ⟩ := h
  refine ⟨_, PSs.nox (pss_cons (ps_set (i := 2) sc_ranked.nd rfl (by first | exact Or.inl rfl | exact Or.inr rfl) (pe_make W.mk_Graph (ok_Graph_init W) (hr.mono (by decide)) rfl W.gl_Graph W.bd_Graph_init .nil pass0 (pa_cons (pv 0) (pa_cons (pv 1) pa_nil))))
      (pss_cons (ps_set (i := 3) sc_ranked.nd rfl (by first | exact Or.inl rfl | exact Or.inr rfl) pe_dnewT)
      (pss_cons (ps_for PassesOwn.never rfl (pi_list (pe_fld (pv 2) rfl)) (pg_name (i := 4) sc_ranked.nd rfl (by first | exact Or.inl rfl | exact Or.inr rfl)) (pss_cons (ps_set (i := 5) sc_ranked.nd rfl (by first | exact Or.inl rfl | exact Or.inr rfl) (pe_call (ok_ranks_for W) (hr.mono (by decide)) rfl W.gl_ranks_for (W.fu_ranks_for).kp W.bd_ranks_for .nil pass0 (pa_cons (pv 2) (pa_cons (pv 4) pa_nil))))
      (pss_one (ps_lock (ps_for PassesOwn.never rfl (pi_keys (pv 5)) (pg_tup rfl (pgs_cons (pg_name (i := 6) sc_ranked.nd rfl (by first | exact Or.inl rfl | exact Or.inr rfl)) (pgs_cons (pg_name (i := 7) sc_ranked.nd rfl (by first | exact Or.inl rfl | exact Or.inr rfl)) pgs_nil))) (pss_one (ps_dput (hu_of hr) (pv 3) (pe_tup (pa_cons (pv 6) (pa_cons (pv 7) (pa_cons (pv 4) pa_nil)))) (pe_dget (hu_of hr) (pv 5) (pe_tup (pa_cons (pv 6) (pa_cons (pv 7) pa_nil))) (fun _ _ => rfl)) rfl)))))))
      (pss_one (ps_ret (pv 3)))))), ?_⟩
  have sz : sizeLine = 16777216 := sizeLine_eq
  refine ⟨_, rfl, _, rfl, fun g dg hg hdg neg => ?_⟩
  have a0 : Sm H (upd (upd H dg (.own g)) g (.ins (cG K) dg [])) := Sm.made0 hg hdg neg
  refine ⟨g, dg, v, u, l, rfl, upd_same, dp_sx a0 _ _ (schD_noL _) hd, hT.sx a0, hl.sx a0, hR, hlen, fun H1 a1 hG => ⟨rfl, ?_⟩⟩
  have aH1 : Sm H H1 := Sm.made hg hdg neg a1
  clear a0 a1
  have hT1 := hT.sx aH1
  intro fd hfd
  have afd : Sm H1 (upd H1 fd (.dT [])) := Sx.new hfd
  have gfd : upd H1 fd (.dT []) fd = some (.dT []) := upd_same
  have hfdH := aH1.old _ hfd
  generalize upd H1 fd (.dT []) = H2 at afd gfd ⊢
  have aH2 := aH1.trans afd
  have hG2 := hG.sx afd
  have hT2 := hT1.sx afd
  obtain ⟨dx, st, sd, ob, pe, v', f, kvs', obs, pes, hp, _, _, _, _, _, _, _, _, hpe, npe, upe⟩ := hG2.ex
  have npr : pe ≠ fd := ne_of hpe gfd fun z => nomatch z
  have w1 := walk_list (K := K) (a := pe) (xs := pes.map V.str)
  rw [List.length_map] at w1
  refine ⟨_, rfl, g, cG K, dx, _, _, rfl, hp, W.cl_Graph, W.na_Graph_people, rfl, pe, rfl, ⟨_, .of hpe⟩, for_it w1 (fun i τ G => ∃ o4 o5 o6 o7 kvs, τ = [some v, some u, some (.ref g), some (.ref fd), o4, o5, o6, o7] ∧ Sx (fun c => c = fd) H2 G ∧ G fd = some (.dT kvs) ∧ FdN kvs) ⟨_, _, _, _, [], rfl, Sx.refl _, gfd, ⟨List.nodup_nil, fun kv h => absurd h List.not_mem_nil⟩⟩
    (fun i τ G _ ⟨_, _, _, _, _, _, b, _⟩ => .of (b.at hpe npr)) (fun i x τ G0 G hi ⟨o4, o5, o6, o7, kvs, eτ, b, gk, hk⟩ ⟨eG, hx⟩ => ?_) fun τ G ⟨o4, o5, o6, o7, kvs, eτ, b, gk, hk⟩ => ?_⟩
  · subst eτ eG
    rw [List.getElem?_map, List.getElem?_eq_getElem hi] at hx
    cases hx
    have hsu := upe _ (List.getElem_mem hi)
    generalize pes[i] = su at hsu ⊢
    have aG : Sm H G := aH1.after ((Sx.of afd).trans b) fun c o e m => by rw [m, hfdH] at e; cases e
    refine ⟨_, rfl, _, rfl, g, su, rfl, hG.sx (afd.after b fun c o e m => by rw [m, hfd] at e; cases e), hT.sx aG, fun rk kvr H3 a3 hrk grk hkr => ?_⟩
    have gk3 := a3.atS gk
    have nrf : rk ≠ fd := fun z => by rw [z, gk] at hrk; cases hrk
    refine ⟨rk, _, grk, True.intro, fun od => ?_⟩
    have gF : upd H3 rk (.frz od (.dT kvr)) rk = some (.frz od (.dT kvr)) := upd_same
    have gkF : upd H3 rk (.frz od (.dT kvr)) fd = some (.dT kvs) := (upd_ne nrf.symm).trans gk3
    have unl : ∀ {G2 : Hp}, Sx (fun c => c = fd) (upd H3 rk (.frz od (.dT kvr))) G2 → Sx (fun c => c = fd) H3 (upd G2 rk (.dT kvr)) := fun {G2} a => Sx.unlock grk a
    generalize upd H3 rk (.frz od (.dT kvr)) = GL at gF gkF unl ⊢
    refine ⟨_, rfl, rk, od, rfl, .inr ⟨_, gF, for_it walk_keysT (fun j τ G2 => ∃ o6 o7 kv, τ = [some v, some u, some (.ref g), some (.ref fd), some (.str su), some (.ref rk), o6, o7] ∧ Sx (fun c => c = fd) GL G2 ∧ G2 fd = some (.dT kv) ∧ FdN kv) ⟨_, _, kvs, rfl, Sx.refl _, gkF, hk⟩ (fun j τ G2 _ ⟨_, _, _, _, c, _⟩ => c.frzs _ _ _ gF) (fun j x τ G0 G2 hj ⟨o6, o7, kv, eτ, c, gk2, hk2⟩ ⟨eG, k', vv, q, hkv, ex, hq⟩ => ?_) fun τ G2 ⟨o6, o7, kv, eτ, c, gk2, hk2⟩ => ?_⟩⟩
    · subst eτ eG ex
      have hmem := List.mem_of_getElem? hkv
      obtain ⟨_, k, ek, t, n, ekk, ht, hn⟩ := hkr.ok _ hmem
      have ek : k' = k.map Sum.inr := ek
      subst ek ekk
      have hq : G2 q = some (.tup [.str t, .str n]) := hq
      obtain ⟨v2, hv2⟩ : ∃ v2, valV kvr (([t, n] : List Str).map Sum.inr) = some v2 := by
        have : (kvr.any fun kv => decide (kv.1 = ([t, n] : List Str).map Sum.inr)) = true := List.any_eq_true.mpr ⟨_, hmem, decide_eq_true rfl⟩
        rw [valV_any] at this
        exact Option.isSome_iff_exists.mp this
      have gF2 := c.frzs _ _ _ gF
      have := hk2.len
      refine ⟨q, _, rfl, .of hq, rfl, _, _, rfl, _, _, rfl, rfl, _, rfl, _, rfl, _, rfl, by show 2 ≤ sizeLine; omega, fun q2 hq2 => ⟨rk, v2, rfl, .inr ⟨_, _, q2, .inr ⟨od, (Sx.new (M := Nob) hq2).frzs _ _ _ gF2⟩, rfl, upd_same, hv2.symm⟩, _, rfl, _, rfl, _, rfl, _, rfl, by show 3 ≤ sizeLine; omega, fun q3 hq3 => ?_⟩⟩
      have d2 : Sm G2 (upd G2 q2 (.tup [.str t, .str n])) := Sx.new hq2
      have d3 : Sm (upd G2 q2 (.tup [.str t, .str n])) (upd (upd G2 q2 (.tup [.str t, .str n])) q3 (.tup [.str t, .str n, .str su])) := Sx.new hq3
      have gk3 := (d2.trans d3).atS gk2
      refine ⟨fd, _, rfl, DPut.t (k := ([t, n, su] : List Str).map Sum.inr) gk3 upd_same (by omega), _, _, _, rfl, (c.trans (Sx.of (d2.trans d3))).trans (Sx.put gk3 rfl), upd_same, hk2.put ⟨t, n, su, rfl, ht, hn, hsu⟩⟩
    · subst eτ
      refine ⟨c.frzs _ _ _ gF, _, _, _, _, kv, rfl, b.trans ((Sx.of a3).trans (unl c)), (upd_ne nrf.symm).trans gk2, hk2⟩
  · subst eτ
    exact ⟨_, rfl, hQ fd kvs G (aH1.after ((Sx.of afd).trans b) fun c o e m => by rw [m, hfdH] at e; cases e) hfdH gk hk⟩
def sp_evaluate (K : PySem.W.Frag) : Sp := fun vs H Q _ => ∃ (v u : V) (l : List (List Str)), vs = [v, u] ∧ Dp K H v (schD lawSch) ∧ Tabs K H ∧ Lu H u l ∧ l.Nodup ∧ (∀ k ∈ l, k ∈ allR) ∧ l.length ≤ 100 ∧ ∀ x t H', Sm H H' → Lu H' x t → Gd t → Q x H'
abbrev N_evaluate : List Str := ["schema", "relationships"]
theorem ok_evaluate (W : Wd K mg base) : FnOk P w K mg base CX0 8 (A_evaluate K) (F_evaluate K) ["schema", "relationships"] (sp_evaluate K) := by
  refine W.fu_evaluate.ok sc_evaluate (fun vs H Q E h => by obtain ⟨_, _, _, rfl, _⟩ := h; rfl) fun cdv A outer s H vs Q E hr h => ?_
  obtain ⟨v, u, l, rfl, hd, hT, hl, nd, hR, hlen, hQ⟩ := h
  refine ⟨_, PSs.nox (pss_cons (ps_expr (pe_call (ok_check_relationships W) (hr.mono (by decide)) rfl W.gl_check_relationships (W.fu_check_relationships).kp W.bd_check_relationships .nil pass0 (pa_cons (pv 0) (pa_cons (pv 1) pa_nil))))
      (pss_one (ps_ret (pe_callB (cr_srt rfl hr.units) (by rfl) W.fr_sorted (by decide +kernel) (pa_cons (pe_call (ok_ranked W) (hr.mono (by decide)) rfl W.gl_ranked (W.fu_ranked).kp W.bd_ranked .nil pass0 (pa_cons (pv 0) (pa_cons (pv 1) pa_nil))) pa_nil))))), ?_⟩
  refine ⟨_, rfl, _, rfl, v, u, l, rfl, hd, hT, hl, nd, hR, by omega, fun H1 a1 => ⟨_, rfl, _, rfl, v, u, l, rfl, dp_sx a1 _ _ (schD_noL _) hd, hT.sx a1, hl.sx a1, hR, hlen, fun fd kvs H2 a2 _ gfd hk => ?_⟩⟩
  obtain ⟨ks, eks, gks, _⟩ := hk.keys
  refine ⟨fd, ks, rfl, gks.ne, .inr ⟨kvs, .of gfd, eks⟩, fun p ys hp hys => ?_⟩
  have a3 : Sm H2 (upd H2 p (.lst ys)) := Sx.new hp
  exact hQ (.ref p) (sortU ks) _ ((a1.trans a2).trans a3) ⟨p, ys, rfl, upd_same, hys.sx a3⟩ gks.sort
end
end K83
namespace K83
open PySem PySem.Spec PyProof.Rows L2 L2.DX GxR
/-! ### a revision, the primary -/
abbrev cV (K : PySem.W.Frag) : Addr := He.ga K "Revision"
abbrev cP (K : PySem.W.Frag) : Addr := He.ga K "Primary"
structure RelOk (l : List (List Str)) : Prop where
  nd : l.Nodup
  all : ∀ k ∈ l, k ∈ allR
theorem RelOk.len {l : List (List Str)} (h : RelOk l) : l.length ≤ 30 := nodup_le l allR h.nd h.all
theorem allR_ne : ∀ k ∈ allR, k ≠ [] := by decide +kernel
theorem RelOk.gd {l : List (List Str)} (h : RelOk l) : Gd l := ⟨h.nd, fun k hk => allR_ne k (h.all k hk), by have := h.len; omega⟩
theorem RelOk.sort {l : List (List Str)} (h : RelOk l) : RelOk (sortU l) := ⟨(sortU_perm l).nodup_iff.mpr h.nd, fun k hk => h.all k ((sortU_perm l).mem_iff.mp hk)⟩
structure RvAt (K : PySem.W.Frag) (H : Hp) (r : Addr) (rel t : List (List Str)) : Prop where
  ex : ∃ (dx : Addr) (v x y : V), H r = some (.ins (cV K) dx [("schema", v), ("relationships", x), ("table", y)]) ∧ Dp K H v (schD lawSch) ∧ Lu H x rel ∧ Lu H y t
  ok : RelOk rel
  gd : Gd t
theorem RvAt.sxM {M : Addr → Prop} {K : PySem.W.Frag} {H H1 : Hp} {r : Addr} {rel t : List (List Str)} (a : Sx M H H1) (nr : ¬ M r) (nl : ∀ b xs l, H b = some (.lst xs) → Tus H xs l → ¬ M b) (h : RvAt K H r rel t) : RvAt K H1 r rel t := by
  obtain ⟨dx, v, x, y, h1, h2, ⟨bx, xs, ex, hx, tx⟩, ⟨by', ys, ey, hy, ty⟩⟩ := h.ex
  exact ⟨⟨dx, v, x, y, a.at h1 nr, dp_sx a _ _ (schD_noL _) h2, ⟨bx, xs, ex, a.at hx (nl _ _ _ hx tx), tx.sx a⟩, ⟨by', ys, ey, a.at hy (nl _ _ _ hy ty), ty.sx a⟩⟩, h.ok, h.gd⟩
theorem RvAt.sx {K : PySem.W.Frag} {H H1 : Hp} {r : Addr} {rel t : List (List Str)} (a : Sm H H1) (h : RvAt K H r rel t) : RvAt K H1 r rel t := h.sxM a (fun z => z) fun _ _ _ _ _ z => z
structure PrAt (K : PySem.W.Frag) (H : Hp) (p rv : Addr) (ts : List (List (List Str))) (rel : List (List Str)) : Prop where
  ex : ∃ (dx : Addr) (rs : List Addr) (r : Addr) (ts0 : List (List (List Str))) (t : List (List Str)), H p = some (.ins (cP K) dx [("name", .str "main"), ("first", .int 0), ("revisions", .ref rv)]) ∧ H rv = some (.lst ((rs ++ [r]).map V.ref)) ∧
    Paired (fun r t => ∃ l, RvAt K H r l t) rs ts0 ∧ RvAt K H r rel t ∧ ts = ts0 ++ [t]
  len : ts.length ≤ 41
theorem PrAt.sx {K : PySem.W.Frag} {H H1 : Hp} {p rv : Addr} {ts : List (List (List Str))} {rel : List (List Str)} (a : Sm H H1) (h : PrAt K H p rv ts rel) : PrAt K H1 p rv ts rel := by
  obtain ⟨dx, rs, r, ts0, t, h1, h2, h3, h5, h6⟩ := h.ex
  exact ⟨⟨dx, rs, r, ts0, t, a.atS h1, a.atS h2, Paired.mapP h3 fun _ _ ⟨l, q⟩ => ⟨l, q.sx a⟩, h5.sx a, h6⟩, h.len⟩
section
variable {P : Program} {w : World} {K : PySem.W.Frag} {mg : Str → Option Value} {base : Heap}
def sp_Revision_init (K : PySem.W.Frag) : Sp := fun vs H Q _ => ∃ (r dx : Addr) (v u : V) (l : List (List Str)), vs = [.ref r, v, u] ∧ H r = some (.ins (cV K) dx []) ∧ Dp K H v (schD lawSch) ∧ Tabs K H ∧ Lu H u l ∧ RelOk l ∧ ∀ rel t H', Sx (fun b => b = r) H H' → RvAt K H' r rel t → Q .non H'
abbrev N_Revision_init : List Str := ["self", "schema", "relationships"]
theorem ok_Revision_init (W : Wd K mg base) : FnOk P w K mg base CX0 9 (A_Revision_init K) (F_Revision_init K) ["self", "schema", "relationships"] (sp_Revision_init K) := by
  refine W.fu_Revision_init.ok sc_Revision_init (fun vs H Q E h => by obtain ⟨_, _, _, _, _, rfl, _⟩ := h; rfl) fun cdv A outer s H vs Q E hr h => ?_
  obtain ⟨r, dx, v, u, l, rfl, hr0, hd, hT, hl, ok, hQ⟩ := h
  refine ⟨_, PSs.nox (pss_cons (ps_fld (pv 0) (pv 1) rfl)
      (pss_cons (ps_fld (pv 0) (pe_callB (cr_srt rfl hr.units) (by rfl) W.fr_sorted (by decide +kernel) (pa_cons (pv 2) pa_nil)) rfl)
      (pss_one (ps_fld (pv 0) (pe_call (ok_evaluate W) (hr.mono (by decide)) rfl W.gl_evaluate (W.fu_evaluate).kp W.bd_evaluate .nil pass0 (pa_cons (pv 1) (pa_cons (pe_fld (pv 0) rfl) pa_nil))) rfl)))), ?_⟩
  have sz : sizeLine = 16777216 := sizeLine_eq
  refine ⟨_, rfl, _, rfl, r, cV K, dx, _, rfl, hr0, W.cl_Revision, W.na_Revision_schema, (by show 0 < 1000; decide), ?_⟩
  have a1 : Sx (fun b => b = r) H (upd H r (.ins (cV K) dx (putF "schema" v []))) := Sx.put hr0 rfl
  have hr1 : upd H r (.ins (cV K) dx (putF "schema" v [])) r = some (.ins (cV K) dx [("schema", v)]) := upd_same
  have hl1 : Lu (upd H r (.ins (cV K) dx (putF "schema" v []))) u l := hl.sxM a1 fun b xs hb z => by rw [z, hr0] at hb; cases hb
  generalize upd H r (.ins (cV K) dx (putF "schema" v [])) = G1 at a1 hr1 hl1 ⊢
  obtain ⟨a, xs, rfl, ha, hxs⟩ := hl1
  refine ⟨_, rfl, a, l, rfl, ok.gd.ne, .inl ⟨xs, .of ha, hxs⟩, fun p ys hp hys => ?_⟩
  have a2 : Sm G1 (upd G1 p (.lst ys)) := Sx.new hp
  have gp : upd G1 p (.lst ys) p = some (.lst ys) := upd_same
  have hys2 := hys.sx a2
  generalize upd G1 p (.lst ys) = G2 at a2 gp hys2 ⊢
  have hr2 := a2.atS hr1
  refine ⟨_, rfl, r, cV K, dx, _, rfl, hr2, W.cl_Revision, W.na_Revision_relationships, (by show 1 < 1000; decide), ?_⟩
  have a3 : Sx (fun b => b = r) G2 (upd G2 r (.ins (cV K) dx (putF "relationships" (.ref p) [("schema", v)]))) := Sx.put hr2 rfl
  have hr3 : upd G2 r (.ins (cV K) dx (putF "relationships" (.ref p) [("schema", v)])) r = some (.ins (cV K) dx [("schema", v), ("relationships", .ref p)]) := upd_same
  have gp3 := a3.at gp (ne_of gp hr2 fun z => nomatch z)
  have hys3 := hys2.sx a3
  generalize upd G2 r (.ins (cV K) dx (putF "relationships" (.ref p) [("schema", v)])) = G3 at a3 hr3 gp3 hys3 ⊢
  have a03 := (a1.trans (Sx.of a2)).trans a3
  refine ⟨_, rfl, _, rfl, r, cV K, dx, _, _, rfl, hr3, W.cl_Revision, W.na_Revision_relationships, rfl, v, .ref p, sortU l, rfl, dp_sx a03 _ _ (schD_noL _) hd, hT.sx a03, ⟨p, ys, rfl, gp3, hys3⟩, ok.sort.nd, ok.sort.all, by have := ok.sort.len; omega, fun x t G4 a4 hx gt => ?_⟩
  have hr4 := a4.atS hr3
  refine ⟨_, rfl, r, cV K, dx, _, rfl, hr4, W.cl_Revision, W.na_Revision_table, (by show 2 < 1000; decide), ?_⟩
  have a5 : Sx (fun b => b = r) G4 (upd G4 r (.ins (cV K) dx (putF "table" x [("schema", v), ("relationships", .ref p)]))) := Sx.put hr4 rfl
  have nl : NoL (fun b => b = r) G4 := fun b xs hb z => by rw [z, hr4] at hb; cases hb
  have a05 := (a03.trans (Sx.of a4)).trans a5
  refine hQ (sortU l) t _ a05 ⟨⟨dx, v, .ref p, x, upd_same, dp_sx a05 _ _ (schD_noL _) hd, Lu.sxM a5 nl (Lu.sx a4 ⟨p, ys, rfl, gp3, hys3⟩), hx.sxM a5 nl⟩, ok.sort, gt⟩
/-- the default of relationships -/
def dfP (K : PySem.W.Frag) : V := .ref (He.dflAt ("Primary", some "__init__") 0 K)
theorem Wd.bd_Primary_init (W : Wd K mg base) : ∃ ds, Vals [dfP K] ds ∧ Binds K (F_Primary_init K) ["self", "name", "schema", "relationships"] ds :=
  (W.fu_Primary_init).binds1 3 0 (by intro z; cases z) rfl fun T kV doc pm an cdv ct us its h1 h2 => match us, its, h1, h2 with | [_, _, _], [_], _, _ => ⟨_, rfl, rfl⟩
theorem Wd.dfP (W : Wd K mg base) (H : Hp) : SqT K H (He.dflAt ("Primary", some "__init__") 0 K) [] := by
  have h : tupAtB K (He.dflAt ("Primary", some "__init__") 0 K) [] = true := W.more (i := 1) rfl
  unfold tupAtB at h
  generalize He.dflAt ("Primary", some "__init__") 0 K = a at h ⊢
  cases q : K.lookup a with
  | none => rw [q] at h; cases h
  | some o =>
    obtain ⟨oc, od, dt, osl⟩ := o
    rw [q] at h
    cases oc with
    | type c =>
      cases dt with
      | seq its n =>
        obtain ⟨h1, h2⟩ := Bool.and_eq_true_iff.mp (show (decide (c = "tuple") && (decide (its.size ≤ sizeLine) && He.relAll [] its.toList)) = true from h)
        obtain ⟨h3, h4⟩ := Bool.and_eq_true_iff.mp h2
        exact .inr ⟨_, its, n, q, congrArg Value.type (of_decide_eq_true h1), rfl, of_decide_eq_true h3, He.relAll_ok h4⟩
      | _ => cases h
    | _ => cases dt <;> cases h
def sp_Primary_init (K : PySem.W.Frag) : Sp := fun vs H Q _ => ∃ (p dx : Addr), vs = [.ref p, .str "main", .str lawText, dfP K] ∧ H p = some (.ins (cP K) dx []) ∧ Tabs K H ∧ ∀ rv t rel H', H rv = none → Sx (fun b => b = p) H H' → PrAt K H' p rv [t] rel → Q .non H'
abbrev N_Primary_init : List Str := ["self", "name", "schema", "relationships"]
theorem ok_Primary_init (W : Wd K mg base) : FnOk P w K mg base CX0 11 (A_Primary_init K) (F_Primary_init K) ["self", "name", "schema", "relationships"] (sp_Primary_init K) := by
  refine W.fu_Primary_init.ok sc_Primary_init (fun vs H Q E h => by obtain ⟨_, _, rfl, _⟩ := h; rfl) fun cdv A outer s H vs Q E hr h => ?_
  obtain ⟨p, dx, rfl, hp, hT, hQ⟩ := h
  refine ⟨_, PSs.nox (pss_cons (ps_fld (pv 0) (pv 1) rfl)
      (pss_cons (ps_fld (pv 0) pe_int rfl)
      (pss_one (ps_fld (pv 0) (pe_lst (pa_cons (pe_make W.mk_Revision (ok_Revision_init W) (hr.mono (by decide)) rfl W.gl_Revision W.bd_Revision_init .nil pass0 (pa_cons (pe_call (ok_read_schema W) (hr.mono (by decide)) rfl W.gl_read_schema (W.fu_read_schema).kp W.bd_read_schema .nil pass0 (pa_cons (pv 2) pa_nil)) (pa_cons (pe_callTy call_list_of (by rfl) W.fr_list (by decide +kernel) (pa_cons (pv 3) pa_nil)) pa_nil))) pa_nil)) rfl)))), ?_⟩
  have sz : sizeLine = 16777216 := sizeLine_eq
  refine ⟨_, rfl, _, rfl, p, cP K, dx, _, rfl, hp, W.cl_Primary, W.na_Primary_name, (by show 0 < 1000; decide), ?_⟩
  refine ⟨_, rfl, p, cP K, dx, _, rfl, upd_same, W.cl_Primary, W.na_Primary_first, (by show 1 < 1000; decide), ?_⟩
  rw [upd_upd]
  have a1 : Sx (fun b => b = p) H (upd H p (.ins (cP K) dx (putF "first" (.int 0) (putF "name" (.str "main") [])))) := Sx.put hp rfl
  have hp1 : upd H p (.ins (cP K) dx (putF "first" (.int 0) (putF "name" (.str "main") []))) p = some (.ins (cP K) dx [("name", .str "main"), ("first", .int 0)]) := upd_same
  generalize upd H p (.ins (cP K) dx (putF "first" (.int 0) (putF "name" (.str "main") []))) = G1 at a1 hp1 ⊢
  refine ⟨_, rfl, lawText, lawTys, rfl, law_rd, hT.sx a1, fun v G2 a2 hv => ?_⟩
  rw [lawSch_eq] at hv
  refine ⟨_, rfl, _, [], rfl, .inr (W.dfP _), fun l hl => ?_⟩
  have a3 : Sm G2 (upd G2 l (.lst [])) := Sx.new hl
  have gl : upd G2 l (.lst []) l = some (.lst []) := upd_same
  generalize upd G2 l (.lst []) = G3 at a3 gl ⊢
  intro r dr hr0 hdr ner
  have a4 := Sm.made0 (C := cV K) hr0 hdr ner
  have a03 := (a1.trans (Sx.of a2)).trans (Sx.of a3)
  refine ⟨r, dr, v, .ref l, [], rfl, upd_same, dp_sx (a3.trans a4) _ _ (schD_noL _) hv, (hT.sx a03).sx a4, ⟨l, [], rfl, a4.atS gl, .nil⟩, ⟨List.nodup_nil, fun k h => absurd h List.not_mem_nil⟩, fun rel t G4 a5 hR => ⟨rfl, by show 1 ≤ sizeLine; omega, fun rv hrv => ?_⟩⟩
  have a6 : Sm G3 G4 := Sm.made hr0 hdr ner a5
  have a7 : Sm G4 (upd G4 rv (.lst [.ref r])) := Sx.new hrv
  have grv : upd G4 rv (.lst [.ref r]) rv = some (.lst [.ref r]) := upd_same
  have hrvH : H rv = none := a03.old _ (a6.old _ hrv)
  have hR7 := hR.sx a7
  have a07 := a03.trans (Sx.of (a6.trans a7))
  have hp7 := (a2.trans (a3.trans (a6.trans a7))).atS hp1
  generalize upd G4 rv (.lst [.ref r]) = G5 at a7 grv hR7 a07 hp7 ⊢
  refine ⟨_, rfl, p, cP K, dx, _, rfl, hp7, W.cl_Primary, W.na_Primary_revisions, (by show 2 < 1000; decide), ?_⟩
  have a8 : Sx (fun b => b = p) G5 (upd G5 p (.ins (cP K) dx (putF "revisions" (.ref rv) [("name", .str "main"), ("first", .int 0)]))) := Sx.put hp7 rfl
  have hRp : RvAt K (upd G5 p (.ins (cP K) dx (putF "revisions" (.ref rv) [("name", .str "main"), ("first", .int 0)]))) r rel t := hR7.sxM a8 (fun z => by rw [z, (a2.trans a3).atS hp1] at hr0; cases hr0) fun b xs l hb _ z => by rw [z, hp7] at hb; cases hb
  exact hQ rv t rel _ hrvH (a07.trans a8) ⟨⟨dx, [], r, [], t, upd_same, a8.at grv (ne_of grv hp7 fun z => nomatch z), .nil, hRp, rfl⟩, by show 1 ≤ 41; decide⟩
end
end K83
namespace K83
open PySem PySem.Spec PyProof.Rows L2 L2.DX GxR
section
variable {P : Program} {w : World} {K : PySem.W.Frag} {mg : Str → Option Value} {base : Heap}
theorem PrAt.pos {H : Hp} {p rv : Addr} {ts : List (List (List Str))} {rel : List (List Str)} (h : PrAt K H p rv ts rel) : 1 ≤ ts.length := by
  obtain ⟨_, _, _, ts0, t, _, _, _, _, e⟩ := h.ex
  rw [e, List.length_append]
  show 1 ≤ ts0.length + 1
  omega
theorem PrAt.rs {H : Hp} {p rv : Addr} {ts : List (List (List Str))} {rel : List (List Str)} (h : PrAt K H p rv ts rel) : ∃ (dx : Addr) (rs : List Addr), H p = some (.ins (cP K) dx [("name", .str "main"), ("first", .int 0), ("revisions", .ref rv)]) ∧ H rv = some (.lst (rs.map V.ref)) ∧ rs.length = ts.length ∧
    ∀ k t, ts[k]? = some t → ∃ r l, rs[k]? = some r ∧ RvAt K H r l t ∧ (k + 1 = ts.length → l = rel) := by
  obtain ⟨dx, rs, r, ts0, t, h1, h2, h3, h4, e⟩ := h.ex
  have l1 : rs.length = ts0.length := Paired.length h3
  refine ⟨dx, rs ++ [r], h1, h2, by rw [e, List.length_append, List.length_append, l1]; rfl, fun k t' hk => ?_⟩
  rw [e] at hk ⊢
  rw [List.length_append]
  by_cases lt : k < ts0.length
  · rw [List.getElem?_append_left lt] at hk
    obtain ⟨r', hr', l, hl⟩ := pr_get2 h3 hk
    exact ⟨r', l, by rw [List.getElem?_append_left (by omega)]; exact hr', hl, fun z => by simp at z; omega⟩
  · rw [List.getElem?_append_right (by omega)] at hk
    have ek : k - ts0.length = 0 := by
      have := (List.getElem?_eq_some_iff.mp hk).1
      simp at this
      omega
    rw [ek] at hk
    have ht : t = t' := by simpa using hk
    subst ht
    exact ⟨r, rel, by rw [List.getElem?_append_right (by omega), l1, ek]; rfl, h4, fun _ => rfl⟩
def sp_Primary_revision (K : PySem.W.Frag) : Sp := fun vs H Q _ => ∃ (p rv : Addr) (ts : List (List (List Str))) (rel : List (List Str)), vs = [.ref p] ∧ PrAt K H p rv ts rel ∧ Q (.int ((ts.length - 1 : Nat) : Int)) H
theorem ok_Primary_revision (W : Wd K mg base) : FnOk P w K mg base CX0 1 (A_Primary_revision K) (F_Primary_revision K) ["self"] (sp_Primary_revision K) := by
  refine W.fu_Primary_revision.ok sc_Primary_revision (fun vs H Q E h => by obtain ⟨_, _, _, _, rfl, _⟩ := h; rfl) fun cdv A outer s H vs Q E hr h => ?_
  obtain ⟨p, rv, ts, rel, rfl, hP, hQ⟩ := h
  refine ⟨_, PSs.nox (pss_one (ps_ret (pe_op op_sub (pe_op op_add (pe_fld (pv 0) rfl) (pe_callB call_len_seq (by rfl) W.fr_len PySem.boot_len (pa_cons (pe_fld (pv 0) rfl) pa_nil))) pe_int))), ?_⟩
  obtain ⟨dx, rs, hp, hrv, hl, _⟩ := hP.rs
  have hpos := hP.pos
  refine ⟨_, rfl, p, cP K, dx, _, _, rfl, hp, W.cl_Primary, W.na_Primary_first, rfl, _, rfl, p, cP K, dx, _, _, rfl, hp, W.cl_Primary, W.na_Primary_revisions, rfl, rv, _, rfl, .inl (.of hrv), _, _, rfl, rfl, _, _, rfl, rfl, ?_⟩
  rw [List.length_map, hl]
  have e : (0 : Int) + (ts.length : Int) - 1 = ((ts.length - 1 : Nat) : Int) := by omega
  show Q (.int ((0 : Int) + (ts.length : Int) - 1)) H
  rw [e]
  exact hQ
def sp_Primary_token (K : PySem.W.Frag) : Sp := fun vs H Q _ => ∃ (p rv : Addr) (ts : List (List (List Str))) (rel : List (List Str)), vs = [.ref p] ∧ PrAt K H p rv ts rel ∧ Q (.str (tok (ts.length - 1))) H
theorem ok_Primary_token (W : Wd K mg base) : FnOk P w K mg base CX0 2 (A_Primary_token K) (F_Primary_token K) ["self"] (sp_Primary_token K) := by
  refine W.fu_Primary_token.ok sc_Primary_token (fun vs H Q E h => by obtain ⟨_, _, _, _, rfl, _⟩ := h; rfl) fun cdv A outer s H vs Q E hr h => ?_
  obtain ⟨p, rv, ts, rel, rfl, hP, hQ⟩ := h
  refine ⟨_, PSs.nox (pss_one (ps_ret (pe_call (ok_token_of W) (hr.mono (by decide)) rfl W.gl_token_of (W.fu_token_of).kp W.bd_token_of .nil pass0 (pa_cons (pe_fld (pv 0) rfl) (pa_cons (pe_meth0 (pv 0) W.cl_Primary W.mt_Primary_revision (ok_Primary_revision W) (hr.mono (by decide)) W.bd_Primary_revision .nil pass0) pa_nil))))), ?_⟩
  obtain ⟨dx, rs, hp, hrv, hl, _⟩ := hP.rs
  have := hP.len
  exact ⟨_, rfl, p, cP K, dx, _, _, rfl, hp, W.cl_Primary, W.na_Primary_name, rfl, _, rfl, p, dx, _, rfl, hp, rfl, p, rv, ts, rel, rfl, hP, ts.length - 1, rfl, by omega, hQ⟩
def sp_Primary_check_room (K : PySem.W.Frag) : Sp := fun vs H Q _ => ∃ (p rv : Addr) (ts : List (List (List Str))) (rel : List (List Str)), vs = [.ref p] ∧ PrAt K H p rv ts rel ∧ ts.length ≤ 40 ∧ Q .non H
theorem ok_Primary_check_room (W : Wd K mg base) : FnOk P w K mg base CX0 2 (A_Primary_check_room K) (F_Primary_check_room K) ["self"] (sp_Primary_check_room K) := by
  refine W.fu_Primary_check_room.ok sc_Primary_check_room (fun vs H Q E h => by obtain ⟨_, _, _, _, rfl, _⟩ := h; rfl) fun cdv A outer s H vs Q E hr h => ?_
  obtain ⟨p, rv, ts, rel, rfl, hP, hlen, hQ⟩ := h
  refine ⟨_, PSs.nox (pss_one (ps_if (pt_cmpR op_ge (pe_meth0 (pv 0) W.cl_Primary W.mt_Primary_revision (ok_Primary_revision W) (hr.mono (by decide)) W.bd_Primary_revision .nil pass0) (pe_gint rfl W.in_MOST_REVISIONS) (nomark _)) (pss_one ps_never) pss_nil)), ?_⟩
  obtain ⟨dx, rs, hp, hrv, hl, _⟩ := hP.rs
  refine ⟨_, rfl, p, dx, _, rfl, hp, rfl, p, rv, ts, rel, rfl, hP, _, _, rfl, rfl, _, rfl, itF ?_ hQ⟩
  exact decide_eq_false (by omega)
def sp_Primary_check_revision (K : PySem.W.Frag) : Sp := fun vs H Q _ => ∃ (p rv : Addr) (ts : List (List (List Str))) (rel : List (List Str)) (k l : Nat), vs = [.ref p, .int k, .int l] ∧ PrAt K H p rv ts rel ∧ l ≤ k ∧ k < ts.length ∧ Q .non H
theorem ok_Primary_check_revision (W : Wd K mg base) : FnOk P w K mg base CX0 2 (A_Primary_check_revision K) (F_Primary_check_revision K) ["self", "number", "least"] (sp_Primary_check_revision K) := by
  refine W.fu_Primary_check_revision.ok sc_Primary_check_revision (fun vs H Q E h => by obtain ⟨_, _, _, _, _, _, rfl, _⟩ := h; rfl) fun cdv A outer s H vs Q E hr h => ?_
  obtain ⟨p, rv, ts, rel, k, l, rfl, hP, h1, h2, hQ⟩ := h
  refine ⟨_, PSs.nox (pss_one (ps_if (pt_not (pt_chain op_le op_le (pv 2) (pv 1) (pe_meth0 (pv 0) W.cl_Primary W.mt_Primary_revision (ok_Primary_revision W) (hr.mono (by decide)) W.bd_Primary_revision .nil pass0))) (pss_one ps_never) pss_nil)), ?_⟩
  obtain ⟨dx, rs, hp, hrv, hl, _⟩ := hP.rs
  refine ⟨_, rfl, _, rfl, _, _, rfl, rfl, _, rfl, itT (decide_eq_true (by omega)) ⟨_, rfl, p, dx, _, rfl, hp, rfl, p, rv, ts, rel, rfl, hP, _, _, rfl, rfl, _, rfl, itF ?_ hQ⟩⟩
  rw [show decide ((k : Int) ≤ ((ts.length - 1 : Nat) : Int)) = true from decide_eq_true (by omega)]
  rfl
def sp_Primary_at_number (K : PySem.W.Frag) : Sp := fun vs H Q _ => ∃ (p rv : Addr) (ts : List (List (List Str))) (rel : List (List Str)) (k : Nat) (t : List (List Str)), vs = [.ref p, .int k] ∧ PrAt K H p rv ts rel ∧ ts[k]? = some t ∧ ∀ r l, RvAt K H r l t → (k + 1 = ts.length → l = rel) → Q (.ref r) H
theorem ok_Primary_at_number (W : Wd K mg base) : FnOk P w K mg base CX0 1 (A_Primary_at_number K) (F_Primary_at_number K) ["self", "number"] (sp_Primary_at_number K) := by
  refine W.fu_Primary_at_number.ok sc_Primary_at_number (fun vs H Q E h => by obtain ⟨_, _, _, _, _, _, rfl, _⟩ := h; rfl) fun cdv A outer s H vs Q E hr h => ?_
  obtain ⟨p, rv, ts, rel, k, t, rfl, hP, hk, hQ⟩ := h
  refine ⟨_, PSs.nox (pss_one (ps_ret (pe_ix ix_list (pe_fld (pv 0) rfl) (pe_op op_sub (pv 1) (pe_fld (pv 0) rfl)) (fun _ _ => rfl)))), ?_⟩
  obtain ⟨dx, rs, hp, hrv, hl, hat⟩ := hP.rs
  obtain ⟨r, l, hr', hR, hlast⟩ := hat k t hk
  refine ⟨_, rfl, p, cP K, dx, _, _, rfl, hp, W.cl_Primary, W.na_Primary_revisions, rfl, _, rfl, _, rfl, p, cP K, dx, _, _, rfl, hp, W.cl_Primary, W.na_Primary_first, rfl, _, _, rfl, rfl, rv, _, ((k : Int) - 0), .ref r, rfl, rfl, .of hrv, ?_, hQ r l hR hlast⟩
  rw [Int.sub_zero]
  exact atI_nat (by rw [List.getElem?_map, hr']; rfl)
def sp_Primary_number_at (K : PySem.W.Frag) : Sp := fun vs H Q _ => ∃ (p rv : Addr) (ts : List (List (List Str))) (rel : List (List Str)) (o : Option Nat), vs = [.ref p, .str (tokS o)] ∧ PrAt K H p rv ts rel ∧ (∀ k, o = some k → k < ts.length) ∧ Tabs K H ∧ ∀ H', Sm H H' → Q (.int ((o.getD (ts.length - 1) : Nat) : Int)) H'
theorem ok_Primary_number_at (W : Wd K mg base) : FnOk P w K mg base CX0 6 (A_Primary_number_at K) (F_Primary_number_at K) ["self", "at"] (sp_Primary_number_at K) := by
  refine W.fu_Primary_number_at.ok sc_Primary_number_at (fun vs H Q E h => by obtain ⟨_, _, _, _, _, rfl, _⟩ := h; rfl) fun cdv A outer s H vs Q E hr h => ?_
  obtain ⟨p, rv, ts, rel, o, rfl, hP, ho, hT, hQ⟩ := h
  refine ⟨_, PSs.nox (pss_cons (ps_if (pt_cmpR op_eq (pv 1) pe_str (nomark _)) (pss_one (ps_ret (pe_meth0 (pv 0) W.cl_Primary W.mt_Primary_revision (ok_Primary_revision W) (hr.mono (by decide)) W.bd_Primary_revision .nil pass0))) pss_nil)
      (pss_cons (ps_asg (pe_call (ok_split_token W) (hr.mono (by decide)) rfl W.gl_split_token (W.fu_split_token).kp W.bd_split_token .nil pass0 (pa_cons (pv 1) pa_nil)) (pg_tup rfl (pgs_cons (pg_name (i := 2) sc_Primary_number_at.nd rfl (by first | exact Or.inl rfl | exact Or.inr rfl)) (pgs_cons (pg_name (i := 3) sc_Primary_number_at.nd rfl (by first | exact Or.inl rfl | exact Or.inr rfl)) pgs_nil))))
      (pss_cons (ps_if (pt_cmpR op_ne (pv 2) (pe_fld (pv 0) rfl) (nomark _)) (pss_one ps_never) pss_nil)
      (pss_cons (ps_expr (pe_meth (pv 0) W.cl_Primary W.mt_Primary_check_revision (ok_Primary_check_revision W) (hr.mono (by decide)) W.bd_Primary_check_revision .nil pass0 (pa_cons (pv 3) (pa_cons (pe_fld (pv 0) rfl) pa_nil))))
      (pss_one (ps_ret (pv 3))))))), ?_⟩
  obtain ⟨dx, rs, hp, hrv, hl, hat⟩ := hP.rs
  have hlen := hP.len
  refine ⟨_, rfl, rfl, _, rfl, ?_⟩
  cases o with
  | none => exact iteT ⟨_, rfl, p, dx, _, rfl, hp, rfl, p, rv, ts, rel, rfl, hP, hQ H (Sx.refl H)⟩
  | some k =>
    have hk := ho k rfl
    rw [show decide (V.str (tokS (some k)) = V.str "") = false from decide_eq_false fun z => tok_ne k (by omega) (by injection z)]
    refine iteF ⟨_, rfl, k, rfl, by omega, hT, fun v G a ⟨b, ev, hb⟩ => ?_⟩
    subst ev
    have hpG := a.atS hp
    refine ⟨b, _, rfl, .of hb, rfl, _, _, rfl, _, _, rfl, rfl, _, rfl, _, rfl, p, cP K, dx, _, _, rfl, hpG, W.cl_Primary, W.na_Primary_name, rfl, rfl, _, rfl, ?_⟩
    rw [show (!decide (V.str "main" = V.str "main")) = false by simp]
    refine iteF ⟨_, rfl, p, dx, _, rfl, hpG, rfl, _, rfl, _, rfl, p, cP K, dx, _, _, rfl, hpG, W.cl_Primary, W.na_Primary_first, rfl, p, rv, ts, rel, k, 0, rfl, hP.sx a, Nat.zero_le _, hk, _, rfl, hQ G a⟩
def sp_Primary_relationships (K : PySem.W.Frag) : Sp := fun vs H Q _ => ∃ (p rv : Addr) (ts : List (List (List Str))) (rel : List (List Str)), vs = [.ref p, .str ""] ∧ PrAt K H p rv ts rel ∧ Tabs K H ∧ ∀ x H', Sm H H' → Lu H' x rel → Q x H'
theorem ok_Primary_relationships (W : Wd K mg base) : FnOk P w K mg base CX0 7 (A_Primary_relationships K) (F_Primary_relationships K) ["self", "at"] (sp_Primary_relationships K) := by
  refine W.fu_Primary_relationships.ok sc_Primary_relationships (fun vs H Q E h => by obtain ⟨_, _, _, _, rfl, _⟩ := h; rfl) fun cdv A outer s H vs Q E hr h => ?_
  obtain ⟨p, rv, ts, rel, rfl, hP, hT, hQ⟩ := h
  refine ⟨_, PSs.nox (pss_one (ps_ret (pe_callTy call_list_of (by rfl) W.fr_list (by decide +kernel) (pa_cons (pe_fld (pe_meth (pv 0) W.cl_Primary W.mt_Primary_at_number (ok_Primary_at_number W) (hr.mono (by decide)) W.bd_Primary_at_number .nil pass0 (pa_cons (pe_meth (pv 0) W.cl_Primary W.mt_Primary_number_at (ok_Primary_number_at W) (hr.mono (by decide)) W.bd_Primary_number_at .nil pass0 (pa_cons (pv 1) pa_nil)) pa_nil)) rfl) pa_nil)))), ?_⟩
  obtain ⟨dx, rs, hp, hrv, hl, hat⟩ := hP.rs
  have hpos := hP.pos
  obtain ⟨t, ht⟩ : ∃ t, ts[ts.length - 1]? = some t := ⟨_, List.getElem?_eq_getElem (by omega)⟩
  refine ⟨_, rfl, p, dx, _, rfl, hp, rfl, _, rfl, p, dx, _, rfl, hp, rfl, _, rfl, p, rv, ts, rel, none, rfl, hP, (fun k z => by cases z), hT, fun G a => ?_⟩
  refine ⟨p, rv, ts, rel, ts.length - 1, t, rfl, hP.sx a, ht, fun r l hR hlast => ?_⟩
  have el := hlast (by omega)
  subst el
  obtain ⟨dr, v, x, y, hr1, _, ⟨bx, xs, rfl, hx, tx⟩, _⟩ := hR.ex
  refine ⟨r, cV K, dr, _, _, rfl, hr1, W.cl_Revision, W.na_Revision_relationships, rfl, bx, xs, rfl, .inl (.of hx), fun z hz => ?_⟩
  have a2 : Sm G (upd G z (.lst xs)) := Sx.new hz
  exact hQ _ _ (a.trans a2) ⟨z, xs, rfl, upd_same, tx.sx a2⟩
def sp_Primary_grants (K : PySem.W.Frag) : Sp := fun vs H Q _ => ∃ (p rv : Addr) (ts : List (List (List Str))) (rel : List (List Str)) (k : Nat) (t : List (List Str)), vs = [.ref p, .str (tok k)] ∧ PrAt K H p rv ts rel ∧ ts[k]? = some t ∧ Tabs K H ∧ ∀ x H', Sm H H' → H x = none → Lu H' (.ref x) t → Q (.ref x) H'
theorem ok_Primary_grants (W : Wd K mg base) : FnOk P w K mg base CX0 7 (A_Primary_grants K) (F_Primary_grants K) ["self", "at"] (sp_Primary_grants K) := by
  refine W.fu_Primary_grants.ok sc_Primary_grants (fun vs H Q E h => by obtain ⟨_, _, _, _, _, _, rfl, _⟩ := h; rfl) fun cdv A outer s H vs Q E hr h => ?_
  obtain ⟨p, rv, ts, rel, k, t, rfl, hP, ht, hT, hQ⟩ := h
  refine ⟨_, PSs.nox (pss_one (ps_ret (pe_callTy call_list_of (by rfl) W.fr_list (by decide +kernel) (pa_cons (pe_fld (pe_meth (pv 0) W.cl_Primary W.mt_Primary_at_number (ok_Primary_at_number W) (hr.mono (by decide)) W.bd_Primary_at_number .nil pass0 (pa_cons (pe_meth (pv 0) W.cl_Primary W.mt_Primary_number_at (ok_Primary_number_at W) (hr.mono (by decide)) W.bd_Primary_number_at .nil pass0 (pa_cons (pv 1) pa_nil)) pa_nil)) rfl) pa_nil)))), ?_⟩
  obtain ⟨dx, rs, hp, hrv, hl, hat⟩ := hP.rs
  refine ⟨_, rfl, p, dx, _, rfl, hp, rfl, _, rfl, p, dx, _, rfl, hp, rfl, _, rfl, p, rv, ts, rel, some k, rfl, hP, (fun k z => by cases z; exact (List.getElem?_eq_some_iff.mp ht).1), hT, fun G a => ?_⟩
  refine ⟨p, rv, ts, rel, k, t, rfl, hP.sx a, ht, fun r l hR hlast => ?_⟩
  obtain ⟨dr, v, x, y, hr1, _, _, ⟨bx, xs, rfl, hx, tx⟩⟩ := hR.ex
  refine ⟨r, cV K, dr, _, _, rfl, hr1, W.cl_Revision, W.na_Revision_table, rfl, bx, xs, rfl, .inl (.of hx), fun z hz => ?_⟩
  have a2 : Sm G (upd G z (.lst xs)) := Sx.new hz
  exact hQ _ _ (a.trans a2) (a.old z hz) ⟨z, xs, rfl, upd_same, tx.sx a2⟩
def sp_Primary_snapshot (K : PySem.W.Frag) : Sp := fun vs H Q _ => ∃ (p rv : Addr) (ts : List (List (List Str))) (rel : List (List Str)) (k : Nat) (t : List (List Str)), vs = [.ref p, .str (tok k)] ∧ PrAt K H p rv ts rel ∧ ts[k]? = some t ∧ Tabs K H ∧ ∀ b x H', Sm H H' → H' b = some (.tup [.str "main", .int k, x]) → Lu H' x t → Q (.ref b) H'
theorem ok_Primary_snapshot (W : Wd K mg base) : FnOk P w K mg base CX0 7 (A_Primary_snapshot K) (F_Primary_snapshot K) ["self", "at"] (sp_Primary_snapshot K) := by
  refine W.fu_Primary_snapshot.ok sc_Primary_snapshot (fun vs H Q E h => by obtain ⟨_, _, _, _, _, _, rfl, _⟩ := h; rfl) fun cdv A outer s H vs Q E hr h => ?_
  obtain ⟨p, rv, ts, rel, k, t, rfl, hP, ht, hT, hQ⟩ := h
  refine ⟨_, PSs.nox (pss_cons (ps_set (i := 2) sc_Primary_snapshot.nd rfl (by first | exact Or.inl rfl | exact Or.inr rfl) (pe_meth (pv 0) W.cl_Primary W.mt_Primary_number_at (ok_Primary_number_at W) (hr.mono (by decide)) W.bd_Primary_number_at .nil pass0 (pa_cons (pv 1) pa_nil)))
      (pss_one (ps_ret (pe_tup (pa_cons (pe_fld (pv 0) rfl) (pa_cons (pv 2) (pa_cons (pe_callTy call_list_of (by rfl) W.fr_list (by decide +kernel) (pa_cons (pe_fld (pe_meth (pv 0) W.cl_Primary W.mt_Primary_at_number (ok_Primary_at_number W) (hr.mono (by decide)) W.bd_Primary_at_number .nil pass0 (pa_cons (pv 2) pa_nil)) rfl) pa_nil)) pa_nil))))))), ?_⟩
  have sz : sizeLine = 16777216 := sizeLine_eq
  obtain ⟨dx, rs, hp, hrv, hl, hat⟩ := hP.rs
  refine ⟨_, rfl, p, dx, _, rfl, hp, rfl, _, rfl, p, rv, ts, rel, some k, rfl, hP, (fun k z => by cases z; exact (List.getElem?_eq_some_iff.mp ht).1), hT, fun G a => ?_⟩
  have hpG := a.atS hp
  refine ⟨_, rfl, p, cP K, dx, _, _, rfl, hpG, W.cl_Primary, W.na_Primary_name, rfl, _, rfl, _, rfl, p, dx, _, rfl, hpG, rfl, _, rfl, p, rv, ts, rel, k, t, rfl, hP.sx a, ht, fun r l hR hlast => ?_⟩
  obtain ⟨dr, v, x, y, hr1, _, _, ⟨bx, xs, rfl, hx, tx⟩⟩ := hR.ex
  refine ⟨r, cV K, dr, _, _, rfl, hr1, W.cl_Revision, W.na_Revision_table, rfl, bx, xs, rfl, .inl (.of hx), fun z hz => ⟨by show 3 ≤ sizeLine; omega, fun b hb => ?_⟩⟩
  have a2 : Sm G (upd G z (.lst xs)) := Sx.new hz
  have a3 : Sm (upd G z (.lst xs)) (upd (upd G z (.lst xs)) b (.tup [.str "main", .int k, .ref z])) := Sx.new hb
  exact hQ b (.ref z) _ (a.trans (a2.trans a3)) upd_same ⟨z, xs, rfl, a3.atS upd_same, tx.sx (a2.trans a3)⟩
def sp_Primary_entry (K : PySem.W.Frag) : Sp := fun vs H Q _ => ∃ (p rv : Addr) (ts : List (List (List Str))) (rel : List (List Str)) (k : Nat) (t u : List (List Str)), vs = [.ref p, .int k] ∧ PrAt K H p rv ts rel ∧ 1 ≤ k ∧ ts[k - 1]? = some t ∧ ts[k]? = some u ∧ ∀ x H', Sm H H' → EntryAt H' x k (gainU t u) (gainU u t) → Q x H'
theorem ok_Primary_entry (W : Wd K mg base) : FnOk P w K mg base CX0 3 (A_Primary_entry K) (F_Primary_entry K) ["self", "number"] (sp_Primary_entry K) := by
  refine W.fu_Primary_entry.ok sc_Primary_entry (fun vs H Q E h => by obtain ⟨_, _, _, _, _, _, _, rfl, _⟩ := h; rfl) fun cdv A outer s H vs Q E hr h => ?_
  obtain ⟨p, rv, ts, rel, k, t, u, rfl, hP, hk, ht, hu, hQ⟩ := h
  refine ⟨_, PSs.nox (pss_cons (ps_expr (pe_meth (pv 0) W.cl_Primary W.mt_Primary_check_revision (ok_Primary_check_revision W) (hr.mono (by decide)) W.bd_Primary_check_revision .nil pass0 (pa_cons (pv 1) (pa_cons (pe_op op_add (pe_fld (pv 0) rfl) pe_int) pa_nil))))
      (pss_cons (ps_asg (pe_call (ok_difference W) (hr.mono (by decide)) rfl W.gl_difference (W.fu_difference).kp W.bd_difference .nil pass0 (pa_cons (pe_fld (pe_meth (pv 0) W.cl_Primary W.mt_Primary_at_number (ok_Primary_at_number W) (hr.mono (by decide)) W.bd_Primary_at_number .nil pass0 (pa_cons (pe_op op_sub (pv 1) pe_int) pa_nil)) rfl) (pa_cons (pe_fld (pe_meth (pv 0) W.cl_Primary W.mt_Primary_at_number (ok_Primary_at_number W) (hr.mono (by decide)) W.bd_Primary_at_number .nil pass0 (pa_cons (pv 1) pa_nil)) rfl) pa_nil))) (pg_tup rfl (pgs_cons (pg_name (i := 2) sc_Primary_entry.nd rfl (by first | exact Or.inl rfl | exact Or.inr rfl)) (pgs_cons (pg_name (i := 3) sc_Primary_entry.nd rfl (by first | exact Or.inl rfl | exact Or.inr rfl)) pgs_nil))))
      (pss_one (ps_ret (pe_tup (pa_cons (pe_fld (pv 0) rfl) (pa_cons (pv 1) (pa_cons (pv 2) (pa_cons (pv 3) pa_nil))))))))), ?_⟩
  have sz : sizeLine = 16777216 := sizeLine_eq
  obtain ⟨dx, rs, hp, hrv, hl, hat⟩ := hP.rs
  refine ⟨_, rfl, p, dx, _, rfl, hp, rfl, _, rfl, _, rfl, p, cP K, dx, _, _, rfl, hp, W.cl_Primary, W.na_Primary_first, rfl, _, _, rfl, rfl, p, rv, ts, rel, k, 1, rfl, hP, hk, (List.getElem?_eq_some_iff.mp hu).1, ?_⟩
  have ek : V.int ((k : Int) - 1) = V.int ((k - 1 : Nat) : Int) := by
    congr 1
    omega
  refine ⟨_, rfl, p, dx, _, rfl, hp, rfl, _, rfl, _, _, rfl, rfl, p, rv, ts, rel, k - 1, t, by show [V.ref p, V.int ((k : Int) - 1)] = _; rw [ek], hP, ht, fun r l hR _ => ?_⟩
  obtain ⟨dr, v, x, y, hr1, _, _, hy⟩ := hR.ex
  refine ⟨r, cV K, dr, _, _, rfl, hr1, W.cl_Revision, W.na_Revision_table, rfl, _, rfl, p, dx, _, rfl, hp, rfl, _, rfl, p, rv, ts, rel, k, u, rfl, hP, hu, fun r2 l2 hR2 _ => ?_⟩
  obtain ⟨dr2, v2, x2, y2, hr2, _, _, hy2⟩ := hR2.ex
  refine ⟨r2, cV K, dr2, _, _, rfl, hr2, W.cl_Revision, W.na_Revision_table, rfl, y, y2, t, u, rfl, hy, hy2, hR.gd, hR2.gd, fun c G a ⟨bc, ga, lo, ec, hbc, hga, hlo⟩ => ?_⟩
  subst ec
  refine ⟨bc, _, rfl, .of hbc, rfl, _, _, rfl, _, _, rfl, rfl, ?_⟩
  refine ⟨_, rfl, p, cP K, dx, _, _, rfl, a.atS hp, W.cl_Primary, W.na_Primary_name, rfl, _, rfl, _, rfl, _, rfl, by show 4 ≤ sizeLine; omega, fun b hb => ?_⟩
  have a2 : Sm G (upd G b (.tup [.str "main", .int k, ga, lo])) := Sx.new hb
  exact hQ (.ref b) _ (a.trans a2) ⟨b, ga, lo, rfl, upd_same, hga.sx a2, hlo.sx a2⟩
end
end K83
namespace K83
open PySem PySem.Spec PyProof.Rows L2 L2.DX GxR
theorem sl_tupK {X : Cx} {K : PySem.W.Frag} (h : X.K = K) : SlR X (rSlT K) := by subst h; exact sl_tup
theorem sl_listK {X : Cx} {K : PySem.W.Frag} (h : X.K = K) : SlR X (rSlL K) := by subst h; exact sl_list
theorem cut1 (x : V) (xs : List V) : cutV (x :: xs) (some ((1 : Nat) : Int)) none = xs := by
  unfold cutV
  rw [HT.sIx_nat, HT.sIx_none]
  have e : min 1 (x :: xs).length = 1 := by rw [List.length_cons]; omega
  rw [e]
  show List.take _ xs = xs
  rw [List.take_of_length_le (by rw [List.length_cons]; omega)]
theorem cut1_ne (x : V) (xs : List V) : ¬ (HT.sIx (x :: xs).length 0 (some ((1 : Nat) : Int)) = 0 ∧ HT.sIx (x :: xs).length (x :: xs).length none = (x :: xs).length) := by
  rintro ⟨z, _⟩
  rw [HT.sIx_nat, List.length_cons] at z
  omega
theorem cutTo {xs : List V} {i : Nat} : cutV xs none (some (i : Int)) = xs.take i := by
  unfold cutV
  rw [HT.sIx_nat, HT.sIx_none, List.drop_zero, Nat.sub_zero]
  by_cases h : i ≤ xs.length
  · rw [Nat.min_eq_left h]
  · rw [Nat.min_eq_right (by omega), List.take_of_length_le (Nat.le_refl _), List.take_of_length_le (by omega)]
/-- [u[1:] for u in list if test]: the tails, new tuples; the test may make new objects -/
theorem tlLc {K : PySem.W.Frag} {a : Addr} {xs : List V} {l : List (List Str)} {p : List Str → Bool} {j : Nat} {σ : L2.St} {vs : List Nat} {H : Hp} {D : Addr} {Q : Hp → Prop} {tt : TT} (hs : SqL K H a xs) (hl : Tus H xs l) (hD : H D = none) (hz : l.length ≤ 1000)
    (hw : ∀ v : V, wipe ((wipe σ vs).set j (some v)) vs = wipe σ vs) (hj : ∀ v : V, ((wipe σ vs).set j (some v))[j]? = some (some v)) (hne : ∀ k ∈ l, ∃ x r, k = x :: r)
    (ht : ∀ k ∈ l, ∀ b G (R : Bool → Hp → Prop), Sm H G → G b = some (.tup (k.map V.str)) → (∀ G', Sm G G' → R (p k) G') → tt ((wipe σ vs).set j (some (.ref b))) G R) (q : ∀ ys G, Sm H G → G D = some (.lst ys) → Tus G ys ((l.filter p).map List.tail) → Q G) :
    ∃ W : Nat → Nat → Hp → Prop, (∃ m, W 0 m (upd H D (.lst []))) ∧ ∀ i m G, W i m G → ((Itl K a).stop i G ∧ Q G) ∨ ((Itl K a).go i G ∧ ∃ Nx : Hp → Prop, (∀ G', Nx G' → ∃ n, n < m ∧ W (i + 1) n G') ∧ ∀ x G', (Itl K a).yld i G x G' → gName j x (wipe σ vs) G' fun τ G2 => wipe τ vs = wipe σ vs ∧ tt τ G2 fun b G3 =>
      if b = true then tSl (rSlT K) (tVar j) (tPart (tC (.int 1))) tNoPart τ G3 fun y G4 => ∃ acc, G4 D = some (.lst acc) ∧ acc.length < sizeLine ∧ Nx (upd G4 D (.lst (acc ++ [y]))) else Nx G3) := by
  have sz : sizeLine = 16777216 := sizeLine_eq
  have w : Walk (Itl K a) l.length (fun H => SqL K H a xs) (YAt xs) := by
    have := walk_list (K := K) (a := a) (xs := xs)
    rwa [show xs.length = l.length from Paired.length hl] at this
  have aD : Sm H (upd H D (.lst [])) := Sx.new hD
  refine lc_it w (fun i G => ∃ ys, Sx (fun c => c = D) (upd H D (.lst [])) G ∧ G D = some (.lst ys) ∧ Tus G ys (((l.take i).filter p).map List.tail)) ⟨[], Sx.refl _, upd_same, by rw [List.take_zero]; exact .nil⟩ (fun i G hi ⟨ys, b, _⟩ => Sx.sqLS (Sx.aft hD aD b) hs) (fun i x G G' hi ⟨ys, b, gD, hp⟩ ⟨eG, hx⟩ => ?_) fun G ⟨ys, b, gD, hp⟩ => ?_
  · subst eG
    obtain ⟨k, hk, bx, rfl, hb⟩ := pr_get hl hx
    have km := List.mem_of_getElem? hk
    have a0 := Sx.aft hD aD b
    refine ⟨hw _, ht k km bx G' _ a0 (a0.tups _ _ hb) fun G2 a2 => ?_⟩
    have gD2 := a2.atS gD
    have hp2 := hp.sx a2
    have b2 := b.trans (Sx.of a2)
    have hb2 := a2.tups _ _ (a0.tups _ _ hb)
    obtain ⟨x, r, ekk⟩ := hne k km
    subst ekk
    cases hpk : p (x :: r) with
    | true =>
      refine iteT ⟨_, hj _, 1, rfl, bx, _, rfl, .of (xs := V.str x :: r.map V.str) hb2, cut1_ne _ _, fun q hq => ⟨ys, (upd_ne (ne_of_none gD2 hq)).trans gD2, ?_, ys ++ [.ref q], ?_⟩⟩
      · have e1 : ys.length = (((l.take i).filter p).map List.tail).length := Paired.length hp
        rw [List.length_map] at e1
        have e2 := List.length_filter_le p (l.take i)
        have e4 : (l.take i).length = min i l.length := List.length_take
        omega
      · have aq : Sm G2 (upd G2 q (.tup (cutV (V.str x :: r.map V.str) (some 1) none))) := Sx.new hq
        have gq : upd G2 q (.tup (cutV (V.str x :: r.map V.str) (some 1) none)) q = some (.tup (r.map V.str)) := by rw [upd_same]; congr 2; exact cut1 _ _
        have gD3 := aq.atS gD2
        have hp3 := hp2.sx aq
        have b3 := b2.trans (Sx.of aq)
        generalize upd G2 q (.tup (cutV (V.str x :: r.map V.str) (some 1) none)) = G3 at gq gD3 hp3 b3 ⊢
        have a4 : Sx (fun c => c = D) G3 (upd G3 D (.lst (ys ++ [.ref q]))) := Sx.put gD3 rfl
        refine ⟨b3.trans a4, upd_same, ?_⟩
        rw [take_snoc hk, List.filter_append, List.filter_cons_of_pos hpk, List.filter_nil, List.map_append]
        exact pr_snoc (hp3.sx a4) ⟨q, rfl, a4.tups _ _ gq⟩
    | false =>
      refine iteF ⟨ys, b2, gD2, ?_⟩
      rw [take_snoc hk, List.filter_append, List.filter_cons_of_neg (by rw [hpk]; decide), List.filter_nil, List.append_nil]
      exact hp2
  · rw [List.take_length] at hp
    exact q ys G (Sx.aft hD aD b) gD hp
structure UpOk (rel us : List (List Str)) : Prop where
  len : us.length ≤ 10
  all : ∀ u ∈ us, ∃ kd k, u = kd :: k ∧ k ∈ allR ∧ (kd = "touch" ∨ (kd = "delete" ∧ k ∈ rel))
  nd : (us.map List.tail).Nodup
section
variable {P : Program} {w : World} {K : PySem.W.Frag} {mg : Str → Option Value} {base : Heap}
def sp_Primary_check_update (K : PySem.W.Frag) : Sp := fun vs H Q _ => ∃ (p rv : Addr) (ts : List (List (List Str))) (rel : List (List Str)) (i : Nat) (vu vk : V) (us : List (List Str)), vs = [.ref p, .int i, vu, vk] ∧ PrAt K H p rv ts rel ∧ Lu H vu us ∧ Lu H vk rel ∧ UpOk rel us ∧ i < us.length ∧ Tabs K H ∧ ∀ H', Sm H H' → Q .non H'
abbrev N_Primary_check_update : List Str := ["self", "index", "updates", "known", "kind", "relationship", "update"]
theorem ok_Primary_check_update (W : Wd K mg base) : FnOk P w K mg base CX0 4 (A_Primary_check_update K) (F_Primary_check_update K) ["self", "index", "updates", "known"] (sp_Primary_check_update K) := by
  refine W.fu_Primary_check_update.ok sc_Primary_check_update (fun vs H Q E h => by obtain ⟨_, _, _, _, _, _, _, _, rfl, _⟩ := h; rfl) fun cdv A outer s H vs Q E hr h => ?_
  obtain ⟨p, rv, ts, rel, i, vu, vk, us, rfl, hP, ⟨a, xs, rfl, ha, hxs⟩, ⟨ak, ks, rfl, hak, hks⟩, hU, hi, hT, hQ⟩ := h
  refine ⟨_, PSs.nox (pss_cons (ps_set (i := 4) sc_Primary_check_update.nd rfl (by first | exact Or.inl rfl | exact Or.inr rfl) (pe_ix ix_tup (pe_ix ix_list (pv 2) (pv 1) (fun _ _ => rfl)) pe_int (fun _ _ => rfl)))
      (pss_cons (ps_set (i := 5) sc_Primary_check_update.nd rfl (by first | exact Or.inl rfl | exact Or.inr rfl) (pe_slice sl_tup (pe_ix ix_list (pv 2) (pv 1) (fun _ _ => rfl)) (po_some pe_int) po_none))
      (pss_cons (ps_if (pt_not (pt_val (pe_call (ok_conforms W) (hr.mono (by decide)) rfl W.gl_conforms (W.fu_conforms).kp W.bd_conforms .nil pass0 (pa_cons (pe_fld (pe_ix ix_list (pe_fld (pv 0) rfl) (pe_un un_neg pe_int) (fun _ _ => rfl)) rfl) (pa_cons (pv 5) pa_nil))))) (pss_one ps_never) pss_nil)
      (pss_cons (ps_if (pt_cmpR (op_inL hr.units) (pv 5) (pe_lc (own := [("update", 6)]) rfl sc_Primary_check_update.nd (pi_list (pe_slice sl_list (pv 2) po_none (po_some (pv 1)))) (blkOk_by (own := [("update", 6)]) (N := N_Primary_check_update) (sc := defScope s_Primary_check_update) (by decide +kernel)) (fun _ _ _ _ _ => (pg_name (i := 6) sc_Primary_check_update.nd rfl (by first | exact Or.inl rfl | exact Or.inr rfl))) (fun _ _ _ _ _ => pts_nil) (fun _ _ _ _ _ => (pe_slice (sl_tupK (K := K) rfl) (pv 6) (po_some pe_int) po_none))) (by rfl)) (pss_one ps_never) pss_nil)
      (pss_cons (ps_if (PW.pt (pw_and (pt_cmpR op_eq (pv 4) pe_str (nomark _)) (pw_and1 (pt_cmpR (op_inL hr.units) (pv 5) (pv 3) (by rfl))))) (pss_one ps_never) pss_nil)
      (pss_one (ps_if (PW.pt (pw_and (pt_cmpR op_eq (pv 4) pe_str (nomark _)) (pw_and1 (pt_cmpR (op_notInL hr.units) (pv 5) (pv 3) (by rfl))))) (pss_one ps_never) pss_nil))))))), ?_⟩
  have sz : sizeLine = 16777216 := sizeLine_eq
  obtain ⟨x, hx, hux⟩ := pr_get2 hxs (List.getElem?_eq_getElem hi)
  obtain ⟨kd, k, ek, hkR, hkd⟩ := hU.all _ (List.getElem_mem hi)
  obtain ⟨b, rfl, hb⟩ := hux
  have hb : H b = some (.tup (V.str kd :: k.map V.str)) := by rw [hb, ek]; rfl
  obtain ⟨dx, rs, r, ts0, t, hp, hrv, _, hR, ets⟩ := hP.ex
  refine ⟨_, rfl, _, rfl, a, xs, (i : Int), .ref b, rfl, rfl, .of ha, atI_nat hx, b, _, 0, .str kd, rfl, rfl, .of hb, atI_nat (j := 0) rfl, ?_⟩
  refine ⟨_, rfl, _, rfl, a, xs, (i : Int), .ref b, rfl, rfl, .of ha, atI_nat hx, 1, rfl, b, _, rfl, .of hb, cut1_ne _ _, fun q hq => ?_⟩
  have a1 : Sm H (upd H q (.tup (cutV (V.str kd :: k.map V.str) (some 1) none))) := Sx.new hq
  have gq : upd H q (.tup (cutV (V.str kd :: k.map V.str) (some 1) none)) q = some (.tup (k.map V.str)) := by rw [upd_same]; congr 2; exact cut1 _ _
  generalize upd H q (.tup (cutV (V.str kd :: k.map V.str) (some 1) none)) = G1 at a1 gq ⊢
  have hR1 := hR.sx a1
  obtain ⟨dr, v, vx, vy, hr1, hd, _, _⟩ := hR1.ex
  refine ⟨_, rfl, p, cP K, dx, _, _, rfl, a1.atS hp, W.cl_Primary, W.na_Primary_revisions, rfl, 1, rfl, rv, _, -1, .ref r, rfl, rfl, .of (a1.atS hrv), by rw [List.map_append]; exact atI_last _ _, r, cV K, dr, _, _, rfl, hr1, W.cl_Revision, W.na_Revision_schema, rfl, _, rfl, v, .ref q, k, rfl, hd, hT.sx a1, ⟨q, rfl, gq⟩, hkR, fun G2 a2 => ⟨_, rfl, ?_⟩⟩
  refine iteF ⟨_, rfl, ?_⟩
  have a12 := a1.trans a2
  refine ⟨_, rfl, _, rfl, i, rfl, a, xs, rfl, .of (a12.atS ha), fun s1 hs1 => ⟨s1, rfl, ⟨_, .of upd_same⟩, fun D hD => ?_⟩⟩
  have a3 : Sm G2 (upd G2 s1 (.lst (cutV xs none (some (i : Int))))) := Sx.new hs1
  have gs1 : upd G2 s1 (.lst (cutV xs none (some (i : Int)))) s1 = some (.lst (xs.take i)) := by rw [upd_same, cutTo]
  generalize upd G2 s1 (.lst (cutV xs none (some (i : Int)))) = G3 at a3 gs1 hD ⊢
  have a13 := a12.trans a3
  refine tlLc (l := us.take i) (p := fun _ => true) (.of gs1) (pr_take i (hxs.sx a13)) hD (by have := hU.len; have : (us.take i).length = min i us.length := List.length_take; omega) (fun _ => rfl) (fun _ => rfl) (fun k' hk' => ?_) (fun k' hk' b' G R _ _ hR' => tYes_i (hR' G (Sx.refl _))) fun ys G4 a4 gD hys => ?_
  · obtain ⟨kd', k'', e, _⟩ := hU.all k' (List.mem_of_mem_take hk')
    exact ⟨kd', k'', e⟩
  have hnin : k ∉ ((us.take i).filter fun _ => true).map List.tail := by
    have e : ((us.take i).filter fun _ => true) = us.take i := List.filter_eq_self.mpr fun _ _ => rfl
    rw [e]
    intro z
    have nd := hU.nd
    rw [← List.take_append_drop i us, List.drop_eq_getElem_cons hi, List.map_append, List.map_cons, ek] at nd
    exact (List.nodup_append.mp nd).2.2 _ z _ List.mem_cons_self rfl
  have a14 := a13.trans a4
  have gq4 := (a2.trans (a3.trans a4)).tups _ _ gq
  refine ⟨k, _, D, ys, ⟨q, rfl, gq4⟩, rfl, .of gD, hys, _, rfl, itF (decide_eq_false hnin) ?_⟩
  refine ⟨_, rfl, rfl, _, rfl, itF (decide_eq_false fun z => ?_) ?_⟩
  · injection z with z
    rcases hkd with q | ⟨q, _⟩ <;> rw [q] at z <;> exact absurd z (by decide)
  refine iteF ⟨_, rfl, rfl, _, rfl, ?_⟩
  rcases hkd with e | ⟨e, hkrel⟩
  · exact itF (decide_eq_false fun z => by injection z with z; rw [e] at z; exact absurd z (by decide)) (iteF (hQ _ a14))
  · refine itT (decide_eq_true (by rw [e])) ⟨_, rfl, _, rfl, k, rel, ak, ks, ⟨q, rfl, gq4⟩, rfl, .of (a14.atS hak), hks.sx a14, _, rfl, itF ?_ (hQ _ a14)⟩
    rw [decide_eq_true hkrel]
    rfl
theorem op_notInLK {X : Cx} (K : PySem.W.Frag) (h : X.K = K) (hu : X.A.units + 64 < cLine) : OpR X (compareOp .NotIn) (rNotInL K) := by subst h; exact op_notInL hu
def isDel (u : List Str) : Bool := decide (u.headD "" = "delete")
def delU (us : List (List Str)) : List (List Str) := (us.filter isDel).map List.tail
def putU (rel us : List (List Str)) : List (List Str) := (us.filter fun u => !isDel u && !decide (u.tail ∈ rel)).map List.tail
def aftU (rel us : List (List Str)) : List (List Str) := (rel.filter fun k => !decide (k ∈ delU us)) ++ putU rel us
theorem aft_ok {rel us : List (List Str)} (h : RelOk rel) (hU : UpOk rel us) : RelOk (aftU rel us) := by
  refine ⟨List.nodup_append.mpr ⟨h.nd.filter _, ?_, fun a ha b hb e => ?_⟩, fun k hk => ?_⟩
  · exact hU.nd.sublist (List.Sublist.map _ List.filter_sublist)
  · obtain ⟨u, hu, rfl⟩ := List.mem_map.mp hb
    have h1 := (List.mem_filter.mp hu).2
    have h2 := (List.mem_filter.mp ha).1
    rw [e] at h2
    rw [Bool.and_eq_true] at h1
    simp [h2] at h1
  · rcases List.mem_append.mp hk with z | z
    · exact h.all k (List.mem_filter.mp z).1
    · obtain ⟨u, hu, rfl⟩ := List.mem_map.mp z
      obtain ⟨kd, k, e, hk, _⟩ := hU.all u (List.mem_filter.mp hu).1
      rw [e]
      exact hk
def sp_Primary_after (K : PySem.W.Frag) : Sp := fun vs H Q _ => ∃ (p rv : Addr) (ts : List (List (List Str))) (rel : List (List Str)) (vu : V) (us : List (List Str)), vs = [.ref p, vu] ∧ PrAt K H p rv ts rel ∧ ts.length ≤ 40 ∧ Lu H vu us ∧ UpOk rel us ∧ Tabs K H ∧ ∀ r rel' t H', Sm H H' → RvAt K H' r rel' t → Q (.ref r) H'
abbrev N_Primary_after_updates : List Str := ["self", "updates", "known", "index", "deleted", "put", "relationships", "update", "relationship"]
theorem ok_Primary_after_updates (W : Wd K mg base) : FnOk P w K mg base CX0 11 (A_Primary_after_updates K) (F_Primary_after_updates K) ["self", "updates"] (sp_Primary_after K) := by
  refine W.fu_Primary_after_updates.ok sc_Primary_after_updates (fun vs H Q E h => by obtain ⟨_, _, _, _, _, _, rfl, _⟩ := h; rfl) fun cdv A outer s H vs Q E hr h => ?_
  obtain ⟨p, rv, ts, rel, vu, us, rfl, hP, hts, ⟨a, xs, rfl, ha, hxs⟩, hU, hT, hQ⟩ := h
  refine ⟨_, PSs.nox (pss_cons (ps_expr (pe_meth0 (pv 0) W.cl_Primary W.mt_Primary_check_room (ok_Primary_check_room W) (hr.mono (by decide)) W.bd_Primary_check_room .nil pass0))
      (pss_cons (ps_set (i := 2) sc_Primary_after_updates.nd rfl (by first | exact Or.inl rfl | exact Or.inr rfl) (pe_fld (pe_ix ix_list (pe_fld (pv 0) rfl) (pe_un un_neg pe_int) (fun _ _ => rfl)) rfl))
      (pss_cons (ps_for PassesOwn.never rfl (pi_range1 rfl W.fr_range (pa_cons (pe_callB call_len_seq (by rfl) W.fr_len PySem.boot_len (pa_cons (pv 1) pa_nil)) pa_nil)) (pg_name (i := 3) sc_Primary_after_updates.nd rfl (by first | exact Or.inl rfl | exact Or.inr rfl)) (pss_one (ps_expr (pe_meth (pv 0) W.cl_Primary W.mt_Primary_check_update (ok_Primary_check_update W) (hr.mono (by decide)) W.bd_Primary_check_update .nil pass0 (pa_cons (pv 3) (pa_cons (pv 1) (pa_cons (pv 2) pa_nil)))))))
      (pss_cons (ps_set (i := 4) sc_Primary_after_updates.nd rfl (by first | exact Or.inl rfl | exact Or.inr rfl) (pe_lc (own := [("update", 7)]) rfl sc_Primary_after_updates.nd (pi_list (pv 1)) (blkOk_by (own := [("update", 7)]) (N := N_Primary_after_updates) (sc := defScope s_Primary_after_updates) (by decide +kernel)) (fun _ _ _ _ _ => (pg_name (i := 7) sc_Primary_after_updates.nd rfl (by first | exact Or.inl rfl | exact Or.inr rfl))) (fun _ _ _ _ _ => (pts_one (pt_cmpR op_eq (pe_ix (ix_tupK (K := K) rfl) (pv 7) pe_int (fun _ _ => rfl)) pe_str (nomark _)))) (fun _ _ _ _ _ => (pe_slice (sl_tupK (K := K) rfl) (pv 7) (po_some pe_int) po_none))))
      (pss_cons (ps_setLc (i := 5) (own := [("update", 7)]) rfl sc_Primary_after_updates.nd rfl rfl (sw_true rfl rfl rfl (by decide +kernel)) (pi_list (pv 1)) (blkOk_by (own := [("update", 7)]) (N := N_Primary_after_updates) (sc := defScope s_Primary_after_updates) (by decide +kernel)) (fun _ _ _ _ _ => (pg_name (i := 7) sc_Primary_after_updates.nd rfl (by first | exact Or.inl rfl | exact Or.inr rfl))) (fun _ _ _ _ _ => (pts_one (PW.pt (pw_and (pt_cmpR op_ne (pe_ix (ix_tupK (K := K) rfl) (pv 7) pe_int (fun _ _ => rfl)) pe_str (nomark _)) (pw_and1 (pt_cmpR (op_notInLK K rfl hr.units) (pe_slice (sl_tupK (K := K) rfl) (pv 7) (po_some pe_int) po_none) (pv 2) (by rfl))))))) (fun _ _ _ _ _ => (pe_slice (sl_tupK (K := K) rfl) (pv 7) (po_some pe_int) po_none)))
      (pss_cons (ps_set (i := 6) sc_Primary_after_updates.nd rfl (by first | exact Or.inl rfl | exact Or.inr rfl) (pe_op op_cat (pe_lc (own := [("relationship", 8)]) rfl sc_Primary_after_updates.nd (pi_list (pv 2)) (blkOk_by (own := [("relationship", 8)]) (N := N_Primary_after_updates) (sc := defScope s_Primary_after_updates) (by decide +kernel)) (fun _ _ _ _ _ => (pg_name (i := 8) sc_Primary_after_updates.nd rfl (by first | exact Or.inl rfl | exact Or.inr rfl))) (fun _ _ _ _ _ => (pts_one (pt_cmpR (op_notInLK K rfl hr.units) (pv 8) (pv 4) (by rfl)))) (fun _ _ _ _ _ => (pv 8))) (pv 5)))
      (pss_cons (ps_if (pt_cmpR op_gt (pe_callB call_len_seq (by rfl) W.fr_len PySem.boot_len (pa_cons (pv 6) pa_nil)) (pe_gint rfl W.in_MOST_RELATIONSHIPS) (nomark _)) (pss_one ps_never) pss_nil)
      (pss_one (ps_ret (pe_make W.mk_Revision (ok_Revision_init W) (hr.mono (by decide)) rfl W.gl_Revision W.bd_Revision_init .nil pass0 (pa_cons (pe_fld (pe_ix ix_list (pe_fld (pv 0) rfl) (pe_un un_neg pe_int) (fun _ _ => rfl)) rfl) (pa_cons (pv 6) pa_nil)))))))))))), ?_⟩
  have sz : sizeLine = 16777216 := sizeLine_eq
  obtain ⟨dx, rs, r, ts0, t, hp, hrv, _, hR, ets⟩ := hP.ex
  obtain ⟨dr, v, vx, vy, hr1, hd, ⟨ak, ks, rfl, hak, hks⟩, _⟩ := hR.ex
  have hxl : xs.length = us.length := Paired.length hxs
  have hkl : ks.length = rel.length := Paired.length hks
  have hul := hU.len
  have hrl := hR.ok.len
  have hne : ∀ k ∈ us, ∃ x r, k = x :: r := fun k hk => by
    obtain ⟨kd, k', e, _⟩ := hU.all k hk
    exact ⟨kd, k', e⟩
  refine ⟨_, rfl, p, dx, _, rfl, hp, rfl, p, rv, ts, rel, rfl, hP, hts, ?_⟩
  refine ⟨_, rfl, p, cP K, dx, _, _, rfl, hp, W.cl_Primary, W.na_Primary_revisions, rfl, 1, rfl, rv, _, -1, .ref r, rfl, rfl, .of hrv, by rw [List.map_append]; exact atI_last _ _, r, cV K, dr, _, _, rfl, hr1, W.cl_Revision, W.na_Revision_relationships, rfl, ?_⟩
  refine ⟨_, rfl, a, xs, rfl, .inl (.of ha), _, rfl, by omega, by omega, for_it walk_range (fun i τ G => ∃ o3, τ = [some (.ref p), some (.ref a), some (.ref ak), o3, none, none, none, none, none] ∧ Sm H G) ⟨_, rfl, Sx.refl _⟩ (fun _ _ _ _ _ => True.intro) (fun i x τ G0 G hi ⟨o3, eτ, b⟩ ⟨eG, hx⟩ => ?_) fun τ G ⟨o3, eτ, b⟩ => ?_⟩
  · subst eτ eG
    obtain rfl : x = V.int i := by rw [hx]; show V.int (0 + (i : Int)) = _; rw [Int.zero_add]
    refine ⟨_, rfl, p, dx, _, rfl, b.atS hp, rfl, _, rfl, _, rfl, _, rfl, p, rv, ts, rel, i, .ref a, .ref ak, us, rfl, hP.sx b, ⟨a, xs, rfl, b.atS ha, hxs.sx b⟩, ⟨ak, ks, rfl, b.atS hak, hks.sx b⟩, hU, by omega, hT.sx b, fun G2 a2 => ⟨_, rfl, b.trans a2⟩⟩
  · subst eτ
    have ha1 := b.atS ha
    refine ⟨_, rfl, a, rfl, ⟨_, .of ha1⟩, fun D hD => ?_⟩
    refine tlLc (l := us) (p := isDel) (.of ha1) (hxs.sx b) hD (by omega) (fun _ => rfl) (fun _ => rfl) hne (fun k hk bx G1 R _ hb hR' => ?_) fun ys1 G1 b1 gD hys1 => ?_
    · obtain ⟨x, rr, rfl⟩ := hne k hk
      refine ⟨_, rfl, bx, V.str x :: rr.map V.str, 0, .str x, rfl, rfl, .of hb, atI_nat (j := 0) rfl, rfl, _, rfl, ?_⟩
      have e : decide (V.str x = V.str "delete") = isDel (x :: rr) := by simp [isDel]
      rw [e]
      exact hR' G1 (Sx.refl _)
    have bb1 := b.trans b1
    have ha2 := bb1.atS ha
    refine ⟨_, rfl, a, rfl, ⟨_, .of ha2⟩, fun D2 hD2 => ?_⟩
    refine tlLc (l := us) (p := fun u => !isDel u && !decide (u.tail ∈ rel)) (.of ha2) (hxs.sx bb1) hD2 (by omega) (fun _ => rfl) (fun _ => rfl) hne (fun k hk bx G2 R a2 hb hR' => ?_) fun ys2 G2 b2 gD2 hys2 => ?_
    · obtain ⟨x, rr, rfl⟩ := hne k hk
      refine ⟨_, rfl, bx, V.str x :: rr.map V.str, 0, .str x, rfl, rfl, .of hb, atI_nat (j := 0) rfl, rfl, _, rfl, ?_⟩
      have e : decide (V.str x = V.str "delete") = isDel (x :: rr) := by simp [isDel]
      cases hdl : isDel (x :: rr) with
      | true =>
        refine itF (by rw [e, hdl]; rfl) ?_
        have := hR' G2 (Sx.refl _)
        rw [hdl] at this
        exact this
      | false =>
        refine itT (by rw [e, hdl]; rfl) ⟨_, rfl, 1, rfl, bx, V.str x :: rr.map V.str, rfl, .of hb, cut1_ne _ _, fun q hq => ?_⟩
        have aq : Sm G2 (upd G2 q (.tup (cutV (V.str x :: rr.map V.str) (some 1) none))) := Sx.new hq
        have gq : upd G2 q (.tup (cutV (V.str x :: rr.map V.str) (some 1) none)) q = some (.tup (rr.map V.str)) := by rw [upd_same]; congr 2; exact cut1 _ _
        have b3 := bb1.trans (a2.trans aq)
        refine ⟨_, rfl, rr, rel, ak, ks, ⟨q, rfl, gq⟩, rfl, .of (b3.atS hak), hks.sx b3, _, rfl, ?_⟩
        have := hR' _ aq
        rw [hdl] at this
        exact this
    have bb2 := bb1.trans b2
    have hak2 := bb2.atS hak
    refine ⟨_, rfl, ak, rfl, ⟨_, .of hak2⟩, fun D3 hD3 => ?_⟩
    have gDD := b2.atS gD
    refine flLm (p := fun k => !decide (k ∈ delU us)) (.of hak2) (hks.sx bb2) hD3 (by omega) (fun _ => rfl) (fun _ => rfl) (fun k hk bx zs R hb hR' => ?_) fun zs hzs => ?_
    · have a3 : Sm G2 (upd G2 D3 (.lst zs)) := Sx.new hD3
      exact ⟨_, rfl, _, rfl, k, delU us, D, ys1, ⟨bx, rfl, hb⟩, rfl, .of (a3.atS gDD), (hys1.sx b2).sx a3, _, rfl, hR'⟩
    have a3 : Sm G2 (upd G2 D3 (.lst zs)) := Sx.new hD3
    have gD3 : upd G2 D3 (.lst zs) D3 = some (.lst zs) := upd_same
    have gD23 := a3.atS gD2
    have hzs3 := Paired.mapP hzs fun _ _ => Tu.sx a3
    have hys3 := hys2.sx a3
    have bb3 := bb2.trans a3
    generalize upd G2 D3 (.lst zs) = G3 at a3 gD3 gD23 hzs3 hys3 bb3 ⊢
    have lz : zs.length = (rel.filter fun k => !decide (k ∈ delU us)).length := Paired.length hzs
    have lz2 := List.length_filter_le (fun k => !decide (k ∈ delU us)) rel
    have ly : ys2.length = (putU rel us).length := Paired.length hys2
    have lp : (putU rel us).length ≤ us.length := by
      unfold putU
      rw [List.length_map]
      exact List.length_filter_le _ _
    have hok := aft_ok hR.ok hU
    have hal := hok.len
    have el : (zs ++ ys2).length = (aftU rel us).length := by
      unfold aftU
      rw [List.length_append, List.length_append, lz, ly]
    refine ⟨_, rfl, D3, D2, zs, ys2, rfl, rfl, gD3, gD23, by omega, fun z hz => ?_⟩
    have a4 : Sm G3 (upd G3 z (.lst (zs ++ ys2))) := Sx.new hz
    have gz : upd G3 z (.lst (zs ++ ys2)) z = some (.lst (zs ++ ys2)) := upd_same
    have hLz : Tus (upd G3 z (.lst (zs ++ ys2))) (zs ++ ys2) (aftU rel us) := pr_app (Tus.sx a4 hzs3) (Tus.sx a4 hys3)
    have bb4 := bb3.trans a4
    generalize upd G3 z (.lst (zs ++ ys2)) = G4 at a4 gz hLz bb4 ⊢
    refine ⟨_, rfl, z, _, rfl, .inl (.of gz), _, _, rfl, rfl, _, rfl, itF (decide_eq_false (by rw [el]; omega)) ?_⟩
    refine ⟨_, rfl, p, cP K, dx, _, _, rfl, bb4.atS hp, W.cl_Primary, W.na_Primary_revisions, rfl, 1, rfl, rv, _, -1, .ref r, rfl, rfl, .of (bb4.atS hrv), by rw [List.map_append]; exact atI_last _ _, r, cV K, dr, _, _, rfl, bb4.atS hr1, W.cl_Revision, W.na_Revision_schema, rfl, _, rfl, fun r2 dr2 hr2 hdr2 ner => ?_⟩
    have a5 := Sm.made0 (C := cV K) hr2 hdr2 ner
    refine ⟨r2, dr2, v, .ref z, aftU rel us, rfl, upd_same, dp_sx (bb4.trans a5) _ _ (schD_noL _) hd, (hT.sx bb4).sx a5, ⟨z, _, rfl, a5.atS gz, hLz.sx a5⟩, hok, fun rel' t' G5 a6 hR' => ⟨rfl, hQ r2 rel' t' G5 (bb4.trans (Sm.made hr2 hdr2 ner a6)) hR'⟩⟩
def sp_Primary_write (K : PySem.W.Frag) : Sp := fun vs H Q _ => ∃ (p rv : Addr) (ts : List (List (List Str))) (rel : List (List Str)) (vu : V) (us : List (List Str)), vs = [.ref p, vu] ∧ PrAt K H p rv ts rel ∧ ts.length ≤ 40 ∧ Lu H vu us ∧ UpOk rel us ∧ Tabs K H ∧ ∀ v rel' t H', Sx (fun b => b = rv) H H' → PrAt K H' p rv (ts ++ [t]) rel' → Q v H'
abbrev N_Primary_write : List Str := ["self", "updates"]
theorem ok_Primary_write (W : Wd K mg base) : FnOk P w K mg base CX0 12 (A_Primary_write K) (F_Primary_write K) ["self", "updates"] (sp_Primary_write K) := by
  refine W.fu_Primary_write.ok sc_Primary_write (fun vs H Q E h => by obtain ⟨_, _, _, _, _, _, rfl, _⟩ := h; rfl) fun cdv A outer s H vs Q E hr h => ?_
  obtain ⟨p, rv, ts, rel, vu, us, rfl, hP, hts, hu, hU, hT, hQ⟩ := h
  refine ⟨_, PSs.nox (pss_cons (ps_expr (pe_bm PySem.F.plainAttrs_list PySem.F.slot_list_append PySem.F.type_list_append mt_append (pe_fld (pv 0) rfl) (pa_cons (pe_meth (pv 0) W.cl_Primary W.mt_Primary_after_updates (ok_Primary_after_updates W) (hr.mono (by decide)) W.bd_Primary_after_updates .nil pass0 (pa_cons (pv 1) pa_nil)) pa_nil)))
      (pss_one (ps_ret (pe_meth0 (pv 0) W.cl_Primary W.mt_Primary_token (ok_Primary_token W) (hr.mono (by decide)) W.bd_Primary_token .nil pass0)))), ?_⟩
  have sz : sizeLine = 16777216 := sizeLine_eq
  obtain ⟨dx, rs, r, ts0, t, hp, hrv, hrs, hR, ets⟩ := hP.ex
  refine ⟨_, rfl, p, cP K, dx, _, _, rfl, hp, W.cl_Primary, W.na_Primary_revisions, rfl, .inl ⟨rfl, _, .of hrv⟩, _, rfl, p, dx, _, rfl, hp, rfl, _, rfl, p, rv, ts, rel, vu, us, rfl, hP, hts, hu, hU, hT, fun r2 rel' t' G a hR2 => ?_⟩
  have hrvG := a.atS hrv
  have lrs : rs.length = ts0.length := Paired.length hrs
  have lts : ts.length = ts0.length + 1 := by rw [ets, List.length_append]; rfl
  refine ⟨rv, _, .ref r2, rfl, rfl, hrvG, by rw [List.length_map, List.length_append]; show rs.length + 1 < sizeLine; omega, ?_⟩
  have a2 : Sx (fun b => b = rv) G (upd G rv (.lst ((rs ++ [r]).map V.ref ++ [.ref r2]))) := Sx.put hrvG rfl
  obtain ⟨dr, v, vx, vy, hr1, _⟩ := (hR.sx a).ex
  have nl : ∀ b xs l, G b = some (.lst xs) → Tus G xs l → ¬ (b = rv) := fun b xs l hb hx z => by
    rw [z, hrvG] at hb
    have e : (rs ++ [r]).map V.ref = xs := HO.lst.inj (Option.some.inj hb)
    have hm : xs[rs.length]? = some (V.ref r) := by rw [← e, List.getElem?_map, List.getElem?_append_right (Nat.le_refl _), Nat.sub_self]; rfl
    obtain ⟨k, _, b', eb, hb'⟩ := pr_get hx hm
    cases eb
    rw [hr1] at hb'
    cases hb'
  have nr : ∀ {r' l t}, RvAt K G r' l t → ¬ (r' = rv) := fun {r' l t} h z => by
    obtain ⟨_, _, _, _, e, _⟩ := h.ex
    rw [z, hrvG] at e
    cases e
  have hP2 : PrAt K (upd G rv (.lst ((rs ++ [r]).map V.ref ++ [.ref r2]))) p rv (ts ++ [t']) rel' := by
    refine ⟨⟨dx, rs ++ [r], r2, ts, t', a2.at (a.atS hp) (ne_of (a.atS hp) hrvG fun z => nomatch z), ?_, ?_, hR2.sxM a2 (nr hR2) nl, rfl⟩, ?_⟩
    · rw [upd_same, List.map_append (l₁ := rs ++ [r])]
      rfl
    · rw [ets]
      exact pr_snoc (Paired.mapP hrs fun _ _ ⟨l, q⟩ => ⟨l, (q.sx a).sxM a2 (nr (q.sx a)) nl⟩) ⟨rel, (hR.sx a).sxM a2 (nr (hR.sx a)) nl⟩
    · rw [List.length_append]
      show ts.length + 1 ≤ 41
      omega
  refine ⟨_, rfl, p, dx, _, rfl, a2.at (a.atS hp) (ne_of (a.atS hp) hrvG fun z => nomatch z), rfl, p, rv, _, rel', rfl, hP2, ?_⟩
  exact hQ _ rel' t' _ ((Sx.of a).trans a2) hP2
end
end K83
namespace K83
open PySem PySem.Spec PyProof.Rows L2 GxR
/-! ### what the top has left of Refused -/
/-- the program's file, and that its top has no own super -/
def PF (P : Program) : Prop := ((P.main.file : Str) == ("/claim/cut.py" : Str)) = true ∧ (P.main.scope.names.lookup ("super" : Str)).isSome = false
abbrev fnRf (K : PySem.W.Frag) (cc cda : Addr) (doc pm ct : Value) (an : Option Addr) : FuncData := PySem.W.fnX "__init__" "Refused.__init__" (defArgs s_Refused_init) (defBody s_Refused_init) (defScope s_Refused_init) [(("__class__" : Str), cc)] .none .none doc pm an (.ref cda) ct
structure RfO (K : PySem.W.Frag) (cc cda : Addr) (doc pm ct : Value) (an : Option Addr) : Prop where
  lk : ∃ (oc : Value) (od : Option Addr) (sl : Array (Option Value)), K.lookup (refI K) = some ⟨oc, od, .func (fnRf K cc cda doc pm ct an), sl⟩
  cd : PySem.W.codeIn K (.ref cda) "Refused.__init__" = true
  cell : ∃ (cl : Value) (cld : Option Addr) (csl : Array (Option Value)), K.lookup cc = some ⟨cl, cld, .cell (some (.ref (refC K))), csl⟩
  file : ∃ (ccl : Value) (cdd : Option Addr) (vs : Array Value) (ccs : Array (Option Value)) (file : Str) (tf : Tok), K.lookup cda = some ⟨ccl, cdd, .fields vs, ccs⟩ ∧ vs[2]? = some (.str file tf) ∧ ("/claim/cut.py" : Str) = file
section
variable {P : Program} {w : World} {K : PySem.W.Frag} {mg : Str → Option Value} {base : Heap}
theorem Wd.rf (W : Wd K mg base) : ∃ cc cda doc pm ct an, RfO K cc cda doc pm ct an := by
  have h1 := W.r
  have h2 : rfB K = true := W.more (i := 18) rfl
  unfold fnR at h1
  unfold rfB at h2
  cases q : K.lookup (refI K) with
  | none => rw [q] at h1; cases h1
  | some o =>
    rw [q] at h1 h2
    obtain ⟨oc, od, dt, osl⟩ := o
    cases dt with
    | func fd =>
      obtain ⟨n1, n2, n3, n4, n5, n6, n7, n8, n9, n10, n11, n12, n13, n14, n15⟩ := fd
      have e2 : (some (n1, n2, n3, n4, n5, n6, n7.map (·.1), n15) : FnR) = valR := h1
      unfold valR at e2
      simp only [Option.some.injEq, Prod.mk.injEq] at e2
      obtain ⟨h1, h2', h3, h4, h5, h6, h7, h8⟩ := e2
      subst h1 h2' h3 h4 h5 h6 h8
      have c3 : (noneB n8 && (noneB n9 && (PySem.W.codeIn K n13 "Refused.__init__" && (cellB K n7 && fileB K n13)))) = true := h2
      simp only [Bool.and_eq_true] at c3
      obtain ⟨k1, k2, k3, k4, k5⟩ := c3
      have e8 : n8 = .none := by unfold noneB at k1; split at k1; rfl; cases k1
      have e9 : n9 = .none := by unfold noneB at k2; split at k2; rfl; cases k2
      subst e8 e9
      obtain ⟨cda, rfl⟩ := code_ref k3
      obtain ⟨cc, e7⟩ : ∃ cc : Addr, n7 = [(("__class__" : Str), cc)] := by
        match n7, h7 with
        | [(a, c)], h7 =>
          have : a = ("__class__" : Str) := by simpa using h7
          exact ⟨c, by rw [this]⟩
      subst e7
      refine ⟨cc, cda, n10, n11, n14, n12, ⟨oc, od, osl, q⟩, k3, ?_, ?_⟩
      · unfold cellB at k4
        dsimp only at k4
        split at k4
        · rename_i e
          have := of_decide_eq_true k4
          subst this
          exact ⟨_, _, _, e⟩
        · cases k4
      · unfold fileB at k5
        dsimp only at k5
        split at k5
        · rename_i vs _ e
          split at k5
          · rename_i f t e2
            refine ⟨_, _, _, _, f, t, e, ?_, of_decide_eq_true k5⟩
            rw [Array.getD_eq_getD_getElem?] at e2
            cases hz : vs[2]? with
            | none => rw [hz] at e2; cases e2
            | some v => rw [hz] at e2; exact congrArg some e2
          · cases k5
        · cases k5
    | _ => cases h1
theorem Wd.more' (W : Wd K mg base) {i : Nat} {b : Bool} (h : (exL K)[i]? = some b) : b = true := W.more h
/-- the class's own facts -/
theorem Wd.oex (W : Wd K mg base) : OexC K (refC K) := by
  have h1 : PySem.W.excInitIn K (refC K) veTl "ValueError.__new__" = true := W.more (i := 2) rfl
  have h2 : mroEq K = true := W.more (i := 3) rfl
  refine ⟨?_, He.eqO_ok (W.more (i := 4) rfl), of_decide_eq_true (W.more (i := 12) rfl), of_decide_eq_true (W.more (i := 13) rfl), W.more (i := 11) rfl⟩
  have h3 : ∃ cd, PySem.W.clsIn K (refC K) = some cd ∧ cd.mro = .ref (refC K) :: tailC K ∧ cd.hasDict = true := by
    unfold mroEq at h2
    cases q : PySem.W.clsIn K (refC K) with
    | none => rw [q] at h2; cases h2
    | some cd =>
      rw [q] at h2
      have h2' : (decide (cd.mro = .ref (refC K) :: tailC K) && cd.hasDict) = true := h2
      rw [Bool.and_eq_true, decide_eq_true_eq] at h2'
      exact ⟨cd, rfl, h2'⟩
  unfold PySem.W.excInitIn at h1
  split at h1
  · rename_i dd cd sl ho
    split at h1
    · rename_i C' bm k0 k1 k2 k3 n k5 hm hs
      simp only [Bool.and_eq_true, beq_iff_eq, Bool.not_eq_true'] at h1
      obtain ⟨⟨⟨rfl, rfl⟩, hdel⟩, ht⟩ := h1
      obtain ⟨nm, bs, mro, ns, qn, hd, sn, sub, ab, col, del⟩ := cd
      dsimp only at hm hdel
      subst hm hdel
      have hsl : sl = #[k0, k1, k2, k3, some (.builtin "ValueError.__new__"), k5] := by
        obtain ⟨l⟩ := sl
        simp only at hs
        rw [hs]
      subst hsl
      obtain ⟨cd, e1, e2, e3⟩ := h3
      unfold PySem.W.clsIn at e1
      rw [ho] at e1
      have e1 := Option.some.inj e1
      subst e1
      have e2 : (.ref (refC K) :: bm : List Value) = .ref (refC K) :: tailC K := e2
      have e4 : bm = tailC K := (List.cons.inj e2).2
      have e3 : hd = true := e3
      subst e3
      refine ⟨_, _, _, _, bm, _, _, _, _, _, _, _, _, _, _, ho, ?_⟩
      rw [e4]
      rfl
    · cases h1
  · cases h1
/-! ### Refused.__init__ -/
def tNevE : TE := fun _ _ _ => False
theorem pe_nev {X : Cx} {e : Expr} : PE X e tNevE := ⟨fun _ _ _ _ _ _ h => h.elim⟩
/-- ValueError.__init__ bound to e, called: the args are laid anew -/
theorem call_mw {A : Around} {E : Value → Shared → Prop} {h : Heap} {g : Array GenState} {d : Drawn} {t : Nat} {os : OsState} {nm q : Str} {C N : Addr} {bs bm : List Value} {hdct : Bool} {sn : List Str} {sub : List Value} {ab : Bool} {col : Option Bool} {dd : Option Addr} {k0 k1 k2 k3 k5 : Option Value}
    {u e t0 : Addr} {rest : List Value} {Q : Value → Shared → Prop} (hC : h.get? C = some (excClassObj nm q C N bs bm hdct sn sub ab col dd k0 k1 k2 k3 k5 "ValueError.__new__")) (he : h.get? e = some (HandSPX.excO C t0)) (hu : h.get? u = some (PySem.W.kxs_mw "ValueError.__init__" e)) (hrest : rest.length ≤ sizeLine)
    (hq : ∀ h' t1, (∀ b o, b ≠ e → h.get? b = some o → h'.get? b = some o) → h'.get? e = some (HandSPX.excO C t1) → Q .none ⟨h', g, d, t, os⟩) :
    wpAny (model P w) A (call (.ref u) rest) Q E ⟨h, g, d, t, os⟩ := by
  refine wpAny_call (codeAny_of_tree ?_)
  show wpAny _ A.in1 (callAny (.ref u) ⟨rest, []⟩) _ _ _
  simp only [callAny]
  refine wpAny_bind (wpAny_load hu ?_)
  simp only [PySem.W.kxs_mw, show (Value.type "method-wrapper" == Value.type "method" || Value.type "method-wrapper" == Value.type "builtin_function_or_method" || Value.type "method-wrapper" == Value.type "method-wrapper") = true by decide, if_true]
  refine PySem.W.KFB.if_so (by decide) ?_
  refine wpAny_bind (PySem.W.check_bound_init F.excBase_ValueError.toExcCallFacts hC he rfl ?_)
  refine wpAny_bind (wpAny_pure (wpAny_pure ?_))
  refine ⟨plainId_quiet F.excBase_ValueError.init.plain _, codeAny_builtin F.excBase_ValueError.initEntry ?_⟩
  exact PySem.W.exc_init_tree (cls := .ref C) (t0 := t0) (dv := none) (c2 := .none) (c3 := .none) (b4 := .bool false) he hrest fun h' k e' _ => hq h' _ k e'
/-- the context of its body: a cell stands for __class__ -/
abbrev envRf (cc cda L : Addr) (f : Addr) : Env := PySem.W.envX "Refused.__init__" (defScope s_Refused_init) L f (.ref cda) [(("__class__" : Str), cc)]
def cxRf (P : Program) (w : World) (K : PySem.W.Frag) (mg : Str → Option Value) (base : Heap) (cc cda : Addr) (A : Around) (outer : List Env) (s : Shared) (H : Hp) (E : XK) : Cx where
  prog := P
  w := w
  K := K
  mg := mg
  base := base
  A := A.deeper (envRf cc cda s.heap.objs.size (refI K))
  N := ["self", "what", "index"]
  s_0 := s
  H_0 := H
  env := envRf cc cda s.heap.objs.size (refI K)
  outer := outer
  stack := envRf cc cda s.heap.objs.size (refI K) :: outer
  ex := []
  calm := true
  fn := fun _ => false
  pn := []
  xe := fun e s' => wpAny (model P w) (A.deeper (envRf cc cda s.heap.objs.size (refI K))) (leaving (envRf cc cda s.heap.objs.size (refI K)) e) (fun _ s'' => CX0 outer H s E e s'') (fun e' s'' => CX0 outer H s E e' s'') s'
/-- the body, statement by statement -/
theorem rf_body (W : Wd K mg base) (cc cda : Addr) (A : Around) (outer : List Env) (s : Shared) (H : Hp) (E : XK) :
    ∃ p0 p1 p2 p3 p4 arg st2 st3, defBody s_Refused_init = [.Expr (.Call (.Attribute (.Call (.Name "super" p0) [] [] p1) "__init__" p2) [arg] [] p3) p4, st2, st3] ∧
      PE (cxRf P w K mg base cc cda A outer s H E) arg (tIf (tTest (tOp (rI0 fun i j => .bl (decide (i < j))) (tVar 2) (tC (.int 0)))) (tVar 1) tNevE) ∧ PSs (cxRf P w K mg base cc cda A outer s H E) [st2, st3] (tSeq (tOst K "what" (tVar 0) (tVar 1)) (tOst K "index" (tVar 0) (tVar 2))) ∧
      (∃ pl : Sem Bool, eval (.Call (.Attribute (.Call (.Name "super" p0) [] [] p1) "__init__" p2) [arg] [] p3) (envRf cc cda s.heap.objs.size (refI K)) = (do
        let ov ← attributeBase (.Call (.Name "super" p0) [] [] p1) "__init__" (envRf cc cda s.heap.objs.size (refI K)) (eval (.Call (.Name "super" p0) [] [] p1) (envRf cc cda s.heap.objs.size (refI K)))
        standAt p2.atName
        let (f, first) ← holding [ov] (getMethod ov "__init__" pl)
        callWith p3 f first (backTo p3 (starEach [arg] (envRf cc cda s.heap.objs.size (refI K)))) [])) ∧
      starEach [arg] (envRf cc cda s.heap.objs.size (refI K)) = (false, eval arg (envRf cc cda s.heap.objs.size (refI K))) :: starEach [] (envRf cc cda s.heap.objs.size (refI K)) := by
  refine ⟨_, _, _, _, _, _, _, _, rfl, ?_, ?_, ⟨_, rfl⟩, rfl⟩
  · exact pe_ifExp (pt_cmpR op_lt (pv 2) pe_int (nomark _)) (pv 1) pe_nev
  · exact pss_cons (ps_ost (pv 0) (pv 1)) (pss_one (ps_ost (pv 0) (pv 2)))
end
end K83
namespace K83
open PySem PySem.Spec PyProof.Rows L2 GxR
section
variable {P : Program} {w : World} {K : PySem.W.Frag} {mg : Str → Option Value} {base : Heap}
def sp_Refused_init (K : PySem.W.Frag) : Sp := fun vs H Q _ => ∃ (a : Addr) (z : Str) (i : Int), vs = [.ref a, .str z, .int i] ∧ H a = some (exo a (refC K) none) ∧ i < 0 ∧
  ∀ d, H d = none → d ≠ a → Q .non (upd (upd (upd H d (exd d [("what", .str z)])) a (exo a (refC K) (some d))) d (exd d [("index", .int i), ("what", .str z)]))
theorem rf_start {cc cda : Addr} {doc pm ct : Value} {an : Option Addr} (O : RfO K cc cda doc pm ct an) {A : Around} {outer : List Env} {s : Shared} {h1 : Heap} {tk : Nat} {H : Hp} {E : XK} {ua ub uc : Value} {va vb vc : V} (hd : A.handled = none) (e0 : Env0 P w K mg base A outer s H) (ra : RelV va ua) (rb : RelV vb ub) (rc : RelV vc uc)
    (hns : h1.Ns s.heap.objs.size (fun x => ((["self", "what", "index"] : List Str).zip [ua, ub, uc]).reverse.lookup x)) (hk : ∀ b o, s.heap.get? b = some o → h1.get? b = some o) : Inv (cxRf P w K mg base cc cda A outer s H E) [] (L2.start ["self", "what", "index"] [va, vb, vc]) H { s with heap := h1, toks := tk } := by
  have noA : ∀ b : Addr, b ∉ (cxRf P w K mg base cc cda A outer s H E).ex := fun b z => absurd (show b ∈ ([] : List Addr) from z) (by simp)
  have cl : ∀ (x : Str) (c : Addr), (cxRf P w K mg base cc cda A outer s H E).env.cells.lookup x = some c → x = "__class__" ∧ c = cc := fun x c h => by
    have h : List.lookup x [(("__class__" : Str), cc)] = some c := h
    simp only [List.lookup] at h
    split at h
    · rename_i e
      exact ⟨by simpa using e, (Option.some.inj h).symm⟩
    · cases h
  obtain ⟨l1, cld, csl, hcell⟩ := O.cell
  have hbc := e0.bs _ _ (e0.mod.kin _ _ hcell)
  refine ⟨⟨e0.mod, rfl, rfl, rfl, Nat.le_refl _, fun y z c h1 h2 => by rw [(cl y c h1).1, (cl z c h2).1], fun y hy => ?_, fun y c h => absurd (show false = true from h) (by decide), fun _ => hd, Around.frames_deeper e0.frames, .inr ⟨rfl, rfl⟩, fun b z => absurd z (noA b), e0.bs, e0.bsz, fun b _ _ => noA b, fun b z => absurd z (noA b), e0.funs, e0.frf⟩,
    rfl, e0.bare, Un.kept hk, ⟨_, hns, fun i y v h1 h2 h3 => ?_⟩, fun y c h => ⟨some (.ref (refC K)), ⟨l1, cld, .cell (some (.ref (refC K))), csl⟩, by rw [(cl y c h).2]; exact hk _ _ hbc.1, rfl⟩, e0.hok.fresh (Nat.le_refl _), fun y c h => by rw [(cl y c h).2]; exact hbc.2, fun p hp => absurd (show p ∈ ([] : List (Addr × Obj)) from hp) (by simp), e0.hok.kept hk, ?_⟩
  · have hn : ∀ p ∈ (defScope s_Refused_init).names, p.2 ≠ .cell ∧ (p.2 = .free → p.1 = "__class__") := by decide +kernel
    have hy : (defScope s_Refused_init).names.lookup y = some .cell ∨ (defScope s_Refused_init).names.lookup y = some .free := hy
    rcases hy with q | q
    · exact absurd rfl (hn _ (PySem.mem_of_lookup q)).1
    · have e := (hn _ (PySem.mem_of_lookup q)).2 rfl
      have e : y = "__class__" := e
      exact ⟨cc, by rw [e]; rfl⟩
  · have hloc : ∀ y ∈ (["self", "what", "index"] : List Str), (defScope s_Refused_init).names.lookup y = some .local := by decide +kernel
    have hz : ∀ y ∈ (["self", "what", "index"] : List Str), True := fun _ _ => True.intro
    match i with
    | 0 =>
      obtain rfl : "self" = y := Option.some.inj h1
      obtain rfl : va = v := Option.some.inj (Option.some.inj h2)
      exact ⟨ua, ra, .inl ⟨hloc _ (.head _), by kernel_rfl⟩⟩
    | 1 =>
      obtain rfl : "what" = y := Option.some.inj h1
      obtain rfl : vb = v := Option.some.inj (Option.some.inj h2)
      exact ⟨ub, rb, .inl ⟨hloc _ (.tail _ (.head _)), by kernel_rfl⟩⟩
    | 2 =>
      obtain rfl : "index" = y := Option.some.inj h1
      obtain rfl : vc = v := Option.some.inj (Option.some.inj h2)
      exact ⟨uc, rc, .inl ⟨hloc _ (.tail _ (.tail _ (.head _))), by kernel_rfl⟩⟩
    | n + 3 => exact absurd h1 (by show ¬ (none : Option Str) = some y; intro z; cases z)
  · unfold L2.start
    rw [List.length_append, List.length_map, List.length_replicate]
    rfl
theorem ok_Refused_init (W : Wd K mg base) (hP : PF P) {cc cda : Addr} {doc pm ct : Value} {an : Option Addr} (O : RfO K cc cda doc pm ct an) : FnOk P w K mg base CX0 1 (refI K) (fnRf K cc cda doc pm ct an) ["self", "what", "index"] (sp_Refused_init K) := by
  refine ⟨fun vs H Q E h => by obtain ⟨_, _, _, rfl, _⟩ := h; rfl, fun A outer s H args us vs Q E hr e0 hb r hsp => ?_⟩
  obtain ⟨oc, od, sl, lk⟩ := O.lk
  obtain ⟨a, z, i, rfl, ha, hi, hQ⟩ := hsp
  obtain ⟨ua, ub, uc, rfl, ra, rb, rc⟩ : ∃ ua ub uc, us = [ua, ub, uc] ∧ RelV (.ref a) ua ∧ RelV (.str z) ub ∧ RelV (.int i) uc := by
    cases r with
    | cons ra r => cases r with
      | cons rb r => cases r with
        | cons rc r => cases r with
          | nil => exact ⟨_, _, _, rfl, ra, rb, rc⟩
  have KX : K.In s.heap := e0.mod.kin.keeps fun b o e => (e0.bs b o e).1
  have lim : s.heap.NoLimit := e0.mod.nolimit.keeps fun b o e => (e0.bs b o e).1
  have hcell : ∀ x ∈ (defScope s_Refused_init).names, x.2 ≠ .cell := by decide +kernel
  have hloc : ∀ y ∈ (["self", "what", "index"] : List Str), (defScope s_Refused_init).names.lookup y = some .local := by decide +kernel
  refine ks_codeAny_call_defAt (fd := fnRf K cc cda doc pm ct an) (body := defBody s_Refused_init) hr.depth (KX _ _ lk) rfl lim (PySem.W.codeRec_of KX O.cd) rfl hb hcell (fun x hx => hloc _ (List.of_mem_zip hx).1) (fun h1 hns hk => ?_)
  have I : Inv (cxRf P w K mg base cc cda A outer s H E) [] (L2.start ["self", "what", "index"] [.ref a, .str z, .int i]) H { s with heap := h1, toks := s.toks + ((["self", "what", "index"] : List Str).zip [ua, ub, uc]).length } := rf_start O hr.hd e0 ra rb rc hns hk
  obtain ⟨p0, p1, p2, p3, p4, arg, st2, st3, eb, hA, hS, ⟨pl, hpl⟩, hst⟩ := rf_body (P := P) (w := w) W cc cda A outer s H E
  rw [eb]
  clear eb hk
  have eE : callEnv (fnRf K cc cda doc pm ct an) s.heap.objs.size (refI K) = envRf cc cda s.heap.objs.size (refI K) := rfl
  rw [eE]
  generalize s.toks + ((["self", "what", "index"] : List Str).zip [ua, ub, uc]).length = tk at I ⊢
  obtain ⟨ccl, cdd, fvs, ccs, file, tf, hcode, hvs, hfile⟩ := O.file
  obtain ⟨cl, cld, csl, hcellK⟩ := O.cell
  have hks : (defScope s_Refused_init).names.lookup ("super" : Str) = some .globalImplicit := by decide +kernel
  have hkc : (defScope s_Refused_init).names.lookup ("__class__" : Str) = some .free := by decide +kernel
  obtain ⟨ar, har, earg⟩ : ∃ ar : Arg, ((defArgs s_Refused_init).posonlyargs ++ (defArgs s_Refused_init).args).head? = some ar ∧ ar.arg = "self" := ⟨_, rfl, rfl⟩
  have KX1 : K.In h1 := I.kIn
  have hfile' : ((P.main.file : Str) == file) = true := by rw [← hfile]; exact hP.1
  refine ks_wpAt_execs_cons (ks_wpAt_Expr_any (ks_wpAt_MethodCall (ks_wpAt_super_base (env := envRf cc cda s.heap.objs.size (refI K)) hks hkc (by decide) rfl (KX1 _ _ lk) rfl har rfl (KX1 _ _ hcode) rfl hvs hfile' hP.2 ?_) hpl))
  obtain rfl : ua = Value.ref a := ra
  obtain ⟨mb, hb1, hb2⟩ := I.mod.blt
  have bootS : bootBuiltins "super" = some (.type "super") := by decide +kernel
  refine PySem.W.ks_loadName_global rfl hks (Calls.loadGlobal_builtin (env := envRf cc cda s.heap.objs.size (refI K)) (I.mod.glob.keeps I.bk) W.fr_super (hb1.keeps I.bk) ((hb2 _ (by decide)).trans bootS) ⟨rfl, ?_⟩)
  refine wpAny_loadName_free rfl hkc rfl ⟨_, KX1 _ _ hcellK, rfl⟩ ?_
  rw [earg]
  refine wpAny_loadName_local (v := Value.ref a) rfl (hloc _ (.head _)) hns (by kernel_rfl) ?_
  obtain ⟨nm, q, N, bs, bm, sn, sub, ab, col, dd, k0, k1, k2, k3, k5, hC, hbm⟩ := W.oex.cls
  obtain ⟨t1, hox⟩ := exo_at I.hok ha
  have hcls : PySem.W.clsIn K (refC K) = some { name := nm, bases := bs, mro := .ref (refC K) :: bm, ns := N, qualname := q, hasDict := true, slotNames := sn, subclasses := sub, abstract := ab, collection := col, hasDel := false } := by unfold PySem.W.clsIn; rw [hC] <;> rfl
  have hmro : bm = tailC K := by
    have h2 : mroEq K = true := W.more (i := 3) rfl
    unfold mroEq at h2
    rw [hcls] at h2
    have h2' : (decide ((.ref (refC K) :: bm : List Value) = .ref (refC K) :: tailC K) && true) = true := h2
    rw [Bool.and_true, decide_eq_true_eq] at h2'
    exact (List.cons.inj h2').2
  refine ks_wpAny_isType_cls (KX1 _ _ hC) rfl ⟨rfl, ?_⟩
  refine ks_wpAny_call_super (KX1 _ _ hC) rfl hox rfl (fun c z => by cases z) (PySem.W.looks_mroIn KX1 (of_decide_eq_true (W.more (i := 17) rfl))) (fun h2 e2 kk2 => ?_)
  have I2 := I.kept (t' := tk) kk2
  have hox2 := kk2 _ _ hox
  have IA : PySem.W.InstAt h2 a { cls := .ref (refC K), dict := none, data := .fields #[.ref t1, .none, .none, .none, .bool false, .none] } (refC K) none := ⟨hox2, rfl, rfl, trivial⟩
  refine PySem.W.kxs_getMethod PySem.W.kxs_ValueError e2 (PySem.W.looks_opaque I2.kIn (He.eqO_ok (W.more (i := 19) rfl))) (l₀ := .ref (refC K) :: bm) (fun A Q E s k q => wpAny_bind ((PySem.W.looks_clsIn I2.kIn hcls) A _ E s k (wpAny_pure q))) (ESX.drop_own _ _) I2.kIn (by rw [hmro]; exact He.eqO_ok (W.more (i := 15) rfl)) (IA.type.andThen (PySem.W.looks_subIn I2.kIn (of_decide_eq_true (W.more (i := 16) rfl)))) (PySem.W.ks_ne I2.kIn IA hcls) (by decide) ?_
  have hu3 : (h2.push (PySem.W.kxs_mw "ValueError.__init__" a)).get? h2.objs.size = some (PySem.W.kxs_mw "ValueError.__init__" a) := Heap.get?_push_size _ rfl
  have I3 := I2.kept (t' := tk + 1) (h' := h2.push (PySem.W.kxs_mw "ValueError.__init__" a)) fun b o e => Heap.get?_push_of_some _ e
  have hun : H h2.objs.size = none := I2.hok.fresh (Nat.le_refl _)
  have I3p : Inv (cxRf P w K mg base cc cda A outer s H E) [(h2.objs.size, PySem.W.kxs_mw "ValueError.__init__" a)] _ H _ := I3.pins_of fun p hp => by
    have z : p = (h2.objs.size, PySem.W.kxs_mw "ValueError.__init__" a) := by simpa using hp
    rw [z]
    refine ⟨hu3, hun, Nat.ne_of_gt I2.lt, I2.nofs (Nat.le_refl _), fun v e => by cases e⟩
  clear I3
  dsimp only
  have hplain : (backTo p3 (starEach [] (envRf cc cda s.heap.objs.size (refI K)))).any (·.1) = false := rfl
  have hPA : PA (cxRf P w K mg base cc cda A outer s H E) [arg] (tCons _ tNil) := pa_cons hA pa_nil hst
  rw [hst]
  refine PySem.W.kxs_callWith (i := "ValueError.__init__") (x := a) (by show (false || (backTo p3 (starEach [] (envRf cc cda s.heap.objs.size (refI K)))).any (·.1)) = false; rw [hplain]; rfl) (Calls.evalArgs_plain ?_)
  have hrun := hPA.run p3 [(h2.objs.size, PySem.W.kxs_mw "ValueError.__init__" a)] _ _ H (fun vs G => G = H ∧ vs.length ≤ 1000) I3p ⟨_, rfl, _, _, rfl, rfl, _, rfl, itT (decide_eq_true hi) ⟨_, rfl, rfl, by show 1 ≤ 1000; decide⟩⟩
  have hrun : wpAny _ _ (spliced (backTo p3 (starEach [arg] (envRf cc cda s.heap.objs.size (refI K))))) _ _ _ := hrun
  rw [hst] at hrun
  refine wpAny_mono hrun (fun us s4 ⟨vs, G4, I4, r4, eG, l4⟩ => ?_) fun _ _ x => x
  have eG := eG.symm
  subst eG
  have hu4 := (I4.pin _ (List.mem_append_right _ (.head _))).1
  refine ⟨hu4, ?_⟩
  obtain ⟨t4, hox4⟩ := exo_at I4.hok ha
  have lus : us.length ≤ sizeLine := by rw [← r4.length, sizeLine_eq]; omega
  obtain ⟨h4, g4, d4, tk4, os4⟩ := s4
  refine call_mw (I4.kIn _ _ hC) hox4 hu4 lus fun h5 t5 k5 hx5 => ?_
  have I5 := I4.write (t' := tk4) (x := a) (e := a) (o := exo a (refC K) none) (by rw [ha]; exact True.intro) (.inl rfl) k5 ⟨_, hx5⟩ (exo_ok hx5)
  have eu : upd H a (exo a (refC K) none) = H := by
    funext b
    by_cases hb : b = a
    · rw [hb, upd_same, ha]
    · rw [upd_ne hb]
  rw [eu] at I5
  refine wpAt_of_wpAny (wpAny_mono (hS.run _ _ _ H { nx := fun _ H' => Q .non H', rt := Q } I5 ?_) (fun fl s' hs => ?_) fun e s' hs => hs)
  · refine ⟨_, rfl, _, rfl, a, refC K, rfl, W.oex, He.eqO_ok (W.more (i := 7) rfl), .inl ⟨ha, fun d hd hda => ⟨_, rfl, _, rfl, a, refC K, rfl, W.oex, He.eqO_ok (W.more (i := 8) rfl), .inr ⟨d, _, upd_same, (upd_ne hda).trans upd_same, by show 1 ≤ 900; decide, hQ d hd hda⟩⟩⟩⟩
  · have fin : ∀ {σ' : L2.St} {H' : Hp} {v : V} {u : Value}, Inv (cxRf P w K mg base cc cda A outer s H E) [(h2.objs.size, PySem.W.kxs_mw "ValueError.__init__" a)] σ' H' s' → RelV v u → Q v H' → CE outer P w H s Q u s' :=
      fun {σ' H' v u} J rv q => ⟨v, H', J.os, J.bare, J.base, J.hok, rv, q⟩
    cases fl with
    | ret u =>
      obtain ⟨v, σ', H', J, rv, q⟩ := hs
      exact fin J rv q
    | next =>
      obtain ⟨σ', H', J, q⟩ := hs
      exact fin (v := V.non) (u := Value.none) J rfl q
    | brk =>
      obtain ⟨_, _, _, q⟩ := hs
      exact False.elim q
    | cont =>
      obtain ⟨_, _, _, q⟩ := hs
      exact False.elim q
end
end K83
namespace K83
open PySem PySem.Spec PyProof.Rows L2 GxR
/-! ### raise Refused(what, -1) -/
theorem pmk_ref {X : Cx} {p pos : Pos} {e : Expr} {es : List Expr} {ta : TA} (W : Wd X.K X.mg X.base) (hP : PF X.prog) (hr : Room 2 X.A) (hg : Gl X "Refused") (ha : PA X (e :: es) ta)
    (he : starEach (e :: es) X.env = (false, eval e X.env) :: starEach es X.env := by rfl) (hpl : (backTo pos (starEach es X.env)).any (·.1) = false := by rfl) : PMk X (.Call (.Name "Refused" p) (e :: es) [] pos) (tMkO (refC X.K) (sp_Refused_init X.K) [] ta) := by
  obtain ⟨cc, cda, doc, pm, ct, an, O⟩ := W.rf
  have hb : Binds X.K (fnRf X.K cc cda doc pm ct an) ["self", "what", "index"] [] := Binds.all fun us hl => match us, hl with | [_, _, _], _ => rfl
  exact pmk_oex (X := X) (CX := CX0) (x := "Refused") (p := p) (pos := pos) (dvs := []) W.oex (He.eqO_ok (W.more (i := 9) rfl)) (of_decide_eq_true (W.more (i := 10) rfl)) (ok_Refused_init (P := X.prog) (w := X.w) W hP O) hr hb .nil (fun _ _ _ _ _ _ _ h => h.elim) hg W.gl_Refused ha (by decide) he hpl
/-- its own dict is new -/
def rfD (z : Str) : List (Str × V) := [("index", .int (-1)), ("what", .str z)]
theorem mko {K : PySem.W.Frag} {H1 : Hp} {z : Str} {Q : XK} (h : ∀ d, H1 d = none → Q (.ref (refC K)) (some d) (upd H1 d (.xd (rfD z)))) : ([.str z, .int (-1)] : List V).length ≤ 1000 ∧ ∀ a, H1 a = none → sp_Refused_init K (.ref a :: ([.str z, .int (-1)] ++ [])) (upd H1 a (exo a (refC K) none))
    (fun v H2 => v = .non ∧ ∃ (d : Addr) (fs : List (Str × V)), H2 a = some (exo a (refC K) (some d)) ∧ H2 d = some (exd d fs) ∧ H1 d = none ∧ Q (.ref (refC K)) (some d) (upd (del H2 a) d (.xd fs))) (fun _ _ _ => False) := by
  refine ⟨by show 2 ≤ 1000; decide, fun a ha => ⟨a, z, -1, rfl, upd_same, by decide, fun d hd hda => ⟨rfl, d, rfD z, ?_, upd_same, ?_, ?_⟩⟩⟩
  · rw [upd_ne hda.symm, upd_same]
  · rwa [upd_ne hda] at hd
  · have hd0 : H1 d = none := by rwa [upd_ne hda] at hd
    have e : upd (del (upd (upd (upd (upd H1 a (exo a (refC K) none)) d (exd d [("what", .str z)])) a (exo a (refC K) (some d))) d (exd d [("index", .int (-1)), ("what", .str z)])) a) d (.xd (rfD z)) = upd H1 d (.xd (rfD z)) := by
      funext b
      by_cases hbd : b = d
      · rw [hbd, upd_same, upd_same]
      · rw [upd_ne hbd, upd_ne hbd]
        by_cases hba : b = a
        · rw [hba, del_same, ha]
        · rw [del_ne hba, upd_ne hbd, upd_ne hba, upd_ne hbd, upd_ne hba]
    rw [e]
    exact h d hd0
section
variable {P : Program} {w : World} {K : PySem.W.Frag} {mg : Str → Option Value} {base : Heap}
def behindS : Str := "replica is behind"
def sp_Replica_check (K : PySem.W.Frag) : Sp := fun vs H Q E => ∃ (B : Nat) (T : Nat → List (List Str)) (p l n : Nat) (t m u : Str) (o : Option Nat), vs = [.ref p, .str t, .str m, .str u, .str (tokS o)] ∧ TokOk o ∧ Tabs K H ∧ ReAt (cR K) B T H p l n ∧
  ((n : Int) < tokI o → ∀ d H', Sm H H' → H' d = some (.xd (rfD behindS)) → E (.ref (refC K)) (some d) H') ∧
  (¬ (n : Int) < tokI o → ∀ b H', Sm H H' → H' b = some (.tup [.bl (decide ([t, m, u] ∈ T n)), .str (tok n)]) → Q (.ref b) H')
abbrev N_Replica_check : List Str := ["self", "target", "name", "subject", "at_least", "store", "number"]
theorem ok_Replica_check (W : Wd K mg base) (hP : PF P) : FnOk P w K mg base (L2.CX P w) 6 (A_Replica_check K) (F_Replica_check K) ["self", "target", "name", "subject", "at_least"] (sp_Replica_check K) := by
  refine W.fu_Replica_check.ok sc_Replica_check (fun vs H Q E h => by obtain ⟨_, _, _, _, _, _, _, _, _, rfl, _⟩ := h; rfl) fun cdv A outer s H vs Q E hr h => ?_
  obtain ⟨B, T, p, l, n, t, m, u, o, rfl, ho, hT, hR, hE, hQ⟩ := h
  refine ⟨_, (pss_cons (ps_if (pt_cmpR op_ne (pv 4) pe_str (nomark _)) (pss_cons (ps_asg (pe_call (ok_split_token W) (hr.mono (by decide)) rfl W.gl_split_token (W.fu_split_token).kp W.bd_split_token .nil pass0 (pa_cons (pv 4) pa_nil)) (pg_tup rfl (pgs_cons (pg_name (i := 5) sc_Replica_check.nd rfl (by first | exact Or.inl rfl | exact Or.inr rfl)) (pgs_cons (pg_name (i := 6) sc_Replica_check.nd rfl (by first | exact Or.inl rfl | exact Or.inr rfl)) pgs_nil))))
      (pss_cons (ps_if (pt_cmpR op_ne (pv 5) (pe_fld (pv 0) rfl) (nomark _)) (pss_one ps_never) pss_nil)
      (pss_one (ps_if (pt_cmpR op_gt (pv 6) (pe_fld (pv 0) rfl) (nomark _)) (pss_one (ps_raise rfl (takes_of rfl rfl rfl rfl) (pmk_ref W hP (hr.mono (by decide)) rfl (pa_cons pe_str (pa_cons (pe_un un_neg pe_int) pa_nil))))) pss_nil)))) pss_nil)
      (pss_one (ps_ret (pe_tup (pa_cons (pe_cmpR (op_inL hr.units) (pe_tup (pa_cons (pv 1) (pa_cons (pv 2) (pa_cons (pv 3) pa_nil)))) (pe_fld (pv 0) rfl) (by rfl)) (pa_cons (pe_call (ok_token_of W) (hr.mono (by decide)) rfl W.gl_token_of (W.fu_token_of).kp W.bd_token_of .nil pass0 (pa_cons (pe_fld (pv 0) rfl) (pa_cons (pe_fld (pv 0) rfl) pa_nil))) pa_nil)))))), ?_⟩
  have sz : sizeLine = 16777216 := sizeLine_eq
  obtain ⟨⟨dx, vt, tb, hp, ht, hs⟩, ⟨kvs, hl, hk⟩, hn⟩ := id hR
  have fin : ∀ G, Sm H G → ¬ (n : Int) < tokI o → ∀ σ : L2.St, σ[0]? = some (some (.ref p)) → σ[1]? = some (some (.str t)) → σ[2]? = some (some (.str m)) → σ[3]? = some (some (.str u)) →
      (tRet (tTup (tCons (tOp (rInL K) (tTup (tCons (tVar 1) (tCons (tVar 2) (tCons (tVar 3) tNil)))) (tFld K (tVar 0) "table")) (tCons (tCall sp_token_of [] E0 (tCons (tFld K (tVar 0) "name") (tCons (tFld K (tVar 0) "number") tNil))) tNil)))) { nx := fun _ H' => Q .non H', rt := Q } σ G := by
    intro G a hno σ s0 s1 s2 s3
    obtain ⟨x, xs, rfl, hx, hxs⟩ := ht.sx a
    refine ⟨_, s1, _, s2, _, s3, by show 3 ≤ sizeLine; omega, fun q hq => ?_⟩
    have a2 : Sm G (upd G q (.tup [.str t, .str m, .str u])) := Sx.new hq
    have hpG := (a.trans a2).atS hp
    refine ⟨_, s0, p, cR K, dx, _, _, rfl, hpG, W.cl_Replica, W.na_Replica_table, rfl, [t, m, u], tb, x, xs, ⟨q, rfl, upd_same⟩, rfl, .of (a2.atS hx), hxs.sx a2, ?_⟩
    refine ⟨_, s0, p, cR K, dx, _, _, rfl, hpG, W.cl_Replica, W.na_Replica_name, rfl, _, s0, p, cR K, dx, _, _, rfl, hpG, W.cl_Replica, W.na_Replica_number, rfl, n, rfl, by omega, by show 2 ≤ sizeLine; omega, fun b hb => ?_⟩
    have e : decide ([t, m, u] ∈ tb) = decide ([t, m, u] ∈ T n) := decide_eq_decide.mpr (hs.2 _)
    rw [e]
    exact hQ hno b _ ((a.trans a2).trans (Sx.new hb)) upd_same
  refine ⟨_, rfl, rfl, _, rfl, ?_⟩
  cases o with
  | none => exact itF (by show (!decide (V.str "" = V.str "")) = false; simp) (fin H (Sx.refl _) (by show ¬ (n : Int) < -1; omega) _ rfl rfl rfl rfl)
  | some k =>
    have hk' := ho k rfl
    refine itT (by rw [show decide (V.str (tokS (some k)) = V.str "") = false from decide_eq_false fun z => tok_ne k hk' (by injection z)]; rfl) ⟨_, rfl, k, rfl, hk', hT, fun v G a ⟨b, ev, hb⟩ => ?_⟩
    subst ev
    have hpG := a.atS hp
    refine ⟨b, _, rfl, .of hb, rfl, _, _, rfl, _, _, rfl, rfl, _, rfl, _, rfl, p, cR K, dx, _, _, rfl, hpG, W.cl_Replica, W.na_Replica_name, rfl, rfl, _, rfl, itF (by simp) ⟨_, rfl, _, rfl, p, cR K, dx, _, _, rfl, hpG, W.cl_Replica, W.na_Replica_number, rfl, _, _, rfl, rfl, _, rfl, ?_⟩⟩
    by_cases hlt : (n : Int) < (k : Int)
    · exact itT (decide_eq_true hlt) ⟨1, rfl, mko fun d hd => hE hlt d _ (a.trans (Sx.new hd)) upd_same⟩
    · exact itF (decide_eq_false hlt) (fin G a hlt _ rfl rfl rfl rfl)
/-! ### the cache where it is not touched -/
theorem CaAt.sxM {M : Addr → Prop} {C : Addr} {H H1 : Hp} {p e : Addr} {n c : Nat} {es : List Ent} (a : Sx M H H1) (np : ¬ M p) (ne : ¬ M e) (h : CaAt C H p e n c es) : CaAt C H1 p e n c es := by
  obtain ⟨⟨dx, hp⟩, kvs, he, hes⟩ := h
  exact ⟨⟨dx, a.at hp np⟩, kvs, a.at he ne, ens_sx a hes⟩
theorem CaAt.sx {C : Addr} {H H1 : Hp} {p e : Addr} {n c : Nat} {es : List Ent} (a : Sm H H1) (h : CaAt C H p e n c es) : CaAt C H1 p e n c es := h.sxM a (fun z => z) fun z => z
theorem re_ce {C C' : Addr} {B : Nat} {T : Nat → List (List Str)} {H H1 : Hp} {p l rn cp ce n c : Nat} {es : List Ent} (hC : CaAt C' H cp ce n c es) (a : Sx (fun b => b = ce) H H1) (h : ReAt C B T H p l rn) : ReAt C B T H1 p l rn := by
  obtain ⟨_, kvs, he, _⟩ := hC
  obtain ⟨⟨dx, vt, tb, hp, _⟩, ⟨kvs', hl, _⟩, _⟩ := id h
  refine h.sxM a (fun b xs hb z => by rw [z, he] at hb; cases hb) (fun z => ?_) fun z => ?_
  · rw [z, he] at hp; cases hp
  · rw [z, he] at hl; cases hl
def sp_Cache_check (K : PySem.W.Frag) : Sp := fun vs H Q E => ∃ (B : Nat) (T : Nat → List (List Str)) (p l rn cp ce n c : Nat) (es : List Ent) (t m u : Str) (o : Option Nat), vs = [.ref cp, .ref p, .str t, .str m, .str u, .str (tokS o)] ∧ TokOk o ∧ Tabs K H ∧ ReAt (cR K) B T H p l rn ∧ CaAt (cC K) H cp ce n c es ∧ es.length ≤ 1000 ∧ (∀ z ∈ es, z.2.2 < 41) ∧
  (∀ x, lookR es [t, m, u] o = some x → ∀ v H', Sx (fun b => b = ce) H H' → CaAt (cC K) H' cp ce n c (lookE es [t, m, u] o) → AnV H' v (some x) → Q v H') ∧
  (lookR es [t, m, u] o = none → (rn : Int) < tokI o → ∀ d H', Sx (fun b => b = ce) H H' → CaAt (cC K) H' cp ce n c es → H' d = some (.xd (rfD behindS)) → E (.ref (refC K)) (some d) H') ∧
  (lookR es [t, m, u] o = none → ¬ (rn : Int) < tokI o → ∀ b H', Sx (fun b => b = ce) H H' → CaAt (cC K) H' cp ce n c (if rn ≤ n then storeE es [t, m, u] (decide ([t, m, u] ∈ T rn), rn) c else es) → H' b = some (.tup [.bl (decide ([t, m, u] ∈ T rn)), .str (tok rn)]) → Q (.ref b) H')
abbrev N_Cache_check : List Str := ["self", "replica", "target", "name", "subject", "at_least", "found", "answer"]
theorem ok_Cache_check (W : Wd K mg base) (hP : PF P) : FnOk P w K mg base (L2.CX P w) 8 (A_Cache_check K) (F_Cache_check K) ["self", "replica", "target", "name", "subject", "at_least"] (sp_Cache_check K) := by
  refine W.fu_Cache_check.ok sc_Cache_check (fun vs H Q E h => by obtain ⟨_, _, _, _, _, _, _, _, _, _, _, _, _, _, rfl, _⟩ := h; rfl) fun cdv A outer s H vs Q E hr h => ?_
  obtain ⟨B, T, p, l, rn, cp, ce, n, c, es, t, m, u, o, rfl, ho, hT, hR, hC, hl, hu, hQ1, hE, hQ2⟩ := h
  refine ⟨_, (pss_cons (ps_if (pt_cmpR op_ne (pe_meth0 (pv 1) W.cl_Replica W.mt_Replica_store_id (ok_Replica_store_id W) (hr.mono (by decide)) W.bd_Replica_store_id .nil pass0) (pe_fld (pv 0) rfl) (nomark _)) (pss_one ps_never) pss_nil)
      (pss_cons (ps_set (i := 6) sc_Cache_check.nd rfl (by first | exact Or.inl rfl | exact Or.inr rfl) (pe_meth (pv 0) W.cl_Cache W.mt_Cache_lookup (ok_Cache_lookup W) (hr.mono (by decide)) W.bd_Cache_lookup .nil pass0 (pa_cons (pv 2) (pa_cons (pv 3) (pa_cons (pv 4) (pa_cons (pv 5) pa_nil))))))
      (pss_cons (ps_if (pt_cmpR op_notN (pv 6) pe_non (nomark _)) (pss_one (ps_ret (pv 6))) pss_nil)
      (pss_cons (ps_set (i := 7) sc_Cache_check.nd rfl (by first | exact Or.inl rfl | exact Or.inr rfl) (pe_meth (pv 1) W.cl_Replica W.mt_Replica_check (ok_Replica_check W hP) (hr.mono (by decide)) W.bd_Replica_check .nil (passes_call (takes_of rfl rfl rfl rfl) (fun _ _ _ _ h => h)) (pa_cons (pv 2) (pa_cons (pv 3) (pa_cons (pv 4) (pa_cons (pv 5) pa_nil))))))
      (pss_cons (ps_if (pt_cmpR op_le (pe_meth (pv 0) W.cl_Cache W.mt_Cache_number_of (ok_Cache_number_of W) (hr.mono (by decide)) W.bd_Cache_number_of .nil pass0 (pa_cons (pe_ix ix_tup (pv 7) pe_int (fun _ _ => rfl)) pa_nil)) (pe_fld (pv 0) rfl) (nomark _)) (pss_one (ps_expr (pe_meth (pv 0) W.cl_Cache W.mt_Cache_store (ok_Cache_store W) (hr.mono (by decide)) W.bd_Cache_store .nil pass0 (pa_cons (pv 2) (pa_cons (pv 3) (pa_cons (pv 4) (pa_cons (pv 7) pa_nil))))))) pss_nil)
      (pss_one (ps_ret (pv 7)))))))), ?_⟩
  have sz : sizeLine = 16777216 := sizeLine_eq
  obtain ⟨⟨dx, vt, tb, hp, _⟩, _, hn⟩ := id hR
  obtain ⟨⟨dc, hcp⟩, kvs, hce, _⟩ := id hC
  have ncp : cp ≠ ce := ne_of hcp hce fun z => nomatch z
  refine ⟨_, rfl, p, dx, _, rfl, hp, rfl, B, T, p, l, rn, rfl, hR, _, rfl, cp, cC K, dc, _, _, rfl, hcp, W.cl_Cache, W.na_Cache_own_id, rfl, rfl, _, rfl, itF (by simp) ?_⟩
  refine ⟨_, rfl, cp, dc, _, rfl, hcp, rfl, _, rfl, _, rfl, _, rfl, _, rfl, cp, ce, n, c, es, t, m, u, o, rfl, ho, hT, hC, hl, hu, fun v G a hCG hAn => ?_⟩
  cases hx : lookR es [t, m, u] o with
  | some x =>
    rw [hx] at hAn
    obtain ⟨b, rfl, hb⟩ := id hAn
    exact ⟨_, rfl, rfl, _, rfl, itT rfl ⟨_, rfl, hQ1 x hx _ G a hCG hAn⟩⟩
  | none =>
    rw [hx] at hAn
    have e : v = .non := hAn
    subst e
    have ee : lookE es [t, m, u] o = es := by unfold lookE; rw [hx]
    rw [ee] at hCG
    have hRG := re_ce hC a hR
    obtain ⟨⟨dx2, vt2, tb2, hp2, _⟩, _, _⟩ := id hRG
    refine ⟨_, rfl, rfl, _, rfl, itF rfl ⟨_, rfl, p, dx2, _, rfl, hp2, rfl, _, rfl, _, rfl, _, rfl, _, rfl, B, T, p, l, rn, t, m, u, o, rfl, ho, hT.sx a, hRG, fun hlt d G2 a2 hd => hE hx hlt d G2 (a.trans (Sx.of a2)) (hCG.sx a2) hd, fun hno b G2 a2 hb => ?_⟩⟩
    have hC2 := hCG.sx a2
    obtain ⟨⟨dc2, hcp2⟩, _⟩ := id hC2
    have aa2 := a.trans (Sx.of a2)
    refine ⟨_, rfl, cp, dc2, _, rfl, hcp2, rfl, _, rfl, b, _, 1, _, rfl, rfl, .of hb, atI_nat (j := 1) rfl, cp, ce, n, c, es, some rn, rfl, (fun k z => by cases z; omega), hT.sx aa2, hC2, fun G3 a3 => ?_⟩
    have hC3 := hC2.sx a3
    obtain ⟨⟨dc3, hcp3⟩, _⟩ := id hC3
    have aa3 := aa2.trans (Sx.of a3)
    have hb3 := a3.tups _ _ hb
    have q2 := hQ2 hx hno b
    refine ⟨_, rfl, cp, cC K, dc3, _, _, rfl, hcp3, W.cl_Cache, W.na_Cache_number, rfl, _, _, rfl, rfl, _, rfl, ?_⟩
    by_cases hle : rn ≤ n
    · rw [if_pos hle] at q2
      refine itT (decide_eq_true (by show (rn : Int) ≤ (n : Int); omega)) ⟨_, rfl, cp, dc3, _, rfl, hcp3, rfl, _, rfl, _, rfl, _, rfl, _, rfl, cp, ce, n, c, es, t, m, u, b, _, rn, rfl, hb3, by omega, hle, hT.sx aa3, hC3, hl, fun G4 a4 hC4 => ⟨_, rfl, q2 G4 (aa3.trans a4) hC4 (a4.tups _ _ hb3)⟩⟩
    · rw [if_neg hle] at q2
      exact itF (decide_eq_false (by show ¬ (rn : Int) ≤ (n : Int); omega)) ⟨_, rfl, q2 G3 aa3 hC3 hb3⟩
end
end K83
namespace K83
open PySem PySem.Spec PyProof.Rows L2 L2.DX GxR
section
variable {P : Program} {w : World} {K : PySem.W.Frag} {mg : Str → Option Value} {base : Heap}
def sp_law_cell (K : PySem.W.Frag) : Sp := fun vs H Q _ => ∃ (a : Addr) (ns : List Int) (k : Nat), vs = [.ref a, .int k] ∧ SqL K H a (ns.map V.int) ∧ ∀ i : Int, Q (.int i) H
theorem ok_law_cell (W : Wd K mg base) : FnOk P w K mg base CX0 1 (A_law_cell K) (F_law_cell K) ["_law_script", "_law_k"] (sp_law_cell K) := by
  refine W.fu_law_cell.ok sc_law_cell (fun vs H Q E h => by obtain ⟨_, _, _, rfl, _⟩ := h; rfl) fun cdv A outer s H vs Q E hr h => ?_
  obtain ⟨a, ns, k, rfl, ha, hQ⟩ := h
  refine ⟨_, PSs.nox (pss_cons (ps_if (pt_cmpR op_lt (pv 1) (pe_callB call_len_seq (by rfl) W.fr_len PySem.boot_len (pa_cons (pv 0) pa_nil)) (nomark _)) (pss_one (ps_ret (pe_ix ix_list (pv 0) (pv 1) (fun _ _ => rfl)))) pss_nil)
      (pss_one (ps_ret pe_int))), ?_⟩
  refine ⟨_, rfl, _, rfl, a, _, rfl, .inl ha, _, _, rfl, rfl, _, rfl, ?_⟩
  rw [List.length_map]
  by_cases h : k < ns.length
  · exact itT (decide_eq_true (by omega)) ⟨_, rfl, _, rfl, a, _, k, .int ns[k], rfl, rfl, ha, atI_nat (by rw [List.getElem?_map, List.getElem?_eq_getElem h]; rfl), hQ _⟩
  · exact itF (decide_eq_false (by omega)) (hQ 0)
def sp_law_draws (K : PySem.W.Frag) : Sp := fun vs H Q _ => ∃ (i : Int) (k : Nat), vs = [.int i, .int k] ∧ k ≤ 100 ∧ ∀ (l : Addr) (ns : List Int) (H' : Hp), Sm H H' → H' l = some (.lst (ns.map V.int)) → ns.length = k → (∀ x ∈ ns, 0 ≤ x) → Q (.ref l) H'
abbrev N_law_draws : List Str := ["_law_cell_here", "_law_count", "_law_found", "_law_is_wide", "_law_k", "_law_mixed"]
theorem ok_law_draws (W : Wd K mg base) : FnOk P w K mg base CX0 1 (A_law_draws K) (F_law_draws K) ["_law_cell_here", "_law_count"] (sp_law_draws K) := by
  refine W.fu_law_draws.ok sc_law_draws (fun vs H Q E h => by obtain ⟨_, _, rfl, _⟩ := h; rfl) fun cdv A outer s H vs Q E hr h => ?_
  obtain ⟨i, k, rfl, hk, hQ⟩ := h
  refine ⟨_, PSs.nox (pss_cons (ps_set (i := 2) sc_law_draws.nd rfl (by first | exact Or.inl rfl | exact Or.inr rfl) (pe_lst pa_nil))
      (pss_cons (ps_set (i := 3) sc_law_draws.nd rfl (by first | exact Or.inl rfl | exact Or.inr rfl) (pe_cmpR op_ge (pv 0) (pe_op op_pow pe_int pe_int) (nomark _)))
      (pss_cons (ps_for PassesOwn.never rfl (pi_range1 rfl W.fr_range (pa_cons (pv 1) pa_nil)) (pg_name (i := 4) sc_law_draws.nd rfl (by first | exact Or.inl rfl | exact Or.inr rfl)) (pss_one (ps_if (pt_val (pv 3)) (pss_cons (ps_expr (pe_bm PySem.F.plainAttrs_list PySem.F.slot_list_append PySem.F.type_list_append mt_append (pv 2) (pa_cons (pe_op op_mod (pe_callTy call_int1 (by rfl) W.fr_int (by decide +kernel) (pa_cons (pv 0) pa_nil)) pe_int) pa_nil)))
      (pss_one (ps_set (i := 0) sc_law_draws.nd rfl (by first | exact Or.inl rfl | exact Or.inr rfl) (pe_op op_fdivN (pv 0) pe_int)))) (pss_cons (ps_set (i := 5) sc_law_draws.nd rfl (by first | exact Or.inl rfl | exact Or.inr rfl) (pe_op op_mod (pe_callTy call_int1 (by rfl) W.fr_int (by decide +kernel) (pa_cons (pe_op op_add (pe_op op_mul (pv 0) pe_int) (pe_op op_mul (pv 4) pe_int)) pa_nil)) pe_int))
      (pss_one (ps_expr (pe_bm PySem.F.plainAttrs_list PySem.F.slot_list_append PySem.F.type_list_append mt_append (pv 2) (pa_cons (pe_op op_mod (pe_callTy call_int1 (by rfl) W.fr_int (by decide +kernel) (pa_cons (pe_op op_add (pe_op op_add (pe_op op_mul (pv 5) (pv 5)) (pe_op op_mul (pv 0) pe_int)) (pv 4)) pa_nil)) pe_int) pa_nil))))))))
      (pss_one (ps_ret (pv 2)))))), ?_⟩
  have sz : sizeLine = 16777216 := sizeLine_eq
  refine ⟨Nat.zero_le _, fun l hl => ?_⟩
  have al : Sm H (upd H l (.lst [])) := Sx.new hl
  have gl : upd H l (.lst []) l = some (.lst (([] : List Int).map V.int)) := upd_same
  generalize upd H l (.lst []) = H0 at al gl ⊢
  refine ⟨_, rfl, 10, 18, rfl, rfl, ⟨by decide, by decide, by decide⟩, _, _, rfl, rfl, ?_⟩
  obtain ⟨wd, hwd⟩ : ∃ wd, decide ((10 : Int) ^ Int.toNat 18 ≤ i) = wd := ⟨_, rfl⟩
  refine ⟨_, rfl, _, rfl, by omega, by omega, for_it walk_range (fun j τ G => ∃ (ci : Int) (o4 o5 : Option V) (ns : List Int), τ = [some (.int ci), some (.int k), some (.ref l), some (.bl wd), o4, o5] ∧ Sx (fun b => b = l) H0 G ∧ G l = some (.lst (ns.map V.int)) ∧ ns.length = j ∧ ∀ x ∈ ns, 0 ≤ x) ⟨i, _, _, [], by rw [← hwd]; rfl, Sx.refl _, gl, rfl, fun x h => absurd h List.not_mem_nil⟩
    (fun _ _ _ _ _ => True.intro) (fun j x τ G0 G hj ⟨ci, o4, o5, ns, eτ, b, gl, ln, hns⟩ ⟨eG, hx⟩ => ?_) fun τ G ⟨ci, o4, o5, ns, eτ, b, gl, ln, hns⟩ => ?_⟩
  · subst eτ eG
    obtain rfl : x = V.int j := by rw [hx]; show V.int (0 + (j : Int)) = _; rw [Int.zero_add]
    have fin : ∀ z : Int, 0 ≤ z → Sx (fun b => b = l) H0 (upd G l (.lst (ns.map V.int ++ [.int z]))) ∧ upd G l (.lst (ns.map V.int ++ [.int z])) l = some (.lst ((ns ++ [z]).map V.int)) ∧ (ns ++ [z]).length = j + 1 ∧ ∀ x ∈ ns ++ [z], 0 ≤ x := fun z hz => by
      refine ⟨b.trans (Sx.put gl rfl), by rw [upd_same, List.map_append]; rfl, by rw [List.length_append, ln]; rfl, fun x hx => ?_⟩
      rcases List.mem_append.mp hx with q | q
      · exact hns x q
      · have q : x = z := by simpa using q
        rw [q]
        exact hz
    have lt : (ns.map V.int).length < sizeLine := by rw [List.length_map]; omega
    refine ⟨_, rfl, wd, rfl, ?_⟩
    cases wd with
    | true =>
      refine iteT ⟨_, rfl, .inl ⟨rfl, _, .of gl⟩, _, rfl, .inl ⟨ci, rfl, ci, 1009, rfl, rfl, (by show (0 : Int) < 1009; decide), l, _, _, rfl, rfl, gl, lt, ?_⟩⟩
      exact ⟨_, rfl, ci, 1009, rfl, rfl, ⟨by decide, by decide⟩, _, _, _, _, rfl, fin _ (Int.emod_nonneg _ (by decide))⟩
    | false =>
      refine iteF ⟨_, rfl, ci, 48271, rfl, rfl, .inr ⟨by decide, by decide⟩, _, rfl, _, 69621, rfl, rfl, .inr ⟨by decide, by decide⟩, _, _, rfl, rfl, .inl ⟨_, rfl, _, 2147483647, rfl, rfl, (by show (0 : Int) < 2147483647; decide), ?_⟩⟩
      obtain ⟨mx, hmx⟩ : ∃ mx : Int, (ci * 48271 + (j : Int) * 69621) % 2147483647 = mx := ⟨_, rfl⟩
      have m1 : 0 ≤ mx := by rw [← hmx]; exact Int.emod_nonneg _ (by decide)
      have m2 : mx < 2147483647 := by rw [← hmx]; exact Int.emod_lt_of_pos _ (by decide)
      refine ⟨_, rfl, .inl ⟨rfl, _, .of gl⟩, _, rfl, _, rfl, mx, mx, congrArg V.int hmx, congrArg V.int hmx, .inl ⟨by omega, by omega⟩, _, rfl, ci, 31, rfl, rfl, .inr ⟨by decide, by decide⟩, _, _, rfl, rfl, _, rfl, _, _, rfl, rfl, .inl ⟨_, rfl, _, 1000003, rfl, rfl, (by show (0 : Int) < 1000003; decide), l, _, _, rfl, rfl, gl, lt, ?_⟩⟩
      exact ⟨_, _, _, _, rfl, fin _ (Int.emod_nonneg _ (by decide))⟩
  · subst eτ
    exact ⟨_, rfl, hQ l ns G (Sx.aft hl al b) gl (by rw [ln]; omega) hns⟩
end
end K83
namespace K83
open PySem PySem.Spec PyProof.Rows L2 L2.DX GxR
theorem atI_ex {α : Type} {xs : List α} {i : Int} (h0 : 0 ≤ i) (h1 : i < xs.length) : ∃ v ∈ xs, atI xs i = some v := by
  obtain ⟨k, rfl⟩ := Int.eq_ofNat_of_zero_le h0
  have hk : k < xs.length := by omega
  exact ⟨xs[k], List.getElem_mem hk, atI_nat (List.getElem?_eq_getElem hk)⟩
theorem tok_5 : ∀ k < 41, cutS (tok k) none (some 5) = "main@" := by decide +kernel
theorem tok_r : ∀ k < 41, cutS (tok k) (some 5) none = num k := by decide +kernel
section
variable {P : Program} {w : World} {K : PySem.W.Frag} {mg : Str → Option Value} {base : Heap}
def sp_law_question (K : PySem.W.Frag) : Sp := fun vs H Q _ => ∃ (i : Int), vs = [.int i] ∧ 0 ≤ i ∧ ∀ (b : Addr) (t m u : Str) (H' : Hp), Sm H H' → H' b = some (.tup [.str t, .str m, .str u]) → Q (.ref b) H'
abbrev N_law_question : List Str := ["_law_draw", "_law_thing", "_law_name"]
theorem ok_law_question (W : Wd K mg base) : FnOk P w K mg base CX0 1 (A_law_question K) (F_law_question K) ["_law_draw"] (sp_law_question K) := by
  refine W.fu_law_question.ok sc_law_question (fun vs H Q E h => by obtain ⟨_, rfl, _⟩ := h; rfl) fun cdv A outer s H vs Q E hr h => ?_
  obtain ⟨i, rfl, hi, hQ⟩ := h
  refine ⟨_, PSs.nox (pss_cons (ps_set (i := 1) sc_law_question.nd rfl (by first | exact Or.inl rfl | exact Or.inr rfl) (pe_ix ix_list (pe_lst (pa_cons pe_str (pa_cons pe_str (pa_cons pe_str pa_nil)))) (pe_op op_mod (pv 0) pe_int) (fun _ _ => rfl)))
      (pss_cons (ps_set (i := 2) sc_law_question.nd rfl (by first | exact Or.inl rfl | exact Or.inr rfl) (pe_ifExp (pt_cmpR op_eq (pv 1) pe_str (nomark _)) pe_str (pe_ix ix_str pe_str (pe_op op_mod (pe_op op_fdivN (pv 0) pe_int) pe_int) (fun _ _ => rfl))))
      (pss_one (ps_ret (pe_tup (pa_cons (pv 1) (pa_cons (pv 2) (pa_cons (pe_op op_add_str pe_str (pe_ix ix_str pe_str (pe_op op_mod (pe_op op_fdivN (pv 0) pe_int) pe_int) (fun _ _ => rfl))) pa_nil)))))))), ?_⟩
  have sz : sizeLine = 16777216 := sizeLine_eq
  refine ⟨by show 3 ≤ sizeLine; omega, fun p hp => ?_⟩
  have a1 : Sm H (upd H p (.lst [.str "d:p", .str "d:q", .str "g:x"])) := Sx.new hp
  have gp : upd H p (.lst [.str "d:p", .str "d:q", .str "g:x"]) p = some (.lst ((["d:p", "d:q", "g:x"] : List Str).map V.str)) := upd_same
  generalize upd H p (.lst [.str "d:p", .str "d:q", .str "g:x"]) = G at a1 gp ⊢
  obtain ⟨v, hv, ev⟩ := atI_ex (xs := (["d:p", "d:q", "g:x"] : List Str).map V.str) (i := i % 3) (Int.emod_nonneg _ (by decide)) (by show i % 3 < 3; exact Int.emod_lt_of_pos _ (by decide))
  obtain ⟨t, _, rfl⟩ := List.mem_map.mp hv
  refine ⟨_, rfl, i, 3, rfl, rfl, (by show (0 : Int) < 3; decide), p, _, i % 3, .str t, rfl, rfl, .of gp, ev, ?_⟩
  obtain ⟨c1, _, e1⟩ := atI_ex (xs := ("abc" : Str).cps.toList) (i := (i.fdiv 12) % 3) (Int.emod_nonneg _ (by decide)) (by show (i.fdiv 12) % 3 < 3; exact Int.emod_lt_of_pos _ (by decide))
  obtain ⟨c2, _, e2⟩ := atI_ex (xs := ("owbv" : Str).cps.toList) (i := (i.fdiv 3) % 4) (Int.emod_nonneg _ (by decide)) (by show (i.fdiv 3) % 4 < 4; exact Int.emod_lt_of_pos _ (by decide))
  have fin : ∀ (m : Str) (σ : L2.St), σ[0]? = some (some (.int i)) → σ[1]? = some (some (.str t)) → σ[2]? = some (some (.str m)) →
      (tRet (tTup (tCons (tVar 1) (tCons (tVar 2) (tCons (tOp (fun x y H Q => ∃ i j, x = V.str i ∧ y = V.str j ∧ i.length + j.length ≤ sizeLine ∧ Q (V.str (i ++ j)) H) (tC (V.str "u:")) (tOp rIxS (tC (V.str "abc")) (tOp (rI (fun _ j => 0 < j) fun i j => V.int (i % j)) (tOp (rI CDivN fun i j => V.int (i.fdiv j)) (tVar 0) (tC (V.int 12))) (tC (V.int 3))))) tNil))))) { nx := fun _ H' => Q V.non H', rt := Q } σ G := by
    intro m σ s0 s1 s2
    refine ⟨_, s1, _, s2, _, s0, i, 12, rfl, rfl, ⟨by decide, by decide⟩, _, 3, rfl, rfl, (by show (0 : Int) < 3; decide), "abc", _, c1, rfl, rfl, by decide +kernel, e1, "u:", _, rfl, rfl, ?_, by show 3 ≤ sizeLine; omega, fun b hb => ?_⟩
    · have : ("u:" : Str).length = 2 := by decide +kernel
      rw [this]
      show 2 + 1 ≤ sizeLine
      omega
    · exact hQ b _ _ _ _ (a1.trans (Sx.new hb)) upd_same
  refine ⟨_, rfl, rfl, _, rfl, ?_⟩
  by_cases hg : t = "g:x"
  · exact itT (by simp [hg]) (fin "m" _ rfl rfl rfl)
  · exact itF (by simp [hg]) ⟨_, rfl, i, 3, rfl, rfl, ⟨by decide, by decide⟩, _, 4, rfl, rfl, (by show (0 : Int) < 4; decide), "owbv", _, c2, rfl, rfl, by decide +kernel, e2, fin _ _ rfl rfl rfl⟩
def sp_law_number : Sp := fun vs H Q _ => ∃ k : Nat, vs = [.str (tok k)] ∧ k < 41 ∧ Q (.int k) H
theorem ok_law_number (W : Wd K mg base) : FnOk P w K mg base CX0 1 (A_law_number K) (F_law_number K) ["_law_token"] sp_law_number := by
  refine W.fu_law_number.ok sc_law_number (fun vs H Q E h => by obtain ⟨_, rfl, _⟩ := h; rfl) fun cdv A outer s H vs Q E hr h => ?_
  obtain ⟨k, rfl, hk, hQ⟩ := h
  refine ⟨_, PSs.nox (pss_one (ps_ret (pe_ifExp (pt_cmpR op_eq (pe_slice sl_str (pv 0) po_none (po_some pe_int)) pe_str (nomark _)) (pe_callTy call_int_txt (by rfl) W.fr_int (by decide +kernel) (pa_cons (pe_slice sl_str (pv 0) (po_some pe_int) po_none) pa_nil)) (pe_un un_neg pe_int)))), ?_⟩
  have sz : sizeLine = 16777216 := sizeLine_eq
  have hl := tok_len k hk
  have hnl := num_len k hk
  refine ⟨_, rfl, 5, rfl, tok k, rfl, by omega, rfl, _, rfl, ?_⟩
  refine itT ?_ ⟨_, rfl, 5, rfl, tok k, rfl, by omega, num k, k, by rw [← tok_r k hk], num_int k hk, by omega, hQ⟩
  rw [tok_5 k hk]
  simp
def sp_law_is_true (K : PySem.W.Frag) : Sp := fun vs H Q _ => ∃ (tl qb ab : Addr) (tvs : List V) (ts : List (List (List Str))) (q t : List (List Str)) (k : List Str) (n : Nat) (least : Int), vs = [.ref tl, .ref qb, .ref ab, .int least] ∧ H tl = some (.lst tvs) ∧ Paired (Lu H) tvs ts ∧ H qb = some (.tup (k.map V.str)) ∧
  ts[n]? = some t ∧ H ab = some (.tup [.bl (decide (k ∈ t)), .str (tok n)]) ∧ n < 41 ∧ least ≤ n ∧ Q (.bl true) H
theorem ok_law_is_true (W : Wd K mg base) : FnOk P w K mg base CX0 2 (A_law_is_true K) (F_law_is_true K) ["_law_tables", "_law_question_here", "_law_answer", "_law_least"] (sp_law_is_true K) := by
  refine W.fu_law_is_true.ok sc_law_is_true (fun vs H Q E h => by obtain ⟨_, _, _, _, _, _, _, _, _, _, rfl, _⟩ := h; rfl) fun cdv A outer s H vs Q E hr h => ?_
  obtain ⟨tl, qb, ab, tvs, ts, q, t, k, n, least, rfl, htl, htv, hqb, ht, hab, hn, hle, hQ⟩ := h
  refine ⟨_, PSs.nox (pss_cons (ps_if (PW.pt (pw_or (pt_not (pt_val (pe_callB call_isi (by rfl) W.fr_isinstance (by decide +kernel) (pa_cons (pv 2) (pa_cons (pe_bltn (v := .ty "tuple") rfl W.fr_tuple (by decide +kernel) rfl) pa_nil))))) (pw_or (pt_cmpR op_ne (pe_callB call_len_seq (by rfl) W.fr_len PySem.boot_len (pa_cons (pv 2) pa_nil)) pe_int (nomark _)) (pw_or1 (pt_not (pt_val (pe_callB call_isi (by rfl) W.fr_isinstance (by decide +kernel) (pa_cons (pe_ix ix_tup (pv 2) pe_int (fun _ _ => rfl)) (pa_cons (pe_bltn (v := .ty "bool") rfl W.fr_bool (by decide +kernel) rfl) pa_nil))))))))) (pss_one (ps_ret pe_bl)) pss_nil)
      (pss_cons (ps_set (i := 4) sc_law_is_true.nd rfl (by first | exact Or.inl rfl | exact Or.inr rfl) (pe_call (ok_law_number W) (hr.mono (by decide)) rfl W.gl_law_number (W.fu_law_number).kp W.bd_law_number .nil pass0 (pa_cons (pe_ix ix_tup (pv 2) pe_int (fun _ _ => rfl)) pa_nil)))
      (pss_one (ps_ret (pe_and (pe_chain op_le op_lt (pv 3) (pv 4) (pe_callB call_len_seq (by rfl) W.fr_len PySem.boot_len (pa_cons (pv 0) pa_nil))) (pe_and (pe_cmpR op_ge (pv 4) pe_int (nomark _)) (pe_one (pe_cmpR op_eq (pe_ix ix_tup (pv 2) pe_int (fun _ _ => rfl)) (pe_cmpR (op_inL hr.units) (pv 1) (pe_ix ix_list (pv 0) (pv 4) (fun _ _ => rfl)) (by rfl)) (nomark _))))))))), ?_⟩
  have sz : sizeLine = 16777216 := sizeLine_eq
  have hnl : n < ts.length := (List.getElem?_eq_some_iff.mp ht).1
  have ltv : tvs.length = ts.length := Paired.length htv
  obtain ⟨x, hx, ax, xs, rfl, hax, hxs⟩ := pr_get2 htv ht
  refine ⟨_, rfl, .ref ab, .ty "tuple", .type "tuple", .type "tuple", true, rfl, .ty _, .base (.tup hab), kit_ty (by decide +kernel), true, rfl, iteF ?_⟩
  refine ⟨_, rfl, ab, _, rfl, .inr (.of hab), rfl, _, rfl, itF (by simp) ?_⟩
  refine ⟨_, rfl, ab, _, 0, _, rfl, rfl, .of hab, atI_nat (j := 0) rfl, .bl (decide (k ∈ t)), .ty "bool", .type "bool", .type "bool", true, rfl, .ty _, .base (.bl _), kit_ty (by decide +kernel), true, rfl, iteF ?_⟩
  refine ⟨_, rfl, ab, _, 1, _, rfl, rfl, .of hab, atI_nat (j := 1) rfl, n, rfl, hn, ?_⟩
  refine ⟨_, rfl, _, rfl, _, _, rfl, rfl, _, rfl, itT (decide_eq_true hle) ⟨_, rfl, tl, _, rfl, .inl (.of htl), _, _, rfl, rfl, _, rfl, itT (decide_eq_true (by rw [ltv]; omega)) ?_⟩⟩
  refine ⟨_, rfl, _, _, rfl, rfl, _, rfl, itT (decide_eq_true (by omega)) ?_⟩
  refine ⟨_, rfl, ab, _, 0, _, rfl, rfl, .of hab, atI_nat (j := 0) rfl, _, rfl, _, rfl, _, rfl, tl, tvs, n, .ref ax, rfl, rfl, .of htl, atI_nat hx, k, t, ax, xs, ⟨qb, rfl, hqb⟩, rfl, .of hax, hxs, rfl, ?_⟩
  rw [decide_eq_true (show V.bl (decide (k ∈ t)) = V.bl (decide (k ∈ t)) from rfl)]
  exact hQ
end
end K83
namespace K83
open PySem PySem.Spec PyProof.Rows L2 L2.DX GxR
/-! ### try: return cache.check(..) except Refused as e: return e.what -/
theorem takes00 {X : Cx} : Takes X (fun _ _ _ _ => False) := fun _ _ x => by
  obtain ⟨_, _, _, _, _, _, _, _, _, _, _, _, _, _, _, _, z⟩ := x
  exact z.elim
def tMethS (C : Addr) (m : Str) (sp : Sp) (E : L2.St → XK) (ta : TE) (t : TA) : TE := fun σ H Q => ta σ H fun x H1 => ∃ a dx fs, x = .ref a ∧ H1 a = some (.ins C dx fs) ∧ fs.lookup m = none ∧ t σ H1 fun vs H2 => sp (x :: vs) H2 Q (E σ)
theorem pe_methAt {X : Cx} {CX : CXT} {k : Nat} {f C : Addr} {fd : FuncData} {ps : List Str} {sp : Sp} {E : L2.St → XK} {m : Str} {pos apos : Pos} {e o : Expr} {es : List Expr} {ta : TE} {t : TA} {pl : Sem Bool} (he : PE X o ta) (c : Cls X.K C) (hm : Meth X.K C m f) (F : FnOk X.prog X.w X.K X.mg X.base CX k f fd ps sp) (hr : Room k X.A) (hb : Binds X.K fd ps []) (hx : ∀ σ, PassesAt CX X σ (E σ)) (ha : PA X (e :: es) t)
    (hst : starEach (e :: es) X.env = (false, eval e X.env) :: starEach es X.env := by rfl) (hpl : (backTo pos (starEach es X.env)).any (·.1) = false := by rfl)
    (ht : eval (.Call (.Attribute o m apos) (e :: es) [] pos) X.env = (do
      let ov ← eval o X.env
      standAt apos.atName
      let (f, first) ← holding [ov] (getMethod ov m pl)
      callWith pos f first (backTo pos (starEach (e :: es) X.env)) (backToKw pos (keywordEach [] X.env))) := by rfl) :
    PE X (.Call (.Attribute o m apos) (e :: es) [] pos) (tMethS C m sp E ta t) := by
  refine ⟨fun pins s σ H Q I h => ?_⟩
  refine PySem.W.methodCall_KW (pl := pl) (thn (he.run pins s σ H _ I h) fun u s1 ⟨x, H1, I1, rx, a, dx, fs, ex, ea, l, q⟩ => ?_) ht
  subst ex
  obtain rfl : u = Value.ref a := rx
  refine getmeth_ok I1 ea c hm l ?_
  refine PySem.W.callWith_K (first := [.ref a]) (h₀ := X.base) I.ok.mod.kin hm.kp (thn (ha.run pos pins s1 σ H1 _ I1 q) fun us s2 ⟨vs, H2, I2, r, q2⟩ => ⟨I2.kIn, ?_⟩) hst hpl
  exact run_fnS (us := .ref a :: us) (vs := .ref a :: vs) F hr hb (hx σ) I2 (.cons rfl r) q2
section
variable {P : Program} {w : World} {K : PySem.W.Frag} {mg : Str → Option Value} {base : Heap}
theorem Wd.xf (W : Wd K mg base) : XfC K (refC K) := ⟨He.eqO_ok (W.more (i := 5) rfl), He.eqO_ok (W.more (i := 6) rfl), of_decide_eq_true (W.more (i := 12) rfl), W.more (i := 14) rfl⟩
def sp_law_known (K : PySem.W.Frag) : Sp := fun vs H Q _ => ∃ (cp ce : Addr) (n c : Nat) (es : List Ent) (qb : Addr) (t m u : Str) (o : Option Nat), vs = [.ref cp, .ref qb, .str (tokS o)] ∧ H qb = some (.tup [.str t, .str m, .str u]) ∧ TokOk o ∧ Tabs K H ∧ CaAt (cC K) H cp ce n c es ∧ es.length ≤ 1000 ∧ (∀ z ∈ es, z.2.2 < 41) ∧
  ∀ v H', Sx (fun b => b = ce) H H' → CaAt (cC K) H' cp ce n c (lookE es [t, m, u] o) → AnV H' v (lookR es [t, m, u] o) → Q v H'
theorem ok_law_known (W : Wd K mg base) : FnOk P w K mg base CX0 8 (A_law_known K) (F_law_known K) ["_law_cache", "_law_question_here", "_law_token"] (sp_law_known K) := by
  refine W.fu_law_known.ok sc_law_known (fun vs H Q E h => by obtain ⟨_, _, _, _, _, _, _, _, _, _, rfl, _⟩ := h; rfl) fun cdv A outer s H vs Q E hr h => ?_
  obtain ⟨cp, ce, n, c, es, qb, t, m, u, o, rfl, hqb, ho, hT, hC, hl, hu, hQ⟩ := h
  refine ⟨_, PSs.nox (pss_one (ps_ret (pe_meth (pv 0) W.cl_Cache W.mt_Cache_lookup (ok_Cache_lookup W) (hr.mono (by decide)) W.bd_Cache_lookup .nil pass0 (pa_cons (pe_ix ix_tup (pv 1) pe_int (fun _ _ => rfl)) (pa_cons (pe_ix ix_tup (pv 1) pe_int (fun _ _ => rfl)) (pa_cons (pe_ix ix_tup (pv 1) pe_int (fun _ _ => rfl)) (pa_cons (pv 2) pa_nil))))))), ?_⟩
  obtain ⟨⟨dx, hp⟩, _⟩ := id hC
  exact ⟨_, rfl, cp, dx, _, rfl, hp, rfl, _, rfl, qb, _, 0, _, rfl, rfl, .of hqb, atI_nat (j := 0) rfl, _, rfl, qb, _, 1, _, rfl, rfl, .of hqb, atI_nat (j := 1) rfl, _, rfl, qb, _, 2, _, rfl, rfl, .of hqb, atI_nat (j := 2) rfl, _, rfl, cp, ce, n, c, es, t, m, u, o, rfl, ho, hT, hC, hl, hu, hQ⟩
def sp_law_checked (K : PySem.W.Frag) : Sp := fun vs H Q _ => ∃ (B : Nat) (T : Nat → List (List Str)) (p l rn cp ce n c : Nat) (es : List Ent) (qb : Addr) (t m u : Str) (o : Option Nat), vs = [.ref cp, .ref p, .ref qb, .str (tokS o)] ∧ H qb = some (.tup [.str t, .str m, .str u]) ∧ TokOk o ∧ Tabs K H ∧ ReAt (cR K) B T H p l rn ∧ CaAt (cC K) H cp ce n c es ∧ es.length ≤ 1000 ∧ (∀ z ∈ es, z.2.2 < 41) ∧
  (∀ x, lookR es [t, m, u] o = some x → ∀ v H', Sx (fun b => b = ce) H H' → CaAt (cC K) H' cp ce n c (lookE es [t, m, u] o) → AnV H' v (some x) → Q v H') ∧
  (lookR es [t, m, u] o = none → (rn : Int) < tokI o → ∀ H', Sx (fun b => b = ce) H H' → CaAt (cC K) H' cp ce n c es → Q (.str behindS) H') ∧
  (lookR es [t, m, u] o = none → ¬ (rn : Int) < tokI o → ∀ b H', Sx (fun b => b = ce) H H' → CaAt (cC K) H' cp ce n c (if rn ≤ n then storeE es [t, m, u] (decide ([t, m, u] ∈ T rn), rn) c else es) → H' b = some (.tup [.bl (decide ([t, m, u] ∈ T rn)), .str (tok rn)]) → Q (.ref b) H')
abbrev N_law_checked : List Str := ["_law_cache", "_law_replica", "_law_question_here", "_law_token", "e"]
theorem ok_law_checked (W : Wd K mg base) (hP : PF P) : FnOk P w K mg base CX0 9 (A_law_checked K) (F_law_checked K) ["_law_cache", "_law_replica", "_law_question_here", "_law_token"] (sp_law_checked K) := by
  refine W.fu_law_checked.ok sc_law_checked (fun vs H Q E h => by obtain ⟨_, _, _, _, _, _, _, _, _, _, _, _, _, _, _, rfl, _⟩ := h; rfl) fun cdv A outer s H vs Q E hr h => ?_
  obtain ⟨B, T, p, l, rn, cp, ce, n, c, es, qb, t, m, u, o, rfl, hqb, ho, hT, hR, hC, hl, hu, hQ1, hE, hQ2⟩ := h
  have hr8 : Room 8 _ := hr.mono (by decide)
  refine ⟨_, pss_one (ps_try_as (i := 4) (tb := fun W => tRet (tMethS (cC K) "check" (sp_Cache_check K) (WE W) (tVar 0) (tCons (tVar 1) (tCons (tOp (rIxT K) (tVar 2) (tC (.int 0))) (tCons (tOp (rIxT K) (tVar 2) (tC (.int 1))) (tCons (tOp (rIxT K) (tVar 2) (tC (.int 2))) (tCons (tVar 3) tNil))))))) (ts := fun a cls d => tRet (tXf a cls d (refC K) "what" (tVar 4))) (Wout := fun _ _ _ _ => False) rfl rfl sc_law_checked.nd rfl rfl ⟨rfl, by decide, Or.inl W.gl_Refused⟩ takes00
    (fun W' pn xe tk _ => pss_one (ps_ret (by exact (pe_methAt (pv 0) W.cl_Cache W.mt_Cache_check (ok_Cache_check W hP) hr8 W.bd_Cache_check (fun σ => passAt tk σ) (by exact (pa_cons (pv 1) (pa_cons (pe_ix ix_tup (pv 2) pe_int (fun _ _ => rfl)) (pa_cons (pe_ix ix_tup (pv 2) pe_int (fun _ _ => rfl)) (pa_cons (pe_ix ix_tup (pv 2) pe_int (fun _ _ => rfl)) (pa_cons (pv 3) pa_nil))))))))))
    (fun a oe cls d pn hz hf => pss_one (ps_ret (by exact (pe_xf W.xf (He.eqO_ok (W.more (i := 7) rfl)) hz hf (pv 4)))))), ?_⟩
  obtain ⟨⟨dx, hp⟩, _⟩ := id hC
  refine ⟨_, rfl, cp, dx, _, rfl, hp, rfl, _, rfl, _, rfl, qb, _, 0, _, rfl, rfl, .of hqb, atI_nat (j := 0) rfl, _, rfl, qb, _, 1, _, rfl, rfl, .of hqb, atI_nat (j := 1) rfl, _, rfl, qb, _, 2, _, rfl, rfl, .of hqb, atI_nat (j := 2) rfl, _, rfl, B, T, p, l, rn, cp, ce, n, c, es, t, m, u, o, rfl, ho, hT, hR, hC, hl, hu, hQ1, fun hx hlt d G a hCG hd => ?_, hQ2⟩
  refine ⟨true, W.exm_Refused, fun _ a0 _ => ⟨_, rfl, rfl, rfl, d, _, _, rfl, hd, rfl, hE hx hlt G a hCG⟩, fun z => nomatch z⟩
end
end K83
namespace K83
open PySem PySem.Spec PyProof.Rows L2 L2.DX GxR
/-! ### the cache's entries: what is true of them -/
structure EsOk (T : Nat → List (List Str)) (n c : Nat) (es : List Ent) : Prop where
  nd : (es.map (·.1)).Nodup
  len : es.length ≤ c
  ok : ∀ z ∈ es, (∃ t m u : Str, z.1 = [t, m, u]) ∧ z.2.2 ≤ n ∧ z.2.1 = decide (z.1 ∈ T z.2.2)
theorem es_at_some {es : List Ent} (nd : (es.map (·.1)).Nodup) {q : List Str} {x : Bool × Nat} : es_at es q = some x ↔ (q, x) ∈ es := by
  refine ⟨es_at_mem, fun h => ?_⟩
  induction es with
  | nil => cases h
  | cons z es ih =>
    rw [List.map_cons, List.nodup_cons] at nd
    unfold es_at
    by_cases e : z.1 = q
    · rw [List.find?_cons_of_pos (by simpa using e)]
      rcases List.mem_cons.mp h with h | h
      · rw [← h]; rfl
      · exact absurd (List.mem_map.mpr ⟨_, h, e.symm⟩) nd.1
    · rw [List.find?_cons_of_neg (by simpa using e)]
      rcases List.mem_cons.mp h with h | h
      · exact absurd (by rw [← h]) e
      · exact ih nd.2 h
theorem es_at_perm {es es' : List Ent} (nd : (es.map (·.1)).Nodup) (p : es'.Perm es) (q : List Str) : es_at es' q = es_at es q := by
  have nd' : (es'.map (·.1)).Nodup := (p.map _).nodup_iff.mpr nd
  cases h : es_at es q with
  | some x => exact (es_at_some nd').mpr (p.mem_iff.mpr ((es_at_some nd).mp h))
  | none =>
    cases h' : es_at es' q with
    | none => rfl
    | some x => rw [(es_at_some nd).mpr (p.mem_iff.mp ((es_at_some nd').mp h'))] at h; cases h
theorem lookR_perm {es es' : List Ent} (nd : (es.map (·.1)).Nodup) (p : es'.Perm es) (q : List Str) (o : Option Nat) : lookR es' q o = lookR es q o := by
  unfold lookR
  rw [es_at_perm nd p]
theorem use_perm {es : List Ent} (nd : (es.map (·.1)).Nodup) {q : List Str} {x : Bool × Nat} (h : es_at es q = some x) : (es_use es q x).Perm es := by
  induction es with
  | nil => cases h
  | cons z es ih =>
    have nd0 := nd
    rw [List.map_cons, List.nodup_cons] at nd
    unfold es_use
    unfold es_at at h
    by_cases e : z.1 = q
    · rw [List.find?_cons_of_pos (by simpa using e)] at h
      have ex : z.2 = x := Option.some.inj h
      have ez : z = (q, x) := by rw [← e, ← ex]
      rw [List.filter_cons_of_neg (by simpa using e)]
      have ef : (es.filter fun z => decide (z.1 ≠ q)) = es := List.filter_eq_self.mpr fun y hy => decide_eq_true fun w => nd.1 (List.mem_map.mpr ⟨y, hy, by rw [w, e]⟩)
      rw [ef, ez]
      exact List.perm_append_comm
    · rw [List.find?_cons_of_neg (by simpa using e)] at h
      rw [List.filter_cons_of_pos (by simpa using e), List.cons_append]
      exact (ih nd.2 h).cons z
theorem look_perm {es : List Ent} (nd : (es.map (·.1)).Nodup) (q : List Str) (o : Option Nat) : (lookE es q o).Perm es := by
  unfold lookE
  cases h : lookR es q o with
  | none => exact .refl _
  | some x =>
    refine use_perm nd ?_
    unfold lookR at h
    cases h2 : es_at es q with
    | none => rw [h2] at h; cases h
    | some y =>
      rw [h2] at h
      dsimp only at h
      split at h
      · cases h
      · exact h
theorem EsOk.perm {T : Nat → List (List Str)} {n c : Nat} {es es' : List Ent} (h : EsOk T n c es) (p : es'.Perm es) : EsOk T n c es' :=
  ⟨(p.map _).nodup_iff.mpr h.nd, by rw [p.length_eq]; exact h.len, fun z hz => h.ok z (p.mem_iff.mp hz)⟩
theorem EsOk.lookR {T : Nat → List (List Str)} {n c : Nat} {es : List Ent} (h : EsOk T n c es) {q : List Str} {o : Option Nat} {x : Bool × Nat} (hx : lookR es q o = some x) : x.2 ≤ n ∧ x.1 = decide (q ∈ T x.2) ∧ tokI o ≤ x.2 := by
  unfold K83.lookR at hx
  cases h2 : es_at es q with
  | none => rw [h2] at hx; cases hx
  | some y =>
    rw [h2] at hx
    dsimp only at hx
    split at hx
    · cases hx
    · rename_i hlt
      have e := Option.some.inj hx
      subst e
      have q := h.ok _ (es_at_mem h2)
      exact ⟨q.2.1, q.2.2, by omega⟩
/-- what may be said of the entries when something is put -/
theorem EsOk.use {T : Nat → List (List Str)} {n c : Nat} {es : List Ent} (h : EsOk T n c es) {t m u : Str} {k : Nat} (hk : k ≤ n) : EsOk T n (c + 1) (es_use es [t, m, u] (decide ([t, m, u] ∈ T k), k)) := by
  unfold es_use
  refine ⟨?_, ?_, fun z hz => ?_⟩
  · rw [List.map_append, List.nodup_append]
    refine ⟨h.nd.sublist (List.Sublist.map _ List.filter_sublist), by simp, fun a ha b hb e => ?_⟩
    obtain ⟨z, hz, rfl⟩ := List.mem_map.mp ha
    have h2 := (List.mem_filter.mp hz).2
    have hb : b = [t, m, u] := by simpa using hb
    rw [hb] at e
    simp [e] at h2
  · have := List.length_filter_le (fun z : Ent => decide (z.1 ≠ [t, m, u])) es
    have := h.len
    rw [List.length_append]
    show (es.filter fun z : Ent => decide (z.1 ≠ [t, m, u])).length + 1 ≤ c + 1
    omega
  · rcases List.mem_append.mp hz with z' | z'
    · exact h.ok z (List.mem_filter.mp z').1
    · have e : z = ([t, m, u], decide ([t, m, u] ∈ T k), k) := by simpa using z'
      rw [e]
      exact ⟨⟨t, m, u, rfl⟩, hk, rfl⟩
theorem EsOk.pop {T : Nat → List (List Str)} {n c : Nat} {es : List Ent} (h : EsOk T n (c + 1) es) : EsOk T n c (popE es c) := by
  unfold popE
  by_cases hc : c < es.length
  · rw [if_pos hc]
    cases es with
    | nil => exact absurd hc (by simp)
    | cons z r =>
      dsimp only
      have nd := h.nd
      rw [List.map_cons, List.nodup_cons] at nd
      have ef : ((z :: r).filter fun y => decide (y.1 ≠ z.1)) = r := by
        rw [List.filter_cons_of_neg (by simp)]
        exact List.filter_eq_self.mpr fun y hy => decide_eq_true fun w => nd.1 (List.mem_map.mpr ⟨y, hy, w⟩)
      rw [ef]
      refine ⟨nd.2, ?_, fun y hy => h.ok y (List.mem_cons_of_mem _ hy)⟩
      have := h.len
      rw [List.length_cons] at this
      omega
  · rw [if_neg hc]
    exact ⟨h.nd, by omega, h.ok⟩
theorem EsOk.store {T : Nat → List (List Str)} {n c : Nat} {es : List Ent} (h : EsOk T n c es) {t m u : Str} {k : Nat} (hk : k ≤ n) : EsOk T n c (storeE es [t, m, u] (decide ([t, m, u] ∈ T k), k) c) := by
  unfold storeE
  cases h2 : es_at es [t, m, u] with
  | none => exact (h.use hk).pop
  | some y =>
    dsimp only
    split
    · exact h.perm (use_perm h.nd h2)
    · exact (h.use hk).pop
/-- an entry's answer behind the change n -> n + 1 -/
theorem app_true {T : Nat → List (List Str)} {n : Nat} {q : List Str} {x : Bool × Nat} (hx : x.1 = decide (q ∈ T x.2)) : (appE1 (chG T (n + 1)) (chL T (n + 1)) n (q, x)).2.1 = decide (q ∈ T (appE1 (chG T (n + 1)) (chL T (n + 1)) n (q, x)).2.2) := by
  have g : q ∈ chG T (n + 1) ↔ q ∈ T (n + 1) ∧ q ∉ T n := mem_gainU
  have l : q ∈ chL T (n + 1) ↔ q ∈ T n ∧ q ∉ T (n + 1) := mem_gainU
  unfold appE1
  by_cases h : q ∈ chG T (n + 1) ∨ q ∈ chL T (n + 1)
  · rw [if_pos h]
    refine decide_eq_decide.mpr ?_
    rcases h with h | h
    · exact ⟨fun _ => (g.mp h).1, fun _ => h⟩
    · exact ⟨fun z => (g.mp z).1, fun z => absurd z (l.mp h).2⟩
  · rw [if_neg h]
    by_cases h2 : x.2 = n
    · rw [if_pos h2]
      show x.1 = decide (q ∈ T (n + 1))
      rw [hx, h2]
      refine decide_eq_decide.mpr ⟨fun z => ?_, fun z => ?_⟩
      · by_cases w : q ∈ T (n + 1)
        · exact w
        · exact absurd (.inr (l.mpr ⟨z, w⟩)) h
      · by_cases w : q ∈ T n
        · exact w
        · exact absurd (.inl (g.mpr ⟨z, w⟩)) h
    · rw [if_neg h2]
      exact hx
theorem app_le {ga lo : List (List Str)} {n : Nat} {q : List Str} {x : Bool × Nat} (hx : x.2 ≤ n) : (appE1 ga lo n (q, x)).2.2 ≤ n + 1 := by
  unfold appE1
  split
  · exact Nat.le_refl _
  · split
    · exact Nat.le_refl _
    · exact Nat.le_succ_of_le hx
theorem EsOk.app {T : Nat → List (List Str)} {n c : Nat} {es : List Ent} (h : EsOk T n c es) : EsOk T (n + 1) c (es.map (appE1 (chG T (n + 1)) (chL T (n + 1)) n)) := by
  refine ⟨?_, by rw [List.length_map]; exact h.len, fun z hz => ?_⟩
  · rw [List.map_map]
    have e : ((fun x : Ent => x.1) ∘ appE1 (chG T (n + 1)) (chL T (n + 1)) n) = fun x => x.1 := by
      funext z
      exact appE1_key _ _ _ _
    rw [e]
    exact h.nd
  · obtain ⟨y, hy, rfl⟩ := List.mem_map.mp hz
    obtain ⟨h1, h2, h3⟩ := h.ok y hy
    refine ⟨by rw [appE1_key]; exact h1, ?_, ?_⟩
    · obtain ⟨q, x⟩ := y
      exact app_le h2
    · have e := app_true (T := T) (n := n) (q := y.1) (x := y.2) h3
      rw [appE1_key]
      exact e
theorem app_at {T : Nat → List (List Str)} {n c : Nat} {es : List Ent} (h : EsOk T n c es) {q : List Str} {x : Bool × Nat} (hx : es_at es q = some x) {ga lo : List (List Str)} : es_at (es.map (appE1 ga lo n)) q = some (appE1 ga lo n (q, x)).2 := by
  have nd : ((es.map (appE1 ga lo n)).map (·.1)).Nodup := by
    rw [List.map_map]
    have e : ((fun x : Ent => x.1) ∘ appE1 ga lo n) = fun x => x.1 := by
      funext z
      exact appE1_key _ _ _ _
    rw [e]
    exact h.nd
  refine (es_at_some nd).mpr (List.mem_map.mpr ⟨(q, x), (es_at_some h.nd).mp hx, ?_⟩)
  have := appE1_key ga lo n (q, x)
  exact Prod.ext this rfl
/-- the law's point: behind the change it answers what was touched or known until n -/
theorem app_look {T : Nat → List (List Str)} {n c : Nat} {es : List Ent} (h : EsOk T n c es) {q : List Str} (hq : q ∈ es.map (·.1)) {ga lo : List (List Str)} :
    (lookR (es.map (appE1 ga lo n)) q (some (n + 1))).isSome = (decide (q ∈ ga) || decide (q ∈ lo) || (lookR es q (some n)).isSome) := by
  obtain ⟨z, hz, rfl⟩ := List.mem_map.mp hq
  have hx : es_at es z.1 = some z.2 := (es_at_some h.nd).mpr hz
  obtain ⟨_, h2, _⟩ := h.ok z hz
  unfold lookR
  rw [app_at h hx, hx]
  dsimp only
  show (if ((appE1 ga lo n z).2.2 : Int) < ((n + 1 : Nat) : Int) then none else some (appE1 ga lo n z).2).isSome = _
  have e2 : (if (z.2.2 : Int) < tokI (some n) then none else some z.2).isSome = decide (z.2.2 = n) := by
    show (if (z.2.2 : Int) < (n : Int) then none else some z.2).isSome = _
    by_cases w : z.2.2 = n
    · rw [if_neg (by omega), decide_eq_true w]; rfl
    · rw [if_pos (by omega), decide_eq_false w]; rfl
  rw [e2]
  unfold appE1
  by_cases w : z.1 ∈ ga ∨ z.1 ∈ lo
  · rw [if_pos w, if_neg (by show ¬ ((n + 1 : Nat) : Int) < ((n + 1 : Nat) : Int); omega)]
    rcases w with w | w <;> simp [w]
  · rw [if_neg w]
    have w1 : z.1 ∉ ga := fun y => w (.inl y)
    have w2 : z.1 ∉ lo := fun y => w (.inr y)
    by_cases w3 : z.2.2 = n
    · rw [if_pos w3, if_neg (by show ¬ ((n + 1 : Nat) : Int) < ((n + 1 : Nat) : Int); omega)]
      simp [w3]
    · rw [if_neg w3, if_pos (by show (z.2.2 : Int) < ((n + 1 : Nat) : Int); omega)]
      simp [w1, w2, w3]
end K83
namespace K83
open PySem PySem.Spec PyProof.Rows L2 L2.DX GxR
theorem tok_cat : ∀ k : Nat, k < 41 → (Str.ofString "main@" ++ toString (k : Int) : Str) = tok k := by
  intro k _
  rfl
theorem op_inLK {X : Cx} (K : PySem.W.Frag) (h : X.K = K) (hu : X.A.units + 64 < cLine) : OpR X (compareOp .In) (rInL K) := by subst h; exact op_inL hu
section
variable {P : Program} {w : World} {K : PySem.W.Frag} {mg : Str → Option Value} {base : Heap}
theorem EntryAt.sxM {M : Addr → Prop} {H H1 : Hp} {v : V} {n : Nat} {ga lo : List (List Str)} (a : Sx M H H1) (nl : NoL M H) (h : EntryAt H v n ga lo) : EntryAt H1 v n ga lo := by
  obtain ⟨p, x, y, e, h1, h2, h3⟩ := h
  exact ⟨p, x, y, e, a.tups _ _ h1, h2.sxM a nl, h3.sxM a nl⟩
theorem num_log : ∀ k : Nat, k < 42 → (k : Int).natAbs.log2 < 1920 := by decide +kernel
theorem tok_room {k : Nat} (hk : k < 41) : ("main@" : Str).length + (Str.ofString (toString (k : Int))).length ≤ sizeLine := by
  have h1 : ("main@" : Str).length = 5 := by decide +kernel
  have h2 := (num_len k hk).2
  have h2 : (Str.ofString (toString (k : Int))).length ≤ 4 := h2
  have sz : sizeLine = 16777216 := sizeLine_eq
  omega
def sp_law_applied (K : PySem.W.Frag) : Sp := fun vs H Q _ => ∃ (cp ce : Addr) (T : Nat → List (List Str)) (n c : Nat) (es : List Ent) (v : V) (tl : Addr) (tvs : List V) (ts : List (List (List Str))), vs = [.ref cp, v, .ref tl] ∧ CaAt (cC K) H cp ce n c es ∧ EsOk T n c es ∧ c ≤ 100 ∧ EntryAt H v (n + 1) (chG T (n + 1)) (chL T (n + 1)) ∧
  H tl = some (.lst tvs) ∧ Paired (Lu H) tvs ts ∧ ts[n + 1]? = some (T (n + 1)) ∧ n + 1 < 41 ∧ Tabs K H ∧ ∀ es' H', Sx (fun b => b = ce ∨ b = cp) H H' → CaAt (cC K) H' cp ce (n + 1) c es' → EsOk T (n + 1) c es' → Q (.bl true) H'
abbrev N_law_applied : List Str := ["_law_cache", "_law_entry", "_law_tables", "_law_before", "_law_token", "_law_questions", "_law_current", "_law_question_here", "_law_answer", "_law_touched"]
theorem ok_law_applied (W : Wd K mg base) : FnOk P w K mg base CX0 9 (A_law_applied K) (F_law_applied K) ["_law_cache", "_law_entry", "_law_tables"] (sp_law_applied K) := by
  refine W.fu_law_applied.ok sc_law_applied (fun vs H Q E h => by obtain ⟨_, _, _, _, _, _, _, _, _, _, rfl, _⟩ := h; rfl) fun cdv A outer s H vs Q E hr h => ?_
  obtain ⟨cp, ce, T, n, c, es, v, tl, tvs, ts, rfl, hC, hE, hc, hv, htl, htv, ht, hn, hT, hQ⟩ := h
  refine ⟨_, PSs.nox (pss_cons (ps_set (i := 3) sc_law_applied.nd rfl (by first | exact Or.inl rfl | exact Or.inr rfl) (pe_meth0 (pv 0) W.cl_Cache W.mt_Cache_revision (ok_Cache_revision W) (hr.mono (by decide)) W.bd_Cache_revision .nil pass0))
      (pss_cons (ps_set (i := 4) sc_law_applied.nd rfl (by first | exact Or.inl rfl | exact Or.inr rfl) (pe_op op_add_str pe_str (pe_callTy call_str_int (by rfl) W.fr_str (by decide +kernel) (pa_cons (pv 3) pa_nil))))
      (pss_cons (ps_set (i := 5) sc_law_applied.nd rfl (by first | exact Or.inl rfl | exact Or.inr rfl) (pe_meth0 (pv 0) W.cl_Cache W.mt_Cache_questions (ok_Cache_questions W) (hr.mono (by decide)) W.bd_Cache_questions .nil pass0))
      (pss_cons (ps_setLc (i := 6) (own := [("_law_question_here", 7)]) rfl sc_law_applied.nd rfl rfl (sw_true rfl rfl rfl (by decide +kernel)) (pi_list (pv 5)) (blkOk_by (own := [("_law_question_here", 7)]) (N := N_law_applied) (sc := defScope s_law_applied) (by decide +kernel)) (fun _ _ _ _ _ => (pg_name (i := 7) sc_law_applied.nd rfl (by first | exact Or.inl rfl | exact Or.inr rfl))) (fun _ _ _ _ _ => (pts_one (pt_cmpR op_notN (pe_call (ok_law_known W) (hr.mono (by decide)) rfl W.gl_law_known (W.fu_law_known).kp W.bd_law_known .nil pass0 (pa_cons (pv 0) (pa_cons (pv 7) (pa_cons (pv 4) pa_nil)))) pe_non (nomark _)))) (fun _ _ _ _ _ => (pv 7)))
      (pss_cons (ps_expr (pe_meth (pv 0) W.cl_Cache W.mt_Cache_apply (ok_Cache_apply W) (hr.mono (by decide)) W.bd_Cache_apply .nil pass0 (pa_cons (pv 1) pa_nil)))
      (pss_cons (ps_for PassesOwn.never rfl (pi_list (pv 5)) (pg_name (i := 7) sc_law_applied.nd rfl (by first | exact Or.inl rfl | exact Or.inr rfl)) (pss_cons (ps_set (i := 8) sc_law_applied.nd rfl (by first | exact Or.inl rfl | exact Or.inr rfl) (pe_call (ok_law_known W) (hr.mono (by decide)) rfl W.gl_law_known (W.fu_law_known).kp W.bd_law_known .nil pass0 (pa_cons (pv 0) (pa_cons (pv 7) (pa_cons (pe_op op_add_str pe_str (pe_callTy call_str_int (by rfl) W.fr_str (by decide +kernel) (pa_cons (pe_op op_add (pv 3) pe_int) pa_nil))) pa_nil)))))
      (pss_cons (ps_set (i := 9) sc_law_applied.nd rfl (by first | exact Or.inl rfl | exact Or.inr rfl) (pe_or (pe_cmpR (op_inL hr.units) (pv 7) (pe_ix ix_tup (pv 1) pe_int (fun _ _ => rfl)) (by rfl)) (pe_one (pe_cmpR (op_inL hr.units) (pv 7) (pe_ix ix_tup (pv 1) pe_int (fun _ _ => rfl)) (by rfl)))))
      (pss_cons (ps_if (pt_cmpR op_ne (pe_cmpR op_notN (pv 8) pe_non (nomark _)) (pe_or (pv 9) (pe_one (pe_cmpR (op_inL hr.units) (pv 7) (pv 6) (by rfl)))) (nomark _)) (pss_one (ps_ret pe_bl)) pss_nil)
      (pss_one (ps_if (PW.pt (pw_and (pt_cmpR op_notN (pv 8) pe_non (nomark _)) (pw_and1 (pt_not (pt_val (pe_call (ok_law_is_true W) (hr.mono (by decide)) rfl W.gl_law_is_true (W.fu_law_is_true).kp W.bd_law_is_true .nil pass0 (pa_cons (pv 2) (pa_cons (pv 7) (pa_cons (pv 8) (pa_cons (pe_op op_add (pv 3) pe_int) pa_nil)))))))))) (pss_one (ps_ret pe_bl)) pss_nil))))))
      (pss_one (ps_ret (pe_cmpR op_eq (pe_meth0 (pv 0) W.cl_Cache W.mt_Cache_revision (ok_Cache_revision W) (hr.mono (by decide)) W.bd_Cache_revision .nil pass0) (pe_op op_add (pv 3) pe_int) (nomark _)))))))))), ?_⟩
  have sz : sizeLine = 16777216 := sizeLine_eq
  obtain ⟨⟨dx, hcp⟩, kvs, hce, _⟩ := id hC
  have ncp : cp ≠ ce := ne_of hcp hce fun z => nomatch z
  have hn0 : n < 41 := by omega
  have hel := hE.len
  have nlH : NoL (fun b => b = ce) H := fun b xs hb z => by rw [z, hce] at hb; cases hb
  refine ⟨_, rfl, cp, dx, _, rfl, hcp, rfl, cp, ce, n, c, es, rfl, hC, ?_⟩
  refine ⟨_, rfl, (n : Int), rfl, num_log n (by omega), "main@", _, rfl, rfl, tok_room hn0, ?_⟩
  refine ⟨_, rfl, cp, dx, _, rfl, hcp, rfl, cp, ce, n, c, es, rfl, hC, fun ql xs hql hxs => ?_⟩
  have a1 : Sm H (upd H ql (.lst xs)) := Sx.new hql
  have gql : upd H ql (.lst xs) ql = some (.lst xs) := upd_same
  have hxs1 := hxs.sx a1
  generalize upd H ql (.lst xs) = H1 at a1 gql hxs1 ⊢
  have nqc : ql ≠ ce := fun z => by rw [z, hce] at hql; cases hql
  have hC1 := hC.sx a1
  have lxs : xs.length = es.length := by have := Paired.length hxs1; simpa using this
  have hq3 : ∀ k ∈ es.map (·.1), ∃ t m u : Str, k = [t, m, u] := fun k hk => by
    obtain ⟨z, hz, rfl⟩ := List.mem_map.mp hk
    exact (hE.ok z hz).1
  refine ⟨_, rfl, ql, rfl, ⟨_, .of gql⟩, fun D hD => ?_⟩
  have aD : Sm H1 (upd H1 D (.lst [])) := Sx.new hD
  have hDH : H D = none := a1.old _ hD
  have nqD : ql ≠ D := fun z => by rw [← z, gql] at hD; cases hD
  have cur : ∀ {G}, Sx (fun b => b = D ∨ b = ce) (upd H1 D (.lst [])) G → Sx (fun b => b = ce) H G := fun {G} b => (Sx.of (a1.trans aD)).after b fun c o e m => by
    rcases m with m | m
    · rw [m, hDH] at e; cases e
    · exact m
  refine lc_it (walk_list (K := K) (a := ql) (xs := xs)) (fun i G => ∃ ys es', Sx (fun b => b = D ∨ b = ce) (upd H1 D (.lst [])) G ∧ G D = some (.lst ys) ∧ Tus G ys (((es.map (·.1)).take i).filter fun q => (lookR es q (some n)).isSome) ∧ CaAt (cC K) G cp ce n c es' ∧ es'.Perm es) ⟨[], es, Sx.refl _, upd_same, by rw [List.take_zero]; exact .nil, hC1.sx aD, .refl _⟩
    (fun i G _ ⟨_, _, b, _⟩ => .of (b.at (aD.atS gql) (fun z => z.elim nqD nqc))) (fun i x G0 G hi ⟨ys, es', b, gD, hys, hCG, hp⟩ ⟨eG, hx⟩ => ?_) fun G ⟨ys, es', b, gD, hys, hCG, hp⟩ => ?_
  · subst eG
    obtain ⟨k, hk, bx, rfl, hbx⟩ := pr_get hxs1 hx
    have hkm := List.mem_of_getElem? hk
    obtain ⟨t, m, u, rfl⟩ := hq3 k hkm
    have aG := cur b
    have hbxG := b.tups _ _ (aD.tups _ _ hbx)
    have hE' := hE.perm hp
    refine ⟨rfl, _, rfl, _, rfl, _, rfl, cp, ce, n, c, es', bx, t, m, u, some n, rfl, hbxG, (fun k z => by cases z; omega), hT.sx aG, hCG, by have := hE'.len; omega, fun z hz => by have := (hE'.ok z hz).2.1; omega, fun v2 G2 a2 hC2 hAn => ⟨rfl, _, rfl, ?_⟩⟩
    rw [lookR_perm hE.nd hp] at hAn
    have gD2 := a2.at gD (fun z => by rw [z] at hDH; rw [hDH] at hce; cases hce)
    have hys2 := hys.sx a2
    have hp2 := (look_perm hE'.nd [t, m, u] (some n)).trans hp
    have b2 := b.trans (a2.mono (M' := fun b => b = D ∨ b = ce) fun b z => .inr z)
    rw [take_snoc hk, List.filter_append]
    cases hlk : lookR es [t, m, u] (some n) with
    | none =>
      rw [hlk] at hAn
      have e : v2 = .non := hAn
      subst e
      refine itF rfl ⟨ys, _, b2, gD2, ?_, hC2, hp2⟩
      rw [List.filter_cons_of_neg (by rw [hlk]; decide), List.filter_nil, List.append_nil]
      exact hys2
    | some y =>
      rw [hlk] at hAn
      obtain ⟨b', rfl, _⟩ := hAn
      have a3 : Sx (fun b => b = D) G2 (upd G2 D (.lst (ys ++ [.ref bx]))) := Sx.put gD2 rfl
      refine itT rfl ⟨_, rfl, ys, gD2, ?_, ys ++ [.ref bx], _, b2.trans (a3.mono (M' := fun b => b = D ∨ b = ce) fun b z => .inl z), upd_same, ?_, hC2.sxM a3 (fun z => by rw [z] at hcp; rw [hDH] at hcp; cases hcp) (fun z => by rw [z] at hce; rw [hDH] at hce; cases hce), hp2⟩
      · have e1 := Paired.length hys
        have e2 := List.length_filter_le (fun q => (lookR es q (some n)).isSome) ((es.map (·.1)).take i)
        have e3 : ((es.map (·.1)).take i).length = min i (es.map (·.1)).length := List.length_take
        rw [List.length_map] at e3
        omega
      · rw [List.filter_cons_of_pos (by rw [hlk]; rfl), List.filter_nil]
        exact pr_snoc (hys2.sx a3) ⟨bx, rfl, a3.tups _ _ (a2.tups _ _ hbxG)⟩
  · rw [show xs.length = (es.map (·.1)).length by rw [lxs, List.length_map], List.take_length] at hys
    have aG := cur b
    have hE' := hE.perm hp
    obtain ⟨⟨dx2, hcp2⟩, kv2, hce2, _⟩ := id hCG
    have hvG := hv.sxM aG nlH
    refine ⟨_, rfl, cp, dx2, _, rfl, hcp2, rfl, _, rfl, cp, ce, n, c, es', v, _, _, rfl, hvG, hCG, hE'.nd, by have := hE'.len; omega, fun G3 a3 hC3 => ?_⟩
    have hE3 : EsOk T (n + 1) c (es'.map (appE1 (chG T (n + 1)) (chL T (n + 1)) n)) := hE'.app
    have nlH3 : NoL (fun b => b = ce ∨ b = cp) G := fun b xs hb z => by
      rcases z with z | z
      · rw [z, hce2] at hb; cases hb
      · rw [z, hcp2] at hb; cases hb
    have nlH2 : NoL (fun b => b = ce ∨ b = cp) H := fun b xs hb z => by
      rcases z with z | z
      · rw [z, hce] at hb; cases hb
      · rw [z, hcp] at hb; cases hb
    have aH3 : Sx (fun b => b = ce ∨ b = cp) H G3 := (aG.mono fun b z => .inl z).trans a3
    have gqlG := b.at (aD.atS gql) (fun z => z.elim nqD nqc)
    have gql3 := a3.at gqlG (nlH3 _ _ gqlG)
    have gD3 := a3.at gD (nlH3 _ _ gD)
    have hxs3 : Tus G3 xs (es.map (·.1)) := ((hxs1.sx aD).sx b).sx a3
    have hys3 := hys.sx a3
    have hT3 := hT.sx aH3
    have lE3 := hE3.len
    refine ⟨_, rfl, ql, rfl, ⟨_, .of gql3⟩, for_it (walk_list (K := K) (a := ql) (xs := xs)) (fun i τ G4 => ∃ o7 o8 o9 es4, τ = [some (.ref cp), some v, some (.ref tl), some (.int n), some (.str (tok n)), some (.ref ql), some (.ref D), o7, o8, o9] ∧ Sx (fun b => b = ce) G3 G4 ∧ CaAt (cC K) G4 cp ce (n + 1) c es4 ∧ es4.Perm (es'.map (appE1 (chG T (n + 1)) (chL T (n + 1)) n))) ⟨_, _, _, _, rfl, Sx.refl _, hC3, .refl _⟩
      (fun i τ G4 _ ⟨_, _, _, _, _, bb, _⟩ => .of (bb.at gql3 nqc)) (fun i x τ G0 G4 hi ⟨o7, o8, o9, es4, eτ, bb, hC4, hp4⟩ ⟨eG, hx⟩ => ?_) fun τ G4 ⟨o7, o8, o9, es4, eτ, bb, hC4, hp4⟩ => ?_⟩
    · subst eτ eG
      obtain ⟨k, hk, bx, rfl, hbx⟩ := pr_get hxs3 hx
      have hkm := List.mem_of_getElem? hk
      obtain ⟨t, m, u, rfl⟩ := hq3 k hkm
      have hE4 := hE3.perm hp4
      have hbx4 := bb.tups _ _ hbx
      have aH4 : Sx (fun b => b = ce ∨ b = cp) H G4 := aH3.trans (bb.mono fun b z => .inl z)
      have hkm' : [t, m, u] ∈ es'.map (·.1) := (hp.map _).mem_iff.mpr hkm
      have key := app_look hE' hkm' (ga := chG T (n + 1)) (lo := chL T (n + 1))
      rw [lookR_perm hE.nd hp] at key
      refine ⟨_, rfl, _, rfl, _, rfl, n, 1, rfl, rfl, ((n + 1 : Nat) : Int), rfl, num_log (n + 1) (by omega), "main@", _, rfl, rfl, tok_room (k := n + 1) hn, cp, ce, n + 1, c, es4, bx, t, m, u, some (n + 1), rfl, hbx4, (fun k z => by cases z; omega), hT.sx aH4, hC4, by have := hE4.len; omega, fun z hz => by have := (hE4.ok z hz).2.1; omega, fun v5 G5 a5 hC5 hAn => ?_⟩
      rw [lookR_perm hE3.nd hp4] at hAn
      have hp5 := (look_perm hE4.nd [t, m, u] (some (n + 1))).trans hp4
      have bb5 := bb.trans a5
      have aH5 : Sx (fun b => b = ce ∨ b = cp) H G5 := aH4.trans (a5.mono fun b z => .inl z)
      have hbx5 := a5.tups _ _ hbx4
      obtain ⟨bv, gv, lv, rfl, hbv, ⟨ag, gx, rfl, hag, hgx⟩, ⟨al, lx, rfl, hal, hlx⟩⟩ := hv.sxM aH5 nlH2
      have hnx : Sx (fun b => b = ce) G3 G5 ∧ CaAt (cC K) G5 cp ce (n + 1) c _ ∧ List.Perm _ _ := ⟨bb5, hC5, hp5⟩
      have hcur : decide ([t, m, u] ∈ (es.map (·.1)).filter fun q => (lookR es q (some n)).isSome) = (lookR es [t, m, u] (some n)).isSome := by
        rw [Bool.eq_iff_iff, decide_eq_true_eq, List.mem_filter]
        exact ⟨fun z => z.2, fun z => ⟨hkm, z⟩⟩
      have gD5 := bb5.at gD3 (fun z => by rw [z] at hDH; rw [hDH] at hce; cases hce)
      have hys5 := hys3.sx bb5
      -- the two tests, once it is known whether the change touches it
      have rest : ∀ tch : Bool, tch = (decide ([t, m, u] ∈ chG T (n + 1)) || decide ([t, m, u] ∈ chL T (n + 1))) → ∀ σ : L2.St, σ = [some (.ref cp), some (.ref bv), some (.ref tl), some (.int n), some (.str (tok n)), some (.ref ql), some (.ref D), some (.ref bx), some v5, some (.bl tch)] →
          (tSeq (tIfS (tTest (tOp rNe (tOp (fun x y H Q => y = V.non ∧ Q (V.bl !decide (x = V.non)) H) (tVar 8) (tC V.non)) (tOrV (tVar 9) (tOp (rInL K) (tVar 7) (tVar 6))))) (tRet (tC (V.bl false))) tNext) (tIfS (tAnd (tTest (tOp (fun x y H Q => y = V.non ∧ Q (V.bl !decide (x = V.non)) H) (tVar 8) (tC V.non))) (tNot (tB (tCall (sp_law_is_true K) [] E0 (tCons (tVar 2) (tCons (tVar 7) (tCons (tVar 8) (tCons (tOp (rI0 fun i j => V.int (i + j)) (tVar 3) (tC (V.int 1))) tNil)))))))) (tRet (tC (V.bl false))) tNext))
          { nx := fun τ G4 => ∃ o7 o8 o9 es4, τ = [some (.ref cp), some (.ref bv), some (.ref tl), some (.int n), some (.str (tok n)), some (.ref ql), some (.ref D), o7, o8, o9] ∧ Sx (fun b => b = ce) G3 G4 ∧ CaAt (cC K) G4 cp ce (n + 1) c es4 ∧ es4.Perm (es'.map (appE1 (chG T (n + 1)) (chL T (n + 1)) n)), rt := Q } σ G5 := by
        intro tch etch σ eσ
        subst eσ
        have tail : (tIfS (tAnd (tTest (tOp (fun x y H Q => y = V.non ∧ Q (V.bl !decide (x = V.non)) H) (tVar 8) (tC V.non))) (tNot (tB (tCall (sp_law_is_true K) [] E0 (tCons (tVar 2) (tCons (tVar 7) (tCons (tVar 8) (tCons (tOp (rI0 fun i j => V.int (i + j)) (tVar 3) (tC (V.int 1))) tNil)))))))) (tRet (tC (V.bl false))) tNext)
          { nx := fun τ G4 => ∃ o7 o8 o9 es4, τ = [some (.ref cp), some (.ref bv), some (.ref tl), some (.int n), some (.str (tok n)), some (.ref ql), some (.ref D), o7, o8, o9] ∧ Sx (fun b => b = ce) G3 G4 ∧ CaAt (cC K) G4 cp ce (n + 1) c es4 ∧ es4.Perm (es'.map (appE1 (chG T (n + 1)) (chL T (n + 1)) n)), rt := Q } [some (.ref cp), some (.ref bv), some (.ref tl), some (.int n), some (.str (tok n)), some (.ref ql), some (.ref D), some (.ref bx), some v5, some (.bl tch)] G5 := by
          refine ⟨_, rfl, rfl, _, rfl, ?_⟩
          cases hlk : lookR (es'.map (appE1 (chG T (n + 1)) (chL T (n + 1)) n)) [t, m, u] (some (n + 1)) with
          | none =>
            rw [hlk] at hAn
            have e : v5 = .non := hAn
            subst e
            exact itF rfl (iteF ⟨_, _, _, _, rfl, hnx⟩)
          | some y =>
            rw [hlk] at hAn
            obtain ⟨b', rfl, hb'⟩ := hAn
            obtain ⟨y1, y2, y3⟩ := hE3.lookR hlk
            have y3 : ((n + 1 : Nat) : Int) ≤ y.2 := y3
            have ey : y.2 = n + 1 := by omega
            rw [ey] at y2 hb'
            rw [y2] at hb'
            refine itT rfl ⟨_, rfl, _, rfl, _, rfl, _, rfl, n, 1, rfl, rfl, tl, bx, b', tvs, ts, [], T (n + 1), [t, m, u], n + 1, ((n + 1 : Nat) : Int), rfl, aH5.at htl (nlH2 _ _ htl), Paired.mapP htv fun _ _ z => z.sxM aH5 nlH2, hbx5, ht, hb', hn, Int.le_refl _, true, rfl, iteF ⟨_, _, _, _, rfl, hnx⟩⟩
        have hb1 : (!decide (v5 = .non)) = (lookR (es'.map (appE1 (chG T (n + 1)) (chL T (n + 1)) n)) [t, m, u] (some (n + 1))).isSome := by
          cases hlk : lookR (es'.map (appE1 (chG T (n + 1)) (chL T (n + 1)) n)) [t, m, u] (some (n + 1)) with
          | none =>
            rw [hlk] at hAn
            have e : v5 = .non := hAn
            rw [e]
            rfl
          | some y =>
            rw [hlk] at hAn
            obtain ⟨b', rfl, hb'⟩ := hAn
            rfl
        rw [key, ← etch] at hb1
        refine ⟨_, rfl, rfl, _, rfl, tch, rfl, ?_⟩
        cases tch with
        | true =>
          refine iteT ⟨rfl, _, rfl, itF ?_ tail⟩
          rw [hb1]
          rfl
        | false =>
          refine iteF ⟨_, rfl, _, rfl, [t, m, u], _, D, ys, ⟨bx, rfl, hbx5⟩, rfl, .of gD5, hys5, rfl, _, rfl, itF ?_ tail⟩
          rw [hb1, hcur, Bool.false_or]
          simp
      refine ⟨_, rfl, _, rfl, bv, _, 2, _, rfl, rfl, .of hbv, atI_nat (j := 2) rfl, [t, m, u], chG T (n + 1), ag, gx, ⟨bx, rfl, hbx5⟩, rfl, .of hag, hgx, _, rfl, ?_⟩
      by_cases h1 : [t, m, u] ∈ chG T (n + 1)
      · exact itT (decide_eq_true h1) (rest true (by rw [decide_eq_true h1]; rfl) _ rfl)
      · refine itF (decide_eq_false h1) ⟨_, rfl, _, rfl, bv, _, 3, _, rfl, rfl, .of hbv, atI_nat (j := 3) rfl, [t, m, u], chL T (n + 1), al, lx, ⟨bx, rfl, hbx5⟩, rfl, .of hal, hlx, ?_⟩
        exact rest _ (by rw [decide_eq_false h1]; rfl) _ rfl
    · subst eτ
      obtain ⟨⟨dx4, hcp4⟩, _⟩ := id hC4
      have aH4 : Sx (fun b => b = ce ∨ b = cp) H G4 := aH3.trans (bb.mono fun b z => .inl z)
      refine ⟨_, rfl, cp, dx4, _, rfl, hcp4, rfl, cp, ce, n + 1, c, es4, rfl, hC4, _, rfl, n, 1, rfl, rfl, rfl, ?_⟩
      have e : decide (V.int ((n + 1 : Nat) : Int) = V.int ((n : Int) + 1)) = true := decide_eq_true rfl
      show Q (.bl (decide (V.int ((n + 1 : Nat) : Int) = V.int ((n : Int) + 1)))) G4
      rw [e]
      exact hQ es4 G4 aH4 hC4 (hE3.perm hp4)
end
end K83
namespace K83
open PySem PySem.Spec PyProof.Rows L2 L2.DX GxR
theorem pq_ok : ∀ c ∈ ("pq" : Str).cps.toList, ("d:" ++ (⟨#[c]⟩ : Str) : Str) ∈ (["d:p", "d:q"] : List Str) := by decide +kernel
theorem abc_ok : ∀ c ∈ ("abc" : Str).cps.toList, ("u:" ++ (⟨#[c]⟩ : Str) : Str) ∈ (["u:a", "u:b", "u:c"] : List Str) := by decide +kernel
theorem ln_ok {t w : Str} (ht : t ∈ (["d:p", "d:q"] : List Str)) (hw : w ∈ (["u:a", "u:b", "u:c"] : List Str)) : ∀ k ∈ lawLn t w, k ∈ allR := fun k hk => List.mem_flatMap.mpr ⟨t, ht, List.mem_flatMap.mpr ⟨w, hw, hk⟩⟩
theorem dget {ds : List Int} {n k : Nat} (hl : ds.length = n) (hk : k < n) (hp : ∀ x ∈ ds, 0 ≤ x) : ∃ d : Int, 0 ≤ d ∧ (ds.map V.int)[k]? = some (.int d) := by
  have hk' : k < ds.length := by omega
  exact ⟨ds[k], hp _ (List.getElem_mem hk'), by rw [List.getElem?_map, List.getElem?_eq_getElem hk']; rfl⟩
/-- an update that may be written -/
def UpP (rel : List (List Str)) (u : List Str) : Prop := ∃ kd k, u = kd :: k ∧ k ∈ allR ∧ (kd = "touch" ∨ (kd = "delete" ∧ k ∈ rel))
section
variable {P : Program} {w : World} {K : PySem.W.Frag} {mg : Str → Option Value} {base : Heap}
def sp_law_store (K : PySem.W.Frag) : Sp := fun vs H Q _ => ∃ (a : Addr) (ns : List Int) (st many : Nat), vs = [.ref a, .int st, .int many] ∧ SqL K H a (ns.map V.int) ∧ st ≤ 100 ∧ many ≤ 9 ∧ Tabs K H ∧ ∀ p rv ts rel H', Sm H H' → PrAt K H' p rv ts rel → ts.length = many + 1 → Q (.ref p) H'
abbrev N_law_store : List Str := ["_law_script", "_law_start", "_law_many", "_law_schema", "_law_primary", "_law_k", "_law_draws_here", "_law_updates", "_law_j", "_law_kind", "_law_thing", "_law_who", "_law_line"]
theorem ok_law_store (W : Wd K mg base) : FnOk P w K mg base CX0 13 (A_law_store K) (F_law_store K) ["_law_script", "_law_start", "_law_many"] (sp_law_store K) := by
  refine W.fu_law_store.ok sc_law_store (fun vs H Q E h => by obtain ⟨_, _, _, _, rfl, _⟩ := h; rfl) fun cdv A outer s H vs Q E hr h => ?_
  obtain ⟨a, ns, st, many, rfl, ha, hst, hmany, hT, hQ⟩ := h
  obtain ⟨ds, hds, hbd⟩ := W.bd_Primary_init
  refine ⟨_, PSs.nox (pss_cons (ps_set (i := 3) sc_law_store.nd rfl (by first | exact Or.inl rfl | exact Or.inr rfl) pe_str)
      (pss_cons (ps_set (i := 4) sc_law_store.nd rfl (by first | exact Or.inl rfl | exact Or.inr rfl) (pe_make W.mk_Primary (ok_Primary_init W) (hr.mono (by decide)) rfl W.gl_Primary hbd hds pass0 (pa_cons pe_str (pa_cons (pv 3) pa_nil))))
      (pss_cons (ps_for PassesOwn.never rfl (pi_range1 rfl W.fr_range (pa_cons (pv 2) pa_nil)) (pg_name (i := 5) sc_law_store.nd rfl (by first | exact Or.inl rfl | exact Or.inr rfl)) (pss_cons (ps_set (i := 6) sc_law_store.nd rfl (by first | exact Or.inl rfl | exact Or.inr rfl) (pe_call (ok_law_draws W) (hr.mono (by decide)) rfl W.gl_law_draws (W.fu_law_draws).kp W.bd_law_draws .nil pass0 (pa_cons (pe_call (ok_law_cell W) (hr.mono (by decide)) rfl W.gl_law_cell (W.fu_law_cell).kp W.bd_law_cell .nil pass0 (pa_cons (pv 0) (pa_cons (pe_op op_add (pv 1) (pv 5)) pa_nil))) (pa_cons pe_int pa_nil))))
      (pss_cons (ps_set (i := 7) sc_law_store.nd rfl (by first | exact Or.inl rfl | exact Or.inr rfl) (pe_lst pa_nil))
      (pss_cons (ps_for PassesOwn.never rfl (pi_range1 rfl W.fr_range (pa_cons (pe_op op_add pe_int (pe_op op_mod (pe_callTy call_int1 (by rfl) W.fr_int (by decide +kernel) (pa_cons (pe_ix ix_list (pv 6) pe_int (fun _ _ => rfl)) pa_nil)) pe_int)) pa_nil)) (pg_name (i := 8) sc_law_store.nd rfl (by first | exact Or.inl rfl | exact Or.inr rfl)) (pss_cons (ps_set (i := 9) sc_law_store.nd rfl (by first | exact Or.inl rfl | exact Or.inr rfl) (pe_op op_mod (pe_callTy call_int1 (by rfl) W.fr_int (by decide +kernel) (pa_cons (pe_ix ix_list (pv 6) (pe_op op_add pe_int (pv 8)) (fun _ _ => rfl)) pa_nil)) pe_int))
      (pss_cons (ps_set (i := 10) sc_law_store.nd rfl (by first | exact Or.inl rfl | exact Or.inr rfl) (pe_op op_add_str pe_str (pe_ix ix_str pe_str (pe_op op_mod (pe_callTy call_int1 (by rfl) W.fr_int (by decide +kernel) (pa_cons (pe_ix ix_list (pv 6) (pe_op op_add pe_int (pv 8)) (fun _ _ => rfl)) pa_nil)) pe_int) (fun _ _ => rfl))))
      (pss_cons (ps_set (i := 11) sc_law_store.nd rfl (by first | exact Or.inl rfl | exact Or.inr rfl) (pe_op op_add_str pe_str (pe_ix ix_str pe_str (pe_op op_mod (pe_callTy call_int1 (by rfl) W.fr_int (by decide +kernel) (pa_cons (pe_ix ix_list (pv 6) (pe_op op_add pe_int (pv 8)) (fun _ _ => rfl)) pa_nil)) pe_int) (fun _ _ => rfl))))
      (pss_cons (ps_set (i := 12) sc_law_store.nd rfl (by first | exact Or.inl rfl | exact Or.inr rfl) (pe_ix ix_list (pe_lst (pa_cons (pe_tup (pa_cons (pv 10) (pa_cons pe_str (pa_cons (pv 11) pa_nil)))) (pa_cons (pe_tup (pa_cons (pv 10) (pa_cons pe_str (pa_cons (pv 11) pa_nil)))) (pa_cons (pe_tup (pa_cons (pv 10) (pa_cons pe_str (pa_cons (pv 11) pa_nil)))) (pa_cons (pe_tup (pa_cons (pv 10) (pa_cons pe_str (pa_cons pe_str pa_nil)))) (pa_cons (pe_tup (pa_cons pe_str (pa_cons pe_str (pa_cons (pv 11) pa_nil)))) pa_nil)))))) (pv 9) (fun _ _ => rfl)))
      (pss_one (ps_if (PW.pt (pw_and (pt_cmpR (op_inL hr.units) (pv 12) (pe_meth (pv 4) W.cl_Primary W.mt_Primary_relationships (ok_Primary_relationships W) (hr.mono (by decide)) W.bd_Primary_relationships .nil pass0 (pa_cons pe_str pa_nil)) (by rfl)) (pw_and1 (pt_cmpR op_gt (pe_op op_mod (pe_callTy call_int1 (by rfl) W.fr_int (by decide +kernel) (pa_cons (pe_ix ix_list (pv 6) (pe_op op_add pe_int (pv 8)) (fun _ _ => rfl)) pa_nil)) pe_int) pe_int (nomark _))))) (pss_one (ps_expr (pe_bm PySem.F.plainAttrs_list PySem.F.slot_list_append PySem.F.type_list_append mt_append (pv 7) (pa_cons (pe_op op_catT (pe_tup (pa_cons pe_str pa_nil)) (pv 12)) pa_nil)))) (pss_one (ps_expr (pe_bm PySem.F.plainAttrs_list PySem.F.slot_list_append PySem.F.type_list_append mt_append (pv 7) (pa_cons (pe_op op_catT (pe_tup (pa_cons pe_str pa_nil)) (pv 12)) pa_nil)))))))))))
      (pss_cons (ps_if (PW.pt (pw_and (pt_cmpR op_eq (pe_callB call_len_seq (by rfl) W.fr_len PySem.boot_len (pa_cons (pv 7) pa_nil)) pe_int (nomark _)) (pw_and1 (pt_cmpR (op_eqU hr.units) (pe_slice sl_tup (pe_ix ix_list (pv 7) pe_int (fun _ _ => rfl)) (po_some pe_int) po_none) (pe_slice sl_tup (pe_ix ix_list (pv 7) pe_int (fun _ _ => rfl)) (po_some pe_int) po_none) (nomark _))))) (pss_one (ps_set (i := 7) sc_law_store.nd rfl (by first | exact Or.inl rfl | exact Or.inr rfl) (pe_slice sl_list (pv 7) po_none (po_some pe_int)))) pss_nil)
      (pss_one (ps_expr (pe_meth (pv 4) W.cl_Primary W.mt_Primary_write (ok_Primary_write W) (hr.mono (by decide)) W.bd_Primary_write .nil pass0 (pa_cons (pv 7) pa_nil)))))))))
      (pss_one (ps_ret (pv 4)))))), ?_⟩
  have sz : sizeLine = 16777216 := sizeLine_eq
  refine ⟨_, rfl, fun p dp hp hdp nep => ⟨p, dp, rfl, upd_same, hT.sx (Sm.made0 hp hdp nep), fun rv t rel H1 hrv a1 hP => ⟨rfl, ?_⟩⟩⟩
  have hrvH : H rv = none := (Sm.made0 (C := cP K) hp hdp nep).old _ hrv
  have aH1 : Sm H H1 := Sm.made hp hdp nep a1
  clear a1 hrv
  refine ⟨_, rfl, _, rfl, by omega, by omega, for_it walk_range (fun i τ G => ∃ o5 o6 o7 o8 o9 o10 o11 o12 ts rel, τ = [some (.ref a), some (.int st), some (.int many), some (.str lawText), some (.ref p), o5, o6, o7, o8, o9, o10, o11, o12] ∧ Sx (fun b => b = rv) H1 G ∧ PrAt K G p rv ts rel ∧ ts.length = i + 1) ⟨_, _, _, _, _, _, _, _, [t], rel, rfl, Sx.refl _, hP, rfl⟩
    (fun _ _ _ _ _ => True.intro) (fun i x τ G0 G hi ⟨o5, o6, o7, o8, o9, o10, o11, o12, ts, rel, eτ, b, hP, lts⟩ ⟨eG, hx⟩ => ?_) fun τ G ⟨o5, o6, o7, o8, o9, o10, o11, o12, ts, rel, eτ, b, hP, lts⟩ => ?_⟩
  · subst eτ eG
    obtain rfl : x = V.int i := by rw [hx]; show V.int (0 + (i : Int)) = _; rw [Int.zero_add]
    have aG : Sm H G := aH1.after b fun c o e m => by rw [m, hrvH] at e; cases e
    refine ⟨_, rfl, _, rfl, _, rfl, _, _, rfl, rfl, a, ns, st + i, rfl, Sx.sqLS aG ha, fun ci => ⟨ci, 12, rfl, by decide, fun dl ds G1 a1 gdl ldl hds => ⟨Nat.zero_le _, fun ul hul => ?_⟩⟩⟩
    have aU : Sm G1 (upd G1 ul (.lst [])) := Sx.new hul
    have gul : upd G1 ul (.lst []) ul = some (.lst []) := upd_same
    have gdl2 := aU.atS gdl
    have ndu : dl ≠ ul := fun z => by rw [← z, gdl] at hul; cases hul
    have hulG : G ul = none := a1.old _ hul
    have aG2 := a1.trans aU
    generalize upd G1 ul (.lst []) = G2 at aU gul gdl2 aG2 ⊢
    have aG2' : ∀ {G'}, Sx (fun b => b = ul) G2 G' → Sm G G' := fun {G'} bb => aG2.after bb fun c o e m => by rw [m, hulG] at e; cases e
    obtain ⟨d0, p0, e0⟩ := dget (k := 0) ldl (by decide) hds
    refine ⟨_, rfl, dl, _, 0, .int d0, rfl, rfl, .of gdl2, atI_nat (j := 0) e0, .inl ⟨d0, rfl, d0, 2, rfl, rfl, (by show (0 : Int) < 2; decide), 1, _, rfl, rfl, _, rfl, by omega, by omega, for_it walk_range (fun j τ G' => ∃ o8 o9 o10 o11 o12 uvs us, τ = [some (.ref a), some (.int st), some (.int many), some (.str lawText), some (.ref p), some (.int i), some (.ref dl), some (.ref ul), o8, o9, o10, o11, o12] ∧ Sx (fun b => b = ul) G2 G' ∧ G' ul = some (.lst uvs) ∧ Tus G' uvs us ∧ us.length = j ∧ ∀ u ∈ us, UpP rel u) ⟨_, _, _, _, _, [], [], rfl, Sx.refl _, gul, .nil, rfl, fun u h => absurd h List.not_mem_nil⟩
      (fun _ _ _ _ _ => True.intro) (fun j x τ G0 G' hj ⟨o8, o9, o10, o11, o12, uvs, us, eτ, bb, gu, hus, lus, hup⟩ ⟨eG, hx⟩ => ?_) fun τ G' ⟨o8, o9, o10, o11, o12, uvs, us, eτ, bb, gu, hus, lus, hup⟩ => ?_⟩⟩
    · subst eτ eG
      obtain rfl : x = V.int j := by rw [hx]; show V.int (0 + (j : Int)) = _; rw [Int.zero_add]
      have hj2 : j ≤ 1 := by omega
      have gd := bb.at gdl2 ndu
      obtain ⟨d1, p1, e1⟩ := dget (k := 1 + j) ldl (by omega) hds
      obtain ⟨d3, p3, e3⟩ := dget (k := 3 + j) ldl (by omega) hds
      obtain ⟨d5, p5, e5⟩ := dget (k := 5 + j) ldl (by omega) hds
      obtain ⟨d7, p7, e7⟩ := dget (k := 7 + j) ldl (by omega) hds
      have at_ : ∀ {k : Nat} {d : Int}, (ds.map V.int)[k + j]? = some (.int d) → atI (ds.map V.int) ((k : Int) + (j : Int)) = some (.int d) := fun {k d} e => by
        have := atI_nat (j := k + j) e
        rwa [Int.natCast_add] at this
      obtain ⟨c3, m3, x3⟩ := atI_ex (xs := ("pq" : Str).cps.toList) (i := d3 % 2) (Int.emod_nonneg _ (by decide)) (by show d3 % 2 < 2; exact Int.emod_lt_of_pos _ (by decide))
      obtain ⟨c5, m5, x5⟩ := atI_ex (xs := ("abc" : Str).cps.toList) (i := d5 % 3) (Int.emod_nonneg _ (by decide)) (by show d5 % 3 < 3; exact Int.emod_lt_of_pos _ (by decide))
      have hth := pq_ok c3 m3
      have hwho := abc_ok c5 m5
      have l2 : ∀ c : Nat, ("d:" : Str).length + (⟨#[c]⟩ : Str).length ≤ sizeLine ∧ ("u:" : Str).length + (⟨#[c]⟩ : Str).length ≤ sizeLine := fun c => by
        have h1 : ("d:" : Str).length = 2 := by decide +kernel
        have h2 : ("u:" : Str).length = 2 := by decide +kernel
        rw [h1, h2]
        show 2 + 1 ≤ sizeLine ∧ 2 + 1 ≤ sizeLine
        omega
      refine ⟨_, rfl, _, rfl, 1, j, rfl, rfl, dl, _, _, .int d1, rfl, rfl, .of gd, at_ (k := 1) e1, .inl ⟨d1, rfl, d1, 5, rfl, rfl, (by show (0 : Int) < 5; decide), ?_⟩⟩
      refine ⟨_, rfl, _, rfl, 3, j, rfl, rfl, dl, _, _, .int d3, rfl, rfl, .of gd, at_ (k := 3) e3, .inl ⟨d3, rfl, d3, 2, rfl, rfl, (by show (0 : Int) < 2; decide), "pq", _, c3, rfl, rfl, (by decide +kernel), x3, "d:", _, rfl, rfl, (l2 c3).1, ?_⟩⟩
      refine ⟨_, rfl, _, rfl, 5, j, rfl, rfl, dl, _, _, .int d5, rfl, rfl, .of gd, at_ (k := 5) e5, .inl ⟨d5, rfl, d5, 3, rfl, rfl, (by show (0 : Int) < 3; decide), "abc", _, c5, rfl, rfl, (by decide +kernel), x5, "u:", _, rfl, rfl, (l2 c5).2, ?_⟩⟩
      generalize ("d:" ++ (⟨#[c3]⟩ : Str) : Str) = th at hth ⊢
      generalize ("u:" ++ (⟨#[c5]⟩ : Str) : Str) = who at hwho ⊢
      -- the five lines
      have three : 3 ≤ sizeLine := by omega
      refine ⟨_, rfl, _, rfl, three, fun q1 h1 => ?_⟩
      have b1 : Sm G' (upd G' q1 (.tup [.str th, .str "o", .str who])) := Sx.new h1
      have t1 : Tu (upd G' q1 (.tup [.str th, .str "o", .str who])) (.ref q1) [th, "o", who] := ⟨q1, rfl, upd_same⟩
      generalize upd G' q1 (.tup [.str th, .str "o", .str who]) = Ga1 at b1 t1 ⊢
      refine ⟨_, rfl, _, rfl, three, fun q2 h2 => ?_⟩
      have b2 : Sm Ga1 (upd Ga1 q2 (.tup [.str th, .str "w", .str who])) := Sx.new h2
      have t2 : Tu (upd Ga1 q2 (.tup [.str th, .str "w", .str who])) (.ref q2) [th, "w", who] := ⟨q2, rfl, upd_same⟩
      generalize upd Ga1 q2 (.tup [.str th, .str "w", .str who]) = Ga2 at b2 t2 ⊢
      refine ⟨_, rfl, _, rfl, three, fun q3 h3 => ?_⟩
      have b3 : Sm Ga2 (upd Ga2 q3 (.tup [.str th, .str "b", .str who])) := Sx.new h3
      have t3 : Tu (upd Ga2 q3 (.tup [.str th, .str "b", .str who])) (.ref q3) [th, "b", who] := ⟨q3, rfl, upd_same⟩
      generalize upd Ga2 q3 (.tup [.str th, .str "b", .str who]) = Ga3 at b3 t3 ⊢
      refine ⟨_, rfl, three, fun q4 h4 => ?_⟩
      have b4 : Sm Ga3 (upd Ga3 q4 (.tup [.str th, .str "w", .str "g:x#m"])) := Sx.new h4
      have t4 : Tu (upd Ga3 q4 (.tup [.str th, .str "w", .str "g:x#m"])) (.ref q4) [th, "w", "g:x#m"] := ⟨q4, rfl, upd_same⟩
      generalize upd Ga3 q4 (.tup [.str th, .str "w", .str "g:x#m"]) = Ga4 at b4 t4 ⊢
      refine ⟨_, rfl, three, fun q5 h5 => ?_⟩
      have b5 : Sm Ga4 (upd Ga4 q5 (.tup [.str "g:x", .str "m", .str who])) := Sx.new h5
      have t5 : Tu (upd Ga4 q5 (.tup [.str "g:x", .str "m", .str who])) (.ref q5) ["g:x", "m", who] := ⟨q5, rfl, upd_same⟩
      generalize upd Ga4 q5 (.tup [.str "g:x", .str "m", .str who]) = Ga5 at b5 t5 ⊢
      refine ⟨by show 5 ≤ sizeLine; omega, fun ll hll => ?_⟩
      have b6 : Sm Ga5 (upd Ga5 ll (.lst [.ref q1, .ref q2, .ref q3, .ref q4, .ref q5])) := Sx.new hll
      have gll : upd Ga5 ll (.lst [.ref q1, .ref q2, .ref q3, .ref q4, .ref q5]) ll = some (.lst [.ref q1, .ref q2, .ref q3, .ref q4, .ref q5]) := upd_same
      generalize upd Ga5 ll (.lst [.ref q1, .ref q2, .ref q3, .ref q4, .ref q5]) = G3 at b6 gll ⊢
      have b56 := b5.trans b6
      have b46 := b4.trans b56
      have b36 := b3.trans b46
      have b26 := b2.trans b36
      have hL : Tus G3 ([.ref q1, .ref q2, .ref q3, .ref q4, .ref q5] : List V) (lawLn th who) := .cons (t1.sx b26) (.cons (t2.sx b36) (.cons (t3.sx b46) (.cons (t4.sx b56) (.cons (t5.sx b6) .nil))))
      have b16 := b1.trans b26
      clear b1 b2 b3 b4 b5 b6 b26 b36 b46 b56 hll h1 h2 h3 h4 h5 t1 t2 t3 t4 t5
      obtain ⟨zi, hzi, lzi⟩ : ∃ zi : Nat, d1 % 5 = (zi : Int) ∧ zi < 5 := by
        have q1 := Int.emod_nonneg d1 (show (5 : Int) ≠ 0 by decide)
        have q2 := Int.emod_lt_of_pos d1 (show (0 : Int) < 5 by decide)
        exact ⟨(d1 % 5).toNat, by omega, by omega⟩
      obtain ⟨k, hk⟩ : ∃ k, (lawLn th who)[zi]? = some k := ⟨_, List.getElem?_eq_getElem (show zi < (lawLn th who).length from lzi)⟩
      have hkR := ln_ok hth hwho k (List.mem_of_getElem? hk)
      obtain ⟨v, hv, bl, rfl, hbl⟩ := pr_get2 hL hk
      refine ⟨_, rfl, ll, _, d1 % 5, .ref bl, rfl, rfl, .of gll, by rw [hzi]; exact atI_nat hv, ?_⟩
      have aGG : Sm G G' := aG2' bb
      have hPG := hP.sx (aGG.trans b16)
      obtain ⟨dxp, rsp, hpp, _⟩ := hPG.rs
      refine ⟨_, rfl, _, rfl, p, dxp, _, rfl, hpp, rfl, p, rv, ts, rel, rfl, hPG, (hT.sx aG).sx (aGG.trans b16), fun x G5 a5 hx5 => ?_⟩
      obtain ⟨ax, rx, rfl, hax, hrx⟩ := hx5
      have b15 := b16.trans a5
      have bl5 := a5.tups _ _ hbl
      have bb5 : Sx (fun b => b = ul) G2 G5 := bb.trans (Sx.of b15)
      have gu5 := b15.atS gu
      have gd5 := b15.atS gd
      have hus5 := hus.sx b15
      have luv : uvs.length = us.length := Paired.length hus
      have hkne : (k.map V.str) ≠ [] := fun z => by
        have := allR_ne k hkR
        cases k with
        | nil => exact this rfl
        | cons _ _ => cases z
      have lk : (k.map V.str).length ≤ 3 := by
        obtain ⟨_, _, _, e, _⟩ := allR_3 hkR
        rw [e]
        show 3 ≤ 3
        exact Nat.le_refl 3
      have app : ∀ (kd : Str) (σ : L2.St) (D : Ends), σ[7]? = some (some (.ref ul)) → σ[12]? = some (some (.ref bl)) → UpP rel (kd :: k) → (∀ G6 uvs' us', Sx (fun b => b = ul) G2 G6 → G6 ul = some (.lst uvs') → Tus G6 uvs' us' → us'.length = j + 1 → (∀ u ∈ us', UpP rel u) → D.nx σ G6) →
          (tDrop (tBM K "list" rAppend (tVar 7) (tCons (tOp (rCatT K) (tTup (tCons (tC (V.str kd)) tNil)) (tVar 12)) tNil))) D σ G5 := by
        intro kd σ D s7 s12 hu hD
        refine ⟨_, s7, .inl ⟨rfl, _, .of gu5⟩, by show 1 ≤ sizeLine; omega, fun r1 hr1 => ?_⟩
        have c1 : Sm G5 (upd G5 r1 (.tup [.str kd])) := Sx.new hr1
        refine ⟨_, s12, r1, bl, [.str kd], k.map V.str, rfl, rfl, .of upd_same, .of (c1.tups _ _ bl5), by simp, by show 1 + (k.map V.str).length ≤ sizeLine; omega, fun z => absurd z hkne, fun _ r2 hr2 => ?_⟩
        have c2 : Sm (upd G5 r1 (.tup [.str kd])) (upd (upd G5 r1 (.tup [.str kd])) r2 (.tup ([.str kd] ++ k.map V.str))) := Sx.new hr2
        have c12 := c1.trans c2
        have gr2 : upd (upd G5 r1 (.tup [.str kd])) r2 (.tup ([.str kd] ++ k.map V.str)) r2 = some (.tup ((kd :: k).map V.str)) := upd_same
        generalize upd (upd G5 r1 (.tup [.str kd])) r2 (.tup ([.str kd] ++ k.map V.str)) = G6 at c12 gr2 ⊢
        have gu6 := c12.atS gu5
        have c3 : Sx (fun b => b = ul) G6 (upd G6 ul (.lst (uvs ++ [.ref r2]))) := Sx.put gu6 rfl
        refine ⟨ul, uvs, .ref r2, rfl, rfl, gu6, by omega, hD _ (uvs ++ [.ref r2]) (us ++ [kd :: k]) ((bb5.trans (Sx.of c12)).trans c3) upd_same (pr_snoc ((hus5.sx c12).sx c3) ⟨r2, rfl, c3.tups _ _ gr2⟩) (by rw [List.length_append, lus]; rfl) fun u hu' => ?_⟩
        rcases List.mem_append.mp hu' with z | z
        · exact hup u z
        · have z : u = kd :: k := by simpa using z
          rw [z]
          exact hu
      refine ⟨k, rel, ax, rx, ⟨bl, rfl, bl5⟩, rfl, .of hax, hrx, _, rfl, ?_⟩
      have touch : UpP rel ("touch" :: k) := ⟨"touch", k, rfl, hkR, .inl rfl⟩
      have fin : ∀ G6 uvs' us', Sx (fun b => b = ul) G2 G6 → G6 ul = some (.lst uvs') → Tus G6 uvs' us' → us'.length = j + 1 → (∀ u ∈ us', UpP rel u) → ∃ o8 o9 o10 o11 o12 uvs us, [some (V.ref a), some (.int st), some (.int many), some (.str lawText), some (.ref p), some (.int i), some (.ref dl), some (.ref ul), some (.int j), some (.int (d1 % 5)), some (.str th), some (.str who), some (.ref bl)] = [some (V.ref a), some (.int st), some (.int many), some (.str lawText), some (.ref p), some (.int i), some (.ref dl), some (.ref ul), o8, o9, o10, o11, o12] ∧ Sx (fun b => b = ul) G2 G6 ∧ G6 ul = some (.lst uvs) ∧ Tus G6 uvs us ∧ us.length = j + 1 ∧ ∀ u ∈ us, UpP rel u :=
        fun G6 uvs' us' q1 q2 q3 q4 q5 => ⟨_, _, _, _, _, uvs', us', rfl, q1, q2, q3, q4, q5⟩
      by_cases hkr : k ∈ rel
      · refine itT (decide_eq_true hkr) ⟨_, rfl, _, rfl, 7, j, rfl, rfl, dl, _, _, .int d7, rfl, rfl, .of gd5, at_ (k := 7) e7, .inl ⟨d7, rfl, d7, 3, rfl, rfl, (by show (0 : Int) < 3; decide), _, _, rfl, rfl, _, rfl, ?_⟩⟩
        by_cases h7 : (0 : Int) < d7 % 3
        · exact itT (decide_eq_true h7) (app "delete" _ _ rfl rfl ⟨"delete", k, rfl, hkR, .inr ⟨rfl, hkr⟩⟩ fin)
        · exact itF (decide_eq_false h7) (app "touch" _ _ rfl rfl touch fin)
      · exact itF (decide_eq_false hkr) (iteF (app "touch" _ _ rfl rfl touch fin))
    · subst eτ
      have aGG : Sm G G' := aG2' bb
      have luv : uvs.length = us.length := Paired.length hus
      have fin : ∀ (σ : L2.St) (G4 : Hp) (wl : Addr) (wvs : List V) (ws : List (List Str)) (D : Ends), σ[4]? = some (some (.ref p)) → σ[7]? = some (some (.ref wl)) → Sm G G4 → G4 wl = some (.lst wvs) → Tus G4 wvs ws → UpOk rel ws → (∀ G5 rel' t', Sx (fun b => b = rv) G G5 → PrAt K G5 p rv (ts ++ [t']) rel' → D.nx σ G5) →
          (tDrop (tMeth (He.ga K "Primary") "write" (sp_Primary_write K) [] E0 (tVar 4) (tCons (tVar 7) tNil))) D σ G4 := by
        intro σ G4 wl wvs ws D s4 s7 a4 gw hw hU hD
        have hP4 := hP.sx a4
        obtain ⟨dxp, rsp, hpp, _⟩ := hP4.rs
        refine ⟨_, s4, p, dxp, _, rfl, hpp, rfl, _, s7, p, rv, ts, rel, .ref wl, ws, rfl, hP4, by omega, ⟨wl, wvs, rfl, gw, hw⟩, hU, (hT.sx aG).sx a4, fun v rel' t' G5 a5 hP5 => hD G5 rel' t' ((Sx.of a4).trans a5) hP5⟩
      have nxt : ∀ (wl : Addr) G5 rel' t', Sx (fun b => b = rv) G G5 → PrAt K G5 p rv (ts ++ [t']) rel' → ∃ o5' o6' o7' o8' o9' o10' o11' o12' ts' rel', [some (V.ref a), some (.int st), some (.int many), some (.str lawText), some (.ref p), some (.int i), some (.ref dl), some (.ref wl), o8, o9, o10, o11, o12] = [some (V.ref a), some (.int st), some (.int many), some (.str lawText), some (.ref p), o5', o6', o7', o8', o9', o10', o11', o12'] ∧ Sx (fun b => b = rv) H1 G5 ∧ PrAt K G5 p rv ts' rel' ∧ ts'.length = i + 1 + 1 :=
        fun wl G5 rel' t' q1 q2 => ⟨_, _, _, _, _, _, _, _, ts ++ [t'], rel', rfl, b.trans q1, q2, by rw [List.length_append, lts]; rfl⟩
      have hone : ∀ ws : List (List Str), ws.length ≤ 1 → (∀ u ∈ ws, UpP rel u) → UpOk rel ws := fun ws hl hw => by
        refine ⟨by omega, hw, ?_⟩
        match ws, hl with
        | [], _ => exact List.nodup_nil
        | [u], _ => exact List.nodup_cons.mpr ⟨List.not_mem_nil, List.nodup_nil⟩
      have hn1 := Int.emod_nonneg d0 (show (2 : Int) ≠ 0 by decide)
      have hn2 := Int.emod_lt_of_pos d0 (show (0 : Int) < 2 by decide)
      refine ⟨_, rfl, ul, uvs, rfl, .inl (.of gu), rfl, _, rfl, ?_⟩
      by_cases h2 : us.length = 2
      · obtain ⟨u0, u1, eu⟩ : ∃ u0 u1, us = [u0, u1] := by
          match us, h2 with
          | [u0, u1], _ => exact ⟨u0, u1, rfl⟩
        subst eu
        obtain ⟨x0, hx0, b0, rfl, hb0⟩ := pr_get2 hus (show [u0, u1][0]? = some u0 from rfl)
        obtain ⟨x1, hx1, b1, rfl, hb1⟩ := pr_get2 hus (show [u0, u1][1]? = some u1 from rfl)
        obtain ⟨kd0, k0, e0', hk0⟩ := hup u0 List.mem_cons_self
        obtain ⟨kd1, k1, e1', hk1⟩ := hup u1 (List.mem_cons_of_mem _ List.mem_cons_self)
        subst e0' e1'
        have hb0 : G' b0 = some (.tup (.str kd0 :: k0.map V.str)) := hb0
        have hb1 : G' b1 = some (.tup (.str kd1 :: k1.map V.str)) := hb1
        refine itT (by rw [decide_eq_true]; rw [luv]; rfl) ⟨_, rfl, ul, uvs, 0, .ref b0, rfl, rfl, .of gu, atI_nat (j := 0) hx0, 1, rfl, b0, _, rfl, .of hb0, cut1_ne _ _, fun q0 hq0 => ?_⟩
        have c1 : Sm G' (upd G' q0 (.tup (cutV (.str kd0 :: k0.map V.str) (some 1) none))) := Sx.new hq0
        have t0 : Tu (upd G' q0 (.tup (cutV (.str kd0 :: k0.map V.str) (some 1) none))) (.ref q0) k0 := ⟨q0, rfl, by rw [upd_same]; congr 2; exact cut1 _ _⟩
        generalize upd G' q0 (.tup (cutV (.str kd0 :: k0.map V.str) (some 1) none)) = Ga at c1 t0 ⊢
        refine ⟨_, rfl, ul, uvs, 1, .ref b1, rfl, rfl, .of (c1.atS gu), atI_nat (j := 1) hx1, 1, rfl, b1, _, rfl, .of (c1.tups _ _ hb1), cut1_ne _ _, fun q1 hq1 => ?_⟩
        have c2 : Sm Ga (upd Ga q1 (.tup (cutV (.str kd1 :: k1.map V.str) (some 1) none))) := Sx.new hq1
        have t1 : Tu (upd Ga q1 (.tup (cutV (.str kd1 :: k1.map V.str) (some 1) none))) (.ref q1) k1 := ⟨q1, rfl, by rw [upd_same]; congr 2; exact cut1 _ _⟩
        generalize upd Ga q1 (.tup (cutV (.str kd1 :: k1.map V.str) (some 1) none)) = Gb at c2 t1 ⊢
        have c12 := c1.trans c2
        have gub := c12.atS gu
        have husb := hus.sx c12
        refine ⟨k0, k1, t0.sx c2, t1, _, rfl, ?_⟩
        by_cases hkk : k0 = k1
        · refine itT (decide_eq_true hkk) ⟨_, rfl, 1, rfl, ul, uvs, rfl, .of gub, fun wl hwl => ?_⟩
          have c3 : Sm Gb (upd Gb wl (.lst (cutV uvs none (some 1)))) := Sx.new hwl
          have gwl : upd Gb wl (.lst (cutV uvs none (some 1))) wl = some (.lst (uvs.take 1)) := by rw [upd_same]; congr 2; exact cutTo (i := 1)
          refine fin _ _ wl (uvs.take 1) [kd0 :: k0] _ rfl rfl (aGG.trans (c12.trans c3)) gwl (pr_take 1 (husb.sx c3)) (hone _ (Nat.le_refl 1) fun u hu => hup u ?_) (nxt wl)
          have : u = kd0 :: k0 := by simpa using hu
          rw [this]
          exact List.mem_cons_self
        · refine itF (decide_eq_false hkk) (fin _ Gb ul uvs _ _ rfl rfl (aGG.trans c12) gub husb ⟨by show 2 ≤ 10; decide, hup, ?_⟩ (nxt ul))
          show [k0, k1].Nodup
          simp [hkk]
      · refine itF ?_ (iteF (fin _ G' ul uvs us _ rfl rfl aGG gu hus (hone us ?_ hup) (nxt ul)))
        · refine decide_eq_false fun z => h2 ?_
          have z := V.int.inj z
          omega
        · omega
  · subst eτ
    exact ⟨_, rfl, hQ p rv ts rel G (aH1.after b fun c o e m => by rw [m, hrvH] at e; cases e) hP (by rw [lts]; omega)⟩
end
end K83
namespace K83
open PySem PySem.Spec PyProof.Rows L2 L2.DX GxR
/-- a list of text tuples, apart from D -/
def LuN (D : Addr) (H : Hp) (v : V) (l : List (List Str)) : Prop := ∃ p xs, v = .ref p ∧ H p = some (.lst xs) ∧ Tus H xs l ∧ p ≠ D
theorem LuN.sx {D : Addr} {H H1 : Hp} {v : V} {l : List (List Str)} (a : Sx (fun b => b = D) H H1) (h : LuN D H v l) : LuN D H1 v l := by
  obtain ⟨p, xs, e, h1, h2, h3⟩ := h
  exact ⟨p, xs, e, a.at h1 h3, h2.sx a, h3⟩
theorem LuN.lu {D : Addr} {H : Hp} {v : V} {l : List (List Str)} (h : LuN D H v l) : Lu H v l := by
  obtain ⟨p, xs, e, h1, h2, _⟩ := h
  exact ⟨p, xs, e, h1, h2⟩
theorem modN (x : Int) (m : Nat) (hm : 0 < m) : ∃ k : Nat, x % (m : Int) = k ∧ k < m := by
  have q1 := Int.emod_nonneg x (show (m : Int) ≠ 0 by omega)
  have q2 := Int.emod_lt_of_pos x (show (0 : Int) < (m : Int) by omega)
  exact ⟨(x % (m : Int)).toNat, by omega, by omega⟩
def anD (x : Bool × Nat) : PyData := .tuple [.bool x.1, .str (tok x.2)]
theorem anD_plain (x : Bool × Nat) : (anD x).plain = true := by simp [anD, PyData.plain, PyData.plainAll]
theorem anD_depth (x : Bool × Nat) : (anD x).depth ≤ 64 := by simp [anD, PyData.depth, PyData.depthAll]
theorem anD_self (x : Bool × Nat) : PyData.eqv (anD x) (anD x) = true := by simp [anD, PyData.eqv, PyData.eqvAll]
theorem anD_dp {K : PySem.W.Frag} {H : Hp} {b : Addr} {x : Bool × Nat} (h : H b = some (.tup [.bl x.1, .str (tok x.2)])) : Dp K H (.ref b) (anD x) := .tup (.of h) (.cons (.bl _) (.cons (.str _) .nil))
theorem nm_seq {t u : TS} {i : Nat} {v : V} {D : Ends} {σ : L2.St} {H : Hp} (h : tSeq t u D (σ.set i (some v)) H) : gName i v σ H (tSeq t u D) := h
theorem seq_if {t : TT} {a b : TE} {i : Nat} {r : TS} {D : Ends} {σ : L2.St} {H : Hp} (v : V) (H' : Hp) (h : ∀ Q' : VK, Q' v H' → tIf t a b σ H Q') (hr : r D (σ.set i (some v)) H') : tSeq (tAsg (tIf t a b) (gName i)) r D σ H := h _ hr
theorem cons_if {t : TT} {a b : TE} {r : TA} {σ : L2.St} {H : Hp} {Q : List V → Hp → Prop} (v : V) (H' : Hp) (h : ∀ Q' : VK, Q' v H' → tIf t a b σ H Q') (hr : r σ H' fun xs H2 => Q (v :: xs) H2) : tCons (tIf t a b) r σ H Q := h _ hr
section
variable {P : Program} {w : World} {K : PySem.W.Frag} {mg : Str → Option Value} {base : Heap}
def sp_law (K : PySem.W.Frag) : Sp := fun vs H Q _ => ∃ (a : Addr) (ns : List Int), vs = [.ref a] ∧ SqL K H a (ns.map V.int) ∧ Tabs K H ∧ ∀ H', Sm H H' → Q (.bl true) H'
abbrev N_law : List Str := ["_law_script", "_law_primary", "_law_last", "_law_tables", "_law_start", "_law_replica", "_law_cache", "_law_k", "_law_draws_here", "_law_kind", "_law_question_here", "_law_least", "_law_known_here", "_law_answer"]
theorem ok_law (W : Wd K mg base) (hP : PF P) : FnOk P w K mg base CX0 14 (A_law K) (F_law K) ["_law_script"] (sp_law K) := by
  refine W.fu_law.ok sc_law (fun vs H Q E h => by obtain ⟨_, _, rfl, _⟩ := h; rfl) fun cdv A outer s H vs Q E hr h => ?_
  obtain ⟨a, ns, rfl, ha, hT, hQ⟩ := h
  refine ⟨_, PSs.nox (pss_cons (ps_set (i := 1) sc_law.nd rfl (by first | exact Or.inl rfl | exact Or.inr rfl) (pe_call (ok_law_store W) (hr.mono (by decide)) rfl W.gl_law_store (W.fu_law_store).kp W.bd_law_store .nil pass0 (pa_cons (pv 0) (pa_cons pe_int (pa_cons (pe_op op_mod (pe_call (ok_law_cell W) (hr.mono (by decide)) rfl W.gl_law_cell (W.fu_law_cell).kp W.bd_law_cell .nil pass0 (pa_cons (pv 0) (pa_cons pe_int pa_nil))) pe_int) pa_nil)))))
      (pss_cons (ps_set (i := 2) sc_law.nd rfl (by first | exact Or.inl rfl | exact Or.inr rfl) (pe_meth0 (pv 1) W.cl_Primary W.mt_Primary_revision (ok_Primary_revision W) (hr.mono (by decide)) W.bd_Primary_revision .nil pass0))
      (pss_cons (ps_setLc (i := 3) (own := [("_law_k", 7)]) rfl sc_law.nd rfl rfl (sw_true rfl rfl rfl (by decide +kernel)) (pi_range1 rfl W.fr_range (pa_cons (pe_op op_add (pv 2) pe_int) pa_nil)) (blkOk_by (own := [("_law_k", 7)]) (N := N_law) (sc := defScope s_law) (by decide +kernel)) (fun _ _ _ _ _ => (pg_name (i := 7) sc_law.nd rfl (by first | exact Or.inl rfl | exact Or.inr rfl))) (fun _ _ _ _ _ => pts_nil) (fun _ _ _ _ _ => (pe_meth (pv 1) W.cl_Primary W.mt_Primary_grants (ok_Primary_grants W) (hr.mono (by decide)) W.bd_Primary_grants .nil pass0 (pa_cons (pe_op op_add_str pe_str (pe_callTy call_str_int (by rfl) W.fr_str (by decide +kernel) (pa_cons (pv 7) pa_nil))) pa_nil))))
      (pss_cons (ps_set (i := 4) sc_law.nd rfl (by first | exact Or.inl rfl | exact Or.inr rfl) (pe_op op_mod (pe_call (ok_law_cell W) (hr.mono (by decide)) rfl W.gl_law_cell (W.fu_law_cell).kp W.bd_law_cell .nil pass0 (pa_cons (pv 0) (pa_cons pe_int pa_nil))) (pe_op op_add (pv 2) pe_int)))
      (pss_cons (ps_set (i := 5) sc_law.nd rfl (by first | exact Or.inl rfl | exact Or.inr rfl) (pe_make W.mk_Replica (ok_Replica_init W) (hr.mono (by decide)) rfl W.gl_Replica W.bd_Replica_init .nil pass0 (pa_cons (pe_meth (pv 1) W.cl_Primary W.mt_Primary_snapshot (ok_Primary_snapshot W) (hr.mono (by decide)) W.bd_Primary_snapshot .nil pass0 (pa_cons (pe_op op_add_str pe_str (pe_callTy call_str_int (by rfl) W.fr_str (by decide +kernel) (pa_cons (pe_op op_mod (pe_op op_fdivN (pe_call (ok_law_cell W) (hr.mono (by decide)) rfl W.gl_law_cell (W.fu_law_cell).kp W.bd_law_cell .nil pass0 (pa_cons (pv 0) (pa_cons pe_int pa_nil))) pe_int) (pe_op op_add (pv 2) pe_int)) pa_nil))) pa_nil)) pa_nil)))
      (pss_cons (ps_set (i := 6) sc_law.nd rfl (by first | exact Or.inl rfl | exact Or.inr rfl) (pe_make W.mk_Cache (ok_Cache_init W) (hr.mono (by decide)) rfl W.gl_Cache W.bd_Cache_init .nil pass0 (pa_cons pe_str (pa_cons (pv 4) (pa_cons (pe_op op_add pe_int (pe_op op_mod (pe_op op_fdivN (pe_call (ok_law_cell W) (hr.mono (by decide)) rfl W.gl_law_cell (W.fu_law_cell).kp W.bd_law_cell .nil pass0 (pa_cons (pv 0) (pa_cons pe_int pa_nil))) pe_int) pe_int)) pa_nil)))))
      (pss_cons (ps_for PassesOwn.never rfl (pi_range1 rfl W.fr_range (pa_cons (pe_op op_mod (pe_call (ok_law_cell W) (hr.mono (by decide)) rfl W.gl_law_cell (W.fu_law_cell).kp W.bd_law_cell .nil pass0 (pa_cons (pv 0) (pa_cons pe_int pa_nil))) pe_int) pa_nil)) (pg_name (i := 7) sc_law.nd rfl (by first | exact Or.inl rfl | exact Or.inr rfl)) (pss_cons (ps_set (i := 8) sc_law.nd rfl (by first | exact Or.inl rfl | exact Or.inr rfl) (pe_call (ok_law_draws W) (hr.mono (by decide)) rfl W.gl_law_draws (W.fu_law_draws).kp W.bd_law_draws .nil pass0 (pa_cons (pe_call (ok_law_cell W) (hr.mono (by decide)) rfl W.gl_law_cell (W.fu_law_cell).kp W.bd_law_cell .nil pass0 (pa_cons (pv 0) (pa_cons (pe_op op_add pe_int (pv 7)) pa_nil))) (pa_cons pe_int pa_nil))))
      (pss_cons (ps_set (i := 9) sc_law.nd rfl (by first | exact Or.inl rfl | exact Or.inr rfl) (pe_op op_mod (pe_callTy call_int1 (by rfl) W.fr_int (by decide +kernel) (pa_cons (pe_ix ix_list (pv 8) pe_int (fun _ _ => rfl)) pa_nil)) pe_int))
      (pss_one (ps_if (PW.pt (pw_and (pt_cmpR op_eq (pv 9) pe_int (nomark _)) (pw_and1 (pt_cmpR op_gt (pv 2) pe_int (nomark _))))) (pss_one (ps_expr (pe_meth (pv 5) W.cl_Replica W.mt_Replica_receive (ok_Replica_receive W) (hr.mono (by decide)) W.bd_Replica_receive .nil pass0 (pa_cons (pe_meth (pv 1) W.cl_Primary W.mt_Primary_entry (ok_Primary_entry W) (hr.mono (by decide)) W.bd_Primary_entry .nil pass0 (pa_cons (pe_op op_add pe_int (pe_op op_mod (pe_callTy call_int1 (by rfl) W.fr_int (by decide +kernel) (pa_cons (pe_ix ix_list (pv 8) pe_int (fun _ _ => rfl)) pa_nil)) (pv 2))) pa_nil)) pa_nil)))) (pss_one (ps_if (PW.pt (pw_and (pt_cmpR op_eq (pv 9) pe_int (nomark _)) (pw_and1 (pt_cmpR op_lt (pe_meth0 (pv 6) W.cl_Cache W.mt_Cache_revision (ok_Cache_revision W) (hr.mono (by decide)) W.bd_Cache_revision .nil pass0) (pv 2) (nomark _))))) (pss_one (ps_if (pt_not (pt_val (pe_call (ok_law_applied W) (hr.mono (by decide)) rfl W.gl_law_applied (W.fu_law_applied).kp W.bd_law_applied .nil pass0 (pa_cons (pv 6) (pa_cons (pe_meth (pv 1) W.cl_Primary W.mt_Primary_entry (ok_Primary_entry W) (hr.mono (by decide)) W.bd_Primary_entry .nil pass0 (pa_cons (pe_op op_add (pe_meth0 (pv 6) W.cl_Cache W.mt_Cache_revision (ok_Cache_revision W) (hr.mono (by decide)) W.bd_Cache_revision .nil pass0) pe_int) pa_nil)) (pa_cons (pv 3) pa_nil)))))) (pss_one (ps_ret pe_bl)) pss_nil)) (pss_one (ps_if (pt_cmpR op_gt (pv 9) pe_int (nomark _)) (pss_cons (ps_set (i := 10) sc_law.nd rfl (by first | exact Or.inl rfl | exact Or.inr rfl) (pe_call (ok_law_question W) (hr.mono (by decide)) rfl W.gl_law_question (W.fu_law_question).kp W.bd_law_question .nil pass0 (pa_cons (pe_callTy call_int1 (by rfl) W.fr_int (by decide +kernel) (pa_cons (pe_ix ix_list (pv 8) pe_int (fun _ _ => rfl)) pa_nil)) pa_nil)))
      (pss_cons (ps_set (i := 11) sc_law.nd rfl (by first | exact Or.inl rfl | exact Or.inr rfl) (pe_ifExp (pt_cmpR op_gt (pe_op op_mod (pe_callTy call_int1 (by rfl) W.fr_int (by decide +kernel) (pa_cons (pe_ix ix_list (pv 8) pe_int (fun _ _ => rfl)) pa_nil)) pe_int) pe_int (nomark _)) (pe_op op_mod (pe_callTy call_int1 (by rfl) W.fr_int (by decide +kernel) (pa_cons (pe_ix ix_list (pv 8) pe_int (fun _ _ => rfl)) pa_nil)) (pe_op op_add (pv 2) pe_int)) (pe_un un_neg pe_int)))
      (pss_cons (ps_set (i := 12) sc_law.nd rfl (by first | exact Or.inl rfl | exact Or.inr rfl) (pe_call (ok_law_known W) (hr.mono (by decide)) rfl W.gl_law_known (W.fu_law_known).kp W.bd_law_known .nil pass0 (pa_cons (pv 6) (pa_cons (pv 10) (pa_cons (pe_ifExp (pt_cmpR op_ge (pv 11) pe_int (nomark _)) (pe_op op_add_str pe_str (pe_callTy call_str_int (by rfl) W.fr_str (by decide +kernel) (pa_cons (pv 11) pa_nil))) pe_str) pa_nil)))))
      (pss_cons (ps_set (i := 13) sc_law.nd rfl (by first | exact Or.inl rfl | exact Or.inr rfl) (pe_call (ok_law_checked W hP) (hr.mono (by decide)) rfl W.gl_law_checked (W.fu_law_checked).kp W.bd_law_checked .nil pass0 (pa_cons (pv 6) (pa_cons (pv 5) (pa_cons (pv 10) (pa_cons (pe_ifExp (pt_cmpR op_ge (pv 11) pe_int (nomark _)) (pe_op op_add_str pe_str (pe_callTy call_str_int (by rfl) W.fr_str (by decide +kernel) (pa_cons (pv 11) pa_nil))) pe_str) pa_nil))))))
      (pss_one (ps_if (PW.pt (pw_and (pt_cmpR op_isN (pv 12) pe_non (nomark _)) (pw_and1 (pt_cmpR op_gt (pv 11) (pe_meth0 (pv 5) W.cl_Replica W.mt_Replica_revision (ok_Replica_revision W) (hr.mono (by decide)) W.bd_Replica_revision .nil pass0) (nomark _))))) (pss_one (ps_if (pt_cmpR op_ne (pv 13) pe_str (nomark _)) (pss_one (ps_ret pe_bl)) pss_nil)) (pss_one (ps_if (PW.pt (pw_or (pt_not (pt_val (pe_call (ok_law_is_true W) (hr.mono (by decide)) rfl W.gl_law_is_true (W.fu_law_is_true).kp W.bd_law_is_true .nil pass0 (pa_cons (pv 3) (pa_cons (pv 10) (pa_cons (pv 13) (pa_cons (pv 11) pa_nil))))))) (pw_or1 (PW.pt (pw_and (pt_cmpR op_notN (pv 12) pe_non (nomark _)) (pw_and1 (pt_cmpR (op_neP hr.units) (pv 13) (pv 12) (nomark _)))))))) (pss_one (ps_ret pe_bl)) pss_nil)))))))) pss_nil)))))))))
      (pss_one (ps_ret pe_bl))))))))), ?_⟩
  have sz : sizeLine = 16777216 := sizeLine_eq
  refine ⟨_, rfl, _, rfl, a, ns, 0, rfl, ha, fun c0 => ⟨c0, 9, rfl, rfl, (by show (0 : Int) < 9; decide), ?_⟩⟩
  obtain ⟨last, hlast, llast⟩ := modN c0 9 (by decide)
  refine ⟨a, ns, 3, last, by show [V.ref a, V.int 3, V.int (c0 % 9)] = _; rw [show c0 % 9 = (last : Int) from hlast]; rfl, ha, by omega, by omega, hT, fun p rv ts rel H1 a1 hP1 lts => ?_⟩
  have hP1' := hP1
  obtain ⟨dxp, rsp, hpp, _⟩ := hP1.rs
  have eT : ts.length - 1 = last := by omega
  refine ⟨_, rfl, p, dxp, _, rfl, hpp, rfl, p, rv, ts, rel, rfl, hP1, ?_⟩
  rw [eT]
  have ha1 := Sx.sqLS a1 ha
  have hT1 := hT.sx a1
  refine ⟨_, rfl, last, 1, rfl, rfl, _, rfl, by omega, by omega, fun D hD => ?_⟩
  have aD : Sm H1 (upd H1 D (.lst [])) := Sx.new hD
  have gD0 : upd H1 D (.lst []) D = some (.lst []) := upd_same
  have cur : ∀ {G}, Sx (fun b => b = D) (upd H1 D (.lst [])) G → Sm H1 G := fun {G} b => aD.after b fun c o e m => by rw [m, hD] at e; cases e
  refine lc_it walk_range (fun i G => ∃ ys, Sx (fun b => b = D) (upd H1 D (.lst [])) G ∧ G D = some (.lst ys) ∧ Paired (LuN D G) ys (ts.take i)) ⟨[], Sx.refl _, gD0, by rw [List.take_zero]; exact .nil⟩
    (fun i G _ _ => True.intro) (fun i x G0 G hi ⟨ys, b, gD, hys⟩ ⟨eG, hx⟩ => ?_) fun G ⟨ys, b, gD, hys⟩ => ?_
  · subst eG
    obtain rfl : x = V.int i := by rw [hx]; show V.int (0 + (i : Int)) = _; rw [Int.zero_add]
    have aG := cur b
    have hpG := aG.atS hpp
    have hti : i < ts.length := by omega
    obtain ⟨t, ht⟩ : ∃ t, ts[i]? = some t := ⟨_, List.getElem?_eq_getElem hti⟩
    have hi41 : i < 41 := by omega
    refine ⟨rfl, tYes_i ?_⟩
    refine iteT ⟨_, rfl, p, dxp, _, rfl, hpG, rfl, _, rfl, (i : Int), rfl, num_log i (by omega), "main@", _, rfl, rfl, tok_room hi41, p, rv, ts, rel, i, t, rfl, hP1.sx aG, ht, hT1.sx aG, fun x G2 a2 hxn hx => ?_⟩
    obtain ⟨x', xs, ex, hx2, hx3⟩ := hx
    cases ex
    have xD : x ≠ D := fun z => by rw [z, gD] at hxn; cases hxn
    have gD2 := a2.atS gD
    have a3 : Sx (fun b => b = D) G2 (upd G2 D (.lst (ys ++ [.ref x]))) := Sx.put gD2 rfl
    have lys : ys.length = (ts.take i).length := Paired.length hys
    rw [List.length_take] at lys
    refine ⟨ys, gD2, by omega, ys ++ [.ref x], (b.trans (Sx.of a2)).trans a3, upd_same, ?_⟩
    rw [take_snoc ht]
    exact pr_snoc (Paired.mapP hys fun _ _ h => (h.sx (Sx.of a2)).sx a3) ⟨x, xs, rfl, a3.at hx2 xD, hx3.sx a3, xD⟩
  · rw [show ((last : Int) + 1).toNat = ts.length by omega, List.take_length] at hys
    have hys := Paired.mapP hys fun _ _ h => LuN.lu h
    have aG := cur b
    clear aD gD0 cur b
    have hpG := aG.atS hpp
    have haG := Sx.sqLS aG ha1
    have hTG := hT1.sx aG
    have hPG := hP1.sx aG
    have aHG := a1.trans aG
    clear hP1 ha1 hT1 a1 aG ha hT hpp hP1' hD
    obtain ⟨T, hts, hgd⟩ : ∃ T : Nat → List (List Str), (∀ j, j ≤ last → ts[j]? = some (T j)) ∧ ∀ j, Gd (T j) := by
      refine ⟨fun j => ts.getD j [], fun j hj => ?_, fun j => ?_⟩
      · show ts[j]? = some (ts.getD j [])
        rw [List.getD_eq_getElem?_getD, List.getElem?_eq_getElem (by omega)]
        rfl
      · show Gd (ts.getD j [])
        rw [List.getD_eq_getElem?_getD]
        cases h : ts[j]? with
        | none => exact ⟨List.nodup_nil, fun k hk => absurd hk List.not_mem_nil, Nat.zero_le _⟩
        | some t =>
          obtain ⟨_, _, _, _, _, q⟩ := hPG.rs
          obtain ⟨_, _, _, hR, _⟩ := q j t h
          exact hR.gd
    have pos : (0 : Int) < (last : Int) + 1 := by omega
    refine ⟨_, rfl, a, ns, 1, rfl, haG, fun c1 => ⟨_, rfl, last, 1, rfl, rfl, c1, (last : Int) + 1, rfl, rfl, pos, ?_⟩⟩
    obtain ⟨st, hst, lst⟩ := modN c1 (last + 1) (by omega)
    have hst : c1 % ((last : Int) + 1) = (st : Int) := hst
    refine ⟨_, rfl, p, dxp, _, rfl, hpG, rfl, _, rfl, a, ns, 1, rfl, haG, fun c2 => ⟨c2, 16, rfl, rfl, ⟨by decide, by decide⟩, _, rfl, last, 1, rfl, rfl, c2.fdiv 16, (last : Int) + 1, rfl, rfl, pos, ?_⟩⟩
    obtain ⟨j, hj, lj⟩ := modN (c2.fdiv 16) (last + 1) (by omega)
    have hj : (c2.fdiv 16) % ((last : Int) + 1) = (j : Int) := hj
    refine ⟨(j : Int), congrArg (fun z : Int => [V.int z]) hj, num_log j (by omega), "main@", _, rfl, rfl, tok_room (k := j) (by omega), p, rv, ts, rel, j, T j, rfl, hPG, hts j (by omega), hTG, fun b x G3 a3 hb hx => ?_⟩
    refine fun rp dr hrp hdr ner => ?_
    have m1 := Sm.made0 (C := cR K) hrp hdr ner
    refine ⟨last + 1, T, rp, dr, j, b, x, rfl, upd_same, m1.tups _ _ hb, hx.sx m1, hgd j, lj, by omega, fun rl G5 hrl a5 hRe => ⟨rfl, ?_⟩⟩
    have m2 := Sm.made hrp hdr ner a5
    have hrl3 := m1.old _ hrl
    have aG5 := a3.trans m2
    have hrpG := a3.old _ hrp
    have hrlG := a3.old _ hrl3
    clear hrl a5 m1 m2 hrp hdr ner hrl3 hx hb a3
    have haG5 := Sx.sqLS aG5 haG
    refine ⟨_, rfl, _, rfl, a, ns, 1, rfl, haG5, fun c3 => ⟨c3, 256, rfl, rfl, ⟨by decide, by decide⟩, _, 5, rfl, rfl, (by show (0 : Int) < 5; decide), 1, _, rfl, rfl, fun cp dc hcp hdc nec => ?_⟩⟩
    obtain ⟨cm, hcm, lcm⟩ := modN (c3.fdiv 256) 5 (by decide)
    have hcm : (c3.fdiv 256) % 5 = (cm : Int) := hcm
    have ecm : 1 + (c3.fdiv 256) % 5 = ((1 + cm : Nat) : Int) := by omega
    have m1 := Sm.made0 (C := cC K) hcp hdc nec
    refine ⟨cp, dc, st, 1 + cm, by show [V.ref cp, .str "main", .int (c1 % ((last : Int) + 1)), .int (1 + c3.fdiv 256 % 5)] = _; rw [hst, ecm], upd_same, fun ce G7 hce nce a7 hCa => ⟨rfl, ?_⟩⟩
    have m2 := Sm.made hcp hdc nec a7
    have hce5 := m1.old _ hce
    have aG7 := aG5.trans m2
    obtain ⟨⟨dxr, vtr, tbr, hrp5, _⟩, ⟨kvr, hrl5, _⟩, _⟩ := id hRe
    have hRe := hRe.sx m2
    have hcpG := aG5.old _ hcp
    have hceG := aG5.old _ hce5
    have n1 : rp ≠ cp := fun z => by rw [← z, hrp5] at hcp; cases hcp
    have n2 : rl ≠ cp := fun z => by rw [← z, hrl5] at hcp; cases hcp
    have n3 : rp ≠ ce := fun z => by rw [← z, hrp5] at hce5; cases hce5
    have n4 : rl ≠ ce := fun z => by rw [← z, hrl5] at hce5; cases hce5
    clear hce a7 m1 hdc nec nce m2 aG5 haG5
    have haG7 := Sx.sqLS aG7 haG
    refine ⟨_, rfl, a, ns, 2, rfl, haG7, fun c4 => ⟨c4, 45, rfl, rfl, (by show (0 : Int) < 45; decide), ?_⟩⟩
    obtain ⟨deeds, hdeeds, ldeeds⟩ := modN c4 45 (by decide)
    have mv : ∀ {Ga Gb : Hp} {M : Addr → Prop}, Sm G Ga → Sx M Ga Gb → (∀ b, M b → G b = none) → Sm G Gb := fun {Ga Gb M} a b h => a.after b fun c o e m => by rw [h c m] at e; cases e
    have hE0 : EsOk T st (1 + cm) [] := ⟨List.nodup_nil, Nat.zero_le _, fun z hz => absurd hz List.not_mem_nil⟩
    refine ⟨(deeds : Int), congrArg (fun z : Int => [V.int z]) hdeeds, by omega, by omega, for_it walk_range (fun i τ G0 => ∃ o7 o8 o9 o10 o11 o12 o13 rn n es, τ = [some (.ref a), some (.ref p), some (.int last), some (.ref D), some (.int (c1 % ((last : Int) + 1))), some (.ref rp), some (.ref cp), o7, o8, o9, o10, o11, o12, o13] ∧ Sm G G0 ∧ ReAt (cR K) (last + 1) T G0 rp rl rn ∧ CaAt (cC K) G0 cp ce n (1 + cm) es ∧ EsOk T n (1 + cm) es ∧ n ≤ last) ⟨_, _, _, _, _, _, _, j, st, [], rfl, aG7, hRe, hCa, hE0, by omega⟩
      (fun _ _ _ _ _ => True.intro) (fun i x τ G0 G1 hi ⟨o7, o8, o9, o10, o11, o12, o13, rn, n, es, eτ, aG0, hR, hC, hE, hn⟩ ⟨eG, hx⟩ => ?_) fun τ G0 ⟨o7, o8, o9, o10, o11, o12, o13, rn, n, es, eτ, aG0, hR, hC, hE, hn⟩ => ?_⟩
    · subst eτ eG
      obtain rfl : x = V.int i := by rw [hx]; show V.int (0 + (i : Int)) = _; rw [Int.zero_add]
      refine ⟨_, rfl, _, rfl, 12, i, rfl, rfl, a, ns, 12 + i, rfl, Sx.sqLS aG0 haG, fun ci => ⟨ci, 5, rfl, by decide, fun dl ds G1 a1 gdl ldl hds => ?_⟩⟩
      obtain ⟨d0, p0, e0⟩ := dget (k := 0) ldl (by decide) hds
      obtain ⟨d1, p1, e1⟩ := dget (k := 1) ldl (by decide) hds
      obtain ⟨d2, p2, e2⟩ := dget (k := 2) ldl (by decide) hds
      obtain ⟨d3, p3, e3⟩ := dget (k := 3) ldl (by decide) hds
      have aG1 := aG0.trans a1
      have hR1 := hR.sx a1
      have hC1 := hC.sx a1
      clear hR hC a1 aG0 hRe hCa hE0 aG7 haG7 hrp5 hrl5
      refine ⟨_, rfl, dl, _, 0, .int d0, rfl, rfl, .of gdl, atI_nat (j := 0) e0, .inl ⟨d0, rfl, d0, 7, rfl, rfl, (by show (0 : Int) < 7; decide), ?_⟩⟩
      have hpG1 := aG1.atS hpG
      have hPG1 := hPG.sx aG1
      have hTG1 := hTG.sx aG1
      have gD1 := aG1.atS gD
      have hys1 := Paired.mapP hys fun _ _ h => Lu.sx aG1 h
      obtain ⟨⟨dxr, vtr, tbr, hrp1, _⟩, ⟨kvr, hrl1, _⟩, _⟩ := id hR1
      obtain ⟨⟨dxc, hcp1⟩, kvs, hce1, _⟩ := id hC1
      have hC5 : es.length ≤ 5 := by have := hE.len; omega
      have hCu : ∀ z ∈ es, z.2.2 < 41 := fun z hz => by have := (hE.ok z hz).2.1; omega
      -- the third kind of deed, and none
      refine ⟨_, rfl, rfl, _, rfl, ?_⟩
      by_cases k0 : d0 % 7 = 0
      · refine itT (decide_eq_true (congrArg V.int k0)) ⟨_, rfl, last, 0, rfl, rfl, _, rfl, ?_⟩
        by_cases l0 : 0 < last
        · refine itT (decide_eq_true (by omega)) ?_
          obtain ⟨m, hm, lm⟩ := modN d1 last l0
          have em : 1 + d1 % (last : Int) = ((m + 1 : Nat) : Int) := by omega
          refine ⟨_, rfl, rp, dxr, _, rfl, hrp1, rfl, _, rfl, p, dxp, _, rfl, hpG1, rfl, _, rfl, dl, _, 1, .int d1, rfl, rfl, .of gdl, atI_nat (j := 1) e1, .inl ⟨d1, rfl, _, rfl, d1, last, rfl, rfl, (by show (0 : Int) < (last : Int); omega), 1, _, rfl, rfl, ?_⟩⟩
          refine ⟨p, rv, ts, rel, m + 1, T m, T (m + 1), by show [V.ref p, V.int (1 + d1 % (last : Int))] = _; rw [em], hPG1, Nat.le_add_left 1 m, hts m (by omega), hts (m + 1) (by omega), fun x G2 a2 hx => ?_⟩
          have hC2 := hC1.sx a2
          refine ⟨last + 1, T, rp, rl, rn, m + 1, x, rfl, hR1.sx a2, hgd, hx, Nat.le_add_left 1 m, by omega, hTG1.sx a2, fun v G3 rn' a3 hR3 => ?_⟩
          have aG3 := mv (aG1.trans a2) a3 fun b z => by
            rcases z with z | z
            · rw [z]; exact hrpG
            · rw [z]; exact hrlG
          exact ⟨_, _, _, _, _, _, _, rn', n, es, rfl, aG3, hR3, hC2.sxM a3 (fun z => z.elim (fun z => n1 z.symm) fun z => n2 z.symm) (fun z => z.elim (fun z => n3 z.symm) fun z => n4 z.symm), hE, hn⟩
        · refine itF (decide_eq_false (by omega)) ?_
          refine ⟨_, rfl, rfl, _, rfl, itF (decide_eq_false fun z => ?_) (iteF ⟨_, rfl, _, 1, rfl, rfl, _, rfl, itF (decide_eq_false ?_) ⟨_, _, _, _, _, _, _, rn, n, es, rfl, aG1, hR1, hC1, hE, hn⟩⟩)⟩
          · have := V.int.inj z
            omega
          · omega
      · refine itF (decide_eq_false fun z => k0 (V.int.inj z)) (iteF ?_)
        refine ⟨_, rfl, rfl, _, rfl, ?_⟩
        by_cases k1 : d0 % 7 = 1
        · refine itT (decide_eq_true (congrArg V.int k1)) ⟨_, rfl, cp, dxc, _, rfl, hcp1, rfl, cp, ce, n, 1 + cm, es, rfl, hC1, _, rfl, n, last, rfl, rfl, _, rfl, ?_⟩
          by_cases l1 : n < last
          · refine itT (decide_eq_true (by omega)) ?_
            refine ⟨_, rfl, _, rfl, p, dxp, _, rfl, hpG1, rfl, _, rfl, cp, dxc, _, rfl, hcp1, rfl, cp, ce, n, 1 + cm, es, rfl, hC1, n, 1, rfl, rfl, p, rv, ts, rel, n + 1, T n, T (n + 1), rfl, hPG1, Nat.le_add_left 1 n, hts n hn, hts (n + 1) l1, fun x G2 a2 hx => ?_⟩
            have hR2 := hR1.sx a2
            have hC2 := hC1.sx a2
            obtain ⟨⟨_, hcp2⟩, _, hce2, _⟩ := id hC2
            refine ⟨_, rfl, cp, ce, T, n, 1 + cm, es, x, D, ys, ts, rfl, hC2, hE, by omega, hx, a2.atS gD1, Paired.mapP hys1 fun _ _ h => Lu.sx a2 h, hts (n + 1) l1, by omega, hTG1.sx a2, fun es' G3 a3 hC3 hE3 => ⟨true, rfl, iteF ?_⟩⟩
            have aG3 := mv (aG1.trans a2) a3 fun b z => by
              rcases z with z | z
              · rw [z]; exact hceG
              · rw [z]; exact hcpG
            exact ⟨_, _, _, _, _, _, _, rn, n + 1, es', rfl, aG3, hR2.sxM a3 (fun b xs hb z => by
              rcases z with z | z
              · rw [z, hce2] at hb; cases hb
              · rw [z, hcp2] at hb; cases hb) (fun z => z.elim n3 n1) (fun z => z.elim n4 n2), hC3, hE3, l1⟩
          · refine itF (decide_eq_false (by omega)) ⟨_, rfl, _, 1, rfl, rfl, _, rfl, itF (decide_eq_false (by omega)) ⟨_, _, _, _, _, _, _, rn, n, es, rfl, aG1, hR1, hC1, hE, hn⟩⟩
        · refine itF (decide_eq_false fun z => k1 (V.int.inj z)) (iteF ⟨_, rfl, _, 1, rfl, rfl, _, rfl, ?_⟩)
          by_cases k2 : (1 : Int) < d0 % 7
          · refine itT (decide_eq_true k2) ?_
            refine ⟨_, rfl, dl, _, 1, .int d1, rfl, rfl, .of gdl, atI_nat (j := 1) e1, .inl ⟨d1, rfl, d1, rfl, p1, fun qb t m u G2 a2 hqb => ?_⟩⟩
            have gdl2 := a2.atS gdl
            obtain ⟨k2', hk2', lk2'⟩ := modN d2 (last + 1) (by omega)
            have hk2' : d2 % ((last : Int) + 1) = (k2' : Int) := hk2'
            obtain ⟨o, ho, hoz⟩ : ∃ o : Option Nat, (∀ k, o = some k → k ≤ last) ∧ (if 0 < d3 % 3 then d2 % ((last : Int) + 1) else -1) = tokI o := by
              by_cases h3 : 0 < d3 % 3
              · exact ⟨some k2', fun k e => by cases e; omega, by rw [if_pos h3]; exact hk2'⟩
              · exact ⟨none, (fun k e => nomatch e), by rw [if_neg h3]; rfl⟩
            dsimp only
            refine nm_seq ?_
            refine seq_if (.int (tokI o)) G2 (fun Q' hq => ?_) ?_
            · refine ⟨_, rfl, dl, _, 3, .int d3, rfl, rfl, .of gdl2, atI_nat (j := 3) e3, .inl ⟨d3, rfl, d3, 3, rfl, rfl, (by show (0 : Int) < 3; decide), _, 0, rfl, rfl, _, rfl, ?_⟩⟩
              rw [← hoz] at hq
              by_cases h3 : 0 < d3 % 3
              · rw [if_pos h3] at hq
                exact itT (decide_eq_true h3) ⟨_, rfl, dl, _, 2, .int d2, rfl, rfl, .of gdl2, atI_nat (j := 2) e2, .inl ⟨d2, rfl, _, rfl, last, 1, rfl, rfl, d2, _, rfl, rfl, pos, hq⟩⟩
              · rw [if_neg h3] at hq
                exact itF (decide_eq_false h3) ⟨1, rfl, hq⟩
            have aG2 := aG1.trans a2
            have hR2 := hR1.sx a2
            have hC2 := hC1.sx a2
            have tkIf : ∀ {σ : L2.St} {G' : Hp} {Q' : VK}, σ[11]? = some (some (.int (tokI o))) → Q' (.str (tokS o)) G' → (tIf (tTest (tOp (rI0 fun i j => V.bl (decide (j ≤ i))) (tVar 11) (tC (V.int 0)))) (tOp (fun x y H Q => ∃ i j, x = V.str i ∧ y = V.str j ∧ i.length + j.length ≤ sizeLine ∧ Q (V.str (i ++ j)) H) (tC (V.str "main@")) (tCB (fun xs H Q => ∃ i, xs = [V.int i] ∧ i.natAbs.log2 < 1920 ∧ Q (V.str (Str.ofString (toString i))) H) (tCons (tVar 11) tNil))) (tC (V.str ""))) σ G' Q' := fun {σ G' Q'} hs hq => by
              refine ⟨_, hs, _, 0, rfl, rfl, _, rfl, ?_⟩
              cases o with
              | none => exact itF (by decide) hq
              | some k =>
                have := ho k rfl
                exact itT (decide_eq_true (Int.natCast_nonneg k)) ⟨_, hs, (k : Int), rfl, num_log k (by omega), "main@", _, rfl, rfl, tok_room (k := k) (by omega), hq⟩
            have hTo : TokOk o := fun k e => by have := ho k e; omega
            refine ⟨_, rfl, _, rfl, cons_if (.str (tokS o)) G2 (fun Q' hq => tkIf rfl hq) ?_⟩
            refine ⟨cp, ce, n, 1 + cm, es, qb, t, m, u, o, rfl, hqb, hTo, hTG1.sx a2, hC2, by omega, hCu, fun v G3 a3 hC3 hAn => ?_⟩
            have hR3 := re_ce hC2 a3 hR2
            have hqb3 := a3.tups _ _ hqb
            have hp3 := look_perm hE.nd [t, m, u] o
            have hE3 := hE.perm hp3
            have eL : lookR (lookE es [t, m, u] o) [t, m, u] o = lookR es [t, m, u] o := lookR_perm hE.nd hp3 _ _
            have hT3 := (hTG1.sx a2).sx a3
            have cef : ∀ {b : Addr}, b = ce → G b = none := fun {b} z => by rw [z]; exact hceG
            have aG3 := mv aG2 a3 fun b z => cef z
            refine ⟨_, rfl, _, rfl, _, rfl, cons_if (.str (tokS o)) G3 (fun Q' hq => tkIf rfl hq) ?_⟩
            refine ⟨last + 1, T, rp, rl, rn, cp, ce, n, 1 + cm, lookE es [t, m, u] o, qb, t, m, u, o, rfl, hqb3, hTo, hT3, hR3, hC3, by have := hE3.len; omega, fun z hz => by have := (hE3.ok z hz).2.1; omega, fun x hx v' G4 a4 hC4 hAn' => ?_, fun hx hlt G4 a4 hC4 => ?_, fun hx hlt ab G4 a4 hC4 hab => ?_⟩
            all_goals rw [eL] at hx
            all_goals rw [hx] at hAn
            all_goals
              have aG4 := mv aG3 a4 fun b z => cef z
              have hR4 := re_ce hC3 a4 hR3
              have hqb4 := a4.tups _ _ hqb3
              have gD4 := aG4.atS gD
              have hys4 := Paired.mapP hys fun _ _ h => Lu.sx aG4 h
              obtain ⟨⟨dxr4, vtr4, tbr4, hrp4, _⟩, _, _⟩ := id hR4
            · obtain ⟨ba, rfl, hba⟩ := hAn
              obtain ⟨bb, rfl, hbb⟩ := hAn'
              have hba4 := a4.tups _ _ hba
              obtain ⟨y1, y2, y3⟩ := hE.lookR hx
              have hE4 := hE3.perm (look_perm hE3.nd [t, m, u] o)
              have hbb2 := hbb
              rw [y2] at hbb2
              refine ⟨_, rfl, rfl, _, rfl, itF rfl (iteF ⟨_, rfl, _, rfl, _, rfl, _, rfl, D, qb, bb, ys, ts, [], T x.2, [t, m, u], x.2, tokI o, rfl, gD4, hys4, hqb4, hts x.2 (by omega), hbb2, by omega, y3, true, rfl, iteF ?_⟩)⟩
              refine ⟨_, rfl, rfl, _, rfl, itT rfl ⟨_, rfl, _, rfl, anD x, anD x, anD_dp hbb, anD_dp hba4, anD_plain x, anD_plain x, anD_depth x, _, rfl, itF (by rw [anD_self]; rfl) ?_⟩⟩
              exact ⟨_, _, _, _, _, _, _, rn, n, _, rfl, aG4, hR4, hC4, hE4, hn⟩
            · have e : v = .non := hAn
              subst e
              refine ⟨_, rfl, rfl, _, rfl, itT rfl ⟨_, rfl, _, rfl, rp, dxr4, _, rfl, hrp4, rfl, last + 1, T, rp, rl, rn, rfl, hR4, tokI o, rn, rfl, rfl, _, rfl, itT (decide_eq_true hlt) ⟨_, rfl, rfl, _, rfl, itF (by decide +kernel) ?_⟩⟩⟩
              exact ⟨_, _, _, _, _, _, _, rn, n, _, rfl, aG4, hR4, hC4, hE3, hn⟩
            · have e : v = .non := hAn
              subst e
              have hE4 : EsOk T n (1 + cm) (if rn ≤ n then storeE (lookE es [t, m, u] o) [t, m, u] (decide ([t, m, u] ∈ T rn), rn) (1 + cm) else lookE es [t, m, u] o) := by
                split
                · next h => exact hE3.store h
                · exact hE3
              have hrn := hR4.lt.1
              refine ⟨_, rfl, rfl, _, rfl, itT rfl ⟨_, rfl, _, rfl, rp, dxr4, _, rfl, hrp4, rfl, last + 1, T, rp, rl, rn, rfl, hR4, tokI o, rn, rfl, rfl, _, rfl, itF (decide_eq_false hlt) ?_⟩⟩
              refine ⟨_, rfl, _, rfl, _, rfl, _, rfl, D, qb, ab, ys, ts, [], T rn, [t, m, u], rn, tokI o, rfl, gD4, hys4, hqb4, hts rn (by omega), hab, by omega, by omega, true, rfl, iteF ?_⟩
              refine ⟨_, rfl, rfl, _, rfl, itF rfl (iteF ?_)⟩
              exact ⟨_, _, _, _, _, _, _, rn, n, _, rfl, aG4, hR4, hC4, hE4, hn⟩
          · exact itF (decide_eq_false k2) ⟨_, _, _, _, _, _, _, rn, n, es, rfl, aG1, hR1, hC1, hE, hn⟩
    · subst eτ
      exact hQ G0 (aHG.trans aG0)
end
end K83
namespace K83
open PySem PySem.Spec PyProof.Rows L2 L2.DX GxR
theorem pfR : PF (PySem.Challenge.rw_authsync_k83_whole_caches_are_true).prog := ⟨by decide +kernel, by decide +kernel⟩
theorem at_head {w : World} {K : PySem.W.Frag} {h : Heap} {mg : Str → Option Value} {fa : Addr} (X : K.In h) (G : h.Ns mainGlobals mg) (hfa : mg ("law" : Str) = some (.ref fa)) (c : SaysC w h K) : LamX.LawAtS PySem.Challenge.rw_authsync_k83_whole_caches_are_true w K CX0 14 63 "_law_script" mg fa h := by
  have d : He.SaysD K83.fa fn K := c.x.t.d
  have e := hfa.symm.trans (He.glo_ok X G (d.fact 133 (f := .glo "law") rfl))
  cases e
  have wd : ∀ {base : Heap}, K.In base → base.Ns mainGlobals mg → (∀ p ∈ tf.map (He.cT K), LamX.TabB base mg p.1 p.2) → Wd K mg base := fun {base} kin ns tb =>
    ⟨d, c.x.more, c.r, kin, ns, fun p hp => by
      have t := tb (He.cT K p) (List.mem_map.mpr ⟨p, hp, rfl⟩)
      exact ⟨t.code, t.bm, t.gP⟩⟩
  refine ⟨F_law K, tf.map (He.cT K), sp_law K, fun p hp => ?_, fun p hp => ?_, fun p hp => ?_, fun s u => ?_, fun H a ns hl _ hT hS => ?_, fun base kin ns tb => ?_⟩
  · obtain ⟨q, hq, rfl⟩ := List.mem_map.mp hp
    exact c.x.empty q hq
  · obtain ⟨q, hq, rfl⟩ := List.mem_map.mp hp
    exact c.x.out q hq
  · obtain ⟨q, hq, rfl⟩ := List.mem_map.mp hp
    exact PySem.W.codeHd_of_K X (c.x.hd q hq)
  · have F : FunD K "law" "law" (defArgs s_law) (defBody s_law) (defScope s_law) [] [] (A_law K) (F_law K) := fun_fd (d.def_ 87 (d := d_law) rfl)
    have b := FunD.bindsA (ps := ["_law_script"]) F fun _ _ _ _ _ _ us hl => match us, hl with | [_], _ => rfl
    exact b s [u] rfl
  · exact ⟨a, ns, rfl, hS, fun p hp => ⟨#[], hT _ (List.mem_map.mpr ⟨p, hp, rfl⟩), True.intro⟩, fun _ _ => rfl⟩
  · exact ok_law (wd kin ns tb) pfR
end K83
open PySem PySem.W PySem.Calls PyProof.Rows
theorem PySem.Challenge.cw_authsync_k83_whole_caches_are_true_holds : PySem.Challenge.rw_authsync_k83_whole_caches_are_true.Holds := by
  w_on; o_law
  refine HandSHeadRun.head_any (r := OpenLaw.row PySem.Challenge.rw_authsync_k83_whole_caches_are_true) (q := view (OpenLaw.row PySem.Challenge.rw_authsync_k83_whole_caches_are_true).prog [75]) (H := K83.hookC) (ob := K83.ob) (M := 8000) (loose := K83.loose) (d := HandSHeadRun.topDef (OpenLaw.row PySem.Challenge.rw_authsync_k83_whole_caches_are_true).prog 75) (kwd := []) K83.ob_eq
    (by kernel_rfl) (fun s => by kernel_rfl) K83.run (by kernel_rfl) (by kernel_rfl) (by kernel_rfl) (by rfl) (by first | assumption | decide +kernel) (by decide +kernel) ⟨rfl, rfl, rfl, rfl, rfl, by decide +kernel⟩ ?hw ?hc
  case hw => w_witness2
  case hc =>
    refine LamX.walk_ofTsE (l := PySem.Challenge.rw_authsync_k83_whole_caches_are_true) (n := 63) (k := 14) (x := "_law_script") (CX := fun _ => L2.CX0) rfl (by decide) (by kernel_rfl) ⟨rfl, by decide, by decide⟩ ?F (fun _ _ _ _ _ z => z)
    intro w mg fa h Y G hmg0
    obtain ⟨K, KX, c⟩ := Y
    have hmg : mg ("law" : PySem.Str) = some (.ref fa) := by
      have e : (HandSHeadRun.topDef (OpenLaw.row PySem.Challenge.rw_authsync_k83_whole_caches_are_true).prog 75).name = ("law" : PySem.Str) := by kernel_rfl
      rw [← e]
      exact hmg0
    exact ⟨K, KX, K83.at_head KX G hmg c⟩
