import PyProof.Rows.All
import Wide.All
import OpenK.AllK
import Wide.FinOn
import KE.KStateDown
import Lean
import HandS.ForMost
import HandS.More
import HandS.WordsExc
import HandS.Defaults
import HandS.Head0
import HandS.Head1
import HandS.Head2
import HandS.HeadEnd
import HandS.HeadHook1
import HandS.HeadHook2
import KE.SortData
import HandS.IsInst
import HandS.Style
import HandS.RaiseMore
import HandS.TupAny
import HandS.Deep
import HandS.Zip
import KE.DataFind
import HandS.Conv
import HandS.DictComp
import HandS.TupLen
import HandS.Strs
import KE.KDictWalk
import KE.GoesEnum
import HandS.SetTxt0
import HandS.SetFor
import HandS.TupSets
import KE.KDictKeyed
import KE.DataCmp
import KE.SortLaws
import HandS.Text
import KE.GoesMore
import KE.KDictDisplayH
import KE.KeyNested
import KE.KDictCopyH
import PyProof.DictMoreH
import HandS.DictTup
import PyProof.StrBlock2
import PySem.Challenge.RW_fewreleases_k67_whole_fewest_by_all_ways
set_option Elab.async false
set_option linter.all false
set_option maxRecDepth 100000
set_option maxHeartbeats 0
namespace FR
open PySem PySem.Spec PyProof.Rows L2
def top (i : Nat) : Stmt := PySem.Challenge.pw_fewreleases_k67_whole_fewest_by_all_ways.main.body.getD i (.Pass ⟨0, 0, 0, 0⟩)
def clsB : Stmt → List Stmt
  | .ClassDef _ _ _ b _ _ _ _ _ _ _ => b
  | _ => []
def mth (i j : Nat) : Stmt := (clsB (top i)).getD j (.Pass ⟨0, 0, 0, 0⟩)

abbrev s_is_name : Stmt := top 13
abbrev s_is_ascending : Stmt := top 14
abbrev s_are_names : Stmt := top 15
abbrev s_has_all : Stmt := top 16
abbrev s_is_fields : Stmt := top 17
abbrev s_is_reader : Stmt := top 18
abbrev s_is_format : Stmt := top 19
abbrev s_accepts : Stmt := top 20
abbrev s_widened : Stmt := top 21
abbrev s_is_channel : Stmt := top 30
abbrev s_are_channels : Stmt := top 31
abbrev s_System__init__ : Stmt := mth 32 0
abbrev s_channel_of : Stmt := top 33
abbrev s_kind_by_formats : Stmt := top 34
abbrev s_words_of : Stmt := top 40
abbrev s_steps_with_owners : Stmt := top 41
abbrev s_all_steps : Stmt := top 42
abbrev s_is_service : Stmt := top 43
abbrev s_steps_of : Stmt := top 44
abbrev s_pairs_of : Stmt := top 45
abbrev s_order_pairs : Stmt := top 46
abbrev s_left_pairs : Stmt := top 47
abbrev s_are_steps : Stmt := top 48
abbrev s_Task__init__ : Stmt := mth 51 0
abbrev s_Taskpair_edges : Stmt := mth 51 1
abbrev s_Taskforced_numbers : Stmt := mth 51 2
abbrev s_Taskbusy_services : Stmt := mth 51 3
abbrev s_whole_task : Stmt := top 52
abbrev s_leaders_of : Stmt := top 53
abbrev s_unblocked : Stmt := top 54
abbrev s_cycle_among : Stmt := top 55
abbrev s_others_than : Stmt := top 56
abbrev s_order_among : Stmt := top 57
abbrev s_edges : Stmt := top 58
abbrev s_forced : Stmt := top 59
abbrev s_find_cycle : Stmt := top 60
abbrev s_part_of : Stmt := top 65
abbrev s_releases_of : Stmt := top 66
abbrev s_plan_of : Stmt := top 67
abbrev s_subsets : Stmt := top 70
abbrev s_fewest_sets : Stmt := top 71
abbrev s_releases_needed : Stmt := top 72
abbrev s_fewest_releases : Stmt := top 73
abbrev s_fewest_plan : Stmt := top 74
abbrev s_written_at : Stmt := top 76
abbrev s_reader_at : Stmt := top 77
abbrev s_versions_of : Stmt := top 78
abbrev s_is_refused : Stmt := top 79
abbrev s_refused_while : Stmt := top 80
abbrev s_is_release : Stmt := top 83
abbrev s_is_plan : Stmt := top 84
abbrev s_first_fault : Stmt := top 85
abbrev s_is_safe : Stmt := top 86
abbrev s__law_urn : Stmt := top 88
abbrev s__law_take : Stmt := top 89
abbrev s__law_of : Stmt := top 90
abbrev s__law_names : Stmt := top 91
abbrev s__law_some : Stmt := top 92
abbrev s__law_pair : Stmt := top 93
abbrev s__law_loose : Stmt := top 94
abbrev s__law_more : Stmt := top 95
abbrev s__law_system : Stmt := top 96
abbrev s__law_kinds : Stmt := top 97
abbrev s__law_reads : Stmt := top 98
abbrev s__law_kind : Stmt := top 99
abbrev s__law_steps : Stmt := top 100
abbrev s__law_at : Stmt := top 101
abbrev s__law_refused : Stmt := top 102
abbrev s__law_parts : Stmt := top 103
abbrev s__law_ways : Stmt := top 104
abbrev s__law_fewest : Stmt := top 105
abbrev s__law_right : Stmt := top 106
abbrev s_law : Stmt := top 107
def d_is_name : He.DefD := ⟨("is_name", none), "is_name", "is_name", defArgs s_is_name, defBody s_is_name, defScope s_is_name, [], []⟩
def d_is_ascending : He.DefD := ⟨("is_ascending", none), "is_ascending", "is_ascending", defArgs s_is_ascending, defBody s_is_ascending, defScope s_is_ascending, [], []⟩
def d_are_names : He.DefD := ⟨("are_names", none), "are_names", "are_names", defArgs s_are_names, defBody s_are_names, defScope s_are_names, [], []⟩
def d_has_all : He.DefD := ⟨("has_all", none), "has_all", "has_all", defArgs s_has_all, defBody s_has_all, defScope s_has_all, [], []⟩
def d_is_fields : He.DefD := ⟨("is_fields", none), "is_fields", "is_fields", defArgs s_is_fields, defBody s_is_fields, defScope s_is_fields, [], []⟩
def d_is_reader : He.DefD := ⟨("is_reader", none), "is_reader", "is_reader", defArgs s_is_reader, defBody s_is_reader, defScope s_is_reader, [], []⟩
def d_is_format : He.DefD := ⟨("is_format", none), "is_format", "is_format", defArgs s_is_format, defBody s_is_format, defScope s_is_format, [], []⟩
def d_accepts : He.DefD := ⟨("accepts", none), "accepts", "accepts", defArgs s_accepts, defBody s_accepts, defScope s_accepts, [], []⟩
def d_widened : He.DefD := ⟨("widened", none), "widened", "widened", defArgs s_widened, defBody s_widened, defScope s_widened, [], []⟩
def d_is_channel : He.DefD := ⟨("is_channel", none), "is_channel", "is_channel", defArgs s_is_channel, defBody s_is_channel, defScope s_is_channel, [], []⟩
def d_are_channels : He.DefD := ⟨("are_channels", none), "are_channels", "are_channels", defArgs s_are_channels, defBody s_are_channels, defScope s_are_channels, [], []⟩
def d_System__init__ : He.DefD := ⟨("System", some "__init__"), "__init__", "System.__init__", defArgs s_System__init__, defBody s_System__init__, defScope s_System__init__, [], []⟩
def d_channel_of : He.DefD := ⟨("channel_of", none), "channel_of", "channel_of", defArgs s_channel_of, defBody s_channel_of, defScope s_channel_of, [], []⟩
def d_kind_by_formats : He.DefD := ⟨("kind_by_formats", none), "kind_by_formats", "kind_by_formats", defArgs s_kind_by_formats, defBody s_kind_by_formats, defScope s_kind_by_formats, [], []⟩
def d_words_of : He.DefD := ⟨("words_of", none), "words_of", "words_of", defArgs s_words_of, defBody s_words_of, defScope s_words_of, [], []⟩
def d_steps_with_owners : He.DefD := ⟨("steps_with_owners", none), "steps_with_owners", "steps_with_owners", defArgs s_steps_with_owners, defBody s_steps_with_owners, defScope s_steps_with_owners, [], []⟩
def d_all_steps : He.DefD := ⟨("all_steps", none), "all_steps", "all_steps", defArgs s_all_steps, defBody s_all_steps, defScope s_all_steps, [], []⟩
def d_is_service : He.DefD := ⟨("is_service", none), "is_service", "is_service", defArgs s_is_service, defBody s_is_service, defScope s_is_service, [], []⟩
def d_steps_of : He.DefD := ⟨("steps_of", none), "steps_of", "steps_of", defArgs s_steps_of, defBody s_steps_of, defScope s_steps_of, [], []⟩
def d_pairs_of : He.DefD := ⟨("pairs_of", none), "pairs_of", "pairs_of", defArgs s_pairs_of, defBody s_pairs_of, defScope s_pairs_of, [], []⟩
def d_order_pairs : He.DefD := ⟨("order_pairs", none), "order_pairs", "order_pairs", defArgs s_order_pairs, defBody s_order_pairs, defScope s_order_pairs, [], []⟩
def d_left_pairs : He.DefD := ⟨("left_pairs", none), "left_pairs", "left_pairs", defArgs s_left_pairs, defBody s_left_pairs, defScope s_left_pairs, [], []⟩
def d_are_steps : He.DefD := ⟨("are_steps", none), "are_steps", "are_steps", defArgs s_are_steps, defBody s_are_steps, defScope s_are_steps, [], []⟩
def d_Task__init__ : He.DefD := ⟨("Task", some "__init__"), "__init__", "Task.__init__", defArgs s_Task__init__, defBody s_Task__init__, defScope s_Task__init__, [], []⟩
def d_Taskpair_edges : He.DefD := ⟨("Task", some "pair_edges"), "pair_edges", "Task.pair_edges", defArgs s_Taskpair_edges, defBody s_Taskpair_edges, defScope s_Taskpair_edges, [], []⟩
def d_Taskforced_numbers : He.DefD := ⟨("Task", some "forced_numbers"), "forced_numbers", "Task.forced_numbers", defArgs s_Taskforced_numbers, defBody s_Taskforced_numbers, defScope s_Taskforced_numbers, [], []⟩
def d_Taskbusy_services : He.DefD := ⟨("Task", some "busy_services"), "busy_services", "Task.busy_services", defArgs s_Taskbusy_services, defBody s_Taskbusy_services, defScope s_Taskbusy_services, [], []⟩
def d_whole_task : He.DefD := ⟨("whole_task", none), "whole_task", "whole_task", defArgs s_whole_task, defBody s_whole_task, defScope s_whole_task, [], []⟩
def d_leaders_of : He.DefD := ⟨("leaders_of", none), "leaders_of", "leaders_of", defArgs s_leaders_of, defBody s_leaders_of, defScope s_leaders_of, [], []⟩
def d_unblocked : He.DefD := ⟨("unblocked", none), "unblocked", "unblocked", defArgs s_unblocked, defBody s_unblocked, defScope s_unblocked, [], []⟩
def d_cycle_among : He.DefD := ⟨("cycle_among", none), "cycle_among", "cycle_among", defArgs s_cycle_among, defBody s_cycle_among, defScope s_cycle_among, [], []⟩
def d_others_than : He.DefD := ⟨("others_than", none), "others_than", "others_than", defArgs s_others_than, defBody s_others_than, defScope s_others_than, [], []⟩
def d_order_among : He.DefD := ⟨("order_among", none), "order_among", "order_among", defArgs s_order_among, defBody s_order_among, defScope s_order_among, [], []⟩
def d_edges : He.DefD := ⟨("edges", none), "edges", "edges", defArgs s_edges, defBody s_edges, defScope s_edges, [], []⟩
def d_forced : He.DefD := ⟨("forced", none), "forced", "forced", defArgs s_forced, defBody s_forced, defScope s_forced, [], []⟩
def d_find_cycle : He.DefD := ⟨("find_cycle", none), "find_cycle", "find_cycle", defArgs s_find_cycle, defBody s_find_cycle, defScope s_find_cycle, [], []⟩
def d_part_of : He.DefD := ⟨("part_of", none), "part_of", "part_of", defArgs s_part_of, defBody s_part_of, defScope s_part_of, [], []⟩
def d_releases_of : He.DefD := ⟨("releases_of", none), "releases_of", "releases_of", defArgs s_releases_of, defBody s_releases_of, defScope s_releases_of, [], []⟩
def d_plan_of : He.DefD := ⟨("plan_of", none), "plan_of", "plan_of", defArgs s_plan_of, defBody s_plan_of, defScope s_plan_of, [], []⟩
def d_subsets : He.DefD := ⟨("subsets", none), "subsets", "subsets", defArgs s_subsets, defBody s_subsets, defScope s_subsets, [], []⟩
def d_fewest_sets : He.DefD := ⟨("fewest_sets", none), "fewest_sets", "fewest_sets", defArgs s_fewest_sets, defBody s_fewest_sets, defScope s_fewest_sets, [], []⟩
def d_releases_needed : He.DefD := ⟨("releases_needed", none), "releases_needed", "releases_needed", defArgs s_releases_needed, defBody s_releases_needed, defScope s_releases_needed, [], []⟩
def d_fewest_releases : He.DefD := ⟨("fewest_releases", none), "fewest_releases", "fewest_releases", defArgs s_fewest_releases, defBody s_fewest_releases, defScope s_fewest_releases, [], []⟩
def d_fewest_plan : He.DefD := ⟨("fewest_plan", none), "fewest_plan", "fewest_plan", defArgs s_fewest_plan, defBody s_fewest_plan, defScope s_fewest_plan, [], []⟩
def d_written_at : He.DefD := ⟨("written_at", none), "written_at", "written_at", defArgs s_written_at, defBody s_written_at, defScope s_written_at, [], []⟩
def d_reader_at : He.DefD := ⟨("reader_at", none), "reader_at", "reader_at", defArgs s_reader_at, defBody s_reader_at, defScope s_reader_at, [], []⟩
def d_versions_of : He.DefD := ⟨("versions_of", none), "versions_of", "versions_of", defArgs s_versions_of, defBody s_versions_of, defScope s_versions_of, [], []⟩
def d_is_refused : He.DefD := ⟨("is_refused", none), "is_refused", "is_refused", defArgs s_is_refused, defBody s_is_refused, defScope s_is_refused, [], []⟩
def d_refused_while : He.DefD := ⟨("refused_while", none), "refused_while", "refused_while", defArgs s_refused_while, defBody s_refused_while, defScope s_refused_while, [], []⟩
def d_is_release : He.DefD := ⟨("is_release", none), "is_release", "is_release", defArgs s_is_release, defBody s_is_release, defScope s_is_release, [], []⟩
def d_is_plan : He.DefD := ⟨("is_plan", none), "is_plan", "is_plan", defArgs s_is_plan, defBody s_is_plan, defScope s_is_plan, [], []⟩
def d_first_fault : He.DefD := ⟨("first_fault", none), "first_fault", "first_fault", defArgs s_first_fault, defBody s_first_fault, defScope s_first_fault, [], []⟩
def d_is_safe : He.DefD := ⟨("is_safe", none), "is_safe", "is_safe", defArgs s_is_safe, defBody s_is_safe, defScope s_is_safe, [], []⟩
def d__law_urn : He.DefD := ⟨("_law_urn", none), "_law_urn", "_law_urn", defArgs s__law_urn, defBody s__law_urn, defScope s__law_urn, [], []⟩
def d__law_take : He.DefD := ⟨("_law_take", none), "_law_take", "_law_take", defArgs s__law_take, defBody s__law_take, defScope s__law_take, [], []⟩
def d__law_of : He.DefD := ⟨("_law_of", none), "_law_of", "_law_of", defArgs s__law_of, defBody s__law_of, defScope s__law_of, [], []⟩
def d__law_names : He.DefD := ⟨("_law_names", none), "_law_names", "_law_names", defArgs s__law_names, defBody s__law_names, defScope s__law_names, [], []⟩
def d__law_some : He.DefD := ⟨("_law_some", none), "_law_some", "_law_some", defArgs s__law_some, defBody s__law_some, defScope s__law_some, [], []⟩
def d__law_pair : He.DefD := ⟨("_law_pair", none), "_law_pair", "_law_pair", defArgs s__law_pair, defBody s__law_pair, defScope s__law_pair, [], []⟩
def d__law_loose : He.DefD := ⟨("_law_loose", none), "_law_loose", "_law_loose", defArgs s__law_loose, defBody s__law_loose, defScope s__law_loose, [], []⟩
def d__law_more : He.DefD := ⟨("_law_more", none), "_law_more", "_law_more", defArgs s__law_more, defBody s__law_more, defScope s__law_more, [], []⟩
def d__law_system : He.DefD := ⟨("_law_system", none), "_law_system", "_law_system", defArgs s__law_system, defBody s__law_system, defScope s__law_system, [], []⟩
def d__law_kinds : He.DefD := ⟨("_law_kinds", none), "_law_kinds", "_law_kinds", defArgs s__law_kinds, defBody s__law_kinds, defScope s__law_kinds, [], []⟩
def d__law_reads : He.DefD := ⟨("_law_reads", none), "_law_reads", "_law_reads", defArgs s__law_reads, defBody s__law_reads, defScope s__law_reads, [], []⟩
def d__law_kind : He.DefD := ⟨("_law_kind", none), "_law_kind", "_law_kind", defArgs s__law_kind, defBody s__law_kind, defScope s__law_kind, [], []⟩
def d__law_steps : He.DefD := ⟨("_law_steps", none), "_law_steps", "_law_steps", defArgs s__law_steps, defBody s__law_steps, defScope s__law_steps, [], []⟩
def d__law_at : He.DefD := ⟨("_law_at", none), "_law_at", "_law_at", defArgs s__law_at, defBody s__law_at, defScope s__law_at, [], []⟩
def d__law_refused : He.DefD := ⟨("_law_refused", none), "_law_refused", "_law_refused", defArgs s__law_refused, defBody s__law_refused, defScope s__law_refused, [], []⟩
def d__law_parts : He.DefD := ⟨("_law_parts", none), "_law_parts", "_law_parts", defArgs s__law_parts, defBody s__law_parts, defScope s__law_parts, [], []⟩
def d__law_ways : He.DefD := ⟨("_law_ways", none), "_law_ways", "_law_ways", defArgs s__law_ways, defBody s__law_ways, defScope s__law_ways, [], []⟩
def d__law_fewest : He.DefD := ⟨("_law_fewest", none), "_law_fewest", "_law_fewest", defArgs s__law_fewest, defBody s__law_fewest, defScope s__law_fewest, [], []⟩
def d__law_right : He.DefD := ⟨("_law_right", none), "_law_right", "_law_right", defArgs s__law_right, defBody s__law_right, defScope s__law_right, [], []⟩
def d_law : He.DefD := ⟨("law", none), "law", "law", defArgs s_law, defBody s_law, defScope s_law, [], []⟩
def fn_0 : List He.DefD := [d_is_name, d_is_ascending, d_are_names, d_has_all, d_is_fields, d_is_reader, d_is_format, d_accepts, d_widened, d_is_channel, d_are_channels, d_System__init__, d_channel_of, d_kind_by_formats, d_words_of, d_steps_with_owners, d_all_steps, d_is_service, d_steps_of, d_pairs_of, d_order_pairs, d_left_pairs, d_are_steps, d_Task__init__, d_Taskpair_edges, d_Taskforced_numbers, d_Taskbusy_services, d_whole_task, d_leaders_of, d_unblocked]
def fn_1 : List He.DefD := [d_cycle_among, d_others_than, d_order_among, d_edges, d_forced, d_find_cycle, d_part_of, d_releases_of, d_plan_of, d_subsets, d_fewest_sets, d_releases_needed, d_fewest_releases, d_fewest_plan, d_written_at, d_reader_at, d_versions_of, d_is_refused, d_refused_while, d_is_release, d_is_plan, d_first_fault, d_is_safe, d__law_urn, d__law_take, d__law_of, d__law_names, d__law_some, d__law_pair, d__law_loose]
def fn_2 : List He.DefD := [d__law_more, d__law_system, d__law_kinds, d__law_reads, d__law_kind, d__law_steps, d__law_at, d__law_refused, d__law_parts, d__law_ways, d__law_fewest, d__law_right, d_law]
def fn : List He.DefD := fn_0 ++ fn_1 ++ fn_2
def fa_0 : List He.Fa := [.glo "is_name", .glo "is_ascending", .glo "are_names", .glo "has_all", .glo "is_fields", .glo "is_reader", .glo "is_format", .glo "accepts", .glo "widened", .glo "is_channel", .glo "are_channels", .glo "channel_of", .glo "kind_by_formats", .glo "words_of", .glo "steps_with_owners", .glo "all_steps", .glo "is_service", .glo "steps_of", .glo "pairs_of", .glo "order_pairs", .glo "left_pairs", .glo "are_steps", .glo "whole_task", .glo "leaders_of", .glo "unblocked", .glo "cycle_among", .glo "others_than", .glo "order_among", .glo "edges", .glo "forced"]
def fa_1 : List He.Fa := [.glo "find_cycle", .glo "part_of", .glo "releases_of", .glo "plan_of", .glo "subsets", .glo "fewest_sets", .glo "releases_needed", .glo "fewest_releases", .glo "fewest_plan", .glo "written_at", .glo "reader_at", .glo "versions_of", .glo "is_refused", .glo "refused_while", .glo "is_release", .glo "is_plan", .glo "first_fault", .glo "is_safe", .glo "_law_urn", .glo "_law_take", .glo "_law_of", .glo "_law_names", .glo "_law_some", .glo "_law_pair", .glo "_law_loose", .glo "_law_more", .glo "_law_system", .glo "_law_kinds", .glo "_law_reads", .glo "_law_kind"]
def fa_2 : List He.Fa := [.glo "_law_steps", .glo "_law_at", .glo "_law_refused", .glo "_law_parts", .glo "_law_ways", .glo "_law_fewest", .glo "_law_right", .glo "law", .free "len", .free "zip", .free "all", .free "any", .free "isinstance", .free "str", .free "tuple", .free "sorted", .free "set", .free "list", .free "enumerate", .free "range", .free "max", .free "min", .free "abs", .free "int", .free "repr", .str "LETTERS" "abcdefghijklmnopqrstuvwxyz", .int "LONGEST_NAME" 8, .int "MOST_FIELDS" 12, .int "READER_PARTS" 2, .int "FORMAT_PARTS" 3]
def fa_3 : List He.Fa := [.int "MOST_SERVICES" 12, .int "MOST_CHANNELS" 40, .int "CHANNEL_PARTS" 5, .str "FREE" "free", .str "READER_FIRST" "reader first", .str "WRITER_FIRST" "writer first", .str "SPLIT" "split", .str "SWITCH" "switch", .str "READ" "read", .str "WIDEN" "widen", .str "NARROW" "narrow", .int "LEAST_FORCED" 2, .str "FIRST" "first", .str "MIDDLE" "middle", .str "LAST" "last", .int "THREE" 3, .int "RELEASE_PARTS" 2, .glo "System", .cls "System", .mkr "System", .glo "Task", .cls "Task", .mkr "Task", .noat "System" "services", .noat "System" "channels", .noat "Task" "task_system", .noat "Task" "task_left", .noat "Task" "task_pairs", .noat "Task" "task_owners", .noat "Task" "task_edges"]
def fa_4 : List He.Fa := [.noat "Task" "task_forced", .meth "Task" "pair_edges", .meth "Task" "forced_numbers", .meth "Task" "busy_services"]
def fa : List He.Fa := fa_0 ++ fa_1 ++ fa_2 ++ fa_3 ++ fa_4
def names_0 : List PySem.Str := ["__name__", "FewError", "BadServices", "BadChannels", "NoChannel", "NoService", "HasCycle", "LETTERS", "LONGEST_NAME", "MOST_FIELDS", "READER_PARTS", "FORMAT_PARTS", "is_name", "is_ascending", "are_names", "has_all", "is_fields", "is_reader", "is_format", "accepts", "widened", "MOST_SERVICES", "MOST_CHANNELS", "CHANNEL_PARTS", "FREE", "READER_FIRST", "WRITER_FIRST", "SPLIT", "is_channel", "are_channels"]
def names_1 : List PySem.Str := ["System", "channel_of", "kind_by_formats", "SWITCH", "READ", "WIDEN", "NARROW", "words_of", "steps_with_owners", "all_steps", "is_service", "steps_of", "pairs_of", "order_pairs", "left_pairs", "are_steps", "LEAST_FORCED", "Task", "whole_task", "leaders_of", "unblocked", "cycle_among", "others_than", "order_among", "edges", "forced", "find_cycle", "FIRST", "MIDDLE", "LAST"]
def names_2 : List PySem.Str := ["part_of", "releases_of", "plan_of", "THREE", "subsets", "fewest_sets", "releases_needed", "fewest_releases", "fewest_plan", "written_at", "reader_at", "versions_of", "is_refused", "refused_while", "RELEASE_PARTS", "is_release", "is_plan", "first_fault", "is_safe", "_law_urn", "_law_take", "_law_of", "_law_names", "_law_some", "_law_pair", "_law_loose", "_law_more", "_law_system", "_law_kinds", "_law_reads"]
def names_3 : List PySem.Str := ["_law_kind", "_law_steps", "_law_at", "_law_refused", "_law_parts", "_law_ways", "_law_fewest", "_law_right"]
def names : List PySem.Str := names_0 ++ names_1 ++ names_2 ++ names_3
abbrev R : PySem.W.OpenRow := PySem.W.OpenLaw.row PySem.Challenge.rw_fewreleases_k67_whole_fewest_by_all_ways
abbrev hk : PySem.W.Hook := He.hookD 5 fa fn
def ob (s : PySem.W.SharedT) : He.AlD := He.obsDG 5 fa fn (HandSHeadRun.getT s)
theorem ob_eq (s : PySem.W.SharedT) : ob s = hk.obs s.abs := He.obsDG_eq (HandSHeadRun.getT_eq s)
theorem both {σ α β γ : Type} {x : Option σ} {f : σ → α} {g : σ → β} {h : σ → γ} {a : α} {b : β} {c : γ} (h1 : x.map (fun s => (f s, g s)) = some (a, b)) (h2 : x.map h = some c) : x.map (fun s => (f s, g s, h s)) = some (a, b, c) := by
  cases x with
  | none => cases h1
  | some s =>
    have e1 := Prod.mk.inj (Option.some.inj h1)
    have e2 := Option.some.inj h2
    show some (f s, g s, h s) = _
    rw [e1.1, e1.2, e2]
open PySem.W PySem.Calls in
theorem run1 (w : World) (os : OsState) : (HandSHeadRun.endF (HandSHeadRun.stepQ (HandSHeadRun.denQ HandSHeadRun.tabQ) R.prog w) 20000 R.prog w os).map (fun s => (HandSHeadRun.looksF R.prog (boot_heap w.params) s.abs, HandSHeadRun.seenQ (PySem.W.view R.prog [107]) names (importedModules R.prog.main.body) (fun s => PySem.W.xlAt (PySem.W.view R.prog [107]) [] s && PySem.W.recOk R.toRowW.records s) s.abs)) = some (true, PySem.W.openGood (PySem.W.view R.prog [107]) names) := by
  kernel_rfl
theorem run2 (w : World) (os : OsState) : (HandSHeadRun.endF (HandSHeadRun.stepQ (HandSHeadRun.denQ HandSHeadRun.tabQ) R.prog w) 20000 R.prog w os).map ob = some (hk.val w) := by
  kernel_rfl
theorem run (w : World) : HandSHeadRun.RunEq R (PySem.W.view R.prog [107]) hk ob 20000 names w := by
  intro os
  exact both (run1 w os) (run2 w os)
end FR
set_option Elab.async false
set_option linter.all false
set_option maxRecDepth 100000
set_option maxHeartbeats 1000000
namespace FR
open PySem PySem.Spec PyProof.Rows L2

/-! ### heaps: frozen part F, changing part M -/
def ovl (F M : Hp) : Hp := fun a => match F a with
  | some o => some o
  | none => M a
def isT : HO → Bool
  | .tup _ => true
  | _ => false
/-- apart; no tuple changes -/
structure Dis (F M : Hp) : Prop where
  ap : ∀ a o, M a = some o → F a = none
  nt : ∀ a o, M a = some o → isT o = false
instance {F M : Hp} : CoeFun (Dis F M) (fun _ => ∀ a o, M a = some o → F a = none) := ⟨fun d => d.ap⟩
theorem ovl_F {F M : Hp} {a : Addr} {o : HO} (h : F a = some o) : ovl F M a = some o := by unfold ovl; rw [h]
theorem ovl_M {F M : Hp} {a : Addr} (h : F a = none) : ovl F M a = M a := by unfold ovl; rw [h]
theorem same_ovl (F M : Hp) : Same F (ovl F M) := fun _ _ h => ovl_F h
theorem ovl_none {F M : Hp} {a : Addr} (h : ovl F M a = none) : F a = none ∧ M a = none := by
  unfold ovl at h
  cases e : F a with
  | some o => rw [e] at h; cases h
  | none => rw [e] at h; exact ⟨rfl, h⟩
theorem upd_ovl (F M : Hp) (a : Addr) (o : HO) : upd (ovl F M) a o = ovl (upd F a o) M := by
  funext b
  unfold ovl upd
  by_cases h : b = a
  · simp only [h, if_true]
  · simp only [h, if_false]
theorem upd_ovlM {F M : Hp} {a : Addr} {o : HO} (h : F a = none) : upd (ovl F M) a o = ovl F (upd M a o) := by
  funext b
  unfold ovl upd
  by_cases e : b = a
  · subst e; simp only [h, if_true]
  · simp only [e, if_false]
theorem same_updN {H : Hp} {p : Addr} {o : HO} (h : H p = none) : Same H (upd H p o) := fun b x e => by
  rw [upd_ne (ne_of_none e h)]; exact e
theorem dis_new {F M : Hp} {p : Addr} {o : HO} (d : Dis F M) (h : M p = none) : Dis (upd F p o) M := ⟨fun a x e => by
  have : a ≠ p := fun z => by rw [z, h] at e; cases e
  rw [upd_ne this]; exact d a x e, d.nt⟩
theorem dis_newM {F M : Hp} {p : Addr} {o : HO} (d : Dis F M) (h : F p = none) (ho : isT o = false) : Dis F (upd M p o) := ⟨fun a x e => by
  by_cases z : a = p
  · rw [z]; exact h
  · rw [upd_ne z] at e; exact d a x e, fun a x e => by
  by_cases z : a = p
  · rw [z, upd_same] at e; cases e; exact ho
  · rw [upd_ne z] at e; exact d.nt a x e⟩

/-! ### data in the frozen part -/
abbrev D := PyData
mutual
inductive Dq (F : Hp) : V → D → Prop
  | non : Dq F .non .none
  | bl (b : Bool) : Dq F (.bl b) (.bool b)
  | int (i : Int) : Dq F (.int i) (.int i)
  | str (x : Str) : Dq F (.str x) (.str x)
  | lst {a : Addr} {xs : List V} {ds : List D} : F a = some (.lst xs) → DqA F xs ds → Dq F (.ref a) (.list ds)
  | tup {a : Addr} {xs : List V} {ds : List D} : F a = some (.tup xs) → DqA F xs ds → Dq F (.ref a) (.tuple ds)
inductive DqA (F : Hp) : List V → List D → Prop
  | nil : DqA F [] []
  | cons {v : V} {vs : List V} {d : D} {ds : List D} : Dq F v d → DqA F vs ds → DqA F (v :: vs) (d :: ds)
end
mutual
theorem Dq.mono {F F' : Hp} (k : Same F F') : ∀ {v : V} {d : D}, Dq F v d → Dq F' v d
  | _, _, .non => .non
  | _, _, .bl b => .bl b
  | _, _, .int i => .int i
  | _, _, .str x => .str x
  | _, _, .lst h r => .lst (k _ _ h) (DqA.mono k r)
  | _, _, .tup h r => .tup (k _ _ h) (DqA.mono k r)
theorem DqA.mono {F F' : Hp} (k : Same F F') : ∀ {vs : List V} {ds : List D}, DqA F vs ds → DqA F' vs ds
  | _, _, .nil => .nil
  | _, _, .cons h r => .cons (Dq.mono k h) (DqA.mono k r)
end
mutual
theorem Dq.dp {K : PySem.W.Frag} {F : Hp} : ∀ {v : V} {d : D}, Dq F v d → Dp K F v d
  | _, _, .non => .non
  | _, _, .bl b => .bl b
  | _, _, .int i => .int i
  | _, _, .str x => .str x
  | _, _, .lst h r => .lst (SqL.of h) (DqA.dp r)
  | _, _, .tup h r => .tup (SqT.of h) (DqA.dp r)
theorem DqA.dp {K : PySem.W.Frag} {F : Hp} : ∀ {vs : List V} {ds : List D}, DqA F vs ds → DpAll K F vs ds
  | _, _, .nil => .nil
  | _, _, .cons h r => .cons (Dq.dp h) (DqA.dp r)
end
theorem DqA.length {F : Hp} : ∀ {vs : List V} {ds : List D}, DqA F vs ds → vs.length = ds.length
  | _, _, .nil => rfl
  | _, _, .cons _ r => by rw [List.length_cons, List.length_cons, DqA.length r]
theorem DqA.get {F : Hp} : ∀ {vs : List V} {ds : List D} {i : Nat} {d : D}, DqA F vs ds → ds[i]? = some d → ∃ v, vs[i]? = some v ∧ Dq F v d
  | _, _, i, d, .nil, e => by simp at e
  | _, _, 0, d, .cons h _, e => by
    simp only [List.getElem?_cons_zero, Option.some.injEq] at e
    subst e
    exact ⟨_, rfl, h⟩
  | _, _, i + 1, d, .cons _ r, e => by
    simp only [List.getElem?_cons_succ] at e
    obtain ⟨v, h1, h2⟩ := DqA.get (i := i) r e
    exact ⟨v, by simpa using h1, h2⟩
theorem DqA.getV {F : Hp} : ∀ {vs : List V} {ds : List D} {i : Nat} {v : V}, DqA F vs ds → vs[i]? = some v → ∃ d, ds[i]? = some d ∧ Dq F v d
  | _, _, i, d, .nil, e => by simp at e
  | _, _, 0, d, .cons h _, e => by
    simp only [List.getElem?_cons_zero, Option.some.injEq] at e
    subst e
    exact ⟨_, rfl, h⟩
  | _, _, i + 1, d, .cons _ r, e => by
    simp only [List.getElem?_cons_succ] at e
    obtain ⟨v, h1, h2⟩ := DqA.getV (i := i) r e
    exact ⟨v, by simpa using h1, h2⟩
theorem DqA.append {F : Hp} : ∀ {vs ws : List V} {ds es : List D}, DqA F vs ds → DqA F ws es → DqA F (vs ++ ws) (ds ++ es)
  | _, _, _, _, .nil, s => s
  | _, _, _, _, .cons h r, s => .cons h (DqA.append r s)
theorem DqA.take {F : Hp} : ∀ {vs : List V} {ds : List D} (n : Nat), DqA F vs ds → DqA F (vs.take n) (ds.take n)
  | _, _, 0, _ => by simp only [List.take_zero]; exact .nil
  | _, _, n + 1, .nil => by simp only [List.take_nil]; exact .nil
  | _, _, n + 1, .cons h r => by simp only [List.take_succ_cons]; exact .cons h (DqA.take n r)
theorem DqA.drop {F : Hp} : ∀ {vs : List V} {ds : List D} (n : Nat), DqA F vs ds → DqA F (vs.drop n) (ds.drop n)
  | _, _, 0, r => r
  | _, _, n + 1, .nil => .nil
  | _, _, n + 1, .cons _ r => DqA.drop n r
theorem DqA.reverse {F : Hp} : ∀ {vs : List V} {ds : List D}, DqA F vs ds → DqA F vs.reverse ds.reverse
  | _, _, .nil => .nil
  | _, _, .cons h r => by
    rw [List.reverse_cons, List.reverse_cons]
    exact (DqA.reverse r).append (.cons h .nil)
theorem DqA.eraseIdx {F : Hp} : ∀ {vs : List V} {ds : List D} (n : Nat), DqA F vs ds → DqA F (vs.eraseIdx n) (ds.eraseIdx n)
  | _, _, _, .nil => .nil
  | _, _, 0, .cons _ r => r
  | _, _, n + 1, .cons h r => .cons h (DqA.eraseIdx n r)
theorem DqA.bools {F : Hp} : ∀ {vs : List V} {bs : List Bool}, DqA F vs (bs.map .bool) → vs = bs.map .bl
  | [], [], _ => rfl
  | _ :: _, b :: bs, .cons h r => by
    cases h
    rw [List.map_cons, DqA.bools r]
theorem DqA.strs {F : Hp} : ∀ {vs : List V} {xs : List Str}, DqA F vs (xs.map .str) → vs = xs.map .str
  | [], [], _ => rfl
  | _ :: _, b :: bs, .cons h r => by
    cases h
    rw [List.map_cons, DqA.strs r]
theorem DqA.ofStrs {F : Hp} : ∀ (xs : List Str), DqA F (xs.map .str) (xs.map .str)
  | [] => .nil
  | x :: xs => .cons (.str x) (DqA.ofStrs xs)

/-- a way to stand for something, in the frozen part -/
structure Rp where
  p : V → Hp → Prop
  mono : ∀ v F F', Same F F' → p v F → p v F'
def dat (d : D) : Rp := ⟨fun v F => Dq F v d, fun _ _ _ k h => h.mono k⟩
abbrev bl (b : Bool) : Rp := dat (.bool b)
abbrev nt (i : Int) : Rp := dat (.int i)
abbrev st (x : Str) : Rp := dat (.str x)
abbrev tu (ds : List D) : Rp := dat (.tuple ds)
abbrev li (ds : List D) : Rp := dat (.list ds)
/-- a way to stand for something that changes: at its address -/
structure Op where
  p : HO → Hp → Prop
  mono : ∀ o F F', Same F F' → p o F → p o F'
  nt : ∀ o F, p o F → isT o = false
def lstO (ds : List D) : Op := ⟨fun o F => ∃ xs, o = .lst xs ∧ DqA F xs ds, fun _ _ _ k ⟨xs, e, h⟩ => ⟨xs, e, h.mono k⟩, fun _ _ ⟨_, e, _⟩ => by subst e; rfl⟩

inductive Ent where
  | fz (R : Rp)
  | ow (P : Op)
  | ur
/-- the frame: what the callers' changing part is; the urn, if the def has one -/
structure Fx where
  M0 : Hp
  U : Option Addr
def IsUrn (o : HO) : Prop := ∃ a b : Int, o = .lst [.int a, .int b]
theorem IsUrn.nt {o : HO} (h : IsUrn o) : isT o = false := by obtain ⟨a, b, rfl⟩ := h; rfl
def Ent.ok (f : Fx) (F M : Hp) (v : V) : Ent → Prop
  | .fz R => R.p v F
  | .ow P => ∃ a o, v = .ref a ∧ M a = some o ∧ P.p o F ∧ f.M0 a = none ∧ f.U ≠ some a
  | .ur => ∃ a, v = .ref a ∧ f.U = some a
abbrev Env := List (Option Ent)
structure EnvOk (f : Fx) (σ : L2.St) (ρ : Env) (F M : Hp) : Prop where
  len : σ.length = ρ.length
  ent : ∀ (i : Nat) (e : Ent), ρ[i]? = some (some e) → ∃ v, σ[i]? = some (some v) ∧ e.ok f F M v
  inj : ∀ (i j : Nat) (P P' : Op), ρ[i]? = some (some (.ow P)) → ρ[j]? = some (some (.ow P')) → σ[i]? = σ[j]? → i = j
  base : ∀ a o, f.M0 a = some o → M a = some o
  urn : ∀ u, f.U = some u → f.M0 u = none ∧ ∃ o, M u = some o ∧ IsUrn o
def Fx.step (f : Fx) (M M' : Hp) : Prop := (∀ a o, f.U ≠ some a → M a = some o → M' a = some o) ∧ ∀ u, f.U = some u → ∃ o, M' u = some o ∧ IsUrn o
section
variable {f : Fx} {σ : L2.St} {ρ : Env} {F F' F'' M M' M'' : Hp}
theorem EnvOk.refl (E : EnvOk f σ ρ F M) : f.step M M := ⟨fun _ _ _ h => h, fun u h => (E.urn u h).2⟩
theorem stepT (a : f.step M M') (b : f.step M' M'') : f.step M M'' := ⟨fun x o h e => b.1 x o h (a.1 x o h e), b.2⟩
theorem Ent.step (k : Same F F') (s : f.step M M') {v : V} : ∀ {e : Ent}, e.ok f F M v → e.ok f F' M' v
  | .fz R, h => R.mono _ _ _ k h
  | .ow P, ⟨a, o, h1, h2, h3, h4, h5⟩ => ⟨a, o, h1, s.1 a o h5 h2, P.mono _ _ _ k h3, h4, h5⟩
  | .ur, h => h
theorem EnvOk.step (E : EnvOk f σ ρ F M) (k : Same F F') (s : f.step M M') : EnvOk f σ ρ F' M' where
  len := E.len
  ent := fun i e h => let ⟨v, h1, h2⟩ := E.ent i e h; ⟨v, h1, Ent.step k s h2⟩
  inj := E.inj
  base := fun a o h => by
    have ne : f.U ≠ some a := fun z => by rw [(E.urn a z).1] at h; cases h
    exact s.1 a o ne (E.base a o h)
  urn := fun u h => ⟨(E.urn u h).1, s.2 u h⟩
theorem EnvOk.mono (E : EnvOk f σ ρ F M) (k : Same F F') : EnvOk f σ ρ F' M := E.step k E.refl
end

/-! ### weakest conditions, whatever the rules -/
def wpE (X : Cx) (e : Expr) : TE := fun σ H Q => ∀ pins s, Inv X pins σ H s → wpAny (model X.prog X.w) X.A (eval e X.env) (EP X pins σ Q) X.xe s
def wpT (X : Cx) (e : Expr) : TT := fun σ H Q => ∀ pins s, Inv X pins σ H s → wpAny (model X.prog X.w) X.A (isTrue e X.env (eval e X.env)) (TP X pins σ Q) X.xe s
def wpW (X : Cx) (e : Expr) : TT := fun σ H Q => ∀ (whole : Sem Value) pins s, Inv X pins σ H s → wpAny (model X.prog X.w) X.A (isTrue e X.env whole) (TP X pins σ Q) X.xe s
def wpA (X : Cx) (es : List Expr) : TA := fun σ H Q => ∀ (pos : Pos) pins s, Inv X pins σ H s → wpAny (model X.prog X.w) X.A (spliced (backTo pos (starEach es X.env))) (AP X pins σ Q) X.xe s
def wpS (X : Cx) (st : Stmt) : TS := fun D σ H => ∀ pins s, Inv X pins σ H s → wpAny (model X.prog X.w) X.A (exec st X.env) (SP X pins D) X.xe s
def wpSs (X : Cx) (st : List Stmt) : TS := fun D σ H => ∀ pins s, Inv X pins σ H s → wpAny (model X.prog X.w) X.A (execs st X.env) (SP X pins D) X.xe s
def wpG (X : Cx) (tg : Expr) : TG := fun v σ H Q => ∀ pins s u, Inv X pins σ H s → RelV v u → wpAny (model X.prog X.w) X.A (assign tg X.env u) (fun _ s' => ∃ σ' H', Inv X pins σ' H' s' ∧ Q σ' H') X.xe s
def wpGs (X : Cx) (ts : List Expr) : TGs := fun vs σ H Q => ∀ pins s us, Inv X pins σ H s → Vals vs us → wpAny (model X.prog X.w) X.A (assignInOrder ((assignEach ts X.env).map (·.2)) us) (fun _ s' => ∃ σ' H', Inv X pins σ' H' s' ∧ Q σ' H') X.xe s
def wpI (X : Cx) (tg iter : Expr) : TI := fun σ H R => ∀ pins s, Inv X pins σ H s → wpAny (model X.prog X.w) X.A (eval iter X.env) (fun v s1 => wpAny (model X.prog X.w) X.A (pyIter v) (PIE X pins σ tg R) X.xe s1) X.xe s
def wpTs (X : Cx) (ifs : List Expr) : TT := fun σ H Q => ∀ pins s, Inv X pins σ H s →
    wpAny (model X.prog X.w) X.A (forIn ifs true fun c r => if r = true then do let ok ← isTrue c X.env (eval c X.env); pure (ForInStep.yield ok) else pure (ForInStep.yield r)) (TP X pins σ Q) X.xe s
section
variable {X : Cx} {e : Expr} {es : List Expr} {stt : Stmt} {sts : List Stmt}
theorem pe_wp : PE X e (wpE X e) := ⟨fun pins s _ _ _ I h => h pins s I⟩
theorem pt_wp : PT X e (wpT X e) := ⟨fun pins s _ _ _ I h => h pins s I⟩
theorem pw_wp : PW X e (wpW X e) := ⟨fun wh pins s _ _ _ I h => h wh pins s I⟩
theorem pa_wp : PA X es (wpA X es) := ⟨fun pos pins s _ _ _ I h => h pos pins s I⟩
theorem ps_wp : PS X stt (wpS X stt) := ⟨fun pins s _ _ _ I h => h pins s I⟩
theorem pss_wp : PSs X sts (wpSs X sts) := ⟨fun pins s _ _ _ I h => h pins s I⟩
theorem pg_wp : PG X e (wpG X e) := ⟨fun pins s _ _ _ _ _ I r h => h pins s _ I r⟩
theorem pgs_wp : PGs X es (wpGs X es) := ⟨fun pins s _ _ _ _ _ I r h => h pins s _ I r⟩
theorem pi_wp {tg : Expr} : PI X tg e (wpI X tg e) := ⟨fun pins s _ _ _ I h => h pins s I⟩
theorem pts_wp : PTs X es (wpTs X es) := ⟨fun pins s _ _ _ I h => h pins s I⟩
variable {σ : L2.St} {H : Hp}
theorem wpE_of {t : TE} {Q : VK} (h : PE X e t) (q : t σ H Q) : wpE X e σ H Q := fun pins s I => h.run pins s σ H Q I q
theorem wpT_of {t : TT} {Q} (h : PT X e t) (q : t σ H Q) : wpT X e σ H Q := fun pins s I => h.run pins s σ H Q I q
theorem wpW_of {t : TT} {Q} (h : PW X e t) (q : t σ H Q) : wpW X e σ H Q := fun wh pins s I => h.run wh pins s σ H Q I q
theorem wpA_of {t : TA} {Q} (h : PA X es t) (q : t σ H Q) : wpA X es σ H Q := fun pos pins s I => h.run pos pins s σ H Q I q
theorem wpS_of {t : TS} {D} (h : PS X stt t) (q : t D σ H) : wpS X stt D σ H := fun pins s I => h.run pins s σ H D I q
theorem wpSs_of {t : TS} {D} (h : PSs X sts t) (q : t D σ H) : wpSs X sts D σ H := fun pins s I => h.run pins s σ H D I q
theorem wpG_of {t : TG} {v} {Q} (h : PG X e t) (q : t v σ H Q) : wpG X e v σ H Q := fun pins s u I r => h.run pins s σ H v u Q I r q
theorem wpGs_of {t : TGs} {v} {Q} (h : PGs X es t) (q : t v σ H Q) : wpGs X es v σ H Q := fun pins s u I r => h.run pins s σ H v u Q I r q
theorem wpI_of {tg : Expr} {t : TI} {R} (h : PI X tg e t) (q : t σ H R) : wpI X tg e σ H R := fun pins s I => h.run pins s σ H R I q
theorem wpTs_of {t : TT} {Q} (h : PTs X es t) (q : t σ H Q) : wpTs X es σ H Q := fun pins s I => h.run pins s σ H Q I q
end

/-! ### the judgements -/
def EvE (X : Cx) (f : Fx) (ρ : Env) (e : Expr) (κ : Rp → Prop) : Prop := ∀ F M σ, Dis F M → EnvOk f σ ρ F M → ∀ Q : VK,
  (∀ v R F' M', κ R → R.p v F' → Same F F' → Dis F' M' → f.step M M' → Q v (ovl F' M')) → wpE X e σ (ovl F M) Q
def EvT (X : Cx) (f : Fx) (ρ : Env) (e : Expr) (κ : Bool → Prop) : Prop := ∀ F M σ, Dis F M → EnvOk f σ ρ F M → ∀ Q : Bool → Hp → Prop,
  (∀ b F' M', κ b → Same F F' → Dis F' M' → f.step M M' → Q b (ovl F' M')) → wpT X e σ (ovl F M) Q
def EvW (X : Cx) (f : Fx) (ρ : Env) (e : Expr) (κ : Bool → Prop) : Prop := ∀ F M σ, Dis F M → EnvOk f σ ρ F M → ∀ Q : Bool → Hp → Prop,
  (∀ b F' M', κ b → Same F F' → Dis F' M' → f.step M M' → Q b (ovl F' M')) → wpW X e σ (ovl F M) Q
def EvTs (X : Cx) (f : Fx) (ρ : Env) (es : List Expr) (κ : Bool → Prop) : Prop := ∀ F M σ, Dis F M → EnvOk f σ ρ F M → ∀ Q : Bool → Hp → Prop,
  (∀ b F' M', κ b → Same F F' → Dis F' M' → f.step M M' → Q b (ovl F' M')) → wpTs X es σ (ovl F M) Q
/-- values that stand for these -/
def RpA (F : Hp) : List V → List Rp → Prop
  | [], [] => True
  | v :: vs, R :: Rs => R.p v F ∧ RpA F vs Rs
  | _, _ => False
theorem RpA.mono {F F' : Hp} (k : Same F F') : ∀ {vs : List V} {Rs : List Rp}, RpA F vs Rs → RpA F' vs Rs
  | [], [], _ => True.intro
  | _ :: _, R :: _, ⟨h, r⟩ => ⟨R.mono _ _ _ k h, RpA.mono k r⟩
theorem RpA.length {F : Hp} : ∀ {vs : List V} {Rs : List Rp}, RpA F vs Rs → vs.length = Rs.length
  | [], [], _ => rfl
  | _ :: _, _ :: _, ⟨_, r⟩ => by rw [List.length_cons, List.length_cons, RpA.length r]
def EvA (X : Cx) (f : Fx) (ρ : Env) (es : List Expr) (κ : List Rp → Prop) : Prop := ∀ F M σ, Dis F M → EnvOk f σ ρ F M → ∀ Q : List V → Hp → Prop,
  (∀ vs Rs F' M', κ Rs → RpA F' vs Rs → Same F F' → Dis F' M' → f.step M M' → Q vs (ovl F' M')) → wpA X es σ (ovl F M) Q
/-- behind a statement -/
structure Post where
  nx : Env → Prop
  rt : Rp → Prop
  bk : Env → Prop := fun _ => False
  ct : Env → Prop := fun _ => False
/-- the changing part when the def is left -/
def Fx.exit (f : Fx) (M : Hp) : Prop := (∀ a, f.U ≠ some a → M a = f.M0 a) ∧ ∀ u, f.U = some u → ∃ o, M u = some o ∧ IsUrn o
structure Acc (f : Fx) (Φ : Post) (F : Hp) (D : Ends) : Prop where
  nx : ∀ ρ' σ' F' M', Φ.nx ρ' → Same F F' → Dis F' M' → EnvOk f σ' ρ' F' M' → D.nx σ' (ovl F' M')
  bk : ∀ ρ' σ' F' M', Φ.bk ρ' → Same F F' → Dis F' M' → EnvOk f σ' ρ' F' M' → D.bk σ' (ovl F' M')
  ct : ∀ ρ' σ' F' M', Φ.ct ρ' → Same F F' → Dis F' M' → EnvOk f σ' ρ' F' M' → D.ct σ' (ovl F' M')
  rt : ∀ v R F' M', Φ.rt R → R.p v F' → Same F F' → Dis F' M' → f.exit M' → D.rt v (ovl F' M')
theorem Acc.mono {f : Fx} {Φ : Post} {F F' : Hp} {D : Ends} (A : Acc f Φ F D) (k : Same F F') : Acc f Φ F' D :=
  ⟨fun ρ' σ' F2 M' h k2 => A.nx ρ' σ' F2 M' h (k.trans k2), fun ρ' σ' F2 M' h k2 => A.bk ρ' σ' F2 M' h (k.trans k2), fun ρ' σ' F2 M' h k2 => A.ct ρ' σ' F2 M' h (k.trans k2), fun v R F2 M' h r k2 => A.rt v R F2 M' h r (k.trans k2)⟩
def WS (X : Cx) (f : Fx) (ρ : Env) (s : Stmt) (Φ : Post) : Prop := ∀ F M σ, Dis F M → EnvOk f σ ρ F M → ∀ D : Ends, Acc f Φ F D → wpS X s D σ (ovl F M)
def WSs (X : Cx) (f : Fx) (ρ : Env) (ss : List Stmt) (Φ : Post) : Prop := ∀ F M σ, Dis F M → EnvOk f σ ρ F M → ∀ D : Ends, Acc f Φ F D → wpSs X ss D σ (ovl F M)
/-- a value that stands for R is given to a target; only the slots js change -/
def AsT (X : Cx) (f : Fx) (ρ : Env) (tg : Expr) (R : Rp) (js : List Nat) (κ : Env → Prop) : Prop := ∀ F M σ v, Dis F M → EnvOk f σ ρ F M → R.p v F → ∀ Q : L2.St → Hp → Prop,
  (∀ ρ' σ' F' M', κ ρ' → wipe σ' js = wipe σ js → Same F F' → Dis F' M' → f.step M M' → EnvOk f σ' ρ' F' M' → Q σ' (ovl F' M')) → wpG X tg v σ (ovl F M) Q
def AsTs (X : Cx) (f : Fx) (ρ : Env) (ts : List Expr) (Rs : List Rp) (js : List Nat) (κ : Env → Prop) : Prop := ∀ F M σ vs, Dis F M → EnvOk f σ ρ F M → RpA F vs Rs → ∀ Q : L2.St → Hp → Prop,
  (∀ ρ' σ' F' M', κ ρ' → wipe σ' js = wipe σ js → Same F F' → Dis F' M' → f.step M M' → EnvOk f σ' ρ' F' M' → Q σ' (ovl F' M')) → wpGs X ts vs σ (ovl F M) Q
/-- an expression that may give an object of one's own -/
def EvX (X : Cx) (f : Fx) (ρ : Env) (e : Expr) (κ : Ent → Prop) : Prop := ∀ F M σ, Dis F M → EnvOk f σ ρ F M → ∀ Q : VK,
  (∀ v E F' M', κ E → E.ok f F' M' v → Same F F' → Dis F' M' → f.step M M' → (∀ P a, E = .ow P → v = .ref a → M a = none) → Q v (ovl F' M')) → wpE X e σ (ovl F M) Q
/-- what an iterator gives, one by one -/
def Walks (J : It) (F0 : Hp) (ds : List D) : Prop := ∀ i F M, Same F0 F → Dis F M →
  (i < ds.length → J.go i (ovl F M) ∧ ∀ x H', J.yld i (ovl F M) x H' → ∃ F' d, ds[i]? = some d ∧ Same F F' ∧ Dis F' M ∧ H' = ovl F' M ∧ Dq F' x d) ∧ (ds.length ≤ i → J.stop i (ovl F M))
def EvIt (X : Cx) (f : Fx) (ρ : Env) (tg iter : Expr) (κ : List D → Prop) : Prop := ∀ F M σ, Dis F M → EnvOk f σ ρ F M → ∀ R : It → Hp → Prop,
  (∀ J ds F' M', κ ds → ds.length ≤ sizeLine → Walks J F' ds → Same F F' → Dis F' M' → f.step M M' → R J (ovl F' M')) → wpI X tg iter σ (ovl F M) R
end FR
set_option Elab.async false
set_option linter.all false
set_option maxRecDepth 100000
set_option maxHeartbeats 1000000
namespace FR
open PySem PySem.Spec PyProof.Rows L2

/-- the law's program: the machine's parts and what the top has left -/
structure Gb where
  P : Program
  w : World
  K : PySem.W.Frag
  mg : Str → Option Value
  base : Heap
/-- a def of this program runs -/
structure Ctx (G : Gb) (k : Nat) (X : Cx) : Prop where
  prog : X.prog = G.P
  w : X.w = G.w
  K : X.K = G.K
  mg : X.mg = G.mg
  base : X.base = G.base
  calm : X.calm = true
  xe : X.xe = fun _ _ => False
  room : Room k X.A
def mkX (X : Cx) (N : List Str) (sc : Scope) : Cx := { X with N := N, env := { X.env with scope := sc } }
theorem Ctx.at {G : Gb} {k : Nat} {X : Cx} {N : List Str} {sc : Scope} (C : Ctx G k X) : Ctx G k (mkX X N sc) := ⟨C.prog, C.w, C.K, C.mg, C.base, C.calm, C.xe, C.room⟩
theorem Ctx.mono {G : Gb} {j k : Nat} {X : Cx} (C : Ctx G k X) (h : j ≤ k) : Ctx G j X := ⟨C.prog, C.w, C.K, C.mg, C.base, C.calm, C.xe, C.room.mono h⟩
theorem Ctx.passes {G : Gb} {k : Nat} {X : Cx} (C : Ctx G k X) : PassesOwn (model X.prog X.w) X.A X.env X.xe := by rw [C.xe]; exact PassesOwn.never

section
variable {X : Cx} {f : Fx} {ρ : Env} {e a b c : Expr} {es : List Expr} {s : Stmt} {ss : List Stmt} {κ : Rp → Prop} {Φ : Post} {pos : Pos} {G : Gb} {k : Nat}

/-! ### what every state tells -/
def Valid (H : Hp) : Prop := (∀ a xs, H a = some (.lst xs) → xs.length ≤ sizeLine) ∧ ∀ a xs, H a = some (.tup xs) → xs.length ≤ sizeLine
theorem Inv.valid {pins : List (Addr × Obj)} {σ : L2.St} {H : Hp} {s : Shared} (I : Inv X pins σ H s) : Valid H :=
  ⟨fun a xs h => (I.hok a _ h).1, fun a xs h => (I.hok a _ h).1⟩
theorem wpE_valid {σ : L2.St} {H : Hp} {Q : VK} (h : wpE X e σ H fun v H' => Valid H' → Q v H') : wpE X e σ H Q := fun pins s I =>
  thn (h pins s I) fun _ _ ⟨v, H', I', r, q⟩ => ⟨v, H', I', r, q (Inv.valid I')⟩
theorem wpE_valid0 {σ : L2.St} {H : Hp} {Q : VK} (h : Valid H → wpE X e σ H Q) : wpE X e σ H Q := fun pins s I => h (Inv.valid I) pins s I
theorem wpI_valid {tg : Expr} {σ : L2.St} {H : Hp} {R} (h : wpI X tg e σ H fun J H' => Valid H' → R J H') : wpI X tg e σ H R := fun pins s I =>
  thn (h pins s I) fun _ _ q => thn q fun _ _ ⟨it, fp, tn, J, H', e1, I', T, t0, hf, r⟩ => ⟨it, fp, tn, J, H', e1, I', T, t0, hf, r (Inv.valid I')⟩
/-- a thing that changes is frozen for good -/
theorem wpE_frz {σ : L2.St} {H : Hp} {Q : VK} {d : Addr} {u : HO} (hd : H d = some u) (mu : Mut (some u)) (h : ∀ od, wpE X e σ (upd H d (.frz od u)) Q) : wpE X e σ H Q := fun pins s I => by
  obtain ⟨od, I'⟩ := I.lock hd mu
  exact h od pins s I'
theorem wpSs_frz {σ : L2.St} {H : Hp} {D : Ends} {d : Addr} {u : HO} (hd : H d = some u) (mu : Mut (some u)) (h : ∀ od, wpSs X ss D σ (upd H d (.frz od u))) : wpSs X ss D σ H := fun pins s I => by
  obtain ⟨od, I'⟩ := I.lock hd mu
  exact h od pins s I'

/-! ### names, constants -/
theorem ev_imp {κ' : Rp → Prop} (h : EvE X f ρ e κ') (hk : ∀ R, κ' R → κ R) : EvE X f ρ e κ := fun F M σ d E Q hQ => h F M σ d E Q fun v R F' M' h1 => hQ v R F' M' (hk R h1)
theorem ev_val {t : TE} {v : V} {R : Rp} (hp : PE X e t) (ht : ∀ σ H Q, Q v H → t σ H Q) (hR : ∀ F, R.p v F) (k : κ R) : EvE X f ρ e κ := fun F M σ d E Q hQ =>
  wpE_of hp (ht _ _ _ (hQ v R F M k (hR F) (Same.refl F) d E.refl))
theorem ev_int {i : Int} {j} (k : κ (nt i)) : EvE X f ρ (.Constant (.int i) j pos) κ := ev_val pe_int (fun _ _ _ h => h) (fun _ => Dq.int i) k
theorem ev_str {x : Str} {j} (k : κ (FR.st x)) : EvE X f ρ (.Constant (.str x) j pos) κ := ev_val pe_str (fun _ _ _ h => h) (fun _ => Dq.str x) k
theorem ev_bl {b : Bool} {j} (k : κ (bl b)) : EvE X f ρ (.Constant (.bool b) j pos) κ := ev_val pe_bl (fun _ _ _ h => h) (fun _ => Dq.bl b) k
theorem ev_non {j} (k : κ (dat .none)) : EvE X f ρ (.Constant .none j pos) κ := ev_val pe_non (fun _ _ _ h => h) (fun _ => Dq.non) k
theorem ev_var {x : Str} (i : Nat) {R : Rp} (h : ρ[i]? = some (some (.fz R))) (hN : X.N[i]? = some x) (hv : Vis X.env.scope x) (k : κ R)
    (hd : (x == ("__debug__" : Str)) = false := by decide) (hcd : (x == ("__classdict__" : Str)) = false := by decide) : EvE X f ρ (.Name x pos) κ := fun F M σ d E Q hQ => by
  obtain ⟨v, hσ, hp⟩ := E.ent i _ h
  exact wpE_of (pe_var hN hv hd hcd) ⟨v, hσ, hQ v R F M k hp (Same.refl F) d E.refl⟩
theorem ev_gstr (C : Ctx G k X) {x z : Str} (hg : Gl X x) (hm : ∃ t, G.mg x = some (.str z t)) (kk : κ (FR.st z)) (hd : (x == ("__debug__" : Str)) = false := by decide) : EvE X f ρ (.Name x pos) κ := by
  obtain ⟨t, hm⟩ := hm
  exact ev_val (pe_glob (v := .str z) hg (by rw [C.mg]; exact hm) ⟨t, rfl⟩ hd) (fun _ _ _ h => h) (fun _ => Dq.str z) kk
theorem ev_gint (C : Ctx G k X) {x : Str} {z : Int} (hg : Gl X x) (hm : ∃ t, G.mg x = some (.int z t)) (kk : κ (nt z)) (hd : (x == ("__debug__" : Str)) = false := by decide) : EvE X f ρ (.Name x pos) κ := by
  obtain ⟨t, hm⟩ := hm
  exact ev_val (pe_glob (v := .int z) hg (by rw [C.mg]; exact hm) ⟨t, rfl⟩ hd) (fun _ _ _ h => h) (fun _ => Dq.int z) kk

/-! ### two in a row -/
/-- an operation on what stands for R and S -/
def OpOk (r : R2) (R S : Rp) (κ : Rp → Prop) : Prop := ∀ F M x y, Dis F M → R.p x F → S.p y F → Valid (ovl F M) → ∀ Q : VK,
  (∀ v T F', κ T → T.p v F' → Same F F' → Dis F' M → Q v (ovl F' M)) → r x y (ovl F M) Q
theorem ev_two {r : R2} {e' : Expr} (mk : ∀ ta tb, PE X a ta → PE X b tb → PE X e' (tOp r ta tb)) (h : EvE X f ρ a fun R => EvE X f ρ b fun S => OpOk r R S κ) : EvE X f ρ e' κ := fun F M σ d E Q hQ => by
  refine wpE_of (mk _ _ pe_wp pe_wp) ?_
  refine h F M σ d E _ fun x R F1 M1 hb hx k1 d1 s1 => ?_
  refine wpE_valid ?_
  refine hb F1 M1 σ d1 (E.step k1 s1) _ fun y S F2 M2 ho hy k2 d2 s2 va => ?_
  refine ho F2 M2 x y d2 (R.mono _ _ _ k2 hx) hy va Q fun v T F3 hT hv k3 d3 => ?_
  exact hQ v T F3 M2 hT hv (k1.trans (k2.trans k3)) d3 (stepT s1 s2)
theorem ev_bin {op : Operator} {r : R2} (ho : OpR X (binaryOp op) r) (h : EvE X f ρ a fun R => EvE X f ρ b fun S => OpOk r R S κ) : EvE X f ρ (.BinOp a op b pos) κ := ev_two (fun _ _ ha hb => pe_op ho ha hb) h
theorem ev_cmp {op : CmpOp} {r : R2} (ho : OpR X (compareOp op) r) (hm : behindInMarks op b = false) (h : EvE X f ρ a fun R => EvE X f ρ b fun S => OpOk r R S κ) : EvE X f ρ (.Compare a [op] [b] pos) κ := ev_two (fun _ _ ha hb => pe_cmpR ho ha hb hm) h
theorem ev_ix {r : R2} (hr : IxR X r) (hs : PlainIx b) (h : EvE X f ρ a fun R => EvE X f ρ b fun S => OpOk r R S κ) : EvE X f ρ (.Subscript a b pos) κ := ev_two (fun _ _ ha hb => pe_ix hr ha hb hs) h
/-- a comparison as a test -/
theorem et_cmp {op : CmpOp} {r : R2} {κ : Bool → Prop} (ho : OpR X (compareOp op) r) (hm : behindInMarks op b = false) (h : EvE X f ρ a fun R => EvE X f ρ b fun S => OpOk r R S fun T => ∃ k, T = bl k ∧ κ k) : EvT X f ρ (.Compare a [op] [b] pos) κ := fun F M σ d E Q hQ => by
  refine wpT_of (pt_cmpR ho pe_wp pe_wp hm) ?_
  refine h F M σ d E _ fun x R F1 M1 hb hx k1 d1 s1 => ?_
  refine wpE_valid ?_
  refine hb F1 M1 σ d1 (E.step k1 s1) _ fun y S F2 M2 ho hy k2 d2 s2 va => ?_
  refine ho F2 M2 x y d2 (R.mono _ _ _ k2 hx) hy va _ fun v T F3 hT hv k3 d3 => ?_
  obtain ⟨kb, rfl, hk⟩ := hT
  cases hv
  exact ⟨kb, rfl, hQ kb F3 M2 hk (k1.trans (k2.trans k3)) d3 (stepT s1 s2)⟩
/-- an expression that gives a bool, as a test -/
theorem et_val {κ : Bool → Prop} (h : EvE X f ρ e fun T => ∃ k, T = bl k ∧ κ k) (he : ∀ whole, isTrue e X.env whole = (do let v ← whole; standAt e.pos; holding [v] (truthy v)) := by intro _; rfl) : EvT X f ρ e κ := fun F M σ d E Q hQ => by
  refine wpT_of (pt_val pe_wp he) ?_
  refine h F M σ d E _ fun v R F1 M1 hT hv k1 d1 s1 => ?_
  obtain ⟨kb, rfl, hk⟩ := hT
  cases hv
  exact ⟨kb, rfl, hQ kb F1 M1 hk k1 d1 s1⟩
theorem et_not {κ : Bool → Prop} (h : EvT X f ρ a fun k => κ (!k)) : EvT X f ρ (.UnaryOp .Not a pos) κ := fun F M σ d E Q hQ =>
  wpT_of (pt_not pt_wp) (h F M σ d E _ fun k F1 M1 hk k1 d1 s1 => hQ (!k) F1 M1 hk k1 d1 s1)
theorem et_w {κ : Bool → Prop} (h : EvW X f ρ e κ) : EvT X f ρ e κ := fun F M σ d E Q hQ => wpT_of pw_wp.pt (h F M σ d E Q hQ)
theorem ew_and1 {κ : Bool → Prop} (h : EvT X f ρ a κ) : EvW X f ρ (.BoolOp .And [a] pos) κ := fun F M σ d E Q hQ => wpW_of (pw_and1 pt_wp) (h F M σ d E Q hQ)
theorem ew_or1 {κ : Bool → Prop} (h : EvT X f ρ a κ) : EvW X f ρ (.BoolOp .Or [a] pos) κ := fun F M σ d E Q hQ => wpW_of (pw_or1 pt_wp) (h F M σ d E Q hQ)
theorem ew_and {rest : List Expr} {κ : Bool → Prop} (h : EvT X f ρ a fun k => (k = true → EvW X f ρ (.BoolOp .And (b :: rest) pos) κ) ∧ (k = false → κ false)) : EvW X f ρ (.BoolOp .And (a :: b :: rest) pos) κ := fun F M σ d E Q hQ => by
  refine wpW_of (pw_and pt_wp pw_wp) ?_
  refine h F M σ d E _ fun k F1 M1 hk k1 d1 s1 => ?_
  cases k with
  | true => exact iteT (hk.1 rfl F1 M1 σ d1 (E.step k1 s1) Q fun k F2 M2 hk2 k2 d2 s2 => hQ k F2 M2 hk2 (k1.trans k2) d2 (stepT s1 s2))
  | false => exact iteF (hQ false F1 M1 (hk.2 rfl) k1 d1 s1)
theorem ew_or {rest : List Expr} {κ : Bool → Prop} (h : EvT X f ρ a fun k => (k = true → κ true) ∧ (k = false → EvW X f ρ (.BoolOp .Or (b :: rest) pos) κ)) : EvW X f ρ (.BoolOp .Or (a :: b :: rest) pos) κ := fun F M σ d E Q hQ => by
  refine wpW_of (pw_or pt_wp pw_wp) ?_
  refine h F M σ d E _ fun k F1 M1 hk k1 d1 s1 => ?_
  cases k with
  | true => exact iteT (hQ true F1 M1 (hk.1 rfl) k1 d1 s1)
  | false => exact iteF (hk.2 rfl F1 M1 σ d1 (E.step k1 s1) Q fun k F2 M2 hk2 k2 d2 s2 => hQ k F2 M2 hk2 (k1.trans k2) d2 (stepT s1 s2))
/-- and, or as values -/
theorem ev_one {op} (h : EvE X f ρ a κ) : EvE X f ρ (.BoolOp op [a] pos) κ := fun F M σ d E Q hQ => wpE_of (pe_one pe_wp) (h F M σ d E Q hQ)
theorem ev_and {rest : List Expr} (h : EvE X f ρ a fun R => ∃ k, R = bl k ∧ (k = true → EvE X f ρ (.BoolOp .And (b :: rest) pos) κ) ∧ (k = false → κ (bl false))) : EvE X f ρ (.BoolOp .And (a :: b :: rest) pos) κ := fun F M σ d E Q hQ => by
  refine wpE_of (pe_and pe_wp pe_wp) ?_
  refine h F M σ d E _ fun v R F1 M1 hk hv k1 d1 s1 => ?_
  obtain ⟨k, rfl, h1, h2⟩ := hk
  cases hv
  refine ⟨k, rfl, ?_⟩
  cases k with
  | true => exact iteT (h1 rfl F1 M1 σ d1 (E.step k1 s1) Q fun v R F2 M2 hk2 hv2 k2 d2 s2 => hQ v R F2 M2 hk2 hv2 (k1.trans k2) d2 (stepT s1 s2))
  | false => exact iteF (hQ _ _ F1 M1 (h2 rfl) (Dq.bl false) k1 d1 s1)
theorem ev_or {rest : List Expr} (h : EvE X f ρ a fun R => ∃ k, R = bl k ∧ (k = true → κ (bl true)) ∧ (k = false → EvE X f ρ (.BoolOp .Or (b :: rest) pos) κ)) : EvE X f ρ (.BoolOp .Or (a :: b :: rest) pos) κ := fun F M σ d E Q hQ => by
  refine wpE_of (pe_or pe_wp pe_wp) ?_
  refine h F M σ d E _ fun v R F1 M1 hk hv k1 d1 s1 => ?_
  obtain ⟨k, rfl, h1, h2⟩ := hk
  cases hv
  refine ⟨k, rfl, ?_⟩
  cases k with
  | true => exact iteT (hQ _ _ F1 M1 (h1 rfl) (Dq.bl true) k1 d1 s1)
  | false => exact iteF (h2 rfl F1 M1 σ d1 (E.step k1 s1) Q fun v R F2 M2 hk2 hv2 k2 d2 s2 => hQ v R F2 M2 hk2 hv2 (k1.trans k2) d2 (stepT s1 s2))
theorem ev_not (h : EvE X f ρ a fun R => ∃ k, R = bl k ∧ κ (bl (!k))) : EvE X f ρ (.UnaryOp .Not a pos) κ := fun F M σ d E Q hQ => by
  refine wpE_of (pe_not pe_wp) ?_
  refine h F M σ d E _ fun v R F1 M1 hk hv k1 d1 s1 => ?_
  obtain ⟨k, rfl, h1⟩ := hk
  cases hv
  exact ⟨k, rfl, hQ _ _ F1 M1 h1 (Dq.bl _) k1 d1 s1⟩
theorem ev_if (h : EvT X f ρ c fun k => (k = true → EvE X f ρ a κ) ∧ (k = false → EvE X f ρ b κ)) : EvE X f ρ (.IfExp c a b pos) κ := fun F M σ d E Q hQ => by
  refine wpE_of (pe_ifExp pt_wp pe_wp pe_wp) ?_
  refine h F M σ d E _ fun k F1 M1 hk k1 d1 s1 => ?_
  cases k with
  | true => exact iteT (hk.1 rfl F1 M1 σ d1 (E.step k1 s1) Q fun v R F2 M2 hk2 hv2 k2 d2 s2 => hQ v R F2 M2 hk2 hv2 (k1.trans k2) d2 (stepT s1 s2))
  | false => exact iteF (hk.2 rfl F1 M1 σ d1 (E.step k1 s1) Q fun v R F2 M2 hk2 hv2 k2 d2 s2 => hQ v R F2 M2 hk2 hv2 (k1.trans k2) d2 (stepT s1 s2))

/-! ### arguments, tuples -/
theorem ea_nil {κ : List Rp → Prop} (k : κ []) : EvA X f ρ [] κ := fun F M σ d E Q hQ => wpA_of pa_nil (hQ [] [] F M k True.intro (Same.refl F) d E.refl)
theorem ea_cons {κ : List Rp → Prop} (h : EvE X f ρ e fun R => EvA X f ρ es fun Rs => κ (R :: Rs)) (hs : starEach (e :: es) X.env = (false, eval e X.env) :: starEach es X.env := by rfl) : EvA X f ρ (e :: es) κ := fun F M σ d E Q hQ => by
  refine wpA_of (pa_cons pe_wp pa_wp hs) ?_
  refine h F M σ d E _ fun v R F1 M1 hk hv k1 d1 s1 => ?_
  refine hk F1 M1 σ d1 (E.step k1 s1) _ fun vs Rs F2 M2 hk2 hv2 k2 d2 s2 => ?_
  exact hQ (v :: vs) (R :: Rs) F2 M2 hk2 ⟨R.mono _ _ _ k2 hv, hv2⟩ (k1.trans k2) d2 (stepT s1 s2)
/-- the data that things stand for -/
def Dats : List Rp → List D → Prop := fun Rs ds => Rs = ds.map dat
theorem rpa_dats {F : Hp} : ∀ {vs : List V} {ds : List D}, RpA F vs (ds.map dat) → DqA F vs ds
  | [], [], _ => .nil
  | _ :: _, _ :: _, ⟨h, r⟩ => .cons h (rpa_dats r)
  | [], _ :: _, h => h.elim
  | _ :: _, [], h => h.elim
theorem new_of {F M : Hp} {p : Addr} {o : HO} {Q : Hp → Prop} (d : Dis F M) (h : ovl F M p = none) (q : ∀ F', F' = upd F p o → Same F F' → Dis F' M → F' p = some o → Q (ovl F' M)) : Q (upd (ovl F M) p o) := by
  rw [upd_ovl]
  exact q _ rfl (same_updN (ovl_none h).1) (dis_new d (ovl_none h).2) upd_same
theorem le_sz {n : Nat} (h : n ≤ 10000) : n ≤ sizeLine := by have := sizeLine_eq; omega
theorem lt_sz {n : Nat} (h : n ≤ 10000) : n < sizeLine := by have := sizeLine_eq; omega
theorem ev_tup {x1} (h : EvA X f ρ es fun Rs => ∃ ds, Rs = ds.map dat ∧ ds.length ≤ 10000 ∧ κ (tu ds)) : EvE X f ρ (.Tuple es x1 pos) κ := fun F M σ d E Q hQ => by
  refine wpE_of (pe_tup (x1 := x1) pa_wp) ?_
  refine h F M σ d E _ fun vs Rs F1 M1 hk hv k1 d1 s1 => ?_
  obtain ⟨ds, rfl, hl, hk⟩ := hk
  have hv := rpa_dats hv
  refine ⟨by rw [hv.length]; exact le_sz hl, fun p hp => ?_⟩
  refine new_of (Q := fun H => Q (.ref p) H) d1 hp fun F2 _ k2 d2 e2 => ?_
  exact hQ _ _ F2 M1 hk (Dq.tup e2 (hv.mono k2)) (k1.trans k2) d2 s1
theorem ev_lst (h : EvA X f ρ es fun Rs => ∃ ds, Rs = ds.map dat ∧ ds.length ≤ 10000 ∧ κ (li ds)) : EvE X f ρ (.List es pos) κ := fun F M σ d E Q hQ => by
  refine wpE_of (pe_lst pa_wp) ?_
  refine h F M σ d E _ fun vs Rs F1 M1 hk hv k1 d1 s1 => ?_
  obtain ⟨ds, rfl, hl, hk⟩ := hk
  have hv := rpa_dats hv
  refine ⟨by rw [hv.length]; exact le_sz hl, fun p hp => ?_⟩
  refine new_of (Q := fun H => Q (.ref p) H) d1 hp fun F2 _ k2 d2 e2 => ?_
  exact hQ _ _ F2 M1 hk (Dq.lst e2 (hv.mono k2)) (k1.trans k2) d2 s1
/-! ### objects of one's own -/
theorem ex_of {κ : Ent → Prop} (h : EvE X f ρ e fun R => κ (.fz R)) : EvX X f ρ e κ := fun F M σ d E Q hQ => h F M σ d E Q fun v R F' M' hk hv k1 d1 s1 => hQ v (.fz R) F' M' hk hv k1 d1 s1 fun P a z => nomatch z
theorem newM_of {F M : Hp} {p : Addr} {o : HO} {Q : Hp → Prop} (d : Dis F M) (h : ovl F M p = none) (ho : isT o = false) (q : ∀ M', M' = upd M p o → M p = none → Dis F M' → M' p = some o → (∀ a x, M a = some x → M' a = some x) → Q (ovl F M')) : Q (upd (ovl F M) p o) := by
  rw [upd_ovlM (ovl_none h).1]
  exact q _ rfl (ovl_none h).2 (dis_newM d (ovl_none h).1 ho) upd_same fun a x e => same_updN (ovl_none h).2 a x e
theorem own_new {κ : Ent → Prop} {F M F1 M1 : Hp} {σ : L2.St} {P : Op} {o : HO} {p : Addr} {Q : VK} (E : EnvOk f σ ρ F M) (k1 : Same F F1) (d1 : Dis F1 M1) (s1 : f.step M M1) (hp : ovl F1 M1 p = none) (hP : P.p o F1) (hκ : κ (.ow P))
    (hQ : ∀ v E F' M', κ E → E.ok f F' M' v → Same F F' → Dis F' M' → f.step M M' → (∀ P a, E = .ow P → v = .ref a → M a = none) → Q v (ovl F' M')) : Q (.ref p) (upd (ovl F1 M1) p o) := by
  have E1 := E.step k1 s1
  refine newM_of (Q := fun H => Q (.ref p) H) d1 hp (P.nt _ _ hP) fun M2 _ n1 d2 e2 k2 => ?_
  have nU : f.U ≠ some p := fun z => by
    obtain ⟨_, o', e, _⟩ := E1.urn p z
    rw [n1] at e; cases e
  have n0 : f.M0 p = none := by
    cases z : f.M0 p with
    | none => rfl
    | some o' =>
      have := E1.base p o' z
      rw [n1] at this; cases this
  have sM : f.step M M2 := stepT s1 ⟨fun a x _ e => k2 a x e, fun u hu => by
    obtain ⟨_, o', e, i⟩ := E1.urn u hu
    exact ⟨o', k2 _ _ e, i⟩⟩
  refine hQ _ (.ow P) F1 M2 hκ ⟨p, o, rfl, e2, hP, n0, nU⟩ k1 d2 sM fun P' a _ e => ?_
  injection e with e
  subst e
  cases z : M p with
  | none => rfl
  | some x =>
    have := s1.1 p x nU z
    rw [n1] at this; cases this
theorem ex_lst {κ : Ent → Prop} (h : EvA X f ρ es fun Rs => ∃ ds, Rs = ds.map dat ∧ ds.length ≤ 10000 ∧ κ (.ow (lstO ds))) : EvX X f ρ (.List es pos) κ := fun F M σ d E Q hQ => by
  refine wpE_of (pe_lst pa_wp) ?_
  refine h F M σ d E _ fun vs Rs F1 M1 hk hv k1 d1 s1 => ?_
  obtain ⟨ds, rfl, hl, hk⟩ := hk
  have hv := rpa_dats hv
  exact ⟨by rw [hv.length]; exact le_sz hl, fun p hp => own_new (P := lstO ds) E k1 d1 s1 hp ⟨vs, rfl, hv⟩ hk hQ⟩

/-! ### slots -/
theorem EnvOk.setE {σ : L2.St} {ρ : Env} {F M Fo Mo : Hp} {i : Nat} {v : V} {e : Ent} (E : EnvOk f σ ρ F M) (Eo : EnvOk f σ ρ Fo Mo) (h : e.ok f F M v) (hn : ∀ P a, e = .ow P → v = .ref a → Mo a = none) : EnvOk f (σ.set i (some v)) (ρ.set i (some e)) F M where
  len := by rw [List.length_set, List.length_set]; exact E.len
  ent := fun j e' he => by
    by_cases hj : i = j
    · subst hj
      by_cases hl : i < ρ.length
      · rw [List.getElem?_set_self hl] at he
        cases he
        exact ⟨v, by rw [List.getElem?_set_self (by rw [E.len]; exact hl)], h⟩
      · rw [List.getElem?_eq_none (by rw [List.length_set]; omega)] at he
        cases he
    · rw [List.getElem?_set_ne hj] at he ⊢
      exact E.ent j e' he
  inj := fun j k P P' h1 h2 h3 => by
    have key : ∀ (m : Nat) (P P' : Op), (ρ.set i (some e))[i]? = some (some (.ow P)) → i ≠ m → ρ[m]? = some (some (.ow P')) → (σ.set i (some v))[i]? = σ[m]? → False := fun m P P' g1 g2 g3 g4 => by
      have hl : i < ρ.length := by
        rcases Nat.lt_or_ge i ρ.length with z | z
        · exact z
        · rw [List.getElem?_eq_none (by rw [List.length_set]; omega)] at g1; cases g1
      rw [List.getElem?_set_self hl] at g1
      rw [List.getElem?_set_self (by rw [E.len]; exact hl)] at g4
      obtain ⟨w, q1, q2⟩ := Eo.ent m _ g3
      rw [q1] at g4
      have e1 : v = w := Option.some.inj (Option.some.inj g4)
      obtain ⟨a, o, r1, r2, _⟩ := q2
      have := hn P a (Option.some.inj (Option.some.inj g1)) (e1.trans r1)
      rw [this] at r2; cases r2
    by_cases hj : i = j
    · by_cases hk : i = k
      · exact hj.symm.trans hk
      · subst hj
        rw [List.getElem?_set_ne hk] at h2 h3
        exact (key k P P' h1 hk h2 h3).elim
    · by_cases hk : i = k
      · subst hk
        rw [List.getElem?_set_ne hj] at h1 h3
        exact (key j P' P h2 hj h1 h3.symm).elim
      · rw [List.getElem?_set_ne hj] at h1 h3
        rw [List.getElem?_set_ne hk] at h2 h3
        exact E.inj j k P P' h1 h2 h3
  base := E.base
  urn := E.urn
theorem EnvOk.setR {σ : L2.St} {ρ : Env} {F M : Hp} {i : Nat} {v : V} {R : Rp} (E : EnvOk f σ ρ F M) (h : R.p v F) : EnvOk f (σ.set i (some v)) (ρ.set i (some (.fz R))) F M := E.setE E h fun P a z => nomatch z
theorem wipe_set {σ : L2.St} {i : Nat} {x : Option V} : ∀ {js : List Nat}, i ∈ js → wipe (σ.set i x) js = wipe σ js
  | [], h => by cases h
  | j :: js, h => by
    show (wipe (σ.set i x) js).set j none = (wipe σ js).set j none
    by_cases hj : i ∈ js
    · rw [wipe_set hj]
    · have e : i = j := by
        rcases List.mem_cons.mp h with z | z
        · exact z
        · exact absurd z hj
      subst e
      have key : ∀ js : List Nat, (wipe (σ.set i x) js).set i none = (wipe σ js).set i none := fun js => by
        induction js with
        | nil => exact List.set_set _
        | cons k ks ih =>
          show ((wipe (σ.set i x) ks).set k none).set i none = ((wipe σ ks).set k none).set i none
          by_cases hk : k = i
          · subst hk
            rw [List.set_set, List.set_set]; exact ih
          · rw [List.set_comm _ _ hk, List.set_comm _ _ hk, ih]
      exact key js

/-! ### targets -/
theorem at_name {x : Str} {js : List Nat} {R : Rp} {κ : Env → Prop} (i : Nat) (hN : X.N.Nodup) (hi : X.N[i]? = some x) (hx : Loc X.env.scope x) (hj : i ∈ js) (k : κ (ρ.set i (some (.fz R)))) (hf : X.fn x = true ∨ X.env.scope.names.lookup x = some .local := by first | exact .inl rfl | exact .inr rfl | assumption) :
    AsT X f ρ (.Name x pos) R js κ := fun F M σ v d E hv Q hQ =>
  wpG_of (pg_name hN hi hx hf) (hQ _ _ F M k (wipe_set hj) (Same.refl F) d E.refl (E.setR hv))
theorem ats_nil {js : List Nat} {κ : Env → Prop} (k : κ ρ) : AsTs X f ρ [] [] js κ := fun F M σ vs d E hv Q hQ => by
  cases vs with
  | nil => exact wpGs_of pgs_nil ⟨rfl, hQ _ _ F M k rfl (Same.refl F) d E.refl E⟩
  | cons v vs => exact hv.elim
theorem ats_cons {tg : Expr} {ts : List Expr} {R : Rp} {Rs : List Rp} {js : List Nat} {κ : Env → Prop} (h : AsT X f ρ tg R js fun ρ' => AsTs X f ρ' ts Rs js κ) (hs : (assignEach (tg :: ts) X.env).map (·.2) = assign tg X.env :: (assignEach ts X.env).map (·.2) := by rfl) : AsTs X f ρ (tg :: ts) (R :: Rs) js κ := fun F M σ vs d E hv Q hQ => by
  cases vs with
  | nil => exact hv.elim
  | cons v vs =>
    refine wpGs_of (pgs_cons pg_wp pgs_wp hs) ⟨v, vs, rfl, ?_⟩
    refine h F M σ v d E hv.1 _ fun ρ1 σ1 F1 M1 hk w1 k1 d1 s1 E1 => ?_
    exact hk F1 M1 σ1 vs d1 E1 (hv.2.mono k1) Q fun ρ2 σ2 F2 M2 hk2 w2 k2 d2 s2 E2 => hQ ρ2 σ2 F2 M2 hk2 (w2.trans w1) (k1.trans k2) d2 (stepT s1 s2) E2
theorem rpa_of {F : Hp} : ∀ {vs : List V} {ds : List D}, DqA F vs ds → RpA F vs (ds.map dat)
  | _, _, .nil => True.intro
  | _, _, .cons h r => ⟨h, rpa_of r⟩
theorem at_tup {ts : List Expr} {kk : Nat} {n : Nat} {js : List Nat} {ds : List D} {κ : Env → Prop} (hc : X.calm = true) (hl : ds.length = n) (h : AsTs X f ρ ts (ds.map dat) js κ)
    (hn : (assignEach ts X.env).length = n := by rfl) (hst : (assignEach ts X.env).findIdx? (·.1) = none := by rfl) : AsT X f ρ (.Tuple ts kk pos) (tu ds) js κ := fun F M σ v d E hv Q hQ => by
  cases hv with
  | @tup a xs _ ha hx =>
    exact wpG_of (pg_tup hc pgs_wp hn hst) ⟨a, xs, rfl, SqT.of (ovl_F ha), hx.length.trans hl, h F M σ xs d E (rpa_of hx) Q hQ⟩

/-! ### statements -/
theorem ws_nil (k : Φ.nx ρ) : WSs X f ρ [] Φ := fun F M σ d E D A => wpSs_of pss_nil (A.nx ρ σ F M k (Same.refl F) d E)
theorem ws_cons (h : WS X f ρ s { Φ with nx := fun ρ' => WSs X f ρ' ss Φ }) : WSs X f ρ (s :: ss) Φ := fun F M σ d E D A => by
  refine wpSs_of (pss_cons ps_wp pss_wp) ?_
  refine h F M σ d E _ ⟨fun ρ' σ' F' M' hk k1 d1 E1 => hk F' M' σ' d1 E1 D (A.mono k1), A.bk, A.ct, A.rt⟩
theorem ws_set {x : Str} {pos' : Pos} (i : Nat) (hN : X.N.Nodup) (hi : X.N[i]? = some x) (hx : Loc X.env.scope x) (h : EvX X f ρ e fun en => Φ.nx (ρ.set i (some en))) (hs : swapsWith e (some (.Name x pos')) pos.line X.env = pure false := by rfl)
    (hf : X.fn x = true ∨ X.env.scope.names.lookup x = some .local := by first | exact .inl rfl | exact .inr rfl | assumption) : WS X f ρ (.Assign [.Name x pos'] e pos) Φ := fun F M σ d E D A => by
  refine wpS_of (ps_set hN hi hx pe_wp hs hf) ?_
  refine h F M σ d E _ fun v en F1 M1 hk hv k1 d1 s1 fr => ?_
  exact A.nx _ _ F1 M1 hk k1 d1 ((E.step k1 s1).setE E hv fr)
theorem ws_par {x y : Str} {px py pt : Pos} {kt k2 pt2} (i j : Nat) (hc : X.calm = true) (hN : X.N.Nodup) (hi : X.N[i]? = some x) (hj : X.N[j]? = some y) (hij : i ≠ j)
    (hx : X.env.scope.names.lookup x = some .local) (hy : X.env.scope.names.lookup y = some .local)
    (h : EvX X f ρ a fun e1 => EvX X f ρ b fun e2 => Φ.nx ((ρ.set i (some e1)).set j (some e2)))
    (hw : swappedStores [.Tuple [.Name x px, .Name y py] kt pt] (.Tuple [a, b] k2 pt2) X.env = pure (some [x, y]))
    (ha : starEach (a :: [b]) X.env = (false, eval a X.env) :: starEach [b] X.env := by rfl) (hb : starEach (b :: []) X.env = (false, eval b X.env) :: starEach [] X.env := by rfl) :
    WS X f ρ (.Assign [.Tuple [.Name x px, .Name y py] kt pt] (.Tuple [a, b] k2 pt2) pos) Φ := fun F M σ d E D A => by
  refine wpS_of (ps_par hc hN hi hj hij hx hy (pa_cons pe_wp (pa_cons pe_wp pa_nil hb) ha) hw) ?_
  refine h F M σ d E _ fun v e1 F1 M1 hk hv k1 d1 s1 fr => ?_
  refine hk F1 M1 σ d1 (E.step k1 s1) _ fun w e2 F2 M2 hk2 hw k2 d2 s2 fr2 => ?_
  have E1 := (E.step k1 s1).setE (i := i) E hv fr
  exact ⟨v, w, rfl, A.nx _ _ F2 M2 hk2 (k1.trans k2) d2 ((E1.step k2 s2).setE E1 hw fr2)⟩
/-- what is left of one's own is frozen -/
theorem exit_ok {σ : L2.St} {F M : Hp} (E : EnvOk f σ ρ F M) (d : Dis F M) : ∃ F2 M2, ovl F2 M2 = ovl F M ∧ Same F F2 ∧ Dis F2 M2 ∧ f.exit M2 := by
  classical
  let keep : Addr → Prop := fun a => (f.M0 a).isSome = true ∨ f.U = some a
  refine ⟨fun a => match F a with | some o => some o | none => if keep a then none else M a, fun a => if keep a then M a else none, funext fun a => ?_, fun a o h => ?_, ⟨fun a o h => ?_, fun a o h => ?_⟩, fun a hu => ?_, fun u hu => ?_⟩
  · unfold ovl
    cases e : F a with
    | some o => simp only [e]
    | none =>
      by_cases hk : keep a
      · simp only [e, if_pos hk]
      · simp only [e, if_neg hk]
        cases M a <;> rfl
  · show (match F a with | some o => some o | none => if keep a then none else M a) = some o
    rw [h]
  · by_cases hk : keep a
    · simp only [if_pos hk] at h ⊢
      rw [d a o h]
    · simp only [if_neg hk] at h; cases h
  · by_cases hk : keep a
    · simp only [if_pos hk] at h
      exact d.nt a o h
    · simp only [if_neg hk] at h; cases h
  · show (if keep a then M a else none) = f.M0 a
    rcases Option.eq_none_or_eq_some (f.M0 a) with z | ⟨o, z⟩
    · rw [if_neg (fun hk => hk.elim (fun q => by rw [z] at q; cases q) hu), z]
    · rw [if_pos (.inl (by rw [z]; rfl)), z]; exact E.base a o z
  · obtain ⟨_, o, e, i⟩ := E.urn u hu
    exact ⟨o, by simp only [if_pos (show keep u from .inr hu)]; exact e, i⟩
theorem ws_ret (h : EvE X f ρ e Φ.rt) : WS X f ρ (.Return (some e) pos) Φ := fun F M σ d E D A => by
  refine wpS_of (ps_ret pe_wp) ?_
  refine h F M σ d E _ fun v R F1 M1 hk hv k1 d1 s1 => ?_
  obtain ⟨F2, M2, eq, k2, d2, x2⟩ := exit_ok (E.step k1 s1) d1
  show D.rt v (ovl F1 M1)
  rw [← eq]
  exact A.rt v R F2 M2 hk (R.mono _ _ _ k2 hv) (k1.trans k2) d2 x2
theorem ws_if {p q : List Stmt} (h : EvT X f ρ c fun k => (k = true → WSs X f ρ p Φ) ∧ (k = false → WSs X f ρ q Φ)) : WS X f ρ (.If c p q pos) Φ := fun F M σ d E D A => by
  refine wpS_of (ps_if pt_wp pss_wp pss_wp) ?_
  refine h F M σ d E _ fun k F1 M1 hk k1 d1 s1 => ?_
  cases k with
  | true => exact iteT (hk.1 rfl F1 M1 σ d1 (E.step k1 s1) D (A.mono k1))
  | false => exact iteF (hk.2 rfl F1 M1 σ d1 (E.step k1 s1) D (A.mono k1))
/-- what is known of the slots, less of it -/
structure Env.le (ρ ρ' : Env) : Prop where
  len : ρ.length = ρ'.length
  h : ∀ (i : Nat) (e : Ent), ρ'[i]? = some (some e) → ρ[i]? = some (some e)
theorem le_refl (ρ : Env) : Env.le ρ ρ := ⟨rfl, fun _ _ h => h⟩
theorem le_nil : Env.le [] [] := le_refl _
theorem le_keep {x : Option Ent} {ρ ρ' : Env} (h : Env.le ρ ρ') : Env.le (x :: ρ) (x :: ρ') := ⟨by rw [List.length_cons, List.length_cons, h.len], fun i e z => by
  cases i with
  | zero => exact z
  | succ i => exact h.h i e z⟩
theorem le_drop {x : Option Ent} {ρ ρ' : Env} (h : Env.le ρ ρ') : Env.le (x :: ρ) (none :: ρ') := ⟨by rw [List.length_cons, List.length_cons, h.len], fun i e z => by
  cases i with
  | zero => cases z
  | succ i => exact h.h i e z⟩
theorem EnvOk.le {σ : L2.St} {ρ ρ' : Env} {F M : Hp} (E : EnvOk f σ ρ F M) (h : Env.le ρ ρ') : EnvOk f σ ρ' F M :=
  ⟨E.len.trans h.len, fun i e z => E.ent i e (h.h i e z), fun i j P P' h1 h2 => E.inj i j P P' (h.h i _ h1) (h.h j _ h2), E.base, E.urn⟩
/-- S: what the turns carry; J: what holds of it -/
theorem ws_for {S : Type} (J : Nat → S → Prop) (env : S → Env) {tg iter : Expr} {body : List Stmt} {js : List Nat} (C : Ctx G k X)
    (h : EvIt X f ρ tg iter fun ds => (∃ s0, J 0 s0 ∧ Env.le ρ (env s0)) ∧ (∀ i s d, ds[i]? = some d → i < sizeLine → J i s → AsT X f (env s) tg (dat d) js fun ρ1 => WSs X f ρ1 body { nx := fun ρ2 => ∃ s', J (i + 1) s' ∧ Env.le ρ2 (env s'), ct := fun ρ2 => ∃ s', J (i + 1) s' ∧ Env.le ρ2 (env s'), bk := Φ.nx, rt := Φ.rt }) ∧ ∀ s, J ds.length s → Φ.nx (env s))
    (hs : ∀ x, foldedSetIterable iter X.env x = pure x := by intro _; rfl) : WS X f ρ (.For tg iter body [] pos) Φ := fun F M σ d E D A => by
  refine wpS_of (ps_for C.passes C.calm pi_wp pg_wp pss_wp hs) ?_
  refine h F M σ d E _ fun K ds F1 M1 hk hsz hW k1 d1 s1 => ?_
  obtain ⟨⟨s0, j0, l0⟩, turn, fin⟩ := hk
  refine ⟨fun i m σ H => m = ds.length - i ∧ i ≤ ds.length ∧ ∃ s F2 M2, J i s ∧ Same F1 F2 ∧ Dis F2 M2 ∧ EnvOk f σ (env s) F2 M2 ∧ H = ovl F2 M2, ⟨ds.length, by simp, Nat.zero_le _, s0, F1, M1, j0, Same.refl _, d1, (E.step k1 s1).le l0, rfl⟩, ?_⟩
  rintro i m σ2 H2 ⟨rfl, hi, s, F2, M2, hj, k2, d2, E2, rfl⟩
  obtain ⟨hgo, hstop⟩ := hW i F2 M2 k2 d2
  by_cases hlt : i < ds.length
  · obtain ⟨go, yl⟩ := hgo hlt
    refine .inr ⟨go, fun σ' H' => ∃ s' F3 M3, J (i + 1) s' ∧ Same F1 F3 ∧ Dis F3 M3 ∧ EnvOk f σ' (env s') F3 M3 ∧ H' = ovl F3 M3, fun σ' H' hN => ⟨ds.length - (i + 1), by omega, rfl, hlt, hN⟩, fun x H' hy => ?_⟩
    obtain ⟨F3, dd, hd, k3, d3, rfl, hx⟩ := yl x H' hy
    refine turn i s dd hd (Nat.lt_of_lt_of_le hlt hsz) hj F3 M2 σ2 x d3 (E2.mono k3) hx _ fun ρ4 σ4 F4 M4 hb w4 k4 d4 s4 E4 => ?_
    refine hb F4 M4 σ4 d4 E4 _ ⟨fun ρ5 σ5 F5 M5 h5 k5 d5 E5 => ?_, fun ρ5 σ5 F5 M5 h5 k5 d5 E5 => ?_, fun ρ5 σ5 F5 M5 h5 k5 d5 E5 => ?_, fun v R F5 M5 h5 r5 k5 d5 x5 => ?_⟩
    · obtain ⟨s', hj', l'⟩ := h5
      exact ⟨s', F5, M5, hj', k2.trans (k3.trans (k4.trans k5)), d5, E5.le l', rfl⟩
    · exact A.nx ρ5 σ5 F5 M5 h5 (k1.trans (k2.trans (k3.trans (k4.trans k5)))) d5 E5
    · obtain ⟨s', hj', l'⟩ := h5
      exact ⟨s', F5, M5, hj', k2.trans (k3.trans (k4.trans k5)), d5, E5.le l', rfl⟩
    · exact A.rt v R F5 M5 h5 r5 (k1.trans (k2.trans (k3.trans (k4.trans k5)))) d5 x5
  · have e : i = ds.length := by omega
    subst e
    exact .inl ⟨hstop (Nat.le_refl _), A.nx _ _ F2 M2 (fin s hj) (k1.trans k2) d2 E2⟩
theorem ws_while {S : Type} (J : Nat → S → Prop) (env : S → Env) {body : List Stmt} (C : Ctx G k X) (h0 : ∃ n s0, J n s0 ∧ Env.le ρ (env s0))
    (h : ∀ n s, J n s → EvT X f (env s) c fun b => (b = true → WSs X f (env s) body { nx := fun ρ2 => ∃ n' s', n' < n ∧ J n' s' ∧ Env.le ρ2 (env s'), ct := fun ρ2 => ∃ n' s', n' < n ∧ J n' s' ∧ Env.le ρ2 (env s'), bk := Φ.nx, rt := Φ.rt }) ∧ (b = false → Φ.nx (env s))) :
    WS X f ρ (.While c body [] pos) Φ := fun F M σ d E D A => by
  refine wpS_of (ps_while C.passes pt_wp pss_wp) ?_
  obtain ⟨n0, s0, j0, l0⟩ := h0
  refine ⟨fun m σ H => ∃ s F2 M2, J m s ∧ Same F F2 ∧ Dis F2 M2 ∧ EnvOk f σ (env s) F2 M2 ∧ H = ovl F2 M2, ⟨n0, s0, F, M, j0, Same.refl _, d, E.le l0, rfl⟩, ?_⟩
  rintro m σ2 H2 ⟨s, F2, M2, hj, k2, d2, E2, rfl⟩
  refine h m s hj F2 M2 σ2 d2 E2 _ fun b F3 M3 hb k3 d3 s3 => ?_
  have E3 := E2.step k3 s3
  cases b with
  | true =>
    refine iteT ⟨fun σ' H' => ∃ m' < m, ∃ s' F3 M3, J m' s' ∧ Same F F3 ∧ Dis F3 M3 ∧ EnvOk f σ' (env s') F3 M3 ∧ H' = ovl F3 M3, fun σ' H' ⟨m', hm, q⟩ => ⟨m', hm, q⟩, ?_⟩
    refine hb.1 rfl F3 M3 σ2 d3 E3 _ ⟨fun ρ5 σ5 F5 M5 h5 k5 d5 E5 => ?_, fun ρ5 σ5 F5 M5 h5 k5 d5 E5 => ?_, fun ρ5 σ5 F5 M5 h5 k5 d5 E5 => ?_, fun v R F5 M5 h5 r5 k5 d5 x5 => ?_⟩
    · obtain ⟨n', s', hn, hj', l'⟩ := h5
      exact ⟨n', hn, s', F5, M5, hj', k2.trans (k3.trans k5), d5, E5.le l', rfl⟩
    · exact A.nx ρ5 σ5 F5 M5 h5 (k2.trans (k3.trans k5)) d5 E5
    · obtain ⟨n', s', hn, hj', l'⟩ := h5
      exact ⟨n', hn, s', F5, M5, hj', k2.trans (k3.trans k5), d5, E5.le l', rfl⟩
    · exact A.rt v R F5 M5 h5 r5 (k2.trans (k3.trans k5)) d5 x5
  | false => exact iteF (A.nx _ _ F3 M3 (hb.2 rfl) (k2.trans k3) d3 E3)
end
end FR
set_option Elab.async false
set_option linter.all false
set_option maxRecDepth 100000
set_option maxHeartbeats 1000000
namespace FR
open PySem PySem.Spec PyProof.Rows L2

/-! ### what a def promises -/
abbrev Tp := List Rp → (Rp → Prop) → Prop
/-- a def that changes nothing of its callers' -/
def SpF (T : Tp) : Sp := fun vs H Q _ => ∃ Rs κ F M, RpA F vs Rs ∧ T Rs κ ∧ H = ovl F M ∧ Dis F M ∧ ∀ v R F', κ R → R.p v F' → Same F F' → Dis F' M → Q v (ovl F' M)
/-- a def whose first argument is the urn -/
def SpU (T : Tp) : Sp := fun vs H Q _ => ∃ u vs' Rs κ F M o, vs = .ref u :: vs' ∧ RpA F vs' Rs ∧ T Rs κ ∧ H = ovl F M ∧ Dis F M ∧ M u = some o ∧ IsUrn o ∧ ∀ v R F' o', κ R → R.p v F' → Same F F' → Dis F' M → IsUrn o' → Q v (ovl F' (upd M u o'))
structure Prom (G : Gb) (name : Str) (k : Nat) (ps : List Str) (sp : Sp) : Prop where
  ex : ∃ f fd, FnOk G.P G.w G.K G.mg G.base CX0 k f fd ps sp ∧ G.mg name = some (.ref f) ∧ PySem.W.keepIn G.K (.ref f) = true ∧ Binds G.K fd ps []
section
variable {X : Cx} {f : Fx} {ρ : Env} {e : Expr} {es : List Expr} {κ : Rp → Prop} {Φ : Post} {pos : Pos} {G : Gb} {k : Nat} {T : Tp} {name : Str} {ps : List Str}
theorem Prom.mono {j : Nat} {sp : Sp} (p : Prom G name j ps sp) (h : j ≤ k) : Prom G name k ps sp := by
  obtain ⟨f, fd, F, r⟩ := p.ex
  exact ⟨f, fd, F.mono h, r⟩
theorem ev_call {p : Pos} (P : Prom G name k ps (SpF T)) (C : Ctx G k X) (hg : Gl X name) (h : EvA X f ρ (e :: es) fun Rs => T Rs κ)
    (hdb : (name == ("__debug__" : Str)) = false := by decide) (he : starEach (e :: es) X.env = (false, eval e X.env) :: starEach es X.env := by rfl) (hpl : (backTo pos (starEach es X.env)).any (·.1) = false := by rfl) :
    EvE X f ρ (.Call (.Name name p) (e :: es) [] pos) κ := fun F M σ d E Q hQ => by
  obtain ⟨fa, fd, FO, hm, hk, hb⟩ := P.ex
  obtain ⟨g1, g2, g3, g4, g5, g6, g7, g8⟩ := C
  obtain ⟨GP, Gw, GK, Gmg, Gbase⟩ := G
  simp only at g1 g2 g3 g4 g5
  subst g1 g2 g3 g4 g5
  refine wpE_of (pe_call (E := fun _ _ _ => False) FO g8 hg hm hk hb .nil pass0 pa_wp hdb he hpl) ?_
  refine h F M σ d E _ fun vs Rs F1 M1 hT hv k1 d1 s1 => ?_
  rw [List.append_nil]
  exact ⟨Rs, κ, F1, M1, hv, hT, rfl, d1, fun v R F2 hκ hR k2 d2 => hQ v R F2 M1 hκ hR (k1.trans k2) d2 s1⟩
theorem ev_callU {x : Str} {p p2 : Pos} (i : Nat) (hu : ρ[i]? = some (some .ur)) (hN : X.N[i]? = some x) (hv : Vis X.env.scope x) (P : Prom G name k ps (SpU T)) (C : Ctx G k X) (hg : Gl X name) (h : EvA X f ρ es fun Rs => T Rs κ)
    (hd : (x == ("__debug__" : Str)) = false := by decide) (hcd : (x == ("__classdict__" : Str)) = false := by decide)
    (hdb : (name == ("__debug__" : Str)) = false := by decide) (he : starEach (.Name x p2 :: es) X.env = (false, eval (.Name x p2) X.env) :: starEach es X.env := by rfl) (hpl : (backTo pos (starEach es X.env)).any (·.1) = false := by rfl) :
    EvE X f ρ (.Call (.Name name p) (.Name x p2 :: es) [] pos) κ := fun F M σ d E Q hQ => by
  obtain ⟨fa, fd, FO, hm, hk, hb⟩ := P.ex
  obtain ⟨g1, g2, g3, g4, g5, g6, g7, g8⟩ := C
  obtain ⟨GP, Gw, GK, Gmg, Gbase⟩ := G
  simp only at g1 g2 g3 g4 g5
  subst g1 g2 g3 g4 g5
  refine wpE_of (pe_call (E := fun _ _ _ => False) FO g8 hg hm hk hb .nil pass0 (pa_cons (pe_var hN hv hd hcd) pa_wp he) hdb he hpl) ?_
  obtain ⟨v, hσ, u, rfl, hU⟩ := E.ent i _ hu
  refine ⟨.ref u, hσ, ?_⟩
  refine h F M σ d E _ fun vs Rs F1 M1 hT hv k1 d1 s1 => ?_
  obtain ⟨_, o, e1, iu⟩ := (E.step k1 s1).urn u hU
  show SpU T ((.ref u :: vs) ++ []) _ _ _
  rw [List.append_nil]
  refine ⟨u, vs, Rs, κ, F1, M1, o, rfl, hv, hT, rfl, d1, e1, iu, fun v R F2 o' hκ hR k2 d2 iu' => ?_⟩
  refine hQ v R F2 (upd M1 u o') hκ hR (k1.trans k2) ⟨fun a x hx => ?_, fun a x hx => ?_⟩ (stepT s1 ⟨fun a x hn hx => ?_, fun u' hu' => ?_⟩)
  · by_cases z : a = u
    · subst z; exact d2 a o e1
    · rw [upd_ne z] at hx; exact d2 a x hx
  · by_cases z : a = u
    · subst z
      rw [upd_same] at hx
      cases hx
      exact iu'.nt
    · rw [upd_ne z] at hx; exact d2.nt a x hx
  · have z : a ≠ u := fun z => hn (by rw [hU, z])
    rw [upd_ne z]; exact hx
  · have z : u' = u := Option.some.inj (hu'.symm.trans hU)
    subst z
    exact ⟨o', upd_same, iu'⟩

/-! ### a def keeps its promise -/
def startE (N : List Str) (Rs : List Rp) : Env := Rs.map (fun R => some (.fz R)) ++ List.replicate (N.length - Rs.length) none
theorem start_ok {f : Fx} {N : List Str} : ∀ {vs : List V} {Rs : List Rp} {F M : Hp}, RpA F vs Rs → Rs.length ≤ N.length → (∀ a o, f.M0 a = some o → M a = some o) → (∀ u, f.U = some u → f.M0 u = none ∧ ∃ o, M u = some o ∧ IsUrn o) → EnvOk f (start N vs) (startE N Rs) F M := fun {vs Rs F M} hv hl hb hu => by
  have hlen := hv.length
  have key : ∀ (vs : List V) (Rs : List Rp), RpA F vs Rs → ∀ (i : Nat) (R : Rp), Rs[i]? = some R → ∃ v, vs[i]? = some v ∧ R.p v F := fun vs => by
    induction vs with
    | nil => intro Rs h i R hi; cases Rs with
      | nil => simp at hi
      | cons _ _ => exact h.elim
    | cons v vs ih => intro Rs h i R hi; cases Rs with
      | nil => exact h.elim
      | cons R' Rs => cases i with
        | zero =>
          simp only [List.getElem?_cons_zero, Option.some.injEq] at hi
          subst hi
          exact ⟨v, rfl, h.1⟩
        | succ i =>
          simp only [List.getElem?_cons_succ] at hi ⊢
          exact ih Rs h.2 i R hi
  have look : ∀ (i : Nat) (e : Ent), (startE N Rs)[i]? = some (some e) → ∃ R, Rs[i]? = some R ∧ e = .fz R := fun i e h => by
    unfold startE at h
    by_cases hi : i < Rs.length
    · rw [List.getElem?_append_left (by rw [List.length_map]; exact hi), List.getElem?_map, List.getElem?_eq_getElem hi] at h
      have := Option.some.inj (Option.some.inj h)
      exact ⟨Rs[i], by rw [List.getElem?_eq_getElem hi], this.symm⟩
    · rw [List.getElem?_append_right (by rw [List.length_map]; omega), List.getElem?_replicate] at h
      split at h <;> cases h
  refine ⟨?_, fun i e h => ?_, fun i j P P' h => ?_, hb, hu⟩
  · unfold L2.start startE
    simp only [List.length_append, List.length_map, List.length_replicate]
    omega
  · obtain ⟨R, hR, rfl⟩ := look i e h
    obtain ⟨v, h1, h2⟩ := key vs Rs hv i R hR
    refine ⟨v, ?_, h2⟩
    unfold L2.start
    have hi : i < vs.length := (List.getElem?_eq_some_iff.mp h1).1
    rw [List.getElem?_append_left (by rw [List.length_map]; exact hi), List.getElem?_map, h1]
    rfl
  · obtain ⟨R, _, z⟩ := look i _ h
    cases z
theorem ok_fn {qual x : Str} {params : Arguments} {body : List Stmt} {scope : Scope} {fa : Addr} {fd : FuncData} {N : List Str} (F : FunD G.K x qual params body scope [] [] fa fd) (S : FnScope N ps scope) (hT : ∀ Rs κ, T Rs κ → Rs.length = ps.length)
    (h : ∀ X f Rs κ, Ctx G k X → (f.U = none ∧ ∀ x, X.fn x = true) → T Rs κ → WSs (mkX X N scope) f (startE N Rs) body { nx := fun _ => κ (dat .none), rt := κ }) : FnOk G.P G.w G.K G.mg G.base CX0 (k + 1) fa fd ps (SpF T) := by
  refine F.ok S (fun vs H Q E hs => ?_) (fun cdv A outer s H vs Q E hr hs => ?_)
  · obtain ⟨Rs, κ, _, _, hv, ht, _⟩ := hs
    rw [hv.length]; exact hT Rs κ ht
  · obtain ⟨Rs, κ, F0, M0, hv, ht, rfl, d, hQ⟩ := hs
    have hN : Rs.length ≤ N.length := by
      have := congrArg List.length S.pre
      rw [List.length_take] at this
      rw [hT Rs κ ht]; omega
    refine ⟨_, PSs.nox pss_wp, ?_⟩
    have C : Ctx G k (cxOf CX0 G.P G.w G.K G.mg G.base N qual scope fa cdv A outer s (ovl F0 M0) E).nox := ⟨rfl, rfl, rfl, rfl, rfl, rfl, rfl, hr⟩
    refine h _ ⟨M0, none⟩ Rs κ C ⟨rfl, fun _ => rfl⟩ ht F0 M0 (start N vs) d (start_ok hv hN (fun _ _ h => h) (fun _ z => nomatch z)) _ ⟨fun ρ' σ' F' M' hk k1 d1 E1 => ?_, fun _ _ _ _ z => z.elim, fun _ _ _ _ z => z.elim, fun v R F' M' hk hR k1 d1 x1 => ?_⟩
    · obtain ⟨F2, M2, eq, k2, d2, x2⟩ := exit_ok E1 d1
      have e2 : M2 = M0 := funext fun a => x2.1 a (fun z => nomatch z)
      subst e2
      show Q .non (ovl F' M')
      rw [← eq]
      exact hQ .non _ F2 hk Dq.non (k1.trans k2) d2
    · have e2 : M' = M0 := funext fun a => x1.1 a (fun z => nomatch z)
      subst e2
      exact hQ v R F' hk hR k1 d1
theorem ok_fnU {qual x : Str} {params : Arguments} {body : List Stmt} {scope : Scope} {fa : Addr} {fd : FuncData} {N : List Str} (F : FunD G.K x qual params body scope [] [] fa fd) (S : FnScope N ps scope) (hT : ∀ Rs κ, T Rs κ → Rs.length + 1 = ps.length)
    (h : ∀ X f u Rs κ, Ctx G k X → (f.U = some u ∧ ∀ x, X.fn x = true) → T Rs κ → WSs (mkX X N scope) f (some .ur :: (startE N (dat .none :: Rs)).tail) body { nx := fun _ => κ (dat .none), rt := κ }) : FnOk G.P G.w G.K G.mg G.base CX0 (k + 1) fa fd ps (SpU T) := by
  refine F.ok S (fun vs H Q E hs => ?_) (fun cdv A outer s H vs Q E hr hs => ?_)
  · obtain ⟨u, vs', Rs, κ, _, _, _, rfl, hv, ht, _⟩ := hs
    rw [List.length_cons, hv.length]; exact hT Rs κ ht
  · obtain ⟨u, vs', Rs, κ, F0, M0, o, rfl, hv, ht, rfl, d, hu, iu, hQ⟩ := hs
    have hN : Rs.length + 1 ≤ N.length := by
      have := congrArg List.length S.pre
      rw [List.length_take] at this
      rw [hT Rs κ ht]; omega
    refine ⟨_, PSs.nox pss_wp, ?_⟩
    have C : Ctx G k (cxOf CX0 G.P G.w G.K G.mg G.base N qual scope fa cdv A outer s (ovl F0 M0) E).nox := ⟨rfl, rfl, rfl, rfl, rfl, rfl, rfl, hr⟩
    let M1 : Hp := fun a => if a = u then none else M0 a
    have b1 : ∀ a o, M1 a = some o → M0 a = some o := fun a o h => by
      by_cases z : a = u
      · simp only [M1, if_pos z] at h; cases h
      · simp only [M1, if_neg z] at h; exact h
    let ex : Rp := ⟨fun v F => v = .ref u, fun _ _ _ _ h => h⟩
    have E0 : EnvOk ⟨M1, some u⟩ (start N (.ref u :: vs')) (startE N (ex :: Rs)) F0 M0 := start_ok (show RpA F0 (.ref u :: vs') (ex :: Rs) from ⟨rfl, hv⟩) hN b1 fun u' z => by
      cases z
      exact ⟨by simp only [M1, if_pos], o, hu, iu⟩
    have E1 : EnvOk ⟨M1, some u⟩ (start N (.ref u :: vs')) (some .ur :: (startE N (dat .none :: Rs)).tail) F0 M0 := by
      have e1 : startE N (ex :: Rs) = some (.fz ex) :: (startE N (dat .none :: Rs)).tail := by
        unfold startE
        rfl
      rw [e1] at E0
      refine ⟨E0.len, fun i e z => ?_, fun i j P P' z1 z2 z3 => ?_, E0.base, E0.urn⟩
      · cases i with
        | zero =>
          simp only [List.getElem?_cons_zero, Option.some.injEq] at z
          subst z
          exact ⟨.ref u, rfl, u, rfl, rfl⟩
        | succ i => exact E0.ent (i + 1) e z
      · cases i with
        | zero => simp only [List.getElem?_cons_zero, Option.some.injEq] at z1; cases z1
        | succ i =>
          cases j with
          | zero => simp only [List.getElem?_cons_zero, Option.some.injEq] at z2; cases z2
          | succ j => exact E0.inj (i + 1) (j + 1) P P' z1 z2 z3
    have back : ∀ M' : Hp, (⟨M1, some u⟩ : Fx).exit M' → ∃ o', IsUrn o' ∧ M' = upd M0 u o' := fun M' x => by
      obtain ⟨o', e, i⟩ := x.2 u rfl
      refine ⟨o', i, funext fun a => ?_⟩
      by_cases z : a = u
      · subst z; rw [upd_same]; exact e
      · rw [upd_ne z, x.1 a (fun q => z (Option.some.inj q).symm)]
        simp only [M1, if_neg z]
    have dm : ∀ {F' : Hp} {o' : HO}, Dis F' (upd M0 u o') → Dis F' M0 := fun {F' o'} dd => ⟨fun a x h => by
      by_cases z : a = u
      · subst z; exact dd a o' upd_same
      · exact dd a x (by rw [upd_ne z]; exact h), d.nt⟩
    refine h _ ⟨M1, some u⟩ u Rs κ C ⟨rfl, fun _ => rfl⟩ ht F0 M0 (start N (.ref u :: vs')) d E1 _ ⟨fun ρ' σ' F' M' hk k1 d1 E1 => ?_, fun _ _ _ _ z => z.elim, fun _ _ _ _ z => z.elim, fun v R F' M' hk hR k1 d1 x1 => ?_⟩
    · obtain ⟨F2, M2, eq, k2, d2, x2⟩ := exit_ok E1 d1
      obtain ⟨o', io, rfl⟩ := back M2 x2
      show Q .non (ovl F' M')
      rw [← eq]
      exact hQ .non _ F2 o' hk Dq.non (k1.trans k2) (dm d2) io
    · obtain ⟨o', io, rfl⟩ := back M' x1
      exact hQ v R F' o' hk hR k1 (dm d1) io
end
end FR
set_option Elab.async false
set_option linter.all false
set_option maxRecDepth 100000
set_option maxHeartbeats 1000000
namespace FR
open PySem PySem.Spec PyProof.Rows L2
section
variable {X : Cx} {f : Fx} {ρ : Env} {e a b : Expr} {es : List Expr} {κ : Rp → Prop} {Φ : Post} {pos : Pos} {G : Gb} {k : Nat}

/-! ### what is walked -/
theorem walks_list {K : PySem.W.Frag} {F : Hp} {a : Addr} {xs : List V} {ds : List D} (h : F a = some (.lst xs)) (hx : DqA F xs ds) : Walks (Itl K a) F ds := fun i F2 M k2 d2 => by
  have h2 : SqL K (ovl F2 M) a xs := SqL.of (ovl_F (k2 _ _ h))
  have u : ∀ ys, SqL K (ovl F2 M) a ys → True := fun _ _ => trivial
  refine ⟨fun hi => ?_, fun hi => ⟨xs, h2, by rw [hx.length]; exact hi⟩⟩
  obtain ⟨v, hv, hd⟩ := hx.get (List.getElem?_eq_getElem hi)
  refine ⟨⟨xs, v, h2, hv⟩, fun x H' ⟨e1, e2⟩ => ?_⟩
  subst e1
  have e3 : v = x := Option.some.inj (hv.symm.trans (e2 xs h2))
  subst e3
  exact ⟨F2, ds[i], List.getElem?_eq_getElem hi, Same.refl _, d2, rfl, hd.mono k2⟩
theorem walks_tup {K : PySem.W.Frag} {F : Hp} {a : Addr} {xs : List V} {ds : List D} (h : F a = some (.tup xs)) (hx : DqA F xs ds) : Walks (Itt K a) F ds := fun i F2 M k2 d2 => by
  have h2 : SqT K (ovl F2 M) a xs := SqT.of (ovl_F (k2 _ _ h))
  refine ⟨fun hi => ?_, fun hi => ⟨xs, h2, by rw [hx.length]; exact hi⟩⟩
  obtain ⟨v, hv, hd⟩ := hx.get (List.getElem?_eq_getElem hi)
  refine ⟨⟨xs, v, h2, hv⟩, fun x H' ⟨e1, e2⟩ => ?_⟩
  subst e1
  have e3 : v = x := Option.some.inj (hv.symm.trans (e2 xs h2))
  subst e3
  exact ⟨F2, ds[i], List.getElem?_eq_getElem hi, Same.refl _, d2, rfl, hd.mono k2⟩
theorem it_list {tg : Expr} {κ : List D → Prop} (h : EvE X f ρ e fun R => ∃ ds, R = li ds ∧ κ ds) : EvIt X f ρ tg e κ := fun F M σ d E R hR => by
  refine wpI_of (pi_list pe_wp) ?_
  refine wpE_valid ?_
  refine h F M σ d E _ fun v Rp F1 M1 hk hv k1 d1 s1 va => ?_
  obtain ⟨ds, rfl, hk⟩ := hk
  cases hv with
  | @lst a xs _ ha hx => exact ⟨a, rfl, ⟨xs, SqL.of (ovl_F ha)⟩, hR _ ds F1 M1 hk (by rw [← hx.length]; exact va.1 a xs (ovl_F ha)) (walks_list ha hx) k1 d1 s1⟩
theorem it_tup {tg : Expr} {κ : List D → Prop} (h : EvE X f ρ e fun R => ∃ ds, R = tu ds ∧ κ ds) : EvIt X f ρ tg e κ := fun F M σ d E R hR => by
  refine wpI_of (pi_tup pe_wp) ?_
  refine wpE_valid ?_
  refine h F M σ d E _ fun v Rp F1 M1 hk hv k1 d1 s1 va => ?_
  obtain ⟨ds, rfl, hk⟩ := hk
  cases hv with
  | @tup a xs _ ha hx => exact ⟨a, rfl, ⟨xs, SqT.of (ovl_F ha)⟩, hR _ ds F1 M1 hk (by rw [← hx.length]; exact va.2 a xs (ovl_F ha)) (walks_tup ha hx) k1 d1 s1⟩
/-- lo, lo + 1, .. -/
def rng (lo : Int) (n : Nat) : List D := (List.range n).map fun i => .int (lo + (i : Nat))
theorem rng_length (lo : Int) (n : Nat) : (rng lo n).length = n := by unfold rng; rw [List.length_map, List.length_range]
theorem rng_get {lo : Int} {n i : Nat} (h : i < n) : (rng lo n)[i]? = some (.int (lo + (i : Nat))) := by
  unfold rng
  rw [List.getElem?_map, List.getElem?_range h]
  rfl
theorem walks_rng {F : Hp} {lo : Int} {n : Nat} : Walks (Itr lo n) F (rng lo n) := fun i F2 M k2 d2 => by
  rw [rng_length]
  refine ⟨fun hi => ⟨hi, fun x H' ⟨e1, e2⟩ => ?_⟩, fun hi => hi⟩
  subst e1 e2
  exact ⟨F2, _, rng_get hi, Same.refl _, d2, rfl, Dq.int _⟩
theorem it_range1 {tg : Expr} {p : Pos} {κ : List D → Prop} (C : Ctx G k X) (hg : Gl X "range") (hm : G.mg "range" = none) (h : EvE X f ρ a fun R => ∃ n : Nat, R = nt n ∧ n ≤ 10000 ∧ κ (rng 0 n)) (hs : starEach [a] X.env = [(false, eval a X.env)] := by rfl) : EvIt X f ρ tg (.Call (.Name "range" p) [a] [] pos) κ := fun F M σ d E R hR => by
  refine wpI_of (pi_range1 hg (by rw [C.mg]; exact hm) (pa_cons pe_wp pa_nil hs) hs) ?_
  refine h F M σ d E _ fun v Rp F1 M1 hk hv k1 d1 s1 => ?_
  obtain ⟨n, rfl, hn, hk⟩ := hk
  cases hv
  have e : Itr 0 n = Itr 0 ((n : Int).toNat) := rfl
  refine ⟨n, rfl, by omega, by omega, ?_⟩
  rw [← e]
  exact hR _ (rng 0 n) F1 M1 hk (by rw [rng_length]; exact le_sz hn) walks_rng k1 d1 s1
theorem it_range2 {tg : Expr} {p : Pos} {κ : List D → Prop} (C : Ctx G k X) (hg : Gl X "range") (hm : G.mg "range" = none) (h : EvE X f ρ a fun R => EvE X f ρ b fun S => ∃ i j : Nat, R = nt i ∧ S = nt j ∧ i ≤ 10000 ∧ j ≤ 10000 ∧ κ (rng i (j - i))) (hs : starEach [a, b] X.env = [(false, eval a X.env), (false, eval b X.env)] := by rfl) (hs2 : starEach [b] X.env = [(false, eval b X.env)] := by rfl) :
    EvIt X f ρ tg (.Call (.Name "range" p) [a, b] [] pos) κ := fun F M σ d E R hR => by
  refine wpI_of (pi_range2 hg (by rw [C.mg]; exact hm) (pa_cons pe_wp (pa_cons pe_wp pa_nil hs2) (by rw [hs, hs2])) hs hs2) ?_
  refine h F M σ d E _ fun v Rp F1 M1 hk hv k1 d1 s1 => ?_
  refine hk F1 M1 σ d1 (E.step k1 s1) _ fun w Sp F2 M2 hk hw k2 d2 s2 => ?_
  obtain ⟨i, j, rfl, rfl, hi, hj, hk⟩ := hk
  cases hv
  cases hw
  have e : ((j : Int) - (i : Int)).toNat = j - i := by omega
  refine ⟨i, j, rfl, ⟨by omega, by omega, by omega, by omega⟩, ?_⟩
  rw [e]
  exact hR _ (rng i (j - i)) F2 M2 hk (by rw [rng_length]; exact le_sz (by omega)) walks_rng (k1.trans k2) d2 (stepT s1 s2)

/-! ### comprehensions -/
def wipeE (ρ : Env) : List Nat → Env
  | [] => ρ
  | v :: vs => (wipeE ρ vs).set v none
theorem EnvOk.wipeOk {σ : L2.St} {F M : Hp} : ∀ {ρ : Env} (js : List Nat), EnvOk f σ ρ F M → EnvOk f (L2.wipe σ js) (wipeE ρ js) F M
  | ρ, [], E => E
  | ρ, j :: js, E => by
    have E1 := EnvOk.wipeOk js E
    have lk : ∀ (i : Nat) (x : Ent), ((wipeE ρ js).set j none)[i]? = some (some x) → i ≠ j ∧ (wipeE ρ js)[i]? = some (some x) := fun i x h => by
      by_cases z : j = i
      · subst z
        by_cases hl : j < (wipeE ρ js).length
        · rw [List.getElem?_set_self hl] at h; cases h
        · rw [List.getElem?_eq_none (by rw [List.length_set]; omega)] at h; cases h
      · rw [List.getElem?_set_ne z] at h
        exact ⟨fun q => z q.symm, h⟩
    refine ⟨?_, fun i x h => ?_, fun i l P P' h1 h2 h3 => ?_, E1.base, E1.urn⟩
    · show ((L2.wipe σ js).set j none).length = ((wipeE ρ js).set j none).length
      rw [List.length_set, List.length_set]; exact E1.len
    · obtain ⟨ne, h⟩ := lk i x h
      obtain ⟨v, h1, h2⟩ := E1.ent i x h
      refine ⟨v, ?_, h2⟩
      show ((L2.wipe σ js).set j none)[i]? = _
      rw [List.getElem?_set_ne (Ne.symm ne)]; exact h1
    · obtain ⟨n1, h1⟩ := lk i _ h1
      obtain ⟨n2, h2⟩ := lk l _ h2
      refine E1.inj i l P P' h1 h2 ?_
      have h3 : ((L2.wipe σ js).set j none)[i]? = ((L2.wipe σ js).set j none)[l]? := h3
      rw [List.getElem?_set_ne (Ne.symm n1), List.getElem?_set_ne (Ne.symm n2)] at h3
      exact h3
theorem wipe_wipe {σ : L2.St} : ∀ js : List Nat, wipe (wipe σ js) js = wipe σ js := fun js => by
  have key : ∀ (js : List Nat) (i : Nat), i ∈ js → (L2.wipe σ js).set i none = L2.wipe σ js := fun js => by
    induction js with
    | nil => intro i h; cases h
    | cons j js ih =>
      intro i h
      show ((L2.wipe σ js).set j none).set i none = (L2.wipe σ js).set j none
      by_cases hj : i = j
      · subst hj; rw [List.set_set]
      · have hi : i ∈ js := (List.mem_cons.mp h).resolve_left hj
        rw [List.set_comm _ _ (Ne.symm hj), ih i hi]
  have gen : ∀ (ls : List Nat), (∀ i ∈ ls, i ∈ js) → L2.wipe (L2.wipe σ js) ls = L2.wipe σ js := fun ls => by
    induction ls with
    | nil => intro _; rfl
    | cons j ls ih =>
      intro h
      show (L2.wipe (L2.wipe σ js) ls).set j none = L2.wipe σ js
      rw [ih fun i hi => h i (List.mem_cons_of_mem _ hi)]
      exact key js j (h j List.mem_cons_self)
  exact gen js fun _ h => h
theorem ts_nil {κ : Bool → Prop} (h : κ true) : EvTs X f ρ [] κ := fun F M σ d E Q hQ => wpTs_of pts_nil (hQ true F M h (Same.refl _) d E.refl)
theorem ts_one {c : Expr} {κ : Bool → Prop} (h : EvT X f ρ c κ) : EvTs X f ρ [c] κ := fun F M σ d E Q hQ => wpTs_of (pts_one pt_wp) (h F M σ d E Q hQ)
/-- a block's context: as its def's, its own names -/
theorem Ctx.blk {N : List Str} {sc scope : Scope} {s : Shared} {H : Hp} {C : Addr} {cl : List (Str × Addr)} {fp : List Addr} (c : Ctx G k X) : ∃ X', Ctx G k X' ∧ (mkX X N sc).blk s H scope (compEnvC scope cl C (mkX X N sc).env) fp = mkX X' N (relS scope sc) :=
  ⟨(mkX X N sc).blk s H scope (compEnvC scope cl C (mkX X N sc).env) fp, ⟨c.prog, c.w, c.K, c.mg, c.base, c.calm, rfl, c.room⟩, rfl⟩
def del (M : Hp) (a : Addr) : Hp := fun b => if b = a then none else M b
theorem del_ne {M : Hp} {a b : Addr} (h : b ≠ a) : del M a b = M b := by unfold del; rw [if_neg h]
theorem del_same {M : Hp} {a : Addr} : del M a a = none := by unfold del; rw [if_pos rfl]
theorem del_some {M : Hp} {a b : Addr} {o : HO} (h : del M a b = some o) : b ≠ a ∧ M b = some o := by
  by_cases z : b = a
  · subst z; rw [del_same] at h; cases h
  · rw [del_ne z] at h; exact ⟨z, h⟩
/-- from the changing part to the frozen one -/
theorem ovl_move {F M : Hp} {a : Addr} {o : HO} (h : M a = some o) : ovl (upd F a o) (del M a) = upd (ovl F M) a o := by
  rw [upd_ovl]
  funext b
  unfold ovl
  by_cases z : b = a
  · subst z; rw [upd_same]
  · rw [upd_ne z, del_ne z]
theorem ovl_move' {F M : Hp} {a : Addr} {o : HO} (d : Dis F M) (h : M a = some o) : ovl (upd F a o) (del M a) = ovl F M := by
  rw [ovl_move h]
  funext b
  by_cases z : b = a
  · subst z; rw [upd_same, ovl_M (d _ _ h), h]
  · rw [upd_ne z]
theorem dis_move {F M : Hp} {a : Addr} {o : HO} (d : Dis F M) : Dis (upd F a o) (del M a) := ⟨fun b x h => by
  obtain ⟨z, h⟩ := del_some h
  rw [upd_ne z]; exact d b x h, fun b x h => d.nt b x (del_some h).2⟩
/-- what a list comprehension is to show -/
def LcOk (G : Gb) (k : Nat) (f : Fx) (ρ : Env) (N : List Str) (sc scope : Scope) (js : List Nat) (tg elt : Expr) (ifs : List Expr) (κ : Rp → Prop) (ds : List D) : Prop :=
  ∃ J : Nat → List D → Prop, J 0 [] ∧ (∀ i acc dd, ds[i]? = some dd → J i acc → ∀ X', Ctx G k X' → AsT (mkX X' N (relS scope sc)) f (wipeE ρ js) tg (dat dd) js fun ρ1 => ∀ X', Ctx G k X' → EvTs (mkX X' N (relS scope sc)) f ρ1 ifs fun b =>
    (b = true → ∀ X', Ctx G k X' → EvE (mkX X' N (relS scope sc)) f ρ1 elt fun R => ∃ y, R = dat y ∧ J (i + 1) (acc ++ [y])) ∧ (b = false → J (i + 1) acc)) ∧ ∀ acc, J ds.length acc → κ (li acc)
theorem lc_read {N : List Str} {sc scope : Scope} {own : List (Str × Nat)} {tg iter elt : Expr} {ifs : List Expr} {F M : Hp} {σ : L2.St} {Q : VK} (C : Ctx G k X) (d : Dis F M) (E : EnvOk f σ ρ F M)
    (h : EvIt (mkX X N sc) f ρ tg iter (LcOk G k f ρ N sc scope (own.map (·.2)) tg elt ifs κ))
    (hQ : ∀ v R F' M', κ R → R.p v F' → Same F F' → Dis F' M' → f.step M M' → Q v (ovl F' M')) :
    tLc (wpI (mkX X N sc) tg iter) (fun v σ H Q => ∀ (s : Shared) (H0 : Hp) (C : Addr) (cl : List (Str × Addr)) (fp : List Addr), wpG ((mkX X N sc).blk s H0 scope (compEnvC scope cl C (mkX X N sc).env) fp) tg v σ H Q)
      (fun σ H Q => ∀ (s : Shared) (H0 : Hp) (C : Addr) (cl : List (Str × Addr)) (fp : List Addr), wpTs ((mkX X N sc).blk s H0 scope (compEnvC scope cl C (mkX X N sc).env) fp) ifs σ H Q)
      (fun σ H Q => ∀ (s : Shared) (H0 : Hp) (C : Addr) (cl : List (Str × Addr)) (fp : List Addr), wpE ((mkX X N sc).blk s H0 scope (compEnvC scope cl C (mkX X N sc).env) fp) elt σ H Q) (own.map (·.2)) σ (ovl F M) Q := by
  refine h F M σ d E _ fun K ds F1 M1 hk hsz hW k1 d1 s1 => ?_
  obtain ⟨J, j0, turn, fin⟩ := hk
  intro D hD
  have E1 := E.step k1 s1
  have nU : f.U ≠ some D := fun z => by
    obtain ⟨_, o', e, _⟩ := E1.urn D z
    rw [(ovl_none hD).2] at e; cases e
  -- the new list stands in the changing part
  refine ⟨fun i m H => m = ds.length - i ∧ i ≤ ds.length ∧ ∃ acc xs F2 M2, J i acc ∧ acc.length ≤ i ∧ DqA F2 xs acc ∧ M2 D = some (.lst xs) ∧ Same F1 F2 ∧ Dis F2 M2 ∧ f.step M1 M2 ∧ H = ovl F2 M2, ⟨ds.length, by simp, Nat.zero_le _, [], [], F1, upd M1 D (.lst []), j0, Nat.le_refl _, .nil, upd_same, Same.refl _, dis_newM d1 (ovl_none hD).1 rfl, ⟨fun a o _ z => same_updN (ovl_none hD).2 a o z, fun u hu => ?_⟩, upd_ovlM (ovl_none hD).1⟩, ?_⟩
  · obtain ⟨_, o', z, i⟩ := E1.urn u hu
    exact ⟨o', same_updN (ovl_none hD).2 _ _ z, i⟩
  rintro i m H2 ⟨rfl, hi, acc, xs, F2, M2, hj, ha, hx, hDl, k2, d2, s2, rfl⟩
  obtain ⟨hgo, hstop⟩ := hW i F2 M2 k2 d2
  have E2 : EnvOk f σ ρ F2 M2 := E1.step k2 s2
  by_cases hlt : i < ds.length
  · obtain ⟨go, yl⟩ := hgo hlt
    refine .inr ⟨go, fun H' => ∃ acc xs F2 M2, J (i + 1) acc ∧ acc.length ≤ i + 1 ∧ DqA F2 xs acc ∧ M2 D = some (.lst xs) ∧ Same F1 F2 ∧ Dis F2 M2 ∧ f.step M1 M2 ∧ H' = ovl F2 M2, fun H' hN => ⟨ds.length - (i + 1), by omega, rfl, hlt, hN⟩, fun x H' hy s5 H5 C5 cl5 fp5 => ?_⟩
    obtain ⟨F3, dd, hd, k3, d3, rfl, hxx⟩ := yl x H' hy
    obtain ⟨X', C', eX⟩ := Ctx.blk (N := N) (sc := sc) (scope := scope) (s := s5) (H := H5) (C := C5) (cl := cl5) (fp := fp5) C
    rw [eX]
    refine turn i acc dd hd hj X' C' F3 M2 (wipe σ (own.map (·.2))) x d3 ((E2.mono k3).wipeOk _) hxx _ fun ρ4 σ4 F4 M4 hb w4 k4 d4 s4 E4 => ?_
    refine ⟨w4.trans (wipe_wipe _), fun s6 H6 C6 cl6 fp6 => ?_⟩
    obtain ⟨X6, C6', eX6⟩ := Ctx.blk (N := N) (sc := sc) (scope := scope) (s := s6) (H := H6) (C := C6) (cl := cl6) (fp := fp6) C
    rw [eX6]
    refine hb X6 C6' F4 M4 σ4 d4 E4 _ fun b F5 M5 hbb k5 d5 s5' => ?_
    have at5 : M5 D = some (.lst xs) := s5'.1 D _ nU (s4.1 D _ nU hDl)
    have st5 : f.step M1 M5 := stepT s2 (stepT s4 s5')
    cases b with
    | true =>
      refine iteT fun s7 H7 C7 cl7 fp7 => ?_
      obtain ⟨X7, C7', eX7⟩ := Ctx.blk (N := N) (sc := sc) (scope := scope) (s := s7) (H := H7) (C := C7) (cl := cl7) (fp := fp7) C
      rw [eX7]
      refine hbb.1 rfl X7 C7' F5 M5 σ4 d5 (E4.step k5 s5') _ fun v R F6 M6 hk6 hv6 k6 d6 s6' => ?_
      obtain ⟨y, rfl, hj'⟩ := hk6
      have at6 : M6 D = some (.lst xs) := s6'.1 D _ nU at5
      have st6 : f.step M1 M6 := stepT st5 s6'
      have fD : F6 D = none := d6 _ _ at6
      refine ⟨xs, by rw [ovl_M fD]; exact at6, by rw [hx.length]; omega, acc ++ [y], xs ++ [v], F6, upd M6 D (.lst (xs ++ [v])), hj', by rw [List.length_append, List.length_singleton]; omega, (hx.mono (k3.trans (k4.trans (k5.trans k6)))).append (.cons hv6 .nil), upd_same, k2.trans (k3.trans (k4.trans (k5.trans k6))), dis_newM d6 fD rfl, ⟨fun a o hn hz => ?_, fun u hu => ?_⟩, upd_ovlM fD⟩
      · have ne : a ≠ D := fun z => by rw [z, (ovl_none hD).2] at hz; cases hz
        rw [upd_ne ne]; exact st6.1 a o hn hz
      · obtain ⟨o', z, i'⟩ := st6.2 u hu
        have ne : u ≠ D := fun q => nU (by rw [hu, q])
        exact ⟨o', by rw [upd_ne ne]; exact z, i'⟩
    | false =>
      refine iteF ⟨acc, xs, F5, M5, hbb.2 rfl, by omega, hx.mono (k3.trans (k4.trans k5)), at5, k2.trans (k3.trans (k4.trans k5)), d5, st5, rfl⟩
  · have e : i = ds.length := by omega
    subst e
    refine .inl ⟨hstop (Nat.le_refl _), ?_⟩
    rw [← ovl_move' d2 hDl]
    refine hQ _ (li acc) (upd F2 D (.lst xs)) (del M2 D) (fin acc hj) (Dq.lst upd_same (hx.mono (same_updN (d2 _ _ hDl)))) (k1.trans (k2.trans (same_updN (d2 _ _ hDl)))) (dis_move d2) (stepT s1 ⟨fun a o hn hz => ?_, fun u hu => ?_⟩)
    · have ne : a ≠ D := fun z => by rw [z, (ovl_none hD).2] at hz; cases hz
      rw [del_ne ne]; exact s2.1 a o hn hz
    · obtain ⟨o', z, i'⟩ := s2.2 u hu
      have ne : u ≠ D := fun q => nU (by rw [hu, q])
      exact ⟨o', by rw [del_ne ne]; exact z, i'⟩
theorem pg_blk {N : List Str} {sc scope : Scope} {tg : Expr} (s : Shared) (H0 : Hp) (C : Addr) (cl : List (Str × Addr)) (fp : List Addr) : PG ((mkX X N sc).blk s H0 scope (compEnvC scope cl C (mkX X N sc).env) fp) tg (fun v σ H Q => ∀ (s : Shared) (H0 : Hp) (C : Addr) (cl : List (Str × Addr)) (fp : List Addr), wpG ((mkX X N sc).blk s H0 scope (compEnvC scope cl C (mkX X N sc).env) fp) tg v σ H Q) :=
  ⟨fun pins s' σ H v u Q I r h => pg_wp.run pins s' σ H v u Q I r (h s H0 C cl fp)⟩
theorem pts_blk {N : List Str} {sc scope : Scope} {ifs : List Expr} (s : Shared) (H0 : Hp) (C : Addr) (cl : List (Str × Addr)) (fp : List Addr) : PTs ((mkX X N sc).blk s H0 scope (compEnvC scope cl C (mkX X N sc).env) fp) ifs (fun σ H Q => ∀ (s : Shared) (H0 : Hp) (C : Addr) (cl : List (Str × Addr)) (fp : List Addr), wpTs ((mkX X N sc).blk s H0 scope (compEnvC scope cl C (mkX X N sc).env) fp) ifs σ H Q) :=
  ⟨fun pins s' σ H Q I h => pts_wp.run pins s' σ H Q I (h s H0 C cl fp)⟩
theorem pe_blk {N : List Str} {sc scope : Scope} {elt : Expr} (s : Shared) (H0 : Hp) (C : Addr) (cl : List (Str × Addr)) (fp : List Addr) : PE ((mkX X N sc).blk s H0 scope (compEnvC scope cl C (mkX X N sc).env) fp) elt (fun σ H Q => ∀ (s : Shared) (H0 : Hp) (C : Addr) (cl : List (Str × Addr)) (fp : List Addr), wpE ((mkX X N sc).blk s H0 scope (compEnvC scope cl C (mkX X N sc).env) fp) elt σ H Q) :=
  ⟨fun pins s' σ H Q I h => pe_wp.run pins s' σ H Q I (h s H0 C cl fp)⟩
/-- [elt for tg in iter if ..], with an invariant -/
theorem ev_lc {N : List Str} {sc scope : Scope} (own : List (Str × Nat)) {tg iter elt : Expr} {ifs : List Expr} (C : Ctx G k X) (hN : N.Nodup) (hB : blkC N sc scope own = true)
    (h : EvIt (mkX X N sc) f ρ tg iter (LcOk G k f ρ N sc scope (own.map (·.2)) tg elt ifs κ)) (hs : ∀ x, foldedSetIterable iter (mkX X N sc).env x = pure x := by intro _; rfl) : EvE (mkX X N sc) f ρ (.ListComp elt [⟨tg, iter, ifs, 0⟩] scope pos) κ := fun F M σ d E Q hQ =>
  wpE_of (pe_lc (own := own) C.calm hN pi_wp (blkOk_by hB) pg_blk pts_blk pe_blk hs) (lc_read C d E h hQ)
theorem ws_setLc {N : List Str} {sc scope : Scope} (i : Nat) {y : Str} {py spos : Pos} (own : List (Str × Nat)) {tg iter elt : Expr} {ifs : List Expr} (C : Ctx G k X) (hN : N.Nodup) (hy : N[i]? = some y) (hyl : sc.names.lookup y = some .local)
    (hsw : swapsWith (.ListComp elt [⟨tg, iter, ifs, 0⟩] scope pos) (some (.Name y py)) spos.line (mkX X N sc).env = pure true) (hB : blkC N sc scope own = true)
    (h : EvIt (mkX X N sc) f ρ tg iter (LcOk G k f ρ N sc scope (own.map (·.2)) tg elt ifs fun R => Φ.nx (ρ.set i (some (.fz R))))) (hs : ∀ x, foldedSetIterable iter (mkX X N sc).env x = pure x := by intro _; rfl) : WS (mkX X N sc) f ρ (.Assign [.Name y py] (.ListComp elt [⟨tg, iter, ifs, 0⟩] scope pos) spos) Φ := fun F M σ d E D A =>
  wpS_of (ps_setLc (own := own) C.calm hN hy hyl hsw pi_wp (blkOk_by hB) pg_blk pts_blk pe_blk hs) (lc_read C d E h fun v R F' M' hk hv k1 d1 s1 => A.nx _ _ F' M' hk k1 d1 ((E.step k1 s1).setR hv))
/-- the plain form: which items are kept, what each becomes -/
theorem lc_map {N : List Str} {sc scope : Scope} {js : List Nat} {tg elt : Expr} {ifs : List Expr} {ds : List D} (p : D → Bool) (g : D → D)
    (h : ∀ dd ∈ ds, ∀ X', Ctx G k X' → AsT (mkX X' N (relS scope sc)) f (wipeE ρ js) tg (dat dd) js fun ρ1 => ∀ X', Ctx G k X' → EvTs (mkX X' N (relS scope sc)) f ρ1 ifs fun b => b = p dd ∧ (b = true → ∀ X', Ctx G k X' → EvE (mkX X' N (relS scope sc)) f ρ1 elt fun R => R = dat (g dd)))
    (hκ : κ (li ((ds.filter p).map g))) : LcOk G k f ρ N sc scope js tg elt ifs κ ds := by
  refine ⟨fun i acc => acc = ((ds.take i).filter p).map g, rfl, fun i acc dd hd hj X' C' => ?_, fun acc hj => ?_⟩
  · subst hj
    have hm : dd ∈ ds := List.mem_of_getElem? hd
    have ht : ds.take (i + 1) = ds.take i ++ [dd] := by rw [List.take_add_one, hd]; rfl
    intro F M σ v d E hv Q hQ
    refine h dd hm X' C' F M σ v d E hv Q fun ρ1 σ1 F1 M1 hk w1 k1 d1 s1 E1 => hQ ρ1 σ1 F1 M1 (fun X2 C2 => ?_) w1 k1 d1 s1 E1
    intro F2 M2 σ2 d2 E2 Q2 hQ2
    refine hk X2 C2 F2 M2 σ2 d2 E2 Q2 fun b F3 M3 hb k3 d3 s3 => hQ2 b F3 M3 ⟨fun hbt X4 C4 => ?_, fun hbf => ?_⟩ k3 d3 s3
    · refine ev_imp (hb.2 hbt X4 C4) fun R hR => ⟨g dd, hR, ?_⟩
      show _ = ((ds.take (i + 1)).filter p).map g
      rw [ht, List.filter_append, List.map_append, List.filter_cons, List.filter_nil, if_pos (by rw [← hb.1]; exact hbt)]
      rfl
    · show _ = ((ds.take (i + 1)).filter p).map g
      rw [ht, List.filter_append, List.map_append, List.filter_cons, List.filter_nil, if_neg (by rw [← hb.1, hbf]; exact Bool.false_ne_true)]
      simp
  · subst hj
    rw [List.take_length]; exact hκ
/-- the same over things of one kind -/
theorem lc_mapT {α : Type} {N : List Str} {sc scope : Scope} {js : List Nat} {tg elt : Expr} {ifs : List Expr} {xs : List α} (en : α → D) (p : α → Bool) (g : α → D)
    (h : ∀ x ∈ xs, ∀ X', Ctx G k X' → AsT (mkX X' N (relS scope sc)) f (wipeE ρ js) tg (dat (en x)) js fun ρ1 => ∀ X', Ctx G k X' → EvTs (mkX X' N (relS scope sc)) f ρ1 ifs fun b => b = p x ∧ (b = true → ∀ X', Ctx G k X' → EvE (mkX X' N (relS scope sc)) f ρ1 elt fun R => R = dat (g x)))
    (hκ : κ (li ((xs.filter p).map g))) : LcOk G k f ρ N sc scope js tg elt ifs κ (xs.map en) := by
  refine ⟨fun i acc => acc = ((xs.take i).filter p).map g, rfl, fun i acc dd hd hj X' C' => ?_, fun acc hj => ?_⟩
  · subst hj
    rw [List.getElem?_map] at hd
    cases hx : xs[i]? with
    | none => rw [hx] at hd; cases hd
    | some x =>
      rw [hx] at hd
      have e := Option.some.inj hd
      subst e
      have hm : x ∈ xs := List.mem_of_getElem? hx
      have ht : xs.take (i + 1) = xs.take i ++ [x] := by rw [List.take_add_one, hx]; rfl
      intro F M σ v d E hv Q hQ
      refine h x hm X' C' F M σ v d E hv Q fun ρ1 σ1 F1 M1 hk w1 k1 d1 s1 E1 => hQ ρ1 σ1 F1 M1 (fun X2 C2 => ?_) w1 k1 d1 s1 E1
      intro F2 M2 σ2 d2 E2 Q2 hQ2
      refine hk X2 C2 F2 M2 σ2 d2 E2 Q2 fun b F3 M3 hb k3 d3 s3 => hQ2 b F3 M3 ⟨fun hbt X4 C4 => ?_, fun hbf => ?_⟩ k3 d3 s3
      · refine ev_imp (hb.2 hbt X4 C4) fun R hR => ⟨g x, hR, ?_⟩
        show _ = ((xs.take (i + 1)).filter p).map g
        rw [ht, List.filter_append, List.map_append, List.filter_cons, List.filter_nil, if_pos (by rw [← hb.1]; exact hbt)]
        rfl
      · show _ = ((xs.take (i + 1)).filter p).map g
        rw [ht, List.filter_append, List.map_append, List.filter_cons, List.filter_nil, if_neg (by rw [← hb.1, hbf]; exact Bool.false_ne_true)]
        simp
  · subst hj
    rw [List.length_map, List.take_length]; exact hκ
/-- no test: each becomes something -/
theorem lc_each {α : Type} {N : List Str} {sc scope : Scope} {js : List Nat} {tg elt : Expr} {xs : List α} (en : α → D) (g : α → D)
    (h : ∀ x ∈ xs, ∀ X', Ctx G k X' → AsT (mkX X' N (relS scope sc)) f (wipeE ρ js) tg (dat (en x)) js fun ρ1 => ∀ X', Ctx G k X' → EvE (mkX X' N (relS scope sc)) f ρ1 elt fun R => R = dat (g x))
    (hκ : κ (li (xs.map g))) : LcOk G k f ρ N sc scope js tg elt [] κ (xs.map en) :=
  lc_mapT en (fun _ => true) g (fun x hx X' C' F M σ v d E hv Q hQ => h x hx X' C' F M σ v d E hv Q fun ρ1 σ1 F1 M1 hk w1 k1 d1 s1 E1 => hQ ρ1 σ1 F1 M1 (fun X2 C2 => ts_nil ⟨rfl, fun _ X4 C4 => hk X4 C4⟩) w1 k1 d1 s1 E1) (by rw [show xs.filter (fun _ => true) = xs from List.filter_eq_self.mpr fun _ _ => rfl]; exact hκ)
end
end FR
set_option Elab.async false
set_option linter.all false
set_option maxRecDepth 100000
set_option maxHeartbeats 1000000
namespace FR
open PySem PySem.Spec PyProof.Rows L2

instance (priority := 2000) pairBEq {α β : Type} [DecidableEq α] [DecidableEq β] : BEq (α × β) := instBEqOfDecidableEq
instance (priority := 2000) listBEq {α : Type} [DecidableEq α] : BEq (List α) := instBEqOfDecidableEq
/-! ### data of one form -/
theorem eqv_eq : (∀ d e : D, PySem.W.alike d e = true → PyData.eqv d e = true → d = e) ∧ (∀ ds es : List D, PySem.W.alikeAll ds es = true → PyData.eqvAll ds es = true → ds = es) := by
  have : ∀ d : D, ∀ e : D, PySem.W.alike d e = true → PyData.eqv d e = true → d = e := fun d => by
    refine PyData.rec (motive_1 := fun d => ∀ e : D, PySem.W.alike d e = true → PyData.eqv d e = true → d = e)
      (motive_2 := fun ds => ∀ es : List D, PySem.W.alikeAll ds es = true → PyData.eqvAll ds es = true → ds = es) (motive_3 := fun _ => True) (motive_4 := fun _ => True) ?_ ?_ ?_ ?_ ?_ ?_ ?_ ?_ ?_ ?_ ?_ ?_ d
    · intro e h _; cases e <;> first | rfl | simp [PySem.W.alike] at h
    · intro b e h q; cases e <;> first | (simp [PyData.eqv] at q; subst q; rfl) | simp [PySem.W.alike] at h
    · intro b e h q; cases e <;> first | (simp [PyData.eqv] at q; subst q; rfl) | simp [PySem.W.alike] at h
    · intro b e h q; cases e <;> first | (simp [PyData.eqv] at q; subst q; rfl) | simp [PySem.W.alike] at h
    · intro xs ih e h q
      cases e with
      | list ys => rw [ih ys (by simpa [PySem.W.alike] using h) (by simpa [PyData.eqv] using q)]
      | _ => simp [PySem.W.alike] at h
    · intro xs ih e h q
      cases e with
      | tuple ys => rw [ih ys (by simpa [PySem.W.alike] using h) (by simpa [PyData.eqv] using q)]
      | _ => simp [PySem.W.alike] at h
    · intro kvs _ e h; cases e <;> simp [PySem.W.alike] at h
    · intro es h q
      cases es with
      | nil => rfl
      | cons e es => simp [PyData.eqvAll] at q
    · intro d ds ih ihs es h q
      cases es with
      | nil => simp [PyData.eqvAll] at q
      | cons e es =>
        simp only [PySem.W.alikeAll, Bool.and_eq_true] at h
        simp only [PyData.eqvAll, Bool.and_eq_true] at q
        rw [ih e h.1 q.1, ihs es h.2 q.2]
    · trivial
    · intros; trivial
    · intros; trivial
  refine ⟨this, fun ds => ?_⟩
  induction ds with
  | nil =>
    intro es h q
    cases es with
    | nil => rfl
    | cons e es => simp [PyData.eqvAll] at q
  | cons d ds ih =>
    intro es h q
    cases es with
    | nil => simp [PyData.eqvAll] at q
    | cons e es =>
      simp only [PySem.W.alikeAll, Bool.and_eq_true] at h
      simp only [PyData.eqvAll, Bool.and_eq_true] at q
      rw [this d e h.1 q.1, ih es h.2 q.2]
/-- things of one kind as data -/
structure Enc (α : Type) where
  enc : α → D
  alike : ∀ x y, PySem.W.alike (enc x) (enc y) = true
  inj : ∀ x y, enc x = enc y → x = y
  lay : ∀ x, (enc x).canLay0 = true
  depth : ∀ x, (enc x).depth ≤ 20
section
variable {α β : Type}
theorem Enc.eqv [DecidableEq α] (E : Enc α) (x y : α) : PyData.eqv (E.enc x) (E.enc y) = decide (x = y) := by
  by_cases h : x = y
  · subst h
    rw [PySem.W.eqv_refl_alike _ (E.alike x x)]; simp
  · rw [decide_eq_false h]
    cases q : PyData.eqv (E.enc x) (E.enc y) with
    | false => rfl
    | true => exact absurd (E.inj _ _ (eqv_eq.1 _ _ (E.alike x y) q)) h
theorem alikeAll_map (E : Enc α) : ∀ xs ys : List α, PySem.W.alikeAll (xs.map E.enc) (ys.map E.enc) = true
  | [], _ => by simp [PySem.W.alikeAll]
  | _ :: _, [] => by simp [PySem.W.alikeAll]
  | x :: xs, y :: ys => by
    simp only [List.map_cons, PySem.W.alikeAll, Bool.and_eq_true]
    exact ⟨E.alike x y, alikeAll_map E xs ys⟩
theorem map_inj (E : Enc α) : ∀ xs ys : List α, xs.map E.enc = ys.map E.enc → xs = ys
  | [], [], _ => rfl
  | [], _ :: _, h => by simp at h
  | _ :: _, [], h => by simp at h
  | x :: xs, y :: ys, h => by
    simp only [List.map_cons, List.cons.injEq] at h
    rw [E.inj _ _ h.1, map_inj E xs ys h.2]
theorem layAll_map (E : Enc α) : ∀ xs : List α, PyData.canLayAll0 (xs.map E.enc) = true
  | [] => by simp [PyData.canLayAll0]
  | x :: xs => by simp only [List.map_cons, PyData.canLayAll0, Bool.and_eq_true]; exact ⟨E.lay x, layAll_map E xs⟩
theorem depthAll_map (E : Enc α) {n : Nat} (h : ∀ x, (E.enc x).depth ≤ n) : ∀ xs : List α, PyData.depthAll (xs.map E.enc) ≤ n
  | [] => by simp [PyData.depthAll]
  | x :: xs => by
    simp only [List.map_cons, PyData.depthAll]
    have := h x
    have := depthAll_map E h xs
    omega
/-- a name -/
def okC (c : Nat) : Bool := decide (97 ≤ c) && decide (c ≤ 122)
def okName (x : Str) : Bool := decide (1 ≤ x.cps.size) && decide (x.cps.size ≤ 8) && x.cps.all okC
def Nm : Type := { x : Str // okName x = true }
instance : DecidableEq Nm := fun a b => decidable_of_iff (a.1 = b.1) Subtype.ext_iff.symm
theorem Nm.lay (x : Nm) : PyData.strOk x.1 = true := by
  have h := x.2
  unfold okName at h
  simp only [Bool.and_eq_true] at h
  have h2 := h.2
  unfold PyData.strOk
  rw [Array.all_eq_true] at h2 ⊢
  intro i hi
  have := h2 i hi
  unfold okC at this
  simp only [Bool.and_eq_true, decide_eq_true_eq] at this
  simp only [decide_eq_true_eq]
  omega
def eN : Enc Nm where
  enc x := .str x.1
  alike _ _ := by simp [PySem.W.alike]
  inj x y h := by
    injection h with h
    exact Subtype.ext h
  lay x := by simp only [PyData.canLay0]; exact Nm.lay x
  depth _ := by simp [PyData.depth]
/-- a tuple of things; a list -/
def eT (E : Enc α) (h : ∀ x, (E.enc x).depth ≤ 19) : Enc (List α) where
  enc xs := .tuple (xs.map E.enc)
  alike xs ys := by simp only [PySem.W.alike]; exact alikeAll_map E xs ys
  inj xs ys e := by
    injection e with e
    exact map_inj E xs ys e
  lay xs := by simp only [PyData.canLay0]; exact layAll_map E xs
  depth xs := by
    simp only [PyData.depth]
    have := depthAll_map E h xs
    omega
def eL (E : Enc α) (h : ∀ x, (E.enc x).depth ≤ 19) : Enc (List α) where
  enc xs := .list (xs.map E.enc)
  alike xs ys := by simp only [PySem.W.alike]; exact alikeAll_map E xs ys
  inj xs ys e := by
    injection e with e
    exact map_inj E xs ys e
  lay xs := by simp only [PyData.canLay0]; exact layAll_map E xs
  depth xs := by
    simp only [PyData.depth]
    have := depthAll_map E h xs
    omega
/-- a pair -/
def eP (E : Enc α) (E' : Enc β) (h : ∀ x, (E.enc x).depth ≤ 19) (h' : ∀ x, (E'.enc x).depth ≤ 19) : Enc (α × β) where
  enc x := .tuple [E.enc x.1, E'.enc x.2]
  alike x y := by simp only [PySem.W.alike, PySem.W.alikeAll, Bool.and_true, Bool.and_eq_true]; exact ⟨E.alike _ _, E'.alike _ _⟩
  inj x y e := by
    injection e with e
    simp only [List.cons.injEq, and_true] at e
    exact Prod.ext (E.inj _ _ e.1) (E'.inj _ _ e.2)
  lay x := by simp only [PyData.canLay0, PyData.canLayAll0, Bool.and_true, Bool.and_eq_true]; exact ⟨E.lay _, E'.lay _⟩
  depth x := by
    simp only [PyData.depth, PyData.depthAll]
    have := h x.1
    have := h' x.2
    omega
theorem Enc.shaped (E : Enc α) (x : α) : SeqAt.shaped (E.enc x) = true := by
  have := E.depth x
  show ((E.enc x).canLay0 && decide ((E.enc x).depth ≤ 64)) = true
  rw [Bool.and_eq_true]
  exact ⟨E.lay x, decide_eq_true (by omega)⟩
end

section
variable {X : Cx} {f : Fx} {ρ : Env} {e a b c : Expr} {es : List Expr} {κ : Rp → Prop} {Φ : Post} {pos : Pos} {G : Gb} {k : Nat} {α : Type}
theorem Same.dp {K : PySem.W.Frag} {F M : Hp} {v : V} {d : D} (h : Dq F v d) : Dp K (ovl F M) v d := (h.mono (same_ovl F M)).dp

/-! ### operators -/
theorem oo_eqD {K : PySem.W.Frag} [DecidableEq α] (E : Enc α) {x y : α} (h : κ (bl (decide (x = y)))) : OpOk (rEqD K) (dat (E.enc x)) (dat (E.enc y)) κ := fun F M u v d hu hv va Q hQ =>
  ⟨_, _, Same.dp hu, Same.dp hv, E.shaped x, E.shaped y, by rw [E.eqv]; exact hQ _ _ F h (Dq.bl _) (Same.refl F) d⟩
theorem oo_neD {K : PySem.W.Frag} [DecidableEq α] (E : Enc α) {x y : α} (h : κ (bl (!decide (x = y)))) : OpOk (rNeD K) (dat (E.enc x)) (dat (E.enc y)) κ := fun F M u v d hu hv va Q hQ =>
  ⟨_, _, Same.dp hu, Same.dp hv, E.shaped x, E.shaped y, by rw [E.eqv]; exact hQ _ _ F h (Dq.bl _) (Same.refl F) d⟩
theorem oo_str (r : R2) {g : Str → Str → Bool} {x y : Str} (hr : ∀ H (Q : VK), Q (.bl (g x y)) H → r (.str x) (.str y) H Q) (h : κ (bl (g x y))) : OpOk r (FR.st x) (FR.st y) κ := fun F M u v d hu hv va Q hQ => by
  cases hu
  cases hv
  exact hr _ _ (hQ _ _ F h (Dq.bl _) (Same.refl F) d)
theorem oo_intB (r : R2) {g : Int → Int → Bool} {x y : Int} (hr : ∀ H (Q : VK), Q (.bl (g x y)) H → r (.int x) (.int y) H Q) (h : κ (bl (g x y))) : OpOk r (nt x) (nt y) κ := fun F M u v d hu hv va Q hQ => by
  cases hu
  cases hv
  exact hr _ _ (hQ _ _ F h (Dq.bl _) (Same.refl F) d)
theorem oo_int (r : R2) {g : Int → Int → Int} {x y : Int} (hr : ∀ H (Q : VK), Q (.int (g x y)) H → r (.int x) (.int y) H Q) (h : κ (nt (g x y))) : OpOk r (nt x) (nt y) κ := fun F M u v d hu hv va Q hQ => by
  cases hu
  cases hv
  exact hr _ _ (hQ _ _ F h (Dq.int _) (Same.refl F) d)
theorem dec_str (x y : Str) : decide (V.str x = V.str y) = decide (x = y) := by
  by_cases h : x = y
  · subst h; simp
  · rw [decide_eq_false h, decide_eq_false fun z => h (V.str.inj z)]
theorem dec_int (x y : Int) : decide (V.int x = V.int y) = decide (x = y) := by
  by_cases h : x = y
  · subst h; simp
  · rw [decide_eq_false h, decide_eq_false fun z => h (V.int.inj z)]
theorem dec_bl (x y : Bool) : decide (V.bl x = V.bl y) = decide (x = y) := by
  by_cases h : x = y
  · subst h; simp
  · rw [decide_eq_false h, decide_eq_false fun z => h (V.bl.inj z)]
/-- a + b, a - b, a < b .. of whole numbers -/
theorem ev_add (h : EvE X f ρ a fun R => EvE X f ρ b fun S => ∃ x y : Int, R = nt x ∧ S = nt y ∧ κ (nt (x + y))) : EvE X f ρ (.BinOp a .Add b pos) κ :=
  ev_bin op_add (ev_imp h fun R hh => ev_imp hh fun S ⟨x, y, e1, e2, hz⟩ => by subst e1 e2; exact oo_int (g := fun x y => x + y) _ (fun H Q q => ⟨x, y, rfl, rfl, q⟩) hz)
theorem ev_adds (h : EvE X f ρ a fun R => EvE X f ρ b fun S => ∃ x y : Str, R = FR.st x ∧ S = FR.st y ∧ x.length + y.length ≤ 10000 ∧ κ (FR.st (x ++ y))) : EvE X f ρ (.BinOp a .Add b pos) κ :=
  ev_bin op_add_str (ev_imp h fun R hh => ev_imp hh fun S ⟨x, y, e1, e2, hl, hz⟩ => by
    subst e1 e2
    intro F M u v d hu hv va Q hQ
    cases hu
    cases hv
    exact ⟨x, y, rfl, rfl, le_sz hl, hQ _ _ F hz (Dq.str _) (Same.refl F) d⟩)
theorem ev_mul (h : EvE X f ρ a fun R => EvE X f ρ b fun S => ∃ x y : Int, R = nt x ∧ S = nt y ∧ ((-(2 ^ 64) < x ∧ x < 2 ^ 64) ∨ (-(2 ^ 64) < y ∧ y < 2 ^ 64)) ∧ κ (nt (x * y))) : EvE X f ρ (.BinOp a .Mult b pos) κ :=
  ev_bin op_mul (ev_imp h fun R hh => ev_imp hh fun S ⟨x, y, e1, e2, hc, hz⟩ => by
    subst e1 e2
    intro F M u v d hu hv va Q hQ
    cases hu
    cases hv
    exact ⟨x, y, rfl, rfl, hc, hQ _ _ F hz (Dq.int _) (Same.refl F) d⟩)
theorem ev_mod (h : EvE X f ρ a fun R => EvE X f ρ b fun S => ∃ x y : Int, R = nt x ∧ S = nt y ∧ 0 < y ∧ κ (nt (x % y))) : EvE X f ρ (.BinOp a .Mod b pos) κ :=
  ev_bin op_mod (ev_imp h fun R hh => ev_imp hh fun S ⟨x, y, e1, e2, hc, hz⟩ => by
    subst e1 e2
    intro F M u v d hu hv va Q hQ
    cases hu
    cases hv
    exact ⟨x, y, rfl, rfl, hc, hQ _ _ F hz (Dq.int _) (Same.refl F) d⟩)
theorem ev_fdiv (h : EvE X f ρ a fun R => EvE X f ρ b fun S => ∃ x y : Int, R = nt x ∧ S = nt y ∧ y ≠ 0 ∧ y.natAbs < 1073741824 ∧ κ (nt (x.fdiv y))) : EvE X f ρ (.BinOp a .FloorDiv b pos) κ :=
  ev_bin op_fdivN (ev_imp h fun R hh => ev_imp hh fun S ⟨x, y, e1, e2, hc, hd, hz⟩ => by
    subst e1 e2
    intro F M u v d hu hv va Q hQ
    cases hu
    cases hv
    exact ⟨x, y, rfl, rfl, ⟨hc, hd⟩, hQ _ _ F hz (Dq.int _) (Same.refl F) d⟩)
theorem ev_pow (h : EvE X f ρ a fun R => EvE X f ρ b fun S => ∃ x y : Int, R = nt x ∧ S = nt y ∧ 0 ≤ y ∧ y ≤ 1000000 ∧ x.natAbs < 2 ^ 64 ∧ κ (nt (x ^ y.toNat))) : EvE X f ρ (.BinOp a .Pow b pos) κ :=
  ev_bin op_pow (ev_imp h fun R hh => ev_imp hh fun S ⟨x, y, e1, e2, h0, h1, h2, hz⟩ => by
    subst e1 e2
    intro F M u v d hu hv va Q hQ
    cases hu
    cases hv
    exact ⟨x, y, rfl, rfl, ⟨h0, h1, h2⟩, hQ _ _ F hz (Dq.int _) (Same.refl F) d⟩)
/-- tuple + tuple -/
theorem ev_catT (h : EvE X f ρ a fun R => EvE X f ρ b fun S => ∃ xs ys : List D, R = tu xs ∧ S = tu ys ∧ xs.length + ys.length ≤ 10000 ∧ κ (tu (xs ++ ys))) : EvE X f ρ (.BinOp a .Add b pos) κ :=
  ev_bin op_catA (ev_imp h fun R hh => ev_imp hh fun S ⟨xs, ys, e1, e2, hl, hz⟩ => by
    subst e1 e2
    intro F M u v d hu hv va Q hQ
    cases hu with
    | @tup a us _ ha hx =>
      cases hv with
      | @tup b ws _ hb hy =>
        have hcat := hx.append hy
        have same : ∀ v, Dq F v (.tuple (xs ++ ys)) → Q v (ovl F M) := fun v hv => hQ _ _ F hz hv (Same.refl F) d
        refine ⟨a, b, us, ws, rfl, rfl, SqT.of (ovl_F ha), SqT.of (ovl_F hb), by rw [hx.length, hy.length]; exact le_sz hl, fun z => ?_, fun _ z => ?_, fun _ _ p hp => ?_⟩
        · subst z
          exact same _ (Dq.tup (by simpa using hb) (by simpa using hcat))
        · subst z
          exact same _ (Dq.tup (by simpa using ha) (by simpa using hcat))
        · exact new_of (Q := fun H => Q (.ref p) H) d hp fun F2 _ k2 d2 e2 => hQ _ _ F2 hz (Dq.tup e2 (hcat.mono k2)) k2 d2)
end
end FR
set_option Elab.async false
set_option linter.all false
set_option maxRecDepth 100000
set_option maxHeartbeats 1000000
namespace FR
open PySem PySem.Spec PyProof.Rows L2
section
variable {X : Cx} {f : Fx} {ρ : Env} {e a b c : Expr} {es : List Expr} {κ : Rp → Prop} {Φ : Post} {pos : Pos} {G : Gb} {k : Nat} {α : Type}

/-! ### comparisons -/
def wpC (X : Cx) (op : CmpOp) (a b : Expr) : TE := fun σ H Q => ∀ pins s, Inv X pins σ H s →
    wpAny (model X.prog X.w) X.A (eval a X.env) (fun v s₁ => wpAny (model X.prog X.w) X.A (eval b X.env) (fun u s₂ => wpAny (model X.prog X.w) X.A (compareOp op v u) (EP X pins σ Q) X.xe s₂) X.xe s₁) X.xe s
theorem pc_wp {op : CmpOp} : PC X op a b (wpC X op a b) := ⟨fun pins s σ H Q I h => h pins s I⟩
def EvC (X : Cx) (f : Fx) (ρ : Env) (op : CmpOp) (a b : Expr) (κ : Rp → Prop) : Prop := ∀ F M σ, Dis F M → EnvOk f σ ρ F M → ∀ Q : VK,
  (∀ v R F' M', κ R → R.p v F' → Same F F' → Dis F' M' → f.step M M' → Q v (ovl F' M')) → wpC X op a b σ (ovl F M) Q
theorem ev_c {op : CmpOp} (h : EvC X f ρ op a b κ) (hm : behindInMarks op b = false := by rfl) : EvE X f ρ (.Compare a [op] [b] pos) κ := fun F M σ d E Q hQ => wpE_of (pe_cmp pc_wp hm) (h F M σ d E Q hQ)
theorem et_c {op : CmpOp} {κ : Bool → Prop} (h : EvC X f ρ op a b fun R => ∃ k, R = bl k ∧ κ k) (hm : behindInMarks op b = false := by rfl) : EvT X f ρ (.Compare a [op] [b] pos) κ := fun F M σ d E Q hQ => by
  refine wpT_of (pt_cmp pc_wp hm) ?_
  refine h F M σ d E _ fun v R F1 M1 hk hv k1 d1 s1 => ?_
  obtain ⟨k, rfl, hk⟩ := hk
  cases hv
  exact ⟨k, rfl, hQ k F1 M1 hk k1 d1 s1⟩
theorem ec_two {op : CmpOp} {r : R2} (ho : OpR X (compareOp op) r) (h : EvE X f ρ a fun R => EvE X f ρ b fun S => OpOk r R S κ) : EvC X f ρ op a b κ := fun F M σ d E Q hQ => by
  intro pins s I
  have q := (h F M σ d E (fun x H1 => wpE X b σ H1 (fun y H2 => r x y H2 Q)) fun x R F1 M1 hb hx k1 d1 s1 => (show wpE X b σ (ovl F1 M1) (fun y H2 => r x y H2 Q) from wpE_valid (hb F1 M1 σ d1 (E.step k1 s1) _ fun y S F2 M2 ho hy k2 d2 s2 va => ho F2 M2 x y d2 (R.mono _ _ _ k2 hx) hy va Q fun v T F3 hT hv k3 d3 => hQ v T F3 M2 hT hv (k1.trans (k2.trans k3)) d3 (stepT s1 s2)))) pins s I
  exact thn q fun v s1 ⟨x, H1, I1, r1, q1⟩ => thn (q1 pins s1 I1) fun u s2 ⟨y, H2, I2, r2, q2⟩ => ho pins s2 σ H2 x y v u Q I2 r1 r2 q2
theorem dqa_map {F : Hp} {E : Enc α} : ∀ {vs : List V} {xs : List α} {v : V}, DqA F vs (xs.map E.enc) → v ∈ vs → ∃ x ∈ xs, Dq F v (E.enc x)
  | _ :: _, x :: xs, v, .cons h r, hm => by
    rcases List.mem_cons.mp hm with rfl | hm
    · exact ⟨x, List.mem_cons_self, h⟩
    · obtain ⟨y, h1, h2⟩ := dqa_map r hm
      exact ⟨y, List.mem_cons_of_mem _ h1, h2⟩
theorem ec_eqE [DecidableEq α] (C : Ctx G k X) (E : Enc α) (h : EvE X f ρ a fun R => EvE X f ρ b fun S => ∃ x y, R = dat (E.enc x) ∧ S = dat (E.enc y) ∧ κ (bl (decide (x = y)))) : EvC X f ρ .Eq a b κ :=
  ec_two (op_eqD C.room.units) (ev_imp h fun R hh => ev_imp hh fun S ⟨x, y, e1, e2, hz⟩ => by subst e1 e2; exact oo_eqD E hz)
theorem ec_neE [DecidableEq α] (C : Ctx G k X) (E : Enc α) (h : EvE X f ρ a fun R => EvE X f ρ b fun S => ∃ x y, R = dat (E.enc x) ∧ S = dat (E.enc y) ∧ κ (bl (!decide (x = y)))) : EvC X f ρ .NotEq a b κ :=
  ec_two (op_neD C.room.units) (ev_imp h fun R hh => ev_imp hh fun S ⟨x, y, e1, e2, hz⟩ => by subst e1 e2; exact oo_neD E hz)
theorem ec_eqS (h : EvE X f ρ a fun R => EvE X f ρ b fun S => ∃ x y : Str, R = FR.st x ∧ S = FR.st y ∧ κ (bl (decide (x = y)))) : EvC X f ρ .Eq a b κ :=
  ec_two op_eq (ev_imp h fun R hh => ev_imp hh fun S ⟨x, y, e1, e2, hz⟩ => by
    subst e1 e2
    exact oo_str (g := fun x y => decide (x = y)) _ (fun H Q q => ⟨rfl, by rw [dec_str]; exact q⟩) hz)
theorem ec_neS (h : EvE X f ρ a fun R => EvE X f ρ b fun S => ∃ x y : Str, R = FR.st x ∧ S = FR.st y ∧ κ (bl (!decide (x = y)))) : EvC X f ρ .NotEq a b κ :=
  ec_two op_ne (ev_imp h fun R hh => ev_imp hh fun S ⟨x, y, e1, e2, hz⟩ => by
    subst e1 e2
    exact oo_str (g := fun x y => !decide (x = y)) _ (fun H Q q => ⟨rfl, by rw [dec_str]; exact q⟩) hz)
theorem ec_eqI (h : EvE X f ρ a fun R => EvE X f ρ b fun S => ∃ x y : Int, R = nt x ∧ S = nt y ∧ κ (bl (decide (x = y)))) : EvC X f ρ .Eq a b κ :=
  ec_two op_eq (ev_imp h fun R hh => ev_imp hh fun S ⟨x, y, e1, e2, hz⟩ => by
    subst e1 e2
    exact oo_intB (g := fun x y => decide (x = y)) _ (fun H Q q => ⟨rfl, by rw [dec_int]; exact q⟩) hz)
theorem ec_neI (h : EvE X f ρ a fun R => EvE X f ρ b fun S => ∃ x y : Int, R = nt x ∧ S = nt y ∧ κ (bl (!decide (x = y)))) : EvC X f ρ .NotEq a b κ :=
  ec_two op_ne (ev_imp h fun R hh => ev_imp hh fun S ⟨x, y, e1, e2, hz⟩ => by
    subst e1 e2
    exact oo_intB (g := fun x y => !decide (x = y)) _ (fun H Q q => ⟨rfl, by rw [dec_int]; exact q⟩) hz)
theorem ec_eqB (h : EvE X f ρ a fun R => EvE X f ρ b fun S => ∃ x y : Bool, R = bl x ∧ S = bl y ∧ κ (bl (decide (x = y)))) : EvC X f ρ .Eq a b κ :=
  ec_two op_eq (ev_imp h fun R hh => ev_imp hh fun S ⟨x, y, e1, e2, hz⟩ => by
    subst e1 e2
    intro F M u v d hu hv va Q hQ
    cases hu
    cases hv
    exact ⟨rfl, by rw [dec_bl]; exact hQ _ _ F hz (Dq.bl _) (Same.refl F) d⟩)
theorem ec_ltI (h : EvE X f ρ a fun R => EvE X f ρ b fun S => ∃ x y : Int, R = nt x ∧ S = nt y ∧ κ (bl (decide (x < y)))) : EvC X f ρ .Lt a b κ :=
  ec_two op_lt (ev_imp h fun R hh => ev_imp hh fun S ⟨x, y, e1, e2, hz⟩ => by
    subst e1 e2
    exact oo_intB (g := fun x y => decide (x < y)) _ (fun H Q q => ⟨x, y, rfl, rfl, q⟩) hz)
theorem ec_gtI (h : EvE X f ρ a fun R => EvE X f ρ b fun S => ∃ x y : Int, R = nt x ∧ S = nt y ∧ κ (bl (decide (y < x)))) : EvC X f ρ .Gt a b κ :=
  ec_two op_gt (ev_imp h fun R hh => ev_imp hh fun S ⟨x, y, e1, e2, hz⟩ => by
    subst e1 e2
    exact oo_intB (g := fun x y => decide (y < x)) _ (fun H Q q => ⟨x, y, rfl, rfl, q⟩) hz)
theorem ec_geI (h : EvE X f ρ a fun R => EvE X f ρ b fun S => ∃ x y : Int, R = nt x ∧ S = nt y ∧ κ (bl (decide (y ≤ x)))) : EvC X f ρ .GtE a b κ :=
  ec_two op_ge (ev_imp h fun R hh => ev_imp hh fun S ⟨x, y, e1, e2, hz⟩ => by
    subst e1 e2
    exact oo_intB (g := fun x y => decide (y ≤ x)) _ (fun H Q q => ⟨x, y, rfl, rfl, q⟩) hz)
/-- a <= b <= c -/
theorem et_chain {κ : Bool → Prop} (h : EvE X f ρ a fun R => EvE X f ρ b fun S => ∃ x y : Int, R = nt x ∧ S = nt y ∧ (x ≤ y → EvE X f ρ c fun T => ∃ z : Int, T = nt z ∧ κ (decide (y ≤ z))) ∧ (¬ x ≤ y → κ false)) (hm : lastMarks [.LtE, .LtE] [b, c] = false := by with_unfolding_all rfl) : EvT X f ρ (.Compare a [.LtE, .LtE] [b, c] pos) κ := fun F M σ d E Q hQ => by
  refine wpT_of (pt_chain op_le op_le pe_wp pe_wp pe_wp hm) ?_
  refine h F M σ d E _ fun v R F1 M1 hb hv k1 d1 s1 => ?_
  refine hb F1 M1 σ d1 (E.step k1 s1) _ fun w S F2 M2 hh hw k2 d2 s2 => ?_
  obtain ⟨x, y, rfl, rfl, h1, h2⟩ := hh
  cases hv
  cases hw
  refine ⟨x, y, rfl, rfl, _, rfl, ?_⟩
  by_cases z : x ≤ y
  · rw [if_pos (decide_eq_true z)]
    refine h1 z F2 M2 σ d2 ((E.step k1 s1).step k2 s2) _ fun u T F3 M3 ht hu k3 d3 s3 => ?_
    obtain ⟨zz, rfl, hk⟩ := ht
    cases hu
    exact ⟨y, zz, rfl, rfl, _, rfl, hQ _ F3 M3 hk (k1.trans (k2.trans k3)) d3 (stepT s1 (stepT s2 s3))⟩
  · rw [if_neg (by rw [decide_eq_false z]; exact Bool.false_ne_true)]
    exact ⟨_, rfl, hQ _ F2 M2 (h2 z) (k1.trans k2) d2 (stepT s1 s2)⟩
/-- is None -/
def isNone : D → Bool
  | .none => true
  | _ => false
theorem dec_non {F : Hp} {v : V} {d : D} (h : Dq F v d) : decide (v = .non) = isNone d := by cases h <;> rfl
theorem ec_isN {j pos'} (h : EvE X f ρ a fun R => ∃ d, R = dat d ∧ κ (bl (isNone d))) : EvC X f ρ .Is a (.Constant .none j pos') κ := fun F M σ d E Q hQ => by
  refine fun pins s I => (pc_isN (pos' := pos') (j := j) pe_wp).run pins s σ _ Q I ?_
  refine h F M σ d E _ fun v R F1 M1 hh hv k1 d1 s1 => ?_
  obtain ⟨dd, rfl, hk⟩ := hh
  show Q (.bl (decide (v = .non))) _
  rw [dec_non hv]
  exact hQ _ _ F1 M1 hk (Dq.bl _) k1 d1 s1
theorem ec_notN {j pos'} (h : EvE X f ρ a fun R => ∃ d, R = dat d ∧ κ (bl (!isNone d))) : EvC X f ρ .IsNot a (.Constant .none j pos') κ := fun F M σ d E Q hQ => by
  refine fun pins s I => (pc_notN (pos' := pos') (j := j) pe_wp).run pins s σ _ Q I ?_
  refine h F M σ d E _ fun v R F1 M1 hh hv k1 d1 s1 => ?_
  obtain ⟨dd, rfl, hk⟩ := hh
  show Q (.bl (!decide (v = .non))) _
  rw [dec_non hv]
  exact hQ _ _ F1 M1 hk (Dq.bl _) k1 d1 s1
/-! ### order, membership -/
def rLtA (K : PySem.W.Frag) : R2 := fun x y H Q => ∃ d e, Dp K H x d ∧ Dp K H y e ∧ PySem.W.alike d e = true ∧ d ≠ .none ∧ d.depth ≤ 50 ∧ Q (.bl (PySem.W.dataLt d e)) H
theorem op_ltA (hu : X.A.units + 64 < cLine) : OpR X (compareOp .Lt) (rLtA X.K) := by
  intro pins s σ H x y v u Q I rx ry h
  obtain ⟨d, e, hd, he, al, nn, dp, q⟩ := h
  obtain ⟨as, r1⟩ := Dp.reads I d x v hd rx
  obtain ⟨bs, r2⟩ := Dp.reads I e y u he ry
  exact PySem.W.rcLt_alike d e X.A s v u as bs r1 r2 al nn (by have := Nat.min_le_left d.depth e.depth; omega) _ _ _ _ ⟨.bl _, H, I, rfl, q⟩
theorem enc_none (E : Enc α) {x y : α} (h : x ≠ y) : E.enc x ≠ .none := fun z => by
  have h1 := E.alike x y
  rw [z] at h1
  cases q : E.enc y with
  | none => exact h (E.inj _ _ (z.trans q.symm))
  | _ => rw [q] at h1; simp [PySem.W.alike] at h1
theorem ec_lt (C : Ctx G k X) (E : Enc α) (h : EvE X f ρ a fun R => EvE X f ρ b fun S => ∃ x y, R = dat (E.enc x) ∧ S = dat (E.enc y) ∧ E.enc x ≠ .none ∧ κ (bl (PySem.W.dataLt (E.enc x) (E.enc y)))) : EvC X f ρ .Lt a b κ :=
  ec_two (op_ltA C.room.units) (ev_imp h fun R hh => ev_imp hh fun S ⟨x, y, e1, e2, nn, hz⟩ => by
    subst e1 e2
    intro F M u v d hu hv va Q hQ
    exact ⟨_, _, Same.dp hu, Same.dp hv, E.alike x y, nn, by have := E.depth x; omega, hQ _ _ F hz (Dq.bl _) (Same.refl F) d⟩)
/-- x in a list or tuple of alike data -/
def rInA (K : PySem.W.Frag) (neg : Bool) : R2 := fun x y H Q => ∃ d ds p xs, Dp K H x d ∧ y = .ref p ∧ (SqL K H p xs ∨ SqT K H p xs) ∧ DpAll K H xs ds ∧ (∀ z ∈ ds, PySem.W.alike z d = true) ∧ d.depth ≤ 50 ∧ Q (.bl (if neg then !ds.any fun z => PyData.eqv z d else ds.any fun z => PyData.eqv z d)) H
theorem dpall_mem {K : PySem.W.Frag} {H : Hp} {pins : List (Addr × Obj)} {σ : L2.St} {s : Shared} (I : Inv X pins σ H s) {x : V} {v : Value} {d : D} (hd : Dp X.K H x d) (rx : RelV x v) (dp : X.A.units + 1 + d.depth < cLine) : ∀ (xs : List V) (ds : List D) (us : List Value), DpAll X.K H xs ds → Vals xs us → (∀ z ∈ ds, PySem.W.alike z d = true) →
    ∃ g : Value → Bool, (∀ y, y ∈ us → SeqAt.EqAt X.A.in1 s y v (g y)) ∧ us.any g = ds.any fun z => PyData.eqv z d := by
  intro xs ds us hA rv al
  classical
  -- each value reads as one datum of the form of d
  let g : Value → Bool := fun y => decide (∃ z as, Reads s.heap y z as ∧ PySem.W.alike z d = true ∧ PyData.eqv z d = true)
  obtain ⟨as, r1⟩ := Dp.reads I d x v hd rx
  have key : ∀ (y : Value) (z : D) (bs : List Addr), Reads s.heap y z bs → PySem.W.alike z d = true → g y = PyData.eqv z d := fun y z bs r a => by
    cases q : PyData.eqv z d with
    | true => exact decide_eq_true ⟨z, bs, r, a, q⟩
    | false =>
      refine decide_eq_false ?_
      rintro ⟨z', bs', r', a', q'⟩
      have e' : z' = d := eqv_eq.1 _ _ a' q'
      subst e'
      have : z = z' := PySem.W.alike_unique z z' y bs bs' a r r'
      subst this
      rw [q'] at q; cases q
  refine ⟨g, ?_, ?_⟩
  · have go : ∀ (xs : List V) (ds : List D) (us : List Value), DpAll X.K H xs ds → Vals xs us → (∀ z ∈ ds, PySem.W.alike z d = true) → ∀ y, y ∈ us → SeqAt.EqAt X.A.in1 s y v (g y) := fun xs => by
      induction xs with
      | nil => intro ds us _ rv _ y hy; cases rv; cases hy
      | cons w ws ih =>
        intro ds us hA rv al y hy
        cases hA with
        | cons h1 h2 =>
          cases rv with
          | cons q1 q2 =>
            rcases List.mem_cons.mp hy with rfl | hy
            · obtain ⟨bs, r2⟩ := Dp.reads I _ _ _ h1 q1
              have a2 := al _ List.mem_cons_self
              rw [key _ _ bs r2 a2]
              exact PySem.W.eqAt_alike _ d X.A.in1 s _ v bs as r2 r1 a2 (by
                have := Nat.min_le_right (PyData.depth ‹_›) d.depth
                show X.A.units + 1 + _ < cLine
                omega)
            · exact ih _ _ h2 q2 (fun z hz => al z (List.mem_cons_of_mem _ hz)) y hy
    exact go xs ds us hA rv al
  · have go : ∀ (xs : List V) (ds : List D) (us : List Value), DpAll X.K H xs ds → Vals xs us → (∀ z ∈ ds, PySem.W.alike z d = true) → us.any g = ds.any fun z => PyData.eqv z d := fun xs => by
      induction xs with
      | nil => intro ds us hA rv _; cases rv; cases hA; rfl
      | cons w ws ih =>
        intro ds us hA rv al
        cases hA with
        | cons h1 h2 =>
          cases rv with
          | cons q1 q2 =>
            obtain ⟨bs, r2⟩ := Dp.reads I _ _ _ h1 q1
            rw [List.any_cons, List.any_cons, key _ _ bs r2 (al _ List.mem_cons_self), ih _ _ h2 q2 fun z hz => al z (List.mem_cons_of_mem _ hz)]
    exact go xs ds us hA rv al
theorem op_inA (hu : X.A.units + 64 < cLine) : OpR X (compareOp .In) (rInA X.K false) := by
  intro pins s σ H x y v u Q I rx ry h
  obtain ⟨d, ds, p, xs, hd, rfl, hq, hA, al, dp, q⟩ := h
  cases ry
  rcases hq with hq | hq
  · obtain ⟨its, r, pl, hz⟩ := I.list hq
    obtain ⟨g, h1, h2⟩ := dpall_mem (K := X.K) I hd rx (by omega) xs ds its hA r al
    refine SeqAt.in_listAt g pl.isList (fun y hy => h1 y (by simpa using hy)) ⟨.bl _, H, I, rfl, ?_⟩
    rw [show its.toArray.any g = its.any g by simp, h2]
    exact q
  · obtain ⟨its, r, pl, hz⟩ := I.tuple hq
    obtain ⟨g, h1, h2⟩ := dpall_mem (K := X.K) I hd rx (by omega) xs ds its hA r al
    refine SeqAt.in_tupleAt g (show s.heap.IsTuple p its.toArray from pl) (fun y hy => h1 y (by simpa using hy)) ⟨.bl _, H, I, rfl, ?_⟩
    rw [show its.toArray.any g = its.any g by simp, h2]
    exact q
theorem op_notInA (hu : X.A.units + 64 < cLine) : OpR X (compareOp .NotIn) (rInA X.K true) := by
  intro pins s σ H x y v u Q I rx ry h
  obtain ⟨d, ds, p, xs, hd, rfl, hq, hA, al, dp, q⟩ := h
  cases ry
  rcases hq with hq | hq
  · obtain ⟨its, r, pl, hz⟩ := I.list hq
    obtain ⟨g, h1, h2⟩ := dpall_mem (K := X.K) I hd rx (by omega) xs ds its hA r al
    refine SeqAt.notIn_listAt g pl.isList (fun y hy => h1 y (by simpa using hy)) ⟨.bl _, H, I, rfl, ?_⟩
    rw [show its.toArray.any g = its.any g by simp, h2]
    exact q
  · obtain ⟨its, r, pl, hz⟩ := I.tuple hq
    obtain ⟨g, h1, h2⟩ := dpall_mem (K := X.K) I hd rx (by omega) xs ds its hA r al
    refine SeqAt.notIn_tupleAt g (show s.heap.IsTuple p its.toArray from pl) (fun y hy => h1 y (by simpa using hy)) ⟨.bl _, H, I, rfl, ?_⟩
    rw [show its.toArray.any g = its.any g by simp, h2]
    exact q
theorem any_enc [DecidableEq α] (E : Enc α) (x : α) (xs : List α) : ((xs.map E.enc).any fun z => PyData.eqv z (E.enc x)) = decide (x ∈ xs) := by
  induction xs with
  | nil => simp
  | cons y ys ih =>
    rw [List.map_cons, List.any_cons, ih, E.eqv]
    by_cases h : x = y
    · subst h; simp
    · have h2 : ¬ y = x := fun z => h z.symm
      simp [h, h2]
theorem oo_in [DecidableEq α] {K : PySem.W.Frag} (neg : Bool) (E : Enc α) {x : α} {xs : List α} {S : Rp} (hS : S = li (xs.map E.enc) ∨ S = tu (xs.map E.enc)) (h : κ (bl (if neg then !decide (x ∈ xs) else decide (x ∈ xs)))) : OpOk (rInA K neg) (dat (E.enc x)) S κ := fun F M u v d hu hv va Q hQ => by
  have al : ∀ z ∈ xs.map E.enc, PySem.W.alike z (E.enc x) = true := fun z hz => by
    obtain ⟨y, _, rfl⟩ := List.mem_map.mp hz
    exact E.alike y x
  have fin : Q (.bl (if neg then !(xs.map E.enc).any fun z => PyData.eqv z (E.enc x) else (xs.map E.enc).any fun z => PyData.eqv z (E.enc x))) (ovl F M) := by
    rw [any_enc]
    exact hQ _ _ F h (Dq.bl _) (Same.refl F) d
  rcases hS with rfl | rfl
  · cases hv with
    | @lst a us _ ha hx => exact ⟨_, _, a, us, Same.dp hu, rfl, .inl (SqL.of (ovl_F ha)), (hx.mono (same_ovl F M)).dp, al, by have := E.depth x; omega, fin⟩
  · cases hv with
    | @tup a us _ ha hx => exact ⟨_, _, a, us, Same.dp hu, rfl, .inr (SqT.of (ovl_F ha)), (hx.mono (same_ovl F M)).dp, al, by have := E.depth x; omega, fin⟩
theorem ec_in [DecidableEq α] (C : Ctx G k X) (E : Enc α) (h : EvE X f ρ a fun R => EvE X f ρ b fun S => ∃ (x : α) (xs : List α), R = dat (E.enc x) ∧ (S = li (xs.map E.enc) ∨ S = tu (xs.map E.enc)) ∧ κ (bl (decide (x ∈ xs)))) : EvC X f ρ .In a b κ :=
  ec_two (op_inA C.room.units) (ev_imp h fun R hh => ev_imp hh fun S ⟨x, xs, e1, e2, hz⟩ => by subst e1; exact oo_in false E e2 hz)
theorem ec_notIn [DecidableEq α] (C : Ctx G k X) (E : Enc α) (h : EvE X f ρ a fun R => EvE X f ρ b fun S => ∃ (x : α) (xs : List α), R = dat (E.enc x) ∧ (S = li (xs.map E.enc) ∨ S = tu (xs.map E.enc)) ∧ κ (bl (!decide (x ∈ xs)))) : EvC X f ρ .NotIn a b κ :=
  ec_two (op_notInA C.room.units) (ev_imp h fun R hh => ev_imp hh fun S ⟨x, xs, e1, e2, hz⟩ => by subst e1; exact oo_in true E e2 hz)
end
end FR
set_option Elab.async false
set_option linter.all false
set_option maxRecDepth 100000
set_option maxHeartbeats 1000000
namespace FR
open PySem PySem.Spec PyProof.Rows L2
section
variable {X : Cx} {f : Fx} {ρ : Env} {e a b c : Expr} {es : List Expr} {κ : Rp → Prop} {Φ : Post} {pos : Pos} {G : Gb} {k : Nat} {α : Type}

/-! ### subscripts -/
theorem atI_map {F : Hp} {xs : List V} {ds : List D} {i : Int} {d : D} (hx : DqA F xs ds) (h : atI ds i = some d) : ∃ v, atI xs i = some v ∧ Dq F v d := by
  unfold atI at h ⊢
  rw [hx.length]
  cases q : ixN ds.length i with
  | none => rw [q] at h; cases h
  | some j =>
    rw [q] at h
    obtain ⟨v, h1, h2⟩ := hx.get (show ds[j]? = some d from h)
    exact ⟨v, h1, h2⟩
theorem ev_ixL (hs : PlainIx b) (h : EvE X f ρ a fun R => EvE X f ρ b fun S => ∃ (ds : List D) (i : Int) (d : D), R = li ds ∧ S = nt i ∧ atI ds i = some d ∧ κ (dat d)) : EvE X f ρ (.Subscript a b pos) κ :=
  ev_ix ix_list hs (ev_imp h fun R hh => ev_imp hh fun S ⟨ds, i, dd, e1, e2, ha, hz⟩ => by
    subst e1 e2
    intro F M u v d hu hv va Q hQ
    cases hv
    cases hu with
    | @lst p xs _ hp hx =>
      obtain ⟨w, h1, h2⟩ := atI_map hx ha
      exact ⟨p, xs, i, w, rfl, rfl, SqL.of (ovl_F hp), h1, hQ _ _ F hz h2 (Same.refl F) d⟩)
theorem ev_ixT (hs : PlainIx b) (h : EvE X f ρ a fun R => EvE X f ρ b fun S => ∃ (ds : List D) (i : Int) (d : D), R = tu ds ∧ S = nt i ∧ atI ds i = some d ∧ κ (dat d)) : EvE X f ρ (.Subscript a b pos) κ :=
  ev_ix ix_tup hs (ev_imp h fun R hh => ev_imp hh fun S ⟨ds, i, dd, e1, e2, ha, hz⟩ => by
    subst e1 e2
    intro F M u v d hu hv va Q hQ
    cases hv
    cases hu with
    | @tup p xs _ hp hx =>
      obtain ⟨w, h1, h2⟩ := atI_map hx ha
      exact ⟨p, xs, i, w, rfl, rfl, SqT.of (ovl_F hp), h1, hQ _ _ F hz h2 (Same.refl F) d⟩)
theorem ev_ixS (hs : PlainIx b) (h : EvE X f ρ a fun R => EvE X f ρ b fun S => ∃ (z : Str) (i : Int) (c : Nat), R = FR.st z ∧ S = nt i ∧ z.length ≤ 10000 ∧ atI z.cps.toList i = some c ∧ κ (FR.st ⟨#[c]⟩)) : EvE X f ρ (.Subscript a b pos) κ :=
  ev_ix ix_str hs (ev_imp h fun R hh => ev_imp hh fun S ⟨z, i, cc, e1, e2, hl, ha, hz⟩ => by
    subst e1 e2
    intro F M u v d hu hv va Q hQ
    cases hv
    cases hu
    exact ⟨z, i, cc, rfl, rfl, le_sz hl, ha, hQ _ _ F hz (Dq.str _) (Same.refl F) d⟩)
/-! ### slices -/
def EvO (X : Cx) (f : Fx) (ρ : Env) (e : Option Expr) (κ : Option Int → Prop) : Prop := ∃ t, PO X e t ∧ ∀ F M σ, Dis F M → EnvOk f σ ρ F M → ∀ Q : Option Int → Hp → Prop,
  (∀ v F' M', κ v → Same F F' → Dis F' M' → f.step M M' → Q v (ovl F' M')) → t σ (ovl F M) Q
theorem eo_none {κ : Option Int → Prop} (h : κ none) : EvO X f ρ none κ := ⟨_, po_none, fun F M σ d E Q hQ => hQ none F M h (Same.refl F) d E.refl⟩
theorem eo_some {κ : Option Int → Prop} (h : EvE X f ρ e fun R => ∃ i, R = nt i ∧ κ (some i)) : EvO X f ρ (some e) κ := ⟨_, po_some pe_wp, fun F M σ d E Q hQ => by
  refine h F M σ d E _ fun v R F1 M1 hk hv k1 d1 s1 => ?_
  obtain ⟨i, rfl, hk⟩ := hk
  cases hv
  exact ⟨i, rfl, hQ (some i) F1 M1 hk k1 d1 s1⟩⟩
def cutD (ds : List D) (lo hi : Option Int) : List D := (ds.drop (HT.sIx ds.length 0 lo)).take (HT.sIx ds.length ds.length hi - HT.sIx ds.length 0 lo)
theorem cut_ok {F : Hp} {xs : List V} {ds : List D} {lo hi : Option Int} (h : DqA F xs ds) : DqA F (cutV xs lo hi) (cutD ds lo hi) := by
  unfold cutV cutD
  rw [h.length]
  exact (h.drop _).take _
theorem cutD_from (ds : List D) (n : Nat) : cutD ds (some n) none = ds.drop n := by
  unfold cutD
  rw [HT.sIx_nat, HT.sIx_none]
  by_cases h : n ≤ ds.length
  · rw [Nat.min_eq_left h, List.take_of_length_le (by rw [List.length_drop]; omega)]
  · rw [Nat.min_eq_right (by omega), List.drop_of_length_le (Nat.le_refl _), List.drop_of_length_le (by omega), List.take_nil]
theorem cutD_to (ds : List D) (n : Nat) : cutD ds none (some n) = ds.take n := by
  unfold cutD
  rw [HT.sIx_nat, HT.sIx_none, List.drop_zero, Nat.sub_zero]
  by_cases h : n ≤ ds.length
  · rw [Nat.min_eq_left h]
  · rw [Nat.min_eq_right (by omega), List.take_of_length_le (Nat.le_refl _), List.take_of_length_le (by omega)]
theorem cutD_mid (ds : List D) (m n : Nat) (h : n ≤ ds.length) (h2 : m ≤ n) : cutD ds (some m) (some n) = (ds.drop m).take (n - m) := by
  unfold cutD
  rw [HT.sIx_nat, HT.sIx_nat, Nat.min_eq_left h, Nat.min_eq_left (show m ≤ ds.length by omega)]
theorem cutD_init (ds : List D) : cutD ds none (some (-1)) = ds.dropLast := by
  unfold cutD
  rw [HT.sIx_none, List.drop_zero, Nat.sub_zero]
  have e : HT.sIx ds.length ds.length (some (-1)) = ds.length - 1 := by
    show (if (-1 : Int) < 0 then ((-1 : Int) + (ds.length : Int)).toNat else min (-1 : Int).toNat ds.length) = ds.length - 1
    rw [if_pos (by decide)]; omega
  rw [e, List.dropLast_eq_take]
theorem ev_slT {lo hi : Option Expr} {p2 : Pos} (h : EvE X f ρ e fun R => EvO X f ρ lo fun l => EvO X f ρ hi fun u => ∃ ds, R = tu ds ∧ κ (tu (cutD ds l u))) : EvE X f ρ (.Subscript e (.Slice lo hi none p2) pos) κ := fun F M σ d E Q hQ => by
  -- the parts' readings are of the state, so they are the weakest
  let wO : Option Expr → TO := fun o σ H Q => ∀ pins s, Inv X pins σ H s → wpAny (model X.prog X.w) X.A (evalPart o X.env) (fun u s' => ∃ o H', Inv X pins σ H' s' ∧ IsPart u o ∧ Q o H') X.xe s
  have hw : ∀ o, PO X o (wO o) := fun o => ⟨fun pins s σ H Q I h => h pins s I⟩
  have use : ∀ {o κ'}, EvO X f ρ o κ' → ∀ F M σ, Dis F M → EnvOk f σ ρ F M → ∀ Q : Option Int → Hp → Prop, (∀ v F' M', κ' v → Same F F' → Dis F' M' → f.step M M' → Q v (ovl F' M')) → wO o σ (ovl F M) Q := fun {o κ'} ⟨t, ht, hh⟩ F M σ d E Q hQ pins s I => ht.run pins s σ _ Q I (hh F M σ d E Q hQ)
  refine wpE_of (pe_slice sl_tupA pe_wp (hw lo) (hw hi)) ?_
  refine h F M σ d E _ fun v R F1 M1 hk hv k1 d1 s1 => ?_
  refine use hk F1 M1 σ d1 (E.step k1 s1) _ fun l F2 M2 hk2 k2 d2 s2 => ?_
  refine use hk2 F2 M2 σ d2 ((E.step k1 s1).step k2 s2) _ fun u F3 M3 hk3 k3 d3 s3 => ?_
  obtain ⟨ds, rfl, hk3⟩ := hk3
  have hv := Rp.mono _ _ _ _ (k2.trans k3) hv
  cases hv with
  | @tup a xs _ ha hx =>
    refine ⟨a, xs, rfl, SqT.of (ovl_F ha), fun hw => ?_, fun _ p hp => ?_⟩
    · have e : cutD ds l u = ds := by
        unfold cutD
        rw [hx.length] at hw
        rw [hw.1, hw.2, List.drop_zero, Nat.sub_zero, List.take_length]
      rw [e] at hk3
      exact hQ _ _ F3 M3 hk3 (Dq.tup ha hx) (k1.trans (k2.trans k3)) d3 (stepT s1 (stepT s2 s3))
    · exact new_of (Q := fun H => Q (.ref p) H) d3 hp fun F4 _ k4 d4 e4 => hQ _ _ F4 M3 hk3 (Dq.tup e4 ((cut_ok hx).mono k4)) (k1.trans (k2.trans (k3.trans k4))) d4 (stepT s1 (stepT s2 s3))
theorem ev_slL {lo hi : Option Expr} {p2 : Pos} (h : EvE X f ρ e fun R => EvO X f ρ lo fun l => EvO X f ρ hi fun u => ∃ ds, R = li ds ∧ κ (li (cutD ds l u))) : EvE X f ρ (.Subscript e (.Slice lo hi none p2) pos) κ := fun F M σ d E Q hQ => by
  let wO : Option Expr → TO := fun o σ H Q => ∀ pins s, Inv X pins σ H s → wpAny (model X.prog X.w) X.A (evalPart o X.env) (fun u s' => ∃ o H', Inv X pins σ H' s' ∧ IsPart u o ∧ Q o H') X.xe s
  have hw : ∀ o, PO X o (wO o) := fun o => ⟨fun pins s σ H Q I h => h pins s I⟩
  have use : ∀ {o κ'}, EvO X f ρ o κ' → ∀ F M σ, Dis F M → EnvOk f σ ρ F M → ∀ Q : Option Int → Hp → Prop, (∀ v F' M', κ' v → Same F F' → Dis F' M' → f.step M M' → Q v (ovl F' M')) → wO o σ (ovl F M) Q := fun {o κ'} ⟨t, ht, hh⟩ F M σ d E Q hQ pins s I => ht.run pins s σ _ Q I (hh F M σ d E Q hQ)
  refine wpE_of (pe_slice sl_list pe_wp (hw lo) (hw hi)) ?_
  refine h F M σ d E _ fun v R F1 M1 hk hv k1 d1 s1 => ?_
  refine use hk F1 M1 σ d1 (E.step k1 s1) _ fun l F2 M2 hk2 k2 d2 s2 => ?_
  refine use hk2 F2 M2 σ d2 ((E.step k1 s1).step k2 s2) _ fun u F3 M3 hk3 k3 d3 s3 => ?_
  obtain ⟨ds, rfl, hk3⟩ := hk3
  have hv := Rp.mono _ _ _ _ (k2.trans k3) hv
  cases hv with
  | @lst a xs _ ha hx =>
    exact ⟨a, xs, rfl, SqL.of (ovl_F ha), fun p hp => new_of (Q := fun H => Q (.ref p) H) d3 hp fun F4 _ k4 d4 e4 => hQ _ _ F4 M3 hk3 (Dq.lst e4 ((cut_ok hx).mono k4)) (k1.trans (k2.trans (k3.trans k4))) d4 (stepT s1 (stepT s2 s3))⟩
/-- xs[::-1] -/
theorem ev_rev {k' : Nat} {p1 p2 p3 : Pos} (h : EvE X f ρ e fun R => ∃ ds, R = li ds ∧ κ (li ds.reverse)) : EvE X f ρ (.Subscript e (.Slice none none (some (.UnaryOp .USub (.Constant (.int 1) k' p1) p2)) p3) pos) κ := fun F M σ d E Q hQ => by
  refine wpE_of (pe_revL pe_wp) ?_
  refine h F M σ d E _ fun v R F1 M1 hk hv k1 d1 s1 => ?_
  obtain ⟨ds, rfl, hk⟩ := hk
  cases hv with
  | @lst a xs _ ha hx =>
    exact ⟨a, xs, rfl, SqL.of (ovl_F ha), fun p hp => new_of (Q := fun H => Q (.ref p) H) d1 hp fun F4 _ k4 d4 e4 => hQ _ _ F4 M1 hk (Dq.lst e4 (hx.reverse.mono k4)) (k1.trans k4) d4 s1⟩
theorem ev_neg (h : EvE X f ρ a fun R => ∃ i : Int, R = nt i ∧ κ (nt (-i))) : EvE X f ρ (.UnaryOp .USub a pos) κ := fun F M σ d E Q hQ => by
  refine wpE_of (pe_un un_neg pe_wp) ?_
  refine h F M σ d E _ fun v R F1 M1 hk hv k1 d1 s1 => ?_
  obtain ⟨i, rfl, hk⟩ := hk
  cases hv
  exact ⟨i, rfl, hQ _ _ F1 M1 hk (Dq.int _) k1 d1 s1⟩
/-! ### calls of built-ins -/
def CaOk (r : List V → Hp → VK → Prop) (Rs : List Rp) (κ : Rp → Prop) : Prop := ∀ F M vs, Dis F M → RpA F vs Rs → Valid (ovl F M) → ∀ Q : VK,
  (∀ v T F', κ T → T.p v F' → Same F F' → Dis F' M → Q v (ovl F' M)) → r vs (ovl F M) Q
theorem wpA_valid {σ : L2.St} {H : Hp} {Q : List V → Hp → Prop} (h : wpA X es σ H fun v H' => Valid H' → Q v H') : wpA X es σ H Q := fun pos pins s I =>
  thn (h pos pins s I) fun _ _ ⟨v, H', I', r, q⟩ => ⟨v, H', I', r, q (Inv.valid I')⟩
theorem ev_callB {x : Str} {id : String} {p : Pos} {r : List V → Hp → VK → Prop} (C : Ctx G k X) (hc : CallR X (.builtin id) r) (hg : Gl X x) (hm : G.mg x = none) (hv : bootBuiltins x = some (.builtin id)) (h : EvA X f ρ (e :: es) fun Rs => CaOk r Rs κ) (hn : x ≠ "__name__" := by decide) (hdb : (x == ("__debug__" : Str)) = false := by decide)
    (he : starEach (e :: es) X.env = (false, eval e X.env) :: starEach es X.env := by rfl) (hpl : (backTo pos (starEach es X.env)).any (·.1) = false := by rfl) : EvE X f ρ (.Call (.Name x p) (e :: es) [] pos) κ := fun F M σ d E Q hQ => by
  refine wpE_of (pe_callB hc hg (by rw [C.mg]; exact hm) hv pa_wp hn hdb he hpl) ?_
  refine wpA_valid ?_
  exact h F M σ d E _ fun vs Rs F1 M1 hk hvs k1 d1 s1 va => hk F1 M1 vs d1 hvs va Q fun v T F2 hT hv k2 d2 => hQ v T F2 M1 hT hv (k1.trans k2) d2 s1
theorem ev_callTy {x : Str} {T : String} {p : Pos} {r : List V → Hp → VK → Prop} (C : Ctx G k X) (hc : CallR X (.type T) r) (hg : Gl X x) (hm : G.mg x = none) (hv : bootBuiltins x = some (.type T)) (h : EvA X f ρ (e :: es) fun Rs => CaOk r Rs κ) (hn : x ≠ "__name__" := by decide) (hdb : (x == ("__debug__" : Str)) = false := by decide)
    (he : starEach (e :: es) X.env = (false, eval e X.env) :: starEach es X.env := by rfl) (hpl : (backTo pos (starEach es X.env)).any (·.1) = false := by rfl) : EvE X f ρ (.Call (.Name x p) (e :: es) [] pos) κ := fun F M σ d E Q hQ => by
  refine wpE_of (pe_callTy hc hg (by rw [C.mg]; exact hm) hv pa_wp hn hdb he hpl) ?_
  refine wpA_valid ?_
  exact h F M σ d E _ fun vs Rs F1 M1 hk hvs k1 d1 s1 va => hk F1 M1 vs d1 hvs va Q fun v T F2 hT hv k2 d2 => hQ v T F2 M1 hT hv (k1.trans k2) d2 s1
theorem ea_one {κ : List Rp → Prop} (h : EvE X f ρ e fun R => κ [R]) (hs : starEach (e :: []) X.env = (false, eval e X.env) :: starEach [] X.env := by rfl) : EvA X f ρ [e] κ := ea_cons (ev_imp h fun R hR => ea_nil hR) hs
theorem rpa1 {F : Hp} {vs : List V} {R : Rp} (h : RpA F vs [R]) : ∃ v, vs = [v] ∧ R.p v F := by
  cases vs with
  | nil => exact h.elim
  | cons v vs => cases vs with
    | nil => exact ⟨v, rfl, h.1⟩
    | cons w ws => exact h.2.elim
theorem rpa2 {F : Hp} {vs : List V} {R S : Rp} (h : RpA F vs [R, S]) : ∃ v w, vs = [v, w] ∧ R.p v F ∧ S.p w F := by
  cases vs with
  | nil => exact h.elim
  | cons v vs =>
    obtain ⟨w, rfl, hw⟩ := rpa1 (show RpA F vs [S] from h.2)
    exact ⟨v, w, rfl, h.1, hw⟩
variable {p : Pos}
theorem ev_len (C : Ctx G k X) (hg : Gl X "len") (hm : G.mg "len" = none) (h : EvE X f ρ e fun R => ∃ ds, (R = li ds ∨ R = tu ds) ∧ κ (nt ds.length)) (he : starEach (e :: []) X.env = (false, eval e X.env) :: starEach [] X.env := by rfl) : EvE X f ρ (.Call (.Name "len" p) [e] [] pos) κ :=
  ev_callB C call_len_seq hg hm PySem.boot_len (ea_one (ev_imp h fun R ⟨ds, hR, hk⟩ => fun F M vs d hvs va Q hQ => by
    obtain ⟨v, rfl, hv⟩ := rpa1 hvs
    rcases hR with rfl | rfl
    · cases hv with
      | @lst a xs _ ha hx => exact ⟨a, xs, rfl, .inl (SqL.of (ovl_F ha)), by rw [hx.length]; exact hQ _ _ F hk (Dq.int _) (Same.refl F) d⟩
    · cases hv with
      | @tup a xs _ ha hx => exact ⟨a, xs, rfl, .inr (SqT.of (ovl_F ha)), by rw [hx.length]; exact hQ _ _ F hk (Dq.int _) (Same.refl F) d⟩) he) (he := he) (hpl := by rfl)
theorem ev_lenS (C : Ctx G k X) (hg : Gl X "len") (hm : G.mg "len" = none) (h : EvE X f ρ e fun R => ∃ z : Str, R = FR.st z ∧ z.length ≤ 10000 ∧ κ (nt z.length)) (he : starEach (e :: []) X.env = (false, eval e X.env) :: starEach [] X.env := by rfl) : EvE X f ρ (.Call (.Name "len" p) [e] [] pos) κ :=
  ev_callB C call_len_str hg hm PySem.boot_len (ea_one (ev_imp h fun R ⟨z, hR, hl, hk⟩ => fun F M vs d hvs va Q hQ => by
    obtain ⟨v, rfl, hv⟩ := rpa1 hvs
    subst hR
    cases hv
    exact ⟨z, rfl, le_sz hl, hQ _ _ F hk (Dq.int _) (Same.refl F) d⟩) he) (he := he) (hpl := by rfl)
theorem ev_all (C : Ctx G k X) (hg : Gl X "all") (hm : G.mg "all" = none) (h : EvE X f ρ e fun R => ∃ bs : List Bool, R = li (bs.map .bool) ∧ κ (bl (bs.all id))) (he : starEach (e :: []) X.env = (false, eval e X.env) :: starEach [] X.env := by rfl) : EvE X f ρ (.Call (.Name "all" p) [e] [] pos) κ :=
  ev_callB C (cr_all C.calm) hg hm (by decide +kernel) (ea_one (ev_imp h fun R ⟨bs, hR, hk⟩ => fun F M vs d hvs va Q hQ => by
    obtain ⟨v, rfl, hv⟩ := rpa1 hvs
    subst hR
    cases hv with
    | @lst a xs _ ha hx =>
      have e := hx.bools
      subst e
      exact ⟨a, bs, rfl, SqL.of (ovl_F ha), hQ _ _ F hk (Dq.bl _) (Same.refl F) d⟩) he) (he := he) (hpl := by rfl)
theorem ev_any (C : Ctx G k X) (hg : Gl X "any") (hm : G.mg "any" = none) (h : EvE X f ρ e fun R => ∃ bs : List Bool, R = li (bs.map .bool) ∧ κ (bl (bs.any id))) (he : starEach (e :: []) X.env = (false, eval e X.env) :: starEach [] X.env := by rfl) : EvE X f ρ (.Call (.Name "any" p) [e] [] pos) κ :=
  ev_callB C (cr_any C.calm) hg hm (by decide +kernel) (ea_one (ev_imp h fun R ⟨bs, hR, hk⟩ => fun F M vs d hvs va Q hQ => by
    obtain ⟨v, rfl, hv⟩ := rpa1 hvs
    subst hR
    cases hv with
    | @lst a xs _ ha hx =>
      have e := hx.bools
      subst e
      exact ⟨a, bs, rfl, SqL.of (ovl_F ha), hQ _ _ F hk (Dq.bl _) (Same.refl F) d⟩) he) (he := he) (hpl := by rfl)
theorem ev_list (C : Ctx G k X) (hg : Gl X "list") (hm : G.mg "list" = none) (h : EvE X f ρ e fun R => ∃ ds, (R = li ds ∨ R = tu ds) ∧ κ (li ds)) (he : starEach (e :: []) X.env = (false, eval e X.env) :: starEach [] X.env := by rfl) : EvE X f ρ (.Call (.Name "list" p) [e] [] pos) κ :=
  ev_callTy C call_list_of hg hm (by decide +kernel) (ea_one (ev_imp h fun R ⟨ds, hR, hk⟩ => fun F M vs d hvs va Q hQ => by
    obtain ⟨v, rfl, hv⟩ := rpa1 hvs
    rcases hR with rfl | rfl
    · cases hv with
      | @lst a xs _ ha hx => exact ⟨a, xs, rfl, .inl (SqL.of (ovl_F ha)), fun l hl => new_of (Q := fun H => Q (.ref l) H) d hl fun F4 _ k4 d4 e4 => hQ _ _ F4 hk (Dq.lst e4 (hx.mono k4)) k4 d4⟩
    · cases hv with
      | @tup a xs _ ha hx => exact ⟨a, xs, rfl, .inr (SqT.of (ovl_F ha)), fun l hl => new_of (Q := fun H => Q (.ref l) H) d hl fun F4 _ k4 d4 e4 => hQ _ _ F4 hk (Dq.lst e4 (hx.mono k4)) k4 d4⟩) he) (he := he) (hpl := by rfl)
theorem ev_tuple (C : Ctx G k X) (hg : Gl X "tuple") (hm : G.mg "tuple" = none) (h : EvE X f ρ e fun R => ∃ ds, (R = li ds ∨ R = tu ds) ∧ κ (tu ds)) (he : starEach (e :: []) X.env = (false, eval e X.env) :: starEach [] X.env := by rfl) : EvE X f ρ (.Call (.Name "tuple" p) [e] [] pos) κ :=
  ev_callTy C call_tuple_of hg hm (by decide +kernel) (ea_one (ev_imp h fun R ⟨ds, hR, hk⟩ => fun F M vs d hvs va Q hQ => by
    obtain ⟨v, rfl, hv⟩ := rpa1 hvs
    rcases hR with rfl | rfl
    · cases hv with
      | @lst a xs _ ha hx => exact ⟨a, xs, rfl, .inl ⟨SqL.of (ovl_F ha), fun l hl => new_of (Q := fun H => Q (.ref l) H) d hl fun F4 _ k4 d4 e4 => hQ _ _ F4 hk (Dq.tup e4 (hx.mono k4)) k4 d4⟩⟩
    · cases hv with
      | @tup a xs _ ha hx => exact ⟨a, xs, rfl, .inr ⟨SqT.of (ovl_F ha), hQ _ _ F hk (Dq.tup ha hx) (Same.refl F) d⟩⟩) he) (he := he) (hpl := by rfl)
/-! ### isinstance -/
def isStrD : D → Bool
  | .str _ => true
  | _ => false
def isTupD : D → Bool
  | .tuple _ => true
  | _ => false
theorem tyx_of {K : PySem.W.Frag} {F M : Hp} {v : V} {d : D} (h : Dq F v d) : ∃ t : String, TyX K (ovl F M) v (.type t) ∧ (t == "str") = isStrD d ∧ (t == "tuple") = isTupD d := by
  cases h with
  | non => exact ⟨_, .base .non, rfl, rfl⟩
  | bl b => exact ⟨_, .base (.bl b), rfl, rfl⟩
  | int i => exact ⟨_, .base (.int i), rfl, rfl⟩
  | str x => exact ⟨_, .base (.str x), rfl, rfl⟩
  | lst ha hx => exact ⟨_, .base (.lst (ovl_F ha)), rfl, rfl⟩
  | tup ha hx => exact ⟨_, .base (.tup (ovl_F ha)), rfl, rfl⟩
theorem kit_six (T : String) (hT : T = "str" ∨ T = "tuple") (t : String) (ht : t = "NoneType" ∨ t = "bool" ∨ t = "int" ∨ t = "str" ∨ t = "list" ∨ t = "tuple") : kitB t T = some (t == T) := by
  rcases hT with rfl | rfl <;> rcases ht with rfl | rfl | rfl | rfl | rfl | rfl <;> decide +kernel
theorem tyx_six {K : PySem.W.Frag} {F M : Hp} {v : V} {d : D} (h : Dq F v d) : ∃ t : String, TyX K (ovl F M) v (.type t) ∧ (t = "NoneType" ∨ t = "bool" ∨ t = "int" ∨ t = "str" ∨ t = "list" ∨ t = "tuple") ∧ (t == "str") = isStrD d ∧ (t == "tuple") = isTupD d := by
  cases h with
  | non => exact ⟨_, .base .non, .inl rfl, rfl, rfl⟩
  | bl b => exact ⟨_, .base (.bl b), .inr (.inl rfl), rfl, rfl⟩
  | int i => exact ⟨_, .base (.int i), .inr (.inr (.inl rfl)), rfl, rfl⟩
  | str x => exact ⟨_, .base (.str x), .inr (.inr (.inr (.inl rfl))), rfl, rfl⟩
  | lst ha hx => exact ⟨_, .base (.lst (ovl_F ha)), .inr (.inr (.inr (.inr (.inl rfl)))), rfl, rfl⟩
  | tup ha hx => exact ⟨_, .base (.tup (ovl_F ha)), .inr (.inr (.inr (.inr (.inr rfl)))), rfl, rfl⟩
theorem ev_isi {T : Str} {T' : String} {p2 : Pos} (C : Ctx G k X) (hT : T' = "str" ∨ T' = "tuple") (hg : Gl X "isinstance") (hm : G.mg "isinstance" = none) (hgT : Gl X T) (hmT : G.mg T = none) (hbT : bootBuiltins T = some (.type T')) (h : EvE X f ρ e fun R => ∃ d, R = dat d ∧ κ (bl (if T' = "str" then isStrD d else isTupD d)))
    (hnT : T ≠ "__name__" := by decide) (hdT : (T == ("__debug__" : Str)) = false := by decide)
    (he : starEach (e :: [.Name T p2]) X.env = (false, eval e X.env) :: starEach [.Name T p2] X.env := by rfl) (he2 : starEach (.Name T p2 :: []) X.env = (false, eval (.Name T p2) X.env) :: starEach [] X.env := by rfl) (hpl : (backTo pos (starEach [.Name T p2] X.env)).any (·.1) = false := by rfl) : EvE X f ρ (.Call (.Name "isinstance" p) [e, .Name T p2] [] pos) κ := fun F M σ d E Q hQ => by
  refine wpE_of (pe_callB call_isi hg (by rw [C.mg]; exact hm) (by decide +kernel) (pa_cons pe_wp (pa_cons (pe_bltn (v := .ty T') (u := .type T') hgT (by rw [C.mg]; exact hmT) hbT rfl hnT hdT) pa_nil he2) he) (by decide) (by decide) he hpl) ?_
  refine h F M σ d E _ fun v R F1 M1 hk hv k1 d1 s1 => ?_
  obtain ⟨dd, rfl, hk⟩ := hk
  obtain ⟨t, ht, h6, e1, e2⟩ := tyx_six (K := X.K) (M := M1) (show Dq F1 v dd from hv)
  refine ⟨v, .ty T', .type t, .type T', t == T', rfl, .ty T', ht, kit_ty (kit_six T' hT t h6), ?_⟩
  refine hQ _ _ F1 M1 hk ?_ k1 d1 s1
  rcases hT with rfl | rfl
  · rw [if_pos rfl, ← e1]; exact Dq.bl _
  · rw [if_neg (by decide), ← e2]; exact Dq.bl _
/-! ### max, min, abs, int, repr -/
theorem ev_max (C : Ctx G k X) (hg : Gl X "max") (hm : G.mg "max" = none) (h : EvE X f ρ a fun R => EvE X f ρ b fun S => ∃ x y : Int, R = nt x ∧ S = nt y ∧ κ (nt (if y > x then y else x)))
    (he : starEach (a :: [b]) X.env = (false, eval a X.env) :: starEach [b] X.env := by rfl) (hb : starEach (b :: []) X.env = (false, eval b X.env) :: starEach [] X.env := by rfl) (hpl : (backTo pos (starEach [b] X.env)).any (·.1) = false := by rfl) : EvE X f ρ (.Call (.Name "max" p) [a, b] [] pos) κ :=
  ev_callB C (call_max2 C.calm) hg hm (by decide +kernel) (ea_cons (ev_imp h fun R hh => ea_one (ev_imp hh fun S ⟨x, y, e1, e2, hk⟩ => fun F M vs d hvs va Q hQ => by
    obtain ⟨v, w, rfl, hv, hw⟩ := rpa2 hvs
    subst e1 e2
    cases hv
    cases hw
    exact ⟨x, y, rfl, hQ _ _ F hk (Dq.int _) (Same.refl F) d⟩) hb) he) (he := he) (hpl := hpl)
theorem ev_min (C : Ctx G k X) (hg : Gl X "min") (hm : G.mg "min" = none) (h : EvE X f ρ a fun R => EvE X f ρ b fun S => ∃ x y : Int, R = nt x ∧ S = nt y ∧ κ (nt (if y < x then y else x)))
    (he : starEach (a :: [b]) X.env = (false, eval a X.env) :: starEach [b] X.env := by rfl) (hb : starEach (b :: []) X.env = (false, eval b X.env) :: starEach [] X.env := by rfl) (hpl : (backTo pos (starEach [b] X.env)).any (·.1) = false := by rfl) : EvE X f ρ (.Call (.Name "min" p) [a, b] [] pos) κ :=
  ev_callB C (call_min2 C.calm) hg hm (by decide +kernel) (ea_cons (ev_imp h fun R hh => ea_one (ev_imp hh fun S ⟨x, y, e1, e2, hk⟩ => fun F M vs d hvs va Q hQ => by
    obtain ⟨v, w, rfl, hv, hw⟩ := rpa2 hvs
    subst e1 e2
    cases hv
    cases hw
    exact ⟨x, y, rfl, hQ _ _ F hk (Dq.int _) (Same.refl F) d⟩) hb) he) (he := he) (hpl := hpl)
theorem ev_abs (C : Ctx G k X) (hg : Gl X "abs") (hm : G.mg "abs" = none) (h : EvE X f ρ e fun R => ∃ x : Int, R = nt x ∧ κ (nt (if x < 0 then -x else x))) (he : starEach (e :: []) X.env = (false, eval e X.env) :: starEach [] X.env := by rfl) : EvE X f ρ (.Call (.Name "abs" p) [e] [] pos) κ :=
  ev_callB C call_abs hg hm (by decide +kernel) (ea_one (ev_imp h fun R ⟨x, e1, hk⟩ => fun F M vs d hvs va Q hQ => by
    obtain ⟨v, rfl, hv⟩ := rpa1 hvs
    subst e1
    cases hv
    exact ⟨x, rfl, hQ _ _ F hk (Dq.int _) (Same.refl F) d⟩) he) (he := he) (hpl := by rfl)
theorem ev_repr (C : Ctx G k X) (hg : Gl X "repr") (hm : G.mg "repr" = none) (h : EvE X f ρ e fun R => ∃ x : Int, R = nt x ∧ x.natAbs.log2 < 1920 ∧ κ (FR.st (toString x))) (he : starEach (e :: []) X.env = (false, eval e X.env) :: starEach [] X.env := by rfl) : EvE X f ρ (.Call (.Name "repr" p) [e] [] pos) κ :=
  ev_callB C SkE.call_repr_int hg hm (by decide +kernel) (ea_one (ev_imp h fun R ⟨x, e1, hl, hk⟩ => fun F M vs d hvs va Q hQ => by
    obtain ⟨v, rfl, hv⟩ := rpa1 hvs
    subst e1
    cases hv
    exact ⟨x, rfl, hl, hQ _ _ F hk (Dq.str _) (Same.refl F) d⟩) he) (he := he) (hpl := by rfl)
/-- int(flag) -/
theorem ev_intB (C : Ctx G k X) (hg : Gl X "int") (hm : G.mg "int" = none) (h : EvE X f ρ e fun R => ∃ x : Bool, R = bl x ∧ κ (nt (if x then 1 else 0))) (he : starEach (e :: []) X.env = (false, eval e X.env) :: starEach [] X.env := by rfl) : EvE X f ρ (.Call (.Name "int" p) [e] [] pos) κ :=
  ev_callTy C call_int1 hg hm (by decide +kernel) (ea_one (ev_imp h fun R ⟨x, e1, hk⟩ => fun F M vs d hvs va Q hQ => by
    obtain ⟨v, rfl, hv⟩ := rpa1 hvs
    subst e1
    cases hv
    exact .inr ⟨x, rfl, hQ _ _ F hk (Dq.int _) (Same.refl F) d⟩) he) (he := he) (hpl := by rfl)
end
end FR
set_option Elab.async false
set_option linter.all false
set_option maxRecDepth 100000
set_option maxHeartbeats 1000000
namespace FR
open PySem PySem.Spec PyProof.Rows L2
abbrev n_is_name : List Str := ["value", "letter"]
abbrev p_is_name : List Str := ["value"]
theorem sc_is_name : FnScope n_is_name p_is_name (defScope s_is_name) := ⟨rfl, rfl, rfl, by decide +kernel, rfl, by decide +kernel, by decide +kernel⟩
abbrev n_is_ascending : List Str := ["items", "one", "later"]
abbrev p_is_ascending : List Str := ["items"]
theorem sc_is_ascending : FnScope n_is_ascending p_is_ascending (defScope s_is_ascending) := ⟨rfl, rfl, rfl, by decide +kernel, rfl, by decide +kernel, by decide +kernel⟩
abbrev n_are_names : List Str := ["value", "least", "most", "item"]
abbrev p_are_names : List Str := ["value", "least", "most"]
theorem sc_are_names : FnScope n_are_names p_are_names (defScope s_are_names) := ⟨rfl, rfl, rfl, by decide +kernel, rfl, by decide +kernel, by decide +kernel⟩
abbrev n_has_all : List Str := ["fields", "wanted", "field"]
abbrev p_has_all : List Str := ["fields", "wanted"]
theorem sc_has_all : FnScope n_has_all p_has_all (defScope s_has_all) := ⟨rfl, rfl, rfl, by decide +kernel, rfl, by decide +kernel, by decide +kernel⟩
abbrev n_is_fields : List Str := ["value"]
abbrev p_is_fields : List Str := ["value"]
theorem sc_is_fields : FnScope n_is_fields p_is_fields (defScope s_is_fields) := ⟨rfl, rfl, rfl, by decide +kernel, rfl, by decide +kernel, by decide +kernel⟩
abbrev n_is_reader : List Str := ["value", "part"]
abbrev p_is_reader : List Str := ["value"]
theorem sc_is_reader : FnScope n_is_reader p_is_reader (defScope s_is_reader) := ⟨rfl, rfl, rfl, by decide +kernel, rfl, by decide +kernel, by decide +kernel⟩
abbrev n_is_format : List Str := ["value"]
abbrev p_is_format : List Str := ["value"]
theorem sc_is_format : FnScope n_is_format p_is_format (defScope s_is_format) := ⟨rfl, rfl, rfl, by decide +kernel, rfl, by decide +kernel, by decide +kernel⟩
abbrev n_accepts : List Str := ["reader", "written"]
abbrev p_accepts : List Str := ["reader", "written"]
theorem sc_accepts : FnScope n_accepts p_accepts (defScope s_accepts) := ⟨rfl, rfl, rfl, by decide +kernel, rfl, by decide +kernel, by decide +kernel⟩
abbrev n_widened : List Str := ["reader", "other", "needs", "field"]
abbrev p_widened : List Str := ["reader", "other"]
theorem sc_widened : FnScope n_widened p_widened (defScope s_widened) := ⟨rfl, rfl, rfl, by decide +kernel, rfl, by decide +kernel, by decide +kernel⟩
abbrev n_is_channel : List Str := ["services", "value", "end", "part"]
abbrev p_is_channel : List Str := ["services", "value"]
theorem sc_is_channel : FnScope n_is_channel p_is_channel (defScope s_is_channel) := ⟨rfl, rfl, rfl, by decide +kernel, rfl, by decide +kernel, by decide +kernel⟩
abbrev n_are_channels : List Str := ["services", "value", "part"]
abbrev p_are_channels : List Str := ["services", "value"]
theorem sc_are_channels : FnScope n_are_channels p_are_channels (defScope s_are_channels) := ⟨rfl, rfl, rfl, by decide +kernel, rfl, by decide +kernel, by decide +kernel⟩
abbrev n_System__init__ : List Str := ["self", "services", "channels"]
abbrev p_System__init__ : List Str := ["self", "services", "channels"]
theorem sc_System__init__ : FnScope n_System__init__ p_System__init__ (defScope s_System__init__) := ⟨rfl, rfl, rfl, by decide +kernel, rfl, by decide +kernel, by decide +kernel⟩
abbrev n_channel_of : List Str := ["system", "name", "channel"]
abbrev p_channel_of : List Str := ["system", "name"]
theorem sc_channel_of : FnScope n_channel_of p_channel_of (defScope s_channel_of) := ⟨rfl, rfl, rfl, by decide +kernel, rfl, by decide +kernel, by decide +kernel⟩
abbrev n_kind_by_formats : List Str := ["old", "new", "new_reads_old", "old_reads_new"]
abbrev p_kind_by_formats : List Str := ["old", "new"]
theorem sc_kind_by_formats : FnScope n_kind_by_formats p_kind_by_formats (defScope s_kind_by_formats) := ⟨rfl, rfl, rfl, by decide +kernel, rfl, by decide +kernel, by decide +kernel⟩
abbrev n_words_of : List Str := ["channel", "found", "old", "new"]
abbrev p_words_of : List Str := ["channel"]
theorem sc_words_of : FnScope n_words_of p_words_of (defScope s_words_of) := ⟨rfl, rfl, rfl, by decide +kernel, rfl, by decide +kernel, by decide +kernel⟩
abbrev n_steps_with_owners : List Str := ["system", "found", "channel", "word"]
abbrev p_steps_with_owners : List Str := ["system"]
theorem sc_steps_with_owners : FnScope n_steps_with_owners p_steps_with_owners (defScope s_steps_with_owners) := ⟨rfl, rfl, rfl, by decide +kernel, rfl, by decide +kernel, by decide +kernel⟩
abbrev n_all_steps : List Str := ["system"]
abbrev p_all_steps : List Str := ["system"]
theorem sc_all_steps : FnScope n_all_steps p_all_steps (defScope s_all_steps) := ⟨rfl, rfl, rfl, by decide +kernel, rfl, by decide +kernel, by decide +kernel⟩
abbrev n_is_service : List Str := ["system", "value"]
abbrev p_is_service : List Str := ["system", "value"]
theorem sc_is_service : FnScope n_is_service p_is_service (defScope s_is_service) := ⟨rfl, rfl, rfl, by decide +kernel, rfl, by decide +kernel, by decide +kernel⟩
abbrev n_steps_of : List Str := ["system", "service", "step", "owner"]
abbrev p_steps_of : List Str := ["system", "service"]
theorem sc_steps_of : FnScope n_steps_of p_steps_of (defScope s_steps_of) := ⟨rfl, rfl, rfl, by decide +kernel, rfl, by decide +kernel, by decide +kernel⟩
abbrev n_pairs_of : List Str := ["channel", "name", "kind"]
abbrev p_pairs_of : List Str := ["channel"]
theorem sc_pairs_of : FnScope n_pairs_of p_pairs_of (defScope s_pairs_of) := ⟨rfl, rfl, rfl, by decide +kernel, rfl, by decide +kernel, by decide +kernel⟩
abbrev n_order_pairs : List Str := ["system", "found", "channel"]
abbrev p_order_pairs : List Str := ["system"]
theorem sc_order_pairs : FnScope n_order_pairs p_order_pairs (defScope s_order_pairs) := ⟨rfl, rfl, rfl, by decide +kernel, rfl, by decide +kernel, by decide +kernel⟩
abbrev n_left_pairs : List Str := ["system", "left", "pair"]
abbrev p_left_pairs : List Str := ["system", "left"]
theorem sc_left_pairs : FnScope n_left_pairs p_left_pairs (defScope s_left_pairs) := ⟨rfl, rfl, rfl, by decide +kernel, rfl, by decide +kernel, by decide +kernel⟩
abbrev n_are_steps : List Str := ["some", "value", "part", "word"]
abbrev p_are_steps : List Str := ["some", "value"]
theorem sc_are_steps : FnScope n_are_steps p_are_steps (defScope s_are_steps) := ⟨rfl, rfl, rfl, by decide +kernel, rfl, by decide +kernel, by decide +kernel⟩
abbrev n_Task__init__ : List Str := ["self", "system", "left", "step", "owner"]
abbrev p_Task__init__ : List Str := ["self", "system", "left"]
theorem sc_Task__init__ : FnScope n_Task__init__ p_Task__init__ (defScope s_Task__init__) := ⟨rfl, rfl, rfl, by decide +kernel, rfl, by decide +kernel, by decide +kernel⟩
abbrev n_Taskpair_edges : List Str := ["self", "found", "first", "second", "one", "other"]
abbrev p_Taskpair_edges : List Str := ["self"]
theorem sc_Taskpair_edges : FnScope n_Taskpair_edges p_Taskpair_edges (defScope s_Taskpair_edges) := ⟨rfl, rfl, rfl, by decide +kernel, rfl, by decide +kernel, by decide +kernel⟩
abbrev n_Taskforced_numbers : List Str := ["self", "steps_by_place", "found", "first", "second", "step", "service", "channel", "many", "place"]
abbrev p_Taskforced_numbers : List Str := ["self"]
theorem sc_Taskforced_numbers : FnScope n_Taskforced_numbers p_Taskforced_numbers (defScope s_Taskforced_numbers) := ⟨rfl, rfl, rfl, by decide +kernel, rfl, by decide +kernel, by decide +kernel⟩
abbrev n_Taskbusy_services : List Str := ["self"]
abbrev p_Taskbusy_services : List Str := ["self"]
theorem sc_Taskbusy_services : FnScope n_Taskbusy_services p_Taskbusy_services (defScope s_Taskbusy_services) := ⟨rfl, rfl, rfl, by decide +kernel, rfl, by decide +kernel, by decide +kernel⟩
abbrev n_whole_task : List Str := ["system"]
abbrev p_whole_task : List Str := ["system"]
theorem sc_whole_task : FnScope n_whole_task p_whole_task (defScope s_whole_task) := ⟨rfl, rfl, rfl, by decide +kernel, rfl, by decide +kernel, by decide +kernel⟩
abbrev n_leaders_of : List Str := ["edge_list", "services", "found", "one", "other", "service"]
abbrev p_leaders_of : List Str := ["edge_list", "services"]
theorem sc_leaders_of : FnScope n_leaders_of p_leaders_of (defScope s_leaders_of) := ⟨rfl, rfl, rfl, by decide +kernel, rfl, by decide +kernel, by decide +kernel⟩
abbrev n_unblocked : List Str := ["leaders", "rest", "service", "one"]
abbrev p_unblocked : List Str := ["leaders", "rest"]
theorem sc_unblocked : FnScope n_unblocked p_unblocked (defScope s_unblocked) := ⟨rfl, rfl, rfl, by decide +kernel, rfl, by decide +kernel, by decide +kernel⟩
abbrev n_cycle_among : List Str := ["edge_list", "services", "gone", "walk", "leaders", "rest", "service", "one"]
abbrev p_cycle_among : List Str := ["edge_list", "services"]
theorem sc_cycle_among : FnScope n_cycle_among p_cycle_among (defScope s_cycle_among) := ⟨rfl, rfl, rfl, by decide +kernel, rfl, by decide +kernel, by decide +kernel⟩
abbrev n_others_than : List Str := ["services", "without", "service"]
abbrev p_others_than : List Str := ["services", "without"]
theorem sc_others_than : FnScope n_others_than p_others_than (defScope s_others_than) := ⟨rfl, rfl, rfl, by decide +kernel, rfl, by decide +kernel, by decide +kernel⟩
abbrev n_order_among : List Str := ["edge_list", "services", "cycle", "leaders", "rest", "found"]
abbrev p_order_among : List Str := ["edge_list", "services"]
theorem sc_order_among : FnScope n_order_among p_order_among (defScope s_order_among) := ⟨rfl, rfl, rfl, by decide +kernel, rfl, by decide +kernel, by decide +kernel⟩
abbrev n_edges : List Str := ["system"]
abbrev p_edges : List Str := ["system"]
theorem sc_edges : FnScope n_edges p_edges (defScope s_edges) := ⟨rfl, rfl, rfl, by decide +kernel, rfl, by decide +kernel, by decide +kernel⟩
abbrev n_forced : List Str := ["system"]
abbrev p_forced : List Str := ["system"]
theorem sc_forced : FnScope n_forced p_forced (defScope s_forced) := ⟨rfl, rfl, rfl, by decide +kernel, rfl, by decide +kernel, by decide +kernel⟩
abbrev n_find_cycle : List Str := ["system", "without"]
abbrev p_find_cycle : List Str := ["system", "without"]
theorem sc_find_cycle : FnScope n_find_cycle p_find_cycle (defScope s_find_cycle) := ⟨rfl, rfl, rfl, by decide +kernel, rfl, by decide +kernel, by decide +kernel⟩
abbrev n_part_of : List Str := ["task", "service", "step", "is_second", "is_first", "receiver", "first", "second"]
abbrev p_part_of : List Str := ["task", "service", "step"]
theorem sc_part_of : FnScope n_part_of p_part_of (defScope s_part_of) := ⟨rfl, rfl, rfl, by decide +kernel, rfl, by decide +kernel, by decide +kernel⟩
abbrev n_releases_of : List Str := ["task", "services", "part", "found", "service", "own", "steps", "step"]
abbrev p_releases_of : List Str := ["task", "services", "part"]
theorem sc_releases_of : FnScope n_releases_of p_releases_of (defScope s_releases_of) := ⟨rfl, rfl, rfl, by decide +kernel, rfl, by decide +kernel, by decide +kernel⟩
abbrev n_plan_of : List Str := ["task", "split", "others", "found"]
abbrev p_plan_of : List Str := ["task", "split"]
theorem sc_plan_of : FnScope n_plan_of p_plan_of (defScope s_plan_of) := ⟨rfl, rfl, rfl, by decide +kernel, rfl, by decide +kernel, by decide +kernel⟩
abbrev n_subsets : List Str := ["items", "count", "found", "turn", "longer", "chosen", "start", "at"]
abbrev p_subsets : List Str := ["items", "count"]
theorem sc_subsets : FnScope n_subsets p_subsets (defScope s_subsets) := ⟨rfl, rfl, rfl, by decide +kernel, rfl, by decide +kernel, by decide +kernel⟩
abbrev n_fewest_sets : List Str := ["task", "free", "count", "services", "must", "candidates", "found", "chosen", "one"]
abbrev p_fewest_sets : List Str := ["task"]
theorem sc_fewest_sets : FnScope n_fewest_sets p_fewest_sets (defScope s_fewest_sets) := ⟨rfl, rfl, rfl, by decide +kernel, rfl, by decide +kernel, by decide +kernel⟩
abbrev n_releases_needed : List Str := ["task", "three", "service", "number"]
abbrev p_releases_needed : List Str := ["task"]
theorem sc_releases_needed : FnScope n_releases_needed p_releases_needed (defScope s_releases_needed) := ⟨rfl, rfl, rfl, by decide +kernel, rfl, by decide +kernel, by decide +kernel⟩
abbrev n_fewest_releases : List Str := ["system"]
abbrev p_fewest_releases : List Str := ["system"]
theorem sc_fewest_releases : FnScope n_fewest_releases p_fewest_releases (defScope s_fewest_releases) := ⟨rfl, rfl, rfl, by decide +kernel, rfl, by decide +kernel, by decide +kernel⟩
abbrev n_fewest_plan : List Str := ["system", "task"]
abbrev p_fewest_plan : List Str := ["system"]
theorem sc_fewest_plan : FnScope n_fewest_plan p_fewest_plan (defScope s_fewest_plan) := ⟨rfl, rfl, rfl, by decide +kernel, rfl, by decide +kernel, by decide +kernel⟩
abbrev n_written_at : List Str := ["channel", "done"]
abbrev p_written_at : List Str := ["channel", "done"]
theorem sc_written_at : FnScope n_written_at p_written_at (defScope s_written_at) := ⟨rfl, rfl, rfl, by decide +kernel, rfl, by decide +kernel, by decide +kernel⟩
abbrev n_reader_at : List Str := ["channel", "done", "old", "new"]
abbrev p_reader_at : List Str := ["channel", "done"]
theorem sc_reader_at : FnScope n_reader_at p_reader_at (defScope s_reader_at) := ⟨rfl, rfl, rfl, by decide +kernel, rfl, by decide +kernel, by decide +kernel⟩
abbrev n_versions_of : List Str := ["done", "running", "service"]
abbrev p_versions_of : List Str := ["done", "running", "service"]
theorem sc_versions_of : FnScope n_versions_of p_versions_of (defScope s_versions_of) := ⟨rfl, rfl, rfl, by decide +kernel, rfl, by decide +kernel, by decide +kernel⟩
abbrev n_is_refused : List Str := ["channel", "done", "running", "readers", "version", "written", "reader"]
abbrev p_is_refused : List Str := ["channel", "done", "running"]
theorem sc_is_refused : FnScope n_is_refused p_is_refused (defScope s_is_refused) := ⟨rfl, rfl, rfl, by decide +kernel, rfl, by decide +kernel, by decide +kernel⟩
abbrev n_refused_while : List Str := ["system", "done", "running", "channel"]
abbrev p_refused_while : List Str := ["system", "done", "running"]
theorem sc_refused_while : FnScope n_refused_while p_refused_while (defScope s_refused_while) := ⟨rfl, rfl, rfl, by decide +kernel, rfl, by decide +kernel, by decide +kernel⟩
abbrev n_is_release : List Str := ["system", "value"]
abbrev p_is_release : List Str := ["system", "value"]
theorem sc_is_release : FnScope n_is_release p_is_release (defScope s_is_release) := ⟨rfl, rfl, rfl, by decide +kernel, rfl, by decide +kernel, by decide +kernel⟩
abbrev n_is_plan : List Str := ["system", "value", "service", "steps", "step", "release"]
abbrev p_is_plan : List Str := ["system", "value"]
theorem sc_is_plan : FnScope n_is_plan p_is_plan (defScope s_is_plan) := ⟨rfl, rfl, rfl, by decide +kernel, rfl, by decide +kernel, by decide +kernel⟩
abbrev n_first_fault : List Str := ["system", "plan", "done", "index", "refused", "service", "steps"]
abbrev p_first_fault : List Str := ["system", "plan"]
theorem sc_first_fault : FnScope n_first_fault p_first_fault (defScope s_first_fault) := ⟨rfl, rfl, rfl, by decide +kernel, rfl, by decide +kernel, by decide +kernel⟩
abbrev n_is_safe : List Str := ["system", "plan"]
abbrev p_is_safe : List Str := ["system", "plan"]
theorem sc_is_safe : FnScope n_is_safe p_is_safe (defScope s_is_safe) := ⟨rfl, rfl, rfl, by decide +kernel, rfl, by decide +kernel, by decide +kernel⟩
abbrev n__law_urn : List Str := ["_law_script", "_law_k", "_law_cell", "_law_own"]
abbrev p__law_urn : List Str := ["_law_script", "_law_k"]
theorem sc__law_urn : FnScope n__law_urn p__law_urn (defScope s__law_urn) := ⟨rfl, rfl, rfl, by decide +kernel, rfl, by decide +kernel, by decide +kernel⟩
abbrev n__law_take : List Str := ["_law_urn_here", "_law_below", "_law_digit"]
abbrev p__law_take : List Str := ["_law_urn_here", "_law_below"]
theorem sc__law_take : FnScope n__law_take p__law_take (defScope s__law_take) := ⟨rfl, rfl, rfl, by decide +kernel, rfl, by decide +kernel, by decide +kernel⟩
abbrev n__law_of : List Str := ["_law_urn_here", "_law_items"]
abbrev p__law_of : List Str := ["_law_urn_here", "_law_items"]
theorem sc__law_of : FnScope n__law_of p__law_of (defScope s__law_of) := ⟨rfl, rfl, rfl, by decide +kernel, rfl, by decide +kernel, by decide +kernel⟩
abbrev n__law_names : List Str := ["_law_urn_here", "_law_count", "_law_stem", "_law_letters", "_law_first", "_law_leap", "_law_at_here", "_law_turn", "_law_letter"]
abbrev p__law_names : List Str := ["_law_urn_here", "_law_count"]
theorem sc__law_names : FnScope n__law_names p__law_names (defScope s__law_names) := ⟨rfl, rfl, rfl, by decide +kernel, rfl, by decide +kernel, by decide +kernel⟩
abbrev n__law_some : List Str := ["_law_urn_here", "_law_items", "_law_share", "_law_item"]
abbrev p__law_some : List Str := ["_law_urn_here", "_law_items", "_law_share"]
theorem sc__law_some : FnScope n__law_some p__law_some (defScope s__law_some) := ⟨rfl, rfl, rfl, by decide +kernel, rfl, by decide +kernel, by decide +kernel⟩
abbrev n__law_pair : List Str := ["_law_urn_here", "_law_kind_here", "_law_shapes", "_law_extra", "_law_first", "_law_second", "_law_one", "_law_both", "_law_old", "_law_new", "_law_alike", "_law_crossed"]
abbrev p__law_pair : List Str := ["_law_urn_here", "_law_kind_here"]
theorem sc__law_pair : FnScope n__law_pair p__law_pair (defScope s__law_pair) := ⟨rfl, rfl, rfl, by decide +kernel, rfl, by decide +kernel, by decide +kernel⟩
abbrev n__law_loose : List Str := ["_law_urn_here", "_law_knows", "_law_sent"]
abbrev p__law_loose : List Str := ["_law_urn_here"]
theorem sc__law_loose : FnScope n__law_loose p__law_loose (defScope s__law_loose) := ⟨rfl, rfl, rfl, by decide +kernel, rfl, by decide +kernel, by decide +kernel⟩
abbrev n__law_more : List Str := ["_law_form", "_law_extra", "_law_at_here"]
abbrev p__law_more : List Str := ["_law_form", "_law_extra"]
theorem sc__law_more : FnScope n__law_more p__law_more (defScope s__law_more) := ⟨rfl, rfl, rfl, by decide +kernel, rfl, by decide +kernel, by decide +kernel⟩
abbrev n__law_system : List Str := ["_law_urn_here", "_law_most", "_law_lines", "_law_kinds_here", "_law_homes", "_law_label", "_law_found", "_law_names_here", "_law_ends"]
abbrev p__law_system : List Str := ["_law_urn_here", "_law_most", "_law_lines", "_law_kinds_here"]
theorem sc__law_system : FnScope n__law_system p__law_system (defScope s__law_system) := ⟨rfl, rfl, rfl, by decide +kernel, rfl, by decide +kernel, by decide +kernel⟩
abbrev n__law_kinds : List Str := []
abbrev p__law_kinds : List Str := []
theorem sc__law_kinds : FnScope n__law_kinds p__law_kinds (defScope s__law_kinds) := ⟨rfl, rfl, rfl, by decide +kernel, rfl, by decide +kernel, by decide +kernel⟩
abbrev n__law_reads : List Str := ["_law_eye", "_law_sent", "_law_field"]
abbrev p__law_reads : List Str := ["_law_eye", "_law_sent"]
theorem sc__law_reads : FnScope n__law_reads p__law_reads (defScope s__law_reads) := ⟨rfl, rfl, rfl, by decide +kernel, rfl, by decide +kernel, by decide +kernel⟩
abbrev n__law_kind : List Str := ["_law_channel", "_law_old", "_law_new", "_law_ahead", "_law_behind"]
abbrev p__law_kind : List Str := ["_law_channel"]
theorem sc__law_kind : FnScope n__law_kind p__law_kind (defScope s__law_kind) := ⟨rfl, rfl, rfl, by decide +kernel, rfl, by decide +kernel, by decide +kernel⟩
abbrev n__law_steps : List Str := ["_law_lines", "_law_found", "_law_channel", "_law_label", "_law_sender", "_law_receiver", "_law_old", "_law_new", "_law_word"]
abbrev p__law_steps : List Str := ["_law_lines"]
theorem sc__law_steps : FnScope n__law_steps p__law_steps (defScope s__law_steps) := ⟨rfl, rfl, rfl, by decide +kernel, rfl, by decide +kernel, by decide +kernel⟩
abbrev n__law_at : List Str := ["_law_channel", "_law_past", "_law_eye", "_law_label", "_law_old", "_law_new", "_law_needs", "_law_field"]
abbrev p__law_at : List Str := ["_law_channel", "_law_past"]
theorem sc__law_at : FnScope n__law_at p__law_at (defScope s__law_at) := ⟨rfl, rfl, rfl, by decide +kernel, rfl, by decide +kernel, by decide +kernel⟩
abbrev n__law_refused : List Str := ["_law_lines", "_law_past", "_law_running", "_law_found", "_law_channel", "_law_eye", "_law_sent", "_law_readers", "_law_fields"]
abbrev p__law_refused : List Str := ["_law_lines", "_law_past", "_law_running"]
theorem sc__law_refused : FnScope n__law_refused p__law_refused (defScope s__law_refused) := ⟨rfl, rfl, rfl, by decide +kernel, rfl, by decide +kernel, by decide +kernel⟩
abbrev n__law_parts : List Str := ["_law_items", "_law_found", "_law_item", "_law_part"]
abbrev p__law_parts : List Str := ["_law_items"]
theorem sc__law_parts : FnScope n__law_parts p__law_parts (defScope s__law_parts) := ⟨rfl, rfl, rfl, by decide +kernel, rfl, by decide +kernel, by decide +kernel⟩
abbrev n__law_ways : List Str := ["_law_homes", "_law_lines", "_law_past", "_law_is_whole", "_law_owner", "_law_owners", "_law_found", "_law_left", "_law_some_here", "_law_move"]
abbrev p__law_ways : List Str := ["_law_homes", "_law_lines", "_law_past", "_law_is_whole"]
theorem sc__law_ways : FnScope n__law_ways p__law_ways (defScope s__law_ways) := ⟨rfl, rfl, rfl, by decide +kernel, rfl, by decide +kernel, by decide +kernel⟩
abbrev n__law_fewest : List Str := ["_law_homes", "_law_lines", "_law_is_whole", "_law_many", "_law_every", "_law_here", "_law_met", "_law_behind", "_law_past", "_law_owner", "_law_some_here", "_law_later"]
abbrev p__law_fewest : List Str := ["_law_homes", "_law_lines", "_law_is_whole"]
theorem sc__law_fewest : FnScope n__law_fewest p__law_fewest (defScope s__law_fewest) := ⟨rfl, rfl, rfl, by decide +kernel, rfl, by decide +kernel, by decide +kernel⟩
abbrev n__law_right : List Str := ["_law_urn_here", "_law_turned", "_law_one", "_law_is_single", "_law_homes", "_law_lines", "_law_home", "_law_due", "_law_told", "_law_course"]
abbrev p__law_right : List Str := ["_law_urn_here"]
theorem sc__law_right : FnScope n__law_right p__law_right (defScope s__law_right) := ⟨rfl, rfl, rfl, by decide +kernel, rfl, by decide +kernel, by decide +kernel⟩
abbrev n_law : List Str := ["_law_script", "_law_k", "_law_urn_here", "_law_turn"]
abbrev p_law : List Str := ["_law_script"]
theorem sc_law : FnScope n_law p_law (defScope s_law) := ⟨rfl, rfl, rfl, by decide +kernel, rfl, by decide +kernel, by decide +kernel⟩
structure Gx (G : Gb) : Prop where
  f_len : G.mg "len" = none
  f_zip : G.mg "zip" = none
  f_all : G.mg "all" = none
  f_any : G.mg "any" = none
  f_isinstance : G.mg "isinstance" = none
  f_str : G.mg "str" = none
  f_tuple : G.mg "tuple" = none
  f_sorted : G.mg "sorted" = none
  f_set : G.mg "set" = none
  f_list : G.mg "list" = none
  f_enumerate : G.mg "enumerate" = none
  f_range : G.mg "range" = none
  f_max : G.mg "max" = none
  f_min : G.mg "min" = none
  f_abs : G.mg "abs" = none
  f_int : G.mg "int" = none
  f_repr : G.mg "repr" = none
  c_LETTERS : ∃ t, G.mg "LETTERS" = some (.str "abcdefghijklmnopqrstuvwxyz" t)
  c_LONGEST_NAME : ∃ t, G.mg "LONGEST_NAME" = some (.int 8 t)
  c_MOST_FIELDS : ∃ t, G.mg "MOST_FIELDS" = some (.int 12 t)
  c_READER_PARTS : ∃ t, G.mg "READER_PARTS" = some (.int 2 t)
  c_FORMAT_PARTS : ∃ t, G.mg "FORMAT_PARTS" = some (.int 3 t)
  c_MOST_SERVICES : ∃ t, G.mg "MOST_SERVICES" = some (.int 12 t)
  c_MOST_CHANNELS : ∃ t, G.mg "MOST_CHANNELS" = some (.int 40 t)
  c_CHANNEL_PARTS : ∃ t, G.mg "CHANNEL_PARTS" = some (.int 5 t)
  c_FREE : ∃ t, G.mg "FREE" = some (.str "free" t)
  c_READER_FIRST : ∃ t, G.mg "READER_FIRST" = some (.str "reader first" t)
  c_WRITER_FIRST : ∃ t, G.mg "WRITER_FIRST" = some (.str "writer first" t)
  c_SPLIT : ∃ t, G.mg "SPLIT" = some (.str "split" t)
  c_SWITCH : ∃ t, G.mg "SWITCH" = some (.str "switch" t)
  c_READ : ∃ t, G.mg "READ" = some (.str "read" t)
  c_WIDEN : ∃ t, G.mg "WIDEN" = some (.str "widen" t)
  c_NARROW : ∃ t, G.mg "NARROW" = some (.str "narrow" t)
  c_LEAST_FORCED : ∃ t, G.mg "LEAST_FORCED" = some (.int 2 t)
  c_FIRST : ∃ t, G.mg "FIRST" = some (.str "first" t)
  c_MIDDLE : ∃ t, G.mg "MIDDLE" = some (.str "middle" t)
  c_LAST : ∃ t, G.mg "LAST" = some (.str "last" t)
  c_THREE : ∃ t, G.mg "THREE" = some (.int 3 t)
  c_RELEASE_PARTS : ∃ t, G.mg "RELEASE_PARTS" = some (.int 2 t)
/-- a def of the text stands at its name -/
structure Std (G : Gb) (x qual : Str) (st : Stmt) : Prop where
  ex : ∃ f fd, FunD G.K x qual (defArgs st) (defBody st) (defScope st) [] [] f fd ∧ G.mg x = some (.ref f)
theorem Std.prom {G : Gb} {x : Str} {st : Stmt} {k : Nat} {N ps : List Str} {T : Tp} (S : Std G x x st) (sc : FnScope N ps (defScope st)) (hT : ∀ Rs κ, T Rs κ → Rs.length = ps.length)
    (hb : ∀ (kV doc pm : Value) (an : Option Addr) (cdv ct : Value) (us : List Value), us.length = ps.length → bindArgs (PySem.W.fnOf x x (defArgs st) (defBody st) (defScope st) .none kV doc pm an cdv ct) ⟨us, []⟩ = pure (ps.zip us))
    (h : ∀ X f Rs κ, Ctx G k X → (f.U = none ∧ ∀ x, X.fn x = true) → T Rs κ → WSs (mkX X N (defScope st)) f (startE N Rs) (defBody st) { nx := fun _ => κ (dat .none), rt := κ }) : Prom G x (k + 1) ps (SpF T) := by
  obtain ⟨f, fd, F, hm⟩ := S.ex
  exact ⟨f, fd, ok_fn F sc hT h, hm, F.kp, F.bindsN hb⟩
theorem Std.promU {G : Gb} {x : Str} {st : Stmt} {k : Nat} {N ps : List Str} {T : Tp} (S : Std G x x st) (sc : FnScope N ps (defScope st)) (hT : ∀ Rs κ, T Rs κ → Rs.length + 1 = ps.length)
    (hb : ∀ (kV doc pm : Value) (an : Option Addr) (cdv ct : Value) (us : List Value), us.length = ps.length → bindArgs (PySem.W.fnOf x x (defArgs st) (defBody st) (defScope st) .none kV doc pm an cdv ct) ⟨us, []⟩ = pure (ps.zip us))
    (h : ∀ X f u Rs κ, Ctx G k X → (f.U = some u ∧ ∀ x, X.fn x = true) → T Rs κ → WSs (mkX X N (defScope st)) f (some .ur :: (startE N (dat .none :: Rs)).tail) (defBody st) { nx := fun _ => κ (dat .none), rt := κ }) : Prom G x (k + 1) ps (SpU T) := by
  obtain ⟨f, fd, F, hm⟩ := S.ex
  exact ⟨f, fd, ok_fnU F sc hT h, hm, F.kp, F.bindsN hb⟩
end FR
set_option Elab.async false
set_option linter.all false
set_option maxRecDepth 100000
set_option maxHeartbeats 1000000
namespace FR
open PySem PySem.Spec PyProof.Rows L2
section
variable {X : Cx} {f : Fx} {ρ : Env} {e a b c : Expr} {es : List Expr} {κ : Rp → Prop} {Φ : Post} {pos : Pos} {G : Gb} {k : Nat} {α : Type} {N : List Str} {sc : Scope}
def visB (sc : Scope) (x : Str) : Bool := sc.names.lookup x == some .local || (sc.names.lookup x == some .cell || sc.names.lookup x == some .free)
def locB (sc : Scope) (x : Str) : Bool := sc.names.lookup x == some .local || sc.names.lookup x == some .cell
def gloB (sc : Scope) (x : Str) : Bool := sc.names.lookup x == some .globalImplicit
theorem vis_of {x : Str} (h : visB sc x = true) : Vis sc x := by
  unfold visB at h
  simp only [Bool.or_eq_true, beq_iff_eq] at h
  exact h
theorem loc_of {x : Str} (h : locB sc x = true) : Loc sc x := by
  unfold locB at h
  simp only [Bool.or_eq_true, beq_iff_eq] at h
  exact h
theorem glo_of {x : Str} (h : gloB sc x = true) : Gl (mkX X N sc) x := by
  unfold gloB at h
  exact beq_iff_eq.mp h
theorem v {x : Str} (i : Nat) {R : Rp} (k : κ R) (h : ρ[i]? = some (some (.fz R)) := by rfl) (hN : N[i]? = some x := by rfl) (hv : visB sc x = true := by decide +kernel)
    (hd : (x == ("__debug__" : Str)) = false := by decide +kernel) (hcd : (x == ("__classdict__" : Str)) = false := by decide +kernel) : EvE (mkX X N sc) f ρ (.Name x pos) κ := ev_var i h hN (vis_of hv) k hd hcd
theorem gs {x z : Str} (C : Ctx G k X) (hm : ∃ t, G.mg x = some (.str z t)) (kk : κ (FR.st z)) (hg : gloB sc x = true := by decide +kernel) (hd : (x == ("__debug__" : Str)) = false := by decide +kernel) : EvE (mkX X N sc) f ρ (.Name x pos) κ := ev_gstr C.at (glo_of hg) hm kk hd
theorem gi {x : Str} {z : Int} (C : Ctx G k X) (hm : ∃ t, G.mg x = some (.int z t)) (kk : κ (nt z)) (hg : gloB sc x = true := by decide +kernel) (hd : (x == ("__debug__" : Str)) = false := by decide +kernel) : EvE (mkX X N sc) f ρ (.Name x pos) κ := ev_gint C.at (glo_of hg) hm kk hd
theorem tn {x : Str} {js : List Nat} {R : Rp} {κ : Env → Prop} (i : Nat) (hN : N.Nodup) (k : κ (ρ.set i (some (.fz R)))) (hi : N[i]? = some x := by rfl) (hx : sc.names.lookup x = some .local := by decide +kernel) (hj : i ∈ js := by decide) :
    AsT (mkX X N sc) f ρ (.Name x pos) R js κ := at_name i hN hi (.inl hx) hj k (.inr hx)
end
end FR
set_option Elab.async false
set_option linter.all false
set_option maxRecDepth 100000
set_option maxHeartbeats 1000000
namespace FR
open PySem PySem.Spec PyProof.Rows L2
/-- list.remove of a flat thing that is there -/
def rRemF : V → List V → Hp → VK → Prop := fun x vs H Q => ∃ (l : Addr) (xs : List V) (y : V) (j : Nat) (z : V), x = .ref l ∧ vs = [y] ∧ H l = some (.lst xs) ∧ flatV y = true ∧ xs.all flatV = true ∧ xs[j]? = some z ∧ eqV z y = true ∧
  (∀ (m : Nat) (z' : V), m < j → xs[m]? = some z' → eqV z' y = false) ∧ Q .non (upd H l (.lst (xs.eraseIdx j)))
theorem mt_remF {X : Cx} : MtR X "list.remove" rRemF := by
  intro pins s σ H x vs v us Q I rx rv h
  obtain ⟨l, xs, y, j, z, rfl, rfl, hH, fy, fys, hz, hzj, hno, q⟩ := h
  cases rx
  obtain ⟨u, rfl, ru⟩ := rv.one
  obtain ⟨zz, its, n, r, hl, e⟩ := I.lstM hH
  obtain ⟨w, hw, rw'⟩ := r.get hz
  obtain ⟨hjl, hje⟩ := List.getElem?_eq_some_iff.mp hw
  refine call_meets PySem.F.slot_list_remove ⟨_, e, rfl⟩ PySem.F.entry_list_remove (PySem.F.args_list_remove_2 _ _)
    (SeqAt.list_removeAt l its.toArray n none #[] u (eqU y) j (by simpa using hjl) ?_ ?_ (by rw [List.size_toArray, ← hl]; exact zz)) ⟨e, fun u' hu' => mem_eqAt ru fy r fys u' (by simpa using hu'), ?_⟩
  · have e1 : its.toArray[j] = w := by simpa using hje
    rw [e1, eqU_of rw' (flat_at fys hz)]
    exact hzj
  · intro m hm hmj
    have hml : m < its.length := by simpa using hm
    have hmy : m < xs.length := by omega
    have hy' : xs[m]? = some xs[m] := List.getElem?_eq_getElem hmy
    obtain ⟨u2, hu2, ru2⟩ := r.get hy'
    obtain ⟨_, hme⟩ := List.getElem?_eq_some_iff.mp hu2
    have e1 : its.toArray[m] = u2 := by simpa using hme
    rw [e1, eqU_of ru2 (flat_at fys hy')]
    exact hno m _ hmj hy'
  · refine ⟨.non, _, I.lset (its' := its.eraseIdx j) hH e ?_ (r.eraseIdx j) ?_, rfl, q⟩
    · show its.toArray.eraseIdxIfInBounds j = (its.eraseIdx j).toArray
      rw [List.eraseIdxIfInBounds_toArray]
    · have := len_erase xs j
      omega
section
variable {X : Cx} {f : Fx} {ρ : Env} {e a b c : Expr} {es : List Expr} {s : Stmt} {ss : List Stmt} {κ : Rp → Prop} {Φ : Post} {pos : Pos} {G : Gb} {k : Nat} {α : Type} {N : List Str} {sc : Scope}
/-! ### what is one's own -/
theorem EnvOk.upd {σ : L2.St} {F M : Hp} {i : Nat} {P P' : Op} {a : Addr} {o' : HO} (E : EnvOk f σ ρ F M) (h : ρ[i]? = some (some (.ow P))) (hσ : σ[i]? = some (some (.ref a))) (hP : P'.p o' F) : EnvOk f σ (ρ.set i (some (.ow P'))) F (upd M a o') := by
  obtain ⟨v, h1, a', o, h2, h3, h4, h5, h6⟩ := E.ent i _ h
  have ea : a' = a := by
    rw [hσ] at h1
    have := Option.some.inj (Option.some.inj h1)
    rw [← this] at h2
    exact (V.ref.inj h2).symm
  subst ea
  have hl : i < ρ.length := (List.getElem?_eq_some_iff.mp h).1
  refine ⟨by rw [List.length_set]; exact E.len, fun j e he => ?_, fun j l Q Q' g1 g2 g3 => ?_, fun b x hb => ?_, fun u hu => ?_⟩
  · by_cases hj : i = j
    · subst hj
      rw [List.getElem?_set_self hl] at he
      cases he
      exact ⟨.ref a', hσ, a', o', rfl, upd_same, hP, h5, h6⟩
    · rw [List.getElem?_set_ne hj] at he
      obtain ⟨w, q1, q2⟩ := E.ent j e he
      refine ⟨w, q1, ?_⟩
      cases e with
      | fz R => exact q2
      | ur => exact q2
      | ow R =>
        obtain ⟨b, x, r1, r2, r3⟩ := q2
        have ne : b ≠ a' := fun z => hj (E.inj i j P R h he (by rw [hσ, q1, r1, z]))
        exact ⟨b, x, r1, by rw [upd_ne ne]; exact r2, r3⟩
  · have lk : ∀ (m : Nat) (Q : Op), (ρ.set i (some (.ow P')))[m]? = some (some (.ow Q)) → ∃ Q0, ρ[m]? = some (some (.ow Q0)) := fun m Q g => by
      by_cases hm : i = m
      · subst hm; exact ⟨P, h⟩
      · rw [List.getElem?_set_ne hm] at g; exact ⟨Q, g⟩
    obtain ⟨Q0, g1⟩ := lk j Q g1
    obtain ⟨Q1, g2⟩ := lk l Q' g2
    exact E.inj j l Q0 Q1 g1 g2 g3
  · have ne : b ≠ a' := fun z => by rw [z, h5] at hb; cases hb
    rw [upd_ne ne]; exact E.base b x hb
  · obtain ⟨m0, o2, q1, q2⟩ := E.urn u hu
    have ne : u ≠ a' := fun z => h6 (by rw [hu, z])
    exact ⟨m0, o2, by rw [upd_ne ne]; exact q1, q2⟩
def MtO (r : V → List V → Hp → VK → Prop) (P : Op) (R : Rp) (P' : Op) : Prop := ∀ F M a o w, Dis F M → M a = some o → P.p o F → R.p w F → ∀ Q : VK, (∀ o', P'.p o' F → ∀ w, Q w (ovl F (upd M a o'))) → r (.ref a) [w] (ovl F M) Q
/-- x.m(e), x a list of one's own -/
theorem ws_ownM {x name : Str} {id : String} {p1 apos cpos : Pos} {P : Op} {r : V → List V → Hp → VK → Prop} (i : Nat) (hi : ρ[i]? = some (some (.ow P))) (hN : X.N[i]? = some x) (hv : Vis X.env.scope x) (hL : ∀ o F, P.p o F → ∃ xs, o = .lst xs)
    (slot : Slot "list" name id) (hty : typeOf (.builtin id) = pure (.type "method_descriptor")) (hm : MtR X id r) (h : EvE X f ρ e fun R => ∃ P', MtO r P R P' ∧ Φ.nx (ρ.set i (some (.ow P'))))
    (hd : (x == ("__debug__" : Str)) = false := by decide +kernel) (hcd : (x == ("__classdict__" : Str)) = false := by decide +kernel)
    (hbase : attributeBase (.Name x p1) name X.env (eval (.Name x p1) X.env) = eval (.Name x p1) X.env := by rfl)
    (hfew : ((backTo cpos (starEach (e :: []) X.env)).all (fun x => !x.1) && (backToKw cpos (keywordEach [] X.env)).all (fun x => x.1.isSome)
      && decide ((e :: []).length + ([] : List Keyword).length + (if ([] : List Keyword).isEmpty then 0 else 1) < 30)) = true := by rfl)
    (hline : (apos.endLine == cpos.line) = true := by rfl) (hs : starEach (e :: []) X.env = (false, eval e X.env) :: starEach [] X.env := by rfl) (hplain : (backTo cpos (starEach [] X.env)).any (·.1) = false := by rfl) :
    WS X f ρ (.Expr (.Call (.Attribute (.Name x p1) name apos) [e] [] cpos) pos) Φ := fun F M σ d E D A => by
  refine wpS_of (ps_expr (pe_bm PySem.F.plainAttrs_list slot hty hm (pe_var hN hv hd hcd) (pa_cons pe_wp pa_nil hs) hbase hfew hline hs hplain) (by rfl)) ?_
  obtain ⟨v, hσ, a, o, rfl, ha, hp, h5, h6⟩ := E.ent i _ hi
  obtain ⟨xs, rfl⟩ := hL o F hp
  refine ⟨.ref a, hσ, .inl ⟨rfl, xs, SqL.of (by rw [ovl_M (d _ _ ha)]; exact ha)⟩, ?_⟩
  refine h F M σ d E _ fun w R F1 M1 hk hw k1 d1 s1 => ?_
  obtain ⟨P', hM, hk⟩ := hk
  have E1 := E.step k1 s1
  refine hM F1 M1 a _ w d1 (s1.1 a _ h6 ha) (P.mono _ _ _ k1 hp) hw _ fun o' ho' _ => ?_
  exact A.nx _ σ F1 (L2.upd M1 a o') hk k1 ⟨fun b x hb => by
    by_cases z : b = a
    · rw [z]; exact d1 a _ (s1.1 a _ h6 ha)
    · rw [upd_ne z] at hb; exact d1 b x hb, fun b x hb => by
    by_cases z : b = a
    · rw [z, upd_same] at hb
      cases hb
      exact P'.nt _ _ ho'
    · rw [upd_ne z] at hb; exact d1.nt b x hb⟩ (E1.upd hi hσ ho')
theorem lstO_lst {ds : List D} (o : HO) (F : Hp) (h : (lstO ds).p o F) : ∃ xs, o = .lst xs := let ⟨xs, e, _⟩ := h; ⟨xs, e⟩
theorem mo_append {ds : List D} {d : D} (hl : ds.length ≤ 10000) : MtO rAppend (lstO ds) (dat d) (lstO (ds ++ [d])) := fun F M a o w dd ha hp hw Q hQ => by
  obtain ⟨xs, rfl, hx⟩ := hp
  have fa := dd _ _ ha
  refine ⟨a, xs, w, rfl, rfl, by rw [ovl_M fa]; exact ha, by rw [hx.length]; exact lt_sz hl, ?_⟩
  rw [upd_ovlM fa]
  exact hQ _ ⟨_, rfl, hx.append (.cons hw .nil)⟩ _
theorem mo_extend {ds es : List D} (hl : ds.length + es.length ≤ 10000) : MtO rExtend (lstO ds) (li es) (lstO (ds ++ es)) := fun F M a o w dd ha hp hw Q hQ => by
  obtain ⟨xs, rfl, hx⟩ := hp
  have fa := dd _ _ ha
  cases hw with
  | @lst b ys _ hb hy =>
    refine ⟨a, b, xs, ys, rfl, rfl, by rw [ovl_M fa]; exact ha, ovl_F hb, by rw [hx.length, hy.length]; exact le_sz hl, ?_⟩
    rw [upd_ovlM fa]
    exact hQ _ ⟨_, rfl, hx.append hy⟩ _
theorem mo_popAt {ds : List D} {i : Nat} (hi : i < ds.length) (hl : ds.length ≤ 10000) : MtO rPopAt (lstO ds) (nt i) (lstO (ds.eraseIdx i)) := fun F M a o w dd ha hp hw Q hQ => by
  obtain ⟨xs, rfl, hx⟩ := hp
  have fa := dd _ _ ha
  cases hw
  have hi2 : i < xs.length := by rw [hx.length]; exact hi
  refine ⟨a, xs, (i : Int), i, xs[i], rfl, rfl, by rw [ovl_M fa]; exact ha, by omega, by omega, ?_, List.getElem?_eq_getElem hi2, ?_⟩
  · exact (ixN_seq (by unfold ixN; rw [if_pos (by omega), if_pos (by omega)]; simp)).1
  · rw [upd_ovlM fa]
    exact hQ _ ⟨_, rfl, hx.eraseIdx i⟩ _
theorem mo_remove {zs : List Str} {z : Str} (hz : z ∈ zs) : MtO rRemF (lstO (zs.map .str)) (FR.st z) (lstO ((zs.erase z).map .str)) := fun F M a o w dd ha hp hw Q hQ => by
  obtain ⟨xs, rfl, hx⟩ := hp
  have fa := dd _ _ ha
  cases hw
  have e := hx.strs
  subst e
  -- where the first one stands
  have key : ∀ zs : List Str, z ∈ zs → ∃ j, zs[j]? = some z ∧ (∀ m, m < j → zs[m]? ≠ some z) ∧ zs.eraseIdx j = zs.erase z := fun zs => by
    induction zs with
    | nil => intro h; cases h
    | cons y ys ih =>
      intro h
      by_cases e : y = z
      · subst e
        exact ⟨0, rfl, fun m hm => absurd hm (Nat.not_lt_zero _), by rw [List.erase_cons_head]; rfl⟩
      · obtain ⟨j, h1, h2, h3⟩ := ih ((List.mem_cons.mp h).resolve_left fun q => e q.symm)
        refine ⟨j + 1, h1, fun m hm => ?_, ?_⟩
        · cases m with
          | zero => intro q; exact e (Option.some.inj q)
          | succ m => exact h2 m (Nat.lt_of_succ_lt_succ hm)
        · rw [List.erase_cons_tail (by rw [beq_iff_eq]; exact e), ← h3]; rfl
  obtain ⟨j, h1, h2, h3⟩ := key zs hz
  have eqs : ∀ x y : Str, eqV (.str x) (.str y) = decide (x = y) := fun x y => by
    show (x == y) = _
    by_cases h : x = y
    · subst h; simp
    · rw [decide_eq_false h]; exact beq_eq_false_iff_ne.mpr h
  refine ⟨a, zs.map .str, .str z, j, .str z, rfl, rfl, by rw [ovl_M fa]; exact ha, rfl, List.all_eq_true.mpr fun v hv => ?_, by rw [List.getElem?_map, h1]; rfl, by rw [eqs]; simp, fun m z' hm hz' => ?_, ?_⟩
  · obtain ⟨y, _, rfl⟩ := List.mem_map.mp hv; rfl
  · rw [List.getElem?_map] at hz'
    cases q : zs[m]? with
    | none => rw [q] at hz'; cases hz'
    | some y =>
      rw [q] at hz'
      have e := Option.some.inj hz'
      subst e
      rw [eqs]
      exact decide_eq_false fun e => h2 m hm (by rw [q, e])
  · rw [upd_ovlM fa]
    refine hQ _ ⟨_, rfl, ?_⟩ _
    rw [← h3]
    have := (DqA.ofStrs (F := F) zs).eraseIdx j
    have m1 : ∀ (zs : List Str) (g : Str → V) (j : Nat), (zs.map g).eraseIdx j = (zs.eraseIdx j).map g := fun zs => by
      induction zs with
      | nil => intro g j; rfl
      | cons y ys ih => intro g j; cases j with
        | zero => rfl
        | succ j => show g y :: _ = g y :: _; rw [ih]
    have m2 : ∀ (zs : List Str) (g : Str → D) (j : Nat), (zs.map g).eraseIdx j = (zs.eraseIdx j).map g := fun zs => by
      induction zs with
      | nil => intro g j; rfl
      | cons y ys ih => intro g j; cases j with
        | zero => rfl
        | succ j => show g y :: _ = g y :: _; rw [ih]
    rw [← m2]
    exact this
theorem w_append {x : Str} {p1 apos cpos : Pos} {ds : List D} (i : Nat) (hl : ds.length ≤ 10000) (h : EvE (mkX X N sc) f ρ e fun R => ∃ d, R = dat d ∧ Φ.nx (ρ.set i (some (.ow (lstO (ds ++ [d])))))) (hi : ρ[i]? = some (some (.ow (lstO ds))) := by rfl) (hN : N[i]? = some x := by rfl) (hv : visB sc x = true := by decide +kernel)
    (hd : (x == ("__debug__" : Str)) = false := by decide +kernel) (hcd : (x == ("__classdict__" : Str)) = false := by decide +kernel)
    (hbase : attributeBase (.Name x p1) "append" (mkX X N sc).env (eval (.Name x p1) (mkX X N sc).env) = eval (.Name x p1) (mkX X N sc).env := by rfl)
    (hfew : ((backTo cpos (starEach (e :: []) (mkX X N sc).env)).all (fun x => !x.1) && (backToKw cpos (keywordEach [] (mkX X N sc).env)).all (fun x => x.1.isSome)
      && decide ((e :: []).length + ([] : List Keyword).length + (if ([] : List Keyword).isEmpty then 0 else 1) < 30)) = true := by rfl)
    (hline : (apos.endLine == cpos.line) = true := by rfl) (hs : starEach (e :: []) (mkX X N sc).env = (false, eval e (mkX X N sc).env) :: starEach [] (mkX X N sc).env := by rfl) :
    WS (mkX X N sc) f ρ (.Expr (.Call (.Attribute (.Name x p1) "append" apos) [e] [] cpos) pos) Φ :=
  ws_ownM i hi hN (vis_of hv) lstO_lst PySem.F.slot_list_append PySem.F.type_list_append mt_append (ev_imp h fun R ⟨d, e1, hk⟩ => by subst e1; exact ⟨_, mo_append hl, hk⟩) hd hcd hbase hfew hline hs (by rfl)
theorem w_extend {x : Str} {p1 apos cpos : Pos} {ds : List D} (i : Nat) (h : EvE (mkX X N sc) f ρ e fun R => ∃ es, R = li es ∧ ds.length + es.length ≤ 10000 ∧ Φ.nx (ρ.set i (some (.ow (lstO (ds ++ es)))))) (hi : ρ[i]? = some (some (.ow (lstO ds))) := by rfl) (hN : N[i]? = some x := by rfl) (hv : visB sc x = true := by decide +kernel)
    (hd : (x == ("__debug__" : Str)) = false := by decide +kernel) (hcd : (x == ("__classdict__" : Str)) = false := by decide +kernel)
    (hbase : attributeBase (.Name x p1) "extend" (mkX X N sc).env (eval (.Name x p1) (mkX X N sc).env) = eval (.Name x p1) (mkX X N sc).env := by rfl)
    (hfew : ((backTo cpos (starEach (e :: []) (mkX X N sc).env)).all (fun x => !x.1) && (backToKw cpos (keywordEach [] (mkX X N sc).env)).all (fun x => x.1.isSome)
      && decide ((e :: []).length + ([] : List Keyword).length + (if ([] : List Keyword).isEmpty then 0 else 1) < 30)) = true := by rfl)
    (hline : (apos.endLine == cpos.line) = true := by rfl) (hs : starEach (e :: []) (mkX X N sc).env = (false, eval e (mkX X N sc).env) :: starEach [] (mkX X N sc).env := by rfl) :
    WS (mkX X N sc) f ρ (.Expr (.Call (.Attribute (.Name x p1) "extend" apos) [e] [] cpos) pos) Φ :=
  ws_ownM i hi hN (vis_of hv) lstO_lst PySem.F.slot_list_extend PySem.F.type_list_extend mt_extend (ev_imp h fun R ⟨es, e1, hl, hk⟩ => by subst e1; exact ⟨_, mo_extend hl, hk⟩) hd hcd hbase hfew hline hs (by rfl)
/-! ### to lend, to freeze -/
/-- what stays when the object at a is taken out of the frozen part -/
def Rp.light (R : Rp) : Prop := ∀ w F a, R.p w F → R.p w (del F a)
theorem light_bl (b : Bool) : (bl b).light := fun w F a h => by cases h; exact Dq.bl b
theorem light_nt (i : Int) : (nt i).light := fun w F a h => by cases h; exact Dq.int i
theorem light_st (x : Str) : (FR.st x).light := fun w F a h => by cases h; exact Dq.str x
theorem light_non : (dat .none).light := fun w F a h => by cases h; exact Dq.non
/-- a frozen view B of what is one's own P -/
def Lend (P : Op) (B : Rp) : Prop := ∀ o F a, P.p o F → F a = none → B.p (.ref a) (L2.upd F a o)
theorem lend_lst (ds : List D) : Lend (lstO ds) (li ds) := fun o F a ⟨xs, e, hx⟩ hn => by
  subst e
  exact Dq.lst upd_same (hx.mono (same_updN hn))
theorem env_lend {σ : L2.St} {F M : Hp} {i : Nat} {P : Op} {B : Rp} {a : Addr} {o : HO} (E : EnvOk f σ ρ F M) (d : Dis F M) (h : ρ[i]? = some (some (.ow P))) (hσ : σ[i]? = some (some (.ref a))) (ha : M a = some o) (hp : P.p o F) (h5 : f.M0 a = none) (h6 : f.U ≠ some a) (hB : Lend P B) : EnvOk f σ (ρ.set i (some (.fz B))) (L2.upd F a o) (del M a) := by
  have hl : i < ρ.length := (List.getElem?_eq_some_iff.mp h).1
  have fa := d _ _ ha
  refine ⟨by rw [List.length_set]; exact E.len, fun j e he => ?_, fun j l Q Q' g1 g2 g3 => ?_, fun b x hb => ?_, fun u hu => ?_⟩
  · by_cases hj : i = j
    · subst hj
      rw [List.getElem?_set_self hl] at he
      cases he
      exact ⟨.ref a, hσ, hB o F a hp fa⟩
    · rw [List.getElem?_set_ne hj] at he
      obtain ⟨w, q1, q2⟩ := E.ent j e he
      refine ⟨w, q1, ?_⟩
      cases e with
      | fz R => exact R.mono _ _ _ (same_updN fa) q2
      | ur => exact q2
      | ow R =>
        obtain ⟨b, x, r1, r2, r3, r4⟩ := q2
        have ne : b ≠ a := fun z => hj (E.inj i j P R h he (by rw [hσ, q1, r1, z]))
        exact ⟨b, x, r1, by rw [del_ne ne]; exact r2, R.mono _ _ _ (same_updN fa) r3, r4⟩
  · have lk : ∀ (m : Nat) (Q : Op), (ρ.set i (some (.fz B)))[m]? = some (some (.ow Q)) → ρ[m]? = some (some (.ow Q)) := fun m Q g => by
      by_cases hm : i = m
      · subst hm; rw [List.getElem?_set_self hl] at g; cases g
      · rw [List.getElem?_set_ne hm] at g; exact g
    exact E.inj j l Q Q' (lk _ _ g1) (lk _ _ g2) g3
  · have ne : b ≠ a := fun z => by rw [z, h5] at hb; cases hb
    rw [del_ne ne]; exact E.base b x hb
  · obtain ⟨m0, o2, q1, q2⟩ := E.urn u hu
    have ne : u ≠ a := fun z => h6 (by rw [hu, z])
    exact ⟨m0, o2, by rw [del_ne ne]; exact q1, q2⟩
/-- back from a loan -/
theorem lend_back {F F1 M M1 : Hp} {a : Addr} {o : HO} (d : Dis F M) (ha : M a = some o) (h6 : f.U ≠ some a) (k1 : Same (L2.upd F a o) F1) (d1 : Dis F1 M1) (s1 : f.step (del M a) M1) (m1 : M1 a = none ∨ True) :
    ovl (del F1 a) (L2.upd M1 a o) = ovl F1 M1 ∧ Same F (del F1 a) ∧ Dis (del F1 a) (L2.upd M1 a o) ∧ f.step M (L2.upd M1 a o) := by
  have fa := d _ _ ha
  have f1 : F1 a = some o := k1 _ _ upd_same
  refine ⟨funext fun b => ?_, fun b x hb => ?_, ⟨fun b x hb => ?_, fun b x hb => ?_⟩, fun b x hn hb => ?_, fun u hu => ?_⟩
  · by_cases z : b = a
    · subst z
      rw [ovl_M del_same, upd_same, ovl_F f1]
    · unfold ovl
      rw [del_ne z, upd_ne z]
  · have ne : b ≠ a := fun z => by rw [z, fa] at hb; cases hb
    rw [del_ne ne]
    exact k1 _ _ (by rw [upd_ne ne]; exact hb)
  · by_cases z : b = a
    · subst z; exact del_same
    · rw [upd_ne z] at hb
      rw [del_ne z]; exact d1 b x hb
  · by_cases z : b = a
    · subst z
      rw [upd_same] at hb
      cases hb
      exact d.nt _ _ ha
    · rw [upd_ne z] at hb; exact d1.nt b x hb
  · by_cases z : b = a
    · subst z
      rw [upd_same]
      exact ha.symm.trans hb
    · rw [upd_ne z]
      exact s1.1 b x hn (by rw [del_ne z]; exact hb)
  · obtain ⟨o', q1, q2⟩ := s1.2 u hu
    have ne : u ≠ a := fun z => h6 (by rw [hu, z])
    exact ⟨o', by rw [upd_ne ne]; exact q1, q2⟩
theorem ev_lend {P : Op} {B : Rp} (i : Nat) (hB : Lend P B) (h : EvE X f (ρ.set i (some (.fz B))) e fun R => R.light ∧ κ R) (hi : ρ[i]? = some (some (.ow P)) := by rfl) : EvE X f ρ e κ := fun F M σ d E Q hQ => by
  obtain ⟨w, hσ, a, o, rfl, ha, hp, h5, h6⟩ := E.ent i _ hi
  rw [← ovl_move' d ha]
  refine h _ _ σ (dis_move d) (env_lend E d hi hσ ha hp h5 h6 hB) Q fun w R F1 M1 hk hw k1 d1 s1 => ?_
  obtain ⟨e1, k2, d2, s2⟩ := lend_back d ha h6 k1 d1 s1 (.inr trivial)
  rw [← e1]
  exact hQ w R _ _ hk.2 (hk.1 _ _ _ hw) k2 d2 s2
theorem et_lend {P : Op} {B : Rp} {κ : Bool → Prop} (i : Nat) (hB : Lend P B) (h : EvT X f (ρ.set i (some (.fz B))) e κ) (hi : ρ[i]? = some (some (.ow P)) := by rfl) : EvT X f ρ e κ := fun F M σ d E Q hQ => by
  obtain ⟨w, hσ, a, o, rfl, ha, hp, h5, h6⟩ := E.ent i _ hi
  rw [← ovl_move' d ha]
  refine h _ _ σ (dis_move d) (env_lend E d hi hσ ha hp h5 h6 hB) Q fun b F1 M1 hk k1 d1 s1 => ?_
  obtain ⟨e1, k2, d2, s2⟩ := lend_back d ha h6 k1 d1 s1 (.inr trivial)
  rw [← e1]
  exact hQ b _ _ hk k2 d2 s2
/-- from here on it is frozen -/
theorem ws_freeze {P : Op} {B : Rp} (i : Nat) (hB : Lend P B) (h : WSs X f (ρ.set i (some (.fz B))) ss Φ) (hi : ρ[i]? = some (some (.ow P)) := by rfl) : WSs X f ρ ss Φ := fun F M σ d E D A => by
  obtain ⟨w, hσ, a, o, rfl, ha, hp, h5, h6⟩ := E.ent i _ hi
  rw [← ovl_move' d ha]
  exact h _ _ σ (dis_move d) (env_lend E d hi hσ ha hp h5 h6 hB) D (A.mono (same_updN (d _ _ ha)))
end
end FR
set_option Elab.async false
set_option linter.all false
set_option maxRecDepth 100000
set_option maxHeartbeats 2000000
namespace FR
open PySem PySem.Spec PyProof.Rows L2
/-! ### gathering what an iterable gives -/
section
variable {prog : Program} {w : World} {A : Around} {E : Value → Shared → Prop} {s : Shared}
theorem collect_tup {l : Addr} {vs : List Value} {Q : List Value → Shared → Prop} (hl : s.heap.IsTuple l vs.toArray)
    (h : Q vs { s with heap := (s.heap.push (seqObj "list" #[] 0)).update s.heap.objs.size (Obj.mapSeq (· ++ vs.toArray)) }) (hsz : vs.length ≤ sizeLine) :
    wpAny (model prog w) A (collect (.ref l)) Q E s := by
  obtain ⟨o, ho, hc, n, hd⟩ := id hl
  unfold collect
  refine wpAny_bind (wpAny_runValue (codeAny_builtin entry_proto_collect' ?_))
  show wpAny _ _ (do again (.builtin "list.__iadd__" ⟨[← newList [], .ref l], []⟩)) _ _ s
  refine wpAny_bind (wpAny_newList (wpAny_pure ⟨Code.quiet_builtin _ (by decide +kernel), codeAny_builtin entry_list_iadd' ?_⟩))
  show wpAny _ _ (Builtin.List.listExtendWith (.ref s.heap.objs.size) (.ref l) (.ref s.heap.objs.size)) _ _ { s with heap := s.heap.push (seqObj "list" #[] 0) }
  unfold Builtin.List.listExtendWith
  have ho' : (s.heap.push (seqObj "list" #[] 0)).get? l = some o := Heap.get?_push_of_some _ ho
  refine wpAny_bind (wpAny_typeOf (T := "tuple") ⟨o, ho', hc⟩ ?_)
  have ht : (Value.type "tuple" == Value.type "tuple") = true := by rfl
  rw [if_pos (by rw [ht]; simp)]
  refine wpAny_bind (listItems_at ho' hd ?_)
  refine wpAny_bind (listItems_at (xs := #[]) (n := 0) (Heap.get?_push_size _ rfl) rfl ?_)
  rw [if_neg (by simp)]
  refine wpAny_bind (listUpdate_at (xs := #[]) (n := 0) (Heap.get?_push_size _ rfl) rfl ?_ (Nat.zero_le _) (by show (#[] ++ vs.toArray).size ≤ sizeLine + 1; simp only [Array.size_append, List.size_toArray, List.length_nil]; omega))
  refine wpAny_pure ?_
  show wpAny (model prog w) A (do
      let o ← load s.heap.objs.size
      match o.data with
      | .seq xs _ => pure xs.toList
      | _ => unsupported "internal:collect") Q E { s with heap := (s.heap.push (seqObj "list" #[] 0)).update s.heap.objs.size (Obj.mapSeq (· ++ vs.toArray)) }
  refine wpAny_bind (wpAny_load (get?_update_seq (Heap.get?_push_size _ rfl) _) ?_)
  show wpAny _ _ (pure ((#[] : Array Value) ++ vs.toArray).toList) Q E _
  rw [show ((#[] : Array Value) ++ vs.toArray).toList = vs by simp]
  exact wpAny_pure h
end
/-- x can be gathered: these values come -/
def ColR (X : Cx) (x : V) (H : Hp) (P : List V → Prop) : Prop := ∀ (pins : List (Addr × Obj)) (s : Shared) (σ : L2.St) (u : Value), Inv X pins σ H s → RelV x u → ∀ (A : Around) (E : Value → Shared → Prop) (R : List Value → Shared → Prop), A.handled = none →
  (∀ (s' : Shared) (acc : List Value) (zs : List V), (∀ b o, s.heap.get? b = some o → s'.heap.get? b = some o) → s'.gens = s.gens → s'.os = s.os → P zs → Vals zs acc → R acc s') → wpAny (model X.prog X.w) A (collect u) R E s
section
variable {X : Cx} {H : Hp}
theorem keep_grown {h : Heap} {f : Obj → Obj} {b : Addr} {o u : Obj} (e : h.get? b = some o) : ((h.push u).update h.objs.size f).get? b = some o := by
  rw [Heap.get?_update_ne _ _ _ _ (Nat.ne_of_lt (Heap.lt_size e))]
  exact Heap.get?_push_of_some _ e
theorem colr_list {a : Addr} {xs : List V} (h : SqL X.K H a xs) : ColR X (.ref a) H (· = xs) := fun pins s σ u I r A E R hA hR => by
  obtain ⟨its, rv, pl, hz⟩ := I.list h
  cases r
  exact collect_list pl.isList (hR _ its xs (fun b o e => keep_grown e) rfl rfl rfl rv) (by rw [← rv.length]; exact hz)
theorem colr_tup {a : Addr} {xs : List V} (h : SqT X.K H a xs) : ColR X (.ref a) H (· = xs) := fun pins s σ u I r A E R hA hR => by
  obtain ⟨its, rv, pl, hz⟩ := I.tuple h
  cases r
  exact collect_tup (show s.heap.IsTuple a its.toArray from pl) (hR _ its xs (fun b o e => keep_grown e) rfl rfl rfl rv) (by rw [← rv.length]; exact hz)
/-- the keys of a dict with tuple keys -/
theorem colr_dT {d : Addr} {kvs : List (List Key × V)} (h : Rd H d (.dT kvs)) : ColR X (.ref d) H (fun xs => ∃ bs, xs = bs.map V.ref ∧ IsKeys H kvs bs) := fun pins s σ u I r A E R hA hR => by
  cases r
  obtain ⟨z, hs, ks, pr, o, es, ep, ho, hx, hdt, he, hn⟩ := (show ObjOk X.prog X.w H s.heap d (.dT kvs) from h.ok I.hok)
  have l1 : es.size = ks.length := size_of_entries he
  have l2 : kvs.length = ks.length := Paired.length pr
  refine PySem.W.kdu_collect (kdl_raw hs hx hdt) hA ho (by omega) fun h' tk acc' kp it => ?_
  have ea : acc'.toList = ks.map fun x => Value.ref x.2.1 := by
    have hl : acc'.toList.length = ks.length := by rw [Array.length_toList, it.1]; exact l1
    apply List.ext_getElem?
    intro j
    rw [List.getElem?_map]
    cases hj : acc'.toList[j]? with
    | none =>
      have h1 := List.getElem?_eq_none_iff.mp hj
      rw [List.getElem?_eq_none (by omega)]
      rfl
    | some v =>
      obtain ⟨en, hen, hv⟩ := it.2 j v (by rw [← Array.getElem?_toList]; exact hj)
      have qe := entry_at he j
      rw [hen] at qe
      cases hb : ks[j]? with
      | none =>
        rw [hb] at qe
        exact nomatch (show some en = none from qe)
      | some b =>
        rw [hb] at qe
        have e2 : en = entryOfKey (tupleKind (mixKind X.prog X.w)) b := Option.some.inj qe
        rw [hv, e2]
        all_goals rfl
  refine hR { s with heap := h', toks := tk } acc'.toList ((ks.map fun x => x.2.1).map V.ref) kp rfl rfl ⟨_, rfl, isKeys_of pr⟩ ?_
  have eb : acc'.toList = (ks.map fun x => x.2.1).map Value.ref := by rw [ea, List.map_map]; all_goals rfl
  rw [eb]
  exact vals_refs _
end
/-! ### sorted -/
section
variable {prog : Program} {w : World} {A : Around} {E : Value → Shared → Prop} {s : Shared}
theorem sorts_few {vs : List Value} {ds : List D} (e : PySem.W.EachIs (fun v d => ∃ as, Reads s.heap v d as) vs ds) (hal : PySem.W.AllAlike ds) (hk : PySem.W.Sortable ds ∨ (ds.length ≤ 1 ∧ ∀ d ∈ ds, d ≠ .none)) (hu : ∀ d, d ∈ ds → A.units + d.depth < cLine) : PySem.W.SortsAt prog w A s (PySem.W.dataKind s.heap ds) vs := by
  rcases hk with hk | ⟨h1, hn⟩
  · exact PySem.W.SortsAt.data e hal hk hu
  · refine ⟨fun v hv => ?_, general', fun E x y a b Q ha hb hq => ?_, fun h2 => absurd h2 (by rw [e.length]; omega)⟩
    · obtain ⟨d, hd, as, r⟩ := e.left v hv
      exact ⟨_, PySem.W.dataKind_some hal hd r⟩
    · obtain ⟨d, as, hd, ra, rfl⟩ := PySem.W.dataKind_inv ha
      obtain ⟨d', as', hd', rb, rfl⟩ := PySem.W.dataKind_inv hb
      exact PySem.W.oneLt_alike (f := false) (fun z => nomatch z) ra rb (hal d hd d' hd') (hn d hd) (Nat.lt_of_le_of_lt (Nat.add_le_add_left (Nat.min_le_left _ _) _) (hu d hd)) hq
end
/-- sorted of what can be gathered, alike data -/
def rSortC (X : Cx) : List V → Hp → VK → Prop := fun vs H Q => ∃ (x : V) (P : List V → Prop), vs = [x] ∧ ColR X x H P ∧ ∀ xs, P xs → ∃ zs : List (V × D), zs.map (·.1) = xs ∧ (∀ z ∈ zs, Dp X.K H z.1 z.2) ∧ PySem.W.AllAlike (zs.map (·.2)) ∧
  (PySem.W.Sortable (zs.map (·.2)) ∨ (zs.length ≤ 1 ∧ ∀ d ∈ zs.map (·.2), d ≠ .none)) ∧ (∀ z ∈ zs, z.2.depth ≤ 50) ∧ zs.length ≤ sizeLine ∧
  ∀ p, H p = none → Q (.ref p) (upd H p (.lst ((zs.mergeSort (PySem.W.dataLe false (·.2))).map (·.1))))
theorem each_of {K : PySem.W.Frag} {X : Cx} {pins : List (Addr × Obj)} {σ : L2.St} {H : Hp} {s : Shared} (I : Inv X pins σ H s) : ∀ {zs : List (V × D)} {us : List Value}, Vals (zs.map (·.1)) us → (∀ z ∈ zs, Dp X.K H z.1 z.2) →
    PySem.W.EachIs (fun u z => RelV z.1 u ∧ ∃ as, Reads s.heap u z.2 as) us zs
  | [], [], _, _ => .nil
  | z :: zs, u :: us, .cons r rs, h => .cons ⟨r, Dp.reads I z.2 z.1 u (h z List.mem_cons_self) r⟩ (each_of (K := K) I rs fun y hy => h y (List.mem_cons_of_mem _ hy))
theorem vals_each {zs : List (V × D)} {us : List Value} (h : PySem.W.EachIs (fun u (z : V × D) => RelV z.1 u) us zs) : Vals (zs.map (·.1)) us := by
  induction h with
  | nil => exact .nil
  | cons r _ ih => exact .cons r ih
theorem cr_sortC {X : Cx} (hc : X.calm = true) (hu : X.A.units + 64 < cLine) : CallR X (.builtin "sorted") (rSortC X) := by
  intro pins s σ H vs us Q I r h
  obtain ⟨x, P, rfl, hcol, hP⟩ := h
  obtain ⟨u, rfl, rx⟩ := r.one
  refine Calls.call_function_entry PyProof.Rows.kind_sorted PyProof.Rows.plain_sorted PyProof.Rows.entry_sorted (PyProof.Rows.args_sorted1 _) ?_
  unfold Builtin.«sorted»
  refine wpAny_bind (m := checkCount "sorted" 1 1 _) (wpAny_pure ?_)
  refine wpAny_bind (hcol pins s σ u I rx _ _ _ (I.ok.hd hc) fun s' acc xs hkeep hgen hos hPx hv => ?_)
  obtain ⟨zs, rfl, hd, hal, hk, hdp, hL, q⟩ := hP xs hPx
  have hk' : PySem.W.Sortable (zs.map (·.2)) ∨ ((zs.map (·.2)).length ≤ 1 ∧ ∀ d ∈ zs.map (·.2), d ≠ .none) := hk.imp id fun h => ⟨by rw [List.length_map]; exact h.1, h.2⟩
  have I1 : Inv X pins σ H s' := I.call' (ch := []) hos (Un.kept hkeep) (I.hok.kept hkeep) (by rw [hgen]; exact I.bare) (fun _ z => nomatch z)
  have hal2 : acc.length = zs.length := by rw [← hv.length, List.length_map]
  refine wpAny_bind (wpAny_newList ?_ (by rw [hal2]; exact hL))
  have hoL : (s'.heap.push (seqObj "list" acc.toArray 0)).get? s'.heap.objs.size = some (seqObj "list" acc.toArray 0) := Heap.get?_push_size _ rfl
  show wpAny _ _ _ _ _ { s' with heap := s'.heap.push (seqObj "list" acc.toArray 0) }
  have I2 : Inv X pins σ H { s' with heap := s'.heap.push (seqObj "list" acc.toArray 0) } := I1.kept (t' := s'.toks) fun b o e => Heap.get?_push_of_some _ e
  -- while it sorts, the list's own object is empty
  have I3 : Inv X pins σ H { s' with heap := PySem.W.sortingHeap (s'.heap.push (seqObj "list" acc.toArray 0)) s'.heap.objs.size acc } := I1.kept (t' := s'.toks) fun b o e => PySem.W.sortingHeap_old (Nat.ne_of_lt (Heap.lt_size e)) (Heap.get?_push_of_some _ e)
  have E3 := each_of (K := X.K) I3 hv hd
  have e1 : PySem.W.EachIs (fun u (z : V × D) => RelV z.1 u) acc zs := E3.mono fun _ _ h => h.1
  have er : PySem.W.EachIs (fun u (z : V × D) => ∃ as, Reads (PySem.W.sortingHeap (s'.heap.push (seqObj "list" acc.toArray 0)) s'.heap.objs.size acc) u z.2 as) acc zs := E3.mono fun _ _ h => h.2
  have S : PySem.W.SortsAt X.prog X.w X.A.in1.in1 { s' with heap := PySem.W.sortingHeap (s'.heap.push (seqObj "list" acc.toArray 0)) s'.heap.objs.size acc } (PySem.W.dataKind (PySem.W.sortingHeap (s'.heap.push (seqObj "list" acc.toArray 0)) s'.heap.objs.size acc) (zs.map (·.2))) acc :=
    sorts_few (ds := zs.map fun z => z.2) (s := { s' with heap := PySem.W.sortingHeap (s'.heap.push (seqObj "list" acc.toArray 0)) s'.heap.objs.size acc }) (PySem.W.each_map (R := fun v d => ∃ as, Reads (PySem.W.sortingHeap (s'.heap.push (seqObj "list" acc.toArray 0)) s'.heap.objs.size acc) v d as) (fun z : V × D => z.2) er) hal hk' fun d hd' => by
      obtain ⟨z, hz, rfl⟩ := List.mem_map.mp hd'
      have := hdp z hz
      show X.A.units + 1 + 1 + _ < cLine
      omega
  refine wpAny_bind (wpAny_holding (wpAny_call_entry PyProof.Rows.slot_list_sort ⟨_, hoL, rfl⟩ PyProof.Rows.entry_list_sort
    (PySem.W.list_sort_vals (s := { s' with heap := s'.heap.push (seqObj "list" acc.toArray 0) }) hoL S (by rw [hal2]; exact hL) ⟨_, rfl, ?_⟩) (PyProof.Rows.args_list_sort _)))
  obtain ⟨ep, he'⟩ := PyProof.Rows.sortedHeap_at (vs := acc) (out := (PySem.W.sortVals (PySem.W.dataKind (PySem.W.sortingHeap (s'.heap.push (seqObj "list" acc.toArray 0)) s'.heap.objs.size acc) (zs.map (·.2))) false acc acc).toArray) hoL
  have ev := vals_each (PySem.W.sortVals_data false e1 er hal)
  refine wpAny_pure ⟨_, rfl, .ref s'.heap.objs.size, upd H s'.heap.objs.size (.lst ((zs.mergeSort (PySem.W.dataLe false (·.2))).map (·.1))), I1.laid (t' := s'.toks) (fun b u e => ?_) (Nat.le_refl _)
    (show ObjOk X.prog X.w _ _ _ (.lst _) from ⟨by rw [List.length_map, List.length_mergeSort]; exact hL, _, ep, ev, he'⟩), rfl, q _ (I1.hok.fresh (Nat.le_refl _))⟩
  have hb : b < s'.heap.objs.size := Heap.lt_size e
  rw [PyProof.Rows.sortedHeap_old (Nat.ne_of_lt hb) (by rw [size_push']; exact Nat.lt_succ_of_lt hb)]
  exact Heap.get?_push_of_some _ e
end FR
set_option Elab.async false
set_option linter.all false
set_option maxRecDepth 100000
set_option maxHeartbeats 2000000
namespace FR
open PySem PySem.Spec PyProof.Rows L2
/-! ### dicts as rows of pairs -/
abbrev Pr := Nm × Nm
def pk (p : Pr) : List Key := [.inr p.1.1, .inr p.2.1]
theorem pk_inj {p q : Pr} (h : pk p = pk q) : p = q := by
  simp only [pk, List.cons.injEq, Sum.inr.injEq, and_true] at h
  exact Prod.ext (Subtype.ext h.1) (Subtype.ext h.2)
theorem dN (x : Nm) : (eN.enc x).depth ≤ 19 := by simp [eN, PyData.depth]
def eR : Enc Pr := eP eN eN dN dN
theorem eR_key {F : Hp} {v : V} {p : Pr} (h : Dq F v (eR.enc p)) : ∃ b, v = .ref b ∧ F b = some (.tup ((pk p).map kV)) := by
  cases h with
  | @tup a xs _ ha hx =>
    cases hx with
    | cons h1 h2 =>
      cases h2 with
      | cons h3 h4 =>
        cases h4
        cases h1
        cases h3
        exact ⟨a, rfl, ha⟩
theorem eR_of {F : Hp} {b : Addr} {p : Pr} (h : F b = some (.tup ((pk p).map kV))) : Dq F (.ref b) (eR.enc p) := Dq.tup h (.cons (.str _) (.cons (.str _) .nil))
section
variable {κ : Type} [DecidableEq κ] {δ : Type}
def gt (kvs : List (κ × δ)) (k : κ) : Option δ := (kvs.find? fun p => decide (p.1 = k)).map (·.2)
def pt (kvs : List (κ × δ)) (k : κ) (d : δ) : List (κ × δ) :=
  if (kvs.any fun kv => decide (kv.1 = k)) = true then kvs.map (fun kv => if kv.1 = k then (kv.1, d) else kv) else kvs ++ [(k, d)]
theorem pt_new {kvs : List (κ × δ)} {k : κ} {d : δ} (h : k ∉ kvs.map (·.1)) : pt kvs k d = kvs ++ [(k, d)] := by
  unfold pt
  rw [if_neg]
  intro q
  obtain ⟨p, hp, e⟩ := List.any_eq_true.mp q
  exact h (List.mem_map.mpr ⟨p, hp, of_decide_eq_true e⟩)
theorem pt_length (kvs : List (κ × δ)) (k : κ) (d : δ) : (pt kvs k d).length ≤ kvs.length + 1 := by
  unfold pt
  split
  · rw [List.length_map]; omega
  · rw [List.length_append, List.length_singleton]; omega
variable {Kt : Type} [DecidableEq Kt] (km : κ → Kt)
def KvR (F : Hp) (xs : List (Kt × V)) (kvs : List (κ × D)) : Prop := Paired (fun p q => p.1 = km q.1 ∧ Dq F p.2 q.2) xs kvs
variable {km}
theorem KvR.mono {F F' : Hp} (k : Same F F') {xs : List (Kt × V)} {kvs : List (κ × D)} (h : KvR km F xs kvs) : KvR km F' xs kvs := Paired.mapP h fun _ _ q => ⟨q.1, q.2.mono k⟩
theorem KvR.get {F : Hp} (inj : ∀ a b, km a = km b → a = b) {xs : List (Kt × V)} {kvs : List (κ × D)} (h : KvR km F xs kvs) (k : κ) : (valV xs (km k) = none ∧ gt kvs k = none) ∨ ∃ v d, valV xs (km k) = some v ∧ gt kvs k = some d ∧ Dq F v d := by
  unfold KvR at h
  induction h with
  | nil => exact .inl ⟨rfl, rfl⟩
  | @cons p q ps qs h t ih =>
    by_cases e : q.1 = k
    · exact .inr ⟨p.2, q.2, valV_pos (by rw [h.1, e]), by simp [gt, List.find?_cons, e], h.2⟩
    · have e1 : ¬ p.1 = km k := fun z => e (inj _ _ (h.1.symm.trans z))
      rw [valV_neg e1, show gt (q :: qs) k = gt qs k by simp [gt, List.find?_cons, e]]
      exact ih
theorem KvR.any {F : Hp} (inj : ∀ a b, km a = km b → a = b) {xs : List (Kt × V)} {kvs : List (κ × D)} (h : KvR km F xs kvs) (k : κ) : (xs.any fun kv => decide (kv.1 = km k)) = kvs.any fun kv => decide (kv.1 = k) := by
  unfold KvR at h
  induction h with
  | nil => rfl
  | @cons p q ps qs h t ih =>
    rw [List.any_cons, List.any_cons, ih]
    congr 1
    by_cases e : q.1 = k
    · rw [decide_eq_true e, decide_eq_true (h.1.trans (congrArg km e))]
    · rw [decide_eq_false e, decide_eq_false fun z => e (inj _ _ (h.1.symm.trans z))]
theorem KvR.put {F : Hp} (inj : ∀ a b, km a = km b → a = b) {xs : List (Kt × V)} {kvs : List (κ × D)} (h : KvR km F xs kvs) (k : κ) {v : V} {d : D} (hd : Dq F v d) : KvR km F (putK xs (km k) v) (pt kvs k d) := by
  unfold putK pt
  rw [h.any inj k]
  by_cases q : (kvs.any fun kv => decide (kv.1 = k)) = true
  · rw [if_pos q, if_pos q]
    unfold KvR at h ⊢
    clear q
    induction h with
    | nil => exact .nil
    | @cons p q ps qs h t ih =>
      rw [List.map_cons, List.map_cons]
      refine .cons ?_ ih
      by_cases e : q.1 = k
      · rw [if_pos e, if_pos (h.1.trans (congrArg km e))]; exact ⟨h.1, hd⟩
      · rw [if_neg e, if_neg fun z => e (inj _ _ (h.1.symm.trans z))]; exact h
  · rw [if_neg q, if_neg q]
    exact Paired.snoc h ⟨rfl, hd⟩
end
/-- a dict with pairs as keys: one's own; frozen; lent -/
def dTO (kvs : List (Pr × D)) : Op := ⟨fun o F => ∃ xs, o = .dT xs ∧ KvR pk F xs kvs, fun _ _ _ k ⟨xs, e, h⟩ => ⟨xs, e, h.mono k⟩, fun _ _ ⟨_, e, _⟩ => by subst e; rfl⟩
def dTR (kvs : List (Pr × D)) : Rp := ⟨fun v F => ∃ d od xs, v = .ref d ∧ F d = some (.frz od (.dT xs)) ∧ KvR pk F xs kvs, fun _ _ _ k ⟨d, od, xs, e, h, r⟩ => ⟨d, od, xs, e, k _ _ h, r.mono k⟩⟩
def dTL (kvs : List (Pr × D)) : Rp := ⟨fun v F => ∃ d xs, v = .ref d ∧ Rd F d (.dT xs) ∧ KvR pk F xs kvs, fun _ _ _ k ⟨d, xs, e, h, r⟩ => ⟨d, xs, e, h.elim (fun h => .inl (k _ _ h)) fun ⟨o, h⟩ => .inr ⟨o, k _ _ h⟩, r.mono k⟩⟩
section
variable {κ : Type} [DecidableEq κ]
def dKO (km : κ → Key) (kvs : List (κ × D)) : Op := ⟨fun o F => ∃ xs, o = .dK xs ∧ KvR km F xs kvs, fun _ _ _ k ⟨xs, e, h⟩ => ⟨xs, e, h.mono k⟩, fun _ _ ⟨_, e, _⟩ => by subst e; rfl⟩
def dKR (km : κ → Key) (kvs : List (κ × D)) : Rp := ⟨fun v F => ∃ d od xs, v = .ref d ∧ F d = some (.frz od (.dK xs)) ∧ KvR km F xs kvs, fun _ _ _ k ⟨d, od, xs, e, h, r⟩ => ⟨d, od, xs, e, k _ _ h, r.mono k⟩⟩
def dKL (km : κ → Key) (kvs : List (κ × D)) : Rp := ⟨fun v F => ∃ d xs, v = .ref d ∧ Rd F d (.dK xs) ∧ KvR km F xs kvs, fun _ _ _ k ⟨d, xs, e, h, r⟩ => ⟨d, xs, e, h.elim (fun h => .inl (k _ _ h)) fun ⟨o, h⟩ => .inr ⟨o, k _ _ h⟩, r.mono k⟩⟩
end
theorem rd_ovl {F M : Hp} {d : Addr} {o : HO} (h : Rd F d o) : Rd (ovl F M) d o := h.elim (fun h => .inl (ovl_F h)) fun ⟨u, h⟩ => .inr ⟨u, ovl_F h⟩
def nmK (x : Nm) : Key := .inr x.1
def stK (x : Str) : Key := .inr x
theorem nmK_inj (a b : Nm) (h : nmK a = nmK b) : a = b := Subtype.ext (Sum.inr.inj h)
theorem stK_inj (a b : Str) (h : stK a = stK b) : a = b := Sum.inr.inj h
section
variable {X : Cx} {f : Fx} {ρ : Env} {e a b c : Expr} {es : List Expr} {s : Stmt} {ss : List Stmt} {κ : Rp → Prop} {Φ : Post} {pos : Pos} {G : Gb} {k : Nat} {N : List Str} {sc : Scope}
theorem hu_of' (C : Ctx G k X) : X.A.units + 1 < cLine := by have := C.room.units; omega
/-! ### reading -/
theorem ev_getT (C : Ctx G k X) (hs : NoSl b) (h : EvE X f ρ a fun R => EvE X f ρ b fun S => ∃ kvs p d, (R = dTR kvs ∨ R = dTL kvs) ∧ S = dat (eR.enc p) ∧ gt kvs p = some d ∧ κ (dat d)) : EvE X f ρ (.Subscript a b pos) κ := fun F M σ d E Q hQ => by
  refine wpE_of (pe_dget (hu_of' C) pe_wp pe_wp hs) ?_
  refine h F M σ d E _ fun v R F1 M1 hb hv k1 d1 s1 => ?_
  refine hb F1 M1 σ d1 (E.step k1 s1) _ fun w S F2 M2 hh hw k2 d2 s2 => ?_
  obtain ⟨kvs, p, dd, hR, rfl, hg, hk⟩ := hh
  have hv := R.mono _ _ _ k2 hv
  have key : ∃ dc xs, v = .ref dc ∧ Rd F2 dc (.dT xs) ∧ KvR pk F2 xs kvs := by
    rcases hR with rfl | rfl
    · obtain ⟨dc, od, xs, e1, e2, r⟩ := hv; exact ⟨dc, xs, e1, .inr ⟨od, e2⟩, r⟩
    · exact hv
  obtain ⟨dc, xs, rfl, hd, r⟩ := key
  obtain ⟨bb, rfl, eb⟩ := eR_key hw
  rcases r.get (fun _ _ => pk_inj) p with ⟨_, h2⟩ | ⟨u, d', h1, h2, h3⟩
  · rw [hg] at h2; cases h2
  · rw [hg] at h2; cases h2
    exact ⟨dc, u, rfl, .inr ⟨xs, pk p, bb, rd_ovl hd, rfl, ovl_F eb, h1.symm⟩, hQ _ _ F2 M2 hk h3 (k1.trans k2) d2 (stepT s1 s2)⟩
theorem ev_getK {κ' : Type} [DecidableEq κ'] {km : κ' → Key} (inj : ∀ a b, km a = km b → a = b) (C : Ctx G k X) (hs : NoSl b) (h : EvE X f ρ a fun R => EvE X f ρ b fun S => ∃ kvs p d x, (R = dKR km kvs ∨ R = dKL km kvs) ∧ S = FR.st x ∧ km p = Sum.inr x ∧ gt kvs p = some d ∧ κ (dat d)) : EvE X f ρ (.Subscript a b pos) κ := fun F M σ d E Q hQ => by
  refine wpE_of (pe_dget (hu_of' C) pe_wp pe_wp hs) ?_
  refine h F M σ d E _ fun v R F1 M1 hb hv k1 d1 s1 => ?_
  refine hb F1 M1 σ d1 (E.step k1 s1) _ fun w S F2 M2 hh hw k2 d2 s2 => ?_
  obtain ⟨kvs, p, dd, x, hR, rfl, hx, hg, hk⟩ := hh
  have hv := R.mono _ _ _ k2 hv
  have key : ∃ dc xs, v = .ref dc ∧ Rd F2 dc (.dK xs) ∧ KvR km F2 xs kvs := by
    rcases hR with rfl | rfl
    · obtain ⟨dc, od, xs, e1, e2, r⟩ := hv; exact ⟨dc, xs, e1, .inr ⟨od, e2⟩, r⟩
    · exact hv
  obtain ⟨dc, xs, rfl, hd, r⟩ := key
  cases hw
  rcases r.get inj p with ⟨_, h2⟩ | ⟨u, d', h1, h2, h3⟩
  · rw [hg] at h2; cases h2
  · rw [hg] at h2; cases h2
    refine ⟨dc, u, rfl, .inl ⟨xs, km p, rd_ovl hd, ?_, h1.symm⟩, hQ _ _ F2 M2 hk h3 (k1.trans k2) d2 (stepT s1 s2)⟩
    rw [hx]; rfl
theorem ec_inK {κ' : Type} [DecidableEq κ'] {km : κ' → Key} (inj : ∀ a b, km a = km b → a = b) (C : Ctx G k X) (h : EvE X f ρ a fun R => EvE X f ρ b fun S => ∃ (kvs : List (κ' × D)) (p : κ') (x : Str), R = FR.st x ∧ km p = Sum.inr x ∧ (S = dKR km kvs ∨ S = dKL km kvs) ∧ κ (bl (gt kvs p).isSome)) : EvC X f ρ .In a b κ := fun F M σ d E Q hQ => by
  refine fun pins s I => (pc_din (hu_of' C) pe_wp pe_wp).run pins s σ _ Q I ?_
  refine h F M σ d E _ fun v R F1 M1 hb hv k1 d1 s1 => ?_
  refine hb F1 M1 σ d1 (E.step k1 s1) _ fun w S F2 M2 hh hw k2 d2 s2 => ?_
  obtain ⟨kvs, p, x, rfl, hx, hS, hk⟩ := hh
  have key : ∃ dc xs, w = .ref dc ∧ Rd F2 dc (.dK xs) ∧ KvR km F2 xs kvs := by
    rcases hS with rfl | rfl
    · obtain ⟨dc, od, xs, e1, e2, r⟩ := hw; exact ⟨dc, xs, e1, .inr ⟨od, e2⟩, r⟩
    · exact hw
  obtain ⟨dc, xs, rfl, hd, r⟩ := key
  cases hv
  refine ⟨dc, valV xs (km p), rfl, .inl ⟨xs, km p, rd_ovl hd, by rw [hx]; rfl, rfl⟩, ?_⟩
  have e : (valV xs (km p)).isSome = (gt kvs p).isSome := by
    rcases r.get inj p with ⟨h1, h2⟩ | ⟨u, d', h1, h2, _⟩ <;> rw [h1, h2] <;> rfl
  rw [e]
  exact hQ _ _ F2 M2 hk (Dq.bl _) (k1.trans k2) d2 (stepT s1 s2)
/-! ### new ones, stores -/
theorem ex_newT {κ : Ent → Prop} (h : κ (.ow (dTO []))) : EvX X f ρ (.Dict [] [] pos) κ := fun F M σ d E Q hQ => by
  refine wpE_of pe_dnewT ?_
  exact fun p hp => own_new (P := dTO []) E (Same.refl F) d E.refl hp ⟨[], rfl, .nil⟩ h hQ
theorem ex_newK {κ' : Type} [DecidableEq κ'] {km : κ' → Key} {κ : Ent → Prop} (h : κ (.ow (dKO km []))) : EvX X f ρ (.Dict [] [] pos) κ := fun F M σ d E Q hQ => by
  refine wpE_of pe_dnewK ?_
  exact fun p hp => own_new (P := dKO km []) E (Same.refl F) d E.refl hp ⟨[], rfl, .nil⟩ h hQ
/-- x[k] = v, x a dict of one's own -/
theorem ws_putT {x : Str} {p1 p2 : Pos} {value : Expr} {kvs : List (Pr × D)} (i : Nat) (C : Ctx G k X) (hi : ρ[i]? = some (some (.ow (dTO kvs)))) (hN : X.N[i]? = some x) (hv : Vis X.env.scope x) (hl : kvs.length ≤ 10000)
    (h : EvE X f ρ value fun S => EvE X f ρ b fun R => ∃ p d, R = dat (eR.enc p) ∧ S = dat d ∧ Φ.nx (ρ.set i (some (.ow (dTO (pt kvs p d)))))) (hs : swapsWith value (some (.Subscript (.Name x p1) b p2)) pos.line X.env = pure false := by rfl)
    (hd : (x == ("__debug__" : Str)) = false := by decide +kernel) (hcd : (x == ("__classdict__" : Str)) = false := by decide +kernel) : WS X f ρ (.Assign [.Subscript (.Name x p1) b p2] value pos) Φ := fun F M σ d E D A => by
  refine wpS_of (ps_dput (hu_of' C) (pe_var hN hv hd hcd) pe_wp pe_wp hs) ?_
  refine h F M σ d E _ fun w S F1 M1 hh hw k1 d1 s1 => ?_
  obtain ⟨v, hσ, a, o, rfl, ha, hp, h5, h6⟩ := E.ent i _ hi
  refine ⟨.ref a, hσ, ?_⟩
  refine hh F1 M1 σ d1 (E.step k1 s1) _ fun y R F2 M2 hh2 hy k2 d2 s2 => ?_
  obtain ⟨p, dd, rfl, rfl, hk⟩ := hh2
  obtain ⟨bb, rfl, eb⟩ := eR_key hy
  have E2 := (E.step k1 s1).step k2 s2
  have ha2 : M2 a = some o := s2.1 _ _ h6 (s1.1 _ _ h6 ha)
  obtain ⟨xs, rfl, r⟩ := (dTO kvs).mono _ _ _ (k1.trans k2) hp
  have fa := d2 _ _ ha2
  have hlx : xs.length = kvs.length := Paired.length r
  refine ⟨a, _, rfl, DPut.t (by rw [ovl_M fa]; exact ha2) (ovl_F eb) (by rw [hlx]; exact lt_sz hl), ?_⟩
  rw [upd_ovlM fa]
  have hw2 : Dq F2 w dd := Rp.mono _ _ _ _ k2 hw
  exact A.nx _ σ F2 _ hk (k1.trans k2) ⟨fun b2 x2 hb => by
    by_cases z : b2 = a
    · rw [z]; exact fa
    · rw [upd_ne z] at hb; exact d2 b2 x2 hb, fun b2 x2 hb => by
    by_cases z : b2 = a
    · rw [z, upd_same] at hb
      cases hb
      rfl
    · rw [upd_ne z] at hb; exact d2.nt b2 x2 hb⟩ (E2.upd hi hσ ⟨_, rfl, r.put (fun _ _ => pk_inj) p hw2⟩)
theorem ws_putK {κ' : Type} [DecidableEq κ'] {km : κ' → Key} (inj : ∀ a b, km a = km b → a = b) {x : Str} {p1 p2 : Pos} {value : Expr} {kvs : List (κ' × D)} (i : Nat) (C : Ctx G k X) (hi : ρ[i]? = some (some (.ow (dKO km kvs)))) (hN : X.N[i]? = some x) (hv : Vis X.env.scope x) (hl : kvs.length ≤ 10000)
    (h : EvE X f ρ value fun S => EvE X f ρ b fun R => ∃ p d z, R = FR.st z ∧ km p = Sum.inr z ∧ S = dat d ∧ Φ.nx (ρ.set i (some (.ow (dKO km (pt kvs p d)))))) (hs : swapsWith value (some (.Subscript (.Name x p1) b p2)) pos.line X.env = pure false := by rfl)
    (hd : (x == ("__debug__" : Str)) = false := by decide +kernel) (hcd : (x == ("__classdict__" : Str)) = false := by decide +kernel) : WS X f ρ (.Assign [.Subscript (.Name x p1) b p2] value pos) Φ := fun F M σ d E D A => by
  refine wpS_of (ps_dput (hu_of' C) (pe_var hN hv hd hcd) pe_wp pe_wp hs) ?_
  refine h F M σ d E _ fun w S F1 M1 hh hw k1 d1 s1 => ?_
  obtain ⟨v, hσ, a, o, rfl, ha, hp, h5, h6⟩ := E.ent i _ hi
  refine ⟨.ref a, hσ, ?_⟩
  refine hh F1 M1 σ d1 (E.step k1 s1) _ fun y R F2 M2 hh2 hy k2 d2 s2 => ?_
  obtain ⟨p, dd, zz, rfl, hz, rfl, hk⟩ := hh2
  cases hy
  have E2 := (E.step k1 s1).step k2 s2
  have ha2 : M2 a = some o := s2.1 _ _ h6 (s1.1 _ _ h6 ha)
  obtain ⟨xs, rfl, r⟩ := (dKO km kvs).mono _ _ _ (k1.trans k2) hp
  have fa := d2 _ _ ha2
  have hlx : xs.length = kvs.length := Paired.length r
  have hw2 : Dq F2 w dd := Rp.mono _ _ _ _ k2 hw
  have ekV : V.str zz = kV (km p) := by rw [hz]; rfl
  rw [ekV]
  refine ⟨a, _, rfl, DPut.k (by rw [ovl_M fa]; exact ha2) (by rw [hlx]; exact lt_sz hl), ?_⟩
  rw [upd_ovlM fa]
  exact A.nx _ σ F2 _ hk (k1.trans k2) ⟨fun b2 x2 hb => by
    by_cases z : b2 = a
    · rw [z]; exact fa
    · rw [upd_ne z] at hb; exact d2 b2 x2 hb, fun b2 x2 hb => by
    by_cases z : b2 = a
    · rw [z, upd_same] at hb
      cases hb
      rfl
    · rw [upd_ne z] at hb; exact d2.nt b2 x2 hb⟩ (E2.upd hi hσ ⟨_, rfl, r.put inj p hw2⟩)
/-! ### lent, frozen -/
theorem lend_dT (kvs : List (Pr × D)) : Lend (dTO kvs) (dTL kvs) := fun o F a ⟨xs, e, hx⟩ hn => by
  subst e
  exact ⟨a, xs, rfl, .inl upd_same, hx.mono (same_updN hn)⟩
theorem lend_dK {κ' : Type} [DecidableEq κ'] (km : κ' → Key) (kvs : List (κ' × D)) : Lend (dKO km kvs) (dKL km kvs) := fun o F a ⟨xs, e, hx⟩ hn => by
  subst e
  exact ⟨a, xs, rfl, .inl upd_same, hx.mono (same_updN hn)⟩
theorem ovl_movG {F M : Hp} {a : Addr} {o : HO} : ovl (L2.upd F a o) (del M a) = L2.upd (ovl F M) a o := by
  rw [upd_ovl]
  funext b
  unfold ovl
  by_cases z : b = a
  · subst z; rw [upd_same]
  · rw [upd_ne z, del_ne z]
/-- a frozen thing of P, for good: B -/
def Frzn (P : Op) (B : Rp) : Prop := ∀ o F a od, P.p o F → F a = none → Mut (some o) ∧ B.p (.ref a) (L2.upd F a (.frz od o))
theorem frz_dT (kvs : List (Pr × D)) : Frzn (dTO kvs) (dTR kvs) := fun o F a od ⟨xs, e, hx⟩ hn => by
  subst e
  exact ⟨trivial, a, od, xs, rfl, upd_same, hx.mono (same_updN hn)⟩
theorem frz_dK {κ' : Type} [DecidableEq κ'] (km : κ' → Key) (kvs : List (κ' × D)) : Frzn (dKO km kvs) (dKR km kvs) := fun o F a od ⟨xs, e, hx⟩ hn => by
  subst e
  exact ⟨trivial, a, od, xs, rfl, upd_same, hx.mono (same_updN hn)⟩
theorem ws_frz {P : Op} {B : Rp} (i : Nat) (hB : Frzn P B) (h : WSs X f (ρ.set i (some (.fz B))) ss Φ) (hi : ρ[i]? = some (some (.ow P)) := by rfl) : WSs X f ρ ss Φ := fun F M σ d E D A => by
  obtain ⟨w, hσ, a, o, rfl, ha, hp, h5, h6⟩ := E.ent i _ hi
  have fa := d _ _ ha
  have hm := (hB o F a ⟨.none, none, .seq #[] 0, #[]⟩ hp fa).1
  refine wpSs_frz (d := a) (u := o) (by rw [ovl_M fa]; exact ha) hm fun od => ?_
  have eH : L2.upd (ovl F M) a (.frz od o) = ovl (L2.upd F a (.frz od o)) (del M a) := ovl_movG.symm
  rw [eH]
  have hl : i < ρ.length := (List.getElem?_eq_some_iff.mp hi).1
  -- as a loan, but the frozen object stands there
  have Eb : EnvOk f σ (ρ.set i (some (.fz B))) (L2.upd F a (.frz od o)) (del M a) := by
    refine ⟨by rw [List.length_set]; exact E.len, fun j e he => ?_, fun j l Q Q' g1 g2 g3 => ?_, fun b x hb => ?_, fun u hu => ?_⟩
    · by_cases hj : i = j
      · subst hj
        rw [List.getElem?_set_self hl] at he
        cases he
        exact ⟨.ref a, hσ, (hB o F a od hp fa).2⟩
      · rw [List.getElem?_set_ne hj] at he
        obtain ⟨w, q1, q2⟩ := E.ent j e he
        refine ⟨w, q1, ?_⟩
        cases e with
        | fz R => exact R.mono _ _ _ (same_updN fa) q2
        | ur => exact q2
        | ow R =>
          obtain ⟨b, x, r1, r2, r3, r4⟩ := q2
          have ne : b ≠ a := fun z => hj (E.inj i j P R hi he (by rw [hσ, q1, r1, z]))
          exact ⟨b, x, r1, by rw [del_ne ne]; exact r2, R.mono _ _ _ (same_updN fa) r3, r4⟩
    · have lk : ∀ (m : Nat) (Q : Op), (ρ.set i (some (.fz B)))[m]? = some (some (.ow Q)) → ρ[m]? = some (some (.ow Q)) := fun m Q g => by
        by_cases hm : i = m
        · subst hm; rw [List.getElem?_set_self hl] at g; cases g
        · rw [List.getElem?_set_ne hm] at g; exact g
      exact E.inj j l Q Q' (lk _ _ g1) (lk _ _ g2) g3
    · have ne : b ≠ a := fun z => by rw [z, h5] at hb; cases hb
      rw [del_ne ne]; exact E.base b x hb
    · obtain ⟨m0, o2, q1, q2⟩ := E.urn u hu
      have ne : u ≠ a := fun z => h6 (by rw [hu, z])
      exact ⟨m0, o2, by rw [del_ne ne]; exact q1, q2⟩
  exact h _ _ σ (dis_move d) Eb D (A.mono (same_updN fa))
end
end FR
set_option Elab.async false
set_option linter.all false
set_option maxRecDepth 100000
set_option maxHeartbeats 2000000
namespace FR
open PySem PySem.Spec PyProof.Rows L2
/-! ### iterators: dict keys, items, texts, zip, enumerate -/
theorem tup_F {F M : Hp} {a : Addr} {xs : List V} (d : Dis F M) (h : ovl F M a = some (.tup xs)) : F a = some (.tup xs) := by
  unfold ovl at h
  cases e : F a with
  | some o => rw [e] at h; exact h
  | none =>
    rw [e] at h
    have := d.nt a _ h
    cases this
theorem fz_F {F M : Hp} {a : Addr} {o : HO} (h : F a = some o) : ovl F M a = some o := ovl_F h
theorem new_pair {F M : Hp} {T : Addr} {x y : V} {dx dy : D} (d : Dis F M) (hT : ovl F M T = none) (hx : Dq F x dx) (hy : Dq F y dy) : ∃ F', Same F F' ∧ Dis F' M ∧ L2.upd (ovl F M) T (.tup [x, y]) = ovl F' M ∧ Dq F' (.ref T) (.tuple [dx, dy]) := by
  have k := same_updN (o := HO.tup [x, y]) (ovl_none hT).1
  exact ⟨L2.upd F T (.tup [x, y]), k, dis_new d (ovl_none hT).2, upd_ovl F M T _, Dq.tup upd_same (.cons (hx.mono k) (.cons (hy.mono k) .nil))⟩
theorem kvr_at {κ : Type} [DecidableEq κ] {Kt : Type} [DecidableEq Kt] {km : κ → Kt} {F : Hp} {xs : List (Kt × V)} {kvs : List (κ × D)} (h : KvR km F xs kvs) {i : Nat} {k : Kt} {v : V} (e : xs[i]? = some (k, v)) : ∃ p d, kvs[i]? = some (p, d) ∧ k = km p ∧ Dq F v d := by
  unfold KvR at h
  induction h generalizing i with
  | nil => simp at e
  | @cons p q ps qs h t ih =>
    cases i with
    | zero =>
      simp only [List.getElem?_cons_zero, Option.some.injEq] at e
      subst e
      exact ⟨q.1, q.2, rfl, h.1, h.2⟩
    | succ i =>
      simp only [List.getElem?_cons_succ] at e ⊢
      exact ih e
theorem kvr_len {κ : Type} [DecidableEq κ] {Kt : Type} [DecidableEq Kt] {km : κ → Kt} {F : Hp} {xs : List (Kt × V)} {kvs : List (κ × D)} (h : KvR km F xs kvs) : xs.length = kvs.length := Paired.length h
section
variable {X : Cx} {f : Fx} {ρ : Env} {e a b c : Expr} {es : List Expr} {s : Stmt} {ss : List Stmt} {κ : Rp → Prop} {Φ : Post} {pos : Pos} {G : Gb} {k : Nat} {N : List Str} {sc : Scope}
def Valid2 (H : Hp) : Prop := (∀ a od xs, H a = some (.frz od (.dT xs)) → xs.length ≤ sizeLine) ∧ ∀ a od xs, H a = some (.frz od (.dK xs)) → xs.length ≤ sizeLine
theorem Inv.valid2 {pins : List (Addr × Obj)} {σ : L2.St} {H : Hp} {s : Shared} (I : Inv X pins σ H s) : Valid2 H :=
  ⟨fun a od xs h => (I.hok a _ h).2.1, fun a od xs h => (I.hok a _ h).2.1⟩
theorem wpE_valid2 {σ : L2.St} {H : Hp} {Q : VK} (h : wpE X e σ H fun v H' => Valid2 H' → Q v H') : wpE X e σ H Q := fun pins s I =>
  thn (h pins s I) fun _ _ ⟨v, H', I', r, q⟩ => ⟨v, H', I', r, q (Inv.valid2 I')⟩
theorem walks_keysT {F : Hp} {a : Addr} {od : Obj} {xs : List (List Key × V)} {kvs : List (Pr × D)} (h : F a = some (.frz od (.dT xs))) (r : KvR pk F xs kvs) : Walks (Itkt a od xs) F (kvs.map fun p => eR.enc p.1) := fun i F2 M k2 d2 => by
  rw [List.length_map, ← kvr_len r]
  have h2 : ovl F2 M a = some (.frz od (.dT xs)) := ovl_F (k2 _ _ h)
  refine ⟨fun hi => ⟨⟨h2, hi⟩, fun x H' ⟨e1, kk, v, q, e2, e3, e4⟩ => ?_⟩, fun hi => ⟨h2, hi⟩⟩
  subst e1 e3
  obtain ⟨p, dd, e5, rfl, _⟩ := kvr_at r e2
  refine ⟨F2, eR.enc p, by rw [List.getElem?_map, e5]; rfl, Same.refl _, d2, rfl, eR_of (tup_F d2 e4)⟩
theorem it_keysT {tg : Expr} {κ : List D → Prop} (h : EvE X f ρ e fun R => ∃ kvs, R = dTR kvs ∧ κ (kvs.map fun p => eR.enc p.1)) : EvIt X f ρ tg e κ := fun F M σ d E R hR => by
  refine wpI_of (pi_keys pe_wp) ?_
  refine wpE_valid2 ?_
  refine h F M σ d E _ fun v Rp F1 M1 hk hv k1 d1 s1 va => ?_
  obtain ⟨kvs, rfl, hk⟩ := hk
  obtain ⟨a, od, xs, rfl, ha, r⟩ := hv
  exact ⟨a, od, rfl, .inr ⟨xs, ovl_F ha, hR _ _ F1 M1 hk (by rw [List.length_map, ← kvr_len r]; exact va.1 _ _ _ (ovl_F ha)) (walks_keysT ha r) k1 d1 s1⟩⟩
theorem walks_keysK {κ' : Type} [DecidableEq κ'] {km : κ' → Key} {kd : κ' → D} (hkd : ∀ p F, Dq F (kV (km p)) (kd p)) {F : Hp} {a : Addr} {od : Obj} {xs : List (Key × V)} {kvs : List (κ' × D)} (h : F a = some (.frz od (.dK xs))) (r : KvR km F xs kvs) : Walks (Itk a od xs) F (kvs.map fun p => kd p.1) := fun i F2 M k2 d2 => by
  rw [List.length_map, ← kvr_len r]
  have h2 : ovl F2 M a = some (.frz od (.dK xs)) := ovl_F (k2 _ _ h)
  refine ⟨fun hi => ⟨⟨h2, hi⟩, fun x H' ⟨e1, kk, v, e2, e3⟩ => ?_⟩, fun hi => ⟨h2, hi⟩⟩
  subst e1 e3
  obtain ⟨p, dd, e5, rfl, _⟩ := kvr_at r e2
  exact ⟨F2, kd p, by rw [List.getElem?_map, e5]; rfl, Same.refl _, d2, rfl, hkd p _⟩
theorem nmK_d (p : Nm) (F : Hp) : Dq F (kV (nmK p)) (eN.enc p) := Dq.str _
theorem it_keysK {tg : Expr} {κ : List D → Prop} (h : EvE X f ρ e fun R => ∃ kvs : List (Nm × D), R = dKR nmK kvs ∧ κ (kvs.map fun p => eN.enc p.1)) : EvIt X f ρ tg e κ := fun F M σ d E R hR => by
  refine wpI_of (pi_keys pe_wp) ?_
  refine wpE_valid2 ?_
  refine h F M σ d E _ fun v Rp F1 M1 hk hv k1 d1 s1 va => ?_
  obtain ⟨kvs, rfl, hk⟩ := hk
  obtain ⟨a, od, xs, rfl, ha, r⟩ := hv
  exact ⟨a, od, rfl, .inl ⟨xs, ovl_F ha, hR _ _ F1 M1 hk (by rw [List.length_map, ← kvr_len r]; exact va.2 _ _ _ (ovl_F ha)) (walks_keysK nmK_d ha r) k1 d1 s1⟩⟩
theorem walks_itemsK {F : Hp} {a : Addr} {od : Obj} {xs : List (Key × V)} {kvs : List (Nm × D)} (h : F a = some (.frz od (.dK xs))) (r : KvR nmK F xs kvs) : Walks (Iti a od xs) F (kvs.map fun p => .tuple [eN.enc p.1, p.2]) := fun i F2 M k2 d2 => by
  rw [List.length_map, ← kvr_len r]
  have h2 : ovl F2 M a = some (.frz od (.dK xs)) := ovl_F (k2 _ _ h)
  refine ⟨fun hi => ⟨⟨h2, hi⟩, fun x H' ⟨T, kk, v, e2, e3, e4, e5⟩ => ?_⟩, fun hi => ⟨h2, hi⟩⟩
  subst e3 e5
  obtain ⟨p, dd, e6, rfl, hd⟩ := kvr_at r e2
  obtain ⟨F3, k3, d3, eq, q⟩ := new_pair d2 e4 (nmK_d p F2) (hd.mono k2)
  exact ⟨F3, _, by rw [List.getElem?_map, e6]; rfl, k3, d3, eq, q⟩
theorem it_itemsK {elts : List Expr} {kk : Nat} {tpos apos cpos : Pos} {κ : List D → Prop} (h : EvE X f ρ e fun R => ∃ kvs : List (Nm × D), R = dKR nmK kvs ∧ κ (kvs.map fun p => .tuple [eN.enc p.1, p.2]))
    (hbase : attributeBase e "items" X.env (eval e X.env) = eval e X.env := by rfl) (hline : (apos.endLine == cpos.line) = true := by rfl) : EvIt X f ρ (.Tuple elts kk tpos) (.Call (.Attribute e "items" apos) [] [] cpos) κ := fun F M σ d E R hR => by
  refine wpI_of (pi_items pe_wp hbase hline) ?_
  refine wpE_valid2 ?_
  refine h F M σ d E _ fun v Rp F1 M1 hk hv k1 d1 s1 va => ?_
  obtain ⟨kvs, rfl, hk⟩ := hk
  obtain ⟨a, od, xs, rfl, ha, r⟩ := hv
  exact ⟨a, od, xs, rfl, ovl_F ha, hR _ _ F1 M1 hk (by rw [List.length_map, ← kvr_len r]; exact va.2 _ _ _ (ovl_F ha)) (walks_itemsK ha r) k1 d1 s1⟩
/-! the items of a dict with pairs as keys -/
def ItiT (d : Addr) (o : Obj) (kvs : List (List Key × V)) : It :=
  ⟨fun i H => H d = some (.frz o (.dT kvs)) ∧ i < kvs.length, fun i H x H' => ∃ T k v q, kvs[i]? = some (k, v) ∧ H q = some (.tup (k.map kV)) ∧ x = .ref T ∧ H T = none ∧ H' = L2.upd H T (.tup [.ref q, v]), fun i H => H d = some (.frz o (.dT kvs)) ∧ kvs.length ≤ i⟩
theorem frzT' {pins : List (Addr × Obj)} {σ : L2.St} {H : Hp} {s : Shared} {d : Addr} {o : Obj} {kvs : List (List Key × V)} (I : Inv X pins σ H s) (h : H d = some (.frz o (.dT kvs))) :
    (d == sysModules) = false ∧ s.heap.get? d = some o ∧ o.ExactDict ∧ ∃ (es : Array DictEntry) (ep : Nat), o.data = .dict es ep ∧ es.size = kvs.length ∧
      ∀ (i : Nat) (k : List Key) (v : V), kvs[i]? = some (k, v) → ∃ (en : DictEntry) (q : Addr), es[i]? = some en ∧ en.key = .ref q ∧ H q = some (.tup (k.map kV)) ∧ RelV v en.val := by
  obtain ⟨hd, z, hs, xs, pr, o', es, ep, ho, hx, hdt, he, _⟩ := I.hok d _ h
  rw [hd] at ho
  cases ho
  refine ⟨hs, hd, hx, es, ep, hdt, ?_, fun i k v e => ?_⟩
  · have l1 : es.size = xs.length := size_of_entries he
    have l2 : kvs.length = xs.length := Paired.length pr
    omega
  · obtain ⟨b, hb, e1, e2, e3⟩ := paired_get pr e
    have q := entry_at he i
    rw [hb] at q
    exact ⟨_, b.2.1, q, rfl, e2, e3⟩
theorem turn_itemsT {P : Program} {w : World} {K : PySem.W.Frag} {d : Addr} {o : Obj} {es : Array DictEntry} {ep : Nat} {kvs : List (List Key × V)} {elts : List Expr} {kk : Nat} {tpos : Pos} (it : Addr) (hod : o.data = .dict es ep) :
    Turn P w K (.Tuple elts kk tpos) (ItiT d o kvs) [it] it (fun i h => ∃ ok ov, IsItemIter h it d i kvs.length ep ok ov) where
  mem := by simp
  obj := fun i h st b hb => by
    have e : b = it := by simpa using hb
    subst e
    obtain ⟨ok, ov, e⟩ := st
    exact ⟨_, e, fun v z => nomatch z⟩
  keep := fun i h h' st k => let ⟨ok, ov, e⟩ := st; ⟨ok, ov, k it (by simp) _ e⟩
  item := by
    intro X hP hw hK hc i pins s σ H E I hf st hg
    subst hP hw hK
    obtain ⟨hd, hi⟩ := hg
    obtain ⟨hs, hgd, hx, es', ep', hdt, hsz, ent⟩ := frzT' I hd
    obtain ⟨rfl, rfl⟩ := dict_ep hod hdt
    obtain ⟨⟨k, v⟩, hkv⟩ : ∃ p, kvs[i]? = some p := ⟨kvs[i], List.getElem?_eq_getElem hi⟩
    obtain ⟨en, q, hen, hkey, hq, rv⟩ := ent i k v hkv
    obtain ⟨ok, ov, he⟩ := st
    rw [← hsz] at he
    have hlt : it < s.heap.objs.size := Heap.lt_size he
    have hie : i < es'.size := by omega
    have een : es'[i] = en := by
      have := Array.getElem?_eq_getElem hie
      rw [hen] at this
      exact (Option.some.inj this).symm
    refine wpAny_pyNext_items_item_raw he ⟨o, hgd, hx, hod⟩ hie fun h' ho hT hz hk => ?_
    rw [een] at ho hT
    refine ⟨_, rfl, wpAny_letOwnedTupleGo_items (s := { s with heap := h' }) ho fun h'' he' sb => ?_⟩
    have hT2 : h''.get? s.heap.objs.size = some { cls := .type "tuple", data := .seq #[en.key, en.val] } := (sb.2 _ (Nat.ne_of_gt hlt)).trans hT
    have new : ObjOk X.prog X.w (L2.upd H s.heap.objs.size (.tup [.ref q, v])) h'' s.heap.objs.size (.tup [.ref q, v]) :=
      ⟨by show 2 ≤ sizeLine; decide, [en.key, en.val], .cons (by rw [hkey]; rfl) (.cons rv .nil), ⟨_, hT2, rfl, _, rfl⟩⟩
    have I1 : Inv X pins σ (L2.upd H s.heap.objs.size (.tup [.ref q, v])) { s with heap := h'' } :=
      I.turnedNew (t' := s.toks) (ch := [it]) (fun b ob hb e => (sb.2 b (by simpa using hb)).trans (hk b ob (by simpa using hb) e)) hf (Nat.le_refl _) new
    refine ⟨.ref s.heap.objs.size, _, I1, rfl, ⟨_, k, v, q, hkv, hq, rfl, I.hok.fresh (Nat.le_refl _), rfl⟩, ⟨en.key, en.val, ?_⟩, fun b hb => ?_⟩
    · rw [← hsz]; exact he'
    · have e : b = it := by simpa using hb
      rw [e, upd_ne (Nat.ne_of_lt hlt)]
      exact (hf it (by simp)).1
  done := by
    intro X hP hw hK hc i pins s σ H E I hf st hg
    subst hP hw hK
    obtain ⟨hd, hi⟩ := hg
    obtain ⟨f0, f1, f2, f3, f4, f5⟩ := hf it (by simp)
    obtain ⟨hs, hgd, hx, es', ep', hdt, hsz, ent⟩ := frzT' I hd
    obtain ⟨rfl, rfl⟩ := dict_ep hod hdt
    obtain ⟨ok, ov, he⟩ := st
    rw [← hsz] at he
    exact wpAny_pyNext_items_end_raw (I.ok.hd hc) he ⟨o, hgd, hx, hod⟩ (by omega) fun h' eb => ⟨rfl, I.turned (t' := s.toks) (fun b ob hb e => eb b ob hb e) f0 f1 f3 f4 f5⟩
  self := fun A i s Q E st h => let ⟨_, _, e⟩ := st; PySem.W.kcp_self e h
theorem pi_itemsT {td : TE} {elts : List Expr} {kk : Nat} {tpos apos cpos : Pos} (he : PE X e td) (hbase : attributeBase e "items" X.env (eval e X.env) = eval e X.env := by rfl) (hline : (apos.endLine == cpos.line) = true := by rfl) :
    PI X (.Tuple elts kk tpos) (.Call (.Attribute e "items" apos) [] [] cpos) (fun σ H R => td σ H fun x H1 => ∃ d o kvs, x = .ref d ∧ H1 d = some (.frz o (.dT kvs)) ∧ R (ItiT d o kvs) H1) := by
  refine ⟨fun pins s σ H R I h => ?_⟩
  refine wpAny_Call_method (T := "dict") (id := "dict.items") hbase rfl hline F.plainAttrs_dict F.slot_dict_items F.type_dict_items (thn (he.run pins s σ H _ I h) fun u s1 ⟨x, H1, I1, rx, d, o, kvs, ex, hd, q⟩ => ?_)
  subst ex
  obtain rfl : u = Value.ref d := rx
  obtain ⟨hs, hgd, hx, es, ep, hdt, hsz, ent⟩ := frzT' I1 hd
  have hraw : s1.heap.DictRaw d es ep := ⟨o, hgd, hx, hdt⟩
  refine ⟨hraw.typeIs, (fun a e => by cases e; exact ⟨o, hgd, hx.2.1⟩), ?_⟩
  have I2 : Inv X pins σ H1 { s1 with heap := s1.heap.push { cls := .type "dict_items", data := .fields #[.ref d] } } := I1.kept (t' := s1.toks) fun b ob q => Heap.get?_push_of_some _ q
  have fin : wpAny (model X.prog X.w) X.A (pyIter (.ref s1.heap.objs.size)) (PIE X pins σ (.Tuple elts kk tpos) R) X.xe { s1 with heap := s1.heap.push { cls := .type "dict_items", data := .fields #[.ref d] } } := by
    refine wpAny_pyIter_items_raw (d := d) (es := es) (ep := ep) ⟨_, Heap.get?_push_size _ rfl, rfl, rfl⟩ (hraw.at fun o e => Heap.get?_push_of_some _ e) (pi_one (tk := s1.toks) I2 _ (turn_itemsT _ hdt) ⟨.none, .none, ?_⟩ q)
    rw [← hsz]
    exact Heap.get?_push_size _ rfl
  show wpAny _ _ (callWith cpos (.builtin "dict.items") [.ref d] [] []) _ X.xe s1
  exact method_meetsIn F.slot_dict_items F.entry_dict_items rfl (PySem.evalArgs_none ⟨rfl, hraw.typeIs, F.args_dict_items_1 _, _, meets_dict_items_raw d hs, ⟨⟨es, ep, hraw⟩, fin⟩⟩)
theorem walks_itemsT {F : Hp} {a : Addr} {od : Obj} {xs : List (List Key × V)} {kvs : List (Pr × D)} (h : F a = some (.frz od (.dT xs))) (r : KvR pk F xs kvs) : Walks (ItiT a od xs) F (kvs.map fun p => .tuple [eR.enc p.1, p.2]) := fun i F2 M k2 d2 => by
  rw [List.length_map, ← kvr_len r]
  have h2 : ovl F2 M a = some (.frz od (.dT xs)) := ovl_F (k2 _ _ h)
  refine ⟨fun hi => ⟨⟨h2, hi⟩, fun x H' ⟨T, kk, v, q, e2, eq', e3, e4, e5⟩ => ?_⟩, fun hi => ⟨h2, hi⟩⟩
  subst e3 e5
  obtain ⟨p, dd, e6, rfl, hd⟩ := kvr_at r e2
  obtain ⟨F3, k3, d3, eq, q⟩ := new_pair d2 e4 (eR_of (tup_F d2 eq')) (hd.mono k2)
  exact ⟨F3, _, by rw [List.getElem?_map, e6]; rfl, k3, d3, eq, q⟩
theorem it_itemsT {elts : List Expr} {kk : Nat} {tpos apos cpos : Pos} {κ : List D → Prop} (h : EvE X f ρ e fun R => ∃ kvs : List (Pr × D), R = dTR kvs ∧ κ (kvs.map fun p => .tuple [eR.enc p.1, p.2]))
    (hbase : attributeBase e "items" X.env (eval e X.env) = eval e X.env := by rfl) (hline : (apos.endLine == cpos.line) = true := by rfl) : EvIt X f ρ (.Tuple elts kk tpos) (.Call (.Attribute e "items" apos) [] [] cpos) κ := fun F M σ d E R hR => by
  refine wpI_of (pi_itemsT pe_wp hbase hline) ?_
  refine wpE_valid2 ?_
  refine h F M σ d E _ fun v Rp F1 M1 hk hv k1 d1 s1 va => ?_
  obtain ⟨kvs, rfl, hk⟩ := hk
  obtain ⟨a, od, xs, rfl, ha, r⟩ := hv
  exact ⟨a, od, xs, rfl, ovl_F ha, hR _ _ F1 M1 hk (by rw [List.length_map, ← kvr_len r]; exact va.1 _ _ _ (ovl_F ha)) (walks_itemsT ha r) k1 d1 s1⟩
/-! texts -/
theorem walks_str {F : Hp} (x : Str) : Walks (Its x) F (x.cps.toList.map fun c => .str ⟨#[c]⟩) := fun i F2 M k2 d2 => by
  rw [List.length_map, Array.length_toList]
  refine ⟨fun hi => ⟨hi, fun v H' ⟨e1, c, e2, e3⟩ => ?_⟩, fun hi => hi⟩
  subst e1 e3
  exact ⟨F2, _, by rw [List.getElem?_map, Array.getElem?_toList, e2]; rfl, Same.refl _, d2, rfl, Dq.str _⟩
theorem it_str {tg : Expr} {κ : List D → Prop} (h : EvE X f ρ e fun R => ∃ x : Str, R = FR.st x ∧ x.cps.size ≤ 10000 ∧ κ (x.cps.toList.map fun c => .str ⟨#[c]⟩)) : EvIt X f ρ tg e κ := fun F M σ d E R hR => by
  refine wpI_of (pi_str pe_wp) ?_
  refine h F M σ d E _ fun v Rp F1 M1 hk hv k1 d1 s1 => ?_
  obtain ⟨x, rfl, hl, hk⟩ := hk
  cases hv
  exact ⟨x, rfl, hR _ _ F1 M1 hk (by rw [List.length_map, Array.length_toList]; exact le_sz hl) (walks_str x) k1 d1 s1⟩
/-! zip -/
def zipD (xs ys : List D) : List D := List.zipWith (fun x y => .tuple [x, y]) xs ys
theorem zipD_at {xs ys : List D} {i : Nat} {x y : D} (h1 : xs[i]? = some x) (h2 : ys[i]? = some y) : (zipD xs ys)[i]? = some (.tuple [x, y]) := by
  unfold zipD
  rw [List.getElem?_zipWith, h1, h2]
theorem walks_zipL {K : PySem.W.Frag} {F : Hp} {a b : Addr} {xs ys : List V} {dx dy : List D} (ha : F a = some (.lst xs)) (hb : F b = some (.lst ys)) (hx : DqA F xs dx) (hy : DqA F ys dy) : Walks (Itz K a b) F (zipD dx dy) := fun i F2 M k2 d2 => by
  have h1 : SqL K (ovl F2 M) a xs := SqL.of (ovl_F (k2 _ _ ha))
  have h2 : SqL K (ovl F2 M) b ys := SqL.of (ovl_F (k2 _ _ hb))
  have hl : (zipD dx dy).length = min dx.length dy.length := List.length_zipWith
  rw [hl]
  refine ⟨fun hi => ?_, fun hi => ⟨xs, ys, h1, h2, by rw [hx.length, hy.length]; omega⟩⟩
  obtain ⟨v, hv, qv⟩ := hx.get (List.getElem?_eq_getElem (show i < dx.length by omega))
  obtain ⟨w, hw, qw⟩ := hy.get (List.getElem?_eq_getElem (show i < dy.length by omega))
  refine ⟨⟨xs, ys, v, w, h1, h2, hv, hw⟩, fun x H' ⟨T, x1, y1, e1, e2, e3, e4, e5⟩ => ?_⟩
  subst e1 e3
  have z1 : x1 = v := Option.some.inj ((e4 xs h1).symm.trans hv)
  have z2 : y1 = w := Option.some.inj ((e5 ys h2).symm.trans hw)
  subst z1 z2
  obtain ⟨F3, k3, d3, eq, q⟩ := new_pair d2 e2 (qv.mono k2) (qw.mono k2)
  exact ⟨F3, _, zipD_at (List.getElem?_eq_getElem _) (List.getElem?_eq_getElem _), k3, d3, eq, q⟩
theorem walks_zipT {K : PySem.W.Frag} {F : Hp} {a b : Addr} {xs ys : List V} {dx dy : List D} (ha : F a = some (.tup xs)) (hb : F b = some (.tup ys)) (hx : DqA F xs dx) (hy : DqA F ys dy) : Walks (RZ.ItzT K a b) F (zipD dx dy) := fun i F2 M k2 d2 => by
  have h1 : SqT K (ovl F2 M) a xs := SqT.of (ovl_F (k2 _ _ ha))
  have h2 : SqT K (ovl F2 M) b ys := SqT.of (ovl_F (k2 _ _ hb))
  have hl : (zipD dx dy).length = min dx.length dy.length := List.length_zipWith
  rw [hl]
  refine ⟨fun hi => ?_, fun hi => ⟨xs, ys, h1, h2, by rw [hx.length, hy.length]; omega⟩⟩
  obtain ⟨v, hv, qv⟩ := hx.get (List.getElem?_eq_getElem (show i < dx.length by omega))
  obtain ⟨w, hw, qw⟩ := hy.get (List.getElem?_eq_getElem (show i < dy.length by omega))
  refine ⟨⟨xs, ys, v, w, h1, h2, hv, hw⟩, fun x H' ⟨T, x1, y1, e1, e2, e3, e4, e5⟩ => ?_⟩
  subst e1 e3
  have z1 : x1 = v := Option.some.inj ((e4 xs h1).symm.trans hv)
  have z2 : y1 = w := Option.some.inj ((e5 ys h2).symm.trans hw)
  subst z1 z2
  obtain ⟨F3, k3, d3, eq, q⟩ := new_pair d2 e2 (qv.mono k2) (qw.mono k2)
  exact ⟨F3, _, zipD_at (List.getElem?_eq_getElem _) (List.getElem?_eq_getElem _), k3, d3, eq, q⟩
theorem it_zip {elts : List Expr} {kk : Nat} {tpos p : Pos} {κ : List D → Prop} (C : Ctx G k X) (hg : Gl X "zip") (hm : G.mg "zip" = none) (h : EvE X f ρ a fun R => EvE X f ρ b fun S => ∃ dx dy, ((R = li dx ∧ S = li dy) ∨ (R = tu dx ∧ S = tu dy)) ∧ κ (zipD dx dy))
    (hs : starEach [a, b] X.env = (false, eval a X.env) :: starEach [b] X.env := by rfl) (hs2 : starEach [b] X.env = (false, eval b X.env) :: starEach [] X.env := by rfl) (hpl : (backTo pos (starEach [b] X.env)).any (·.1) = false := by rfl) :
    EvIt X f ρ (.Tuple elts kk tpos) (.Call (.Name "zip" p) [a, b] [] pos) κ := fun F M σ d E R hR => by
  refine wpI_of (RZ.pi_zipA hg (by rw [C.mg]; exact hm) (pa_cons pe_wp (pa_cons pe_wp pa_nil hs2) hs) hs hpl) ?_
  refine wpE_valid ?_
  refine h F M σ d E _ fun v R1 F1 M1 hk hv k1 d1 s1 va => ?_
  refine hk F1 M1 σ d1 (E.step k1 s1) _ fun w R2 F2 M2 hk2 hw k2 d2 s2 => ?_
  obtain ⟨dx, dy, hRS, hk2⟩ := hk2
  have hv2 := R1.mono _ _ _ k2 hv
  have hz : ∀ n : Nat, n ≤ sizeLine → (zipD dx dy).length ≤ n ∨ True := fun _ _ => .inr trivial
  rcases hRS with ⟨rfl, rfl⟩ | ⟨rfl, rfl⟩
  · cases hv with
    | @lst a1 xs _ ha hx =>
      cases hw with
      | @lst a2 ys _ hb hy =>
        refine ⟨a1, a2, xs, ys, rfl, .inl ⟨SqL.of (ovl_F (k2 _ _ ha)), SqL.of (ovl_F hb), hR _ _ F2 M2 hk2 ?_ (walks_zipL (k2 _ _ ha) hb (hx.mono k2) hy) (k1.trans k2) d2 (stepT s1 s2)⟩⟩
        have := va.1 a1 xs (ovl_F ha)
        unfold zipD
        rw [List.length_zipWith, ← hx.length]; omega
  · cases hv with
    | @tup a1 xs _ ha hx =>
      cases hw with
      | @tup a2 ys _ hb hy =>
        refine ⟨a1, a2, xs, ys, rfl, .inr ⟨SqT.of (ovl_F (k2 _ _ ha)), SqT.of (ovl_F hb), hR _ _ F2 M2 hk2 ?_ (walks_zipT (k2 _ _ ha) hb (hx.mono k2) hy) (k1.trans k2) d2 (stepT s1 s2)⟩⟩
        have := va.2 a1 xs (ovl_F ha)
        unfold zipD
        rw [List.length_zipWith, ← hx.length]; omega
end
end FR
set_option Elab.async false
set_option linter.all false
set_option maxRecDepth 100000
set_option maxHeartbeats 3200000
noncomputable section
namespace FR
open PySem PySem.Spec PyProof.Rows L2
/-! ### sets of texts -/
abbrev NewSet (w : World) : Obj := { cls := .type "set", dict := none, data := .set #[] 0 (.fresh 0 0 (!w.params.followText "set-order")) }
/-- at a stands the set of the texts l -/
def SetS (P : Program) (w : World) (h : Heap) (a : Addr) (l : List Str) : Prop :=
  ∃ D : Froz.SD, h.get? a = some (Froz.sObj "set" D) ∧ Froz.TxOk P w D l ∧ l.Nodup ∧ Ris D.2.2.place.toList ∧ (w.params.followText "set-order" = true ∨ D.2.2.led = true)
theorem SetS.at {P : Program} {w : World} {h h' : Heap} {a : Addr} {l : List Str} (R : SetS P w h a l) (k : ∀ o, h.get? a = some o → h'.get? a = some o) : SetS P w h' a l := by
  obtain ⟨D, ho, r⟩ := R
  exact ⟨D, k _ ho, r⟩
theorem setS_new {P : Program} {w : World} {h : Heap} {a : Addr} (ho : h.get? a = some (NewSet w)) : SetS P w h a [] :=
  ⟨(#[], 0, .fresh 0 0 (!w.params.followText "set-order")), ho, Froz.TxOk.nil rfl, List.nodup_nil, List.Pairwise.nil, by
    show _ ∨ (!w.params.followText "set-order") = true
    cases w.params.followText "set-order"
    · exact .inr rfl
    · exact .inl rfl⟩
theorem ris_add {h : Int} {v : Value} {D : Froz.SD} (r : Ris D.2.2.place.toList) : Ris (Froz.addTx h v D).2.2.place.toList ∧ (Froz.addTx h v D).2.2.led = D.2.2.led := by
  obtain ⟨es, ep, t⟩ := D
  have r1 := layNew_ris t es h v r
  have l1 := layNew_led t es h v
  show Ris (Froz.tailTx ep (layNew t es h v).1 (if (layNew t es h v).2.1.plain = true then { (layNew t es h v).2.1 with plain := false } else (layNew t es h v).2.1) (layNew t es h v).2.2.1).2.2.place.toList ∧
    (Froz.tailTx ep (layNew t es h v).1 (if (layNew t es h v).2.1.plain = true then { (layNew t es h v).2.1 with plain := false } else (layNew t es h v).2.1) (layNew t es h v).2.2.1).2.2.led = t.led
  have key : ∀ t2 : SetTable, Ris t2.place.toList → t2.led = t.led → Ris (Froz.tailTx ep (layNew t es h v).1 t2 (layNew t es h v).2.2.1).2.2.place.toList ∧ (Froz.tailTx ep (layNew t es h v).1 t2 (layNew t es h v).2.2.1).2.2.led = t.led := fun t2 h1 h2 => by
    unfold Froz.tailTx
    split
    · exact ⟨relayAll_ris _ _ _, (relayAll_led _ _ _).trans h2⟩
    · exact ⟨h1, h2⟩
  refine key _ ?_ ?_
  · split <;> exact r1
  · split <;> exact l1
section
variable {P : Program} {w : World} {A : Around} {E : Value → Shared → Prop} {s : Shared}
/-- what the set is behind x -/
def addS (l : List Str) (x : Str) : List Str := if x ∈ l then l else x :: l
theorem addS_len (l : List Str) (x : Str) : (addS l x).length ≤ l.length + 1 := by
  unfold addS; split
  · omega
  · rw [List.length_cons]; omega
theorem setS_add {a : Addr} {l : List Str} {x : Str} {u : Tok} {Q : Bool → Shared → Prop} (R : SetS P w s.heap a l) (room : l.length + 1 < scanBound)
    (hQ : ∀ b h', Heap.SameBut a s.heap h' → SetS P w h' a (addS l x) → Q b { s with heap := h' }) : wpAny (model P w) A (setAddHashed a (.str x u) (hashStr w x)) Q E s := by
  obtain ⟨D, ho, F, nd, hr, hl⟩ := R
  by_cases hx : x ∈ l
  · obtain ⟨es, ep, t⟩ := D
    have hd : (Froz.sObj "set" (es, ep, t)).data = .set es ep t := rfl
    have hel : ElemsOf (strKind P w) es.toList := F.el
    have hf : t.fits es.size = true := F.fit
    have hsz : es.size = l.length := F.sz
    have hb0 : es.size < scanBound := by omega
    have hkey : (strKind P w).is x (.str x u) = true := Froz.is_str x u
    unfold setAddHashed setAddHashedIn
    refine wpAny_holding (wpAny_bind (wpAny_setState_of ho hd hf ?_))
    dsimp only
    rw [byScan_of rfl hb0 hel]
    simp only [↓reduceIte]
    unfold setAddByScan
    refine wpAny_bind ?_
    refine wpAny_bind (wpAny_rule ?_)
    refine wpAny_bind (wpAny_setScan_of (knd := strKind P w) (k := x) hkey ho hd hf hel ?_)
    cases hfi : List.findIdx? (fun e => (strKind P w).is x e.2) es.toList with
    | some j =>
      dsimp only
      refine wpAny_pure (wpAny_pure ?_)
      have e : addS l x = l := by unfold addS; rw [if_pos hx]
      exact hQ _ s.heap (Heap.SameBut.refl a s.heap) (by rw [e]; exact ⟨(es, ep, t), ho, F, nd, hr, hl⟩)
    | none =>
      obtain ⟨e, he, q⟩ := (F.mem x).mp hx
      have c := List.findIdx?_eq_none_iff.mp hfi e he
      rw [q] at c
      cases c
  · refine Froz.add_x ho F hx room ?_
    have e : addS l x = x :: l := by unfold addS; rw [if_neg hx]
    obtain ⟨r1, l1⟩ := ris_add (h := hashStr w x) (v := .str x u) hr
    refine hQ _ _ (Heap.SameBut.update ..) (by rw [e]; exact ⟨_, Froz.get_upd _ ho rfl, Froz.add_ok u F, List.nodup_cons.mpr ⟨hx, nd⟩, r1, hl.imp id fun z => l1.trans z⟩)
theorem set_update_strs {I : Addr} {fp wr : List Addr} {G : Array GenState → Array GenState → Prop} {n : Nat} {Pv : Nat → Value → Prop} {St : Nat → Shared → Prop} {R : Result → Shared → Prop}
    (W : WalksS P w A.in1 I fp wr G n Pv St) (S : Addr) (hSf : S ∉ fp) (xs : List Str) (hn : n = xs.length) (hb : xs.length + 1 < scanBound) (hval : ∀ i v, Pv i v → ∃ k t, xs[i]? = some k ∧ v = .str k t) :
    ∀ (k i : Nat) (s : Shared), n - i = k → i ≤ n → St i s → (∃ l, l.length ≤ i ∧ (∀ x, x ∈ l ↔ x ∈ xs.take i) ∧ SetS P w s.heap S l) →
      (∀ s' l, Moved (S :: wr) G s s' → (∀ x, x ∈ l ↔ x ∈ xs) → SetS P w s'.heap S l → R (.ok (.ret .none)) s') →
      codeAny (model P w) A (.builtin "set.update.loop" ⟨[.ref S, .ref I], []⟩) R s := by
  have hSw : S ∉ wr := fun h => hSf (W.sub _ h)
  have hsub : ∀ b ∈ wr, b ∈ S :: wr := fun b hb => List.mem_cons_of_mem _ hb
  intro k
  induction k with
  | zero =>
    intro i s hk' hi hst ⟨l, hc, hm0, hS⟩ hR
    have hin : i = n := by omega
    subst hin
    refine codeAny_builtin F.entry_set_update_loop ?_
    rw [Around.under_plainId F.plain_set_update_loop _]
    show wpAny _ A.in1 (pyNext (.ref I) >>= _) _ _ s
    refine wpAny_bind (W.done s _ _ hst fun s' hm => ?_)
    show wpAny _ A.in1 (ret Value.none) _ _ s'
    have e : xs.take i = xs := List.take_of_length_le (by omega)
    rw [e] at hm0
    exact wpAny_pure (hR s' l (hm.mono hsub) hm0 (hS.at fun o e => hm.heap S o hSw e))
  | succ k ih =>
    intro i s hk' hi hst ⟨l, hc, hm0, hS⟩ hR
    have hlt : i < n := by omega
    refine codeAny_builtin F.entry_set_update_loop ?_
    rw [Around.under_plainId F.plain_set_update_loop _]
    show wpAny _ A.in1 (pyNext (.ref I) >>= _) _ _ s
    refine wpAny_bind (W.item i s _ _ hlt hst fun v s' hP hst' hm => ?_)
    obtain ⟨z, t, hz, rfl⟩ := hval i v hP
    have hS' : SetS P w s'.heap S l := hS.at fun o e => hm.heap S o hSw e
    show wpAny _ A.in1 (holding [Value.str z t] (setAdd S (.str z t)) >>= _) _ _ s'
    refine wpAny_bind (wpAny_holding ?_)
    unfold setAdd
    refine wpAny_holding ?_
    refine wpAny_bind ((strKind P w).pyHash (k := z) (Froz.is_str z t) ?_)
    refine setS_add (s := { s' with toks := s'.toks + 1 }) hS' (by omega) fun b0 h' hsb hS2 => ?_
    have hm3 : ∀ x, x ∈ addS l z ↔ x ∈ xs.take (i + 1) := fun x => by
      rw [List.take_add_one, hz, List.mem_append, ← hm0 x]
      unfold addS
      by_cases q : z ∈ l
      · rw [if_pos q]
        constructor
        · exact .inl
        · rintro (h | h)
          · exact h
          · simp at h; rw [h]; exact q
      · rw [if_neg q, List.mem_cons]
        constructor
        · rintro (h | h)
          · exact .inr (by simp [h])
          · exact .inl h
        · rintro (h | h)
          · exact .inr h
          · exact .inl (by simpa using h)
    have hl3 := addS_len l z
    refine wpAny_pure ⟨plainId_quiet F.plain_set_update_loop _, ih (i + 1) _ (by omega) hlt (W.frame _ s' _ _ hst' (Nat.le_succ _) fun b hb o e => ?_) ⟨_, by omega, hm3, hS2⟩ fun s'' l2 hm'' hc'' hS'' => ?_⟩
    · rw [hsb.2 b (fun h : b = S => hSf (by rw [← h]; exact hb))]; exact e
    · refine hR s'' l2 (Moved.trans W.gtrans ((hm.mono hsub).then_heap (Nat.le_succ _) fun b o hb e => ?_) hm'') hc'' hS''
      rw [hsb.2 b (fun h : b = S => hb (by rw [h]; exact List.mem_cons_self))]; exact e
theorem call_set_strsL {l : Addr} {items : Array Value} (xs : List Str) {Q : Value → Shared → Prop} (hh : A.handled = none) (hl : s.heap.IsList l items) (hit : StrsAre items.toList xs) (hb : xs.length + 1 < scanBound)
    (h : ∀ (h' : Heap) (tk : Nat) (m : List Str), SetS P w h' s.heap.objs.size m → (∀ x, x ∈ m ↔ x ∈ xs) → (∀ b o, s.heap.get? b = some o → h'.get? b = some o) → Q (.ref s.heap.objs.size) { s with heap := h', toks := tk }) :
    wpAny (model P w) A (call (.type "set") [.ref l]) Q E s := by
  have hisz : items.size = xs.length := by
    have q := StrsAre.length hit
    rw [Array.length_toList] at q
    exact q
  obtain ⟨c, tl, hmro⟩ := F.called_set.mro
  have hmade := F.called_set.made
  have hsub := F.called_set.sub
  refine wpAny_call (codeAny_of_tree ?_)
  show wpAny _ _ (callAny (.type "set") _) _ _ _
  refine wpAny_pure ⟨Code.quiet_builtin _ (by decide +kernel), codeAny_builtin F.entry_type_call ?_⟩
  rw [Around.under_plain (weight_type_call_type "set" [.ref l] []) rfl]
  have h1 := F.called_set.notType
  have h2 := F.called_set.canCreate
  have hct := F.typeCall_set_1 (.ref l)
  repeat (any_goals (first | assumption | wp_step))
  refine codeAny_mono (code_set_led1 (.ref l) (E := E) (Q₁ := fun obj s₁ => obj = .ref s.heap.objs.size ∧ s₁ = { s with heap := s.heap.push (NewSet w) }) ⟨rfl, rfl⟩) fun r s₁ hr => ?_
  cases r with
  | error e => exact hr
  | ok fl =>
    cases fl with
    | ret obj =>
      obtain ⟨rfl, rfl⟩ := hr
      have hS : (s.heap.push (NewSet w)).get? s.heap.objs.size = some (NewSet w) := Heap.get?_push_size _ rfl
      have hT : Shared.TypeIs { s with heap := s.heap.push (NewSet w) } (.ref s.heap.objs.size) "set" := ⟨_, hS, rfl⟩
      have hli := F.called_set.init.lookup
      have hbi := F.called_set.init.bind (.ref s.heap.objs.size)
      repeat (any_goals (first | assumption | wp_step))
      refine codeAny_mono (codeAny_call_builtin (R := wants (fun r s₂ => r = .none ∧ ∃ h' tk m, s₂ = { s with heap := h', toks := tk } ∧ SetS P w h' s.heap.objs.size m ∧ (∀ x, x ∈ m ↔ x ∈ xs) ∧
          (∀ b o, s.heap.get? b = some o → h'.get? b = some o)) E) F.called_set.init.plain F.entry_set_init (check_set_init_1 hT ?_)) fun r₂ s₂ hr₂ => ?_
      · obtain ⟨ol, hol, hcl, nl, hdl⟩ := hl
        obtain ⟨ocls, odict, odata, oslots⟩ := ol
        simp only at hcl hdl
        subst hcl; subst hdl
        have hol' : (s.heap.push (NewSet w)).get? l = some { cls := .type "list", dict := odict, data := .seq items nl, slots := oslots } := Heap.get?_push_of_some _ hol
        have hsls := F.sub_list_set
        have hslf := F.sub_list_frozenset
        have hne : (Value.type "list" == Value.type "dict") = false := by decide
        have hl1 : (s.heap.push (NewSet w)).IsList l items := ⟨_, hol', rfl, nl, rfl⟩
        unfold Builtin.«set.__init__» noKeywords Builtin.Frozenset.updateFrom
        generalize hPI : pyIter = PI
        wp_walk
        subst hPI
        refine wpAny_pyIter_list hl1 ?_
        refine wpAny_bind (wpAny_runValue ?_)
        have hlS : l < s.heap.objs.size := Heap.lt_size hol
        have hh3 : A.in1.in1.in1.handled = none := by simp [hh]
        have hz1 : (s.heap.push (NewSet w)).objs.size = s.heap.objs.size + 1 := Heap.size_push ..
        have hneI : l ≠ (s.heap.push (NewSet w)).objs.size := by
          rw [Heap.size_push]; exact Nat.ne_of_lt (Nat.lt_succ_of_lt hlS)
        have hSf : s.heap.objs.size ∉ [(s.heap.push (NewSet w)).objs.size, l] := by
          rw [Heap.size_push]; simp only [List.mem_cons, List.mem_singleton, List.not_mem_nil, or_false, not_or]
          exact ⟨Nat.ne_of_lt (Nat.lt_succ_self _), Nat.ne_of_gt hlS⟩
        have hval : ∀ (i : Nat) (v : Value), items[i]? = some v → ∃ k t, xs[i]? = some k ∧ v = .str k t := fun i v hv => by
          have hi : i < xs.length := by rw [← hisz]; exact (Array.getElem?_eq_some_iff.mp hv).1
          obtain ⟨t, e⟩ := StrsAre.get hit i xs[i] (List.getElem?_eq_getElem hi)
          rw [Array.getElem?_toList, hv] at e
          exact ⟨xs[i], t, List.getElem?_eq_getElem hi, Option.some.inj e⟩
        refine set_update_strs ((Walks.list hh3 _ l hneI items).toS) s.heap.objs.size
          hSf xs hisz hb hval (items.size - 0) 0 _ (by omega) (Nat.zero_le _)
          ⟨⟨_, Heap.get?_push_size _ rfl, rfl, rfl⟩, (hl1.push _)⟩ ?hS0 ?hR
        case hS0 =>
          have hget : ((s.heap.push (NewSet w)).push { cls := .type "list_iterator", data := .fields #[.ref l, .int 0 0] }).get? s.heap.objs.size = some (NewSet w) := Heap.get?_push_of_some _ hS
          exact ⟨[], Nat.le_refl 0, fun x => by simp, setS_new hget⟩
        case hR =>
          intro s' m hm hc' hS'
          obtain ⟨h', g2, d', tk', os'⟩ := s'
          have eg : g2 = s.gens := hm.gens
          have ed : d' = s.drawn := hm.drawn
          have eo : os' = s.os := hm.os
          subst eg; subst ed; subst eo
          show wpAny _ _ _ _ _ _
          refine wpAny_pure ?_
          show wpAny _ _ (ret Value.none) _ _ _
          refine wpAny_pure ⟨rfl, h', tk', m, rfl, hS', hc', fun b o e => ?_⟩
          have hb0 : b < s.heap.objs.size := Heap.lt_size e
          have hb1 : b ≠ s.heap.objs.size := Nat.ne_of_lt hb0
          have hb2 : b ≠ (s.heap.push (NewSet w)).objs.size := by
            rw [Heap.size_push]; exact Nat.ne_of_lt (Nat.lt_succ_of_lt hb0)
          exact hm.heap b o (by simp only [List.mem_cons, List.mem_singleton, List.not_mem_nil, or_false, not_or]; exact ⟨hb1, hb2⟩) (Heap.get?_push_of_some _ (Heap.get?_push_of_some _ e))
      · cases r₂ with
        | error e => exact hr₂
        | ok fl₂ =>
          cases fl₂ with
          | ret r =>
            obtain ⟨rfl, h', tk, m, rfl, hS', hc', hk'⟩ := hr₂
            repeat (any_goals (first | assumption | wp_step))
            exact h _ _ _ hS' hc' hk'
          | _ => exact hr₂.elim
    | _ => exact hr.elim
theorem call_set_strsT {l : Addr} {items : Array Value} (xs : List Str) {Q : Value → Shared → Prop} (hh : A.handled = none) (hl : s.heap.IsTuple l items) (hit : StrsAre items.toList xs) (hb : xs.length + 1 < scanBound)
    (h : ∀ (h' : Heap) (tk : Nat) (m : List Str), SetS P w h' s.heap.objs.size m → (∀ x, x ∈ m ↔ x ∈ xs) → (∀ b o, s.heap.get? b = some o → h'.get? b = some o) → Q (.ref s.heap.objs.size) { s with heap := h', toks := tk }) :
    wpAny (model P w) A (call (.type "set") [.ref l]) Q E s := by
  have hisz : items.size = xs.length := by
    have q := StrsAre.length hit
    rw [Array.length_toList] at q
    exact q
  obtain ⟨c, tl, hmro⟩ := F.called_set.mro
  have hmade := F.called_set.made
  have hsub := F.called_set.sub
  refine wpAny_call (codeAny_of_tree ?_)
  show wpAny _ _ (callAny (.type "set") _) _ _ _
  refine wpAny_pure ⟨Code.quiet_builtin _ (by decide +kernel), codeAny_builtin F.entry_type_call ?_⟩
  rw [Around.under_plain (weight_type_call_type "set" [.ref l] []) rfl]
  have h1 := F.called_set.notType
  have h2 := F.called_set.canCreate
  have hct := F.typeCall_set_1 (.ref l)
  repeat (any_goals (first | assumption | wp_step))
  refine codeAny_mono (code_set_led1 (.ref l) (E := E) (Q₁ := fun obj s₁ => obj = .ref s.heap.objs.size ∧ s₁ = { s with heap := s.heap.push (NewSet w) }) ⟨rfl, rfl⟩) fun r s₁ hr => ?_
  cases r with
  | error e => exact hr
  | ok fl =>
    cases fl with
    | ret obj =>
      obtain ⟨rfl, rfl⟩ := hr
      have hS : (s.heap.push (NewSet w)).get? s.heap.objs.size = some (NewSet w) := Heap.get?_push_size _ rfl
      have hT : Shared.TypeIs { s with heap := s.heap.push (NewSet w) } (.ref s.heap.objs.size) "set" := ⟨_, hS, rfl⟩
      have hli := F.called_set.init.lookup
      have hbi := F.called_set.init.bind (.ref s.heap.objs.size)
      repeat (any_goals (first | assumption | wp_step))
      refine codeAny_mono (codeAny_call_builtin (R := wants (fun r s₂ => r = .none ∧ ∃ h' tk m, s₂ = { s with heap := h', toks := tk } ∧ SetS P w h' s.heap.objs.size m ∧ (∀ x, x ∈ m ↔ x ∈ xs) ∧
          (∀ b o, s.heap.get? b = some o → h'.get? b = some o)) E) F.called_set.init.plain F.entry_set_init (check_set_init_1 hT ?_)) fun r₂ s₂ hr₂ => ?_
      · obtain ⟨ol, hol, hcl, nl, hdl⟩ := hl
        obtain ⟨ocls, odict, odata, oslots⟩ := ol
        simp only at hcl hdl
        subst hcl; subst hdl
        have hol' : (s.heap.push (NewSet w)).get? l = some { cls := .type "tuple", dict := odict, data := .seq items nl, slots := oslots } := Heap.get?_push_of_some _ hol
        have hsls := F.sub_tuple_set
        have hslf := F.sub_tuple_frozenset
        have hne : (Value.type "tuple" == Value.type "dict") = false := by decide
        have hl1 : (s.heap.push (NewSet w)).IsTuple l items := ⟨_, hol', rfl, nl, rfl⟩
        unfold Builtin.«set.__init__» noKeywords Builtin.Frozenset.updateFrom
        generalize hPI : pyIter = PI
        wp_walk
        subst hPI
        refine wpAny_pyIter_tuple hl1 ?_
        refine wpAny_bind (wpAny_runValue ?_)
        have hlS : l < s.heap.objs.size := Heap.lt_size hol
        have hh3 : A.in1.in1.in1.handled = none := by simp [hh]
        have hz1 : (s.heap.push (NewSet w)).objs.size = s.heap.objs.size + 1 := Heap.size_push ..
        have hneI : l ≠ (s.heap.push (NewSet w)).objs.size := by
          rw [Heap.size_push]; exact Nat.ne_of_lt (Nat.lt_succ_of_lt hlS)
        have hSf : s.heap.objs.size ∉ [(s.heap.push (NewSet w)).objs.size, l] := by
          rw [Heap.size_push]; simp only [List.mem_cons, List.mem_singleton, List.not_mem_nil, or_false, not_or]
          exact ⟨Nat.ne_of_lt (Nat.lt_succ_self _), Nat.ne_of_gt hlS⟩
        have hval : ∀ (i : Nat) (v : Value), items[i]? = some v → ∃ k t, xs[i]? = some k ∧ v = .str k t := fun i v hv => by
          have hi : i < xs.length := by rw [← hisz]; exact (Array.getElem?_eq_some_iff.mp hv).1
          obtain ⟨t, e⟩ := StrsAre.get hit i xs[i] (List.getElem?_eq_getElem hi)
          rw [Array.getElem?_toList, hv] at e
          exact ⟨xs[i], t, List.getElem?_eq_getElem hi, Option.some.inj e⟩
        refine set_update_strs ((Walks.tuple hh3 _ l hneI items).toS) s.heap.objs.size
          hSf xs hisz hb hval (items.size - 0) 0 _ (by omega) (Nat.zero_le _)
          ⟨⟨_, Heap.get?_push_size _ rfl, rfl, rfl⟩, (hl1.push _)⟩ ?hS0 ?hR
        case hS0 =>
          have hget : ((s.heap.push (NewSet w)).push { cls := .type "tuple_iterator", data := .fields #[.ref l, .int 0 0] }).get? s.heap.objs.size = some (NewSet w) := Heap.get?_push_of_some _ hS
          exact ⟨[], Nat.le_refl 0, fun x => by simp, setS_new hget⟩
        case hR =>
          intro s' m hm hc' hS'
          obtain ⟨h', g2, d', tk', os'⟩ := s'
          have eg : g2 = s.gens := hm.gens
          have ed : d' = s.drawn := hm.drawn
          have eo : os' = s.os := hm.os
          subst eg; subst ed; subst eo
          show wpAny _ _ _ _ _ _
          refine wpAny_pure ?_
          show wpAny _ _ (ret Value.none) _ _ _
          refine wpAny_pure ⟨rfl, h', tk', m, rfl, hS', hc', fun b o e => ?_⟩
          have hb0 : b < s.heap.objs.size := Heap.lt_size e
          have hb1 : b ≠ s.heap.objs.size := Nat.ne_of_lt hb0
          have hb2 : b ≠ (s.heap.push (NewSet w)).objs.size := by
            rw [Heap.size_push]; exact Nat.ne_of_lt (Nat.lt_succ_of_lt hb0)
          exact hm.heap b o (by simp only [List.mem_cons, List.mem_singleton, List.not_mem_nil, or_false, not_or]; exact ⟨hb1, hb2⟩) (Heap.get?_push_of_some _ (Heap.get?_push_of_some _ e))
      · cases r₂ with
        | error e => exact hr₂
        | ok fl₂ =>
          cases fl₂ with
          | ret r =>
            obtain ⟨rfl, h', tk, m, rfl, hS', hc', hk'⟩ := hr₂
            repeat (any_goals (first | assumption | wp_step))
            exact h _ _ _ hS' hc' hk'
          | _ => exact hr₂.elim
    | _ => exact hr.elim
end
end FR
end
set_option Elab.async false
set_option linter.all false
set_option maxRecDepth 100000
set_option maxHeartbeats 3200000
noncomputable section
namespace FR
open PySem PySem.Spec PyProof.Rows L2
def SetSO (P : Program) (w : World) (a : Addr) (l : List Str) : HO := .ext fun h => SetS P w h a l
theorem setSO_new {P : Program} {w : World} {H : Hp} {h : Heap} {a : Addr} {l : List Str} (R : SetS P w h a l) : ObjOk P w H h a (SetSO P w a l) := by
  obtain ⟨D, ho, r⟩ := id R
  exact ⟨R, ⟨_, ho⟩, fun h1 h2 p k => SetS.at p k⟩
section
variable {X : Cx}
/-- set(xs), xs a list or a tuple of texts -/
def rSetS (X : Cx) : List V → Hp → VK → Prop := fun xs H Q => ∃ (l : Addr) (zs : List Str), xs = [V.ref l] ∧ (SqL X.K H l (zs.map V.str) ∨ SqT X.K H l (zs.map V.str)) ∧ zs.length ≤ 1000 ∧
  ∀ a m, H a = none → (∀ x, x ∈ m ↔ x ∈ zs) → m.Nodup → Q (.ref a) (L2.upd H a (SetSO X.prog X.w a m))
theorem SetS.nd {P : Program} {w : World} {h : Heap} {a : Addr} {l : List Str} (R : SetS P w h a l) : l.Nodup := let ⟨_, _, _, n, _⟩ := R; n
theorem cr_setS (hc : X.calm = true) : CallR X (.type "set") (rSetS X) := by
  intro pins s σ H xs us Q I r h
  obtain ⟨l, zs, rfl, hl, hf, q⟩ := h
  rw [Vals.ref1 r]
  have hn : H s.heap.objs.size = none := I.hok.fresh (Nat.le_refl _)
  have hb : zs.length + 1 < scanBound := by unfold scanBound; omega
  rcases hl with hl | hl
  · obtain ⟨its, rv, pl, hz⟩ := I.list hl
    exact call_set_strsL (P := X.prog) (w := X.w) zs (I.ok.hd hc) pl.isList (by simpa using strsAre_of rv) hb fun h' tk m R g k =>
      ⟨.ref s.heap.objs.size, L2.upd H s.heap.objs.size (SetSO X.prog X.w s.heap.objs.size m), I.laid (t' := tk) k (Nat.le_refl _) (setSO_new R), rfl, q _ m hn g R.nd⟩
  · obtain ⟨its, rv, pl, hz⟩ := I.tuple hl
    exact call_set_strsT (P := X.prog) (w := X.w) zs (I.ok.hd hc) (show s.heap.IsTuple l its.toArray from pl) (by simpa using strsAre_of rv) hb fun h' tk m R g k =>
      ⟨.ref s.heap.objs.size, L2.upd H s.heap.objs.size (SetSO X.prog X.w s.heap.objs.size m), I.laid (t' := tk) k (Nat.le_refl _) (setSO_new R), rfl, q _ m hn g R.nd⟩
theorem perm_of_sub {α : Type} [DecidableEq α] : ∀ (l ks : List α), l.Nodup → (∀ x ∈ l, x ∈ ks) → ks.length = l.length → ks.Perm l
  | [], ks, _, _, h => by
    have : ks = [] := List.eq_nil_of_length_eq_zero h
    rw [this]
  | x :: l, ks, nd, hs, h => by
    have hx : x ∈ ks := hs x List.mem_cons_self
    obtain ⟨n1, n2⟩ := List.nodup_cons.mp nd
    have p := List.perm_cons_erase hx
    refine p.trans (List.Perm.cons x (perm_of_sub l (ks.erase x) n2 (fun y hy => ?_) ?_))
    · exact (List.mem_erase_of_ne (fun e => n1 (by rw [← e]; exact hy))).mpr (hs y (List.mem_cons_of_mem _ hy))
    · rw [List.length_erase_of_mem hx, h, List.length_cons]; omega
def strOf : Value → Str
  | .str x _ => x
  | _ => Str.empty
theorem vals_strs : ∀ {us : List Value}, (∀ u ∈ us, ∃ x t, u = .str x t) → Vals ((us.map strOf).map V.str) us
  | [], _ => .nil
  | u :: us, h => by
    obtain ⟨x, t, rfl⟩ := h u List.mem_cons_self
    exact .cons ⟨t, rfl⟩ (vals_strs fun v hv => h v (List.mem_cons_of_mem _ hv))
/-- the members of a set, gathered -/
theorem colr_setS {a : Addr} {l : List Str} {H : Hp} (h : H a = some (SetSO X.prog X.w a l)) (hb : l.length ≤ 1000) : ColR X (.ref a) H (fun zs => ∃ m : List Str, zs = m.map V.str ∧ m.Perm l) := fun pins s σ u I r A E R hA hR => by
  cases r
  obtain ⟨⟨D, ho, F, nd, hr, hl⟩, _⟩ := I.hok a _ h
  obtain ⟨es, ep, t⟩ := D
  have hsz : es.size = l.length := F.sz
  have hel : ElemsOf (strKind X.prog X.w) es.toList := F.el
  have isS : ∀ u ∈ es.toList.map (·.2), ∃ x t, u = Value.str x t := fun u hu => by
    obtain ⟨e, he, rfl⟩ := List.mem_map.mp hu
    obtain ⟨⟨k, hk, _⟩, _⟩ := hel e he
    exact ⟨k, Value.isStrOf_shape hk⟩
  refine collect_set hA ⟨_, ho, rfl, rfl⟩ F.fit (show es.size < scanBound by unfold scanBound; omega) hr hl fun s' out hk _ hg hos pm => ?_
  have isO : ∀ u ∈ out, ∃ x t, u = Value.str x t := fun u hu => isS u (pm.mem_iff.mp hu)
  refine hR s' out _ hk hg hos ⟨out.map strOf, rfl, ?_⟩ (vals_strs isO)
  refine perm_of_sub l (out.map strOf) nd (fun x hx => ?_) (by rw [List.length_map, pm.length_eq, List.length_map, Array.length_toList, hsz])
  obtain ⟨e, he, q⟩ := (F.mem x).mp hx
  refine List.mem_map.mpr ⟨e.2, pm.mem_iff.mpr (List.mem_map.mpr ⟨e, he, rfl⟩), ?_⟩
  obtain ⟨t', e'⟩ := Value.isStrOf_shape q
  rw [e']; rfl
end
end FR
end
set_option Elab.async false
set_option linter.all false
set_option maxRecDepth 100000
set_option maxHeartbeats 2000000
namespace FR
open PySem PySem.Spec PyProof.Rows L2
def Nm.s (x : Nm) : Str := x.1
/-! ### order of things of one kind -/
section
variable {α : Type}
def Enc.lt (E : Enc α) (x y : α) : Bool := PySem.W.dataLt (E.enc x) (E.enc y)
def Enc.le (E : Enc α) (x y : α) : Bool := !PySem.W.dataLt (E.enc y) (E.enc x)
def srt (E : Enc α) (xs : List α) : List α := xs.mergeSort E.le
theorem Enc.le_eq (E : Enc α) : E.le = PySem.W.sortLe (PyProof.Rows.listOrd itemOrd) false (fun x => PySem.W.keyToks (E.enc x)) := rfl
theorem Enc.totalLe (E : Enc α) : PySem.W.TotalLe E.le := by rw [E.le_eq]; exact PySem.W.sortLe_total _ _ _
theorem toks_inj {x y : D} (h : PySem.W.alike x y = true) (e : PySem.W.keyToks x = PySem.W.keyToks y) : x = y := by
  cases q : PyData.eqv x y with
  | true => exact eqv_eq.1 x y h q
  | false =>
    have t := (PySem.W.toks_eqv x y h).2 q [] [Sum.inl 0]
    rw [e, PySem.W.lex_pre, show PyProof.Rows.lexLt itemOrd (PySem.W.keyToks y) (PySem.W.keyToks y) = false from (PyProof.Rows.listOrd itemOrd).irrefl _] at t
    cases t
theorem Enc.lt_irrefl (E : Enc α) (x : α) : E.lt x x = false := (PyProof.Rows.listOrd itemOrd).irrefl _
theorem Enc.lt_trans (E : Enc α) {x y z : α} (h : E.lt x y = true) (h2 : E.lt y z = true) : E.lt x z = true := (PyProof.Rows.listOrd itemOrd).trans _ _ _ h h2
theorem Enc.lt_total (E : Enc α) {x y : α} (h : E.lt x y = false) (h2 : E.lt y x = false) : x = y := E.inj _ _ (toks_inj (E.alike x y) ((PyProof.Rows.listOrd itemOrd).total _ _ h h2))
theorem Enc.le_antisymm (E : Enc α) {x y : α} (h : E.le x y = true) (h2 : E.le y x = true) : x = y := by
  unfold Enc.le at h h2
  rw [Bool.not_eq_true'] at h h2
  exact E.lt_total h2 h
theorem Enc.le_of_lt (E : Enc α) {x y : α} (h : E.lt x y = true) : E.le x y = true := by
  unfold Enc.le
  cases q : PySem.W.dataLt (E.enc y) (E.enc x) with
  | false => rfl
  | true =>
    have := E.lt_trans h q
    rw [E.lt_irrefl] at this; cases this
theorem srt_perm (E : Enc α) (xs : List α) : (srt E xs).Perm xs := List.mergeSort_perm xs E.le
theorem srt_sorted (E : Enc α) (xs : List α) : (srt E xs).Pairwise (fun a b => E.le a b = true) := PySem.W.sort_pairwise E.totalLe xs
theorem srt_mem (E : Enc α) {xs : List α} {x : α} : x ∈ srt E xs ↔ x ∈ xs := (srt_perm E xs).mem_iff
theorem srt_length (E : Enc α) (xs : List α) : (srt E xs).length = xs.length := (srt_perm E xs).length_eq
/-- one order only -/
theorem sorted_one (E : Enc α) : ∀ {xs ys : List α}, xs.Pairwise (fun a b => E.le a b = true) → ys.Pairwise (fun a b => E.le a b = true) → xs.Perm ys → xs = ys
  | [], ys, _, _, p => by rw [p.symm.eq_nil]
  | x :: xs, [], _, _, p => by cases p.eq_nil
  | x :: xs, y :: ys, h1, h2, p => by
    obtain ⟨a1, a2⟩ := List.pairwise_cons.mp h1
    obtain ⟨b1, b2⟩ := List.pairwise_cons.mp h2
    have e : x = y := by
      rcases List.mem_cons.mp (p.mem_iff.mp List.mem_cons_self) with z | z
      · exact z
      · rcases List.mem_cons.mp (p.mem_iff.mpr List.mem_cons_self) with w | w
        · exact w.symm
        · exact E.le_antisymm (a1 y w) (b1 x z)
    subst e
    rw [sorted_one E a2 b2 (List.Perm.cons_inv p)]
theorem srt_eq (E : Enc α) {xs ys : List α} (h : ys.Pairwise (fun a b => E.le a b = true)) (p : ys.Perm xs) : srt E xs = ys := sorted_one E (srt_sorted E xs) h ((srt_perm E xs).trans p.symm)
theorem srt_congr (E : Enc α) {xs ys : List α} (p : xs.Perm ys) : srt E xs = srt E ys := srt_eq E (srt_sorted E ys) ((srt_perm E ys).trans p.symm)
/-- what sorted can do -/
def SortOk (E : Enc α) (xs : List α) : Prop := (∀ x ∈ xs, E.enc x ≠ .none) ∧ (xs.length ≤ 1 ∨ (∀ x ∈ xs, ∃ y r, E.enc x = .tuple (y :: r)) ∨ ∀ x ∈ xs, ∀ ys, E.enc x ≠ .tuple ys)
theorem SortOk.perm {E : Enc α} {xs ys : List α} (h : SortOk E xs) (p : ys.Perm xs) : SortOk E ys :=
  ⟨fun x hx => h.1 x (p.mem_iff.mp hx), h.2.imp (fun l => by rw [p.length_eq]; exact l) fun q => q.imp (fun a x hx => a x (p.mem_iff.mp hx)) fun a x hx => a x (p.mem_iff.mp hx)⟩
theorem sortOk_N (xs : List Nm) : SortOk eN xs := ⟨fun _ _ h => (by cases h), .inr (.inr fun _ _ _ h => (by cases h))⟩
theorem sortOk_R (xs : List Pr) : SortOk eR xs := ⟨fun _ _ h => (by cases h), .inr (.inl fun x _ => ⟨_, _, rfl⟩)⟩
end
/-- each once -/
def dd {α : Type} [DecidableEq α] : List α → List α
  | [] => []
  | x :: xs => if x ∈ xs then dd xs else x :: dd xs
theorem mem_dd {α : Type} [DecidableEq α] {x : α} : ∀ {xs : List α}, x ∈ dd xs ↔ x ∈ xs
  | [] => Iff.rfl
  | y :: ys => by
    unfold dd
    by_cases h : y ∈ ys
    · rw [if_pos h, mem_dd, List.mem_cons]
      exact ⟨.inr, fun q => q.elim (fun e => e ▸ h) id⟩
    · rw [if_neg h, List.mem_cons, List.mem_cons, mem_dd]
theorem nodup_dd {α : Type} [DecidableEq α] : ∀ xs : List α, (dd xs).Nodup
  | [] => List.nodup_nil
  | y :: ys => by
    unfold dd
    by_cases h : y ∈ ys
    · rw [if_pos h]; exact nodup_dd ys
    · rw [if_neg h]; exact List.nodup_cons.mpr ⟨fun q => h (mem_dd.mp q), nodup_dd ys⟩
theorem _root_.List.Nodup.sublen {α : Type} [DecidableEq α] : ∀ {l ks : List α}, l.Nodup → (∀ x ∈ l, x ∈ ks) → l.length ≤ ks.length
  | [], ks, _, _ => Nat.zero_le _
  | x :: l, ks, nd, hs => by
    obtain ⟨n1, n2⟩ := List.nodup_cons.mp nd
    have hx := hs x List.mem_cons_self
    have := List.Nodup.sublen (l := l) (ks := ks.erase x) n2 fun y hy => (List.mem_erase_of_ne (fun e => n1 (by rw [← e]; exact hy))).mpr (hs y (List.mem_cons_of_mem _ hy))
    rw [List.length_erase_of_mem hx] at this
    have : 0 < ks.length := List.length_pos_of_mem hx
    rw [List.length_cons]; omega
/-! ### gathering -/
def Gath (G : Gb) {α : Type} (E : Enc α) (R : Rp) (xs : List α) : Prop := ∀ (X : Cx), X.prog = G.P → X.w = G.w → X.K = G.K → ∀ F M v, Dis F M → R.p v F → ColR X v (ovl F M) fun vs => ∃ ys : List α, ys.Perm xs ∧ DqA F vs (ys.map E.enc)
section
variable {X : Cx} {f : Fx} {ρ : Env} {e a b c : Expr} {es : List Expr} {s : Stmt} {ss : List Stmt} {κ : Rp → Prop} {Φ : Post} {pos p : Pos} {G : Gb} {k : Nat} {N : List Str} {sc : Scope} {α : Type}
theorem ColR.imp {H : Hp} {v : V} {P P' : List V → Prop} (h : ColR X v H P) (hp : ∀ vs, P vs → P' vs) : ColR X v H P' := fun pins s σ u I r A E R hA hR => h pins s σ u I r A E R hA fun s' acc zs k g o q => hR s' acc zs k g o (hp _ q)
theorem gath_li (E : Enc α) (xs : List α) : Gath G E (li (xs.map E.enc)) xs := fun X _ _ _ F M v d h => by
  cases h with
  | @lst a vs _ ha hx => exact (colr_list (SqL.of (ovl_F ha))).imp fun ws e => by subst e; exact ⟨xs, .refl _, hx⟩
theorem gath_tu (E : Enc α) (xs : List α) : Gath G E (tu (xs.map E.enc)) xs := fun X _ _ _ F M v d h => by
  cases h with
  | @tup a vs _ ha hx => exact (colr_tup (SqT.of (ovl_F ha))).imp fun ws e => by subst e; exact ⟨xs, .refl _, hx⟩
theorem gath_dT {R : Rp} (kvs : List (Pr × D)) (h : R = dTR kvs ∨ R = dTL kvs) : Gath G eR R (kvs.map (·.1)) := fun X _ _ _ F M v d hv => by
  have key : ∃ a xs, v = .ref a ∧ Rd F a (.dT xs) ∧ KvR pk F xs kvs := by
    rcases h with rfl | rfl
    · obtain ⟨a, od, xs, e, h1, r⟩ := hv; exact ⟨a, xs, e, .inr ⟨od, h1⟩, r⟩
    · exact hv
  obtain ⟨a, xs, rfl, hr, r⟩ := key
  refine (colr_dT (rd_ovl hr)).imp fun vs ⟨bs, e, hb⟩ => ⟨_, .refl _, ?_⟩
  subst e
  unfold IsKeys at hb
  unfold KvR at r
  have : ∀ (xs : List (List Key × V)) (bs : List Addr) (kvs : List (Pr × D)), Paired (fun (p : List Key × V) (b : Addr) => ovl F M b = some (.tup (p.1.map kV))) xs bs → Paired (fun (p : List Key × V) (q : Pr × D) => p.1 = pk q.1 ∧ Dq F p.2 q.2) xs kvs → DqA F (bs.map V.ref) ((kvs.map (·.1)).map eR.enc) := fun xs bs kvs h1 h2 => by
    induction h1 generalizing kvs with
    | nil => cases h2; exact .nil
    | cons h t ih => cases h2 with
      | cons h' t' => exact .cons (eR_of (tup_F d (by rw [← h'.1]; exact h))) (ih _ t')
  exact this _ _ _ hb r
/-- the set of the names xs -/
def setR (G : Gb) (xs : List Nm) : Rp := ⟨fun v F => ∃ a m, v = .ref a ∧ F a = some (SetSO G.P G.w a m) ∧ (∀ x, x ∈ m ↔ x ∈ xs.map Nm.s) ∧ m.Nodup ∧ m.length ≤ 1000, fun _ _ _ k ⟨a, m, e, h, r⟩ => ⟨a, m, e, k _ _ h, r⟩⟩
theorem names_of : ∀ (m : List Str) (xs : List Nm), (∀ x ∈ m, x ∈ xs.map Nm.s) → ∃ ys : List Nm, ys.map Nm.s = m
  | [], _, _ => ⟨[], rfl⟩
  | x :: m, xs, h => by
    obtain ⟨ys, e⟩ := names_of m xs fun y hy => h y (List.mem_cons_of_mem _ hy)
    obtain ⟨z, _, e2⟩ := List.mem_map.mp (h x List.mem_cons_self)
    exact ⟨(z : Nm) :: ys, by rw [List.map_cons, e, e2]⟩
theorem perm_set [DecidableEq α] {xs ys : List α} (h : ys.Nodup) (hm : ∀ x, x ∈ ys ↔ x ∈ xs) : ys.Perm (dd xs) := (List.perm_ext_iff_of_nodup h (nodup_dd xs)).mpr fun x => by rw [hm x, mem_dd]
theorem gath_set (xs : List Nm) : Gath G eN (setR G xs) (dd xs) := fun X hP hw _ F M v d h => by
  obtain ⟨a, m, rfl, ha, hm, nd, hl⟩ := h
  refine (colr_setS (l := m) (by rw [hP, hw]; exact ovl_F ha) hl).imp fun vs ⟨m', e, p⟩ => ?_
  subst e
  obtain ⟨ys, e⟩ := names_of m' xs fun x hx => (hm x).mp (p.mem_iff.mp hx)
  subst e
  have nd2 : (ys.map Nm.s).Nodup := p.nodup_iff.mpr nd
  refine ⟨ys, perm_set (List.Pairwise.of_map Nm.s (fun x y hn e => hn (by rw [e])) nd2) fun x => ?_, ?_⟩
  · have q : x.s ∈ ys.map Nm.s ↔ x.s ∈ xs.map Nm.s := by rw [p.mem_iff, hm]
    have key : ∀ zs : List Nm, x.s ∈ zs.map Nm.s ↔ x ∈ zs := fun zs => by
      rw [List.mem_map]
      exact ⟨fun ⟨z, hz, e⟩ => by rw [← show z = x from Subtype.ext e]; exact hz, fun h => ⟨x, h, rfl⟩⟩
    rw [key, key] at q
    exact q
  · have : (ys.map Nm.s).map V.str = ys.map fun x => V.str x.1 := by rw [List.map_map]; rfl
    have q := DqA.ofStrs (F := F) (ys.map Nm.s)
    have e2 : ys.map eN.enc = (ys.map Nm.s).map PyData.str := by rw [List.map_map]; rfl
    rw [e2]; exact q
/-- sorted(x) of what can be gathered -/
theorem ev_sorted (C : Ctx G k X) (hg : Gl X "sorted") (hm : G.mg "sorted" = none) (h : EvE X f ρ e fun R => ∃ (α : Type) (E : Enc α) (xs : List α), Gath G E R xs ∧ SortOk E xs ∧ xs.length ≤ 10000 ∧ κ (li ((srt E xs).map E.enc)))
    (he : starEach (e :: []) X.env = (false, eval e X.env) :: starEach [] X.env := by rfl) : EvE X f ρ (.Call (.Name "sorted" p) [e] [] pos) κ :=
  ev_callB C (cr_sortC C.calm C.room.units) hg hm (by decide +kernel) (ea_one (ev_imp h fun R ⟨α, E, xs, hG, hS, hL, hk⟩ => fun F M vs d hvs va Q hQ => by
    obtain ⟨v, rfl, hv⟩ := rpa1 hvs
    refine ⟨v, _, rfl, hG X C.prog C.w C.K F M v d hv, fun ws ⟨ys, py, hq⟩ => ?_⟩
    have hS' := hS.perm py
    have hlen : ws.length = ys.length := by rw [hq.length, List.length_map]
    let zs' : List (V × α) := ws.zip ys
    have m1 : zs'.map (·.1) = ws := List.map_fst_zip (by omega)
    have m2 : zs'.map (·.2) = ys := List.map_snd_zip (by omega)
    have hz : ∀ z ∈ zs', Dq F z.1 (E.enc z.2) := by
      have : ∀ (ws : List V) (ys : List α), DqA F ws (ys.map E.enc) → ∀ z ∈ ws.zip ys, Dq F z.1 (E.enc z.2) := fun ws => by
        induction ws with
        | nil => intro ys _ z hz; simp at hz
        | cons w ws ih => intro ys hq z hz; cases ys with
          | nil => simp at hz
          | cons y ys =>
            cases hq with
            | cons h1 h2 =>
              rcases List.mem_cons.mp (by simpa using hz) with rfl | hz
              · exact h1
              · exact ih ys h2 z hz
      exact this ws ys hq
    have hmy : ∀ z ∈ zs', z.2 ∈ ys := fun z hz => by rw [← m2]; exact List.mem_map.mpr ⟨z, hz, rfl⟩
    let g : V × α → V × D := fun z => (z.1, E.enc z.2)
    refine ⟨zs'.map g, by rw [List.map_map, ← m1]; rfl, fun z hz' => ?_, fun x hx y hy => ?_, ?_, fun z hz' => ?_, ?_, fun p hp => ?_⟩
    · obtain ⟨y, hy, rfl⟩ := List.mem_map.mp hz'
      exact Same.dp (hz y hy)
    · rw [List.map_map] at hx hy
      obtain ⟨x', _, rfl⟩ := List.mem_map.mp hx
      obtain ⟨y', _, rfl⟩ := List.mem_map.mp hy
      exact E.alike _ _
    · rw [List.map_map]
      rcases hS'.2 with l | t | o
      · refine .inr ⟨by rw [List.length_map]; show (ws.zip ys).length ≤ 1; rw [List.length_zip]; omega, fun x hx => ?_⟩
        obtain ⟨x', hx', rfl⟩ := List.mem_map.mp hx
        exact hS'.1 _ (hmy _ hx')
      · refine .inl (.inl fun x hx => ?_)
        obtain ⟨x', hx', rfl⟩ := List.mem_map.mp hx
        exact t _ (hmy _ hx')
      · refine .inl (.inr fun x hx => ?_)
        obtain ⟨x', hx', rfl⟩ := List.mem_map.mp hx
        exact ⟨hS'.1 _ (hmy _ hx'), o _ (hmy _ hx')⟩
    · obtain ⟨y, hy, rfl⟩ := List.mem_map.mp hz'
      have := E.depth y.2
      show (E.enc y.2).depth ≤ 50
      omega
    · rw [List.length_map]; show (ws.zip ys).length ≤ _
      rw [List.length_zip]
      have := py.length_eq
      exact Nat.le_trans (Nat.min_le_right _ _) (by rw [this]; exact le_sz hL)
    · have e1 : (zs'.map g).mergeSort (PySem.W.dataLe false (·.2)) = (zs'.mergeSort fun a b => E.le a.2 b.2).map g := (PySem.W.sort_maps g fun a _ b _ => rfl).symm
      have e2 : (zs'.mergeSort fun a b => E.le a.2 b.2).map (·.2) = srt E ys := by
        rw [PySem.W.sort_maps (s := E.le) (fun z : V × α => z.2) fun a _ b _ => rfl, m2]; rfl
      rw [e1, List.map_map]
      have dq : DqA F ((zs'.mergeSort fun a b => E.le a.2 b.2).map ((·.1) ∘ g)) ((srt E xs).map E.enc) := by
        rw [← srt_congr E py, ← e2, List.map_map]
        have all : ∀ z ∈ zs'.mergeSort (fun a b => E.le a.2 b.2), Dq F z.1 (E.enc z.2) := fun z h => hz z (List.mem_mergeSort.mp h)
        revert all
        generalize zs'.mergeSort (fun a b => E.le a.2 b.2) = L
        intro all
        induction L with
        | nil => exact .nil
        | cons z L ih => exact .cons (all z List.mem_cons_self) (ih fun y hy => all y (List.mem_cons_of_mem _ hy))
      exact new_of (Q := fun H => Q (.ref p) H) d hp fun F4 _ k4 d4 e4 => hQ _ _ F4 hk (Dq.lst e4 (dq.mono k4)) k4 d4) he) (he := he) (hpl := by rfl)
/-- set(x) of names -/
theorem ev_set (C : Ctx G k X) (hg : Gl X "set") (hm : G.mg "set" = none) (h : EvE X f ρ e fun R => ∃ xs : List Nm, (R = li (xs.map eN.enc) ∨ R = tu (xs.map eN.enc)) ∧ xs.length ≤ 1000 ∧ κ (setR G xs))
    (he : starEach (e :: []) X.env = (false, eval e X.env) :: starEach [] X.env := by rfl) : EvE X f ρ (.Call (.Name "set" p) [e] [] pos) κ :=
  ev_callTy C (cr_setS C.calm) hg hm (by decide +kernel) (ea_one (ev_imp h fun R ⟨xs, hR, hL, hk⟩ => fun F M vs d hvs va Q hQ => by
    obtain ⟨v, rfl, hv⟩ := rpa1 hvs
    have e2 : xs.map eN.enc = (xs.map Nm.s).map PyData.str := by rw [List.map_map]; rfl
    have fin : ∀ (a : Addr) (m : List Str), ovl F M a = none → (∀ x, x ∈ m ↔ x ∈ xs.map Nm.s) → m.Nodup → Q (.ref a) (L2.upd (ovl F M) a (SetSO X.prog X.w a m)) := fun a m hn hm nd => by
      refine new_of (Q := fun H => Q (.ref a) H) d hn fun F4 _ k4 d4 e4 => hQ _ _ F4 hk ⟨a, m, rfl, by rw [e4, C.prog, C.w], hm, nd, ?_⟩ k4 d4
      have : m.length ≤ (xs.map Nm.s).length := (nd.sublen fun x hx => (hm x).mp hx)
      rw [List.length_map] at this
      omega
    rcases hR with rfl | rfl
    · cases hv with
      | @lst a us _ ha hx =>
        rw [e2] at hx
        refine ⟨a, xs.map Nm.s, rfl, .inl ?_, by rw [List.length_map]; exact hL, fun a m => fin a m⟩
        rw [← hx.strs]; exact SqL.of (ovl_F ha)
    · cases hv with
      | @tup a us _ ha hx =>
        rw [e2] at hx
        refine ⟨a, xs.map Nm.s, rfl, .inr ?_, by rw [List.length_map]; exact hL, fun a m => fin a m⟩
        rw [← hx.strs]; exact SqT.of (ovl_F ha)) he) (he := he) (hpl := by rfl)
end
end FR
set_option Elab.async false
set_option linter.all false
set_option maxRecDepth 100000
set_option maxHeartbeats 2000000
namespace FR
open PySem PySem.Spec PyProof.Rows L2
section
variable {X : Cx} {f : Fx} {ρ : Env} {e a b c : Expr} {es : List Expr} {s : Stmt} {ss : List Stmt} {κ : Rp → Prop} {Φ : Post} {pos p : Pos} {G : Gb} {k : Nat} {N : List Str} {sc : Scope}
/-! ### the rules of built-ins, names looked up -/
theorem r_len (g : Gx G) (C : Ctx G k X) (h : EvE (mkX X N sc) f ρ e fun R => ∃ ds, (R = li ds ∨ R = tu ds) ∧ κ (nt ds.length)) (hg : gloB sc "len" = true := by decide +kernel) (he : starEach (e :: []) (mkX X N sc).env = (false, eval e (mkX X N sc).env) :: starEach [] (mkX X N sc).env := by rfl) : EvE (mkX X N sc) f ρ (.Call (.Name "len" p) [e] [] pos) κ := ev_len C.at (glo_of hg) g.f_len h he
theorem r_lenS (g : Gx G) (C : Ctx G k X) (h : EvE (mkX X N sc) f ρ e fun R => ∃ z : Str, R = FR.st z ∧ z.length ≤ 10000 ∧ κ (nt z.length)) (hg : gloB sc "len" = true := by decide +kernel) (he : starEach (e :: []) (mkX X N sc).env = (false, eval e (mkX X N sc).env) :: starEach [] (mkX X N sc).env := by rfl) : EvE (mkX X N sc) f ρ (.Call (.Name "len" p) [e] [] pos) κ := ev_lenS C.at (glo_of hg) g.f_len h he
theorem r_all (g : Gx G) (C : Ctx G k X) (h : EvE (mkX X N sc) f ρ e fun R => ∃ bs : List Bool, R = li (bs.map .bool) ∧ κ (bl (bs.all id))) (hg : gloB sc "all" = true := by decide +kernel) (he : starEach (e :: []) (mkX X N sc).env = (false, eval e (mkX X N sc).env) :: starEach [] (mkX X N sc).env := by rfl) : EvE (mkX X N sc) f ρ (.Call (.Name "all" p) [e] [] pos) κ := ev_all C.at (glo_of hg) g.f_all h he
theorem r_any (g : Gx G) (C : Ctx G k X) (h : EvE (mkX X N sc) f ρ e fun R => ∃ bs : List Bool, R = li (bs.map .bool) ∧ κ (bl (bs.any id))) (hg : gloB sc "any" = true := by decide +kernel) (he : starEach (e :: []) (mkX X N sc).env = (false, eval e (mkX X N sc).env) :: starEach [] (mkX X N sc).env := by rfl) : EvE (mkX X N sc) f ρ (.Call (.Name "any" p) [e] [] pos) κ := ev_any C.at (glo_of hg) g.f_any h he
theorem r_list (g : Gx G) (C : Ctx G k X) (h : EvE (mkX X N sc) f ρ e fun R => ∃ ds, (R = li ds ∨ R = tu ds) ∧ κ (li ds)) (hg : gloB sc "list" = true := by decide +kernel) (he : starEach (e :: []) (mkX X N sc).env = (false, eval e (mkX X N sc).env) :: starEach [] (mkX X N sc).env := by rfl) : EvE (mkX X N sc) f ρ (.Call (.Name "list" p) [e] [] pos) κ := ev_list C.at (glo_of hg) g.f_list h he
theorem r_tuple (g : Gx G) (C : Ctx G k X) (h : EvE (mkX X N sc) f ρ e fun R => ∃ ds, (R = li ds ∨ R = tu ds) ∧ κ (tu ds)) (hg : gloB sc "tuple" = true := by decide +kernel) (he : starEach (e :: []) (mkX X N sc).env = (false, eval e (mkX X N sc).env) :: starEach [] (mkX X N sc).env := by rfl) : EvE (mkX X N sc) f ρ (.Call (.Name "tuple" p) [e] [] pos) κ := ev_tuple C.at (glo_of hg) g.f_tuple h he
theorem r_sorted (g : Gx G) (C : Ctx G k X) (h : EvE (mkX X N sc) f ρ e fun R => ∃ (α : Type) (E : Enc α) (xs : List α), Gath G E R xs ∧ SortOk E xs ∧ xs.length ≤ 10000 ∧ κ (li ((srt E xs).map E.enc))) (hg : gloB sc "sorted" = true := by decide +kernel) (he : starEach (e :: []) (mkX X N sc).env = (false, eval e (mkX X N sc).env) :: starEach [] (mkX X N sc).env := by rfl) : EvE (mkX X N sc) f ρ (.Call (.Name "sorted" p) [e] [] pos) κ := ev_sorted C.at (glo_of hg) g.f_sorted h he
theorem r_set (g : Gx G) (C : Ctx G k X) (h : EvE (mkX X N sc) f ρ e fun R => ∃ xs : List Nm, (R = li (xs.map eN.enc) ∨ R = tu (xs.map eN.enc)) ∧ xs.length ≤ 1000 ∧ κ (setR G xs)) (hg : gloB sc "set" = true := by decide +kernel) (he : starEach (e :: []) (mkX X N sc).env = (false, eval e (mkX X N sc).env) :: starEach [] (mkX X N sc).env := by rfl) : EvE (mkX X N sc) f ρ (.Call (.Name "set" p) [e] [] pos) κ := ev_set C.at (glo_of hg) g.f_set h he
theorem r_max (g : Gx G) (C : Ctx G k X) (h : EvE (mkX X N sc) f ρ a fun R => EvE (mkX X N sc) f ρ b fun S => ∃ x y : Int, R = nt x ∧ S = nt y ∧ κ (nt (if y > x then y else x))) (hg : gloB sc "max" = true := by decide +kernel)
    (he : starEach (a :: [b]) (mkX X N sc).env = (false, eval a (mkX X N sc).env) :: starEach [b] (mkX X N sc).env := by rfl) (hb : starEach (b :: []) (mkX X N sc).env = (false, eval b (mkX X N sc).env) :: starEach [] (mkX X N sc).env := by rfl) (hpl : (backTo pos (starEach [b] (mkX X N sc).env)).any (·.1) = false := by rfl) : EvE (mkX X N sc) f ρ (.Call (.Name "max" p) [a, b] [] pos) κ := ev_max C.at (glo_of hg) g.f_max h he hb hpl
theorem r_min (g : Gx G) (C : Ctx G k X) (h : EvE (mkX X N sc) f ρ a fun R => EvE (mkX X N sc) f ρ b fun S => ∃ x y : Int, R = nt x ∧ S = nt y ∧ κ (nt (if y < x then y else x))) (hg : gloB sc "min" = true := by decide +kernel)
    (he : starEach (a :: [b]) (mkX X N sc).env = (false, eval a (mkX X N sc).env) :: starEach [b] (mkX X N sc).env := by rfl) (hb : starEach (b :: []) (mkX X N sc).env = (false, eval b (mkX X N sc).env) :: starEach [] (mkX X N sc).env := by rfl) (hpl : (backTo pos (starEach [b] (mkX X N sc).env)).any (·.1) = false := by rfl) : EvE (mkX X N sc) f ρ (.Call (.Name "min" p) [a, b] [] pos) κ := ev_min C.at (glo_of hg) g.f_min h he hb hpl
theorem r_isS {p2 : Pos} (g : Gx G) (C : Ctx G k X) (h : EvE (mkX X N sc) f ρ e fun R => ∃ d, R = dat d ∧ κ (bl (isStrD d))) (hg : gloB sc "isinstance" = true := by decide +kernel) (hg2 : gloB sc "str" = true := by decide +kernel)
    (he : starEach (e :: [.Name "str" p2]) (mkX X N sc).env = (false, eval e (mkX X N sc).env) :: starEach [.Name "str" p2] (mkX X N sc).env := by rfl) : EvE (mkX X N sc) f ρ (.Call (.Name "isinstance" p) [e, .Name "str" p2] [] pos) κ := ev_isi C.at (T := "str") (T' := "str") (.inl rfl) (glo_of hg) g.f_isinstance (glo_of hg2) g.f_str (by decide +kernel) (ev_imp h fun R ⟨d, e, hk⟩ => ⟨d, e, by rw [if_pos rfl]; exact hk⟩) (he := he)
theorem r_isT {p2 : Pos} (g : Gx G) (C : Ctx G k X) (h : EvE (mkX X N sc) f ρ e fun R => ∃ d, R = dat d ∧ κ (bl (isTupD d))) (hg : gloB sc "isinstance" = true := by decide +kernel) (hg2 : gloB sc "tuple" = true := by decide +kernel)
    (he : starEach (e :: [.Name "tuple" p2]) (mkX X N sc).env = (false, eval e (mkX X N sc).env) :: starEach [.Name "tuple" p2] (mkX X N sc).env := by rfl) : EvE (mkX X N sc) f ρ (.Call (.Name "isinstance" p) [e, .Name "tuple" p2] [] pos) κ := ev_isi C.at (T := "tuple") (T' := "tuple") (.inr rfl) (glo_of hg) g.f_isinstance (glo_of hg2) g.f_tuple (by decide +kernel) (ev_imp h fun R ⟨d, e, hk⟩ => ⟨d, e, by rw [if_neg (by decide)]; exact hk⟩) (he := he)
theorem r_zip {elts : List Expr} {kk : Nat} {tpos : Pos} {κ : List D → Prop} (g : Gx G) (C : Ctx G k X) (h : EvE (mkX X N sc) f ρ a fun R => EvE (mkX X N sc) f ρ b fun S => ∃ dx dy, ((R = li dx ∧ S = li dy) ∨ (R = tu dx ∧ S = tu dy)) ∧ κ (zipD dx dy)) (hg : gloB sc "zip" = true := by decide +kernel)
    (hs : starEach [a, b] (mkX X N sc).env = (false, eval a (mkX X N sc).env) :: starEach [b] (mkX X N sc).env := by rfl) (hs2 : starEach [b] (mkX X N sc).env = (false, eval b (mkX X N sc).env) :: starEach [] (mkX X N sc).env := by rfl) (hpl : (backTo pos (starEach [b] (mkX X N sc).env)).any (·.1) = false := by rfl) :
    EvIt (mkX X N sc) f ρ (.Tuple elts kk tpos) (.Call (.Name "zip" p) [a, b] [] pos) κ := it_zip C.at (glo_of hg) g.f_zip h hs hs2 hpl
theorem r_range1 {tg : Expr} {κ : List D → Prop} (g : Gx G) (C : Ctx G k X) (h : EvE (mkX X N sc) f ρ a fun R => ∃ n : Nat, R = nt n ∧ n ≤ 10000 ∧ κ (rng 0 n)) (hg : gloB sc "range" = true := by decide +kernel) (hs : starEach [a] (mkX X N sc).env = [(false, eval a (mkX X N sc).env)] := by rfl) : EvIt (mkX X N sc) f ρ tg (.Call (.Name "range" p) [a] [] pos) κ := it_range1 C.at (glo_of hg) g.f_range h hs
theorem r_range2 {tg : Expr} {κ : List D → Prop} (g : Gx G) (C : Ctx G k X) (h : EvE (mkX X N sc) f ρ a fun R => EvE (mkX X N sc) f ρ b fun S => ∃ i j : Nat, R = nt i ∧ S = nt j ∧ i ≤ 10000 ∧ j ≤ 10000 ∧ κ (rng i (j - i))) (hg : gloB sc "range" = true := by decide +kernel) (hs : starEach [a, b] (mkX X N sc).env = [(false, eval a (mkX X N sc).env), (false, eval b (mkX X N sc).env)] := by rfl) (hs2 : starEach [b] (mkX X N sc).env = [(false, eval b (mkX X N sc).env)] := by rfl) : EvIt (mkX X N sc) f ρ tg (.Call (.Name "range" p) [a, b] [] pos) κ := it_range2 C.at (glo_of hg) g.f_range h hs hs2
/-- a call of a def of the text, of a lower level -/
theorem r_call {j : Nat} {T : Tp} {ps : List Str} {name : Str} (P : Prom G name j ps (SpF T)) (C : Ctx G k X) (h : EvA (mkX X N sc) f ρ (e :: es) fun Rs => T Rs κ) (hj : j ≤ k := by decide) (hg : gloB sc name = true := by decide +kernel)
    (hdb : (name == ("__debug__" : Str)) = false := by decide +kernel) (he : starEach (e :: es) (mkX X N sc).env = (false, eval e (mkX X N sc).env) :: starEach es (mkX X N sc).env := by rfl) (hpl : (backTo pos (starEach es (mkX X N sc).env)).any (·.1) = false := by rfl) :
    EvE (mkX X N sc) f ρ (.Call (.Name name p) (e :: es) [] pos) κ := ev_call (P.mono hj) C.at (glo_of hg) h hdb he hpl
theorem r_lc {scope : Scope} (own : List (Str × Nat)) {tg iter elt : Expr} {ifs : List Expr} (C : Ctx G k X)
    (h : EvIt (mkX X N sc) f ρ tg iter (LcOk G k f ρ N sc scope (own.map (·.2)) tg elt ifs κ)) (hN : N.Nodup := by decide +kernel) (hB : blkC N sc scope own = true := by decide +kernel) (hs : ∀ x, foldedSetIterable iter (mkX X N sc).env x = pure x := by intro _; rfl) : EvE (mkX X N sc) f ρ (.ListComp elt [⟨tg, iter, ifs, 0⟩] scope pos) κ := ev_lc own C hN hB h hs
theorem ea2 {κ : List Rp → Prop} (h : EvE X f ρ a fun R => EvE X f ρ b fun S => κ [R, S]) (h1 : starEach [a, b] X.env = (false, eval a X.env) :: starEach [b] X.env := by rfl) (h2 : starEach [b] X.env = (false, eval b X.env) :: starEach [] X.env := by rfl) : EvA X f ρ [a, b] κ :=
  ea_cons (ev_imp h fun R hR => ea_cons (ev_imp hR fun S hS => ea_nil hS) h2) h1
theorem ea3 {κ : List Rp → Prop} (h : EvE X f ρ a fun R => EvE X f ρ b fun S => EvE X f ρ c fun T => κ [R, S, T]) (h0 : starEach [a, b, c] X.env = (false, eval a X.env) :: starEach [b, c] X.env := by rfl) (h1 : starEach [b, c] X.env = (false, eval b X.env) :: starEach [c] X.env := by rfl) (h2 : starEach [c] X.env = (false, eval c X.env) :: starEach [] X.env := by rfl) : EvA X f ρ [a, b, c] κ :=
  ea_cons (ev_imp h fun R hR => ea2 hR h1 h2) h0
/-- x[1], x a tuple, the index written -/
theorem ixc {i : Int} {j : Nat} {p2 : Pos} {ds : List D} (d : D) (h : EvE X f ρ a fun R => R = tu ds ∧ κ (dat d)) (ha : atI ds i = some d := by rfl) (hs : PlainIx (.Constant (.int i) j p2) := by intro _ _; rfl) : EvE X f ρ (.Subscript a (.Constant (.int i) j p2) pos) κ :=
  ev_ixT hs (ev_imp h fun R ⟨e, hk⟩ => ev_int ⟨_, _, d, e, rfl, ha, hk⟩)
/-- x[1:], x a tuple -/
theorem slc {i : Nat} {j : Nat} {p1 p2 : Pos} (h : EvE X f ρ a fun R => ∃ ds, R = tu ds ∧ κ (tu (ds.drop i))) : EvE X f ρ (.Subscript a (.Slice (some (.Constant (.int (i : Nat)) j p1)) none none p2) pos) κ :=
  ev_slT (ev_imp h fun R ⟨ds, e, hk⟩ => eo_some (ev_int ⟨_, rfl, eo_none ⟨ds, e, by rw [cutD_from]; exact hk⟩⟩))
theorem slcL {i : Nat} {j : Nat} {p1 p2 : Pos} (h : EvE X f ρ a fun R => ∃ ds, R = li ds ∧ κ (li (ds.drop i))) : EvE X f ρ (.Subscript a (.Slice (some (.Constant (.int (i : Nat)) j p1)) none none p2) pos) κ :=
  ev_slL (ev_imp h fun R ⟨ds, e, hk⟩ => eo_some (ev_int ⟨_, rfl, eo_none ⟨ds, e, by rw [cutD_from]; exact hk⟩⟩))
/-- a sign in a text -/
theorem ec_inS {κ : Rp → Prop} (h : EvE X f ρ a fun R => EvE X f ρ b fun S => ∃ (c : Nat) (z : Str), R = FR.st ⟨#[c]⟩ ∧ S = FR.st z ∧ κ (bl (decide (c ∈ z.cps.toList)))) : EvC X f ρ .In a b κ :=
  ec_two op_in_sign (ev_imp h fun R hh => ev_imp hh fun S ⟨c, z, e1, e2, hk⟩ => by
    subst e1 e2
    intro F M u v d hu hv va Q hQ
    cases hu
    cases hv
    exact ⟨c, z, rfl, rfl, hQ _ _ F hk (Dq.bl _) (Same.refl F) d⟩)
/-! ### statements, names looked up -/
theorem w_setLc {scope : Scope} (i : Nat) {y : Str} {py spos : Pos} (own : List (Str × Nat)) {tg iter elt : Expr} {ifs : List Expr} (C : Ctx G k X)
    (h : EvIt (mkX X N sc) f ρ tg iter (LcOk G k f ρ N sc scope (own.map (·.2)) tg elt ifs fun R => Φ.nx (ρ.set i (some (.fz R))))) (hN : N.Nodup := by decide +kernel) (hy : N[i]? = some y := by rfl) (hyl : sc.names.lookup y = some .local := by decide +kernel)
    (hsw : swapsWith (.ListComp elt [⟨tg, iter, ifs, 0⟩] scope pos) (some (.Name y py)) spos.line (mkX X N sc).env = pure true := by rfl) (hB : blkC N sc scope own = true := by decide +kernel) (hs : ∀ x, foldedSetIterable iter (mkX X N sc).env x = pure x := by intro _; rfl) :
    WS (mkX X N sc) f ρ (.Assign [.Name y py] (.ListComp elt [⟨tg, iter, ifs, 0⟩] scope pos) spos) Φ := ws_setLc i own C hN hy hyl hsw hB h hs
theorem w_set {x : Str} {pos' : Pos} (i : Nat) (h : EvE (mkX X N sc) f ρ e fun R => Φ.nx (ρ.set i (some (.fz R)))) (hN : N.Nodup := by decide +kernel) (hi : N[i]? = some x := by rfl) (hx : locB sc x = true := by decide +kernel) (hs : swapsWith e (some (.Name x pos')) pos.line (mkX X N sc).env = pure false := by rfl)
    (hf : sc.names.lookup x = some .local := by decide +kernel) : WS (mkX X N sc) f ρ (.Assign [.Name x pos'] e pos) Φ := ws_set i hN hi (loc_of hx) (ex_of h) hs (.inr hf)
/-- a name that a block reads, too -/
theorem w_setC {x : Str} {pos' : Pos} (i : Nat) (hfn : ∀ x, X.fn x = true) (h : EvE (mkX X N sc) f ρ e fun R => Φ.nx (ρ.set i (some (.fz R)))) (hN : N.Nodup := by decide +kernel) (hi : N[i]? = some x := by rfl) (hx : locB sc x = true := by decide +kernel) (hs : swapsWith e (some (.Name x pos')) pos.line (mkX X N sc).env = pure false := by rfl) :
    WS (mkX X N sc) f ρ (.Assign [.Name x pos'] e pos) Φ := ws_set i hN hi (loc_of hx) (ex_of h) hs (.inl (hfn x))
theorem w_setCX {x : Str} {pos' : Pos} (i : Nat) (hfn : ∀ x, X.fn x = true) (h : EvX (mkX X N sc) f ρ e fun en => Φ.nx (ρ.set i (some en))) (hN : N.Nodup := by decide +kernel) (hi : N[i]? = some x := by rfl) (hx : locB sc x = true := by decide +kernel) (hs : swapsWith e (some (.Name x pos')) pos.line (mkX X N sc).env = pure false := by rfl) :
    WS (mkX X N sc) f ρ (.Assign [.Name x pos'] e pos) Φ := ws_set i hN hi (loc_of hx) h hs (.inl (hfn x))
theorem tnC {x : Str} {js : List Nat} {R : Rp} {κ : Env → Prop} (i : Nat) (hfn : ∀ x, X.fn x = true) (hN : N.Nodup) (k : κ (ρ.set i (some (.fz R)))) (hi : N[i]? = some x := by rfl) (hx : locB sc x = true := by decide +kernel) (hj : i ∈ js := by decide) :
    AsT (mkX X N sc) f ρ (.Name x pos) R js κ := at_name i hN hi (loc_of hx) hj k (.inl (hfn x))
/-- with a thing of one's own -/
theorem w_setX {x : Str} {pos' : Pos} (i : Nat) (h : EvX (mkX X N sc) f ρ e fun en => Φ.nx (ρ.set i (some en))) (hN : N.Nodup := by decide +kernel) (hi : N[i]? = some x := by rfl) (hx : locB sc x = true := by decide +kernel) (hs : swapsWith e (some (.Name x pos')) pos.line (mkX X N sc).env = pure false := by rfl)
    (hf : sc.names.lookup x = some .local := by decide +kernel) : WS (mkX X N sc) f ρ (.Assign [.Name x pos'] e pos) Φ := ws_set i hN hi (loc_of hx) h hs (.inr hf)
theorem w_par {x y : Str} {px py pt : Pos} {kt k2 pt2} (i j : Nat) (C : Ctx G k X) (h : EvX (mkX X N sc) f ρ a fun e1 => EvX (mkX X N sc) f ρ b fun e2 => Φ.nx ((ρ.set i (some e1)).set j (some e2))) (hN : N.Nodup := by decide +kernel) (hi : N[i]? = some x := by rfl) (hj : N[j]? = some y := by rfl) (hij : i ≠ j := by decide)
    (hx : sc.names.lookup x = some .local := by decide +kernel) (hy : sc.names.lookup y = some .local := by decide +kernel)
    (hw : swappedStores [.Tuple [.Name x px, .Name y py] kt pt] (.Tuple [a, b] k2 pt2) (mkX X N sc).env = pure (some [x, y]) := by rfl)
    (ha : starEach (a :: [b]) (mkX X N sc).env = (false, eval a (mkX X N sc).env) :: starEach [b] (mkX X N sc).env := by rfl) (hb : starEach (b :: []) (mkX X N sc).env = (false, eval b (mkX X N sc).env) :: starEach [] (mkX X N sc).env := by rfl) :
    WS (mkX X N sc) f ρ (.Assign [.Tuple [.Name x px, .Name y py] kt pt] (.Tuple [a, b] k2 pt2) pos) Φ := ws_par i j C.at.calm hN hi hj hij hx hy h hw ha hb
end
end FR
set_option Elab.async false
set_option linter.all false
set_option maxRecDepth 100000
set_option maxHeartbeats 2000000
namespace FR
open PySem PySem.Spec PyProof.Rows L2
/-! ### tuple(d), d a dict -/
section
variable {prog : Program} {w : World} {A : Around} {E : Value → Shared → Prop} {s : Shared}
theorem code_tuple_newD {r : Addr} {Q₁ : Value → Shared → Prop} (hT : s.TypeIs (.ref r) "dict")
    (h : wpAny (model prog w) A.in1 (collect (.ref r)) (fun acc s' => acc.length ≤ sizeLine ∧ Q₁ (.ref s'.heap.objs.size) { s' with heap := s'.heap.push { cls := .type "tuple", data := .seq acc.toArray } }) E s) :
    codeAny (model prog w) A (.call (.builtin "tuple.__new__") ⟨[.type "tuple", .ref r], []⟩) (wants Q₁ E) s := by
  refine codeAny_of_tree ?_
  show wpAny _ A.in1 (do checkBuiltinCall "tuple.__new__" ⟨[.type "tuple", .ref r], []⟩; again (.builtin "tuple.__new__" ⟨[.type "tuple", .ref r], []⟩)) _ _ s
  refine wpAny_bind (wpAny_of_eq (PySem.F.newCall_tuple_1 _) (wpAny_pure ⟨plainId_quiet PySem.F.plain_tuple_new _, codeAny_builtin PySem.F.entry_tuple_new ?_⟩))
  rw [Around.under_plainId PySem.F.plain_tuple_new _]
  have hsub := sub_tuple_self
  have hinit := init_tuple_lookup
  have hmh := madeHere_tuple
  have hcl : ∀ {R : List Value → Shared → Prop}, (∀ acc s', (acc.length ≤ sizeLine ∧ Q₁ (.ref s'.heap.objs.size) { s' with heap := s'.heap.push { cls := .type "tuple", data := .seq acc.toArray } }) → R acc s') → wpAny (model prog w) A.in1 (collect (.ref r)) R E s :=
    fun hR => wpAny_mono h (fun acc s' q => hR acc s' q) (fun _ _ x => x)
  wp_walk using wpAny_typeOf hT, hcl
  intro acc s' q
  show wpAny _ _ (Builtin.Tuple.tupleExact acc.toArray >>= fun v => ret v) _ _ _
  unfold Builtin.Tuple.tupleExact
  refine wpAny_bind (wpAny_newObj_type ?_ (by show acc.toArray.size ≤ sizeLine; rw [List.size_toArray]; exact q.1))
  exact wpAny_pure q.2
theorem call_tuple_D {r : Addr} {Q : Value → Shared → Prop} (hT : s.TypeIs (.ref r) "dict")
    (h : wpAny (model prog w) A.in1.in1 (collect (.ref r)) (fun acc s' => acc.length ≤ sizeLine ∧ Q (.ref s'.heap.objs.size) { s' with heap := s'.heap.push { cls := .type "tuple", data := .seq acc.toArray } }) E s) :
    wpAny (model prog w) A (call (.type "tuple") [.ref r]) Q E s := by
  refine callType_codes (Q₁ := fun obj s₁ => s₁.TypeIs obj "tuple" ∧ Q obj s₁) PySem.F.called_tuple (PySem.F.typeCall_tuple_1 _) PySem.F.entry_object_init
    (code_tuple_newD (A := A.in1) hT (wpAny_mono h (fun acc s' q => ⟨q.1, ⟨_, Heap.get?_push_size _ rfl, rfl⟩, q.2⟩) fun _ _ x => x)) fun obj s₁ h₁ => ?_
  exact ⟨h₁.1, PySem.F.args_object_init_2 obj _, object_init_meets PySem.F.called_tuple.init.lookup PySem.F.called_tuple.made (by decide) prog w A.in1 _ s₁ ⟨h₁.1, rfl, h₁.2⟩⟩
end
section
variable {X : Cx} {f : Fx} {ρ : Env} {e a b c : Expr} {es : List Expr} {s : Stmt} {ss : List Stmt} {κ : Rp → Prop} {Φ : Post} {pos p : Pos} {G : Gb} {k : Nat} {N : List Str} {sc : Scope}
def rTupD (X : Cx) : List V → Hp → VK → Prop := fun vs H Q => ∃ (d : Addr) (P : List V → Prop), vs = [.ref d] ∧ (∃ kvs, Rd H d (.dT kvs)) ∧ ColR X (.ref d) H P ∧ ∀ xs, P xs → xs.length ≤ sizeLine ∧ ∀ p, H p = none → Q (.ref p) (L2.upd H p (.tup xs))
theorem cr_tupD (hc : X.calm = true) : CallR X (.type "tuple") (rTupD X) := by
  intro pins s σ H vs us Q I r h
  obtain ⟨d, P, rfl, ⟨kvs, hr⟩, hcol, hP⟩ := h
  obtain ⟨u, rfl, rx⟩ := r.one
  have rx' := rx
  cases rx
  obtain ⟨z, hs, ks, pr, o, es, ep, ho, hx, hdt, he, hn⟩ := (show ObjOk X.prog X.w H s.heap d (.dT kvs) from hr.ok I.hok)
  refine call_tuple_D ⟨o, ho, hx.1⟩ (hcol pins s σ _ I rx' _ _ _ (I.ok.hd hc) fun s' acc xs hk hg hos hPx hv => ?_)
  obtain ⟨hl, q⟩ := hP xs hPx
  have I1 : Inv X pins σ H s' := I.call' (ch := []) hos (Un.kept hk) (I.hok.kept hk) (by rw [hg]; exact I.bare) (fun _ z => nomatch z)
  refine ⟨by rw [← hv.length]; exact hl, .ref s'.heap.objs.size, L2.upd H s'.heap.objs.size (.tup xs), I1.laid (t' := s'.toks) (fun c o e => Heap.get?_push_of_some _ e) (Nat.le_refl _) (show ObjOk X.prog X.w _ _ _ (.tup xs) from ⟨hl, acc, hv, IsTup.new _ _⟩), rfl, q _ (I1.hok.fresh (Nat.le_refl _))⟩
theorem keys_dqa {F M : Hp} (d : Dis F M) : ∀ {xs : List (List Key × V)} {bs : List Addr} {kvs : List (Pr × D)}, IsKeys (ovl F M) xs bs → KvR pk F xs kvs → DqA F (bs.map V.ref) (kvs.map fun q => eR.enc q.1)
  | _, _, _, .nil, .nil => .nil
  | _, _, _, .cons h t, .cons h' t' => .cons (eR_of (tup_F d (by rw [← h'.1]; exact h))) (keys_dqa d t t')
theorem r_tupD (g : Gx G) (C : Ctx G k X) (h : EvE (mkX X N sc) f ρ e fun R => ∃ kvs : List (Pr × D), (R = dTR kvs ∨ R = dTL kvs) ∧ kvs.length ≤ 10000 ∧ κ (tu (kvs.map fun q => eR.enc q.1))) (hg : gloB sc "tuple" = true := by decide +kernel) (he : starEach (e :: []) (mkX X N sc).env = (false, eval e (mkX X N sc).env) :: starEach [] (mkX X N sc).env := by rfl) :
    EvE (mkX X N sc) f ρ (.Call (.Name "tuple" p) [e] [] pos) κ :=
  ev_callTy C.at (cr_tupD C.at.calm) (glo_of hg) g.f_tuple (by decide +kernel) (ea_one (ev_imp h fun R ⟨kvs, hR, hL, hk⟩ => fun F M vs d hvs va Q hQ => by
    obtain ⟨v, rfl, hv⟩ := rpa1 hvs
    have key : ∃ a xs, v = .ref a ∧ Rd F a (.dT xs) := by
      rcases hR with rfl | rfl
      · obtain ⟨a, od, xs, e, h1, r⟩ := hv; exact ⟨a, xs, e, .inr ⟨od, h1⟩⟩
      · obtain ⟨a, xs, e, h1, r⟩ := hv; exact ⟨a, xs, e, h1⟩
    obtain ⟨a, xs, rfl, hr⟩ := key
    -- in the dict's own order
    have key2 : ∃ xs, Rd F a (.dT xs) ∧ KvR pk F xs kvs := by
      rcases hR with rfl | rfl
      · obtain ⟨a', od, xs, e, h1, r⟩ := hv
        cases e
        exact ⟨xs, .inr ⟨od, h1⟩, r⟩
      · obtain ⟨a', xs, e, h1, r⟩ := hv
        cases e
        exact ⟨xs, h1, r⟩
    obtain ⟨xs, hr, r⟩ := key2
    refine ⟨a, _, rfl, ⟨xs, rd_ovl hr⟩, colr_dT (rd_ovl hr), fun ys ⟨bs, e, hb⟩ => ?_⟩
    subst e
    have hq : DqA F (bs.map V.ref) (kvs.map fun q => eR.enc q.1) := keys_dqa d hb r
    refine ⟨by rw [hq.length, List.length_map]; exact le_sz hL, fun p hp => ?_⟩
    exact new_of (Q := fun H => Q (.ref p) H) d hp fun F4 _ k4 d4 e4 => hQ _ _ F4 hk (Dq.tup e4 (hq.mono k4)) k4 d4) he) (he := he) (hpl := by rfl)
/-! ### objects -/
/-- an object with these fields, at rest -/
def objR (G : Gb) (l : List (Str × Rp)) : Rp := ⟨fun v F => ∃ a C dx fs, v = .ref a ∧ F a = some (.ins C dx fs) ∧ Cls G.K C ∧ ∀ p ∈ l, NoAttr G.K C p.1 ∧ ∃ w, fs.lookup p.1 = some w ∧ p.2.p w F,
  fun _ _ _ k ⟨a, C, dx, fs, e, h, c, r⟩ => ⟨a, C, dx, fs, e, k _ _ h, c, fun p hp => let ⟨n, w, h1, h2⟩ := r p hp; ⟨n, w, h1, p.2.mono _ _ _ k h2⟩⟩⟩
theorem ev_fld (C : Ctx G k X) {fl : Str} (h : EvE (mkX X N sc) f ρ e fun R => ∃ l S, R = objR G l ∧ (fl, S) ∈ l ∧ κ S) (hb : attributeBase e fl (mkX X N sc).env (eval e (mkX X N sc).env) = eval e (mkX X N sc).env := by rfl) : EvE (mkX X N sc) f ρ (.Attribute e fl pos) κ := fun F M σ d E Q hQ => by
  refine wpE_of (pe_fld pe_wp hb) ?_
  refine h F M σ d E _ fun v R F1 M1 hk hv k1 d1 s1 => ?_
  obtain ⟨l, S, rfl, hl, hk⟩ := hk
  obtain ⟨a, Cc, dx, fs, rfl, ha, hc, r⟩ := hv
  obtain ⟨n, w, h1, h2⟩ := r _ hl
  have eK : (mkX X N sc).K = G.K := C.K
  exact ⟨a, Cc, dx, fs, w, rfl, ovl_F ha, by rw [eK]; exact hc, by rw [eK]; exact n, h1, hQ w S F1 M1 hk h2 k1 d1 s1⟩
/-! ### a choice that gives a thing of one's own -/
theorem ex_if {κ : Ent → Prop} (h : EvT X f ρ c fun k => (k = true → EvX X f ρ a κ) ∧ (k = false → EvX X f ρ b κ)) : EvX X f ρ (.IfExp c a b pos) κ := fun F M σ d E Q hQ => by
  refine wpE_of (pe_ifExp pt_wp pe_wp pe_wp) ?_
  refine h F M σ d E _ fun k F1 M1 hk k1 d1 s1 => ?_
  have back : ∀ {P : Op} {a : Addr} {x : HO}, M a = some x → f.U ≠ some a → M1 a = none → False := fun hx hn hz => by
    have := s1.1 _ _ hn hx
    rw [hz] at this; cases this
  have fin : ∀ v E' F' M', κ E' → E'.ok f F' M' v → Same F1 F' → Dis F' M' → f.step M1 M' → (∀ P a, E' = .ow P → v = .ref a → M1 a = none) → Q v (ovl F' M') := fun v E' F' M' hk ho k2 d2 s2 hn => by
    refine hQ v E' F' M' hk ho (k1.trans k2) d2 (stepT s1 s2) fun P a e1 e2 => ?_
    have n1 := hn P a e1 e2
    cases hz : M a with
    | none => rfl
    | some x =>
      have nU : f.U ≠ some a := by
        subst e1
        obtain ⟨a', o, e3, _, _, _, h6⟩ := ho
        rw [e2] at e3
        cases e3
        exact h6
      exact (back (P := P) hz nU n1).elim
  cases k with
  | true => exact iteT (hk.1 rfl F1 M1 σ d1 (E.step k1 s1) Q fin)
  | false => exact iteF (hk.2 rfl F1 M1 σ d1 (E.step k1 s1) Q fin)
theorem ea_dats (ds : List D) : ∀ {es : List Expr} {κ : List Rp → Prop}, EvA X f ρ es κ → EvA X f ρ es κ := fun h => h
/-- x[1:3], x a tuple -/
theorem slc2 {i n : Nat} {j j2 : Nat} {p1 p2 p3 : Pos} (h : EvE X f ρ a fun R => ∃ ds, R = tu ds ∧ n ≤ ds.length ∧ i ≤ n ∧ κ (tu ((ds.drop i).take (n - i)))) : EvE X f ρ (.Subscript a (.Slice (some (.Constant (.int (i : Nat)) j p1)) (some (.Constant (.int (n : Nat)) j2 p3)) none p2) pos) κ :=
  ev_slT (ev_imp h fun R ⟨ds, e, h1, h2, hk⟩ => eo_some (ev_int ⟨_, rfl, eo_some (ev_int ⟨_, rfl, ds, e, by rw [cutD_mid _ _ _ h1 h2]; exact hk⟩)⟩))
/-- for, slots looked up -/
theorem w_for {S : Type} (J : Nat → S → Prop) (env : S → Env) (js : List Nat) {tg iter : Expr} {body : List Stmt} (C : Ctx G k X)
    (h : EvIt (mkX X N sc) f ρ tg iter fun ds => (∃ s0, J 0 s0 ∧ Env.le ρ (env s0)) ∧ (∀ i s d, ds[i]? = some d → i < sizeLine → J i s → AsT (mkX X N sc) f (env s) tg (dat d) js fun ρ1 => WSs (mkX X N sc) f ρ1 body { nx := fun ρ2 => ∃ s', J (i + 1) s' ∧ Env.le ρ2 (env s'), ct := fun ρ2 => ∃ s', J (i + 1) s' ∧ Env.le ρ2 (env s'), bk := Φ.nx, rt := Φ.rt }) ∧ ∀ s, J ds.length s → Φ.nx (env s))
    (hs : ∀ x, foldedSetIterable iter (mkX X N sc).env x = pure x := by intro _; rfl) : WS (mkX X N sc) f ρ (.For tg iter body [] pos) Φ := ws_for J env C.at h hs
theorem at_map {α : Type} {en : α → D} {xs : List α} {i : Nat} {d : D} (h : (xs.map en)[i]? = some d) : ∃ x, xs[i]? = some x ∧ d = en x := by
  rw [List.getElem?_map] at h
  cases e : xs[i]? with
  | none => rw [e] at h; cases h
  | some x => rw [e] at h; exact ⟨x, rfl, (Option.some.inj h).symm⟩
theorem take_more {α : Type} {xs : List α} {i : Nat} {x : α} (h : xs[i]? = some x) : xs.take (i + 1) = xs.take i ++ [x] := by rw [List.take_add_one, h]; rfl
end
end FR
set_option Elab.async false
set_option linter.all false
set_option maxRecDepth 100000
set_option maxHeartbeats 2000000
namespace FR
open PySem PySem.Spec PyProof.Rows L2
/-! ### t += u -/
theorem no_tuple_iadd : typeLookup (.type "tuple") (dunderI "add") = pure none := by rw [typeLookup_type, builtinLookup_eq_fast]; kernel_rfl
section
variable {prog : Program} {w : World} {A : Around} {E : Value → Shared → Prop} {s : Shared}
theorem icat_tup {t b : Addr} {vs ws : List Value} {Q : Value → Shared → Prop} (ht : IsTup s.heap t vs.toArray) (hb : IsTup s.heap b ws.toArray)
    (h0 : vs = [] → Q (.ref b) s) (h1 : vs ≠ [] → ws = [] → Q (.ref t) s) (h2 : vs ≠ [] → ws ≠ [] → Q (.ref s.heap.objs.size) { s with heap := s.heap.push { cls := .type "tuple", data := .seq (vs ++ ws).toArray } })
    (hsz : vs.length + ws.length ≤ sizeLine) : wpAny (model prog w) A (inplaceOp .Add (.ref t) (.ref b)) Q E s := by
  obtain ⟨⟨cls, dd, data, sl⟩, ho, hc, n, hd⟩ := id ht
  obtain ⟨⟨cls2, dd2, data2, sl2⟩, ho2, hc2, n2, hd2⟩ := id hb
  simp only at hc hd hc2 hd2
  subst hc hd hc2 hd2
  have e : vs.toArray ++ ws.toArray = (vs ++ ws).toArray := by simp
  refine wpAny_inplaceOp_concat ⟨_, ho, rfl⟩ ⟨_, ho2, rfl⟩ no_tuple_iadd noFill_tuple_add seq_tuple_add ?_
  by_cases hv : vs = []
  · exact call_meets PySem.F.slot_tuple_add ⟨_, ho, rfl⟩ PySem.F.entry_tuple_add (PySem.F.args_tuple_add_2 _ _) (tuple_addW0 t b vs.toArray ws.toArray n n2 dd dd2 sl sl2 (by simp [hv])) ⟨ho, ho2, h0 hv⟩
  · by_cases hw : ws = []
    · exact call_meets PySem.F.slot_tuple_add ⟨_, ho, rfl⟩ PySem.F.entry_tuple_add (PySem.F.args_tuple_add_2 _ _) (tuple_addW1 t b vs.toArray ws.toArray n n2 dd dd2 sl sl2 (by simpa using hv) (by simp [hw])) ⟨ho, ho2, h1 hv hw⟩
    · refine call_meets PySem.F.slot_tuple_add ⟨_, ho, rfl⟩ PySem.F.entry_tuple_add (PySem.F.args_tuple_add_2 _ _) (tuple_addW2 t b vs.toArray ws.toArray n n2 dd dd2 sl sl2 (by simpa using hv) (by simpa using hw) (by rw [List.size_toArray, List.size_toArray]; exact hsz)) ⟨ho, ho2, ?_⟩
      rw [e]
      exact h2 hv hw
end
section
variable {X : Cx} {f : Fx} {ρ : Env} {e a b c : Expr} {es : List Expr} {s : Stmt} {ss : List Stmt} {κ : Rp → Prop} {Φ : Post} {pos p : Pos} {G : Gb} {k : Nat} {N : List Str} {sc : Scope}
theorem ip_catA : PIp X .Add (rCatA X.K) := by
  intro pins s σ H x y v u Q I rx ry h
  obtain ⟨a, b, xs, ys, rfl, rfl, ha, hb, hz, q0, q1, q2⟩ := h
  cases rx
  cases ry
  obtain ⟨its, r1, p1, _⟩ := I.tuple ha
  obtain ⟨its2, r2, p2, _⟩ := I.tuple hb
  refine icat_tup p1 p2 (fun z => ⟨.ref b, H, I, rfl, q0 (r1.nil_iff.mp z)⟩) (fun z w => ⟨.ref a, H, I, rfl, q1 (fun e => z (r1.nil_iff.mpr e)) (r2.nil_iff.mp w)⟩) (fun z w => ?_) (by rw [← r1.length, ← r2.length]; exact hz)
  refine ⟨.ref s.heap.objs.size, _, I.laid (t' := s.toks) (o := .tup (xs ++ ys)) (fun b ob q => Heap.get?_push_of_some _ q) (Nat.le_refl _) ?_, rfl, q2 (fun e => z (r1.nil_iff.mpr e)) (fun e => w (r2.nil_iff.mpr e)) _ (I.hok.fresh (Nat.le_refl _))⟩
  exact ⟨by rw [List.length_append]; exact hz, _, r1.append r2, IsTup.new _ _⟩
/-- x += e, tuples -/
theorem w_augT {x : Str} {pos' : Pos} {xs : List D} (i : Nat) (h : EvE (mkX X N sc) f ρ e fun S => ∃ ys, S = tu ys ∧ xs.length + ys.length ≤ 10000 ∧ Φ.nx (ρ.set i (some (.fz (tu (xs ++ ys)))))) (hr : ρ[i]? = some (some (.fz (tu xs))) := by rfl) (hN : N.Nodup := by decide +kernel) (hi : N[i]? = some x := by rfl) (hx : sc.names.lookup x = some .local := by decide +kernel) :
    WS (mkX X N sc) f ρ (.AugAssign (.Name x pos') .Add e pos) Φ := fun F M σ d E D A => by
  refine wpS_of (ps_aug (X := mkX X N sc) hN hi (.inl hx) pe_wp ip_catA (.inr hx)) ?_
  obtain ⟨v, hσ, hv⟩ := E.ent i _ hr
  refine ⟨v, hσ, ?_⟩
  refine h F M σ d E _ fun w S F1 M1 hk hw k1 d1 s1 => ?_
  obtain ⟨ys, rfl, hl, hk⟩ := hk
  have hv := Rp.mono _ _ _ _ k1 hv
  have fin : ∀ v F2, Same F1 F2 → Dis F2 M1 → Dq F2 v (.tuple (xs ++ ys)) → D.nx (σ.set i (some v)) (ovl F2 M1) := fun v F2 k2 d2 hq => A.nx _ _ F2 M1 hk (k1.trans k2) d2 (((E.step k1 s1).mono k2).setR hq)
  cases hv with
  | @tup a us _ ha hx =>
    cases hw with
    | @tup b ws _ hb hy =>
      have hcat := hx.append hy
      refine ⟨a, b, us, ws, rfl, rfl, SqT.of (ovl_F ha), SqT.of (ovl_F hb), by rw [hx.length, hy.length]; exact le_sz hl, fun z => ?_, fun _ z => ?_, fun _ _ p hp => ?_⟩
      · subst z
        exact fin _ F1 (Same.refl _) d1 (Dq.tup (by simpa using hb) (by simpa using hcat))
      · subst z
        exact fin _ F1 (Same.refl _) d1 (Dq.tup (by simpa using ha) (by simpa using hcat))
      · exact new_of (Q := fun H => D.nx (σ.set i (some (.ref p))) H) d1 hp fun F2 _ k2 d2 e2 => fin _ F2 k2 d2 (Dq.tup e2 (hcat.mono k2))
/-! ### {k: v} -/
theorem ev_disp1 (h : EvE X f ρ a fun R => EvE X f ρ b fun S => ∃ (x : Nm) (d : D), R = dat (eN.enc x) ∧ S = dat d ∧ κ (dKL nmK [(x, d)])) : EvE X f ρ (.Dict [some a] [b] pos) κ := fun F M σ d E Q hQ => by
  refine wpE_of (pe_disp (pps_cons pe_wp pe_wp pps_nil) rfl rfl (by simp) (by simp)) ?_
  intro p hp
  obtain ⟨hF, hM⟩ := ovl_none hp
  have nU : f.U ≠ some p := fun z => by
    obtain ⟨_, o', e, _⟩ := E.urn p z
    rw [hM] at e; cases e
  rw [upd_ovlM hF]
  have s0 : f.step M (L2.upd M p (.dK [])) := ⟨fun a o _ z => same_updN hM a o z, fun u hu => by
    obtain ⟨_, o', z, i⟩ := E.urn u hu
    exact ⟨o', same_updN hM _ _ z, i⟩⟩
  have d0 : Dis F (L2.upd M p (.dK [])) := dis_newM d hF rfl
  refine h F _ σ d0 (E.step (Same.refl F) s0) _ fun v R F1 M1 hb hv k1 d1 s1 => ?_
  refine hb F1 M1 σ d1 (E.step k1 (stepT s0 s1)) _ fun w S F2 M2 hk hw k2 d2 s2 => ?_
  obtain ⟨x, dd, rfl, rfl, hk⟩ := hk
  have hv := Rp.mono _ _ _ _ k2 hv
  have m2 : M2 p = some (.dK []) := s2.1 _ _ nU (s1.1 _ _ nU upd_same)
  have f2 : F2 p = none := d2 _ _ m2
  cases hv
  refine ⟨by rw [ovl_M f2]; exact m2, [(nmK x, w)], rfl, by simp, ?_⟩
  rw [← ovl_movG]
  refine hQ _ _ _ _ hk ⟨p, _, rfl, .inl upd_same, ?_⟩ (k1.trans (k2.trans (same_updN f2))) (dis_move d2) ⟨fun a o hn hz => ?_, fun u hu => ?_⟩
  · exact Paired.cons ⟨rfl, (show Dq F2 w dd from hw).mono (same_updN f2)⟩ Paired.nil
  · have ne : a ≠ p := fun z => by rw [z, hM] at hz; cases hz
    rw [del_ne ne]
    exact (stepT s0 (stepT s1 s2)).1 a o hn hz
  · obtain ⟨o', z, i⟩ := s2.2 u hu
    have ne : u ≠ p := fun q => nU (by rw [hu, q])
    exact ⟨o', by rw [del_ne ne]; exact z, i⟩
end
end FR
set_option Elab.async false
set_option linter.all false
set_option maxRecDepth 100000
set_option maxHeartbeats 2000000
namespace FR
open PySem PySem.Spec PyProof.Rows L2
/-! ### enumerate(t), t a tuple -/
theorem meets_enum1 {v : Value} {o : Obj} {H : Heap → Prop} (B : Begins v o H) :
    Meets (Builtin.«enumerate.__new__» ⟨[.type "enumerate", v], []⟩) (fun _ R s => H s.heap ∧
      R (.ok (.ret (.ref (s.heap.push o).objs.size))) { s with heap := (s.heap.push o).push { cls := .type "enumerate", data := .fields #[.none, .bool false, .ref s.heap.objs.size, rawInt 0, .none, .none] } }) :=
  .of_wp fun prog w A R s h => by
    obtain ⟨hp, g, d, tk, os⟩ := s; obtain ⟨h1, h⟩ := h
    have hsub := sub_enumerate
    have q1 : ∀ {A' : Around} {E : Value → Shared → Prop} {Q : Value → Shared → Prop}, Q (.ref hp.objs.size) ⟨hp.push o, g, d, tk, os⟩ → wpAny (model prog w) A' (pyIter v) Q E ⟨hp, g, d, tk, os⟩ :=
      fun q => B.iter prog w _ _ ⟨hp, g, d, tk, os⟩ _ h1 q
    wp_walk using q1
    refine wpAny_stack_any fun st => wpAny_pure ?_
    split
    · rename_i c _ _ _ _ _
      cases (c == Value.type "enumerate")
      · wp_walk using q1
        exact ⟨_, rfl, h⟩
      · wp_walk using q1
        exact ⟨_, rfl, h⟩
    · wp_walk using q1
      exact ⟨_, rfl, h⟩
section
variable {prog : Program} {w : World} {A : Around} {E : Value → Shared → Prop} {s : Shared}
theorem enum_begins1 {v : Value} {o : Obj} {H : Heap → Prop} {Q : Value → Shared → Prop} (B : Begins v o H) (h1 : H s.heap)
    (h : ∀ h', IsEnum h' (s.heap.objs.size + 1) s.heap.objs.size 0 .none → h'.get? s.heap.objs.size = some o → h'.objs.size = s.heap.objs.size + 2 →
      (∀ b o, s.heap.get? b = some o → h'.get? b = some o) → Q (.ref (s.heap.objs.size + 1)) { s with heap := h' }) :
    wpAny (model prog w) A (call (.type "enumerate") [v]) Q E s := by
  refine callType_new PySem.F.called_enumerate (by decide) (PySem.F.typeCall_enumerate_1 _) (PySem.F.newCall_enumerate_1 _) (fun obj => PySem.F.args_object_init_2 obj _) PySem.F.entry_enumerate_new
    (meets_enum1 B) ⟨h1, ?_⟩
  have hz : (s.heap.push o).objs.size = s.heap.objs.size + 1 := Heap.size_push ..
  show _ ∧ _
  rw [hz]
  have he : IsEnum ((s.heap.push o).push { cls := .type "enumerate", data := .fields #[.none, .bool false, .ref s.heap.objs.size, rawInt 0, .none, .none] }) (s.heap.objs.size + 1) s.heap.objs.size 0 .none := by
    have := Heap.get?_push_size (s.heap.push o) (o := { cls := .type "enumerate", data := .fields #[.none, .bool false, .ref s.heap.objs.size, rawInt 0, .none, .none] }) rfl
    rw [hz] at this; exact this
  refine ⟨⟨_, he, rfl⟩, h _ he (Heap.get?_push_of_some _ (Heap.get?_push_size _ B.free)) (by rw [Heap.size_push, hz]) fun b o x => Heap.get?_push_of_some _ (Heap.get?_push_of_some _ x)⟩
end
def IteT (K : PySem.W.Frag) (a : Addr) : It :=
  ⟨fun i H => ∃ (xs : List V) (x : V), SqT K H a xs ∧ xs[i]? = some x, fun i H v H' => ∃ T x, v = .ref T ∧ H T = none ∧ H' = L2.upd H T (.tup [.int (i : Nat), x]) ∧ ∀ xs, SqT K H a xs → xs[i]? = some x, fun i H => ∃ xs : List V, SqT K H a xs ∧ xs.length ≤ i⟩
theorem turn_enumT {P : Program} {w : World} {K : PySem.W.Frag} {elts : List Expr} {kk : Nat} {tpos : Pos} (a e it : Addr) :
    Turn P w K (.Tuple elts kk tpos) (IteT K a) [e, it] e (fun i h => (∃ old, IsEnum h e it ((i : Nat) : Int) old) ∧ h.IsTupleIter it a i ∧ e ≠ it ∧ e ≠ a ∧ a ≠ it) where
  mem := by simp
  obj := fun i h st b hb => by
    obtain ⟨⟨old, he⟩, ⟨o, ho, hc, hd⟩, _⟩ := st
    have e' : b = e ∨ b = it := by simpa using hb
    rcases e' with z | z
    · rw [z]; exact ⟨_, he, fun v q => nomatch q⟩
    · rw [z]; exact ⟨o, ho, fun v q => by rw [hd] at q; cases q⟩
  keep := fun i h h' st k => let ⟨⟨old, he⟩, hi, hne⟩ := st; ⟨⟨old, k e (by simp) _ he⟩, hi.at fun o q => k it (by simp) o q, hne⟩
  item := by
    intro X hP hw hK hc i pins s σ H E I hf st hg
    subst hP hw hK
    obtain ⟨⟨old, he⟩, hit, hne, hea, hai⟩ := st
    obtain ⟨xs, x, hq, hx⟩ := hg
    obtain ⟨its, rv, p, hz⟩ := I.tuple hq
    obtain ⟨u, hu, ru⟩ := rv.get hx
    have hel : e < s.heap.objs.size := Heap.lt_size he
    have hil : it < s.heap.objs.size := by obtain ⟨_, q, _⟩ := hit; exact Heap.lt_size q
    have p' : s.heap.IsTuple a its.toArray := p
    have hlt : i < its.toArray.size := by
      have := (List.getElem?_eq_some_iff.mp hu).1
      simpa using this
    refine wpAny_pyNext_enum_itemD (Draws.tuple (A := X.A.in1) (I.ok.hd hc) it a hai its.toArray) he ⟨hit, p'⟩ hlt hne (by simp; exact ⟨hne, hea⟩) fun x' h' tk hx' ho hst' hT hsz hk => ?_
    have ex : x' = u := by
      have : its.toArray[i]? = some u := by simpa using hu
      rw [this] at hx'
      exact (Option.some.inj hx').symm
    subst ex
    refine ⟨_, rfl, wpAny_letOwnedTupleGo_enum (s := { s with heap := h', toks := tk + 1 }) ho fun h'' he' sb => ?_⟩
    have hT2 : h''.get? s.heap.objs.size = some { cls := .type "tuple", data := .seq #[.int i tk, x'] } := (sb.2 _ (Nat.ne_of_gt hel)).trans hT
    have new : ObjOk X.prog X.w (L2.upd H s.heap.objs.size (.tup [.int (i : Nat), x])) h'' s.heap.objs.size (.tup [.int (i : Nat), x]) :=
      ⟨by show 2 ≤ sizeLine; decide, [.int i tk, x'], .cons ⟨_, rfl⟩ (.cons ru .nil), ⟨_, hT2, rfl, _, rfl⟩⟩
    have I1 : Inv X pins σ (L2.upd H s.heap.objs.size (.tup [.int (i : Nat), x])) { s with heap := h'', toks := tk + 1 } :=
      I.turnedNew (t' := tk + 1) (ch := [e, it]) (fun b ob hb q => (sb.2 b (fun z => hb (by simp [z]))).trans (hk b ob (fun z => hb (by simp [z])) (fun z => hb (by simp [z])) q)) hf (Nat.le_refl _) new
    refine ⟨.ref s.heap.objs.size, _, I1, rfl, ⟨_, x, rfl, I.hok.fresh (Nat.le_refl _), rfl, fun ys hy => by rw [I.tuple_inj hy hq]; exact hx⟩, ⟨⟨x', ?_⟩, hst'.1.at fun o q => (sb.2 it (Ne.symm hne)).trans q, hne, hea, hai⟩, fun b hb => ?_⟩
    · have e1 : ((i + 1 : Nat) : Int) = (i : Int) + 1 := by omega
      rw [e1]; exact he'
    · have hb' : b < s.heap.objs.size := by
        have e' : b = e ∨ b = it := by simpa using hb
        rcases e' with z | z
        · rw [z]; exact hel
        · rw [z]; exact hil
      rw [upd_ne (Nat.ne_of_lt hb')]
      exact (hf b hb).1
  done := by
    intro X hP hw hK hc i pins s σ H E I hf st hg
    subst hP hw hK
    obtain ⟨⟨old, he⟩, hit, hne, hea, hai⟩ := st
    obtain ⟨xs, hq, hx⟩ := hg
    obtain ⟨its, rv, p, hz⟩ := I.tuple hq
    have p' : s.heap.IsTuple a its.toArray := p
    obtain ⟨f0, f1, f2, f3, f4, f5⟩ := hf it (by simp)
    have hl := rv.length
    have D : Draws X.prog X.w X.A.in1 it [it, a] i (fun _ _ => True) (fun j h => j = i ∧ h.IsTupleIter it a i ∧ h.IsTuple a its.toArray) :=
      { live := fun _ _ st => let ⟨o, ho, _⟩ := st.2.1; ⟨o, ho⟩
        frame := fun _ _ _ st hk => ⟨st.1, st.2.1.at fun o e => hk it (by simp) o e, st.2.2.at fun o e => hk a (by simp) o e⟩
        item := fun j s Q E hj st hQ => absurd st.1 (by omega)
        done := fun s Q E st hE => wpAny_nextOf_tuple_end (I.ok.hd hc) st.2.1 st.2.2 (by simp; omega) hE }
    exact wpAny_pyNext_enum_endD D he ⟨rfl, hit, p'⟩ fun h' eb => ⟨rfl, I.turned (t' := s.toks) (fun b o hb q => eb b o hb q) f0 f1 f3 f4 f5⟩
  self := fun A i s Q E st h => let ⟨⟨_, he⟩, _⟩ := st; wpAny_pyIter_enum he h
section
variable {X : Cx} {f : Fx} {ρ : Env} {e a b c : Expr} {es : List Expr} {s : Stmt} {ss : List Stmt} {κ : Rp → Prop} {Φ : Post} {pos p : Pos} {G : Gb} {k : Nat} {N : List Str} {sc : Scope}
theorem pi_enumT {ta : TA} {elts : List Expr} {kk : Nat} {tpos : Pos} (hg : Gl X "enumerate") (hm : X.mg "enumerate" = none) (ha : PA X [e] ta) (hs : starEach [e] X.env = [(false, eval e X.env)] := by rfl) :
    PI X (.Tuple elts kk tpos) (.Call (.Name "enumerate" p) [e] [] pos) (fun σ H R => ta σ H fun vs H1 => ∃ a xs, vs = [.ref a] ∧ SqT X.K H1 a xs ∧ R (IteT X.K a) H1) := by
  refine ⟨fun pins s σ H R I h => ?_⟩
  refine Call_ (ld_blt I hg hm boot_enumerate (PyProof.Rows.callWith_type1 (thn (ha.run pos pins s σ H _ I h) fun us s1 ⟨vs, H1, I1, r1, q1⟩ => ?_) hs rfl))
  obtain ⟨a, xs, ex, hq, q⟩ := q1
  subst ex
  cases r1 with
  | cons r rr =>
    cases rr
    cases r
    obtain ⟨its, rv, p', hz⟩ := I1.tuple hq
    have pt : s1.heap.IsTuple a its.toArray := p'
    have hal : a < s1.heap.objs.size := by obtain ⟨_, q, _⟩ := pt; exact Heap.lt_size q
    refine enum_begins1 (begins_tuple a its.toArray) pt fun h' he hit hsz hk => wpAny_pyIter_enum he ?_
    have I2 : Inv X pins σ H1 { s1 with heap := h' } := I1.kept (t' := s1.toks) hk
    refine ⟨s1.heap.objs.size + 1, [s1.heap.objs.size + 1, s1.heap.objs.size], _, _, H1, rfl, I2, turn_enumT a (s1.heap.objs.size + 1) s1.heap.objs.size, ⟨⟨.none, he⟩, ⟨_, hit, rfl, rfl⟩, Nat.succ_ne_self _, Nat.ne_of_gt (Nat.lt_succ_of_lt hal), Nat.ne_of_lt hal⟩, fun b hb => ?_, q⟩
    have e' : b = s1.heap.objs.size + 1 ∨ b = s1.heap.objs.size := by simpa using hb
    have hle : s1.heap.objs.size ≤ b := by
      rcases e' with z | z
      · rw [z]; exact Nat.le_add_right _ _
      · rw [z]; exact Nat.le_refl _
    exact I1.fpOk hle (I1.hok.fresh hle)
def enD (i : Nat) (ds : List D) : List D := (List.range ds.length).zipWith (fun j d => .tuple [.int (((i + j : Nat)) : Int), d]) ds
theorem walks_enumT {K : PySem.W.Frag} {F : Hp} {a : Addr} {xs : List V} {dx : List D} (ha : F a = some (.tup xs)) (hx : DqA F xs dx) : Walks (IteT K a) F (enD 0 dx) := fun i F2 M k2 d2 => by
  have h1 : SqT K (ovl F2 M) a xs := SqT.of (ovl_F (k2 _ _ ha))
  have hl : (enD 0 dx).length = dx.length := by unfold enD; rw [List.length_zipWith, List.length_range]; omega
  rw [hl]
  refine ⟨fun hi => ?_, fun hi => ⟨xs, h1, by rw [hx.length]; exact hi⟩⟩
  obtain ⟨v, hv, qv⟩ := hx.get (List.getElem?_eq_getElem hi)
  refine ⟨⟨xs, v, h1, hv⟩, fun x H' ⟨T, x1, e1, e2, e3, e4⟩ => ?_⟩
  subst e1 e3
  have z1 : x1 = v := Option.some.inj ((e4 xs h1).symm.trans hv)
  subst z1
  obtain ⟨F3, k3, d3, eq, q⟩ := new_pair d2 e2 (Dq.int ((i : Nat) : Int)) (qv.mono k2)
  refine ⟨F3, _, ?_, k3, d3, eq, q⟩
  unfold enD
  rw [List.getElem?_zipWith, List.getElem?_range hi, List.getElem?_eq_getElem hi]
  show some (PyData.tuple [.int ((0 + i : Nat) : Int), _]) = _
  rw [Nat.zero_add]
theorem r_enumT {elts : List Expr} {kk : Nat} {tpos : Pos} {κ : List D → Prop} (g : Gx G) (C : Ctx G k X) (h : EvE (mkX X N sc) f ρ e fun R => ∃ ds, R = tu ds ∧ κ (enD 0 ds)) (hg : gloB sc "enumerate" = true := by decide +kernel) (hs : starEach [e] (mkX X N sc).env = (false, eval e (mkX X N sc).env) :: starEach [] (mkX X N sc).env := by rfl) :
    EvIt (mkX X N sc) f ρ (.Tuple elts kk tpos) (.Call (.Name "enumerate" p) [e] [] pos) κ := fun F M σ d E R hR => by
  refine wpI_of (pi_enumT (X := mkX X N sc) (glo_of hg) (by rw [C.at.mg]; exact g.f_enumerate) (pa_cons pe_wp pa_nil hs) hs) ?_
  refine wpE_valid ?_
  refine h F M σ d E _ fun v Rp F1 M1 hk hv k1 d1 s1 va => ?_
  obtain ⟨ds, rfl, hk⟩ := hk
  cases hv with
  | @tup a xs _ ha hx =>
    refine ⟨a, xs, rfl, SqT.of (ovl_F ha), hR _ _ F1 M1 hk ?_ (walks_enumT ha hx) k1 d1 s1⟩
    unfold enD
    rw [List.length_zipWith, List.length_range, Nat.min_self, ← hx.length]
    exact va.2 a xs (ovl_F ha)
/-! ### [y for x in xs for y in ys] -/
def NoOwn (ρ : Env) : Prop := ∀ (i : Nat) (P : Op), ρ[i]? ≠ some (some (.ow P))
theorem noOwn_of {ρ : Env} (h : ρ.all (fun e => match e with | some (.ow _) => false | _ => true) = true) : NoOwn ρ := fun i P e => by
  have := List.all_eq_true.mp h _ (List.mem_of_getElem? e)
  cases this
theorem EnvOk.no {σ σ' : L2.St} {ρ ρ' : Env} {F F' M M' : Hp} (E : EnvOk f σ ρ F M) (h : NoOwn ρ) (k : Same F F') (E' : EnvOk f σ' ρ' F' M') : EnvOk f σ ρ F' M' where
  len := E.len
  ent := fun i e he => by
    obtain ⟨v, h1, h2⟩ := E.ent i e he
    refine ⟨v, h1, ?_⟩
    cases e with
    | fz R => exact R.mono _ _ _ k h2
    | ow P => exact absurd he (h i P)
    | ur => exact h2
  inj := E.inj
  base := E'.base
  urn := E'.urn
theorem ev_lc2 {scope : Scope} (own : List (Str × Nat)) (vs1 : List Nat) {tg iter elt tg1 iter1 : Expr} (J : Nat → List D → Prop) (C : Ctx G k X)
    (h : EvIt (mkX X N sc) f ρ tg iter fun ds => J 0 [] ∧ (∀ acc, J ds.length acc → acc.length ≤ 10000 ∧ κ (li acc)) ∧ ∀ i acc dd, ds[i]? = some dd → J i acc → acc.length ≤ 10000 ∧ ∀ X', Ctx G k X' → AsT (mkX X' N (relS scope sc)) f (wipeE ρ (own.map (·.2))) tg (dat dd) (own.map (·.2)) fun ρ1 => NoOwn ρ1 ∧ ∀ X', Ctx G k X' →
      EvIt (mkX X' N (relS scope sc)) f ρ1 tg1 iter1 fun ds1 => ∃ g : D → D, (∀ d1 ∈ ds1, ∀ X', Ctx G k X' → AsT (mkX X' N (relS scope sc)) f (wipeE ρ1 vs1) tg1 (dat d1) vs1 fun ρ2 => ∀ X', Ctx G k X' → EvE (mkX X' N (relS scope sc)) f ρ2 elt fun R => R = dat (g d1)) ∧ ds1.length ≤ 10000 ∧ J (i + 1) (acc ++ ds1.map g))
    (hN : N.Nodup := by decide +kernel) (hB : blkC N sc scope own = true := by decide +kernel) (hv : ∀ i ∈ vs1, i ∈ own.map (·.2) := by decide) (hs : ∀ x, foldedSetIterable iter (mkX X N sc).env x = pure x := by intro _; rfl) (hs1 : ∀ env x, foldedSetIterable iter1 env x = pure x := by intro _ _; rfl) :
    EvE (mkX X N sc) f ρ (.ListComp elt [⟨tg, iter, [], 0⟩, ⟨tg1, iter1, [], 0⟩] scope pos) κ := fun F M σ d E Q hQ => by
  let bk : Shared → Hp → Addr → List (Str × Addr) → List Addr → Cx := fun s H0 Ca cl fp => (mkX X N sc).blk s H0 scope (compEnvC scope cl Ca (mkX X N sc).env) fp
  have cb : ∀ s H0 Ca cl fp, ∃ X', Ctx G k X' ∧ bk s H0 Ca cl fp = mkX X' N (relS scope sc) := fun s H0 Ca cl fp => Ctx.blk C
  refine wpE_of (pe_lc2 (own := own) (vs1 := vs1) (X := mkX X N sc) C.at.calm hN pi_wp (blkOk_by hB) hv
    (g := fun v σ H Q => ∀ s H0 Ca cl fp, wpG (bk s H0 Ca cl fp) tg v σ H Q) (fun s H0 Ca cl fp => ⟨fun pins s' σ H v u Q I r h => pg_wp.run pins s' σ H v u Q I r (h s H0 Ca cl fp)⟩)
    (tt := fun σ H Q => ∀ s H0 Ca cl fp, wpTs (bk s H0 Ca cl fp) [] σ H Q) (fun s H0 Ca cl fp => ⟨fun pins s' σ H Q I h => pts_wp.run pins s' σ H Q I (h s H0 Ca cl fp)⟩)
    (wi1 := fun σ H R => ∀ s H0 Ca cl fp, wpI (bk s H0 Ca cl fp) tg1 iter1 σ H R) (fun s H0 Ca cl fp => ⟨fun pins s' σ H R I h => pi_wp.run pins s' σ H R I (h s H0 Ca cl fp)⟩)
    (g1 := fun v σ H Q => ∀ s H0 Ca cl fp, wpG (bk s H0 Ca cl fp) tg1 v σ H Q) (fun s H0 Ca cl fp => ⟨fun pins s' σ H v u Q I r h => pg_wp.run pins s' σ H v u Q I r (h s H0 Ca cl fp)⟩)
    (tt1 := fun σ H Q => ∀ s H0 Ca cl fp, wpTs (bk s H0 Ca cl fp) [] σ H Q) (fun s H0 Ca cl fp => ⟨fun pins s' σ H Q I h => pts_wp.run pins s' σ H Q I (h s H0 Ca cl fp)⟩)
    (te := fun σ H Q => ∀ s H0 Ca cl fp, wpE (bk s H0 Ca cl fp) elt σ H Q) (fun s H0 Ca cl fp => ⟨fun pins s' σ H Q I h => pe_wp.run pins s' σ H Q I (h s H0 Ca cl fp)⟩) hs hs1) ?_
  refine h F M σ d E _ fun K ds F1 M1 hk hsz hW k1 d1 s1 => ?_
  obtain ⟨j0, fin, turn⟩ := hk
  intro D hD
  have E1 := E.step k1 s1
  have nU : f.U ≠ some D := fun z => by
    obtain ⟨_, o', e, _⟩ := E1.urn D z
    rw [(ovl_none hD).2] at e; cases e
  have s00 : f.step M1 (L2.upd M1 D (.lst [])) := ⟨fun a o _ z => same_updN (ovl_none hD).2 a o z, fun u hu => by
    obtain ⟨_, o', z, i⟩ := E1.urn u hu
    exact ⟨o', same_updN (ovl_none hD).2 _ _ z, i⟩⟩
  let Nx : Nat → Hp → Prop := fun i H => ∃ acc xs F2 M2, J (i + 1) acc ∧ DqA F2 xs acc ∧ M2 D = some (.lst xs) ∧ Same F1 F2 ∧ Dis F2 M2 ∧ f.step M1 M2 ∧ H = ovl F2 M2
  refine ⟨fun i m H => m = ds.length - i ∧ i ≤ ds.length ∧ ∃ acc xs F2 M2, J i acc ∧ DqA F2 xs acc ∧ M2 D = some (.lst xs) ∧ Same F1 F2 ∧ Dis F2 M2 ∧ f.step M1 M2 ∧ H = ovl F2 M2, ⟨ds.length, by simp, Nat.zero_le _, [], [], F1, L2.upd M1 D (.lst []), j0, .nil, upd_same, Same.refl _, dis_newM d1 (ovl_none hD).1 rfl, s00, upd_ovlM (ovl_none hD).1⟩, ?_⟩
  rintro i m H2 ⟨rfl, hi, acc, xs, F2, M2, hj, hx, hDl, k2, d2, s2, rfl⟩
  obtain ⟨hgo, hstop⟩ := hW i F2 M2 k2 d2
  have E2 : EnvOk f σ ρ F2 M2 := E1.step k2 s2
  by_cases hlt : i < ds.length
  · obtain ⟨go, yl⟩ := hgo hlt
    refine .inr ⟨go, Nx i, fun H' hN => ⟨ds.length - (i + 1), by omega, rfl, hlt, hN⟩, fun x H' hy s5 H5 C5 cl5 fp5 => ?_⟩
    obtain ⟨F3, dd, hd, k3, d3, rfl, hxx⟩ := yl x H' hy
    obtain ⟨X', C', eX⟩ := cb s5 H5 C5 cl5 fp5
    rw [eX]
    obtain ⟨la, turn⟩ := turn i acc dd hd hj
    refine turn X' C' F3 M2 (wipe σ (own.map (·.2))) x d3 ((E2.mono k3).wipeOk _) hxx _ fun ρ4 σ4 F4 M4 hb w4 k4 d4 s4 E4 => ?_
    refine ⟨w4.trans (wipe_wipe _), fun s6 H6 C6 cl6 fp6 => ?_⟩
    refine wpTs_of pts_nil (iteT (B := Nx i (ovl F4 M4)) fun s7 H7 C7 cl7 fp7 => ?_)
    obtain ⟨X7, C7', eX7⟩ := cb s7 H7 C7 cl7 fp7
    rw [eX7]
    refine hb.2 X7 C7' F4 M4 σ4 d4 E4 _ fun K1 ds1 F5 M5 hk1 hsz1 hW1 k5 d5 s5' => ?_
    obtain ⟨g, turn1, ll, hj1⟩ := hk1
    have at5 : M5 D = some (.lst xs) := s5'.1 D _ nU (s4.1 D _ nU hDl)
    have st5 : f.step M1 M5 := stepT s2 (stepT s4 s5')
    have kk5 : Same F1 F5 := k2.trans (k3.trans (k4.trans k5))
    have E5 := E4.step k5 s5'
    let Nx1 : Nat → Hp → Prop := fun j H => ∃ ys F6 M6, DqA F6 ys (acc ++ (ds1.take j).map g) ∧ M6 D = some (.lst ys) ∧ Same F5 F6 ∧ Dis F6 M6 ∧ f.step M1 M6 ∧ H = ovl F6 M6
    refine ⟨fun j q H => q = ds1.length - j ∧ j ≤ ds1.length ∧ Nx1 j H, ⟨ds1.length, by simp, Nat.zero_le _, xs, F5, M5, by simpa using hx.mono (k3.trans (k4.trans k5)), at5, Same.refl _, d5, st5, rfl⟩, ?_⟩
    rintro j q H8 ⟨rfl, hj8, ys, F6, M6, hy6, at6, k6, d6, s6', rfl⟩
    obtain ⟨hgo1, hstop1⟩ := hW1 j F6 M6 k6 d6
    by_cases hlt1 : j < ds1.length
    · obtain ⟨go1, yl1⟩ := hgo1 hlt1
      refine .inr ⟨go1, Nx1 (j + 1), fun H' hN => ⟨ds1.length - (j + 1), by omega, rfl, hlt1, hN⟩, fun x1 H9 hy1 s8 H8 C8 cl8 fp8 => ?_⟩
      obtain ⟨F7, d1', hd1, k7, d7, rfl, hx1⟩ := yl1 x1 H9 hy1
      obtain ⟨X8, C8', eX8⟩ := cb s8 H8 C8 cl8 fp8
      rw [eX8]
      have E6 := E5.no hb.1 k6 (E1.step (kk5.trans k6) s6')
      refine turn1 d1' (List.mem_of_getElem? hd1) X8 C8' F7 M6 (wipe σ4 vs1) x1 d7 ((E6.mono k7).wipeOk _) hx1 _ fun ρ9 σ9 F9 M9 hb9 w9 k9 d9 s9 E9 => ?_
      refine ⟨w9.trans (wipe_wipe _), fun s10 H10 C10 cl10 fp10 => wpTs_of pts_nil (iteT (B := Nx1 (j + 1) (ovl F9 M9)) fun s11 H11 C11 cl11 fp11 => ?_)⟩
      obtain ⟨X11, C11', eX11⟩ := cb s11 H11 C11 cl11 fp11
      rw [eX11]
      refine hb9 X11 C11' F9 M9 σ9 d9 E9 _ fun v R F12 M12 hR hv k12 d12 s12 => ?_
      subst hR
      have at12 : M12 D = some (.lst ys) := s12.1 D _ nU (s9.1 D _ nU at6)
      have fD : F12 D = none := d12 _ _ at12
      have st12 : f.step M1 M12 := stepT s6' (stepT s9 s12)
      have hlen : ys.length ≤ 20000 := by
        rw [hy6.length, List.length_append, List.length_map, List.length_take]
        omega
      refine ⟨ys, by rw [ovl_M fD]; exact at12, Nat.lt_of_le_of_lt hlen (by rw [sizeLine_eq]; omega), ys ++ [v], F12, L2.upd M12 D (.lst (ys ++ [v])), ?_, upd_same, k6.trans (k7.trans (k9.trans k12)), dis_newM d12 fD rfl, ⟨fun a o hn hz => ?_, fun u hu => ?_⟩, upd_ovlM fD⟩
      · rw [take_more hd1, List.map_append, ← List.append_assoc]
        exact (hy6.mono (k7.trans (k9.trans k12))).append (.cons hv .nil)
      · have ne : a ≠ D := fun z => by rw [z, (ovl_none hD).2] at hz; cases hz
        rw [upd_ne ne]; exact st12.1 a o hn hz
      · obtain ⟨o', z, i'⟩ := st12.2 u hu
        have ne : u ≠ D := fun q => nU (by rw [hu, q])
        exact ⟨o', by rw [upd_ne ne]; exact z, i'⟩
    · have e : j = ds1.length := by omega
      subst e
      rw [List.take_length] at hy6
      exact .inl ⟨hstop1 (Nat.le_refl _), _, ys, F6, M6, hj1, hy6, at6, kk5.trans k6, d6, s6', rfl⟩
  · have e : i = ds.length := by omega
    subst e
    refine .inl ⟨hstop (Nat.le_refl _), ?_⟩
    rw [← ovl_move' d2 hDl]
    refine hQ _ (li acc) (L2.upd F2 D (.lst xs)) (del M2 D) (fin acc hj).2 (Dq.lst upd_same (hx.mono (same_updN (d2 _ _ hDl)))) (k1.trans (k2.trans (same_updN (d2 _ _ hDl)))) (dis_move d2) (stepT s1 ⟨fun a o hn hz => ?_, fun u hu => ?_⟩)
    · have ne : a ≠ D := fun z => by rw [z, (ovl_none hD).2] at hz; cases hz
      rw [del_ne ne]; exact s2.1 a o hn hz
    · obtain ⟨o', z, i'⟩ := s2.2 u hu
      have ne : u ≠ D := fun q => nU (by rw [hu, q])
      exact ⟨o', by rw [del_ne ne]; exact z, i'⟩
end
end FR
set_option Elab.async false
set_option linter.all false
set_option maxRecDepth 100000
set_option maxHeartbeats 2000000
namespace FR
open PySem PySem.Spec PyProof.Rows L2
/-! ### the things of the program -/
abbrev Fs := List Nm
structure Form where
  wr : Fs
  ne : Fs
  kn : Fs
deriving DecidableEq
structure Ch where
  nm : Nm
  sn : Nm
  rc : Nm
  od : Form
  nw : Form
deriving DecidableEq
def eF : Enc Fs := eT eN fun _ => by simp [eN, PyData.depth]
theorem eF_d (x : Fs) : (eF.enc x).depth ≤ 1 := by
  show PyData.depth (.tuple _) ≤ 1
  simp only [PyData.depth]
  have := depthAll_map eN (n := 0) (fun x => by simp [eN, PyData.depth]) x
  omega
def eRd : Enc (Fs × Fs) := eP eF eF (fun x => by have := eF_d x; omega) (fun x => by have := eF_d x; omega)
def Form.rd (x : Form) : Fs × Fs := (x.ne, x.kn)
def dFm (x : Form) : D := .tuple [eF.enc x.wr, eF.enc x.ne, eF.enc x.kn]
def dCh (c : Ch) : D := .tuple [eN.enc c.nm, eN.enc c.sn, eN.enc c.rc, dFm c.od, dFm c.nw]
/-- every step of it ascends -/
def asc {α : Type} (E : Enc α) (xs : List α) : Bool := ((xs.zip (xs.drop 1)).map fun p => E.lt p.1 p.2).all id
def isSub (ws fs : Fs) : Bool := ws.all fun x => decide (x ∈ fs)
def acc (r : Fs × Fs) (w : Fs) : Bool := isSub r.1 w && isSub w r.2
def FmOk (x : Form) : Prop := (∀ fs ∈ [x.wr, x.ne, x.kn], fs.length ≤ 12 ∧ asc eN fs = true) ∧ isSub x.ne x.kn = true ∧ acc x.rd x.wr = true
/-! ### fields -/
def T_is_name : Tp := fun Rs κ => ∃ x : Nm, Rs = [st x.1] ∧ κ (bl true)
theorem nm_len (x : Nm) : 1 ≤ x.1.length ∧ x.1.length ≤ 8 := by
  have h := x.2
  unfold okName at h
  simp only [Bool.and_eq_true, decide_eq_true_eq] at h
  exact h.1
theorem nm_sign {x : Nm} {c : Nat} (h : c ∈ x.1.cps.toList) : c ∈ (Str.ofString "abcdefghijklmnopqrstuvwxyz").cps.toList := by
  have hx := x.2
  unfold okName at hx
  simp only [Bool.and_eq_true] at hx
  have h3 := hx.2
  rw [← Array.all_toList, List.all_eq_true] at h3
  have := h3 c h
  unfold okC at this
  simp only [Bool.and_eq_true, decide_eq_true_eq] at this
  have all : ∀ c, 97 ≤ c → c ≤ 122 → c ∈ (Str.ofString "abcdefghijklmnopqrstuvwxyz").cps.toList := by
    have e : (Str.ofString "abcdefghijklmnopqrstuvwxyz").cps.toList = (List.range 26).map (· + 97) := by decide +kernel
    intro c h1 h2
    rw [e, List.mem_map]
    exact ⟨c - 97, List.mem_range.mpr (by omega), by omega⟩
  exact all c this.1 this.2
theorem P_is_name {G : Gb} (g : Gx G) (S : Std G "is_name" "is_name" s_is_name) : Prom G "is_name" 1 p_is_name (SpF T_is_name) := by
  refine S.prom sc_is_name (by rintro Rs κ ⟨_, rfl, _⟩; rfl) (fun _ _ _ _ _ _ us hl => match us, hl with | [_], _ => rfl) fun X f Rs κ C hU h => ?_
  obtain ⟨x, rfl, hκ⟩ := h
  obtain ⟨l1, l2⟩ := nm_len x
  refine ws_cons (ws_if (et_w (ew_or (et_not (et_val (r_isS g C (v 0 ⟨_, rfl, ?_⟩)))))))
  refine ⟨_, rfl, fun h => (by cases h), fun _ => ew_or1 (et_not (et_chain (ev_int (r_lenS g C (v 0 ⟨x.1, rfl, by omega, ?_⟩)))))⟩
  refine ⟨_, _, rfl, rfl, fun _ => gi C g.c_LONGEST_NAME ⟨_, rfl, ?_⟩, fun h => absurd (by omega) h⟩
  refine ⟨fun h => ?_, fun _ => ws_nil ?_⟩
  · rw [Bool.not_eq_true', decide_eq_false_iff_not] at h
    exact absurd (by omega) h
  · refine ws_cons (ws_ret (r_all g C (r_lc [("letter", 1)] C (it_str (v 0 ⟨x.1, rfl, by show x.1.length ≤ _; omega, ?_⟩)))))
    refine lc_each (fun c => .str ⟨#[c]⟩) (fun c => .bool (decide (c ∈ (Str.ofString "abcdefghijklmnopqrstuvwxyz").cps.toList))) (fun c hc X' C' => tn 1 sc_is_name.nd fun X2 C2 => ?_) ?_
    · exact ev_c (ec_inS (v 1 (gs C2 g.c_LETTERS ⟨c, _, rfl, rfl, rfl⟩)))
    · refine ⟨x.1.cps.toList.map fun c => decide (c ∈ (Str.ofString "abcdefghijklmnopqrstuvwxyz").cps.toList), by rw [List.map_map]; rfl, ?_⟩
      rw [show (x.1.cps.toList.map fun c => decide (c ∈ (Str.ofString "abcdefghijklmnopqrstuvwxyz").cps.toList)).all id = true from ?_]
      · exact hκ
      · rw [List.all_map, List.all_eq_true]
        exact fun c hc => decide_eq_true (nm_sign hc)

def T_is_ascending : Tp := fun Rs κ => ∃ (α : Type) (E : Enc α) (xs : List α), (Rs = [li (xs.map E.enc)] ∨ Rs = [tu (xs.map E.enc)]) ∧ (∀ x ∈ xs, E.enc x ≠ .none) ∧ κ (bl (asc E xs))
theorem zipD_map {α : Type} (E : Enc α) (xs ys : List α) : zipD (xs.map E.enc) (ys.map E.enc) = (xs.zip ys).map fun p => .tuple [E.enc p.1, E.enc p.2] := by
  unfold zipD
  induction xs generalizing ys with
  | nil => rfl
  | cons x xs ih => cases ys with
    | nil => rfl
    | cons y ys => simp only [List.map_cons, List.zipWith_cons_cons, List.zip_cons_cons]; rw [ih]
theorem P_is_ascending {G : Gb} (g : Gx G) (S : Std G "is_ascending" "is_ascending" s_is_ascending) : Prom G "is_ascending" 1 p_is_ascending (SpF T_is_ascending) := by
  refine S.prom sc_is_ascending (by rintro Rs κ ⟨_, _, _, rfl | rfl, _⟩ <;> rfl) (fun _ _ _ _ _ _ us hl => match us, hl with | [_], _ => rfl) fun X f Rs κ C hU h => ?_
  obtain ⟨α, E, xs, hR, hn, hκ⟩ := h
  refine ws_cons (ws_ret (r_all g C (r_lc [("one", 1), ("later", 2)] C ?_)))
  rcases hR with rfl | rfl
  · refine r_zip g C (v 0 (slcL (v 0 ⟨_, rfl, _, _, .inl ⟨rfl, rfl⟩, ?_⟩)))
    rw [← List.map_drop, zipD_map]
    refine lc_each (fun p : α × α => .tuple [E.enc p.1, E.enc p.2]) (fun p => .bool (E.lt p.1 p.2)) (fun p hp X' C' => at_tup C'.calm rfl (ats_cons (tn 1 sc_is_ascending.nd (ats_cons (tn 2 sc_is_ascending.nd (ats_nil fun X2 C2 => ?_)))))) ?_
    · exact ev_c (ec_lt C2.at E (v 1 (v 2 ⟨p.1, p.2, rfl, rfl, hn _ (List.of_mem_zip hp).1, rfl⟩)))
    · exact ⟨(xs.zip (xs.drop 1)).map fun p : α × α => E.lt p.1 p.2, by rw [List.map_map]; rfl, hκ⟩
  · refine r_zip g C (v 0 (slc (v 0 ⟨_, rfl, _, _, .inr ⟨rfl, rfl⟩, ?_⟩)))
    rw [← List.map_drop, zipD_map]
    refine lc_each (fun p : α × α => .tuple [E.enc p.1, E.enc p.2]) (fun p => .bool (E.lt p.1 p.2)) (fun p hp X' C' => at_tup C'.calm rfl (ats_cons (tn 1 sc_is_ascending.nd (ats_cons (tn 2 sc_is_ascending.nd (ats_nil fun X2 C2 => ?_)))))) ?_
    · exact ev_c (ec_lt C2.at E (v 1 (v 2 ⟨p.1, p.2, rfl, rfl, hn _ (List.of_mem_zip hp).1, rfl⟩)))
    · exact ⟨(xs.zip (xs.drop 1)).map fun p : α × α => E.lt p.1 p.2, by rw [List.map_map]; rfl, hκ⟩
/-- names in order, not too many -/
def T_are_names : Tp := fun Rs κ => ∃ (xs : Fs) (l m : Nat), Rs = [dat (eF.enc xs), nt l, nt m] ∧ l ≤ xs.length ∧ xs.length ≤ m ∧ asc eN xs = true ∧ κ (bl true)
theorem P_are_names {G : Gb} (g : Gx G) (S : Std G "are_names" "are_names" s_are_names) (P1 : Prom G "is_name" 1 p_is_name (SpF T_is_name)) (P2 : Prom G "is_ascending" 1 p_is_ascending (SpF T_is_ascending)) : Prom G "are_names" 2 p_are_names (SpF T_are_names) := by
  refine S.prom sc_are_names (by rintro Rs κ ⟨_, _, _, rfl, _⟩; rfl) (fun _ _ _ _ _ _ us hl => match us, hl with | [_, _, _], _ => rfl) fun X f Rs κ C hU h => ?_
  obtain ⟨xs, l, m, rfl, h1, h2, ha, hκ⟩ := h
  refine ws_cons (ws_if (et_w (ew_or (et_not (et_val (r_isT g C (v 0 ⟨_, rfl, ?_⟩)))))))
  refine ⟨_, rfl, fun h => (by cases h), fun _ => ew_or1 (et_not (et_chain (v 1 (r_len g C (v 0 ⟨_, .inr rfl, ?_⟩)))))⟩
  refine ⟨_, _, rfl, rfl, fun _ => v 2 ⟨_, rfl, ?_⟩, fun h => absurd (by rw [List.length_map]; omega) h⟩
  refine ⟨fun h => ?_, fun _ => ws_nil ?_⟩
  · rw [Bool.not_eq_true', decide_eq_false_iff_not, List.length_map] at h
    exact absurd (by omega) h
  · refine ws_cons (ws_ret (ev_and (r_all g C (r_lc [("item", 3)] C (it_tup (v 0 ⟨_, rfl, ?_⟩))))))
    refine lc_each eN.enc (fun x => .bool true) (fun x hx X' C' => tn 3 sc_are_names.nd fun X2 C2 => ?_) ?_
    · exact r_call P1 C2 (ea_one (v 3 ⟨x, rfl, rfl⟩))
    · refine ⟨xs.map fun _ => true, by rw [List.map_map]; rfl, ?_⟩
      rw [show (xs.map fun _ => true).all id = true by rw [List.all_map]; simp]
      exact ⟨true, rfl, fun _ => ev_one (r_call P2 C (ea_one (v 0 ⟨Nm, eN, xs, .inr rfl, fun x _ h => (by cases h), (by rw [ha]; exact hκ)⟩))), fun h => by cases h⟩

def FsOk (fs : Fs) : Prop := fs.length ≤ 12 ∧ asc eN fs = true
def T_is_fields : Tp := fun Rs κ => ∃ fs : Fs, Rs = [dat (eF.enc fs)] ∧ FsOk fs ∧ κ (bl true)
theorem P_is_fields {G : Gb} (g : Gx G) (S : Std G "is_fields" "is_fields" s_is_fields) (P1 : Prom G "are_names" 2 p_are_names (SpF T_are_names)) : Prom G "is_fields" 3 p_is_fields (SpF T_is_fields) := by
  refine S.prom sc_is_fields (by rintro Rs κ ⟨_, rfl, _⟩; rfl) (fun _ _ _ _ _ _ us hl => match us, hl with | [_], _ => rfl) fun X f Rs κ C hU h => ?_
  obtain ⟨fs, rfl, ⟨h1, h2⟩, hκ⟩ := h
  exact ws_cons (ws_ret (r_call P1 C (ea3 (v 0 (ev_int (gi C g.c_MOST_FIELDS ⟨fs, 0, 12, rfl, Nat.zero_le _, h1, h2, hκ⟩))))))
def T_has_all : Tp := fun Rs κ => ∃ fs ws : Fs, Rs = [dat (eF.enc fs), dat (eF.enc ws)] ∧ κ (bl (isSub ws fs))
theorem P_has_all {G : Gb} (g : Gx G) (S : Std G "has_all" "has_all" s_has_all) : Prom G "has_all" 1 p_has_all (SpF T_has_all) := by
  refine S.prom sc_has_all (by rintro Rs κ ⟨_, _, rfl, _⟩; rfl) (fun _ _ _ _ _ _ us hl => match us, hl with | [_, _], _ => rfl) fun X f Rs κ C hU h => ?_
  obtain ⟨fs, ws, rfl, hκ⟩ := h
  refine ws_cons (ws_ret (r_all g C (r_lc [("field", 2)] C (it_tup (v 1 ⟨_, rfl, ?_⟩)))))
  refine lc_each eN.enc (fun x => .bool (decide (x ∈ fs))) (fun x hx X' C' => tn 2 sc_has_all.nd fun X2 C2 => ev_c (ec_in C2.at eN (v 2 (v 0 ⟨x, fs, rfl, .inr rfl, rfl⟩)))) ?_
  refine ⟨ws.map fun x => decide (x ∈ fs), by rw [List.map_map]; rfl, ?_⟩
  rw [List.all_map]; exact hκ
def T_is_reader : Tp := fun Rs κ => ∃ r : Fs × Fs, Rs = [dat (eRd.enc r)] ∧ FsOk r.1 ∧ FsOk r.2 ∧ isSub r.1 r.2 = true ∧ κ (bl true)
theorem P_is_reader {G : Gb} (g : Gx G) (S : Std G "is_reader" "is_reader" s_is_reader) (P1 : Prom G "is_fields" 3 p_is_fields (SpF T_is_fields)) (P2 : Prom G "has_all" 1 p_has_all (SpF T_has_all)) : Prom G "is_reader" 4 p_is_reader (SpF T_is_reader) := by
  refine S.prom sc_is_reader (by rintro Rs κ ⟨_, rfl, _⟩; rfl) (fun _ _ _ _ _ _ us hl => match us, hl with | [_], _ => rfl) fun X f Rs κ C hU h => ?_
  obtain ⟨r, rfl, h1, h2, h3, hκ⟩ := h
  refine ws_cons (ws_if (et_w (ew_or (et_not (et_val (r_isT g C (v 0 ⟨_, rfl, ?_⟩)))))))
  refine ⟨_, rfl, fun h => (by cases h), fun _ => ew_or (et_c (ec_neI (r_len g C (v 0 ⟨_, .inr rfl, gi C g.c_READER_PARTS ⟨_, _, rfl, rfl, ?_⟩⟩))))⟩
  refine ⟨_, rfl, fun h => (by cases h), fun _ => ew_or1 (et_not (et_val (r_all g C (r_lc [("part", 1)] C (it_tup (v 0 ⟨_, rfl, ?_⟩))))))⟩
  refine lc_each (xs := [r.1, r.2]) eF.enc (fun x => .bool true) (fun x hx X' C' => tn 1 sc_is_reader.nd fun X2 C2 => ?_) ?_
  · refine r_call P1 C2 (ea_one (v 1 ⟨x, rfl, ?_, rfl⟩))
    simp at hx
    rcases hx with rfl | rfl
    · exact h1
    · exact h2
  · exact ⟨[true, true], rfl, _, rfl, fun h => (by cases h), fun _ => ws_nil (ws_cons (ws_ret (r_call P2 C (ea2 (ixc _ (v 0 ⟨rfl, ixc _ (v 0 ⟨rfl, r.2, r.1, rfl, by rw [h3]; exact hκ⟩)⟩))))))⟩
def T_accepts : Tp := fun Rs κ => ∃ (r : Fs × Fs) (w : Fs), Rs = [dat (eRd.enc r), dat (eF.enc w)] ∧ κ (bl (acc r w))
theorem P_accepts {G : Gb} (g : Gx G) (S : Std G "accepts" "accepts" s_accepts) (P2 : Prom G "has_all" 1 p_has_all (SpF T_has_all)) : Prom G "accepts" 2 p_accepts (SpF T_accepts) := by
  refine S.prom sc_accepts (by rintro Rs κ ⟨_, _, rfl, _⟩; rfl) (fun _ _ _ _ _ _ us hl => match us, hl with | [_, _], _ => rfl) fun X f Rs κ C hU h => ?_
  obtain ⟨r, w, rfl, hκ⟩ := h
  refine ws_cons (ws_ret (ev_and (r_call P2 C (ea2 (v 1 (ixc _ (v 0 ⟨rfl, w, r.1, rfl, _, rfl, fun h => ev_one (r_call P2 C (ea2 (ixc _ (v 0 ⟨rfl, v 1 ⟨r.2, w, rfl, ?_⟩⟩)))), fun h => ?_⟩)))))))
  · unfold acc at hκ
    rw [h, Bool.true_and] at hκ
    exact hκ
  · unfold acc at hκ
    rw [h, Bool.false_and] at hκ
    exact hκ
def T_is_format : Tp := fun Rs κ => ∃ x : Form, Rs = [dat (dFm x)] ∧ FsOk x.wr ∧ FsOk x.ne ∧ FsOk x.kn ∧ isSub x.ne x.kn = true ∧ acc x.rd x.wr = true ∧ κ (bl true)
theorem P_is_format {G : Gb} (g : Gx G) (S : Std G "is_format" "is_format" s_is_format) (P1 : Prom G "is_fields" 3 p_is_fields (SpF T_is_fields)) (P2 : Prom G "is_reader" 4 p_is_reader (SpF T_is_reader)) (P3 : Prom G "accepts" 2 p_accepts (SpF T_accepts)) : Prom G "is_format" 5 p_is_format (SpF T_is_format) := by
  refine S.prom sc_is_format (by rintro Rs κ ⟨_, rfl, _⟩; rfl) (fun _ _ _ _ _ _ us hl => match us, hl with | [_], _ => rfl) fun X f Rs κ C hU h => ?_
  obtain ⟨x, rfl, h1, h2, h3, h4, h5, hκ⟩ := h
  refine ws_cons (ws_if (et_w (ew_or (et_not (et_val (r_isT g C (v 0 ⟨_, rfl, ?_⟩)))))))
  refine ⟨_, rfl, fun h => (by cases h), fun _ => ew_or (et_c (ec_neI (r_len g C (v 0 ⟨_, .inr rfl, gi C g.c_FORMAT_PARTS ⟨_, _, rfl, rfl, ?_⟩⟩))))⟩
  refine ⟨_, rfl, fun h => (by cases h), fun _ => ew_or1 (et_not (et_val (r_call P1 C (ea_one (ixc _ (v 0 ⟨rfl, x.wr, rfl, h1, _, rfl, fun h => (by cases h), fun _ => ws_nil ?_⟩))))))⟩
  refine ws_cons (ws_ret (ev_and (r_call P2 C (ea_one (slc (v 0 ⟨_, rfl, x.rd, rfl, h2, h3, h4, _, rfl, fun _ => ev_one ?_, fun h => (by cases h)⟩))))))
  exact r_call P3 C (ea2 (slc (v 0 ⟨_, rfl, ixc _ (v 0 ⟨rfl, x.rd, x.wr, rfl, by rw [h5]; exact hκ⟩)⟩)))
/-- an old eye that knows a newer's fields -/
def wid (a b : Fs × Fs) : Fs × Fs := (a.1.filter fun x => decide (x ∈ b.1), srt eN (dd (a.2 ++ b.2)))
def T_widened : Tp := fun Rs κ => ∃ a b : Fs × Fs, Rs = [dat (eRd.enc a), dat (eRd.enc b)] ∧ a.2.length ≤ 100 ∧ b.2.length ≤ 100 ∧ κ (dat (eRd.enc (wid a b)))
theorem P_widened {G : Gb} (g : Gx G) (S : Std G "widened" "widened" s_widened) : Prom G "widened" 1 p_widened (SpF T_widened) := by
  refine S.prom sc_widened (by rintro Rs κ ⟨_, _, rfl, _⟩; rfl) (fun _ _ _ _ _ _ us hl => match us, hl with | [_, _], _ => rfl) fun X f Rs κ C hU h => ?_
  obtain ⟨a, b, rfl, h1, h2, hκ⟩ := h
  refine ws_cons (w_setLc 2 [("field", 3)] C (it_tup (ixc _ (v 0 ⟨rfl, _, rfl, ?_⟩))))
  refine lc_mapT eN.enc (fun x => decide (x ∈ b.1)) eN.enc (fun x hx X' C' => tn 3 sc_widened.nd fun X2 C2 => ts_one (et_c (ec_in C2.at eN (v 3 (ixc _ (v 1 ⟨rfl, x, b.1, rfl, .inr rfl, _, rfl, rfl, fun _ X4 C4 => v 3 rfl⟩)))))) ?_
  refine ws_cons (ws_ret (ev_tup (ea2 (r_tuple g C (v 2 ⟨_, .inl rfl, r_tuple g C (r_sorted g C (r_set g C (ev_catT (ixc _ (v 0 ⟨rfl, ixc _ (v 1 ⟨rfl, _, _, rfl, rfl, ?_, a.2 ++ b.2, .inr ?_, ?_, Nm, eN, dd (a.2 ++ b.2), gath_set _, sortOk_N _, ?_, _, .inl rfl, _, rfl, (by show 2 ≤ 10000; decide), hκ⟩)⟩)))))⟩)))))
  · rw [List.length_map, List.length_map]; omega
  · rw [List.map_append]
  · rw [List.length_append]; omega
  · have := (nodup_dd (a.2 ++ b.2)).sublen (fun x hx => mem_dd.mp hx)
    rw [List.length_append] at this
    omega
end FR
set_option Elab.async false
set_option linter.all false
set_option maxRecDepth 100000
set_option maxHeartbeats 2000000
namespace FR
open PySem PySem.Spec PyProof.Rows L2
structure Sys where
  hs : Fs
  cs : List Ch
/-- a valid format -/
structure FormOk (x : Form) : Prop where
  wr : FsOk x.wr
  ne : FsOk x.ne
  kn : FsOk x.kn
  sub : isSub x.ne x.kn = true
  acc : FR.acc x.rd x.wr = true
structure ChOk (hs : Fs) (c : Ch) : Prop where
  sn : c.sn ∈ hs
  rc : c.rc ∈ hs
  od : FormOk c.od
  nw : FormOk c.nw
structure Sys.Ok (S : Sys) : Prop where
  h1 : 1 ≤ S.hs.length
  h2 : S.hs.length ≤ 12
  h3 : asc eN S.hs = true
  c1 : S.cs.length ≤ 40
  c2 : ∀ c ∈ S.cs, ChOk S.hs c
  c3 : asc eN (S.cs.map (·.nm)) = true
def sysR (G : Gb) (S : Sys) : Rp := objR G [("services", dat (eF.enc S.hs)), ("channels", tu (S.cs.map dCh))]
section
variable {X : Cx} {f : Fx} {ρ : Env} {e a b c : Expr} {es : List Expr} {s : Stmt} {ss : List Stmt} {κ : Rp → Prop} {Φ : Post} {pos p : Pos} {G : Gb} {k : Nat} {N : List Str} {sc : Scope}
theorem ev_svc (C : Ctx G k X) {S : Sys} (h : EvE (mkX X N sc) f ρ e fun R => R = sysR G S ∧ κ (dat (eF.enc S.hs))) (hb : attributeBase e "services" (mkX X N sc).env (eval e (mkX X N sc).env) = eval e (mkX X N sc).env := by rfl) : EvE (mkX X N sc) f ρ (.Attribute e "services" pos) κ := ev_fld C (ev_imp h fun R ⟨e, hk⟩ => ⟨_, _, e, by simp, hk⟩) hb
theorem ev_chs (C : Ctx G k X) {S : Sys} (h : EvE (mkX X N sc) f ρ e fun R => R = sysR G S ∧ κ (tu (S.cs.map dCh))) (hb : attributeBase e "channels" (mkX X N sc).env (eval e (mkX X N sc).env) = eval e (mkX X N sc).env := by rfl) : EvE (mkX X N sc) f ρ (.Attribute e "channels" pos) κ := ev_fld C (ev_imp h fun R ⟨e, hk⟩ => ⟨_, _, e, by simp, hk⟩) hb
end
def T_is_channel : Tp := fun Rs κ => ∃ (hs : Fs) (c : Ch), Rs = [dat (eF.enc hs), dat (dCh c)] ∧ ChOk hs c ∧ κ (bl true)
theorem P_is_channel {G : Gb} (g : Gx G) (S : Std G "is_channel" "is_channel" s_is_channel) (P1 : Prom G "is_name" 1 p_is_name (SpF T_is_name)) (P2 : Prom G "is_format" 5 p_is_format (SpF T_is_format)) : Prom G "is_channel" 6 p_is_channel (SpF T_is_channel) := by
  refine S.prom sc_is_channel (by rintro Rs κ ⟨_, _, rfl, _⟩; rfl) (fun _ _ _ _ _ _ us hl => match us, hl with | [_, _], _ => rfl) fun X f Rs κ C hU h => ?_
  obtain ⟨hs, c, rfl, ho, hκ⟩ := h
  refine ws_cons (ws_if (et_w (ew_or (et_not (et_val (r_isT g C (v 1 ⟨_, rfl, ?_⟩)))))))
  refine ⟨_, rfl, fun h => (by cases h), fun _ => ew_or (et_c (ec_neI (r_len g C (v 1 ⟨_, .inr rfl, gi C g.c_CHANNEL_PARTS ⟨_, _, rfl, rfl, ?_⟩⟩))))⟩
  refine ⟨_, rfl, fun h => (by cases h), fun _ => ew_or1 (et_not (et_val (r_call P1 C (ea_one (ixc _ (v 1 ⟨rfl, c.nm, rfl, _, rfl, fun h => (by cases h), fun _ => ws_nil ?_⟩))))))⟩
  refine ws_cons (ws_ret (ev_and (r_all g C (r_lc [("end", 2)] C (it_tup (slc2 (v 1 ⟨_, rfl, ?_, by decide, _, rfl, ?_⟩)))))))
  · show 3 ≤ 5
    decide
  refine lc_each (xs := [c.sn, c.rc]) eN.enc (fun x => .bool (decide (x ∈ hs))) (fun x hx X' C' => tn 2 sc_is_channel.nd fun X2 C2 => ev_c (ec_in C2.at eN (v 2 (v 0 ⟨x, hs, rfl, .inr rfl, rfl⟩)))) ?_
  refine ⟨[true, true], by simp [ho.sn, ho.rc], _, rfl, fun _ => ev_one (r_all g C (r_lc [("part", 3)] C (it_tup (slc (v 1 ⟨_, rfl, _, rfl, ?_⟩))))), fun h => (by cases h)⟩
  refine lc_each (xs := [c.od, c.nw]) dFm (fun x => .bool true) (fun x hx X' C' => tn 3 sc_is_channel.nd fun X2 C2 => ?_) ⟨[true, true], rfl, hκ⟩
  have fo : FormOk x := by
    simp at hx
    rcases hx with rfl | rfl
    · exact ho.od
    · exact ho.nw
  exact r_call P2 C2 (ea_one (v 3 ⟨x, rfl, fo.wr, fo.ne, fo.kn, fo.sub, fo.acc, rfl⟩))
def T_are_channels : Tp := fun Rs κ => ∃ (hs : Fs) (cs : List Ch), Rs = [dat (eF.enc hs), tu (cs.map dCh)] ∧ cs.length ≤ 40 ∧ (∀ c ∈ cs, ChOk hs c) ∧ asc eN (cs.map (·.nm)) = true ∧ κ (bl true)
theorem P_are_channels {G : Gb} (g : Gx G) (S : Std G "are_channels" "are_channels" s_are_channels) (P1 : Prom G "is_channel" 6 p_is_channel (SpF T_is_channel)) (P2 : Prom G "is_ascending" 1 p_is_ascending (SpF T_is_ascending)) : Prom G "are_channels" 7 p_are_channels (SpF T_are_channels) := by
  refine S.prom sc_are_channels (by rintro Rs κ ⟨_, _, rfl, _⟩; rfl) (fun _ _ _ _ _ _ us hl => match us, hl with | [_, _], _ => rfl) fun X f Rs κ C hU h => ?_
  obtain ⟨hs, cs, rfl, h1, h2, h3, hκ⟩ := h
  refine ws_cons (ws_if (et_w (ew_or (et_not (et_val (r_isT g C (v 1 ⟨_, rfl, ?_⟩)))))))
  refine ⟨_, rfl, fun h => (by cases h), fun _ => ew_or1 (et_c (ec_gtI (r_len g C (v 1 ⟨_, .inr rfl, gi C g.c_MOST_CHANNELS ⟨_, _, rfl, rfl, ?_⟩⟩))))⟩
  refine ⟨_, rfl, fun h => ?_, fun _ => ws_nil ?_⟩
  · rw [decide_eq_true_iff, List.length_map] at h
    exact absurd h (by omega)
  refine ws_cons (ws_ret (ev_and (r_all g C (r_lc [("part", 2)] C (it_tup (v 1 ⟨_, rfl, ?_⟩))))))
  refine lc_each dCh (fun x => .bool true) (fun x hx X' C' => tn 2 sc_are_channels.nd fun X2 C2 => r_call P1 C2 (ea2 (v 0 (v 2 ⟨hs, x, rfl, h2 x hx, rfl⟩)))) ?_
  refine ⟨cs.map fun _ => true, by rw [List.map_map]; rfl, _, rfl, fun _ => ev_one (r_call P2 C (ea_one (r_lc [("part", 2)] C (it_tup (v 1 ⟨_, rfl, ?_⟩))))), fun h => ?_⟩
  · refine lc_each dCh (fun x => eN.enc x.nm) (fun x hx X' C' => tn 2 sc_are_channels.nd fun X2 C2 => ixc _ (v 2 ⟨rfl, rfl⟩)) ?_
    exact ⟨Nm, eN, cs.map (·.nm), .inl (by rw [List.map_map]; rfl), fun x _ h => (by cases h), (by rw [h3]; exact hκ)⟩
  · rw [List.all_map] at h
    simp at h
/-! ### kinds, words -/
def kd (o n : Form) : Str := if acc n.rd o.wr then (if acc o.rd n.wr then "free" else "reader first") else (if acc o.rd n.wr then "writer first" else "split")
def T_kind : Tp := fun Rs κ => ∃ o n : Form, Rs = [dat (dFm o), dat (dFm n)] ∧ κ (st (kd o n))
theorem P_kind {G : Gb} (g : Gx G) (S : Std G "kind_by_formats" "kind_by_formats" s_kind_by_formats) (P1 : Prom G "accepts" 2 p_accepts (SpF T_accepts)) : Prom G "kind_by_formats" 3 p_kind_by_formats (SpF T_kind) := by
  refine S.prom sc_kind_by_formats (by rintro Rs κ ⟨_, _, rfl, _⟩; rfl) (fun _ _ _ _ _ _ us hl => match us, hl with | [_, _], _ => rfl) fun X f Rs κ C hU h => ?_
  obtain ⟨o, n, rfl, hκ⟩ := h
  refine ws_cons (w_par 2 3 C (ex_of (r_call P1 C (ea2 (slc (v 1 ⟨_, rfl, ixc _ (v 0 ⟨rfl, n.rd, o.wr, rfl, ex_of (r_call P1 C (ea2 (slc (v 0 ⟨_, rfl, ixc _ (v 1 ⟨rfl, o.rd, n.wr, rfl, ?_⟩)⟩))))⟩)⟩))))))
  unfold kd at hκ
  refine ws_cons (ws_if (et_val (v 2 ⟨_, rfl, fun h => ws_cons (ws_ret (ev_if (et_val (v 3 ⟨_, rfl, fun h' => gs C g.c_FREE ?_, fun h' => gs C g.c_READER_FIRST ?_⟩)))), fun h => ws_nil (ws_cons (ws_ret (ev_if (et_val (v 3 ⟨_, rfl, fun h' => gs C g.c_WRITER_FIRST ?_, fun h' => gs C g.c_SPLIT ?_⟩)))))⟩)))
  all_goals (rw [h, h'] at hκ; exact hκ)
def wSw : Nm := ⟨"switch", by decide +kernel⟩
def wRe : Nm := ⟨"read", by decide +kernel⟩
def wWi : Nm := ⟨"widen", by decide +kernel⟩
def wNa : Nm := ⟨"narrow", by decide +kernel⟩
def wordsOf (c : Ch) : List Nm := (if c.od.wr = c.nw.wr then [] else [wSw]) ++ (if c.od.rd = c.nw.rd then [] else if kd c.od c.nw = "split" then [wWi, wNa] else [wRe])
def T_words : Tp := fun Rs κ => ∃ c : Ch, Rs = [dat (dCh c)] ∧ κ (li ((wordsOf c).map eN.enc))
theorem P_words {G : Gb} (g : Gx G) (S : Std G "words_of" "words_of" s_words_of) (P1 : Prom G "kind_by_formats" 3 p_kind_by_formats (SpF T_kind)) : Prom G "words_of" 4 p_words_of (SpF T_words) := by
  refine S.prom sc_words_of (by rintro Rs κ ⟨_, rfl, _⟩; rfl) (fun _ _ _ _ _ _ us hl => match us, hl with | [_], _ => rfl) fun X f Rs κ C hU h => ?_
  obtain ⟨c, rfl, hκ⟩ := h
  refine ws_cons (w_par 2 3 C (ex_of (ixc _ (v 0 ⟨rfl, ex_of (ixc _ (v 0 ⟨rfl, ?_⟩))⟩))))
  -- the words found so far
  have main : ∀ fs : List Nm, fs.length ≤ 1 → wordsOf c = fs ++ (if c.od.rd = c.nw.rd then [] else if kd c.od c.nw = "split" then [wWi, wNa] else [wRe]) →
      WSs (mkX X n_words_of (defScope s_words_of)) f [some (.fz (dat (dCh c))), some (.ow (lstO (fs.map eN.enc))), some (.fz (dat (dFm c.od))), some (.fz (dat (dFm c.nw)))] ((defBody s_words_of).drop 2) { nx := fun _ => κ (dat .none), rt := κ } := fun fs hl hf => by
    have fin : ∀ gs : List Nm, wordsOf c = gs → WSs (mkX X n_words_of (defScope s_words_of)) f [some (.fz (dat (dCh c))), some (.ow (lstO (gs.map eN.enc))), some (.fz (dat (dFm c.od))), some (.fz (dat (dFm c.nw)))] ((defBody s_words_of).drop 3) { nx := fun _ => κ (dat .none), rt := κ } := fun gs hg => by
      subst hg
      exact ws_freeze 1 (lend_lst _) (ws_cons (ws_ret (v 1 hκ)))
    refine ws_cons (ws_if (et_c (ec_neE C.at eRd (slc (v 2 ⟨_, rfl, slc (v 3 ⟨_, rfl, c.od.rd, c.nw.rd, rfl, rfl, _, rfl, fun h => ?_, fun h => ?_⟩)⟩)))))
    · rw [Bool.not_eq_true', decide_eq_false_iff_not] at h
      rw [if_neg h] at hf
      refine ws_cons (w_extend 1 (ev_if (et_c (ec_eqS (r_call P1 C (ea2 (v 2 (v 3 ⟨c.od, c.nw, rfl, gs C g.c_SPLIT ⟨_, _, rfl, rfl, _, rfl, fun h => ?_, fun h => ?_⟩⟩)))))))) 
      · rw [decide_eq_true_iff] at h
        rw [if_pos h] at hf
        refine ev_lst (ea2 (gs C g.c_WIDEN (gs C g.c_NARROW ⟨[eN.enc wWi, eN.enc wNa], rfl, ?_, _, rfl, ?_, ?_⟩)))
        · show 2 ≤ 10000; decide
        · rw [List.length_map]; show fs.length + 2 ≤ 10000; omega
        · have := fin (fs ++ [wWi, wNa]) hf
          rw [List.map_append] at this
          exact ws_nil this
      · rw [decide_eq_false_iff_not] at h
        rw [if_neg h] at hf
        refine ev_lst (ea_one (gs C g.c_READ ⟨[eN.enc wRe], rfl, ?_, _, rfl, ?_, ?_⟩))
        · show 1 ≤ 10000; decide
        · rw [List.length_map]; show fs.length + 1 ≤ 10000; omega
        · have := fin (fs ++ [wRe]) hf
          rw [List.map_append] at this
          exact ws_nil this
    · rw [Bool.not_eq_false', decide_eq_true_iff] at h
      rw [if_pos h, List.append_nil] at hf
      exact ws_nil (fin fs hf)
  refine ws_cons (w_setX 1 (ex_if (et_c (ec_neE C.at eF (ixc _ (v 2 ⟨rfl, ixc _ (v 3 ⟨rfl, c.od.wr, c.nw.wr, rfl, rfl, _, rfl, fun h => ?_, fun h => ?_⟩)⟩))))))
  · rw [Bool.not_eq_true', decide_eq_false_iff_not] at h
    refine ex_lst (ea_one (gs C g.c_SWITCH ⟨[eN.enc wSw], rfl, ?_, ?_⟩))
    · show 1 ≤ 10000; decide
    · exact main [wSw] (by decide) (by unfold wordsOf; rw [if_neg h])
  · rw [Bool.not_eq_false', decide_eq_true_iff] at h
    exact ex_lst (ea_nil ⟨[], rfl, Nat.zero_le _, main [] (by decide) (by unfold wordsOf; rw [if_pos h])⟩)
end FR
set_option Elab.async false
set_option linter.all false
set_option maxRecDepth 100000
set_option maxHeartbeats 2000000
namespace FR
open PySem PySem.Spec PyProof.Rows L2
section
variable {X : Cx} {f : Fx} {ρ : Env} {e a b c : Expr} {es : List Expr} {s : Stmt} {ss : List Stmt} {κ : Rp → Prop} {Φ : Post} {pos p : Pos} {G : Gb} {k : Nat} {N : List Str} {sc : Scope}
theorem w_putT {x : Str} {p1 p2 : Pos} {value : Expr} {kvs : List (Pr × D)} (i : Nat) (C : Ctx G k X) (hl : kvs.length ≤ 10000)
    (h : EvE (mkX X N sc) f ρ value fun S => EvE (mkX X N sc) f ρ b fun R => ∃ p d, R = dat (eR.enc p) ∧ S = dat d ∧ Φ.nx (ρ.set i (some (.ow (dTO (pt kvs p d)))))) (hi : ρ[i]? = some (some (.ow (dTO kvs))) := by rfl) (hN : N[i]? = some x := by rfl) (hv : visB sc x = true := by decide +kernel) (hs : swapsWith value (some (.Subscript (.Name x p1) b p2)) pos.line (mkX X N sc).env = pure false := by rfl)
    (hd : (x == ("__debug__" : Str)) = false := by decide +kernel) (hcd : (x == ("__classdict__" : Str)) = false := by decide +kernel) : WS (mkX X N sc) f ρ (.Assign [.Subscript (.Name x p1) b p2] value pos) Φ := ws_putT i C.at hi hN (vis_of hv) hl h hs hd hcd
end
/-! ### steps -/
def chSteps (c : Ch) : List (Pr × Nm) := (srt eN (wordsOf c)).map fun w => ((c.nm, w), if w = wSw then c.sn else c.rc)
def stepsOf (cs : List Ch) : List (Pr × Nm) := cs.flatMap chSteps
def encV (kvs : List (Pr × Nm)) : List (Pr × D) := kvs.map fun p => (p.1, eN.enc p.2)
theorem words_len (c : Ch) : (wordsOf c).length ≤ 3 := by
  unfold wordsOf
  rw [List.length_append]
  have h1 : (if c.od.wr = c.nw.wr then [] else [wSw] : List Nm).length ≤ 1 := by split <;> simp
  have h2 : (if c.od.rd = c.nw.rd then [] else if kd c.od c.nw = "split" then [wWi, wNa] else [wRe] : List Nm).length ≤ 2 := by
    split
    · simp
    · split <;> simp
  omega
theorem words_nodup (c : Ch) : (wordsOf c).Nodup := by
  unfold wordsOf
  split <;> split <;> (try split) <;> decide +kernel
theorem chSteps_len (c : Ch) : (chSteps c).length ≤ 3 := by
  unfold chSteps
  rw [List.length_map, srt_length]
  exact words_len c
theorem steps_len (cs : List Ch) : (stepsOf cs).length ≤ 3 * cs.length := by
  induction cs with
  | nil => simp [stepsOf]
  | cons c cs ih =>
    have := chSteps_len c
    show (chSteps c ++ stepsOf cs).length ≤ _
    rw [List.length_append, List.length_cons]
    omega
theorem encV_keys (kvs : List (Pr × Nm)) : (encV kvs).map (·.1) = kvs.map (·.1) := by unfold encV; rw [List.map_map]; rfl
theorem steps_nm {cs : List Ch} {p : Pr} (h : p ∈ (stepsOf cs).map (·.1)) : ∃ c ∈ cs, p.1 = c.nm ∧ p.2 ∈ wordsOf c := by
  obtain ⟨q, hq, rfl⟩ := List.mem_map.mp h
  obtain ⟨c, hc, h⟩ := List.mem_flatMap.mp hq
  obtain ⟨w, hw, rfl⟩ := List.mem_map.mp h
  exact ⟨c, hc, rfl, (srt_mem eN).mp hw⟩
theorem steps_take {cs : List Ch} {i : Nat} {c : Ch} (h : cs[i]? = some c) : stepsOf (cs.take (i + 1)) = stepsOf (cs.take i) ++ chSteps c := by
  rw [take_more h]
  unfold stepsOf
  rw [List.flatMap_append]
  simp
theorem nodup_take {α : Type} {xs : List α} (h : xs.Nodup) {i : Nat} {x : α} (e : xs[i]? = some x) : x ∉ xs.take i := by
  intro hm
  have hl : i < xs.length := (List.getElem?_eq_some_iff.mp e).1
  have : xs = xs.take i ++ xs.drop i := (List.take_append_drop i xs).symm
  rw [this, List.nodup_append] at h
  refine h.2.2 x hm x ?_ rfl
  rw [List.drop_eq_getElem_cons hl]
  have := (List.getElem?_eq_some_iff.mp e).2
  rw [this]
  exact List.mem_cons_self
def T_steps (G : Gb) : Tp := fun Rs κ => ∃ S : Sys, Rs = [sysR G S] ∧ (S.cs.map (·.nm)).Nodup ∧ S.cs.length ≤ 40 ∧ κ (dTR (encV (stepsOf S.cs)))
theorem P_steps {G : Gb} (g : Gx G) (S : Std G "steps_with_owners" "steps_with_owners" s_steps_with_owners) (P1 : Prom G "words_of" 4 p_words_of (SpF T_words)) : Prom G "steps_with_owners" 5 p_steps_with_owners (SpF (T_steps G)) := by
  refine S.prom sc_steps_with_owners (by rintro Rs κ ⟨_, rfl, _⟩; rfl) (fun _ _ _ _ _ _ us hl => match us, hl with | [_], _ => rfl) fun X f Rs κ C hU h => ?_
  obtain ⟨S, rfl, nd, hl, hκ⟩ := h
  refine ws_cons (w_setX 1 (ex_newT ?_))
  refine ws_cons (w_for (S := List (Pr × Nm)) (fun i s => s = stepsOf (S.cs.take i)) (fun s => [some (.fz (sysR G S)), some (.ow (dTO (encV s))), none, none]) [2] C (it_tup (ev_chs C (v 0 ⟨rfl, _, rfl, ?_⟩))))
  refine ⟨⟨[], rfl, le_refl _⟩, fun i s d hd hi hs => ?_, fun s hs => ?_⟩
  · obtain ⟨c, hc, rfl⟩ := at_map hd
    subst hs
    have hm : c ∈ S.cs := List.mem_of_getElem? hc
    refine tn 2 sc_steps_with_owners.nd ?_
    refine ws_cons (w_for (S := List (Pr × Nm)) (fun j s => s = stepsOf (S.cs.take i) ++ (chSteps c).take j) (fun s => [some (.fz (sysR G S)), some (.ow (dTO (encV s))), some (.fz (dat (dCh c))), none]) [3] C (it_list (r_sorted g C (r_call P1 C (ea_one (v 2 ⟨c, rfl, Nm, eN, wordsOf c, gath_li _ _, sortOk_N _, ?_, _, rfl, ?_⟩))))))
    · have := words_len c; omega
    refine ⟨⟨stepsOf (S.cs.take i), by simp, le_refl _⟩, fun j t d hd hj ht => ?_, fun t ht => ?_⟩
    · obtain ⟨w, hw, rfl⟩ := at_map hd
      subst ht
      refine tn 3 sc_steps_with_owners.nd (ws_cons (w_putT 1 C ?_ ?_))
      · show (encV _).length ≤ _
        unfold encV
        have h1 := steps_len (S.cs.take i)
        have h2 := chSteps_len c
        have h3 : (S.cs.take i).length ≤ S.cs.length := by rw [List.length_take]; omega
        have h4 : ((chSteps c).take j).length ≤ (chSteps c).length := by rw [List.length_take]; omega
        rw [List.length_map, List.length_append]
        omega
      · have he : (chSteps c)[j]? = some ((c.nm, w), if w = wSw then c.sn else c.rc) := by
          unfold chSteps
          rw [List.getElem?_map, hw]; rfl
        have e : pt (encV (stepsOf (S.cs.take i) ++ (chSteps c).take j)) (c.nm, w) (eN.enc (if w = wSw then c.sn else c.rc)) = encV (stepsOf (S.cs.take i) ++ (chSteps c).take (j + 1)) := by
          rw [pt_new]
          · unfold encV
            rw [take_more he, ← List.append_assoc, List.map_append (l₁ := _ ++ _)]
            rfl
          · rw [encV_keys, List.map_append]
            intro hm2
            rcases List.mem_append.mp hm2 with h | h
            · obtain ⟨c', hc', e1, _⟩ := steps_nm h
              have nt := nodup_take nd (i := i) (x := c.nm) (by rw [List.getElem?_map, hc]; rfl)
              exact nt (by rw [← List.map_take]; exact List.mem_map.mpr ⟨c', hc', e1.symm⟩)
            · have nw : ((chSteps c).map (·.1)).Nodup := by
                unfold chSteps
                rw [List.map_map]
                refine List.pairwise_map.mpr ((srt_perm eN (wordsOf c)).nodup_iff.mpr (words_nodup c) |>.imp fun hne e => hne (Prod.ext_iff.mp e).2)
              have nt := nodup_take nw (i := j) (x := (c.nm, w)) (by rw [List.getElem?_map, he]; rfl)
              exact nt (by rw [← List.map_take]; exact h)
        refine ev_if (et_c (ec_eqE C.at eN (v 3 (gs C g.c_SWITCH ⟨w, wSw, rfl, rfl, _, rfl, fun h => ?_, fun h => ?_⟩))))
        · rw [decide_eq_true_iff] at h
          rw [if_pos h] at e
          exact ixc _ (v 2 ⟨rfl, ev_tup (ea2 (ixc _ (v 2 ⟨rfl, v 3 ⟨[eN.enc c.nm, eN.enc w], rfl, (by show 2 ≤ 10000; decide), (c.nm, w), _, rfl, rfl, (by rw [e]; exact ws_nil ⟨_, rfl, le_keep (le_keep (le_keep (le_drop le_nil)))⟩)⟩⟩)))⟩)
        · rw [decide_eq_false_iff_not] at h
          rw [if_neg h] at e
          exact ixc _ (v 2 ⟨rfl, ev_tup (ea2 (ixc _ (v 2 ⟨rfl, v 3 ⟨[eN.enc c.nm, eN.enc w], rfl, (by show 2 ≤ 10000; decide), (c.nm, w), _, rfl, rfl, (by rw [e]; exact ws_nil ⟨_, rfl, le_keep (le_keep (le_keep (le_drop le_nil)))⟩)⟩⟩)))⟩)
    · subst ht
      refine ws_nil ⟨_, ?_, le_keep (le_keep (le_drop (le_drop le_nil)))⟩
      rw [steps_take hc, List.length_map]
      congr 1
      rw [List.take_of_length_le]
      unfold chSteps
      rw [List.length_map]
      exact Nat.le_refl _
  · subst hs
    rw [List.length_map, List.take_length]
    exact ws_frz 1 (frz_dT _) (ws_cons (ws_ret (v 1 hκ)))
end FR
set_option Elab.async false
set_option linter.all false
set_option maxRecDepth 100000
set_option maxHeartbeats 2000000
namespace FR
open PySem PySem.Spec PyProof.Rows L2
def keysOf (cs : List Ch) : List Pr := (stepsOf cs).map (·.1)
/-- what most defs ask of a system -/
structure Sys.Fit (S : Sys) : Prop where
  nd : (S.cs.map (·.nm)).Nodup
  len : S.cs.length ≤ 40
def T_all_steps (G : Gb) : Tp := fun Rs κ => ∃ S : Sys, Rs = [sysR G S] ∧ S.Fit ∧ κ (tu ((keysOf S.cs).map eR.enc))
theorem P_all_steps {G : Gb} (g : Gx G) (S : Std G "all_steps" "all_steps" s_all_steps) (P1 : Prom G "steps_with_owners" 5 p_steps_with_owners (SpF (T_steps G))) : Prom G "all_steps" 6 p_all_steps (SpF (T_all_steps G)) := by
  refine S.prom sc_all_steps (by rintro Rs κ ⟨_, rfl, _⟩; rfl) (fun _ _ _ _ _ _ us hl => match us, hl with | [_], _ => rfl) fun X f Rs κ C hU h => ?_
  obtain ⟨S, rfl, ft, hκ⟩ := h
  refine ws_cons (ws_ret (r_tupD g C (r_call P1 C (ea_one (v 0 ⟨S, rfl, ft.nd, ft.len, _, .inl rfl, ?_, ?_⟩)))))
  · unfold encV
    have := steps_len S.cs
    have := ft.len
    rw [List.length_map]; omega
  · have e : (encV (stepsOf S.cs)).map (fun q => eR.enc q.1) = (keysOf S.cs).map eR.enc := by
      unfold encV keysOf
      rw [List.map_map, List.map_map]; rfl
    rw [e]; exact hκ
def T_is_service (G : Gb) : Tp := fun Rs κ => ∃ (S : Sys) (x : Nm), Rs = [sysR G S, dat (eN.enc x)] ∧ κ (bl (decide (x ∈ S.hs)))
theorem P_is_service {G : Gb} (g : Gx G) (S : Std G "is_service" "is_service" s_is_service) : Prom G "is_service" 1 p_is_service (SpF (T_is_service G)) := by
  refine S.prom sc_is_service (by rintro Rs κ ⟨_, _, rfl, _⟩; rfl) (fun _ _ _ _ _ _ us hl => match us, hl with | [_, _], _ => rfl) fun X f Rs κ C hU h => ?_
  obtain ⟨S, x, rfl, hκ⟩ := h
  exact ws_cons (ws_ret (ev_and (r_isS g C (v 1 ⟨eN.enc x, rfl, _, rfl, fun _ => ev_one (ev_c (ec_in C.at eN (v 1 (ev_svc C (v 0 ⟨rfl, x, S.hs, rfl, .inr rfl, hκ⟩))))), fun h => (by cases h)⟩))))
def ownSteps (cs : List Ch) (x : Nm) : List Pr := ((stepsOf cs).filter fun p => decide (p.2 = x)).map (·.1)
def T_steps_of (G : Gb) : Tp := fun Rs κ => ∃ (S : Sys) (x : Nm), Rs = [sysR G S, dat (eN.enc x)] ∧ S.Fit ∧ x ∈ S.hs ∧ κ (tu ((ownSteps S.cs x).map eR.enc))
theorem P_steps_of {G : Gb} (g : Gx G) (S : Std G "steps_of" "steps_of" s_steps_of) (P1 : Prom G "steps_with_owners" 5 p_steps_with_owners (SpF (T_steps G))) (P2 : Prom G "is_service" 1 p_is_service (SpF (T_is_service G))) : Prom G "steps_of" 6 p_steps_of (SpF (T_steps_of G)) := by
  refine S.prom sc_steps_of (by rintro Rs κ ⟨_, _, rfl, _⟩; rfl) (fun _ _ _ _ _ _ us hl => match us, hl with | [_, _], _ => rfl) fun X f Rs κ C hU h => ?_
  obtain ⟨S, x, rfl, ft, hx, hκ⟩ := h
  refine ws_cons (ws_if (et_not (et_val (r_call P2 C (ea2 (v 0 (v 1 ⟨S, x, rfl, _, rfl, fun h => ?_, fun h => ws_nil ?_⟩)))))))
  · rw [decide_eq_true hx] at h; cases h
  refine ws_cons (ws_ret (r_tuple g C (r_lc [("step", 2), ("owner", 3)] C (it_itemsT (r_call P1 C (ea_one (v 0 ⟨S, rfl, ft.nd, ft.len, _, rfl, ?_⟩)))))))
  have e : (encV (stepsOf S.cs)).map (fun p => PyData.tuple [eR.enc p.1, p.2]) = (stepsOf S.cs).map fun p => PyData.tuple [eR.enc p.1, eN.enc p.2] := by
    unfold encV
    rw [List.map_map]; rfl
  rw [e]
  refine lc_mapT (fun p : Pr × Nm => .tuple [eR.enc p.1, eN.enc p.2]) (fun p => decide (p.2 = x)) (fun p => eR.enc p.1) (fun p hp X' C' => at_tup C'.calm rfl (ats_cons (tn 2 sc_steps_of.nd (ats_cons (tn 3 sc_steps_of.nd (ats_nil fun X2 C2 => ts_one (et_c (ec_eqE C2.at eN (v 3 (v 1 ⟨p.2, x, rfl, rfl, _, rfl, rfl, fun _ X4 C4 => v 2 rfl⟩)))))))))) ?_
  refine ⟨_, .inl rfl, ?_⟩
  have e2 : ((stepsOf S.cs).filter fun p => decide (p.2 = x)).map (fun p => eR.enc p.1) = (ownSteps S.cs x).map eR.enc := by
    unfold ownSteps
    rw [List.map_map]; rfl
  rw [e2]; exact hκ
/-! ### order pairs -/
abbrev Op2 := Pr × Pr
theorem dR (x : Pr) : (eR.enc x).depth ≤ 19 := by
  show PyData.depth (.tuple [.str _, .str _]) ≤ 19
  simp [PyData.depth, PyData.depthAll]
def eQ : Enc Op2 := eP eR eR dR dR
theorem sortOk_Q (xs : List Op2) : SortOk eQ xs := ⟨fun _ _ h => (by cases h), .inr (.inl fun x _ => ⟨_, _, rfl⟩)⟩
def pairsOf (c : Ch) : List Op2 :=
  if kd c.od c.nw = "reader first" then [((c.nm, wRe), (c.nm, wSw))]
  else if kd c.od c.nw = "writer first" then [((c.nm, wSw), (c.nm, wRe))]
  else if kd c.od c.nw = "split" then [((c.nm, wSw), (c.nm, wNa)), ((c.nm, wWi), (c.nm, wSw))]
  else []
theorem pairs_len (c : Ch) : (pairsOf c).length ≤ 2 := by
  unfold pairsOf
  split
  · simp
  · split
    · simp
    · split <;> simp
def T_pairs_of : Tp := fun Rs κ => ∃ c : Ch, Rs = [dat (dCh c)] ∧ κ (li ((pairsOf c).map eQ.enc))
theorem P_pairs_of {G : Gb} (g : Gx G) (S : Std G "pairs_of" "pairs_of" s_pairs_of) (P1 : Prom G "kind_by_formats" 3 p_kind_by_formats (SpF T_kind)) : Prom G "pairs_of" 4 p_pairs_of (SpF T_pairs_of) := by
  refine S.prom sc_pairs_of (by rintro Rs κ ⟨_, rfl, _⟩; rfl) (fun _ _ _ _ _ _ us hl => match us, hl with | [_], _ => rfl) fun X f Rs κ C hU h => ?_
  obtain ⟨c, rfl, hκ⟩ := h
  refine ws_cons (w_par 1 2 C (ex_of (ixc _ (v 0 ⟨rfl, ex_of (r_call P1 C (ea2 (ixc _ (v 0 ⟨rfl, ixc _ (v 0 ⟨rfl, c.od, c.nw, rfl, ?_⟩)⟩))))⟩))))
  have two : ∀ (x y : Nm) (Q : Rp → Prop), Q (dat (eR.enc (x, y))) → Q (tu [eN.enc x, eN.enc y]) := fun _ _ _ h => h
  unfold pairsOf at hκ
  refine ws_cons (ws_if (et_c (ec_eqS (v 2 (gs C g.c_READER_FIRST ⟨_, _, rfl, rfl, _, rfl, fun h => ?_, fun h => ws_nil ?_⟩)))))
  · rw [decide_eq_true_iff] at h
    rw [if_pos h] at hκ
    refine ws_cons (ws_ret (ev_lst (ea_one (ev_tup (ea2 (ev_tup (ea2 (v 1 (gs C g.c_READ ⟨[eN.enc c.nm, eN.enc wRe], rfl, by show 2 ≤ 10000; decide, ?_⟩))))))))) 
    refine ev_tup (ea2 (v 1 (gs C g.c_SWITCH ⟨[eN.enc c.nm, eN.enc wSw], rfl, by show 2 ≤ 10000; decide, [eR.enc (c.nm, wRe), eR.enc (c.nm, wSw)], rfl, by show 2 ≤ 10000; decide, [eQ.enc ((c.nm, wRe), (c.nm, wSw))], rfl, by show 1 ≤ 10000; decide, hκ⟩)))
  rw [decide_eq_false_iff_not] at h
  rw [if_neg h] at hκ
  refine ws_cons (ws_if (et_c (ec_eqS (v 2 (gs C g.c_WRITER_FIRST ⟨_, _, rfl, rfl, _, rfl, fun h => ?_, fun h => ws_nil ?_⟩)))))
  · rw [decide_eq_true_iff] at h
    rw [if_pos h] at hκ
    refine ws_cons (ws_ret (ev_lst (ea_one (ev_tup (ea2 (ev_tup (ea2 (v 1 (gs C g.c_SWITCH ⟨[eN.enc c.nm, eN.enc wSw], rfl, by show 2 ≤ 10000; decide, ?_⟩))))))))) 
    refine ev_tup (ea2 (v 1 (gs C g.c_READ ⟨[eN.enc c.nm, eN.enc wRe], rfl, by show 2 ≤ 10000; decide, [eR.enc (c.nm, wSw), eR.enc (c.nm, wRe)], rfl, by show 2 ≤ 10000; decide, [eQ.enc ((c.nm, wSw), (c.nm, wRe))], rfl, by show 1 ≤ 10000; decide, hκ⟩)))
  rw [decide_eq_false_iff_not] at h
  rw [if_neg h] at hκ
  refine ws_cons (ws_if (et_c (ec_eqS (v 2 (gs C g.c_SPLIT ⟨_, _, rfl, rfl, _, rfl, fun h => ?_, fun h => ws_nil ?_⟩)))))
  · rw [decide_eq_true_iff] at h
    rw [if_pos h] at hκ
    refine ws_cons (ws_ret (ev_lst (ea2 (ev_tup (ea2 (ev_tup (ea2 (v 1 (gs C g.c_SWITCH ⟨[eN.enc c.nm, eN.enc wSw], rfl, by show 2 ≤ 10000; decide, ?_⟩))))))))) 
    refine ev_tup (ea2 (v 1 (gs C g.c_NARROW ⟨[eN.enc c.nm, eN.enc wNa], rfl, by show 2 ≤ 10000; decide, [eR.enc (c.nm, wSw), eR.enc (c.nm, wNa)], rfl, by show 2 ≤ 10000; decide, ?_⟩)))
    refine ev_tup (ea2 (ev_tup (ea2 (v 1 (gs C g.c_WIDEN ⟨[eN.enc c.nm, eN.enc wWi], rfl, by show 2 ≤ 10000; decide, ?_⟩))))) 
    exact ev_tup (ea2 (v 1 (gs C g.c_SWITCH ⟨[eN.enc c.nm, eN.enc wSw], rfl, by show 2 ≤ 10000; decide, [eR.enc (c.nm, wWi), eR.enc (c.nm, wSw)], rfl, by show 2 ≤ 10000; decide, [eQ.enc ((c.nm, wSw), (c.nm, wNa)), eQ.enc ((c.nm, wWi), (c.nm, wSw))], rfl, by show 2 ≤ 10000; decide, hκ⟩)))
  rw [decide_eq_false_iff_not] at h
  rw [if_neg h] at hκ
  exact ws_cons (ws_ret (ev_lst (ea_nil ⟨[], rfl, Nat.zero_le _, hκ⟩)))
def orderPairs (cs : List Ch) : List Op2 := srt eQ (cs.flatMap pairsOf)
def T_order_pairs (G : Gb) : Tp := fun Rs κ => ∃ S : Sys, Rs = [sysR G S] ∧ S.cs.length ≤ 40 ∧ κ (tu ((orderPairs S.cs).map eQ.enc))
theorem flat_len {α : Type} {g : Ch → List α} {n : Nat} (h : ∀ c, (g c).length ≤ n) (cs : List Ch) : (cs.flatMap g).length ≤ n * cs.length := by
  induction cs with
  | nil => simp
  | cons c cs ih =>
    rw [List.flatMap_cons, List.length_append, List.length_cons, Nat.mul_succ]
    have := h c
    omega
theorem flat_take {α : Type} {g : Ch → List α} {cs : List Ch} {i : Nat} {c : Ch} (h : cs[i]? = some c) : (cs.take (i + 1)).flatMap g = (cs.take i).flatMap g ++ g c := by
  rw [take_more h, List.flatMap_append]
  simp
theorem P_order_pairs {G : Gb} (g : Gx G) (S : Std G "order_pairs" "order_pairs" s_order_pairs) (P1 : Prom G "pairs_of" 4 p_pairs_of (SpF T_pairs_of)) : Prom G "order_pairs" 5 p_order_pairs (SpF (T_order_pairs G)) := by
  refine S.prom sc_order_pairs (by rintro Rs κ ⟨_, rfl, _⟩; rfl) (fun _ _ _ _ _ _ us hl => match us, hl with | [_], _ => rfl) fun X f Rs κ C hU h => ?_
  obtain ⟨S, rfl, hl, hκ⟩ := h
  refine ws_cons (w_setX 1 (ex_lst (ea_nil ⟨[], rfl, Nat.zero_le _, ?_⟩)))
  refine ws_cons (w_for (S := List Op2) (fun i s => s = (S.cs.take i).flatMap pairsOf) (fun s => [some (.fz (sysR G S)), some (.ow (lstO (s.map eQ.enc))), none]) [2] C (it_tup (ev_chs C (v 0 ⟨rfl, _, rfl, ?_⟩))))
  refine ⟨⟨[], rfl, le_refl _⟩, fun i s d hd hi hs => ?_, fun s hs => ?_⟩
  · obtain ⟨c, hc, rfl⟩ := at_map hd
    subst hs
    refine tn 2 sc_order_pairs.nd (ws_cons (w_extend 1 (r_call P1 C (ea_one (v 2 ⟨c, rfl, _, rfl, ?_, ws_nil ⟨_, rfl, ?_⟩⟩)))))
    · have h1 := flat_len pairs_len (S.cs.take i)
      have h2 := pairs_len c
      have h3 : (S.cs.take i).length ≤ S.cs.length := by rw [List.length_take]; omega
      rw [List.length_map, List.length_map]; omega
    · rw [flat_take hc, List.map_append]
      exact le_keep (le_keep (le_drop le_nil))
  · subst hs
    rw [List.length_map, List.take_length]
    refine ws_freeze 1 (lend_lst _) (ws_cons (ws_ret (r_tuple g C (r_sorted g C (v 1 ⟨Op2, eQ, _, gath_li _ _, sortOk_Q _, ?_, _, .inl rfl, hκ⟩)))))
    have := flat_len pairs_len S.cs
    omega
def T_left_pairs (G : Gb) : Tp := fun Rs κ => ∃ (S : Sys) (left : List Pr), Rs = [sysR G S, tu (left.map eR.enc)] ∧ S.cs.length ≤ 40 ∧ κ (li (((orderPairs S.cs).filter fun p => decide (p.1 ∈ left)).map eQ.enc))
theorem P_left_pairs {G : Gb} (g : Gx G) (S : Std G "left_pairs" "left_pairs" s_left_pairs) (P1 : Prom G "order_pairs" 5 p_order_pairs (SpF (T_order_pairs G))) : Prom G "left_pairs" 6 p_left_pairs (SpF (T_left_pairs G)) := by
  refine S.prom sc_left_pairs (by rintro Rs κ ⟨_, _, rfl, _⟩; rfl) (fun _ _ _ _ _ _ us hl => match us, hl with | [_, _], _ => rfl) fun X f Rs κ C hU h => ?_
  obtain ⟨S, left, rfl, hl, hκ⟩ := h
  refine ws_cons (ws_ret (r_lc [("pair", 2)] C (it_tup (r_call P1 C (ea_one (v 0 ⟨S, rfl, hl, _, rfl, ?_⟩))))))
  exact lc_mapT eQ.enc (fun p => decide (p.1 ∈ left)) eQ.enc (fun p hp X' C' => tn 2 sc_left_pairs.nd fun X2 C2 => ts_one (et_c (ec_in C2.at eR (ixc _ (v 2 ⟨rfl, v 1 ⟨p.1, left, rfl, .inr rfl, _, rfl, rfl, fun _ X4 C4 => v 2 rfl⟩⟩))))) hκ
def T_are_steps : Tp := fun Rs κ => ∃ some value : List Pr, Rs = [tu (some.map eR.enc), tu (value.map eR.enc)] ∧ (∀ p ∈ value, p ∈ some) ∧ asc eR value = true ∧ κ (bl true)
theorem P_are_steps {G : Gb} (g : Gx G) (S : Std G "are_steps" "are_steps" s_are_steps) (P1 : Prom G "is_ascending" 1 p_is_ascending (SpF T_is_ascending)) : Prom G "are_steps" 2 p_are_steps (SpF T_are_steps) := by
  refine S.prom sc_are_steps (by rintro Rs κ ⟨_, _, rfl, _⟩; rfl) (fun _ _ _ _ _ _ us hl => match us, hl with | [_, _], _ => rfl) fun X f Rs κ C hU h => ?_
  obtain ⟨sm, vl, rfl, h1, h2, hκ⟩ := h
  refine ws_cons (ws_if (et_not (et_val (r_isT g C (v 1 ⟨.tuple (vl.map eR.enc), rfl, true, rfl, fun h => (by cases h), fun _ => ws_nil ?_⟩)))))
  refine ws_cons (w_for (S := Unit) (fun i s => True) (fun s => [some (.fz (tu (sm.map eR.enc))), some (.fz (tu (vl.map eR.enc))), none, none]) [2] C (it_tup (v 1 ⟨_, rfl, ?_⟩)))
  refine ⟨⟨(), trivial, le_refl _⟩, fun i s d hd hi hs => ?_, fun s hs => ?_⟩
  · obtain ⟨p, hp, rfl⟩ := at_map hd
    have hm : p ∈ vl := List.mem_of_getElem? hp
    refine tn 2 sc_are_steps.nd (ws_cons (ws_if (et_w (ew_or (et_not (et_val (r_isT g C (v 2 ⟨eR.enc p, rfl, true, rfl, fun h => (by cases h), fun _ => ?_⟩))))))))
    refine ew_or (et_not (et_val (r_all g C (r_lc [("word", 3)] C (it_tup (v 2 ⟨_, rfl, ?_⟩))))))
    refine lc_each (xs := [p.1, p.2]) eN.enc (fun x => .bool true) (fun x hx X' C' => tn 3 sc_are_steps.nd fun X2 C2 => r_isS g C2 (v 3 ⟨_, rfl, rfl⟩)) ?_
    refine ⟨[true, true], rfl, _, rfl, fun h => (by cases h), fun _ => ew_or1 (et_c (ec_notIn C.at eR (v 2 (v 0 ⟨p, sm, rfl, .inr rfl, _, rfl, fun h => ?_, fun h => ws_nil (ws_nil ⟨(), trivial, le_keep (le_keep (le_drop (le_keep le_nil)))⟩)⟩))))⟩
    simp [h1 p hm] at h
  · exact ws_cons (ws_ret (r_call P1 C (ea_one (v 1 ⟨Pr, eR, vl, .inr rfl, fun x _ h => (by cases h), (by rw [h2]; exact hκ)⟩))))
def T_channel_of (G : Gb) : Tp := fun Rs κ => ∃ (S : Sys) (x : Nm) (c : Ch), Rs = [sysR G S, dat (eN.enc x)] ∧ (S.cs.find? fun c => decide (c.nm = x)) = some c ∧ κ (dat (dCh c))
theorem P_channel_of {G : Gb} (g : Gx G) (S : Std G "channel_of" "channel_of" s_channel_of) (P1 : Prom G "is_name" 1 p_is_name (SpF T_is_name)) : Prom G "channel_of" 2 p_channel_of (SpF (T_channel_of G)) := by
  refine S.prom sc_channel_of (by rintro Rs κ ⟨_, _, _, rfl, _⟩; rfl) (fun _ _ _ _ _ _ us hl => match us, hl with | [_, _], _ => rfl) fun X f Rs κ C hU h => ?_
  obtain ⟨S, x, c, rfl, hf, hκ⟩ := h
  refine ws_cons (w_for (S := Unit) (fun i s => ∀ b ∈ S.cs.take i, b.nm ≠ x) (fun s => [some (.fz (sysR G S)), some (.fz (dat (eN.enc x))), none]) [2] C (it_tup (ev_chs C (v 0 ⟨rfl, _, rfl, ?_⟩))))
  refine ⟨⟨(), fun b hb => (by simp at hb), le_refl _⟩, fun i s d hd hi hs => ?_, fun s hs => ?_⟩
  · obtain ⟨b, hb, rfl⟩ := at_map hd
    refine tn 2 sc_channel_of.nd (ws_cons (ws_if (et_w (ew_and (et_c (ec_eqE C.at eN (ixc _ (v 2 ⟨rfl, v 1 ⟨b.nm, x, rfl, rfl, _, rfl, fun h => ?_, fun h => ?_⟩⟩))))))))
    · refine ew_and1 (et_val (r_call P1 C (ea_one (v 1 ⟨x, rfl, true, rfl, fun _ => ?_, fun h => (by cases h)⟩))))
      rw [decide_eq_true_iff] at h
      have e : b = c := by
        have hsp : S.cs = S.cs.take i ++ b :: S.cs.drop (i + 1) := by
          have hl : i < S.cs.length := (List.getElem?_eq_some_iff.mp hb).1
          have := (List.take_append_drop i S.cs).symm
          rw [List.drop_eq_getElem_cons hl, (List.getElem?_eq_some_iff.mp hb).2] at this
          exact this
        rw [hsp, List.find?_append, List.find?_eq_none.mpr (fun a ha => by simpa using hs a ha), Option.none_or, List.find?_cons, decide_eq_true h] at hf
        exact Option.some.inj hf
      subst e
      exact ws_cons (ws_ret (v 2 hκ))
    · rw [decide_eq_false_iff_not] at h
      refine ⟨fun h => (by cases h), fun _ => ws_nil (ws_nil ⟨(), ?_, le_keep (le_keep (le_drop le_nil))⟩)⟩
      intro a ha
      rw [take_more hb] at ha
      rcases List.mem_append.mp ha with ha | ha
      · exact hs a ha
      · rw [List.mem_singleton] at ha; rw [ha]; exact h
  · exfalso
    rw [List.length_map, List.take_length] at hs
    have h1 := List.find?_some hf
    exact hs c (List.mem_of_find?_eq_some hf) (of_decide_eq_true h1)
end FR
set_option Elab.async false
set_option linter.all false
set_option maxRecDepth 100000
set_option maxHeartbeats 2000000
namespace FR
open PySem PySem.Spec PyProof.Rows L2
/-! ### moments -/
abbrev Done := List Pr
def wrAt (c : Ch) (d : Done) : Fs := if (c.nm, wSw) ∈ d then c.nw.wr else c.od.wr
def rdAt (c : Ch) (d : Done) : Fs × Fs := if (c.nm, wRe) ∈ d ∨ (c.nm, wNa) ∈ d then c.nw.rd else if (c.nm, wWi) ∈ d then wid c.od.rd c.nw.rd else c.od.rd
structure Ch.Fit (c : Ch) : Prop where
  o : c.od.kn.length ≤ 100
  n : c.nw.kn.length ≤ 100
def eS : Enc Done := eT eR dR
theorem mem_dec {p : Pr} {d : Done} {x : Bool} (h : decide (p ∈ d) = x) : (x = true ∧ p ∈ d) ∨ (x = false ∧ p ∉ d) := by
  cases x with
  | true => exact .inl ⟨rfl, of_decide_eq_true h⟩
  | false => exact .inr ⟨rfl, of_decide_eq_false h⟩
def T_written_at : Tp := fun Rs κ => ∃ (c : Ch) (d : Done), Rs = [dat (dCh c), dat (eS.enc d)] ∧ κ (dat (eF.enc (wrAt c d)))
theorem P_written_at {G : Gb} (g : Gx G) (S : Std G "written_at" "written_at" s_written_at) : Prom G "written_at" 1 p_written_at (SpF T_written_at) := by
  refine S.prom sc_written_at (by rintro Rs κ ⟨_, _, rfl, _⟩; rfl) (fun _ _ _ _ _ _ us hl => match us, hl with | [_, _], _ => rfl) fun X f Rs κ C hU h => ?_
  obtain ⟨c, d, rfl, hκ⟩ := h
  unfold wrAt at hκ
  refine ws_cons (ws_ret (ev_if (et_c (ec_in C.at eR (ev_tup (ea2 (ixc _ (v 0 ⟨rfl, gs C g.c_SWITCH ⟨[eN.enc c.nm, eN.enc wSw], rfl, by show 2 ≤ 10000; decide, v 1 ⟨(c.nm, wSw), d, rfl, .inr rfl, _, rfl, fun h => ?_, fun h => ?_⟩⟩⟩))))))))
  · rw [decide_eq_true_iff] at h
    rw [if_pos h] at hκ
    exact ixc _ (ixc _ (v 0 ⟨rfl, rfl, hκ⟩))
  · rw [decide_eq_false_iff_not] at h
    rw [if_neg h] at hκ
    exact ixc _ (ixc _ (v 0 ⟨rfl, rfl, hκ⟩))
def T_reader_at : Tp := fun Rs κ => ∃ (c : Ch) (d : Done), Rs = [dat (dCh c), dat (eS.enc d)] ∧ c.Fit ∧ κ (dat (eRd.enc (rdAt c d)))
theorem P_reader_at {G : Gb} (g : Gx G) (S : Std G "reader_at" "reader_at" s_reader_at) (P1 : Prom G "widened" 1 p_widened (SpF T_widened)) : Prom G "reader_at" 2 p_reader_at (SpF T_reader_at) := by
  refine S.prom sc_reader_at (by rintro Rs κ ⟨_, _, rfl, _⟩; rfl) (fun _ _ _ _ _ _ us hl => match us, hl with | [_, _], _ => rfl) fun X f Rs κ C hU h => ?_
  obtain ⟨c, d, rfl, ft, hκ⟩ := h
  unfold rdAt at hκ
  refine ws_cons (w_par 2 3 C (ex_of (slc (ixc _ (v 0 ⟨rfl, _, rfl, ex_of (slc (ixc _ (v 0 ⟨rfl, _, rfl, ?_⟩)))⟩)))))
  have pr : ∀ {w : Nm} {ρ : Env} {X' : Cx} {e : Expr} {κ' : Rp → Prop}, True := fun {_ _ _ _ _} => trivial
  refine ws_cons (ws_if (et_w (ew_or (et_c (ec_in C.at eR (ev_tup (ea2 (ixc _ (v 0 ⟨rfl, gs C g.c_READ ⟨[eN.enc c.nm, eN.enc wRe], rfl, by show 2 ≤ 10000; decide, v 1 ⟨(c.nm, wRe), d, rfl, .inr rfl, _, rfl, fun h => ?_, fun h => ?_⟩⟩⟩)))))))))
  · rw [decide_eq_true_iff] at h
    rw [if_pos (.inl h)] at hκ
    exact ⟨fun _ => ws_cons (ws_ret (v 3 hκ)), fun h => (by cases h)⟩
  · rw [decide_eq_false_iff_not] at h
    refine ew_or1 (et_c (ec_in C.at eR (ev_tup (ea2 (ixc _ (v 0 ⟨rfl, gs C g.c_NARROW ⟨[eN.enc c.nm, eN.enc wNa], rfl, by show 2 ≤ 10000; decide, v 1 ⟨(c.nm, wNa), d, rfl, .inr rfl, _, rfl, fun h' => ?_, fun h' => ws_nil ?_⟩⟩⟩))))))
    · rw [decide_eq_true_iff] at h'
      rw [if_pos (.inr h')] at hκ
      exact ws_cons (ws_ret (v 3 hκ))
    · rw [decide_eq_false_iff_not] at h'
      rw [if_neg (fun q => q.elim h h')] at hκ
      refine ws_cons (ws_ret (ev_if (et_c (ec_in C.at eR (ev_tup (ea2 (ixc _ (v 0 ⟨rfl, gs C g.c_WIDEN ⟨[eN.enc c.nm, eN.enc wWi], rfl, by show 2 ≤ 10000; decide, v 1 ⟨(c.nm, wWi), d, rfl, .inr rfl, _, rfl, fun h2 => ?_, fun h2 => ?_⟩⟩⟩))))))))
      · rw [decide_eq_true_iff] at h2
        rw [if_pos h2] at hκ
        exact r_call P1 C (ea2 (v 2 (v 3 ⟨c.od.rd, c.nw.rd, rfl, ft.o, ft.n, hκ⟩)))
      · rw [decide_eq_false_iff_not] at h2
        rw [if_neg h2] at hκ
        exact v 2 hκ
/-- what runs: a service and its new steps -/
abbrev Run := Nm × Done
def vers (d : Done) (r : Run) (x : Nm) : List Done := if x = r.1 then [d, d ++ r.2] else [d]
def runR (r : Run) : Rp := dKL nmK [(r.1, eS.enc r.2)]
def T_versions_of : Tp := fun Rs κ => ∃ (d : Done) (r : Run) (x : Nm), Rs = [dat (eS.enc d), runR r, dat (eN.enc x)] ∧ d.length + r.2.length ≤ 10000 ∧ κ (li ((vers d r x).map eS.enc))
theorem gt_one {x y : Nm} {d : D} : gt [(x, d)] y = if y = x then some d else none := by
  unfold gt
  by_cases h : y = x
  · subst h; simp
  · have : ¬ x = y := fun e => h e.symm
    simp [h, this]
theorem P_versions_of {G : Gb} (g : Gx G) (S : Std G "versions_of" "versions_of" s_versions_of) : Prom G "versions_of" 1 p_versions_of (SpF T_versions_of) := by
  refine S.prom sc_versions_of (by rintro Rs κ ⟨_, _, _, rfl, _⟩; rfl) (fun _ _ _ _ _ _ us hl => match us, hl with | [_, _, _], _ => rfl) fun X f Rs κ C hU h => ?_
  obtain ⟨d, r, x, rfl, hl, hκ⟩ := h
  unfold vers at hκ
  refine ws_cons (ws_ret (ev_if (et_c (ec_inK nmK_inj C.at (v 2 (v 1 ⟨_, x, x.1, rfl, rfl, .inr rfl, _, rfl, fun h => ?_, fun h => ?_⟩))))))
  · rw [gt_one] at h
    by_cases hx : x = r.1
    · rw [if_pos hx] at hκ
      refine ev_lst (ea2 (v 0 (ev_catT (v 0 (ev_getK nmK_inj C.at (by intro _ _; rfl) (v 1 (v 2 ⟨_, x, eS.enc r.2, x.1, .inr rfl, rfl, rfl, ?_, d.map eR.enc, r.2.map eR.enc, rfl, rfl, ?_, [eS.enc d, eS.enc (d ++ r.2)], ?_, ?_, hκ⟩)))))))
      · rw [gt_one, if_pos hx]
      · rw [List.length_map, List.length_map]; exact hl
      · show [tu (d.map eR.enc), tu (d.map eR.enc ++ r.2.map eR.enc)] = [tu (d.map eR.enc), tu ((d ++ r.2).map eR.enc)]
        rw [List.map_append]
      · show 2 ≤ 10000; decide
    · rw [if_neg hx] at h; cases h
  · rw [gt_one] at h
    by_cases hx : x = r.1
    · rw [if_pos hx] at h; cases h
    · rw [if_neg hx] at hκ
      exact ev_lst (ea_one (v 0 ⟨[eS.enc d], rfl, (by show 1 ≤ 10000; decide), hκ⟩))
def isRef (c : Ch) (d : Done) (r : Run) : Bool := (vers d r c.sn).any fun v => !((vers d r c.rc).map fun w => acc (rdAt c w) (wrAt c v)).all id
theorem vers_len (d : Done) (r : Run) (x : Nm) : (vers d r x).length ≤ 2 := by unfold vers; split <;> simp
def T_is_refused : Tp := fun Rs κ => ∃ (c : Ch) (d : Done) (r : Run), Rs = [dat (dCh c), dat (eS.enc d), runR r] ∧ c.Fit ∧ d.length + r.2.length ≤ 10000 ∧ κ (bl (isRef c d r))
theorem P_is_refused {G : Gb} (g : Gx G) (S : Std G "is_refused" "is_refused" s_is_refused) (P1 : Prom G "versions_of" 1 p_versions_of (SpF T_versions_of)) (P2 : Prom G "reader_at" 2 p_reader_at (SpF T_reader_at)) (P3 : Prom G "written_at" 1 p_written_at (SpF T_written_at)) (P4 : Prom G "accepts" 2 p_accepts (SpF T_accepts)) : Prom G "is_refused" 3 p_is_refused (SpF T_is_refused) := by
  refine S.prom sc_is_refused (by rintro Rs κ ⟨_, _, _, rfl, _⟩; rfl) (fun _ _ _ _ _ _ us hl => match us, hl with | [_, _, _], _ => rfl) fun X f Rs κ C hU h => ?_
  obtain ⟨c, d, r, rfl, ft, hl, hκ⟩ := h
  refine ws_cons (w_setLc 3 [("version", 4)] C (it_list (r_call P1 C (ea3 (v 1 (v 2 (ixc _ (v 0 ⟨rfl, d, r, c.rc, rfl, hl, _, rfl, ?_⟩))))))))
  refine lc_each eS.enc (fun w => eRd.enc (rdAt c w)) (fun w hw X' C' => tn 4 sc_is_refused.nd fun X2 C2 => r_call P2 C2 (ea2 (v 0 (v 4 ⟨c, w, rfl, ft, rfl⟩)))) ?_
  refine ws_cons (w_for (S := Unit) (fun i s => ∀ w ∈ (vers d r c.sn).take i, ((vers d r c.rc).map fun u => acc (rdAt c u) (wrAt c w)).all id = true) (fun s => [some (.fz (dat (dCh c))), some (.fz (dat (eS.enc d))), some (.fz (runR r)), some (.fz (li ((vers d r c.rc).map fun w => eRd.enc (rdAt c w)))), none, none, none]) [4] C (it_list (r_call P1 C (ea3 (v 1 (v 2 (ixc _ (v 0 ⟨rfl, d, r, c.sn, rfl, hl, _, rfl, ?_⟩))))))))
  refine ⟨⟨(), fun w hw => (by simp at hw), le_refl _⟩, fun i s dd hd hi hs => ?_, fun s hs => ?_⟩
  · obtain ⟨w, hw, rfl⟩ := at_map hd
    refine tn 4 sc_is_refused.nd (ws_cons (w_setC 5 hU.2 (r_call P3 C (ea2 (v 0 (v 4 ⟨c, w, rfl, ?_⟩))))))
    refine ws_cons (ws_if (et_not (et_val (r_all g C (r_lc [("reader", 6)] C (it_list (v 3 ⟨_, rfl, ?_⟩)))))))
    refine lc_each (fun u => eRd.enc (rdAt c u)) (fun u => .bool (acc (rdAt c u) (wrAt c w))) (fun u hu X' C' => tn 6 sc_is_refused.nd fun X2 C2 => r_call P4 C2 (ea2 (v 6 (v 5 ⟨rdAt c u, wrAt c w, rfl, rfl⟩)))) ?_
    refine ⟨(vers d r c.rc).map fun u => acc (rdAt c u) (wrAt c w), by rw [List.map_map]; rfl, _, rfl, fun h => ?_, fun h => ws_nil (ws_nil ⟨(), fun u hu => ?_, le_keep (le_keep (le_keep (le_keep (le_drop (le_drop (le_keep le_nil))))))⟩)⟩
    · refine ws_cons (ws_ret (ev_bl ?_))
      have e : isRef c d r = true := by
        unfold isRef
        rw [List.any_eq_true]
        exact ⟨w, List.mem_of_getElem? hw, h⟩
      rw [e] at hκ
      exact hκ
    · rw [take_more hw] at hu
      rcases List.mem_append.mp hu with hu | hu
      · exact hs u hu
      · rw [List.mem_singleton] at hu
        subst hu
        simpa using h
  · rw [List.length_map, List.take_length] at hs
    refine ws_cons (ws_ret (ev_bl ?_))
    have e : isRef c d r = false := by
      unfold isRef
      rw [List.any_eq_false]
      intro w hw
      rw [hs w hw]
      simp
    rw [e] at hκ
    exact hκ
def refusedOf (cs : List Ch) (d : Done) (r : Run) : List Nm := (cs.filter fun c => isRef c d r).map (·.nm)
def T_refused_while (G : Gb) : Tp := fun Rs κ => ∃ (S : Sys) (d : Done) (r : Run), Rs = [sysR G S, dat (eS.enc d), runR r] ∧ (∀ c ∈ S.cs, c.Fit) ∧ d.length + r.2.length ≤ 10000 ∧ κ (tu ((refusedOf S.cs d r).map eN.enc))
theorem P_refused_while {G : Gb} (g : Gx G) (S : Std G "refused_while" "refused_while" s_refused_while) (P1 : Prom G "is_refused" 3 p_is_refused (SpF T_is_refused)) : Prom G "refused_while" 4 p_refused_while (SpF (T_refused_while G)) := by
  refine S.prom sc_refused_while (by rintro Rs κ ⟨_, _, _, rfl, _⟩; rfl) (fun _ _ _ _ _ _ us hl => match us, hl with | [_, _, _], _ => rfl) fun X f Rs κ C hU h => ?_
  obtain ⟨S, d, r, rfl, ft, hl, hκ⟩ := h
  refine ws_cons (ws_ret (r_tuple g C (r_lc [("channel", 3)] C (it_tup (ev_chs C (v 0 ⟨rfl, _, rfl, ?_⟩))))))
  refine lc_mapT dCh (fun c => isRef c d r) (fun c => eN.enc c.nm) (fun c hc X' C' => tn 3 sc_refused_while.nd fun X2 C2 => ts_one (et_val (r_call P1 C2 (ea3 (v 3 (v 1 (v 2 ⟨c, d, r, rfl, ft c hc, hl, _, rfl, rfl, fun _ X4 C4 => ixc _ (v 3 ⟨rfl, rfl⟩)⟩))))))) ?_
  refine ⟨_, .inl rfl, ?_⟩
  have e : (S.cs.filter fun c => isRef c d r).map (fun c => eN.enc c.nm) = (refusedOf S.cs d r).map eN.enc := by
    unfold refusedOf
    rw [List.map_map]; rfl
  rw [e]; exact hκ
end FR
set_option Elab.async false
set_option linter.all false
set_option maxRecDepth 100000
set_option maxHeartbeats 2000000
namespace FR
open PySem PySem.Spec PyProof.Rows L2
/-! ### plans -/
abbrev Plan := List Run
def dRun (r : Run) : D := .tuple [eN.enc r.1, eS.enc r.2]
def doneOf (p : Plan) : Done := (p.map (·.2)).flatten
def Safe (S : Sys) (p : Plan) : Prop := ∀ i r, p[i]? = some r → refusedOf S.cs (doneOf (p.take i)) r = []
theorem enD_get {ds : List D} {i : Nat} {d : D} (h : (enD 0 ds)[i]? = some d) : ∃ x, ds[i]? = some x ∧ d = .tuple [.int (i : Nat), x] := by
  unfold enD at h
  rw [List.getElem?_zipWith] at h
  cases e : ds[i]? with
  | none => rw [e] at h; cases q : (List.range ds.length)[i]? <;> rw [q] at h <;> cases h
  | some x =>
    have hi : i < ds.length := (List.getElem?_eq_some_iff.mp e).1
    rw [e, List.getElem?_range hi] at h
    refine ⟨x, rfl, ?_⟩
    have : some (PyData.tuple [.int ((0 + i : Nat) : Int), x]) = some d := h
    rw [Nat.zero_add] at this
    exact (Option.some.inj this).symm
theorem doneOf_take {p : Plan} {i : Nat} {r : Run} (h : p[i]? = some r) : doneOf (p.take (i + 1)) = doneOf (p.take i) ++ r.2 := by
  unfold doneOf
  rw [take_more h, List.map_append, List.flatten_append]
  simp
theorem doneOf_len (p : Plan) (i : Nat) : (doneOf (p.take i)).length ≤ (doneOf p).length := by
  unfold doneOf
  conv => rhs; rw [← List.take_append_drop i p]
  rw [List.map_append, List.flatten_append, List.length_append]
  omega
def T_first_fault (G : Gb) : Tp := fun Rs κ => ∃ (S : Sys) (p : Plan), Rs = [sysR G S, tu (p.map dRun)] ∧ (∀ c ∈ S.cs, c.Fit) ∧ (doneOf p).length ≤ 5000 ∧ Safe S p ∧ κ (dat .none)
theorem P_first_fault {G : Gb} (g : Gx G) (S : Std G "first_fault" "first_fault" s_first_fault) (P1 : Prom G "refused_while" 4 p_refused_while (SpF (T_refused_while G))) : Prom G "first_fault" 5 p_first_fault (SpF (T_first_fault G)) := by
  refine S.prom sc_first_fault (by rintro Rs κ ⟨_, _, rfl, _⟩; rfl) (fun _ _ _ _ _ _ us hl => match us, hl with | [_, _], _ => rfl) fun X f Rs κ C hU h => ?_
  obtain ⟨S, p, rfl, ft, hl, hs, hκ⟩ := h
  refine ws_cons (w_set 2 (ev_tup (ea_nil ⟨[], rfl, Nat.zero_le _, ?_⟩)))
  refine ws_cons (w_for (S := Done) (fun i s => s = doneOf (p.take i)) (fun s => [some (.fz (sysR G S)), some (.fz (tu (p.map dRun))), some (.fz (dat (eS.enc s))), none, none, none, none]) [3, 5, 6] C (r_enumT g C (v 1 ⟨_, rfl, ?_⟩)))
  refine ⟨⟨[], rfl, le_refl _⟩, fun i s d hd hi hs => ?_, fun s hs => ws_cons (ws_ret (ev_non hκ))⟩
  · obtain ⟨x, hx, rfl⟩ := enD_get hd
    obtain ⟨r, hr, rfl⟩ := at_map hx
    subst hs
    have b1 : (doneOf (p.take i)).length + r.2.length ≤ 5000 := by
      have := doneOf_len p (i + 1)
      rw [doneOf_take hr, List.length_append] at this
      omega
    refine at_tup C.at.calm rfl (ats_cons (tn 3 sc_first_fault.nd (ats_cons (at_tup C.at.calm rfl (ats_cons (tn 5 sc_first_fault.nd (ats_cons (tn 6 sc_first_fault.nd (ats_nil (ats_nil ?_)))))))))) 
    refine ws_cons (w_set 4 (r_call P1 C (ea3 (v 0 (v 2 (ev_disp1 (v 5 (v 6 ⟨r.1, eS.enc r.2, rfl, rfl, S, doneOf (p.take i), r, rfl, ft, by omega, ?_⟩))))))))
    rw [hs i r hr]
    refine ws_cons (ws_if (et_c (ec_neE C.at eF (v 4 (ev_tup (ea_nil ⟨[], rfl, Nat.zero_le _, [], [], rfl, rfl, _, rfl, fun h => ?_, fun h => ws_nil ?_⟩))))))
    · simp at h
    · refine ws_cons (w_augT (xs := (doneOf (p.take i)).map eR.enc) 2 (v 6 ⟨r.2.map eR.enc, rfl, by rw [List.length_map, List.length_map]; omega, ws_nil ⟨_, rfl, ?_⟩⟩))
      rw [doneOf_take hr]
      have e : tu ((doneOf (p.take i)).map eR.enc ++ r.2.map eR.enc) = dat (eS.enc (doneOf (p.take i) ++ r.2)) := by
        rw [← List.map_append]; rfl
      rw [e]
      exact le_keep (le_keep (le_keep (le_drop (le_drop (le_drop (le_drop le_nil))))))
def T_is_safe (G : Gb) : Tp := fun Rs κ => ∃ (S : Sys) (p : Plan), Rs = [sysR G S, tu (p.map dRun)] ∧ (∀ c ∈ S.cs, c.Fit) ∧ (doneOf p).length ≤ 5000 ∧ Safe S p ∧ κ (bl true)
theorem P_is_safe {G : Gb} (g : Gx G) (S : Std G "is_safe" "is_safe" s_is_safe) (P1 : Prom G "first_fault" 5 p_first_fault (SpF (T_first_fault G))) : Prom G "is_safe" 6 p_is_safe (SpF (T_is_safe G)) := by
  refine S.prom sc_is_safe (by rintro Rs κ ⟨_, _, rfl, _⟩; rfl) (fun _ _ _ _ _ _ us hl => match us, hl with | [_, _], _ => rfl) fun X f Rs κ C hU h => ?_
  obtain ⟨S, p, rfl, ft, hl, hs, hκ⟩ := h
  exact ws_cons (ws_ret (ev_c (ec_isN (r_call P1 C (ea2 (v 0 (v 1 ⟨S, p, rfl, ft, hl, hs, _, rfl, hκ⟩)))))))
structure RunOk (S : Sys) (r : Run) : Prop where
  s : r.1 ∈ S.hs
  ne : r.2 ≠ []
  sub : ∀ p ∈ r.2, p ∈ ownSteps S.cs r.1
  asc : FR.asc eR r.2 = true
def T_is_release (G : Gb) : Tp := fun Rs κ => ∃ (S : Sys) (r : Run), Rs = [sysR G S, dat (dRun r)] ∧ S.Fit ∧ RunOk S r ∧ κ (bl true)
theorem P_is_release {G : Gb} (g : Gx G) (S : Std G "is_release" "is_release" s_is_release) (P1 : Prom G "is_service" 1 p_is_service (SpF (T_is_service G))) (P2 : Prom G "steps_of" 6 p_steps_of (SpF (T_steps_of G))) (P3 : Prom G "are_steps" 2 p_are_steps (SpF T_are_steps)) : Prom G "is_release" 7 p_is_release (SpF (T_is_release G)) := by
  refine S.prom sc_is_release (by rintro Rs κ ⟨_, _, rfl, _⟩; rfl) (fun _ _ _ _ _ _ us hl => match us, hl with | [_, _], _ => rfl) fun X f Rs κ C hU h => ?_
  obtain ⟨S, r, rfl, ft, ro, hκ⟩ := h
  refine ws_cons (ws_if (et_w (ew_or (et_not (et_val (r_isT g C (v 1 ⟨dRun r, rfl, true, rfl, fun h => (by cases h), fun _ => ?_⟩)))))))
  refine ew_or (et_c (ec_neI (r_len g C (v 1 ⟨[eN.enc r.1, eS.enc r.2], .inr rfl, gi C g.c_RELEASE_PARTS ⟨2, 2, rfl, rfl, false, rfl, fun h => (by cases h), fun _ => ?_⟩⟩))))
  refine ew_or1 (et_not (et_val (r_call P1 C (ea2 (v 0 (ixc _ (v 1 ⟨rfl, S, r.1, rfl, _, rfl, fun h => ?_, fun _ => ws_nil ?_⟩)))))))
  · rw [decide_eq_true ro.s] at h; cases h
  refine ws_cons (ws_ret (ev_and (ev_c (ec_neE C.at eS (ixc _ (v 1 ⟨rfl, ev_tup (ea_nil ⟨[], rfl, Nat.zero_le _, r.2, [], rfl, rfl, _, rfl, fun h => ev_one ?_, fun h => ?_⟩)⟩))))))
  · exact r_call P3 C (ea2 (r_call P2 C (ea2 (v 0 (ixc _ (v 1 ⟨rfl, S, r.1, rfl, ft, ro.s, ixc _ (v 1 ⟨rfl, ownSteps S.cs r.1, r.2, rfl, ro.sub, ro.asc, hκ⟩)⟩))))))
  · simp [ro.ne] at h
theorem eS_d (x : Done) : (eS.enc x).depth ≤ 2 := by
  show PyData.depth (.tuple _) ≤ 2
  simp only [PyData.depth]
  have := depthAll_map eR (n := 1) (fun x => by show PyData.depth (.tuple [.str _, .str _]) ≤ 1; simp [PyData.depth, PyData.depthAll]) x
  omega
def eSL : Enc Done := eL eR dR
def T_is_plan (G : Gb) : Tp := fun Rs κ => ∃ (S : Sys) (p : Plan), Rs = [sysR G S, tu (p.map dRun)] ∧ S.Fit ∧ (∀ r ∈ p, RunOk S r) ∧ (doneOf p).length ≤ 5000 ∧ κ (bl (decide (srt eR (doneOf p) = keysOf S.cs)))
theorem P_is_plan {G : Gb} (g : Gx G) (S : Std G "is_plan" "is_plan" s_is_plan) (P1 : Prom G "is_release" 7 p_is_release (SpF (T_is_release G))) (P2 : Prom G "all_steps" 6 p_all_steps (SpF (T_all_steps G))) : Prom G "is_plan" 8 p_is_plan (SpF (T_is_plan G)) := by
  refine S.prom sc_is_plan (by rintro Rs κ ⟨_, _, rfl, _⟩; rfl) (fun _ _ _ _ _ _ us hl => match us, hl with | [_, _], _ => rfl) fun X f Rs κ C hU h => ?_
  obtain ⟨S, p, rfl, ft, ro, hl, hκ⟩ := h
  refine ws_cons (ws_if (et_w (ew_or (et_not (et_val (r_isT g C (v 1 ⟨.tuple (p.map dRun), rfl, true, rfl, fun h => (by cases h), fun _ => ?_⟩)))))))
  refine ew_or1 (et_not (et_val (r_all g C (r_lc [("release", 5)] C (it_tup (v 1 ⟨_, rfl, ?_⟩))))))
  refine lc_each dRun (fun x => .bool true) (fun r hr X' C' => tn 5 sc_is_plan.nd fun X2 C2 => r_call P1 C2 (ea2 (v 0 (v 5 ⟨S, r, rfl, ft, ro r hr, rfl⟩)))) ?_
  refine ⟨p.map fun _ => true, by rw [List.map_map]; rfl, _, rfl, fun h => ?_, fun _ => ws_nil ?_⟩
  · rw [List.all_map] at h
    simp at h
  refine ws_cons (ws_ret (ev_c (ec_eqE C.at eSL (r_sorted g C (ev_lc2 (k := 7) [("service", 2), ("steps", 3), ("step", 4)] [4] (fun i acc => acc = (doneOf (p.take i)).map eR.enc) C (it_tup (v 1 ⟨_, rfl, rfl, fun acc ha => ?_, fun i acc dd hd ha => ?_⟩)))))))
  · subst ha
    rw [List.length_map (f := dRun), List.take_length]
    refine ⟨by rw [List.length_map]; omega, Pr, eR, doneOf p, gath_li _ _, sortOk_R _, by omega, ?_⟩
    refine r_list g C (r_call P2 C (ea_one (v 0 ⟨S, rfl, ft, _, .inr rfl, srt eR (doneOf p), keysOf S.cs, rfl, rfl, hκ⟩)))
  · obtain ⟨r, hr, rfl⟩ := at_map hd
    subst ha
    have b1 := doneOf_len p i
    refine ⟨by rw [List.length_map]; omega, fun X' C' => at_tup C'.calm rfl (ats_cons (tn 2 sc_is_plan.nd (ats_cons (tn 3 sc_is_plan.nd (ats_nil ⟨noOwn_of rfl, fun X2 C2 => it_tup (v 3 ⟨_, rfl, fun d => d, fun d1 hd1 X3 C3 => tn 4 sc_is_plan.nd fun X4 C4 => v 4 rfl, ?_, ?_⟩)⟩)))))⟩
    · have := doneOf_len p (i + 1)
      rw [doneOf_take hr, List.length_append] at this
      rw [List.length_map]; omega
    · rw [doneOf_take hr, List.map_append]
      congr 1
      exact List.map_id _
end FR
set_option Elab.async false
set_option linter.all false
set_option maxRecDepth 100000
set_option maxHeartbeats 2000000
namespace FR
open PySem PySem.Spec PyProof.Rows L2
section
variable {X : Cx} {f : Fx} {ρ : Env} {e a b c : Expr} {es : List Expr} {s : Stmt} {ss : List Stmt} {κ : Rp → Prop} {Φ : Post} {pos p : Pos} {G : Gb} {k : Nat} {N : List Str} {sc : Scope}
/-! ### a, b = e -/
theorem w_asg {tg : Expr} (js : List Nat) (h : EvE (mkX X N sc) f ρ e fun R => AsT (mkX X N sc) f ρ tg R js Φ.nx) (hs : swapsWithSole [tg] e pos.line (mkX X N sc).env = pure false := by rfl) (hw : swappedStores [tg] e (mkX X N sc).env = pure none := by rfl)
    (h1 : (assignEach [tg] (mkX X N sc).env).map (·.2) = [assign tg (mkX X N sc).env] := by rfl) : WS (mkX X N sc) f ρ (.Assign [tg] e pos) Φ := fun F M σ d E D A => by
  refine wpS_of (ps_asg pe_wp pg_wp hs hw h1) ?_
  refine h F M σ d E _ fun v R F1 M1 hk hv k1 d1 s1 => ?_
  exact hk F1 M1 σ v d1 (E.step k1 s1) hv _ fun ρ' σ' F2 M2 h2 w2 k2 d2 s2 E2 => A.nx ρ' σ' F2 M2 h2 (k1.trans k2) d2 E2
/-- a, b = (.., ..), names that blocks read, too -/
theorem w_asg2 {x y : Str} {px py pt : Pos} {kt k2 pt2} (i j : Nat) (C : Ctx G k X) (hfn : ∀ x, X.fn x = true) (h : EvX (mkX X N sc) f ρ a fun e1 => EvX (mkX X N sc) f ρ b fun e2 => Φ.nx ((ρ.set i (some e1)).set j (some e2))) (hN : N.Nodup := by decide +kernel) (hi : N[i]? = some x := by rfl) (hj : N[j]? = some y := by rfl)
    (hx : locB sc x = true := by decide +kernel) (hy : locB sc y = true := by decide +kernel)
    (hs : swapsWithSole [.Tuple [.Name x px, .Name y py] kt pt] (.Tuple [a, b] k2 pt2) pos.line (mkX X N sc).env = pure false := by rfl) (hw : swappedStores [.Tuple [.Name x px, .Name y py] kt pt] (.Tuple [a, b] k2 pt2) (mkX X N sc).env = pure none := by rfl)
    (h1 : (assignEach [.Tuple [.Name x px, .Name y py] kt pt] (mkX X N sc).env).map (·.2) = [assign (.Tuple [.Name x px, .Name y py] kt pt) (mkX X N sc).env] := by rfl)
    (ha : starEach (a :: [b]) (mkX X N sc).env = (false, eval a (mkX X N sc).env) :: starEach [b] (mkX X N sc).env := by rfl) (hb : starEach (b :: []) (mkX X N sc).env = (false, eval b (mkX X N sc).env) :: starEach [] (mkX X N sc).env := by rfl) :
    WS (mkX X N sc) f ρ (.Assign [.Tuple [.Name x px, .Name y py] kt pt] (.Tuple [a, b] k2 pt2) pos) Φ := fun F M σ d E D A => by
  refine wpS_of (ps_asg (pe_tup (pa_cons pe_wp (pa_cons pe_wp pa_nil hb) ha)) (pg_tup (X := mkX X N sc) C.at.calm (pgs_cons (pg_name (X := mkX X N sc) hN hi (loc_of hx) (.inl (hfn x))) (pgs_cons (pg_name (X := mkX X N sc) hN hj (loc_of hy) (.inl (hfn y))) pgs_nil))) hs hw h1) ?_
  refine h F M σ d E _ fun v e1 F1 M1 hk hv k1 d1 s1 fr => ?_
  refine hk F1 M1 σ d1 (E.step k1 s1) _ fun w e2 F2 M2 hk2 hw k2 d2 s2 fr2 => ?_
  refine ⟨by rw [sizeLine_eq]; simp, fun p hp => new_of (Q := fun H => gTup _ 2 _ (.ref p) σ H D.nx) d2 hp fun F3 _ k3 d3 e3 => ?_⟩
  refine ⟨p, [v, w], rfl, SqT.of (ovl_F e3), rfl, v, [w], rfl, w, [], rfl, rfl, ?_⟩
  have E1 := (E.step k1 s1).setE (i := i) E hv fr
  exact A.nx _ _ F3 M2 hk2 (k1.trans (k2.trans k3)) d3 (((E1.step k2 s2).setE E1 hw fr2).mono k3)
theorem w_asg3 {x y z : Str} {px py pz pt : Pos} {kt k2 pt2} (i j l : Nat) (C : Ctx G k X) (hfn : ∀ x, X.fn x = true) (h : EvX (mkX X N sc) f ρ a fun e1 => EvX (mkX X N sc) f ρ b fun e2 => EvX (mkX X N sc) f ρ c fun e3 => Φ.nx (((ρ.set i (some e1)).set j (some e2)).set l (some e3))) (hN : N.Nodup := by decide +kernel) (hi : N[i]? = some x := by rfl) (hj : N[j]? = some y := by rfl) (hl : N[l]? = some z := by rfl)
    (hx : locB sc x = true := by decide +kernel) (hy : locB sc y = true := by decide +kernel) (hz : locB sc z = true := by decide +kernel)
    (hs : swapsWithSole [.Tuple [.Name x px, .Name y py, .Name z pz] kt pt] (.Tuple [a, b, c] k2 pt2) pos.line (mkX X N sc).env = pure false := by rfl) (hw : swappedStores [.Tuple [.Name x px, .Name y py, .Name z pz] kt pt] (.Tuple [a, b, c] k2 pt2) (mkX X N sc).env = pure none := by rfl)
    (h1 : (assignEach [.Tuple [.Name x px, .Name y py, .Name z pz] kt pt] (mkX X N sc).env).map (·.2) = [assign (.Tuple [.Name x px, .Name y py, .Name z pz] kt pt) (mkX X N sc).env] := by rfl)
    (ha : starEach [a, b, c] (mkX X N sc).env = (false, eval a (mkX X N sc).env) :: starEach [b, c] (mkX X N sc).env := by rfl) (hb : starEach [b, c] (mkX X N sc).env = (false, eval b (mkX X N sc).env) :: starEach [c] (mkX X N sc).env := by rfl) (hc : starEach [c] (mkX X N sc).env = (false, eval c (mkX X N sc).env) :: starEach [] (mkX X N sc).env := by rfl) :
    WS (mkX X N sc) f ρ (.Assign [.Tuple [.Name x px, .Name y py, .Name z pz] kt pt] (.Tuple [a, b, c] k2 pt2) pos) Φ := fun F M σ d E D A => by
  refine wpS_of (ps_asg (pe_tup (pa_cons pe_wp (pa_cons pe_wp (pa_cons pe_wp pa_nil hc) hb) ha)) (pg_tup (X := mkX X N sc) C.at.calm (pgs_cons (pg_name (X := mkX X N sc) hN hi (loc_of hx) (.inl (hfn x))) (pgs_cons (pg_name (X := mkX X N sc) hN hj (loc_of hy) (.inl (hfn y))) (pgs_cons (pg_name (X := mkX X N sc) hN hl (loc_of hz) (.inl (hfn z))) pgs_nil)))) hs hw h1) ?_
  refine h F M σ d E _ fun v e1 F1 M1 hk hv k1 d1 s1 fr => ?_
  refine hk F1 M1 σ d1 (E.step k1 s1) _ fun w e2 F2 M2 hk2 hw k2 d2 s2 fr2 => ?_
  refine hk2 F2 M2 σ d2 ((E.step k1 s1).step k2 s2) _ fun u e3 F3 M3 hk3 hu k3 d3 s3 fr3 => ?_
  refine ⟨by rw [sizeLine_eq]; simp, fun p hp => new_of (Q := fun H => gTup _ 3 _ (.ref p) σ H D.nx) d3 hp fun F4 _ k4 d4 e4 => ?_⟩
  refine ⟨p, [v, w, u], rfl, SqT.of (ovl_F e4), rfl, v, [w, u], rfl, w, [u], rfl, u, [], rfl, rfl, ?_⟩
  have E1 := (E.step k1 s1).setE (i := i) E hv fr
  have E2 := (E1.step k2 s2).setE (i := j) E1 hw fr2
  exact A.nx _ _ F4 M3 hk3 (k1.trans (k2.trans (k3.trans k4))) d4 (((E2.step k3 s3).setE E2 hu fr3).mono k4)
theorem w_par3 {x y z : Str} {px py pz pt : Pos} {kt k2 pt2} (i j l : Nat) (C : Ctx G k X) (h : EvX (mkX X N sc) f ρ a fun e1 => EvX (mkX X N sc) f ρ b fun e2 => EvX (mkX X N sc) f ρ c fun e3 => Φ.nx (((ρ.set i (some e1)).set j (some e2)).set l (some e3))) (hN : N.Nodup := by decide +kernel) (hi : N[i]? = some x := by rfl) (hj : N[j]? = some y := by rfl) (hl : N[l]? = some z := by rfl)
    (hij : i ≠ j := by decide) (hil : i ≠ l := by decide) (hjl : j ≠ l := by decide)
    (hx : sc.names.lookup x = some .local := by decide +kernel) (hy : sc.names.lookup y = some .local := by decide +kernel) (hz : sc.names.lookup z = some .local := by decide +kernel)
    (hw : swappedStores [.Tuple [.Name x px, .Name y py, .Name z pz] kt pt] (.Tuple [a, b, c] k2 pt2) (mkX X N sc).env = pure (some [x, y, z]) := by rfl) (hs : swapsWithSole [.Tuple [.Name x px, .Name y py, .Name z pz] kt pt] (.Tuple [a, b, c] k2 pt2) pos.line (mkX X N sc).env = pure false := by rfl)
    (ha : starEach [a, b, c] (mkX X N sc).env = (false, eval a (mkX X N sc).env) :: starEach [b, c] (mkX X N sc).env := by rfl) (hb : starEach [b, c] (mkX X N sc).env = (false, eval b (mkX X N sc).env) :: starEach [c] (mkX X N sc).env := by rfl) (hc : starEach [c] (mkX X N sc).env = (false, eval c (mkX X N sc).env) :: starEach [] (mkX X N sc).env := by rfl) :
    WS (mkX X N sc) f ρ (.Assign [.Tuple [.Name x px, .Name y py, .Name z pz] kt pt] (.Tuple [a, b, c] k2 pt2) pos) Φ := fun F M σ d E D A => by
  refine wpS_of (ps_par3 (X := mkX X N sc) C.at.calm hN hi hj hl hij hil hjl hx hy hz (pa_cons pe_wp (pa_cons pe_wp (pa_cons pe_wp pa_nil hc) hb) ha) hw hs) ?_
  refine h F M σ d E _ fun v e1 F1 M1 hk hv k1 d1 s1 fr => ?_
  refine hk F1 M1 σ d1 (E.step k1 s1) _ fun w e2 F2 M2 hk2 hw k2 d2 s2 fr2 => ?_
  refine hk2 F2 M2 σ d2 ((E.step k1 s1).step k2 s2) _ fun u e3 F3 M3 hk3 hu k3 d3 s3 fr3 => ?_
  have E1 := (E.step k1 s1).setE (i := i) E hv fr
  have E2 := (E1.step k2 s2).setE (i := j) E1 hw fr2
  exact ⟨v, w, u, rfl, A.nx _ _ F3 M3 hk3 (k1.trans (k2.trans k3)) d3 ((E2.step k3 s3).setE E2 hu fr3)⟩
/-! ### list + list -/
theorem ev_catL (h : EvE X f ρ a fun R => EvE X f ρ b fun S => ∃ xs ys : List D, R = li xs ∧ S = li ys ∧ xs.length + ys.length ≤ 10000 ∧ κ (li (xs ++ ys))) : EvE X f ρ (.BinOp a .Add b pos) κ :=
  ev_bin op_cat (ev_imp h fun R hh => ev_imp hh fun S ⟨xs, ys, e1, e2, hl, hz⟩ => by
    subst e1 e2
    intro F M u v d hu hv va Q hQ
    cases hu with
    | @lst a us _ ha hx =>
      cases hv with
      | @lst b ws _ hb hy =>
        have hcat := hx.append hy
        refine ⟨a, b, us, ws, rfl, rfl, ovl_F ha, ovl_F hb, by rw [hx.length, hy.length]; exact le_sz hl, fun p hp => ?_⟩
        exact new_of (Q := fun H => Q (.ref p) H) d hp fun F2 _ k2 d2 e2 => hQ _ _ F2 hz (Dq.lst e2 (hcat.mono k2)) k2 d2)
/-- what holds between two statements, told -/
theorem ws_mid (Mid : Env → Prop) (h : WS X f ρ s { Φ with nx := Mid }) (h2 : ∀ ρ', Mid ρ' → WSs X f ρ' ss Φ) : WSs X f ρ (s :: ss) Φ := fun F M σ d E D A =>
  wpSs_of (pss_cons ps_wp pss_wp) (h F M σ d E _ ⟨fun ρ' σ' F' M' hk k1 d1 E1 => h2 ρ' hk F' M' σ' d1 E1 D (A.mono k1), A.bk, A.ct, A.rt⟩)
end
end FR
set_option Elab.async false
set_option linter.all false
set_option maxRecDepth 100000
set_option maxHeartbeats 2000000
namespace FR
open PySem PySem.Spec PyProof.Rows L2
/-! ### the law's own reading -/
def T_law_reads : Tp := T_accepts
theorem P_law_reads {G : Gb} (g : Gx G) (S : Std G "_law_reads" "_law_reads" s__law_reads) : Prom G "_law_reads" 1 p__law_reads (SpF T_law_reads) := by
  refine S.prom sc__law_reads (by rintro Rs κ ⟨_, _, rfl, _⟩; rfl) (fun _ _ _ _ _ _ us hl => match us, hl with | [_, _], _ => rfl) fun X f Rs κ C hU h => ?_
  obtain ⟨r, w, rfl, hκ⟩ := h
  refine ws_cons (ws_ret (ev_and (r_all g C (r_lc [("_law_field", 2)] C (it_tup (ixc _ (v 0 ⟨rfl, _, rfl, ?_⟩)))))))
  refine lc_each (xs := r.1) eN.enc (fun x => .bool (decide (x ∈ w))) (fun x hx X' C' => tn 2 sc__law_reads.nd fun X2 C2 => ev_c (ec_in C2.at eN (v 2 (v 1 ⟨x, w, rfl, .inr rfl, rfl⟩)))) ?_
  refine ⟨r.1.map fun x => decide (x ∈ w), by rw [List.map_map]; rfl, _, rfl, fun h => ev_one (r_all g C (r_lc [("_law_field", 2)] C (it_tup (v 1 ⟨_, rfl, ?_⟩)))), fun h => ?_⟩
  · refine lc_each (xs := w) eN.enc (fun x => .bool (decide (x ∈ r.2))) (fun x hx X' C' => tn 2 sc__law_reads.nd fun X2 C2 => ev_c (ec_in C2.at eN (v 2 (ixc _ (v 0 ⟨rfl, x, r.2, rfl, .inr rfl, rfl⟩))))) ?_
    refine ⟨w.map fun x => decide (x ∈ r.2), by rw [List.map_map]; rfl, ?_⟩
    rw [List.all_map]
    rw [List.all_map] at h
    have e : acc r w = w.all (id ∘ fun x => decide (x ∈ r.2)) := by
      unfold acc
      rw [show isSub r.1 w = true from h, Bool.true_and]; rfl
    rw [e] at hκ
    exact hκ
  · rw [List.all_map] at h
    have e : acc r w = false := by
      unfold acc
      rw [show isSub r.1 w = false from h, Bool.false_and]
    rw [e] at hκ
    exact hκ
def T_law_kind : Tp := fun Rs κ => ∃ c : Ch, Rs = [dat (dCh c)] ∧ κ (st (kd c.od c.nw))
theorem P_law_kind {G : Gb} (g : Gx G) (S : Std G "_law_kind" "_law_kind" s__law_kind) (P1 : Prom G "_law_reads" 1 p__law_reads (SpF T_law_reads)) : Prom G "_law_kind" 2 p__law_kind (SpF T_law_kind) := by
  refine S.prom sc__law_kind (by rintro Rs κ ⟨_, rfl, _⟩; rfl) (fun _ _ _ _ _ _ us hl => match us, hl with | [_], _ => rfl) fun X f Rs κ C hU h => ?_
  obtain ⟨c, rfl, hκ⟩ := h
  refine ws_cons (w_par 1 2 C (ex_of (ixc _ (v 0 ⟨rfl, ex_of (ixc _ (v 0 ⟨rfl, ?_⟩))⟩))))
  refine ws_cons (w_par 3 4 C (ex_of (r_call P1 C (ea2 (slc (v 2 ⟨_, rfl, ixc _ (v 1 ⟨rfl, c.nw.rd, c.od.wr, rfl, ex_of (r_call P1 C (ea2 (slc (v 1 ⟨_, rfl, ixc _ (v 2 ⟨rfl, c.od.rd, c.nw.wr, rfl, ?_⟩)⟩))))⟩)⟩))))))
  unfold kd at hκ
  refine ws_cons (ws_if (et_val (v 3 ⟨_, rfl, fun h => ws_cons (ws_ret (ev_if (et_val (v 4 ⟨_, rfl, fun h' => ev_str ?_, fun h' => ev_str ?_⟩)))), fun h => ws_nil (ws_cons (ws_ret (ev_if (et_val (v 4 ⟨_, rfl, fun h' => ev_str ?_, fun h' => ev_str ?_⟩)))))⟩)))
  all_goals (rw [h, h'] at hκ; exact hκ)
def lawChSteps (c : Ch) : List (Pr × Nm) := (wordsOf c).map fun w => ((c.nm, w), if w = wSw then c.sn else c.rc)
def lawSteps (cs : List Ch) : List (Pr × Nm) := cs.flatMap lawChSteps
theorem lawCh_len (c : Ch) : (lawChSteps c).length ≤ 3 := by unfold lawChSteps; rw [List.length_map]; exact words_len c
theorem law_take {cs : List Ch} {i : Nat} {c : Ch} (h : cs[i]? = some c) : lawSteps (cs.take (i + 1)) = lawSteps (cs.take i) ++ lawChSteps c := flat_take h
theorem law_len (cs : List Ch) : (lawSteps cs).length ≤ 3 * cs.length := flat_len lawCh_len cs
theorem law_nm {cs : List Ch} {p : Pr} (h : p ∈ (lawSteps cs).map (·.1)) : ∃ c ∈ cs, p.1 = c.nm ∧ p.2 ∈ wordsOf c := by
  obtain ⟨q, hq, rfl⟩ := List.mem_map.mp h
  obtain ⟨c, hc, h⟩ := List.mem_flatMap.mp hq
  obtain ⟨w, hw, rfl⟩ := List.mem_map.mp h
  exact ⟨c, hc, rfl, hw⟩
/-- a step more: its key is new -/
theorem law_put {cs : List Ch} (nd : (cs.map (·.nm)).Nodup) {i : Nat} {c : Ch} (hc : cs[i]? = some c) {ws : List Nm} {w : Nm} (hw : w ∉ ws) (o : Nm) :
    pt (encV (lawSteps (cs.take i) ++ ws.map fun w => ((c.nm, w), if w = wSw then c.sn else c.rc))) (c.nm, w) (eN.enc o) = encV (lawSteps (cs.take i) ++ (ws.map fun w => ((c.nm, w), if w = wSw then c.sn else c.rc)) ++ [((c.nm, w), o)]) := by
  rw [pt_new]
  · unfold encV
    rw [List.map_append (l₁ := _ ++ _)]
    rfl
  · rw [encV_keys, List.map_append]
    intro hm2
    rcases List.mem_append.mp hm2 with h | h
    · obtain ⟨c', hc', e1, _⟩ := law_nm h
      have nt := nodup_take nd (i := i) (x := c.nm) (by rw [List.getElem?_map, hc]; rfl)
      exact nt (by rw [← List.map_take]; exact List.mem_map.mpr ⟨c', hc', e1.symm⟩)
    · rw [List.map_map] at h
      obtain ⟨w', hw', e⟩ := List.mem_map.mp h
      have := (Prod.ext_iff.mp e).2
      exact hw (by rw [← show w' = w from this]; exact hw')
def T_law_steps : Tp := fun Rs κ => ∃ cs : List Ch, Rs = [li (cs.map dCh)] ∧ (cs.map (·.nm)).Nodup ∧ cs.length ≤ 40 ∧ κ (dTR (encV (lawSteps cs)))
theorem P_law_steps {G : Gb} (g : Gx G) (S : Std G "_law_steps" "_law_steps" s__law_steps) (P1 : Prom G "_law_kind" 2 p__law_kind (SpF T_law_kind)) : Prom G "_law_steps" 3 p__law_steps (SpF T_law_steps) := by
  refine S.prom sc__law_steps (by rintro Rs κ ⟨_, rfl, _⟩; rfl) (fun _ _ _ _ _ _ us hl => match us, hl with | [_], _ => rfl) fun X f Rs κ C hU h => ?_
  obtain ⟨cs, rfl, nd, hl, hκ⟩ := h
  refine ws_cons (w_setX 1 (ex_newT ?_))
  refine ws_cons (w_for (S := List (Pr × Nm)) (fun i s => s = lawSteps (cs.take i)) (fun s => [some (.fz (li (cs.map dCh))), some (.ow (dTO (encV s))), none, none, none, none, none, none, none]) [2] C (it_list (v 0 ⟨_, rfl, ?_⟩)))
  refine ⟨⟨[], rfl, le_refl _⟩, fun i s d hd hi hs => ?_, fun s hs => ?_⟩
  · obtain ⟨c, hc, rfl⟩ := at_map hd
    subst hs
    refine tn 2 sc__law_steps.nd ?_
    refine ws_cons (w_asg [3, 4, 5, 6, 7] (v 2 (at_tup (ds := [eN.enc c.nm, eN.enc c.sn, eN.enc c.rc, dFm c.od, dFm c.nw]) C.at.calm rfl (ats_cons (tn 3 sc__law_steps.nd (ats_cons (tn 4 sc__law_steps.nd (ats_cons (tn 5 sc__law_steps.nd (ats_cons (tn 6 sc__law_steps.nd (ats_cons (tn 7 sc__law_steps.nd (ats_nil ?_))))))))))))))
    have l1 := law_len (cs.take i)
    have l3 : (cs.take i).length ≤ cs.length := by rw [List.length_take]; omega
    have eL : ∀ ws : List Nm, ws.length ≤ 3 → (encV (lawSteps (cs.take i) ++ ws.map fun w => ((c.nm, w), if w = wSw then c.sn else c.rc))).length ≤ 10000 := fun ws hws => by
      unfold encV
      rw [List.length_map, List.length_append, List.length_map]
      omega
    refine ws_mid (fun ρ' => ∃ ws : List Nm, ws.length ≤ 1 ∧ (∀ w ∈ ws, w = wSw) ∧ wordsOf c = ws ++ (if c.od.rd = c.nw.rd then [] else if kd c.od c.nw = "split" then [wWi, wNa] else [wRe]) ∧
      ρ' = [some (.fz (li (cs.map dCh))), some (.ow (dTO (encV (lawSteps (cs.take i) ++ ws.map fun w => ((c.nm, w), if w = wSw then c.sn else c.rc))))), some (.fz (dat (dCh c))), some (.fz (dat (eN.enc c.nm))), some (.fz (dat (eN.enc c.sn))), some (.fz (dat (eN.enc c.rc))), some (.fz (dat (dFm c.od))), some (.fz (dat (dFm c.nw))), none])
      (ws_if (et_c (ec_neE C.at eF (ixc _ (v 6 ⟨rfl, ixc _ (v 7 ⟨rfl, c.od.wr, c.nw.wr, rfl, rfl, _, rfl, fun h => ?_, fun h => ws_nil ⟨[], Nat.zero_le _, fun w hw => (by cases hw), ?_, ?_⟩⟩)⟩))))) ?_
    · rw [Bool.not_eq_true', decide_eq_false_iff_not] at h
      have e := law_put nd hc (ws := []) (w := wSw) (by simp) c.sn
      simp only [List.map_nil, List.append_nil] at e
      refine ws_cons (w_putT 1 C (by have := eL [] (by decide); simpa using this) (v 4 (ev_tup (ea2 (v 3 (ev_str ⟨[eN.enc c.nm, eN.enc wSw], rfl, (by show 2 ≤ 10000; decide), (c.nm, wSw), _, rfl, rfl, ws_nil ⟨[wSw], Nat.le_refl _, fun w hw => (by simpa using hw), ?_, ?_⟩⟩))))))
      · unfold wordsOf; rw [if_neg h]
      · rw [e]; rfl
    · rw [Bool.not_eq_false', decide_eq_true_iff] at h
      unfold wordsOf; rw [if_pos h]
    · simp only [List.map_nil, List.append_nil]; rfl
    rintro ρ' ⟨ws, hw1, hw2, hwo, rfl⟩
    refine ws_cons (ws_if (et_c (ec_neE C.at eRd (slc (v 6 ⟨_, rfl, slc (v 7 ⟨_, rfl, c.od.rd, c.nw.rd, rfl, rfl, _, rfl, fun h => ?_, fun h => ws_nil (ws_nil ⟨_, rfl, ?_⟩)⟩)⟩)))))
    · rw [Bool.not_eq_true', decide_eq_false_iff_not] at h
      rw [if_neg h] at hwo
      obtain ⟨us, hu2, hus, hwu⟩ : ∃ us : List Nm, us = (if kd c.od c.nw = "split" then [wWi, wNa] else [wRe]) ∧ (us.length ≤ 2 ∧ us.Nodup ∧ ∀ u ∈ us, u ≠ wSw) ∧ wordsOf c = ws ++ us :=
        ⟨_, rfl, by split <;> decide +kernel, hwo⟩
      refine ws_cons (w_for (S := List Nm) (fun j s => s = us.take j) (fun s => [some (.fz (li (cs.map dCh))), some (.ow (dTO (encV (lawSteps (cs.take i) ++ (ws ++ s).map fun w => ((c.nm, w), if w = wSw then c.sn else c.rc))))), some (.fz (dat (dCh c))), some (.fz (dat (eN.enc c.nm))), some (.fz (dat (eN.enc c.sn))), some (.fz (dat (eN.enc c.rc))), some (.fz (dat (dFm c.od))), some (.fz (dat (dFm c.nw))), none]) [8] C (it_list (ev_imp (κ' := fun R => R = li (us.map eN.enc)) ?_ fun R hR => ⟨_, hR, ?_⟩)))
      · rw [hu2]
        refine ev_if (et_c (ec_eqS (r_call P1 C (ea_one (v 2 ⟨c, rfl, ev_str ⟨_, _, rfl, rfl, _, rfl, fun h => ?_, fun h => ?_⟩⟩)))))
        · rw [decide_eq_true_iff] at h
          rw [if_pos h]
          exact ev_lst (ea2 (ev_str (ev_str ⟨[eN.enc wWi, eN.enc wNa], rfl, (by show 2 ≤ 10000; decide), rfl⟩)))
        · rw [decide_eq_false_iff_not] at h
          rw [if_neg h]
          exact ev_lst (ea_one (ev_str ⟨[eN.enc wRe], rfl, (by show 1 ≤ 10000; decide), rfl⟩))
      · refine ⟨⟨[], rfl, by rw [List.append_nil]; exact le_refl _⟩, fun j t d hd hj ht => ?_, fun t ht => ?_⟩
        · obtain ⟨u, hu, rfl⟩ := at_map hd
          subst ht
          have lt : (ws ++ us.take j).length ≤ 3 := by
            rw [List.length_append, List.length_take]; omega
          have hn : u ∉ ws ++ us.take j := fun hm => by
            rcases List.mem_append.mp hm with h | h
            · exact hus.2.2 u (List.mem_of_getElem? hu) (hw2 u h)
            · exact nodup_take hus.2.1 hu h
          have e := law_put nd hc hn c.rc
          refine tn 8 sc__law_steps.nd (ws_cons (w_putT 1 C (eL _ lt) (v 5 (ev_tup (ea2 (v 3 (v 8 ⟨[eN.enc c.nm, eN.enc u], rfl, (by show 2 ≤ 10000; decide), (c.nm, u), _, rfl, rfl, ws_nil ⟨_, rfl, ?_⟩⟩)))))))
          rw [e, take_more hu, ← List.append_assoc, List.map_append (l₁ := ws ++ _), ← List.append_assoc]
          have e2 : [u].map (fun w => (((c.nm, w) : Pr), if w = wSw then c.sn else c.rc)) = [((c.nm, u), c.rc)] := by
            rw [List.map_singleton, if_neg (hus.2.2 u (List.mem_of_getElem? hu))]
          rw [e2]
          exact le_keep (le_keep (le_keep (le_keep (le_keep (le_keep (le_keep (le_keep (le_drop le_nil))))))))
        · subst ht
          rw [List.length_map, List.take_length, ← hwu]
          refine ws_nil (ws_nil ⟨_, rfl, ?_⟩)
          rw [law_take hc]
          exact le_keep (le_keep (le_drop (le_drop (le_drop (le_drop (le_drop (le_drop (le_keep le_nil))))))))
    · rw [Bool.not_eq_false', decide_eq_true_iff] at h
      rw [if_pos h, List.append_nil] at hwo
      rw [law_take hc]
      have e : lawChSteps c = ws.map fun w => ((c.nm, w), if w = wSw then c.sn else c.rc) := by unfold lawChSteps; rw [hwo]
      rw [e]
      exact le_keep (le_keep (le_drop (le_drop (le_drop (le_drop (le_drop (le_drop (le_keep le_nil))))))))
  · subst hs
    rw [List.length_map, List.take_length]
    exact ws_frz 1 (frz_dT _) (ws_cons (ws_ret (v 1 hκ)))
end FR
set_option Elab.async false
set_option linter.all false
set_option maxRecDepth 100000
set_option maxHeartbeats 2000000
namespace FR
open PySem PySem.Spec PyProof.Rows L2
def dAt (c : Ch) (d : Done) : D := .tuple [eF.enc (wrAt c d), eRd.enc (rdAt c d)]
def T_law_at : Tp := fun Rs κ => ∃ (c : Ch) (d : Done), Rs = [dat (dCh c), dat (eS.enc d)] ∧ c.Fit ∧ κ (dat (dAt c d))
theorem P_law_at {G : Gb} (g : Gx G) (S : Std G "_law_at" "_law_at" s__law_at) : Prom G "_law_at" 1 p__law_at (SpF T_law_at) := by
  refine S.prom sc__law_at (by rintro Rs κ ⟨_, _, rfl, _⟩; rfl) (fun _ _ _ _ _ _ us hl => match us, hl with | [_, _], _ => rfl) fun X f Rs κ C hU h => ?_
  obtain ⟨c, d, rfl, ft, hκ⟩ := h
  refine ws_cons (w_asg3 3 4 5 C hU.2 (ex_of (ixc _ (v 0 ⟨rfl, ex_of (ixc _ (v 0 ⟨rfl, ex_of (ixc _ (v 0 ⟨rfl, ?_⟩))⟩))⟩))))
  refine ws_cons (w_set 2 (slc (v 4 ⟨_, rfl, ?_⟩)))
  let E0 : Fs × Fs → Option Ent → Env := fun e x => [some (.fz (dat (dCh c))), some (.fz (dat (eS.enc d))), some (.fz (dat (eRd.enc e))), some (.fz (dat (eN.enc c.nm))), some (.fz (dat (dFm c.od))), some (.fz (dat (dFm c.nw))), x, none]
  refine ws_mid (fun ρ' => ∃ x, ρ' = E0 (if (c.nm, wWi) ∈ d then wid c.od.rd c.nw.rd else c.od.rd) x) (ws_if (et_c (ec_in C.at eR (ev_tup (ea2 (v 3 (ev_str ⟨[eN.enc c.nm, eN.enc wWi], rfl, by show 2 ≤ 10000; decide, v 1 ⟨(c.nm, wWi), d, rfl, .inr rfl, _, rfl, fun h => ?_, fun h => ws_nil ⟨none, ?_⟩⟩⟩))))))) ?_
  · rw [decide_eq_true_iff] at h
    refine ws_cons (w_setLc 6 [("_law_field", 7)] C (it_tup (ixc _ (v 4 ⟨rfl, _, rfl, ?_⟩))))
    refine lc_mapT (xs := c.od.ne) eN.enc (fun x => decide (x ∈ c.nw.ne)) eN.enc (fun x hx X' C' => tn 7 sc__law_at.nd fun X2 C2 => ts_one (et_c (ec_in C2.at eN (v 7 (ixc _ (v 5 ⟨rfl, x, c.nw.ne, rfl, .inr rfl, _, rfl, rfl, fun _ X4 C4 => v 7 rfl⟩)))))) ?_
    refine ws_cons (w_set 2 (ev_tup (ea2 (r_tuple g C (v 6 ⟨_, .inl rfl, r_tuple g C (r_sorted g C (r_set g C (ev_catT (ixc _ (v 4 ⟨rfl, ixc _ (v 5 ⟨rfl, _, _, rfl, rfl, ?_, c.od.kn ++ c.nw.kn, .inr ?_, ?_, Nm, eN, dd (c.od.kn ++ c.nw.kn), gath_set _, sortOk_N _, ?_, _, .inl rfl, [eF.enc (wid c.od.rd c.nw.rd).1, eF.enc (wid c.od.rd c.nw.rd).2], rfl, (by show 2 ≤ 10000; decide), ws_nil ⟨some (.fz (li ((c.od.ne.filter fun x => decide (x ∈ c.nw.ne)).map eN.enc))), ?_⟩⟩)⟩)))))⟩)))))
    · rw [List.length_map, List.length_map]; have := ft.o; have := ft.n; omega
    · rw [List.map_append]
    · rw [List.length_append]; have := ft.o; have := ft.n; omega
    · have := (nodup_dd (c.od.kn ++ c.nw.kn)).sublen (fun x hx => mem_dd.mp hx)
      rw [List.length_append] at this
      have := ft.o; have := ft.n
      omega
    · rw [if_pos h]; rfl
  · rw [decide_eq_false_iff_not] at h
    rw [if_neg h]; rfl
  rintro ρ' ⟨x, rfl⟩
  refine ws_mid (fun ρ' => ρ' = E0 (rdAt c d) x) (ws_if (et_w (ew_or (et_c (ec_in C.at eR (ev_tup (ea2 (v 3 (ev_str ⟨[eN.enc c.nm, eN.enc wRe], rfl, by show 2 ≤ 10000; decide, v 1 ⟨(c.nm, wRe), d, rfl, .inr rfl, _, rfl, fun h => ?_, fun h => ?_⟩⟩))))))))) ?_
  · rw [decide_eq_true_iff] at h
    refine ⟨fun _ => ws_cons (w_set 2 (slc (v 5 ⟨_, rfl, ws_nil ?_⟩))), fun h => (by cases h)⟩
    unfold rdAt
    rw [if_pos (.inl h)]; rfl
  · rw [decide_eq_false_iff_not] at h
    refine ew_or1 (et_c (ec_in C.at eR (ev_tup (ea2 (v 3 (ev_str ⟨[eN.enc c.nm, eN.enc wNa], rfl, by show 2 ≤ 10000; decide, v 1 ⟨(c.nm, wNa), d, rfl, .inr rfl, _, rfl, fun h' => ?_, fun h' => ws_nil ?_⟩⟩))))))
    · rw [decide_eq_true_iff] at h'
      refine ws_cons (w_set 2 (slc (v 5 ⟨_, rfl, ws_nil ?_⟩)))
      unfold rdAt
      rw [if_pos (.inr h')]; rfl
    · rw [decide_eq_false_iff_not] at h'
      unfold rdAt
      rw [if_neg (fun q => q.elim h h')]
  rintro ρ' rfl
  unfold dAt at hκ
  refine ws_cons (ws_ret (ev_tup (ea2 (ev_if (et_c (ec_in C.at eR (ev_tup (ea2 (v 3 (ev_str ⟨[eN.enc c.nm, eN.enc wSw], rfl, by show 2 ≤ 10000; decide, v 1 ⟨(c.nm, wSw), d, rfl, .inr rfl, _, rfl, fun h => ?_, fun h => ?_⟩⟩))))))))))
  · rw [decide_eq_true_iff] at h
    refine ixc (eF.enc c.nw.wr) (v 5 ⟨rfl, v 2 ⟨[eF.enc (wrAt c d), eRd.enc (rdAt c d)], ?_, (by show 2 ≤ 10000; decide), hκ⟩⟩)
    unfold wrAt
    rw [if_pos h]; rfl
  · rw [decide_eq_false_iff_not] at h
    refine ixc (eF.enc c.od.wr) (v 4 ⟨rfl, v 2 ⟨[eF.enc (wrAt c d), eRd.enc (rdAt c d)], ?_, (by show 2 ≤ 10000; decide), hκ⟩⟩)
    unfold wrAt
    rw [if_neg h]; rfl
/-! ### who is refused -/
def sentsOf (c : Ch) (d : Done) (r : Run) : List Fs := (vers d r c.sn).map (wrAt c)
def eyesOf (c : Ch) (d : Done) (r : Run) : List (Fs × Fs) := (vers d r c.rc).map (rdAt c)
def bad (c : Ch) (d : Done) (r : Run) (e : Fs × Fs) : Bool := !((sentsOf c d r).map fun w => acc e w).all id
theorem isRef_eq (c : Ch) (d : Done) (r : Run) : isRef c d r = (eyesOf c d r).any (bad c d r) := by
  rw [Bool.eq_iff_iff]
  unfold isRef bad eyesOf sentsOf
  simp only [List.any_eq_true, List.all_map, Bool.not_eq_true', List.all_eq_false, List.mem_map, Function.comp, id]
  constructor
  · rintro ⟨v, hv, w, hw, h⟩
    exact ⟨_, ⟨w, hw, rfl⟩, v, hv, h⟩
  · rintro ⟨_, ⟨w, hw, rfl⟩, v, hv, h⟩
    exact ⟨v, hv, w, hw, h⟩
theorem refused_take {cs : List Ch} {i : Nat} {c : Ch} (h : cs[i]? = some c) (d : Done) (r : Run) : refusedOf (cs.take (i + 1)) d r = refusedOf (cs.take i) d r ++ (if isRef c d r then [c.nm] else []) := by
  unfold refusedOf
  rw [take_more h, List.filter_append, List.map_append, List.filter_cons, List.filter_nil]
  split <;> rfl
theorem refused_sub {cs : List Ch} {d : Done} {r : Run} {x : Nm} (h : x ∈ refusedOf cs d r) : x ∈ cs.map (·.nm) := by
  obtain ⟨c, hc, rfl⟩ := List.mem_map.mp h
  exact List.mem_map.mpr ⟨c, (List.mem_filter.mp hc).1, rfl⟩
theorem refused_len (cs : List Ch) (d : Done) (r : Run) : (refusedOf cs d r).length ≤ cs.length := by
  unfold refusedOf
  rw [List.length_map]
  exact List.length_filter_le _ _
def T_law_refused : Tp := fun Rs κ => ∃ (cs : List Ch) (d : Done) (r : Run), Rs = [li (cs.map dCh), dat (eS.enc d), runR r] ∧ (∀ c ∈ cs, c.Fit) ∧ (cs.map (·.nm)).Nodup ∧ cs.length ≤ 40 ∧ d.length + r.2.length ≤ 5000 ∧ κ (li ((refusedOf cs d r).map eN.enc))
theorem P_law_refused {G : Gb} (g : Gx G) (S : Std G "_law_refused" "_law_refused" s__law_refused) (P1 : Prom G "_law_at" 1 p__law_at (SpF T_law_at)) (P2 : Prom G "_law_reads" 1 p__law_reads (SpF T_law_reads)) : Prom G "_law_refused" 2 p__law_refused (SpF T_law_refused) := by
  refine S.prom sc__law_refused (by rintro Rs κ ⟨_, _, _, rfl, _⟩; rfl) (fun _ _ _ _ _ _ us hl => match us, hl with | [_, _, _], _ => rfl) fun X f Rs κ C hU h => ?_
  obtain ⟨cs, d, r, rfl, ft, nd, hcl, hl, hκ⟩ := h
  refine ws_cons (w_setX 3 (ex_lst (ea_nil ⟨[], rfl, Nat.zero_le _, ?_⟩)))
  refine ws_cons (w_for (S := List Nm) (fun i s => s = refusedOf (cs.take i) d r) (fun s => [some (.fz (li (cs.map dCh))), some (.fz (dat (eS.enc d))), some (.fz (runR r)), some (.ow (lstO (s.map eN.enc))), none, none, none, none, none]) [4] C (it_list (v 0 ⟨_, rfl, ?_⟩)))
  refine ⟨⟨[], rfl, le_refl _⟩, fun i s dd hd hi hs => ?_, fun s hs => ?_⟩
  · obtain ⟨c, hc, rfl⟩ := at_map hd
    subst hs
    have hft := ft c (List.mem_of_getElem? hc)
    let E0 : List Nm → Option Ent → Option Ent → Option Ent → Env := fun fd e a b => [some (.fz (li (cs.map dCh))), some (.fz (dat (eS.enc d))), some (.fz (runR r)), some (.ow (lstO (fd.map eN.enc))), some (.fz (dat (dCh c))), e, a, b, none]
    refine tn 4 sc__law_refused.nd (ws_cons (w_par 6 7 C (ex_lst (ea_one (ixc (eF.enc (wrAt c d)) (ds := [eF.enc (wrAt c d), eRd.enc (rdAt c d)]) (r_call P1 C (ea2 (v 4 (v 1 ⟨c, d, rfl, hft, rfl, [eF.enc (wrAt c d)], rfl, (by show 1 ≤ 10000; decide), ?_⟩))))))) ))
    refine ex_lst (ea_one (ixc (eRd.enc (rdAt c d)) (ds := [eF.enc (wrAt c d), eRd.enc (rdAt c d)]) (r_call P1 C (ea2 (v 4 (v 1 ⟨c, d, rfl, hft, rfl, [eRd.enc (rdAt c d)], rfl, (by show 1 ≤ 10000; decide), ?_⟩))))))
    have more : ∀ x : Nm, x = r.1 → gt [(r.1, eS.enc r.2)] x = some (eS.enc r.2) := fun x hx => by rw [gt_one, if_pos hx]
    have cat : tu (d.map eR.enc ++ r.2.map eR.enc) = dat (eS.enc (d ++ r.2)) := by rw [← List.map_append]; rfl
    refine ws_mid (fun ρ' => ρ' = E0 (refusedOf (cs.take i) d r) none (some (.ow (lstO ((sentsOf c d r).map eF.enc)))) (some (.ow (lstO [eRd.enc (rdAt c d)])))) (ws_if (et_c (ec_inK nmK_inj C.at (ixc (eN.enc c.sn) (v 4 ⟨rfl, v 2 ⟨_, c.sn, c.sn.1, rfl, rfl, .inr rfl, _, rfl, fun h => ?_, fun h => ws_nil ?_⟩⟩))))) ?_
    · rw [gt_one] at h
      by_cases hx : c.sn = r.1
      · refine ws_cons (w_append (ds := [eF.enc (wrAt c d)]) 6 (by show 1 ≤ 10000; decide) (ixc (eF.enc (wrAt c (d ++ r.2))) (ds := [eF.enc (wrAt c (d ++ r.2)), eRd.enc (rdAt c (d ++ r.2))]) (r_call P1 C (ea2 (v 4 (ev_catT (v 1 (ev_getK nmK_inj C.at (by intro _ _; rfl) (v 2 (ixc (eN.enc c.sn) (v 4 ⟨rfl, _, c.sn, eS.enc r.2, c.sn.1, .inr rfl, rfl, rfl, more _ hx, d.map eR.enc, r.2.map eR.enc, rfl, rfl, ?_, c, d ++ r.2, ?_, hft, rfl, ?_⟩)))))))))))
        · rw [List.length_map, List.length_map]; omega
        · rw [cat]
        · refine ⟨_, rfl, ws_nil ?_⟩
          unfold sentsOf vers
          rw [if_pos hx]; rfl
      · rw [if_neg hx] at h; cases h
    · rw [gt_one] at h
      by_cases hx : c.sn = r.1
      · rw [if_pos hx] at h; cases h
      · unfold sentsOf vers
        rw [if_neg hx]; rfl
    rintro ρ' rfl
    refine ws_mid (fun ρ' => ρ' = E0 (refusedOf (cs.take i) d r) none (some (.ow (lstO ((sentsOf c d r).map eF.enc)))) (some (.ow (lstO ((eyesOf c d r).map eRd.enc))))) (ws_if (et_c (ec_inK nmK_inj C.at (ixc (eN.enc c.rc) (v 4 ⟨rfl, v 2 ⟨_, c.rc, c.rc.1, rfl, rfl, .inr rfl, _, rfl, fun h => ?_, fun h => ws_nil ?_⟩⟩))))) ?_
    · rw [gt_one] at h
      by_cases hx : c.rc = r.1
      · refine ws_cons (w_append (ds := [eRd.enc (rdAt c d)]) 7 (by show 1 ≤ 10000; decide) (ixc (eRd.enc (rdAt c (d ++ r.2))) (ds := [eF.enc (wrAt c (d ++ r.2)), eRd.enc (rdAt c (d ++ r.2))]) (r_call P1 C (ea2 (v 4 (ev_catT (v 1 (ev_getK nmK_inj C.at (by intro _ _; rfl) (v 2 (ixc (eN.enc c.rc) (v 4 ⟨rfl, _, c.rc, eS.enc r.2, c.rc.1, .inr rfl, rfl, rfl, more _ hx, d.map eR.enc, r.2.map eR.enc, rfl, rfl, ?_, c, d ++ r.2, ?_, hft, rfl, ?_⟩)))))))))))
        · rw [List.length_map, List.length_map]; omega
        · rw [cat]
        · refine ⟨_, rfl, ws_nil ?_⟩
          unfold eyesOf vers
          rw [if_pos hx]; rfl
      · rw [if_neg hx] at h; cases h
    · rw [gt_one] at h
      by_cases hx : c.rc = r.1
      · rw [if_pos hx] at h; cases h
      · unfold eyesOf vers
        rw [if_neg hx]; rfl
    rintro ρ' rfl
    refine ws_freeze 6 (lend_lst _) (ws_freeze 7 (lend_lst _) ?_)
    refine ws_cons (w_for (S := List Nm) (fun j s => s = refusedOf (cs.take i) d r ++ (if ((eyesOf c d r).take j).any (bad c d r) then [c.nm] else [])) (fun s => E0 s none (some (.fz (li ((sentsOf c d r).map eF.enc)))) (some (.fz (li ((eyesOf c d r).map eRd.enc))))) [5] C (it_list (v 7 ⟨_, rfl, ?_⟩)))
    refine ⟨⟨refusedOf (cs.take i) d r, by simp, le_refl _⟩, fun j t dd hd hj ht => ?_, fun t ht => ?_⟩
    · obtain ⟨e, he, rfl⟩ := at_map hd
      have lt : t.length ≤ 1000 := by
        have h1 := refused_len (cs.take i) d r
        have h2 : (cs.take i).length ≤ cs.length := by rw [List.length_take]; omega
        rw [ht, List.length_append]
        split <;> simp <;> omega
      have an : ((eyesOf c d r).take (j + 1)).any (bad c d r) = (((eyesOf c d r).take j).any (bad c d r) || bad c d r e) := by
        rw [take_more he, List.any_append]; simp
      have notyet : c.nm ∉ refusedOf (cs.take i) d r := fun h => by
        have := refused_sub h
        rw [List.map_take] at this
        exact nodup_take nd (i := i) (x := c.nm) (by rw [List.getElem?_map, hc]; rfl) this
      refine tnC 5 hU.2 sc__law_refused.nd (ws_cons (ws_if (et_w (ew_and (et_not (et_val (r_all g C (r_lc [("_law_fields", 8)] C (it_list (v 6 ⟨_, rfl, ?_⟩))))))))))
      refine lc_each (xs := sentsOf c d r) eF.enc (fun w => .bool (acc e w)) (fun w hw X' C' => tn 8 sc__law_refused.nd fun X2 C2 => r_call P2 C2 (ea2 (v 5 (v 8 ⟨e, w, rfl, rfl⟩)))) ?_
      refine ⟨(sentsOf c d r).map fun w => acc e w, by rw [List.map_map]; rfl, _, rfl, fun h => ew_and1 (et_lend 3 (lend_lst _) (et_c (ec_notIn C.at eN (ixc (eN.enc c.nm) (v 4 ⟨rfl, v 3 ⟨c.nm, t, rfl, .inl rfl, _, rfl, fun h' => ?_, fun h' => ws_nil (ws_nil ⟨_, rfl, ?_⟩)⟩⟩))))), fun h => ⟨fun h' => (by cases h'), fun _ => ws_nil (ws_nil ⟨_, rfl, ?_⟩)⟩⟩
      · refine ws_cons (w_append (ds := t.map eN.enc) 3 (by rw [List.length_map]; omega) (ixc (eN.enc c.nm) (v 4 ⟨rfl, _, rfl, ws_nil (ws_nil ⟨_, rfl, ?_⟩)⟩)))
        rw [Bool.not_eq_true', decide_eq_false_iff_not] at h'
        have hb : bad c d r e = true := h
        have h0 : ((eyesOf c d r).take j).any (bad c d r) = false := by
          cases q : ((eyesOf c d r).take j).any (bad c d r) with
          | false => rfl
          | true => rw [q, if_pos rfl] at ht; exact absurd (by rw [ht]; simp) h'
        rw [h0, if_neg (by decide), List.append_nil] at ht
        subst ht
        rw [an, hb, Bool.or_true, if_pos rfl]
        simp only [E0, List.map_append, List.map_cons, List.map_nil]
        exact le_keep (le_keep (le_keep (le_keep (le_keep (le_drop (le_keep (le_keep (le_keep le_nil))))))))
      · have h' : c.nm ∈ t := by simpa using h'
        have h1 : ((eyesOf c d r).take j).any (bad c d r) = true := by
          cases q : ((eyesOf c d r).take j).any (bad c d r) with
          | true => rfl
          | false => rw [q, if_neg (by decide), List.append_nil] at ht; rw [ht] at h'; exact absurd h' notyet
        rw [h1, if_pos rfl] at ht
        rw [an, h1, Bool.true_or, if_pos rfl, ← ht]
        exact le_keep (le_keep (le_keep (le_keep (le_keep (le_drop (le_keep (le_keep (le_keep le_nil))))))))
      · have hb : bad c d r e = false := h
        rw [an, hb, Bool.or_false, ← ht]
        exact le_keep (le_keep (le_keep (le_keep (le_keep (le_drop (le_keep (le_keep (le_keep le_nil))))))))
    · subst ht
      refine ws_nil ⟨_, rfl, ?_⟩
      rw [refused_take hc, isRef_eq, List.length_map, List.take_length]
      exact le_keep (le_keep (le_keep (le_keep (le_drop (le_keep (le_drop (le_drop (le_keep le_nil))))))))
  · subst hs
    rw [List.length_map, List.take_length]
    exact ws_freeze 3 (lend_lst _) (ws_cons (ws_ret (v 3 hκ)))
end FR
set_option Elab.async false
set_option linter.all false
set_option maxRecDepth 100000
set_option maxHeartbeats 2000000
namespace FR
open PySem PySem.Spec PyProof.Rows L2
/-! ### parts, ways -/
def partStep (acc : List Done) (x : Pr) : List Done := acc ++ acc.map (· ++ [x])
def partsOf (xs : List Pr) : List Done := xs.foldl partStep [[]]
theorem parts_len (xs : List Pr) : (partsOf xs).length = 2 ^ xs.length := by
  have : ∀ (xs : List Pr) (acc : List Done), (xs.foldl partStep acc).length = acc.length * 2 ^ xs.length := fun xs => by
    induction xs with
    | nil => intro acc; simp
    | cons x xs ih =>
      intro acc
      rw [List.foldl_cons, ih]
      unfold partStep
      rw [List.length_append, List.length_map, List.length_cons, Nat.pow_succ, ← Nat.two_mul]
      rw [Nat.mul_comm 2, Nat.mul_assoc, Nat.mul_comm 2]
  unfold partsOf
  rw [this]
  simp
theorem parts_take {xs : List Pr} {i : Nat} {x : Pr} (h : xs[i]? = some x) : partsOf (xs.take (i + 1)) = partStep (partsOf (xs.take i)) x := by
  unfold partsOf
  rw [take_more h, List.foldl_append]
  rfl
theorem parts_mem_len (xs : List Pr) : ∀ p ∈ partsOf xs, p.length ≤ xs.length := by
  have : ∀ (ys : List Pr) (acc : List Done) (n : Nat), (∀ p ∈ acc, p.length ≤ n) → ∀ p ∈ ys.foldl partStep acc, p.length ≤ n + ys.length := fun ys => by
    induction ys with
    | nil => intro acc n h p hp; exact h p hp
    | cons y ys ih =>
      intro acc n h p hp
      rw [List.foldl_cons] at hp
      have := ih (partStep acc y) (n + 1) (fun q hq => by
        unfold partStep at hq
        rcases List.mem_append.mp hq with hq | hq
        · have := h q hq; omega
        · obtain ⟨q', hq', rfl⟩ := List.mem_map.mp hq
          rw [List.length_append]
          have := h q' hq'
          simp; omega) p hp
      rw [List.length_cons]; omega
  intro p hp
  have := this xs [[]] 0 (by simp) p hp
  omega
def T_law_parts : Tp := fun Rs κ => ∃ xs : List Pr, Rs = [dat (eS.enc xs)] ∧ xs.length ≤ 10 ∧ κ (li (((partsOf xs).drop 1).map eS.enc))
theorem P_law_parts {G : Gb} (g : Gx G) (S : Std G "_law_parts" "_law_parts" s__law_parts) : Prom G "_law_parts" 1 p__law_parts (SpF T_law_parts) := by
  refine S.prom sc__law_parts (by rintro Rs κ ⟨_, rfl, _⟩; rfl) (fun _ _ _ _ _ _ us hl => match us, hl with | [_], _ => rfl) fun X f Rs κ C hU h => ?_
  obtain ⟨xs, rfl, hl, hκ⟩ := h
  refine ws_cons (w_set 1 (ev_lst (ea_one (ev_tup (ea_nil ⟨[], rfl, Nat.zero_le _, [eS.enc []], rfl, (by show 1 ≤ 10000; decide), ?_⟩)))))
  refine ws_cons (w_for (S := List Done) (fun i s => s = partsOf (xs.take i)) (fun s => [some (.fz (dat (eS.enc xs))), some (.fz (li (s.map eS.enc))), none, none]) [2] C (it_tup (v 0 ⟨_, rfl, ?_⟩)))
  refine ⟨⟨[[]], rfl, le_refl _⟩, fun i s d hd hi hs => ?_, fun s hs => ?_⟩
  · obtain ⟨x, hx, rfl⟩ := at_map hd
    have hil : i < xs.length := (List.getElem?_eq_some_iff.mp hx).1
    have hls : s.length ≤ 1024 := by
      rw [hs, parts_len, List.length_take]
      have : min i xs.length ≤ 10 := by omega
      exact Nat.le_trans (Nat.pow_le_pow_right (by decide) this) (by decide)
    have hlp : ∀ p ∈ s, p.length ≤ 100 := by
      intro p hp
      rw [hs] at hp
      have := parts_mem_len (xs.take i) p hp
      rw [List.length_take] at this
      omega
    refine tnC 2 hU.2 sc__law_parts.nd (ws_cons (w_set 1 (ev_catL (v 1 (r_lc [("_law_part", 3)] C (it_list (v 1 ⟨_, rfl, ?_⟩)))))))
    refine lc_each (xs := s) eS.enc (fun p => eS.enc (p ++ [x])) (fun p hp X' C' => tn 3 sc__law_parts.nd fun X2 C2 => ev_catT (v 3 (ev_tup (ea_one (v 2 ⟨[eR.enc x], rfl, (by show 1 ≤ 10000; decide), p.map eR.enc, [eR.enc x], rfl, rfl, ?_, ?_⟩))))) ?_
    · rw [List.length_map]
      have := hlp p hp
      show _ + 1 ≤ 10000
      omega
    · show tu _ = tu ((p ++ [x]).map eR.enc)
      rw [List.map_append]; rfl
    · refine ⟨s.map eS.enc, s.map fun p => eS.enc (p ++ [x]), rfl, rfl, ?_, ws_nil ⟨partsOf (xs.take (i + 1)), rfl, ?_⟩⟩
      · rw [List.length_map, List.length_map]; omega
      · rw [parts_take hx, ← hs]
        have e : s.map eS.enc ++ s.map (fun p => eS.enc (p ++ [x])) = (partStep s x).map eS.enc := by
          unfold partStep
          rw [List.map_append, List.map_map]; rfl
        rw [e]
        exact le_keep (le_keep (le_drop (le_drop le_nil)))
  · subst hs
    rw [List.length_map, List.take_length]
    refine ws_cons (ws_ret (slcL (v 1 ⟨_, rfl, ?_⟩)))
    rw [← List.map_drop]; exact hκ
/-- the releases that nobody refuses -/
def leftOf (cs : List Ch) (d : Done) (o : Nm) : Done := srt eR (((lawSteps cs).filter fun p => decide (p.2 = o) && !decide (p.1 ∈ d)).map (·.1))
def triesOf (l : Done) (whole : Bool) : List Done := if whole then (if l = [] then [] else [l]) else (partsOf l).drop 1
def waysOne (cs : List Ch) (d : Done) (whole : Bool) (o : Nm) : List Run := ((triesOf (leftOf cs d o) whole).filter fun p => decide (refusedOf cs d (o, p) = [])).map fun p => (o, p)
def waysOf (hs : Fs) (cs : List Ch) (d : Done) (whole : Bool) : List Run := hs.flatMap (waysOne cs d whole)
theorem law_keys_nodup {cs : List Ch} (nd : (cs.map (·.nm)).Nodup) : ((lawSteps cs).map (·.1)).Nodup := by
  induction cs with
  | nil => exact List.nodup_nil
  | cons c cs ih =>
    rw [List.map_cons, List.nodup_cons] at nd
    show ((lawChSteps c ++ lawSteps cs).map (·.1)).Nodup
    rw [List.map_append, List.nodup_append]
    refine ⟨?_, ih nd.2, fun p hp q hq e => ?_⟩
    · unfold lawChSteps
      rw [List.map_map]
      exact List.pairwise_map.mpr ((words_nodup c).imp fun hne e => hne (Prod.ext_iff.mp e).2)
    · subst e
      unfold lawChSteps at hp
      rw [List.map_map] at hp
      obtain ⟨w, _, rfl⟩ := List.mem_map.mp hp
      obtain ⟨c', hc', e, _⟩ := law_nm hq
      exact nd.1 (List.mem_map.mpr ⟨c', hc', e.symm⟩)
theorem gt_mem {kvs : List (Pr × Nm)} (nd : (kvs.map (·.1)).Nodup) {p : Pr × Nm} (h : p ∈ kvs) : gt (encV kvs) p.1 = some (eN.enc p.2) := by
  induction kvs with
  | nil => cases h
  | cons q kvs ih =>
    rw [List.map_cons, List.nodup_cons] at nd
    unfold gt encV
    rw [List.map_cons, List.find?_cons]
    rcases List.mem_cons.mp h with rfl | h
    · simp
    · have : ¬ q.1 = p.1 := fun e => nd.1 (by rw [e]; exact List.mem_map.mpr ⟨p, h, rfl⟩)
      simp only [this, decide_false]
      exact ih nd.2 h
def eNL : Enc (List Nm) := eL eN dN
theorem ways_take {hs : Fs} {cs : List Ch} {d : Done} {whole : Bool} {i : Nat} {o : Nm} (h : hs[i]? = some o) : waysOf (hs.take (i + 1)) cs d whole = waysOf (hs.take i) cs d whole ++ waysOne cs d whole o := by
  unfold waysOf
  rw [take_more h, List.flatMap_append]
  simp
theorem left_len (cs : List Ch) (d : Done) (o : Nm) : (leftOf cs d o).length ≤ (lawSteps cs).length := by
  unfold leftOf
  rw [srt_length, List.length_map]
  exact List.length_filter_le _ _
theorem tries_mem {l : Done} {whole : Bool} {p : Done} (h : p ∈ triesOf l whole) : p.length ≤ l.length := by
  unfold triesOf at h
  split at h
  · split at h
    · cases h
    · rw [List.mem_singleton] at h; subst h; exact Nat.le_refl _
  · exact parts_mem_len l p (List.mem_of_mem_drop h)
theorem tries_len {l : Done} {whole : Bool} (hl : l.length ≤ 10) : (triesOf l whole).length ≤ 1024 := by
  unfold triesOf
  split
  · split <;> simp
  · rw [List.length_drop, parts_len]
    have : 2 ^ l.length ≤ 2 ^ 10 := Nat.pow_le_pow_right (by decide) hl
    omega
theorem ways_len {hs : Fs} {cs : List Ch} {d : Done} {whole : Bool} (hl : (lawSteps cs).length ≤ 10) : (waysOf hs cs d whole).length ≤ 1024 * hs.length := by
  unfold waysOf
  have h1 : ∀ o, (waysOne cs d whole o).length ≤ 1024 := fun o => by
    unfold waysOne
    rw [List.length_map]
    exact Nat.le_trans (List.length_filter_le _ _) (tries_len (Nat.le_trans (left_len cs d o) hl))
  induction hs with
  | nil => simp
  | cons o hs ih =>
    rw [List.flatMap_cons, List.length_append, List.length_cons, Nat.mul_succ]
    have := h1 o
    omega
def T_law_ways : Tp := fun Rs κ => ∃ (hs : Fs) (cs : List Ch) (d : Done) (whole : Bool), Rs = [dat (eF.enc hs), li (cs.map dCh), dat (eS.enc d), bl whole] ∧ (∀ c ∈ cs, c.Fit) ∧ (cs.map (·.nm)).Nodup ∧ cs.length ≤ 40 ∧ (lawSteps cs).length ≤ 10 ∧ d.length ≤ 1000 ∧ hs.length ≤ 8 ∧ κ (li ((waysOf hs cs d whole).map dRun))
theorem P_law_ways {G : Gb} (g : Gx G) (S : Std G "_law_ways" "_law_ways" s__law_ways) (P1 : Prom G "_law_steps" 3 p__law_steps (SpF T_law_steps)) (P2 : Prom G "_law_parts" 1 p__law_parts (SpF T_law_parts)) (P3 : Prom G "_law_refused" 2 p__law_refused (SpF T_law_refused)) : Prom G "_law_ways" 4 p__law_ways (SpF T_law_ways) := by
  refine S.prom sc__law_ways (by rintro Rs κ ⟨_, _, _, _, rfl, _⟩; rfl) (fun _ _ _ _ _ _ us hl => match us, hl with | [_, _, _, _], _ => rfl) fun X f Rs κ C hU h => ?_
  obtain ⟨hs, cs, d, whole, rfl, ft, nd, hcl, hsl, hdl, hhl, hκ⟩ := h
  let E0 : List Run → Option Ent → Option Ent → Option Ent → Env := fun fd o l x => [some (.fz (dat (eF.enc hs))), some (.fz (li (cs.map dCh))), some (.fz (dat (eS.enc d))), some (.fz (bl whole)), o, some (.fz (dTR (encV (lawSteps cs)))), some (.ow (lstO (fd.map dRun))), l, x, none]
  refine ws_cons (w_asg2 5 6 C hU.2 (ex_of (r_call P1 C (ea_one (v 1 ⟨cs, rfl, nd, hcl, ex_lst (ea_nil ⟨[], rfl, Nat.zero_le _, ?_⟩)⟩)))))
  refine ws_cons (w_for (S := List Run) (fun i s => s = waysOf (hs.take i) cs d whole) (fun s => E0 s none none none) [4] C (it_tup (v 0 ⟨_, rfl, ?_⟩)))
  refine ⟨⟨[], rfl, le_refl _⟩, fun i s dd hd hi hs' => ?_, fun s hs' => ?_⟩
  · obtain ⟨o, ho, rfl⟩ := at_map hd
    subst hs'
    have lf := left_len cs d o
    refine tnC 4 hU.2 sc__law_ways.nd (ws_cons (w_set 7 (r_tuple g C (r_sorted g C (r_lc [("_law_move", 9)] C (it_keysT (v 5 ⟨_, rfl, ?_⟩)))))))
    have e1 : (encV (lawSteps cs)).map (fun p => eR.enc p.1) = (lawSteps cs).map fun p => eR.enc p.1 := by
      unfold encV
      rw [List.map_map]; rfl
    rw [e1]
    refine lc_mapT (fun p : Pr × Nm => eR.enc p.1) (fun p => decide (p.2 = o) && !decide (p.1 ∈ d)) (fun p => eR.enc p.1) (fun p hp X' C' => tn 9 sc__law_ways.nd fun X2 C2 => ts_one (et_w (ew_and (et_c (ec_eqE C2.at eN (ev_getT C2.at (by intro _ _; rfl) (v 5 (v 9 ⟨_, p.1, eN.enc p.2, .inl rfl, rfl, gt_mem (law_keys_nodup nd) hp, v 4 ⟨p.2, o, rfl, rfl, _, rfl, fun h => ?_, fun h => ?_⟩⟩)))))))) ?_
    · refine ew_and1 (et_c (ec_notIn C2.at eR (v 9 (v 2 ⟨p.1, d, rfl, .inr rfl, _, rfl, ?_, fun _ X4 C4 => v 9 rfl⟩))))
      rw [h, Bool.true_and]
    · exact ⟨by rw [h, Bool.false_and], fun h' => (by cases h')⟩
    have e2 : (((lawSteps cs).filter fun p => decide (p.2 = o) && !decide (p.1 ∈ d)).map fun p => eR.enc p.1) = (((lawSteps cs).filter fun p => decide (p.2 = o) && !decide (p.1 ∈ d)).map (·.1)).map eR.enc := by rw [List.map_map]; rfl
    rw [e2]
    refine ⟨Pr, eR, _, gath_li _ _, sortOk_R _, ?_, _, .inl rfl, ?_⟩
    · rw [List.length_map]
      have := List.length_filter_le (fun p : Pr × Nm => decide (p.2 = o) && !decide (p.1 ∈ d)) (lawSteps cs)
      omega
    -- the tries
    have tr : ∀ p ∈ triesOf (leftOf cs d o) whole, d.length + p.length ≤ 5000 := fun p hp => by
      have := tries_mem hp
      omega
    refine ws_cons (w_for (S := List Run) (fun j s => s = waysOf (hs.take i) cs d whole ++ (((triesOf (leftOf cs d o) whole).take j).filter fun p => decide (refusedOf cs d (o, p) = [])).map fun p => (o, p)) (fun s => E0 s (some (.fz (dat (eN.enc o)))) (some (.fz (dat (eS.enc (leftOf cs d o))))) none) [8] C (it_list (ev_imp (κ' := fun R => R = li ((triesOf (leftOf cs d o) whole).map eS.enc)) ?_ fun R hR => ⟨_, hR, ?_⟩)))
    · refine ev_if (et_val (v 3 ⟨whole, rfl, fun h => ?_, fun h => ?_⟩))
      · subst h
        refine ev_if (et_c (ec_neE C.at eS (v 7 (ev_tup (ea_nil ⟨[], rfl, Nat.zero_le _, leftOf cs d o, [], rfl, rfl, _, rfl, fun h => ?_, fun h => ?_⟩)))))
        · rw [Bool.not_eq_true', decide_eq_false_iff_not] at h
          refine ev_lst (ea_one (v 7 ⟨[eS.enc (leftOf cs d o)], rfl, (by show 1 ≤ 10000; decide), ?_⟩))
          unfold triesOf
          rw [if_pos rfl, if_neg h]; rfl
        · rw [Bool.not_eq_false', decide_eq_true_iff] at h
          refine ev_lst (ea_nil ⟨[], rfl, Nat.zero_le _, ?_⟩)
          unfold triesOf
          rw [if_pos rfl, if_pos h]; rfl
      · subst h
        exact r_call P2 C (ea_one (v 7 ⟨leftOf cs d o, rfl, by omega, rfl⟩))
    refine ⟨⟨_, rfl, ?_⟩, fun j t dd hd hj ht => ?_, fun t ht => ?_⟩
    · simp only [List.take_zero, List.filter_nil, List.map_nil, List.append_nil]
      exact le_refl _
    · obtain ⟨p, hp, rfl⟩ := at_map hd
      have hm := List.mem_of_getElem? hp
      have lt : t.length ≤ 9500 := by
        rw [ht, List.length_append, List.length_map]
        have h1 := ways_len (hs := hs.take i) (cs := cs) (d := d) (whole := whole) hsl
        have h2 : (hs.take i).length ≤ hs.length := by rw [List.length_take]; omega
        have h3 := List.length_filter_le (fun p : Done => decide (refusedOf cs d (o, p) = [])) ((triesOf (leftOf cs d o) whole).take j)
        have h4 := tries_len (l := leftOf cs d o) (whole := whole) (by omega)
        rw [List.length_take] at h3
        have h5 : 1024 * (hs.take i).length ≤ 1024 * 8 := Nat.mul_le_mul_left _ (by omega)
        omega
      have more : ((triesOf (leftOf cs d o) whole).take (j + 1)).filter (fun p => decide (refusedOf cs d (o, p) = [])) = ((triesOf (leftOf cs d o) whole).take j).filter (fun p => decide (refusedOf cs d (o, p) = [])) ++ (if refusedOf cs d (o, p) = [] then [p] else []) := by
        rw [take_more hp, List.filter_append, List.filter_cons, List.filter_nil]
        by_cases q : refusedOf cs d (o, p) = [] <;> simp [q]
      refine tn 8 sc__law_ways.nd (ws_cons (ws_if (et_c (ec_eqE C.at eNL (r_call P3 C (ea3 (v 1 (v 2 (ev_disp1 (v 4 (v 8 ⟨o, eS.enc p, rfl, rfl, cs, d, (o, p), rfl, ft, nd, hcl, tr p hm, ev_lst (ea_nil ⟨[], rfl, Nat.zero_le _, refusedOf cs d (o, p), [], rfl, rfl, _, rfl, fun h => ?_, fun h => ws_nil (ws_nil ⟨_, rfl, ?_⟩)⟩)⟩)))))))))))
      · rw [decide_eq_true_iff] at h
        refine ws_cons (w_append (ds := t.map dRun) 6 (by rw [List.length_map]; omega) (ev_tup (ea2 (v 4 (v 8 ⟨[eN.enc o, eS.enc p], rfl, (by show 2 ≤ 10000; decide), dRun (o, p), rfl, ws_nil (ws_nil ⟨_, rfl, ?_⟩)⟩)))))
        rw [more, if_pos h, List.map_append, ← List.append_assoc, ← ht]
        simp only [E0, List.map_append, List.map_cons, List.map_nil]
        exact le_keep (le_keep (le_keep (le_keep (le_keep (le_keep (le_keep (le_keep (le_drop (le_keep le_nil)))))))))
      · rw [decide_eq_false_iff_not] at h
        rw [more, if_neg h, List.append_nil, ← ht]
        exact le_keep (le_keep (le_keep (le_keep (le_keep (le_keep (le_keep (le_keep (le_drop (le_keep le_nil)))))))))
    · rw [List.length_map, List.take_length] at ht
      refine ws_nil ⟨_, rfl, ?_⟩
      rw [ways_take ho]
      subst ht
      exact le_keep (le_keep (le_keep (le_keep (le_drop (le_keep (le_keep (le_drop (le_drop (le_keep le_nil)))))))))
  · subst hs'
    rw [List.length_map, List.take_length]
    exact ws_freeze 6 (lend_lst _) (ws_cons (ws_ret (v 6 hκ)))
end FR
set_option Elab.async false
set_option linter.all false
set_option maxRecDepth 100000
set_option maxHeartbeats 2000000
namespace FR
open PySem PySem.Spec PyProof.Rows L2
/-! ### a dict whose keys are tuples of steps -/
def nkP (p : Pr) : NestedKey := .tup [.text p.1.1, .text p.2.1]
def nk (k : Done) : NestedKey := .tup (k.map nkP)
theorem nkP_inj {p q : Pr} (h : nkP p = nkP q) : p = q := by
  unfold nkP at h
  injection h with h
  simp only [List.cons.injEq, NestedKey.text.injEq, and_true] at h
  exact Prod.ext (Subtype.ext h.1) (Subtype.ext h.2)
theorem nk_inj {k l : Done} (h : nk k = nk l) : k = l := by
  unfold nk at h
  injection h with h
  induction k generalizing l with
  | nil => cases l with
    | nil => rfl
    | cons => cases h
  | cons p k ih => cases l with
    | nil => cases h
    | cons q l =>
      simp only [List.map_cons, List.cons.injEq] at h
      rw [nkP_inj h.1, ih h.2]
theorem nk_depth (k : Done) : (nk k).depth ≤ 8 := by
  unfold nk
  simp only [NestedKey.depth]
  have : NestedKey.depthAll (k.map nkP) ≤ 4 := by
    induction k with
    | nil => simp [NestedKey.depthAll]
    | cons p k ih =>
      simp only [List.map_cons, NestedKey.depthAll]
      have : (nkP p).depth ≤ 4 := by simp [nkP, NestedKey.depth, NestedKey.depthAll]
      omega
  omega
section
variable {X : Cx} {f : Fx} {ρ : Env} {e a b c : Expr} {es : List Expr} {s : Stmt} {ss : List Stmt} {κ : Rp → Prop} {Φ : Post} {pos p : Pos} {G : Gb} {k : Nat} {N : List Str} {sc : Scope}
theorem nestP {pins : List (Addr × Obj)} {σ : L2.St} {F M : Hp} {s : Shared} (I : Inv X pins σ (ovl F M) s) {v : V} {u : Value} (r : RelV v u) {p : Pr} (h : Dq F v (eR.enc p)) : NestedIs s.heap (nkP p) u := by
  obtain ⟨b, rfl, hb⟩ := eR_key h
  cases r
  obtain ⟨its, rv, ⟨o, ho, hc, n, hd⟩, _⟩ := I.tuple (SqT.of (ovl_F hb))
  refine .tup ho hc hd ?_
  rw [List.toList_toArray]
  cases rv with
  | cons r1 rr =>
    cases rr with
    | cons r2 rr2 =>
      cases rr2
      obtain ⟨t1, rfl⟩ := r1
      obtain ⟨t2, rfl⟩ := r2
      exact .cons (.text _ _) (.cons (.text _ _) .nil)
theorem nestAll {pins : List (Addr × Obj)} {σ : L2.St} {F M : Hp} {s : Shared} (I : Inv X pins σ (ovl F M) s) : ∀ {vs : List V} {us : List Value} {k : Done}, Vals vs us → DqA F vs (k.map eR.enc) → NestedAll s.heap (k.map nkP) us
  | [], _, [], .nil, _ => .nil
  | _ :: _, _, _ :: _, .cons r rr, .cons h hh => .cons (nestP I r h) (nestAll I rr hh)
theorem nest {pins : List (Addr × Obj)} {σ : L2.St} {F M : Hp} {s : Shared} (I : Inv X pins σ (ovl F M) s) {b : Addr} {k : Done} (h : Dq F (.ref b) (eS.enc k)) : NestedIs s.heap (nk k) (.ref b) := by
  cases h with
  | @tup _ xs _ ha hx =>
    obtain ⟨its, rv, ⟨o, ho, hc, n, hd⟩, _⟩ := I.tuple (SqT.of (ovl_F ha))
    refine .tup ho hc hd ?_
    rw [List.toList_toArray]
    exact nestAll I rv hx
def MetH (P : Program) (w : World) (a : Addr) (xs : List (NestedKey × Addr × Value)) (h : Heap) : Prop := ∃ o es ep, h.get? a = some o ∧ o.ExactDict ∧ o.data = .dict es ep ∧ es.toList = xs.map (entryOfKey (nestedKind P w))
def MetO (P : Program) (w : World) (a : Addr) (xs : List (NestedKey × Addr × Value)) : HO := .ext (MetH P w a xs)
theorem metO_new {P : Program} {w : World} {H : Hp} {h : Heap} {a : Addr} {xs : List (NestedKey × Addr × Value)} (R : MetH P w a xs h) : ObjOk P w H h a (MetO P w a xs) := by
  obtain ⟨o, es, ep, ho, r⟩ := id R
  exact ⟨R, ⟨_, ho⟩, fun h1 h2 ⟨o, es, ep, ho, r⟩ k => ⟨o, es, ep, k o ho, r⟩⟩
/-- the object is where it says -/
theorem met_at {P : Program} {w : World} {H : Hp} {h : Heap} {a a' : Addr} {xs : List (NestedKey × Addr × Value)} (R : ObjOk P w H h a' (MetO P w a xs)) : a' = a := by
  obtain ⟨⟨o, es, ep, ho, r⟩, _, st⟩ := R
  by_cases e : a' = a
  · exact e
  · exfalso
    let L : Obj := { cls := .type "list", data := .seq #[] 0 }
    obtain ⟨o2, es2, ep2, ho2, hx2, _⟩ := st h (h.update a (fun _ => L)) ⟨o, es, ep, ho, r⟩ fun o' ho' => by
      rw [Heap.get?_update_other _ _ (fun z => e z.symm)]; exact ho'
    rw [Froz.get_upd L ho rfl] at ho2
    cases ho2
    have := hx2.1
    injection this with this
    exact absurd this (by decide)
/-- one's own: the dict at a with these keys -/
def metP (G : Gb) (a : Addr) (ks : List Done) : Op := ⟨fun o F => ∃ xs, o = MetO G.P G.w a xs ∧ (a == sysModules) = false ∧ ks.Nodup ∧ ks.length ≤ 10000 ∧ Paired (fun (x : NestedKey × Addr × Value) (k : Done) => x.1 = nk k ∧ Dq F (.ref x.2.1) (eS.enc k)) xs ks,
  fun _ _ _ k ⟨xs, e, h1, h2, h3, r⟩ => ⟨xs, e, h1, h2, h3, Paired.mapP r fun _ _ q => ⟨q.1, q.2.mono k⟩⟩, fun _ _ ⟨_, e, _⟩ => by subst e; rfl⟩
theorem met_keys {F : Hp} {xs : List (NestedKey × Addr × Value)} {ks : List Done} (r : Paired (fun (x : NestedKey × Addr × Value) (k : Done) => x.1 = nk k ∧ Dq F (.ref x.2.1) (eS.enc k)) xs ks) : xs.map (·.1) = ks.map nk := by
  induction r with
  | nil => rfl
  | cons h t ih => rw [List.map_cons, List.map_cons, h.1, ih]
theorem met_dict {pins : List (Addr × Obj)} {σ : L2.St} {F M : Hp} {s : Shared} (I : Inv X pins σ (ovl F M) s) {a : Addr} {xs : List (NestedKey × Addr × Value)} {ks : List Done} (h : MetH X.prog X.w a xs s.heap) (nd : ks.Nodup)
    (r : Paired (fun (x : NestedKey × Addr × Value) (k : Done) => x.1 = nk k ∧ Dq F (.ref x.2.1) (eS.enc k)) xs ks) : s.heap.DictOfH (nestedKind X.prog X.w) a xs := by
  obtain ⟨o, es, ep, ho, hx, hd, he⟩ := h
  refine ⟨o, es, ep, ho, hx, hd, he, ?_, ?_⟩
  · clear he nd
    intro x hm
    induction r with
    | nil => cases hm
    | cons h t ih =>
      rcases List.mem_cons.mp hm with rfl | hm
      · rw [h.1]
        exact ⟨nest I h.2, nk_depth _⟩
      · exact ih hm
  · rw [met_keys r]
    exact List.pairwise_map.mpr (nd.imp fun hne e => hne (nk_inj e))
theorem met_has {F : Hp} {xs : List (NestedKey × Addr × Value)} {ks : List Done} (r : Paired (fun (x : NestedKey × Addr × Value) (k : Done) => x.1 = nk k ∧ Dq F (.ref x.2.1) (eS.enc k)) xs ks) (k : Done) : (atKey xs (nk k)).isSome = decide (k ∈ ks) := by
  induction r with
  | nil => simp [atKey]
  | @cons x l xs ks h t ih =>
    by_cases e : l = k
    · subst e
      simp [atKey, h.1]
    · have e2 : ¬ x.1 = nk k := fun z => e (nk_inj (h.1.symm.trans z))
      have e3 : ¬ k = l := fun z => e z.symm
      have : (atKey (x :: xs) (nk k)).isSome = (atKey xs (nk k)).isSome := by simp [atKey, List.find?_cons, e2]
      rw [this, ih]
      simp [e3]
theorem ec_notInMet {x : Str} {p2 : Pos} {a0 : Addr} {ks : List Done} (i : Nat) (C : Ctx G k X) (h : EvE (mkX X N sc) f ρ a fun R => ∃ l : Done, R = dat (eS.enc l) ∧ κ (bl (!decide (l ∈ ks)))) (hi : ρ[i]? = some (some (.ow (metP G a0 ks))) := by rfl) (hN : N[i]? = some x := by rfl) (hv : visB sc x = true := by decide +kernel)
    (hd : (x == ("__debug__" : Str)) = false := by decide +kernel) (hcd : (x == ("__classdict__" : Str)) = false := by decide +kernel) : EvC (mkX X N sc) f ρ .NotIn a (.Name x p2) κ := fun F M σ d E Q hQ => by
  intro pins s I
  have q := (h F M σ d E (fun x H1 => ∃ R F1 M1, (∃ l : Done, R = dat (eS.enc l) ∧ κ (bl (!decide (l ∈ ks)))) ∧ R.p x F1 ∧ Same F F1 ∧ Dis F1 M1 ∧ f.step M M1 ∧ H1 = ovl F1 M1) fun v R F1 M1 hk hv k1 d1 s1 => ⟨R, F1, M1, hk, hv, k1, d1, s1, rfl⟩) pins s I
  refine thn q fun v s1 ⟨y, H1, I1, r1, R, F1, M1, hk, hy, k1, d1, s1', eH⟩ => ?_
  subst eH
  obtain ⟨l, rfl, hk⟩ := hk
  obtain ⟨w, hσ, ma, o, rfl, ha, hp, h5, h6⟩ := (E.step k1 s1').ent i _ hi
  refine thn ((pe_var (X := mkX X N sc) (pos := p2) hN (vis_of hv) hd hcd).run pins s1 σ _ (fun y H => y = .ref ma ∧ H = ovl F1 M1) I1 ⟨.ref ma, hσ, rfl, rfl⟩) fun u s2 ⟨z, H2, I2, r2, ez, eH⟩ => ?_
  subst ez eH
  cases r2
  obtain ⟨xs, rfl, hsm, nd, _, r⟩ := hp
  have fa := d1 _ _ ha
  have hok := I2.hok ma _ (by rw [ovl_M fa]; exact ha)
  have e1 := met_at (H := ovl F1 M1) hok
  subst e1
  have eP : (mkX X N sc).prog = G.P := C.prog
  have ew : (mkX X N sc).w = G.w := C.w
  have dd := met_dict I2 (a := ma) (xs := xs) (by rw [eP, ew]; exact hok.1) nd r
  obtain ⟨b, rfl⟩ : ∃ b, y = .ref b := by cases hy; exact ⟨_, rfl⟩
  cases r1
  refine wpAny_notIn_heap (knd := nestedKind (mkX X N sc).prog (mkX X N sc).w) (k := nk l) ?_ ⟨nest I2 hy, nk_depth l⟩ hsm dd ?_
  · show (mkX X N sc).A.in1.units + 8 < cLine
    have := C.room.units
    show X.A.units + 1 + 8 < cLine
    omega
  · rw [met_has r]
    exact ⟨.bl _, _, I2.tok _, rfl, hQ _ _ F1 M1 hk (Dq.bl _) k1 d1 s1'⟩
/-- x[k] = v, a new key -/
theorem ws_putMet {x : Str} {p1 p2 : Pos} {value : Expr} {a0 : Addr} {ks : List Done} (i : Nat) (C : Ctx G k X) (hl : ks.length < 10000)
    (h : EvE (mkX X N sc) f ρ value fun S => ∃ d, S = dat d ∧ EvE (mkX X N sc) f ρ b fun R => ∃ l : Done, R = dat (eS.enc l) ∧ l ∉ ks ∧ Φ.nx (ρ.set i (some (.ow (metP G a0 (ks ++ [l])))))) (hi : ρ[i]? = some (some (.ow (metP G a0 ks))) := by rfl) (hN : N[i]? = some x := by rfl) (hv : visB sc x = true := by decide +kernel)
    (hs : swapsWith value (some (.Subscript (.Name x p1) b p2)) pos.line (mkX X N sc).env = pure false := by rfl) (hd : (x == ("__debug__" : Str)) = false := by decide +kernel) (hcd : (x == ("__classdict__" : Str)) = false := by decide +kernel) :
    WS (mkX X N sc) f ρ (.Assign [.Subscript (.Name x p1) b p2] value pos) Φ := fun F M σ d E D A => by
  intro pins s I
  refine wpAny_Assign_Subscript ?_ hs
  have q := (h F M σ d E (fun x H1 => ∃ F1 M1, ∃ d', (EvE (mkX X N sc) f ρ b fun R => ∃ l : Done, R = dat (eS.enc l) ∧ l ∉ ks ∧ Φ.nx (ρ.set i (some (.ow (metP G a0 (ks ++ [l])))))) ∧ Dq F1 x d' ∧ Same F F1 ∧ Dis F1 M1 ∧ f.step M M1 ∧ H1 = ovl F1 M1) fun v R F1 M1 hk hv k1 d1 s1 => by
    obtain ⟨d', rfl, hk⟩ := hk
    exact ⟨F1, M1, d', hk, hv, k1, d1, s1, rfl⟩) pins s I
  refine thn q fun v s1 ⟨y, H1, I1, r1, F1, M1, d', hk, hy, k1, d1, s1', eH⟩ => ?_
  subst eH
  obtain ⟨w, hσ, ma, o, rfl, ha, hp, h5, h6⟩ := (E.step k1 s1').ent i _ hi
  refine thn ((pe_var (X := mkX X N sc) (pos := p1) hN (vis_of hv) hd hcd).run pins s1 σ _ (fun y H => y = .ref ma ∧ H = ovl F1 M1) I1 ⟨.ref ma, hσ, rfl, rfl⟩) fun u s2 ⟨z, H2, I2, r2, ez, eH⟩ => ?_
  subst ez eH
  cases r2
  have q2 := (hk F1 M1 σ d1 (E.step k1 s1') (fun x H1 => ∃ F2 M2, ∃ l : Done, l ∉ ks ∧ Φ.nx (ρ.set i (some (.ow (metP G a0 (ks ++ [l]))))) ∧ Dq F2 x (eS.enc l) ∧ Same F1 F2 ∧ Dis F2 M2 ∧ f.step M1 M2 ∧ H1 = ovl F2 M2) fun v R F2 M2 hk hv k2 d2 s2 => by
    obtain ⟨l, rfl, hn, hk⟩ := hk
    exact ⟨F2, M2, l, hn, hk, hv, k2, d2, s2, rfl⟩) pins s2 I2
  refine thn q2 fun kv s3 ⟨z, H3, I3, r3, F2, M2, l, hn, hk, hz, k2, d2, s2', eH⟩ => ?_
  subst eH
  have E2 := (E.step k1 s1').step k2 s2'
  have ha2 : M2 ma = some o := s2'.1 _ _ h6 ha
  obtain ⟨xs, rfl, hsm, nd, hle, r⟩ := (metP G a0 ks).mono _ _ _ k2 hp
  have fa := d2 _ _ ha2
  have hok := I3.hok ma _ (by rw [ovl_M fa]; exact ha2)
  have e1 := met_at (H := ovl F2 M2) hok
  subst e1
  have eP : (mkX X N sc).prog = G.P := C.prog
  have ew : (mkX X N sc).w = G.w := C.w
  have dd := met_dict I3 (a := ma) (xs := xs) (by rw [eP, ew]; exact hok.1) nd r
  obtain ⟨b0, rfl⟩ : ∃ b, z = .ref b := by cases hz; exact ⟨_, rfl⟩
  cases r3
  have hxl : xs.length = ks.length := Paired.length r
  refine wpAny_setItem_heap (knd := nestedKind (mkX X N sc).prog (mkX X N sc).w) (k := nk l) (hsz := by rw [hxl]; exact Nat.le_of_lt (lt_sz (Nat.le_of_lt hl))) ?_ ⟨nest I3 hz, nk_depth l⟩ dd fun h' dd' hs' => ?_
  · show (mkX X N sc).A.in1.units + 8 < cLine
    have := C.room.units
    show X.A.units + 1 + 8 < cLine
    omega
  · have hnone : atKey xs (nk l) = none := by
      have := met_has r l
      rw [decide_eq_false hn] at this
      cases q : atKey xs (nk l) with
      | none => rfl
      | some _ => rw [q] at this; cases this
    rw [storedH_new hnone] at dd'
    obtain ⟨o', es', ep', ho', hx', hd', he', _⟩ := dd'
    have new : MetH G.P G.w ma (xs ++ [(nk l, b0, v)]) h' := ⟨o', es', ep', ho', hx', hd', by rw [eP, ew] at he'; exact he'⟩
    have I4 : Inv (mkX X N sc) pins σ (L2.upd (ovl F2 M2) ma (MetO G.P G.w ma (xs ++ [(nk l, b0, v)]))) { s3 with heap := h', toks := s3.toks + (nestedKind (mkX X N sc).prog (mkX X N sc).w).draws (nk l) } :=
      d_write I3 (by rw [ovl_M fa, ha2]; exact True.intro) hs' ⟨_, ho'⟩ (by rw [eP, ew]; exact metO_new new)
    rw [upd_ovlM fa] at I4
    refine ⟨σ, _, I4, ?_⟩
    refine A.nx _ σ F2 _ hk (k1.trans k2) ⟨fun b2 x2 hb => ?_, fun b2 x2 hb => ?_⟩ (E2.upd hi hσ ⟨_, rfl, hsm, List.nodup_append.mpr ⟨nd, by simp, fun x hx y hy e => hn (by rw [List.mem_singleton] at hy; rw [← hy, ← e]; exact hx)⟩, by rw [List.length_append]; simp; omega, Paired.snoc r ⟨rfl, hz⟩⟩)
    · by_cases z : b2 = ma
      · rw [z]; exact fa
      · rw [upd_ne z] at hb; exact d2 b2 x2 hb
    · by_cases z : b2 = ma
      · rw [z, upd_same] at hb
        cases hb
        rfl
      · rw [upd_ne z] at hb; exact d2.nt b2 x2 hb
/-- {k: v} -/
theorem ex_newMet {value : Expr} {κ : Ent → Prop} (C : Ctx G k X) (h : EvE (mkX X N sc) f ρ a fun R => ∃ l : Done, R = dat (eS.enc l) ∧ EvE (mkX X N sc) f ρ value fun S => ∃ d, S = dat d ∧ ∀ p, κ (.ow (metP G p [l]))) : EvX (mkX X N sc) f ρ (.Dict [some a] [value] pos) κ := fun F M σ d E Q hQ => by
  intro pins s I
  have eP : (mkX X N sc).prog = G.P := C.prog
  have ew : (mkX X N sc).w = G.w := C.w
  rw [arm_eval_Dict, zip_pairTrees [some a] [value] (mkX X N sc).env pos rfl rfl, dictDisplay_pairs (pairTrees [some a] [value] (mkX X N sc).env pos) (by simp [pairTrees]) (by simp [pairTrees])]
  refine wpAny_bind (wpAny_standAt (wpAny_bind ?_))
  have hp : (ovl F M) s.heap.objs.size = none := I.hok.fresh (Nat.le_refl _)
  obtain ⟨hF, hM⟩ := ovl_none hp
  generalize hpp : s.heap.objs.size = p at hp hF hM
  have nU : f.U ≠ some p := fun z => by
    obtain ⟨_, o', e, _⟩ := E.urn p z
    rw [hM] at e; cases e
  have n0 : f.M0 p = none := by
    cases z : f.M0 p with
    | none => rfl
    | some o' =>
      have := E.base p o' z
      rw [hM] at this; cases this
  have hsm : (p == sysModules) = false := by
    rw [← hpp]
    exact beq_eq_false_iff_ne.mpr (Ne.symm (Nat.ne_of_lt I.big))
  have I0 : Inv (mkX X N sc) pins σ (L2.upd (ovl F M) p (MetO G.P G.w p [])) { s with heap := s.heap.push { cls := .type "dict", data := .dict #[] } } := by
    have := I.laid (a := s.heap.objs.size) (o := MetO G.P G.w s.heap.objs.size []) (h' := s.heap.push { cls := .type "dict", data := .dict #[] }) (t' := s.toks) (fun _ _ q => Heap.get?_push_of_some _ q) (Nat.le_refl _) (by rw [eP, ew]; exact metO_new ⟨_, #[], 0, Heap.get?_push_size _ rfl, ⟨rfl, rfl, rfl⟩, rfl, rfl⟩)
    rw [hpp] at this
    exact this
  rw [upd_ovlM hF] at I0
  have s0 : f.step M (L2.upd M p (MetO G.P G.w p [])) := ⟨fun a o _ z => same_updN hM a o z, fun u hu => by
    obtain ⟨_, o', z, i⟩ := E.urn u hu
    exact ⟨o', same_updN hM _ _ z, i⟩⟩
  have d0 : Dis F (L2.upd M p (MetO G.P G.w p [])) := dis_newM d hF rfl
  have E0 := E.step (Same.refl F) s0
  refine wpAny_subDictH (knd := nestedKind (mkX X N sc).prog (mkX X N sc).w) ?_ (by simp [pairTrees]) ?_
  · show (mkX X N sc).A.units + 8 < cLine
    have := C.room.units
    show X.A.units + 8 < cLine
    omega
  have q := (h F _ σ d0 E0 (fun x H1 => ∃ F1 M1, ∃ l : Done, (EvE (mkX X N sc) f ρ value fun S => ∃ d, S = dat d ∧ ∀ p, κ (.ow (metP G p [l]))) ∧ Dq F1 x (eS.enc l) ∧ Same F F1 ∧ Dis F1 M1 ∧ f.step (L2.upd M p (MetO G.P G.w p [])) M1 ∧ H1 = ovl F1 M1) fun v R F1 M1 hk hv k1 d1 s1 => by
    obtain ⟨l, rfl, hk⟩ := hk
    exact ⟨F1, M1, l, hk, hv, k1, d1, s1, rfl⟩) pins _ I0
  refine pairTrees_cons_walk (thn q fun kv s1 ⟨y, H1, I1, r1, F1, M1, l, hk, hy, k1, d1, s1', eH⟩ => ?_)
  subst eH
  have q2 := (hk F1 M1 σ d1 (E0.step k1 s1') (fun x H1 => ∃ F2 M2, (∀ p, κ (.ow (metP G p [l]))) ∧ Same F1 F2 ∧ Dis F2 M2 ∧ f.step M1 M2 ∧ H1 = ovl F2 M2) fun v R F2 M2 hk hv k2 d2 s2 => by
    obtain ⟨_, _, hk⟩ := hk
    exact ⟨F2, M2, hk, k2, d2, s2, rfl⟩) pins s1 I1
  refine thn q2 fun vv s2 ⟨z, H2, I2, r2, F2, M2, hk, k2, d2, s2', eH⟩ => pairTrees_nil_walk ?_
  subst eH
  have hy := Dq.mono k2 hy
  obtain ⟨b0, rfl⟩ : ∃ b, y = .ref b := by cases hy; exact ⟨_, rfl⟩
  cases r1
  have m2 : M2 p = some (MetO G.P G.w p []) := s2'.1 _ _ nU (s1'.1 _ _ nU upd_same)
  have fa := d2 _ _ m2
  have hok := I2.hok p _ (by rw [ovl_M fa]; exact m2)
  have dd := met_dict I2 (a := p) (xs := []) (ks := []) (by rw [eP, ew]; exact hok.1) List.nodup_nil .nil
  refine ⟨[(nk l, b0, vv)], ⟨rfl, rfl, ⟨nest I2 hy, nk_depth l⟩, True.intro⟩, by rw [hpp]; exact dd, fun h' tk hm' hs' => ?_⟩
  rw [hpp] at hm' hs' ⊢
  have e1 : storedAllH [] [(nk l, b0, vv)] = [(nk l, b0, vv)] := storedAllH_nil_of_nodup _ (by simp)
  rw [e1] at hm'
  obtain ⟨o', es', ep', ho', hx', hd', he', _⟩ := hm'
  have new : MetH G.P G.w p [(nk l, b0, vv)] h' := ⟨o', es', ep', ho', hx', hd', by rw [eP, ew] at he'; exact he'⟩
  have I4 : Inv (mkX X N sc) pins σ (L2.upd (ovl F2 M2) p (MetO G.P G.w p [(nk l, b0, vv)])) { s2 with heap := h', toks := tk } :=
    d_write I2 (by rw [ovl_M fa, m2]; exact True.intro) hs' ⟨_, ho'⟩ (by rw [eP, ew]; exact metO_new new)
  rw [upd_ovlM fa] at I4
  refine wpAny_pure ⟨.ref p, _, I4, rfl, ?_⟩
  refine hQ (.ref p) (.ow (metP G p [l])) F2 _ (hk p) ⟨p, _, rfl, upd_same, ⟨_, rfl, hsm, by simp, by simp, .cons ⟨rfl, hy⟩ .nil⟩, n0, nU⟩ (k1.trans k2) ⟨fun b2 x2 hb => ?_, fun b2 x2 hb => ?_⟩ ⟨fun a o hn hz => ?_, fun u hu => ?_⟩ fun P a e1 e2 => ?_
  · by_cases z : b2 = p
    · rw [z]; exact fa
    · rw [upd_ne z] at hb; exact d2 b2 x2 hb
  · by_cases z : b2 = p
    · rw [z, upd_same] at hb
      cases hb
      rfl
    · rw [upd_ne z] at hb; exact d2.nt b2 x2 hb
  · have ne : a ≠ p := fun z => by rw [z, hM] at hz; cases hz
    rw [upd_ne ne]
    exact (stepT s0 (stepT s1' s2')).1 a o hn hz
  · obtain ⟨o', z, i⟩ := s2'.2 u hu
    have ne : u ≠ p := fun q => nU (by rw [hu, q])
    exact ⟨o', by rw [upd_ne ne]; exact z, i⟩
  · injection e2 with e2
    subst e2
    exact hM
end
end FR
set_option Elab.async false
set_option linter.all false
set_option maxRecDepth 100000
set_option maxHeartbeats 2000000
namespace FR
open PySem PySem.Spec PyProof.Rows L2
/-! ### all the ways, set by set -/
def everyOf (cs : List Ch) : Done := srt eR ((lawSteps cs).map (·.1))
def visit (st : List Done × List Done) (l : Done) : List Done × List Done := if l ∈ st.1 then st else (st.1 ++ [l], st.2 ++ [l])
def laters (hs : Fs) (cs : List Ch) (whole : Bool) (past : Done) : List Done := (waysOf hs cs past whole).map fun r => srt eR (past ++ r.2)
def layer (hs : Fs) (cs : List Ch) (whole : Bool) (st : List Done × List Done) : List Done × List Done := (st.2.flatMap (laters hs cs whole)).foldl visit (st.1, [])
def bfs (hs : Fs) (cs : List Ch) (whole : Bool) : Nat → List Done × List Done
  | 0 => ([[]], [[]])
  | n + 1 => layer hs cs whole (bfs hs cs whole n)
def fewestOf (hs : Fs) (cs : List Ch) (whole : Bool) : Option Nat := (List.range ((everyOf cs).length + 1)).find? fun i => decide (everyOf cs ∈ (bfs hs cs whole i).2)
def dOpt : Option Nat → D
  | some n => .int (n : Nat)
  | none => .none
theorem parts_sub (xs : List Pr) : ∀ p ∈ partsOf xs, p.Sublist xs := by
  have : ∀ (ys : List Pr) (pre : List Pr) (acc : List Done), (∀ p ∈ acc, p.Sublist pre) → ∀ p ∈ ys.foldl partStep acc, p.Sublist (pre ++ ys) := fun ys => by
    induction ys with
    | nil => intro pre acc h p hp; rw [List.append_nil]; exact h p hp
    | cons y ys ih =>
      intro pre acc h p hp
      rw [List.foldl_cons] at hp
      have := ih (pre ++ [y]) (partStep acc y) (fun q hq => by
        unfold partStep at hq
        rcases List.mem_append.mp hq with hq | hq
        · exact (h q hq).trans (List.sublist_append_left _ _)
        · obtain ⟨q', hq', rfl⟩ := List.mem_map.mp hq
          exact List.Sublist.append (h q' hq') (List.Sublist.refl _)) p hp
      rw [List.append_assoc] at this
      exact this
  intro p hp
  exact this xs [] [[]] (by simp) p hp
theorem tries_sub {l : Done} {whole : Bool} {p : Done} (h : p ∈ triesOf l whole) : p.Sublist l := by
  unfold triesOf at h
  split at h
  · split at h
    · cases h
    · rw [List.mem_singleton] at h; subst h; exact List.Sublist.refl _
  · exact parts_sub l p (List.mem_of_mem_drop h)
/-- a set of steps, as the law writes it -/
structure DoneOk (cs : List Ch) (k : Done) : Prop where
  so : k.Pairwise fun a b => eR.le a b = true
  nd : k.Nodup
  sub : ∀ p ∈ k, p ∈ (lawSteps cs).map (·.1)
theorem left_mem {cs : List Ch} {d : Done} {o : Nm} {p : Pr} : p ∈ leftOf cs d o ↔ (p, o) ∈ lawSteps cs ∧ p ∉ d := by
  unfold leftOf
  rw [srt_mem, List.mem_map]
  constructor
  · rintro ⟨q, hq, rfl⟩
    obtain ⟨h1, h2⟩ := List.mem_filter.mp hq
    simp only [Bool.and_eq_true, decide_eq_true_eq, Bool.not_eq_true', decide_eq_false_iff_not] at h2
    exact ⟨by rw [← h2.1]; exact h1, h2.2⟩
  · rintro ⟨h1, h2⟩
    exact ⟨(p, o), List.mem_filter.mpr ⟨h1, by simp [h2]⟩, rfl⟩
theorem left_nodup {cs : List Ch} (nd : (cs.map (·.nm)).Nodup) (d : Done) (o : Nm) : (leftOf cs d o).Nodup := by
  unfold leftOf
  refine (srt_perm eR _).nodup_iff.mpr ?_
  exact (law_keys_nodup nd).sublist (List.Sublist.map _ List.filter_sublist)
theorem ways_mem {hs : Fs} {cs : List Ch} {d : Done} {whole : Bool} {r : Run} : r ∈ waysOf hs cs d whole ↔ r.1 ∈ hs ∧ r.2 ∈ triesOf (leftOf cs d r.1) whole ∧ refusedOf cs d r = [] := by
  unfold waysOf waysOne
  rw [List.mem_flatMap]
  constructor
  · rintro ⟨o, ho, h⟩
    obtain ⟨p, hp, rfl⟩ := List.mem_map.mp h
    obtain ⟨h1, h2⟩ := List.mem_filter.mp hp
    exact ⟨ho, h1, of_decide_eq_true h2⟩
  · rintro ⟨h1, h2, h3⟩
    exact ⟨r.1, h1, List.mem_map.mpr ⟨r.2, List.mem_filter.mpr ⟨h2, decide_eq_true h3⟩, rfl⟩⟩
theorem later_ok {hs : Fs} {cs : List Ch} (nd : (cs.map (·.nm)).Nodup) {whole : Bool} {d k : Done} (hd : DoneOk cs d) (h : k ∈ laters hs cs whole d) : DoneOk cs k := by
  obtain ⟨r, hr, rfl⟩ := List.mem_map.mp h
  obtain ⟨_, h2, _⟩ := ways_mem.mp hr
  have sb := tries_sub h2
  have hm : ∀ p ∈ r.2, (p, r.1) ∈ lawSteps cs ∧ p ∉ d := fun p hp => left_mem.mp (sb.subset hp)
  refine ⟨srt_sorted eR _, (srt_perm eR _).nodup_iff.mpr (List.nodup_append.mpr ⟨hd.nd, (left_nodup nd d r.1).sublist sb, fun x hx y hy e => (hm y hy).2 (by rw [← e]; exact hx)⟩), fun p hp => ?_⟩
  rw [srt_mem] at hp
  rcases List.mem_append.mp hp with hp | hp
  · exact hd.sub p hp
  · exact List.mem_map.mpr ⟨_, (hm p hp).1, rfl⟩
theorem done_ext {cs : List Ch} {k l : Done} (hk : DoneOk cs k) (hl : DoneOk cs l) (h : ∀ p, p ∈ k ↔ p ∈ l) : k = l := sorted_one eR hk.so hl.so ((List.perm_ext_iff_of_nodup hk.nd hl.nd).mpr h)
/-- all rows of n bits -/
def bits : Nat → List (List Bool)
  | 0 => [[]]
  | n + 1 => (bits n).map (true :: ·) ++ (bits n).map (false :: ·)
theorem bits_len (n : Nat) : (bits n).length = 2 ^ n := by
  induction n with
  | zero => rfl
  | succ n ih =>
    show ((bits n).map _ ++ (bits n).map _).length = _
    rw [List.length_append, List.length_map, List.length_map, ih, Nat.pow_succ]; omega
theorem mem_bits : ∀ (l : List Bool), l ∈ bits l.length
  | [] => List.mem_singleton.mpr rfl
  | b :: l => by
    show b :: l ∈ (bits l.length).map (true :: ·) ++ (bits l.length).map (false :: ·)
    rw [List.mem_append]
    cases b with
    | true => exact .inl (List.mem_map.mpr ⟨l, mem_bits l, rfl⟩)
    | false => exact .inr (List.mem_map.mpr ⟨l, mem_bits l, rfl⟩)
theorem few_sets {cs : List Ch} {ks : List Done} (hk : ∀ k ∈ ks, DoneOk cs k) (nd : ks.Nodup) : ks.length ≤ 2 ^ (lawSteps cs).length := by
  let keys := (lawSteps cs).map (·.1)
  let vec : Done → List Bool := fun k => keys.map fun p => decide (p ∈ k)
  have inj : ∀ k ∈ ks, ∀ l ∈ ks, vec k = vec l → k = l := fun k h1 l h2 e => by
    refine done_ext (hk k h1) (hk l h2) fun p => ?_
    have key : ∀ p ∈ keys, (p ∈ k ↔ p ∈ l) := fun p hp => by
      have := List.map_inj_left.mp e p hp
      simpa using this
    exact ⟨fun h => (key p ((hk k h1).sub p h)).mp h, fun h => (key p ((hk l h2).sub p h)).mpr h⟩
  have n2 : (ks.map vec).Nodup := by
    refine List.pairwise_map.mpr (List.Pairwise.imp_of_mem (fun {a b} ha hb hne e => hne (inj a ha b hb e)) nd)
  have := n2.sublen (ks := bits keys.length) fun x hx => by
    obtain ⟨k, _, rfl⟩ := List.mem_map.mp hx
    have := mem_bits (vec k)
    rw [List.length_map] at this
    exact this
  rw [List.length_map, bits_len, List.length_map] at this
  exact this
/-- what holds of the sets met and those of the last layer -/
structure StOk (cs : List Ch) (st : List Done × List Done) : Prop where
  m : ∀ k ∈ st.1, DoneOk cs k
  nd : st.1.Nodup
  b : ∀ k ∈ st.2, k ∈ st.1
  nb : st.2.Nodup
theorem StOk.visit {cs : List Ch} {st : List Done × List Done} (h : StOk cs st) {l : Done} (hl : DoneOk cs l) : StOk cs (FR.visit st l) := by
  unfold FR.visit
  split
  · exact h
  · rename_i hn
    refine ⟨fun k hk => ?_, List.nodup_append.mpr ⟨h.nd, by simp, fun x hx y hy e => hn (by rw [List.mem_singleton] at hy; rw [← hy, ← e]; exact hx)⟩, fun k hk => ?_, ?_⟩
    · rcases List.mem_append.mp hk with hk | hk
      · exact h.m k hk
      · rw [List.mem_singleton] at hk; subst hk; exact hl
    · rcases List.mem_append.mp hk with hk | hk
      · exact List.mem_append_left _ (h.b k hk)
      · exact List.mem_append_right _ hk
    · exact List.nodup_append.mpr ⟨h.nb, by simp, fun x hx y hy e => hn (by rw [List.mem_singleton] at hy; rw [← hy, ← e]; exact h.b x hx)⟩
theorem StOk.fold {cs : List Ch} : ∀ {ls : List Done} {st : List Done × List Done}, StOk cs st → (∀ l ∈ ls, DoneOk cs l) → StOk cs (ls.foldl FR.visit st)
  | [], st, h, _ => h
  | l :: ls, st, h, hl => StOk.fold (ls := ls) (st := FR.visit st l) (h.visit (hl l List.mem_cons_self)) fun k hk => hl k (List.mem_cons_of_mem _ hk)
theorem StOk.layer {hs : Fs} {cs : List Ch} (nd : (cs.map (·.nm)).Nodup) {whole : Bool} {st : List Done × List Done} (h : StOk cs st) : StOk cs (FR.layer hs cs whole st) := by
  unfold FR.layer
  refine StOk.fold ⟨h.m, h.nd, fun k hk => (by cases hk), List.nodup_nil⟩ fun l hl => ?_
  obtain ⟨k, hk, hl⟩ := List.mem_flatMap.mp hl
  exact later_ok nd (h.m k (h.b k hk)) hl
theorem doneOk_nil (cs : List Ch) : DoneOk cs [] := ⟨.nil, List.nodup_nil, fun p hp => by cases hp⟩
theorem bfs_ok {hs : Fs} {cs : List Ch} (nd : (cs.map (·.nm)).Nodup) {whole : Bool} : ∀ n, StOk cs (bfs hs cs whole n)
  | 0 => ⟨fun k hk => by
    have hk : k ∈ [[]] := hk
    rw [List.mem_singleton] at hk; subst hk; exact doneOk_nil cs, by simp [bfs], fun k hk => hk, by simp [bfs]⟩
  | n + 1 => (bfs_ok nd n).layer nd
theorem done_len {cs : List Ch} {k : Done} (h : DoneOk cs k) : k.length ≤ (lawSteps cs).length := by
  have := h.nd.sublen (ks := (lawSteps cs).map (·.1)) h.sub
  rw [List.length_map] at this
  exact this
def T_law_fewest : Tp := fun Rs κ => ∃ (hs : Fs) (cs : List Ch) (whole : Bool), Rs = [dat (eF.enc hs), li (cs.map dCh), bl whole] ∧ (∀ c ∈ cs, c.Fit) ∧ (cs.map (·.nm)).Nodup ∧ cs.length ≤ 40 ∧ (lawSteps cs).length ≤ 7 ∧ hs.length ≤ 8 ∧ κ (dat (dOpt (fewestOf hs cs whole)))
theorem P_law_fewest {G : Gb} (g : Gx G) (S : Std G "_law_fewest" "_law_fewest" s__law_fewest) (P1 : Prom G "_law_steps" 3 p__law_steps (SpF T_law_steps)) (P2 : Prom G "_law_ways" 4 p__law_ways (SpF T_law_ways)) : Prom G "_law_fewest" 5 p__law_fewest (SpF T_law_fewest) := by
  refine S.prom sc__law_fewest (by rintro Rs κ ⟨_, _, _, rfl, _⟩; rfl) (fun _ _ _ _ _ _ us hl => match us, hl with | [_, _, _], _ => rfl) fun X f Rs κ C hU h => ?_
  obtain ⟨hs, cs, whole, rfl, ft, nd, hcl, hsl, hhl, hκ⟩ := h
  let E0 : Addr → List Done → Option Ent → Option Ent → Option Ent → Env := fun a met here behind past => [some (.fz (dat (eF.enc hs))), some (.fz (li (cs.map dCh))), some (.fz (bl whole)), none, some (.fz (dat (eS.enc (everyOf cs)))), here, some (.ow (metP G a met)), behind, past, none, none, none]
  have el : (everyOf cs).length = (lawSteps cs).length := by unfold everyOf; rw [srt_length, List.length_map]
  have ekeys : (encV (lawSteps cs)).map (·.1) = (lawSteps cs).map (·.1) := encV_keys _
  have few : ∀ {st}, StOk cs st → st.1.length ≤ 128 := fun {st} h => Nat.le_trans (few_sets h.m h.nd) (Nat.le_trans (Nat.pow_le_pow_right (by decide) hsl) (by decide))
  refine ws_cons (w_par3 4 5 6 C (ex_of (r_tuple g C (r_sorted g C (r_call P1 C (ea_one (v 1 ⟨cs, rfl, nd, hcl, Pr, eR, _, gath_dT _ (.inl rfl), sortOk_R _, ?_, _, .inl rfl, ?_⟩))))))) 
  · rw [ekeys, List.length_map]; omega
  rw [ekeys]
  refine ex_of (ev_lst (ea_one (ev_tup (ea_nil ⟨[], rfl, Nat.zero_le _, [eS.enc []], rfl, (by show 1 ≤ 10000; decide), ?_⟩))))
  refine ex_newMet C (ev_tup (ea_nil ⟨[], rfl, Nat.zero_le _, [], rfl, ev_bl ⟨_, rfl, fun a => ?_⟩⟩))
  refine ws_cons (w_for (S := List Done × List Done) (fun i s => s = bfs hs cs whole i ∧ ∀ j, j < i → everyOf cs ∉ (bfs hs cs whole j).2) (fun s => E0 a s.1 (some (.fz (li (s.2.map eS.enc)))) none none) [3] C (r_range1 g C (ev_add (r_len g C (v 4 ⟨_, .inr rfl, ev_int ⟨_, _, rfl, rfl, (everyOf cs).length + 1, ?_, ?_, ?_⟩⟩)))))
  · rw [List.length_map]; rfl
  · omega
  refine ⟨⟨([[]], [[]]), ⟨rfl, fun j hj => absurd hj (by omega)⟩, le_refl _⟩, fun i s d hd hi hs' => ?_, fun s hs' => ?_⟩
  · obtain ⟨rfl, hno⟩ := hs'
    have hlt : i < (everyOf cs).length + 1 := by
      have := (List.getElem?_eq_some_iff.mp hd).1
      rw [rng_length] at this
      exact this
    rw [rng_get hlt] at hd
    have hd := (Option.some.inj hd).symm
    subst hd
    have ok := bfs_ok (hs := hs) nd (whole := whole) i
    refine tn 3 sc__law_fewest.nd (ws_cons (ws_if (et_c (ec_in C.at eS (v 4 (v 5 ⟨everyOf cs, (bfs hs cs whole i).2, rfl, .inl rfl, _, rfl, fun h => ?_, fun h => ws_nil ?_⟩))))))
    · rw [decide_eq_true_iff] at h
      refine ws_cons (ws_ret (v 3 ?_))
      have e : fewestOf hs cs whole = some i := by
        unfold fewestOf
        rw [List.find?_eq_some_iff_getElem]
        refine ⟨decide_eq_true h, i, by rw [List.length_range]; exact hlt, by rw [List.getElem_range], fun j hj => ?_⟩
        rw [List.getElem_range]
        simpa using hno j hj
      rw [e] at hκ
      have e2 : dOpt (some i) = .int (0 + (i : Nat)) := by
        show PyData.int _ = _
        rw [Int.zero_add]
      rw [← e2]
      exact hκ
    rw [decide_eq_false_iff_not] at h
    refine ws_cons (w_setX 7 (ex_lst (ea_nil ⟨[], rfl, Nat.zero_le _, ?_⟩)))
    let hr : Option Ent := some (.fz (li ((bfs hs cs whole i).2.map eS.enc)))
    let st : Nat → List Done × List Done := fun j => (((bfs hs cs whole i).2.take j).flatMap (laters hs cs whole)).foldl visit ((bfs hs cs whole i).1, [])
    have stok : ∀ j, StOk cs (st j) := fun j => StOk.fold ⟨ok.m, ok.nd, fun k hk => (by cases hk), List.nodup_nil⟩ fun l hl => by
      obtain ⟨k, hk, hl⟩ := List.mem_flatMap.mp hl
      exact later_ok nd (ok.m k (ok.b k (List.mem_of_mem_take hk))) hl
    refine ws_cons (w_for (S := List Done × List Done) (fun j t => t = st j) (fun t => E0 a t.1 hr (some (.ow (lstO (t.2.map eS.enc)))) none) [8] C (it_list (v 5 ⟨_, rfl, ?_⟩)))
    refine ⟨⟨((bfs hs cs whole i).1, []), rfl, ?_⟩, fun j t d hd hj ht => ?_, fun t ht => ?_⟩
    · exact le_keep (le_keep (le_keep (le_drop (le_keep (le_keep (le_keep (le_keep (le_keep (le_keep (le_keep (le_keep le_nil)))))))))))
    · obtain ⟨past, hp, rfl⟩ := at_map hd
      subst ht
      have pok := ok.m past (ok.b past (List.mem_of_getElem? hp))
      have pl := done_len pok
      have stn : st (j + 1) = (laters hs cs whole past).foldl visit (st j) := by
        show (((bfs hs cs whole i).2.take (j + 1)).flatMap (laters hs cs whole)).foldl visit ((bfs hs cs whole i).1, []) = _
        rw [take_more hp, List.flatMap_append, List.foldl_append]
        simp [st]
      refine tn 8 sc__law_fewest.nd (ws_cons (w_for (S := List Done × List Done) (fun l u => u = ((laters hs cs whole past).take l).foldl visit (st j)) (fun u => E0 a u.1 hr (some (.ow (lstO (u.2.map eS.enc)))) (some (.fz (dat (eS.enc past))))) [9, 10] C (it_list (r_call P2 C (ea_cons (v 0 (ea3 (v 1 (v 8 (v 2 ⟨hs, cs, past, whole, rfl, ft, nd, hcl, by omega, by omega, hhl, _, rfl, ?_⟩))))))))))
      refine ⟨⟨st j, rfl, ?_⟩, fun l u d hd hl hu => ?_, fun u hu => ?_⟩
      · exact le_refl _
      · obtain ⟨r, hrr, rfl⟩ := at_map hd
        subst hu
        have hlat : (laters hs cs whole past)[l]? = some (srt eR (past ++ r.2)) := by
          unfold laters
          rw [List.getElem?_map, hrr]; rfl
        have hmem : srt eR (past ++ r.2) ∈ laters hs cs whole past := List.mem_of_getElem? hlat
        have lok := later_ok nd pok hmem
        have uok : StOk cs (((laters hs cs whole past).take l).foldl visit (st j)) := StOk.fold (stok j) fun k hk => later_ok nd pok (List.mem_of_mem_take hk)
        have unext : ((laters hs cs whole past).take (l + 1)).foldl visit (st j) = visit (((laters hs cs whole past).take l).foldl visit (st j)) (srt eR (past ++ r.2)) := by
          rw [take_more hlat, List.foldl_append]; rfl
        have rl : past.length + r.2.length ≤ 100 := by
          have := done_len lok
          rw [srt_length, List.length_append] at this
          omega
        generalize hu : ((laters hs cs whole past).take l).foldl visit (st j) = u at uok unext
        have u1 := few uok
        have u2 : u.2.length ≤ 128 := Nat.le_trans (uok.nb.sublen uok.b) u1
        refine at_tup (ds := [eN.enc r.1, eS.enc r.2]) C.at.calm rfl (ats_cons (tn 9 sc__law_fewest.nd (ats_cons (tn 10 sc__law_fewest.nd (ats_nil ?_)))))
        refine ws_cons (w_set 11 (r_tuple g C (r_sorted g C (ev_catT (v 8 (v 10 ⟨past.map eR.enc, r.2.map eR.enc, rfl, rfl, ?_, Pr, eR, past ++ r.2, ?_, sortOk_R _, ?_, _, .inl rfl, ?_⟩))))))
        · rw [List.length_map, List.length_map]; omega
        · rw [← List.map_append]; exact gath_tu _ _
        · rw [List.length_append]; omega
        refine ws_cons (ws_if (et_c (ec_notInMet 6 C (v 11 ⟨srt eR (past ++ r.2), rfl, _, rfl, fun h => ?_, fun h => ws_nil (ws_nil ⟨_, unext.symm, ?_⟩)⟩))))
        · rw [Bool.not_eq_true', decide_eq_false_iff_not] at h
          refine ws_cons (ws_putMet 6 C (by omega) (ev_bl ⟨_, rfl, v 11 ⟨srt eR (past ++ r.2), rfl, h, ?_⟩⟩))
          refine ws_cons (w_append (ds := u.2.map eS.enc) 7 (by rw [List.length_map]; omega) (v 11 ⟨eS.enc (srt eR (past ++ r.2)), rfl, ws_nil (ws_nil ⟨_, unext.symm, ?_⟩)⟩))
          unfold visit
          rw [if_neg h]
          simp only [E0, List.map_append, List.map_cons, List.map_nil]
          exact le_keep (le_keep (le_keep (le_keep (le_keep (le_keep (le_keep (le_keep (le_keep (le_drop (le_drop (le_drop le_nil)))))))))))
        · have h : srt eR (past ++ r.2) ∈ u.1 := by simpa using h
          unfold visit
          rw [if_pos h]
          exact le_keep (le_keep (le_keep (le_keep (le_keep (le_keep (le_keep (le_keep (le_keep (le_drop (le_drop (le_drop le_nil)))))))))))
      · have hll : (laters hs cs whole past).length = (waysOf hs cs past whole).length := by unfold laters; rw [List.length_map]
        rw [List.length_map, ← hll, List.take_length, ← stn] at hu
        subst hu
        exact ws_nil ⟨_, rfl, le_keep (le_keep (le_keep (le_keep (le_keep (le_keep (le_keep (le_keep (le_drop (le_keep (le_keep (le_keep le_nil)))))))))))⟩
    · have e1 : st (bfs hs cs whole i).2.length = bfs hs cs whole (i + 1) := by
        show (((bfs hs cs whole i).2.take _).flatMap (laters hs cs whole)).foldl visit ((bfs hs cs whole i).1, []) = layer hs cs whole (bfs hs cs whole i)
        rw [List.take_length]; rfl
      rw [List.length_map, e1] at ht
      subst ht
      refine ws_freeze 7 (lend_lst _) (ws_cons (w_set 5 (v 7 (ws_nil ⟨_, ⟨rfl, fun j hj => ?_⟩, ?_⟩))))
      · rcases Nat.lt_succ_iff_lt_or_eq.mp hj with hj | hj
        · exact hno j hj
        · subst hj; exact h
      · exact le_keep (le_keep (le_keep (le_keep (le_keep (le_keep (le_keep (le_drop (le_keep (le_keep (le_keep (le_keep le_nil)))))))))))
  · rw [rng_length] at hs'
    refine ws_cons (ws_ret (ev_non ?_))
    have e : fewestOf hs cs whole = none := by
      unfold fewestOf
      rw [List.find?_eq_none]
      intro i hi
      rw [List.mem_range] at hi
      simpa using hs'.2 i hi
    rw [e] at hκ
    exact hκ
end FR
set_option Elab.async false
set_option linter.all false
set_option maxRecDepth 100000
set_option maxHeartbeats 2000000
namespace FR
open PySem PySem.Spec PyProof.Rows L2
/-! ### objects that are made -/
/-- an object of the class named cn, with just these fields -/
def objK (G : Gb) (cn : Str) (l : List (Str × Rp)) : Rp := ⟨fun v F => ∃ a C dx fs, v = .ref a ∧ F a = some (.ins C dx fs) ∧ G.mg cn = some (.ref C) ∧ (∀ p ∈ l, ∃ w, fs.lookup p.1 = some w ∧ p.2.p w F) ∧ ∀ g, g ∉ l.map (·.1) → fs.lookup g = none,
  fun _ _ _ k ⟨a, C, dx, fs, e, h, c, r, n⟩ => ⟨a, C, dx, fs, e, k _ _ h, c, fun p hp => let ⟨w, h1, h2⟩ := r p hp; ⟨w, h1, p.2.mono _ _ _ k h2⟩, n⟩⟩
/-- what is known of a class -/
structure ClsF (G : Gb) (cn : Str) (fl : List Str) : Prop where
  c : ∀ C, G.mg cn = some (.ref C) → Cls G.K C ∧ ∀ f ∈ fl, NoAttr G.K C f
/-- self while it is made, at x -/
def slf (C x dx : Addr) (l : List (Str × Rp)) : Op := ⟨fun o F => ∃ fs, o = .ins C dx fs ∧ F dx = some (.own x) ∧ fs.length ≤ l.length ∧ (∀ p ∈ l, ∃ w, fs.lookup p.1 = some w ∧ p.2.p w F) ∧ ∀ g, g ∉ l.map (·.1) → fs.lookup g = none,
  fun _ _ _ k ⟨fs, e, h, n, r, z⟩ => ⟨fs, e, k _ _ h, n, fun p hp => let ⟨w, h1, h2⟩ := r p hp; ⟨w, h1, p.2.mono _ _ _ k h2⟩, z⟩, fun _ _ ⟨_, e, _⟩ => by subst e; rfl⟩
section
variable {X : Cx} {f : Fx} {ρ : Env} {e a b c : Expr} {es : List Expr} {s : Stmt} {ss : List Stmt} {κ : Rp → Prop} {Φ : Post} {pos p : Pos} {G : Gb} {k : Nat} {N : List Str} {sc : Scope}
theorem ev_fldK (C : Ctx G k X) {cn : Str} {fl : Str} {fls : List Str} (cf : ClsF G cn fls) (h : EvE (mkX X N sc) f ρ e fun R => ∃ l S, R = objK G cn l ∧ (fl, S) ∈ l ∧ κ S) (hfl : fl ∈ fls := by decide +kernel) (hb : attributeBase e fl (mkX X N sc).env (eval e (mkX X N sc).env) = eval e (mkX X N sc).env := by rfl) : EvE (mkX X N sc) f ρ (.Attribute e fl pos) κ := fun F M σ d E Q hQ => by
  refine wpE_of (pe_fld pe_wp hb) ?_
  refine h F M σ d E _ fun v R F1 M1 hk hv k1 d1 s1 => ?_
  obtain ⟨l, S, rfl, hl, hk⟩ := hk
  obtain ⟨a, Cc, dx, fs, rfl, ha, hc, r, _⟩ := hv
  obtain ⟨w, h1, h2⟩ := r _ hl
  obtain ⟨c1, c2⟩ := cf.c Cc hc
  have eK : (mkX X N sc).K = G.K := C.K
  exact ⟨a, Cc, dx, fs, w, rfl, ovl_F ha, by rw [eK]; exact c1, by rw [eK]; exact c2 _ hfl, h1, hQ w S F1 M1 hk h2 k1 d1 s1⟩
/-- a method of a class -/
structure PromM (G : Gb) (cn m : Str) (k : Nat) (ps : List Str) (sp : Sp) : Prop where
  ex : ∃ fa fd C, FnOk G.P G.w G.K G.mg G.base CX0 k fa fd ps sp ∧ (G.mg cn = some (.ref C) ∧ Cls G.K C ∧ Meth G.K C m fa) ∧ Binds G.K fd ps []
theorem PromM.mono {cn m : Str} {j k : Nat} {ps : List Str} {sp : Sp} (p : PromM G cn m j ps sp) (h : j ≤ k) : PromM G cn m k ps sp := by
  obtain ⟨f, fd, C, F, r⟩ := p.ex
  exact ⟨f, fd, C, F.mono h, r⟩
/-- o.m() -/
theorem ev_meth0 {cn m : Str} {j : Nat} {ps : List Str} {T : Tp} {pl : Sem Bool} {apos : Pos} (P : PromM G cn m j ps (SpF T)) (C : Ctx G k X) (h : EvE (mkX X N sc) f ρ e fun R => ∃ l, R = objK G cn l ∧ m ∉ l.map (·.1) ∧ T [R] κ) (hj : j ≤ k := by decide)
    (ht : eval (.Call (.Attribute e m apos) [] [] pos) (mkX X N sc).env = (do
      let ov ← eval e (mkX X N sc).env
      standAt apos.atName
      let (f, first) ← holding [ov] (getMethod ov m pl)
      callWith pos f first (backTo pos (starEach [] (mkX X N sc).env)) (backToKw pos (keywordEach [] (mkX X N sc).env))) := by rfl) : EvE (mkX X N sc) f ρ (.Call (.Attribute e m apos) [] [] pos) κ := fun F M σ d E Q hQ => by
  obtain ⟨fa, fd, C0, FO, ⟨hm, hc, hM⟩, hb⟩ := (P.mono hj).ex
  obtain ⟨g1, g2, g3, g4, g5, g6, g7, g8⟩ := C
  obtain ⟨GP, Gw, GK, Gmg, Gbase⟩ := G
  simp only at g1 g2 g3 g4 g5
  subst g1 g2 g3 g4 g5
  refine wpE_of (pe_meth0 (X := mkX X N sc) (pl := pl) (E := fun _ _ _ => False) pe_wp hc hM FO g8 hb .nil pass0 ht) ?_
  refine h F M σ d E _ fun v R F1 M1 hk hv k1 d1 s1 => ?_
  obtain ⟨l, rfl, hml, hT⟩ := hk
  have hv0 := hv
  obtain ⟨a, C1, dx, fs, rfl, ha, hc1, r, hn⟩ := hv
  have e1 : C1 = C0 := by
    have := hc1.symm.trans hm
    cases this; rfl
  subst e1
  refine ⟨a, dx, fs, rfl, ovl_F ha, hn m hml, ?_⟩
  exact ⟨[_], κ, F1, M1, (show RpA F1 [.ref a] [_] from ⟨hv0, True.intro⟩), hT, rfl, d1, fun v R F2 hκ hR k2 d2 => hQ v R F2 M1 hκ hR (k1.trans k2) d2 s1⟩
/-! ### self: stores, loans -/
def Rp.lightI (R : Rp) : Prop := ∀ w F a C dx fs, F a = some (.ins C dx fs) → R.p w F → R.p w (del F a)
mutual
theorem dq_lightI {F : Hp} {a C dx : Addr} {fs : List (Str × V)} (h : F a = some (.ins C dx fs)) : ∀ {v : V} {d : D}, Dq F v d → Dq (del F a) v d
  | _, _, .non => .non
  | _, _, .bl b => .bl b
  | _, _, .int i => .int i
  | _, _, .str x => .str x
  | _, _, .lst (a := b) hb r => .lst (by rw [del_ne (fun z => by subst z; rw [h] at hb; cases hb)]; exact hb) (dqa_lightI h r)
  | _, _, .tup (a := b) hb r => .tup (by rw [del_ne (fun z => by subst z; rw [h] at hb; cases hb)]; exact hb) (dqa_lightI h r)
theorem dqa_lightI {F : Hp} {a C dx : Addr} {fs : List (Str × V)} (h : F a = some (.ins C dx fs)) : ∀ {vs : List V} {ds : List D}, DqA F vs ds → DqA (del F a) vs ds
  | _, _, .nil => .nil
  | _, _, .cons q r => .cons (dq_lightI h q) (dqa_lightI h r)
end
theorem lightI_dat (d : D) : (dat d).lightI := fun w F a C dx fs h q => dq_lightI h q
theorem lightI_dKR {κ' : Type} [DecidableEq κ'] (km : κ' → Key) (kvs : List (κ' × D)) : (dKR km kvs).lightI := fun w F a C dx fs h ⟨d, od, xs, e, hd, r⟩ =>
  ⟨d, od, xs, e, by rw [del_ne (fun z => by subst z; rw [h] at hd; cases hd)]; exact hd, Paired.mapP r fun _ _ q => ⟨q.1, dq_lightI h q.2⟩⟩
theorem lightI_dTR (kvs : List (Pr × D)) : (dTR kvs).lightI := fun w F a C dx fs h ⟨d, od, xs, e, hd, r⟩ =>
  ⟨d, od, xs, e, by rw [del_ne (fun z => by subst z; rw [h] at hd; cases hd)]; exact hd, Paired.mapP r fun _ _ q => ⟨q.1, dq_lightI h q.2⟩⟩
theorem lend_slf {cn : Str} {Cc x dx : Addr} {l : List (Str × Rp)} (hc : G.mg cn = some (.ref Cc)) : Lend (slf Cc x dx l) (objK G cn l) := fun o F a ⟨fs, e, hd, hn, r, z⟩ ha => by
  subst e
  exact ⟨a, Cc, dx, fs, rfl, upd_same, hc, fun p hp => let ⟨w, h1, h2⟩ := r p hp; ⟨w, h1, p.2.mono _ _ _ (same_updN ha) h2⟩, z⟩
theorem ev_lendI {Cc x dx : Addr} {l : List (Str × Rp)} {B : Rp} (i : Nat) (hB : Lend (slf Cc x dx l) B) (h : EvE X f (ρ.set i (some (.fz B))) e fun R => R.lightI ∧ κ R) (hi : ρ[i]? = some (some (.ow (slf Cc x dx l))) := by rfl) : EvE X f ρ e κ := fun F M σ d E Q hQ => by
  obtain ⟨w, hσ, a, o, rfl, ha, hp, h5, h6⟩ := E.ent i _ hi
  rw [← ovl_move' d ha]
  refine h _ _ σ (dis_move d) (env_lend E d hi hσ ha hp h5 h6 hB) Q fun w R F1 M1 hk hw k1 d1 s1 => ?_
  obtain ⟨e1, k2, d2, s2⟩ := lend_back d ha h6 k1 d1 s1 (.inr trivial)
  rw [← e1]
  obtain ⟨fs, e, _⟩ := hp
  subst e
  exact hQ w R _ _ hk.2 (hk.1 _ _ _ _ _ _ (k1 _ _ upd_same) hw) k2 d2 s2
/-- self.fl = value -/
theorem w_fld {xn : Str} {fl : Str} {p1 p2 : Pos} {value : Expr} {Cc x dx : Addr} {l : List (Str × Rp)} (i : Nat) (C : Ctx G k X) (hc : Cls G.K Cc) (hna : NoAttr G.K Cc fl) (hl : l.length < 500) (hfl : fl ∉ l.map (·.1))
    (h : EvE (mkX X N sc) f ρ value fun S => Φ.nx (ρ.set i (some (.ow (slf Cc x dx ((fl, S) :: l)))))) (hi : ρ[i]? = some (some (.ow (slf Cc x dx l))) := by rfl) (hN : N[i]? = some xn := by rfl) (hv : visB sc xn = true := by decide +kernel)
    (hs : swapsWith value (some (.Attribute (.Name xn p1) fl p2)) pos.line (mkX X N sc).env = pure false := by rfl) (hd : (xn == ("__debug__" : Str)) = false := by decide +kernel) (hcd : (xn == ("__classdict__" : Str)) = false := by decide +kernel) :
    WS (mkX X N sc) f ρ (.Assign [.Attribute (.Name xn p1) fl p2] value pos) Φ := fun F M σ d E D A => by
  refine wpS_of (ps_fld (X := mkX X N sc) (pe_var hN (vis_of hv) hd hcd) pe_wp hs) ?_
  refine h F M σ d E _ fun y S F1 M1 hk hy k1 d1 s1 => ?_
  obtain ⟨v, hσ, a, o, rfl, ha, hp, h5, h6⟩ := (E.step k1 s1).ent i _ hi
  obtain ⟨fs, rfl, hdx, hn, r, z⟩ := hp
  have fa := d1 _ _ ha
  have eK : (mkX X N sc).K = G.K := C.K
  refine ⟨.ref a, hσ, a, Cc, dx, fs, rfl, by rw [ovl_M fa]; exact ha, by rw [eK]; exact hc, by rw [eK]; exact hna, by omega, ?_⟩
  rw [upd_ovlM fa]
  have plen : (putF fl y fs).length ≤ fs.length + 1 := by
    clear r z hn ha
    induction fs with
    | nil => simp [putF]
    | cons p fs ih =>
      obtain ⟨g, w⟩ := p
      unfold putF
      split
      · simp
      · simp only [List.length_cons]; omega
  refine A.nx _ σ F1 _ hk k1 ⟨fun b2 x2 hb => ?_, fun b2 x2 hb => ?_⟩ ((E.step k1 s1).upd hi hσ ⟨putF fl y fs, rfl, hdx, by rw [List.length_cons]; omega, fun q hq => ?_, fun g hg => ?_⟩)
  · by_cases z : b2 = a
    · rw [z]; exact fa
    · rw [upd_ne z] at hb; exact d1 b2 x2 hb
  · by_cases z : b2 = a
    · rw [z, upd_same] at hb
      cases hb
      rfl
    · rw [upd_ne z] at hb; exact d1.nt b2 x2 hb
  · rcases List.mem_cons.mp hq with rfl | hq
    · exact ⟨y, by rw [lookup_putF, if_pos rfl], hy⟩
    · obtain ⟨w, h1, h2⟩ := r q hq
      have ne : q.1 ≠ fl := fun e => hfl (by rw [← e]; exact List.mem_map.mpr ⟨q, hq, rfl⟩)
      exact ⟨w, by rw [lookup_putF, if_neg ne]; exact h1, h2⟩
  · rw [List.map_cons, List.mem_cons, not_or] at hg
    rw [lookup_putF, if_neg hg.1]
    exact z g hg.2
/-! ### __init__, making -/
abbrev TpI := List Rp → (List (Str × Rp) → Prop) → Prop
def SpI (cn : Str) (mg : Str → Option Value) (T : TpI) : Sp := fun vs H Q _ => ∃ x dx C vs' Rs κ F M, vs = .ref x :: vs' ∧ RpA F vs' Rs ∧ T Rs κ ∧ mg cn = some (.ref C) ∧ H = L2.upd (L2.upd (ovl F M) dx (.own x)) x (.ins C dx []) ∧ Dis F M ∧ ovl F M x = none ∧ ovl F M dx = none ∧ dx ≠ x ∧
  ∀ l F', κ l → (∃ fs, F' x = some (.ins C dx fs) ∧ (∀ p ∈ l, ∃ w, fs.lookup p.1 = some w ∧ p.2.p w F') ∧ ∀ g, g ∉ l.map (·.1) → fs.lookup g = none) → Same F F' → Dis F' M → Q .non (ovl F' M)
/-- an object's dict is its own -/
def Owned (H : Hp) : Prop := ∀ a C dx fs, H a = some (.ins C dx fs) → H dx = some (.own a)
theorem Inv.owned {pins : List (Addr × Obj)} {σ : L2.St} {H : Hp} {s : Shared} (I : Inv X pins σ H s) : Owned H := fun a C dx fs h => (I.hok a _ h).1
theorem wpSs_owned {sts : List Stmt} {σ : L2.St} {H : Hp} {D : Ends} (h : wpSs X sts { D with nx := fun σ H => Owned H → D.nx σ H } σ H) : wpSs X sts D σ H := fun pins s I =>
  thn (h pins s I) fun fl s' q => by
    cases fl with
    | next => obtain ⟨σ', H', I', q⟩ := q; exact ⟨σ', H', I', q (Inv.owned I')⟩
    | brk => exact q
    | cont => exact q
    | ret u => exact q
theorem ok_init {cn : Str} {T : TpI} {ps : List Str} {qual x : Str} {params : Arguments} {body : List Stmt} {scope : Scope} {fa : Addr} {fd : FuncData} {N : List Str} (F : FunD G.K x qual params body scope [] [] fa fd) (S : FnScope N ps scope) (hT : ∀ Rs κ, T Rs κ → Rs.length + 1 = ps.length)
    (h : ∀ X f x dx Cc Rs κ, Ctx G k X → (f.U = none ∧ ∀ x, X.fn x = true) → T Rs κ → G.mg cn = some (.ref Cc) → WSs (mkX X N scope) f (some (.ow (slf Cc x dx [])) :: (startE N (dat .none :: Rs)).tail) body { nx := fun ρ' => ∃ l, κ l ∧ ρ'[0]? = some (some (.ow (slf Cc x dx l))), rt := fun _ => False }) : FnOk G.P G.w G.K G.mg G.base CX0 (k + 1) fa fd ps (SpI cn G.mg T) := by
  refine F.ok S (fun vs H Q E hs => ?_) (fun cdv A outer s H vs Q E hr hs => ?_)
  · obtain ⟨x, dx, C, vs', Rs, κ, _, _, rfl, hv, ht, _⟩ := hs
    rw [List.length_cons, hv.length]; exact hT Rs κ ht
  · obtain ⟨x, dx, Cc, vs', Rs, κ, F0, M0, rfl, hv, ht, hmg, rfl, d, hx, hdx, hne, hQ⟩ := hs
    have hN : Rs.length + 1 ≤ N.length := by
      have := congrArg List.length S.pre
      rw [List.length_take] at this
      rw [hT Rs κ ht]; omega
    refine ⟨_, PSs.nox pss_wp, ?_⟩
    obtain ⟨fx, mx⟩ := ovl_none hx
    obtain ⟨fdx, mdx⟩ := ovl_none hdx
    let F1 : Hp := L2.upd F0 dx (.own x)
    let M1 : Hp := L2.upd M0 x (.ins Cc dx [])
    have f1x : F1 x = none := by
      show L2.upd F0 dx _ x = none
      rw [upd_ne (Ne.symm hne)]; exact fx
    have kF : Same F0 F1 := same_updN fdx
    have d1 : Dis F1 M1 := dis_newM (dis_new d mdx) f1x rfl
    have eH : L2.upd (L2.upd (ovl F0 M0) dx (.own x)) x (.ins Cc dx []) = ovl F1 M1 := by
      rw [upd_ovl, upd_ovlM f1x]
    have keep : ∀ a o, M0 a = some o → M1 a = some o := fun a o e => same_updN mx a o e
    let exr : Rp := ⟨fun v F => v = .ref x, fun _ _ _ _ h => h⟩
    have E0 : EnvOk ⟨M0, none⟩ (start N (.ref x :: vs')) (startE N (exr :: Rs)) F1 M1 := start_ok (show RpA F1 (.ref x :: vs') (exr :: Rs) from ⟨rfl, hv.mono kF⟩) hN keep fun u z => nomatch z
    have E1 : EnvOk ⟨M0, none⟩ (start N (.ref x :: vs')) (some (.ow (slf Cc x dx [])) :: (startE N (dat .none :: Rs)).tail) F1 M1 := by
      have e1 : startE N (exr :: Rs) = some (.fz exr) :: (startE N (dat .none :: Rs)).tail := by
        unfold startE
        rfl
      rw [e1] at E0
      refine ⟨E0.len, fun i e z => ?_, fun i j P P' z1 z2 z3 => ?_, E0.base, E0.urn⟩
      · cases i with
        | zero =>
          simp only [List.getElem?_cons_zero, Option.some.injEq] at z
          subst z
          exact ⟨.ref x, rfl, x, _, rfl, upd_same, ⟨[], rfl, upd_same, Nat.le_refl _, fun p hp => (by cases hp), fun g _ => rfl⟩, mx, fun q => nomatch q⟩
        | succ i => exact E0.ent (i + 1) e z
      · have noown : ∀ (i : Nat) (P : Op), ((startE N (dat .none :: Rs)).tail)[i]? ≠ some (some (.ow P)) := fun i P z => by
          have z' : (startE N (dat .none :: Rs))[i + 1]? = some (some (.ow P)) := by
            rw [List.getElem?_tail] at z; exact z
          unfold startE at z'
          rcases List.mem_append.mp (List.mem_of_getElem? z') with h | h
          · obtain ⟨R, _, e⟩ := List.mem_map.mp h; cases e
          · have := List.eq_of_mem_replicate h; cases this
        cases i with
        | zero => cases j with
          | zero => rfl
          | succ j => exact absurd z2 (noown j P')
        | succ i => exact absurd z1 (noown i P)
    rw [eH]
    have C : Ctx G k (cxOf CX0 G.P G.w G.K G.mg G.base N qual scope fa cdv A outer s (ovl F1 M1) E).nox := ⟨rfl, rfl, rfl, rfl, rfl, rfl, rfl, hr⟩
    refine wpSs_owned ?_
    refine h _ ⟨M0, none⟩ x dx Cc Rs κ C ⟨rfl, fun _ => rfl⟩ ht hmg F1 M1 (start N (.ref x :: vs')) d1 E1 _ ⟨fun ρ' σ' F' M' hk k1 d1' E1' => ?_, fun _ _ _ _ z => z.elim, fun _ _ _ _ z => z.elim, fun v R F' M' hk hR k1 d1 x1 => hk.elim⟩
    obtain ⟨l, hl, hi⟩ := hk
    intro ow
    obtain ⟨v, hσ, a, o, rfl, ha, ⟨fs, rfl, hd, hn, r, z⟩, h5, h6⟩ := E1'.ent 0 _ hi
    obtain ⟨F2, M2, eq, k2, d2, x2⟩ := exit_ok E1' d1'
    have e2 : M2 = M0 := funext fun a => x2.1 a (fun z => nomatch z)
    subst e2
    have fa := d1' _ _ ha
    have hoa := ow a Cc dx fs (by rw [ovl_M fa]; exact ha)
    rw [ovl_F hd] at hoa
    cases hoa
    show Q .non (ovl F' M')
    rw [← eq]
    refine hQ l F2 hl ⟨fs, ?_, fun p hp => ?_, z⟩ (kF.trans (k1.trans k2)) d2
    · have : ovl F2 M2 x = some (.ins Cc dx fs) := by rw [eq, ovl_M fa]; exact ha
      unfold ovl at this
      cases q : F2 x with
      | some o => rw [q] at this; exact this
      | none => rw [q, mx] at this; cases this
    · obtain ⟨w, h1, h2⟩ := r p hp
      exact ⟨w, h1, p.2.mono _ _ _ k2 h2⟩
/-- C(..) -/
structure PromI (G : Gb) (cn : Str) (k : Nat) (ps : List Str) (T : TpI) : Prop where
  ex : ∃ fa fd C, FnOk G.P G.w G.K G.mg G.base CX0 k fa fd ps (SpI cn G.mg T) ∧ G.mg cn = some (.ref C) ∧ Mk G.K C fa ∧ Binds G.K fd ps []
theorem ev_make {cn : Str} {j : Nat} {ps : List Str} {T : TpI} (P : PromI G cn j ps T) (C : Ctx G k X) (h : EvA (mkX X N sc) f ρ (e :: es) fun Rs => T Rs fun l => κ (objK G cn l)) (hj : j + 1 ≤ k := by decide) (hg : gloB sc cn = true := by decide +kernel)
    (hdb : (cn == ("__debug__" : Str)) = false := by decide +kernel) (he : starEach (e :: es) (mkX X N sc).env = (false, eval e (mkX X N sc).env) :: starEach es (mkX X N sc).env := by rfl) (hpl : (backTo pos (starEach es (mkX X N sc).env)).any (·.1) = false := by rfl) :
    EvE (mkX X N sc) f ρ (.Call (.Name cn p) (e :: es) [] pos) κ := fun F M σ d E Q hQ => by
  obtain ⟨fa, fd, Cc, FO, hm, hM, hb⟩ := P.ex
  obtain ⟨g1, g2, g3, g4, g5, g6, g7, g8⟩ := C
  obtain ⟨GP, Gw, GK, Gmg, Gbase⟩ := G
  simp only at g1 g2 g3 g4 g5
  subst g1 g2 g3 g4 g5
  refine wpE_of (pe_make (X := mkX X N sc) (k := j) (E := fun _ _ _ => False) hM FO (g8.mono hj) (glo_of hg) hm hb .nil pass0 pa_wp hdb he hpl) ?_
  refine h F M σ d E _ fun vs Rs F1 M1 hT hv k1 d1 s1 => ?_
  intro x dx hx hdx hne
  rw [List.append_nil]
  refine ⟨x, dx, Cc, vs, Rs, _, F1, M1, rfl, hv, hT, hm, rfl, d1, hx, hdx, hne, fun l F2 hκ hR k2 d2 => ⟨rfl, ?_⟩⟩
  obtain ⟨fs, h1, h2, h3⟩ := hR
  exact hQ _ _ F2 M1 hκ ⟨x, Cc, dx, fs, rfl, h1, hm, h2, h3⟩ (k1.trans k2) d2 s1
end
end FR
set_option Elab.async false
set_option linter.all false
set_option maxRecDepth 100000
set_option maxHeartbeats 2000000
namespace FR
open PySem PySem.Spec PyProof.Rows L2
/-- __init__ of a class stands -/
structure StdI (G : Gb) (cn qual : Str) (st : Stmt) (fls : List Str) : Prop where
  ex : ∃ f fd C, FunD G.K "__init__" qual (defArgs st) (defBody st) (defScope st) [] [] f fd ∧ G.mg cn = some (.ref C) ∧ Mk G.K C f ∧ Cls G.K C ∧ ∀ fl ∈ fls, NoAttr G.K C fl
/-- a method of a class stands -/
structure StdM (G : Gb) (cn m qual : Str) (st : Stmt) : Prop where
  ex : ∃ f fd C, FunD G.K m qual (defArgs st) (defBody st) (defScope st) [] [] f fd ∧ G.mg cn = some (.ref C) ∧ Cls G.K C ∧ Meth G.K C m f
theorem StdI.clsf {G : Gb} {cn qual : Str} {st : Stmt} {fls : List Str} (S : StdI G cn qual st fls) : ClsF G cn fls := by
  obtain ⟨f, fd, C, F, hm, hM, hc, hn⟩ := S.ex
  exact ⟨fun C' h => by
    have := h.symm.trans hm
    cases this
    exact ⟨hc, hn⟩⟩
theorem StdI.prom {G : Gb} {cn qual : Str} {st : Stmt} {fls : List Str} {k : Nat} {N ps : List Str} {T : TpI} (S : StdI G cn qual st fls) (sc : FnScope N ps (defScope st)) (hT : ∀ Rs κ, T Rs κ → Rs.length + 1 = ps.length)
    (hb : ∀ (kV doc pm : Value) (an : Option Addr) (cdv ct : Value) (us : List Value), us.length = ps.length → bindArgs (PySem.W.fnOf "__init__" qual (defArgs st) (defBody st) (defScope st) .none kV doc pm an cdv ct) ⟨us, []⟩ = pure (ps.zip us))
    (h : ∀ X f x dx Cc Rs κ, Ctx G k X → (f.U = none ∧ ∀ x, X.fn x = true) → T Rs κ → (G.mg cn = some (.ref Cc) ∧ Cls G.K Cc ∧ ∀ fl ∈ fls, NoAttr G.K Cc fl) → WSs (mkX X N (defScope st)) f (some (.ow (slf Cc x dx [])) :: (startE N (dat .none :: Rs)).tail) (defBody st) { nx := fun ρ' => ∃ l, κ l ∧ ρ'[0]? = some (some (.ow (slf Cc x dx l))), rt := fun _ => False }) : PromI G cn (k + 1) ps T := by
  have cf := S.clsf
  obtain ⟨f, fd, C, F, hm, hM, _⟩ := S.ex
  exact ⟨f, fd, C, ok_init F sc hT fun X f x dx Cc Rs κ hC hU ht hmg => h X f x dx Cc Rs κ hC hU ht ⟨hmg, cf.c Cc hmg⟩, hm, hM, F.bindsN hb⟩
theorem StdM.prom {G : Gb} {cn m qual : Str} {st : Stmt} {k : Nat} {N ps : List Str} {T : Tp} (S : StdM G cn m qual st) (sc : FnScope N ps (defScope st)) (hT : ∀ Rs κ, T Rs κ → Rs.length = ps.length)
    (hb : ∀ (kV doc pm : Value) (an : Option Addr) (cdv ct : Value) (us : List Value), us.length = ps.length → bindArgs (PySem.W.fnOf m qual (defArgs st) (defBody st) (defScope st) .none kV doc pm an cdv ct) ⟨us, []⟩ = pure (ps.zip us))
    (h : ∀ X f Rs κ, Ctx G k X → (f.U = none ∧ ∀ x, X.fn x = true) → T Rs κ → WSs (mkX X N (defScope st)) f (startE N Rs) (defBody st) { nx := fun _ => κ (dat .none), rt := κ }) : PromM G cn m (k + 1) ps (SpF T) := by
  obtain ⟨f, fd, C, F, hm, hc, hM⟩ := S.ex
  exact ⟨f, fd, C, ok_fn F sc hT h, ⟨hm, hc, hM⟩, F.bindsN hb⟩
section
variable {X : Cx} {f : Fx} {ρ : Env} {e a b c : Expr} {es : List Expr} {κ : Rp → Prop} {pos p : Pos} {G : Gb} {k : Nat}
/-- as another way to stand for it -/
theorem ev_as (h : EvE X f ρ e fun R => ∃ R', (∀ v F, R.p v F → R'.p v F) ∧ κ R') : EvE X f ρ e κ := fun F M σ d E Q hQ =>
  h F M σ d E Q fun v R F' M' ⟨R', hi, hk⟩ hv k1 d1 s1 => hQ v R' F' M' hk (hi v F' hv) k1 d1 s1
theorem objK_R {cn : Str} {fls : List Str} {l : List (Str × Rp)} (cf : ClsF G cn fls) (hl : ∀ q ∈ l, q.1 ∈ fls) {v : V} {F : Hp} (h : (objK G cn l).p v F) : (objR G l).p v F := by
  obtain ⟨a, C, dx, fs, e, ha, hc, r, _⟩ := h
  obtain ⟨c1, c2⟩ := cf.c C hc
  exact ⟨a, C, dx, fs, e, ha, c1, fun q hq => ⟨c2 _ (hl q hq), r q hq⟩⟩
theorem objR_mem {l l' : List (Str × Rp)} (hs : ∀ q ∈ l', q ∈ l) {v : V} {F : Hp} (h : (objR G l).p v F) : (objR G l').p v F := by
  obtain ⟨a, C, dx, fs, e, ha, c, r⟩ := h
  exact ⟨a, C, dx, fs, e, ha, c, fun q hq => r q (hs q hq)⟩
end
/-! ### System(..) -/
def fSys : List Str := ["services", "channels"]
def T_System : TpI := fun Rs κ => ∃ S : Sys, Rs = [dat (eF.enc S.hs), tu (S.cs.map dCh)] ∧ S.Ok ∧ κ [("channels", tu (S.cs.map dCh)), ("services", dat (eF.enc S.hs))]
theorem P_System {G : Gb} (g : Gx G) (S : StdI G "System" "System.__init__" s_System__init__ fSys) (P1 : Prom G "are_names" 2 p_are_names (SpF T_are_names)) (P2 : Prom G "are_channels" 7 p_are_channels (SpF T_are_channels)) : PromI G "System" 8 p_System__init__ T_System := by
  refine S.prom sc_System__init__ (by rintro Rs κ ⟨_, rfl, _⟩; rfl) (fun _ _ _ _ _ _ us hl => match us, hl with | [_, _, _], _ => rfl) fun X f x dx Cc Rs κ C hU h hc => ?_
  obtain ⟨S, rfl, ok, hκ⟩ := h
  refine ws_cons (ws_if (et_not (et_val (r_call P1 C (ea3 (v 1 (ev_int (gi C g.c_MOST_SERVICES ⟨S.hs, 1, 12, rfl, ok.h1, ok.h2, ok.h3, true, rfl, fun h => (by cases h), fun _ => ws_nil ?_⟩))))))))
  refine ws_cons (ws_if (et_not (et_val (r_call P2 C (ea2 (v 1 (v 2 ⟨S.hs, S.cs, rfl, ok.c1, ok.c2, ok.c3, true, rfl, fun h => (by cases h), fun _ => ws_nil ?_⟩)))))))
  refine ws_cons (w_fld (l := []) 0 C hc.2.1 (hc.2.2 _ (by decide +kernel)) (by decide) (by simp) (v 1 ?_))
  refine ws_cons (w_fld (l := [("services", dat (eF.enc S.hs))]) 0 C hc.2.1 (hc.2.2 _ (by decide +kernel)) (by simp) (by show ¬ ("channels" : Str) ∈ [("services" : Str)]; decide +kernel) (v 2 ?_))
  exact ws_nil ⟨_, hκ, rfl⟩
section
variable {X : Cx} {f : Fx} {ρ : Env} {e a b c : Expr} {es : List Expr} {κ : Rp → Prop} {pos p : Pos} {G : Gb} {k : Nat} {N : List Str} {sc : Scope}
theorem sys_fls (R S : Rp) : ∀ q ∈ [(("channels" : Str), R), (("services" : Str), S)], q.1 ∈ fSys := fun q hq => by
  rcases List.mem_cons.mp hq with rfl | hq
  · show ("channels" : Str) ∈ fSys
    decide +kernel
  · rw [List.mem_singleton] at hq
    subst hq
    show ("services" : Str) ∈ fSys
    decide +kernel
theorem r_System {j : Nat} (cf : ClsF G "System" fSys) (P : PromI G "System" j p_System__init__ T_System) (C : Ctx G k X) (h : EvE (mkX X N sc) f ρ a fun R => EvE (mkX X N sc) f ρ b fun S' => ∃ S : Sys, R = dat (eF.enc S.hs) ∧ S' = tu (S.cs.map dCh) ∧ S.Ok ∧ κ (sysR G S)) (hj : j + 1 ≤ k := by decide) (hg : gloB sc "System" = true := by decide +kernel)
    (he : starEach [a, b] (mkX X N sc).env = (false, eval a (mkX X N sc).env) :: starEach [b] (mkX X N sc).env := by rfl) (he2 : starEach [b] (mkX X N sc).env = (false, eval b (mkX X N sc).env) :: starEach [] (mkX X N sc).env := by rfl) (hpl : (backTo pos (starEach [b] (mkX X N sc).env)).any (·.1) = false := by rfl) :
    EvE (mkX X N sc) f ρ (.Call (.Name "System" p) [a, b] [] pos) κ :=
  ev_as (ev_make P C (ea2 (ev_imp h fun R h2 => ev_imp h2 fun S' ⟨S, e1, e2, ok, hk⟩ => ⟨S, by rw [e1, e2], ok, sysR G S, fun v F hv => objR_mem (fun q hq => by simp at hq; rcases hq with rfl | rfl <;> simp) (objK_R cf (sys_fls _ _) hv), hk⟩) he he2) hj hg (he := he) (hpl := hpl))
end
end FR
set_option Elab.async false
set_option linter.all false
set_option maxRecDepth 100000
set_option maxHeartbeats 2000000
namespace FR
open PySem PySem.Spec PyProof.Rows L2
section
variable {X : Cx} {f : Fx} {ρ : Env} {e a b c : Expr} {es : List Expr} {s : Stmt} {ss : List Stmt} {κ : Rp → Prop} {Φ : Post} {pos p : Pos} {G : Gb} {k : Nat} {N : List Str} {sc : Scope}
/-! ### the urn -/
/-- urn[0], urn[1]: some whole number -/
theorem ev_urn {x : Str} {n : Int} {j : Nat} {p1 p2 : Pos} (i : Nat) (hn : n = 0 ∨ n = 1) (h : ∀ y : Int, κ (nt y)) (hi : ρ[i]? = some (some .ur) := by rfl) (hN : N[i]? = some x := by rfl) (hv : visB sc x = true := by decide +kernel)
    (hs : PlainIx (.Constant (.int n) j p2) := by intro _ _; rfl) (hd : (x == ("__debug__" : Str)) = false := by decide +kernel) (hcd : (x == ("__classdict__" : Str)) = false := by decide +kernel) : EvE (mkX X N sc) f ρ (.Subscript (.Name x p1) (.Constant (.int n) j p2) pos) κ := fun F M σ d E Q hQ => by
  refine wpE_of (pe_ix (X := mkX X N sc) ix_list (pe_var hN (vis_of hv) hd hcd) pe_int hs) ?_
  obtain ⟨v, hσ, u, rfl, hU⟩ := E.ent i _ hi
  obtain ⟨_, o, hu, y0, y1, rfl⟩ := E.urn u hU
  refine ⟨.ref u, hσ, ?_⟩
  have hH : ovl F M u = some (.lst [.int y0, .int y1]) := by rw [ovl_M (d _ _ hu)]; exact hu
  rcases hn with rfl | rfl
  · exact ⟨u, _, 0, .int y0, rfl, rfl, SqL.of hH, rfl, hQ _ _ F M (h y0) (Dq.int _) (Same.refl _) d E.refl⟩
  · exact ⟨u, _, 1, .int y1, rfl, rfl, SqL.of hH, rfl, hQ _ _ F M (h y1) (Dq.int _) (Same.refl _) d E.refl⟩
theorem w_urn {x : Str} {n : Int} {j : Nat} {p1 p2 p3 : Pos} {value : Expr} (i : Nat) (hn : n = 0 ∨ n = 1) (h : EvE (mkX X N sc) f ρ value fun S => ∃ y : Int, S = nt y ∧ Φ.nx ρ) (hi : ρ[i]? = some (some .ur) := by rfl) (hN : N[i]? = some x := by rfl) (hv : visB sc x = true := by decide +kernel)
    (hd : (x == ("__debug__" : Str)) = false := by decide +kernel) (hcd : (x == ("__classdict__" : Str)) = false := by decide +kernel)
    (ha : ∀ v, assign (.Subscript (.Name x p1) (.Constant (.int n) j p2) p3) (mkX X N sc).env v = (do
      let ov ← holding [v] (eval (.Name x p1) (mkX X N sc).env)
      let iv ← holding [v, ov] (eval (.Constant (.int n) j p2) (mkX X N sc).env)
      standAt p3
      holding [v, ov, iv] (setItem ov iv v)
      release [v, ov, iv] []) := by intro _; rfl)
    (hs : swapsWithSole [.Subscript (.Name x p1) (.Constant (.int n) j p2) p3] value pos.line (mkX X N sc).env = pure false := by rfl) (hw : swappedStores [.Subscript (.Name x p1) (.Constant (.int n) j p2) p3] value (mkX X N sc).env = pure none := by rfl)
    (h1 : (assignEach [.Subscript (.Name x p1) (.Constant (.int n) j p2) p3] (mkX X N sc).env).map (·.2) = [assign (.Subscript (.Name x p1) (.Constant (.int n) j p2) p3) (mkX X N sc).env] := by rfl) :
    WS (mkX X N sc) f ρ (.Assign [.Subscript (.Name x p1) (.Constant (.int n) j p2) p3] value pos) Φ := fun F M σ d E D A => by
  refine wpS_of (ps_asg (X := mkX X N sc) pe_wp (pg_sub (X := mkX X N sc) (pe_var hN (vis_of hv) hd hcd) pe_int set_list ha) hs hw h1) ?_
  refine h F M σ d E _ fun v S F1 M1 hk hv k1 d1 s1 => ?_
  obtain ⟨y, rfl, hk⟩ := hk
  cases hv
  have E1 := E.step k1 s1
  obtain ⟨v, hσ, u, rfl, hU⟩ := E1.ent i _ hi
  obtain ⟨m0, o, hu, y0, y1, rfl⟩ := E1.urn u hU
  have fu := d1 _ _ hu
  have hH : ovl F1 M1 u = some (.lst [.int y0, .int y1]) := by rw [ovl_M fu]; exact hu
  have fin : ∀ z0 z1 : Int, D.nx σ (L2.upd (ovl F1 M1) u (.lst [.int z0, .int z1])) := fun z0 z1 => by
    rw [upd_ovlM fu]
    have st : f.step M1 (L2.upd M1 u (.lst [.int z0, .int z1])) := ⟨fun a o hn ho => by
      have ne : a ≠ u := fun z => hn (by rw [hU, z])
      rw [upd_ne ne]; exact ho, fun u' hu' => by
      have : u' = u := Option.some.inj (hu'.symm.trans hU)
      subst this
      exact ⟨_, upd_same, z0, z1, rfl⟩⟩
    refine A.nx _ σ F1 _ hk k1 ⟨fun b x hb => ?_, fun b x hb => ?_⟩ (E1.step (Same.refl _) st)
    · by_cases z : b = u
      · rw [z]; exact fu
      · rw [upd_ne z] at hb; exact d1 b x hb
    · by_cases z : b = u
      · rw [z, upd_same] at hb
        cases hb
        rfl
      · rw [upd_ne z] at hb; exact d1.nt b x hb
  refine ⟨.ref u, hσ, ?_⟩
  rcases hn with rfl | rfl
  · exact ⟨u, _, 0, 0, rfl, rfl, hH, rfl, fin y y1⟩
  · exact ⟨u, _, 1, 1, rfl, rfl, hH, rfl, fin y0 y⟩
/-- a call of a def whose first argument is the urn -/
theorem r_callU {x : Str} {p1 p2 : Pos} {j : Nat} {T : Tp} {ps : List Str} {name : Str} (i : Nat) (P : Prom G name j ps (SpU T)) (C : Ctx G k X) (h : EvA (mkX X N sc) f ρ es fun Rs => T Rs κ) (hu : ρ[i]? = some (some .ur) := by rfl) (hN : N[i]? = some x := by rfl) (hv : visB sc x = true := by decide +kernel) (hj : j ≤ k := by decide) (hg : gloB sc name = true := by decide +kernel)
    (hd : (x == ("__debug__" : Str)) = false := by decide +kernel) (hcd : (x == ("__classdict__" : Str)) = false := by decide +kernel)
    (hdb : (name == ("__debug__" : Str)) = false := by decide +kernel) (he : starEach (.Name x p2 :: es) (mkX X N sc).env = (false, eval (.Name x p2) (mkX X N sc).env) :: starEach es (mkX X N sc).env := by rfl) (hpl : (backTo pos (starEach es (mkX X N sc).env)).any (·.1) = false := by rfl) :
    EvE (mkX X N sc) f ρ (.Call (.Name name p1) (.Name x p2 :: es) [] pos) κ := ev_callU i hu hN (vis_of hv) (P.mono hj) C.at (glo_of hg) h hd hcd hdb he hpl
end
/-! ### drawing -/
def T_take : Tp := fun Rs κ => ∃ n : Nat, Rs = [nt n] ∧ 0 < n ∧ n ≤ 1000 ∧ ∀ d : Nat, d < n → κ (nt d)
theorem P_take {G : Gb} (g : Gx G) (S : Std G "_law_take" "_law_take" s__law_take) : Prom G "_law_take" 1 p__law_take (SpU T_take) := by
  refine S.promU sc__law_take (by rintro Rs κ ⟨_, rfl, _⟩; rfl) (fun _ _ _ _ _ _ us hl => match us, hl with | [_, _], _ => rfl) fun X f u Rs κ C hU h => ?_
  obtain ⟨n, rfl, h0, h1, hκ⟩ := h
  have fin : ∀ z : Int, κ (nt (z % (n : Int))) := fun z => by
    have a1 := Int.emod_nonneg z (show (n : Int) ≠ 0 by omega)
    have a2 := Int.emod_lt_of_pos z (show (0 : Int) < n by omega)
    have e : ((z % (n : Int)).toNat : Int) = z % (n : Int) := Int.toNat_of_nonneg a1
    rw [← e]
    exact hκ _ (by omega)
  refine ws_cons (ws_if (et_c (ec_gtI (ev_urn 0 (.inl rfl) fun y => ev_int ⟨_, _, rfl, rfl, _, rfl, fun _ => ?_, fun _ => ws_nil ?_⟩))))
  · refine ws_cons (w_set 2 (ev_mod (ev_urn 0 (.inl rfl) fun y => v 1 ⟨y, (n : Int), rfl, rfl, by omega, ?_⟩)))
    refine ws_cons (w_urn 0 (.inl rfl) (ev_fdiv (ev_urn 0 (.inl rfl) fun y => v 1 ⟨y, (n : Int), rfl, rfl, by omega, by omega, _, rfl, ws_cons (ws_ret (v 2 (fin _)))⟩)))
  · refine ws_cons (w_urn 0 (.inr rfl) (ev_mod (ev_add (ev_mul (ev_urn 0 (.inr rfl) fun y => ev_int ⟨_, _, rfl, rfl, .inr (by decide), ev_int ⟨_, _, rfl, rfl, ev_int ⟨_, _, rfl, rfl, by decide, _, rfl, ?_⟩⟩⟩)))))
    refine ws_cons (ws_ret (ev_mod (ev_fdiv (ev_mod (ev_mul (ev_fdiv (ev_urn 0 (.inr rfl) fun y => ev_int ⟨_, _, rfl, rfl, by decide, by decide, ?_⟩))))))) 
    refine ev_add (ev_mod (ev_urn 0 (.inr rfl) fun y' => ev_int ⟨_, _, rfl, rfl, by decide, ev_int ⟨_, _, rfl, rfl, _, _, rfl, rfl, .inr ?_, ev_int ⟨_, _, rfl, rfl, by decide, ev_int ⟨_, _, rfl, rfl, by decide, by decide, v 1 ⟨_, (n : Int), rfl, rfl, by omega, fin _⟩⟩⟩⟩⟩))
    have a1 := Int.emod_nonneg y' (show (65537 : Int) ≠ 0 by decide)
    have a2 := Int.emod_lt_of_pos y' (show (0 : Int) < 65537 by decide)
    omega
end FR
set_option Elab.async false
set_option linter.all false
set_option maxRecDepth 100000
set_option maxHeartbeats 2000000
namespace FR
open PySem PySem.Spec PyProof.Rows L2
theorem atI_nat {α : Type} {xs : List α} {d : Nat} (h : d < xs.length) : atI xs (d : Int) = some xs[d] := by
  unfold atI ixN
  rw [if_pos (by omega), if_pos (by omega)]
  simp [h]
/-- one of these -/
def T_of : Tp := fun Rs κ => (∃ ds : List D, (Rs = [li ds] ∨ Rs = [tu ds]) ∧ 0 < ds.length ∧ ds.length ≤ 1000 ∧ ∀ d ∈ ds, κ (dat d)) ∨ ∃ z : Str, Rs = [st z] ∧ 0 < z.length ∧ z.length ≤ 1000 ∧ ∀ c ∈ z.cps.toList, κ (st ⟨#[c]⟩)
theorem P_of {G : Gb} (g : Gx G) (S : Std G "_law_of" "_law_of" s__law_of) (P1 : Prom G "_law_take" 1 p__law_take (SpU T_take)) : Prom G "_law_of" 2 p__law_of (SpU T_of) := by
  refine S.promU sc__law_of (by rintro Rs κ (⟨_, rfl | rfl, _⟩ | ⟨_, rfl, _⟩) <;> rfl) (fun _ _ _ _ _ _ us hl => match us, hl with | [_, _], _ => rfl) fun X f u Rs κ C hU h => ?_
  rcases h with ⟨ds, hR, h0, h1, hκ⟩ | ⟨z, rfl, h0, h1, hκ⟩
  · rcases hR with rfl | rfl
    · refine ws_cons (ws_ret (ev_ixL (by intro _ _; rfl) (v 1 (r_callU 0 P1 C (ea_one (r_len g C (v 1 ⟨ds, .inl rfl, ds.length, rfl, h0, h1, fun d hd => ⟨ds, d, ds[d], rfl, rfl, atI_nat hd, hκ _ (List.getElem_mem hd)⟩⟩)))))))
    · refine ws_cons (ws_ret (ev_ixT (by intro _ _; rfl) (v 1 (r_callU 0 P1 C (ea_one (r_len g C (v 1 ⟨ds, .inr rfl, ds.length, rfl, h0, h1, fun d hd => ⟨ds, d, ds[d], rfl, rfl, atI_nat hd, hκ _ (List.getElem_mem hd)⟩⟩)))))))
  · refine ws_cons (ws_ret (ev_ixS (by intro _ _; rfl) (v 1 (r_callU 0 P1 C (ea_one (r_lenS g C (v 1 ⟨z, rfl, by omega, z.length, rfl, h0, h1, fun d hd => ?_⟩)))))))
    have hd' : d < z.cps.toList.length := by rw [Array.length_toList]; exact hd
    exact ⟨z, d, z.cps.toList[d], rfl, rfl, by omega, atI_nat hd', hκ _ (List.getElem_mem hd')⟩
/-- some of them -/
def T_some : Tp := fun Rs κ => ∃ (xs : Fs) (n : Nat), Rs = [dat (eF.enc xs), nt n] ∧ 0 < n ∧ n ≤ 1000 ∧ ∀ ys : Fs, ys.Sublist xs → κ (dat (eF.enc ys))
theorem P_some {G : Gb} (g : Gx G) (S : Std G "_law_some" "_law_some" s__law_some) (P1 : Prom G "_law_take" 1 p__law_take (SpU T_take)) : Prom G "_law_some" 2 p__law_some (SpU T_some) := by
  refine S.promU sc__law_some (by rintro Rs κ ⟨_, _, rfl, _⟩; rfl) (fun _ _ _ _ _ _ us hl => match us, hl with | [_, _, _], _ => rfl) fun X f u Rs κ C hU h => ?_
  obtain ⟨xs, n, rfl, h0, h1, hκ⟩ := h
  refine ws_cons (ws_ret (r_tuple g C (r_lc [("_law_item", 3)] C (it_tup (v 1 ⟨_, rfl, ?_⟩)))))
  refine ⟨fun i acc => ∃ ys : Fs, ys.Sublist (xs.take i) ∧ acc = ys.map eN.enc, ⟨[], List.nil_sublist _, rfl⟩, fun i acc dd hd hj X' C' => ?_, fun acc hj => ?_⟩
  · obtain ⟨x, hx, rfl⟩ := at_map hd
    obtain ⟨ys, hys, rfl⟩ := hj
    refine tn 3 sc__law_some.nd fun X2 C2 => ts_one (et_c (ec_eqI (r_callU 0 P1 C2 (ea_one (v 2 ⟨n, rfl, h0, h1, fun d hd => ev_int ⟨_, _, rfl, rfl, _, rfl, fun _ X4 C4 => v 3 ⟨_, rfl, ys ++ [x], ?_, ?_⟩, fun _ => ⟨ys, ?_, rfl⟩⟩⟩)))))
    · rw [take_more hx]; exact List.Sublist.append hys (List.Sublist.refl _)
    · rw [List.map_append]; rfl
    · rw [take_more hx]; exact hys.trans (List.sublist_append_left _ _)
  · obtain ⟨ys, hys, rfl⟩ := hj
    rw [List.length_map, List.take_length] at hys
    exact ⟨_, .inl rfl, hκ ys hys⟩
/-! ### formats -/
theorem asc_of : ∀ {xs : Fs}, xs.Pairwise (fun a b => eN.lt a b = true) → asc eN xs = true := fun {xs} h => by
  unfold asc
  rw [List.all_map, List.all_eq_true]
  intro p hp
  induction xs with
  | nil => simp at hp
  | cons x xs ih =>
    cases xs with
    | nil => simp at hp
    | cons y ys =>
      obtain ⟨h1, h2⟩ := List.pairwise_cons.mp h
      have hp' : p ∈ (x, y) :: (y :: ys).zip ys := hp
      rcases List.mem_cons.mp hp' with rfl | hp'
      · exact h1 y List.mem_cons_self
      · exact ih h2 hp'
theorem isSub_iff {ws fs : Fs} : isSub ws fs = true ↔ ∀ x ∈ ws, x ∈ fs := by
  unfold isSub
  rw [List.all_eq_true]
  simp
/-- a format, its fields in order and few -/
structure FormP (x : Form) : Prop where
  wr : x.wr.Pairwise (fun a b => eN.lt a b = true)
  ne : x.ne.Pairwise (fun a b => eN.lt a b = true)
  kn : x.kn.Pairwise (fun a b => eN.lt a b = true)
  l1 : x.wr.length ≤ 4
  l2 : x.ne.length ≤ 4
  l3 : x.kn.length ≤ 4
  s1 : ∀ f ∈ x.ne, f ∈ x.wr
  s2 : ∀ f ∈ x.wr, f ∈ x.kn
theorem FormP.ok {x : Form} (h : FormP x) : FormOk x where
  wr := ⟨by have := h.l1; omega, asc_of h.wr⟩
  ne := ⟨by have := h.l2; omega, asc_of h.ne⟩
  kn := ⟨by have := h.l3; omega, asc_of h.kn⟩
  sub := isSub_iff.mpr fun f hf => h.s2 f (h.s1 f hf)
  acc := by
    unfold FR.acc
    rw [Bool.and_eq_true]
    exact ⟨isSub_iff.mpr h.s1, isSub_iff.mpr h.s2⟩
def nA : Nm := ⟨"a", by decide +kernel⟩
def nBB : Nm := ⟨"bb", by decide +kernel⟩
def nC : Nm := ⟨"c", by decide +kernel⟩
def T_loose : Tp := fun Rs κ => Rs = [] ∧ ∀ x : Form, FormP x → x.kn.length ≤ 3 → κ (dat (dFm x))
theorem P_loose {G : Gb} (g : Gx G) (S : Std G "_law_loose" "_law_loose" s__law_loose) (P1 : Prom G "_law_of" 2 p__law_of (SpU T_of)) (P2 : Prom G "_law_some" 2 p__law_some (SpU T_some)) : Prom G "_law_loose" 3 p__law_loose (SpU T_loose) := by
  refine S.promU sc__law_loose (by rintro Rs κ ⟨rfl, _⟩; rfl) (fun _ _ _ _ _ _ us hl => match us, hl with | [_], _ => rfl) fun X f u Rs κ C hU h => ?_
  obtain ⟨rfl, hκ⟩ := h
  have abc : [nA, nBB, nC].Pairwise (fun a b => eN.lt a b = true) := by decide +kernel
  have i3 : ∀ {d : D}, d ∈ [PyData.int 1, .int 2, .int 2] → ∃ n : Nat, d = .int (n : Nat) ∧ 0 < n ∧ n ≤ 1000 := fun {d} hd => by
    simp at hd
    rcases hd with rfl | rfl
    · exact ⟨1, rfl, by decide, by decide⟩
    · exact ⟨2, rfl, by decide, by decide⟩
  have i2 : ∀ {d : D}, d ∈ [PyData.int 1, .int 2] → ∃ n : Nat, d = .int (n : Nat) ∧ 0 < n ∧ n ≤ 1000 := fun {d} hd => by
    simp at hd
    rcases hd with rfl | rfl
    · exact ⟨1, rfl, by decide, by decide⟩
    · exact ⟨2, rfl, by decide, by decide⟩
  refine ws_cons (w_set 1 (r_callU 0 P2 C (ea2 (ev_tup (ea3 (ev_str (ev_str (ev_str ⟨[eN.enc nA, eN.enc nBB, eN.enc nC], rfl, (by show 3 ≤ 10000; decide), r_callU 0 P1 C (ea_one (ev_lst (ea3 (ev_int (ev_int (ev_int ⟨[.int 1, .int 2, .int 2], rfl, (by show 3 ≤ 10000; decide), .inl ⟨_, .inl rfl, by decide, by decide, fun d hd => ?_⟩⟩))))))⟩))))))))
  obtain ⟨n, rfl, h0, h1⟩ := i3 hd
  refine ⟨[nA, nBB, nC], n, rfl, h0, h1, fun kn hkn => ?_⟩
  refine ws_cons (w_set 2 (r_callU 0 P2 C (ea2 (v 1 (r_callU 0 P1 C (ea_one (ev_lst (ea2 (ev_int (ev_int ⟨[.int 1, .int 2], rfl, (by show 2 ≤ 10000; decide), .inl ⟨_, .inl rfl, by decide, by decide, fun d hd => ?_⟩⟩))))))))))
  obtain ⟨n, rfl, h0, h1⟩ := i2 hd
  refine ⟨kn, n, rfl, h0, h1, fun wr hwr => ?_⟩
  refine ws_cons (ws_ret (ev_tup (ea3 (v 2 (r_callU 0 P2 C (ea2 (v 2 (r_callU 0 P1 C (ea_one (ev_lst (ea3 (ev_int (ev_int (ev_int ⟨[.int 1, .int 2, .int 2], rfl, (by show 3 ≤ 10000; decide), .inl ⟨_, .inl rfl, by decide, by decide, fun d hd => ?_⟩⟩))))))))))))))
  obtain ⟨n, rfl, h0, h1⟩ := i3 hd
  refine ⟨wr, n, rfl, h0, h1, fun ne hne => v 1 ⟨[eF.enc wr, eF.enc ne, eF.enc kn], rfl, (by show 3 ≤ 10000; decide), ?_⟩⟩
  have l3 := hkn.length_le
  have l1 := hwr.length_le
  have l2 := hne.length_le
  have e3 : [nA, nBB, nC].length = 3 := rfl
  have pk := abc.sublist hkn
  exact hκ ⟨wr, ne, kn⟩ ⟨pk.sublist hwr, (pk.sublist hwr).sublist hne, pk, by show wr.length ≤ 4; omega, by show ne.length ≤ 4; omega, by show kn.length ≤ 4; omega, fun f hf => hne.subset hf, fun f hf => hwr.subset hf⟩ (by show kn.length ≤ 3; omega)
end FR
set_option Elab.async false
set_option linter.all false
set_option maxRecDepth 100000
set_option maxHeartbeats 2000000
namespace FR
open PySem PySem.Spec PyProof.Rows L2
/-! ### more fields -/
def more (x : Form) (ex : Fs) : Form := ⟨srt eN (dd (x.wr ++ ex)), srt eN (dd (x.ne ++ ex)), srt eN (dd (x.kn ++ ex))⟩
theorem srt_lt {xs : Fs} (h : xs.Nodup) : (srt eN xs).Pairwise fun a b => eN.lt a b = true := by
  have h1 := srt_sorted eN xs
  have h2 : (srt eN xs).Nodup := (srt_perm eN xs).nodup_iff.mpr h
  refine List.Pairwise.imp₂ (fun a b hle hne => ?_) h1 h2
  cases q : eN.lt a b with
  | true => rfl
  | false =>
    unfold Enc.le at hle
    rw [Bool.not_eq_true'] at hle
    exact absurd (eN.lt_total q hle) hne
theorem dd_len {xs : Fs} : (dd xs).length ≤ xs.length := (nodup_dd xs).sublen fun x hx => mem_dd.mp hx
theorem more_ok {x : Form} {ex : Fs} (h : FormP x) (l : x.kn.length ≤ 3) (l1 : x.wr.length ≤ 3) (l2 : x.ne.length ≤ 3) (le : ex.length ≤ 1) : FormP (more x ex) where
  wr := srt_lt (nodup_dd _)
  ne := srt_lt (nodup_dd _)
  kn := srt_lt (nodup_dd _)
  l1 := by show (srt eN _).length ≤ 4; rw [srt_length]; have := dd_len (xs := x.wr ++ ex); rw [List.length_append] at this; omega
  l2 := by show (srt eN _).length ≤ 4; rw [srt_length]; have := dd_len (xs := x.ne ++ ex); rw [List.length_append] at this; omega
  l3 := by show (srt eN _).length ≤ 4; rw [srt_length]; have := dd_len (xs := x.kn ++ ex); rw [List.length_append] at this; omega
  s1 := fun f hf => by
    show f ∈ srt eN (dd (x.wr ++ ex))
    have hf : f ∈ srt eN (dd (x.ne ++ ex)) := hf
    rw [srt_mem, mem_dd, List.mem_append] at hf ⊢
    exact hf.imp (h.s1 f) id
  s2 := fun f hf => by
    show f ∈ srt eN (dd (x.kn ++ ex))
    have hf : f ∈ srt eN (dd (x.wr ++ ex)) := hf
    rw [srt_mem, mem_dd, List.mem_append] at hf ⊢
    exact hf.imp (h.s2 f) id
def T_more : Tp := fun Rs κ => ∃ (x : Form) (ex : Fs), Rs = [dat (dFm x), dat (eF.enc ex)] ∧ (x.wr.length ≤ 100 ∧ x.ne.length ≤ 100 ∧ x.kn.length ≤ 100 ∧ ex.length ≤ 100) ∧ κ (dat (dFm (more x ex)))
theorem P_more {G : Gb} (g : Gx G) (S : Std G "_law_more" "_law_more" s__law_more) : Prom G "_law_more" 1 p__law_more (SpF T_more) := by
  refine S.prom sc__law_more (by rintro Rs κ ⟨_, _, rfl, _⟩; rfl) (fun _ _ _ _ _ _ us hl => match us, hl with | [_, _], _ => rfl) fun X f Rs κ C hU h => ?_
  obtain ⟨x, ex, rfl, ⟨l1, l2, l3, l4⟩, hκ⟩ := h
  refine ws_cons (ws_ret (r_tuple g C (r_lc [("_law_at_here", 2)] C (r_range1 g C (ev_int ⟨3, rfl, by decide, ?_⟩)))))
  let part : Nat → Fs := fun i => if i = 0 then x.wr else if i = 1 then x.ne else x.kn
  refine lc_each (xs := [0, 1, 2]) (fun i : Nat => .int (i : Nat)) (fun i => eF.enc (srt eN (dd (part i ++ ex)))) (fun i hi X' C' => tn 2 sc__law_more.nd fun X2 C2 => ?_) ⟨_, .inl rfl, hκ⟩
  have lp : (part i).length ≤ 100 := by
    show (if i = 0 then x.wr else if i = 1 then x.ne else x.kn).length ≤ 100
    split
    · exact l1
    · split
      · exact l2
      · exact l3
  have la : atI [eF.enc x.wr, eF.enc x.ne, eF.enc x.kn] (i : Int) = some (eF.enc (part i)) := by
    simp at hi
    rcases hi with rfl | rfl | rfl <;> rfl
  refine r_tuple g C2 (r_sorted g C2 (r_set g C2 (ev_catT (ev_ixT (by intro _ _; rfl) (v 0 (v 2 ⟨[eF.enc x.wr, eF.enc x.ne, eF.enc x.kn], (i : Int), _, rfl, rfl, la, v 1 ⟨(part i).map eN.enc, ex.map eN.enc, rfl, rfl, ?_, part i ++ ex, .inr ?_, ?_, Nm, eN, dd (part i ++ ex), gath_set _, sortOk_N _, ?_, _, .inl rfl, rfl⟩⟩))))))
  · rw [List.length_map, List.length_map]; omega
  · rw [List.map_append]
  · rw [List.length_append]; omega
  · have := dd_len (xs := part i ++ ex)
    rw [List.length_append] at this
    omega
section
variable {X : Cx} {f : Fx} {ρ : Env} {e a b c a' b' : Expr} {es : List Expr} {s : Stmt} {ss : List Stmt} {κ : Rp → Prop} {Φ : Post} {pos p : Pos} {G : Gb} {k : Nat} {N : List Str} {sc : Scope}
/-! ### formats, pairs of them, written out -/
theorem f3 {x1} (h : EvE X f ρ a fun R => EvE X f ρ b fun S => EvE X f ρ c fun T => ∃ x y z : Fs, R = dat (eF.enc x) ∧ S = dat (eF.enc y) ∧ T = dat (eF.enc z) ∧ κ (dat (dFm ⟨x, y, z⟩))) (h0 : starEach [a, b, c] X.env = (false, eval a X.env) :: starEach [b, c] X.env := by rfl) (h1 : starEach [b, c] X.env = (false, eval b X.env) :: starEach [c] X.env := by rfl) (h2 : starEach [c] X.env = (false, eval c X.env) :: starEach [] X.env := by rfl) : EvE X f ρ (.Tuple [a, b, c] x1 pos) κ :=
  ev_tup (ea3 (ev_imp h fun R h => ev_imp h fun S h => ev_imp h fun T ⟨x, y, z, e1, e2, e3, hk⟩ => ⟨[eF.enc x, eF.enc y, eF.enc z], by rw [e1, e2, e3]; rfl, by show 3 ≤ 10000; decide, hk⟩) h0 h1 h2)
def dPr (p : Form × Form) : D := .tuple [dFm p.1, dFm p.2]
theorem f2 {x1} (h : EvE X f ρ a fun R => EvE X f ρ b fun S => ∃ x y : Form, R = dat (dFm x) ∧ S = dat (dFm y) ∧ κ (dat (dPr (x, y)))) (h1 : starEach [a, b] X.env = (false, eval a X.env) :: starEach [b] X.env := by rfl) (h2 : starEach [b] X.env = (false, eval b X.env) :: starEach [] X.env := by rfl) : EvE X f ρ (.Tuple [a, b] x1 pos) κ :=
  ev_tup (ea2 (ev_imp h fun R h => ev_imp h fun S ⟨x, y, e1, e2, hk⟩ => ⟨[dFm x, dFm y], by rw [e1, e2]; rfl, by show 2 ≤ 10000; decide, hk⟩) h1 h2)
/-- (x,) -/
theorem f1 {x1} (h : EvE X f ρ a fun R => ∃ x : Nm, R = dat (eN.enc x) ∧ κ (dat (eF.enc [x]))) (h1 : starEach [a] X.env = (false, eval a X.env) :: starEach [] X.env := by rfl) : EvE X f ρ (.Tuple [a] x1 pos) κ :=
  ev_tup (ea_one (ev_imp h fun R ⟨x, e1, hk⟩ => ⟨[eN.enc x], by rw [e1]; rfl, by show 1 ≤ 10000; decide, hk⟩) h1)
theorem f0 {x1} (h : κ (dat (eF.enc []))) : EvE X f ρ (.Tuple [] x1 pos) κ := ev_tup (ea_nil ⟨[], rfl, Nat.zero_le _, h⟩)
/-- {k: v, k2: v2}, one's own -/
theorem ex_disp2 {κ : Ent → Prop} (h : EvE X f ρ a fun R => EvE X f ρ a' fun S => EvE X f ρ b fun R2 => EvE X f ρ b' fun S2 => ∃ (x y : Str) (d d2 : D), R = st x ∧ S = dat d ∧ R2 = st y ∧ S2 = dat d2 ∧ κ (.ow (dKO stK (pt (pt [] x d) y d2)))) : EvX X f ρ (.Dict [some a, some b] [a', b'] pos) κ := fun F M σ d E Q hQ => by
  refine wpE_of (pe_disp (pps_cons pe_wp pe_wp (pps_cons pe_wp pe_wp pps_nil)) rfl rfl (by simp) (by simp)) ?_
  intro p hp
  obtain ⟨hF, hM⟩ := ovl_none hp
  have nU : f.U ≠ some p := fun z => by
    obtain ⟨_, o', e, _⟩ := E.urn p z
    rw [hM] at e; cases e
  have n0 : f.M0 p = none := by
    cases z : f.M0 p with
    | none => rfl
    | some o' =>
      have := E.base p o' z
      rw [hM] at this; cases this
  rw [upd_ovlM hF]
  have s0 : f.step M (L2.upd M p (.dK [])) := ⟨fun a o _ z => same_updN hM a o z, fun u hu => by
    obtain ⟨_, o', z, i⟩ := E.urn u hu
    exact ⟨o', same_updN hM _ _ z, i⟩⟩
  have d0 : Dis F (L2.upd M p (.dK [])) := dis_newM d hF rfl
  refine h F _ σ d0 (E.step (Same.refl F) s0) _ fun v R F1 M1 hb hv k1 d1 s1 => ?_
  refine hb F1 M1 σ d1 (E.step k1 (stepT s0 s1)) _ fun w S F2 M2 hb hw k2 d2 s2 => ?_
  refine hb F2 M2 σ d2 (E.step (k1.trans k2) (stepT s0 (stepT s1 s2))) _ fun v2 R2 F3 M3 hb hv2 k3 d3 s3 => ?_
  refine hb F3 M3 σ d3 (E.step (k1.trans (k2.trans k3)) (stepT s0 (stepT s1 (stepT s2 s3)))) _ fun w2 S2 F4 M4 hk hw2 k4 d4 s4 => ?_
  obtain ⟨x, y, dd, dd2, rfl, rfl, rfl, rfl, hk⟩ := hk
  cases hv
  cases hv2
  have hw : Dq F4 w dd := Dq.mono (k3.trans k4) hw
  have m4 : M4 p = some (.dK []) := s4.1 _ _ nU (s3.1 _ _ nU (s2.1 _ _ nU (s1.1 _ _ nU upd_same)))
  have f4 : F4 p = none := d4 _ _ m4
  refine ⟨by rw [ovl_M f4]; exact m4, [(stK x, w), (stK y, w2)], rfl, by simp, ?_⟩
  rw [upd_ovlM f4]
  have sAll := stepT s0 (stepT s1 (stepT s2 (stepT s3 s4)))
  have r : KvR stK F4 (mergeK [] [(stK x, w), (stK y, w2)]) (pt (pt [] x dd) y dd2) := (KvR.put stK_inj (KvR.put stK_inj (show KvR stK F4 [] [] from .nil) x hw) y hw2)
  refine hQ (.ref p) (.ow (dKO stK (pt (pt [] x dd) y dd2))) F4 _ hk ⟨p, _, rfl, upd_same, ⟨_, rfl, r⟩, n0, nU⟩ (k1.trans (k2.trans (k3.trans k4))) ⟨fun b2 x2 hb => ?_, fun b2 x2 hb => ?_⟩ ⟨fun a o hn hz => ?_, fun u hu => ?_⟩ fun P a e1 e2 => ?_
  · by_cases z : b2 = p
    · rw [z]; exact f4
    · rw [upd_ne z] at hb; exact d4 b2 x2 hb
  · by_cases z : b2 = p
    · rw [z, upd_same] at hb
      cases hb
      rfl
    · rw [upd_ne z] at hb; exact d4.nt b2 x2 hb
  · have ne : a ≠ p := fun z => by rw [z, hM] at hz; cases hz
    rw [upd_ne ne]
    exact sAll.1 a o hn hz
  · obtain ⟨o', z, i⟩ := sAll.2 u hu
    have ne : u ≠ p := fun q => nU (by rw [hu, q])
    exact ⟨o', by rw [upd_ne ne]; exact z, i⟩
  · injection e2 with e2
    subst e2
    exact hM
theorem w_putK {x : Str} {p1 p2 : Pos} {value : Expr} {kvs : List (Str × D)} (i : Nat) (C : Ctx G k X) (hl : kvs.length ≤ 10000)
    (h : EvE (mkX X N sc) f ρ value fun S => EvE (mkX X N sc) f ρ b fun R => ∃ z d, R = st z ∧ S = dat d ∧ Φ.nx (ρ.set i (some (.ow (dKO stK (pt kvs z d)))))) (hi : ρ[i]? = some (some (.ow (dKO stK kvs))) := by rfl) (hN : N[i]? = some x := by rfl) (hv : visB sc x = true := by decide +kernel) (hs : swapsWith value (some (.Subscript (.Name x p1) b p2)) pos.line (mkX X N sc).env = pure false := by rfl)
    (hd : (x == ("__debug__" : Str)) = false := by decide +kernel) (hcd : (x == ("__classdict__" : Str)) = false := by decide +kernel) : WS (mkX X N sc) f ρ (.Assign [.Subscript (.Name x p1) b p2] value pos) Φ :=
  ws_putK stK_inj i C.at hi hN (vis_of hv) hl (ev_imp h fun S h => ev_imp h fun R ⟨z, d, e1, e2, hk⟩ => ⟨z, d, z, e1, rfl, e2, hk⟩) hs hd hcd
end
end FR
set_option Elab.async false
set_option linter.all false
set_option maxRecDepth 100000
set_option maxHeartbeats 2000000
namespace FR
open PySem PySem.Spec PyProof.Rows L2
structure Fm3 (x : Form) : Prop where
  p : FormP x
  w : x.wr.length ≤ 3
  n : x.ne.length ≤ 3
  k : x.kn.length ≤ 3
def Shp (kvs : List (Str × D)) (ks : List Str) : Prop := kvs.length ≤ ks.length ∧ ∀ key ∈ ks, ∃ p : Form × Form, gt kvs key = some (dPr p) ∧ Fm3 p.1 ∧ Fm3 p.2
theorem gt_pt {kvs : List (Str × D)} {k k' : Str} {d : D} : gt (pt kvs k d) k' = if k' = k then some d else gt kvs k' := by
  unfold pt
  split
  · rename_i h
    unfold gt
    rw [List.find?_map]
    by_cases e : k' = k
    · subst e
      rw [if_pos rfl]
      have : (kvs.find? ((fun p : Str × D => decide (p.1 = k')) ∘ fun kv => if kv.1 = k' then (kv.1, d) else kv)) = kvs.find? fun p => decide (p.1 = k') := by
        congr 1
        funext p
        simp only [Function.comp]
        split <;> rename_i q <;> simp [q]
      rw [this]
      cases q : kvs.find? fun p => decide (p.1 = k') with
      | none =>
        rw [List.find?_eq_none] at q
        obtain ⟨p, hp, e⟩ := List.any_eq_true.mp h
        exact absurd e (q p hp)
      | some p =>
        have := List.find?_some q
        have e : p.1 = k' := of_decide_eq_true this
        simp [e]
    · rw [if_neg e]
      have : (kvs.find? ((fun p : Str × D => decide (p.1 = k')) ∘ fun kv => if kv.1 = k then (kv.1, d) else kv)) = kvs.find? fun p => decide (p.1 = k') := by
        congr 1
        funext p
        simp only [Function.comp]
        split <;> rfl
      rw [this]
      cases q : kvs.find? fun p => decide (p.1 = k') with
      | none => rfl
      | some p =>
        have := List.find?_some q
        have e2 : p.1 = k' := of_decide_eq_true this
        have : ¬ p.1 = k := fun z => e (e2.symm.trans z)
        simp [this]
  · rename_i h
    unfold gt
    rw [List.find?_append]
    have hn : ∀ p ∈ kvs, ¬ p.1 = k := fun p hp e => h (List.any_eq_true.mpr ⟨p, hp, decide_eq_true e⟩)
    by_cases e : k' = k
    · subst e
      rw [if_pos rfl, List.find?_eq_none.mpr (fun p hp => by simpa using hn p hp)]
      simp
    · rw [if_neg e]
      have : ¬ k = k' := fun z => e z.symm
      cases q : kvs.find? fun p => decide (p.1 = k') with
      | none => simp [this]
      | some p => simp
theorem Shp.put {kvs : List (Str × D)} {ks : List Str} (h : Shp kvs ks) (k : Str) {p : Form × Form} (h1 : Fm3 p.1) (h2 : Fm3 p.2) : Shp (pt kvs k (dPr p)) (k :: ks) := by
  refine ⟨by have := pt_length kvs k (dPr p); have := h.1; rw [List.length_cons]; omega, fun key hk => ?_⟩
  rw [gt_pt]
  by_cases e : key = k
  · rw [if_pos e]
    exact ⟨p, rfl, h1, h2⟩
  · rw [if_neg e]
    exact h.2 key ((List.mem_cons.mp hk).resolve_left e)
theorem shp_nil : Shp [] [] := ⟨Nat.le_refl _, fun k hk => by cases hk⟩
/-- formats over two fields in order -/
theorem fm_of {wr ne kn : Fs} {f s : Nm} (h : eN.lt f s = true) (hw : wr.Sublist [f, s]) (hn : ne.Sublist [f, s]) (hk : kn.Sublist [f, s]) (s1 : ∀ x ∈ ne, x ∈ wr) (s2 : ∀ x ∈ wr, x ∈ kn) : Fm3 ⟨wr, ne, kn⟩ := by
  have pw : [f, s].Pairwise fun a b => eN.lt a b = true := by simp [h]
  have l1 := hw.length_le
  have l2 := hn.length_le
  have l3 := hk.length_le
  have e : [f, s].length = 2 := rfl
  exact ⟨⟨pw.sublist hw, pw.sublist hn, pw.sublist hk, by show wr.length ≤ 4; omega, by show ne.length ≤ 4; omega, by show kn.length ≤ 4; omega, s1, s2⟩, by show wr.length ≤ 3; omega, by show ne.length ≤ 3; omega, by show kn.length ≤ 3; omega⟩
def nId : Nm := ⟨"id", by decide +kernel⟩
def nTag : Nm := ⟨"tag", by decide +kernel⟩
def nZ : Nm := ⟨"z", by decide +kernel⟩
def nMM : Nm := ⟨"mm", by decide +kernel⟩
def nMMM : Nm := ⟨"mmm", by decide +kernel⟩
def nKey : Nm := ⟨"key", by decide +kernel⟩
def nValue : Nm := ⟨"value", by decide +kernel⟩
def nZZ : Nm := ⟨"zz", by decide +kernel⟩
def twos : List (Nm × Nm) := [(nId, nTag), (nA, nZ), (nMM, nMMM), (nKey, nValue)]
theorem twos_lt : ∀ p ∈ twos, eN.lt p.1 p.2 = true := by decide +kernel
section
variable {X : Cx} {f : Fx} {ρ : Env} {a b c d : Expr} {κ : Rp → Prop} {pos : Pos}
theorem ev_s2 (x y : Nm) {z1 z2 : Str} {i j : Nat} {p1 p2 : Pos} {x1} (h : κ (dat (eR.enc (x, y)))) (hx : x.1 = z1 := by rfl) (hy : y.1 = z2 := by rfl) (h1 : starEach [.Constant (.str z1) i p1, .Constant (.str z2) j p2] X.env = (false, eval (.Constant (.str z1) i p1) X.env) :: starEach [.Constant (.str z2) j p2] X.env := by rfl) (h2 : starEach [.Constant (.str z2) j p2] X.env = (false, eval (.Constant (.str z2) j p2) X.env) :: starEach [] X.env := by rfl) :
    EvE X f ρ (.Tuple [.Constant (.str z1) i p1, .Constant (.str z2) j p2] x1 pos) κ := ev_tup (ea2 (ev_str (ev_str ⟨[.str z1, .str z2], rfl, by show 2 ≤ 10000; decide, by subst hx hy; exact h⟩)) h1 h2)
theorem ea4 {κ : List Rp → Prop} (h : EvE X f ρ a fun R => EvE X f ρ b fun S => EvE X f ρ c fun T => EvE X f ρ d fun U => κ [R, S, T, U]) (h0 : starEach [a, b, c, d] X.env = (false, eval a X.env) :: starEach [b, c, d] X.env := by rfl) (h1 : starEach [b, c, d] X.env = (false, eval b X.env) :: starEach [c, d] X.env := by rfl) (h2 : starEach [c, d] X.env = (false, eval c X.env) :: starEach [d] X.env := by rfl) (h3 : starEach [d] X.env = (false, eval d X.env) :: starEach [] X.env := by rfl) : EvA X f ρ [a, b, c, d] κ :=
  ea_cons (ev_imp h fun R hR => ea3 hR h1 h2 h3) h0
end
end FR
set_option Elab.async false
set_option linter.all false
set_option maxRecDepth 100000
set_option maxHeartbeats 2000000
namespace FR
open PySem PySem.Spec PyProof.Rows L2
section
variable {X : Cx} {f : Fx} {ρ : Env} {κ : Rp → Prop} {pos : Pos}
theorem ev_s1 (x : Nm) {z1 : Str} {i : Nat} {p1 : Pos} {x1} (h : κ (dat (eF.enc [x]))) (hx : x.1 = z1 := by rfl) (h1 : starEach [.Constant (.str z1) i p1] X.env = (false, eval (.Constant (.str z1) i p1) X.env) :: starEach [] X.env := by rfl) :
    EvE X f ρ (.Tuple [.Constant (.str z1) i p1] x1 pos) κ := ev_tup (ea_one (ev_str ⟨[.str z1], rfl, by show 1 ≤ 10000; decide, by subst hx; exact h⟩) h1)
end
def kindList : List Str := ["same", "writer", "reader", "free", "reader first", "writer first", "split"]
def T_pair : Tp := fun Rs κ => ∃ kd : Str, Rs = [st kd] ∧ (kd = "any" ∨ kd ∈ kindList) ∧ ∀ a b : Form, FormP a → FormP b → κ (dat (dPr (a, b)))
theorem P_pair {G : Gb} (g : Gx G) (S : Std G "_law_pair" "_law_pair" s__law_pair) (P1 : Prom G "_law_take" 1 p__law_take (SpU T_take)) (P2 : Prom G "_law_of" 2 p__law_of (SpU T_of)) (P3 : Prom G "_law_loose" 3 p__law_loose (SpU T_loose)) (P4 : Prom G "_law_more" 1 p__law_more (SpF T_more)) : Prom G "_law_pair" 4 p__law_pair (SpU T_pair) := by
  refine S.promU sc__law_pair (by rintro Rs κ ⟨_, rfl, _⟩; rfl) (fun _ _ _ _ _ _ us hl => match us, hl with | [_, _], _ => rfl) fun X f u Rs κ C hU h => ?_
  obtain ⟨kd, rfl, hkd, hκ⟩ := h
  refine ws_cons (ws_if (et_c (ec_eqS (v 1 (ev_str ⟨_, _, rfl, rfl, _, rfl, fun h => ?_, fun h => ws_nil ?_⟩)))))
  · exact ws_cons (ws_ret (f2 (r_callU 0 P3 C (ea_nil ⟨rfl, fun x hx _ => r_callU 0 P3 C (ea_nil ⟨rfl, fun y hy _ => ⟨x, y, rfl, rfl, hκ x y hx hy⟩⟩)⟩))))
  rw [decide_eq_false_iff_not] at h
  have hkd := hkd.resolve_left h
  -- the two fields
  refine ws_cons (w_asg [4, 5] ?_)
  refine r_callU 0 P2 C ?_
  refine ea_one ?_
  refine ev_lst ?_
  refine ea4 ?_
  refine ev_s2 nId nTag ?_
  refine ev_s2 nA nZ ?_
  refine ev_s2 nMM nMMM ?_
  refine ev_s2 nKey nValue ?_
  refine ⟨twos.map eR.enc, rfl, (by show 4 ≤ 10000; decide), ?_⟩
  refine .inl ⟨_, .inl rfl, (by show 0 < 4; decide), (by show 4 ≤ 1000; decide), fun d hd => ?_⟩
  obtain ⟨⟨fi, se⟩, hp, rfl⟩ := List.mem_map.mp hd
  have lt := twos_lt _ hp
  refine at_tup (ds := [eN.enc fi, eN.enc se]) C.at.calm rfl (ats_cons (tn 4 sc__law_pair.nd (ats_cons (tn 5 sc__law_pair.nd (ats_nil ?_)))))
  refine ws_cons (w_par 6 7 C (ex_of (f1 (v 4 ⟨fi, rfl, ex_of (ev_tup (ea2 (v 4 (v 5 ⟨[eN.enc fi, eN.enc se], rfl, (by show 2 ≤ 10000; decide), ?_⟩))))⟩))))
  let one : Fs := [fi]
  let both : Fs := [fi, se]
  let two : Fs := [se]
  let E1 : List (Str × D) → Env := fun kvs => [some .ur, some (.fz (st kd)), some (.ow (dKO stK kvs)), none, some (.fz (dat (eN.enc fi))), some (.fz (dat (eN.enc se))), some (.fz (dat (eF.enc one))), some (.fz (dat (eF.enc both))), none, none, none, none]
  have so : one.Sublist both := by simp [one, both]
  have st2 : two.Sublist both := by simp [two, both]
  have sb : both.Sublist both := List.Sublist.refl _
  have s0 : ([] : Fs).Sublist both := List.nil_sublist _
  have io : ∀ x ∈ one, x ∈ both := fun x hx => so.subset hx
  have it : ∀ x ∈ two, x ∈ both := fun x hx => st2.subset hx
  have i0 : ∀ (l : Fs), ∀ x ∈ ([] : Fs), x ∈ l := fun l x hx => by cases hx
  have id' : ∀ (l : Fs), ∀ x ∈ l, x ∈ l := fun l x hx => hx
  let Mid : List Str → Env → Prop := fun ks ρ' => ∃ kvs, Shp kvs ks ∧ ρ' = E1 kvs
  refine ws_mid (Mid ["writer", "same"]) (w_setX 2 (ex_disp2 (ev_str (f2 (f3 (v 6 (v 6 (v 7 ⟨one, one, both, rfl, rfl, rfl, ?_⟩)))))))) ?_
  · refine f3 (v 6 (v 6 (v 7 ⟨one, one, both, rfl, rfl, rfl, _, _, rfl, rfl, ?_⟩)))
    refine ev_str (f2 (f3 (v 6 (v 6 (v 7 ⟨one, one, both, rfl, rfl, rfl, ?_⟩)))))
    refine f3 (v 7 (v 6 (v 7 ⟨both, one, both, rfl, rfl, rfl, _, _, rfl, rfl, ?_⟩)))
    refine ⟨_, _, _, _, rfl, rfl, rfl, rfl, _, Shp.put (Shp.put shp_nil "same" (p := (⟨one, one, both⟩, ⟨one, one, both⟩)) (fm_of lt so so sb (id' _) io) (fm_of lt so so sb (id' _) io)) "writer" (p := (⟨one, one, both⟩, ⟨both, one, both⟩)) (fm_of lt so so sb (id' _) io) (fm_of lt sb so sb io (id' _)), rfl⟩
  rintro ρ' ⟨kvs, hs, rfl⟩
  refine ws_mid (Mid ["reader", "writer", "same"]) (w_putK (kvs := kvs) 2 C (by have := hs.1; simp at this; omega) ?_) ?_
  · refine f2 ?_
    refine f3 (v 6 (v 6 (v 6 ⟨one, one, one, rfl, rfl, rfl, ?_⟩)))
    refine f3 (v 6 (f0 (v 7 ⟨one, [], both, rfl, rfl, rfl, _, _, rfl, rfl, ?_⟩)))
    exact ev_str ⟨_, _, rfl, rfl, _, Shp.put hs "reader" (p := (⟨one, one, one⟩, ⟨one, [], both⟩)) (fm_of lt so so so (id' _) (id' _)) (fm_of lt so s0 sb (i0 _) io), rfl⟩
  clear hs
  rintro ρ' ⟨kvs, hs, rfl⟩
  refine ws_mid (Mid ["free", "reader", "writer", "same"]) (w_putK (kvs := kvs) 2 C (by have := hs.1; simp at this; omega) ?_) ?_
  · refine f2 ?_
    refine f3 (v 7 (v 6 (v 7 ⟨both, one, both, rfl, rfl, rfl, ?_⟩)))
    refine f3 (v 6 (f0 (v 7 ⟨one, [], both, rfl, rfl, rfl, _, _, rfl, rfl, ?_⟩)))
    exact ev_str ⟨_, _, rfl, rfl, _, Shp.put hs "free" (p := (⟨both, one, both⟩, ⟨one, [], both⟩)) (fm_of lt sb so sb io (id' _)) (fm_of lt so s0 sb (i0 _) io), rfl⟩
  clear hs
  rintro ρ' ⟨kvs, hs, rfl⟩
  refine ws_mid (Mid ["reader first", "free", "reader", "writer", "same"]) (w_putK (kvs := kvs) 2 C (by have := hs.1; simp at this; omega) ?_) ?_
  · refine f2 ?_
    refine f3 (v 6 (v 6 (v 6 ⟨one, one, one, rfl, rfl, rfl, ?_⟩)))
    refine f3 (v 7 (v 6 (v 7 ⟨both, one, both, rfl, rfl, rfl, _, _, rfl, rfl, ?_⟩)))
    exact ev_str ⟨_, _, rfl, rfl, _, Shp.put hs "reader first" (p := (⟨one, one, one⟩, ⟨both, one, both⟩)) (fm_of lt so so so (id' _) (id' _)) (fm_of lt sb so sb io (id' _)), rfl⟩
  clear hs
  rintro ρ' ⟨kvs, hs, rfl⟩
  refine ws_mid (Mid ["writer first", "reader first", "free", "reader", "writer", "same"]) (w_putK (kvs := kvs) 2 C (by have := hs.1; simp at this; omega) ?_) ?_
  · refine f2 ?_
    refine f3 (v 6 (v 6 (v 7 ⟨one, one, both, rfl, rfl, rfl, ?_⟩)))
    refine f3 (v 7 (v 7 (v 7 ⟨both, both, both, rfl, rfl, rfl, _, _, rfl, rfl, ?_⟩)))
    exact ev_str ⟨_, _, rfl, rfl, _, Shp.put hs "writer first" (p := (⟨one, one, both⟩, ⟨both, both, both⟩)) (fm_of lt so so sb (id' _) io) (fm_of lt sb sb sb (id' _) (id' _)), rfl⟩
  clear hs
  rintro ρ' ⟨kvs, hs, rfl⟩
  refine ws_mid (Mid ["split", "writer first", "reader first", "free", "reader", "writer", "same"]) (w_putK (kvs := kvs) 2 C (by have := hs.1; simp at this; omega) ?_) ?_
  · refine f2 ?_
    refine f3 (v 6 (v 6 (v 6 ⟨one, one, one, rfl, rfl, rfl, ?_⟩)))
    refine f3 (f1 (v 5 ⟨se, rfl, (f1 (v 5 ⟨se, rfl, (f1 (v 5 ⟨se, rfl, ⟨two, two, two, rfl, rfl, rfl, _, _, rfl, rfl, ?_⟩⟩))⟩))⟩))
    exact ev_str ⟨_, _, rfl, rfl, _, Shp.put hs "split" (p := (⟨one, one, one⟩, ⟨two, two, two⟩)) (fm_of lt so so so (id' _) (id' _)) (fm_of lt st2 st2 st2 (id' _) (id' _)), rfl⟩
  clear hs
  rintro ρ' ⟨kvs, hs, rfl⟩
  -- the crossed forms
  let all : List Str := ["split", "writer first", "reader first", "free", "reader", "writer", "same"]
  let E2 : List (Str × D) → Option Ent → Option Ent → Env := fun kvs o1 o2 => [some .ur, some (.fz (st kd)), some (.ow (dKO stK kvs)), none, some (.fz (dat (eN.enc fi))), some (.fz (dat (eN.enc se))), some (.fz (dat (eF.enc one))), some (.fz (dat (eF.enc both))), none, none, o1, o2]
  let Mid2 : Env → Prop := fun ρ' => ∃ kvs o1 o2, (kvs.length ≤ 8 ∧ ∀ key ∈ kindList, ∃ p : Form × Form, gt kvs key = some (dPr p) ∧ Fm3 p.1 ∧ Fm3 p.2) ∧ ρ' = E2 kvs o1 o2
  have sAll : ∀ {kvs ks}, Shp kvs ks → ks.length ≤ 8 → (∀ k ∈ kindList, k ∈ ks) → (kvs.length ≤ 8 ∧ ∀ key ∈ kindList, ∃ p : Form × Form, gt kvs key = some (dPr p) ∧ Fm3 p.1 ∧ Fm3 p.2) := fun h l hk => ⟨Nat.le_trans h.1 l, fun key k => h.2 key (hk key k)⟩
  refine ws_mid Mid2 (ws_if (et_w (ew_and (et_c (ec_eqS (v 1 (ev_str ⟨_, _, rfl, rfl, _, rfl, fun h2 => ?_, fun h2 => ?_⟩))))))) ?_
  · refine ew_and1 (et_c (ec_eqI (r_callU 0 P1 C ?_)))
    refine ea_one (ev_int ⟨2, rfl, by decide, by decide, fun d hd => ?_⟩)
    refine ev_int ⟨(d : Int), 1, rfl, rfl, _, rfl, fun h3 => ?_, fun h3 => ?_⟩
    · refine ws_cons (w_par 10 11 C (ex_of (f2 ?_)))
      refine f3 (v 6 (f0 (v 6 ⟨one, [], one, rfl, rfl, rfl, ?_⟩)))
      refine f3 (f1 (v 5 ⟨se, rfl, f0 (f1 (v 5 ⟨se, rfl, ⟨two, [], two, rfl, rfl, rfl, _, _, rfl, rfl, ?_⟩⟩))⟩))
      refine ex_of (f2 ?_)
      refine f3 (v 7 (f1 (v 5 ⟨se, rfl, v 7 ⟨both, two, both, rfl, rfl, rfl, ?_⟩⟩)))
      refine f3 (v 6 (v 6 (v 6 ⟨one, one, one, rfl, rfl, rfl, _, _, rfl, rfl, ?_⟩)))
      let c1 : Form × Form := (⟨one, [], one⟩, ⟨two, [], two⟩)
      let c2 : Form × Form := (⟨both, two, both⟩, ⟨one, one, one⟩)
      have hl8 : kvs.length ≤ 10000 := by have := hs.1; simp at this; omega
      refine ws_cons (w_putK (kvs := kvs) 2 C hl8 (r_callU 0 P2 C ?_))
      refine ea_one (ev_lst (ea2 (v 10 (v 11 ⟨[dPr c1, dPr c2], rfl, (by show 2 ≤ 10000; decide), ?_⟩))))
      refine .inl ⟨_, .inl rfl, (by show 0 < 2; decide), (by show 2 ≤ 1000; decide), fun d hd => ?_⟩
      have fin : ∀ p : Form × Form, d = dPr p → Fm3 p.1 → Fm3 p.2 → Mid2 (E2 (pt kvs "split" d) (some (.fz (dat (dPr c1)))) (some (.fz (dat (dPr c2))))) := fun p e h1 h2 => ⟨_, _, _, sAll (e ▸ Shp.put hs "split" h1 h2) (by decide) (by decide), rfl⟩
      refine ev_str ⟨_, _, rfl, rfl, ws_nil ?_⟩
      rcases List.mem_cons.mp hd with e | hd
      · exact fin c1 e (fm_of lt so s0 so (i0 _) (id' _)) (fm_of lt st2 s0 st2 (i0 _) (id' _))
      · exact fin c2 (List.mem_singleton.mp hd) (fm_of lt sb st2 sb it (id' _)) (fm_of lt so so so (id' _) (id' _))
    · exact ws_nil ⟨_, _, _, sAll hs (by decide) (by decide), rfl⟩
  · exact ⟨(fun z => by cases z), fun _ => ws_nil ⟨_, _, _, sAll hs (by decide) (by decide), rfl⟩⟩
  clear hs
  rintro ρ' ⟨kvs, o1, o2, ⟨hs8, hs⟩, rfl⟩
  obtain ⟨p, hp, m1, m2⟩ := hs kd hkd
  refine ws_freeze 2 (lend_dK stK kvs) ?_
  refine ws_cons (w_asg [8, 9] (ev_getK stK_inj C.at (by intro _ _; rfl) (v 2 (v 1 ⟨kvs, kd, dPr p, kd, .inr rfl, rfl, rfl, hp, ?_⟩))))
  refine at_tup (ds := [dFm p.1, dFm p.2]) C.at.calm rfl (ats_cons (tn 8 sc__law_pair.nd (ats_cons (tn 9 sc__law_pair.nd (ats_nil ?_)))))
  refine ws_cons (w_set 3 (r_callU 0 P2 C ?_))
  refine ea_one (ev_lst (ea3 (f0 (f0 (ev_s1 nZZ ⟨[eF.enc [], eF.enc [], eF.enc [nZZ]], rfl, (by show 3 ≤ 10000; decide), ?_⟩)))))
  refine .inl ⟨_, .inl rfl, (by show 0 < 3; decide), (by show 3 ≤ 1000; decide), fun d hd => ?_⟩
  have hex : ∃ ex : Fs, d = eF.enc ex ∧ ex.length ≤ 1 := by
    simp only [List.mem_cons, List.not_mem_nil, or_false] at hd
    rcases hd with e | e | e
    · exact ⟨[], e, by decide⟩
    · exact ⟨[], e, by decide⟩
    · exact ⟨[nZZ], e, by decide⟩
  obtain ⟨ex, rfl, le⟩ := hex
  have l100 : ∀ q : Form, Fm3 q → (q.wr.length ≤ 100 ∧ q.ne.length ≤ 100 ∧ q.kn.length ≤ 100 ∧ ex.length ≤ 100) := fun q h => ⟨by have := h.w; omega, by have := h.n; omega, by have := h.k; omega, by omega⟩
  refine ws_cons (ws_ret (f2 (r_call P4 C (ea2 (v 8 (v 3 ⟨p.1, ex, rfl, l100 _ m1, ?_⟩))))))
  refine r_call P4 C (ea2 (v 9 (v 3 ⟨p.2, ex, rfl, l100 _ m2, ?_⟩)))
  exact ⟨_, _, rfl, rfl, hκ _ _ (more_ok m1.p m1.k m1.w m1.n le) (more_ok m2.p m2.k m2.w m2.n le)⟩
end FR
set_option Elab.async false
set_option linter.all false
set_option maxRecDepth 100000
set_option maxHeartbeats 2000000
namespace FR
open PySem PySem.Spec PyProof.Rows L2 TL
/-! ### a.join(list of texts) -/
theorem dqa_strs {F : Hp} : ∀ {zs : List Str} {vs : List V}, DqA F vs (zs.map PyData.str) → vs = zs.map V.str
  | [], _, .nil => rfl
  | _ :: _, _, .cons (.str _) r => by rw [dqa_strs r]; rfl
section
variable {X : Cx} {f : Fx} {ρ : Env} {o e : Expr} {κ : Rp → Prop} {pos : Pos}
theorem ev_join {apos : Pos} (h : EvE X f ρ o fun R => ∃ a, R = FR.st a ∧ EvE X f ρ e fun S => ∃ zs : List Str, S = li (zs.map PyData.str) ∧ (zs.map (·.length)).sum + zs.length * a.length ≤ 10000 ∧ κ (FR.st (Txt.join a zs)))
    (hs : starEach [e] X.env = [(false, eval e X.env)] := by rfl) (hbase : attributeBase o "join" X.env (eval o X.env) = eval o X.env := by rfl) (hline : (apos.endLine == pos.line) = true := by rfl) : EvE X f ρ (.Call (.Attribute o "join" apos) [e] [] pos) κ := fun F M σ d E Q hQ => by
  refine wpE_of (pe_join pe_wp pe_wp hs hbase hline) ?_
  refine h F M σ d E _ fun x R F1 M1 hb hx k1 d1 s1 => ?_
  obtain ⟨a, rfl, hb⟩ := hb
  cases hx
  refine ⟨⟨a, rfl⟩, ?_⟩
  refine hb F1 M1 σ d1 (E.step k1 s1) _ fun y S F2 M2 hh hy k2 d2 s2 => ?_
  obtain ⟨zs, rfl, hl, hk⟩ := hh
  cases hy with
  | lst ha hv =>
    have := dqa_strs hv
    subst this
    exact ⟨a, _, zs, rfl, rfl, .inl (SqL.of (ovl_F ha)), by omega, hQ _ _ F2 M2 hk (Dq.str _) (k1.trans k2) d2 (stepT s1 s2)⟩
end
theorem joinL_nil : ∀ l : List (List Nat), TL.joinL [] l = l.flatten
  | [] => rfl
  | [p] => by simp [TL.joinL]
  | p :: q :: r => by
    simp only [TL.joinL, List.nil_append]
    rw [joinL_nil (q :: r)]
    rfl
theorem join_nil (zs : List Str) : TL.tl (Txt.join "" zs) = (zs.map TL.tl).flatten := by
  rw [show TL.tl (Txt.join "" zs) = TL.joinL (TL.tl ("" : Str)) (zs.map TL.tl) from (congrArg TL.tl (TL.join_eq _ _)).trans (TL.tl_join _ _)]
  exact joinL_nil _
/-- letters -/
def chS (c : Nat) : Str := ⟨#[c]⟩
theorem okName_iff {x : Str} : okName x = true ↔ 1 ≤ (TL.tl x).length ∧ (TL.tl x).length ≤ 8 ∧ ∀ c ∈ TL.tl x, 97 ≤ c ∧ c ≤ 122 := by
  unfold okName
  simp only [Bool.and_eq_true, decide_eq_true_eq, and_assoc]
  rw [show (TL.tl x).length = x.cps.size from Array.length_toList]
  refine and_congr_right fun _ => and_congr_right fun _ => ?_
  rw [Array.all_eq_true']
  simp only [okC, Bool.and_eq_true, decide_eq_true_eq]
  exact ⟨fun h c hc => h c (Array.mem_toList_iff.mp hc), fun h c hc => h c (Array.mem_toList_iff.mpr hc)⟩
section
variable {X : Cx} {f : Fx} {ρ : Env} {a b c d e : Expr}
theorem ea5 {κ : List Rp → Prop} (h : EvE X f ρ a fun R => EvE X f ρ b fun S => EvE X f ρ c fun T => EvE X f ρ d fun U => EvE X f ρ e fun V => κ [R, S, T, U, V]) (h0 : starEach [a, b, c, d, e] X.env = (false, eval a X.env) :: starEach [b, c, d, e] X.env := by rfl) (h1 : starEach [b, c, d, e] X.env = (false, eval b X.env) :: starEach [c, d, e] X.env := by rfl) (h2 : starEach [c, d, e] X.env = (false, eval c X.env) :: starEach [d, e] X.env := by rfl) (h3 : starEach [d, e] X.env = (false, eval d X.env) :: starEach [e] X.env := by rfl) (h4 : starEach [e] X.env = (false, eval e X.env) :: starEach [] X.env := by rfl) : EvA X f ρ [a, b, c, d, e] κ :=
  ea_cons (ev_imp h fun R hR => ea4 hR h1 h2 h3 h4) h0
theorem ea6 {κ : List Rp → Prop} {z : Expr} (h : EvE X f ρ z fun Z => EvE X f ρ a fun R => EvE X f ρ b fun S => EvE X f ρ c fun T => EvE X f ρ d fun U => EvE X f ρ e fun V => κ [Z, R, S, T, U, V]) (h9 : starEach [z, a, b, c, d, e] X.env = (false, eval z X.env) :: starEach [a, b, c, d, e] X.env := by rfl) (h0 : starEach [a, b, c, d, e] X.env = (false, eval a X.env) :: starEach [b, c, d, e] X.env := by rfl) (h1 : starEach [b, c, d, e] X.env = (false, eval b X.env) :: starEach [c, d, e] X.env := by rfl) (h2 : starEach [c, d, e] X.env = (false, eval c X.env) :: starEach [d, e] X.env := by rfl) (h3 : starEach [d, e] X.env = (false, eval d X.env) :: starEach [e] X.env := by rfl) (h4 : starEach [e] X.env = (false, eval e X.env) :: starEach [] X.env := by rfl) : EvA X f ρ [z, a, b, c, d, e] κ :=
  ea_cons (ev_imp h fun R hR => ea5 hR h0 h1 h2 h3 h4) h9
end
def T_names : Tp := fun Rs κ => ∃ n : Nat, Rs = [nt n] ∧ n ≤ 26 ∧ ∀ xs : List Nm, xs.length = n → xs.Pairwise (fun a b => eN.lt a b = true) → κ (li (xs.map eN.enc))
theorem P_names {G : Gb} (g : Gx G) (S : Std G "_law_names" "_law_names" s__law_names) (P1 : Prom G "_law_take" 1 p__law_take (SpU T_take)) (P2 : Prom G "_law_of" 2 p__law_of (SpU T_of)) : Prom G "_law_names" 3 p__law_names (SpU T_names) := by
  refine S.promU sc__law_names (by rintro Rs κ ⟨_, rfl, _⟩; rfl) (fun _ _ _ _ _ _ us hl => match us, hl with | [_, _], _ => rfl) fun X f u Rs κ C hU h => ?_
  obtain ⟨n, rfl, hn, hκ⟩ := h
  refine ws_cons (w_setC 2 hU.2 (ev_join (ev_str ⟨"", rfl, ?_⟩)))
  refine r_lc [("_law_turn", 7)] C (r_range1 g C (r_callU 0 P2 C (ea_one (ev_lst (ea5 (ev_int (ev_int (ev_int (ev_int (ev_int ?_))))))))))
  refine ⟨[.int 0, .int 1, .int 3, .int 5, .int 7], rfl, (by show 5 ≤ 10000; decide), .inl ⟨_, .inl rfl, (by show 0 < 5; decide), (by show 5 ≤ 1000; decide), fun d hd => ?_⟩⟩
  have hm : ∃ m : Nat, dat d = nt m ∧ m ≤ 7 := by
    simp only [List.mem_cons, List.not_mem_nil, or_false] at hd
    rcases hd with e | e | e | e | e <;> subst e
    · exact ⟨0, rfl, by decide⟩
    · exact ⟨1, rfl, by decide⟩
    · exact ⟨3, rfl, by decide⟩
    · exact ⟨5, rfl, by decide⟩
    · exact ⟨7, rfl, by decide⟩
  obtain ⟨m, em, lm⟩ := hm
  refine ⟨m, em, by omega, ?_⟩
  refine ⟨fun i acc => ∃ zs : List Str, acc = zs.map PyData.str ∧ zs.length = i ∧ ∀ z ∈ zs, ∃ c, (97 ≤ c ∧ c ≤ 122) ∧ z = chS c, ⟨[], rfl, rfl, fun z hz => by cases hz⟩, fun i acc dd hd hj X' C' => ?_, fun acc hj => ?_⟩
  · obtain ⟨zs, rfl, hl, hz⟩ := hj
    refine tn 7 sc__law_names.nd fun X2 C2 => ts_nil ⟨fun _ X4 C4 => ?_, (fun z => by cases z)⟩
    refine r_callU 0 P2 C4 (ea_one (ev_str (.inr ⟨_, rfl, (by decide), (by decide), fun c hc => ⟨.str (chS c), rfl, zs ++ [chS c], ?_, ?_, ?_⟩⟩)))
    · rw [List.map_append]; rfl
    · rw [List.length_append, hl]; rfl
    · intro z h
      rcases List.mem_append.mp h with h | h
      · exact hz z h
      · refine ⟨c, ?_, List.mem_singleton.mp h⟩
        have : ∀ c ∈ [97, 98, 107, 109, 122], 97 ≤ c ∧ c ≤ 122 := by decide
        exact this c hc
  obtain ⟨zs, rfl, hl, hz⟩ := hj
  rw [rng_length] at hl
  have hz1 : ∀ z ∈ zs, TL.tl z = [z.cps.toList.headD 0] ∧ 97 ≤ z.cps.toList.headD 0 ∧ z.cps.toList.headD 0 ≤ 122 := fun z h => by
    obtain ⟨c, hc, rfl⟩ := hz z h
    exact ⟨rfl, hc⟩
  generalize hst : Txt.join "" zs = stem
  have tst : TL.tl stem = zs.map fun z => z.cps.toList.headD 0 := by
    rw [← hst, join_nil]
    clear hl hst hκ hz
    induction zs with
    | nil => rfl
    | cons z r ih =>
      rw [List.map_cons, List.flatten_cons, List.map_cons, ih fun y h => hz1 y (List.mem_cons_of_mem _ h), (hz1 z (List.mem_cons_self ..)).1]
      rfl
  have okst : ∀ c ∈ TL.tl stem, 97 ≤ c ∧ c ≤ 122 := fun c hc => by
    rw [tst] at hc
    obtain ⟨z, h, rfl⟩ := List.mem_map.mp hc
    exact (hz1 z h).2
  have lst : (TL.tl stem).length ≤ 7 := by rw [tst, List.length_map]; omega
  refine ⟨zs, rfl, ?_, ?_⟩
  · have : (zs.map (·.length)).sum = zs.length := by
      clear hl hst tst hκ hz
      induction zs with
      | nil => rfl
      | cons z r ih =>
        rw [List.map_cons, List.sum_cons, ih fun y h => hz1 y (List.mem_cons_of_mem _ h), TL.len_tl, (hz1 z (List.mem_cons_self ..)).1, List.length_cons]
        show [].length + 1 + r.length = r.length + 1
        simp; omega
    rw [this, show ("" : Str).length = 0 from rfl]
    omega
  rw [hst]
  refine ws_cons (w_asg2 4 5 C hU.2 (ex_of (r_callU 0 P1 C (ea_one (ev_int ⟨26, rfl, by decide, by decide, fun first hf => ex_of ?_⟩)))))
  refine r_callU 0 P2 C (ea_one (ev_lst (ea6 (ev_int (ev_int (ev_int (ev_int (ev_int (ev_int ?_)))))))))
  refine ⟨[.int 1, .int 3, .int 5, .int 7, .int 9, .int 11], rfl, (by show 6 ≤ 10000; decide), .inl ⟨_, .inl rfl, (by show 0 < 6; decide), (by show 6 ≤ 1000; decide), fun d2 hd2 => ?_⟩⟩
  have hlp : ∃ q : Nat, dat d2 = nt q ∧ q ≤ 11 ∧ q ∈ [1, 3, 5, 7, 9, 11] := by
    simp only [List.mem_cons, List.not_mem_nil, or_false] at hd2
    rcases hd2 with e | e | e | e | e | e <;> subst e
    · exact ⟨1, rfl, by decide, by decide⟩
    · exact ⟨3, rfl, by decide, by decide⟩
    · exact ⟨5, rfl, by decide, by decide⟩
    · exact ⟨7, rfl, by decide, by decide⟩
    · exact ⟨9, rfl, by decide, by decide⟩
    · exact ⟨11, rfl, by decide, by decide⟩
  obtain ⟨q, eq, lq, cq⟩ := hlp
  rw [eq]
  let L : Nat → Nat := fun i => 97 + (first + q * i) % 26
  have inj : ∀ i j, i < 26 → j < 26 → L i = L j → i = j := by
    intro i j hi hj h
    have h : (first + q * i) % 26 = (first + q * j) % 26 := by
      have : 97 + (first + q * i) % 26 = 97 + (first + q * j) % 26 := h
      omega
    simp only [List.mem_cons, List.not_mem_nil, or_false] at cq
    rcases cq with rfl | rfl | rfl | rfl | rfl | rfl <;> omega
  -- the letters
  refine ws_cons (w_setLc 3 [("_law_at_here", 6)] C (r_range1 g C (v 1 ⟨n, rfl, by omega, ?_⟩)))
  refine lc_each (xs := List.range n) (fun i : Nat => .int (0 + (i : Nat))) (fun i => .str (chS (L i))) (fun i hi X' C' => tn 6 sc__law_names.nd fun X2 C2 => ?_) ?_
  · refine ev_ixS (by intro _ _; rfl) (ev_str (ev_mod (ev_add (v 4 (ev_mul (v 5 (v 6 ⟨q, (0 + (i : Nat) : Int), rfl, rfl, .inl (by omega), (first : Int), _, rfl, rfl, ev_int ⟨_, 26, rfl, rfl, by decide, ?_⟩⟩)))))))
    refine ⟨_, (((first + q * i) % 26 : Nat) : Int), 97 + (first + q * i) % 26, rfl, ?_, (by decide), ?_, rfl⟩
    · congr 1
      simp
    · have : ∀ j : Fin 26, atI (Str.ofString "abcdefghijklmnopqrstuvwxyz").cps.toList ((j.1 : Nat) : Int) = some (97 + j.1) := by decide +kernel
      exact this ⟨_, Nat.mod_lt _ (by decide)⟩
  -- the names
  refine ws_cons (ws_ret (r_sorted g C (r_lc [("_law_letter", 8)] C (it_list (v 3 ⟨_, rfl, ?_⟩)))))
  refine ⟨fun i acc => ∃ ys : List Nm, acc = ys.map eN.enc ∧ ys.length = i ∧ ys.map (fun y => (TL.tl y.1).sum) = (List.range i).map fun i => (TL.tl stem).sum + L i, ⟨[], rfl, rfl, rfl⟩, fun i acc dd hd hj X' C' => ?_, fun acc hj => ?_⟩
  · obtain ⟨j, hj2, rfl⟩ := at_map hd
    have hji : j = i := by
      obtain ⟨lt, e⟩ := List.getElem?_eq_some_iff.mp hj2
      rw [List.getElem_range] at e
      exact e.symm
    subst hji
    obtain ⟨ys, rfl, hl2, hs⟩ := hj
    have l1 : stem.length + (chS (L j)).length ≤ 8 := by rw [TL.len_tl, show (chS (L j)).length = 1 from rfl]; omega
    have hLj : 97 ≤ L j ∧ L j ≤ 122 := by
      have : (first + q * j) % 26 < 26 := Nat.mod_lt _ (by decide)
      show 97 ≤ 97 + (first + q * j) % 26 ∧ 97 + (first + q * j) % 26 ≤ 122
      omega
    have fin : ∀ y : Str, (TL.tl y).Perm (TL.tl stem ++ [L j]) → ∃ yd, FR.st y = dat yd ∧ ∃ ys2 : List Nm, ys.map eN.enc ++ [yd] = ys2.map eN.enc ∧ ys2.length = j + 1 ∧ ys2.map (fun y => (TL.tl y.1).sum) = (List.range (j + 1)).map fun i => (TL.tl stem).sum + L i := by
      intro y hp
      have ok : okName y = true := okName_iff.mpr ⟨by rw [hp.length_eq, List.length_append, List.length_singleton]; omega, by rw [hp.length_eq, List.length_append, List.length_singleton]; omega, fun c hc => by
        rcases List.mem_append.mp (hp.mem_iff.mp hc) with h | h
        · exact okst c h
        · rw [List.mem_singleton.mp h]; exact hLj⟩
      refine ⟨.str y, rfl, ys ++ [⟨y, ok⟩], by rw [List.map_append]; rfl, by rw [List.length_append, hl2]; rfl, ?_⟩
      rw [List.map_append, hs, List.range_succ, List.map_append]
      congr 1
      have e : (TL.tl y).sum = (TL.tl stem).sum + L j := by rw [hp.sum_nat, List.sum_append_nat]; simp
      show [(TL.tl y).sum] = [(TL.tl stem).sum + L j]
      rw [e]
    refine tn 8 sc__law_names.nd fun X2 C2 => ts_nil ⟨fun _ X4 C4 => ?_, (fun z => by cases z)⟩
    refine ev_if (et_c (ec_eqI (r_callU 0 P1 C4 (ea_one (ev_int ⟨2, rfl, by decide, by decide, fun d hd => ev_int ⟨_, _, rfl, rfl, _, rfl, fun _ => ?_, fun _ => ?_⟩⟩))))) 
    · exact ev_adds (v 2 (v 8 ⟨stem, chS (L j), rfl, rfl, by omega, fin _ (by rw [TL.tl_append]; exact .refl _)⟩))
    · exact ev_adds (v 8 (v 2 ⟨chS (L j), stem, rfl, rfl, by omega, fin _ (by rw [TL.tl_append]; exact List.perm_append_comm)⟩))
  obtain ⟨ys, rfl, hl2, hs⟩ := hj
  rw [List.length_map, List.length_range] at hl2
  have nd : ys.Nodup := by
    have : (ys.map (fun y => (TL.tl y.1).sum)).Nodup := by
      rw [hs, List.length_map, List.length_range]
      unfold List.Nodup
      rw [List.pairwise_map]
      refine List.Pairwise.imp_of_mem (fun {a b} ha hb h e => h (inj a b ?_ ?_ (by omega))) List.nodup_range
      · have := List.mem_range.mp ha; omega
      · have := List.mem_range.mp hb; omega
    unfold List.Nodup at this ⊢
    rw [List.pairwise_map] at this
    exact this.imp fun h e => h (by rw [e])
  refine ⟨Nm, eN, ys, gath_li _ _, sortOk_N _, by omega, hκ _ ?_ (srt_lt nd)⟩
  rw [srt_length]
  exact hl2
end FR
set_option Elab.async false
set_option linter.all false
set_option maxRecDepth 100000
set_option maxHeartbeats 2000000
namespace FR
open PySem PySem.Spec PyProof.Rows L2
/-! ### a drawn system -/
structure LnOk (hs : Fs) (c : Ch) : Prop where
  sn : c.sn ∈ hs
  rc : c.rc ∈ hs
  od : FormP c.od
  nw : FormP c.nw
structure Drawn (m l : Nat) (hs : Fs) (cs : List Ch) : Prop where
  h1 : 1 ≤ hs.length
  h2 : hs.length ≤ m
  h3 : hs.Pairwise fun a b => eN.lt a b = true
  c1 : cs.length ≤ l
  c2 : ∀ c ∈ cs, LnOk hs c
  c3 : (cs.map (·.nm)).Pairwise fun a b => eN.lt a b = true
def allKinds : List Str := ["reader first", "reader first", "writer first", "writer first", "split", "free", "same", "writer", "reader", "any", "any"]
def T_kinds : Tp := fun Rs κ => Rs = [] ∧ κ (li (allKinds.map PyData.str))
theorem b_kinds (kV doc pm : Value) (an : Option Addr) (cdv ct : Value) : ∀ us : List Value, us.length = p__law_kinds.length → bindArgs (PySem.W.fnOf "_law_kinds" "_law_kinds" (defArgs s__law_kinds) (defBody s__law_kinds) (defScope s__law_kinds) .none kV doc pm an cdv ct) ⟨us, []⟩ = pure (p__law_kinds.zip us)
  | [], _ => by kernel_rfl
  | _ :: _, h => nomatch h
/-- texts, written out -/
def textsOf : List Expr → Option (List Str)
  | [] => some []
  | .Constant (.str x) _ _ :: es => (textsOf es).map (x :: ·)
  | _ => none
theorem ea_texts {X : Cx} {f : Fx} {ρ : Env} : ∀ {es : List Expr} {zs : List Str} {κ : List Rp → Prop}, textsOf es = some zs → κ (zs.map FR.st) → EvA X f ρ es κ
  | [], zs, κ, h, hk => by
    cases h
    exact ea_nil hk
  | .Constant (.str x) i p :: es, zs, κ, h, hk => by
    unfold textsOf at h
    obtain ⟨ys, hy, rfl⟩ := Option.map_eq_some_iff.mp h
    exact ea_cons (ev_str (ea_texts hy hk)) rfl
theorem P_kinds {G : Gb} (g : Gx G) (S : Std G "_law_kinds" "_law_kinds" s__law_kinds) : Prom G "_law_kinds" 1 p__law_kinds (SpF T_kinds) := by
  refine S.prom sc__law_kinds (by rintro Rs κ ⟨rfl, _⟩; rfl) b_kinds fun X f Rs κ C hU h => ?_
  have q : ∃ es p1 p2, defBody s__law_kinds = [.Return (some (.List es p1)) p2] ∧ textsOf es = some allKinds := ⟨_, _, _, rfl, by decide +kernel⟩
  obtain ⟨es, p1, p2, e, ht⟩ := q
  rw [e]
  refine ws_cons (ws_ret (ev_lst (ea_texts ht ?_)))
  exact ⟨allKinds.map PyData.str, by rw [List.map_map]; rfl, (by show 11 ≤ 10000; decide), h.2⟩
def T_system : Tp := fun Rs κ => ∃ m l : Nat, Rs = [nt m, nt l, li (allKinds.map PyData.str)] ∧ 1 ≤ m ∧ m ≤ 12 ∧ l ≤ 25 ∧ ∀ (hs : Fs) (cs : List Ch), Drawn m l hs cs → κ (dat (.tuple [eF.enc hs, .tuple (cs.map dCh)]))
theorem P_lsystem {G : Gb} (g : Gx G) (S : Std G "_law_system" "_law_system" s__law_system) (P1 : Prom G "_law_take" 1 p__law_take (SpU T_take)) (P2 : Prom G "_law_of" 2 p__law_of (SpU T_of)) (P3 : Prom G "_law_names" 3 p__law_names (SpU T_names)) (P4 : Prom G "_law_pair" 4 p__law_pair (SpU T_pair)) : Prom G "_law_system" 5 p__law_system (SpU T_system) := by
  refine S.promU sc__law_system (by rintro Rs κ ⟨_, _, rfl, _⟩; rfl) (fun _ _ _ _ _ _ us hl => match us, hl with | [_, _, _, _], _ => rfl) fun X f u Rs κ C hU h => ?_
  obtain ⟨m, l, rfl, hm, hm2, hl, hκ⟩ := h
  refine ws_cons (w_set 4 ?_)
  refine r_tuple g C ?_
  refine r_callU 0 P3 C ?_
  refine ea_one (ev_add (ev_int ?_))
  refine r_callU 0 P1 C ?_
  refine ea_one (v 1 ?_)
  refine ⟨m, rfl, by omega, by omega, fun d hd => ?_⟩
  refine ⟨1, (d : Int), rfl, rfl, 1 + d, by simp, by omega, fun hs hhl hhs => ⟨_, .inl rfl, ?_⟩⟩
  have h1 : 1 ≤ hs.length := by omega
  have h2 : hs.length ≤ m := by omega
  refine ws_cons (w_par 6 7 C (ex_lst (ea_nil ⟨[], rfl, Nat.zero_le _, ex_of ?_⟩)))
  refine r_callU 0 P3 C ?_
  refine ea_one (r_min g C (ev_int ?_))
  refine r_callU 0 P1 C ?_
  refine ea_one (ev_add (v 2 (ev_int ?_)))
  refine ⟨(l : Int), 1, rfl, rfl, l + 1, by simp, by omega, by omega, fun k hk => ?_⟩
  have ek : (if (k : Int) < 26 then (k : Int) else 26) = (k : Int) := if_pos (by omega)
  refine ⟨26, (k : Int), rfl, rfl, k, by rw [ek], by omega, fun nms hnl hnm => ?_⟩
  refine ws_cons (w_for (S := List Ch) (fun i s => s.map (·.nm) = nms.take i ∧ ∀ c ∈ s, LnOk hs c) (fun s => [some .ur, some (.fz (nt m)), some (.fz (nt l)), some (.fz (li (allKinds.map PyData.str))), some (.fz (dat (eF.enc hs))), none, some (.ow (lstO (s.map dCh))), some (.fz (li (nms.map eN.enc))), none]) [5] C (it_list (v 7 ⟨_, rfl, ?_⟩)))
  refine ⟨⟨[], ⟨rfl, fun c hc => by cases hc⟩, le_refl _⟩, fun i s d hd hi hs' => ?_, fun s hs' => ?_⟩
  · obtain ⟨nm, hnmi, rfl⟩ := at_map hd
    obtain ⟨hs1, hs2⟩ := hs'
    have sl : s.length ≤ 26 := by
      have := congrArg List.length hs1
      rw [List.length_map, List.length_take] at this
      omega
    refine tn 5 sc__law_system.nd (ws_cons (w_set 8 (ev_tup ?_)))
    refine ea2 ?_
    refine r_callU 0 P2 C (ea_one (v 4 (.inl ⟨hs.map eN.enc, .inr rfl, by rw [List.length_map]; omega, by rw [List.length_map]; omega, fun d1 hd1 => ?_⟩)))
    obtain ⟨sn, hsn, rfl⟩ := List.mem_map.mp hd1
    refine r_callU 0 P2 C (ea_one (v 4 (.inl ⟨hs.map eN.enc, .inr rfl, by rw [List.length_map]; omega, by rw [List.length_map]; omega, fun d2 hd2 => ?_⟩)))
    obtain ⟨rc, hrc, rfl⟩ := List.mem_map.mp hd2
    refine ⟨[eN.enc sn, eN.enc rc], rfl, (by show 2 ≤ 10000; decide), ?_⟩
    refine ws_cons (w_append (ds := s.map dCh) 6 (by rw [List.length_map]; omega) ?_)
    refine ev_catT (ev_catT (ev_tup (ea_one (v 5 ⟨[eN.enc nm], rfl, (by show 1 ≤ 10000; decide), v 8 ⟨[eN.enc nm], [eN.enc sn, eN.enc rc], rfl, rfl, (by show 3 ≤ 10000; decide), ?_⟩⟩))))
    refine r_callU 0 P4 C (ea_one ?_)
    refine r_callU 0 P2 C (ea_one (v 3 (.inl ⟨allKinds.map PyData.str, .inl rfl, (by show 0 < 11; decide), (by show 11 ≤ 1000; decide), fun d3 hd3 => ?_⟩)))
    obtain ⟨kd, hkd, rfl⟩ := List.mem_map.mp hd3
    have hk2 : kd = "any" ∨ kd ∈ kindList := (by decide : ∀ kd ∈ allKinds, kd = "any" ∨ kd ∈ kindList) kd hkd
    refine ⟨kd, rfl, hk2, fun a b ha hb => ?_⟩
    refine ⟨[eN.enc nm, eN.enc sn, eN.enc rc], [dFm a, dFm b], rfl, rfl, (by show 5 ≤ 10000; decide), dCh ⟨nm, sn, rc, a, b⟩, rfl, ws_nil ⟨s ++ [⟨nm, sn, rc, a, b⟩], ⟨?_, ?_⟩, ?_⟩⟩
    · rw [List.map_append, hs1, take_more hnmi]; rfl
    · intro c hc
      rcases List.mem_append.mp hc with hc | hc
      · exact hs2 c hc
      · rw [List.mem_singleton] at hc
        subst hc
        exact ⟨hsn, hrc, ha, hb⟩
    · rw [List.map_append]
      exact le_keep (le_keep (le_keep (le_keep (le_keep (le_drop (le_keep (le_keep (le_drop le_nil))))))))
  · obtain ⟨hs1, hs2⟩ := hs'
    rw [List.length_map, List.take_length] at hs1
    have sl : s.length = k := by rw [← hnl, ← hs1, List.length_map]
    refine ws_freeze 6 (lend_lst _) (ws_cons (ws_ret (ev_tup ?_)))
    refine ea2 (v 4 (r_tuple g C (v 6 ⟨_, .inl rfl, ⟨[eF.enc hs, .tuple (s.map dCh)], rfl, (by show 2 ≤ 10000; decide), ?_⟩⟩)))
    exact hκ hs s ⟨h1, h2, hhs, by omega, hs2, by rw [hs1]; exact hnm⟩
end FR
set_option Elab.async false
set_option linter.all false
namespace FR
/-! ### plans, without the program -/
section
variable {P N : Type} [DecidableEq P] [DecidableEq N]
def dn (pl : List (N × List P)) : List P := (pl.map (·.2)).flatten
theorem dn_nil : dn ([] : List (N × List P)) = [] := rfl
theorem dn_cons (r : N × List P) (pl : List (N × List P)) : dn (r :: pl) = r.2 ++ dn pl := rfl
theorem dn_app (a b : List (N × List P)) : dn (a ++ b) = dn a ++ dn b := by
  unfold dn; rw [List.map_append, List.flatten_append]
theorem mem_dn {pl : List (N × List P)} {q : P} : q ∈ dn pl ↔ ∃ r ∈ pl, q ∈ r.2 := by
  unfold dn
  simp only [List.mem_flatten, List.mem_map]
  exact ⟨fun ⟨_, ⟨r, hr, e⟩, h⟩ => ⟨r, hr, e ▸ h⟩, fun ⟨r, hr, h⟩ => ⟨_, ⟨r, hr, rfl⟩, h⟩⟩
/-- from these done steps on, the first step of a pair comes ahead -/
def prs (ps : List (P × P)) : List P → List (N × List P) → Prop
  | _, [] => True
  | d, r :: pl => (∀ p ∈ ps, p.2 ∈ r.2 → p.1 ∈ d) ∧ prs ps (d ++ r.2) pl
theorem prs_app {ps : List (P × P)} : ∀ {a b : List (N × List P)} {d : List P}, prs ps d (a ++ b) ↔ prs ps d a ∧ prs ps (d ++ dn a) b
  | [], b, d => by simp [prs, dn_nil]
  | r :: a, b, d => by
    rw [List.cons_append]
    simp only [prs]
    rw [prs_app (a := a), dn_cons, List.append_assoc, and_assoc]
theorem prs_congr {ps : List (P × P)} : ∀ {pl : List (N × List P)} {d d' : List P}, (∀ q, q ∈ d → q ∈ d') → prs ps d pl → prs ps d' pl
  | [], _, _, _, _ => True.intro
  | r :: pl, d, d', h, ⟨h1, h2⟩ => ⟨fun p hp hq => h _ (h1 p hp hq), prs_congr (fun q hq => by
      rcases List.mem_append.mp hq with hq | hq
      · exact List.mem_append_left _ (h q hq)
      · exact List.mem_append_right _ hq) h2⟩
structure Good (ow : List (P × N)) (ps : List (P × P)) (pl : List (N × List P)) : Prop where
  own : ∀ r ∈ pl, ∀ q ∈ r.2, (q, r.1) ∈ ow
  ne : ∀ r ∈ pl, r.2 ≠ []
  nd : (dn pl).Nodup
  all : ∀ q ∈ ow.map (·.1), q ∈ dn pl
  pr : prs ps [] pl
/-- releases of a service -/
def cnt (x : N) (pl : List (N × List P)) : Nat := (pl.filter fun r => decide (r.1 = x)).length
theorem cnt_cons (x : N) (r : N × List P) (pl : List (N × List P)) : cnt x (r :: pl) = (if r.1 = x then 1 else 0) + cnt x pl := by
  unfold cnt
  rw [List.filter_cons]
  by_cases h : r.1 = x
  · simp [h]; omega
  · simp [h]
theorem cnt_app (x : N) (a b : List (N × List P)) : cnt x (a ++ b) = cnt x a + cnt x b := by
  unfold cnt; rw [List.filter_append, List.length_append]
theorem sum_ind {a : N} : ∀ {hs : List N}, hs.Nodup → ((hs.map fun x => if a = x then 1 else 0).sum = if a ∈ hs then 1 else 0)
  | [], _ => by simp
  | h :: hs, nd => by
    rw [List.nodup_cons] at nd
    rw [List.map_cons, List.sum_cons, sum_ind nd.2]
    by_cases e : a = h
    · subst e; simp [nd.1]
    · simp [e]
theorem sum_add {f g : N → Nat} : ∀ {hs : List N}, (hs.map fun x => f x + g x).sum = (hs.map f).sum + (hs.map g).sum
  | [] => rfl
  | h :: hs => by simp only [List.map_cons, List.sum_cons]; rw [sum_add]; omega
theorem sum_le {f g : N → Nat} : ∀ {hs : List N}, (∀ x ∈ hs, f x ≤ g x) → (hs.map f).sum ≤ (hs.map g).sum
  | [], _ => Nat.le_refl _
  | h :: hs, k => by
    simp only [List.map_cons, List.sum_cons]
    have := k h List.mem_cons_self
    have := sum_le (hs := hs) fun x hx => k x (List.mem_cons_of_mem _ hx)
    omega
theorem sum_cnt {hs : List N} (nd : hs.Nodup) : ∀ {pl : List (N × List P)}, (∀ r ∈ pl, r.1 ∈ hs) → (hs.map fun x => cnt x pl).sum = pl.length
  | [], _ => by
    induction hs with
    | nil => rfl
    | cons h hs ih => rw [List.map_cons, List.sum_cons, ih (List.nodup_cons.mp nd).2 (fun r hr => by cases hr)]; rfl
  | r :: pl, h => by
    have e : (hs.map fun x => cnt x (r :: pl)) = hs.map fun x => (if r.1 = x then 1 else 0) + cnt x pl := List.map_congr_left fun x _ => cnt_cons x r pl
    rw [e, sum_add, sum_ind nd, if_pos (h r List.mem_cons_self), sum_cnt nd fun q hq => h q (List.mem_cons_of_mem _ hq), List.length_cons]
    omega
theorem sum_filter {p : N → Bool} : ∀ {hs : List N}, (hs.map fun x => if p x then 1 else 0).sum = (hs.filter p).length
  | [] => rfl
  | h :: hs => by
    rw [List.map_cons, List.sum_cons, sum_filter, List.filter_cons]
    cases p h <;> simp <;> omega
/-- the first step's release comes ahead of the second's -/
theorem before {ps : List (P × P)} {A B : List (N × List P)} {r : N × List P} (h : prs ps [] (A ++ r :: B)) {f s : P} (hp : (f, s) ∈ ps) (hs : s ∈ r.2) : ∃ A1 r1 A2, A = A1 ++ r1 :: A2 ∧ f ∈ r1.2 := by
  have h := (prs_app.mp h).2.1 _ hp hs
  rw [List.nil_append] at h
  obtain ⟨r1, hr1, hf⟩ := mem_dn.mp h
  obtain ⟨A1, A2, e⟩ := List.append_of_mem hr1
  exact ⟨A1, r1, A2, e, hf⟩
variable {ow : List (P × N)} {ps : List (P × P)} {pl : List (N × List P)}
theorem own_one (fn : (ow.map (·.1)).Nodup) {q : P} {x y : N} (h1 : (q, x) ∈ ow) (h2 : (q, y) ∈ ow) : x = y := by
  induction ow with
  | nil => cases h1
  | cons o ow ih =>
    rw [List.map_cons, List.nodup_cons] at fn
    rcases List.mem_cons.mp h1 with e1 | h1
    · rcases List.mem_cons.mp h2 with e2 | h2
      · rw [← e1] at e2; exact (Prod.ext_iff.mp e2).2.symm
      · exact absurd (List.mem_map.mpr ⟨_, h2, rfl⟩) (by rw [← e1] at fn; exact fn.1)
    · rcases List.mem_cons.mp h2 with e2 | h2
      · exact absurd (List.mem_map.mpr ⟨_, h1, rfl⟩) (by rw [← e2] at fn; exact fn.1)
      · exact ih fn.2 h1 h2
theorem Good.find (g : Good ow ps pl) {q : P} {x : N} (fn : (ow.map (·.1)).Nodup) (h : (q, x) ∈ ow) : ∃ A r B, pl = A ++ r :: B ∧ q ∈ r.2 ∧ r.1 = x := by
  obtain ⟨r, hr, hq⟩ := mem_dn.mp (g.all q (List.mem_map.mpr ⟨_, h, rfl⟩))
  obtain ⟨A, B, e⟩ := List.append_of_mem hr
  exact ⟨A, r, B, e, hq, own_one fn (g.own r hr q hq) h⟩
theorem Good.cnt1 (g : Good ow ps pl) (fn : (ow.map (·.1)).Nodup) {q : P} {x : N} (h : (q, x) ∈ ow) : 1 ≤ cnt x pl := by
  obtain ⟨A, r, B, rfl, _, e⟩ := g.find fn h
  rw [cnt_app, cnt_cons, if_pos e]; omega
/-- f, then s -/
theorem Good.two (g : Good ow ps pl) (fn : (ow.map (·.1)).Nodup) {f s : P} {x y : N} (hp : (f, s) ∈ ps) (hf : (f, x) ∈ ow) (hs : (s, y) ∈ ow) : ∃ A r B r2 C, pl = A ++ r :: B ++ r2 :: C ∧ f ∈ r.2 ∧ r.1 = x ∧ s ∈ r2.2 ∧ r2.1 = y := by
  obtain ⟨A, r, B, e, hq, e1⟩ := g.find fn hs
  obtain ⟨A1, r1, A2, e2, hf1⟩ := before (by rw [← e]; exact g.pr) hp hq
  subst e2
  have : r1.1 = x := own_one fn (g.own r1 (by rw [e]; simp) f hf1) hf
  exact ⟨A1, r1, A2, r, B, by rw [e], hf1, this, hq, e1⟩
theorem Good.cnt2 (g : Good ow ps pl) (fn : (ow.map (·.1)).Nodup) {f s : P} {x : N} (hp : (f, s) ∈ ps) (hf : (f, x) ∈ ow) (hs : (s, x) ∈ ow) : 2 ≤ cnt x pl := by
  obtain ⟨A, r, B, r2, C, rfl, _, e1, _, e2⟩ := g.two fn hp hf hs
  rw [cnt_app, cnt_app, cnt_cons, cnt_cons, if_pos e1, if_pos e2]; omega
/-- f, then m, then s -/
theorem Good.three (g : Good ow ps pl) (fn : (ow.map (·.1)).Nodup) {f m s : P} {x y z : N} (hp : (f, m) ∈ ps) (hp2 : (m, s) ∈ ps) (hf : (f, x) ∈ ow) (hm : (m, y) ∈ ow) (hs : (s, z) ∈ ow) : ∃ A r B r2 C r3 E, pl = A ++ r :: B ++ r2 :: C ++ r3 :: E ∧ r.1 = x ∧ r2.1 = y ∧ r3.1 = z := by
  obtain ⟨A, r, B, r2, C, e, hq, e1, _, e2⟩ := g.two fn hp2 hm hs
  obtain ⟨A1, r1, A2, e3, hf1⟩ := before (A := A) (r := r) (B := B ++ r2 :: C) (by
    have := g.pr
    rw [e] at this
    simpa using this) hp hq
  subst e3
  have : r1.1 = x := own_one fn (g.own r1 (by rw [e]; simp) f hf1) hf
  exact ⟨A1, r1, A2, r, B, r2, C, by rw [e], this, e1, e2⟩
/-- a place in the row -/
def rk (x : N) (pl : List (N × List P)) : Nat := pl.findIdx fun r => decide (r.1 = x)
theorem rk_le {x : N} {A B : List (N × List P)} {r : N × List P} (h : r.1 = x) : rk x (A ++ r :: B) ≤ A.length := by
  unfold rk
  rw [List.findIdx_append]
  split
  · omega
  · rw [List.findIdx_cons]; simp [h]
theorem rk_eq {x : N} {A B : List (N × List P)} {r : N × List P} (h : r.1 = x) (c : cnt x (A ++ r :: B) ≤ 1) : rk x (A ++ r :: B) = A.length := by
  rw [cnt_app, cnt_cons, if_pos h] at c
  have c0 : cnt x A = 0 := by omega
  unfold rk
  rw [List.findIdx_append, if_neg, List.findIdx_cons]
  · simp [h]
  · intro hlt
    obtain ⟨r', hr', e⟩ := List.findIdx_lt_length.mp hlt
    unfold cnt at c0
    have := List.length_eq_zero_iff.mp c0
    have hm : r' ∈ A.filter fun r => decide (r.1 = x) := List.mem_filter.mpr ⟨hr', e⟩
    rw [this] at hm; cases hm
theorem Good.rk_lt (g : Good ow ps pl) (fn : (ow.map (·.1)).Nodup) {f s : P} {x y : N} (hp : (f, s) ∈ ps) (hf : (f, x) ∈ ow) (hs : (s, y) ∈ ow) (c : cnt y pl ≤ 1) : rk x pl < rk y pl := by
  obtain ⟨A, r, B, r2, C, e, _, e1, _, e2⟩ := g.two fn hp hf hs
  have h1 : rk x pl ≤ A.length := by
    rw [e, List.append_assoc, List.cons_append]; exact rk_le e1
  have h2 : rk y pl = (A ++ r :: B).length := by rw [e] at c ⊢; exact rk_eq e2 c
  rw [h2, List.length_append, List.length_cons]; omega
theorem nsub : ∀ {l ks : List N}, l.Nodup → (∀ x ∈ l, x ∈ ks) → l.length ≤ ks.length
  | [], _, _, _ => Nat.zero_le _
  | a :: l, ks, nd, h => by
    rw [List.nodup_cons] at nd
    have ha := h a List.mem_cons_self
    have := nsub (l := l) (ks := ks.erase a) nd.2 fun x hx => (List.mem_erase_of_ne (fun e => nd.1 (by rw [← e]; exact hx))).mpr (h x (List.mem_cons_of_mem _ hx))
    rw [List.length_erase_of_mem ha] at this
    have : 0 < ks.length := List.length_pos_of_mem ha
    rw [List.length_cons]; omega
/-! ### taking away what nothing leads to -/
def lead (E : List (N × N)) (S : List N) (x : N) : List N := (E.filter fun e => decide (e.2 = x) && (decide (e.1 ∈ S) && decide (e.2 ∈ S))).map (·.1)
def unb (E : List (N × N)) (S rest : List N) : List N := rest.filter fun x => !((lead E S x).any fun y => decide (y ∈ rest))
def gone (E : List (N × N)) (S rest : List N) : List N := rest.filter fun x => !decide (x ∈ unb E S rest)
def elim (E : List (N × N)) (S : List N) : Nat → List N → List N
  | 0, rest => rest
  | n + 1, rest => elim E S n (gone E S rest)
def cycFree (E : List (N × N)) (S : List N) : Prop := elim E S S.length S = []
instance {E : List (N × N)} {S : List N} : Decidable (cycFree E S) := by unfold cycFree; infer_instance
theorem mem_lead {E : List (N × N)} {S : List N} {x y : N} : y ∈ lead E S x ↔ (y, x) ∈ E ∧ y ∈ S ∧ x ∈ S := by
  unfold lead
  simp only [List.mem_map, List.mem_filter, Bool.and_eq_true, decide_eq_true_eq]
  constructor
  · rintro ⟨⟨a, b⟩, ⟨h1, rfl, h2, h3⟩, rfl⟩; exact ⟨h1, h2, h3⟩
  · rintro ⟨h1, h2, h3⟩; exact ⟨(y, x), ⟨h1, rfl, h2, h3⟩, rfl⟩
theorem mem_unb {E : List (N × N)} {S rest : List N} (h : ∀ x ∈ rest, x ∈ S) {x : N} : x ∈ unb E S rest ↔ x ∈ rest ∧ ∀ y ∈ rest, (y, x) ∉ E := by
  unfold unb
  simp only [List.mem_filter, Bool.not_eq_true', List.any_eq_false, decide_eq_true_eq, mem_lead]
  constructor
  · rintro ⟨h1, h2⟩; exact ⟨h1, fun y hy he => h2 y ⟨he, h y hy, h x h1⟩ hy⟩
  · rintro ⟨h1, h2⟩; exact ⟨h1, fun y ⟨he, _, _⟩ hy => h2 y hy he⟩
theorem mem_gone {E : List (N × N)} {S rest : List N} {x : N} : x ∈ gone E S rest ↔ x ∈ rest ∧ x ∉ unb E S rest := by
  unfold gone
  simp [List.mem_filter]
theorem gone_sub (E : List (N × N)) (S rest : List N) : (gone E S rest).Sublist rest := List.filter_sublist
theorem gone_len {E : List (N × N)} {S rest : List N} (h : unb E S rest ≠ []) : (gone E S rest).length < rest.length := by
  obtain ⟨x, hx⟩ := List.exists_mem_of_ne_nil _ h
  have hm : x ∈ rest := (List.mem_filter.mp hx).1
  refine List.length_filter_lt_length_iff_exists.mpr ⟨x, hm, ?_⟩
  simp [hx]
theorem elim_sub (E : List (N × N)) (S : List N) : ∀ n rest, (elim E S n rest).Sublist rest
  | 0, _ => List.Sublist.refl _
  | n + 1, rest => (elim_sub E S n _).trans (gone_sub E S rest)
/-- the least of some -/
theorem least {r : N → Nat} : ∀ {l : List N}, l ≠ [] → ∃ x ∈ l, ∀ y ∈ l, r x ≤ r y
  | [], h => absurd rfl h
  | [x], _ => ⟨x, List.mem_singleton.mpr rfl, fun y hy => by rw [List.mem_singleton] at hy; subst hy; exact Nat.le_refl _⟩
  | x :: y :: l, _ => by
    obtain ⟨z, hz, h⟩ := least (r := r) (l := y :: l) (by simp)
    by_cases c : r x ≤ r z
    · refine ⟨x, List.mem_cons_self, fun w hw => ?_⟩
      rcases List.mem_cons.mp hw with rfl | hw
      · exact Nat.le_refl _
      · exact Nat.le_trans c (h w hw)
    · refine ⟨z, List.mem_cons_of_mem _ hz, fun w hw => ?_⟩
      rcases List.mem_cons.mp hw with rfl | hw
      · omega
      · exact h w hw
theorem unb_rank {E : List (N × N)} {S rest : List N} (hs : ∀ x ∈ rest, x ∈ S) (r : N → Nat) (h : ∀ u ∈ S, ∀ v ∈ S, (u, v) ∈ E → r u < r v) (ne : rest ≠ []) : unb E S rest ≠ [] := by
  obtain ⟨x, hx, hm⟩ := least (r := r) ne
  refine List.ne_nil_of_mem ((mem_unb hs).mpr ⟨hx, fun y hy he => ?_⟩)
  have := h y (hs y hy) x (hs x hx) he
  have := hm y hy
  omega
theorem free_rank {E : List (N × N)} {S : List N} (r : N → Nat) (h : ∀ u ∈ S, ∀ v ∈ S, (u, v) ∈ E → r u < r v) : cycFree E S := by
  have key : ∀ n rest, (∀ x ∈ rest, x ∈ S) → rest.length ≤ n → elim E S n rest = [] := fun n => by
    induction n with
    | zero => intro rest _ hl; show rest = []; exact List.length_eq_zero_iff.mp (by omega)
    | succ n ih =>
      intro rest hs hl
      by_cases e : rest = []
      · subst e
        exact List.eq_nil_of_sublist_nil (elim_sub E S (n + 1) [])
      · have := gone_len (unb_rank hs r h e)
        exact ih _ (fun x hx => hs x ((gone_sub E S rest).subset hx)) (by omega)
  exact key _ _ (fun _ h => h) (Nat.le_refl _)
theorem elim_keep {E : List (N × N)} {S B : List N} (hb : ∀ x ∈ B, ∃ y ∈ B, (y, x) ∈ E) : ∀ n rest, (∀ x ∈ rest, x ∈ S) → (∀ x ∈ B, x ∈ rest) → ∀ x ∈ B, x ∈ elim E S n rest
  | 0, _, _, h => h
  | n + 1, rest, hs, h => elim_keep hb n _ (fun x hx => hs x ((gone_sub E S rest).subset hx)) fun x hx => mem_gone.mpr ⟨h x hx, fun hu => by
      obtain ⟨y, hy, he⟩ := hb x hx
      exact ((mem_unb hs).mp hu).2 y (h y hy) he⟩
theorem free_unb {E : List (N × N)} {S rest : List N} (hf : cycFree E S) (hs : ∀ x ∈ rest, x ∈ S) (ne : rest ≠ []) : unb E S rest ≠ [] := fun h => by
  have hb : ∀ x ∈ rest, ∃ y ∈ rest, (y, x) ∈ E := fun x hx => by
    apply Classical.byContradiction
    intro hn
    have : x ∈ unb E S rest := (mem_unb hs).mpr ⟨hx, fun y hy he => hn ⟨y, hy, he⟩⟩
    rw [h] at this; cases this
  obtain ⟨x, hx⟩ := List.exists_mem_of_ne_nil _ ne
  have := elim_keep hb S.length S (fun _ h => h) hs x hx
  unfold cycFree at hf
  rw [hf] at this; cases this
theorem elim_succ (E : List (N × N)) (S : List N) : ∀ n rest, elim E S (n + 1) rest = gone E S (elim E S n rest)
  | 0, _ => rfl
  | n + 1, rest => elim_succ E S n (gone E S rest)
theorem free_all {E : List (N × N)} {S : List N} (h : ∀ rest : List N, (∀ x ∈ rest, x ∈ S) → rest ≠ [] → unb E S rest ≠ []) : cycFree E S := by
  have key : ∀ n rest, (∀ x ∈ rest, x ∈ S) → rest.length ≤ n → elim E S n rest = [] := fun n => by
    induction n with
    | zero => intro rest _ hl; show rest = []; exact List.length_eq_zero_iff.mp (by omega)
    | succ n ih =>
      intro rest hs hl
      by_cases e : rest = []
      · subst e
        exact List.eq_nil_of_sublist_nil (elim_sub E S (n + 1) [])
      · have := gone_len (h rest hs e)
        exact ih _ (fun x hx => hs x ((gone_sub E S rest).subset hx)) (by omega)
  exact key _ _ (fun _ h => h) (Nat.le_refl _)
theorem unb_nil {E : List (N × N)} {S rest : List N} (hs : ∀ x ∈ rest, x ∈ S) (h : unb E S rest = []) : ∀ x ∈ rest, ∃ y ∈ rest, (y, x) ∈ E := fun x hx => by
  apply Classical.byContradiction
  intro hn
  have : x ∈ unb E S rest := (mem_unb hs).mpr ⟨hx, fun y hy he => hn ⟨y, hy, he⟩⟩
  rw [h] at this; cases this
theorem free_of_elim {E : List (N × N)} {S : List N} {i : Nat} (h : elim E S i S = []) : cycFree E S := free_all fun rest hs ne hu => by
  obtain ⟨x, hx⟩ := List.exists_mem_of_ne_nil _ ne
  have := elim_keep (unb_nil hs hu) i S (fun _ h => h) hs x hx
  rw [h] at this; cases this
theorem not_free {E : List (N × N)} {S rest : List N} (hs : ∀ x ∈ rest, x ∈ S) (ne : rest ≠ []) (hu : unb E S rest = []) : ¬ cycFree E S := fun h => by
  obtain ⟨x, hx⟩ := List.exists_mem_of_ne_nil _ ne
  have := elim_keep (unb_nil hs hu) S.length S (fun _ h => h) hs x hx
  unfold cycFree at h
  rw [h] at this; cases this
/-- the order, one by one -/
def ordN (E : List (N × N)) (S : List N) : Nat → List N → List N
  | 0, _ => []
  | n + 1, rest => match unb E S rest with
    | [] => []
    | y :: _ => y :: ordN E S n (rest.erase y)
theorem ord_ok {E : List (N × N)} {S : List N} (hf : cycFree E S) : ∀ n rest, (∀ x ∈ rest, x ∈ S) → rest.length = n → (ordN E S n rest).Perm rest ∧ ∀ A x B, ordN E S n rest = A ++ x :: B → ∀ y ∈ rest, (y, x) ∈ E → y ∈ A
  | 0, rest, _, hl => by
    have := List.length_eq_zero_iff.mp hl
    subst this
    exact ⟨.refl _, fun A x B e => by simp [ordN] at e⟩
  | n + 1, rest, hs, hl => by
    have ne : rest ≠ [] := fun e => by subst e; simp at hl
    have hu := free_unb hf hs ne
    cases q : unb E S rest with
    | nil => exact absurd q hu
    | cons y ys =>
      have hy : y ∈ unb E S rest := by rw [q]; exact List.mem_cons_self
      obtain ⟨hy1, hy2⟩ := (mem_unb hs).mp hy
      have e : ordN E S (n + 1) rest = y :: ordN E S n (rest.erase y) := by simp only [ordN, q]
      obtain ⟨p, o⟩ := ord_ok hf n (rest.erase y) (fun x hx => hs x (List.mem_of_mem_erase hx)) (by rw [List.length_erase_of_mem hy1]; omega)
      rw [e]
      refine ⟨(p.cons y).trans (List.perm_cons_erase hy1).symm, fun A x B e2 z hz he => ?_⟩
      cases A with
      | nil =>
        simp only [List.nil_append, List.cons.injEq] at e2
        rw [← e2.1] at he
        exact absurd he (hy2 z hz)
      | cons a A =>
        simp only [List.cons_append, List.cons.injEq] at e2
        by_cases c : z = y
        · rw [c, e2.1]; exact List.mem_cons_self
        · exact List.mem_cons_of_mem _ (o A x B e2.2 z ((List.mem_erase_of_ne c).mpr hz) he)
/-! ### subsets -/
def subs (items : List N) : Nat → List (List N × Nat)
  | 0 => [([], 0)]
  | n + 1 => (subs items n).flatMap fun c => (items.drop c.2).zipIdx.map fun p => (c.1 ++ [p.1], c.2 + p.2 + 1)
theorem subs_sound (items : List N) : ∀ n, ∀ c ∈ subs items n, c.1.Sublist (items.take c.2) ∧ c.1.length = n ∧ c.2 ≤ items.length
  | 0, c, h => by
    have : c = ([], 0) := List.mem_singleton.mp h
    subst this; simp
  | n + 1, c, h => by
    obtain ⟨d, hd, h⟩ := List.mem_flatMap.mp h
    obtain ⟨⟨x, i⟩, hp, rfl⟩ := List.mem_map.mp h
    obtain ⟨h1, h2, h3⟩ := subs_sound items n d hd
    have hg := List.mem_zipIdx_iff_getElem?.mp hp
    rw [List.getElem?_drop] at hg
    have hl := (List.getElem?_eq_some_iff.mp hg).1
    refine ⟨?_, by rw [List.length_append, h2]; rfl, by simp only at hl ⊢; omega⟩
    have e : items.take (d.2 + i + 1) = items.take (d.2 + i) ++ [x] := by rw [List.take_add_one, hg]; rfl
    show (d.1 ++ [x]).Sublist (items.take (d.2 + i + 1))
    rw [e]
    refine List.Sublist.append (h1.trans ?_) (List.Sublist.refl _)
    have : items.take d.2 = (items.take (d.2 + i)).take d.2 := by rw [List.take_take]; congr 1; omega
    rw [this]
    exact List.take_sublist _ _
theorem snoc_sub {T l : List N} {t : N} {m : Nat} (h : (T ++ [t]).Sublist (l.take m)) : ∃ j < m, l[j]? = some t ∧ T.Sublist (l.take j) := by
  obtain ⟨r1, r2, e, h1, h2⟩ := List.append_sublist_iff.mp h
  have ht : t ∈ r2 := h2.subset List.mem_cons_self
  obtain ⟨a, b, rfl⟩ := List.append_of_mem ht
  have e2 : l.take m = (r1 ++ a) ++ t :: b := by rw [e, List.append_assoc]
  have hlen : (r1 ++ a).length < (l.take m).length := by rw [e2, List.length_append (as := r1 ++ a)]; simp
  have hlm : (r1 ++ a).length < m := by rw [List.length_take] at hlen; omega
  refine ⟨(r1 ++ a).length, hlm, ?_, ?_⟩
  · have : (l.take m)[(r1 ++ a).length]? = some t := by rw [e2, List.getElem?_append_right (Nat.le_refl _)]; simp
    rwa [List.getElem?_take_of_lt hlm] at this
  · have : l.take (r1 ++ a).length = r1 ++ a := by
      have h3 : (l.take m).take (r1 ++ a).length = r1 ++ a := by rw [e2, List.take_left']; rfl
      rw [List.take_take] at h3
      rwa [Nat.min_eq_left (Nat.le_of_lt hlm)] at h3
    rw [this]
    exact h1.trans (List.sublist_append_left _ _)
theorem subs_all (items : List N) : ∀ n T m, T.length = n → T.Sublist (items.take m) → ∃ k ≤ m, (T, k) ∈ subs items n
  | 0, T, m, hl, _ => by
    have := List.length_eq_zero_iff.mp hl
    subst this
    exact ⟨0, Nat.zero_le _, List.mem_singleton.mpr rfl⟩
  | n + 1, T, m, hl, h => by
    have ne : T ≠ [] := fun e => by subst e; simp at hl
    have e := (List.dropLast_concat_getLast ne).symm
    rw [e] at h
    obtain ⟨j, hj, hg, h1⟩ := snoc_sub h
    obtain ⟨k, hk, hm⟩ := subs_all items n T.dropLast j (by rw [List.length_dropLast]; omega) h1
    refine ⟨j + 1, hj, List.mem_flatMap.mpr ⟨_, hm, List.mem_map.mpr ⟨(T.getLast ne, j - k), ?_, ?_⟩⟩⟩
    · rw [List.mem_zipIdx_iff_getElem?, List.getElem?_drop]
      show items[k + (j - k)]? = _
      rw [show k + (j - k) = j by omega]; exact hg
    · show (T.dropLast ++ [T.getLast ne], k + (j - k) + 1) = (T, j + 1)
      rw [← e, show k + (j - k) = j by omega]
end
end FR
set_option Elab.async false
set_option linter.all false
namespace FR
section
variable {P N : Type} [DecidableEq P] [DecidableEq N]
def rel (S : List N) (g : N → List P) : List (N × List P) := (S.map fun x => (x, g x)).filter fun r => decide (r.2 ≠ [])
theorem rel_cons (x : N) (S : List N) (g : N → List P) : rel (x :: S) g = (if g x = [] then [] else [(x, g x)]) ++ rel S g := by
  unfold rel
  rw [List.map_cons, List.filter_cons]
  by_cases h : g x = []
  · simp [h]
  · simp [h]
theorem dn_rel (g : N → List P) : ∀ S : List N, dn (rel S g) = S.flatMap g
  | [] => rfl
  | x :: S => by
    rw [rel_cons, dn_app, dn_rel g S, List.flatMap_cons]
    by_cases h : g x = []
    · simp [h, dn_nil]
    · rw [if_neg h]; simp [dn]
theorem mem_rel {S : List N} {g : N → List P} {r : N × List P} (h : r ∈ rel S g) : r.1 ∈ S ∧ r.2 = g r.1 ∧ r.2 ≠ [] := by
  obtain ⟨h1, h2⟩ := List.mem_filter.mp h
  obtain ⟨x, hx, rfl⟩ := List.mem_map.mp h1
  exact ⟨hx, rfl, of_decide_eq_true h2⟩
theorem prs_rel {ps : List (P × P)} {g : N → List P} : ∀ {S : List N} {d : List P}, (∀ S1 x S2, S = S1 ++ x :: S2 → ∀ p ∈ ps, p.2 ∈ g x → p.1 ∈ d ∨ ∃ y ∈ S1, p.1 ∈ g y) → prs ps d (rel S g)
  | [], _, _ => True.intro
  | x :: S, d, h => by
    have tail : prs ps (d ++ g x) (rel S g) := prs_rel fun S1 y S2 e p hp hq => by
      rcases h (x :: S1) y S2 (by rw [e]; rfl) p hp hq with k | ⟨z, hz, k⟩
      · exact .inl (List.mem_append_left _ k)
      · rcases List.mem_cons.mp hz with rfl | hz
        · exact .inl (List.mem_append_right _ k)
        · exact .inr ⟨z, hz, k⟩
    rw [rel_cons]
    by_cases e : g x = []
    · rw [if_pos e, List.nil_append]
      rw [e, List.append_nil] at tail
      exact tail
    · rw [if_neg e]
      refine ⟨fun p hp hq => ?_, tail⟩
      rcases h [] x S rfl p hp hq with k | ⟨z, hz, _⟩
      · exact k
      · cases hz
theorem rel_len (g : N → List P) : ∀ S : List N, (rel S g).length = (S.map fun x => if g x = [] then 0 else 1).sum
  | [] => rfl
  | x :: S => by
    rw [rel_cons, List.length_append, rel_len g S, List.map_cons, List.sum_cons]
    by_cases h : g x = [] <;> simp [h]
theorem nodup_flat {g : N → List P} : ∀ {S : List N}, S.Nodup → (∀ x ∈ S, (g x).Nodup) → (∀ x ∈ S, ∀ y ∈ S, ∀ q, q ∈ g x → q ∈ g y → x = y) → (S.flatMap g).Nodup
  | [], _, _, _ => List.nodup_nil
  | x :: S, nd, h1, h2 => by
    rw [List.nodup_cons] at nd
    rw [List.flatMap_cons, List.nodup_append]
    refine ⟨h1 x List.mem_cons_self, nodup_flat nd.2 (fun y hy => h1 y (List.mem_cons_of_mem _ hy)) (fun y hy z hz => h2 y (List.mem_cons_of_mem _ hy) z (List.mem_cons_of_mem _ hz)), fun q hq q' hq' e => ?_⟩
    subst e
    obtain ⟨y, hy, hqy⟩ := List.mem_flatMap.mp hq'
    have := h2 x List.mem_cons_self y (List.mem_cons_of_mem _ hy) q hq hqy
    subst this
    exact nd.1 hy
inductive Pt where
  | F | M | L
deriving DecidableEq
/-- the plan of a split set: what each does in its parts -/
structure PlanS (ow : List (P × N)) (ps : List (P × P)) (sp ord : List N) (part : N → P → Pt) (gA : N → List P) (gP : Pt → N → List P) : Prop where
  fn : (ow.map (·.1)).Nodup
  s1 : sp.Nodup
  s2 : ord.Nodup
  s3 : ∀ x ∈ sp, x ∉ ord
  s4 : ∀ o ∈ ow, o.2 ∈ sp ∨ o.2 ∈ ord
  a1 : ∀ x q, q ∈ gA x ↔ (q, x) ∈ ow
  a2 : ∀ x, (gA x).Nodup
  p1 : ∀ t x q, q ∈ gP t x ↔ (q, x) ∈ ow ∧ part x q = t
  p2 : ∀ t x, (gP t x).Nodup
  own : ∀ p ∈ ps, ∃ x y, (p.1, x) ∈ ow ∧ (p.2, y) ∈ ow
  -- a pair of steps x, y its owners
  ss : ∀ p ∈ ps, ∀ x y, (p.1, x) ∈ ow → (p.2, y) ∈ ow → x ∈ sp → y ∈ sp →
    (part x p.1 = .F ∧ part y p.2 ≠ .F) ∨ (part x p.1 = .M ∧ part y p.2 = .L) ∨ (part x p.1 = part y p.2 ∧ part x p.1 ≠ .M ∧ ∀ S1 S2, sp = S1 ++ y :: S2 → x ∈ S1)
  sa : ∀ p ∈ ps, ∀ x y, (p.1, x) ∈ ow → (p.2, y) ∈ ow → x ∈ sp → y ∉ sp → part x p.1 = .F
  as : ∀ p ∈ ps, ∀ x y, (p.1, x) ∈ ow → (p.2, y) ∈ ow → x ∉ sp → y ∈ sp → part y p.2 = .L
  aa : ∀ p ∈ ps, ∀ x y, (p.1, x) ∈ ow → (p.2, y) ∈ ow → x ∉ sp → y ∉ sp → ∀ S1 S2, ord = S1 ++ y :: S2 → x ∈ S1
def planS (sp ord : List N) (gA : N → List P) (gP : Pt → N → List P) : List (N × List P) := rel sp (gP .F) ++ rel ord gA ++ (rel sp (gP .M) ++ rel sp (gP .L))
variable {ow : List (P × N)} {ps : List (P × P)} {sp ord : List N} {part : N → P → Pt} {gA : N → List P} {gP : Pt → N → List P}
theorem PlanS.good (h : PlanS ow ps sp ord part gA gP) : Good ow ps (planS sp ord gA gP) where
  own := fun r hr q hq => by
    have : r ∈ rel sp (gP .F) ∨ r ∈ rel ord gA ∨ r ∈ rel sp (gP .M) ∨ r ∈ rel sp (gP .L) := by
      unfold planS at hr
      simp only [List.mem_append] at hr
      rcases hr with (k | k) | (k | k)
      · exact .inl k
      · exact .inr (.inl k)
      · exact .inr (.inr (.inl k))
      · exact .inr (.inr (.inr k))
    rcases this with k | k | k | k
    · rw [(mem_rel k).2.1] at hq; exact ((h.p1 _ _ _).mp hq).1
    · rw [(mem_rel k).2.1] at hq; exact (h.a1 _ _).mp hq
    · rw [(mem_rel k).2.1] at hq; exact ((h.p1 _ _ _).mp hq).1
    · rw [(mem_rel k).2.1] at hq; exact ((h.p1 _ _ _).mp hq).1
  ne := fun r hr => by
    unfold planS at hr
    simp only [List.mem_append] at hr
    rcases hr with (k | k) | (k | k) <;> exact (mem_rel k).2.2
  nd := by
    unfold planS
    rw [dn_app, dn_app, dn_app, dn_rel, dn_rel, dn_rel, dn_rel]
    have one : ∀ {q x y}, (q, x) ∈ ow → (q, y) ∈ ow → x = y := fun h1 h2 => own_one h.fn h1 h2
    have nP : ∀ t, (sp.flatMap (gP t)).Nodup := fun t => nodup_flat h.s1 (fun x _ => h.p2 t x) fun x _ y _ q hx hy => one ((h.p1 _ _ _).mp hx).1 ((h.p1 _ _ _).mp hy).1
    have mP : ∀ {t q}, q ∈ sp.flatMap (gP t) → ∃ x ∈ sp, (q, x) ∈ ow ∧ part x q = t := fun hq => by
      obtain ⟨x, hx, hq⟩ := List.mem_flatMap.mp hq
      exact ⟨x, hx, (h.p1 _ _ _).mp hq⟩
    have dis : ∀ {t t' q}, t ≠ t' → q ∈ sp.flatMap (gP t) → q ∉ sp.flatMap (gP t') := fun ht hq hq' => by
      obtain ⟨x, _, h1, h2⟩ := mP hq
      obtain ⟨y, _, h3, h4⟩ := mP hq'
      have := one h1 h3
      subst this
      exact ht (h2.symm.trans h4)
    have nA : (ord.flatMap gA).Nodup := nodup_flat h.s2 (fun x _ => h.a2 x) fun x _ y _ q hx hy => one ((h.a1 _ _).mp hx) ((h.a1 _ _).mp hy)
    have disA : ∀ {t q}, q ∈ sp.flatMap (gP t) → q ∉ ord.flatMap gA := fun hq hq' => by
      obtain ⟨x, hx, h1, _⟩ := mP hq
      obtain ⟨y, hy, h2⟩ := List.mem_flatMap.mp hq'
      have := one h1 ((h.a1 _ _).mp h2)
      subst this
      exact h.s3 x hx hy
    rw [List.nodup_append, List.nodup_append, List.nodup_append]
    refine ⟨⟨nP _, nA, fun a ha b hb e => disA ha (e ▸ hb)⟩, ⟨nP _, nP _, fun a ha b hb e => dis (by decide) ha (e ▸ hb)⟩, fun a ha b hb e => ?_⟩
    subst e
    rcases List.mem_append.mp ha with ha | ha <;> rcases List.mem_append.mp hb with hb | hb
    · exact dis (by decide) ha hb
    · exact dis (by decide) ha hb
    · exact disA hb ha
    · exact disA hb ha
  all := fun q hq => by
    obtain ⟨⟨q', x⟩, ho, rfl⟩ := List.mem_map.mp hq
    unfold planS
    rw [dn_app, dn_app, dn_app, dn_rel, dn_rel, dn_rel, dn_rel]
    simp only [List.mem_append, List.mem_flatMap]
    rcases h.s4 _ ho with hx | hx
    · cases e : part x q' with
      | F => exact .inl (.inl ⟨x, hx, (h.p1 _ _ _).mpr ⟨ho, e⟩⟩)
      | M => exact .inr (.inl ⟨x, hx, (h.p1 _ _ _).mpr ⟨ho, e⟩⟩)
      | L => exact .inr (.inr ⟨x, hx, (h.p1 _ _ _).mpr ⟨ho, e⟩⟩)
    · exact .inl (.inr ⟨x, hx, (h.a1 _ _).mpr ho⟩)
  pr := by
    have inF : ∀ {q x}, x ∈ sp → (q, x) ∈ ow → part x q = .F → q ∈ sp.flatMap (gP .F) := fun hx ho e => List.mem_flatMap.mpr ⟨_, hx, (h.p1 _ _ _).mpr ⟨ho, e⟩⟩
    have inM : ∀ {q x}, x ∈ sp → (q, x) ∈ ow → part x q = .M → q ∈ sp.flatMap (gP .M) := fun hx ho e => List.mem_flatMap.mpr ⟨_, hx, (h.p1 _ _ _).mpr ⟨ho, e⟩⟩
    have inA : ∀ {q x}, x ∈ ord → (q, x) ∈ ow → q ∈ ord.flatMap gA := fun hx ho => List.mem_flatMap.mpr ⟨_, hx, (h.a1 _ _).mpr ho⟩
    have at' : ∀ {S1 S2 : List N} {x : N} {S : List N}, S = S1 ++ x :: S2 → x ∈ S := fun e => by rw [e]; simp
    have ordof : ∀ {q x}, (q, x) ∈ ow → x ∉ sp → x ∈ ord := fun ho hx => (h.s4 _ ho).resolve_left hx
    unfold planS
    rw [prs_app, prs_app, prs_app]
    simp only [dn_app, dn_rel, List.nil_append]
    refine ⟨⟨prs_rel fun S1 y S2 e p hp hq => ?_, prs_rel fun S1 y S2 e p hp hq => ?_⟩, prs_rel fun S1 y S2 e p hp hq => ?_, prs_rel fun S1 y S2 e p hp hq => ?_⟩
    · obtain ⟨ho2, e2⟩ := (h.p1 _ _ _).mp hq
      obtain ⟨x, _, ho1, _⟩ := h.own p hp
      right
      by_cases hx : x ∈ sp
      · rcases h.ss p hp x y ho1 ho2 hx (at' e) with ⟨_, k⟩ | ⟨_, k⟩ | ⟨k1, _, k⟩
        · exact absurd e2 k
        · rw [e2] at k; cases k
        · exact ⟨x, k S1 S2 e, (h.p1 _ _ _).mpr ⟨ho1, k1.trans e2⟩⟩
      · have := h.as p hp x y ho1 ho2 hx (at' e)
        rw [e2] at this; cases this
    · have ho2 := (h.a1 _ _).mp hq
      obtain ⟨x, _, ho1, _⟩ := h.own p hp
      have hy : y ∉ sp := fun k => h.s3 y k (at' e)
      by_cases hx : x ∈ sp
      · exact .inl (inF hx ho1 (h.sa p hp x y ho1 ho2 hx hy))
      · exact .inr ⟨x, h.aa p hp x y ho1 ho2 hx hy S1 S2 e, (h.a1 _ _).mpr ho1⟩
    · obtain ⟨ho2, e2⟩ := (h.p1 _ _ _).mp hq
      obtain ⟨x, _, ho1, _⟩ := h.own p hp
      left
      by_cases hx : x ∈ sp
      · rcases h.ss p hp x y ho1 ho2 hx (at' e) with ⟨k, _⟩ | ⟨_, k⟩ | ⟨k1, k2, k⟩
        · exact List.mem_append_left _ (inF hx ho1 k)
        · rw [e2] at k; cases k
        · exact absurd (k1.trans e2) k2
      · exact List.mem_append_right _ (inA (ordof ho1 hx) ho1)
    · obtain ⟨ho2, e2⟩ := (h.p1 _ _ _).mp hq
      obtain ⟨x, _, ho1, _⟩ := h.own p hp
      by_cases hx : x ∈ sp
      · rcases h.ss p hp x y ho1 ho2 hx (at' e) with ⟨k, _⟩ | ⟨k, _⟩ | ⟨k1, _, k⟩
        · exact .inl (List.mem_append_left _ (List.mem_append_left _ (inF hx ho1 k)))
        · exact .inl (List.mem_append_right _ (inM hx ho1 k))
        · exact .inr ⟨x, k S1 S2 e, (h.p1 _ _ _).mpr ⟨ho1, k1.trans e2⟩⟩
      · exact .inl (List.mem_append_left _ (List.mem_append_right _ (inA (ordof ho1 hx) ho1)))
/-- services that own steps -/
def busyOf (ow : List (P × N)) (hs : List N) : List N := hs.filter fun x => ow.any fun o => decide (o.2 = x)
theorem busy_iff {x : N} : (ow.any fun o => decide (o.2 = x)) = true ↔ ∃ q, (q, x) ∈ ow := by
  rw [List.any_eq_true]
  exact ⟨fun ⟨⟨q, y⟩, h, e⟩ => ⟨q, by rw [← of_decide_eq_true e]; exact h⟩, fun ⟨q, h⟩ => ⟨_, h, decide_eq_true rfl⟩⟩
theorem PlanS.len (h : PlanS ow ps sp ord part gA gP) {hs th : List N} (hp : (sp ++ ord).Perm hs) (ht : ∀ x ∈ sp, gP .M x ≠ [] → x ∈ th) (nt : th.Nodup) : (planS sp ord gA gP).length ≤ (busyOf ow hs).length + sp.length + th.length := by
  unfold planS
  rw [List.length_append, List.length_append, List.length_append, rel_len, rel_len, rel_len, rel_len]
  let b : N → Nat := fun x => if (ow.any fun o => decide (o.2 = x)) = true then 1 else 0
  have e1 : (busyOf ow hs).length = (sp.map b).sum + (ord.map b).sum := by
    have : (busyOf ow hs).length = (hs.map b).sum := (sum_filter (p := fun x => ow.any fun o => decide (o.2 = x)) (hs := hs)).symm
    rw [this, ← (hp.map b).sum_nat, List.map_append, List.sum_append_nat]
  have e2 : (sp.map fun x => if gP .M x = [] then 0 else 1).sum ≤ th.length := by
    have : (sp.map fun x => if gP .M x = [] then 0 else 1) = sp.map fun x => if (!decide (gP .M x = [])) = true then 1 else 0 := List.map_congr_left fun x _ => by by_cases e : gP .M x = [] <;> simp [e]
    rw [this, sum_filter]
    exact nsub (h.s1.filter _) (fun x hx => by
      obtain ⟨h1, h2⟩ := List.mem_filter.mp hx
      exact ht x h1 (by simpa using h2))
  have e3 : (ord.map fun x => if gA x = [] then 0 else 1).sum ≤ (ord.map b).sum := sum_le fun x _ => by
    by_cases e : gA x = []
    · simp [e]
    · obtain ⟨q, hq⟩ := List.exists_mem_of_ne_nil _ e
      have : b x = 1 := if_pos (busy_iff.mpr ⟨q, (h.a1 _ _).mp hq⟩)
      simp [e, this]
  have e4 : (sp.map fun x => if gP .F x = [] then 0 else 1).sum + (sp.map fun x => if gP .L x = [] then 0 else 1).sum ≤ (sp.map b).sum + sp.length := by
    have : sp.length = (sp.map fun _ => 1).sum := by
      clear h hp ht e1 e2 e3
      induction sp with
      | nil => rfl
      | cons y sp ih => rw [List.length_cons, List.map_cons, List.sum_cons, ih]; omega
    rw [this, ← sum_add, ← sum_add]
    refine sum_le fun x _ => ?_
    have bz : ∀ t, gP t x ≠ [] → b x = 1 := fun t e => by
      obtain ⟨q, hq⟩ := List.exists_mem_of_ne_nil _ e
      exact if_pos (busy_iff.mpr ⟨q, ((h.p1 _ _ _).mp hq).1⟩)
    by_cases c1 : gP .F x = [] <;> by_cases c2 : gP .L x = []
    · simp [c1, c2]
    · rw [bz _ c2]; simp [c1, c2]
    · rw [bz _ c1]; simp [c1, c2]
    · rw [bz _ c1]; simp [c1, c2]
  omega
theorem Good.low {pl : List (N × List P)} (g : Good ow ps pl) (fn : (ow.map (·.1)).Nodup) {hs th : List N} (nh : hs.Nodup) (ho : ∀ o ∈ ow, o.2 ∈ hs) (nt : th.Nodup) (hth : ∀ x ∈ th, x ∈ hs ∧ 3 ≤ cnt x pl) :
    (busyOf ow hs).length + (hs.filter fun x => decide (2 ≤ cnt x pl)).length + th.length ≤ pl.length := by
  have hr : ∀ r ∈ pl, r.1 ∈ hs := fun r hr => by
    obtain ⟨q, hq⟩ := List.exists_mem_of_ne_nil _ (g.ne r hr)
    exact ho _ (g.own r hr q hq)
  rw [← sum_cnt nh hr]
  have e3 : th.length ≤ (hs.map fun x => if decide (x ∈ th) = true then 1 else 0).sum := by
    rw [sum_filter]
    exact nsub nt (fun x hx => List.mem_filter.mpr ⟨(hth x hx).1, decide_eq_true hx⟩)
  have e1 : (busyOf ow hs).length = (hs.map fun x => if (ow.any fun o => decide (o.2 = x)) = true then 1 else 0).sum := sum_filter.symm
  have e2 : (hs.filter fun x => decide (2 ≤ cnt x pl)).length = (hs.map fun x => if decide (2 ≤ cnt x pl) = true then 1 else 0).sum := sum_filter.symm
  have key : (hs.map fun x => ((if (ow.any fun o => decide (o.2 = x)) = true then 1 else 0) + if decide (2 ≤ cnt x pl) = true then 1 else 0) + if decide (x ∈ th) = true then 1 else 0).sum ≤ (hs.map fun x => cnt x pl).sum := sum_le fun x hx => by
    by_cases c3 : x ∈ th
    · have := (hth x c3).2
      simp only [c3, decide_true, if_true]
      split <;> split <;> omega
    · simp only [c3, decide_false]
      by_cases c2 : 2 ≤ cnt x pl
      · simp only [c2, decide_true, if_true]
        split <;> simp <;> omega
      · simp only [c2, decide_false]
        by_cases c1 : (ow.any fun o => decide (o.2 = x)) = true
        · obtain ⟨q, hq⟩ := busy_iff.mp c1
          have := g.cnt1 fn hq
          simp [c1]; omega
        · simp [c1]
  rw [sum_add, sum_add] at key
  omega
end
end FR
set_option Elab.async false
set_option linter.all false
set_option maxRecDepth 100000
set_option maxHeartbeats 2000000
namespace FR
open PySem PySem.Spec PyProof.Rows L2
section
variable {X : Cx} {f : Fx} {ρ : Env} {e a b c : Expr} {es : List Expr} {s : Stmt} {ss : List Stmt} {κ : Rp → Prop} {Φ : Post} {pos p : Pos} {G : Gb} {k : Nat} {N : List Str} {sc : Scope}
/-- xs.index(x), names -/
theorem dqa_names {F : Hp} : ∀ {zs : List Nm} {vs : List V}, DqA F vs (zs.map eN.enc) → vs = zs.map fun x => V.str x.1
  | [], _, .nil => rfl
  | _ :: _, _, .cons (.str _) r => by rw [dqa_names r]; rfl
theorem ev_index {apos : Pos} (h : EvE (mkX X N sc) f ρ a fun R => ∃ zs : List Nm, R = li (zs.map eN.enc) ∧ EvE (mkX X N sc) f ρ e fun S => ∃ x : Nm, S = dat (eN.enc x) ∧ x ∈ zs ∧ ∀ j : Nat, j < zs.length → κ (nt (j : Int)))
    (hbase : attributeBase a "index" (mkX X N sc).env (eval a (mkX X N sc).env) = eval a (mkX X N sc).env := by rfl)
    (hfew : ((backTo pos (starEach (e :: []) (mkX X N sc).env)).all (fun x => !x.1) && (backToKw pos (keywordEach [] (mkX X N sc).env)).all (fun x => x.1.isSome)
      && decide ((e :: []).length + ([] : List Keyword).length + (if ([] : List Keyword).isEmpty then 0 else 1) < 30)) = true := by rfl)
    (hline : (apos.endLine == pos.line) = true := by rfl) (hs : starEach (e :: []) (mkX X N sc).env = (false, eval e (mkX X N sc).env) :: starEach [] (mkX X N sc).env := by rfl) (hpl : (backTo pos (starEach [] (mkX X N sc).env)).any (·.1) = false := by rfl) :
    EvE (mkX X N sc) f ρ (.Call (.Attribute a "index" apos) [e] [] pos) κ := fun F M σ d E Q hQ => by
  refine wpE_of (pe_bm (X := mkX X N sc) PySem.F.plainAttrs_list PySem.F.slot_list_index PySem.F.type_list_index mt_index pe_wp pa_wp hbase hfew hline hs hpl) ?_
  refine h F M σ d E _ fun x R F1 M1 hb hx k1 d1 s1 => ?_
  obtain ⟨zs, rfl, hb⟩ := hb
  have hb2 : EvA (mkX X N sc) f ρ [e] fun Ss => ∃ x : Nm, Ss = [dat (eN.enc x)] ∧ x ∈ zs ∧ ∀ j : Nat, j < zs.length → κ (nt (j : Int)) := ea_one (ev_imp hb fun S ⟨x, e, hS⟩ => ⟨x, by rw [e], hS⟩) hs
  cases hx with
  | @lst l us _ ha hv =>
    have := dqa_names hv
    subst this
    refine ⟨.inl ⟨rfl, _, SqL.of (ovl_F ha)⟩, hb2 F1 M1 σ d1 (E.step k1 s1) _ fun vs Ss F2 M2 hk hvs k2 d2 s2 => ?_⟩
    obtain ⟨y, rfl, hy, hκ⟩ := hk
    obtain ⟨w, rfl, hw⟩ := rpa1 hvs
    cases hw
    have hlt : zs.idxOf y < zs.length := List.idxOf_lt_length_iff.mpr hy
    have ev : ∀ z : Nm, eqV (V.str z.1) (V.str y.1) = decide (z = y) := fun z => by
      show decide (z.1 = y.1) = decide (z = y)
      exact decide_eq_decide.mpr ⟨fun h => Subtype.ext h, fun h => by rw [h]⟩
    refine ⟨l, _, _, zs.idxOf y, V.str y.1, rfl, rfl, SqL.of (ovl_F (k2 _ _ ha)), rfl, by simp [flatV], ?_, ?_, fun m z hm hz => ?_, hQ _ _ F2 M2 (hκ _ hlt) (Dq.int _) (k1.trans k2) d2 (stepT s1 s2)⟩
    · rw [List.getElem?_map, List.getElem?_eq_getElem hlt, List.getElem_idxOf hlt]; rfl
    · rw [ev]; simp
    · rw [List.getElem?_map] at hz
      obtain ⟨z', hz', rfl⟩ := Option.map_eq_some_iff.mp hz
      rw [ev, decide_eq_false_iff_not]
      intro e
      have := List.not_of_lt_findIdx hm
      obtain ⟨hl, e2⟩ := List.getElem?_eq_some_iff.mp hz'
      rw [e2, e] at this
      simp at this
end
def T_others : Tp := fun Rs κ => ∃ (xs ws : List Nm), (Rs = [tu (xs.map eN.enc), tu (ws.map eN.enc)] ∨ Rs = [tu (xs.map eN.enc), li (ws.map eN.enc)]) ∧ κ (li ((xs.filter fun x => !decide (x ∈ ws)).map eN.enc))
theorem P_others {G : Gb} (g : Gx G) (S : Std G "others_than" "others_than" s_others_than) : Prom G "others_than" 1 p_others_than (SpF T_others) := by
  refine S.prom sc_others_than (by rintro Rs κ ⟨_, _, rfl | rfl, _⟩ <;> rfl) (fun _ _ _ _ _ _ us hl => match us, hl with | [_, _], _ => rfl) fun X f Rs κ C hU h => ?_
  obtain ⟨xs, ws, hR, hκ⟩ := h
  rcases hR with rfl | rfl
  · exact ws_cons (ws_ret (r_lc [("service", 2)] C (it_tup (v 0 ⟨_, rfl, lc_mapT eN.enc (fun x => !decide (x ∈ ws)) eN.enc (fun x hx X' C' => tn 2 sc_others_than.nd fun X2 C2 => ts_one (et_c (ec_notIn C2.at eN (v 2 (v 1 ⟨x, ws, rfl, .inr rfl, _, rfl, rfl, fun _ X4 C4 => v 2 rfl⟩))))) hκ⟩))))
  · exact ws_cons (ws_ret (r_lc [("service", 2)] C (it_tup (v 0 ⟨_, rfl, lc_mapT eN.enc (fun x => !decide (x ∈ ws)) eN.enc (fun x hx X' C' => tn 2 sc_others_than.nd fun X2 C2 => ts_one (et_c (ec_notIn C2.at eN (v 2 (v 1 ⟨x, ws, rfl, .inl rfl, _, rfl, rfl, fun _ X4 C4 => v 2 rfl⟩))))) hκ⟩))))
/-- who leads to whom, as a dict -/
def dLd (E : List Pr) (L : List Nm) : List (Nm × D) := L.map fun x => (x, .list ((lead E L x).map eN.enc))
theorem gt_dLd {E : List Pr} {x : Nm} : ∀ {L M : List Nm}, x ∈ M → gt (M.map fun x => (x, PyData.list ((lead E L x).map eN.enc))) x = some (.list ((lead E L x).map eN.enc))
  | L, y :: M, h => by
    unfold gt
    rw [List.map_cons, List.find?_cons]
    by_cases e : y = x
    · subst e; simp
    · have := gt_dLd (E := E) (L := L) ((List.mem_cons.mp h).resolve_left fun q => e q.symm)
      unfold gt at this
      simp only [e, decide_false]
      exact this
def T_leaders : Tp := fun Rs κ => ∃ (E : List Pr) (L : List Nm) (ER : Rp), Rs = [ER, li (L.map eN.enc)] ∧ (ER = li (E.map eR.enc) ∨ ER = tu (E.map eR.enc)) ∧ L.Nodup ∧ L.length ≤ 100 ∧ E.length ≤ 1000 ∧ κ (dKL nmK (dLd E L))
def T_unblocked : Tp := fun Rs κ => ∃ (E : List Pr) (L rest : List Nm), Rs = [dKL nmK (dLd E L), li (rest.map eN.enc)] ∧ (∀ x ∈ rest, x ∈ L) ∧ κ (li ((unb E L rest).map eN.enc))
theorem P_unblocked {G : Gb} (g : Gx G) (S : Std G "unblocked" "unblocked" s_unblocked) : Prom G "unblocked" 1 p_unblocked (SpF T_unblocked) := by
  refine S.prom sc_unblocked (by rintro Rs κ ⟨_, _, _, rfl, _⟩; rfl) (fun _ _ _ _ _ _ us hl => match us, hl with | [_, _], _ => rfl) fun X f Rs κ C hU h => ?_
  obtain ⟨E, L, rest, rfl, hs, hκ⟩ := h
  refine ws_cons (ws_ret (r_lc [("service", 2)] C (it_list (v 1 ⟨_, rfl, ?_⟩))))
  refine lc_mapT eN.enc (fun x => !((lead E L x).any fun y => decide (y ∈ rest))) eN.enc (fun x hx X' C' => tn 2 sc_unblocked.nd fun X2 C2 => ts_one (et_not (et_val (r_any g C2 ?_)))) hκ
  refine r_lc [("one", 3)] C2 (it_list (ev_getK nmK_inj C2.at (by intro _ _; rfl) (v 0 (v 2 ⟨dLd E L, x, _, x.1, .inr rfl, rfl, rfl, gt_dLd (hs x hx), _, rfl, ?_⟩))))
  refine lc_each eN.enc (fun y => .bool (decide (y ∈ rest))) (fun y hy X3 C3 => tn 3 sc_unblocked.nd fun X4 C4 => ev_c (ec_in C4.at eN (v 3 (v 1 ⟨y, rest, rfl, .inl rfl, rfl⟩)))) ?_
  refine ⟨(lead E L x).map fun y => decide (y ∈ rest), by rw [List.map_map]; rfl, _, rfl, ?_, fun _ X4 C4 => v 2 rfl⟩
  rw [List.any_map]; rfl
end FR
set_option Elab.async false
set_option linter.all false
set_option maxRecDepth 100000
set_option maxHeartbeats 2000000
namespace FR
open PySem PySem.Spec PyProof.Rows L2
theorem unb_mem {E : List Pr} {L rest : List Nm} {x : Nm} (h : x ∈ unb E L rest) : x ∈ rest := (List.mem_filter.mp h).1
theorem atI_neg1 {α : Type} {xs : List α} (h : xs ≠ []) : atI xs (-1) = some (xs.getLast h) := by
  have hl : 0 < xs.length := List.length_pos_iff.mpr h
  have e : ixN xs.length (-1) = some (xs.length - 1) := by
    unfold ixN
    rw [if_neg (by decide), if_pos (by omega)]
    congr 1
    omega
  unfold atI
  rw [e, List.getLast_eq_getElem]
  simp
theorem atI_0 {α : Type} {x : α} {xs : List α} : atI (x :: xs) 0 = some x := by
  unfold atI ixN
  rw [if_pos (by decide), if_pos (by simp)]
  simp
def T_cycle : Tp := fun Rs κ => ∃ (E : List Pr) (L : List Nm) (ER : Rp), Rs = [ER, li (L.map eN.enc)] ∧ (ER = li (E.map eR.enc) ∨ ER = tu (E.map eR.enc)) ∧ L.Nodup ∧ L.length ≤ 100 ∧ E.length ≤ 1000 ∧ (cycFree E L → κ (dat .none)) ∧ (¬ cycFree E L → ∀ ds : List D, κ (tu ds))
theorem P_cycle {G : Gb} (g : Gx G) (S : Std G "cycle_among" "cycle_among" s_cycle_among) (P1 : Prom G "leaders_of" 1 p_leaders_of (SpF T_leaders)) (P2 : Prom G "unblocked" 1 p_unblocked (SpF T_unblocked)) : Prom G "cycle_among" 2 p_cycle_among (SpF T_cycle) := by
  refine S.prom sc_cycle_among (by rintro Rs κ ⟨_, _, _, rfl, _⟩; rfl) (fun _ _ _ _ _ _ us hl => match us, hl with | [_, _], _ => rfl) fun X f Rs κ C hU h => ?_
  obtain ⟨E, L, ER, rfl, hER, nd, hl, hl2, hκ1, hκ2⟩ := h
  let E0 : Option Ent → Option Ent → List Nm → Env := fun gn wk rest => [some (.fz ER), some (.fz (li (L.map eN.enc))), gn, wk, some (.fz (dKL nmK (dLd E L))), some (.fz (li (rest.map eN.enc))), none, none]
  let fz : List Nm → Option Ent := fun xs => some (.fz (li (xs.map eN.enc)))
  refine ws_cons (w_asg2 4 5 C hU.2 (ex_of (r_call P1 C (ea2 (v 0 (v 1 ⟨E, L, ER, rfl, hER, nd, hl, hl2, ex_of (r_list g C (v 1 ⟨_, .inl rfl, ?_⟩))⟩))))))
  refine ws_cons (w_setC 2 hU.2 (r_call P2 C (ea2 (v 4 (v 5 ⟨E, L, L, rfl, fun x h => h, ?_⟩)))))
  refine ws_cons (ws_while (S := List Nm) (fun n rest => n = rest.length ∧ ∃ i, rest = elim E L i L) (fun rest => E0 (fz (unb E L rest)) none rest) C.at ⟨L.length, L, ⟨rfl, 0, rfl⟩, le_refl _⟩ fun n rest hj => ?_)
  obtain ⟨rfl, i, hi⟩ := hj
  have hs : ∀ x ∈ rest, x ∈ L := fun x hx => (elim_sub E L i L).subset (by rw [← hi]; exact hx)
  refine et_c (ec_neE C.at eNL (v 2 (ev_lst (ea_nil ⟨[], rfl, Nat.zero_le _, unb E L rest, [], rfl, rfl, _, rfl, fun h => ?_, fun h => ?_⟩))))
  · rw [Bool.not_eq_true', decide_eq_false_iff_not] at h
    refine ws_cons (w_setC 5 hU.2 (r_lc [("service", 6)] C (it_list (v 5 ⟨_, rfl, ?_⟩))))
    refine lc_mapT eN.enc (fun x => !decide (x ∈ unb E L rest)) eN.enc (fun x hx X' C' => tn 6 sc_cycle_among.nd fun X2 C2 => ts_one (et_c (ec_notIn C2.at eN (v 6 (v 2 ⟨x, unb E L rest, rfl, .inl rfl, _, rfl, rfl, fun _ X4 C4 => v 6 rfl⟩))))) ?_
    refine ws_cons (w_setC 2 hU.2 (r_call P2 C (ea2 (v 4 (v 5 ⟨E, L, gone E L rest, rfl, fun x hx => hs x ((gone_sub E L rest).subset hx), ws_nil ⟨_, gone E L rest, gone_len h, ⟨rfl, i + 1, ?_⟩, le_refl _⟩⟩)))))
    rw [elim_succ, ← hi]
  rw [Bool.not_eq_false', decide_eq_true_iff] at h
  refine ws_cons (ws_if (et_c (ec_eqE C.at eNL (v 5 (ev_lst (ea_nil ⟨[], rfl, Nat.zero_le _, rest, [], rfl, rfl, _, rfl, fun h2 => ?_, fun h2 => ws_nil ?_⟩))))))
  · rw [decide_eq_true_iff] at h2
    exact ws_cons (ws_ret (ev_non (hκ1 (free_of_elim (i := i) (by rw [← hi]; exact h2)))))
  rw [decide_eq_false_iff_not] at h2
  have hκ := hκ2 (not_free hs h2 h)
  have hlead : ∀ x ∈ rest, (lead E L x).filter (fun y => decide (y ∈ rest)) ≠ [] := fun x hx => by
    obtain ⟨y, hy, he⟩ := unb_nil hs h x hx
    exact List.ne_nil_of_mem (List.mem_filter.mpr ⟨mem_lead.mpr ⟨he, hs y hy, hs x hx⟩, decide_eq_true hy⟩)
  have ndr : rest.Nodup := by rw [hi]; exact nd.sublist (elim_sub E L i L)
  have hrl : rest.length ≤ 100 := by rw [hi]; exact Nat.le_trans (elim_sub E L i L).length_le hl
  obtain ⟨r0, rs, hr0⟩ := List.exists_cons_of_ne_nil h2
  refine ws_cons (w_setX 3 (ex_lst (ea_one (ev_ixL (by intro _ _; rfl) (v 5 (ev_int ⟨rest.map eN.enc, 0, eN.enc r0, rfl, rfl, by rw [hr0]; exact atI_0, ⟨[eN.enc r0], rfl, (by show 1 ≤ 10000; decide), ?_⟩⟩))))))
  refine ws_cons (ws_while (S := List Nm) (fun n w => n = rest.length + 1 - w.length ∧ w ≠ [] ∧ (∀ x ∈ w, x ∈ rest) ∧ w.dropLast.Nodup ∧ w.length ≤ rest.length + 1) (fun w => E0 (fz (unb E L rest)) (some (.ow (lstO (w.map eN.enc)))) rest) C.at ⟨_, [r0], ⟨rfl, by simp, fun x hx => by rw [List.mem_singleton] at hx; rw [hx, hr0]; exact List.mem_cons_self, by simp, by simp⟩, le_refl _⟩ fun n w hj => ?_)
  obtain ⟨rfl, wne, ws1, wnd, wl⟩ := hj
  have wne' : w.map eN.enc ≠ [] := fun q => wne (List.map_eq_nil_iff.mp q)
  have last : atI (w.map eN.enc) (-1) = some (eN.enc (w.getLast wne)) := by rw [atI_neg1 wne', List.getLast_map]
  have dl : cutD (w.map eN.enc) none (some (-1)) = w.dropLast.map eN.enc := by rw [cutD_init, List.map_dropLast]
  refine et_lend 3 (lend_lst _) (et_c (ec_notIn C.at eN (ev_ixL (by intro _ _; rfl) (v 3 (ev_neg (ev_int ⟨1, rfl, w.map eN.enc, -1, _, rfl, rfl, last, ev_slL (v 3 (eo_none (eo_some (ev_neg (ev_int ⟨1, rfl, -1, rfl, w.map eN.enc, rfl, w.getLast wne, w.dropLast, rfl, .inl (by rw [dl]), _, rfl, fun h3 => ?_, fun h3 => ?_⟩)))))⟩))))))
  · rw [Bool.not_eq_true', decide_eq_false_iff_not] at h3
    have hnd : w.Nodup := by
      rw [← List.dropLast_concat_getLast wne, List.nodup_append]
      refine ⟨wnd, by simp, fun x hx y hy e => h3 ?_⟩
      rw [List.mem_singleton] at hy
      rw [← hy, ← e]; exact hx
    have wl2 : w.length ≤ rest.length := hnd.sublen ws1
    have hx : w.getLast wne ∈ rest := ws1 _ (List.getLast_mem wne)
    obtain ⟨y, ys, hy⟩ := List.exists_cons_of_ne_nil (hlead _ hx)
    have hyr : y ∈ rest := by
      have : y ∈ (lead E L (w.getLast wne)).filter (fun y => decide (y ∈ rest)) := by rw [hy]; exact List.mem_cons_self
      exact of_decide_eq_true (List.mem_filter.mp this).2
    refine ws_cons (w_append (ds := w.map eN.enc) 3 (by rw [List.length_map]; omega) (ev_ixL (by intro _ _; rfl) (r_lc [("one", 7)] C (it_list (ev_getK nmK_inj C.at (by intro _ _; rfl) (v 4 (ev_lend 3 (lend_lst _) (ev_ixL (by intro _ _; rfl) (v 3 (ev_neg (ev_int ⟨1, rfl, w.map eN.enc, -1, _, rfl, rfl, last, light_st _, ?_⟩))))))))))) 
    refine ⟨dLd E L, w.getLast wne, _, (w.getLast wne).1, .inr rfl, rfl, rfl, gt_dLd (hs _ hx), _, rfl, ?_⟩
    refine lc_mapT eN.enc (fun y => decide (y ∈ rest)) eN.enc (fun y hy X' C' => tn 7 sc_cycle_among.nd fun X2 C2 => ts_one (et_c (ec_in C2.at eN (v 7 (v 5 ⟨y, rest, rfl, .inl rfl, _, rfl, rfl, fun _ X4 C4 => v 7 rfl⟩))))) ?_
    rw [hy]
    refine ev_int ⟨_, 0, eN.enc y, rfl, rfl, atI_0, _, rfl, ws_nil ⟨rest.length + 1 - (w ++ [y]).length, w ++ [y], ?_, ⟨rfl, by simp, fun x hx => ?_, by rw [List.dropLast_concat]; exact hnd, ?_⟩, ?_⟩⟩
    · rw [List.length_append]; simp; omega
    · rcases List.mem_append.mp hx with hx | hx
      · exact ws1 x hx
      · rw [List.mem_singleton] at hx; rw [hx]; exact hyr
    · rw [List.length_append]; simp; omega
    · rw [List.map_append]; exact le_refl _
  · refine ws_freeze 3 (lend_lst _) (ws_cons (ws_ret (r_tuple g C (ev_rev (ev_slL (v 3 (eo_some ?_))))))) 
    refine ev_add (ev_index (v 3 ⟨w, rfl, ev_ixL (by intro _ _; rfl) (v 3 (ev_neg (ev_int ⟨1, rfl, w.map eN.enc, -1, _, rfl, rfl, last, w.getLast wne, rfl, List.getLast_mem wne, fun j hj => ?_⟩)))⟩))
    exact ev_int ⟨_, _, rfl, rfl, _, rfl, eo_none ⟨_, rfl, _, rfl, _, .inl rfl, hκ _⟩⟩
end FR
set_option Elab.async false
set_option linter.all false
set_option maxRecDepth 100000
set_option maxHeartbeats 2000000
namespace FR
open PySem PySem.Spec PyProof.Rows L2
section
variable {X : Cx} {f : Fx} {ρ : Env} {e a b c : Expr} {es : List Expr} {s : Stmt} {ss : List Stmt} {κ : Ent → Prop} {Φ : Post} {pos p : Pos} {G : Gb} {k : Nat} {N : List Str} {sc : Scope} {α : Type}
/-- sorted(x), the result one's own -/
theorem ex_sorted (g : Gx G) (C : Ctx G k X) (h : EvE (mkX X N sc) f ρ e fun R => ∃ xs : List Nm, R = li (xs.map eN.enc) ∧ xs.length ≤ 10000 ∧ κ (.ow (lstO ((srt eN xs).map eN.enc)))) (hg : gloB sc "sorted" = true := by decide +kernel)
    (he : starEach (e :: []) (mkX X N sc).env = (false, eval e (mkX X N sc).env) :: starEach [] (mkX X N sc).env := by rfl) (hpl : (backTo pos (starEach [] (mkX X N sc).env)).any (·.1) = false := by rfl) : EvX (mkX X N sc) f ρ (.Call (.Name "sorted" p) [e] [] pos) κ := fun F M σ d E Q hQ => by
  refine wpE_of (pe_callB (X := mkX X N sc) (cr_sortC C.at.calm C.at.room.units) (glo_of hg) (by rw [show (mkX X N sc).mg = G.mg from C.at.mg]; exact g.f_sorted) (by decide +kernel) pa_wp (by decide) (by decide) he hpl) ?_
  have h1 : EvA (mkX X N sc) f ρ [e] fun Rs => ∃ xs : List Nm, Rs = [li (xs.map eN.enc)] ∧ xs.length ≤ 10000 ∧ κ (.ow (lstO ((srt eN xs).map eN.enc))) := ea_one (ev_imp h fun R ⟨xs, e1, hl, hk⟩ => ⟨xs, by rw [e1], hl, hk⟩) he
  refine h1 F M σ d E _ fun vs Rs F1 M1 hk hvs k1 d1 s1 => ?_
  obtain ⟨xs, rfl, hl, hk⟩ := hk
  obtain ⟨v, rfl, hv⟩ := rpa1 hvs
  cases hv with
  | @lst a us _ ha hx =>
    have e1 := dqa_names hx
    subst e1
    refine ⟨.ref a, _, rfl, colr_list (SqL.of (ovl_F ha)), fun ws hws => ?_⟩
    subst hws
    let gz : Nm → V × D := fun x => (V.str x.1, eN.enc x)
    refine ⟨xs.map gz, by rw [List.map_map]; rfl, fun z hz => ?_, fun x hx y hy => ?_, .inl (.inr fun x hx => ?_), fun z hz => ?_, ?_, fun p hp => ?_⟩
    · obtain ⟨y, _, rfl⟩ := List.mem_map.mp hz
      exact Same.dp (Dq.str _)
    · rw [List.map_map] at hx hy
      obtain ⟨x', _, rfl⟩ := List.mem_map.mp hx
      obtain ⟨y', _, rfl⟩ := List.mem_map.mp hy
      exact eN.alike _ _
    · rw [List.map_map] at hx
      obtain ⟨x', _, rfl⟩ := List.mem_map.mp hx
      exact ⟨fun q => (by cases q), fun ys q => (by cases q)⟩
    · obtain ⟨y, _, rfl⟩ := List.mem_map.mp hz
      show (eN.enc y).depth ≤ 50
      have := eN.depth y
      omega
    · rw [List.length_map]; exact le_sz hl
    · have e1 : (xs.map gz).mergeSort (PySem.W.dataLe false (·.2)) = (xs.mergeSort eN.le).map gz := (PySem.W.sort_maps gz fun a _ b _ => rfl).symm
      rw [e1, List.map_map]
      have e2 : (xs.mergeSort eN.le).map ((·.1) ∘ gz) = (srt eN xs).map fun x => V.str x.1 := rfl
      rw [e2]
      refine own_new (P := lstO ((srt eN xs).map eN.enc)) E k1 d1 s1 hp ⟨_, rfl, ?_⟩ hk hQ
      have q := DqA.ofStrs (F := F1) ((srt eN xs).map Nm.s)
      rw [List.map_map, List.map_map] at q
      exact q
theorem erase_s (y : Nm) : ∀ xs : List Nm, (xs.map Nm.s).erase y.s = (xs.erase y).map Nm.s
  | [] => rfl
  | x :: xs => by
    rw [List.map_cons, List.erase_cons, List.erase_cons, erase_s y xs]
    by_cases h : x = y
    · subst h; simp
    · have h2 : ¬ x.s = y.s := fun q => h (Subtype.ext q)
      have b1 : (x == y) = false := beq_eq_false_iff_ne.mpr h
      have b2 : (x.s == y.s) = false := beq_eq_false_iff_ne.mpr h2
      rw [b1, b2]; rfl
/-- x.remove(name) -/
theorem w_remove {x : Str} {p1 apos cpos : Pos} {xs : List Nm} (i : Nat) (h : EvE (mkX X N sc) f ρ e fun R => ∃ y : Nm, R = dat (eN.enc y) ∧ y ∈ xs ∧ Φ.nx (ρ.set i (some (.ow (lstO ((xs.erase y).map eN.enc)))))) (hi : ρ[i]? = some (some (.ow (lstO (xs.map eN.enc)))) := by rfl) (hN : N[i]? = some x := by rfl) (hv : visB sc x = true := by decide +kernel)
    (hd : (x == ("__debug__" : Str)) = false := by decide +kernel) (hcd : (x == ("__classdict__" : Str)) = false := by decide +kernel)
    (hbase : attributeBase (.Name x p1) "remove" (mkX X N sc).env (eval (.Name x p1) (mkX X N sc).env) = eval (.Name x p1) (mkX X N sc).env := by rfl)
    (hfew : ((backTo cpos (starEach (e :: []) (mkX X N sc).env)).all (fun x => !x.1) && (backToKw cpos (keywordEach [] (mkX X N sc).env)).all (fun x => x.1.isSome)
      && decide ((e :: []).length + ([] : List Keyword).length + (if ([] : List Keyword).isEmpty then 0 else 1) < 30)) = true := by rfl)
    (hline : (apos.endLine == cpos.line) = true := by rfl) (hs : starEach (e :: []) (mkX X N sc).env = (false, eval e (mkX X N sc).env) :: starEach [] (mkX X N sc).env := by rfl) :
    WS (mkX X N sc) f ρ (.Expr (.Call (.Attribute (.Name x p1) "remove" apos) [e] [] cpos) pos) Φ := by
  have e0 : ∀ ys : List Nm, ys.map eN.enc = (ys.map Nm.s).map PyData.str := fun ys => by rw [List.map_map]; rfl
  rw [e0] at hi
  refine ws_ownM i hi hN (vis_of hv) lstO_lst PySem.F.slot_list_remove PySem.F.type_list_remove mt_remF (ev_imp h fun R ⟨y, e1, hy, hk⟩ => ?_) hd hcd hbase hfew hline hs (by rfl)
  subst e1
  rw [e0, ← erase_s] at hk
  exact ⟨_, mo_remove (List.mem_map.mpr ⟨y, hy, rfl⟩), hk⟩
end
def T_order : Tp := fun Rs κ => ∃ (E : List Pr) (L : List Nm) (ER : Rp), Rs = [ER, li (L.map eN.enc)] ∧ (ER = li (E.map eR.enc) ∨ ER = tu (E.map eR.enc)) ∧ L.Nodup ∧ L.length ≤ 100 ∧ E.length ≤ 1000 ∧ cycFree E L ∧ κ (tu ((ordN E L L.length (srt eN L)).map eN.enc))
theorem P_order {G : Gb} (g : Gx G) (S : Std G "order_among" "order_among" s_order_among) (P1 : Prom G "leaders_of" 1 p_leaders_of (SpF T_leaders)) (P2 : Prom G "unblocked" 1 p_unblocked (SpF T_unblocked)) (P3 : Prom G "cycle_among" 2 p_cycle_among (SpF T_cycle)) : Prom G "order_among" 3 p_order_among (SpF T_order) := by
  refine S.prom sc_order_among (by rintro Rs κ ⟨_, _, _, rfl, _⟩; rfl) (fun _ _ _ _ _ _ us hl => match us, hl with | [_, _], _ => rfl) fun X f Rs κ C hU h => ?_
  obtain ⟨E, L, ER, rfl, hER, nd, hl, hl2, hf, hκ⟩ := h
  let E0 : List Nm → List Nm → Env := fun rest found => [some (.fz ER), some (.fz (li (L.map eN.enc))), some (.fz (dat .none)), some (.fz (dKL nmK (dLd E L))), some (.ow (lstO (rest.map eN.enc))), some (.ow (lstO (found.map eN.enc)))]
  refine ws_cons (w_set 2 (r_call P3 C (ea2 (v 0 (v 1 ⟨E, L, ER, rfl, hER, nd, hl, hl2, fun _ => ?_, fun h => absurd hf h⟩)))))
  refine ws_cons (ws_if (et_c (ec_notN (v 2 ⟨.none, rfl, _, rfl, fun h => (by cases h), fun _ => ws_nil ?_⟩))))
  refine ws_cons (w_par3 3 4 5 C (ex_of (r_call P1 C (ea2 (v 0 (v 1 ⟨E, L, ER, rfl, hER, nd, hl, hl2, ?_⟩))))))
  refine ex_sorted g C (v 1 ⟨L, rfl, by omega, ex_lst (ea_nil ⟨[], rfl, Nat.zero_le _, ?_⟩)⟩)
  have hss : ∀ x, x ∈ srt eN L → x ∈ L := fun x hx => (srt_mem eN).mp hx
  have hsl := srt_length eN L
  refine ws_cons (ws_while (S := List Nm × List Nm) (fun n s => n = s.1.length ∧ (∀ x ∈ s.1, x ∈ L) ∧ s.1.length ≤ L.length ∧ s.2 ++ ordN E L s.1.length s.1 = ordN E L L.length (srt eN L) ∧ s.2.length + s.1.length = L.length) (fun s => E0 s.1 s.2) C.at ⟨_, (srt eN L, []), ⟨rfl, hss, by rw [hsl]; exact Nat.le_refl _, by rw [hsl]; rfl, by rw [hsl]; simp⟩, le_refl _⟩ fun n s hj => ?_)
  obtain ⟨rest, found⟩ := s
  obtain ⟨rfl, hs, hrl, ho, hsum⟩ := hj
  refine et_lend 4 (lend_lst _) (et_c (ec_neE C.at eNL (v 4 (ev_lst (ea_nil ⟨[], rfl, Nat.zero_le _, rest, [], rfl, rfl, _, rfl, fun h => ?_, fun h => ?_⟩)))))
  · rw [Bool.not_eq_true', decide_eq_false_iff_not] at h
    have hu := free_unb hf hs h
    obtain ⟨y, ys, hy⟩ := List.exists_cons_of_ne_nil hu
    have hyr : y ∈ rest := unb_mem (by rw [hy]; exact List.mem_cons_self)
    refine ws_cons (w_append (ds := found.map eN.enc) 5 (by rw [List.length_map]; simp only at hsum; omega) (ev_lend 4 (lend_lst _) (ev_ixL (by intro _ _; rfl) (r_call P2 C (ea2 (v 3 (v 4 ⟨E, L, rest, rfl, hs, ?_⟩)))))))
    rw [hy]
    refine ev_int ⟨_, 0, eN.enc y, rfl, rfl, atI_0, light_st _, eN.enc y, rfl, ?_⟩
    have wne : found.map eN.enc ++ [eN.enc y] ≠ [] := by simp
    have last : atI (found.map eN.enc ++ [eN.enc y]) (-1) = some (eN.enc y) := by rw [atI_neg1 wne]; simp
    refine ws_cons (w_remove (xs := rest) 4 (ev_lend 5 (lend_lst _) (ev_ixL (by intro _ _; rfl) (v 5 (ev_neg (ev_int ⟨1, rfl, _, -1, eN.enc y, rfl, rfl, last, light_st _, y, rfl, hyr, ws_nil ?_⟩))))))
    have hel : (rest.erase y).length = rest.length - 1 := List.length_erase_of_mem hyr
    have hpos : 0 < rest.length := List.length_pos_of_mem hyr
    refine ⟨(rest.erase y).length, (rest.erase y, found ++ [y]), by rw [hel]; simp only; omega, ⟨rfl, fun x hx => hs x (List.mem_of_mem_erase hx), by simp only at hrl ⊢; omega, ?_, ?_⟩, ?_⟩
    · rw [← ho]
      obtain ⟨m, hm⟩ : ∃ m, rest.length = m + 1 := ⟨rest.length - 1, by omega⟩
      have e1 : ordN E L rest.length rest = y :: ordN E L m (rest.erase y) := by rw [hm]; simp only [ordN, hy]
      have e2 : (rest.erase y).length = m := by omega
      show (found ++ [y]) ++ ordN E L (rest.erase y).length (rest.erase y) = found ++ ordN E L rest.length rest
      rw [e1, e2, List.append_assoc]; rfl
    · simp only [List.length_append, List.length_cons, List.length_nil] at hsum ⊢; omega
    · simp only [E0, List.map_append]
      exact le_refl _
  · rw [Bool.not_eq_false', decide_eq_true_iff] at h
    subst h
    have e : found = ordN E L L.length (srt eN L) := by rw [← ho]; simp [ordN]
    refine ws_freeze 5 (lend_lst _) (ws_cons (ws_ret (r_tuple g C (v 5 ⟨_, .inl rfl, ?_⟩))))
    rw [e]; exact hκ
end FR
set_option Elab.async false
set_option linter.all false
set_option maxRecDepth 100000
set_option maxHeartbeats 2000000
namespace FR
open PySem PySem.Spec PyProof.Rows L2
/-! ### the task: what it holds -/
def psOf (cs : List Ch) : List Op2 := (orderPairs cs).filter fun p => decide (p.1 ∈ keysOf cs)
def oo (cs : List Ch) (q : Pr) : Nm := (gt (stepsOf cs) q).getD wSw
def edgeAcc (cs : List Ch) (acc : List (Pr × D)) (p : Op2) : List (Pr × D) := if oo cs p.1 = oo cs p.2 then acc else pt acc (oo cs p.1, oo cs p.2) (.bool true)
def edgesOf (cs : List Ch) : List Pr := srt eR (((psOf cs).foldl (edgeAcc cs) []).map (·.1))
def insQ (q : Pr) (xs : List Pr) : List Pr := if q ∈ xs then xs else xs ++ [q]
def plAcc (cs : List Ch) (acc : List (Pr × List Pr)) (q : Pr) : List (Pr × List Pr) := pt acc (oo cs q, q.1) (insQ q ((gt acc (oo cs q, q.1)).getD []))
def plsOf (cs : List Ch) : List (Pr × List Pr) := ((psOf cs).flatMap fun p => [p.1, p.2]).foldl (plAcc cs) []
def manyOf (cs : List Ch) (pl : Pr) : Nat := ((gt (plsOf cs) pl).getD []).length
def fdAcc (cs : List Ch) (acc : List (Nm × Nat)) (pl : Pr) : List (Nm × Nat) := if 2 ≤ manyOf cs pl then pt acc pl.1 (max (manyOf cs pl) ((gt acc pl.1).getD 0)) else acc
def fdOf (cs : List Ch) : List (Nm × Nat) := (srt eR ((plsOf cs).map (·.1))).foldl (fdAcc cs) []
def encF (l : List (Nm × Nat)) : List (Nm × D) := l.map fun p => (p.1, .int (p.2 : Nat))
def fTask : List Str := ["task_system", "task_left", "task_pairs", "task_owners", "task_edges", "task_forced"]
def taskL (G : Gb) (S : Sys) : List (Str × Rp) := [("task_forced", dKR nmK (encF (fdOf S.cs))), ("task_edges", li ((edgesOf S.cs).map eR.enc)), ("task_owners", dTR (encV (stepsOf S.cs))), ("task_pairs", li ((psOf S.cs).map eQ.enc)), ("task_left", tu ((keysOf S.cs).map eR.enc)), ("task_system", sysR G S)]
def taskR (G : Gb) (S : Sys) : Rp := objK G "Task" (taskL G S)
section
variable {X : Cx} {f : Fx} {ρ : Env} {e a b c : Expr} {es : List Expr} {s : Stmt} {ss : List Stmt} {κ : Rp → Prop} {Φ : Post} {pos p : Pos} {G : Gb} {k : Nat} {N : List Str} {sc : Scope} {S : Sys}
theorem tk_forced (C : Ctx G k X) (cf : ClsF G "Task" fTask) (h : EvE (mkX X N sc) f ρ e fun R => R = taskR G S ∧ κ (dKR nmK (encF (fdOf S.cs)))) (hb : attributeBase e "task_forced" (mkX X N sc).env (eval e (mkX X N sc).env) = eval e (mkX X N sc).env := by rfl) : EvE (mkX X N sc) f ρ (.Attribute e "task_forced" pos) κ :=
  ev_fldK C cf (ev_imp h fun R ⟨e, hk⟩ => ⟨taskL G S, _, e, by simp [taskL], hk⟩) (by decide +kernel) hb
theorem tk_edges (C : Ctx G k X) (cf : ClsF G "Task" fTask) (h : EvE (mkX X N sc) f ρ e fun R => R = taskR G S ∧ κ (li ((edgesOf S.cs).map eR.enc))) (hb : attributeBase e "task_edges" (mkX X N sc).env (eval e (mkX X N sc).env) = eval e (mkX X N sc).env := by rfl) : EvE (mkX X N sc) f ρ (.Attribute e "task_edges" pos) κ :=
  ev_fldK C cf (ev_imp h fun R ⟨e, hk⟩ => ⟨taskL G S, _, e, by simp [taskL], hk⟩) (by decide +kernel) hb
theorem tk_owners (C : Ctx G k X) (cf : ClsF G "Task" fTask) (h : EvE (mkX X N sc) f ρ e fun R => R = taskR G S ∧ κ (dTR (encV (stepsOf S.cs)))) (hb : attributeBase e "task_owners" (mkX X N sc).env (eval e (mkX X N sc).env) = eval e (mkX X N sc).env := by rfl) : EvE (mkX X N sc) f ρ (.Attribute e "task_owners" pos) κ :=
  ev_fldK C cf (ev_imp h fun R ⟨e, hk⟩ => ⟨taskL G S, _, e, by simp [taskL], hk⟩) (by decide +kernel) hb
theorem tk_pairs (C : Ctx G k X) (cf : ClsF G "Task" fTask) (h : EvE (mkX X N sc) f ρ e fun R => R = taskR G S ∧ κ (li ((psOf S.cs).map eQ.enc))) (hb : attributeBase e "task_pairs" (mkX X N sc).env (eval e (mkX X N sc).env) = eval e (mkX X N sc).env := by rfl) : EvE (mkX X N sc) f ρ (.Attribute e "task_pairs" pos) κ :=
  ev_fldK C cf (ev_imp h fun R ⟨e, hk⟩ => ⟨taskL G S, _, e, by simp [taskL], hk⟩) (by decide +kernel) hb
theorem tk_left (C : Ctx G k X) (cf : ClsF G "Task" fTask) (h : EvE (mkX X N sc) f ρ e fun R => R = taskR G S ∧ κ (tu ((keysOf S.cs).map eR.enc))) (hb : attributeBase e "task_left" (mkX X N sc).env (eval e (mkX X N sc).env) = eval e (mkX X N sc).env := by rfl) : EvE (mkX X N sc) f ρ (.Attribute e "task_left" pos) κ :=
  ev_fldK C cf (ev_imp h fun R ⟨e, hk⟩ => ⟨taskL G S, _, e, by simp [taskL], hk⟩) (by decide +kernel) hb
theorem tk_system (C : Ctx G k X) (cf : ClsF G "Task" fTask) (h : EvE (mkX X N sc) f ρ e fun R => R = taskR G S ∧ κ (sysR G S)) (hb : attributeBase e "task_system" (mkX X N sc).env (eval e (mkX X N sc).env) = eval e (mkX X N sc).env := by rfl) : EvE (mkX X N sc) f ρ (.Attribute e "task_system" pos) κ :=
  ev_fldK C cf (ev_imp h fun R ⟨e, hk⟩ => ⟨taskL G S, _, e, by simp [taskL], hk⟩) (by decide +kernel) hb
end
/-! ### parts -/
def rcOf (cs : List Ch) (nm : Nm) : Nm := ((cs.find? fun c => decide (c.nm = nm)).map (·.rc)).getD wSw
def isFst (cs : List Ch) (q : Pr) : Bool := (psOf cs).any fun p => decide (p.1 = q)
def isSnd (cs : List Ch) (q : Pr) : Bool := (psOf cs).any fun p => decide (p.2 = q)
def partOf (cs : List Ch) (x : Nm) (q : Pr) : Pt := if isFst cs q then (if isSnd cs q then (if rcOf cs q.1 = x then .M else if eN.lt (rcOf cs q.1) x then .F else .L) else .F) else .L
def ptS : Pt → Str
  | .F => "first"
  | .M => "middle"
  | .L => "last"
theorem ptS_inj {a b : Pt} (h : ptS a = ptS b) : a = b := by
  cases a <;> cases b <;> first | rfl | exact absurd h (by decide +kernel)
def T_part_of (G : Gb) : Tp := fun Rs κ => ∃ (S : Sys) (x : Nm) (q : Pr), Rs = [taskR G S, dat (eN.enc x), dat (eR.enc q)] ∧ q ∈ keysOf S.cs ∧ κ (st (ptS (partOf S.cs x q)))
theorem keys_ch {cs : List Ch} {q : Pr} (h : q ∈ keysOf cs) : ∃ c, (cs.find? fun c => decide (c.nm = q.1)) = some c := by
  obtain ⟨c, hc, e, _⟩ := steps_nm h
  cases z : cs.find? fun c => decide (c.nm = q.1) with
  | some c => exact ⟨c, rfl⟩
  | none =>
    rw [List.find?_eq_none] at z
    exact absurd (decide_eq_true e.symm) (z c hc)
theorem P_part_of {G : Gb} (g : Gx G) (cf : ClsF G "Task" fTask) (S : Std G "part_of" "part_of" s_part_of) (P1 : Prom G "channel_of" 2 p_channel_of (SpF (T_channel_of G))) : Prom G "part_of" 3 p_part_of (SpF (T_part_of G)) := by
  refine S.prom sc_part_of (by rintro Rs κ ⟨_, _, _, rfl, _⟩; rfl) (fun _ _ _ _ _ _ us hl => match us, hl with | [_, _, _], _ => rfl) fun X f Rs κ C hU h => ?_
  obtain ⟨S, x, q, rfl, hq, hκ⟩ := h
  refine ws_cons (w_set 3 (r_any g C (r_lc [("first", 6), ("second", 7)] C (it_list (tk_pairs (S := S) C cf (v 0 ⟨rfl, _, rfl, ?_⟩))))))
  refine lc_each eQ.enc (fun p : Op2 => .bool (decide (p.2 = q))) (fun p hp X' C' => at_tup (ds := [eR.enc p.1, eR.enc p.2]) C'.calm rfl (ats_cons (tn 6 sc_part_of.nd (ats_cons (tn 7 sc_part_of.nd (ats_nil fun X2 C2 => ev_c (ec_eqE C2.at eR (v 7 (v 2 ⟨p.2, q, rfl, rfl, rfl⟩))))))))) ?_
  refine ⟨(psOf S.cs).map fun p => decide (p.2 = q), by rw [List.map_map]; rfl, ?_⟩
  rw [show ((psOf S.cs).map fun p => decide (p.2 = q)).any id = isSnd S.cs q by rw [List.any_map]; rfl]
  refine ws_cons (w_set 4 (r_any g C (r_lc [("first", 6), ("second", 7)] C (it_list (tk_pairs (S := S) C cf (v 0 ⟨rfl, _, rfl, ?_⟩))))))
  refine lc_each eQ.enc (fun p : Op2 => .bool (decide (p.1 = q))) (fun p hp X' C' => at_tup (ds := [eR.enc p.1, eR.enc p.2]) C'.calm rfl (ats_cons (tn 6 sc_part_of.nd (ats_cons (tn 7 sc_part_of.nd (ats_nil fun X2 C2 => ev_c (ec_eqE C2.at eR (v 6 (v 2 ⟨p.1, q, rfl, rfl, rfl⟩))))))))) ?_
  refine ⟨(psOf S.cs).map fun p => decide (p.1 = q), by rw [List.map_map]; rfl, ?_⟩
  rw [show ((psOf S.cs).map fun p => decide (p.1 = q)).any id = isFst S.cs q by rw [List.any_map]; rfl]
  unfold partOf at hκ
  refine ws_cons (ws_if (et_not (et_val (v 4 ⟨_, rfl, fun h => ?_, fun h => ws_nil ?_⟩))))
  · rw [Bool.not_eq_true'] at h
    rw [h] at hκ
    exact ws_cons (ws_ret (gs C g.c_LAST hκ))
  rw [Bool.not_eq_false'] at h
  rw [if_pos h] at hκ
  refine ws_cons (ws_if (et_not (et_val (v 3 ⟨_, rfl, fun h2 => ?_, fun h2 => ws_nil ?_⟩))))
  · rw [Bool.not_eq_true'] at h2
    rw [h2] at hκ
    exact ws_cons (ws_ret (gs C g.c_FIRST hκ))
  rw [Bool.not_eq_false'] at h2
  rw [if_pos h2] at hκ
  obtain ⟨c, hc⟩ := keys_ch hq
  have erc : rcOf S.cs q.1 = c.rc := by unfold rcOf; rw [hc]; rfl
  rw [erc] at hκ
  refine ws_cons (w_set 5 (ixc (eN.enc c.rc) (ds := [eN.enc c.nm, eN.enc c.sn, eN.enc c.rc, dFm c.od, dFm c.nw]) (r_call P1 C (ea2 (tk_system (S := S) C cf (v 0 ⟨rfl, ixc (eN.enc q.1) (ds := [eN.enc q.1, eN.enc q.2]) (v 2 ⟨rfl, S, q.1, c, rfl, hc, rfl, ?_⟩)⟩))))))
  refine ws_cons (ws_if (et_c (ec_eqE C.at eN (v 5 (v 1 ⟨c.rc, x, rfl, rfl, _, rfl, fun h3 => ?_, fun h3 => ws_nil ?_⟩)))))
  · rw [decide_eq_true_iff] at h3
    rw [if_pos h3] at hκ
    exact ws_cons (ws_ret (gs C g.c_MIDDLE hκ))
  rw [decide_eq_false_iff_not] at h3
  rw [if_neg h3] at hκ
  refine ws_cons (ws_ret (ev_if (et_c (ec_lt C.at eN (v 5 (v 1 ⟨c.rc, x, rfl, rfl, fun h => (by cases h), _, rfl, fun h4 => ?_, fun h4 => ?_⟩))))))
  · have h4 : eN.lt c.rc x = true := h4
    rw [if_pos h4] at hκ
    exact gs C g.c_FIRST hκ
  · have h4 : eN.lt c.rc x = false := h4
    rw [h4] at hκ
    exact gs C g.c_LAST hκ
end FR
set_option Elab.async false
set_option linter.all false
set_option maxRecDepth 100000
set_option maxHeartbeats 2000000
namespace FR
open PySem PySem.Spec PyProof.Rows L2
def gAll (cs : List Ch) (x : Nm) : Done := (keysOf cs).filter fun q => decide (oo cs q = x)
def gPart (cs : List Ch) (t : Pt) (x : Nm) : Done := (gAll cs x).filter fun q => decide (partOf cs x q = t)
def gOpt (cs : List Ch) (t : Option Pt) (x : Nm) : Done := match t with
  | none => gAll cs x
  | some t => gPart cs t x
def inPt (cs : List Ch) (t : Option Pt) (x : Nm) (q : Pr) : Bool := match t with
  | none => true
  | some t => decide (partOf cs x q = t)
theorem rel_le {P N : Type} [DecidableEq P] (S : List N) (g : N → List P) : (rel S g).length ≤ S.length := by
  unfold rel
  exact Nat.le_trans (List.length_filter_le _ _) (by rw [List.length_map]; exact Nat.le_refl _)
def dPt : Option Pt → D
  | none => .none
  | some t => .str (ptS t)
theorem rel_take {g : Nm → Done} {L : List Nm} {i : Nat} {x : Nm} (h : L[i]? = some x) : rel (L.take (i + 1)) g = rel (L.take i) g ++ (if g x = [] then [] else [(x, g x)]) := by
  rw [take_more h]
  unfold rel
  rw [List.map_append, List.filter_append]
  congr 1
  by_cases e : g x = []
  · simp [e]
  · simp [e]
theorem keys_len (cs : List Ch) : (keysOf cs).length ≤ 3 * cs.length := by unfold keysOf; rw [List.length_map]; exact steps_len cs
theorem oo_at {cs : List Ch} {q : Pr} (h : q ∈ keysOf cs) : gt (encV (stepsOf cs)) q = some (eN.enc (oo cs q)) := by
  have e : gt (encV (stepsOf cs)) q = (gt (stepsOf cs) q).map eN.enc := by
    unfold gt encV
    rw [List.find?_map]
    show Option.map _ (Option.map _ (List.find? (fun p : Pr × Nm => decide (p.1 = q)) (stepsOf cs))) = Option.map eN.enc (Option.map _ ((stepsOf cs).find? fun p : Pr × Nm => decide (p.1 = q)))
    cases (stepsOf cs).find? (fun p : Pr × Nm => decide (p.1 = q)) <;> rfl
  have : ∃ o, gt (stepsOf cs) q = some o := by
    unfold keysOf at h
    obtain ⟨p, hp, e⟩ := List.mem_map.mp h
    unfold gt
    cases z : (stepsOf cs).find? (fun p : Pr × Nm => decide (p.1 = q)) with
    | some o => exact ⟨_, rfl⟩
    | none =>
      rw [List.find?_eq_none] at z
      exact absurd (decide_eq_true e) (z p hp)
  obtain ⟨o, ho⟩ := this
  rw [e, ho]
  unfold oo
  rw [ho]; rfl
def T_releases (G : Gb) : Tp := fun Rs κ => ∃ (S : Sys) (L : List Nm) (t : Option Pt), Rs = [taskR G S, tu (L.map eN.enc), dat (dPt t)] ∧ S.cs.length ≤ 40 ∧ L.length ≤ 100 ∧ κ (li ((rel L (gOpt S.cs t)).map dRun))
theorem P_releases {G : Gb} (g : Gx G) (cf : ClsF G "Task" fTask) (S : Std G "releases_of" "releases_of" s_releases_of) (P1 : Prom G "part_of" 3 p_part_of (SpF (T_part_of G))) : Prom G "releases_of" 4 p_releases_of (SpF (T_releases G)) := by
  refine S.prom sc_releases_of (by rintro Rs κ ⟨_, _, _, rfl, _⟩; rfl) (fun _ _ _ _ _ _ us hl => match us, hl with | [_, _, _], _ => rfl) fun X f Rs κ C hU h => ?_
  obtain ⟨S, L, t, rfl, hcl, hl, hκ⟩ := h
  let E0 : List Run → Env := fun s => [some (.fz (taskR G S)), some (.fz (tu (L.map eN.enc))), some (.fz (dat (dPt t))), some (.ow (lstO (s.map dRun))), none, none, none, none]
  refine ws_cons (w_setX 3 (ex_lst (ea_nil ⟨[], rfl, Nat.zero_le _, ?_⟩)))
  refine ws_cons (w_for (S := List Run) (fun i s => s = rel (L.take i) (gOpt S.cs t)) E0 [4] C (it_tup (v 1 ⟨_, rfl, ?_⟩)))
  refine ⟨⟨[], rfl, le_refl _⟩, fun i s d hd hi hs => ?_, fun s hs => ?_⟩
  · obtain ⟨x, hx, rfl⟩ := at_map hd
    have hkl := keys_len S.cs
    have sl : s.length ≤ 1000 := by
      have h1 : s.length ≤ (L.take i).length := by
        rw [hs]; exact rel_le _ _
      rw [List.length_take] at h1
      omega
    refine tnC 4 hU.2 sc_releases_of.nd (ws_cons (w_setLc 5 [("step", 7)] C (it_tup (tk_left (S := S) C cf (v 0 ⟨rfl, _, rfl, ?_⟩)))))
    refine lc_mapT eR.enc (fun q => decide (oo S.cs q = x)) eR.enc (fun q hq X' C' => tn 7 sc_releases_of.nd fun X2 C2 => ts_one (et_c (ec_eqE C2.at eN (ev_getT C2.at (by intro _ _; rfl) (tk_owners (S := S) C2 cf (v 0 ⟨rfl, v 7 ⟨_, q, _, .inl rfl, rfl, oo_at hq, v 4 ⟨oo S.cs q, x, rfl, rfl, _, rfl, rfl, fun _ X4 C4 => v 7 rfl⟩⟩⟩)))))) ?_
    refine ws_cons (w_set 6 (r_tuple g C (r_lc [("step", 7)] C (it_list (v 5 ⟨(gAll S.cs x).map eR.enc, rfl, ?_⟩)))))
    refine lc_mapT (xs := gAll S.cs x) eR.enc (inPt S.cs t x) eR.enc (fun q hq X' C' => tn 7 sc_releases_of.nd fun X2 C2 => ts_one (et_w (ew_or (et_c (ec_isN (v 2 ⟨dPt t, rfl, _, rfl, fun h => ⟨?_, fun _ X4 C4 => v 7 rfl⟩, fun h => ?_⟩)))))) ?_
    · cases t with
      | none => rfl
      | some t => cases h
    · cases t with
      | none => cases h
      | some t =>
        refine ew_or1 (et_c (ec_eqS (r_call P1 C2 (ea3 (v 0 (v 4 (v 7 ⟨S, x, q, rfl, (List.mem_filter.mp hq).1, v 2 ⟨_, _, rfl, rfl, _, rfl, ?_, fun _ X4 C4 => v 7 rfl⟩⟩)))))))
        exact decide_eq_decide.mpr ⟨fun e => ptS_inj e, fun e => by rw [e]⟩
    have eg : (gAll S.cs x).filter (inPt S.cs t x) = gOpt S.cs t x := by
      cases t with
      | none => exact List.filter_eq_self.mpr fun _ _ => rfl
      | some t => rfl
    rw [eg]
    have gl : (gOpt S.cs t x).length ≤ 1000 := by
      rw [← eg]
      have h1 := List.length_filter_le (inPt S.cs t x) (gAll S.cs x)
      have h2 := List.length_filter_le (fun q => decide (oo S.cs q = x)) (keysOf S.cs)
      unfold gAll at h1 ⊢
      omega
    refine ⟨_, .inl rfl, ?_⟩
    refine ws_cons (ws_if (et_c (ec_neE C.at eS (v 6 (ev_tup (ea_nil ⟨[], rfl, Nat.zero_le _, gOpt S.cs t x, [], rfl, rfl, _, rfl, fun h => ?_, fun h => ws_nil (ws_nil ⟨_, rfl, ?_⟩)⟩))))))
    · rw [Bool.not_eq_true', decide_eq_false_iff_not] at h
      refine ws_cons (w_append (ds := s.map dRun) 3 (by rw [List.length_map]; omega) (ev_tup (ea2 (v 4 (v 6 ⟨[eN.enc x, eS.enc (gOpt S.cs t x)], rfl, (by show 2 ≤ 10000; decide), dRun (x, gOpt S.cs t x), rfl, ws_nil (ws_nil ⟨_, rfl, ?_⟩)⟩)))))
      rw [rel_take hx, if_neg h, ← hs]
      simp only [E0, List.map_append]
      exact le_keep (le_keep (le_keep (le_keep (le_drop (le_drop (le_drop (le_keep le_nil)))))))
    · rw [Bool.not_eq_false', decide_eq_true_iff] at h
      rw [rel_take hx, if_pos h, List.append_nil, ← hs]
      exact le_keep (le_keep (le_keep (le_keep (le_drop (le_drop (le_drop (le_keep le_nil)))))))
  · subst hs
    rw [List.length_map, List.take_length]
    exact ws_freeze 3 (lend_lst _) (ws_cons (ws_ret (v 3 hκ)))
/-! ### the plan -/
def othersOf (hs sp : List Nm) : List Nm := hs.filter fun x => !decide (x ∈ sp)
def ordOf (cs : List Ch) (L : List Nm) : List Nm := ordN (edgesOf cs) L L.length (srt eN L)
def planOf (S : Sys) (sp : List Nm) : Plan := planS sp (ordOf S.cs (othersOf S.hs sp)) (gAll S.cs) (gPart S.cs)
def T_plan_of (G : Gb) : Tp := fun Rs κ => ∃ (S : Sys) (sp : List Nm), Rs = [taskR G S, tu (sp.map eN.enc)] ∧ S.cs.length ≤ 40 ∧ S.hs.Nodup ∧ S.hs.length ≤ 100 ∧ sp.length ≤ 100 ∧ (edgesOf S.cs).length ≤ 1000 ∧ cycFree (edgesOf S.cs) (othersOf S.hs sp) ∧ κ (tu ((planOf S sp).map dRun))
theorem P_plan_of {G : Gb} (g : Gx G) (cf : ClsF G "Task" fTask) (S : Std G "plan_of" "plan_of" s_plan_of) (P1 : Prom G "others_than" 1 p_others_than (SpF T_others)) (P2 : Prom G "order_among" 3 p_order_among (SpF T_order)) (P3 : Prom G "releases_of" 4 p_releases_of (SpF (T_releases G))) : Prom G "plan_of" 5 p_plan_of (SpF (T_plan_of G)) := by
  refine S.prom sc_plan_of (by rintro Rs κ ⟨_, _, rfl, _⟩; rfl) (fun _ _ _ _ _ _ us hl => match us, hl with | [_, _], _ => rfl) fun X f Rs κ C hU h => ?_
  obtain ⟨S, sp, rfl, hcl, nd, hhl, hsl, hel, hf, hκ⟩ := h
  have ol : (othersOf S.hs sp).length ≤ 100 := Nat.le_trans (List.length_filter_le _ _) hhl
  have ordl : (ordOf S.cs (othersOf S.hs sp)).length ≤ 100 := by
    have := (ord_ok hf (othersOf S.hs sp).length (srt eN (othersOf S.hs sp)) (fun x hx => (srt_mem eN).mp hx) (srt_length eN _)).1.length_eq
    unfold ordOf
    rw [this, srt_length]; exact ol
  have rl : ∀ (L : List Nm) (t : Option Pt), L.length ≤ 100 → (rel L (gOpt S.cs t)).length ≤ 100 := fun L t h => Nat.le_trans (rel_le _ _) h
  refine ws_cons (w_set 2 (r_call P2 C (ea2 (tk_edges (S := S) C cf (v 0 ⟨rfl, r_call P1 C (ea2 (ev_svc C (tk_system (S := S) C cf (v 0 ⟨rfl, rfl, v 1 ⟨S.hs, sp, .inl rfl, edgesOf S.cs, othersOf S.hs sp, _, rfl, .inl rfl, nd.sublist List.filter_sublist, ol, hel, hf, ?_⟩⟩))))⟩)))))
  refine ws_cons (w_set 3 (ev_catL (r_call P3 C (ea3 (v 0 (v 1 (gs C g.c_FIRST ⟨S, sp, some .F, rfl, hcl, hsl, ?_⟩)))))))
  refine r_call P3 C (ea3 (v 0 (v 2 (ev_non ⟨S, ordOf S.cs (othersOf S.hs sp), none, rfl, hcl, ordl, ?_⟩))))
  have l1 := rl sp (some .F) hsl
  have l2 := rl (ordOf S.cs (othersOf S.hs sp)) none ordl
  have l3 := rl sp (some .M) hsl
  have l4 := rl sp (some .L) hsl
  refine ⟨_, _, rfl, rfl, by rw [List.length_map, List.length_map]; omega, ?_⟩
  refine ws_cons (ws_ret (r_tuple g C (ev_catL (ev_catL (v 3 (r_call P3 C (ea3 (v 0 (v 1 (gs C g.c_MIDDLE ⟨S, sp, some .M, rfl, hcl, hsl, ?_⟩)))))))))) 
  refine ⟨_, _, rfl, rfl, by rw [List.length_append, List.length_map, List.length_map, List.length_map]; omega, ?_⟩
  refine r_call P3 C (ea3 (v 0 (v 1 (gs C g.c_LAST ⟨S, sp, some .L, rfl, hcl, hsl, ?_⟩))))
  refine ⟨_, _, rfl, rfl, by rw [List.length_append, List.length_append, List.length_map, List.length_map, List.length_map, List.length_map]; omega, _, .inl rfl, ?_⟩
  have e : ((rel sp (gOpt S.cs (some .F))).map dRun ++ (rel (ordOf S.cs (othersOf S.hs sp)) (gOpt S.cs none)).map dRun) ++ (rel sp (gOpt S.cs (some .M))).map dRun ++ (rel sp (gOpt S.cs (some .L))).map dRun = (planOf S sp).map dRun := by
    unfold planOf planS
    rw [List.map_append, List.map_append, List.map_append, List.append_assoc (bs := (rel sp (gOpt S.cs (some .M))).map dRun)]
    rfl
  rw [e]; exact hκ
end FR
set_option Elab.async false
set_option linter.all false
set_option maxRecDepth 100000
set_option maxHeartbeats 2000000
namespace FR
open PySem PySem.Spec PyProof.Rows L2
theorem subs_succ {items : List Nm} {n : Nat} : subs items (n + 1) = (subs items n).flatMap fun c => (items.drop c.2).zipIdx.map fun p => (c.1 ++ [p.1], c.2 + p.2 + 1) := rfl
theorem flat_le {α β : Type} {g : α → List β} {m : Nat} : ∀ {xs : List α}, (∀ x ∈ xs, (g x).length ≤ m) → (xs.flatMap g).length ≤ xs.length * m
  | [], _ => by simp
  | x :: xs, h => by
    rw [List.flatMap_cons, List.length_append, List.length_cons, Nat.succ_mul]
    have := h x List.mem_cons_self
    have := flat_le (xs := xs) fun y hy => h y (List.mem_cons_of_mem _ hy)
    omega
theorem subs_len {items : List Nm} (hi : items.length ≤ 4) : ∀ n, (subs items n).length ≤ 4 ^ n
  | 0 => by simp [subs]
  | n + 1 => by
    rw [subs_succ, Nat.pow_succ]
    have := flat_le (xs := subs items n) (g := fun c : List Nm × Nat => (items.drop c.2).zipIdx.map fun p => (c.1 ++ [p.1], c.2 + p.2 + 1)) (m := 4) fun c _ => by
      rw [List.length_map, List.length_zipIdx, List.length_drop]; omega
    exact Nat.le_trans this (Nat.mul_le_mul_right 4 (subs_len hi n))
theorem subs_len4 {items : List Nm} (hi : items.length ≤ 4) {n : Nat} (hn : n ≤ 5) : (subs items n).length ≤ 1024 := Nat.le_trans (subs_len hi n) (Nat.le_trans (Nat.pow_le_pow_right (by decide) hn) (by decide))
def dSb (c : List Nm × Nat) : D := .tuple [eF.enc c.1, .int (c.2 : Nat)]
theorem flat_takeG {α β : Type} {g : α → List β} {cs : List α} {i : Nat} {c : α} (h : cs[i]? = some c) : (cs.take (i + 1)).flatMap g = (cs.take i).flatMap g ++ g c := by
  rw [take_more h, List.flatMap_append]
  simp
def T_subsets : Tp := fun Rs κ => ∃ (items : List Nm) (n : Nat), Rs = [li (items.map eN.enc), nt n] ∧ items.length ≤ 4 ∧ n ≤ 4 ∧ κ (li ((subs items n).map fun c => eF.enc c.1))
theorem P_subsets {G : Gb} (g : Gx G) (S : Std G "subsets" "subsets" s_subsets) : Prom G "subsets" 1 p_subsets (SpF T_subsets) := by
  refine S.prom sc_subsets (by rintro Rs κ ⟨_, _, rfl, _⟩; rfl) (fun _ _ _ _ _ _ us hl => match us, hl with | [_, _], _ => rfl) fun X f Rs κ C hU h => ?_
  obtain ⟨items, n, rfl, hi, hn, hκ⟩ := h
  let E0 : Option Ent → Option Ent → Env := fun fd lg => [some (.fz (li (items.map eN.enc))), some (.fz (nt n)), fd, none, lg, none, none, none]
  let fz : List (List Nm × Nat) → Option Ent := fun s => some (.fz (li (s.map dSb)))
  refine ws_cons (w_set 2 (ev_lst (ea_one (ev_tup (ea2 (ev_tup (ea_nil ⟨[], rfl, Nat.zero_le _, ev_int ⟨[eF.enc [], .int 0], rfl, (by show 2 ≤ 10000; decide), [dSb ([], 0)], rfl, (by show 1 ≤ 10000; decide), ?_⟩⟩)))))))
  refine ws_cons (w_for (S := List (List Nm × Nat)) (fun i s => s = subs items i) (fun s => E0 (fz s) none) [3] C (r_range1 g C (v 1 ⟨n, rfl, by omega, ?_⟩)))
  refine ⟨⟨_, rfl, le_refl _⟩, fun i s d hd hi2 hs => ?_, fun s hs => ?_⟩
  · subst hs
    have hin : i < n := by
      have := (List.getElem?_eq_some_iff.mp hd).1
      rw [rng_length] at this; exact this
    rw [rng_get hin] at hd
    have hd := (Option.some.inj hd).symm
    subst hd
    refine tn 3 sc_subsets.nd (ws_cons (w_setX 4 (ex_lst (ea_nil ⟨[], rfl, Nat.zero_le _, ?_⟩))))
    let gg : List Nm × Nat → List (List Nm × Nat) := fun c => (items.drop c.2).zipIdx.map fun p => (c.1 ++ [p.1], c.2 + p.2 + 1)
    refine ws_cons (w_for (S := List (List Nm × Nat)) (fun j t => t = ((subs items i).take j).flatMap gg) (fun t => E0 (fz (subs items i)) (some (.ow (lstO (t.map dSb))))) [5, 6] C (it_list (v 2 ⟨_, rfl, ?_⟩)))
    refine ⟨⟨[], rfl, le_keep (le_keep (le_keep (le_drop (le_keep (le_keep (le_keep (le_keep le_nil)))))))⟩, fun j t d hd hj ht => ?_, fun t ht => ?_⟩
    · obtain ⟨c, hc, rfl⟩ := at_map hd
      have hcm : c ∈ subs items i := List.mem_of_getElem? hc
      obtain ⟨c1, c2, c3⟩ := subs_sound items i c hcm
      have cl : c.1.length ≤ 4 := by omega
      have gl : (gg c).length ≤ 4 := by
        show ((items.drop c.2).zipIdx.map _).length ≤ 4
        rw [List.length_map, List.length_zipIdx, List.length_drop]; omega
      have tl : t.length ≤ 4096 := by
        rw [ht]
        have h1 := flat_le (xs := (subs items i).take j) (g := gg) (m := 4) fun c' _ => by
          show ((items.drop c'.2).zipIdx.map _).length ≤ 4
          rw [List.length_map, List.length_zipIdx, List.length_drop]; omega
        have h2 := subs_len4 hi (n := i) (by omega)
        rw [List.length_take] at h1
        have : min j (subs items i).length ≤ 1024 := by omega
        have := Nat.mul_le_mul_right 4 this
        omega
      refine at_tup (ds := [eF.enc c.1, .int (c.2 : Nat)]) C.at.calm rfl (ats_cons (tnC 5 hU.2 sc_subsets.nd (ats_cons (tn 6 sc_subsets.nd (ats_nil ?_)))))
      refine ws_cons (w_extend (ds := t.map dSb) 4 (r_lc [("at", 7)] C (r_range2 g C (v 6 (r_len g C (v 0 ⟨items.map eN.enc, .inl rfl, c.2, items.length, rfl, by rw [List.length_map], by omega, by omega, ?_⟩))))))
      refine lc_each (xs := List.range (items.length - c.2)) (fun j : Nat => .int ((c.2 : Int) + (j : Nat))) (fun j => dSb (c.1 ++ [items.getD (c.2 + j) wSw], c.2 + j + 1)) (fun j hj X' C' => tn 7 sc_subsets.nd fun X2 C2 => ?_) ?_
      · have hj' : c.2 + j < items.length := by have := List.mem_range.mp hj; omega
        have ha : atI (items.map eN.enc) ((c.2 : Int) + (j : Nat)) = some (eN.enc (items.getD (c.2 + j) wSw)) := by
          have e1 : ((c.2 : Int) + (j : Nat)) = ((c.2 + j : Nat) : Int) := by simp
          rw [e1, atI_nat (by rw [List.length_map]; exact hj'), List.getElem_map]
          simp [hj']
        refine ev_tup (ea2 (ev_catT (v 5 (ev_tup (ea_one (ev_ixL (by intro _ _; rfl) (v 0 (v 7 ⟨_, _, _, rfl, rfl, ha, [eN.enc (items.getD (c.2 + j) wSw)], rfl, (by show 1 ≤ 10000; decide), c.1.map eN.enc, [eN.enc (items.getD (c.2 + j) wSw)], rfl, rfl, ?_, ev_add (v 7 (ev_int ⟨_, _, rfl, rfl, [eF.enc (c.1 ++ [items.getD (c.2 + j) wSw]), .int (((c.2 + j + 1 : Nat)) : Int)], ?_, (by show 2 ≤ 10000; decide), rfl⟩))⟩))))))))
        · rw [List.length_map]; show _ + 1 ≤ 10000; omega
        · have e1 : (c.2 : Int) + (j : Nat) + 1 = ((c.2 + j + 1 : Nat) : Int) := by simp
          rw [e1]
          show [tu (c.1.map eN.enc ++ [eN.enc _]), _] = [tu ((c.1 ++ [_]).map eN.enc), _]
          rw [List.map_append]; rfl
      · have eg : (List.range (items.length - c.2)).map (fun j => dSb (c.1 ++ [items.getD (c.2 + j) wSw], c.2 + j + 1)) = (gg c).map dSb := by
          have : (List.range (items.length - c.2)).map (fun j => (c.1 ++ [items.getD (c.2 + j) wSw], c.2 + j + 1)) = gg c := by
            apply List.ext_getElem
            · show _ = ((items.drop c.2).zipIdx.map _).length
              rw [List.length_map, List.length_range, List.length_map, List.length_zipIdx, List.length_drop]
            · intro m h1 h2
              rw [List.length_map, List.length_range] at h1
              show _ = ((items.drop c.2).zipIdx.map _)[m]
              rw [List.getElem_map, List.getElem_map, List.getElem_range, List.getElem_zipIdx, List.getElem_drop]
              have : c.2 + m < items.length := by omega
              simp [this]
          rw [← this, List.map_map]; rfl
        rw [eg]
        refine ⟨_, rfl, by rw [List.length_map, List.length_map]; omega, ws_nil ⟨_, rfl, ?_⟩⟩
        rw [flat_takeG hc, List.map_append, ← ht]
        exact le_keep (le_keep (le_keep (le_keep (le_keep (le_drop (le_drop (le_keep le_nil)))))))
    · subst ht
      rw [List.length_map, List.take_length]
      refine ws_freeze 4 (lend_lst _) (ws_cons (w_set 2 (v 4 (ws_nil ⟨_, rfl, ?_⟩))))
      exact le_keep (le_keep (le_keep (le_keep (le_drop (le_keep (le_keep (le_keep le_nil)))))))
  · rw [rng_length] at hs
    subst hs
    refine ws_cons (ws_ret (r_lc [("chosen", 5), ("start", 6)] C (it_list (v 2 ⟨_, rfl, ?_⟩))))
    exact lc_each (xs := subs items n) dSb (fun c => eF.enc c.1) (fun c hc X' C' => at_tup (ds := [eF.enc c.1, .int (c.2 : Nat)]) C'.calm rfl (ats_cons (tn 5 sc_subsets.nd (ats_cons (tn 6 sc_subsets.nd (ats_nil fun X2 C2 => v 5 rfl)))))) hκ
end FR
set_option Elab.async false
set_option linter.all false
set_option maxRecDepth 100000
set_option maxHeartbeats 2000000
namespace FR
open PySem PySem.Spec PyProof.Rows L2
/-! ### the keys of a dict, sorted -/
theorem paired_ext {α β : Type} {F : α → β → Prop} : ∀ {l : List α} {m : List β}, l.length = m.length → (∀ (i : Nat) a b, l[i]? = some a → m[i]? = some b → F a b) → Paired F l m
  | [], [], _, _ => .nil
  | a :: l, b :: m, hl, h => .cons (h 0 a b rfl rfl) (paired_ext (by simpa using hl) fun i x y hx hy => h (i + 1) x y (by simpa using hx) (by simpa using hy))
theorem paired_at {α β : Type} {F : α → β → Prop} : ∀ {l : List α} {m : List β} {i : Nat} {a : α}, Paired F l m → l[i]? = some a → ∃ b, m[i]? = some b ∧ F a b
  | _, _, _, _, .nil, e => by simp at e
  | _, _, 0, _, .cons r _, e => by
    simp only [List.getElem?_cons_zero, Option.some.injEq] at e
    subst e
    exact ⟨_, rfl, r⟩
  | _, _, i + 1, _, .cons _ t, e => by
    simp only [List.getElem?_cons_succ] at e
    obtain ⟨b, h1, h2⟩ := paired_at (i := i) t e
    exact ⟨b, by simpa using h1, h2⟩
theorem keyIs_rel {k : Key} {v : Value} (h : keyIs k v = true) : RelV (kV k) v := by
  rcases keyIs_shape h with ⟨i, t, rfl, rfl⟩ | ⟨x, t, rfl, rfl⟩
  · exact ⟨t, rfl⟩
  · exact ⟨t, rfl⟩
theorem colr_dK {X : Cx} {H : Hp} {d : Addr} {kvs : List (Key × V)} (h : Rd H d (.dK kvs)) : ColR X (.ref d) H (· = kvs.map fun p => kV p.1) := fun pins s σ u I r A E R hA hR => by
  cases r
  obtain ⟨z, hs, vs, kv, dd⟩ := dk_rd I.hok h
  obtain ⟨es, ep, ⟨o, ho, hx, hdt⟩, hsz, hk⟩ := dd.raw
  have l2 : kvs.length = vs.length := Paired.length kv
  refine PySem.W.kdu_collect (kdl_raw hs hx hdt) hA ho (by omega) fun h' tk acc' kp it => ?_
  have hla : acc'.toList.length = kvs.length := by rw [Array.length_toList, it.1]; omega
  refine hR { s with heap := h', toks := tk } acc'.toList (kvs.map fun p => kV p.1) kp rfl rfl rfl (paired_ext (by rw [List.length_map, hla]) fun i a b ha hb => ?_)
  rw [List.getElem?_map] at ha
  obtain ⟨p, hp, rfl⟩ := Option.map_eq_some_iff.mp ha
  obtain ⟨en, hen, rfl⟩ := it.2 i b (by rw [← Array.getElem?_toList]; exact hb)
  have hi : i < es.size := by
    rcases Nat.lt_or_ge i es.size with h | h
    · exact h
    · rw [Array.getElem?_eq_none h] at hen; cases hen
  obtain ⟨q, hq, e1, e2⟩ := paired_at kv hp
  have := (hk i hi q.1 q.2 hq).1
  rw [Array.getElem?_eq_getElem hi] at hen
  cases hen
  rw [e1]
  exact keyIs_rel this
theorem kvr_keysD {F : Hp} : ∀ {xs : List (Key × V)} {kvs : List (Nm × D)}, KvR nmK F xs kvs → DqA F (xs.map fun p => kV p.1) ((kvs.map (·.1)).map eN.enc)
  | _, _, .nil => .nil
  | _, _, .cons (a := p) (b := q) h r => by
    rw [List.map_cons, List.map_cons, List.map_cons]
    refine .cons ?_ (kvr_keysD r)
    rw [h.1]
    exact Dq.str _
theorem gath_dK {G : Gb} {R : Rp} (kvs : List (Nm × D)) (h : R = dKR nmK kvs ∨ R = dKL nmK kvs) : Gath G eN R (kvs.map (·.1)) := fun X _ _ _ F M v d hv => by
  have key : ∃ a xs, v = .ref a ∧ Rd F a (.dK xs) ∧ KvR nmK F xs kvs := by
    rcases h with rfl | rfl
    · obtain ⟨a, od, xs, e, h1, r⟩ := hv; exact ⟨a, xs, e, .inr ⟨od, h1⟩, r⟩
    · exact hv
  obtain ⟨a, xs, rfl, hr, r⟩ := key
  exact (colr_dK (rd_ovl hr)).imp fun vs e => ⟨_, .refl _, by rw [e]; exact kvr_keysD r⟩
/-! ### split sets -/
def mustOf (cs : List Ch) : List Nm := srt eN ((fdOf cs).map (·.1))
def candsOf (S : Sys) (n : Nat) : List (List Nm) := (subs (othersOf S.hs (mustOf S.cs)) n).map fun c => srt eN (mustOf S.cs ++ c.1)
def foundOf (S : Sys) (n : Nat) : List (List Nm) := (candsOf S n).filter fun T => decide (cycFree (edgesOf S.cs) (othersOf S.hs T))
def fsetsOf (S : Sys) : List (List Nm) := match (List.range ((othersOf S.hs (mustOf S.cs)).length + 1)).find? (fun n => decide (foundOf S n ≠ [])) with
  | some n => srt eF (foundOf S n)
  | none => []
structure Sys.Small (S : Sys) : Prop where
  c : S.cs.length ≤ 40
  nd : S.hs.Nodup
  h : S.hs.length ≤ 4
  e : (edgesOf S.cs).length ≤ 1000
  f : (fdOf S.cs).length ≤ 4
theorem sortOk_found (S : Sys) (n : Nat) : SortOk eF (foundOf S n) := by
  refine ⟨fun _ _ h => (by cases h), ?_⟩
  by_cases h0 : mustOf S.cs = [] ∧ n = 0
  · left
    obtain ⟨_, rfl⟩ := h0
    have h1 := List.length_filter_le (fun T => decide (cycFree (edgesOf S.cs) (othersOf S.hs T))) (candsOf S 0)
    have h2 : (candsOf S 0).length = 1 := by unfold candsOf; rw [List.length_map]; rfl
    unfold foundOf
    omega
  · right; left
    intro T hT
    have hT := (List.mem_filter.mp hT).1
    obtain ⟨c, hc, rfl⟩ := List.mem_map.mp hT
    have hl : 0 < (srt eN (mustOf S.cs ++ c.1)).length := by
      rw [srt_length, List.length_append, (subs_sound _ n c hc).2.1]
      rcases Nat.eq_zero_or_pos n with h | h
      · have : mustOf S.cs ≠ [] := fun q => h0 ⟨q, h⟩
        have := List.length_pos_iff.mpr this
        omega
      · omega
    cases q : srt eN (mustOf S.cs ++ c.1) with
    | nil => rw [q] at hl; simp at hl
    | cons y ys => exact ⟨_, _, rfl⟩
def T_fsets (G : Gb) : Tp := fun Rs κ => ∃ S : Sys, Rs = [taskR G S] ∧ S.Small ∧ κ (li ((fsetsOf S).map eF.enc))
theorem P_fsets {G : Gb} (g : Gx G) (cf : ClsF G "Task" fTask) (S : Std G "fewest_sets" "fewest_sets" s_fewest_sets) (P1 : Prom G "others_than" 1 p_others_than (SpF T_others)) (P2 : Prom G "cycle_among" 2 p_cycle_among (SpF T_cycle)) (P3 : Prom G "subsets" 1 p_subsets (SpF T_subsets)) : Prom G "fewest_sets" 3 p_fewest_sets (SpF (T_fsets G)) := by
  refine S.prom sc_fewest_sets (by rintro Rs κ ⟨_, rfl, _⟩; rfl) (fun _ _ _ _ _ _ us hl => match us, hl with | [_], _ => rfl) fun X f Rs κ C hU h => ?_
  obtain ⟨S, rfl, sm, hκ⟩ := h
  have ek : (encF (fdOf S.cs)).map (·.1) = (fdOf S.cs).map (·.1) := by unfold encF; rw [List.map_map]; rfl
  let free := othersOf S.hs (mustOf S.cs)
  have fl : free.length ≤ 4 := Nat.le_trans (List.length_filter_le _ _) sm.h
  have ml : (mustOf S.cs).length ≤ 4 := by unfold mustOf; rw [srt_length, List.length_map]; exact sm.f
  let E0 : Option Ent → Option Ent → Env := fun c f => [some (.fz (taskR G S)), some (.fz (li (free.map eN.enc))), none, some (.fz (dat (eF.enc S.hs))), some (.fz (li ((mustOf S.cs).map eN.enc))), c, f, none, none]
  refine ws_cons (w_asg2 3 4 C hU.2 (ex_of (ev_svc (S := S) C (tk_system (S := S) C cf (v 0 ⟨rfl, rfl, ex_of (r_sorted g C (tk_forced (S := S) C cf (v 0 ⟨rfl, Nm, eN, _, gath_dK _ (.inl rfl), sortOk_N _, ?_, ?_⟩)))⟩)))))
  · rw [ek, List.length_map]; have := sm.f; omega
  rw [ek]
  refine ws_cons (w_set 1 (r_call P1 C (ea2 (v 3 (v 4 ⟨S.hs, mustOf S.cs, .inr rfl, ?_⟩)))))
  refine ws_cons (w_for (S := Unit) (fun i s => ∀ j, j < i → foundOf S j = []) (fun s => E0 none none) [2] C (r_range1 g C (ev_add (r_len g C (v 1 ⟨free.map eN.enc, .inl rfl, ev_int ⟨_, _, rfl, rfl, free.length + 1, by rw [List.length_map]; simp, by omega, ?_⟩⟩)))))
  refine ⟨⟨(), fun j hj => absurd hj (by omega), le_refl _⟩, fun i s d hd hi hs => ?_, fun s hs => ?_⟩
  · have hin : i < free.length + 1 := by
      have := (List.getElem?_eq_some_iff.mp hd).1
      rw [rng_length] at this; exact this
    rw [rng_get hin] at hd
    have hd := (Option.some.inj hd).symm
    subst hd
    have ei : ((0 : Int) + (i : Nat)) = ((i : Nat) : Int) := by simp
    rw [ei]
    refine tn 2 sc_fewest_sets.nd ?_
    refine ws_cons (w_setLc 5 [("chosen", 7)] C (it_list (r_call P3 C (ea2 (v 1 (v 2 ⟨free, i, rfl, fl, by omega, _, rfl, ?_⟩))))))
    refine lc_each (xs := subs free i) (fun c => eF.enc c.1) (fun c => eF.enc (srt eN (mustOf S.cs ++ c.1))) (fun c hc X' C' => tn 7 sc_fewest_sets.nd fun X2 C2 => ?_) ?_
    · have cl : c.1.length ≤ 5 := by have := (subs_sound _ i c hc).2.1; omega
      refine r_tuple g C2 (r_sorted g C2 (ev_catL (v 4 (r_list g C2 (v 7 ⟨c.1.map eN.enc, .inr rfl, (mustOf S.cs).map eN.enc, c.1.map eN.enc, rfl, rfl, ?_, Nm, eN, mustOf S.cs ++ c.1, ?_, sortOk_N _, ?_, _, .inl rfl, rfl⟩)))))
      · rw [List.length_map, List.length_map]; omega
      · rw [← List.map_append]; exact gath_li _ _
      · rw [List.length_append]; omega
    have ec : ((subs free i).map fun c => eF.enc (srt eN (mustOf S.cs ++ c.1))) = (candsOf S i).map eF.enc := by unfold candsOf; rw [List.map_map]; rfl
    rw [ec]
    refine ws_cons (w_setLc 6 [("one", 8)] C (it_list (v 5 ⟨_, rfl, ?_⟩)))
    refine lc_mapT (xs := candsOf S i) eF.enc (fun T => decide (cycFree (edgesOf S.cs) (othersOf S.hs T))) eF.enc (fun T hT X' C' => tn 8 sc_fewest_sets.nd fun X2 C2 => ts_one (et_c (ec_isN (r_call P2 C2 (ea2 (tk_edges (S := S) C2 cf (v 0 ⟨rfl, r_call P1 C2 (ea2 (v 3 (v 8 ⟨S.hs, T, .inl rfl, edgesOf S.cs, othersOf S.hs T, _, rfl, .inl rfl, sm.nd.sublist List.filter_sublist, Nat.le_trans (List.length_filter_le _ _) (by have := sm.h; omega), sm.e, fun h => ⟨.none, rfl, _, rfl, ?_, fun _ X4 C4 => v 8 rfl⟩, fun h ds => ⟨.tuple ds, rfl, _, rfl, ?_, fun h' => (by cases h')⟩⟩)))⟩))))))) ?_
    · rw [decide_eq_true h]; rfl
    · rw [decide_eq_false h]; rfl
    have fle : (foundOf S i).length ≤ 1024 := by
      have h1 := List.length_filter_le (fun T => decide (cycFree (edgesOf S.cs) (othersOf S.hs T))) (candsOf S i)
      have h2 : (candsOf S i).length ≤ 1024 := by unfold candsOf; rw [List.length_map]; exact subs_len4 fl (by omega)
      unfold foundOf
      omega
    refine ws_cons (ws_if (et_c (ec_neE C.at (eL eF fun x => by have := eF_d x; omega) (v 6 (ev_lst (ea_nil ⟨[], rfl, Nat.zero_le _, foundOf S i, [], rfl, rfl, _, rfl, fun h => ?_, fun h => ws_nil (ws_nil ⟨(), fun j hj => ?_, ?_⟩)⟩))))))
    · rw [Bool.not_eq_true', decide_eq_false_iff_not] at h
      refine ws_cons (ws_ret (r_sorted g C (v 6 ⟨List Nm, eF, foundOf S i, gath_li _ _, sortOk_found S i, by omega, ?_⟩)))
      have e : fsetsOf S = srt eF (foundOf S i) := by
        unfold fsetsOf
        have : (List.range (free.length + 1)).find? (fun n => decide (foundOf S n ≠ [])) = some i := by
          rw [List.find?_eq_some_iff_getElem]
          refine ⟨decide_eq_true h, i, by rw [List.length_range]; exact hin, by rw [List.getElem_range], fun j hj => ?_⟩
          rw [List.getElem_range, hs j hj]; rfl
        show (match (List.range (free.length + 1)).find? (fun n => decide (foundOf S n ≠ [])) with | some n => srt eF (foundOf S n) | none => []) = _
        rw [this]
      rw [← e]; exact hκ
    · rw [Bool.not_eq_false', decide_eq_true_iff] at h
      rcases Nat.lt_succ_iff_lt_or_eq.mp hj with hj | rfl
      · exact hs j hj
      · exact h
    · exact le_keep (le_keep (le_drop (le_keep (le_keep (le_drop (le_drop (le_keep (le_keep le_nil))))))))
  · rw [rng_length] at hs
    refine ws_cons (ws_ret (ev_lst (ea_nil ⟨[], rfl, Nat.zero_le _, ?_⟩)))
    have e : fsetsOf S = [] := by
      unfold fsetsOf
      have : (List.range (free.length + 1)).find? (fun n => decide (foundOf S n ≠ [])) = none := by
        rw [List.find?_eq_none]
        intro j hj
        rw [hs j (List.mem_range.mp hj)]
        simp
      show (match (List.range (free.length + 1)).find? (fun n => decide (foundOf S n ≠ [])) with | some n => srt eF (foundOf S n) | none => []) = _
      rw [this]
    rw [e] at hκ; exact hκ
end FR
set_option Elab.async false
set_option linter.all false
set_option maxRecDepth 100000
set_option maxHeartbeats 2000000
namespace FR
open PySem PySem.Spec PyProof.Rows L2
def busyL (cs : List Ch) : List Nm := srt eN (dd ((stepsOf cs).map (·.2)))
def thOf (cs : List Ch) : List Nm := ((fdOf cs).filter fun p => decide (p.2 = 3)).map (·.1)
def T_busy (G : Gb) : Tp := fun Rs κ => ∃ S : Sys, Rs = [taskR G S] ∧ S.cs.length ≤ 40 ∧ κ (li ((busyL S.cs).map eN.enc))
def T_needed (G : Gb) : Tp := fun Rs κ => ∃ (S : Sys) (sp : List Nm) (r : List (List Nm)), Rs = [taskR G S] ∧ S.Small ∧ fsetsOf S = sp :: r ∧ κ (nt (((busyL S.cs).length + sp.length + (thOf S.cs).length : Nat) : Int))
theorem task_no (G : Gb) (S : Sys) (m : Str) (h : m ∉ fTask) : m ∉ (taskL G S).map (·.1) := fun q => h (by
  have e : (taskL G S).map (·.1) = (["task_forced", "task_edges", "task_owners", "task_pairs", "task_left", "task_system"] : List Str) := rfl
  rw [e] at q
  unfold fTask
  simp only [List.mem_cons, List.not_mem_nil, or_false] at q ⊢
  rcases q with e | e | e | e | e | e <;> subst e <;> simp)
theorem P_needed {G : Gb} (g : Gx G) (cf : ClsF G "Task" fTask) (S : Std G "releases_needed" "releases_needed" s_releases_needed) (P1 : PromM G "Task" "busy_services" 1 p_Taskbusy_services (SpF (T_busy G))) (P2 : Prom G "fewest_sets" 3 p_fewest_sets (SpF (T_fsets G))) : Prom G "releases_needed" 4 p_releases_needed (SpF (T_needed G)) := by
  refine S.prom sc_releases_needed (by rintro Rs κ ⟨_, _, _, rfl, _⟩; rfl) (fun _ _ _ _ _ _ us hl => match us, hl with | [_], _ => rfl) fun X f Rs κ C hU h => ?_
  obtain ⟨S, sp, r, rfl, sm, hfs, hκ⟩ := h
  refine ws_cons (w_setLc 1 [("service", 2), ("number", 3)] C (it_itemsK (tk_forced (S := S) C cf (v 0 ⟨rfl, _, rfl, ?_⟩))))
  have ee : (encF (fdOf S.cs)).map (fun p => PyData.tuple [eN.enc p.1, p.2]) = (fdOf S.cs).map fun p => PyData.tuple [eN.enc p.1, .int (p.2 : Nat)] := by unfold encF; rw [List.map_map]; rfl
  rw [ee]
  refine lc_mapT (xs := fdOf S.cs) (fun p => .tuple [eN.enc p.1, .int (p.2 : Nat)]) (fun p => decide (p.2 = 3)) (fun p => eN.enc p.1) (fun p hp X' C' => at_tup (ds := [eN.enc p.1, .int (p.2 : Nat)]) C'.calm rfl (ats_cons (tn 2 sc_releases_needed.nd (ats_cons (tn 3 sc_releases_needed.nd (ats_nil fun X2 C2 => ts_one (et_c (ec_eqI (v 3 (gi C2 g.c_THREE ⟨(p.2 : Nat), 3, rfl, rfl, _, rfl, ?_, fun _ X4 C4 => v 2 rfl⟩)))))))))) ?_
  · exact decide_eq_decide.mpr ⟨fun h => by omega, fun h => by omega⟩
  refine ws_cons (ws_ret (ev_add (ev_add (r_len g C (ev_meth0 P1 C (v 0 ⟨taskL G S, rfl, task_no G S _ (by decide +kernel), S, rfl, sm.c, _, .inl rfl, ?_⟩))))))
  refine r_len g C (ev_ixL (by intro _ _; rfl) (r_call P2 C (ea_one (v 0 ⟨S, rfl, sm, ?_⟩))))
  rw [hfs]
  refine ev_int ⟨_, 0, eF.enc sp, rfl, rfl, atI_0, _, .inr rfl, _, _, rfl, rfl, ?_⟩
  refine r_len g C (v 1 ⟨_, .inl rfl, _, _, rfl, rfl, ?_⟩)
  have e2 : (((busyL S.cs).map eN.enc).length : Int) + ((sp.map eN.enc).length : Int) + ((((fdOf S.cs).filter fun p => decide (p.2 = 3)).map fun p => eN.enc p.1).length : Int) = (((busyL S.cs).length + sp.length + (thOf S.cs).length : Nat) : Int) := by
    unfold thOf
    simp only [List.length_map]
    omega
  rw [e2]; exact hκ
/-! ### tasks made -/
structure Sys.FitT (S : Sys) : Prop where
  ft : S.Fit
  ps : ∀ p ∈ psOf S.cs, p.1 ∈ keysOf S.cs ∧ p.2 ∈ keysOf S.cs
def T_Task (G : Gb) : TpI := fun Rs κ => ∃ S : Sys, Rs = [sysR G S, tu ((keysOf S.cs).map eR.enc)] ∧ S.FitT ∧ κ (taskL G S)
def T_whole (G : Gb) : Tp := fun Rs κ => ∃ S : Sys, Rs = [sysR G S] ∧ S.FitT ∧ κ (taskR G S)
theorem P_whole {G : Gb} (g : Gx G) (S : Std G "whole_task" "whole_task" s_whole_task) (P1 : PromI G "Task" 7 p_Task__init__ (T_Task G)) (P2 : Prom G "all_steps" 6 p_all_steps (SpF (T_all_steps G))) : Prom G "whole_task" 9 p_whole_task (SpF (T_whole G)) := by
  refine S.prom sc_whole_task (by rintro Rs κ ⟨_, rfl, _⟩; rfl) (fun _ _ _ _ _ _ us hl => match us, hl with | [_], _ => rfl) fun X f Rs κ C hU h => ?_
  obtain ⟨S, rfl, ft, hκ⟩ := h
  exact ws_cons (ws_ret (ev_make P1 C (ea2 (v 0 (r_call P2 C (ea_one (v 0 ⟨S, rfl, ft.ft, S, rfl, ft, hκ⟩)))))))
def T_edges (G : Gb) : Tp := fun Rs κ => ∃ S : Sys, Rs = [sysR G S] ∧ S.FitT ∧ κ (tu ((edgesOf S.cs).map eR.enc))
theorem P_edges {G : Gb} (g : Gx G) (cf : ClsF G "Task" fTask) (S : Std G "edges" "edges" s_edges) (P1 : Prom G "whole_task" 9 p_whole_task (SpF (T_whole G))) : Prom G "edges" 10 p_edges (SpF (T_edges G)) := by
  refine S.prom sc_edges (by rintro Rs κ ⟨_, rfl, _⟩; rfl) (fun _ _ _ _ _ _ us hl => match us, hl with | [_], _ => rfl) fun X f Rs κ C hU h => ?_
  obtain ⟨S, rfl, ft, hκ⟩ := h
  exact ws_cons (ws_ret (r_tuple g C (tk_edges (S := S) C cf (r_call P1 C (ea_one (v 0 ⟨S, rfl, ft, rfl, _, .inl rfl, hκ⟩))))))
def T_find (G : Gb) : Tp := fun Rs κ => ∃ (S : Sys) (ws : List Nm), Rs = [sysR G S, tu (ws.map eN.enc)] ∧ S.FitT ∧ S.hs.Nodup ∧ S.hs.length ≤ 100 ∧ (edgesOf S.cs).length ≤ 1000 ∧ (cycFree (edgesOf S.cs) (othersOf S.hs ws) → κ (dat .none)) ∧ (¬ cycFree (edgesOf S.cs) (othersOf S.hs ws) → ∀ ds : List D, κ (tu ds))
theorem P_find {G : Gb} (g : Gx G) (S : Std G "find_cycle" "find_cycle" s_find_cycle) (P1 : Prom G "edges" 10 p_edges (SpF (T_edges G))) (P2 : Prom G "others_than" 1 p_others_than (SpF T_others)) (P3 : Prom G "cycle_among" 2 p_cycle_among (SpF T_cycle)) : Prom G "find_cycle" 11 p_find_cycle (SpF (T_find G)) := by
  refine S.prom sc_find_cycle (by rintro Rs κ ⟨_, _, rfl, _⟩; rfl) (fun _ _ _ _ _ _ us hl => match us, hl with | [_, _], _ => rfl) fun X f Rs κ C hU h => ?_
  obtain ⟨S, ws, rfl, ft, nd, hl, he, h1, h2⟩ := h
  exact ws_cons (ws_ret (r_call P3 C (ea2 (r_call P1 C (ea_one (v 0 ⟨S, rfl, ft, r_call P2 C (ea2 (ev_svc C (v 0 ⟨rfl, v 1 ⟨S.hs, ws, .inl rfl, edgesOf S.cs, othersOf S.hs ws, _, rfl, .inr rfl, nd.sublist List.filter_sublist, Nat.le_trans (List.length_filter_le _ _) hl, he, h1, h2⟩⟩)))⟩))))))
def T_few (G : Gb) : Tp := fun Rs κ => ∃ (S : Sys) (sp : List Nm) (r : List (List Nm)), Rs = [sysR G S] ∧ S.FitT ∧ S.Small ∧ fsetsOf S = sp :: r ∧ κ (nt (((busyL S.cs).length + sp.length + (thOf S.cs).length : Nat) : Int))
theorem P_few {G : Gb} (g : Gx G) (S : Std G "fewest_releases" "fewest_releases" s_fewest_releases) (P1 : Prom G "whole_task" 9 p_whole_task (SpF (T_whole G))) (P2 : Prom G "releases_needed" 4 p_releases_needed (SpF (T_needed G))) : Prom G "fewest_releases" 10 p_fewest_releases (SpF (T_few G)) := by
  refine S.prom sc_fewest_releases (by rintro Rs κ ⟨_, _, _, rfl, _⟩; rfl) (fun _ _ _ _ _ _ us hl => match us, hl with | [_], _ => rfl) fun X f Rs κ C hU h => ?_
  obtain ⟨S, sp, r, rfl, ft, sm, hfs, hκ⟩ := h
  exact ws_cons (ws_ret (r_call P2 C (ea_one (r_call P1 C (ea_one (v 0 ⟨S, rfl, ft, S, sp, r, rfl, sm, hfs, hκ⟩))))))
def T_fplan (G : Gb) : Tp := fun Rs κ => ∃ (S : Sys) (sp : List Nm) (r : List (List Nm)), Rs = [sysR G S] ∧ S.FitT ∧ S.Small ∧ fsetsOf S = sp :: r ∧ sp.length ≤ 100 ∧ cycFree (edgesOf S.cs) (othersOf S.hs sp) ∧ κ (tu ((planOf S sp).map dRun))
theorem P_fplan {G : Gb} (g : Gx G) (S : Std G "fewest_plan" "fewest_plan" s_fewest_plan) (P1 : Prom G "whole_task" 9 p_whole_task (SpF (T_whole G))) (P2 : Prom G "fewest_sets" 3 p_fewest_sets (SpF (T_fsets G))) (P3 : Prom G "plan_of" 5 p_plan_of (SpF (T_plan_of G))) : Prom G "fewest_plan" 10 p_fewest_plan (SpF (T_fplan G)) := by
  refine S.prom sc_fewest_plan (by rintro Rs κ ⟨_, _, _, rfl, _⟩; rfl) (fun _ _ _ _ _ _ us hl => match us, hl with | [_], _ => rfl) fun X f Rs κ C hU h => ?_
  obtain ⟨S, sp, r, rfl, ft, sm, hfs, hsl, hf, hκ⟩ := h
  refine ws_cons (w_set 1 (r_call P1 C (ea_one (v 0 ⟨S, rfl, ft, ?_⟩))))
  refine ws_cons (ws_ret (r_call P3 C (ea2 (v 1 (ev_ixL (by intro _ _; rfl) (r_call P2 C (ea_one (v 1 ⟨S, rfl, sm, ?_⟩))))))))
  rw [hfs]
  exact ev_int ⟨_, 0, eF.enc sp, rfl, rfl, atI_0, S, sp, rfl, sm.c, sm.nd, by have := sm.h; omega, hsl, sm.e, hf, hκ⟩
end FR
set_option Elab.async false
set_option linter.all false
set_option maxRecDepth 100000
set_option maxHeartbeats 2000000
namespace FR
open PySem PySem.Spec PyProof.Rows L2
/-! ### a dict comprehension, whatever its keys -/
/-- the store of one entry -/
theorem put_any {X : Cx} {pins : List (Addr × Obj)} {σ : L2.St} {H H' : Hp} {s : Shared} {Er : Value → Shared → Prop} {a : Addr} {y z : V} {u r : Value} {Q : Unit → Shared → Prop} (hu : X.A.units + 1 < cLine) (I : Inv X pins σ H s) (g : DPut H a y z H') (ry : RelV y u) (rz : RelV z r) (h : ∀ s', Inv X pins σ H' s' → Q () s') :
    wpAny (model X.prog X.w) X.A (dictSet a u r) Q Er s := by
  rcases g with ⟨kvs, kk, e1, rfl, hz, rfl⟩ | ⟨kvs, kk, b, e1, rfl, eb, hz, rfl⟩
  · exact d_dictSet I e1 hz ry rz h
  · obtain rfl : u = Value.ref b := ry
    obtain ⟨zz, hm, xs, rel, dd⟩ := dt_of I.hok e1
    have le := length_putK kvs kk z
    refine wpAny_dictSet_heap (hsz := by rw [← Paired.length rel]; exact zz) (show X.A.units < cLine by omega) (key_of I.hok eb) dd fun h2 dd2 kp => h _ ?_
    obtain ⟨q, es, ep, hq, c1, c2, c3, _, c4⟩ := dd2
    refine d_write I (by rw [e1]; exact True.intro) kp ⟨q, hq⟩ ⟨by omega, hm, _, (rel.put kk eb rz).keeps fun c ys ec => ?_, q, es, ep, hq, c1, c2, c3, c4⟩
    rw [upd_ne (ne_of ec e1 fun t => nomatch t)]
    exact ec
section
variable {X : Cx}
def tDcG (o0 : HO) (wi : TI) (g : TG) (tt : TT) (tk tv : TE) (vs : List Nat) : TE := fun σ H Q => wi σ H fun J H1 => ∀ D, H1 D = none → ∃ W : Nat → Nat → Hp → Prop, (∃ m, W 0 m (L2.upd H1 D o0)) ∧ ∀ i m H, W i m H →
  (J.stop i H ∧ Q (.ref D) H) ∨ (J.go i H ∧ ∃ Nx : Hp → Prop, (∀ H', Nx H' → ∃ m', m' < m ∧ W (i + 1) m' H') ∧ ∀ x H', J.yld i H x H' → g x (wipe σ vs) H' fun σ2 H2 => wipe σ2 vs = wipe σ vs ∧ tt σ2 H2 fun b H3 =>
    if b = true then tk σ2 H3 fun y H4 => tv σ2 H4 fun z H5 => ∃ H6, DPut H5 D y z H6 ∧ Nx H6 else Nx H3)
theorem dcg_core (o0 : HO) (hnew : ∀ (P : Program) (w : World) (H : Hp) (h : Heap), sysModules < h.objs.size → ObjOk P w H (h.push { cls := .type "dict", data := .dict #[] }) h.objs.size o0) {kx vx tg iter : Expr} {ifs : List Expr} {scope : Scope} {own : List (Str × Nat)} {pos : Pos} {wi : TI} {g : TG} {tt : TT} {tk tv : TE}
    {pos' : Pos} {use : Option (Value → Sem Unit)} {Qf : Value → Shared → Prop} {pins : List (Addr × Obj)} {s : Shared} {σ : L2.St} {H : Hp} {Q : VK} (hu : X.A.units + 1 < cLine) (hc : X.calm = true) (hN : X.N.Nodup) (hi : PI X tg iter wi) (ok : BlkOk X.N X.env.scope scope own)
    (hg : ∀ (s : Shared) (H : Hp) (C : Addr) (cl : List (Str × Addr)) (fp : List Addr), PG (X.blk s H scope (compEnvC scope cl C X.env) fp) tg g)
    (ht : ∀ (s : Shared) (H : Hp) (C : Addr) (cl : List (Str × Addr)) (fp : List Addr), PTs (X.blk s H scope (compEnvC scope cl C X.env) fp) ifs tt)
    (hk : ∀ (s : Shared) (H : Hp) (C : Addr) (cl : List (Str × Addr)) (fp : List Addr), PE (X.blk s H scope (compEnvC scope cl C X.env) fp) kx tk)
    (he : ∀ (s : Shared) (H : Hp) (C : Addr) (cl : List (Str × Addr)) (fp : List Addr), PE (X.blk s H scope (compEnvC scope cl C X.env) fp) vx tv)
    (hs : ∀ x, foldedSetIterable iter X.env x = pure x) (I : Inv X pins σ H s) (h : tDcG o0 wi g tt tk tv (own.map (·.2)) σ H Q)
    (hRR : ∀ D C s' m H', Inv X pins σ H' s' → Q (.ref D) H' → s'.heap.Ns C m → FpOk X pins H' C → compPost (model X.prog X.w) X.A X.xe use Qf (.ref D) C (.ok .next) s') : wpAny (model X.prog X.w) X.A (comprehension (.DictComp kx vx [⟨tg, iter, ifs, 0⟩] scope pos) scope X.env pos' newDict false (eval iter X.env) use) Qf X.xe s := by
  have free1 : ∀ y ∈ scope.names, y.2 = .free → ∃ c, X.env.cells.lookup y.1 = some c := fun y hy e => (ok.free y hy e).elim (fun q => I.ok.has _ (.inl q)) fun q => I.ok.has _ (.inr q)
  refine wpAny_comprehension_free (use := use) rfl hs (closure_ok free1) ok.kind (fun y hy e => by rw [ok.uniq y hy, e]) (thn (hi.run pins s σ H _ I h) fun _ s1 hx => thn hx fun itv s2 h2 => ?_)
  obtain ⟨it, fp, tn, J, Ha, rfl, Ia, T, sta, fpa, q⟩ := h2
  refine wpAny_newObj_type (newEnv_comp ?_)
  -- the new dict
  obtain ⟨D, hD⟩ : ∃ D, s2.heap.objs.size = D := ⟨_, rfl⟩
  rw [hD]
  have nD : Ha D = none := Ia.hok.fresh (Nat.le_of_eq hD)
  obtain ⟨W, ⟨m0, w0⟩, turn⟩ := q D nD
  obtain ⟨sb, hsb⟩ : ∃ sb : Shared, sb = { s2 with heap := s2.heap.push { cls := .type "dict", data := .dict #[] } } := ⟨_, rfl⟩
  obtain ⟨Hb, hHb⟩ : ∃ Hb : Hp, Hb = L2.upd Ha D o0 := ⟨_, rfl⟩
  have Ib : Inv X pins σ Hb sb := by
    rw [hsb, hHb]
    refine Ia.laid (t' := s2.toks) (fun b o e => Heap.get?_push_of_some _ e) (Nat.le_of_eq hD) ?_
    rw [← hD]
    exact hnew _ _ _ s2.heap Ia.big
  have hpb : sb.heap = s2.heap.push { cls := .type "dict", data := .dict #[] } := by rw [hsb]
  have fpb : ∀ b ∈ fp, FpOk X pins Hb b ∧ b < sb.heap.objs.size := fun b hb => by
    obtain ⟨o, e, _⟩ := T.obj _ _ sta b hb
    have lt : b < s2.heap.objs.size := Heap.lt_size e
    refine ⟨⟨?_, (fpa b hb).2⟩, by rw [hpb, Heap.size_push]; exact Nat.lt_succ_of_lt lt⟩
    rw [hHb, upd_ne (by rw [← hD]; exact Nat.ne_of_lt lt)]
    exact (fpa b hb).1
  have stb : tn 0 sb.heap := T.keep _ _ _ sta fun b _ o e => by rw [hpb]; exact Heap.get?_push_of_some _ e
  have Ic := block_start Ib ok hN fpb
  rw [← hHb] at w0
  obtain ⟨ce, hce⟩ : ∃ ce, ce = compEnvC scope (cellsFrom (sb.heap.objs.size + 1) scope.names (cloFrom X.env.cells scope.names [])) sb.heap.objs.size X.env := ⟨_, rfl⟩
  have pg := hg sb Hb sb.heap.objs.size (cellsFrom (sb.heap.objs.size + 1) scope.names (cloFrom X.env.cells scope.names [])) fp
  have pt := ht sb Hb sb.heap.objs.size (cellsFrom (sb.heap.objs.size + 1) scope.names (cloFrom X.env.cells scope.names [])) fp
  have pk := hk sb Hb sb.heap.objs.size (cellsFrom (sb.heap.objs.size + 1) scope.names (cloFrom X.env.cells scope.names [])) fp
  have pv := he sb Hb sb.heap.objs.size (cellsFrom (sb.heap.objs.size + 1) scope.names (cloFrom X.env.cells scope.names [])) fp
  rw [← hce] at Ic pg pt pk pv
  have nfp : ∀ b ∈ fp, Hb b = none := fun b hb => (fpb b hb).1.1
  have cL : ce.locals = sb.heap.objs.size := by rw [hce]; rfl
  obtain ⟨sc, hsc⟩ : ∃ sc : Shared, sc = { sb with heap := pushCells (sb.heap.push { cls := .type "dict", data := .dict #[] }) scope.names } := ⟨_, rfl⟩
  rw [← hsc] at Ic
  have stc : tn 0 sc.heap := T.keep _ _ _ stb fun b _ o e => by rw [hsc]; exact pushCells_keeps _ _ _ _ (Heap.get?_push_of_some _ e)
  suffices run : codeAny (model X.prog X.w) X.A (.compLoop (.DictComp kx vx [⟨tg, iter, ifs, 0⟩] scope pos) 0 (.ref it) (.ref D) ce) (compPost (model X.prog X.w) X.A X.xe use Qf (.ref D) sb.heap.objs.size) sc by
    have := codeAny_compStart_dict run (T.self X.A 0 _ _ _ stc run)
    rw [hsc, hce, hsb] at this
    exact this
  have ex : ∀ {σ' : L2.St} {H' : Hp} {s' : Shared}, Inv (X.blk sb Hb scope ce fp) [] σ' H' s' → (∀ b ∈ fp, H' b = none) → ∀ b ∈ fp, FpOk (X.blk sb Hb scope ce fp) [] H' b := fun {σ' H' s'} I' hn b hb =>
    let z := I'.ok.exf b hb
    ⟨hn b hb, z.1, I'.ok.exfs b hb, .inl hb, fun x c e => z.2 x c e, fun p hp => nomatch (show p ∈ ([] : List (Addr × Obj)) from hp)⟩
  refine compLoop_anyD (fun n s' => ∃ i H', Inv (X.blk sb Hb scope ce fp) [] (wipe σ (own.map (·.2))) H' s' ∧ tn i s'.heap ∧ (∀ b ∈ fp, H' b = none) ∧ W i n H') ?_ m0 ⟨0, Hb, Ic, stc, nfp, w0⟩
  rintro n s5 ⟨i, H5, I5, st5, n5, w5⟩
  rcases turn i n H5 w5 with ⟨stop, qq⟩ | ⟨go, Nx, hNx, step⟩
  · refine thnF (T.done (X.blk sb Hb scope ce fp) rfl rfl rfl hc i [] s5 _ H5 (fun _ _ => False) I5 (ex I5 n5) st5 stop) fun r s6 ⟨hr, I6⟩ => ?_
    subst hr
    have I7 : Inv X pins σ H5 s6 := Ib.call' (ch := fp) I6.os I6.base I6.hok I6.bare fun b hb => let z := (fpb b hb).1; ⟨z.2.2.2.1, z.2.1, z.2.2.2.2.1, z.2.2.2.2.2⟩
    have nC : H5 sb.heap.objs.size = none := by
      have z : H5 ce.locals = none := I6.free
      rwa [cL] at z
    obtain ⟨m, hn, _⟩ := I6.loc
    have hn : s6.heap.Ns ce.locals m := hn
    rw [cL] at hn
    exact hRR D sb.heap.objs.size s6 m H5 I7 qq hn (Ib.fpOk (Nat.le_refl _) nC)
  · refine thnF (T.item (X.blk sb Hb scope ce fp) rfl rfl rfl hc i [] s5 _ H5 (fun _ _ => False) I5 (ex I5 n5) st5 go) fun r s6 ⟨u, hr, h6⟩ => ?_
    subst hr
    refine thnF h6 fun _ s7 ⟨x, H7, I7, r7, y7, st7, n7⟩ => ?_
    refine thnF (pg.run _ s7 _ H7 x u _ (I7.pinned (ex I7 n7) (T.obj _ _ st7)) r7 (step x H7 y7)) fun _ s8 ⟨σ8, H8, I8, hw8, q8⟩ => ?_
    refine thnF (pt.run _ s8 σ8 H8 _ I8 q8) fun b s9 ⟨H9, I9, q9⟩ => ?_
    have fin : ∀ {s' : Shared} {H' : Hp}, Inv (X.blk sb Hb scope ce fp) ([] ++ pinsAt fp s7.heap) σ8 H' s' → Nx H' → ∃ m, m < n ∧ ∃ i H', Inv (X.blk sb Hb scope ce fp) [] (wipe σ (own.map (·.2))) H' s' ∧ tn i s'.heap ∧ (∀ b ∈ fp, H' b = none) ∧ W i m H' := fun {s' H'} I' nx => by
      obtain ⟨m', hm, w'⟩ := hNx H' nx
      have keep : ∀ b ∈ fp, ∀ o, s7.heap.get? b = some o → s'.heap.get? b = some o ∧ H' b = none := fun b hb o e => by
        have z := I'.pin (b, o) (List.mem_append_right _ (List.mem_append_right _ (mem_pinsAt hb e)))
        exact ⟨z.1, z.2.1⟩
      have hl : (wipe σ (own.map (·.2))).length = σ8.length := by rw [← hw8, wipe_length]
      refine ⟨m', hm, i + 1, H', (I'.unpinned (pins := [])).weak hl (fun j v e => by rw [← hw8] at e; exact (wipe_some e).1), T.keep _ _ _ st7 fun b hb o e => (keep b hb o e).1, fun b hb => ?_, w'⟩
      obtain ⟨o, e, _⟩ := T.obj _ _ st7 b hb
      exact (keep b hb o e).2
    cases b with
    | false =>
      rw [if_neg Bool.false_ne_true] at q9
      exact fin I9 q9
    | true =>
      rw [if_pos rfl] at q9
      refine thnF (pk.run _ s9 σ8 H9 _ I9 q9) fun z1 sA ⟨yk, HA, IA, rA, qA⟩ => ?_
      refine thnF (pv.run _ sA σ8 HA _ IA qA) fun z2 sB ⟨yv, HB, IB, rB, HC, hput, nx⟩ => ?_
      exact put_any (X := X.blk sb Hb scope ce fp) hu IB hput rA rB fun sC IC => fin IC nx
theorem pe_dcg (o0 : HO) (hnew : ∀ (P : Program) (w : World) (H : Hp) (h : Heap), sysModules < h.objs.size → ObjOk P w H (h.push { cls := .type "dict", data := .dict #[] }) h.objs.size o0) {kx vx tg iter : Expr} {ifs : List Expr} {scope : Scope} {own : List (Str × Nat)} {pos : Pos} {wi : TI} {g : TG} {tt : TT} {tk tv : TE}
    (hu : X.A.units + 1 < cLine) (hc : X.calm = true) (hN : X.N.Nodup) (hi : PI X tg iter wi) (ok : BlkOk X.N X.env.scope scope own)
    (hg : ∀ (s : Shared) (H : Hp) (C : Addr) (cl : List (Str × Addr)) (fp : List Addr), PG (X.blk s H scope (compEnvC scope cl C X.env) fp) tg g)
    (ht : ∀ (s : Shared) (H : Hp) (C : Addr) (cl : List (Str × Addr)) (fp : List Addr), PTs (X.blk s H scope (compEnvC scope cl C X.env) fp) ifs tt)
    (hk : ∀ (s : Shared) (H : Hp) (C : Addr) (cl : List (Str × Addr)) (fp : List Addr), PE (X.blk s H scope (compEnvC scope cl C X.env) fp) kx tk)
    (he : ∀ (s : Shared) (H : Hp) (C : Addr) (cl : List (Str × Addr)) (fp : List Addr), PE (X.blk s H scope (compEnvC scope cl C X.env) fp) vx tv)
    (hs : ∀ x, foldedSetIterable iter X.env x = pure x := by intro _; rfl) : PE X (.DictComp kx vx [⟨tg, iter, ifs, 0⟩] scope pos) (tDcG o0 wi g tt tk tv (own.map (·.2))) := by
  refine ⟨fun pins s σ H Q I h => ?_⟩
  rw [arm_eval_DictComp]
  refine dcg_core o0 hnew hu hc hN hi ok hg ht hk he hs I h fun D C s' m H' I' q hn f => ⟨m, hn, fun h9 same => ?_⟩
  obtain ⟨f0, f1, f2, f3, f4, f5⟩ := f
  exact ⟨.ref D, H', I'.turned (t' := s'.toks) (fun b o hb e => (same.2 b hb).trans e) f0 f1 f3 f4 f5, rfl, q⟩
/-- given to a name at once -/
theorem ps_setDcg (o0 : HO) (hnew : ∀ (P : Program) (w : World) (H : Hp) (h : Heap), sysModules < h.objs.size → ObjOk P w H (h.push { cls := .type "dict", data := .dict #[] }) h.objs.size o0) {kx vx tg iter : Expr} {ifs : List Expr} {scope : Scope} {own : List (Str × Nat)} {pos : Pos} {wi : TI} {g : TG} {tt : TT} {tk tv : TE}
    {i : Nat} {y : Str} {py spos : Pos} (hy : X.N[i]? = some y) (hyl : X.env.scope.names.lookup y = some .local) (hsw : swapsWith (.DictComp kx vx [⟨tg, iter, ifs, 0⟩] scope pos) (some (.Name y py)) spos.line X.env = pure true) (hu : X.A.units + 1 < cLine) (hc : X.calm = true) (hN : X.N.Nodup) (hi : PI X tg iter wi) (ok : BlkOk X.N X.env.scope scope own)
    (hg : ∀ (s : Shared) (H : Hp) (C : Addr) (cl : List (Str × Addr)) (fp : List Addr), PG (X.blk s H scope (compEnvC scope cl C X.env) fp) tg g)
    (ht : ∀ (s : Shared) (H : Hp) (C : Addr) (cl : List (Str × Addr)) (fp : List Addr), PTs (X.blk s H scope (compEnvC scope cl C X.env) fp) ifs tt)
    (hk : ∀ (s : Shared) (H : Hp) (C : Addr) (cl : List (Str × Addr)) (fp : List Addr), PE (X.blk s H scope (compEnvC scope cl C X.env) fp) kx tk)
    (he : ∀ (s : Shared) (H : Hp) (C : Addr) (cl : List (Str × Addr)) (fp : List Addr), PE (X.blk s H scope (compEnvC scope cl C X.env) fp) vx tv)
    (hs : ∀ x, foldedSetIterable iter X.env x = pure x := by intro _; rfl) : PS X (.Assign [.Name y py] (.DictComp kx vx [⟨tg, iter, ifs, 0⟩] scope pos) spos) (tAsg (tDcG o0 wi g tt tk tv (own.map (·.2))) (gName i)) := by
  refine ⟨fun pins s σ H D I h => ?_⟩
  rw [exec_Assign_Name_used _ _ _ _ hsw]
  refine wpAny_bind (wpAny_standAt (wpAny_bind ?_))
  show wpAny _ X.A (do let _ ← comprehension (.DictComp kx vx [⟨tg, iter, ifs, 0⟩] scope pos) scope X.env (firstIterPos [⟨tg, iter, ifs, 0⟩] pos) newDict false (eval iter X.env) (some (assign (.Name y py) X.env))) _ _ s
  have h2 : tDcG o0 wi g tt tk tv (own.map (·.2)) σ H (fun x H1 => gName i x σ H1 D.nx) := h
  refine wpAny_bind (thn (dcg_core (Qf := fun _ s' => SP X pins D .next s') o0 hnew hu hc hN hi ok hg ht hk he hs I h2 fun L C s' m H' I' q hn f => ?_) fun _ s' hq => wpAny_pure (wpAny_pure hq))
  refine wpAny_assign_Name (store_ok2 (v := V.ref L) I' hN hy (.inl hyl) rfl (fun s2 I2 ⟨a, same, ha⟩ => ?_) (.inr hyl))
  obtain ⟨f0, f1, f2, f3, f4, f5⟩ := f
  have ne : C ≠ a := ha.elim (fun z => by rw [z]; exact f1) fun z e => f4 y a z e.symm
  refine ⟨m, hn.sameBut same ne, fun h3 same3 => ?_⟩
  exact ⟨_, H', I2.turned (t' := s2.toks) (fun b o hb e => (same3.2 b hb).trans e) f0 f1 f3 f4 f5, q⟩
end
end FR
set_option Elab.async false
set_option linter.all false
set_option maxRecDepth 100000
set_option maxHeartbeats 2000000
namespace FR
open PySem PySem.Spec PyProof.Rows L2
section
variable {X : Cx} {f : Fx} {ρ : Env} {e a b c : Expr} {es : List Expr} {s : Stmt} {ss : List Stmt} {κ : Rp → Prop} {Φ : Post} {pos p : Pos} {G : Gb} {k : Nat} {N : List Str} {sc : Scope}
/-- the value's object is frozen for good -/
theorem wpE_post {σ : L2.St} {H : Hp} {Q : VK} (h : wpE X e σ H fun v H' => ∃ d u, H' d = some u ∧ Mut (some u) ∧ ∀ od, Q v (L2.upd H' d (.frz od u))) : wpE X e σ H Q := fun pins s I =>
  thn (h pins s I) fun _ _ ⟨v, H', I', r, d, u, hd, mu, q⟩ => by
    obtain ⟨od, I2⟩ := I'.lock hd mu
    exact ⟨v, _, I2, r, q od⟩
/-- what a dict comprehension over pairs of names as keys is to show -/
def DcOk (G : Gb) (k : Nat) (f : Fx) (ρ : Env) (N : List Str) (sc scope : Scope) (js : List Nat) (tg kx vx : Expr) (ifs : List Expr) (κ : Rp → Prop) (ds : List D) : Prop :=
  ∃ J : Nat → List (Pr × D) → Prop, J 0 [] ∧ (∀ i acc dd, ds[i]? = some dd → J i acc → acc.length ≤ 10000 ∧ ∀ X', Ctx G k X' → AsT (mkX X' N (relS scope sc)) f (wipeE ρ js) tg (dat dd) js fun ρ1 => ∀ X', Ctx G k X' → EvTs (mkX X' N (relS scope sc)) f ρ1 ifs fun b =>
    (b = true → ∀ X', Ctx G k X' → EvE (mkX X' N (relS scope sc)) f ρ1 kx fun R => ∃ p, R = dat (eR.enc p) ∧ ∀ X', Ctx G k X' → EvE (mkX X' N (relS scope sc)) f ρ1 vx fun S => ∃ d, S = dat d ∧ J (i + 1) (pt acc p d)) ∧ (b = false → J (i + 1) acc)) ∧ ∀ acc, J ds.length acc → κ (dTR acc)
theorem ev_dcT {scope : Scope} (own : List (Str × Nat)) {tg iter kx vx : Expr} {ifs : List Expr} (C : Ctx G k X)
    (h : EvIt (mkX X N sc) f ρ tg iter (DcOk G k f ρ N sc scope (own.map (·.2)) tg kx vx ifs κ)) (hN : N.Nodup := by decide +kernel) (hB : blkC N sc scope own = true := by decide +kernel) (hs : ∀ x, foldedSetIterable iter (mkX X N sc).env x = pure x := by intro _; rfl) : EvE (mkX X N sc) f ρ (.DictComp kx vx [⟨tg, iter, ifs, 0⟩] scope pos) κ := fun F M σ d E Q hQ => by
  refine wpE_post (wpE_of (pe_dcg (X := mkX X N sc) (.dT []) (fun P w H h hb => dt_empty h hb) (own := own) (hu_of' C.at) C.at.calm hN pi_wp (blkOk_by hB) pg_blk pts_blk pe_blk pe_blk hs) ?_)
  refine h F M σ d E _ fun K ds F1 M1 hk hsz hW k1 d1 s1 => ?_
  obtain ⟨J, j0, turn, fin⟩ := hk
  intro D hD
  have E1 := E.step k1 s1
  obtain ⟨fD, mD⟩ := ovl_none hD
  have nU : f.U ≠ some D := fun z => by
    obtain ⟨_, o', e, _⟩ := E1.urn D z
    rw [mD] at e; cases e
  let Inv' : Nat → Hp → Prop := fun i H => ∃ acc xs F2 M2, J i acc ∧ KvR pk F2 xs acc ∧ M2 D = some (.dT xs) ∧ Same F1 F2 ∧ Dis F2 M2 ∧ f.step M1 M2 ∧ H = ovl F2 M2
  refine ⟨fun i m H => m = ds.length - i ∧ i ≤ ds.length ∧ Inv' i H, ⟨ds.length, by simp, Nat.zero_le _, [], [], F1, L2.upd M1 D (.dT []), j0, .nil, upd_same, Same.refl _, dis_newM d1 fD rfl, ⟨fun a o _ z => same_updN mD a o z, fun u hu => ?_⟩, upd_ovlM fD⟩, ?_⟩
  · obtain ⟨_, o', z, i⟩ := E1.urn u hu
    exact ⟨o', same_updN mD _ _ z, i⟩
  rintro i m H2 ⟨rfl, hi, acc, xs, F2, M2, hj, hx, hDl, k2, d2, s2, rfl⟩
  obtain ⟨hgo, hstop⟩ := hW i F2 M2 k2 d2
  have E2 : EnvOk f σ ρ F2 M2 := E1.step k2 s2
  by_cases hlt : i < ds.length
  · obtain ⟨go, yl⟩ := hgo hlt
    refine .inr ⟨go, Inv' (i + 1), fun H' hN => ⟨ds.length - (i + 1), by omega, rfl, hlt, hN⟩, fun x H' hy s5 H5 C5 cl5 fp5 => ?_⟩
    obtain ⟨F3, dd, hd, k3, d3, rfl, hxx⟩ := yl x H' hy
    obtain ⟨X', C', eX⟩ := Ctx.blk (N := N) (sc := sc) (scope := scope) (s := s5) (H := H5) (C := C5) (cl := cl5) (fp := fp5) C
    rw [eX]
    obtain ⟨hal, turn⟩ := turn i acc dd hd hj
    refine turn X' C' F3 M2 (wipe σ (own.map (·.2))) x d3 ((E2.mono k3).wipeOk _) hxx _ fun ρ4 σ4 F4 M4 hb w4 k4 d4 s4 E4 => ?_
    refine ⟨w4.trans (wipe_wipe _), fun s6 H6 C6 cl6 fp6 => ?_⟩
    obtain ⟨X6, C6', eX6⟩ := Ctx.blk (N := N) (sc := sc) (scope := scope) (s := s6) (H := H6) (C := C6) (cl := cl6) (fp := fp6) C
    rw [eX6]
    refine hb X6 C6' F4 M4 σ4 d4 E4 _ fun b F5 M5 hbb k5 d5 s5' => ?_
    have at5 : M5 D = some (.dT xs) := s5'.1 D _ nU (s4.1 D _ nU hDl)
    have st5 : f.step M1 M5 := stepT s2 (stepT s4 s5')
    cases b with
    | true =>
      refine iteT fun s7 H7 C7 cl7 fp7 => ?_
      obtain ⟨X7, C7', eX7⟩ := Ctx.blk (N := N) (sc := sc) (scope := scope) (s := s7) (H := H7) (C := C7) (cl := cl7) (fp := fp7) C
      rw [eX7]
      refine hbb.1 rfl X7 C7' F5 M5 σ4 d5 (E4.step k5 s5') _ fun v R F6 M6 hk6 hv6 k6 d6 s6' => ?_
      obtain ⟨q, rfl, hk6⟩ := hk6
      intro s8 H8 C8 cl8 fp8
      obtain ⟨X8, C8', eX8⟩ := Ctx.blk (N := N) (sc := sc) (scope := scope) (s := s8) (H := H8) (C := C8) (cl := cl8) (fp := fp8) C
      rw [eX8]
      refine hk6 X8 C8' F6 M6 σ4 d6 (E4.step (k5.trans k6) (stepT s5' s6')) _ fun w S F7 M7 hk7 hv7 k7 d7 s7' => ?_
      obtain ⟨dv, rfl, hj'⟩ := hk7
      have hv6 := (dat (eR.enc q)).mono _ _ _ k7 hv6
      obtain ⟨bb, rfl, eb⟩ := eR_key hv6
      have at7 : M7 D = some (.dT xs) := s7'.1 D _ nU (s6'.1 D _ nU at5)
      have st7 : f.step M1 M7 := stepT st5 (stepT s6' s7')
      have fD7 : F7 D = none := d7 _ _ at7
      have hlx : xs.length = acc.length := Paired.length hx
      refine ⟨_, DPut.t (by rw [ovl_M fD7]; exact at7) (ovl_F eb) (by rw [hlx]; exact lt_sz hal), pt acc q dv, putK xs (pk q) w, F7, L2.upd M7 D (.dT (putK xs (pk q) w)), hj', KvR.put (fun _ _ => pk_inj) (hx.mono (k3.trans (k4.trans (k5.trans (k6.trans k7))))) q hv7, upd_same, k2.trans (k3.trans (k4.trans (k5.trans (k6.trans k7)))), dis_newM d7 fD7 rfl, ⟨fun a o hn hz => ?_, fun u hu => ?_⟩, upd_ovlM fD7⟩
      · have ne : a ≠ D := fun z => by rw [z, mD] at hz; cases hz
        rw [upd_ne ne]; exact st7.1 a o hn hz
      · obtain ⟨o', z, i'⟩ := st7.2 u hu
        have ne : u ≠ D := fun q => nU (by rw [hu, q])
        exact ⟨o', by rw [upd_ne ne]; exact z, i'⟩
    | false =>
      exact iteF ⟨acc, xs, F5, M5, hbb.2 rfl, hx.mono (k3.trans (k4.trans k5)), at5, k2.trans (k3.trans (k4.trans k5)), d5, st5, rfl⟩
  · have e : i = ds.length := by omega
    subst e
    have fD2 : F2 D = none := d2 _ _ hDl
    refine .inl ⟨hstop (Nat.le_refl _), D, .dT xs, by rw [ovl_M fD2]; exact hDl, True.intro, fun od => ?_⟩
    rw [← ovl_movG]
    refine hQ _ (dTR acc) (L2.upd F2 D (.frz od (.dT xs))) (del M2 D) (fin acc hj) ⟨D, od, xs, rfl, upd_same, hx.mono (same_updN fD2)⟩ (k1.trans (k2.trans (same_updN fD2))) (dis_move d2) (stepT s1 ⟨fun a o hn hz => ?_, fun u hu => ?_⟩)
    · have ne : a ≠ D := fun z => by rw [z, mD] at hz; cases hz
      rw [del_ne ne]; exact s2.1 a o hn hz
    · obtain ⟨o', z, i'⟩ := s2.2 u hu
      have ne : u ≠ D := fun q => nU (by rw [hu, q])
      exact ⟨o', by rw [del_ne ne]; exact z, i'⟩
end
end FR
set_option Elab.async false
set_option linter.all false
set_option maxRecDepth 100000
set_option maxHeartbeats 2000000
namespace FR
open PySem PySem.Spec PyProof.Rows L2
/-! ### list(d.values()) -/
def valsO (p d : Addr) : HO := .ext fun h => h.IsValuesView p d
theorem dt_raw {X : Cx} {pins : List (Addr × Obj)} {σ : L2.St} {H : Hp} {s : Shared} {a : Addr} {kvs : List (List Key × V)} (I : Inv X pins σ H s) (h : Rd H a (.dT kvs)) :
    kvs.length ≤ sizeLine ∧ (a == sysModules) = false ∧ ∃ es ep, s.heap.DictRaw a es ep ∧ es.size = kvs.length ∧ ∀ (i : Nat) (hi : i < es.size) p, kvs[i]? = some p → RelV p.2 es[i].val := by
  obtain ⟨z, hs, xs, rel, dd⟩ := dt_rd I.hok h
  obtain ⟨es, ep, hr, hsz, hk⟩ := dd.raw
  have l2 : kvs.length = xs.length := Paired.length rel
  refine ⟨z, hs, es, ep, hr, by omega, fun i hi p hp => ?_⟩
  obtain ⟨y, hy, _, e2, _⟩ := hk i hi
  obtain ⟨q, hq, _, _, r⟩ := paired_at rel hp
  rw [hy] at hq
  cases hq
  rw [e2]; exact r
section
variable {X : Cx} {o : Expr} {to : TE} {apos pos : Pos}
theorem pe_valsT (ho : PE X o to) (hbase : attributeBase o "values" X.env (eval o X.env) = eval o X.env := by rfl) (hline : (apos.endLine == pos.line) = true := by rfl) :
    PE X (.Call (.Attribute o "values" apos) [] [] pos) (fun σ H Q => to σ H fun x H1 => ∃ a kvs, x = .ref a ∧ Rd H1 a (.dT kvs) ∧ ∀ p, H1 p = none → Q (.ref p) (L2.upd H1 p (valsO p a))) := by
  refine ⟨fun pins s σ H Q I h => ?_⟩
  refine wpAny_Call_method0_late hbase hline (thn (ho.run pins s σ H _ I h) fun u s1 ⟨x, H1, I1, rx, a, kvs, ex, hd, q⟩ => ?_)
  subst ex
  obtain rfl : u = Value.ref a := rx
  obtain ⟨t1, t2, t3⟩ := isD_at I1 (.inr ⟨kvs, hd⟩)
  refine ⟨"dict", _, PySem.F.plainAttrs_dict, PySem.F.slot_dict_values, PySem.F.type_dict_values, t1, t2, Calls.callWith_builtin rfl (PySem.evalArgs_none ?_)⟩
  obtain ⟨_, _, es, ep, hr, _⟩ := dt_raw I1 hd
  refine call_meetsIn PySem.F.slot_dict_values t1 PySem.F.entry_dict_values (PySem.F.args_dict_values_1 _) (meets_dict_values_raw a t3) ⟨⟨es, ep, hr⟩, ?_⟩
  have nf : H1 s1.heap.objs.size = none := I1.hok.fresh (Nat.le_refl _)
  have hg : (s1.heap.push { cls := .type "dict_values", data := .fields #[.ref a] }).get? s1.heap.objs.size = some { cls := .type "dict_values", data := .fields #[.ref a] } := Heap.get?_push_size _ rfl
  refine ⟨.ref s1.heap.objs.size, L2.upd H1 s1.heap.objs.size (valsO s1.heap.objs.size a), I1.laid (t' := s1.toks) (fun b u e => Heap.get?_push_of_some _ e) (Nat.le_refl _) ⟨⟨_, hg, rfl, rfl⟩, ⟨_, hg⟩, fun h1 h2 x k => let ⟨o, ho, r⟩ := x; ⟨o, k o ho, r⟩⟩, rfl, q _ nf⟩
def rListVals : List V → Hp → VK → Prop := fun vs H Q => ∃ p d kvs, vs = [.ref p] ∧ H p = some (valsO p d) ∧ Rd H d (.dT kvs) ∧ ∀ l, H l = none → Q (.ref l) (L2.upd H l (.lst (kvs.map (·.2))))
theorem cr_listVals (hc : X.calm = true) : CallR X (.type "list") rListVals := by
  intro pins s σ H vs us Q I r h
  obtain ⟨p, d, kvs, rfl, hp, hd, q⟩ := h
  obtain rfl := Vals.ref1 r
  have view : s.heap.IsValuesView p d := (show ObjOk X.prog X.w H s.heap p (valsO p d) from I.hok p _ hp).1
  obtain ⟨z, _, es, ep, hr, hsz, hv⟩ := dt_raw I hd
  refine PySem.W.kdl_call (PySem.KdlSrc.rawValues (r := p) (d := d) (es := es) (ep := ep)) (I.ok.hd hc) ⟨view, hr⟩ (by omega) fun h' tk acc c kp hS it => ?_
  have nf : H s.heap.objs.size = none := I.hok.fresh (Nat.le_refl _)
  have hla : acc.toList.length = kvs.length := by rw [Array.length_toList, it.1, hsz]
  refine ⟨.ref s.heap.objs.size, L2.upd H s.heap.objs.size (.lst (kvs.map (·.2))), I.laid (t' := tk) kp (Nat.le_refl _) ⟨by rw [List.length_map]; exact z, acc.toList, c, paired_ext (by rw [List.length_map, hla]) fun i a b ha hb => ?_, ?_⟩, rfl, q _ nf⟩
  · rw [List.getElem?_map] at ha
    obtain ⟨kv, hkv, rfl⟩ := Option.map_eq_some_iff.mp ha
    obtain ⟨hi, rfl⟩ := it.2 i b (by rw [← Array.getElem?_toList]; exact hb)
    exact hv i hi kv hkv
  · rw [hS]
end
section
variable {X : Cx} {f : Fx} {ρ : Env} {e a b c : Expr} {es : List Expr} {s : Stmt} {ss : List Stmt} {κ : Rp → Prop} {Φ : Post} {pos p : Pos} {G : Gb} {k : Nat} {N : List Str} {sc : Scope}
def viewR (kvs : List (Pr × D)) : Rp := ⟨fun v F => ∃ p d od xs, v = .ref p ∧ F p = some (valsO p d) ∧ F d = some (.frz od (.dT xs)) ∧ KvR pk F xs kvs, fun _ _ _ k ⟨p, d, od, xs, e, h1, h2, r⟩ => ⟨p, d, od, xs, e, k _ _ h1, k _ _ h2, r.mono k⟩⟩
theorem ev_vals {apos : Pos} (h : EvE (mkX X N sc) f ρ e fun R => ∃ kvs, R = dTR kvs ∧ κ (viewR kvs)) (hbase : attributeBase e "values" (mkX X N sc).env (eval e (mkX X N sc).env) = eval e (mkX X N sc).env := by rfl) (hline : (apos.endLine == pos.line) = true := by rfl) :
    EvE (mkX X N sc) f ρ (.Call (.Attribute e "values" apos) [] [] pos) κ := fun F M σ d E Q hQ => by
  refine wpE_of (pe_valsT (X := mkX X N sc) pe_wp hbase hline) ?_
  refine h F M σ d E _ fun v R F1 M1 hk hv k1 d1 s1 => ?_
  obtain ⟨kvs, rfl, hk⟩ := hk
  obtain ⟨dd, od, xs, rfl, hd, r⟩ := hv
  refine ⟨dd, xs, rfl, .inr ⟨od, ovl_F hd⟩, fun p hp => ?_⟩
  refine new_of (Q := fun H => Q (.ref p) H) d1 hp fun F2 _ k2 d2 e2 => ?_
  exact hQ _ _ F2 M1 hk ⟨p, dd, od, xs, rfl, e2, k2 _ _ hd, r.mono k2⟩ (k1.trans k2) d2 s1
theorem kvr_valsD {F : Hp} : ∀ {xs : List (List Key × V)} {kvs : List (Pr × D)}, KvR pk F xs kvs → DqA F (xs.map (·.2)) (kvs.map (·.2))
  | _, _, .nil => .nil
  | _, _, .cons h r => .cons h.2 (kvr_valsD r)
theorem r_listVals (g : Gx G) (C : Ctx G k X) (h : EvE (mkX X N sc) f ρ e fun R => ∃ kvs, R = viewR kvs ∧ κ (li (kvs.map (·.2)))) (hg : gloB sc "list" = true := by decide +kernel) (he : starEach (e :: []) (mkX X N sc).env = (false, eval e (mkX X N sc).env) :: starEach [] (mkX X N sc).env := by rfl) (hpl : (backTo pos (starEach [] (mkX X N sc).env)).any (·.1) = false := by rfl) :
    EvE (mkX X N sc) f ρ (.Call (.Name "list" p) [e] [] pos) κ :=
  ev_callTy C.at (cr_listVals C.at.calm) (glo_of hg) g.f_list (by decide +kernel) (ea_one (ev_imp h fun R ⟨kvs, e1, hk⟩ => fun F M vs d hvs va Q hQ => by
    subst e1
    obtain ⟨v, rfl, p, dd, od, xs, rfl, hp, hd, r⟩ := rpa1 hvs
    refine ⟨p, dd, xs, rfl, ovl_F hp, .inr ⟨od, ovl_F hd⟩, fun l hl => ?_⟩
    exact new_of (Q := fun H => Q (.ref l) H) d hl fun F2 _ k2 d2 e2 => hQ _ _ F2 hk (Dq.lst e2 ((kvr_valsD r).mono k2)) k2 d2) he) (he := he) (hpl := hpl)
end
/-! ### methods of a task -/
theorem P_busy {G : Gb} (g : Gx G) (cf : ClsF G "Task" fTask) (S : StdM G "Task" "busy_services" "Task.busy_services" s_Taskbusy_services) : PromM G "Task" "busy_services" 1 p_Taskbusy_services (SpF (T_busy G)) := by
  refine S.prom sc_Taskbusy_services (by rintro Rs κ ⟨_, rfl, _⟩; rfl) (fun _ _ _ _ _ _ us hl => match us, hl with | [_], _ => rfl) fun X f Rs κ C hU h => ?_
  obtain ⟨S, rfl, hl, hκ⟩ := h
  have sl := steps_len S.cs
  have ev : (encV (stepsOf S.cs)).map (·.2) = ((stepsOf S.cs).map (·.2)).map eN.enc := by unfold encV; rw [List.map_map, List.map_map]; rfl
  refine ws_cons (ws_ret (r_sorted g C (r_set g C (r_listVals g C (ev_vals (tk_owners (S := S) C cf (v 0 ⟨rfl, _, rfl, _, rfl, ?_⟩)))))))
  rw [ev]
  refine ⟨(stepsOf S.cs).map (fun p : Pr × Nm => p.2), .inl rfl, by rw [List.length_map]; omega, Nm, eN, dd ((stepsOf S.cs).map (fun p : Pr × Nm => p.2)), gath_set _, sortOk_N _, ?_, hκ⟩
  have := dd_len (xs := (stepsOf S.cs).map (fun p : Pr × Nm => p.2))
  rw [List.length_map] at this
  omega
theorem fold_len (cs : List Ch) : ∀ (ps : List Op2) (acc : List (Pr × D)), (ps.foldl (edgeAcc cs) acc).length ≤ acc.length + ps.length
  | [], acc => by simp
  | p :: ps, acc => by
    rw [List.foldl_cons]
    have := fold_len cs ps (edgeAcc cs acc p)
    have h2 : (edgeAcc cs acc p).length ≤ acc.length + 1 := by
      unfold edgeAcc
      split
      · omega
      · exact pt_length _ _ _
    rw [List.length_cons]; omega
theorem ps_len (cs : List Ch) : (psOf cs).length ≤ 2 * cs.length := by
  unfold psOf orderPairs
  have h1 := List.length_filter_le (fun p : Op2 => decide (p.1 ∈ keysOf cs)) (srt eQ (cs.flatMap pairsOf))
  rw [srt_length] at h1
  have := flat_len pairs_len cs
  omega
def T_pedges (G : Gb) : Tp := fun Rs κ => ∃ (S : Sys) (l : List (Str × Rp)), Rs = [objK G "Task" l] ∧ (("task_pairs" : Str), li ((psOf S.cs).map eQ.enc)) ∈ l ∧ (("task_owners" : Str), dTR (encV (stepsOf S.cs))) ∈ l ∧ S.FitT ∧ κ (li ((edgesOf S.cs).map eR.enc))
theorem P_pedges {G : Gb} (g : Gx G) (cf : ClsF G "Task" fTask) (S : StdM G "Task" "pair_edges" "Task.pair_edges" s_Taskpair_edges) : PromM G "Task" "pair_edges" 1 p_Taskpair_edges (SpF (T_pedges G)) := by
  refine S.prom sc_Taskpair_edges (by rintro Rs κ ⟨_, _, rfl, _⟩; rfl) (fun _ _ _ _ _ _ us hl => match us, hl with | [_], _ => rfl) fun X f Rs κ C hU h => ?_
  obtain ⟨S, l, rfl, m1, m2, ft, hκ⟩ := h
  have pl := ps_len S.cs
  have cl := ft.ft.len
  refine ws_cons (w_setX 1 (ex_newT ?_))
  refine ws_cons (w_for (S := List (Pr × D)) (fun i s => s = ((psOf S.cs).take i).foldl (edgeAcc S.cs) []) (fun s => [some (.fz (objK G "Task" l)), some (.ow (dTO s)), none, none, none, none]) [2, 3] C (it_list (ev_fldK C cf (v 0 ⟨l, _, rfl, m1, _, rfl, ?_⟩))))
  refine ⟨⟨[], rfl, le_refl _⟩, fun i s d hd hi hs => ?_, fun s hs => ?_⟩
  · obtain ⟨p, hp, rfl⟩ := at_map hd
    have hm := List.mem_of_getElem? hp
    obtain ⟨q1, q2⟩ := ft.ps p hm
    have sl : s.length ≤ 100 := by
      have h1 := fold_len S.cs ((psOf S.cs).take i) []
      rw [← hs, List.length_take] at h1
      simp at h1
      omega
    have nx : ((psOf S.cs).take (i + 1)).foldl (edgeAcc S.cs) [] = edgeAcc S.cs s p := by rw [take_more hp, List.foldl_append, ← hs]; rfl
    refine at_tup (ds := [eR.enc p.1, eR.enc p.2]) C.at.calm rfl (ats_cons (tn 2 sc_Taskpair_edges.nd (ats_cons (tn 3 sc_Taskpair_edges.nd (ats_nil ?_)))))
    refine ws_cons (w_par 4 5 C (ex_of (ev_getT C.at (by intro _ _; rfl) (ev_fldK C cf (v 0 ⟨l, _, rfl, m2, v 2 ⟨_, p.1, _, .inl rfl, rfl, oo_at q1, ex_of ?_⟩⟩)))))
    refine ev_getT C.at (by intro _ _; rfl) (ev_fldK C cf (v 0 ⟨l, _, rfl, m2, v 3 ⟨_, p.2, _, .inl rfl, rfl, oo_at q2, ?_⟩⟩))
    refine ws_cons (ws_if (et_c (ec_neE C.at eN (v 4 (v 5 ⟨oo S.cs p.1, oo S.cs p.2, rfl, rfl, _, rfl, fun h => ?_, fun h => ws_nil (ws_nil ⟨_, rfl, ?_⟩)⟩)))))
    · rw [Bool.not_eq_true', decide_eq_false_iff_not] at h
      refine ws_cons (w_putT (kvs := s) 1 C (by omega) (ev_bl (ev_tup (ea2 (v 4 (v 5 ⟨[eN.enc (oo S.cs p.1), eN.enc (oo S.cs p.2)], rfl, (by show 2 ≤ 10000; decide), (oo S.cs p.1, oo S.cs p.2), _, rfl, rfl, ws_nil (ws_nil ⟨_, rfl, ?_⟩)⟩))))))
      rw [nx]
      unfold edgeAcc
      rw [if_neg h]
      exact le_keep (le_keep (le_drop (le_drop (le_drop (le_drop le_nil)))))
    · rw [Bool.not_eq_false', decide_eq_true_iff] at h
      rw [nx]
      unfold edgeAcc
      rw [if_pos h]
      exact le_keep (le_keep (le_drop (le_drop (le_drop (le_drop le_nil)))))
  · rw [List.length_map, List.take_length] at hs
    subst hs
    have h1 := fold_len S.cs (psOf S.cs) []
    refine ws_freeze 1 (lend_dT _) (ws_cons (ws_ret (r_sorted g C (v 1 ⟨Pr, eR, _, gath_dT _ (.inr rfl), sortOk_R _, ?_, hκ⟩))))
    rw [List.length_map]
    simp at h1
    omega
end FR
set_option Elab.async false
set_option linter.all false
set_option maxRecDepth 100000
set_option maxHeartbeats 2000000
namespace FR
open PySem PySem.Spec PyProof.Rows L2
/-! ### things that hold one's own things: by hand -/
/-- stands for just this value -/
def valR (v : V) : Rp := ⟨fun w _ => w = v, fun _ _ _ _ h => h⟩
/-- the frame in which all that changes is kept -/
abbrev fr (M : Hp) : Fx := ⟨M, none⟩
section
variable {X : Cx} {f : Fx} {ρ : Env} {e a b c : Expr} {es : List Expr} {s : Stmt} {ss : List Stmt} {κ : Rp → Prop} {Φ : Post} {pos p : Pos} {G : Gb} {k : Nat} {N : List Str} {sc : Scope}
theorem fr_env {σ : L2.St} {F M : Hp} (E : EnvOk f σ ρ F M) (hn : NoOwn ρ) (hu : f.U = none) : EnvOk (fr M) σ ρ F M where
  len := E.len
  ent := fun i e he => by
    obtain ⟨v, h1, h2⟩ := E.ent i e he
    refine ⟨v, h1, ?_⟩
    cases e with
    | fz R => exact h2
    | ow P => exact absurd he (hn i P)
    | ur =>
      obtain ⟨a, _, h⟩ := h2
      rw [hu] at h; cases h
  inj := fun i j P P' h1 _ _ => absurd h1 (hn i P)
  base := fun a o h => h
  urn := fun u h => by cases h
theorem un_env {σ : L2.St} {F M F' M' : Hp} (E : EnvOk f σ ρ F M) (hu : f.U = none) (k1 : Same F F') (s1 : (fr M).step M M') : EnvOk f σ ρ F' M' := E.step k1 ⟨fun a o _ h => s1.1 a o (fun z => nomatch z) h, fun u h => by rw [hu] at h; cases h⟩
theorem ec_inB {dd : Addr} {xs : List (Key × V)} (C : Ctx G k X) (hM : f.M0 dd = some (.dK xs)) (h : EvE X f ρ a fun R => EvE X f ρ b fun S => ∃ x : Str, R = FR.st x ∧ S = valR (.ref dd) ∧ κ (bl (valV xs (Sum.inr x)).isSome)) : EvC X f ρ .In a b κ := fun F M σ d E Q hQ => by
  refine fun pins s I => (pc_din (hu_of' C) pe_wp pe_wp).run pins s σ _ Q I ?_
  refine h F M σ d E _ fun v R F1 M1 hb hv k1 d1 s1 => ?_
  refine hb F1 M1 σ d1 (E.step k1 s1) _ fun w S F2 M2 hh hw k2 d2 s2 => ?_
  obtain ⟨x, rfl, rfl, hk⟩ := hh
  cases hv
  obtain rfl : w = .ref dd := hw
  have hd := ((E.step k1 s1).step k2 s2).base dd _ hM
  exact ⟨dd, _, rfl, .inl ⟨xs, Sum.inr x, .inl (by rw [ovl_M (d2 _ _ hd)]; exact hd), rfl, rfl⟩, hQ _ _ F2 M2 hk (Dq.bl _) (k1.trans k2) d2 (stepT s1 s2)⟩
theorem ev_getB {dd : Addr} {xs : List (Key × V)} (C : Ctx G k X) (hs : NoSl b) (hM : f.M0 dd = some (.dK xs)) (h : EvE X f ρ a fun R => EvE X f ρ b fun S => ∃ (x : Str) (v : V), R = valR (.ref dd) ∧ S = FR.st x ∧ valV xs (Sum.inr x) = some v ∧ κ (valR v)) : EvE X f ρ (.Subscript a b pos) κ := fun F M σ d E Q hQ => by
  refine wpE_of (pe_dget (hu_of' C) pe_wp pe_wp hs) ?_
  refine h F M σ d E _ fun v R F1 M1 hb hv k1 d1 s1 => ?_
  refine hb F1 M1 σ d1 (E.step k1 s1) _ fun w S F2 M2 hh hw k2 d2 s2 => ?_
  obtain ⟨x, u, rfl, rfl, hg, hk⟩ := hh
  cases hw
  obtain rfl : v = .ref dd := hv
  have hd := ((E.step k1 s1).step k2 s2).base dd _ hM
  exact ⟨dd, u, rfl, .inl ⟨xs, Sum.inr x, .inl (by rw [ovl_M (d2 _ _ hd)]; exact hd), rfl, hg.symm⟩, hQ _ _ F2 M2 hk rfl (k1.trans k2) d2 (stepT s1 s2)⟩
/-- for, by hand -/
theorem raw_for {I : Nat → L2.St → Hp → Hp → Prop} {ds : List D} {tg iter : Expr} {body : List Stmt} (C : Ctx G k X) {σ : L2.St} {F M : Hp} {D : Ends}
    (hit : ∀ R : It → Hp → Prop, (∀ J F' M', Walks J F' ds → Dis F' M' → I 0 σ F' M' → R J (ovl F' M')) → wpI X tg iter σ (ovl F M) R)
    (mono : ∀ i σ F F' M, I i σ F M → Same F F' → I i σ F' M)
    (turn : ∀ i dd σ F M v, ds[i]? = some dd → Dis F M → I i σ F M → Dq F v dd → ∀ D' : Ends, (∀ σ' F' M', I (i + 1) σ' F' M' → Same F F' → Dis F' M' → D'.nx σ' (ovl F' M')) → wpG X tg v σ (ovl F M) fun σ' H' => wpSs X body D' σ' H')
    (fin : ∀ σ F M, Dis F M → I ds.length σ F M → D.nx σ (ovl F M)) (hs : ∀ x, foldedSetIterable iter X.env x = pure x := by intro _; rfl) : wpS X (.For tg iter body [] pos) D σ (ovl F M) := by
  refine wpS_of (ps_for C.passes C.calm pi_wp pg_wp pss_wp hs) ?_
  refine hit _ fun J F1 M1 hW d1 i0 => ?_
  refine ⟨fun i m σ H => m = ds.length - i ∧ i ≤ ds.length ∧ ∃ F2 M2, I i σ F2 M2 ∧ Same F1 F2 ∧ Dis F2 M2 ∧ H = ovl F2 M2, ⟨ds.length, by simp, Nat.zero_le _, F1, M1, i0, Same.refl _, d1, rfl⟩, ?_⟩
  rintro i m σ2 H2 ⟨rfl, hi, F2, M2, hI, k2, d2, rfl⟩
  obtain ⟨hgo, hstop⟩ := hW i F2 M2 k2 d2
  by_cases hlt : i < ds.length
  · obtain ⟨go, yl⟩ := hgo hlt
    refine .inr ⟨go, fun σ' H' => ∃ F3 M3, I (i + 1) σ' F3 M3 ∧ Same F1 F3 ∧ Dis F3 M3 ∧ H' = ovl F3 M3, fun σ' H' hN => ⟨ds.length - (i + 1), by omega, rfl, hlt, hN⟩, fun x H' hy => ?_⟩
    obtain ⟨F3, dd, hd, k3, d3, rfl, hx⟩ := yl x H' hy
    exact turn i dd σ2 F3 M2 x hd d3 (mono _ _ _ _ _ hI k3) hx _ fun σ' F' M' hI' k4 d4 => ⟨F', M', hI', k2.trans (k3.trans k4), d4, rfl⟩
  · have e : i = ds.length := by omega
    subst e
    exact .inl ⟨hstop (Nat.le_refl _), fin σ2 F2 M2 d2 hI⟩
end
theorem env_upd {f : Fx} {σ : L2.St} {ρ : Env} {F M : Hp} {b : Addr} {o : HO} (E : EnvOk f σ ρ F M) (hn : NoOwn ρ) (hu : f.U = none) (h0 : f.M0 b = none) : EnvOk f σ ρ F (L2.upd M b o) where
  len := E.len
  ent := fun i e he => by
    obtain ⟨v, h1, h2⟩ := E.ent i e he
    refine ⟨v, h1, ?_⟩
    cases e with
    | fz R => exact h2
    | ow P => exact absurd he (hn i P)
    | ur => exact h2
  inj := fun i j P P' h1 _ _ => absurd h1 (hn i P)
  base := fun a x h => by
    have ne : a ≠ b := fun z => by rw [z, h0] at h; cases h
    rw [upd_ne ne]; exact E.base a x h
  urn := fun u h => by rw [hu] at h; cases h
theorem dis_upd {F M : Hp} {b : Addr} {o o' : HO} (d : Dis F M) (h : M b = some o) (ho : isT o' = false) : Dis F (L2.upd M b o') := dis_newM d (d b o h) ho
/-! ### who leads -/
def ldOf (E : List Pr) (L : List Nm) : List (Nm × List Nm) := L.map fun x => (x, lead E L x)
def LG (f : Fx) (d : Addr) (s : List (Nm × List Nm)) (F M : Hp) : Prop := f.M0 d = none ∧ ∃ xs : List (Key × V), M d = some (.dK xs) ∧
  Paired (fun (p : Key × V) (q : Nm × List Nm) => p.1 = nmK q.1 ∧ ∃ b ys, p.2 = .ref b ∧ f.M0 b = none ∧ M b = some (.lst ys) ∧ DqA F ys (q.2.map eN.enc)) xs s ∧ (xs.map (·.2)).Nodup
theorem LG.step {f : Fx} {d : Addr} {s : List (Nm × List Nm)} {F F' M M' : Hp} (h : LG f d s F M) (k : Same F F') (st : ∀ a o, M a = some o → M' a = some o) : LG f d s F' M' := by
  obtain ⟨h0, xs, h1, h2, h3⟩ := h
  exact ⟨h0, xs, st _ _ h1, Paired.mapP h2 fun p q ⟨e, b, ys, e2, m0, mb, dq⟩ => ⟨e, b, ys, e2, m0, st _ _ mb, dq.mono k⟩, h3⟩
theorem lead_take {E : List Pr} {L : List Nm} {i : Nat} {p : Pr} (h : E[i]? = some p) (x : Nm) : lead (E.take (i + 1)) L x = lead (E.take i) L x ++ (if p.2 = x ∧ p.1 ∈ L ∧ p.2 ∈ L then [p.1] else []) := by
  unfold lead
  rw [take_more h, List.filter_append, List.map_append]
  congr 1
  by_cases c : p.2 = x ∧ p.1 ∈ L ∧ p.2 ∈ L
  · rw [if_pos c, List.filter_cons, if_pos (by simp only [Bool.and_eq_true, decide_eq_true_eq]; exact c)]; rfl
  · rw [if_neg c]
    simp only [List.map_eq_nil_iff, List.filter_cons, List.filter_nil]
    rw [if_neg]
    simp only [Bool.and_eq_true, decide_eq_true_eq]
    exact c
theorem valV_mem {xs : List (Key × V)} {key : Key} {v : V} (h : valV xs key = some v) : ∃ j : Nat, xs[j]? = some (key, v) := by
  unfold valV at h
  obtain ⟨p, hp, rfl⟩ := Option.map_eq_some_iff.mp h
  have e0 := List.find?_some hp
  have e : p.1 = key := by simpa using e0
  obtain ⟨j, hj⟩ := List.mem_iff_getElem?.mp (List.mem_of_find?_eq_some hp)
  exact ⟨j, by rw [hj, ← e]⟩
theorem valV_isSome {F : (Key × V) → (Nm × List Nm) → Prop} (hF : ∀ p q, F p q → p.1 = nmK q.1) : ∀ {xs : List (Key × V)} {s : List (Nm × List Nm)}, Paired F xs s → ∀ x : Nm, (valV xs (nmK x)).isSome = decide (x ∈ s.map (·.1))
  | _, _, .nil, x => by simp [valV]
  | _, _, .cons (a := p) (b := q) (l₁ := xs) (l₂ := s) h t, x => by
    have ih := valV_isSome hF t x
    unfold valV at ih ⊢
    rw [List.find?_cons, hF _ _ h]
    by_cases c : q.1 = x
    · subst c; simp
    · have : ¬ nmK q.1 = nmK x := fun z => c (nmK_inj _ _ z)
      rw [decide_eq_false this]
      simp only
      rw [ih]
      have c' : ¬ x = q.1 := fun z => c z.symm
      simp [c']
theorem nodup_inj {α : Type} {xs : List α} (h : xs.Nodup) {i j : Nat} {x : α} (hi : xs[i]? = some x) (hj : xs[j]? = some x) : i = j := by
  rcases Nat.lt_trichotomy i j with c | c | c
  · exact absurd (List.mem_of_getElem? (by rw [List.getElem?_take_of_lt c]; exact hi)) (nodup_take h hj)
  · exact c
  · exact absurd (List.mem_of_getElem? (by rw [List.getElem?_take_of_lt c]; exact hj)) (nodup_take h hi)
theorem lead_len {N : Type} [DecidableEq N] (E : List (N × N)) (S : List N) (x : N) : (lead E S x).length ≤ E.length := by
  unfold lead
  rw [List.length_map]
  exact List.length_filter_le _ _
theorem putK_new {κ : Type} [DecidableEq κ] {xs : List (κ × V)} {key : κ} {v : V} (h : valV xs key = none) : putK xs key v = xs ++ [(key, v)] := by
  unfold putK
  rw [if_neg]
  intro hm
  obtain ⟨p, hp, e⟩ := List.any_eq_true.mp hm
  unfold valV at h
  rw [Option.map_eq_none_iff, List.find?_eq_none] at h
  exact h p hp e
theorem P_leaders {G : Gb} (g : Gx G) (S : Std G "leaders_of" "leaders_of" s_leaders_of) : Prom G "leaders_of" 1 p_leaders_of (SpF T_leaders) := by
  refine S.prom sc_leaders_of (by rintro Rs κ ⟨_, _, _, rfl, _⟩; rfl) (fun _ _ _ _ _ _ us hl => match us, hl with | [_, _], _ => rfl) fun X f Rs κ C hU h => ?_
  obtain ⟨E, L, ER, rfl, hER, nd, hl, hl2, hκ⟩ := h
  let E0 : Addr → Env := fun d => [some (.fz ER), some (.fz (li (L.map eN.enc))), some (.fz (valR (.ref d))), none, none, none]
  have nu : ∀ a, f.U ≠ some a := fun a z => by rw [hU.1] at z; cases z
  -- behind the dict
  have main : ∀ d σ F M D, Dis F M → EnvOk f σ (E0 d) F M → LG f d (L.map fun x => (x, lead (E.take 0) L x)) F M → Acc f { nx := fun _ => κ (dat .none), rt := κ } F D →
      wpSs (mkX X n_leaders_of (defScope s_leaders_of)) ((defBody s_leaders_of).drop 1) D σ (ovl F M) := fun d σ F M D dis Ev lg A => by
    refine wpSs_of (pss_cons ps_wp pss_wp) ?_
    refine raw_for (I := fun i σ F' M' => EnvOk f σ (E0 d) F' M' ∧ LG f d (L.map fun x => (x, lead (E.take i) L x)) F' M' ∧ Same F F') (ds := E.map eR.enc) C.at (fun R hR => ?_) (fun i σ F1 F2 M1 h k => ⟨h.1.mono k, h.2.1.step k fun a o h => h, h.2.2.trans k⟩) (fun i dd σ1 F1 M1 v0 hd dis1 hI hv D' hD' => ?_) (fun σ1 F1 M1 dis1 hI => ?_)
    · have fin : ∀ J ds F' M', ds = E.map eR.enc → Walks J F' ds → Same F F' → Dis F' M' → f.step M M' → R J (ovl F' M') := fun J ds F' M' e hW k1 d1 s1 => by
        subst e
        exact hR J F' M' hW d1 ⟨Ev.step k1 s1, lg.step k1 fun a o h => s1.1 a o (nu a) h, k1⟩
      rcases hER with e | e
      · exact it_list (κ := fun ds => ds = E.map eR.enc) (v 0 ⟨_, e, rfl⟩) F M σ dis Ev R fun J ds F' M' hk _ hW k1 d1 s1 => fin J ds F' M' hk hW k1 d1 s1
      · exact it_tup (κ := fun ds => ds = E.map eR.enc) (v 0 ⟨_, e, rfl⟩) F M σ dis Ev R fun J ds F' M' hk _ hW k1 d1 s1 => fin J ds F' M' hk hW k1 d1 s1
    · obtain ⟨p, hp, rfl⟩ := at_map hd
      obtain ⟨Ev1, lg1, k01⟩ := hI
      let E1 : Env := [some (.fz ER), some (.fz (li (L.map eN.enc))), some (.fz (valR (.ref d))), some (.fz (dat (eN.enc p.1))), some (.fz (dat (eN.enc p.2))), none]
      refine (at_tup (ds := [eN.enc p.1, eN.enc p.2]) (js := [3, 4]) (κ := fun ρ' => ρ' = E1) C.at.calm rfl (ats_cons (tn 3 sc_leaders_of.nd (ats_cons (tn 4 sc_leaders_of.nd (ats_nil rfl)))))) F1 M1 σ1 v0 dis1 Ev1 hv _ fun ρ4 σ4 F4 M4 hρ w4 k4 d4 s4 E4 => ?_
      subst hρ
      have lg4 := lg1.step k4 fun a o h => s4.1 a o (nu a) h
      have no : NoOwn E1 := noOwn_of rfl
      have le0 : Env.le E1 (E0 d) := le_keep (le_keep (le_keep (le_drop (le_drop (le_keep le_nil)))))
      obtain ⟨m0, xs, hd4, pr, ndv⟩ := lg4
      have vs := valV_isSome (fun p q h => h.1) pr
      have em : ∀ x, (x ∈ (L.map fun x => (x, lead (E.take i) L x)).map (·.1)) ↔ x ∈ L := fun x => by rw [List.map_map]; simp
      have vs' : ∀ x : Nm, (valV xs (Sum.inr x.1)).isSome = decide (x ∈ L) := fun x => (vs x).trans (decide_eq_decide.mpr (em x))
      refine wpSs_of (pss_cons ps_wp pss_wp) (wpS_of (ps_if pt_wp pss_wp pss_wp) ?_)
      have T : ∀ {e1 e2 : Expr}, True := fun {_ _} => trivial
      refine (et_w (ew_and (et_c (ec_inB C.at hd4 (v 3 (v 2 ⟨p.1.1, rfl, rfl, _, rfl, fun h => ew_and1 (et_c (ec_inB C.at hd4 (v 4 (v 2 ⟨p.2.1, rfl, rfl, _, rfl, ?_⟩)))), fun h => ?_⟩))))) : EvT (mkX X n_leaders_of (defScope s_leaders_of)) (fr M4) E1 _ fun b => b = decide (p.1 ∈ L ∧ p.2 ∈ L)) F4 M4 σ4 d4 (fr_env E4 no hU.1) _ fun b F5 M5 hb k5 d5 s5 => ?_
      · rw [vs'] at h ⊢
        have h := of_decide_eq_true h
        exact decide_eq_decide.mpr ⟨fun q => ⟨h, q⟩, fun q => q.2⟩
      · rw [vs'] at h
        have h := of_decide_eq_false h
        exact (decide_eq_false fun q => h q.1).symm
      have E5 := un_env E4 hU.1 k5 s5
      have st5 : ∀ a o, M4 a = some o → M5 a = some o := fun a o h => s5.1 a o (fun z => nomatch z) h
      have lg5 : LG f d (L.map fun x => (x, lead (E.take i) L x)) F5 M5 := LG.step ⟨m0, xs, hd4, pr, ndv⟩ k5 st5
      subst hb
      by_cases c : p.1 ∈ L ∧ p.2 ∈ L
      · rw [decide_eq_true c]
        refine iteT ?_
        obtain ⟨_, ys5, hd5, pr5, ndv5⟩ := lg5
        have hso := (valV_isSome (fun p q h => h.1) pr5 p.2).trans (decide_eq_true ((em p.2).mpr c.2))
        obtain ⟨w, hw⟩ := Option.isSome_iff_exists.mp hso
        obtain ⟨j, hj⟩ := valV_mem hw
        obtain ⟨q, hq, e1, b, ys, rfl, mb0, mb, dq⟩ := paired_at pr5 hj
        have e1 : p.2 = q.1 := nmK_inj _ _ e1
        rw [List.getElem?_map] at hq
        obtain ⟨x, hx, rfl⟩ := Option.map_eq_some_iff.mp hq
        have e1 : p.2 = x := e1
        subst e1
        have hyl : ys.length ≤ 1000 := by
          rw [dq.length, List.length_map]
          have h1 := lead_len (E.take i) L p.2
          rw [List.length_take] at h1
          show (lead (E.take i) L p.2).length ≤ 1000
          omega
        refine wpSs_of (pss_cons ps_wp pss_wp) (wpS_of (ps_expr (pe_bm PySem.F.plainAttrs_list PySem.F.slot_list_append PySem.F.type_list_append mt_append pe_wp (pa_cons pe_wp pa_nil (by rfl)) (by rfl) (by rfl) (by rfl) (by rfl) (by rfl)) (by rfl)) ?_)
        refine (ev_getB C.at (by intro _ _; rfl) hd5 (v 2 (v 4 ⟨p.2.1, .ref b, rfl, rfl, hw, rfl⟩)) : EvE (mkX X n_leaders_of (defScope s_leaders_of)) (fr M5) E1 _ fun R => R = valR (.ref b)) F5 M5 σ4 d5 (fr_env E5 no hU.1) _ fun w1 R1 F6 M6 hR1 hw1 k6 d6 s6 => ?_
        subst hR1
        obtain rfl : w1 = .ref b := hw1
        have E6 := un_env E5 hU.1 k6 s6
        have st6 : ∀ a o, M5 a = some o → M6 a = some o := fun a o h => s6.1 a o (fun z => nomatch z) h
        have mb6 := st6 _ _ mb
        refine ⟨.inl ⟨rfl, ys, SqL.of (by rw [ovl_M (d6 _ _ mb6)]; exact mb6)⟩, ?_⟩
        refine (v 3 rfl : EvE (mkX X n_leaders_of (defScope s_leaders_of)) (fr M6) E1 _ fun R => R = dat (eN.enc p.1)) F6 M6 σ4 d6 (fr_env E6 no hU.1) _ fun w2 R2 F7 M7 hR2 hw2 k7 d7 s7 => ?_
        subst hR2
        have E7 := un_env E6 hU.1 k7 s7
        have st7 : ∀ a o, M5 a = some o → M7 a = some o := fun a o h => s7.1 a o (fun z => nomatch z) (st6 a o h)
        have mb7 := st7 _ _ mb
        have fb := d7 _ _ mb7
        refine ⟨b, ys, w2, rfl, rfl, by rw [ovl_M fb]; exact mb7, by have := sizeLine_eq; omega, ?_⟩
        refine wpSs_of pss_nil (wpSs_of pss_nil ?_)
        rw [upd_ovlM fb]
        refine hD' σ4 F7 _ ⟨(env_upd E7 no hU.1 mb0).le le0, ⟨m0, ys5, ?_, ?_, ndv5⟩, k01.trans (k4.trans (k5.trans (k6.trans k7)))⟩ (k4.trans (k5.trans (k6.trans k7))) (dis_upd d7 mb7 rfl)
        · have ne : d ≠ b := fun z => by rw [z, mb] at hd5; cases hd5
          rw [upd_ne ne]; exact st7 _ _ hd5
        · refine paired_ext (by rw [Paired.length pr5, List.length_map, List.length_map]) fun m a1 b1 ha1 hb1 => ?_
          obtain ⟨q1, hq1, c1, b2, y2, c2, c3, c4, c5⟩ := paired_at pr5 ha1
          rw [List.getElem?_map] at hb1 hq1
          obtain ⟨x1, hx1, rfl⟩ := Option.map_eq_some_iff.mp hb1
          rw [hx1] at hq1
          cases hq1
          refine ⟨c1, b2, ?_⟩
          by_cases hm : m = j
          · subst hm
            rw [hj] at ha1
            cases ha1
            cases c2
            rw [hx] at hx1
            cases hx1
            refine ⟨ys ++ [w2], rfl, mb0, upd_same, ?_⟩
            show DqA F7 _ ((lead (E.take (i + 1)) L p.2).map eN.enc)
            rw [lead_take hp, if_pos ⟨rfl, c⟩, List.map_append]
            exact (dq.mono (k6.trans k7)).append (.cons hw2 .nil)
          · have nex : ¬ x1 = p.2 := fun z => hm (by
              subst z
              exact nodup_inj nd hx1 hx)
            have neb : b2 ≠ b := fun z => hm (by
              subst z
              refine nodup_inj ndv5 (i := m) (j := j) (x := .ref b2) ?_ ?_
              · rw [List.getElem?_map, ha1, ← c2]; rfl
              · rw [List.getElem?_map, hj]; rfl)
            refine ⟨y2, c2, c3, by rw [upd_ne neb]; exact st7 _ _ c4, ?_⟩
            show DqA F7 y2 ((lead (E.take (i + 1)) L x1).map eN.enc)
            rw [lead_take hp, if_neg (fun q => nex q.1.symm), List.append_nil]
            exact c5.mono (k6.trans k7)
      · rw [decide_eq_false c]
        refine iteF (wpSs_of pss_nil (wpSs_of pss_nil ?_))
        refine hD' σ4 F5 M5 ⟨E5.le le0, ?_, k01.trans (k4.trans k5)⟩ (k4.trans k5) d5
        have e : (L.map fun x => (x, lead (E.take (i + 1)) L x)) = L.map fun x => (x, lead (E.take i) L x) := List.map_congr_left fun x hx => by
          rw [lead_take hp, if_neg (fun q => c q.2), List.append_nil]
        rw [e]; exact lg5
    · -- the end
      obtain ⟨Ev1, lg1, k01⟩ := hI
      rw [List.length_map, List.take_length] at lg1
      obtain ⟨m0, xs, hd1, pr, ndv⟩ := lg1
      obtain ⟨v0, hσ, hv0⟩ := Ev1.ent 2 _ rfl
      obtain rfl : v0 = .ref d := hv0
      refine wpSs_of (pss_cons ps_wp pss_wp) (wpS_of (ps_ret (pe_var (X := mkX X n_leaders_of (defScope s_leaders_of)) (i := 2) rfl (vis_of (sc := defScope s_leaders_of) (by decide +kernel)) (by decide +kernel) (by decide +kernel))) ⟨.ref d, hσ, ?_⟩)
      obtain ⟨F2, M2, eq, k2, d2, x2⟩ := exit_ok Ev1 dis1
      have at2 : ∀ a o, f.M0 a = none → M1 a = some o → F2 a = some o := fun a o h0 h1 => by
        have e1 : M2 a = none := (x2.1 a (nu a)).trans h0
        have e2 := congrFun eq a
        rw [ovl_M (dis1 _ _ h1), h1] at e2
        unfold ovl at e2
        cases q : F2 a with
        | some o' => rw [q] at e2; exact e2
        | none => rw [q, e1] at e2; cases e2
      show D.rt (.ref d) (ovl F1 M1)
      rw [← eq]
      refine A.rt (.ref d) (dKL nmK (dLd E L)) F2 M2 hκ ⟨d, xs, rfl, .inl (at2 _ _ m0 hd1), ?_⟩ (k01.trans k2) d2 x2
      refine paired_ext (by rw [Paired.length pr]; unfold dLd; rw [List.length_map, List.length_map]) fun m a1 b1 ha1 hb1 => ?_
      obtain ⟨q1, hq1, c1, b2, y2, c2, c3, c4, c5⟩ := paired_at pr ha1
      unfold dLd at hb1
      rw [List.getElem?_map] at hb1 hq1
      obtain ⟨x1, hx1, rfl⟩ := Option.map_eq_some_iff.mp hb1
      rw [hx1] at hq1
      cases hq1
      refine ⟨c1, ?_⟩
      rw [c2]
      exact Dq.lst (at2 _ _ c3 c4) (c5.mono k2)
  intro F M σ dis Ev D A
  have hyl : List.lookup ("found" : Str) (defScope s_leaders_of).names = some NameKind.local := by decide +kernel
  refine wpSs_of (pss_cons ps_wp pss_wp) (wpS_of (ps_setDcg (X := mkX X n_leaders_of (defScope s_leaders_of)) (.dK []) (fun P w H h hb => dk_empty h hb) (i := 2) rfl hyl (by rfl) (own := [("service", 5)]) (hu_of' C.at) C.at.calm sc_leaders_of.nd pi_wp (blkOk_by (N := n_leaders_of) (sc := defScope s_leaders_of) (by decide +kernel)) pg_blk pts_blk pe_blk pe_blk (by intro _; rfl)) ?_)
  refine it_list (κ := fun ds => ds = L.map eN.enc) (v 1 ⟨_, rfl, rfl⟩) F M σ dis Ev _ fun J ds F1 M1 hds hsz hW k1 d1 s1 => ?_
  subst hds
  intro Dd hD
  have E1 := Ev.step k1 s1
  obtain ⟨fD, mD⟩ := ovl_none hD
  have n0 : ∀ {a : Addr} {M' : Hp}, (∀ a o, f.M0 a = some o → M' a = some o) → M' a = none → f.M0 a = none := fun {a M'} b h => by
    cases z : f.M0 a with
    | none => rfl
    | some o => rw [b a o z] at h; cases h
  have D0 : f.M0 Dd = none := n0 E1.base mD
  -- names so far, each with an empty list
  let Im : Nat → Hp → Prop := fun i H => ∃ xs F2 M2, M2 Dd = some (.dK xs) ∧ Paired (fun (p : Key × V) (q : Nm) => p.1 = nmK q ∧ ∃ b, p.2 = .ref b ∧ f.M0 b = none ∧ M2 b = some (.lst [])) xs (L.take i) ∧ (xs.map (·.2)).Nodup ∧ Same F1 F2 ∧ Dis F2 M2 ∧ (∀ a o, M1 a = some o → M2 a = some o) ∧ H = ovl F2 M2
  refine ⟨fun i m H => m = (L.map eN.enc).length - i ∧ i ≤ (L.map eN.enc).length ∧ Im i H, ⟨_, rfl, Nat.zero_le _, [], F1, L2.upd M1 Dd (.dK []), upd_same, .nil, List.nodup_nil, Same.refl _, dis_newM d1 fD rfl, fun a o h => same_updN mD a o h, upd_ovlM fD⟩, ?_⟩
  rintro i m H2 ⟨rfl, hi, xs, F2, M2, hDl, pr, ndv, k2, d2, s2, rfl⟩
  obtain ⟨hgo, hstop⟩ := hW i F2 M2 k2 d2
  have E2 : EnvOk f σ (startE n_leaders_of [ER, li (L.map eN.enc)]) F2 M2 := E1.step k2 ⟨fun a o _ h => s2 a o h, fun u h => by rw [hU.1] at h; cases h⟩
  by_cases hlt : i < (L.map eN.enc).length
  · obtain ⟨go, yl⟩ := hgo hlt
    refine .inr ⟨go, Im (i + 1), fun H' hN => ⟨(L.map eN.enc).length - (i + 1), by omega, rfl, hlt, hN⟩, fun x H' hy s5 H5 C5 cl5 fp5 => ?_⟩
    obtain ⟨F3, dd, hd, k3, d3, rfl, hxx⟩ := yl x H' hy
    obtain ⟨nm, hnm, rfl⟩ := at_map hd
    obtain ⟨X', C', eX⟩ := Ctx.blk (N := n_leaders_of) (sc := defScope s_leaders_of) (s := s5) (H := H5) (C := C5) (cl := cl5) (fp := fp5) C
    rw [eX]
    let E5 : Env := [some (.fz ER), some (.fz (li (L.map eN.enc))), none, none, none, some (.fz (dat (eN.enc nm)))]
    refine (tn 5 sc_leaders_of.nd rfl : AsT (mkX X' n_leaders_of (relS _ (defScope s_leaders_of))) f (wipeE (startE n_leaders_of [ER, li (L.map eN.enc)]) [5]) _ (dat (eN.enc nm)) [5] fun ρ1 => ρ1 = E5) F3 M2 (wipe σ [5]) x d3 ((E2.mono k3).wipeOk _) hxx _ fun ρ4 σ4 F4 M4 hρ w4 k4 d4 s4 E4 => ?_
    subst hρ
    refine ⟨w4.trans (wipe_wipe _), fun s6 H6 C6 cl6 fp6 => ?_⟩
    obtain ⟨X6, C6', eX6⟩ := Ctx.blk (N := n_leaders_of) (sc := defScope s_leaders_of) (s := s6) (H := H6) (C := C6) (cl := cl6) (fp := fp6) C
    rw [eX6]
    refine (ts_nil rfl : EvTs (mkX X6 n_leaders_of _) f E5 [] fun b => b = true) F4 M4 σ4 d4 E4 _ fun b F5 M5 hb k5 d5 s5' => ?_
    subst hb
    refine iteT fun s7 H7 C7 cl7 fp7 => ?_
    obtain ⟨X7, C7', eX7⟩ := Ctx.blk (N := n_leaders_of) (sc := defScope s_leaders_of) (s := s7) (H := H7) (C := C7) (cl := cl7) (fp := fp7) C
    rw [eX7]
    refine (v 5 rfl : EvE (mkX X7 n_leaders_of _) f E5 _ fun R => R = dat (eN.enc nm)) F5 M5 σ4 d5 (E4.step k5 s5') _ fun w R F6 M6 hR hw k6 d6 s6' => ?_
    subst hR
    cases hw
    intro s8 H8 C8 cl8 fp8
    have st6 : ∀ a o, M2 a = some o → M6 a = some o := fun a o h => s6'.1 a o (nu a) (s5'.1 a o (nu a) (s4.1 a o (nu a) h))
    refine wpE_of (pe_lst pa_nil) ⟨Nat.zero_le _, fun p hp => ?_⟩
    obtain ⟨fp6, mp6⟩ := ovl_none hp
    have hD6 := st6 _ _ hDl
    have neD : Dd ≠ p := fun z => by rw [z, mp6] at hD6; cases hD6
    have d7 : Dis F6 (L2.upd M6 p (.lst [])) := dis_newM d6 fp6 rfl
    have hD7 : (L2.upd M6 p (.lst [])) Dd = some (.dK xs) := by rw [upd_ne neD]; exact hD6
    have fD7 := d7 _ _ hD7
    have st7 : ∀ a o, M2 a = some o → (L2.upd M6 p (.lst [])) a = some o := fun a o h => same_updN mp6 a o (st6 a o h)
    have p0 : f.M0 p = none := n0 (fun a o h => st6 a o (E2.base a o h)) mp6
    have hnew : valV xs (nmK nm) = none := by
      unfold valV
      rw [Option.map_eq_none_iff, List.find?_eq_none]
      intro a ha
      obtain ⟨m, hm⟩ := List.mem_iff_getElem?.mp ha
      obtain ⟨q, hq, e, _⟩ := paired_at pr hm
      rw [decide_eq_true_eq, e]
      intro z
      have := nmK_inj _ _ z
      subst this
      exact nodup_take nd hnm (List.mem_of_getElem? hq)
    have xl : xs.length ≤ 100 := by
      rw [Paired.length pr, List.length_take]; omega
    rw [upd_ovlM fp6]
    refine ⟨_, DPut.k (k := nmK nm) (by rw [ovl_M fD7]; exact hD7) (by have := sizeLine_eq; omega), putK xs (nmK nm) (.ref p), F6, L2.upd (L2.upd M6 p (.lst [])) Dd (.dK (putK xs (nmK nm) (.ref p))), upd_same, ?_, ?_, k2.trans (k3.trans (k4.trans (k5.trans k6))), dis_upd d7 hD7 rfl, fun a o h => ?_, upd_ovlM fD7⟩
    · rw [putK_new hnew, take_more hnm]
      refine Paired.snoc (Paired.mapP pr fun a q ⟨e, b, e2, m0, mb⟩ => ⟨e, b, e2, m0, ?_⟩) ⟨rfl, p, rfl, p0, ?_⟩
      · have ne : b ≠ Dd := fun z => by rw [z, hDl] at mb; cases mb
        rw [upd_ne ne]; exact st7 _ _ mb
      · rw [upd_ne (Ne.symm neD), upd_same]
    · rw [putK_new hnew, List.map_append, List.nodup_append]
      refine ⟨ndv, by simp, fun a ha b hb z => ?_⟩
      have hb : b = .ref p := by simpa using hb
      obtain ⟨kv, hkv, rfl⟩ := List.mem_map.mp ha
      obtain ⟨m, hm⟩ := List.mem_iff_getElem?.mp hkv
      obtain ⟨q, hq, _, b2, e2, _, mb⟩ := paired_at pr hm
      rw [e2, hb] at z
      injection z with z
      have := st6 _ _ mb
      rw [z, mp6] at this; cases this
    · have ne : a ≠ Dd := fun z => by rw [z, mD] at h; cases h
      rw [upd_ne ne]; exact st7 a o (s2 a o h)
  · have e : i = (L.map eN.enc).length := by omega
    subst e
    rw [List.length_map, List.take_length] at pr
    refine .inl ⟨hstop (Nat.le_refl _), ?_⟩
    have Eo : EnvOk f (σ.set 2 (some (.ref Dd))) (E0 Dd) F2 M2 := (E2.setR (i := 2) (R := valR (.ref Dd)) rfl).le (le_refl _)
    refine main Dd _ F2 M2 D d2 Eo ⟨D0, xs, hDl, ?_, ndv⟩ (A.mono (k1.trans k2))
    refine paired_ext (by rw [Paired.length pr, List.length_map]) fun m a1 b1 ha1 hb1 => ?_
    obtain ⟨q1, hq1, c1, b2, c2, c3, c4⟩ := paired_at pr ha1
    rw [List.getElem?_map, hq1] at hb1
    cases hb1
    exact ⟨c1, b2, [], c2, c3, c4, .nil⟩
end FR
set_option Elab.async false
set_option linter.all false
set_option maxRecDepth 100000
set_option maxHeartbeats 2000000
namespace FR
open PySem PySem.Spec PyProof.Rows L2
/-! ### d.setdefault, keys that are pairs -/
theorem setd_T {X : Cx} {pins : List (Addr × Obj)} {σ : L2.St} {H : Hp} {s : Shared} {Er : Value → Shared → Prop} {a b : Addr} {kvs : List (List Key × V)} {key : List Key} {z : V} {r : Value} {A : Around} {Q : Value → Shared → Prop} (hu : A.units + 1 < cLine) (I : Inv X pins σ H s) (ea : H a = some (.dT kvs)) (eb : H b = some (.tup (key.map kV))) (rz : RelV z r) (hl : kvs.length < sizeLine)
    (h1 : ∀ v, valV kvs key = some v → ∀ (w' : Value) (s' : Shared), Inv X pins σ H s' → RelV v w' → Q w' s') (h2 : valV kvs key = none → ∀ (w' : Value) (s' : Shared), Inv X pins σ (L2.upd H a (.dT (putK kvs key z))) s' → RelV z w' → Q w' s') :
    wpAny (model X.prog X.w) A (call (.builtin "dict.setdefault") [.ref a, .ref b, r]) Q Er s := by
  obtain ⟨zz, hd, xs, rel, dd⟩ := dt_of I.hok ea
  have le := length_putK kvs key z
  refine call_setdefault_heap (hsz := by rw [← Paired.length rel]; exact zz) (tupleKind_room_in1 hu) (key_of I.hok eb) hd dd (fun p hp => ?_) fun hn h' dd' hs => ?_
  · have q := rel.val key
    rw [hp] at q
    cases c : valV kvs key with
    | none => rw [c] at q; exact (show False from q).elim
    | some v => rw [c] at q; exact h1 v c _ _ (I.tok _) q
  · have q := rel.val key
    rw [hn] at q
    cases c : valV kvs key with
    | some v => rw [c] at q; exact (show False from q).elim
    | none =>
      obtain ⟨o, es, ep, ho, c1, c2, c3, _, c4⟩ := dd'
      refine h2 c _ _ (d_write (t' := s.toks + (tupleKind (mixKind X.prog X.w)).draws key) I (by rw [ea]; exact True.intro) hs ⟨o, ho⟩ ⟨by omega, hd, _, (rel.put key eb rz).keeps fun c ys ec => ?_, o, es, ep, ho, c1, c2, c3, c4⟩) rz
      rw [upd_ne (ne_of ec ea fun t => nomatch t)]
      exact ec
def tDSetdT (td ty tx : TE) : TE := fun σ H Q => td σ H fun x H1 => ∃ a kvs0, x = .ref a ∧ H1 a = some (.dT kvs0) ∧ ty σ H1 fun y H2 => tx σ H2 fun z H3 => ∃ kvs key b, H3 a = some (.dT kvs) ∧ y = .ref b ∧ H3 b = some (.tup (key.map kV)) ∧ kvs.length < sizeLine ∧
  (∀ v, valV kvs key = some v → Q v H3) ∧ (valV kvs key = none → Q z (L2.upd H3 a (.dT (putK kvs key z))))
theorem pe_dsetdT {X : Cx} {o e f : Expr} {td ty tx : TE} {apos cpos : Pos} (hu : X.A.units + 1 < cLine) (ho : PE X o td) (he : PE X e ty) (hf : PE X f tx) (m : M2 X o "setdefault" apos e f cpos) : PE X (.Call (.Attribute o "setdefault" apos) [e, f] [] cpos) (tDSetdT td ty tx) := by
  refine ⟨fun pins s σ H Q I h => ?_⟩
  refine wpAny_Call_method m.base m.few m.line PySem.F.plainAttrs_dict PySem.F.slot_dict_setdefault PySem.F.type_dict_setdefault (thn (ho.run pins s σ H _ I h) fun u s1 ⟨x, H1, I1, rx, a, kv0, ex, d, q1⟩ => ?_)
  subst ex
  obtain rfl : u = Value.ref a := rx
  obtain ⟨t1, t2, _⟩ := isD_at I1 (.inr ⟨kv0, .inl d⟩)
  refine ⟨t1, t2, ?_⟩
  rw [m.trees]
  refine Calls.callWith_builtin rfl (Calls.evalArgs_plain (Calls.spliced_cons (thn (he.run pins s1 σ H1 _ I1 q1) fun iv s2 ⟨y, H2, I2, ry, q2⟩ =>
    Calls.spliced_cons (thn (hf.run pins s2 σ H2 _ I2 q2) fun fv s3 ⟨z, H3, I3, rz, kvs, key, b, ea, ey, eb, hl, q3, q4⟩ => Calls.spliced_nil ?_))))
  subst ey
  obtain rfl : iv = Value.ref b := ry
  exact setd_T hu I3 ea eb rz hl (fun v hv w' s4 I4 rw' => ⟨v, _, I4, rw', q3 v hv⟩) fun hn w' s4 I4 rw' => ⟨z, _, I4, rw', q4 hn⟩
/-! ### steps by their places -/
/-- a dict with these keys -/
def KS (F : Hp) (ys : List (List Key × V)) (l : List Pr) : Prop := Paired (fun (a : List Key × V) (r : Pr) => a.1 = pk r) ys l
theorem pk_any {F : (List Key × V) → (Pr × List Pr) → Prop} (hF : ∀ p q, F p q → p.1 = pk q.1) : ∀ {xs : List (List Key × V)} {s : List (Pr × List Pr)}, Paired F xs s → ∀ x : Pr, (∃ v, valV xs (pk x) = some v) ↔ x ∈ s.map (·.1)
  | _, _, .nil, x => by simp [valV]
  | _, _, .cons (a := p) (b := q) (l₁ := xs) (l₂ := s) h t, x => by
    have ih := pk_any hF t x
    unfold valV at ih ⊢
    rw [List.find?_cons, hF _ _ h, List.map_cons, List.mem_cons]
    by_cases c : q.1 = x
    · subst c; simp
    · have : ¬ pk q.1 = pk x := fun z => c (pk_inj z)
      rw [decide_eq_false this]
      simp only
      rw [ih]
      have c' : ¬ x = q.1 := fun z => c z.symm
      simp [c']
theorem ks_put {F : Hp} {ys : List (List Key × V)} {l : List Pr} (h : KS F ys l) (q : Pr) (v : V) : KS F (putK ys (pk q) v) (insQ q l) := by
  have key : ∀ {ys : List (List Key × V)} {l : List Pr}, KS F ys l → ((ys.any fun kv => decide (kv.1 = pk q)) = true ↔ q ∈ l) := fun {ys l} h => by
    induction h with
    | nil => simp
    | cons h t ih =>
      rw [List.any_cons, Bool.or_eq_true, ih, decide_eq_true_eq, h, List.mem_cons]
      exact ⟨fun z => z.imp (fun z => (pk_inj z).symm) id, fun z => z.imp (fun z => by rw [z]) id⟩
  have repl : ∀ {ys : List (List Key × V)} {l : List Pr}, KS F ys l → KS F (ys.map fun kv => if kv.1 = pk q then (kv.1, v) else kv) l := fun {ys l} h => by
    induction h with
    | nil => exact .nil
    | cons h t ih =>
      refine .cons ?_ ih
      dsimp only
      split <;> exact h
  unfold putK insQ
  by_cases c : q ∈ l
  · rw [if_pos c, if_pos ((key h).mpr c)]
    exact repl h
  · rw [if_neg c, if_neg (fun z => c ((key h).mp z))]
    exact Paired.snoc h rfl
def PG (f : Fx) (d : Addr) (s : List (Pr × List Pr)) (M : Hp) : Prop := f.M0 d = none ∧ ∃ xs : List (List Key × V), M d = some (.dT xs) ∧
  Paired (fun (p : List Key × V) (q : Pr × List Pr) => p.1 = pk q.1 ∧ ∃ b ys, p.2 = .ref b ∧ b ≠ d ∧ f.M0 b = none ∧ M b = some (.dT ys) ∧ KS M ys q.2) xs s ∧ (xs.map (·.2)).Nodup
theorem KS.any {F F' : Hp} {ys : List (List Key × V)} {l : List Pr} (h : KS F ys l) : KS F' ys l := h
theorem PG.step {f : Fx} {d : Addr} {s : List (Pr × List Pr)} {M M' : Hp} (h : PG f d s M) (st : ∀ a o, M a = some o → M' a = some o) : PG f d s M' := by
  obtain ⟨h0, xs, h1, h2, h3⟩ := h
  exact ⟨h0, xs, st _ _ h1, Paired.mapP h2 fun p q ⟨e, b, ys, e2, ne, m0, mb, dq⟩ => ⟨e, b, ys, e2, ne, m0, st _ _ mb, dq⟩, h3⟩
theorem back_env {f : Fx} {σ σ' : L2.St} {ρ ρ' : Env} {F M F' M' : Hp} (E' : EnvOk (fr M) σ' ρ' F' M') (E : EnvOk f σ ρ F M) (hn : NoOwn ρ') (hu : f.U = none) : EnvOk f σ' ρ' F' M' where
  len := E'.len
  ent := fun i e he => by
    obtain ⟨v, h1, h2⟩ := E'.ent i e he
    refine ⟨v, h1, ?_⟩
    cases e with
    | fz R => exact h2
    | ow P => exact absurd he (hn i P)
    | ur =>
      obtain ⟨a, _, h⟩ := h2
      cases h
  inj := fun i j P P' h1 _ _ => absurd h1 (hn i P)
  base := fun a o h => E'.base a o (E.base a o h)
  urn := fun u h => by rw [hu] at h; cases h
end FR
set_option Elab.async false
set_option linter.all false
set_option maxRecDepth 100000
set_option maxHeartbeats 2000000
namespace FR
open PySem PySem.Spec PyProof.Rows L2
section
variable {X : Cx} {f : Fx} {ρ : Env} {G : Gb} {k : Nat} {N : List Str} {sc : Scope}
theorem gt_pls {F : (List Key × V) → (Pr × List Pr) → Prop} (hF : ∀ p q, F p q → p.1 = pk q.1) : ∀ {xs : List (List Key × V)} {s : List (Pr × List Pr)}, Paired F xs s → ∀ (pl : Pr) (v : V), valV xs (pk pl) = some v → ∃ l, gt s pl = some l ∧ F (pk pl, v) (pl, l)
  | _, _, .nil, pl, v, h => by simp [valV] at h
  | _, _, .cons (a := p) (b := q) (l₁ := xs) (l₂ := s) h t, pl, v, hv => by
    unfold valV at hv
    rw [List.find?_cons] at hv
    unfold gt
    rw [List.find?_cons]
    have e := hF _ _ h
    by_cases c : q.1 = pl
    · subst c
      rw [e, decide_eq_true rfl] at hv
      have hv : p.2 = v := Option.some.inj hv
      refine ⟨q.2, by simp, ?_⟩
      rw [← e, ← hv]; exact h
    · have : ¬ p.1 = pk pl := fun z => c (pk_inj (e.symm.trans z))
      rw [decide_eq_false this] at hv
      obtain ⟨l, h1, h2⟩ := gt_pls hF t pl v hv
      refine ⟨l, ?_, h2⟩
      simp only [c, decide_false]
      exact h1
theorem valV_memT {xs : List (List Key × V)} {key : List Key} {v : V} (h : valV xs key = some v) : ∃ j : Nat, xs[j]? = some (key, v) := by
  unfold valV at h
  obtain ⟨p, hp, rfl⟩ := Option.map_eq_some_iff.mp h
  have e0 := List.find?_some hp
  have e : p.1 = key := by simpa using e0
  obtain ⟨j, hj⟩ := List.mem_iff_getElem?.mp (List.mem_of_find?_eq_some hp)
  exact ⟨j, by rw [hj, ← e]⟩
theorem gt_none {s : List (Pr × List Pr)} {pl : Pr} (h : pl ∉ s.map (·.1)) : gt s pl = none := by
  unfold gt
  rw [Option.map_eq_none_iff, List.find?_eq_none]
  intro p hp
  rw [decide_eq_true_eq]
  exact fun e => h (List.mem_map.mpr ⟨p, hp, e⟩)
/-- steps_by_place.setdefault(place, {})[step] = True -/
theorem st_place {sbp plc stp : Str} {p1 p2 p3 p4 p5 p6 apos cpos pos : Pos} {j : Nat} {d : Addr} {pl q : Pr} {s : List (Pr × List Pr)} {σ : L2.St} {F M : Hp} {D : Ends} (C : Ctx G k X) (hU : f.U = none) (no : NoOwn ρ) (dis : Dis F M) (Ev : EnvOk f σ ρ F M) (pg : PG f d s M) (sl : s.length ≤ 1000) (il : ∀ r ∈ s, r.2.length ≤ 1000) (nds : (s.map (·.1)).Nodup)
    (i1 : Nat) (h1 : ρ[i1]? = some (some (.fz (valR (.ref d))))) (n1 : N[i1]? = some sbp) (v1 : visB sc sbp = true) (i2 : Nat) (h2 : ρ[i2]? = some (some (.fz (dat (eR.enc pl))))) (n2 : N[i2]? = some plc) (v2 : visB sc plc = true) (i3 : Nat) (h3 : ρ[i3]? = some (some (.fz (dat (eR.enc q))))) (n3 : N[i3]? = some stp) (v3 : visB sc stp = true)
    (db : ∀ x ∈ [sbp, plc, stp], (x == ("__debug__" : Str)) = false ∧ (x == ("__classdict__" : Str)) = false)
    (m : M2 (mkX X N sc) (.Name sbp p1) "setdefault" apos (.Name plc p2) (.Dict [] [] p3) cpos)
    (hs : swapsWith (.Constant (.bool true) j p6) (some (.Subscript (.Call (.Attribute (.Name sbp p1) "setdefault" apos) [.Name plc p2, .Dict [] [] p3] [] cpos) (.Name stp p4) p5)) pos.line (mkX X N sc).env = pure false)
    (hD : ∀ F' M', PG f d (pt s pl (insQ q ((gt s pl).getD []))) M' → Same F F' → Dis F' M' → EnvOk f σ ρ F' M' → D.nx σ (ovl F' M')) :
    wpS (mkX X N sc) (.Assign [.Subscript (.Call (.Attribute (.Name sbp p1) "setdefault" apos) [.Name plc p2, .Dict [] [] p3] [] cpos) (.Name stp p4) p5] (.Constant (.bool true) j p6) pos) D σ (ovl F M) := by
  obtain ⟨dsb, dsc⟩ := db sbp (by simp)
  obtain ⟨dpb, dpc⟩ := db plc (by simp)
  obtain ⟨dtb, dtc⟩ := db stp (by simp)
  refine wpS_of (ps_dput (X := mkX X N sc) (hu_of' C.at) (pe_dsetdT (hu_of' C.at) (pe_var n1 (vis_of v1) dsb dsc) (pe_var n2 (vis_of v2) dpb dpc) pe_dnewT m) (pe_var n3 (vis_of v3) dtb dtc) pe_bl hs) ?_
  obtain ⟨w1, s1, e1⟩ := Ev.ent i1 _ h1
  obtain ⟨w2, s2, e2⟩ := Ev.ent i2 _ h2
  obtain ⟨w3, s3, e3⟩ := Ev.ent i3 _ h3
  obtain rfl : w1 = .ref d := e1
  obtain ⟨b2, rfl, eb2⟩ := eR_key e2
  obtain ⟨b3, rfl, eb3⟩ := eR_key e3
  obtain ⟨m0, xs, hd, pr, ndv⟩ := pg
  have fd := dis _ _ hd
  refine ⟨.ref d, s1, d, xs, rfl, by rw [ovl_M fd]; exact hd, .ref b2, s2, fun p hp => ?_⟩
  obtain ⟨fp, mp⟩ := ovl_none hp
  rw [upd_ovlM fp]
  have d1 : Dis F (L2.upd M p (.dT [])) := dis_newM dis fp rfl
  have ned : d ≠ p := fun z => by rw [z, mp] at hd; cases hd
  have hd1 : (L2.upd M p (.dT [])) d = some (.dT xs) := by rw [upd_ne ned]; exact hd
  have p0 : f.M0 p = none := by
    cases z : f.M0 p with
    | none => rfl
    | some o => rw [Ev.base p o z] at mp; cases mp
  have xl : xs.length = s.length := Paired.length pr
  have fb3 : ∀ M', Dis F M' → ovl F M' b3 = some (.tup ((pk q).map kV)) := fun M' _ => ovl_F eb3
  refine ⟨xs, pk pl, b2, by rw [ovl_M (d1 _ _ hd1)]; exact hd1, rfl, ovl_F eb2, by have := sizeLine_eq; omega, fun v hv => ?_, fun hv => ?_⟩
  · -- the place is there
    obtain ⟨l, hg, _, b, ys, rfl, neb, mb0, mb, ks⟩ := gt_pls (fun p q h => h.1) pr pl v hv
    have nebp : b ≠ p := fun z => by rw [z, mp] at mb; cases mb
    have mb1 : (L2.upd M p (.dT [])) b = some (.dT ys) := by rw [upd_ne nebp]; exact mb
    have fb := d1 _ _ mb1
    have lm : (pl, l) ∈ s := by
      unfold gt at hg
      obtain ⟨r, hr, rfl⟩ := Option.map_eq_some_iff.mp hg
      have e0 := List.find?_some hr
      have e : r.1 = pl := by simpa using e0
      rw [← e]; exact List.mem_of_find?_eq_some hr
    have yl : ys.length ≤ 1000 := by rw [Paired.length ks]; exact il _ lm
    obtain ⟨j0, hj0⟩ := valV_memT hv
    obtain ⟨r0, hr0, e00, _⟩ := paired_at pr hj0
    have e0 : pl = r0.1 := pk_inj e00
    clear e00
    refine ⟨.ref b3, s3, b, _, rfl, DPut.t (by rw [ovl_M fb]; exact mb1) (fb3 _ d1) (by have := sizeLine_eq; omega), ?_⟩
    rw [upd_ovlM fb]
    refine hD F _ ⟨m0, xs, by rw [upd_ne (Ne.symm neb)]; exact hd1, ?_, ndv⟩ (Same.refl F) (dis_upd d1 mb1 rfl) (env_upd (env_upd Ev no hU p0) no hU mb0)
    have hany : (s.any fun kv => decide (kv.1 = pl)) = true := List.any_eq_true.mpr ⟨_, lm, decide_eq_true rfl⟩
    have ept : pt s pl (insQ q ((gt s pl).getD [])) = s.map fun kv => if kv.1 = pl then (kv.1, insQ q l) else kv := by rw [hg]; unfold pt; rw [if_pos hany]; rfl
    rw [ept]
    refine paired_ext (by rw [xl, List.length_map]) fun n a1 r1 ha1 hr1 => ?_
    obtain ⟨r2, hr2, c1, b4, y4, c2, c3, c4, c5, c6⟩ := paired_at pr ha1
    rw [List.getElem?_map, hr2] at hr1
    cases hr1
    by_cases cp : r2.1 = pl
    · have hn : n = j0 := nodup_inj nds (x := pl) (by rw [List.getElem?_map, hr2, ← cp]; rfl) (by rw [List.getElem?_map, hr0, e0]; rfl)
      subst hn
      rw [hj0] at ha1
      cases ha1
      cases c2
      rw [mb] at c5
      cases c5
      dsimp only
      rw [if_pos cp]
      refine ⟨c1, b, _, rfl, neb, mb0, upd_same, ?_⟩
      have : r2.2 = l := by
        rw [hr0] at hr2
        cases hr2
        obtain ⟨n2, hn2⟩ := List.mem_iff_getElem?.mp lm
        have q2 : n = n2 := nodup_inj (xs := s.map (·.1)) nds (x := pl) (by rw [List.getElem?_map, hr0, e0]; rfl) (by rw [List.getElem?_map, hn2]; rfl)
        subst q2
        rw [hr0] at hn2
        cases hn2; rfl
      exact ks_put ks q _
    · dsimp only
      rw [if_neg cp]
      have neb4 : b4 ≠ b := fun z => by
        subst z
        have hn : n = j0 := nodup_inj ndv (x := .ref b4) (by rw [List.getElem?_map, ha1, ← c2]; rfl) (by rw [List.getElem?_map, hj0]; rfl)
        subst hn
        rw [hr0] at hr2
        cases hr2
        exact cp e0.symm
      have ne4p : b4 ≠ p := fun z => by rw [z, mp] at c5; cases c5
      exact ⟨c1, b4, y4, c2, c3, c4, by rw [upd_ne neb4, upd_ne ne4p]; exact c5, c6⟩
  · -- a new place
    have hno : pl ∉ s.map (·.1) := fun z => by
      obtain ⟨v, hv2⟩ := (pk_any (fun p q h => h.1) pr pl).mpr z
      rw [hv] at hv2; cases hv2
    have fd1 := d1 _ _ hd1
    rw [putK_new hv, upd_ovlM fd1]
    have d2 : Dis F (L2.upd (L2.upd M p (.dT [])) d (.dT (xs ++ [(pk pl, .ref p)]))) := dis_upd d1 hd1 rfl
    have mp2 : (L2.upd (L2.upd M p (.dT [])) d (.dT (xs ++ [(pk pl, .ref p)]))) p = some (.dT []) := by rw [upd_ne (Ne.symm ned), upd_same]
    have fp2 := d2 _ _ mp2
    refine ⟨.ref b3, s3, p, _, rfl, DPut.t (by rw [ovl_M fp2]; exact mp2) (fb3 _ d2) (by have := sizeLine_eq; show 0 < sizeLine; omega), ?_⟩
    rw [upd_ovlM fp2]
    refine hD F _ ⟨m0, xs ++ [(pk pl, .ref p)], by rw [upd_ne ned, upd_same], ?_, ?_⟩ (Same.refl F) (dis_upd d2 mp2 rfl) (env_upd (env_upd (env_upd Ev no hU p0) no hU m0) no hU p0)
    · rw [gt_none hno, pt_new hno]
      refine Paired.snoc (Paired.mapP pr fun a r ⟨c1, b4, y4, c2, c3, c4, c5, c6⟩ => ?_) ⟨rfl, p, _, rfl, Ne.symm ned, p0, upd_same, ?_⟩
      · have ne4p : b4 ≠ p := fun z => by rw [z, mp] at c5; cases c5
        exact ⟨c1, b4, y4, c2, c3, c4, by rw [upd_ne ne4p, upd_ne c3, upd_ne ne4p]; exact c5, c6⟩
      · exact ks_put (F := M) (ys := []) (l := []) .nil q _
    · rw [List.map_append, List.nodup_append]
      refine ⟨ndv, by simp, fun a ha b hb z => ?_⟩
      have hb : b = .ref p := by simpa using hb
      obtain ⟨kv, hkv, rfl⟩ := List.mem_map.mp ha
      obtain ⟨n, hn⟩ := List.mem_iff_getElem?.mp hkv
      obtain ⟨r, hr, _, b4, y4, c2, _, _, c5, _⟩ := paired_at pr hn
      rw [c2, hb] at z
      injection z with z
      rw [z, mp] at c5; cases c5
end
end FR
set_option Elab.async false
set_option linter.all false
set_option maxRecDepth 100000
set_option maxHeartbeats 2000000
namespace FR
open PySem PySem.Spec PyProof.Rows L2
section
variable {X : Cx} {f : Fx} {ρ : Env} {e a b c : Expr} {es : List Expr} {κ : Rp → Prop} {pos p : Pos} {G : Gb} {k : Nat} {N : List Str} {sc : Scope}
/-- all of one's own is frozen -/
theorem freeze_all {σ : L2.St} {F M : Hp} (E : EnvOk f σ ρ F M) (d : Dis F M) (no : NoOwn ρ) (hU : f.U = none) : ∃ F2 M2, ovl F2 M2 = ovl F M ∧ Same F F2 ∧ Dis F2 M2 ∧ EnvOk f σ ρ F2 M2 ∧ ∀ a o, f.M0 a = none → M a = some o → F2 a = some o := by
  obtain ⟨F2, M2, eq, k2, d2, x2⟩ := exit_ok E d
  have nu : ∀ a, f.U ≠ some a := fun a z => by rw [hU] at z; cases z
  refine ⟨F2, M2, eq, k2, d2, ⟨E.len, fun i e he => ?_, fun i j P P' h1 _ _ => absurd h1 (no i P), fun a o h => (x2.1 a (nu a)).trans h, fun u h => by rw [hU] at h; cases h⟩, fun a o h0 h1 => ?_⟩
  · obtain ⟨v, h1, h2⟩ := E.ent i e he
    refine ⟨v, h1, ?_⟩
    cases e with
    | fz R => exact R.mono _ _ _ k2 h2
    | ow P => exact absurd he (no i P)
    | ur => exact h2
  · have e1 : M2 a = none := (x2.1 a (nu a)).trans h0
    have e2 := congrFun eq a
    rw [ovl_M (d _ _ h1), h1] at e2
    unfold ovl at e2
    cases q : F2 a with
    | some o' => rw [q] at e2; exact e2
    | none => rw [q, e1] at e2; cases e2
/-- a dict of dicts, by their keys -/
def dTDR (s : List (Pr × List Pr)) : Rp := ⟨fun v F => ∃ d xs, v = .ref d ∧ F d = some (.dT xs) ∧ Paired (fun (p : List Key × V) (q : Pr × List Pr) => p.1 = pk q.1 ∧ ∃ b ys, p.2 = .ref b ∧ F b = some (.dT ys) ∧ ys.length = q.2.length) xs s,
  fun _ _ _ k ⟨d, xs, e, h, r⟩ => ⟨d, xs, e, k _ _ h, Paired.mapP r fun _ _ ⟨c1, b, ys, c2, c3, c4⟩ => ⟨c1, b, ys, c2, k _ _ c3, c4⟩⟩⟩
def dLenR (n : Nat) : Rp := ⟨fun v F => ∃ b ys, v = .ref b ∧ F b = some (.dT ys) ∧ ys.length = n, fun _ _ _ k ⟨b, ys, e, h, r⟩ => ⟨b, ys, e, k _ _ h, r⟩⟩
theorem gath_dTD (s : List (Pr × List Pr)) : Gath G eR (dTDR s) (s.map (·.1)) := fun X _ _ _ F M v d hv => by
  obtain ⟨a, xs, rfl, hr, r⟩ := hv
  refine (colr_dT (.inl (ovl_F hr))).imp fun vs ⟨bs, e, hb⟩ => ⟨_, .refl _, ?_⟩
  subst e
  unfold IsKeys at hb
  have : ∀ (xs : List (List Key × V)) (bs : List Addr) (s : List (Pr × List Pr)), Paired (fun (p : List Key × V) (b : Addr) => ovl F M b = some (.tup (p.1.map kV))) xs bs → Paired (fun (p : List Key × V) (q : Pr × List Pr) => p.1 = pk q.1) xs s → DqA F (bs.map V.ref) ((s.map (·.1)).map eR.enc) := fun xs bs s h1 h2 => by
    induction h1 generalizing s with
    | nil => cases h2; exact .nil
    | cons h t ih => cases h2 with
      | cons h' t' => exact .cons (eR_of (tup_F d (by rw [← h']; exact h))) (ih _ t')
  exact this _ _ _ hb (Paired.mapP r fun _ _ h => h.1)
theorem ev_getTD (C : Ctx G k X) (hs : NoSl b) (h : EvE X f ρ a fun R => EvE X f ρ b fun S => ∃ (s : List (Pr × List Pr)) (pl : Pr), R = dTDR s ∧ S = dat (eR.enc pl) ∧ pl ∈ s.map (·.1) ∧ κ (dLenR ((gt s pl).getD []).length)) : EvE X f ρ (.Subscript a b pos) κ := fun F M σ d E Q hQ => by
  refine wpE_of (pe_dget (hu_of' C) pe_wp pe_wp hs) ?_
  refine h F M σ d E _ fun v R F1 M1 hb hv k1 d1 s1 => ?_
  refine hb F1 M1 σ d1 (E.step k1 s1) _ fun w S F2 M2 hh hw k2 d2 s2 => ?_
  obtain ⟨s, pl, rfl, rfl, hm, hk⟩ := hh
  obtain ⟨dc, xs, rfl, hd, r⟩ := (dTDR s).mono _ _ _ k2 hv
  obtain ⟨bb, rfl, eb⟩ := eR_key hw
  obtain ⟨u, hu⟩ := (pk_any (fun p q h => h.1) r pl).mpr hm
  obtain ⟨l, hg, _, b2, ys, c2, c3, c4⟩ := gt_pls (fun p q h => h.1) r pl u hu
  rw [hg] at hk
  exact ⟨dc, u, rfl, .inr ⟨xs, pk pl, bb, .inl (ovl_F hd), rfl, ovl_F eb, hu.symm⟩, hQ _ _ F2 M2 hk ⟨b2, ys, c2, c3, c4⟩ (k1.trans k2) d2 (stepT s1 s2)⟩
theorem r_lenT (g : Gx G) (C : Ctx G k X) (h : EvE (mkX X N sc) f ρ e fun R => ∃ n, R = dLenR n ∧ κ (nt ((n : Nat) : Int))) (hg : gloB sc "len" = true := by decide +kernel) (he : starEach (e :: []) (mkX X N sc).env = (false, eval e (mkX X N sc).env) :: starEach [] (mkX X N sc).env := by rfl) (hpl : (backTo pos (starEach [] (mkX X N sc).env)).any (·.1) = false := by rfl) : EvE (mkX X N sc) f ρ (.Call (.Name "len" p) [e] [] pos) κ :=
  ev_callB C.at call_len_dT (glo_of hg) g.f_len (by decide +kernel) (ea_one (ev_imp h fun R ⟨n, e1, hk⟩ => fun F M vs d hvs va Q hQ => by
    subst e1
    obtain ⟨v, rfl, b, ys, rfl, hb, hn⟩ := rpa1 hvs
    refine ⟨b, ys, rfl, ovl_F hb, ?_⟩
    rw [hn]
    exact hQ _ _ F hk (Dq.int _) (Same.refl F) d) he) (he := he) (hpl := hpl)
/-- d.get(name, default), d read only -/
theorem ev_get2K {apos : Pos} (C : Ctx G k X) (h : EvE (mkX X N sc) f ρ a fun R => ∃ kvs : List (Nm × D), (R = dKR nmK kvs ∨ R = dKL nmK kvs) ∧ EvE (mkX X N sc) f ρ b fun S => EvE (mkX X N sc) f ρ c fun T => ∃ (x : Nm) (d : D), S = dat (eN.enc x) ∧ T = dat d ∧ κ (dat ((gt kvs x).getD d)))
    (m : M2 (mkX X N sc) a "get" apos b c pos := by exact ⟨rfl, rfl, rfl, rfl⟩) : EvE (mkX X N sc) f ρ (.Call (.Attribute a "get" apos) [b, c] [] pos) κ := fun F M σ d E Q hQ => by
  refine wpE_of (pe_dget2 (X := mkX X N sc) (hu_of' C.at) pe_wp pe_wp pe_wp m) ?_
  refine h F M σ d E _ fun v R F1 M1 hb hv k1 d1 s1 => ?_
  obtain ⟨kvs, hR, hb⟩ := hb
  have key : ∃ dc xs, v = .ref dc ∧ Rd F1 dc (.dK xs) ∧ KvR nmK F1 xs kvs := by
    rcases hR with rfl | rfl
    · obtain ⟨dc, od, xs, e1, e2, r⟩ := hv; exact ⟨dc, xs, e1, .inr ⟨od, e2⟩, r⟩
    · exact hv
  obtain ⟨dc, xs, rfl, hd, r⟩ := key
  refine ⟨dc, rfl, .inl ⟨xs, rd_ovl hd⟩, ?_⟩
  refine hb F1 M1 σ d1 (E.step k1 s1) _ fun w S F2 M2 hh hw k2 d2 s2 => ?_
  refine hh F2 M2 σ d2 (E.step (k1.trans k2) (stepT s1 s2)) _ fun u T F3 M3 hh3 hu k3 d3 s3 => ?_
  obtain ⟨x, dd, rfl, rfl, hk⟩ := hh3
  cases hw
  have hd3 : Rd F3 dc (.dK xs) := hd.elim (fun h => .inl ((k2.trans k3) _ _ h)) fun ⟨o, h⟩ => .inr ⟨o, (k2.trans k3) _ _ h⟩
  have r3 := r.mono (k2.trans k3)
  refine ⟨valV xs (nmK x), .inl ⟨xs, nmK x, rd_ovl hd3, rfl, rfl⟩, ?_⟩
  rcases r3.get nmK_inj x with ⟨h1, h2⟩ | ⟨w', d', h1, h2, h3⟩
  · rw [h2] at hk
    rw [h1]
    exact hQ _ _ F3 M3 hk hu (k1.trans (k2.trans k3)) d3 (stepT s1 (stepT s2 s3))
  · rw [h2] at hk
    rw [h1]
    exact hQ _ _ F3 M3 hk h3 (k1.trans (k2.trans k3)) d3 (stepT s1 (stepT s2 s3))
end
/-! ### the numbers of the forced -/
structure PlOk (n : Nat) (s : List (Pr × List Pr)) : Prop where
  nd : (s.map (·.1)).Nodup
  l : s.length ≤ n
  i : ∀ r ∈ s, r.2.length ≤ n
theorem pt_keys {κ δ : Type} [DecidableEq κ] (kvs : List (κ × δ)) (k : κ) (d : δ) : (pt kvs k d).map (·.1) = if k ∈ kvs.map (·.1) then kvs.map (·.1) else kvs.map (·.1) ++ [k] := by
  by_cases c : k ∈ kvs.map (·.1)
  · rw [if_pos c]
    unfold pt
    obtain ⟨p, hp, e⟩ := List.mem_map.mp c
    rw [if_pos (List.any_eq_true.mpr ⟨p, hp, decide_eq_true e⟩), List.map_map]
    refine List.map_congr_left fun q _ => ?_
    simp only [Function.comp]
    split <;> rfl
  · rw [if_neg c, pt_new c, List.map_append]; rfl
theorem pt_mem {κ δ : Type} [DecidableEq κ] {kvs : List (κ × δ)} {k : κ} {d : δ} {r : κ × δ} (h : r ∈ pt kvs k d) : r ∈ kvs ∨ r = (k, d) := by
  unfold pt at h
  split at h
  · obtain ⟨p, hp, rfl⟩ := List.mem_map.mp h
    by_cases c : p.1 = k
    · right; simp [c]
    · left; simp [c]; exact hp
  · rcases List.mem_append.mp h with h | h
    · exact .inl h
    · exact .inr (List.mem_singleton.mp h)
theorem PlOk.step {n : Nat} {s : List (Pr × List Pr)} (h : PlOk n s) (cs : List Ch) (q : Pr) : PlOk (n + 1) (plAcc cs s q) where
  nd := by
    unfold plAcc
    rw [pt_keys]
    split
    · exact h.nd
    · rename_i c
      rw [List.nodup_append]
      exact ⟨h.nd, by simp, fun a ha b hb z => c (by rw [List.mem_singleton] at hb; rw [← hb, ← z]; exact ha)⟩
  l := by
    unfold plAcc
    have := pt_length s (oo cs q, q.1) (insQ q ((gt s (oo cs q, q.1)).getD []))
    have := h.l
    omega
  i := fun r hr => by
    unfold plAcc at hr
    rcases pt_mem hr with hr | rfl
    · have := h.i r hr; omega
    · show (insQ q ((gt s (oo cs q, q.1)).getD [])).length ≤ n + 1
      have h0 : ((gt s (oo cs q, q.1)).getD []).length ≤ n := by
        unfold gt
        cases z : s.find? fun p => decide (p.1 = (oo cs q, q.1)) with
        | none => simp
        | some r => exact h.i r (List.mem_of_find?_eq_some z)
      unfold insQ
      split
      · omega
      · rw [List.length_append, List.length_singleton]; omega
theorem pls_ok (cs : List Ch) : ∀ (qs : List Pr) (n : Nat) (s : List (Pr × List Pr)), PlOk n s → PlOk (n + qs.length) (qs.foldl (plAcc cs) s)
  | [], n, s, h => h
  | q :: qs, n, s, h => by
    rw [List.foldl_cons, List.length_cons, show n + (qs.length + 1) = (n + 1) + qs.length by omega]
    exact pls_ok cs qs _ _ (h.step cs q)
theorem plOk_nil : PlOk 0 [] := ⟨List.nodup_nil, Nat.le_refl _, fun r hr => by cases hr⟩
theorem PlOk.mono {m n : Nat} {s : List (Pr × List Pr)} (h : PlOk m s) (l : m ≤ n) : PlOk n s := ⟨h.nd, Nat.le_trans h.l l, fun r hr => Nat.le_trans (h.i r hr) l⟩
end FR
set_option Elab.async false
set_option linter.all false
set_option maxRecDepth 100000
set_option maxHeartbeats 2000000
namespace FR
open PySem PySem.Spec PyProof.Rows L2
def stq (p : Op2) : List Pr := [p.1, p.2]
theorem encF_pt (t : List (Nm × Nat)) (k : Nm) (n : Nat) : encF (pt t k n) = pt (encF t) k (.int (n : Nat)) := by
  have e : ((encF t).any fun kv => decide (kv.1 = k)) = t.any fun kv => decide (kv.1 = k) := by unfold encF; rw [List.any_map]; rfl
  unfold pt
  rw [e]
  split
  · unfold encF
    rw [List.map_map, List.map_map]
    refine List.map_congr_left fun p _ => ?_
    simp only [Function.comp]
    split <;> rfl
  · unfold encF
    rw [List.map_append]; rfl
theorem gt_encF (t : List (Nm × Nat)) (k : Nm) : (gt (encF t) k).getD (PyData.int 0) = PyData.int (((gt t k).getD 0 : Nat) : Int) := by
  unfold gt encF
  rw [List.find?_map]
  show Option.getD (Option.map _ (Option.map _ (List.find? (fun p : Nm × Nat => decide (p.1 = k)) t))) _ = PyData.int (((Option.map (fun x : Nm × Nat => x.2) (List.find? (fun p : Nm × Nat => decide (p.1 = k)) t)).getD 0 : Nat) : Int)
  cases t.find? (fun p : Nm × Nat => decide (p.1 = k)) <;> rfl
theorem fd_len (cs : List Ch) : ∀ (ks : List Pr) (t : List (Nm × Nat)), (ks.foldl (fdAcc cs) t).length ≤ t.length + ks.length
  | [], t => by simp
  | k :: ks, t => by
    rw [List.foldl_cons]
    have h1 := fd_len cs ks (fdAcc cs t k)
    have h2 : (fdAcc cs t k).length ≤ t.length + 1 := by
      unfold fdAcc
      split
      · exact pt_length _ _ _
      · omega
    rw [List.length_cons]; omega
theorem stq_len (ps : List Op2) : (ps.flatMap stq).length = 2 * ps.length := by
  induction ps with
  | nil => rfl
  | cons p ps ih => rw [List.flatMap_cons, List.length_append, ih, List.length_cons]; show 2 + _ = _; omega
def T_fnums (G : Gb) : Tp := fun Rs κ => ∃ (S : Sys) (l : List (Str × Rp)), Rs = [objK G "Task" l] ∧ (("task_pairs" : Str), li ((psOf S.cs).map eQ.enc)) ∈ l ∧ (("task_owners" : Str), dTR (encV (stepsOf S.cs))) ∈ l ∧ S.FitT ∧ κ (dKR nmK (encF (fdOf S.cs)))
theorem P_fnums {G : Gb} (g : Gx G) (cf : ClsF G "Task" fTask) (S : StdM G "Task" "forced_numbers" "Task.forced_numbers" s_Taskforced_numbers) : PromM G "Task" "forced_numbers" 1 p_Taskforced_numbers (SpF (T_fnums G)) := by
  refine S.prom sc_Taskforced_numbers (by rintro Rs κ ⟨_, _, rfl, _⟩; rfl) (fun _ _ _ _ _ _ us hl => match us, hl with | [_], _ => rfl) fun X f Rs κ C hU h => ?_
  obtain ⟨S, l, rfl, m1, m2, ft, hκ⟩ := h
  have pl := ps_len S.cs
  have cl := ft.ft.len
  have qsl : ((psOf S.cs).flatMap stq).length ≤ 160 := by rw [stq_len]; omega
  have plsE : plsOf S.cs = ((psOf S.cs).flatMap stq).foldl (plAcc S.cs) [] := rfl
  have pok : PlOk 160 (plsOf S.cs) := by
    rw [plsE]
    exact (pls_ok S.cs _ 0 [] plOk_nil).mono (by omega)
  let keys := srt eR ((plsOf S.cs).map (·.1))
  have kl : keys.length ≤ 160 := by show (srt eR _).length ≤ 160; rw [srt_length, List.length_map]; exact pok.l
  -- the second half
  have rest : WSs (mkX X n_Taskforced_numbers (defScope s_Taskforced_numbers)) f [some (.fz (objK G "Task" l)), some (.fz (dTDR (plsOf S.cs))), none, none, none, none, none, none, none, none] ((defBody s_Taskforced_numbers).drop 2) { nx := fun _ => κ (dat .none), rt := κ } := by
    refine ws_cons (w_setX 2 (ex_newK (km := nmK) ?_))
    refine ws_cons (w_for (S := List (Nm × Nat)) (fun i t => t = (keys.take i).foldl (fdAcc S.cs) []) (fun t => [some (.fz (objK G "Task" l)), some (.fz (dTDR (plsOf S.cs))), some (.ow (dKO nmK (encF t))), none, none, none, none, none, none, none]) [6, 7] C (it_list (r_sorted g C (v 1 ⟨Pr, eR, _, gath_dTD (plsOf S.cs), sortOk_R _, by rw [List.length_map]; have := pok.l; omega, _, rfl, ?_⟩))))
    refine ⟨⟨[], rfl, le_refl _⟩, fun i t d hd hi ht => ?_, fun t ht => ?_⟩
    · obtain ⟨pc, hpc, rfl⟩ := at_map hd
      have hm : pc ∈ (plsOf S.cs).map (·.1) := (srt_mem eR).mp (List.mem_of_getElem? hpc)
      have nx : (keys.take (i + 1)).foldl (fdAcc S.cs) [] = fdAcc S.cs t pc := by rw [take_more hpc, List.foldl_append, ← ht]; rfl
      have tl : t.length ≤ 200 := by
        have := fd_len S.cs (keys.take i) []
        rw [← ht, List.length_take] at this
        simp at this
        omega
      have etl : (encF t).length ≤ 10000 := by unfold encF; rw [List.length_map]; omega
      refine at_tup (ds := [eN.enc pc.1, eN.enc pc.2]) C.at.calm rfl (ats_cons (tn 6 sc_Taskforced_numbers.nd (ats_cons (tn 7 sc_Taskforced_numbers.nd (ats_nil ?_)))))
      refine ws_cons (w_set 8 (r_lenT g C (ev_getTD C.at (by intro _ _; rfl) (v 1 (ev_tup (ea2 (v 6 (v 7 ⟨[eN.enc pc.1, eN.enc pc.2], rfl, (by show 2 ≤ 10000; decide), plsOf S.cs, pc, rfl, rfl, hm, _, rfl, ?_⟩))))))))
      refine ws_cons (ws_if (et_c (ec_geI (v 8 (gi C g.c_LEAST_FORCED ⟨_, _, rfl, rfl, _, rfl, fun h => ?_, fun h => ws_nil (ws_nil ⟨_, rfl, ?_⟩)⟩)))))
      · rw [decide_eq_true_iff] at h
        have h2 : 2 ≤ manyOf S.cs pc := by unfold manyOf; omega
        refine ws_cons (ws_putK nmK_inj 2 C.at rfl rfl (vis_of (sc := defScope s_Taskforced_numbers) (by decide +kernel)) etl (r_max g C (v 8 (ev_lend 2 (lend_dK nmK (encF t)) (ev_get2K C (v 2 ⟨encF t, .inr rfl, v 6 (ev_int ⟨pc.1, _, rfl, rfl, ?_⟩)⟩)))))) 
        rw [gt_encF]
        refine ⟨light_nt _, _, _, rfl, rfl, v 6 ⟨pc.1, _, pc.1.1, rfl, rfl, rfl, ws_nil (ws_nil ⟨_, rfl, ?_⟩)⟩⟩
        rw [nx]
        unfold fdAcc
        rw [if_pos h2, encF_pt]
        have em : (if (((gt t pc.1).getD 0 : Nat) : Int) > ((((gt (plsOf S.cs) pc).getD []).length : Nat) : Int) then (((gt t pc.1).getD 0 : Nat) : Int) else ((((gt (plsOf S.cs) pc).getD []).length : Nat) : Int)) = ((max (manyOf S.cs pc) ((gt t pc.1).getD 0) : Nat) : Int) := by
          unfold manyOf
          split <;> omega
        rw [em]
        exact le_keep (le_keep (le_keep (le_keep (le_keep (le_keep (le_drop (le_drop (le_drop (le_keep le_nil)))))))))
      · rw [decide_eq_false_iff_not] at h
        have h2 : ¬ 2 ≤ manyOf S.cs pc := by unfold manyOf; omega
        rw [nx]
        unfold fdAcc
        rw [if_neg h2]
        exact le_keep (le_keep (le_keep (le_keep (le_keep (le_keep (le_drop (le_drop (le_drop (le_keep le_nil)))))))))
    · rw [List.length_map, List.take_length] at ht
      subst ht
      exact ws_frz 2 (frz_dK nmK _) (ws_cons (ws_ret (v 2 hκ)))
  -- the places
  let NN := n_Taskforced_numbers
  have no0 : ∀ (d : Addr) (a b c e : Option Rp), NoOwn [some (.fz (objK G "Task" l)), some (.fz (valR (.ref d))), none, a.map .fz, b.map .fz, c.map .fz, none, none, none, e.map .fz] := fun d a b c e => noOwn_of (by cases a <;> cases b <;> cases c <;> cases e <;> rfl)
  let E0 : Addr → Env := fun d => [some (.fz (objK G "Task" l)), some (.fz (valR (.ref d))), none, none, none, none, none, none, none, none]
  let St : Nat → List (Pr × List Pr) := fun i => (((psOf S.cs).take i).flatMap stq).foldl (plAcc S.cs) []
  have nu : ∀ a, f.U ≠ some a := fun a z => by rw [hU.1] at z; cases z
  have tlen : ∀ i, (((psOf S.cs).take i).flatMap stq).length ≤ 160 := fun i => by rw [stq_len, List.length_take]; omega
  have StOk : ∀ i, PlOk 160 (St i) := fun i => (pls_ok S.cs _ 0 [] plOk_nil).mono (by have := tlen i; omega)
  intro F M σ dis Ev D A
  refine wpSs_of (pss_cons ps_wp pss_wp) (wpS_of (ps_set (X := mkX X NN (defScope s_Taskforced_numbers)) (i := 1) sc_Taskforced_numbers.nd rfl (.inl (show List.lookup ("steps_by_place" : Str) (defScope s_Taskforced_numbers).names = some NameKind.local by decide +kernel)) pe_dnewT (by rfl) (.inr (show List.lookup ("steps_by_place" : Str) (defScope s_Taskforced_numbers).names = some NameKind.local by decide +kernel))) ?_)
  intro d hd
  obtain ⟨fd, md⟩ := ovl_none hd
  have d0 : f.M0 d = none := by
    cases z : f.M0 d with
    | none => rfl
    | some o => rw [Ev.base d o z] at md; cases md
  rw [upd_ovlM fd]
  have dis0 : Dis F (L2.upd M d (.dT [])) := dis_newM dis fd rfl
  have Ev0 : EnvOk f (σ.set 1 (some (.ref d))) (E0 d) F (L2.upd M d (.dT [])) := by
    have e1 := Ev.setR (i := 1) (v := .ref d) (R := valR (.ref d)) rfl
    have e2 : EnvOk f (σ.set 1 (some (.ref d))) (E0 d) F M := e1.le (le_refl _)
    exact env_upd e2 (no0 d none none none none) hU.1 d0
  refine wpSs_of (pss_cons ps_wp pss_wp) ?_
  refine raw_for (I := fun i σ F' M' => EnvOk f σ (E0 d) F' M' ∧ PG f d (St i) M' ∧ Same F F') (ds := (psOf S.cs).map eQ.enc) C.at (fun R hR => ?_) (fun i σ F1 F2 M1 h k => ⟨h.1.mono k, h.2.1, h.2.2.trans k⟩) (fun i dd σ1 F1 M1 v0 hdd dis1 hI hv D' hD' => ?_) (fun σ1 F1 M1 dis1 hI => ?_)
  · refine it_list (κ := fun ds => ds = (psOf S.cs).map eQ.enc) (ev_fldK C cf (v 0 ⟨l, _, rfl, m1, _, rfl, rfl⟩)) F _ _ dis0 Ev0 R fun J ds F' M' hk _ hW k1 d1 s1 => ?_
    subst hk
    refine hR J F' M' hW d1 ⟨Ev0.step k1 s1, PG.step ⟨d0, [], upd_same, .nil, List.nodup_nil⟩ fun a o h => s1.1 a o (nu a) h, k1⟩
  · obtain ⟨p, hp, rfl⟩ := at_map hdd
    obtain ⟨Ev1, pg1, k01⟩ := hI
    obtain ⟨q1, q2⟩ := ft.ps p (List.mem_of_getElem? hp)
    let E1 : Env := [some (.fz (objK G "Task" l)), some (.fz (valR (.ref d))), none, some (.fz (dat (eR.enc p.1))), some (.fz (dat (eR.enc p.2))), none, none, none, none, none]
    refine (at_tup (ds := [eR.enc p.1, eR.enc p.2]) (js := [3, 4]) (κ := fun ρ' => ρ' = E1) C.at.calm rfl (ats_cons (tn 3 sc_Taskforced_numbers.nd (ats_cons (tn 4 sc_Taskforced_numbers.nd (ats_nil rfl)))))) F1 M1 σ1 v0 dis1 Ev1 hv _ fun ρ4 σ4 F4 M4 hρ w4 k4 d4 s4 E4 => ?_
    subst hρ
    have pg4 := pg1.step fun a o h => s4.1 a o (nu a) h
    have nx : St (i + 1) = (stq p).foldl (plAcc S.cs) (St i) := by
      show (((psOf S.cs).take (i + 1)).flatMap stq).foldl (plAcc S.cs) [] = _
      rw [take_more hp, List.flatMap_append, List.foldl_append]
      simp [St]
    refine wpSs_of (pss_cons ps_wp pss_wp) ?_
    refine raw_for (I := fun j σ F' M' => EnvOk f σ E1 F' M' ∧ PG f d (((stq p).take j).foldl (plAcc S.cs) (St i)) M' ∧ Same F4 F') (ds := (stq p).map eR.enc) C.at (fun R hR => ?_) (fun i σ F1 F2 M1 h k => ⟨h.1.mono k, h.2.1, h.2.2.trans k⟩) (fun j dd σ5 F5 M5 v5 hdd5 dis5 hI5 hv5 D5 hD5 => ?_) (fun σ5 F5 M5 dis5 hI5 => ?_)
    · refine it_tup (κ := fun ds => ds = (stq p).map eR.enc) (ev_tup (ea2 (v 3 (v 4 ⟨[eR.enc p.1, eR.enc p.2], rfl, (by show 2 ≤ 10000; decide), _, rfl, rfl⟩)))) F4 M4 σ4 d4 E4 R fun J ds F' M' hk _ hW k1 d1 s1 => ?_
      subst hk
      exact hR J F' M' hW d1 ⟨E4.step k1 s1, pg4.step fun a o h => s1.1 a o (nu a) h, k1⟩
    · obtain ⟨q, hq, rfl⟩ := at_map hdd5
      obtain ⟨Ev5, pg5, k45⟩ := hI5
      have hqk : q ∈ keysOf S.cs := by
        have := List.mem_of_getElem? hq
        rcases List.mem_cons.mp this with e | e
        · rw [e]; exact q1
        · rw [List.mem_singleton.mp e]; exact q2
      have sok : PlOk 300 (((stq p).take j).foldl (plAcc S.cs) (St i)) := (pls_ok S.cs _ _ _ (StOk i)).mono (by rw [List.length_take]; have : (stq p).length = 2 := rfl; omega)
      let E6 : Env := [some (.fz (objK G "Task" l)), some (.fz (valR (.ref d))), none, some (.fz (dat (eR.enc p.1))), some (.fz (dat (eR.enc p.2))), some (.fz (dat (eR.enc q))), none, none, none, none]
      let E7 : Env := [some (.fz (objK G "Task" l)), some (.fz (valR (.ref d))), none, some (.fz (dat (eR.enc p.1))), some (.fz (dat (eR.enc p.2))), some (.fz (dat (eR.enc q))), none, none, none, some (.fz (dat (eR.enc (oo S.cs q, q.1))))]
      refine (tn 5 sc_Taskforced_numbers.nd rfl : AsT (mkX X NN (defScope s_Taskforced_numbers)) f E1 _ (dat (eR.enc q)) [5] fun ρ' => ρ' = E6) F5 M5 σ5 v5 dis5 Ev5 hv5 _ fun ρ6 σ6 F6 M6 hρ w6 k6 d6 s6 E6' => ?_
      subst hρ
      have pg6 := pg5.step fun a o h => s6.1 a o (nu a) h
      have no6 : NoOwn E6 := no0 d (some _) (some _) (some _) none
      have no7 : NoOwn E7 := no0 d (some _) (some _) (some _) (some _)
      refine wpSs_of (pss_cons ps_wp pss_wp) ?_
      refine (w_set 9 (ev_tup (ea2 (ev_getT C.at (by intro _ _; rfl) (ev_fldK C cf (v 0 ⟨l, _, rfl, m2, v 5 ⟨_, q, _, .inl rfl, rfl, oo_at hqk, ixc (eN.enc q.1) (ds := [eN.enc q.1, eN.enc q.2]) (v 5 ⟨rfl, [eN.enc (oo S.cs q), eN.enc q.1], rfl, (by show 2 ≤ 10000; decide), rfl⟩)⟩⟩))))) : WS (mkX X NN (defScope s_Taskforced_numbers)) (fr M6) E6 _ { nx := fun ρ' => ρ' = E7, rt := fun _ => False }) F6 M6 σ6 d6 (fr_env E6' no6 hU.1) _ ⟨fun ρ7 σ7 F7 M7 hρ k7 d7 E7' => ?_, fun _ _ _ _ z => z.elim, fun _ _ _ _ z => z.elim, fun _ _ _ _ z => z.elim⟩
      subst hρ
      have E7f := back_env E7' E6' no7 hU.1
      have pg7 := pg6.step fun a o h => E7'.base a o h
      refine wpSs_of (pss_cons ps_wp pss_wp) ?_
      refine st_place C hU.1 no7 d7 E7f pg7 (by have := sok.l; omega) (fun r hr => by have := sok.i r hr; omega) sok.nd 1 rfl rfl (by decide +kernel) 9 rfl rfl (by decide +kernel) 5 rfl rfl (by decide +kernel) (by decide +kernel) ⟨rfl, rfl, rfl, rfl⟩ (by rfl) fun F8 M8 pg8 k8 d8 E8 => ?_
      refine wpSs_of pss_nil ?_
      refine hD5 σ7 F8 M8 ⟨E8.le (le_keep (le_keep (le_keep (le_keep (le_keep (le_drop (le_keep (le_keep (le_keep (le_drop le_nil)))))))))), ?_, k45.trans (k6.trans (k7.trans k8))⟩ (k6.trans (k7.trans k8)) d8
      rw [take_more hq, List.foldl_append]
      exact pg8
    · obtain ⟨Ev5, pg5, k45⟩ := hI5
      rw [List.length_map, List.take_length, ← nx] at pg5
      refine wpSs_of pss_nil ?_
      exact hD' σ5 F5 M5 ⟨Ev5.le (le_keep (le_keep (le_keep (le_drop (le_drop (le_keep (le_keep (le_keep (le_keep (le_keep le_nil)))))))))), pg5, k01.trans (k4.trans k45)⟩ (k4.trans k45) dis5
  · obtain ⟨Ev1, pg1, k01⟩ := hI
    rw [List.length_map] at pg1
    have eS : St (psOf S.cs).length = plsOf S.cs := by
      show (((psOf S.cs).take (psOf S.cs).length).flatMap stq).foldl (plAcc S.cs) [] = _
      rw [List.take_length]; rfl
    rw [eS] at pg1
    obtain ⟨m0, xs, hd1, pr, ndv⟩ := pg1
    obtain ⟨F2, M2, eq, k2, d2, E2, at2⟩ := freeze_all Ev1 dis1 (no0 d none none none none) hU.1
    show wpSs _ _ D σ1 (ovl F1 M1)
    rw [← eq]
    have E3 : EnvOk f σ1 [some (.fz (objK G "Task" l)), some (.fz (dTDR (plsOf S.cs))), none, none, none, none, none, none, none, none] F2 M2 := by
      refine ⟨E2.len, fun i e he => ?_, fun i j P P' h1 _ _ => ?_, E2.base, E2.urn⟩
      · by_cases h1 : i = 1
        · subst h1
          simp only [List.getElem?_cons_succ, List.getElem?_cons_zero, Option.some.injEq] at he
          subst he
          obtain ⟨v0, hσ, hv0⟩ := E2.ent 1 _ rfl
          obtain rfl : v0 = .ref d := hv0
          refine ⟨.ref d, hσ, d, xs, rfl, at2 _ _ m0 hd1, Paired.mapP pr fun a r ⟨c1, b, ys, c2, c3, c4, c5, c6⟩ => ⟨c1, b, ys, c2, at2 _ _ c4 c5, Paired.length c6⟩⟩
        · refine E2.ent i e ?_
          rw [← he]
          match i, h1 with
          | 0, _ => rfl
          | i + 2, _ => rfl
      · exact absurd h1 (noOwn_of rfl i P)
    exact rest F2 M2 σ1 d2 E3 D (A.mono (k01.trans k2))
end FR
set_option Elab.async false
set_option linter.all false
set_option maxRecDepth 100000
set_option maxHeartbeats 2000000
namespace FR
open PySem PySem.Spec PyProof.Rows L2
theorem steps_perm : ∀ cs : List Ch, (stepsOf cs).Perm (lawSteps cs)
  | [] => .nil
  | c :: cs => by
    show (chSteps c ++ stepsOf cs).Perm (lawChSteps c ++ lawSteps cs)
    exact List.Perm.append ((srt_perm eN (wordsOf c)).map _) (steps_perm cs)
theorem steps_nodup {cs : List Ch} (nd : (cs.map (·.nm)).Nodup) : ((stepsOf cs).map (·.1)).Nodup := ((steps_perm cs).map _).nodup_iff.mpr (law_keys_nodup nd)
theorem P_Task {G : Gb} (g : Gx G) (cf : ClsF G "Task" fTask) (S : StdI G "Task" "Task.__init__" s_Task__init__ fTask) (P1 : Prom G "left_pairs" 6 p_left_pairs (SpF (T_left_pairs G))) (P2 : Prom G "steps_with_owners" 5 p_steps_with_owners (SpF (T_steps G))) (P3 : PromM G "Task" "pair_edges" 1 p_Taskpair_edges (SpF (T_pedges G))) (P4 : PromM G "Task" "forced_numbers" 1 p_Taskforced_numbers (SpF (T_fnums G))) : PromI G "Task" 7 p_Task__init__ (T_Task G) := by
  refine S.prom sc_Task__init__ (by rintro Rs κ ⟨_, rfl, _⟩; rfl) (fun _ _ _ _ _ _ us hl => match us, hl with | [_, _, _], _ => rfl) fun X f x dx Cc Rs κ C hU h hc => ?_
  obtain ⟨S, rfl, ft, hκ⟩ := h
  have nk := steps_nodup ft.ft.nd
  have sl := steps_len S.cs
  have cl := ft.ft.len
  refine ws_cons (w_fld (l := []) 0 C hc.2.1 (hc.2.2 _ (by decide +kernel)) (by decide) (by simp) (v 1 ?_))
  refine ws_cons (w_fld (l := [("task_system", sysR G S)]) 0 C hc.2.1 (hc.2.2 _ (by decide +kernel)) (by simp) (by show ¬ ("task_left" : Str) ∈ [("task_system" : Str)]; decide +kernel) (v 2 ?_))
  refine ws_cons (w_fld (l := [("task_left", tu ((keysOf S.cs).map eR.enc)), ("task_system", sysR G S)]) 0 C hc.2.1 (hc.2.2 _ (by decide +kernel)) (by simp) (by show ¬ ("task_pairs" : Str) ∈ [("task_left" : Str), "task_system"]; decide +kernel) (r_call P1 C (ea2 (v 1 (v 2 ⟨S, keysOf S.cs, rfl, cl, ?_⟩)))))
  refine ws_cons (w_fld (l := [("task_pairs", li ((psOf S.cs).map eQ.enc)), ("task_left", tu ((keysOf S.cs).map eR.enc)), ("task_system", sysR G S)]) 0 C hc.2.1 (hc.2.2 _ (by decide +kernel)) (by simp) (by show ¬ ("task_owners" : Str) ∈ [("task_pairs" : Str), "task_left", "task_system"]; decide +kernel) (ev_dcT [("step", 3), ("owner", 4)] C (it_itemsT (r_call P2 C (ea_one (v 1 ⟨S, rfl, ft.ft.nd, cl, _, rfl, ?_⟩))))))
  have e : (encV (stepsOf S.cs)).map (fun p => PyData.tuple [eR.enc p.1, p.2]) = (stepsOf S.cs).map fun p => PyData.tuple [eR.enc p.1, eN.enc p.2] := by
    unfold encV
    rw [List.map_map]; rfl
  rw [e]
  refine ⟨fun i acc => acc = encV ((stepsOf S.cs).take i), rfl, fun i acc dd hd hj => ?_, fun acc hj => ?_⟩
  · obtain ⟨p, hp, rfl⟩ := at_map hd
    subst hj
    have hkm : p.1 ∈ keysOf S.cs := List.mem_map.mpr ⟨p, List.mem_of_getElem? hp, rfl⟩
    have nx : pt (encV ((stepsOf S.cs).take i)) p.1 (eN.enc p.2) = encV ((stepsOf S.cs).take (i + 1)) := by
      rw [pt_new]
      · rw [take_more hp]
        unfold encV
        rw [List.map_append]; rfl
      · rw [encV_keys, List.map_take]
        exact nodup_take nk (by rw [List.getElem?_map, hp]; rfl)
    refine ⟨by unfold encV; rw [List.length_map, List.length_take]; omega, fun X' C' => at_tup (ds := [eR.enc p.1, eN.enc p.2]) C'.calm rfl (ats_cons (tn 3 sc_Task__init__.nd (ats_cons (tn 4 sc_Task__init__.nd (ats_nil fun X2 C2 => ts_one (et_c (ec_in C2.at eR (v 3 (v 2 ⟨p.1, keysOf S.cs, rfl, .inr rfl, _, rfl, fun _ X4 C4 => v 3 ⟨p.1, rfl, fun X5 C5 => v 4 ⟨_, rfl, nx⟩⟩, fun h => ?_⟩)))))))))⟩
    exact absurd hkm (of_decide_eq_false h)
  · subst hj
    rw [List.length_map, List.take_length]
    refine ws_cons (w_fld (l := [("task_owners", dTR (encV (stepsOf S.cs))), ("task_pairs", li ((psOf S.cs).map eQ.enc)), ("task_left", tu ((keysOf S.cs).map eR.enc)), ("task_system", sysR G S)]) 0 C hc.2.1 (hc.2.2 _ (by decide +kernel)) (by simp) (by show ¬ ("task_edges" : Str) ∈ [("task_owners" : Str), "task_pairs", "task_left", "task_system"]; decide +kernel) (ev_lendI 0 (lend_slf hc.1) (ev_meth0 P3 C (v 0 ⟨_, rfl, ?_, S, _, rfl, ?_, ?_, ft, lightI_dat _, ?_⟩))))
    · show ¬ ("pair_edges" : Str) ∈ [("task_owners" : Str), "task_pairs", "task_left", "task_system"]
      decide +kernel
    · simp
    · simp
    refine ws_cons (w_fld (l := [("task_edges", li ((edgesOf S.cs).map eR.enc)), ("task_owners", dTR (encV (stepsOf S.cs))), ("task_pairs", li ((psOf S.cs).map eQ.enc)), ("task_left", tu ((keysOf S.cs).map eR.enc)), ("task_system", sysR G S)]) 0 C hc.2.1 (hc.2.2 _ (by decide +kernel)) (by simp) (by show ¬ ("task_forced" : Str) ∈ [("task_edges" : Str), "task_owners", "task_pairs", "task_left", "task_system"]; decide +kernel) (ev_lendI 0 (lend_slf hc.1) (ev_meth0 P4 C (v 0 ⟨_, rfl, ?_, S, _, rfl, ?_, ?_, ft, lightI_dKR _ _, ?_⟩))))
    · show ¬ ("forced_numbers" : Str) ∈ [("task_edges" : Str), "task_owners", "task_pairs", "task_left", "task_system"]
      decide +kernel
    · simp
    · simp
    exact ws_nil ⟨_, hκ, rfl⟩
/-! ### sorted(d.items()) -/
def eNI : Enc (Nm × Nat) where
  enc p := .tuple [eN.enc p.1, .int (p.2 : Nat)]
  alike x y := by simp [PySem.W.alike, PySem.W.alikeAll, eN]
  inj x y e := by
    injection e with e
    simp only [List.cons.injEq, and_true, PyData.int.injEq] at e
    exact Prod.ext (eN.inj _ _ e.1) (by omega)
  lay x := by
    simp only [PyData.canLay0, PyData.canLayAll0, Bool.and_true, Bool.and_eq_true]
    exact eN.lay x.1
  depth x := by
    simp [PyData.depth, PyData.depthAll, eN]
end FR
set_option Elab.async false
set_option linter.all false
set_option maxRecDepth 100000
set_option maxHeartbeats 2000000
namespace FR
open PySem PySem.Spec PyProof.Rows L2
/-- x can be gathered, new things are made by it -/
def ColR2 (X : Cx) (x : V) (H : Hp) (P : Hp → List V → Prop) : Prop := ∀ (pins : List (Addr × Obj)) (s : Shared) (σ : L2.St) (u : Value), Inv X pins σ H s → RelV x u → ∀ (A : Around) (E : Value → Shared → Prop) (R : List Value → Shared → Prop), A.handled = none →
  (∀ (s' : Shared) (acc : List Value) (zs : List V) (H' : Hp), Inv X pins σ H' s' → Same H H' → P H' zs → Vals zs acc → R acc s') → wpAny (model X.prog X.w) A (collect u) R E s
def rSortC2 (X : Cx) : List V → Hp → VK → Prop := fun vs H Q => ∃ (x : V) (P : Hp → List V → Prop), vs = [x] ∧ ColR2 X x H P ∧ ∀ H' xs, Same H H' → P H' xs → ∃ zs : List (V × D), zs.map (·.1) = xs ∧ (∀ z ∈ zs, Dp X.K H' z.1 z.2) ∧ PySem.W.AllAlike (zs.map (·.2)) ∧
  (PySem.W.Sortable (zs.map (·.2)) ∨ (zs.length ≤ 1 ∧ ∀ d ∈ zs.map (·.2), d ≠ .none)) ∧ (∀ z ∈ zs, z.2.depth ≤ 50) ∧ zs.length ≤ sizeLine ∧
  ∀ p, H' p = none → Q (.ref p) (L2.upd H' p (.lst ((zs.mergeSort (PySem.W.dataLe false (·.2))).map (·.1))))
theorem cr_sortC2 {X : Cx} (hc : X.calm = true) (hu : X.A.units + 64 < cLine) : CallR X (.builtin "sorted") (rSortC2 X) := by
  intro pins s σ H vs us Q I r h
  obtain ⟨x, P, rfl, hcol, hP⟩ := h
  obtain ⟨u, rfl, rx⟩ := r.one
  refine Calls.call_function_entry PyProof.Rows.kind_sorted PyProof.Rows.plain_sorted PyProof.Rows.entry_sorted (PyProof.Rows.args_sorted1 _) ?_
  unfold Builtin.«sorted»
  refine wpAny_bind (m := checkCount "sorted" 1 1 _) (wpAny_pure ?_)
  refine wpAny_bind (hcol pins s σ u I rx _ _ _ (I.ok.hd hc) fun s' acc xs H' I1 sH hPx hv => ?_)
  obtain ⟨zs, rfl, hd, hal, hk, hdp, hL, q⟩ := hP H' xs sH hPx
  have hk' : PySem.W.Sortable (zs.map (·.2)) ∨ ((zs.map (·.2)).length ≤ 1 ∧ ∀ d ∈ zs.map (·.2), d ≠ .none) := hk.imp id fun h => ⟨by rw [List.length_map]; exact h.1, h.2⟩
  have hal2 : acc.length = zs.length := by rw [← hv.length, List.length_map]
  refine wpAny_bind (wpAny_newList ?_ (by rw [hal2]; exact hL))
  have hoL : (s'.heap.push (seqObj "list" acc.toArray 0)).get? s'.heap.objs.size = some (seqObj "list" acc.toArray 0) := Heap.get?_push_size _ rfl
  show wpAny _ _ _ _ _ { s' with heap := s'.heap.push (seqObj "list" acc.toArray 0) }
  have I3 : Inv X pins σ H' { s' with heap := PySem.W.sortingHeap (s'.heap.push (seqObj "list" acc.toArray 0)) s'.heap.objs.size acc } := I1.kept (t' := s'.toks) fun b o e => PySem.W.sortingHeap_old (Nat.ne_of_lt (Heap.lt_size e)) (Heap.get?_push_of_some _ e)
  have E3 := each_of (K := X.K) I3 hv hd
  have e1 : PySem.W.EachIs (fun u (z : V × D) => RelV z.1 u) acc zs := E3.mono fun _ _ h => h.1
  have er : PySem.W.EachIs (fun u (z : V × D) => ∃ as, Reads (PySem.W.sortingHeap (s'.heap.push (seqObj "list" acc.toArray 0)) s'.heap.objs.size acc) u z.2 as) acc zs := E3.mono fun _ _ h => h.2
  have S : PySem.W.SortsAt X.prog X.w X.A.in1.in1 { s' with heap := PySem.W.sortingHeap (s'.heap.push (seqObj "list" acc.toArray 0)) s'.heap.objs.size acc } (PySem.W.dataKind (PySem.W.sortingHeap (s'.heap.push (seqObj "list" acc.toArray 0)) s'.heap.objs.size acc) (zs.map (·.2))) acc :=
    sorts_few (ds := zs.map fun z => z.2) (s := { s' with heap := PySem.W.sortingHeap (s'.heap.push (seqObj "list" acc.toArray 0)) s'.heap.objs.size acc }) (PySem.W.each_map (R := fun v d => ∃ as, Reads (PySem.W.sortingHeap (s'.heap.push (seqObj "list" acc.toArray 0)) s'.heap.objs.size acc) v d as) (fun z : V × D => z.2) er) hal hk' fun d hd' => by
      obtain ⟨z, hz, rfl⟩ := List.mem_map.mp hd'
      have := hdp z hz
      show X.A.units + 1 + 1 + _ < cLine
      omega
  refine wpAny_bind (wpAny_holding (wpAny_call_entry PyProof.Rows.slot_list_sort ⟨_, hoL, rfl⟩ PyProof.Rows.entry_list_sort
    (PySem.W.list_sort_vals (s := { s' with heap := s'.heap.push (seqObj "list" acc.toArray 0) }) hoL S (by rw [hal2]; exact hL) ⟨_, rfl, ?_⟩) (PyProof.Rows.args_list_sort _)))
  obtain ⟨ep, he'⟩ := PyProof.Rows.sortedHeap_at (vs := acc) (out := (PySem.W.sortVals (PySem.W.dataKind (PySem.W.sortingHeap (s'.heap.push (seqObj "list" acc.toArray 0)) s'.heap.objs.size acc) (zs.map (·.2))) false acc acc).toArray) hoL
  have ev := vals_each (PySem.W.sortVals_data false e1 er hal)
  refine wpAny_pure ⟨_, rfl, .ref s'.heap.objs.size, L2.upd H' s'.heap.objs.size (.lst ((zs.mergeSort (PySem.W.dataLe false (·.2))).map (·.1))), I1.laid (t' := s'.toks) (fun b u e => ?_) (Nat.le_refl _)
    (show ObjOk X.prog X.w _ _ _ (.lst _) from ⟨by rw [List.length_map, List.length_mergeSort]; exact hL, _, ep, ev, he'⟩), rfl, q _ (I1.hok.fresh (Nat.le_refl _))⟩
  have hb : b < s'.heap.objs.size := Heap.lt_size e
  rw [PyProof.Rows.sortedHeap_old (Nat.ne_of_lt hb) (by rw [size_push']; exact Nat.lt_succ_of_lt hb)]
  exact Heap.get?_push_of_some _ e
/-- what is gathered, sorted -/
theorem sort_core {α : Type} (E : Enc α) {K : PySem.W.Frag} {F M : Hp} {ws : List V} {ys : List α} (hq : DqA F ws (ys.map E.enc)) (hS : SortOk E ys) (hl : ys.length ≤ 10000) : ∃ zs : List (V × D), zs.map (·.1) = ws ∧ (∀ z ∈ zs, Dp K (ovl F M) z.1 z.2) ∧ PySem.W.AllAlike (zs.map (·.2)) ∧
    (PySem.W.Sortable (zs.map (·.2)) ∨ (zs.length ≤ 1 ∧ ∀ d ∈ zs.map (·.2), d ≠ .none)) ∧ (∀ z ∈ zs, z.2.depth ≤ 50) ∧ zs.length ≤ sizeLine ∧ DqA F ((zs.mergeSort (PySem.W.dataLe false (·.2))).map (·.1)) ((srt E ys).map E.enc) := by
  have hlen : ws.length = ys.length := by rw [hq.length, List.length_map]
  let zs' : List (V × α) := ws.zip ys
  have m1 : zs'.map (·.1) = ws := List.map_fst_zip (by omega)
  have m2 : zs'.map (·.2) = ys := List.map_snd_zip (by omega)
  have hz : ∀ z ∈ zs', Dq F z.1 (E.enc z.2) := by
    have : ∀ (ws : List V) (ys : List α), DqA F ws (ys.map E.enc) → ∀ z ∈ ws.zip ys, Dq F z.1 (E.enc z.2) := fun ws => by
      induction ws with
      | nil => intro ys _ z hz; simp at hz
      | cons w ws ih => intro ys hq z hz; cases ys with
        | nil => simp at hz
        | cons y ys =>
          cases hq with
          | cons h1 h2 =>
            rcases List.mem_cons.mp (by simpa using hz) with rfl | hz
            · exact h1
            · exact ih ys h2 z hz
    exact this ws ys hq
  have hmy : ∀ z ∈ zs', z.2 ∈ ys := fun z hz => by rw [← m2]; exact List.mem_map.mpr ⟨z, hz, rfl⟩
  let g : V × α → V × D := fun z => (z.1, E.enc z.2)
  refine ⟨zs'.map g, by rw [List.map_map, ← m1]; rfl, fun z hz' => ?_, fun x hx y hy => ?_, ?_, fun z hz' => ?_, ?_, ?_⟩
  · obtain ⟨y, hy, rfl⟩ := List.mem_map.mp hz'
    exact Same.dp (hz y hy)
  · rw [List.map_map] at hx hy
    obtain ⟨x', _, rfl⟩ := List.mem_map.mp hx
    obtain ⟨y', _, rfl⟩ := List.mem_map.mp hy
    exact E.alike _ _
  · rw [List.map_map]
    rcases hS.2 with l | t | o
    · refine .inr ⟨by rw [List.length_map]; show (ws.zip ys).length ≤ 1; rw [List.length_zip]; omega, fun x hx => ?_⟩
      obtain ⟨x', hx', rfl⟩ := List.mem_map.mp hx
      exact hS.1 _ (hmy _ hx')
    · refine .inl (.inl fun x hx => ?_)
      obtain ⟨x', hx', rfl⟩ := List.mem_map.mp hx
      exact t _ (hmy _ hx')
    · refine .inl (.inr fun x hx => ?_)
      obtain ⟨x', hx', rfl⟩ := List.mem_map.mp hx
      exact ⟨hS.1 _ (hmy _ hx'), o _ (hmy _ hx')⟩
  · obtain ⟨y, hy, rfl⟩ := List.mem_map.mp hz'
    have := E.depth y.2
    show (E.enc y.2).depth ≤ 50
    omega
  · rw [List.length_map]; show (ws.zip ys).length ≤ _
    rw [List.length_zip]
    exact Nat.le_trans (Nat.min_le_right _ _) (le_sz hl)
  · have e1 : (zs'.map g).mergeSort (PySem.W.dataLe false (·.2)) = (zs'.mergeSort fun a b => E.le a.2 b.2).map g := (PySem.W.sort_maps g fun a _ b _ => rfl).symm
    have e2 : (zs'.mergeSort fun a b => E.le a.2 b.2).map (·.2) = srt E ys := by
      rw [PySem.W.sort_maps (s := E.le) (fun z : V × α => z.2) fun a _ b _ => rfl, m2]; rfl
    rw [e1, List.map_map, ← e2, List.map_map]
    have all : ∀ z ∈ zs'.mergeSort (fun a b => E.le a.2 b.2), Dq F z.1 (E.enc z.2) := fun z h => hz z (List.mem_mergeSort.mp h)
    revert all
    generalize zs'.mergeSort (fun a b => E.le a.2 b.2) = L
    intro all
    induction L with
    | nil => exact .nil
    | cons z L ih => exact .cons (all z List.mem_cons_self) (ih fun y hy => all y (List.mem_cons_of_mem _ hy))
/-! ### d.items() -/
theorem dk_raw {X : Cx} {pins : List (Addr × Obj)} {σ : L2.St} {H : Hp} {s : Shared} {a : Addr} {kvs : List (Key × V)} (I : Inv X pins σ H s) (h : Rd H a (.dK kvs)) :
    kvs.length ≤ sizeLine ∧ (a == sysModules) = false ∧ ∃ es ep, s.heap.DictRaw a es ep ∧ es.size = kvs.length ∧ ∀ (i : Nat) (hi : i < es.size) p, kvs[i]? = some p → RelV (kV p.1) es[i].key ∧ RelV p.2 es[i].val := by
  obtain ⟨z, hs, vs, kv, dd⟩ := dk_rd I.hok h
  obtain ⟨es, ep, hr, hsz, hk⟩ := dd.raw
  have l2 : kvs.length = vs.length := Paired.length kv
  refine ⟨z, hs, es, ep, hr, by omega, fun i hi p hp => ?_⟩
  obtain ⟨q, hq, e1, r⟩ := paired_at kv hp
  obtain ⟨h1, h2⟩ := hk i hi q.1 q.2 hq
  rw [h2, e1]
  exact ⟨keyIs_rel h1, r⟩
section
variable {X : Cx} {o : Expr} {to : TE} {apos pos : Pos}
theorem pe_itemsK (ho : PE X o to) (hbase : attributeBase o "items" X.env (eval o X.env) = eval o X.env := by rfl) (hline : (apos.endLine == pos.line) = true := by rfl) :
    PE X (.Call (.Attribute o "items" apos) [] [] pos) (fun σ H Q => to σ H fun x H1 => ∃ a kvs, x = .ref a ∧ Rd H1 a (.dK kvs) ∧ ∀ p, H1 p = none → Q (.ref p) (L2.upd H1 p (DX.itemsO p a))) := by
  refine ⟨fun pins s σ H Q I h => ?_⟩
  refine wpAny_Call_method0_late hbase hline (thn (ho.run pins s σ H _ I h) fun u s1 ⟨x, H1, I1, rx, a, kvs, ex, hd, q⟩ => ?_)
  subst ex
  obtain rfl : u = Value.ref a := rx
  obtain ⟨t1, t2, t3⟩ := isD_at I1 (.inl ⟨kvs, hd⟩)
  refine ⟨"dict", _, PySem.F.plainAttrs_dict, PySem.F.slot_dict_items, PySem.F.type_dict_items, t1, t2, Calls.callWith_builtin rfl (PySem.evalArgs_none ?_)⟩
  obtain ⟨_, _, es, ep, hr, _⟩ := dk_raw I1 hd
  refine call_meetsIn PySem.F.slot_dict_items t1 PySem.F.entry_dict_items (PySem.F.args_dict_items_1 _) (meets_dict_items_raw a t3) ⟨⟨es, ep, hr⟩, ?_⟩
  have nf : H1 s1.heap.objs.size = none := I1.hok.fresh (Nat.le_refl _)
  exact ⟨.ref s1.heap.objs.size, L2.upd H1 s1.heap.objs.size (DX.itemsO s1.heap.objs.size a), I1.laid (t' := s1.toks) (fun b u e => Heap.get?_push_of_some _ e) (Nat.le_refl _) (DX.itemsO_ok (Heap.get?_push_size _ rfl)), rfl, q _ nf⟩
theorem colr2_items {H : Hp} {p d : Addr} {kvs : List (Key × V)} (hp : H p = some (DX.itemsO p d)) (hd : Rd H d (.dK kvs)) : ColR2 X (.ref p) H fun H' zs => ∃ as : List Addr, zs = as.map V.ref ∧ Paired (fun (b : Addr) (kv : Key × V) => H' b = some (.tup [kV kv.1, kv.2])) as kvs := fun pins s σ u I r A E R hA hR => by
  cases r
  have view : s.heap.IsItemsView p d := (show ObjOk X.prog X.w H s.heap p (DX.itemsO p d) from I.hok p _ hp).1
  obtain ⟨z, _, es, ep, hr, hsz, hk⟩ := dk_raw I hd
  refine DT.collectI (es := es) (ep := ep) hA view hr (by omega) fun h' tk as kp hlt hl hG => ?_
  have I1 : Inv X pins σ H { s with heap := h', toks := tk } := I.kept (t' := tk) kp
  have ndas : as.Nodup := List.Pairwise.imp (fun h => Nat.ne_of_lt h) hG.rise
  obtain ⟨H2, I2, mono, at2⟩ := DX.takeT (P := fun a vs => ∃ (j : Nat) (kv : Key × V), as[j]? = some a ∧ kvs[j]? = some kv ∧ vs = [kV kv.1, kv.2]) I as H I1 ndas fun a ha => by
    obtain ⟨j, hj⟩ := List.mem_iff_getElem?.mp ha
    obtain ⟨e, he, hg⟩ := hG.pairs j a hj
    have hji : j < es.size := by
      rcases Nat.lt_or_ge j es.size with h | h
      · exact h
      · rw [Array.getElem?_eq_none h] at he; cases he
    rw [Array.getElem?_eq_getElem hji] at he
    cases he
    have hjk : j < kvs.length := by omega
    have hkj : kvs[j]? = some kvs[j] := List.getElem?_eq_getElem hjk
    obtain ⟨r1, r2⟩ := hk j hji _ hkj
    have lo := hG.above a ha
    refine ⟨Nat.le_of_lt lo, I.hok.fresh (Nat.le_of_lt lo), [kV kvs[j].1, kvs[j].2], ⟨j, _, hj, hkj, rfl⟩, fun H2 => ⟨by show 2 ≤ sizeLine; have := sizeLine_eq; omega, [es[j].key, es[j].val], .cons r1 (.cons r2 .nil), ⟨_, hg, rfl, 0, rfl⟩⟩⟩
  have al : as.length = kvs.length := by omega
  refine hR _ (as.map Value.ref) (as.map V.ref) H2 I2 mono ⟨as, rfl, paired_ext al fun i a b ha hb => ?_⟩ (vals_refs _)
  obtain ⟨vs, ⟨j, kv, hj, hkv, rfl⟩, h2⟩ := at2 a (List.mem_of_getElem? ha)
  have : i = j := nodup_inj ndas ha hj
  subst this
  rw [hb] at hkv
  cases hkv
  exact h2
end
end FR
set_option Elab.async false
set_option linter.all false
set_option maxRecDepth 100000
set_option maxHeartbeats 2000000
namespace FR
open PySem PySem.Spec PyProof.Rows L2
section
variable {X : Cx} {f : Fx} {ρ : Env} {e a b c : Expr} {es : List Expr} {κ : Rp → Prop} {pos p : Pos} {G : Gb} {k : Nat} {N : List Str} {sc : Scope}
def itemsR (kvs : List (Nm × D)) : Rp := ⟨fun v F => ∃ p d od xs, v = .ref p ∧ F p = some (DX.itemsO p d) ∧ F d = some (.frz od (.dK xs)) ∧ KvR nmK F xs kvs, fun _ _ _ k ⟨p, d, od, xs, e, h1, h2, r⟩ => ⟨p, d, od, xs, e, k _ _ h1, k _ _ h2, r.mono k⟩⟩
theorem ev_items {apos : Pos} (h : EvE (mkX X N sc) f ρ e fun R => ∃ kvs : List (Nm × D), R = dKR nmK kvs ∧ κ (itemsR kvs)) (hbase : attributeBase e "items" (mkX X N sc).env (eval e (mkX X N sc).env) = eval e (mkX X N sc).env := by rfl) (hline : (apos.endLine == pos.line) = true := by rfl) :
    EvE (mkX X N sc) f ρ (.Call (.Attribute e "items" apos) [] [] pos) κ := fun F M σ d E Q hQ => by
  refine wpE_of (pe_itemsK (X := mkX X N sc) pe_wp hbase hline) ?_
  refine h F M σ d E _ fun v R F1 M1 hk hv k1 d1 s1 => ?_
  obtain ⟨kvs, rfl, hk⟩ := hk
  obtain ⟨dd, od, xs, rfl, hd, r⟩ := hv
  refine ⟨dd, xs, rfl, .inr ⟨od, ovl_F hd⟩, fun p hp => ?_⟩
  refine new_of (Q := fun H => Q (.ref p) H) d1 hp fun F2 _ k2 d2 e2 => ?_
  exact hQ _ _ F2 M1 hk ⟨p, dd, od, xs, rfl, e2, k2 _ _ hd, r.mono k2⟩ (k1.trans k2) d2 s1
theorem items_dqa {F : Hp} : ∀ {as : List Addr} {xs : List (Key × V)} {t : List (Nm × Nat)}, Paired (fun (b : Addr) (kv : Key × V) => F b = some (.tup [kV kv.1, kv.2])) as xs → KvR nmK F xs (encF t) → DqA F (as.map V.ref) (t.map eNI.enc)
  | [], _, [], .nil, .nil => .nil
  | [], _, p :: t, .nil, h => nomatch h
  | b :: as, _, [], .cons _ _, h => nomatch h
  | b :: as, x :: xs, p :: t, .cons h r, h2 => by
    have h2 : KvR nmK F (x :: xs) ((p.1, PyData.int (p.2 : Nat)) :: encF t) := h2
    cases h2 with
    | cons q r2 =>
      refine .cons ?_ (items_dqa r r2)
      refine Dq.tup h (.cons ?_ (.cons q.2 .nil))
      have e : x.1 = nmK p.1 := q.1
      rw [e]
      exact Dq.str _
theorem sortOk_NI (t : List (Nm × Nat)) : SortOk eNI t := ⟨fun _ _ h => (by cases h), .inr (.inl fun x _ => ⟨_, _, rfl⟩)⟩
theorem r_sortedItems (g : Gx G) (C : Ctx G k X) (h : EvE (mkX X N sc) f ρ e fun R => ∃ t : List (Nm × Nat), R = itemsR (encF t) ∧ t.length ≤ 1000 ∧ κ (li ((srt eNI t).map eNI.enc))) (hg : gloB sc "sorted" = true := by decide +kernel)
    (he : starEach (e :: []) (mkX X N sc).env = (false, eval e (mkX X N sc).env) :: starEach [] (mkX X N sc).env := by rfl) (hpl : (backTo pos (starEach [] (mkX X N sc).env)).any (·.1) = false := by rfl) : EvE (mkX X N sc) f ρ (.Call (.Name "sorted" p) [e] [] pos) κ :=
  ev_callB C.at (cr_sortC2 C.at.calm C.at.room.units) (glo_of hg) g.f_sorted (by decide +kernel) (ea_one (ev_imp h fun R ⟨t, e1, hl, hk⟩ => fun F M vs d hvs va Q hQ => by
    subst e1
    obtain ⟨v, rfl, p, dd, od, xs, rfl, hp, hd, r⟩ := rpa1 hvs
    refine ⟨.ref p, _, rfl, colr2_items (ovl_F hp) (.inr ⟨od, ovl_F hd⟩), fun H' ws sH ⟨as, e1, pr⟩ => ?_⟩
    subst e1
    let F' : Hp := fun a => match F a with | some o => some o | none => if (M a).isSome then none else H' a
    have kF : Same F F' := fun a o h => by show (match F a with | some o => some o | none => _) = _; rw [h]
    have d' : Dis F' M := ⟨fun a o h => by
      show (match F a with | some o => some o | none => if (M a).isSome then none else H' a) = none
      rw [d.ap a o h, h]; rfl, d.nt⟩
    have eF : ovl F' M = H' := funext fun a => by
      cases z : F a with
      | some o =>
        rw [ovl_F (kF _ _ z)]
        exact (sH a o (ovl_F z)).symm
      | none =>
        cases y : M a with
        | some o =>
          rw [ovl_M (d'.ap a o y), y]
          exact (sH a o (by rw [ovl_M z]; exact y)).symm
        | none =>
          have e1 : F' a = H' a := by show (match F a with | some o => some o | none => if (M a).isSome then none else H' a) = _; rw [z, y]; rfl
          unfold ovl
          rw [e1, y]
          cases H' a <;> rfl
    have pr' : Paired (fun (b : Addr) (kv : Key × V) => F' b = some (.tup [kV kv.1, kv.2])) as xs := Paired.mapP pr fun b kv hb => by
      rw [← eF] at hb
      exact tup_F d' hb
    have hq := items_dqa pr' (r.mono kF)
    obtain ⟨zs, h1, h2, h3, h4, h5, h6, h7⟩ := sort_core (K := (mkX X N sc).K) (M := M) eNI hq (sortOk_NI t) (by omega)
    refine ⟨zs, h1, ?_, h3, h4, h5, h6, fun l hl => ?_⟩
    · rw [← eF]; exact h2
    · rw [← eF] at hl ⊢
      exact new_of (Q := fun H => Q (.ref l) H) d' hl fun F4 _ k4 d4 e4 => hQ _ _ F4 hk (Dq.lst e4 (h7.mono k4)) (kF.trans k4) d4) he) (he := he) (hpl := hpl)
end
def T_forced (G : Gb) : Tp := fun Rs κ => ∃ S : Sys, Rs = [sysR G S] ∧ S.FitT ∧ (fdOf S.cs).length ≤ 1000 ∧ κ (tu ((srt eNI (fdOf S.cs)).map eNI.enc))
theorem P_forced {G : Gb} (g : Gx G) (cf : ClsF G "Task" fTask) (S : Std G "forced" "forced" s_forced) (P1 : Prom G "whole_task" 9 p_whole_task (SpF (T_whole G))) : Prom G "forced" 10 p_forced (SpF (T_forced G)) := by
  refine S.prom sc_forced (by rintro Rs κ ⟨_, rfl, _⟩; rfl) (fun _ _ _ _ _ _ us hl => match us, hl with | [_], _ => rfl) fun X f Rs κ C hU h => ?_
  obtain ⟨S, rfl, ft, hl, hκ⟩ := h
  exact ws_cons (ws_ret (r_tuple g C (r_sortedItems g C (ev_items (tk_forced (S := S) C cf (r_call P1 C (ea_one (v 0 ⟨S, rfl, ft, rfl, _, rfl, fdOf S.cs, rfl, hl, _, .inl rfl, hκ⟩))))))))
end FR
set_option Elab.async false
set_option linter.all false
set_option maxRecDepth 100000
set_option maxHeartbeats 2000000
namespace FR
open PySem PySem.Spec PyProof.Rows L2
section
variable {X : Cx} {f : Fx} {ρ : Env} {e a b c : Expr} {es : List Expr} {κ : Rp → Prop} {pos p : Pos} {G : Gb} {k : Nat} {N : List Str} {sc : Scope}
/-! ### the script; texts repeated, texts read as numbers -/
theorem rd_mono {F F' : Hp} {a : Addr} {o : HO} (k : Same F F') (h : Rd F a o) : Rd F' a o := h.elim (fun h => .inl (k _ _ h)) fun ⟨u, h⟩ => .inr ⟨u, k _ _ h⟩
theorem sql_mono {K : PySem.W.Frag} {F F' : Hp} {a : Addr} {xs : List V} (k : Same F F') (h : SqL K F a xs) : SqL K F' a xs := h.imp (rd_mono k) id
def scrR (G : Gb) (ns : List Int) : Rp := ⟨fun v F => ∃ a, v = .ref a ∧ SqL G.K F a (ns.map V.int), fun _ _ _ k ⟨a, e, h⟩ => ⟨a, e, sql_mono k h⟩⟩
theorem r_lenScr (g : Gx G) (C : Ctx G k X) (h : EvE (mkX X N sc) f ρ e fun R => ∃ ns, R = scrR G ns ∧ κ (nt ((ns.length : Nat) : Int))) (hg : gloB sc "len" = true := by decide +kernel) (he : starEach (e :: []) (mkX X N sc).env = (false, eval e (mkX X N sc).env) :: starEach [] (mkX X N sc).env := by rfl) (hpl : (backTo pos (starEach [] (mkX X N sc).env)).any (·.1) = false := by rfl) : EvE (mkX X N sc) f ρ (.Call (.Name "len" p) [e] [] pos) κ :=
  ev_callB C.at call_len_seq (glo_of hg) g.f_len (by decide +kernel) (ea_one (ev_imp h fun R ⟨ns, e1, hk⟩ => fun F M vs d hvs va Q hQ => by
    subst e1
    obtain ⟨v, rfl, a, rfl, hs⟩ := rpa1 hvs
    refine ⟨a, _, rfl, .inl (by rw [show (mkX X N sc).K = G.K from C.K]; exact sql_mono (same_ovl F M) hs), ?_⟩
    rw [List.length_map]
    exact hQ _ _ F hk (Dq.int _) (Same.refl F) d) he) (he := he) (hpl := hpl)
theorem ev_ixScr (C : Ctx G k X) (hs : PlainIx b) (h : EvE (mkX X N sc) f ρ a fun R => EvE (mkX X N sc) f ρ b fun S => ∃ (ns : List Int) (i : Nat) (y : Int), R = scrR G ns ∧ S = nt (i : Int) ∧ ns[i]? = some y ∧ κ (nt y)) : EvE (mkX X N sc) f ρ (.Subscript a b pos) κ := fun F M σ d E Q hQ => by
  refine wpE_of (pe_ix (X := mkX X N sc) ix_list pe_wp pe_wp hs) ?_
  refine h F M σ d E _ fun x R F1 M1 hb hx k1 d1 s1 => ?_
  refine hb F1 M1 σ d1 (E.step k1 s1) _ fun y S F2 M2 hh hy k2 d2 s2 => ?_
  obtain ⟨ns, i, z, rfl, rfl, hz, hk⟩ := hh
  obtain ⟨l, rfl, hl⟩ := (scrR G ns).mono _ _ _ k2 hx
  cases hy
  have hi : i < ns.length := (List.getElem?_eq_some_iff.mp hz).1
  refine ⟨l, _, (i : Int), .int z, rfl, rfl, by rw [show (mkX X N sc).K = G.K from C.K]; exact sql_mono (same_ovl F2 M2) hl, ?_, hQ _ _ F2 M2 hk (Dq.int z) (k1.trans k2) d2 (stepT s1 s2)⟩
  rw [atI_nat (by rw [List.length_map]; exact hi), List.getElem_map]
  obtain ⟨_, e⟩ := List.getElem?_eq_some_iff.mp hz
  rw [e]
theorem op_mulS {X : Cx} : OpR X (binaryOp .Mult) (fun x y H Q => ∃ z n, x = .str z ∧ y = .int n ∧ MulOk z n ∧ Q (.str (Txt.mul z n)) H) := by
  intro pins s σ H x y v u Q I rx ry h
  obtain ⟨z, n, rfl, rfl, hok, q⟩ := h
  obtain ⟨t, rfl⟩ := rx
  obtain ⟨t2, rfl⟩ := ry
  exact SB.mul hok fun t' k => ⟨.str _, H, I.tok k, ⟨t', rfl⟩, q⟩
theorem ev_mulS (h : EvE X f ρ a fun R => EvE X f ρ b fun S => ∃ (z : Str) (n : Int), R = FR.st z ∧ S = nt n ∧ MulOk z n ∧ κ (FR.st (Txt.mul z n))) : EvE X f ρ (.BinOp a .Mult b pos) κ :=
  ev_bin op_mulS (ev_imp h fun R h2 => ev_imp h2 fun S ⟨z, n, e1, e2, hm, hk⟩ => fun F M x y d hx hy va Q hQ => by
    subst e1 e2
    cases hx
    cases hy
    exact ⟨z, n, rfl, rfl, hm, hQ _ _ F hk (Dq.str _) (Same.refl F) d⟩)
theorem r_intS (g : Gx G) (C : Ctx G k X) (h : EvE (mkX X N sc) f ρ e fun R => ∃ (z : Str) (n : Int), R = FR.st z ∧ PySem.intText? z = some n ∧ z.length ≤ 640 ∧ κ (nt n)) (hg : gloB sc "int" = true := by decide +kernel) (he : starEach (e :: []) (mkX X N sc).env = (false, eval e (mkX X N sc).env) :: starEach [] (mkX X N sc).env := by rfl) (hpl : (backTo pos (starEach [] (mkX X N sc).env)).any (·.1) = false := by rfl) : EvE (mkX X N sc) f ρ (.Call (.Name "int" p) [e] [] pos) κ :=
  ev_callTy C.at call_int_str (glo_of hg) g.f_int (by decide +kernel) (ea_one (ev_imp h fun R ⟨z, n, e1, h1, h2, hk⟩ => fun F M vs d hvs va Q hQ => by
    subst e1
    obtain ⟨v, rfl, hv⟩ := rpa1 hvs
    cases hv
    exact ⟨z, n, rfl, h1, h2, hQ _ _ F hk (Dq.int _) (Same.refl F) d⟩) he) (he := he) (hpl := hpl)
end
def big300 : Str := "1" ++ Txt.mul "0" 300
theorem mulOk300 : MulOk "0" 300 := ⟨by decide +kernel, fun _ _ => by decide +kernel, fun _ _ => by decide +kernel⟩
theorem big_int : PySem.intText? big300 = some (10 ^ 300) := by decide +kernel
theorem big_len2 : big300.length ≤ 640 := by decide +kernel
/-! ### the urn, new -/
def SpN (T : List Rp → Prop) : Sp := fun vs H Q _ => ∃ Rs F M, RpA F vs Rs ∧ T Rs ∧ H = ovl F M ∧ Dis F M ∧ ∀ u F' a b, Same F F' → Dis F' M → ovl F' M u = none → Q (.ref u) (L2.upd (ovl F' M) u (.lst [.int a, .int b]))
theorem ok_fnN {G : Gb} {k : Nat} {T : List Rp → Prop} {ps : List Str} {qual x : Str} {params : Arguments} {body : List Stmt} {scope : Scope} {fa : Addr} {fd : FuncData} {N : List Str} (F : FunD G.K x qual params body scope [] [] fa fd) (S : FnScope N ps scope) (hT : ∀ Rs, T Rs → Rs.length = ps.length)
    (h : ∀ X f Rs, Ctx G k X → (f.U = none ∧ ∀ x, X.fn x = true) → T Rs → ∀ F M σ, Dis F M → EnvOk f σ (startE N Rs) F M → ∀ D : Ends, (∀ u F' a b, Same F F' → Dis F' f.M0 → ovl F' f.M0 u = none → D.rt (.ref u) (L2.upd (ovl F' f.M0) u (.lst [.int a, .int b]))) → wpSs (mkX X N scope) body D σ (ovl F M)) : FnOk G.P G.w G.K G.mg G.base CX0 (k + 1) fa fd ps (SpN T) := by
  refine F.ok S (fun vs H Q E hs => ?_) (fun cdv A outer s H vs Q E hr hs => ?_)
  · obtain ⟨Rs, _, _, hv, ht, _⟩ := hs
    rw [hv.length]; exact hT Rs ht
  · obtain ⟨Rs, F0, M0, hv, ht, rfl, d, hQ⟩ := hs
    have hN : Rs.length ≤ N.length := by
      have := congrArg List.length S.pre
      rw [List.length_take] at this
      rw [hT Rs ht]; omega
    refine ⟨_, PSs.nox pss_wp, ?_⟩
    have C : Ctx G k (cxOf CX0 G.P G.w G.K G.mg G.base N qual scope fa cdv A outer s (ovl F0 M0) E).nox := ⟨rfl, rfl, rfl, rfl, rfl, rfl, rfl, hr⟩
    exact h _ ⟨M0, none⟩ Rs C ⟨rfl, fun _ => rfl⟩ ht F0 M0 (start N vs) d (start_ok hv hN (fun _ _ h => h) (fun _ z => nomatch z)) _ fun u F' a b k1 d1 hu => hQ u F' a b k1 d1 hu
theorem wpSs_raw {X : Cx} {f : Fx} {ρ : Env} {s : Stmt} {ss : List Stmt} {D : Ends} {F M : Hp} {σ : L2.St} {κ : Env → Prop} (d : Dis F M) (E : EnvOk f σ ρ F M) (h : WS X f ρ s { nx := κ, rt := fun _ => False })
    (hr : ∀ ρ' F' M' σ', κ ρ' → Same F F' → Dis F' M' → EnvOk f σ' ρ' F' M' → wpSs X ss D σ' (ovl F' M')) : wpSs X (s :: ss) D σ (ovl F M) := by
  refine wpSs_of (pss_cons ps_wp pss_wp) ?_
  exact h F M σ d E _ ⟨fun ρ' σ' F' M' hk k1 d1 V1 => hr ρ' F' M' σ' hk k1 d1 V1, fun _ _ _ _ h => h.elim, fun _ _ _ _ h => h.elim, fun _ _ _ _ h => h.elim⟩
theorem b64 (c : Prop) [Decidable c] : -(2 ^ 64 : Int) < (if decide c = true then 1 else 0) ∧ (if decide c = true then (1 : Int) else 0) < 2 ^ 64 := by
  by_cases h : c <;> simp [h]
theorem wpA_raw {X : Cx} {f : Fx} {ρ : Env} {es : List Expr} {F M : Hp} {σ : L2.St} {κ : List Rp → Prop} {Q : List V → Hp → Prop} (d : Dis F M) (E : EnvOk f σ ρ F M) (h : EvA X f ρ es κ)
    (hQ : ∀ vs Rs F' M', κ Rs → RpA F' vs Rs → Same F F' → Dis F' M' → f.step M M' → Q vs (ovl F' M')) : wpA X es σ (ovl F M) Q := h F M σ d E Q hQ
theorem two_sz {a b : Int} : [V.int a, V.int b].length ≤ sizeLine := by
  show 2 ≤ sizeLine
  decide
def T_urn (G : Gb) : List Rp → Prop := fun Rs => ∃ (ns : List Int) (k : Nat), Rs = [scrR G ns, nt (k : Int)] ∧ k ≤ 1
theorem P_urn {G : Gb} (g : Gx G) (S : Std G "_law_urn" "_law_urn" s__law_urn) : Prom G "_law_urn" 1 p__law_urn (SpN (T_urn G)) := by
  obtain ⟨fa, fd, FF, hm⟩ := S.ex
  refine ⟨fa, fd, ok_fnN FF sc__law_urn (by rintro Rs ⟨_, _, rfl, _⟩; rfl) (fun X f Rs C hU h F M σ dis Ev D hD => ?_), hm, FF.kp, FF.bindsN fun _ _ _ _ _ _ us hl => match us, hl with | [_, _], _ => rfl⟩
  obtain ⟨ns, k, rfl, hk⟩ := h
  let E1 : Int → Env := fun c => [some (.fz (scrR G ns)), some (.fz (nt (k : Int))), some (.fz (nt c)), none]
  let E2 : Int → Int → Env := fun c o => [some (.fz (scrR G ns)), some (.fz (nt (k : Int))), some (.fz (nt c)), some (.fz (nt o))]
  refine wpSs_raw (κ := fun ρ' => ∃ c, ρ' = E1 c) dis Ev (w_set 2 (ev_if (et_c (ec_ltI (v 1 (r_lenScr g C (v 0 ⟨ns, rfl, (k : Int), _, rfl, rfl, _, rfl, fun h => ?_, fun h => ?_⟩))))))) fun ρ' F1 M1 σ1 hk1 k1 d1 V1 => ?_
  · have hlt : k < ns.length := by have := of_decide_eq_true h; omega
    exact ev_ixScr C (by intro _ _; rfl) (v 0 (v 1 ⟨ns, k, ns[k], rfl, rfl, List.getElem?_eq_getElem hlt, _, rfl⟩))
  · exact ev_add (ev_mul (ev_int (v 1 ⟨5, k, rfl, rfl, .inl (by decide), ev_int ⟨_, _, rfl, rfl, _, rfl⟩⟩)))
  obtain ⟨c, rfl⟩ := hk1
  refine wpSs_raw (κ := fun ρ' => ∃ o, ρ' = E2 c o) d1 V1 (w_set 3 (ev_mul (ev_mod (ev_abs C.at (glo_of (by decide +kernel)) g.f_abs (v 2 ⟨c, rfl, ?_⟩))))) fun ρ' F2 M2 σ2 hk2 k2 d2 V2 => ?_
  · refine r_intS g C (ev_adds (ev_str (ev_mulS (ev_str (ev_int ⟨_, _, rfl, rfl, mulOk300, "1", _, rfl, rfl, by decide +kernel, _, _, rfl, big_int, big_len2, ?_⟩)))))
    refine ⟨_, _, rfl, rfl, by decide +kernel, ?_⟩
    refine ev_intB C.at (glo_of (by decide +kernel)) g.f_int (ev_c (ec_geI (ev_abs C.at (glo_of (by decide +kernel)) g.f_abs (v 2 ⟨c, rfl, ?_⟩))))
    refine ev_pow (ev_int (ev_int ⟨10, 18, rfl, rfl, by decide, by decide, by decide, _, _, rfl, rfl, _, rfl, ?_⟩))
    refine ⟨_, _, rfl, rfl, .inr ?_, _, rfl⟩
    exact b64 _
  obtain ⟨o, rfl⟩ := hk2
  refine wpSs_of (pss_one (ps_ret (pe_lst pa_wp))) ?_
  refine wpA_raw (κ := fun Rs => ∃ a b : Int, Rs = [nt a, nt b]) d2 V2 (ea_cons (v 3 (ea_one ?_))) fun vs Rs F3 M3 hk v3 k3 d3 s3 => ?_
  · refine ev_mod (ev_mul (ev_add (ev_add (ev_mod (v 2 (ev_int ⟨_, _, rfl, rfl, by decide, ?_⟩))))))
    refine ev_mul (ev_mul (ev_int (v 1 ⟨7919, (k : Int), rfl, rfl, .inl (by decide), v 1 ⟨7919 * (k : Int), (k : Int), rfl, rfl, .inr (by omega), _, _, rfl, rfl, ?_⟩⟩)))
    exact ev_int ⟨_, _, rfl, rfl, ev_int ⟨_, _, rfl, rfl, .inr (by decide), ev_int ⟨_, _, rfl, rfl, by decide, _, _, rfl⟩⟩⟩
  obtain ⟨a, b, rfl⟩ := hk
  obtain ⟨x, y, rfl, hx, hy⟩ := rpa2 v3
  cases hx
  cases hy
  refine ⟨two_sz, fun p hp => ?_⟩
  obtain ⟨F4, M4, eq, k4, d4, x4⟩ := exit_ok (V2.step k3 s3) d3
  have e4 : M4 = f.M0 := funext fun z => x4.1 z (by rw [hU.1]; intro h; cases h)
  subst e4
  rw [← eq] at hp ⊢
  exact hD p F4 a b (((k1.trans k2).trans k3).trans k4) d4 hp
end FR
set_option Elab.async false
set_option linter.all false
set_option maxRecDepth 100000
set_option maxHeartbeats 2000000
namespace FR
open PySem PySem.Spec PyProof.Rows L2
section
variable {X : Cx} {f : Fx} {ρ : Env} {e a b c : Expr} {es : List Expr} {κ : Rp → Prop} {Φ : Post} {pos p : Pos} {G : Gb} {k : Nat} {N : List Str} {sc : Scope}
/-! ### a call of nothing, the length of a dict read only, pop(i) -/
theorem r_call0 {j : Nat} {T : Tp} {ps : List Str} {name : Str} (P : Prom G name j ps (SpF T)) (C : Ctx G k X) (h : T [] κ) (hj : j ≤ k := by decide) (hg : gloB sc name = true := by decide +kernel)
    (hdb : (name == ("__debug__" : Str)) = false := by decide +kernel) : EvE (mkX X N sc) f ρ (.Call (.Name name p) [] [] pos) κ := fun F M σ d E Q hQ => by
  obtain ⟨fa, fd, FO, hm, hk, hb⟩ := (P.mono hj).ex
  obtain ⟨g1, g2, g3, g4, g5, g6, g7, g8⟩ := C.at (N := N) (sc := sc)
  obtain ⟨GP, Gw, GK, Gmg, Gbase⟩ := G
  simp only at g1 g2 g3 g4 g5
  have gl : Gl (mkX X N sc) name := glo_of hg
  generalize mkX X N sc = Y at *
  subst g1 g2 g3 g4 g5
  refine wpE_of (pe_call0 (E := fun _ _ _ => False) FO g8 gl hm hk hb .nil pass0 hdb) ?_
  exact ⟨[], κ, F, M, True.intro, h, rfl, d, fun v R F2 hκ hR k2 d2 => hQ v R F2 M hκ hR k2 d2 E.refl⟩
def rLenDR : List V → Hp → VK → Prop := fun xs H Q => ∃ (p : Addr) (kvs : List (List Key × V)), xs = [.ref p] ∧ Rd H p (.dT kvs) ∧ Q (.int ((kvs.length : Nat) : Int)) H
theorem call_len_dR {X : Cx} : CallR X (.builtin "len") rLenDR := by
  intro pins s σ H xs us Q I r h
  obtain ⟨p, kvs, rfl, hp, q⟩ := h
  obtain ⟨u, rfl, rx⟩ := vals1 r
  obtain rfl : u = .ref p := rx
  obtain ⟨z, hd, ys, rel, dd⟩ := dt_rd I.hok hp
  have hl : kvs.length = ys.length := Paired.length rel
  refine call_len_dictH hd dd (by rw [← hl]; rw [sizeLine_eq] at z; omega) ?_
  rw [← hl]
  exact ⟨.int ((kvs.length : Nat) : Int), H, I.tok _, ⟨_, rfl⟩, q⟩
theorem r_lenD (g : Gx G) (C : Ctx G k X) (h : EvE (mkX X N sc) f ρ e fun R => ∃ kvs : List (Pr × D), R = dTR kvs ∧ κ (nt ((kvs.length : Nat) : Int))) (hg : gloB sc "len" = true := by decide +kernel) (he : starEach (e :: []) (mkX X N sc).env = (false, eval e (mkX X N sc).env) :: starEach [] (mkX X N sc).env := by rfl) (hpl : (backTo pos (starEach [] (mkX X N sc).env)).any (·.1) = false := by rfl) : EvE (mkX X N sc) f ρ (.Call (.Name "len" p) [e] [] pos) κ :=
  ev_callB C.at call_len_dR (glo_of hg) g.f_len (by decide +kernel) (ea_one (ev_imp h fun R ⟨kvs, e1, hk⟩ => fun F M vs d hvs va Q hQ => by
    subst e1
    obtain ⟨v, rfl, dd, od, xs, rfl, hb, hr⟩ := rpa1 hvs
    refine ⟨dd, xs, rfl, .inr ⟨od, ovl_F hb⟩, ?_⟩
    rw [hr.length]
    exact hQ _ _ F hk (Dq.int _) (Same.refl F) d) he) (he := he) (hpl := hpl)
/-- x.pop(i) -/
theorem w_pop {x : Str} {p1 apos cpos : Pos} {ds : List D} (i : Nat) (hl : ds.length ≤ 10000) (h : EvE (mkX X N sc) f ρ e fun R => ∃ n : Nat, R = nt n ∧ n < ds.length ∧ Φ.nx (ρ.set i (some (.ow (lstO (ds.eraseIdx n)))))) (hi : ρ[i]? = some (some (.ow (lstO ds))) := by rfl) (hN : N[i]? = some x := by rfl) (hv : visB sc x = true := by decide +kernel)
    (hd : (x == ("__debug__" : Str)) = false := by decide +kernel) (hcd : (x == ("__classdict__" : Str)) = false := by decide +kernel)
    (hbase : attributeBase (.Name x p1) "pop" (mkX X N sc).env (eval (.Name x p1) (mkX X N sc).env) = eval (.Name x p1) (mkX X N sc).env := by rfl)
    (hfew : ((backTo cpos (starEach (e :: []) (mkX X N sc).env)).all (fun x => !x.1) && (backToKw cpos (keywordEach [] (mkX X N sc).env)).all (fun x => x.1.isSome)
      && decide ((e :: []).length + ([] : List Keyword).length + (if ([] : List Keyword).isEmpty then 0 else 1) < 30)) = true := by rfl)
    (hline : (apos.endLine == cpos.line) = true := by rfl) (hs : starEach (e :: []) (mkX X N sc).env = (false, eval e (mkX X N sc).env) :: starEach [] (mkX X N sc).env := by rfl) :
    WS (mkX X N sc) f ρ (.Expr (.Call (.Attribute (.Name x p1) "pop" apos) [e] [] cpos) pos) Φ :=
  ws_ownM i hi hN (vis_of hv) lstO_lst PySem.F.slot_list_pop PySem.F.type_list_pop mt_popAt (ev_imp h fun R ⟨n, e1, hn, hk⟩ => by subst e1; exact ⟨_, mo_popAt hn hl, hk⟩) hd hcd hbase hfew hline hs (by rfl)
end
/-! ### what the plain law says -/
structure Maths (hs : Fs) (cs : List Ch) : Prop where
  ok : (⟨hs, cs⟩ : Sys).Ok
  ft : (⟨hs, cs⟩ : Sys).FitT
  sm : (⟨hs, cs⟩ : Sys).Small
  cf : ∀ c ∈ cs, c.Fit
  pl : ∃ (sp : List Nm) (r : List (List Nm)) (told : Nat), fsetsOf ⟨hs, cs⟩ = sp :: r ∧ sp.length ≤ 100 ∧ cycFree (edgesOf cs) (othersOf hs sp) ∧ told = (busyL cs).length + sp.length + (thOf cs).length ∧ fewestOf hs cs false = some told ∧
    (planOf ⟨hs, cs⟩ sp).length = told ∧ told ≤ 100 ∧ (doneOf (planOf ⟨hs, cs⟩ sp)).length ≤ 5000 ∧ (∀ q ∈ planOf ⟨hs, cs⟩ sp, RunOk ⟨hs, cs⟩ q) ∧ srt eR (doneOf (planOf ⟨hs, cs⟩ sp)) = keysOf cs ∧ Safe ⟨hs, cs⟩ (planOf ⟨hs, cs⟩ sp)
  sg : (fewestOf hs cs true).isSome = true ↔ fdOf cs = [] ∧ cycFree (edgesOf cs) (othersOf hs [])
theorem Drawn.erase {m l : Nat} {hs : Fs} {cs : List Ch} (h : Drawn m l hs cs) (n : Nat) : Drawn m l hs (cs.eraseIdx n) where
  h1 := h.h1
  h2 := h.h2
  h3 := h.h3
  c1 := Nat.le_trans (List.length_eraseIdx_le ..) h.c1
  c2 := fun c hc => h.c2 c ((List.eraseIdx_sublist ..).subset hc)
  c3 := h.c3.sublist ((List.eraseIdx_sublist ..).map _)
theorem Drawn.nd {m l : Nat} {hs : Fs} {cs : List Ch} (h : Drawn m l hs cs) : (cs.map (·.nm)).Nodup := h.c3.imp fun q e => by
  subst e
  rw [eN.lt_irrefl] at q; cases q
end FR
set_option Elab.async false
set_option linter.all false
set_option maxRecDepth 100000
set_option maxHeartbeats 4000000
namespace FR
open PySem PySem.Spec PyProof.Rows L2
def T_right : Tp := fun Rs κ => Rs = [] ∧ κ (bl true)
theorem eN_map_lt {c : Ch} {hs : Fs} (h : LnOk hs c) : LnOk hs { c with rc := c.sn } := ⟨h.sn, h.sn, h.od, h.nw⟩
theorem cut2 (a b c d e : D) : cutD [a, b, c, d, e] none (some 2) = [a, b] := cutD_to _ 2
theorem map_erase {α β : Type} (f : α → β) : ∀ (xs : List α) (n : Nat), (xs.map f).eraseIdx n = (xs.eraseIdx n).map f
  | [], _ => rfl
  | _ :: _, 0 => rfl
  | x :: xs, n + 1 => by rw [List.map_cons, List.eraseIdx_cons_succ, List.eraseIdx_cons_succ, List.map_cons, map_erase f xs n]
theorem log_small {n : Nat} (h : n ≤ 100) : ((n : Int)).natAbs.log2 < 1920 := by
  rw [Int.natAbs_natCast]
  by_cases h0 : n = 0
  · subst h0; decide
  · exact Nat.lt_trans ((Nat.log2_lt h0).mpr (Nat.lt_of_le_of_lt h (by decide : 100 < 2 ^ 7))) (by decide)
def eLNI : Enc (List (Nm × Nat)) := eT eNI (fun _ => by simp [eNI, PyData.depth, PyData.depthAll, eN])
theorem P_right {G : Gb} (g : Gx G) (S : Std G "_law_right" "_law_right" s__law_right) (hM : ∀ hs cs, Drawn 4 6 hs cs → (lawSteps cs).length ≤ 7 → Maths hs cs)
    (cf : ClsF G "System" fSys) (Q1 : Prom G "_law_take" 1 p__law_take (SpU T_take)) (Q2 : Prom G "_law_kinds" 1 p__law_kinds (SpF T_kinds)) (Q3 : Prom G "_law_system" 5 p__law_system (SpU T_system))
    (Q4 : Prom G "_law_steps" 3 p__law_steps (SpF T_law_steps)) {jS : Nat} (hjS : jS ≤ 9) (Q5 : PromI G "System" jS p_System__init__ T_System) (Q6 : Prom G "_law_fewest" 5 p__law_fewest (SpF T_law_fewest))
    (Q7 : Prom G "fewest_releases" 10 p_fewest_releases (SpF (T_few G))) (Q8 : Prom G "fewest_plan" 10 p_fewest_plan (SpF (T_fplan G))) (Q9 : Prom G "is_plan" 8 p_is_plan (SpF (T_is_plan G)))
    (Q10 : Prom G "is_safe" 6 p_is_safe (SpF (T_is_safe G))) (Q11 : Prom G "forced" 10 p_forced (SpF (T_forced G))) (Q12 : Prom G "find_cycle" 11 p_find_cycle (SpF (T_find G))) : Prom G "_law_right" 12 p__law_right (SpU T_right) := by
  refine S.promU sc__law_right (by rintro Rs κ ⟨rfl, _⟩; rfl) (fun _ _ _ _ _ _ us hl => match us, hl with | [_], _ => rfl) fun X f u Rs κ C hU h => ?_
  obtain ⟨rfl, hκ⟩ := h
  let E0 : Ent → Fs → List Ch → Env := fun t hs cs => [some .ur, some t, none, none, some (.fz (dat (eF.enc hs))), some (.fz (dat (.tuple (cs.map dCh)))), none, none, none, none]
  refine ws_cons (w_asg [4, 5] ?_)
  refine r_callU 0 Q3 C (ea3 (ev_int (ev_int (r_call0 Q2 C ⟨rfl, ?_⟩))))
  refine ⟨4, 6, rfl, by decide, by decide, by decide, fun hs cs dr => ?_⟩
  refine at_tup (ds := [eF.enc hs, .tuple (cs.map dCh)]) C.at.calm rfl (ats_cons (tn 4 sc__law_right.nd (ats_cons (tn 5 sc__law_right.nd (ats_nil ?_)))))
  refine ws_cons (w_setX 1 (ex_lst (ea_nil ⟨[], rfl, Nat.zero_le _, ?_⟩)))
  refine ws_cons (w_for (S := List Ch) (fun i s => s.map (·.nm) = (cs.take i).map (·.nm) ∧ ∀ c ∈ s, LnOk hs c) (fun s => E0 (.ow (lstO (s.map dCh))) hs cs) [2] C (it_tup (v 5 ⟨_, rfl, ?_⟩)))
  refine ⟨⟨[], ⟨rfl, fun c hc => by cases hc⟩, le_refl _⟩, fun i s d hd hi hs' => ?_, fun s hs' => ?_⟩
  · obtain ⟨c, hc, rfl⟩ := at_map hd
    obtain ⟨hs1, hs2⟩ := hs'
    have hcm : c ∈ cs := List.mem_of_getElem? hc
    have sl : s.length ≤ 6 := by
      have := congrArg List.length hs1
      rw [List.length_map, List.length_map, List.length_take] at this
      have := dr.c1
      omega
    have fin : ∀ c' : Ch, c'.nm = c.nm → LnOk hs c' → ∀ en, ∃ s' : List Ch, (s'.map (·.nm) = (cs.take (i + 1)).map (·.nm) ∧ ∀ c ∈ s', LnOk hs c) ∧ Env.le [some .ur, some (.ow (lstO (s.map dCh ++ [dCh c']))), en, none, some (.fz (dat (eF.enc hs))), some (.fz (dat (.tuple (cs.map dCh)))), none, none, none, none] (E0 (.ow (lstO (s'.map dCh))) hs cs) := fun c' hn hc' en => by
      refine ⟨s ++ [c'], ⟨?_, fun x hx => ?_⟩, ?_⟩
      · rw [List.map_append, hs1, take_more hc, List.map_append, List.map_cons, List.map_cons, hn]
      · rcases List.mem_append.mp hx with hx | hx
        · exact hs2 x hx
        · rw [List.mem_singleton] at hx; subst hx; exact hc'
      · rw [List.map_append]
        exact le_keep (le_keep (le_drop (le_keep (le_keep (le_keep (le_keep (le_keep (le_keep (le_keep le_nil)))))))))
    refine tn 2 sc__law_right.nd (ws_cons (w_append (ds := s.map dCh) 1 (by rw [List.length_map]; omega) ?_))
    refine ev_if (et_c (ec_eqI (r_callU 0 Q1 C (ea_one (ev_int ⟨6, rfl, by decide, by decide, fun z hz => ev_int ⟨_, _, rfl, rfl, _, rfl, fun _ => ?_, fun _ => ?_⟩⟩)))))
    · refine ev_catT (ev_catT (ev_slT (v 2 (eo_none (eo_some (ev_int ⟨_, rfl, _, rfl, ?_⟩))))))
      refine ev_tup (ea_one (ixc _ (v 2 ⟨rfl, ?_⟩)))
      refine ⟨[eN.enc c.sn], rfl, (by show 1 ≤ 10000; decide), _, _, rfl, rfl, ?_, ?_⟩
      · rw [cut2]; show 3 ≤ 10000; decide
      refine slc (i := 3) (v 2 ⟨_, rfl, ?_⟩)
      rw [cut2]
      exact ⟨_, _, rfl, rfl, (by show 5 ≤ 10000; decide), dCh { c with rc := c.sn }, rfl, ws_nil (fin { c with rc := c.sn } rfl (eN_map_lt (dr.c2 c hcm)) _)⟩
    · exact v 2 ⟨_, rfl, ws_nil (fin c rfl (dr.c2 c hcm) _)⟩
  obtain ⟨hs1, hs2⟩ := hs'
  rw [List.length_map, List.take_length] at hs1
  have dr1 : Drawn 4 6 hs s := ⟨dr.h1, dr.h2, dr.h3, by have := congrArg List.length hs1; rw [List.length_map, List.length_map] at this; have := dr.c1; omega, hs2, by rw [hs1]; exact dr.c3⟩
  refine ws_cons (ws_while (S := List Ch) (fun n t => n = t.length ∧ Drawn 4 6 hs t) (fun t => E0 (.ow (lstO (t.map dCh))) hs cs) C.at ⟨_, s, ⟨rfl, dr1⟩, le_refl _⟩ fun n t ht => ?_)
  obtain ⟨rfl, drt⟩ := ht
  have tl : t.length ≤ 6 := drt.c1
  have tkl : (encV (lawSteps t)).length = (lawSteps t).length := by unfold encV; rw [List.length_map]
  refine et_c (ec_gtI (ev_lend 1 (lend_lst _) (r_lenD g C (r_call Q4 C (ea_one (v 1 ⟨t, rfl, drt.nd, by omega, _, rfl, light_nt _, ?_⟩))))))
  refine ev_int ⟨_, _, rfl, rfl, _, rfl, fun hb => ?_, fun hb => ?_⟩
  · have hb := of_decide_eq_true hb
    rw [tkl] at hb
    have h0 : t ≠ [] := fun q => by subst q; exact absurd hb (by decide)
    have h0 : 0 < t.length := List.length_pos_iff.mpr h0
    refine ws_cons (w_pop (ds := t.map dCh) 1 (by rw [List.length_map]; omega) ?_)
    refine r_callU 0 Q1 C (ea_one ?_)
    refine ev_lend 1 (lend_lst (t.map dCh)) (r_len g C (v 1 ?_))
    refine ⟨t.map dCh, .inl rfl, light_nt _, t.length, by rw [List.length_map], h0, by omega, fun z hz => ⟨z, rfl, by rw [List.length_map]; exact hz, ws_nil ?_⟩⟩
    refine ⟨_, t.eraseIdx z, ?_, ⟨rfl, drt.erase z⟩, ?_⟩
    · rw [List.length_eraseIdx]; rw [if_pos hz]; omega
    · rw [map_erase]; exact le_refl _
  have hb : ¬ (7 : Int) < ((encV (lawSteps t)).length : Nat) := of_decide_eq_false hb
  rw [tkl] at hb
  have hb : (lawSteps t).length ≤ 7 := by omega
  obtain ⟨ok, ft, sm, cft, ⟨sp, r, told, h1, h2, h3, h4, h5, h6, h7, h8, h9, h10, h11⟩, sg⟩ := hM hs t drt hb
  refine ws_freeze 1 (lend_lst _) ?_
  refine ws_cons (w_par 6 7 C (ex_of (r_System cf Q5 C (v 4 (r_tuple g C (v 1 ⟨_, .inl rfl, ⟨hs, t⟩, rfl, rfl, ok, ?_⟩))) (by omega))))
  refine ex_of (r_call Q6 C (ea3 (v 4 (v 1 (ev_bl ⟨hs, t, false, rfl, cft, drt.nd, by omega, hb, by have := drt.h2; omega, ?_⟩)))))
  rw [h5]
  refine ws_cons (w_par 8 9 C (ex_of (r_call Q7 C (ea_one (v 6 ⟨⟨hs, t⟩, sp, r, rfl, ft, sm, h1, ?_⟩)))))
  refine ex_of (r_call Q8 C (ea_one (v 6 ⟨⟨hs, t⟩, sp, r, rfl, ft, sm, h1, h2, h3, ?_⟩)))
  rw [← h4]
  have dl : (planOf ⟨hs, t⟩ sp).length ≤ 100 := by rw [h6]; exact h7
  have nn : ∀ z : Int, (!decide (z = z)) = false := fun z => by rw [decide_eq_true rfl]; rfl
  have ns : ∀ z : Str, (!decide (z = z)) = false := fun z => by rw [decide_eq_true rfl]; rfl
  refine ws_cons (ws_if (et_w (ew_or (et_c (ec_neS (ev_repr C.at (glo_of (by decide +kernel)) g.f_repr (v 8 ⟨((told : Nat) : Int), rfl, log_small h7, ?_⟩)))))))
  refine ev_repr C.at (glo_of (by decide +kernel)) g.f_repr (v 7 ⟨((told : Nat) : Int), rfl, log_small h7, ?_⟩)
  refine ⟨_, _, rfl, rfl, _, rfl, fun hb => ?_, fun _ => ?_⟩
  · rw [ns] at hb; cases hb
  refine ew_or (et_c (ec_neI (r_len g C (v 9 ⟨(planOf ⟨hs, t⟩ sp).map dRun, .inr rfl, ?_⟩))))
  refine v 7 ⟨((told : Nat) : Int), ((told : Nat) : Int), by rw [List.length_map, h6], rfl, _, rfl, fun hb => ?_, fun _ => ?_⟩
  · rw [nn] at hb; cases hb
  refine ew_or (et_not (et_val (r_call Q9 C (ea2 (v 6 (v 9 ⟨⟨hs, t⟩, planOf ⟨hs, t⟩ sp, rfl, ft.ft, h9, h8, ?_⟩))))))
  refine ⟨_, rfl, fun hb => ?_, fun _ => ?_⟩
  · rw [decide_eq_true h10] at hb; cases hb
  refine ew_or1 (et_not (et_val (r_call Q10 C (ea2 (v 6 (v 9 ⟨⟨hs, t⟩, planOf ⟨hs, t⟩ sp, rfl, cft, h8, h11, ?_⟩))))))
  refine ⟨true, rfl, fun hb => (by cases hb), fun _ => ws_nil ?_⟩
  refine ws_cons (w_set 3 (ev_c (ec_notN (r_call Q6 C (ea3 (v 4 (v 1 (ev_bl ⟨hs, t, true, rfl, cft, drt.nd, by omega, hb, by have := drt.h2; omega, ?_⟩))))))))
  refine ⟨_, rfl, ?_⟩
  have e1 : (!isNone (dOpt (fewestOf hs t true))) = (fewestOf hs t true).isSome := by cases fewestOf hs t true <;> rfl
  rw [e1]
  refine ws_cons (ws_ret (ev_c (ec_eqB (v 3 ?_))))
  have fl : (fdOf t).length ≤ 1000 := Nat.le_trans (show (fdOf t).length ≤ 4 from sm.f) (by decide)
  have el : (edgesOf t).length ≤ 1000 := sm.e
  refine ev_and (ev_c (ec_eqE C.at eLNI (r_call Q11 C (ea_one (v 6 ⟨⟨hs, t⟩, rfl, ft, fl, ?_⟩)))))
  refine ev_tup (ea_nil ⟨[], rfl, Nat.zero_le _, srt eNI (fdOf t), [], rfl, rfl, _, rfl, fun hb => ?_, fun hb => ?_⟩)
  · have hb : fdOf t = [] := by
      have := of_decide_eq_true hb
      have l := srt_length eNI (fdOf t)
      rw [this] at l
      exact List.length_eq_zero_iff.mp l.symm
    refine ev_one (ev_c (ec_isN (r_call Q12 C (ea2 (v 6 (ev_tup (ea_nil ⟨[], rfl, Nat.zero_le _, ⟨hs, t⟩, [], rfl, ft, sm.nd, Nat.le_trans (show hs.length ≤ 4 from sm.h) (by decide), el, fun hc => ?_, fun hc => ?_⟩)))))))
    · refine ⟨_, rfl, _, _, rfl, rfl, ?_⟩
      rw [sg.mpr ⟨hb, hc⟩]
      exact hκ
    · intro ds
      refine ⟨_, rfl, _, _, rfl, rfl, ?_⟩
      have : (fewestOf hs t true).isSome = false := by
        rw [Bool.eq_false_iff]
        intro q
        exact hc (sg.mp q).2
      rw [this]
      exact hκ
  · have hb : fdOf t ≠ [] := fun q => by
      rw [q] at hb
      have e0 : srt eNI ([] : List (Nm × Nat)) = [] := List.length_eq_zero_iff.mp (srt_length eNI [])
      rw [e0, decide_eq_true rfl] at hb
      cases hb
    have : (fewestOf hs t true).isSome = false := by
      rw [Bool.eq_false_iff]
      intro q
      exact hb (sg.mp q).1
    refine ⟨_, _, rfl, rfl, ?_⟩
    rw [this]
    exact hκ
end FR
set_option Elab.async false
set_option linter.all false
set_option maxRecDepth 100000
set_option maxHeartbeats 2000000
namespace FR
open PySem PySem.Spec PyProof.Rows L2
theorem wpE_callN {G : Gb} {X : Cx} {f : Fx} {ρ : Env} {k j : Nat} {N ps : List Str} {sc : Scope} {name : Str} {p pos : Pos} {e : Expr} {es : List Expr} {T : List Rp → Prop} {F M : Hp} {σ : L2.St} {Q : VK} (P : Prom G name j ps (SpN T)) (C : Ctx G k X) (d : Dis F M) (E : EnvOk f σ ρ F M)
    (h : EvA (mkX X N sc) f ρ (e :: es) T)
    (hQ : ∀ u F' M1 F2 a b, Same F F' → f.step M M1 → Same F' F2 → Dis F2 M1 → ovl F2 M1 u = none → Q (.ref u) (L2.upd (ovl F2 M1) u (.lst [.int a, .int b])))
    (hj : j ≤ k := by decide) (hg : gloB sc name = true := by decide +kernel)
    (hdb : (name == ("__debug__" : Str)) = false := by decide +kernel) (he : starEach (e :: es) (mkX X N sc).env = (false, eval e (mkX X N sc).env) :: starEach es (mkX X N sc).env := by rfl) (hpl : (backTo pos (starEach es (mkX X N sc).env)).any (·.1) = false := by rfl) :
    wpE (mkX X N sc) (.Call (.Name name p) (e :: es) [] pos) σ (ovl F M) Q := by
  obtain ⟨fa, fd, FO, hm, hk, hb⟩ := (P.mono hj).ex
  obtain ⟨g1, g2, g3, g4, g5, g6, g7, g8⟩ := C.at (N := N) (sc := sc)
  obtain ⟨GP, Gw, GK, Gmg, Gbase⟩ := G
  simp only at g1 g2 g3 g4 g5
  have gl : Gl (mkX X N sc) name := glo_of hg
  generalize mkX X N sc = Y at *
  subst g1 g2 g3 g4 g5
  refine wpE_of (pe_call (E := fun _ _ _ => False) FO g8 gl hm hk hb .nil pass0 pa_wp hdb he hpl) ?_
  refine h F M σ d E _ fun vs Rs F1 M1 hT hv k1 d1 s1 => ?_
  rw [List.append_nil]
  exact ⟨Rs, F1, M1, hv, hT, rfl, d1, fun u F2 a b k2 d2 hu => hQ u F1 M1 F2 a b k1 s1 k2 d2 hu⟩
theorem wss_use {X : Cx} {f : Fx} {ρ : Env} {ss : List Stmt} {Φ : Post} {D : Ends} {F M : Hp} {σ : L2.St} (d : Dis F M) (E : EnvOk f σ ρ F M) (h : WSs X f ρ ss Φ) (A : Acc f Φ F D) : wpSs X ss D σ (ovl F M) := h F M σ d E D A
theorem urn_env {f : Fx} {σ : L2.St} {ρ : Env} {F M : Hp} {u : Addr} {x y : Int} {i : Nat} (E : EnvOk f σ ρ F M) (hn : NoOwn ρ) (hu : f.U = none) (hf : M u = none) : EnvOk ⟨M, some u⟩ (σ.set i (some (.ref u))) (ρ.set i (some .ur)) F (L2.upd M u (.lst [.int x, .int y])) where
  len := by rw [List.length_set, List.length_set]; exact E.len
  ent := fun j e he => by
    by_cases hj : i = j
    · subst hj
      by_cases hl : i < ρ.length
      · rw [List.getElem?_set_self hl] at he
        cases he
        exact ⟨.ref u, by rw [List.getElem?_set_self (by rw [E.len]; exact hl)], u, rfl, rfl⟩
      · rw [List.getElem?_eq_none (by rw [List.length_set]; omega)] at he
        cases he
    · rw [List.getElem?_set_ne hj] at he ⊢
      obtain ⟨v, h1, h2⟩ := E.ent j e he
      refine ⟨v, h1, ?_⟩
      cases e with
      | fz R => exact h2
      | ow P => exact absurd he (hn j P)
      | ur => obtain ⟨a, _, h⟩ := h2; rw [hu] at h; cases h
  inj := fun j l P P' h1 _ _ => by
    by_cases hj : i = j
    · subst hj
      by_cases hl : i < ρ.length
      · rw [List.getElem?_set_self hl] at h1; cases h1
      · rw [List.getElem?_eq_none (by rw [List.length_set]; omega)] at h1; cases h1
    · rw [List.getElem?_set_ne hj] at h1
      exact absurd h1 (hn j P)
  base := fun a o h => by
    have ne : a ≠ u := fun z => by
      have h : M a = some o := h
      rw [z, hf] at h; cases h
    rw [upd_ne ne]; exact h
  urn := fun w hw => by
    cases hw
    exact ⟨hf, _, upd_same, x, y, rfl⟩
theorem two_of (l : Nat) : ∃ n : Nat, n ≤ 2 ∧ (if (if (l : Int) < 2 then (l : Int) else 2) > 1 then (if (l : Int) < 2 then (l : Int) else 2) else 1) = (n : Int) := by
  match l with
  | 0 => exact ⟨1, by decide, by decide⟩
  | 1 => exact ⟨1, by decide, by decide⟩
  | l + 2 =>
    refine ⟨2, by decide, ?_⟩
    have h : ¬ ((l + 2 : Nat) : Int) < 2 := by omega
    rw [if_neg h]; rfl
/-! ### law -/
def T_law (G : Gb) : Tp := fun Rs κ => ∃ ns : List Int, Rs = [scrR G ns] ∧ κ (bl true)
theorem ok_law {G : Gb} (g : Gx G) {fa : Addr} {fd : FuncData} (S : FunD G.K "law" "law" (defArgs s_law) (defBody s_law) (defScope s_law) [] [] fa fd) (P1 : Prom G "_law_urn" 1 p__law_urn (SpN (T_urn G))) (P2 : Prom G "_law_right" 12 p__law_right (SpU T_right)) : FnOk G.P G.w G.K G.mg G.base CX0 13 fa fd p_law (SpF (T_law G)) := by
  refine ok_fn S sc_law (by rintro Rs κ ⟨_, rfl, _⟩; rfl) fun X f Rs κ C hU h => ?_
  obtain ⟨ns, rfl, hκ⟩ := h
  let E0 : Env := [some (.fz (scrR G ns)), none, none, none]
  obtain ⟨n, hn, en⟩ := two_of (ns.length : Nat)
  have no0 : NoOwn E0 := noOwn_of rfl
  have nu : ∀ a, f.U ≠ some a := fun a z => by rw [hU.1] at z; cases z
  refine ws_cons (fun F M σ dis Ev D A => ?_)
  refine raw_for (I := fun i σ F' M' => EnvOk f σ E0 F' M' ∧ Same F F') (ds := rng 0 n) C.at (fun R hR => ?_) (fun i σ F1 F2 M1 h k => ⟨h.1.mono k, h.2.trans k⟩) (fun i dd σ1 F1 M1 v0 hd dis1 hI hv D' hD' => ?_) (fun σ1 F1 M1 dis1 hI => ?_)
  · refine (r_range1 (κ := fun ds => ds = rng 0 n) g C (r_max g C (ev_int (r_min g C (ev_int (r_lenScr g C (v 0 ⟨ns, rfl, 2, ((ns.length : Nat) : Int), rfl, rfl, 1, _, rfl, rfl, n, ?_, by omega, rfl⟩))))))) F M σ dis Ev R fun J ds F' M' hk _ hW k1 d1 s1 => ?_
    · rw [en]
    · subst hk
      exact hR J F' M' hW d1 ⟨Ev.step k1 s1, k1⟩
  · obtain ⟨Ev1, k01⟩ := hI
    have hin : i < n := by
      have := (List.getElem?_eq_some_iff.mp hd).1
      rw [rng_length] at this; exact this
    rw [rng_get hin] at hd
    cases hd
    let E1 : Env := [some (.fz (scrR G ns)), some (.fz (nt ((0 : Int) + (i : Nat)))), none, none]
    refine (tn 1 (κ := fun ρ' => ρ' = E1) (js := [1]) sc_law.nd rfl) F1 M1 σ1 v0 dis1 Ev1 hv _ fun ρ4 σ4 F4 M4 hρ w4 k4 d4 s4 E4 => ?_
    subst hρ
    refine wpSs_of (pss_cons ps_wp pss_wp) (wpS_of (ps_set (i := 2) sc_law.nd rfl (loc_of (sc := defScope s_law) (by decide +kernel)) pe_wp (by rfl) (.inl (hU.2 _))) ?_)
    refine wpE_callN P1 C d4 E4 (ea2 (v 0 (v 1 ⟨ns, i, by rw [← Int.zero_add (i : Int)], by omega⟩))) fun u F5 M5 F6 a b k5 s5 k6 d6 hu => ?_
    have hMu : M5 u = none := by
      unfold ovl at hu
      cases e : F6 u with
      | some o => simp only [e] at hu; cases hu
      | none => simp only [e] at hu; exact hu
    have hFu : F6 u = none := by
      unfold ovl at hu
      cases e : F6 u with
      | some o => simp only [e] at hu; cases hu
      | none => rfl
    rw [upd_ovlM hFu]
    have E6 : EnvOk f σ4 E1 F6 M5 := (E4.step k5 s5).mono k6
    have E7 := urn_env (x := a) (y := b) (i := 2) E6 (noOwn_of rfl) hU.1 hMu
    have d7 : Dis F6 (L2.upd M5 u (.lst [.int a, .int b])) := dis_newM d6 hFu rfl
    let f7 : Fx := ⟨M5, some u⟩
    refine wss_use (f := f7) (ρ := E1.set 2 (some .ur)) (Φ := { nx := fun ρ' => ρ' = E1.set 2 (some .ur), rt := fun _ => False }) d7 E7 ?_ ⟨fun ρ' σ8 F8 M8 hρ8 k8 d8 E8 => ?_, fun _ _ _ _ h => h.elim, fun _ _ _ _ h => h.elim, fun _ _ _ _ h => h.elim⟩
    · refine ws_cons (ws_if (et_not (et_val (r_all g C (r_lc [("_law_turn", 3)] C (r_range1 g C (ev_int ⟨2, rfl, by decide, ?_⟩)))))))
      refine ⟨fun i acc => ∃ bs : List Bool, acc = bs.map .bool ∧ ∀ b ∈ bs, b = true, ⟨[], rfl, fun b hb => by cases hb⟩, fun i acc dd hd hj X' C' => ?_, fun acc hj => ?_⟩
      · obtain ⟨bs, rfl, hbs⟩ := hj
        refine tn 3 sc_law.nd fun X2 C2 => ts_nil ⟨fun _ X4 C4 => ?_, (fun z => by cases z)⟩
        refine r_callU 2 P2 C4 (ea_nil ⟨rfl, .bool true, rfl, bs ++ [true], by rw [List.map_append]; rfl, fun b hb => ?_⟩)
        rcases List.mem_append.mp hb with hb | hb
        · exact hbs b hb
        · exact List.mem_singleton.mp hb
      · obtain ⟨bs, rfl, hbs⟩ := hj
        refine ⟨bs, rfl, _, rfl, fun hb => ?_, fun _ => ws_nil (ws_nil rfl)⟩
        have : bs.all id = true := List.all_eq_true.mpr fun b hb => hbs b hb
        rw [this] at hb
        cases hb
    subst hρ8
    have E9 : EnvOk f σ8 E0 F8 M8 := ⟨E8.len, fun j e he => ?_, fun j l P P' h1 _ _ => absurd h1 (no0 j P), fun a o h => E8.base a o (E6.base a o h), fun w hw => absurd hw (nu w)⟩
    · exact hD' σ8 F8 M8 ⟨E9, k01.trans (k4.trans (k5.trans (k6.trans k8)))⟩ (k4.trans (k5.trans (k6.trans k8))) d8
    · match j, he with
      | 0, he =>
        cases he
        exact E8.ent 0 _ rfl
      | 1, he => cases he
      | 2, he => cases he
      | 3, he => cases he
  · obtain ⟨Ev1, k01⟩ := hI
    exact A.nx E0 σ1 F1 M1 (ws_cons (ws_ret (ev_bl hκ))) k01 dis1 Ev1
end FR
set_option Elab.async false
set_option linter.all false
set_option maxRecDepth 100000
set_option maxHeartbeats 0
namespace FR
open PySem PySem.Spec PyProof.Rows L2

section
variable {P : Program} {w : World} {K : PySem.W.Frag} {mg : Str → Option Value} {h base : Heap} (X : K.In h) (A : h.Ns mainGlobals mg) (c : He.SaysD fa fn K)
include X A c

theorem gx_all : Gx ⟨P, w, K, mg, base⟩ := ⟨He.free_ok X A (c.fact 68 (f := .free "len") rfl),
  He.free_ok X A (c.fact 69 (f := .free "zip") rfl),
  He.free_ok X A (c.fact 70 (f := .free "all") rfl),
  He.free_ok X A (c.fact 71 (f := .free "any") rfl),
  He.free_ok X A (c.fact 72 (f := .free "isinstance") rfl),
  He.free_ok X A (c.fact 73 (f := .free "str") rfl),
  He.free_ok X A (c.fact 74 (f := .free "tuple") rfl),
  He.free_ok X A (c.fact 75 (f := .free "sorted") rfl),
  He.free_ok X A (c.fact 76 (f := .free "set") rfl),
  He.free_ok X A (c.fact 77 (f := .free "list") rfl),
  He.free_ok X A (c.fact 78 (f := .free "enumerate") rfl),
  He.free_ok X A (c.fact 79 (f := .free "range") rfl),
  He.free_ok X A (c.fact 80 (f := .free "max") rfl),
  He.free_ok X A (c.fact 81 (f := .free "min") rfl),
  He.free_ok X A (c.fact 82 (f := .free "abs") rfl),
  He.free_ok X A (c.fact 83 (f := .free "int") rfl),
  He.free_ok X A (c.fact 84 (f := .free "repr") rfl),
  He.str_ok X A (c.fact 85 (f := .str "LETTERS" "abcdefghijklmnopqrstuvwxyz") rfl),
  He.int_ok X A (c.fact 86 (f := .int "LONGEST_NAME" 8) rfl),
  He.int_ok X A (c.fact 87 (f := .int "MOST_FIELDS" 12) rfl),
  He.int_ok X A (c.fact 88 (f := .int "READER_PARTS" 2) rfl),
  He.int_ok X A (c.fact 89 (f := .int "FORMAT_PARTS" 3) rfl),
  He.int_ok X A (c.fact 90 (f := .int "MOST_SERVICES" 12) rfl),
  He.int_ok X A (c.fact 91 (f := .int "MOST_CHANNELS" 40) rfl),
  He.int_ok X A (c.fact 92 (f := .int "CHANNEL_PARTS" 5) rfl),
  He.str_ok X A (c.fact 93 (f := .str "FREE" "free") rfl),
  He.str_ok X A (c.fact 94 (f := .str "READER_FIRST" "reader first") rfl),
  He.str_ok X A (c.fact 95 (f := .str "WRITER_FIRST" "writer first") rfl),
  He.str_ok X A (c.fact 96 (f := .str "SPLIT" "split") rfl),
  He.str_ok X A (c.fact 97 (f := .str "SWITCH" "switch") rfl),
  He.str_ok X A (c.fact 98 (f := .str "READ" "read") rfl),
  He.str_ok X A (c.fact 99 (f := .str "WIDEN" "widen") rfl),
  He.str_ok X A (c.fact 100 (f := .str "NARROW" "narrow") rfl),
  He.int_ok X A (c.fact 101 (f := .int "LEAST_FORCED" 2) rfl),
  He.str_ok X A (c.fact 102 (f := .str "FIRST" "first") rfl),
  He.str_ok X A (c.fact 103 (f := .str "MIDDLE" "middle") rfl),
  He.str_ok X A (c.fact 104 (f := .str "LAST" "last") rfl),
  He.int_ok X A (c.fact 105 (f := .int "THREE" 3) rfl),
  He.int_ok X A (c.fact 106 (f := .int "RELEASE_PARTS" 2) rfl)⟩

theorem std_of {x : Str} {st : Stmt} (i j : Nat) (hd : fn[i]? = some ⟨(x, none), x, x, defArgs st, defBody st, defScope st, [], []⟩) (hf : fa[j]? = some (.glo x)) : Std ⟨P, w, K, mg, base⟩ x x st := by
  obtain ⟨fd, F⟩ := c.def_ i hd
  exact ⟨_, fd, F, He.glo_ok X A (c.fact j hf)⟩
theorem stdM_of {cn m q : Str} {st : Stmt} (i j1 j2 j3 : Nat) (hd : fn[i]? = some ⟨(cn, some m), m, q, defArgs st, defBody st, defScope st, [], []⟩) (h1 : fa[j1]? = some (.glo cn)) (h2 : fa[j2]? = some (.cls cn)) (h3 : fa[j3]? = some (.meth cn m)) : StdM ⟨P, w, K, mg, base⟩ cn m q st := by
  obtain ⟨fd, F⟩ := c.def_ i hd
  exact ⟨_, fd, _, F, He.glo_ok X A (c.fact j1 h1), He.cls_ok (c.fact j2 h2), He.meth_ok (c.fact j3 h3)⟩
theorem stdI_of {cn q : Str} {st : Stmt} {fls : List Str} (i j1 j2 j3 : Nat) (hd : fn[i]? = some ⟨(cn, some "__init__"), "__init__", q, defArgs st, defBody st, defScope st, [], []⟩) (h1 : fa[j1]? = some (.glo cn)) (h2 : fa[j2]? = some (.cls cn)) (h3 : fa[j3]? = some (.mkr cn)) (h4 : ∀ f ∈ fls, ∃ j : Nat, fa[j]? = some (.noat cn f)) : StdI ⟨P, w, K, mg, base⟩ cn q st fls := by
  obtain ⟨fd, F⟩ := c.def_ i hd
  exact ⟨_, fd, _, F, He.glo_ok X A (c.fact j1 h1), He.mkr_ok (c.fact j3 h3), He.cls_ok (c.fact j2 h2), fun f hf => by obtain ⟨j, hj⟩ := h4 f hf; exact He.noat_ok (c.fact j hj)⟩
end

theorem facts {P : Program} {w : World} {K : PySem.W.Frag} {mg : Str → Option Value} {h : Heap} (X : K.In h) (A : h.Ns mainGlobals mg) (c : He.SaysD fa fn K) (hM : ∀ hs cs, Drawn 4 6 hs cs → (lawSteps cs).length ≤ 7 → Maths hs cs) : ∃ fd, Binds K fd p_law [] ∧ (∀ (s : Shared) (v : Value), BindsTo s fd ⟨[v], []⟩ [("_law_script", v)]) ∧ ∀ base : Heap, FnOk P w K mg base CX0 13 (He.ga K "law") fd p_law (SpF (T_law ⟨P, w, K, mg, base⟩)) := by
  obtain ⟨fd, FD⟩ := c.def_ 72 (d := d_law) rfl
  have hb := FunD.bindsN (ps := p_law) FD fun _ _ _ _ _ _ us hl => match us, hl with | [_], _ => rfl
  have hb2 := FunD.bindsA (ps := p_law) FD fun _ _ _ _ _ _ us hl => match us, hl with | [_], _ => rfl
  refine ⟨fd, hb, fun s v => hb2 s [v] rfl, fun base => ?_⟩
  have g : Gx ⟨P, w, K, mg, base⟩ := gx_all X A c
  have si_System : StdI ⟨P, w, K, mg, base⟩ "System" "System.__init__" s_System__init__ fSys := stdI_of X A c (cn := "System") (q := "System.__init__") (st := s_System__init__) (fls := fSys) 11 107 108 109 rfl rfl rfl rfl (fun f hf => by unfold fSys at hf; simp only [List.mem_cons, List.not_mem_nil, or_false] at hf; rcases hf with hf | hf <;> subst hf <;> first | exact ⟨113, rfl⟩ | exact ⟨114, rfl⟩)
  have cf_System := si_System.clsf
  have si_Task : StdI ⟨P, w, K, mg, base⟩ "Task" "Task.__init__" s_Task__init__ fTask := stdI_of X A c (cn := "Task") (q := "Task.__init__") (st := s_Task__init__) (fls := fTask) 23 110 111 112 rfl rfl rfl rfl (fun f hf => by unfold fTask at hf; simp only [List.mem_cons, List.not_mem_nil, or_false] at hf; rcases hf with hf | hf | hf | hf | hf | hf <;> subst hf <;> first | exact ⟨115, rfl⟩ | exact ⟨116, rfl⟩ | exact ⟨117, rfl⟩ | exact ⟨118, rfl⟩ | exact ⟨119, rfl⟩ | exact ⟨120, rfl⟩)
  have cf_Task := si_Task.clsf
  have h_is_name := P_is_name (G := ⟨P, w, K, mg, base⟩) g (std_of X A c (x := "is_name") (st := s_is_name) 0 0 rfl rfl)
  have h_is_ascending := P_is_ascending (G := ⟨P, w, K, mg, base⟩) g (std_of X A c (x := "is_ascending") (st := s_is_ascending) 1 1 rfl rfl)
  have h_are_names := P_are_names (G := ⟨P, w, K, mg, base⟩) g (std_of X A c (x := "are_names") (st := s_are_names) 2 2 rfl rfl) h_is_name h_is_ascending
  have h_is_fields := P_is_fields (G := ⟨P, w, K, mg, base⟩) g (std_of X A c (x := "is_fields") (st := s_is_fields) 4 4 rfl rfl) h_are_names
  have h_has_all := P_has_all (G := ⟨P, w, K, mg, base⟩) g (std_of X A c (x := "has_all") (st := s_has_all) 3 3 rfl rfl)
  have h_is_reader := P_is_reader (G := ⟨P, w, K, mg, base⟩) g (std_of X A c (x := "is_reader") (st := s_is_reader) 5 5 rfl rfl) h_is_fields h_has_all
  have h_accepts := P_accepts (G := ⟨P, w, K, mg, base⟩) g (std_of X A c (x := "accepts") (st := s_accepts) 7 7 rfl rfl) h_has_all
  have h_is_format := P_is_format (G := ⟨P, w, K, mg, base⟩) g (std_of X A c (x := "is_format") (st := s_is_format) 6 6 rfl rfl) h_is_fields h_is_reader h_accepts
  have h_widened := P_widened (G := ⟨P, w, K, mg, base⟩) g (std_of X A c (x := "widened") (st := s_widened) 8 8 rfl rfl)
  have h_is_channel := P_is_channel (G := ⟨P, w, K, mg, base⟩) g (std_of X A c (x := "is_channel") (st := s_is_channel) 9 9 rfl rfl) h_is_name h_is_format
  have h_are_channels := P_are_channels (G := ⟨P, w, K, mg, base⟩) g (std_of X A c (x := "are_channels") (st := s_are_channels) 10 10 rfl rfl) h_is_channel h_is_ascending
  have h_kind := P_kind (G := ⟨P, w, K, mg, base⟩) g (std_of X A c (x := "kind_by_formats") (st := s_kind_by_formats) 13 12 rfl rfl) h_accepts
  have h_words := P_words (G := ⟨P, w, K, mg, base⟩) g (std_of X A c (x := "words_of") (st := s_words_of) 14 13 rfl rfl) h_kind
  have h_steps := P_steps (G := ⟨P, w, K, mg, base⟩) g (std_of X A c (x := "steps_with_owners") (st := s_steps_with_owners) 15 14 rfl rfl) h_words
  have h_all_steps := P_all_steps (G := ⟨P, w, K, mg, base⟩) g (std_of X A c (x := "all_steps") (st := s_all_steps) 16 15 rfl rfl) h_steps
  have h_is_service := P_is_service (G := ⟨P, w, K, mg, base⟩) g (std_of X A c (x := "is_service") (st := s_is_service) 17 16 rfl rfl)
  have h_steps_of := P_steps_of (G := ⟨P, w, K, mg, base⟩) g (std_of X A c (x := "steps_of") (st := s_steps_of) 18 17 rfl rfl) h_steps h_is_service
  have h_pairs_of := P_pairs_of (G := ⟨P, w, K, mg, base⟩) g (std_of X A c (x := "pairs_of") (st := s_pairs_of) 19 18 rfl rfl) h_kind
  have h_order_pairs := P_order_pairs (G := ⟨P, w, K, mg, base⟩) g (std_of X A c (x := "order_pairs") (st := s_order_pairs) 20 19 rfl rfl) h_pairs_of
  have h_left_pairs := P_left_pairs (G := ⟨P, w, K, mg, base⟩) g (std_of X A c (x := "left_pairs") (st := s_left_pairs) 21 20 rfl rfl) h_order_pairs
  have h_are_steps := P_are_steps (G := ⟨P, w, K, mg, base⟩) g (std_of X A c (x := "are_steps") (st := s_are_steps) 22 21 rfl rfl) h_is_ascending
  have h_channel_of := P_channel_of (G := ⟨P, w, K, mg, base⟩) g (std_of X A c (x := "channel_of") (st := s_channel_of) 12 11 rfl rfl) h_is_name
  have h_written_at := P_written_at (G := ⟨P, w, K, mg, base⟩) g (std_of X A c (x := "written_at") (st := s_written_at) 44 39 rfl rfl)
  have h_reader_at := P_reader_at (G := ⟨P, w, K, mg, base⟩) g (std_of X A c (x := "reader_at") (st := s_reader_at) 45 40 rfl rfl) h_widened
  have h_versions_of := P_versions_of (G := ⟨P, w, K, mg, base⟩) g (std_of X A c (x := "versions_of") (st := s_versions_of) 46 41 rfl rfl)
  have h_is_refused := P_is_refused (G := ⟨P, w, K, mg, base⟩) g (std_of X A c (x := "is_refused") (st := s_is_refused) 47 42 rfl rfl) h_versions_of h_reader_at h_written_at h_accepts
  have h_refused_while := P_refused_while (G := ⟨P, w, K, mg, base⟩) g (std_of X A c (x := "refused_while") (st := s_refused_while) 48 43 rfl rfl) h_is_refused
  have h_first_fault := P_first_fault (G := ⟨P, w, K, mg, base⟩) g (std_of X A c (x := "first_fault") (st := s_first_fault) 51 46 rfl rfl) h_refused_while
  have h_is_safe := P_is_safe (G := ⟨P, w, K, mg, base⟩) g (std_of X A c (x := "is_safe") (st := s_is_safe) 52 47 rfl rfl) h_first_fault
  have h_is_release := P_is_release (G := ⟨P, w, K, mg, base⟩) g (std_of X A c (x := "is_release") (st := s_is_release) 49 44 rfl rfl) h_is_service h_steps_of h_are_steps
  have h_is_plan := P_is_plan (G := ⟨P, w, K, mg, base⟩) g (std_of X A c (x := "is_plan") (st := s_is_plan) 50 45 rfl rfl) h_is_release h_all_steps
  have h_System := P_System (G := ⟨P, w, K, mg, base⟩) g si_System h_are_names h_are_channels
  have h_others := P_others (G := ⟨P, w, K, mg, base⟩) g (std_of X A c (x := "others_than") (st := s_others_than) 31 26 rfl rfl)
  have h_unblocked := P_unblocked (G := ⟨P, w, K, mg, base⟩) g (std_of X A c (x := "unblocked") (st := s_unblocked) 29 24 rfl rfl)
  have h_law_reads := P_law_reads (G := ⟨P, w, K, mg, base⟩) g (std_of X A c (x := "_law_reads") (st := s__law_reads) 63 58 rfl rfl)
  have h_law_kind := P_law_kind (G := ⟨P, w, K, mg, base⟩) g (std_of X A c (x := "_law_kind") (st := s__law_kind) 64 59 rfl rfl) h_law_reads
  have h_law_steps := P_law_steps (G := ⟨P, w, K, mg, base⟩) g (std_of X A c (x := "_law_steps") (st := s__law_steps) 65 60 rfl rfl) h_law_kind
  have h_law_at := P_law_at (G := ⟨P, w, K, mg, base⟩) g (std_of X A c (x := "_law_at") (st := s__law_at) 66 61 rfl rfl)
  have h_law_refused := P_law_refused (G := ⟨P, w, K, mg, base⟩) g (std_of X A c (x := "_law_refused") (st := s__law_refused) 67 62 rfl rfl) h_law_at h_law_reads
  have h_law_parts := P_law_parts (G := ⟨P, w, K, mg, base⟩) g (std_of X A c (x := "_law_parts") (st := s__law_parts) 68 63 rfl rfl)
  have h_law_ways := P_law_ways (G := ⟨P, w, K, mg, base⟩) g (std_of X A c (x := "_law_ways") (st := s__law_ways) 69 64 rfl rfl) h_law_steps h_law_parts h_law_refused
  have h_law_fewest := P_law_fewest (G := ⟨P, w, K, mg, base⟩) g (std_of X A c (x := "_law_fewest") (st := s__law_fewest) 70 65 rfl rfl) h_law_steps h_law_ways
  have h_take := P_take (G := ⟨P, w, K, mg, base⟩) g (std_of X A c (x := "_law_take") (st := s__law_take) 54 49 rfl rfl)
  have h_of := P_of (G := ⟨P, w, K, mg, base⟩) g (std_of X A c (x := "_law_of") (st := s__law_of) 55 50 rfl rfl) h_take
  have h_some := P_some (G := ⟨P, w, K, mg, base⟩) g (std_of X A c (x := "_law_some") (st := s__law_some) 57 52 rfl rfl) h_take
  have h_loose := P_loose (G := ⟨P, w, K, mg, base⟩) g (std_of X A c (x := "_law_loose") (st := s__law_loose) 59 54 rfl rfl) h_of h_some
  have h_more := P_more (G := ⟨P, w, K, mg, base⟩) g (std_of X A c (x := "_law_more") (st := s__law_more) 60 55 rfl rfl)
  have h_pair := P_pair (G := ⟨P, w, K, mg, base⟩) g (std_of X A c (x := "_law_pair") (st := s__law_pair) 58 53 rfl rfl) h_take h_of h_loose h_more
  have h_names := P_names (G := ⟨P, w, K, mg, base⟩) g (std_of X A c (x := "_law_names") (st := s__law_names) 56 51 rfl rfl) h_take h_of
  have h_kinds := P_kinds (G := ⟨P, w, K, mg, base⟩) g (std_of X A c (x := "_law_kinds") (st := s__law_kinds) 62 57 rfl rfl)
  have h_lsystem := P_lsystem (G := ⟨P, w, K, mg, base⟩) g (std_of X A c (x := "_law_system") (st := s__law_system) 61 56 rfl rfl) h_take h_of h_names h_pair
  have h_part_of := P_part_of (G := ⟨P, w, K, mg, base⟩) g cf_Task (std_of X A c (x := "part_of") (st := s_part_of) 36 31 rfl rfl) h_channel_of
  have h_releases := P_releases (G := ⟨P, w, K, mg, base⟩) g cf_Task (std_of X A c (x := "releases_of") (st := s_releases_of) 37 32 rfl rfl) h_part_of
  have h_subsets := P_subsets (G := ⟨P, w, K, mg, base⟩) g (std_of X A c (x := "subsets") (st := s_subsets) 39 34 rfl rfl)
  have h_busy := P_busy (G := ⟨P, w, K, mg, base⟩) g cf_Task (stdM_of X A c (cn := "Task") (m := "busy_services") (q := "Task.busy_services") (st := s_Taskbusy_services) 26 110 111 123 rfl rfl rfl rfl)
  have h_pedges := P_pedges (G := ⟨P, w, K, mg, base⟩) g cf_Task (stdM_of X A c (cn := "Task") (m := "pair_edges") (q := "Task.pair_edges") (st := s_Taskpair_edges) 24 110 111 121 rfl rfl rfl rfl)
  have h_leaders := P_leaders (G := ⟨P, w, K, mg, base⟩) g (std_of X A c (x := "leaders_of") (st := s_leaders_of) 28 23 rfl rfl)
  have h_fnums := P_fnums (G := ⟨P, w, K, mg, base⟩) g cf_Task (stdM_of X A c (cn := "Task") (m := "forced_numbers") (q := "Task.forced_numbers") (st := s_Taskforced_numbers) 25 110 111 122 rfl rfl rfl rfl)
  have h_Task := P_Task (G := ⟨P, w, K, mg, base⟩) g cf_Task si_Task h_left_pairs h_steps h_pedges h_fnums
  have h_urn := P_urn (G := ⟨P, w, K, mg, base⟩) g (std_of X A c (x := "_law_urn") (st := s__law_urn) 53 48 rfl rfl)
  have h_cycle := P_cycle (G := ⟨P, w, K, mg, base⟩) g (std_of X A c (x := "cycle_among") (st := s_cycle_among) 30 25 rfl rfl) h_leaders h_unblocked
  have h_order := P_order (G := ⟨P, w, K, mg, base⟩) g (std_of X A c (x := "order_among") (st := s_order_among) 32 27 rfl rfl) h_leaders h_unblocked h_cycle
  have h_plan_of := P_plan_of (G := ⟨P, w, K, mg, base⟩) g cf_Task (std_of X A c (x := "plan_of") (st := s_plan_of) 38 33 rfl rfl) h_others h_order h_releases
  have h_fsets := P_fsets (G := ⟨P, w, K, mg, base⟩) g cf_Task (std_of X A c (x := "fewest_sets") (st := s_fewest_sets) 40 35 rfl rfl) h_others h_cycle h_subsets
  have h_needed := P_needed (G := ⟨P, w, K, mg, base⟩) g cf_Task (std_of X A c (x := "releases_needed") (st := s_releases_needed) 41 36 rfl rfl) h_busy h_fsets
  have h_whole := P_whole (G := ⟨P, w, K, mg, base⟩) g (std_of X A c (x := "whole_task") (st := s_whole_task) 27 22 rfl rfl) h_Task h_all_steps
  have h_edges := P_edges (G := ⟨P, w, K, mg, base⟩) g cf_Task (std_of X A c (x := "edges") (st := s_edges) 33 28 rfl rfl) h_whole
  have h_find := P_find (G := ⟨P, w, K, mg, base⟩) g (std_of X A c (x := "find_cycle") (st := s_find_cycle) 35 30 rfl rfl) h_edges h_others h_cycle
  have h_few := P_few (G := ⟨P, w, K, mg, base⟩) g (std_of X A c (x := "fewest_releases") (st := s_fewest_releases) 42 37 rfl rfl) h_whole h_needed
  have h_fplan := P_fplan (G := ⟨P, w, K, mg, base⟩) g (std_of X A c (x := "fewest_plan") (st := s_fewest_plan) 43 38 rfl rfl) h_whole h_fsets h_plan_of
  have h_forced := P_forced (G := ⟨P, w, K, mg, base⟩) g cf_Task (std_of X A c (x := "forced") (st := s_forced) 34 29 rfl rfl) h_whole
  have h_right := P_right (G := ⟨P, w, K, mg, base⟩) g (std_of X A c (x := "_law_right") (st := s__law_right) 71 66 rfl rfl) hM cf_System h_take h_kinds h_lsystem h_law_steps (by decide) h_System h_law_fewest h_few h_fplan h_is_plan h_is_safe h_forced h_find
  exact ok_law (G := ⟨P, w, K, mg, base⟩) g FD h_urn h_right
end FR
set_option Elab.async false
set_option linter.all false
set_option maxHeartbeats 1000000
namespace FR
open PySem
/-! ### formats -/
theorem acc_iff {r : Fs × Fs} {w : Fs} : acc r w = true ↔ (∀ x ∈ r.1, x ∈ w) ∧ ∀ x ∈ w, x ∈ r.2 := by
  unfold acc
  rw [Bool.and_eq_true, isSub_iff, isSub_iff]
theorem acc_self {x : Form} (h : FormP x) : acc x.rd x.wr = true := acc_iff.mpr ⟨h.s1, h.s2⟩
theorem acc_wid1 {x y : Form} (h : FormP x) : acc (wid x.rd y.rd) x.wr = true := acc_iff.mpr ⟨fun f hf => h.s1 f (List.mem_filter.mp hf).1, fun f hf => (srt_mem eN).mpr (mem_dd.mpr (List.mem_append_left _ (h.s2 f hf)))⟩
theorem acc_wid2 {x y : Form} (h : FormP y) : acc (wid x.rd y.rd) y.wr = true := acc_iff.mpr ⟨fun f hf => h.s1 f (of_decide_eq_true (List.mem_filter.mp hf).2), fun f hf => (srt_mem eN).mpr (mem_dd.mpr (List.mem_append_right _ (h.s2 f hf)))⟩
/-! ### kinds -/
inductive Kd where
  | free | rf | wf | sp
deriving DecidableEq
def Kd.s : Kd → Str
  | .free => "free"
  | .rf => "reader first"
  | .wf => "writer first"
  | .sp => "split"
def kK (c : Ch) : Kd := if acc c.nw.rd c.od.wr then (if acc c.od.rd c.nw.wr then .free else .rf) else (if acc c.od.rd c.nw.wr then .wf else .sp)
theorem kd_eq (c : Ch) : kd c.od c.nw = (kK c).s := by
  unfold kd kK
  split <;> split <;> rfl
theorem kK_a {c : Ch} : acc c.nw.rd c.od.wr = true ↔ kK c = .free ∨ kK c = .rf := by
  unfold kK
  by_cases h : acc c.nw.rd c.od.wr = true <;> by_cases h2 : acc c.od.rd c.nw.wr = true <;> simp [h, h2]
theorem kK_b {c : Ch} : acc c.od.rd c.nw.wr = true ↔ kK c = .free ∨ kK c = .wf := by
  unfold kK
  by_cases h : acc c.nw.rd c.od.wr = true <;> by_cases h2 : acc c.od.rd c.nw.wr = true <;> simp [h, h2]
def pairsK (c : Ch) : List Op2 := match kK c with
  | .free => []
  | .rf => [((c.nm, wRe), (c.nm, wSw))]
  | .wf => [((c.nm, wSw), (c.nm, wRe))]
  | .sp => [((c.nm, wSw), (c.nm, wNa)), ((c.nm, wWi), (c.nm, wSw))]
theorem pairs_eq (c : Ch) : pairsOf c = pairsK c := by
  unfold pairsOf pairsK
  rw [kd_eq]
  cases kK c <;> rfl
theorem split_iff (c : Ch) : kd c.od c.nw = "split" ↔ kK c = .sp := by
  rw [kd_eq]
  cases kK c <;> simp [Kd.s] <;> decide
theorem ww : wSw ≠ wRe ∧ wSw ≠ wWi ∧ wSw ≠ wNa ∧ wRe ≠ wWi ∧ wRe ≠ wNa ∧ wWi ≠ wNa := by decide
theorem mem_words {c : Ch} {w : Nm} : w ∈ wordsOf c ↔ (w = wSw ∧ c.od.wr ≠ c.nw.wr) ∨ (c.od.rd ≠ c.nw.rd ∧ ((kK c = .sp ∧ (w = wWi ∨ w = wNa)) ∨ (kK c ≠ .sp ∧ w = wRe))) := by
  unfold wordsOf
  by_cases h1 : c.od.wr = c.nw.wr <;> by_cases h2 : c.od.rd = c.nw.rd <;> by_cases h3 : kK c = .sp <;> simp [h1, h2, h3, split_iff]
def own (c : Ch) (w : Nm) : Nm := if w = wSw then c.sn else c.rc
/-! ### steps -/
section
variable {hs : Fs} {cs : List Ch} {m l : Nat}
theorem law_mem {q : Pr} {o : Nm} : (q, o) ∈ lawSteps cs ↔ ∃ c ∈ cs, q.1 = c.nm ∧ q.2 ∈ wordsOf c ∧ o = own c q.2 := by
  unfold lawSteps lawChSteps
  rw [List.mem_flatMap]
  constructor
  · rintro ⟨c, hc, h⟩
    obtain ⟨w, hw, e⟩ := List.mem_map.mp h
    cases e
    exact ⟨c, hc, rfl, hw, rfl⟩
  · rintro ⟨c, hc, h1, h2, rfl⟩
    exact ⟨c, hc, List.mem_map.mpr ⟨q.2, h2, by rw [← h1]; rfl⟩⟩
theorem ch_one : ∀ {cs : List Ch}, (cs.map (·.nm)).Nodup → ∀ {c c' : Ch}, c ∈ cs → c' ∈ cs → c.nm = c'.nm → c = c'
  | [], _, _, _, h, _, _ => by cases h
  | x :: cs, nd, c, c', h, h', e => by
    rw [List.map_cons, List.nodup_cons] at nd
    rcases List.mem_cons.mp h with k | k <;> rcases List.mem_cons.mp h' with k' | k'
    · rw [k, k']
    · exact absurd (List.mem_map.mpr ⟨c', k', by rw [← e, k]⟩) nd.1
    · exact absurd (List.mem_map.mpr ⟨c, k, by rw [e, k']⟩) nd.1
    · exact ch_one nd.2 k k' e
theorem mem_ps {p : Op2} : p ∈ cs.flatMap pairsOf ↔ ∃ c ∈ cs, p ∈ pairsK c := by
  rw [List.mem_flatMap]
  constructor
  · rintro ⟨c, hc, h⟩; exact ⟨c, hc, pairs_eq c ▸ h⟩
  · rintro ⟨c, hc, h⟩; exact ⟨c, hc, (pairs_eq c).symm ▸ h⟩
/-- what a kind tells of the fields -/
theorem wr_ne {c : Ch} (ho : FormP c.od) (hn : FormP c.nw) (h : kK c ≠ .free) : c.od.wr ≠ c.nw.wr := fun e => by
  have a := acc_self ho
  have b := acc_self hn
  rw [e] at a
  rw [← e] at b
  have := kK_a.mp b
  have := kK_b.mp a
  cases q : kK c <;> simp_all
theorem rd_ne {c : Ch} (ho : FormP c.od) (hn : FormP c.nw) (h : kK c ≠ .free) : c.od.rd ≠ c.nw.rd := fun e => by
  have a := acc_self ho
  have b := acc_self hn
  rw [e] at a
  rw [← e] at b
  have := kK_a.mp a
  have := kK_b.mp b
  cases q : kK c <;> simp_all
end
end FR
set_option Elab.async false
set_option linter.all false
set_option maxHeartbeats 1000000
namespace FR
open PySem
/-! ### who refuses -/
def nwB (c : Ch) (w : Done) : Prop := (c.nm, wRe) ∈ w ∨ (c.nm, wNa) ∈ w
theorem acc_at {c : Ch} (ho : FormP c.od) (hn : FormP c.nw) {v w : Done} : acc (rdAt c w) (wrAt c v) = true ↔
    ((nwB c w → (c.nm, wSw) ∉ v → kK c = .free ∨ kK c = .rf) ∧ (¬ nwB c w → (c.nm, wWi) ∉ w → (c.nm, wSw) ∈ v → kK c = .free ∨ kK c = .wf)) := by
  unfold rdAt wrAt nwB
  by_cases h1 : (c.nm, wRe) ∈ w ∨ (c.nm, wNa) ∈ w <;> by_cases h2 : (c.nm, wWi) ∈ w <;> by_cases h3 : (c.nm, wSw) ∈ v <;> simp only [h1, h2, h3, if_true, if_false, not_true, not_false_iff, true_implies, false_implies, implies_true, and_true, true_and, iff_true]
  · exact acc_self hn
  · exact kK_a
  · exact acc_self hn
  · exact kK_a
  · exact acc_wid2 hn
  · exact acc_wid1 ho
  · exact kK_b
  · exact acc_self ho
theorem mem_vers {d : Done} {r : Run} {x : Nm} {v : Done} : v ∈ vers d r x ↔ v = d ∨ (x = r.1 ∧ v = d ++ r.2) := by
  unfold vers
  by_cases h : x = r.1 <;> simp [h]
theorem isRef_iff {c : Ch} {d : Done} {r : Run} : isRef c d r = false ↔ ∀ v ∈ vers d r c.sn, ∀ w ∈ vers d r c.rc, acc (rdAt c w) (wrAt c v) = true := by
  unfold isRef
  rw [List.any_eq_false]
  constructor
  · intro h v hv w hw
    have := h v hv
    simp only [Bool.not_eq_true', Bool.not_eq_false] at this
    have := List.all_eq_true.mp this _ (List.mem_map.mpr ⟨w, hw, rfl⟩)
    exact this
  · intro h v hv
    simp only [Bool.not_eq_true', Bool.not_eq_false]
    refine List.all_eq_true.mpr fun b hb => ?_
    obtain ⟨w, hw, rfl⟩ := List.mem_map.mp hb
    exact h v hv w hw
theorem word_k {c : Ch} {w : Nm} (h : w ∈ wordsOf c) : (w = wNa → kK c = .sp) ∧ (w = wWi → kK c = .sp) ∧ (w = wRe → kK c ≠ .sp) := by
  obtain ⟨a1, a2, a3, a4, a5, a6⟩ := ww
  refine ⟨fun e => ?_, fun e => ?_, fun e => ?_⟩ <;> subst e <;> rcases mem_words.mp h with ⟨k, _⟩ | ⟨_, ⟨k, k2⟩ | ⟨k, k2⟩⟩
  · exact absurd k.symm a3
  · exact k
  · exact absurd k2.symm a5
  · exact absurd k.symm a2
  · exact k
  · exact absurd k2.symm a4
  · exact absurd k.symm a1
  · exact absurd k2 (fun q => q.elim a4 a5)
  · exact k
theorem claimA {c : Ch} (fo : FormP c.od) (fn : FormP c.nw) {d s : Done} {o : Nm} (hk : ∀ w, (c.nm, w) ∈ d ∨ (c.nm, w) ∈ s → w ∈ wordsOf c) (ho : ∀ w, (c.nm, w) ∈ s → own c w = o)
    (con : ∀ p ∈ pairsK c, p.2 ∈ d → p.1 ∈ d) : isRef c d (o, s) = false ↔ ∀ p ∈ pairsK c, p.2 ∈ s → p.1 ∈ d := by
  obtain ⟨a1, a2, a3, a4, a5, a6⟩ := ww
  have osw : (c.nm, wSw) ∈ s → c.sn = o := fun h => by have := ho _ h; unfold own at this; rw [if_pos rfl] at this; exact this
  have oth : ∀ w, w ≠ wSw → (c.nm, w) ∈ s → c.rc = o := fun w hw h => by have := ho _ h; unfold own at this; rw [if_neg hw] at this; exact this
  have vd : ∀ {x : Nm} {q : Pr} {v : Done}, v ∈ vers d (o, s) x → (q ∈ d → q ∈ v) ∧ (q ∈ v → q ∈ d ∨ q ∈ s) := fun {x q v} h => by
    rcases mem_vers.mp h with rfl | ⟨_, rfl⟩
    · exact ⟨id, .inl⟩
    · exact ⟨List.mem_append_left _, List.mem_append.mp⟩
  have in0 : ∀ x, d ∈ vers d (o, s) x := fun x => mem_vers.mpr (.inl rfl)
  have in1 : ∀ x, x = o → d ++ s ∈ vers d (o, s) x := fun x h => mem_vers.mpr (.inr ⟨h, rfl⟩)
  have sR : ∀ {q : Pr}, q ∈ s → q ∈ d ++ s := fun h => List.mem_append_right _ h
  rw [isRef_iff]
  unfold pairsK at con ⊢
  cases hK : kK c with
  | free => exact ⟨fun _ p hp => (by cases hp), fun _ v _ w _ => (acc_at fo fn).mpr ⟨fun _ _ => .inl hK, fun _ _ _ => .inl hK⟩⟩
  | rf =>
    rw [hK] at con
    have noNa : ∀ x, (c.nm, wNa) ∈ d ∨ (c.nm, wNa) ∈ s → x := fun x h => by have := (word_k (hk _ h)).1 rfl; rw [hK] at this; cases this
    have noWi : ∀ x, (c.nm, wWi) ∈ d ∨ (c.nm, wWi) ∈ s → x := fun x h => by have := (word_k (hk _ h)).2.1 rfl; rw [hK] at this; cases this
    have con := con _ (List.mem_singleton.mpr rfl)
    constructor
    · intro h p hp hs
      obtain rfl := List.mem_singleton.mp hp
      have := ((acc_at fo fn).mp (h (d ++ s) (in1 _ (osw hs)) d (in0 _))).2
      by_cases q : nwB c d
      · rcases q with q | q
        · exact q
        · exact noNa _ (.inl q)
      · have := this q (fun z => noWi _ (.inl z)) (sR hs)
        rw [hK] at this
        rcases this with z | z <;> cases z
    · intro h v hv w hw
      refine (acc_at fo fn).mpr ⟨fun _ _ => .inr hK, fun h1 h2 h3 => ?_⟩
      have hd : (c.nm, wRe) ∈ d := by
        rcases (vd hv).2 h3 with k | k
        · exact con k
        · exact h _ (List.mem_singleton.mpr rfl) k
      exact absurd (.inl ((vd hw).1 hd)) h1
  | wf =>
    rw [hK] at con
    have noNa : ∀ x, (c.nm, wNa) ∈ d ∨ (c.nm, wNa) ∈ s → x := fun x h => by have := (word_k (hk _ h)).1 rfl; rw [hK] at this; cases this
    have con := con _ (List.mem_singleton.mpr rfl)
    constructor
    · intro h p hp hs
      obtain rfl := List.mem_singleton.mp hp
      have := ((acc_at fo fn).mp (h d (in0 _) (d ++ s) (in1 _ (oth wRe (fun z => a1 z.symm) hs)))).1 (.inl (sR hs))
      by_cases q : (c.nm, wSw) ∈ d
      · exact q
      · have := this q
        rw [hK] at this
        rcases this with z | z <;> cases z
    · intro h v hv w hw
      refine (acc_at fo fn).mpr ⟨fun h1 h2 => ?_, fun _ _ _ => .inr hK⟩
      have hd : (c.nm, wSw) ∈ d := by
        rcases h1 with h1 | h1
        · rcases (vd hw).2 h1 with k | k
          · exact con k
          · exact h _ (List.mem_singleton.mpr rfl) k
        · exact noNa _ ((vd hw).2 h1)
      exact absurd ((vd hv).1 hd) h2
  | sp =>
    rw [hK] at con
    have noRe : ∀ x, (c.nm, wRe) ∈ d ∨ (c.nm, wRe) ∈ s → x := fun x h => by have := (word_k (hk _ h)).2.2 rfl; rw [hK] at this; exact absurd rfl this
    have c1 := con _ (List.mem_cons_self)
    have c2 := con _ (List.mem_cons_of_mem _ List.mem_cons_self)
    constructor
    · intro h p hp hs
      rcases List.mem_cons.mp hp with rfl | hp
      · have := ((acc_at fo fn).mp (h d (in0 _) (d ++ s) (in1 _ (oth wNa (fun z => a3 z.symm) hs)))).1 (.inr (sR hs))
        by_cases q : (c.nm, wSw) ∈ d
        · exact q
        · have := this q
          rw [hK] at this
          rcases this with z | z <;> cases z
      · obtain rfl := List.mem_singleton.mp hp
        have := ((acc_at fo fn).mp (h (d ++ s) (in1 _ (osw hs)) d (in0 _))).2
        by_cases q : nwB c d
        · rcases q with q | q
          · exact noRe _ (.inl q)
          · exact c2 (c1 q)
        · by_cases q2 : (c.nm, wWi) ∈ d
          · exact q2
          · have := this q q2 (sR hs)
            rw [hK] at this
            rcases this with z | z <;> cases z
    · intro h v hv w hw
      have h1' := h _ (List.mem_cons_self)
      have h2' := h _ (List.mem_cons_of_mem _ List.mem_cons_self)
      refine (acc_at fo fn).mpr ⟨fun h1 h2 => ?_, fun h1 h2 h3 => ?_⟩
      · have hd : (c.nm, wSw) ∈ d := by
          rcases h1 with h1 | h1
          · exact noRe _ ((vd hw).2 h1)
          · rcases (vd hw).2 h1 with k | k
            · exact c1 k
            · exact h1' k
        exact absurd ((vd hv).1 hd) h2
      · have hd : (c.nm, wWi) ∈ d := by
          rcases (vd hv).2 h3 with k | k
          · exact c2 k
          · exact h2' k
        exact absurd ((vd hw).1 hd) h2
end FR
set_option Elab.async false
set_option linter.all false
set_option maxHeartbeats 1000000
namespace FR
open PySem
section
variable {hs : Fs} {cs : List Ch} {m l : Nat}
theorem pair_words {c : Ch} (fo : FormP c.od) (fn : FormP c.nw) {p : Op2} (hp : p ∈ pairsK c) : (p.1.1 = c.nm ∧ p.1.2 ∈ wordsOf c) ∧ p.2.1 = c.nm ∧ p.2.2 ∈ wordsOf c := by
  unfold pairsK at hp
  have hsw : kK c ≠ .free → wSw ∈ wordsOf c := fun h => mem_words.mpr (.inl ⟨rfl, wr_ne fo fn h⟩)
  cases hK : kK c with
  | free => rw [hK] at hp; cases hp
  | rf =>
    rw [hK] at hp
    obtain rfl := List.mem_singleton.mp hp
    have h0 : kK c ≠ .free := by rw [hK]; decide
    exact ⟨⟨rfl, mem_words.mpr (.inr ⟨rd_ne fo fn h0, .inr ⟨by rw [hK]; decide, rfl⟩⟩)⟩, rfl, hsw h0⟩
  | wf =>
    rw [hK] at hp
    obtain rfl := List.mem_singleton.mp hp
    have h0 : kK c ≠ .free := by rw [hK]; decide
    exact ⟨⟨rfl, hsw h0⟩, rfl, mem_words.mpr (.inr ⟨rd_ne fo fn h0, .inr ⟨by rw [hK]; decide, rfl⟩⟩)⟩
  | sp =>
    rw [hK] at hp
    have h0 : kK c ≠ .free := by rw [hK]; decide
    rcases List.mem_cons.mp hp with rfl | hp
    · exact ⟨⟨rfl, hsw h0⟩, rfl, mem_words.mpr (.inr ⟨rd_ne fo fn h0, .inl ⟨hK, .inr rfl⟩⟩)⟩
    · obtain rfl := List.mem_singleton.mp hp
      exact ⟨⟨rfl, mem_words.mpr (.inr ⟨rd_ne fo fn h0, .inl ⟨hK, .inl rfl⟩⟩)⟩, rfl, hsw h0⟩
theorem step_mem {q : Pr} {o : Nm} : (q, o) ∈ stepsOf cs ↔ ∃ c ∈ cs, q.1 = c.nm ∧ q.2 ∈ wordsOf c ∧ o = own c q.2 := (steps_perm cs).mem_iff.trans law_mem
theorem key_mem {q : Pr} : q ∈ keysOf cs ↔ ∃ c ∈ cs, q.1 = c.nm ∧ q.2 ∈ wordsOf c := by
  unfold keysOf
  rw [List.mem_map]
  constructor
  · rintro ⟨⟨q', o⟩, h, rfl⟩
    obtain ⟨c, h1, h2, h3, _⟩ := step_mem.mp h
    exact ⟨c, h1, h2, h3⟩
  · rintro ⟨c, h1, h2, h3⟩
    exact ⟨(q, own c q.2), step_mem.mpr ⟨c, h1, h2, h3, rfl⟩, rfl⟩
theorem mem_psOf (dr : Drawn m l hs cs) {p : Op2} : p ∈ psOf cs ↔ ∃ c ∈ cs, p ∈ pairsK c := by
  unfold psOf orderPairs
  rw [List.mem_filter, srt_mem, mem_ps]
  refine ⟨fun h => h.1, fun h => ⟨h, decide_eq_true ?_⟩⟩
  obtain ⟨c, hc, hp⟩ := h
  have := (pair_words (dr.c2 c hc).od (dr.c2 c hc).nw hp).1
  exact key_mem.mpr ⟨c, hc, this⟩
theorem ps_keys (dr : Drawn m l hs cs) {p : Op2} (h : p ∈ psOf cs) : p.1 ∈ keysOf cs ∧ p.2 ∈ keysOf cs := by
  obtain ⟨c, hc, hp⟩ := (mem_psOf dr).mp h
  obtain ⟨h1, h2⟩ := pair_words (dr.c2 c hc).od (dr.c2 c hc).nw hp
  exact ⟨key_mem.mpr ⟨c, hc, h1⟩, key_mem.mpr ⟨c, hc, h2⟩⟩
def Con (cs : List Ch) (d : Done) : Prop := ∀ p ∈ psOf cs, p.2 ∈ d → p.1 ∈ d
theorem refused_nil {d : Done} {r : Run} : refusedOf cs d r = [] ↔ ∀ c ∈ cs, isRef c d r = false := by
  unfold refusedOf
  rw [List.map_eq_nil_iff, List.filter_eq_nil_iff]
  exact ⟨fun h c hc => by have := h c hc; simpa using this, fun h c hc => by rw [h c hc]; decide⟩
theorem refused_iff (dr : Drawn m l hs cs) {d s : Done} {o : Nm} (hd : ∀ q ∈ d, q ∈ keysOf cs) (ho : ∀ q ∈ s, (q, o) ∈ stepsOf cs) (con : Con cs d) : refusedOf cs d (o, s) = [] ↔ ∀ p ∈ psOf cs, p.2 ∈ s → p.1 ∈ d := by
  rw [refused_nil]
  have one : ∀ c ∈ cs, isRef c d (o, s) = false ↔ ∀ p ∈ pairsK c, p.2 ∈ s → p.1 ∈ d := fun c hc => by
    refine claimA (dr.c2 c hc).od (dr.c2 c hc).nw (fun w h => ?_) (fun w h => ?_) fun p hp => con p ((mem_psOf dr).mpr ⟨c, hc, hp⟩)
    · rcases h with h | h
      · obtain ⟨c', hc', e, k⟩ := key_mem.mp (hd _ h)
        have := ch_one dr.nd hc hc' e
        subst this; exact k
      · obtain ⟨c', hc', e, k, _⟩ := step_mem.mp (ho _ h)
        have := ch_one dr.nd hc hc' e
        subst this; exact k
    · obtain ⟨c', hc', e, _, k⟩ := step_mem.mp (ho _ h)
      have := ch_one dr.nd hc hc' e
      subst this; exact k.symm
  constructor
  · intro h p hp hs
    obtain ⟨c, hc, hp⟩ := (mem_psOf dr).mp hp
    exact (one c hc).mp (h c hc) p hp hs
  · intro h c hc
    exact (one c hc).mpr fun p hp hs => h p ((mem_psOf dr).mpr ⟨c, hc, hp⟩) hs
theorem owner_hs (dr : Drawn m l hs cs) {q : Pr} {o : Nm} (h : (q, o) ∈ stepsOf cs) : o ∈ hs := by
  obtain ⟨c, hc, _, _, rfl⟩ := step_mem.mp h
  unfold own
  split
  · exact (dr.c2 c hc).sn
  · exact (dr.c2 c hc).rc
theorem hs_nd (dr : Drawn m l hs cs) : hs.Nodup := dr.h3.imp fun q e => by
  subst e
  rw [eN.lt_irrefl] at q; cases q
theorem oo_of (dr : Drawn m l hs cs) {q : Pr} {o : Nm} (h : (q, o) ∈ stepsOf cs) : oo cs q = o := by
  unfold oo
  have : gt (stepsOf cs) q = some o := by
    unfold gt
    have nd := steps_nodup dr.nd
    have key : ∀ {kvs : List (Pr × Nm)}, (kvs.map (·.1)).Nodup → (q, o) ∈ kvs → (kvs.find? fun p => decide (p.1 = q)).map (·.2) = some o := fun {kvs} => by
      induction kvs with
      | nil => intro _ h; cases h
      | cons x xs ih =>
        intro nd h
        rw [List.map_cons, List.nodup_cons] at nd
        rw [List.find?_cons]
        rcases List.mem_cons.mp h with h | h
        · subst h; simp
        · have : x.1 ≠ q := fun e => nd.1 (List.mem_map.mpr ⟨_, h, e.symm⟩)
          rw [decide_eq_false this]
          exact ih nd.2 h
    exact key nd h
  rw [this]; rfl
theorem step_oo (dr : Drawn m l hs cs) {q : Pr} (h : q ∈ keysOf cs) : (q, oo cs q) ∈ stepsOf cs := by
  obtain ⟨⟨q', o⟩, k, rfl⟩ := List.mem_map.mp h
  rw [oo_of dr k]
  exact k
/-! ### a plan, seen by its pairs -/
theorem con_step {d s : Done} (con : Con cs d) (h : ∀ p ∈ psOf cs, p.2 ∈ s → p.1 ∈ d) : Con cs (d ++ s) := fun p hp hq => by
  rcases List.mem_append.mp hq with k | k
  · exact List.mem_append_left _ (con p hp k)
  · exact List.mem_append_left _ (h p hp k)
theorem con_perm {d d' : Done} (con : Con cs d) (h : ∀ q, q ∈ d ↔ q ∈ d') : Con cs d' := fun p hp hq => (h _).mp (con p hp ((h _).mpr hq))
end
end FR
set_option Elab.async false
set_option linter.all false
set_option maxHeartbeats 1000000
namespace FR
open PySem
/-! ### set by set, and paths -/
inductive Rch (hs : Fs) (cs : List Ch) (whole : Bool) : Nat → Done → Prop
  | zero : Rch hs cs whole 0 []
  | succ {n : Nat} {past k : Done} (h : Rch hs cs whole n past) (hk : k ∈ laters hs cs whole past) : Rch hs cs whole (n + 1) k
theorem visit_fold : ∀ {ls : List Done} {st : List Done × List Done}, (∀ k, k ∈ (ls.foldl visit st).1 ↔ k ∈ st.1 ∨ k ∈ ls) ∧ (∀ k, k ∈ (ls.foldl visit st).2 → k ∈ st.2 ∨ k ∈ ls) ∧ (∀ k, k ∈ st.2 → k ∈ (ls.foldl visit st).2) ∧ ∀ k ∈ ls, k ∉ st.1 → k ∈ (ls.foldl visit st).2
  | [], st => ⟨fun k => ⟨.inl, fun h => h.elim id (fun q => by cases q)⟩, fun k h => .inl h, fun k h => h, fun k h => by cases h⟩
  | x :: ls, st => by
    obtain ⟨h1, h2, h3, h4⟩ := visit_fold (ls := ls) (st := visit st x)
    have v1 : ∀ k, k ∈ (visit st x).1 ↔ k ∈ st.1 ∨ k = x := fun k => by
      unfold visit
      split
      · rename_i c
        exact ⟨.inl, fun h => h.elim id fun e => by rw [e]; exact c⟩
      · simp
    have v2 : ∀ k, k ∈ (visit st x).2 → k ∈ st.2 ∨ k = x := fun k h => by
      unfold visit at h
      split at h
      · exact .inl h
      · simpa using h
    have v3 : ∀ k, k ∈ st.2 → k ∈ (visit st x).2 := fun k h => by
      unfold visit
      split
      · exact h
      · exact List.mem_append_left _ h
    have v4 : x ∉ st.1 → x ∈ (visit st x).2 := fun h => by
      unfold visit
      rw [if_neg h]
      exact List.mem_append_right _ (List.mem_singleton.mpr rfl)
    rw [List.foldl_cons]
    refine ⟨fun k => ?_, fun k h => ?_, fun k h => h3 k (v3 k h), fun k h hn => ?_⟩
    · rw [h1, v1, List.mem_cons, or_assoc]
    · rcases h2 k h with q | q
      · rcases v2 k q with q | q
        · exact .inl q
        · exact .inr (List.mem_cons.mpr (.inl q))
      · exact .inr (List.mem_cons_of_mem _ q)
    · by_cases e : k = x
      · subst e; exact h3 _ (v4 hn)
      · rcases List.mem_cons.mp h with q | q
        · exact absurd q e
        · exact h4 k q (fun z => ((v1 k).mp z).elim hn e)
section
variable {hs : Fs} {cs : List Ch} {whole : Bool} {m l : Nat}
theorem bfs_rch : ∀ n k, k ∈ (bfs hs cs whole n).2 → Rch hs cs whole n k
  | 0, k, h => by
    have : k ∈ [[]] := h
    rw [List.mem_singleton] at this
    subst this; exact .zero
  | n + 1, k, h => by
    have h : k ∈ (layer hs cs whole (bfs hs cs whole n)).2 := h
    unfold layer at h
    rcases visit_fold.2.1 k h with q | q
    · cases q
    · obtain ⟨past, hp, hk⟩ := List.mem_flatMap.mp q
      exact .succ (bfs_rch n past hp) hk
theorem met_some : ∀ n k, k ∈ (bfs hs cs whole n).1 → ∃ i ≤ n, k ∈ (bfs hs cs whole i).2
  | 0, k, h => ⟨0, Nat.le_refl _, h⟩
  | n + 1, k, h => by
    have h' : k ∈ (layer hs cs whole (bfs hs cs whole n)).1 := h
    unfold layer at h'
    by_cases c : k ∈ (bfs hs cs whole n).1
    · obtain ⟨i, hi, q⟩ := met_some n k c
      exact ⟨i, Nat.le_succ_of_le hi, q⟩
    · rcases (visit_fold.1 k).mp h' with q | q
      · exact absurd q c
      · exact ⟨n + 1, Nat.le_refl _, by show k ∈ (layer hs cs whole (bfs hs cs whole n)).2; unfold layer; exact visit_fold.2.2.2 k q c⟩
theorem rch_bfs {n : Nat} {k : Done} (h : Rch hs cs whole n k) : ∃ i ≤ n, k ∈ (bfs hs cs whole i).2 := by
  induction h with
  | zero => exact ⟨0, Nat.le_refl _, List.mem_singleton.mpr rfl⟩
  | @succ n past k h hk ih =>
    obtain ⟨i, hi, q⟩ := ih
    have : k ∈ (bfs hs cs whole (i + 1)).1 := by
      show k ∈ (layer hs cs whole (bfs hs cs whole i)).1
      unfold layer
      exact (visit_fold.1 k).mpr (.inr (List.mem_flatMap.mpr ⟨past, q, hk⟩))
    obtain ⟨j, hj, q⟩ := met_some _ _ this
    exact ⟨j, by omega, q⟩
theorem rch_ok (nd : (cs.map (·.nm)).Nodup) {n : Nat} {k : Done} (h : Rch hs cs whole n k) : DoneOk cs k := by
  induction h with
  | zero => exact doneOk_nil cs
  | succ h hk ih => exact later_ok nd ih hk
/-! ### parts -/
theorem parts_snoc (xs : List Pr) (x : Pr) : partsOf (xs ++ [x]) = partStep (partsOf xs) x := by
  unfold partsOf
  rw [List.foldl_append]; rfl
theorem parts_head : ∀ n, ∀ xs : List Pr, xs.length = n → ∃ r, partsOf xs = [] :: r ∧ ∀ p ∈ r, p ≠ []
  | 0, xs, h => by
    obtain rfl := List.length_eq_zero_iff.mp h
    exact ⟨[], rfl, fun p hp => by cases hp⟩
  | n + 1, xs, h => by
    rcases List.eq_nil_or_concat xs with rfl | ⟨ys, x, rfl⟩
    · cases h
    · rw [List.concat_eq_append] at h ⊢
      obtain ⟨r, e, hr⟩ := parts_head n ys (by simpa using h)
      rw [parts_snoc, e]
      refine ⟨r ++ ([] :: r).map (· ++ [x]), rfl, fun p hp => ?_⟩
      rcases List.mem_append.mp hp with q | q
      · exact hr p q
      · obtain ⟨y, _, rfl⟩ := List.mem_map.mp q
        simp
theorem parts_all : ∀ n, ∀ xs : List Pr, xs.length = n → ∀ p : List Pr, p.Sublist xs → p ∈ partsOf xs
  | 0, xs, h, p, hp => by
    obtain rfl := List.length_eq_zero_iff.mp h
    rw [List.sublist_nil.mp hp]
    exact List.mem_singleton.mpr rfl
  | n + 1, xs, h, p, hp => by
    rcases List.eq_nil_or_concat xs with rfl | ⟨ys, x, rfl⟩
    · cases h
    · rw [List.concat_eq_append] at h hp ⊢
      rw [parts_snoc]
      have hy : ys.length = n := by simpa using h
      obtain ⟨p1, p2, rfl, h1, h2⟩ := List.sublist_append_iff.mp hp
      have q1 := parts_all n ys hy p1 h1
      unfold partStep
      rw [List.mem_append]
      rcases List.sublist_cons_iff.mp h2 with k2 | ⟨r, rfl, k2⟩
      · rw [List.sublist_nil.mp k2, List.append_nil]
        exact .inl q1
      · rw [List.sublist_nil.mp k2]
        exact .inr (List.mem_map.mpr ⟨p1, q1, rfl⟩)
theorem mem_tries {L p : Done} : p ∈ triesOf L whole ↔ p ≠ [] ∧ p.Sublist L ∧ (whole = true → p = L) := by
  unfold triesOf
  cases whole with
  | true =>
    simp only [if_true, true_implies]
    by_cases h : L = []
    · subst h
      simp only [if_true]
      exact ⟨fun q => (by cases q), fun ⟨a, _, b⟩ => absurd b a⟩
    · rw [if_neg h, List.mem_singleton]
      exact ⟨fun e => by subst e; exact ⟨h, List.Sublist.refl _, rfl⟩, fun ⟨_, _, e⟩ => e⟩
  | false =>
    simp only [Bool.false_eq_true, if_false, false_implies, and_true]
    obtain ⟨r, e, hr⟩ := parts_head _ L rfl
    rw [e]
    show p ∈ r ↔ _
    constructor
    · intro h
      exact ⟨hr p h, parts_sub L p (by rw [e]; exact List.mem_cons_of_mem _ h)⟩
    · rintro ⟨h1, h2⟩
      have := parts_all _ L rfl p h2
      rw [e] at this
      rcases List.mem_cons.mp this with q | q
      · exact absurd q h1
      · exact q
end
end FR
set_option Elab.async false
set_option linter.all false
set_option maxHeartbeats 1000000
namespace FR
open PySem
section
variable {hs : Fs} {cs : List Ch} {whole : Bool} {m l : Nat}
/-- a path, seen as a list of releases -/
structure Pth (cs : List Ch) (whole : Bool) (n : Nat) (k : Done) (pl : List Run) : Prop where
  len : pl.length = n
  own : ∀ r ∈ pl, ∀ q ∈ r.2, (q, r.1) ∈ stepsOf cs
  ne : ∀ r ∈ pl, r.2 ≠ []
  nd : (dn pl).Nodup
  pr : prs (psOf cs) [] pl
  mem : ∀ q, q ∈ k ↔ q ∈ dn pl
  con : Con cs k
  wh : whole = true → (∀ r ∈ pl, ∀ q, (q, r.1) ∈ stepsOf cs → q ∈ dn pl) ∧ ∀ x, cnt x pl ≤ 1
theorem cnt_zero {x : Nm} {pl : List Run} (h : ∀ r ∈ pl, r.1 ≠ x) : cnt x pl = 0 := by
  unfold cnt
  rw [List.length_eq_zero_iff, List.filter_eq_nil_iff]
  intro r hr
  simp [h r hr]
theorem steps_law {q : Pr} {o : Nm} : (q, o) ∈ stepsOf cs ↔ (q, o) ∈ lawSteps cs := (steps_perm cs).mem_iff
theorem done_keys {k : Done} (h : DoneOk cs k) : ∀ q ∈ k, q ∈ keysOf cs := fun q hq => by
  obtain ⟨⟨q', o⟩, ho, rfl⟩ := List.mem_map.mp (h.sub q hq)
  exact List.mem_map.mpr ⟨(q', o), steps_law.mpr ho, rfl⟩
theorem rch_pth (dr : Drawn m l hs cs) {n : Nat} {k : Done} (h : Rch hs cs whole n k) : ∃ pl, Pth cs whole n k pl := by
  induction h with
  | zero => exact ⟨[], rfl, fun r hr => (by cases hr), fun r hr => (by cases hr), List.nodup_nil, True.intro, fun q => Iff.rfl, fun p hp hq => (by cases hq), fun _ => ⟨fun r hr => (by cases hr), fun x => Nat.zero_le _⟩⟩
  | @succ n past k h hk ih =>
    obtain ⟨pl, P⟩ := ih
    obtain ⟨r, hr, rfl⟩ := List.mem_map.mp hk
    obtain ⟨w1, w2, w3⟩ := ways_mem.mp hr
    obtain ⟨t1, t2, t3⟩ := mem_tries.mp w2
    have ok := rch_ok dr.nd h
    have hl : ∀ q ∈ r.2, (q, r.1) ∈ stepsOf cs ∧ q ∉ past := fun q hq => by
      obtain ⟨a, b⟩ := left_mem.mp (t2.subset hq)
      exact ⟨steps_law.mpr a, b⟩
    have hp : ∀ p ∈ psOf cs, p.2 ∈ r.2 → p.1 ∈ past := (refused_iff dr (done_keys ok) (fun q hq => (hl q hq).1) P.con).mp w3
    have ndr : r.2.Nodup := (left_nodup dr.nd past r.1).sublist t2
    have ed : dn (pl ++ [r]) = dn pl ++ r.2 := by rw [dn_app, dn_cons, dn_nil, List.append_nil]
    refine ⟨pl ++ [r], by rw [List.length_append, P.len]; rfl, fun x hx => ?_, fun x hx => ?_, ?_, ?_, fun q => ?_, ?_, fun hw => ?_⟩
    · rcases List.mem_append.mp hx with q | q
      · exact P.own x q
      · rw [List.mem_singleton] at q; subst q; exact fun y hy => (hl y hy).1
    · rcases List.mem_append.mp hx with q | q
      · exact P.ne x q
      · rw [List.mem_singleton] at q; subst q; exact t1
    · rw [ed, List.nodup_append]
      exact ⟨P.nd, ndr, fun a ha b hb e => (hl b hb).2 ((P.mem b).mpr (e ▸ ha))⟩
    · rw [prs_app]
      refine ⟨P.pr, fun p hpp hq => ?_, True.intro⟩
      rw [List.nil_append]
      exact (P.mem _).mp (hp p hpp hq)
    · rw [srt_mem, ed, List.mem_append, List.mem_append, P.mem]
    · exact con_perm (con_step P.con hp) fun q => (srt_mem eR).symm
    · obtain ⟨W1, W2⟩ := P.wh hw
      have e2 := t3 hw
      have new : ∀ x ∈ pl, x.1 ≠ r.1 := fun x hx e => by
        obtain ⟨q, hq⟩ := List.exists_mem_of_ne_nil _ t1
        obtain ⟨a, b⟩ := hl q hq
        exact b ((P.mem q).mpr (W1 x hx q (by rw [e]; exact a)))
      refine ⟨fun x hx q hq => ?_, fun x => ?_⟩
      · rw [ed, List.mem_append]
        rcases List.mem_append.mp hx with z | z
        · exact .inl (W1 x z q hq)
        · rw [List.mem_singleton] at z
          subst z
          by_cases c : q ∈ past
          · exact .inl ((P.mem q).mp c)
          · right
            rw [e2]
            exact left_mem.mpr ⟨steps_law.mp hq, c⟩
      · rw [cnt_app]
        by_cases c : x = r.1
        · subst c
          rw [cnt_zero new, cnt_cons]
          simp [cnt]
        · have e3 : cnt x [r] = 0 := cnt_zero fun y hy => by rw [List.mem_singleton] at hy; subst hy; exact fun z => c z.symm
          rw [e3]
          exact W2 x
theorem pth_rch (dr : Drawn m l hs cs) : ∀ (pl : List Run) {d k : Done} {n : Nat}, Rch hs cs whole n k → (∀ q, q ∈ k ↔ q ∈ d) → Con cs k → prs (psOf cs) d pl → (∀ r ∈ pl, ∀ q ∈ r.2, (q, r.1) ∈ stepsOf cs) → (∀ r ∈ pl, r.2 ≠ []) → (d ++ dn pl).Nodup →
    (whole = true → ∀ r ∈ pl, ∀ q, (q, r.1) ∈ stepsOf cs → q ∈ r.2) → ∃ kf, Rch hs cs whole (n + pl.length) kf ∧ ∀ q, q ∈ kf ↔ q ∈ d ++ dn pl
  | [], d, k, n, h, hm, _, _, _, _, _, _ => ⟨k, h, fun q => by rw [dn_nil, List.append_nil]; exact hm q⟩
  | r :: pl, d, k, n, h, hm, con, hp, ho, hne, nd, hw => by
    obtain ⟨p1, p2⟩ := hp
    have ok := rch_ok dr.nd h
    rw [dn_cons, ← List.append_assoc] at nd
    have nd2 := (List.nodup_append.mp (List.nodup_append.mp nd).1)
    let L := leftOf cs k r.1
    let p' := L.filter fun q => decide (q ∈ r.2)
    have mp : ∀ q, q ∈ p' ↔ q ∈ r.2 := fun q => by
      show q ∈ List.filter _ _ ↔ _
      rw [List.mem_filter]
      refine ⟨fun z => of_decide_eq_true z.2, fun z => ⟨left_mem.mpr ⟨steps_law.mp (ho r List.mem_cons_self q z), fun c => ?_⟩, decide_eq_true z⟩⟩
      exact nd2.2.2 q ((hm q).mp c) q z rfl
    have ne' : p' ≠ [] := fun e => by
      obtain ⟨q, hq⟩ := List.exists_mem_of_ne_nil _ (hne r List.mem_cons_self)
      have := (mp q).mpr hq
      rw [e] at this; cases this
    have own' : ∀ q ∈ p', (q, r.1) ∈ stepsOf cs := fun q hq => ho r List.mem_cons_self q ((mp q).mp hq)
    have ord' : ∀ p ∈ psOf cs, p.2 ∈ p' → p.1 ∈ k := fun p hpp hq => (hm _).mpr (p1 p hpp ((mp _).mp hq))
    have hin : r.1 ∈ hs := by
      obtain ⟨q, hq⟩ := List.exists_mem_of_ne_nil _ ne'
      exact owner_hs dr (own' q hq)
    have hway : ((r.1, p') : Run) ∈ waysOf hs cs k whole := ways_mem.mpr ⟨hin, mem_tries.mpr ⟨ne', List.filter_sublist, fun hwt => List.filter_eq_self.mpr fun q hq => decide_eq_true (hw hwt r List.mem_cons_self q (steps_law.mpr (left_mem.mp hq).1))⟩, (refused_iff dr (done_keys ok) own' con).mpr ord'⟩
    have nx : Rch hs cs whole (n + 1) (srt eR (k ++ p')) := .succ h (List.mem_map.mpr ⟨_, hway, rfl⟩)
    have mk : ∀ q, q ∈ srt eR (k ++ p') ↔ q ∈ d ++ r.2 := fun q => by rw [srt_mem, List.mem_append, List.mem_append, hm, mp]
    obtain ⟨kf, h1, h2⟩ := pth_rch dr pl nx mk (con_perm (con_step con ord') fun q => (srt_mem eR).symm) p2 (fun r hr => ho r (List.mem_cons_of_mem _ hr)) (fun r hr => hne r (List.mem_cons_of_mem _ hr)) nd (fun hwt r hr => hw hwt r (List.mem_cons_of_mem _ hr))
    refine ⟨kf, ?_, fun q => by rw [h2, dn_cons, List.append_assoc]⟩
    have e : n + (r :: pl).length = n + 1 + pl.length := by rw [List.length_cons]; omega
    rw [e]
    exact h1
/-! ### the least number -/
theorem every_ok (nd : (cs.map (·.nm)).Nodup) : DoneOk cs (everyOf cs) := ⟨srt_sorted eR _, (srt_perm eR _).nodup_iff.mpr (law_keys_nodup nd), fun p hp => (srt_mem eR).mp hp⟩
theorem every_mem {q : Pr} : q ∈ everyOf cs ↔ q ∈ keysOf cs := by
  unfold everyOf keysOf
  rw [srt_mem]
  exact ((steps_perm cs).map _).mem_iff.symm
theorem low_of (dr : Drawn m l hs cs) {n : Nat} (h : everyOf cs ∈ (bfs hs cs whole n).2) : ∃ pl, pl.length = n ∧ Good (stepsOf cs) (psOf cs) pl ∧ (whole = true → ∀ x, cnt x pl ≤ 1) := by
  obtain ⟨pl, P⟩ := rch_pth dr (bfs_rch n _ h)
  exact ⟨pl, P.len, ⟨P.own, P.ne, P.nd, fun q hq => (P.mem q).mp (every_mem.mpr hq), P.pr⟩, fun hw => (P.wh hw).2⟩
theorem dn_len : ∀ {pl : List Run}, (∀ r ∈ pl, r.2 ≠ []) → pl.length ≤ (dn pl).length
  | [], _ => Nat.zero_le _
  | r :: pl, h => by
    have := dn_len (pl := pl) fun x hx => h x (List.mem_cons_of_mem _ hx)
    have := List.length_pos_iff.mpr (h r List.mem_cons_self)
    rw [dn_cons, List.length_append, List.length_cons]
    omega
theorem up_of (dr : Drawn m l hs cs) {pl : List Run} (g : Good (stepsOf cs) (psOf cs) pl) (hw : whole = true → ∀ r ∈ pl, ∀ q, (q, r.1) ∈ stepsOf cs → q ∈ r.2) : (∃ i ≤ pl.length, everyOf cs ∈ (bfs hs cs whole i).2) ∧ pl.length ≤ (everyOf cs).length := by
  obtain ⟨kf, h1, h2⟩ := pth_rch (whole := whole) dr pl .zero (fun q => Iff.rfl) (fun p hp hq => by cases hq) g.pr g.own g.ne (by rw [List.nil_append]; exact g.nd) hw
  have mem : ∀ q, q ∈ dn pl ↔ q ∈ everyOf cs := fun q => ⟨fun h => by
    obtain ⟨r, hr, hq⟩ := mem_dn.mp h
    exact every_mem.mpr (List.mem_map.mpr ⟨_, g.own r hr q hq, rfl⟩), fun h => g.all q (every_mem.mp h)⟩
  have e : kf = everyOf cs := done_ext (rch_ok dr.nd h1) (every_ok dr.nd) fun q => by rw [h2, List.nil_append, mem]
  subst e
  rw [Nat.zero_add] at h1
  refine ⟨rch_bfs h1, Nat.le_trans (dn_len g.ne) ?_⟩
  exact g.nd.sublen fun q hq => (mem q).mp hq
theorem fewest_some {n : Nat} (h : everyOf cs ∈ (bfs hs cs whole n).2) (hn : n ≤ (everyOf cs).length) (hl : ∀ i, everyOf cs ∈ (bfs hs cs whole i).2 → n ≤ i) : fewestOf hs cs whole = some n := by
  unfold fewestOf
  rw [List.find?_range_eq_some]
  refine ⟨decide_eq_true h, List.mem_range.mpr (by omega), fun j hj => ?_⟩
  rw [Bool.not_eq_true', decide_eq_false_iff_not]
  intro q
  have := hl j q
  omega
theorem fewest_is {n : Nat} (h : fewestOf hs cs whole = some n) : everyOf cs ∈ (bfs hs cs whole n).2 := by
  unfold fewestOf at h
  have q := List.find?_some h
  exact of_decide_eq_true q
theorem fewest_isSome {i : Nat} (h : everyOf cs ∈ (bfs hs cs whole i).2) (hn : i ≤ (everyOf cs).length) : (fewestOf hs cs whole).isSome = true := by
  unfold fewestOf
  rw [List.find?_isSome]
  exact ⟨i, List.mem_range.mpr (by omega), decide_eq_true h⟩
end
end FR
set_option Elab.async false
set_option linter.all false
set_option maxHeartbeats 1000000
namespace FR
open PySem
theorem gt_ptG {κ δ : Type} [DecidableEq κ] {kvs : List (κ × δ)} {k k' : κ} {d : δ} : gt (pt kvs k d) k' = if k' = k then some d else gt kvs k' := by
  unfold pt
  split
  · rename_i h
    induction kvs with
    | nil => cases h
    | cons x xs ih =>
      unfold gt at ih ⊢
      rw [List.map_cons, List.find?_cons, List.find?_cons]
      by_cases e : x.1 = k
      · subst e
        rw [if_pos rfl]
        by_cases e2 : k' = x.1
        · subst e2; simp
        · have e3 : x.1 ≠ k' := fun z => e2 z.symm
          simp only [decide_eq_false e3, if_neg e2]
          by_cases a : (xs.any fun kv => decide (kv.1 = x.1)) = true
          · rw [ih a, if_neg e2]
          · have : xs.map (fun kv => if kv.1 = x.1 then (kv.1, d) else kv) = xs := by
              conv => rhs; rw [← List.map_id xs]
              refine List.map_congr_left fun y hy => ?_
              rw [if_neg]
              · rfl
              · intro z
                exact a (List.any_eq_true.mpr ⟨y, hy, decide_eq_true z⟩)
            rw [this]
      · rw [if_neg e]
        have a : (xs.any fun kv => decide (kv.1 = k)) = true := by
          rw [List.any_cons, decide_eq_false e, Bool.false_or] at h
          exact h
        by_cases e2 : x.1 = k'
        · subst e2
          simp only [decide_true, if_neg e]
        · simp only [decide_eq_false e2]
          exact ih a
  · rename_i h
    unfold gt
    rw [List.find?_append]
    by_cases e : k' = k
    · subst e
      have : (kvs.find? fun p => decide (p.1 = k')) = none := List.find?_eq_none.mpr fun x hx z => h (List.any_eq_true.mpr ⟨x, hx, z⟩)
      rw [this]; simp
    · have e3 : ¬ k = k' := fun z => e z.symm
      rw [if_neg e]
      simp [e3]
theorem gt_keyG {κ δ : Type} [DecidableEq κ] {kvs : List (κ × δ)} {k : κ} : k ∈ kvs.map (·.1) ↔ (gt kvs k).isSome = true := by
  unfold gt
  rw [Option.isSome_map, List.find?_isSome, List.mem_map]
  exact ⟨fun ⟨x, h, e⟩ => ⟨x, h, decide_eq_true e⟩, fun ⟨x, h, e⟩ => ⟨x, h, of_decide_eq_true e⟩⟩
theorem gt_memG {κ δ : Type} [DecidableEq κ] {kvs : List (κ × δ)} {k : κ} {v : δ} (h : gt kvs k = some v) : (k, v) ∈ kvs := by
  unfold gt at h
  obtain ⟨p, hp, rfl⟩ := Option.map_eq_some_iff.mp h
  have q := List.find?_some hp
  have := of_decide_eq_true q
  subst this
  exact List.mem_of_find?_eq_some hp
theorem mem_gtG {κ δ : Type} [DecidableEq κ] : ∀ {kvs : List (κ × δ)} {k : κ} {v : δ}, (kvs.map (·.1)).Nodup → (k, v) ∈ kvs → gt kvs k = some v
  | [], _, _, _, h => by cases h
  | x :: xs, k, v, nd, h => by
    rw [List.map_cons, List.nodup_cons] at nd
    unfold gt
    rw [List.find?_cons]
    rcases List.mem_cons.mp h with q | q
    · subst q; simp
    · have : x.1 ≠ k := fun e => nd.1 (List.mem_map.mpr ⟨_, q, e.symm⟩)
      rw [decide_eq_false this]
      exact mem_gtG nd.2 q
theorem pt_nodupG {κ δ : Type} [DecidableEq κ] {kvs : List (κ × δ)} {k : κ} {d : δ} (h : (kvs.map (·.1)).Nodup) : ((pt kvs k d).map (·.1)).Nodup := by
  rw [pt_keys]
  split
  · exact h
  · rename_i c
    rw [List.nodup_append]
    exact ⟨h, by simp, fun a ha b hb e => by rw [List.mem_singleton] at hb; subst hb e; exact c ha⟩
/-! ### places -/
def plAt (cs : List Ch) (s : List (Pr × List Pr)) (pl : Pr) : List Pr := (gt s pl).getD []
theorem pls_inv {cs : List Ch} : ∀ (T : List Pr) {T0 : List Pr} {s : List (Pr × List Pr)}, (∀ pl, (plAt cs s pl).Nodup ∧ ∀ q, q ∈ plAt cs s pl ↔ q ∈ T0 ∧ (oo cs q, q.1) = pl) →
    ∀ pl, (plAt cs (T.foldl (plAcc cs) s) pl).Nodup ∧ ∀ q, q ∈ plAt cs (T.foldl (plAcc cs) s) pl ↔ q ∈ T0 ++ T ∧ (oo cs q, q.1) = pl
  | [], T0, s, h => by rw [List.append_nil]; exact h
  | x :: T, T0, s, h => by
    rw [List.foldl_cons]
    have e : T0 ++ x :: T = (T0 ++ [x]) ++ T := by simp
    rw [e]
    refine pls_inv T fun pl => ?_
    have ea : plAt cs (plAcc cs s x) pl = if pl = (oo cs x, x.1) then insQ x (plAt cs s (oo cs x, x.1)) else plAt cs s pl := by
      unfold plAt plAcc
      rw [gt_ptG]
      split <;> rfl
    rw [ea]
    by_cases c : pl = (oo cs x, x.1)
    · subst c
      rw [if_pos rfl]
      obtain ⟨h1, h2⟩ := h (oo cs x, x.1)
      unfold insQ
      by_cases k : x ∈ plAt cs s (oo cs x, x.1)
      · rw [if_pos k]
        refine ⟨h1, fun q => (h2 q).trans ?_⟩
        rw [List.mem_append, List.mem_singleton]
        exact ⟨fun z => ⟨.inl z.1, z.2⟩, fun z => ⟨z.1.elim id fun w => by rw [w]; exact ((h2 x).mp k).1, z.2⟩⟩
      · rw [if_neg k]
        refine ⟨List.nodup_append.mpr ⟨h1, by simp, fun a ha b hb e => by rw [List.mem_singleton] at hb; exact k (by rw [e.trans hb] at ha; exact ha)⟩, fun q => ?_⟩
        rw [List.mem_append, List.mem_singleton, List.mem_append, List.mem_singleton, h2]
        constructor
        · rintro (⟨a, b⟩ | rfl)
          · exact ⟨.inl a, b⟩
          · exact ⟨.inr rfl, rfl⟩
        · rintro ⟨a | rfl, b⟩
          · exact .inl ⟨a, b⟩
          · exact .inr rfl
    · rw [if_neg c]
      obtain ⟨h1, h2⟩ := h pl
      refine ⟨h1, fun q => (h2 q).trans ?_⟩
      rw [List.mem_append, List.mem_singleton]
      exact ⟨fun z => ⟨.inl z.1, z.2⟩, fun z => ⟨z.1.elim id fun w => by rw [w] at z; exact absurd z.2.symm c, z.2⟩⟩
def stps (cs : List Ch) : List Pr := (psOf cs).flatMap fun p => [p.1, p.2]
theorem many_list (cs : List Ch) (pl : Pr) : ∃ L : List Pr, L.Nodup ∧ L.length = manyOf cs pl ∧ ∀ q, q ∈ L ↔ q ∈ stps cs ∧ (oo cs q, q.1) = pl := by
  obtain ⟨h1, h2⟩ := pls_inv (cs := cs) (stps cs) (T0 := []) (s := []) (fun pl => ⟨List.nodup_nil, fun q => ⟨fun h => (by cases h), fun h => (by cases h.1)⟩⟩) pl
  exact ⟨_, h1, rfl, h2⟩
theorem many_key {cs : List Ch} {pl : Pr} (h : 2 ≤ manyOf cs pl) : pl ∈ (plsOf cs).map (·.1) := by
  rw [gt_keyG]
  unfold manyOf at h
  cases e : gt (plsOf cs) pl with
  | none => rw [e] at h; exact absurd h (by simp)
  | some _ => rfl
/-! ### forced -/
def fdAt (t : List (Nm × Nat)) (x : Nm) : Nat := (gt t x).getD 0
structure FInv (cs : List Ch) (K : List Pr) (t : List (Nm × Nat)) : Prop where
  nd : (t.map (·.1)).Nodup
  key : ∀ x, x ∈ t.map (·.1) ↔ fdAt t x ≠ 0
  up : ∀ pl ∈ K, 2 ≤ manyOf cs pl → manyOf cs pl ≤ fdAt t pl.1
  ex : ∀ x, fdAt t x ≠ 0 → ∃ pl ∈ K, pl.1 = x ∧ 2 ≤ manyOf cs pl ∧ manyOf cs pl = fdAt t x
theorem fd_inv {cs : List Ch} : ∀ (T : List Pr) {K : List Pr} {t : List (Nm × Nat)}, FInv cs K t → FInv cs (K ++ T) (T.foldl (fdAcc cs) t)
  | [], K, t, h => by rw [List.append_nil]; exact h
  | x :: T, K, t, h => by
    rw [List.foldl_cons]
    have e : K ++ x :: T = (K ++ [x]) ++ T := by simp
    rw [e]
    refine fd_inv T ?_
    unfold fdAcc
    by_cases c : 2 ≤ manyOf cs x
    · rw [if_pos c]
      have ea : ∀ y, fdAt (pt t x.1 (max (manyOf cs x) ((gt t x.1).getD 0))) y = if y = x.1 then max (manyOf cs x) (fdAt t x.1) else fdAt t y := fun y => by
        unfold fdAt
        rw [gt_ptG]
        split <;> rfl
      refine ⟨pt_nodupG h.nd, fun y => ?_, fun pl hp hm => ?_, fun y hy => ?_⟩
      · rw [pt_keys, ea]
        by_cases k : y = x.1
        · subst k
          rw [if_pos rfl]
          refine ⟨fun _ => by omega, fun _ => ?_⟩
          split
          · assumption
          · exact List.mem_append_right _ (List.mem_singleton.mpr rfl)
        · rw [if_neg k]
          split
          · exact h.key y
          · rw [List.mem_append, List.mem_singleton]
            exact ⟨fun z => (h.key y).mp (z.elim id fun w => absurd w k), fun z => .inl ((h.key y).mpr z)⟩
      · rw [ea]
        rcases List.mem_append.mp hp with q | q
        · have := h.up pl q hm
          split
          · rename_i k; rw [k] at this; omega
          · exact this
        · rw [List.mem_singleton] at q
          subst q
          rw [if_pos rfl]; omega
      · rw [ea] at hy ⊢
        by_cases k : y = x.1
        · subst k
          rw [if_pos rfl] at hy ⊢
          by_cases z : fdAt t x.1 ≤ manyOf cs x
          · exact ⟨x, List.mem_append_right _ (List.mem_singleton.mpr rfl), rfl, c, by omega⟩
          · obtain ⟨pl, h1, h2, h3, h4⟩ := h.ex x.1 (by omega)
            exact ⟨pl, List.mem_append_left _ h1, h2, h3, by omega⟩
        · rw [if_neg k] at hy ⊢
          obtain ⟨pl, h1, h2⟩ := h.ex y hy
          exact ⟨pl, List.mem_append_left _ h1, h2⟩
    · rw [if_neg c]
      refine ⟨h.nd, h.key, fun pl hp hm => ?_, fun y hy => ?_⟩
      · rcases List.mem_append.mp hp with q | q
        · exact h.up pl q hm
        · rw [List.mem_singleton] at q
          subst q; exact absurd hm c
      · obtain ⟨pl, h1, h2⟩ := h.ex y hy
        exact ⟨pl, List.mem_append_left _ h1, h2⟩
theorem fd_ok (cs : List Ch) : FInv cs (srt eR ((plsOf cs).map (·.1))) (fdOf cs) := by
  have := fd_inv (cs := cs) (srt eR ((plsOf cs).map (·.1))) (K := []) (t := []) ⟨List.nodup_nil, fun x => ⟨fun h => (by cases h), fun h => absurd rfl h⟩, fun pl h => (by cases h), fun x h => absurd rfl h⟩
  exact this
theorem fd_key {cs : List Ch} {x : Nm} : x ∈ (fdOf cs).map (·.1) ↔ ∃ nm, 2 ≤ manyOf cs (x, nm) := by
  have F := fd_ok cs
  rw [F.key]
  constructor
  · intro h
    obtain ⟨pl, _, rfl, h2, _⟩ := F.ex x h
    exact ⟨pl.2, h2⟩
  · rintro ⟨nm, h⟩
    have := F.up (x, nm) ((srt_mem eR).mpr (many_key h)) h
    have : 2 ≤ fdAt (fdOf cs) x := Nat.le_trans h this
    omega
theorem th_mem {cs : List Ch} (hm : ∀ pl, manyOf cs pl ≤ 3) {x : Nm} : x ∈ thOf cs ↔ ∃ nm, manyOf cs (x, nm) = 3 := by
  have F := fd_ok cs
  have e : x ∈ thOf cs ↔ fdAt (fdOf cs) x = 3 := by
    unfold thOf
    rw [List.mem_map]
    constructor
    · rintro ⟨⟨x', v⟩, h, rfl⟩
      obtain ⟨h1, h2⟩ := List.mem_filter.mp h
      have h2 : v = 3 := of_decide_eq_true h2
      subst h2
      unfold fdAt
      rw [mem_gtG F.nd h1]; rfl
    · intro h
      unfold fdAt at h
      cases q : gt (fdOf cs) x with
      | none => rw [q] at h; cases h
      | some v =>
        rw [q] at h
        have h : v = 3 := h
        subst h
        exact ⟨(x, 3), List.mem_filter.mpr ⟨gt_memG q, decide_eq_true rfl⟩, rfl⟩
  rw [e]
  constructor
  · intro h
    obtain ⟨pl, _, rfl, _, h3⟩ := F.ex x (by omega)
    exact ⟨pl.2, h3.trans h⟩
  · rintro ⟨nm, h⟩
    have h1 := F.up (x, nm) ((srt_mem eR).mpr (many_key (by omega))) (by omega)
    have h1 : manyOf cs (x, nm) ≤ fdAt (fdOf cs) x := h1
    obtain ⟨pl, _, _, _, h3⟩ := F.ex x (by omega)
    have := hm pl
    omega
end FR
set_option Elab.async false
set_option linter.all false
set_option maxHeartbeats 1000000
namespace FR
open PySem
section
variable {hs : Fs} {cs : List Ch} {m l : Nat}
/-- the words of a channel's pairs -/
def pW (c : Ch) : List Nm := match kK c with
  | .free => []
  | .rf => [wRe, wSw]
  | .wf => [wSw, wRe]
  | .sp => [wSw, wNa, wWi]
theorem stps_mem (dr : Drawn m l hs cs) {q : Pr} : q ∈ stps cs ↔ ∃ c ∈ cs, q.1 = c.nm ∧ q.2 ∈ pW c := by
  unfold stps
  rw [List.mem_flatMap]
  have one : ∀ c : Ch, (∃ p ∈ pairsK c, q = p.1 ∨ q = p.2) ↔ q.1 = c.nm ∧ q.2 ∈ pW c := fun c => by
    obtain ⟨a, b⟩ := q
    unfold pairsK pW
    cases kK c with
    | free => simp
    | rf => simp only [List.mem_singleton, exists_eq_left, List.mem_cons, List.not_mem_nil, or_false, Prod.mk.injEq]; grind
    | wf => simp only [List.mem_singleton, exists_eq_left, List.mem_cons, List.not_mem_nil, or_false, Prod.mk.injEq]; grind
    | sp => simp only [List.mem_cons, List.not_mem_nil, or_false, exists_eq_or_imp, exists_eq_left, Prod.mk.injEq]; grind
  constructor
  · rintro ⟨p, hp, hq⟩
    obtain ⟨c, hc, k⟩ := (mem_psOf dr).mp hp
    exact ⟨c, hc, (one c).mp ⟨p, k, by simpa using hq⟩⟩
  · rintro ⟨c, hc, k⟩
    obtain ⟨p, k2, hq⟩ := (one c).mpr k
    exact ⟨p, (mem_psOf dr).mpr ⟨c, hc, k2⟩, by simpa using hq⟩
theorem pW_words (dr : Drawn m l hs cs) {c : Ch} (hc : c ∈ cs) {w : Nm} (h : w ∈ pW c) : w ∈ wordsOf c := by
  have : ((c.nm, w) : Pr) ∈ stps cs := (stps_mem dr).mpr ⟨c, hc, rfl, h⟩
  obtain ⟨p, hp, hq⟩ := List.mem_flatMap.mp this
  obtain ⟨k1, k2⟩ := ps_keys dr hp
  have k : ((c.nm, w) : Pr) ∈ keysOf cs := by
    simp only [List.mem_cons, List.not_mem_nil, or_false] at hq
    rcases hq with e | e <;> rw [e] <;> assumption
  obtain ⟨c', hc', e, hw⟩ := key_mem.mp k
  have := ch_one dr.nd hc hc' e
  subst this; exact hw
theorem oo_own (dr : Drawn m l hs cs) {c : Ch} (hc : c ∈ cs) {w : Nm} (h : w ∈ wordsOf c) : oo cs (c.nm, w) = own c w := oo_of dr (step_mem.mpr ⟨c, hc, rfl, h, rfl⟩)
theorem many_set (dr : Drawn m l hs cs) {c : Ch} (hc : c ∈ cs) (x : Nm) : ∃ L : List Nm, L.Nodup ∧ L.length = manyOf cs (x, c.nm) ∧ ∀ w, w ∈ L ↔ w ∈ pW c ∧ own c w = x := by
  obtain ⟨L, h1, h2, h3⟩ := many_list cs (x, c.nm)
  have h4 : ∀ q, q ∈ L ↔ q.1 = c.nm ∧ q.2 ∈ pW c ∧ own c q.2 = x := fun q => by
    rw [h3, stps_mem dr]
    constructor
    · rintro ⟨⟨c', hc', e1, e2⟩, e⟩
      obtain ⟨e3, e4⟩ := Prod.mk.inj e
      have := ch_one dr.nd hc hc' (e4.symm.trans e1)
      subst this
      refine ⟨e1, e2, ?_⟩
      rw [← oo_own dr hc (pW_words dr hc e2), ← e1]
      exact e3
    · rintro ⟨e1, e2, e3⟩
      refine ⟨⟨c, hc, e1, e2⟩, ?_⟩
      rw [← oo_own dr hc (pW_words dr hc e2), ← e1] at e3
      exact Prod.ext e3 e1
  refine ⟨L.map (·.2), ?_, by rw [List.length_map, h2], fun w => ?_⟩
  · refine List.pairwise_map.mpr (h1.imp_of_mem fun {a b} ha hb hne e => hne (Prod.ext ?_ e))
    rw [((h4 a).mp ha).1, ((h4 b).mp hb).1]
  · rw [List.mem_map]
    constructor
    · rintro ⟨q, hq, rfl⟩
      exact ((h4 q).mp hq).2
    · intro h
      exact ⟨(c.nm, w), (h4 _).mpr ⟨rfl, h⟩, rfl⟩
theorem many_ch (dr : Drawn m l hs cs) {x nm : Nm} (h : 1 ≤ manyOf cs (x, nm)) : ∃ c ∈ cs, nm = c.nm := by
  obtain ⟨L, h1, h2, h3⟩ := many_list cs (x, nm)
  obtain ⟨q, hq⟩ := List.exists_mem_of_length_pos (l := L) (by omega)
  obtain ⟨a, b⟩ := (h3 q).mp hq
  obtain ⟨c, hc, e, _⟩ := (stps_mem dr).mp a
  exact ⟨c, hc, (Prod.mk.inj b).2.symm.trans e⟩
theorem pW_len (c : Ch) : (pW c).length ≤ 3 := by
  unfold pW
  cases kK c <;> simp
theorem many_le (dr : Drawn m l hs cs) (pl : Pr) : manyOf cs pl ≤ 3 := by
  obtain ⟨x, nm⟩ := pl
  by_cases h : 1 ≤ manyOf cs (x, nm)
  · obtain ⟨c, hc, rfl⟩ := many_ch dr h
    obtain ⟨L, h1, h2, h3⟩ := many_set dr hc x
    rw [← h2]
    exact Nat.le_trans (h1.sublen fun w hw => ((h3 w).mp hw).1) (pW_len c)
  · omega
/-- who is forced -/
def Frc (c : Ch) (x : Nm) : Prop := ((kK c = .rf ∨ kK c = .wf) ∧ c.sn = x ∧ c.rc = x) ∨ (kK c = .sp ∧ c.rc = x)
theorem own_sw (c : Ch) : own c wSw = c.sn := if_pos rfl
theorem own_re (c : Ch) : own c wRe = c.rc := if_neg (by decide)
theorem own_wi (c : Ch) : own c wWi = c.rc := if_neg (by decide)
theorem own_na (c : Ch) : own c wNa = c.rc := if_neg (by decide)
theorem many_two (dr : Drawn m l hs cs) {c : Ch} (hc : c ∈ cs) {x : Nm} : 2 ≤ manyOf cs (x, c.nm) ↔ Frc c x := by
  obtain ⟨L, h1, h2, h3⟩ := many_set dr hc x
  rw [← h2]
  have one : ∀ w0 : Nm, (∀ w ∈ L, w = w0) → ¬ 2 ≤ L.length := fun w0 h => by
    have := h1.sublen (ks := [w0]) fun w hw => List.mem_singleton.mpr (h w hw)
    rw [List.length_singleton] at this
    omega
  have two : ∀ w1 w2 : Nm, w1 ≠ w2 → w1 ∈ L → w2 ∈ L → 2 ≤ L.length := fun w1 w2 hne k1 k2 => by
    have : [w1, w2].Nodup := by simp [hne]
    have := this.sublen (ks := L) fun w hw => by
      simp only [List.mem_cons, List.not_mem_nil, or_false] at hw
      rcases hw with rfl | rfl <;> assumption
    exact this
  obtain ⟨a1, a2, a3, a4, a5, a6⟩ := ww
  unfold pW at h3
  unfold Frc
  cases hK : kK c with
  | free =>
    rw [hK] at h3
    refine ⟨fun h => absurd h (one wSw fun w hw => by cases ((h3 w).mp hw).1), fun h => ?_⟩
    rcases h with ⟨q | q, _⟩ | ⟨q, _⟩ <;> cases q
  | rf =>
    rw [hK] at h3
    refine ⟨fun h => .inl ⟨.inl rfl, ?_⟩, fun h => ?_⟩
    · refine Classical.byContradiction fun n => ?_
      by_cases e : c.sn = x
      · exact one wSw (fun w hw => by
          obtain ⟨k1, k2⟩ := (h3 w).mp hw
          simp only [List.mem_cons, List.not_mem_nil, or_false] at k1
          rcases k1 with rfl | rfl
          · rw [own_re] at k2; exact absurd ⟨e, k2⟩ n
          · rfl) h
      · exact one wRe (fun w hw => by
          obtain ⟨k1, k2⟩ := (h3 w).mp hw
          simp only [List.mem_cons, List.not_mem_nil, or_false] at k1
          rcases k1 with rfl | rfl
          · rfl
          · rw [own_sw] at k2; exact absurd k2 e) h
    · rcases h with ⟨_, e1, e2⟩ | ⟨q, _⟩
      · exact two wRe wSw a1.symm ((h3 _).mpr ⟨by simp, by rw [own_re]; exact e2⟩) ((h3 _).mpr ⟨by simp, by rw [own_sw]; exact e1⟩)
      · cases q
  | wf =>
    rw [hK] at h3
    refine ⟨fun h => .inl ⟨.inr rfl, ?_⟩, fun h => ?_⟩
    · refine Classical.byContradiction fun n => ?_
      by_cases e : c.sn = x
      · exact one wSw (fun w hw => by
          obtain ⟨k1, k2⟩ := (h3 w).mp hw
          simp only [List.mem_cons, List.not_mem_nil, or_false] at k1
          rcases k1 with rfl | rfl
          · rfl
          · rw [own_re] at k2; exact absurd ⟨e, k2⟩ n) h
      · exact one wRe (fun w hw => by
          obtain ⟨k1, k2⟩ := (h3 w).mp hw
          simp only [List.mem_cons, List.not_mem_nil, or_false] at k1
          rcases k1 with rfl | rfl
          · rw [own_sw] at k2; exact absurd k2 e
          · rfl) h
    · rcases h with ⟨_, e1, e2⟩ | ⟨q, _⟩
      · exact two wRe wSw a1.symm ((h3 _).mpr ⟨by simp, by rw [own_re]; exact e2⟩) ((h3 _).mpr ⟨by simp, by rw [own_sw]; exact e1⟩)
      · cases q
  | sp =>
    rw [hK] at h3
    refine ⟨fun h => .inr ⟨rfl, ?_⟩, fun h => ?_⟩
    · refine Classical.byContradiction fun n => ?_
      exact one wSw (fun w hw => by
        obtain ⟨k1, k2⟩ := (h3 w).mp hw
        simp only [List.mem_cons, List.not_mem_nil, or_false] at k1
        rcases k1 with rfl | rfl | rfl
        · rfl
        · rw [own_na] at k2; exact absurd k2 n
        · rw [own_wi] at k2; exact absurd k2 n) h
    · rcases h with ⟨q | q, _⟩ | ⟨_, e⟩
      · cases q
      · cases q
      · exact two wWi wNa a6 ((h3 _).mpr ⟨by simp, by rw [own_wi]; exact e⟩) ((h3 _).mpr ⟨by simp, by rw [own_na]; exact e⟩)
theorem many_three (dr : Drawn m l hs cs) {c : Ch} (hc : c ∈ cs) {x : Nm} : manyOf cs (x, c.nm) = 3 ↔ kK c = .sp ∧ c.sn = x ∧ c.rc = x := by
  obtain ⟨L, h1, h2, h3⟩ := many_set dr hc x
  rw [← h2]
  obtain ⟨a1, a2, a3, a4, a5, a6⟩ := ww
  have le : ∀ ks : List Nm, (∀ w ∈ L, w ∈ ks) → L.length ≤ ks.length := fun ks h => h1.sublen h
  unfold pW at h3
  constructor
  · intro h
    cases hK : kK c with
    | free => rw [hK] at h3; have := le [] fun w hw => ((h3 w).mp hw).1; simp at this; simp [this] at h
    | rf => rw [hK] at h3; have := le [wRe, wSw] fun w hw => ((h3 w).mp hw).1; simp at this; omega
    | wf => rw [hK] at h3; have := le [wSw, wRe] fun w hw => ((h3 w).mp hw).1; simp at this; omega
    | sp =>
      rw [hK] at h3
      refine ⟨rfl, Classical.byContradiction fun n => ?_, Classical.byContradiction fun n => ?_⟩
      · have := le [wNa, wWi] fun w hw => by
          obtain ⟨k1, k2⟩ := (h3 w).mp hw
          simp only [List.mem_cons, List.not_mem_nil, or_false] at k1
          rcases k1 with rfl | rfl | rfl
          · rw [own_sw] at k2; exact absurd k2 n
          · simp
          · simp
        simp at this; omega
      · have := le [wSw] fun w hw => by
          obtain ⟨k1, k2⟩ := (h3 w).mp hw
          simp only [List.mem_cons, List.not_mem_nil, or_false] at k1
          rcases k1 with rfl | rfl | rfl
          · simp
          · rw [own_na] at k2; exact absurd k2 n
          · rw [own_wi] at k2; exact absurd k2 n
        simp at this; omega
  · rintro ⟨hK, e1, e2⟩
    rw [hK] at h3
    have u := le [wSw, wNa, wWi] fun w hw => ((h3 w).mp hw).1
    have n3 : [wSw, wNa, wWi].Nodup := by decide
    have d := n3.sublen (ks := L) fun w hw => (h3 w).mpr ⟨hw, by
      simp only [List.mem_cons, List.not_mem_nil, or_false] at hw
      rcases hw with rfl | rfl | rfl
      · rw [own_sw]; exact e1
      · rw [own_na]; exact e2
      · rw [own_wi]; exact e2⟩
    simp at u d
    omega
theorem frc_key (dr : Drawn m l hs cs) {x : Nm} : x ∈ (fdOf cs).map (·.1) ↔ ∃ c ∈ cs, Frc c x := by
  rw [fd_key]
  constructor
  · rintro ⟨nm, h⟩
    obtain ⟨c, hc, rfl⟩ := many_ch dr (Nat.le_trans (by decide) h)
    exact ⟨c, hc, (many_two dr hc).mp h⟩
  · rintro ⟨c, hc, h⟩
    exact ⟨c.nm, (many_two dr hc).mpr h⟩
theorem th_key (dr : Drawn m l hs cs) {x : Nm} : x ∈ thOf cs ↔ ∃ c ∈ cs, kK c = .sp ∧ c.sn = x ∧ c.rc = x := by
  rw [th_mem (many_le dr)]
  constructor
  · rintro ⟨nm, h⟩
    obtain ⟨c, hc, rfl⟩ := many_ch dr (x := x) (nm := nm) (by omega)
    exact ⟨c, hc, (many_three dr hc).mp h⟩
  · rintro ⟨c, hc, h⟩
    exact ⟨c.nm, (many_three dr hc).mpr h⟩
theorem th_nd : (thOf cs).Nodup := (fd_ok cs).nd.sublist (List.filter_sublist.map _)
end
end FR
set_option Elab.async false
set_option linter.all false
set_option maxHeartbeats 1000000
namespace FR
open PySem
/-! ### ascending -/
theorem eR_lt {a b c d : Nm} : eR.lt (a, b) (c, d) = if a = c then (if b = d then false else eN.lt b d) else eN.lt a c := by
  show PySem.W.dataLt (.tuple [eN.enc a, eN.enc b]) (.tuple [eN.enc c, eN.enc d]) = _
  rw [PySem.W.dataLt_pair (eN.alike a c) (eN.alike b d), eN.eqv, eN.eqv]
  by_cases h : a = c <;> by_cases h2 : b = d <;> simp [h, h2, Enc.lt]
theorem asc_ofR {xs : List Pr} (h : xs.Pairwise (fun a b => eR.lt a b = true)) : asc eR xs = true := by
  unfold asc
  rw [List.all_eq_true]
  intro b hb
  obtain ⟨p, hp, rfl⟩ := List.mem_map.mp hb
  obtain ⟨i, hi, e⟩ := List.mem_iff_getElem.mp hp
  rw [List.getElem_zip] at e
  subst e
  simp only [List.length_zip, List.length_drop] at hi
  have := (List.pairwise_iff_getElem.mp h) i (1 + i) (by omega) (by omega) (by omega)
  simp only [List.getElem_drop]
  exact this
theorem chSteps_asc (c : Ch) : ((chSteps c).map (·.1)).Pairwise fun a b => eR.lt a b = true := by
  unfold chSteps
  rw [List.map_map]
  refine List.pairwise_map.mpr ?_
  have nd : (srt eN (wordsOf c)).Nodup := (srt_perm eN _).nodup_iff.mpr (words_nodup c)
  refine ((srt_sorted eN (wordsOf c)).and nd).imp fun {a b} h => ?_
  show eR.lt (c.nm, a) (c.nm, b) = true
  rw [eR_lt, if_pos rfl, if_neg h.2]
  cases q : eN.lt a b with
  | true => rfl
  | false =>
    have h1 : (!eN.lt b a) = true := h.1
    have h1 : eN.lt b a = false := by simpa using h1
    exact absurd (eN.lt_total q h1) h.2
theorem keys_asc : ∀ {cs : List Ch}, ((cs.map (·.nm)).Pairwise fun a b => eN.lt a b = true) → (keysOf cs).Pairwise fun a b => eR.lt a b = true
  | [], _ => List.Pairwise.nil
  | c :: cs, h => by
    rw [List.map_cons, List.pairwise_cons] at h
    have e : keysOf (c :: cs) = (chSteps c).map (·.1) ++ keysOf cs := by
      unfold keysOf stepsOf
      rw [List.flatMap_cons, List.map_append]
    rw [e, List.pairwise_append]
    refine ⟨chSteps_asc c, keys_asc h.2, fun a ha b hb => ?_⟩
    have e1 : a.1 = c.nm := by
      unfold chSteps at ha
      rw [List.map_map] at ha
      obtain ⟨w, _, rfl⟩ := List.mem_map.mp ha
      rfl
    obtain ⟨c', hc', e2, _⟩ := key_mem.mp hb
    have lt := h.1 c'.nm (List.mem_map.mpr ⟨c', hc', rfl⟩)
    obtain ⟨a1, a2⟩ := a
    obtain ⟨b1, b2⟩ := b
    have e1 : a1 = c.nm := e1
    have e2 : b1 = c'.nm := e2
    subst e1 e2
    rw [eR_lt]
    have : c.nm ≠ c'.nm := fun q => by rw [q, eN.lt_irrefl] at lt; cases lt
    rw [if_neg this]
    exact lt
/-! ### edges -/
section
variable {hs : Fs} {cs : List Ch} {m l : Nat}
theorem edge_fold (cs : List Ch) : ∀ (ps : List Op2) (a : List (Pr × D)) (e : Pr), e ∈ (ps.foldl (edgeAcc cs) a).map (·.1) ↔ e ∈ a.map (·.1) ∨ ∃ p ∈ ps, oo cs p.1 ≠ oo cs p.2 ∧ e = (oo cs p.1, oo cs p.2)
  | [], a, e => by simp
  | p :: ps, a, e => by
    rw [List.foldl_cons, edge_fold cs ps]
    have : e ∈ (edgeAcc cs a p).map (·.1) ↔ e ∈ a.map (·.1) ∨ (oo cs p.1 ≠ oo cs p.2 ∧ e = (oo cs p.1, oo cs p.2)) := by
      unfold edgeAcc
      split
      · rename_i h; simp [h]
      · rename_i h
        rw [pt_keys]
        split
        · rename_i h2
          exact ⟨.inl, fun q => q.elim id fun ⟨_, z⟩ => by rw [z]; exact h2⟩
        · rw [List.mem_append, List.mem_singleton]
          exact ⟨fun q => q.imp id fun z => ⟨h, z⟩, fun q => q.imp id fun z => z.2⟩
    rw [this]
    simp only [List.mem_cons, exists_eq_or_imp, or_assoc]
theorem edge_mem {e : Pr} : e ∈ edgesOf cs ↔ ∃ p ∈ psOf cs, oo cs p.1 ≠ oo cs p.2 ∧ e = (oo cs p.1, oo cs p.2) := by
  unfold edgesOf
  rw [srt_mem, edge_fold]
  simp
theorem edge_len (cs : List Ch) : (edgesOf cs).length ≤ 2 * cs.length := by
  unfold edgesOf
  rw [srt_length, List.length_map]
  have key : ∀ (ps : List Op2) (a : List (Pr × D)), (ps.foldl (edgeAcc cs) a).length ≤ a.length + ps.length := fun ps => by
    induction ps with
    | nil => intro a; exact Nat.le_refl _
    | cons p ps ih =>
      intro a
      have h1 := ih (edgeAcc cs a p)
      have h2 : (edgeAcc cs a p).length ≤ a.length + 1 := by
        unfold edgeAcc
        split
        · omega
        · exact pt_length _ _ _
      rw [List.foldl_cons, List.length_cons]
      omega
  have h1 := key (psOf cs) []
  have h2 : (psOf cs).length ≤ 2 * cs.length := by
    unfold psOf orderPairs
    refine Nat.le_trans (List.length_filter_le _ _) ?_
    rw [srt_length]
    exact flat_len pairs_len cs
  rw [List.length_nil] at h1
  omega
theorem mem_others {hs sp : List Nm} {x : Nm} : x ∈ othersOf hs sp ↔ x ∈ hs ∧ x ∉ sp := by
  unfold othersOf
  rw [List.mem_filter]
  simp
theorem others_congr {hs sp sp' : List Nm} (h : ∀ x ∈ hs, x ∈ sp ↔ x ∈ sp') : othersOf hs sp = othersOf hs sp' := by
  unfold othersOf
  exact List.filter_congr fun x hx => by simp [h x hx]
/-! ### the first of the fewest sets -/
def keysF (cs : List Ch) : List Nm := (fdOf cs).map (·.1)
theorem keysF_hs (dr : Drawn m l hs cs) {x : Nm} (h : x ∈ keysF cs) : x ∈ hs := by
  obtain ⟨c, hc, q⟩ := (frc_key dr).mp h
  rcases q with ⟨_, _, e⟩ | ⟨_, e⟩ <;> rw [← e] <;> exact (dr.c2 c hc).rc
theorem fsets_head (dr : Drawn m l hs cs) : ∃ sp r, fsetsOf ⟨hs, cs⟩ = sp :: r ∧ sp.Pairwise (fun a b => eN.le a b = true) ∧ sp.Nodup ∧ (∀ x ∈ sp, x ∈ hs) ∧ (∀ x ∈ keysF cs, x ∈ sp) ∧ cycFree (edgesOf cs) (othersOf hs sp) ∧
    ∀ T : List Nm, T.Nodup → (∀ x ∈ T, x ∈ hs) → (∀ x ∈ keysF cs, x ∈ T) → cycFree (edgesOf cs) (othersOf hs T) → sp.length ≤ T.length := by
  let must := mustOf cs
  let O := othersOf hs must
  have mm : ∀ x, x ∈ must ↔ x ∈ keysF cs := fun x => srt_mem eN
  have mnd : must.Nodup := (srt_perm eN _).nodup_iff.mpr (fd_ok cs).nd
  have ond : O.Nodup := (hs_nd dr).sublist List.filter_sublist
  -- a set that splits is among the found
  have cand : ∀ T : List Nm, T.Nodup → (∀ x ∈ T, x ∈ hs) → (∀ x ∈ keysF cs, x ∈ T) → cycFree (edgesOf cs) (othersOf hs T) → ∃ n, n ≤ O.length ∧ foundOf ⟨hs, cs⟩ n ≠ [] ∧ must.length + n = T.length := fun T tn th tk tf => by
    let R := O.filter fun x => decide (x ∈ T)
    have rs : R.Sublist O := List.filter_sublist
    have rm : ∀ x, x ∈ R ↔ x ∈ T ∧ x ∉ must := fun x => by
      show x ∈ List.filter _ _ ↔ _
      rw [List.mem_filter]
      show x ∈ othersOf hs must ∧ _ ↔ _
      rw [mem_others]
      exact ⟨fun h => ⟨of_decide_eq_true h.2, h.1.2⟩, fun h => ⟨⟨th x h.1, h.2⟩, decide_eq_true h.1⟩⟩
    obtain ⟨k, _, hk⟩ := subs_all O R.length R O.length rfl (by rw [List.take_length]; exact rs)
    refine ⟨R.length, rs.length_le, fun h => ?_, ?_⟩
    · have : srt eN (must ++ R) ∈ foundOf ⟨hs, cs⟩ R.length := by
        unfold foundOf candsOf
        rw [List.mem_filter]
        refine ⟨List.mem_map.mpr ⟨(R, k), hk, rfl⟩, decide_eq_true ?_⟩
        rw [others_congr (sp' := T)]
        · exact tf
        · intro x hx
          rw [srt_mem, List.mem_append, rm]
          refine ⟨fun q => q.elim (fun z => tk x ((mm x).mp z)) fun z => z.1, fun q => ?_⟩
          by_cases c : x ∈ must
          · exact .inl c
          · exact .inr ⟨q, c⟩
      rw [h] at this; cases this
    · rw [← List.length_append]
      have nd : (must ++ R).Nodup := List.nodup_append.mpr ⟨mnd, ond.sublist rs, fun a ha b hb e => ((rm b).mp hb).2 (e ▸ ha)⟩
      exact ((List.perm_ext_iff_of_nodup nd tn).mpr fun x => by
        rw [List.mem_append, rm]
        refine ⟨fun q => q.elim (fun z => tk x ((mm x).mp z)) fun z => z.1, fun q => ?_⟩
        by_cases c : x ∈ must
        · exact .inl c
        · exact .inr ⟨q, c⟩).length_eq
  have e0 : othersOf hs hs = [] := by
    unfold othersOf
    rw [List.filter_eq_nil_iff]
    intro x hx
    simp [hx]
  obtain ⟨n1, hn1, hf1, _⟩ := cand hs (hs_nd dr) (fun x h => h) (fun x h => keysF_hs dr h) (by rw [e0]; rfl)
  have some : ((List.range (O.length + 1)).find? fun n => decide (foundOf ⟨hs, cs⟩ n ≠ [])).isSome = true := by
    rw [List.find?_isSome]
    exact ⟨n1, List.mem_range.mpr (by omega), decide_eq_true hf1⟩
  obtain ⟨n0, h0⟩ := Option.isSome_iff_exists.mp some
  obtain ⟨p0, _, first⟩ := List.find?_range_eq_some.mp h0
  have p0 := of_decide_eq_true p0
  have ef : fsetsOf ⟨hs, cs⟩ = srt eF (foundOf ⟨hs, cs⟩ n0) := by
    unfold fsetsOf
    show (match (List.range (O.length + 1)).find? fun n => decide (foundOf ⟨hs, cs⟩ n ≠ []) with | .some n => srt eF (foundOf ⟨hs, cs⟩ n) | none => []) = _
    rw [h0]
  cases e1 : srt eF (foundOf ⟨hs, cs⟩ n0) with
  | nil =>
    have := srt_length eF (foundOf ⟨hs, cs⟩ n0)
    rw [e1] at this
    exact absurd (List.length_eq_zero_iff.mp this.symm) p0
  | cons sp r =>
    have hsp : sp ∈ foundOf ⟨hs, cs⟩ n0 := (srt_mem eF).mp (by rw [e1]; exact List.mem_cons_self)
    unfold foundOf candsOf at hsp
    obtain ⟨h1, h2⟩ := List.mem_filter.mp hsp
    obtain ⟨c, hc, rfl⟩ := List.mem_map.mp h1
    obtain ⟨s1, s2, _⟩ := subs_sound _ _ c hc
    have s3 : c.1.Sublist O := s1.trans (List.take_sublist _ _)
    have cO : ∀ x ∈ c.1, x ∈ hs ∧ x ∉ must := fun x hx => mem_others.mp (s3.subset hx)
    have nd : (must ++ c.1).Nodup := List.nodup_append.mpr ⟨mnd, ond.sublist s3, fun a ha b hb e => (cO b hb).2 (e ▸ ha)⟩
    refine ⟨_, r, by rw [ef, e1], srt_sorted eN _, (srt_perm eN _).nodup_iff.mpr nd, fun x hx => ?_, fun x hx => ?_, of_decide_eq_true h2, fun T tn th tk tf => ?_⟩
    · rcases List.mem_append.mp ((srt_mem eN).mp hx) with q | q
      · exact keysF_hs dr ((mm x).mp q)
      · exact (cO x q).1
    · exact (srt_mem eN).mpr (List.mem_append_left _ ((mm x).mpr hx))
    · obtain ⟨n, hn, hf, hl⟩ := cand T tn th tk tf
      have le : n0 ≤ n := Classical.byContradiction fun z => by
        have := first n (by omega)
        rw [Bool.not_eq_true', decide_eq_false_iff_not] at this
        exact this hf
      have : (srt eN (must ++ c.1)).length = must.length + n0 := by rw [srt_length, List.length_append, s2]
      show (srt eN (must ++ c.1)).length ≤ T.length
      omega
end
end FR
set_option Elab.async false
set_option linter.all false
set_option maxHeartbeats 1000000
namespace FR
open PySem
section
variable {hs : Fs} {cs : List Ch} {m l : Nat}
theorem fst_iff (dr : Drawn m l hs cs) {c : Ch} (hc : c ∈ cs) {w : Nm} : isFst cs (c.nm, w) = true ↔ ∃ p ∈ pairsK c, p.1 = (c.nm, w) := by
  unfold isFst
  rw [List.any_eq_true]
  constructor
  · rintro ⟨p, hp, e⟩
    obtain ⟨c', hc', k⟩ := (mem_psOf dr).mp hp
    have e := of_decide_eq_true e
    have h1 := (pair_words (dr.c2 c' hc').od (dr.c2 c' hc').nw k).1.1
    rw [e] at h1
    have := ch_one dr.nd hc hc' h1
    subst this
    exact ⟨p, k, e⟩
  · rintro ⟨p, hp, e⟩
    exact ⟨p, (mem_psOf dr).mpr ⟨c, hc, hp⟩, decide_eq_true e⟩
theorem snd_iff (dr : Drawn m l hs cs) {c : Ch} (hc : c ∈ cs) {w : Nm} : isSnd cs (c.nm, w) = true ↔ ∃ p ∈ pairsK c, p.2 = (c.nm, w) := by
  unfold isSnd
  rw [List.any_eq_true]
  constructor
  · rintro ⟨p, hp, e⟩
    obtain ⟨c', hc', k⟩ := (mem_psOf dr).mp hp
    have e := of_decide_eq_true e
    have h1 := (pair_words (dr.c2 c' hc').od (dr.c2 c' hc').nw k).2.1
    rw [e] at h1
    have := ch_one dr.nd hc hc' h1
    subst this
    exact ⟨p, k, e⟩
  · rintro ⟨p, hp, e⟩
    exact ⟨p, (mem_psOf dr).mpr ⟨c, hc, hp⟩, decide_eq_true e⟩
theorem rc_of (dr : Drawn m l hs cs) {c : Ch} (hc : c ∈ cs) : rcOf cs c.nm = c.rc := by
  unfold rcOf
  cases e : cs.find? fun c' => decide (c'.nm = c.nm) with
  | none =>
    have := List.find?_eq_none.mp e c hc
    simp at this
  | some c' =>
    have q := List.find?_some e
    have q := of_decide_eq_true q
    have := ch_one dr.nd (List.mem_of_find?_eq_some e) hc q
    subst this
    rfl
theorem part_vals (dr : Drawn m l hs cs) {c : Ch} (hc : c ∈ cs) (x : Nm) :
    (kK c = .rf → partOf cs x (c.nm, wRe) = .F ∧ partOf cs x (c.nm, wSw) = .L) ∧ (kK c = .wf → partOf cs x (c.nm, wSw) = .F ∧ partOf cs x (c.nm, wRe) = .L) ∧
    (kK c = .sp → partOf cs x (c.nm, wWi) = .F ∧ partOf cs x (c.nm, wNa) = .L ∧ partOf cs x (c.nm, wSw) = if c.rc = x then .M else if eN.lt c.rc x then .F else .L) := by
  obtain ⟨a1, a2, a3, a4, a5, a6⟩ := ww
  have f := fun w => fst_iff dr hc (w := w)
  have s := fun w => snd_iff dr hc (w := w)
  have bf : ∀ {b : Bool}, ¬ b = true → b = false := fun {b} h => by cases b <;> simp_all
  unfold partOf
  rw [rc_of dr hc]
  unfold pairsK at f s
  refine ⟨fun hK => ?_, fun hK => ?_, fun hK => ?_⟩ <;> simp only [hK] at f s
  · have f1 : isFst cs (c.nm, wRe) = true := (f _).mpr ⟨_, List.mem_singleton.mpr rfl, rfl⟩
    have s1 : isSnd cs (c.nm, wRe) = false := bf fun h => by
      obtain ⟨p, hp, e⟩ := (s _).mp h
      simp at hp; subst hp; exact a1 (Prod.mk.inj e).2
    have f2 : isFst cs (c.nm, wSw) = false := bf fun h => by
      obtain ⟨p, hp, e⟩ := (f _).mp h
      simp at hp; subst hp; exact a1 (Prod.mk.inj e).2.symm
    simp [f1, s1, f2]
  · have f1 : isFst cs (c.nm, wSw) = true := (f _).mpr ⟨_, List.mem_singleton.mpr rfl, rfl⟩
    have s1 : isSnd cs (c.nm, wSw) = false := bf fun h => by
      obtain ⟨p, hp, e⟩ := (s _).mp h
      simp at hp; subst hp; exact a1 (Prod.mk.inj e).2.symm
    have f2 : isFst cs (c.nm, wRe) = false := bf fun h => by
      obtain ⟨p, hp, e⟩ := (f _).mp h
      simp at hp; subst hp; exact a1 (Prod.mk.inj e).2
    simp [f1, s1, f2]
  · have f1 : isFst cs (c.nm, wWi) = true := (f _).mpr ⟨((c.nm, wWi), (c.nm, wSw)), by simp, rfl⟩
    have s1 : isSnd cs (c.nm, wWi) = false := bf fun h => by
      obtain ⟨p, hp, e⟩ := (s _).mp h
      simp at hp
      rcases hp with rfl | rfl
      · exact a6.symm (Prod.mk.inj e).2
      · exact a2 (Prod.mk.inj e).2
    have f2 : isFst cs (c.nm, wNa) = false := bf fun h => by
      obtain ⟨p, hp, e⟩ := (f _).mp h
      simp at hp
      rcases hp with rfl | rfl
      · exact a3 (Prod.mk.inj e).2
      · exact a6 (Prod.mk.inj e).2
    have f3 : isFst cs (c.nm, wSw) = true := (f _).mpr ⟨((c.nm, wSw), (c.nm, wNa)), by simp, rfl⟩
    have s3 : isSnd cs (c.nm, wSw) = true := (s _).mpr ⟨((c.nm, wWi), (c.nm, wSw)), by simp, rfl⟩
    simp [f1, s1, f2, f3, s3]
theorem gAll_mem (dr : Drawn m l hs cs) {x : Nm} {q : Pr} : q ∈ gAll cs x ↔ (q, x) ∈ stepsOf cs := by
  unfold gAll
  rw [List.mem_filter]
  constructor
  · rintro ⟨h1, h2⟩
    have h2 := of_decide_eq_true h2
    rw [← h2]
    exact step_oo dr h1
  · intro h
    exact ⟨List.mem_map.mpr ⟨_, h, rfl⟩, decide_eq_true (oo_of dr h)⟩
theorem before_le {sp S1 S2 : List Nm} {x y : Nm} (h : sp.Pairwise (fun a b => eN.le a b = true)) (e : sp = S1 ++ y :: S2) (hx : x ∈ sp) (lt : eN.lt x y = true) : x ∈ S1 := by
  subst e
  rcases List.mem_append.mp hx with q | q
  · exact q
  · rcases List.mem_cons.mp q with q | q
    · subst q; rw [eN.lt_irrefl] at lt; cases lt
    · have := (List.pairwise_cons.mp (List.pairwise_append.mp h).2.1).1 x q
      have this : (!eN.lt x y) = true := this
      rw [lt] at this
      cases this
/-- a split set's plan -/
theorem plan_ok (dr : Drawn m l hs cs) {sp : List Nm} (so : sp.Pairwise fun a b => eN.le a b = true) (sn : sp.Nodup) (sh : ∀ x ∈ sp, x ∈ hs) (sk : ∀ x ∈ keysF cs, x ∈ sp) (sf : cycFree (edgesOf cs) (othersOf hs sp)) :
    PlanS (stepsOf cs) (psOf cs) sp (ordOf cs (othersOf hs sp)) (partOf cs) (gAll cs) (gPart cs) ∧ (ordOf cs (othersOf hs sp)).Perm (othersOf hs sp) := by
  obtain ⟨a1, a2, a3, a4, a5, a6⟩ := ww
  have hL : ∀ x ∈ srt eN (othersOf hs sp), x ∈ othersOf hs sp := fun x h => (srt_mem eN).mp h
  obtain ⟨o1, o2⟩ := ord_ok sf _ _ hL (srt_length eN _)
  have op : (ordOf cs (othersOf hs sp)).Perm (othersOf hs sp) := o1.trans (srt_perm eN _)
  have ond : (othersOf hs sp).Nodup := (hs_nd dr).sublist List.filter_sublist
  -- a pair's owners
  have ow : ∀ {c : Ch}, c ∈ cs → ∀ {w x : Nm}, ((c.nm, w), x) ∈ stepsOf cs → x = own c w := fun {c} hc {w x} h => by
    obtain ⟨c', hc', e, _, k⟩ := step_mem.mp h
    have := ch_one dr.nd hc hc' e
    subst this; exact k
  have fr : ∀ {c : Ch}, c ∈ cs → ∀ {x : Nm}, Frc c x → x ∈ sp := fun {c} hc {x} h => sk x ((frc_key dr).mpr ⟨c, hc, h⟩)
  refine ⟨⟨steps_nodup dr.nd, sn, op.nodup_iff.mpr ond, fun x hx h => (mem_others.mp (op.mem_iff.mp h)).2 hx, fun o ho => ?_, fun x q => gAll_mem dr, fun x => ?_, fun t x q => ?_, fun t x => ?_, fun p hp => ?_, fun p hp x y hx hy hxs hys => ?_, fun p hp x y hx hy hxs hys => ?_, fun p hp x y hx hy hxs hys => ?_, fun p hp x y hx hy hxs hys S1 S2 e => ?_⟩, op⟩
  · by_cases c : o.2 ∈ sp
    · exact .inl c
    · exact .inr (op.mem_iff.mpr (mem_others.mpr ⟨owner_hs dr (q := o.1) ho, c⟩))
  · exact (steps_nodup dr.nd).sublist List.filter_sublist
  · unfold gPart
    rw [List.mem_filter, gAll_mem dr]
    exact ⟨fun h => ⟨h.1, of_decide_eq_true h.2⟩, fun h => ⟨h.1, decide_eq_true h.2⟩⟩
  · exact ((steps_nodup dr.nd).sublist List.filter_sublist).sublist List.filter_sublist
  · obtain ⟨k1, k2⟩ := ps_keys dr hp
    exact ⟨_, _, step_oo dr k1, step_oo dr k2⟩
  · obtain ⟨c, hc, k⟩ := (mem_psOf dr).mp hp
    have pv := fun x => part_vals dr hc x
    unfold pairsK at k
    cases hK : kK c with
    | free => rw [hK] at k; cases k
    | rf =>
      rw [hK] at k
      obtain rfl := List.mem_singleton.mp k
      left
      rw [((pv x).1 hK).1, ((pv y).1 hK).2]
      exact ⟨rfl, by decide⟩
    | wf =>
      rw [hK] at k
      obtain rfl := List.mem_singleton.mp k
      left
      rw [((pv x).2.1 hK).1, ((pv y).2.1 hK).2]
      exact ⟨rfl, by decide⟩
    | sp =>
      rw [hK] at k
      obtain ⟨w1, n1, v1⟩ := (pv x).2.2 hK
      obtain ⟨w2, n2, v2⟩ := (pv y).2.2 hK
      rcases List.mem_cons.mp k with rfl | k
      · have ey : y = c.rc := by rw [ow hc hy, own_na]
        rw [v1, n2]
        by_cases c1 : c.rc = x
        · rw [if_pos c1]; exact .inr (.inl ⟨rfl, rfl⟩)
        · rw [if_neg c1]
          cases c2 : eN.lt c.rc x with
          | true => rw [if_pos rfl]; exact .inl ⟨rfl, by decide⟩
          | false =>
            rw [if_neg (by decide)]
            refine .inr (.inr ⟨rfl, by decide, fun S1 S2 e => before_le so e hxs ?_⟩)
            rw [ey]
            cases c3 : eN.lt x c.rc with
            | true => rfl
            | false => exact absurd (eN.lt_total c2 c3) c1
      · obtain rfl := List.mem_singleton.mp k
        have ex : x = c.rc := by rw [ow hc hx, own_wi]
        rw [w1, v2]
        by_cases c1 : c.rc = y
        · rw [if_pos c1]; exact .inl ⟨rfl, by decide⟩
        · rw [if_neg c1]
          cases c2 : eN.lt c.rc y with
          | true =>
            rw [if_pos rfl]
            exact .inr (.inr ⟨rfl, by decide, fun S1 S2 e => before_le so e hxs (by rw [ex]; exact c2)⟩)
          | false => rw [if_neg (by decide)]; exact .inl ⟨rfl, by decide⟩
  · obtain ⟨c, hc, k⟩ := (mem_psOf dr).mp hp
    have pv := part_vals dr hc x
    unfold pairsK at k
    cases hK : kK c with
    | free => rw [hK] at k; cases k
    | rf => rw [hK] at k; obtain rfl := List.mem_singleton.mp k; exact (pv.1 hK).1
    | wf => rw [hK] at k; obtain rfl := List.mem_singleton.mp k; exact (pv.2.1 hK).1
    | sp =>
      rw [hK] at k
      rcases List.mem_cons.mp k with rfl | k
      · exact absurd (fr hc (.inr ⟨hK, by rw [ow hc hy, own_na]⟩)) hys
      · obtain rfl := List.mem_singleton.mp k
        exact (pv.2.2 hK).1
  · obtain ⟨c, hc, k⟩ := (mem_psOf dr).mp hp
    have pv := part_vals dr hc y
    unfold pairsK at k
    cases hK : kK c with
    | free => rw [hK] at k; cases k
    | rf => rw [hK] at k; obtain rfl := List.mem_singleton.mp k; exact (pv.1 hK).2
    | wf => rw [hK] at k; obtain rfl := List.mem_singleton.mp k; exact (pv.2.1 hK).2
    | sp =>
      rw [hK] at k
      rcases List.mem_cons.mp k with rfl | k
      · exact (pv.2.2 hK).2.1
      · obtain rfl := List.mem_singleton.mp k
        exact absurd (fr hc (.inr ⟨hK, by rw [ow hc hx, own_wi]⟩)) hxs
  · have hin : ∀ {q : Pr} {z : Nm}, (q, z) ∈ stepsOf cs → z ∉ sp → z ∈ srt eN (othersOf hs sp) := fun h hz => (srt_mem eN).mpr (mem_others.mpr ⟨owner_hs dr h, hz⟩)
    by_cases exy : x = y
    · exfalso
      subst exy
      obtain ⟨c, hc, k⟩ := (mem_psOf dr).mp hp
      unfold pairsK at k
      cases hK : kK c with
      | free => rw [hK] at k; cases k
      | rf => rw [hK] at k; obtain rfl := List.mem_singleton.mp k; exact hxs (fr hc (.inl ⟨.inl hK, by rw [ow hc hy, own_sw], by rw [ow hc hx, own_re]⟩))
      | wf => rw [hK] at k; obtain rfl := List.mem_singleton.mp k; exact hxs (fr hc (.inl ⟨.inr hK, by rw [ow hc hx, own_sw], by rw [ow hc hy, own_re]⟩))
      | sp =>
        rw [hK] at k
        rcases List.mem_cons.mp k with rfl | k
        · exact hxs (fr hc (.inr ⟨hK, by rw [ow hc hy, own_na]⟩))
        · obtain rfl := List.mem_singleton.mp k
          exact hxs (fr hc (.inr ⟨hK, by rw [ow hc hx, own_wi]⟩))
    · refine o2 S1 y S2 e x (hin hx hxs) (edge_mem.mpr ⟨p, hp, ?_, ?_⟩)
      · rw [oo_of dr hx, oo_of dr hy]; exact exy
      · rw [oo_of dr hx, oo_of dr hy]
theorem mid_th (dr : Drawn m l hs cs) {x : Nm} (h : gPart cs .M x ≠ []) : x ∈ thOf cs := by
  obtain ⟨q, hq⟩ := List.exists_mem_of_ne_nil _ h
  unfold gPart at hq
  obtain ⟨h1, h2⟩ := List.mem_filter.mp hq
  have h2 := of_decide_eq_true h2
  have h1 := (gAll_mem dr).mp h1
  obtain ⟨c, hc, e, hw, ex⟩ := step_mem.mp h1
  obtain ⟨q1, q2⟩ := q
  have e : q1 = c.nm := e
  subst e
  unfold partOf at h2
  rw [rc_of dr hc] at h2
  split at h2
  · rename_i f
    split at h2
    · rename_i s
      split at h2
      · rename_i r
        obtain ⟨p, hp, e1⟩ := (fst_iff dr hc).mp f
        obtain ⟨p', hp', e2⟩ := (snd_iff dr hc).mp s
        obtain ⟨a1, a2, a3, a4, a5, a6⟩ := ww
        have ew : kK c = .sp ∧ q2 = wSw := by
          unfold pairsK at hp hp'
          cases hK : kK c with
          | free => rw [hK] at hp; cases hp
          | rf =>
            rw [hK] at hp hp'
            obtain rfl := List.mem_singleton.mp hp
            obtain rfl := List.mem_singleton.mp hp'
            exact absurd ((Prod.mk.inj e1).2.trans (Prod.mk.inj e2).2.symm) a1.symm
          | wf =>
            rw [hK] at hp hp'
            obtain rfl := List.mem_singleton.mp hp
            obtain rfl := List.mem_singleton.mp hp'
            exact absurd ((Prod.mk.inj e1).2.trans (Prod.mk.inj e2).2.symm) a1
          | sp =>
            rw [hK] at hp hp'
            refine ⟨rfl, ?_⟩
            rcases List.mem_cons.mp hp with rfl | hp
            · exact (Prod.mk.inj e1).2.symm
            · obtain rfl := List.mem_singleton.mp hp
              rcases List.mem_cons.mp hp' with rfl | hp'
              · exact absurd ((Prod.mk.inj e1).2.trans (Prod.mk.inj e2).2.symm) a6
              · obtain rfl := List.mem_singleton.mp hp'
                exact (Prod.mk.inj e2).2.symm
        obtain ⟨hK, rfl⟩ := ew
        exact (th_key dr).mpr ⟨c, hc, hK, by rw [ex]; exact (own_sw c).symm, r⟩
      · split at h2 <;> cases h2
    · cases h2
  · cases h2
end
end FR
set_option Elab.async false
set_option linter.all false
set_option maxHeartbeats 1000000
namespace FR
open PySem
section
variable {hs : Fs} {cs : List Ch} {m l : Nat}
theorem busy_len (dr : Drawn m l hs cs) : (busyL cs).length = (busyOf (stepsOf cs) hs).length := by
  unfold busyL busyOf
  rw [srt_length]
  refine ((List.perm_ext_iff_of_nodup (nodup_dd _) ((hs_nd dr).sublist List.filter_sublist)).mpr fun x => ?_).length_eq
  rw [mem_dd, List.mem_map, List.mem_filter, busy_iff]
  constructor
  · rintro ⟨⟨q, o⟩, h, rfl⟩
    exact ⟨owner_hs dr h, q, h⟩
  · rintro ⟨_, q, h⟩
    exact ⟨(q, x), h, rfl⟩
theorem cnt_three {x : Nm} {A B C E : List Run} {r r2 r3 : Run} (h1 : r.1 = x) (h2 : r2.1 = x) (h3 : r3.1 = x) : 3 ≤ cnt x (A ++ r :: B ++ r2 :: C ++ r3 :: E) := by
  simp only [cnt_app, cnt_cons, if_pos h1, if_pos h2, if_pos h3]
  omega
theorem cnt_two {x : Nm} {A B C E : List Run} {r r2 r3 : Run} (h1 : r.1 = x) (h3 : r3.1 = x) : 2 ≤ cnt x (A ++ r :: B ++ r2 :: C ++ r3 :: E) := by
  simp only [cnt_app, cnt_cons, if_pos h1, if_pos h3]
  omega
/-- the forced are released twice -/
theorem frc_cnt (dr : Drawn m l hs cs) {pl : List Run} (g : Good (stepsOf cs) (psOf cs) pl) {x : Nm} (h : x ∈ keysF cs) : 2 ≤ cnt x pl := by
  obtain ⟨c, hc, q⟩ := (frc_key dr).mp h
  have nd := steps_nodup dr.nd
  have st : ∀ {w : Nm}, w ∈ pW c → ((c.nm, w), own c w) ∈ stepsOf cs := fun {w} hw => step_mem.mpr ⟨c, hc, rfl, pW_words dr hc hw, rfl⟩
  have pm : ∀ {p : Op2}, p ∈ pairsK c → p ∈ psOf cs := fun {p} hp => (mem_psOf dr).mpr ⟨c, hc, hp⟩
  rcases q with ⟨hK | hK, e1, e2⟩ | ⟨hK, e⟩
  · have s1 := st (w := wRe) (by unfold pW; rw [hK]; simp)
    have s2 := st (w := wSw) (by unfold pW; rw [hK]; simp)
    rw [own_re, e2] at s1
    rw [own_sw, e1] at s2
    exact g.cnt2 nd (pm (p := ((c.nm, wRe), (c.nm, wSw))) (by unfold pairsK; rw [hK]; exact List.mem_singleton.mpr rfl)) s1 s2
  · have s1 := st (w := wRe) (by unfold pW; rw [hK]; simp)
    have s2 := st (w := wSw) (by unfold pW; rw [hK]; simp)
    rw [own_re, e2] at s1
    rw [own_sw, e1] at s2
    exact g.cnt2 nd (pm (p := ((c.nm, wSw), (c.nm, wRe))) (by unfold pairsK; rw [hK]; exact List.mem_singleton.mpr rfl)) s2 s1
  · have s1 := st (w := wWi) (by unfold pW; rw [hK]; simp)
    have s2 := st (w := wSw) (by unfold pW; rw [hK]; simp)
    have s3 := st (w := wNa) (by unfold pW; rw [hK]; simp)
    rw [own_wi, e] at s1
    rw [own_na, e] at s3
    obtain ⟨A, r, B, r2, C, r3, E, rfl, h1, h2, h3⟩ := g.three nd (pm (p := ((c.nm, wWi), (c.nm, wSw))) (by unfold pairsK; rw [hK]; exact List.mem_cons_of_mem _ (List.mem_singleton.mpr rfl))) (pm (p := ((c.nm, wSw), (c.nm, wNa))) (by unfold pairsK; rw [hK]; exact List.mem_cons_self)) s1 s2 s3
    exact cnt_two h1 h3
theorem th_cnt (dr : Drawn m l hs cs) {pl : List Run} (g : Good (stepsOf cs) (psOf cs) pl) {x : Nm} (h : x ∈ thOf cs) : x ∈ hs ∧ 3 ≤ cnt x pl := by
  obtain ⟨c, hc, hK, e1, e2⟩ := (th_key dr).mp h
  have nd := steps_nodup dr.nd
  have st : ∀ {w : Nm}, w ∈ pW c → ((c.nm, w), own c w) ∈ stepsOf cs := fun {w} hw => step_mem.mpr ⟨c, hc, rfl, pW_words dr hc hw, rfl⟩
  have pm : ∀ {p : Op2}, p ∈ pairsK c → p ∈ psOf cs := fun {p} hp => (mem_psOf dr).mpr ⟨c, hc, hp⟩
  have s1 := st (w := wWi) (by unfold pW; rw [hK]; simp)
  have s2 := st (w := wSw) (by unfold pW; rw [hK]; simp)
  have s3 := st (w := wNa) (by unfold pW; rw [hK]; simp)
  rw [own_wi, e2] at s1
  rw [own_sw, e1] at s2
  rw [own_na, e2] at s3
  obtain ⟨A, r, B, r2, C, r3, E, rfl, h1, h2, h3⟩ := g.three nd (pm (p := ((c.nm, wWi), (c.nm, wSw))) (by unfold pairsK; rw [hK]; exact List.mem_cons_of_mem _ (List.mem_singleton.mpr rfl))) (pm (p := ((c.nm, wSw), (c.nm, wNa))) (by unfold pairsK; rw [hK]; exact List.mem_cons_self)) s1 s2 s3
  exact ⟨by rw [← e2]; exact (dr.c2 c hc).rc, cnt_three h1 h2 h3⟩
theorem rank_free (dr : Drawn m l hs cs) {pl : List Run} (g : Good (stepsOf cs) (psOf cs) pl) {L : List Nm} (h : ∀ x ∈ L, cnt x pl ≤ 1) : cycFree (edgesOf cs) L := by
  refine free_rank (fun x => rk x pl) fun u hu v hv he => ?_
  obtain ⟨p, hp, _, e⟩ := edge_mem.mp he
  obtain ⟨k1, k2⟩ := ps_keys dr hp
  obtain ⟨e1, e2⟩ := Prod.mk.inj e
  subst e1 e2
  exact g.rk_lt (steps_nodup dr.nd) (f := p.1) (s := p.2) hp (step_oo dr k1) (step_oo dr k2) (h _ hv)
theorem con_prs : ∀ {pl : List Run} {d : Done}, Con cs d → prs (psOf cs) d pl → Con cs (d ++ dn pl)
  | [], d, h, _ => by rw [dn_nil, List.append_nil]; exact h
  | r :: pl, d, h, ⟨h1, h2⟩ => by
    rw [dn_cons, ← List.append_assoc]
    exact con_prs (con_step h h1) h2
theorem safe_of (dr : Drawn m l hs cs) {pl : List Run} (g : Good (stepsOf cs) (psOf cs) pl) : Safe ⟨hs, cs⟩ pl := fun i r hr => by
  have e : pl = pl.take i ++ r :: pl.drop (i + 1) := by
    obtain ⟨hi, rfl⟩ := List.getElem?_eq_some_iff.mp hr
    rw [List.getElem_cons_drop, List.take_append_drop]
  have pr := g.pr
  rw [e, prs_app] at pr
  obtain ⟨p1, p2, _⟩ := pr
  rw [List.nil_append] at p2
  have c0 : Con cs [] := fun p hp hq => by cases hq
  have con := con_prs c0 p1
  rw [List.nil_append] at con
  have hr' : r ∈ pl := List.mem_of_getElem? hr
  refine (refused_iff (o := r.1) (s := r.2) dr (fun q hq => ?_) (fun q hq => g.own r hr' q hq) con).mpr p2
  obtain ⟨r', h1, h2⟩ := mem_dn.mp hq
  exact List.mem_map.mpr ⟨_, g.own r' (List.mem_of_mem_take h1) q h2, rfl⟩
theorem dn_perm (dr : Drawn m l hs cs) {pl : List Run} (g : Good (stepsOf cs) (psOf cs) pl) : (dn pl).Perm (keysOf cs) := (List.perm_ext_iff_of_nodup g.nd (steps_nodup dr.nd)).mpr fun q => ⟨fun h => by
  obtain ⟨r, h1, h2⟩ := mem_dn.mp h
  exact List.mem_map.mpr ⟨_, g.own r h1 q h2, rfl⟩, g.all q⟩
theorem le_of_lt_pw {xs : List Pr} (h : xs.Pairwise fun a b => eR.lt a b = true) : xs.Pairwise fun a b => eR.le a b = true := h.imp fun q => eR.le_of_lt q
theorem maths (dr : Drawn 4 6 hs cs) (hl : (lawSteps cs).length ≤ 7) : Maths hs cs := by
  have klen : (keysOf cs).length ≤ 7 := by
    unfold keysOf
    rw [List.length_map, (steps_perm cs).length_eq]
    exact hl
  have h2 := dr.h2
  have c1 := dr.c1
  have hnd := hs_nd dr
  have form : ∀ {x : Form}, FormP x → FormOk x := fun {x} h => ⟨⟨by have := h.l1; omega, asc_of h.wr⟩, ⟨by have := h.l2; omega, asc_of h.ne⟩, ⟨by have := h.l3; omega, asc_of h.kn⟩, isSub_iff.mpr fun f hf => h.s2 f (h.s1 f hf), acc_self h⟩
  have fdl : (fdOf cs).length ≤ 4 := by
    have := (fd_ok cs).nd.sublen (ks := hs) fun x hx => keysF_hs dr hx
    rw [List.length_map] at this
    omega
  -- any plan that is good is long
  have low : ∀ {sp : List Nm}, (∀ T : List Nm, T.Nodup → (∀ x ∈ T, x ∈ hs) → (∀ x ∈ keysF cs, x ∈ T) → cycFree (edgesOf cs) (othersOf hs T) → sp.length ≤ T.length) → ∀ {pl : List Run}, Good (stepsOf cs) (psOf cs) pl → (busyL cs).length + sp.length + (thOf cs).length ≤ pl.length := fun {sp} mn {pl} g => by
    have h1 := g.low (steps_nodup dr.nd) (hs := hs) (th := thOf cs) hnd (fun o ho => owner_hs dr (q := o.1) ho) th_nd fun x hx => th_cnt dr g hx
    have h2 := mn (hs.filter fun x => decide (2 ≤ cnt x pl)) (hnd.sublist List.filter_sublist) (fun x hx => (List.mem_filter.mp hx).1) (fun x hx => List.mem_filter.mpr ⟨keysF_hs dr hx, decide_eq_true (frc_cnt dr g hx)⟩) (rank_free dr g fun x hx => by
      obtain ⟨a, b⟩ := mem_others.mp hx
      exact Classical.byContradiction fun z => b (List.mem_filter.mpr ⟨a, decide_eq_true (by omega)⟩))
    rw [busy_len dr]
    omega
  refine ⟨⟨dr.h1, by show hs.length ≤ 12; omega, asc_of dr.h3, by show cs.length ≤ 40; omega, fun c hc => ⟨(dr.c2 c hc).sn, (dr.c2 c hc).rc, form (dr.c2 c hc).od, form (dr.c2 c hc).nw⟩, asc_of dr.c3⟩, ⟨⟨dr.nd, by show cs.length ≤ 40; omega⟩, fun p hp => ps_keys dr hp⟩, ⟨by show cs.length ≤ 40; omega, hnd, h2, by show (edgesOf cs).length ≤ 1000; have := edge_len cs; omega, fdl⟩, fun c hc => ⟨by have := (dr.c2 c hc).od.l3; omega, by have := (dr.c2 c hc).nw.l3; omega⟩, ?_, ?_⟩
  · obtain ⟨sp, r, e, so, sn, sh, sk, sf, mn⟩ := fsets_head dr
    obtain ⟨P, op⟩ := plan_ok dr so sn sh sk sf
    have g : Good (stepsOf cs) (psOf cs) (planOf ⟨hs, cs⟩ sp) := P.good
    have hp : (sp ++ ordOf cs (othersOf hs sp)).Perm hs := by
      refine (List.perm_ext_iff_of_nodup ?_ hnd).mpr fun x => ?_
      · exact List.nodup_append.mpr ⟨sn, P.s2, fun a ha b hb q => P.s3 b (q ▸ ha) hb⟩
      · rw [List.mem_append, op.mem_iff, mem_others]
        refine ⟨fun q => q.elim (sh x) fun z => z.1, fun q => ?_⟩
        by_cases c : x ∈ sp
        · exact .inl c
        · exact .inr ⟨q, c⟩
    have up := P.len hp (th := thOf cs) (fun x _ hx => mid_th dr hx) th_nd
    have up : (planOf ⟨hs, cs⟩ sp).length ≤ (busyL cs).length + sp.length + (thOf cs).length := by rw [busy_len dr]; exact up
    have lo := low mn g
    obtain ⟨⟨i, hi, hb⟩, hle⟩ := up_of (whole := false) dr g (fun z => by cases z)
    have el : (everyOf cs).length = (lawSteps cs).length := by unfold everyOf; rw [srt_length, List.length_map]
    have lw : ∀ j, everyOf cs ∈ (bfs hs cs false j).2 → (busyL cs).length + sp.length + (thOf cs).length ≤ j := fun j hj => by
      obtain ⟨pl, e1, g1, _⟩ := low_of dr hj
      rw [← e1]
      exact low mn g1
    have ei := lw i hb
    have ie : i = (busyL cs).length + sp.length + (thOf cs).length := by omega
    subst ie
    have spl : sp.length ≤ hs.length := sn.sublen fun x hx => sh x hx
    have pm := dn_perm dr g
    have ka := keys_asc dr.c3
    refine ⟨sp, r, _, e, by omega, sf, rfl, fewest_some hb (by omega) lw, by omega, by omega, ?_, fun q hq => ⟨?_, g.ne q hq, fun p hp => ?_, ?_⟩, ?_, safe_of dr g⟩
    · have : (doneOf (planOf ⟨hs, cs⟩ sp)).length = (keysOf cs).length := pm.length_eq
      omega
    · obtain ⟨p, hp⟩ := List.exists_mem_of_ne_nil _ (g.ne q hq)
      exact owner_hs dr (g.own q hq p hp)
    · unfold ownSteps
      exact List.mem_map.mpr ⟨(p, q.1), List.mem_filter.mpr ⟨g.own q hq p hp, decide_eq_true rfl⟩, rfl⟩
    · refine asc_ofR ?_
      have sb : q.2.Sublist (keysOf cs) := by
        have hq : q ∈ rel sp (gPart cs .F) ++ rel (ordOf cs (othersOf hs sp)) (gAll cs) ++ (rel sp (gPart cs .M) ++ rel sp (gPart cs .L)) := hq
        simp only [List.mem_append] at hq
        have gp : ∀ t x, (gPart cs t x).Sublist (keysOf cs) := fun t x => List.filter_sublist.trans List.filter_sublist
        rcases hq with (k | k) | (k | k)
        · rw [(mem_rel k).2.1]; exact gp _ _
        · rw [(mem_rel k).2.1]; exact List.filter_sublist
        · rw [(mem_rel k).2.1]; exact gp _ _
        · rw [(mem_rel k).2.1]; exact gp _ _
      exact ka.sublist sb
    · exact srt_eq eR (le_of_lt_pw ka) pm.symm
  · constructor
    · intro h
      obtain ⟨n, hn⟩ := Option.isSome_iff_exists.mp h
      obtain ⟨pl, _, g, hc⟩ := low_of dr (fewest_is hn)
      have hc := hc rfl
      refine ⟨?_, rank_free dr g fun x _ => hc x⟩
      cases e : fdOf cs with
      | nil => rfl
      | cons a b =>
        have : a.1 ∈ keysF cs := by unfold keysF; rw [e]; exact List.mem_cons_self
        have h1 := frc_cnt dr g this
        have h2 := hc a.1
        omega
    · rintro ⟨h1, hf⟩
      have sk : ∀ x ∈ keysF cs, x ∈ ([] : List Nm) := fun x hx => by unfold keysF at hx; rw [h1] at hx; exact hx
      obtain ⟨P, op⟩ := plan_ok dr (sp := []) List.Pairwise.nil List.nodup_nil (fun x hx => by cases hx) sk hf
      obtain ⟨⟨i, hi, hb⟩, hle⟩ := up_of (whole := true) dr P.good fun _ r hr q hq => by
        have hr : r ∈ rel ([] : List Nm) (gPart cs .F) ++ rel (ordOf cs (othersOf hs [])) (gAll cs) ++ (rel ([] : List Nm) (gPart cs .M) ++ rel ([] : List Nm) (gPart cs .L)) := hr
        simp only [List.mem_append] at hr
        rcases hr with (k | k) | (k | k)
        · cases (mem_rel k).1
        · rw [(mem_rel k).2.1]; exact (gAll_mem dr).mpr hq
        · cases (mem_rel k).1
        · cases (mem_rel k).1
      exact fewest_isSome hb (by omega)
end
end FR
set_option Elab.async false
set_option linter.all false
set_option maxRecDepth 100000
set_option maxHeartbeats 0
open PySem PySem.W PySem.Calls PyProof.Rows
theorem PySem.Challenge.cw_fewreleases_k67_whole_fewest_by_all_ways_holds : PySem.Challenge.rw_fewreleases_k67_whole_fewest_by_all_ways.Holds := by
  w_on; o_law
  refine HandSHeadRun.head_any (r := FR.R) (q := view FR.R.prog [107]) (H := FR.hk) (ob := FR.ob) (M := 20000) (loose := FR.names) (d := HandSHeadRun.topDef FR.R.prog 107) (kwd := []) FR.ob_eq
    (by kernel_rfl) (fun s => by kernel_rfl) FR.run (by kernel_rfl) (by kernel_rfl) (by kernel_rfl) (by rfl) (by first | assumption | decide +kernel) (by decide +kernel) ⟨rfl, rfl, rfl, rfl, rfl, by decide +kernel⟩ ?hw ?hc
  case hw => w_witness2
  case hc =>
    refine L2.walk_ofE (l := PySem.Challenge.rw_fewreleases_k67_whole_fewest_by_all_ways) (n := 63) (k := 13) (x := "_law_script") (CX := L2.CX0) rfl (by decide) (by kernel_rfl) ⟨rfl, by decide, by decide⟩ ?F (fun _ _ _ _ z => z)
    intro w mg fa h Y G hmg0
    obtain ⟨K, KX, c⟩ := Y
    have hmg : mg ("law" : PySem.Str) = some (.ref fa) := by
      have e : (HandSHeadRun.topDef FR.R.prog 107).name = ("law" : PySem.Str) := by kernel_rfl
      rw [← e]
      exact hmg0
    obtain ⟨fd, _, hb, hF⟩ := FR.facts (P := PySem.Challenge.rw_fewreleases_k67_whole_fewest_by_all_ways.prog) (w := w) KX G c (fun hs cs dr hl => FR.maths dr hl)
    have e := hmg.symm.trans (He.glo_ok KX G (c.fact 67 (f := .glo "law") rfl))
    cases e
    refine ⟨K, fd, FR.SpF (FR.T_law ⟨PySem.Challenge.rw_fewreleases_k67_whole_fewest_by_all_ways.prog, w, K, mg, h⟩), KX, hb, fun H a ns hl hO hS => ?_, fun base _ _ => hF base⟩
    refine ⟨[FR.scrR ⟨PySem.Challenge.rw_fewreleases_k67_whole_fewest_by_all_ways.prog, w, K, mg, h⟩ ns], fun R => R = FR.bl true, H, fun _ => none, ⟨⟨a, rfl, hS⟩, True.intro⟩, ⟨ns, rfl, rfl⟩, ?_, ?_, fun v R F' hR hv _ _ => ?_⟩
    · funext b
      unfold FR.ovl
      cases H b <;> rfl
    · exact ⟨fun _ _ z => (by cases z), fun _ _ z => (by cases z)⟩
    · subst hR
      cases hv
      rfl
