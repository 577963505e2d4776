import PyProof.Rows.All
import Wide.All
import OpenK.AllK
import Wide.FinOn
import KE.KStateDown
import Lean
import Open.SpecLaws
import KE.OsGo
import HandS.ForSpec
import HandS.Defaults
import HandS.ExcInit
import HandS.HeadHook1
import HandS.HeadHook2
import HandS.Head0
import HandS.Head1
import HandS.Head2
import HandS.Head4
import HandS.ForMost
import HandS.ExcInitHot
import HandS.SuiteRaise
import HandS.RaiseFrom
import HandS.SortInts
import HandS.Style
import HandS.More
import HandS.Zip
import HandS.Evl
import HandS.ExcField
import HandS.ExcCtx
import HandS.HotCalls
import PySem.Challenge.RW_tickstore_s01_answers
set_option Elab.async false
set_option linter.all false
set_option maxRecDepth 100000
set_option maxHeartbeats 4000000
/-! ## TsBase -/
namespace Ts
open PySem PySem.Spec PyProof.Rows L2
/-! ### the program's statements by their places -/
def top (i : Nat) : Stmt := PySem.Challenge.pw_tickstore_s01_answers.main.body.getD i (.Pass ⟨0, 0, 0, 0⟩)
abbrev s_natural_of : Stmt := top 8
abbrev s_integer_of : Stmt := top 9
abbrev s_integer_bytes : Stmt := top 10
abbrev s_row_bytes : Stmt := top 11
abbrev s_checksum : Stmt := top 12
abbrev s_two_bytes : Stmt := top 13
abbrev s_frame_of : Stmt := top 14
abbrev s_part_integer : Stmt := top 15
abbrev s_parts_of : Stmt := top 16
abbrev s_decoded : Stmt := top 17
abbrev s_frame_at : Stmt := top 18
abbrev s_frames_in : Stmt := top 19
abbrev s_only_row : Stmt := top 20
abbrev s_is_entry : Stmt := top 28
abbrev s_is_change : Stmt := top 29
abbrev s_changes_of : Stmt := top 30
abbrev s_are_changes : Stmt := top 31
abbrev s_tick_row : Stmt := top 32
abbrev s_is_tick : Stmt := top 33
abbrev s_changed : Stmt := top 34
abbrev s_flat : Stmt := top 35
abbrev s_pairs_of : Stmt := top 36
abbrev s_is_checkpoint : Stmt := top 37
abbrev s_checkpoint_in : Stmt := top 38
abbrev s_commit_in : Stmt := top 39
abbrev s_replayed : Stmt := top 40
abbrev s_cut_at : Stmt := top 52
abbrev s_are_digits : Stmt := top 53
abbrev s_worth : Stmt := top 54
abbrev s_number_in : Stmt := top 55
abbrev s_limited : Stmt := top 56
abbrev s_removal_in : Stmt := top 57
abbrev s_change_in : Stmt := top 58
abbrev s_changes_in : Stmt := top 59
abbrev s_journal_in : Stmt := top 60
abbrev s_want : Stmt := top 80
abbrev s_want_power_range : Stmt := top 81
abbrev s_is_enough : Stmt := top 82
abbrev s_counted_frames : Stmt := top 84
abbrev s_checksum_told : Stmt := top 85
abbrev s_frame_told : Stmt := top 86
abbrev s_previewed : Stmt := top 87
abbrev s_of_writing : Stmt := top 91
abbrev s_of_store : Stmt := top 92
abbrev s_of_lists : Stmt := top 93
abbrev s_called : Stmt := top 94
abbrev s_answered : Stmt := top 95
abbrev s_answers : Stmt := top 96
abbrev s_BadLine___init__ : Stmt := inClass (top 51) 0
abbrev s_Refused___init__ : Stmt := inClass (top 79) 0
abbrev s_Store___init__ : Stmt := inClass (top 83) 0
abbrev s_Store_begin_anew : Stmt := inClass (top 83) 1
abbrev s_Store_finish : Stmt := inClass (top 83) 2
abbrev s_Store_fail : Stmt := inClass (top 83) 3
abbrev s_Store_want_power : Stmt := inClass (top 83) 4
abbrev s_Store_other : Stmt := inClass (top 83) 5
abbrev s_Store_append : Stmt := inClass (top 83) 6
abbrev s_Store_reset : Stmt := inClass (top 83) 7
abbrev s_Store_tick : Stmt := inClass (top 83) 8
abbrev s_Store_write_in_part : Stmt := inClass (top 83) 9
abbrev s_Store_begin_checkpoint : Stmt := inClass (top 83) 10
abbrev s_Store_write_checkpoint : Stmt := inClass (top 83) 11
abbrev s_Store_commit_checkpoint : Stmt := inClass (top 83) 12
abbrev s_Store_cut_power : Stmt := inClass (top 83) 13
abbrev s_Store_commits : Stmt := inClass (top 83) 14
abbrev s_Store_recover : Stmt := inClass (top 83) 15
abbrev s_Store_recovered : Stmt := inClass (top 83) 16
abbrev s_Store_get : Stmt := inClass (top 83) 17
abbrev s_Store_contents : Stmt := inClass (top 83) 18
abbrev s_Store_read_file : Stmt := inClass (top 83) 19
abbrev s_Store_corrupt_byte : Stmt := inClass (top 83) 20
abbrev s_Store_import_journal : Stmt := inClass (top 83) 21
abbrev s_Store_status : Stmt := inClass (top 83) 22
abbrev s_Store_list_ticks : Stmt := inClass (top 83) 23
/-! ### each def as a datum -/
def d_natural_of : He.DefD := ⟨("natural_of", none), "natural_of", "natural_of", defArgs s_natural_of, defBody s_natural_of, defScope s_natural_of, [], []⟩
def d_integer_of : He.DefD := ⟨("integer_of", none), "integer_of", "integer_of", defArgs s_integer_of, defBody s_integer_of, defScope s_integer_of, [], []⟩
def d_integer_bytes : He.DefD := ⟨("integer_bytes", none), "integer_bytes", "integer_bytes", defArgs s_integer_bytes, defBody s_integer_bytes, defScope s_integer_bytes, [], []⟩
def d_row_bytes : He.DefD := ⟨("row_bytes", none), "row_bytes", "row_bytes", defArgs s_row_bytes, defBody s_row_bytes, defScope s_row_bytes, [], []⟩
def d_checksum : He.DefD := ⟨("checksum", none), "checksum", "checksum", defArgs s_checksum, defBody s_checksum, defScope s_checksum, [], []⟩
def d_two_bytes : He.DefD := ⟨("two_bytes", none), "two_bytes", "two_bytes", defArgs s_two_bytes, defBody s_two_bytes, defScope s_two_bytes, [], []⟩
def d_frame_of : He.DefD := ⟨("frame_of", none), "frame_of", "frame_of", defArgs s_frame_of, defBody s_frame_of, defScope s_frame_of, [], []⟩
def d_part_integer : He.DefD := ⟨("part_integer", none), "part_integer", "part_integer", defArgs s_part_integer, defBody s_part_integer, defScope s_part_integer, [], []⟩
def d_parts_of : He.DefD := ⟨("parts_of", none), "parts_of", "parts_of", defArgs s_parts_of, defBody s_parts_of, defScope s_parts_of, [], []⟩
def d_decoded : He.DefD := ⟨("decoded", none), "decoded", "decoded", defArgs s_decoded, defBody s_decoded, defScope s_decoded, [], []⟩
def d_frame_at : He.DefD := ⟨("frame_at", none), "frame_at", "frame_at", defArgs s_frame_at, defBody s_frame_at, defScope s_frame_at, [], []⟩
def d_frames_in : He.DefD := ⟨("frames_in", none), "frames_in", "frames_in", defArgs s_frames_in, defBody s_frames_in, defScope s_frames_in, [], []⟩
def d_only_row : He.DefD := ⟨("only_row", none), "only_row", "only_row", defArgs s_only_row, defBody s_only_row, defScope s_only_row, [], []⟩
def d_is_entry : He.DefD := ⟨("is_entry", none), "is_entry", "is_entry", defArgs s_is_entry, defBody s_is_entry, defScope s_is_entry, [], []⟩
def d_is_change : He.DefD := ⟨("is_change", none), "is_change", "is_change", defArgs s_is_change, defBody s_is_change, defScope s_is_change, [], []⟩
def d_changes_of : He.DefD := ⟨("changes_of", none), "changes_of", "changes_of", defArgs s_changes_of, defBody s_changes_of, defScope s_changes_of, [], []⟩
def d_are_changes : He.DefD := ⟨("are_changes", none), "are_changes", "are_changes", defArgs s_are_changes, defBody s_are_changes, defScope s_are_changes, [], []⟩
def d_tick_row : He.DefD := ⟨("tick_row", none), "tick_row", "tick_row", defArgs s_tick_row, defBody s_tick_row, defScope s_tick_row, [], []⟩
def d_is_tick : He.DefD := ⟨("is_tick", none), "is_tick", "is_tick", defArgs s_is_tick, defBody s_is_tick, defScope s_is_tick, [], []⟩
def d_changed : He.DefD := ⟨("changed", none), "changed", "changed", defArgs s_changed, defBody s_changed, defScope s_changed, [], []⟩
def d_flat : He.DefD := ⟨("flat", none), "flat", "flat", defArgs s_flat, defBody s_flat, defScope s_flat, [], []⟩
def d_pairs_of : He.DefD := ⟨("pairs_of", none), "pairs_of", "pairs_of", defArgs s_pairs_of, defBody s_pairs_of, defScope s_pairs_of, [], []⟩
def d_is_checkpoint : He.DefD := ⟨("is_checkpoint", none), "is_checkpoint", "is_checkpoint", defArgs s_is_checkpoint, defBody s_is_checkpoint, defScope s_is_checkpoint, [], []⟩
def d_checkpoint_in : He.DefD := ⟨("checkpoint_in", none), "checkpoint_in", "checkpoint_in", defArgs s_checkpoint_in, defBody s_checkpoint_in, defScope s_checkpoint_in, [], []⟩
def d_commit_in : He.DefD := ⟨("commit_in", none), "commit_in", "commit_in", defArgs s_commit_in, defBody s_commit_in, defScope s_commit_in, [], []⟩
def d_replayed : He.DefD := ⟨("replayed", none), "replayed", "replayed", defArgs s_replayed, defBody s_replayed, defScope s_replayed, [], []⟩
def d_cut_at : He.DefD := ⟨("cut_at", none), "cut_at", "cut_at", defArgs s_cut_at, defBody s_cut_at, defScope s_cut_at, [], []⟩
def d_are_digits : He.DefD := ⟨("are_digits", none), "are_digits", "are_digits", defArgs s_are_digits, defBody s_are_digits, defScope s_are_digits, [], []⟩
def d_worth : He.DefD := ⟨("worth", none), "worth", "worth", defArgs s_worth, defBody s_worth, defScope s_worth, [], []⟩
def d_number_in : He.DefD := ⟨("number_in", none), "number_in", "number_in", defArgs s_number_in, defBody s_number_in, defScope s_number_in, [], []⟩
def d_limited : He.DefD := ⟨("limited", none), "limited", "limited", defArgs s_limited, defBody s_limited, defScope s_limited, [], []⟩
def d_removal_in : He.DefD := ⟨("removal_in", none), "removal_in", "removal_in", defArgs s_removal_in, defBody s_removal_in, defScope s_removal_in, [], []⟩
def d_change_in : He.DefD := ⟨("change_in", none), "change_in", "change_in", defArgs s_change_in, defBody s_change_in, defScope s_change_in, [], []⟩
def d_changes_in : He.DefD := ⟨("changes_in", none), "changes_in", "changes_in", defArgs s_changes_in, defBody s_changes_in, defScope s_changes_in, [], []⟩
def d_journal_in : He.DefD := ⟨("journal_in", none), "journal_in", "journal_in", defArgs s_journal_in, defBody s_journal_in, defScope s_journal_in, [], []⟩
def d_want : He.DefD := ⟨("want", none), "want", "want", defArgs s_want, defBody s_want, defScope s_want, [], []⟩
def d_want_power_range : He.DefD := ⟨("want_power_range", none), "want_power_range", "want_power_range", defArgs s_want_power_range, defBody s_want_power_range, defScope s_want_power_range, [], []⟩
def d_is_enough : He.DefD := ⟨("is_enough", none), "is_enough", "is_enough", defArgs s_is_enough, defBody s_is_enough, defScope s_is_enough, [], []⟩
def d_counted_frames : He.DefD := ⟨("counted_frames", none), "counted_frames", "counted_frames", defArgs s_counted_frames, defBody s_counted_frames, defScope s_counted_frames, [], []⟩
def d_checksum_told : He.DefD := ⟨("checksum_told", none), "checksum_told", "checksum_told", defArgs s_checksum_told, defBody s_checksum_told, defScope s_checksum_told, [], []⟩
def d_frame_told : He.DefD := ⟨("frame_told", none), "frame_told", "frame_told", defArgs s_frame_told, defBody s_frame_told, defScope s_frame_told, [], []⟩
def d_previewed : He.DefD := ⟨("previewed", none), "previewed", "previewed", defArgs s_previewed, defBody s_previewed, defScope s_previewed, [], []⟩
def d_of_writing : He.DefD := ⟨("of_writing", none), "of_writing", "of_writing", defArgs s_of_writing, defBody s_of_writing, defScope s_of_writing, [], []⟩
def d_of_store : He.DefD := ⟨("of_store", none), "of_store", "of_store", defArgs s_of_store, defBody s_of_store, defScope s_of_store, [], []⟩
def d_of_lists : He.DefD := ⟨("of_lists", none), "of_lists", "of_lists", defArgs s_of_lists, defBody s_of_lists, defScope s_of_lists, [], []⟩
def d_called : He.DefD := ⟨("called", none), "called", "called", defArgs s_called, defBody s_called, defScope s_called, [], []⟩
def d_answered : He.DefD := ⟨("answered", none), "answered", "answered", defArgs s_answered, defBody s_answered, defScope s_answered, [], []⟩
def d_answers : He.DefD := ⟨("answers", none), "answers", "answers", defArgs s_answers, defBody s_answers, defScope s_answers, [], []⟩
def d_BadLine___init__ : He.DefD := ⟨("BadLine", some "__init__"), "__init__", "BadLine.__init__", defArgs s_BadLine___init__, defBody s_BadLine___init__, defScope s_BadLine___init__, [], []⟩
def d_Refused___init__ : He.DefD := ⟨("Refused", some "__init__"), "__init__", "Refused.__init__", defArgs s_Refused___init__, defBody s_Refused___init__, defScope s_Refused___init__, [], []⟩
def d_Store___init__ : He.DefD := ⟨("Store", some "__init__"), "__init__", "Store.__init__", defArgs s_Store___init__, defBody s_Store___init__, defScope s_Store___init__, [], []⟩
def d_Store_begin_anew : He.DefD := ⟨("Store", some "begin_anew"), "begin_anew", "Store.begin_anew", defArgs s_Store_begin_anew, defBody s_Store_begin_anew, defScope s_Store_begin_anew, [], []⟩
def d_Store_finish : He.DefD := ⟨("Store", some "finish"), "finish", "Store.finish", defArgs s_Store_finish, defBody s_Store_finish, defScope s_Store_finish, [], []⟩
def d_Store_fail : He.DefD := ⟨("Store", some "fail"), "fail", "Store.fail", defArgs s_Store_fail, defBody s_Store_fail, defScope s_Store_fail, [], []⟩
def d_Store_want_power : He.DefD := ⟨("Store", some "want_power"), "want_power", "Store.want_power", defArgs s_Store_want_power, defBody s_Store_want_power, defScope s_Store_want_power, [], []⟩
def d_Store_other : He.DefD := ⟨("Store", some "other"), "other", "Store.other", defArgs s_Store_other, defBody s_Store_other, defScope s_Store_other, [], []⟩
def d_Store_append : He.DefD := ⟨("Store", some "append"), "append", "Store.append", defArgs s_Store_append, defBody s_Store_append, defScope s_Store_append, [], []⟩
def d_Store_reset : He.DefD := ⟨("Store", some "reset"), "reset", "Store.reset", defArgs s_Store_reset, defBody s_Store_reset, defScope s_Store_reset, [], []⟩
def d_Store_tick : He.DefD := ⟨("Store", some "tick"), "tick", "Store.tick", defArgs s_Store_tick, defBody s_Store_tick, defScope s_Store_tick, [], []⟩
def d_Store_write_in_part : He.DefD := ⟨("Store", some "write_in_part"), "write_in_part", "Store.write_in_part", defArgs s_Store_write_in_part, defBody s_Store_write_in_part, defScope s_Store_write_in_part, [], []⟩
def d_Store_begin_checkpoint : He.DefD := ⟨("Store", some "begin_checkpoint"), "begin_checkpoint", "Store.begin_checkpoint", defArgs s_Store_begin_checkpoint, defBody s_Store_begin_checkpoint, defScope s_Store_begin_checkpoint, [], []⟩
def d_Store_write_checkpoint : He.DefD := ⟨("Store", some "write_checkpoint"), "write_checkpoint", "Store.write_checkpoint", defArgs s_Store_write_checkpoint, defBody s_Store_write_checkpoint, defScope s_Store_write_checkpoint, [], []⟩
def d_Store_commit_checkpoint : He.DefD := ⟨("Store", some "commit_checkpoint"), "commit_checkpoint", "Store.commit_checkpoint", defArgs s_Store_commit_checkpoint, defBody s_Store_commit_checkpoint, defScope s_Store_commit_checkpoint, [], []⟩
def d_Store_cut_power : He.DefD := ⟨("Store", some "cut_power"), "cut_power", "Store.cut_power", defArgs s_Store_cut_power, defBody s_Store_cut_power, defScope s_Store_cut_power, [], []⟩
def d_Store_commits : He.DefD := ⟨("Store", some "commits"), "commits", "Store.commits", defArgs s_Store_commits, defBody s_Store_commits, defScope s_Store_commits, [], []⟩
def d_Store_recover : He.DefD := ⟨("Store", some "recover"), "recover", "Store.recover", defArgs s_Store_recover, defBody s_Store_recover, defScope s_Store_recover, [], []⟩
def d_Store_recovered : He.DefD := ⟨("Store", some "recovered"), "recovered", "Store.recovered", defArgs s_Store_recovered, defBody s_Store_recovered, defScope s_Store_recovered, [], []⟩
def d_Store_get : He.DefD := ⟨("Store", some "get"), "get", "Store.get", defArgs s_Store_get, defBody s_Store_get, defScope s_Store_get, [], []⟩
def d_Store_contents : He.DefD := ⟨("Store", some "contents"), "contents", "Store.contents", defArgs s_Store_contents, defBody s_Store_contents, defScope s_Store_contents, [], []⟩
def d_Store_read_file : He.DefD := ⟨("Store", some "read_file"), "read_file", "Store.read_file", defArgs s_Store_read_file, defBody s_Store_read_file, defScope s_Store_read_file, [], []⟩
def d_Store_corrupt_byte : He.DefD := ⟨("Store", some "corrupt_byte"), "corrupt_byte", "Store.corrupt_byte", defArgs s_Store_corrupt_byte, defBody s_Store_corrupt_byte, defScope s_Store_corrupt_byte, [], []⟩
def d_Store_import_journal : He.DefD := ⟨("Store", some "import_journal"), "import_journal", "Store.import_journal", defArgs s_Store_import_journal, defBody s_Store_import_journal, defScope s_Store_import_journal, [], []⟩
def d_Store_status : He.DefD := ⟨("Store", some "status"), "status", "Store.status", defArgs s_Store_status, defBody s_Store_status, defScope s_Store_status, [], []⟩
def d_Store_list_ticks : He.DefD := ⟨("Store", some "list_ticks"), "list_ticks", "Store.list_ticks", defArgs s_Store_list_ticks, defBody s_Store_list_ticks, defScope s_Store_list_ticks, [], []⟩
def fnD0 : List He.DefD := [d_natural_of, d_integer_of, d_integer_bytes, d_row_bytes, d_checksum, d_two_bytes, d_frame_of, d_part_integer, d_parts_of, d_decoded, d_frame_at, d_frames_in, d_only_row, d_is_entry, d_is_change, d_changes_of, d_are_changes, d_tick_row, d_is_tick, d_changed]
def fnD1 : List He.DefD := [d_flat, d_pairs_of, d_is_checkpoint, d_checkpoint_in, d_commit_in, d_replayed, d_cut_at, d_are_digits, d_worth, d_number_in, d_limited, d_removal_in, d_change_in, d_changes_in, d_journal_in, d_want, d_want_power_range, d_is_enough, d_counted_frames, d_checksum_told]
def fnD2 : List He.DefD := [d_frame_told, d_previewed, d_of_writing, d_of_store, d_of_lists, d_called, d_answered, d_answers, d_BadLine___init__, d_Refused___init__, d_Store___init__, d_Store_begin_anew, d_Store_finish, d_Store_fail, d_Store_want_power, d_Store_other, d_Store_append, d_Store_reset, d_Store_tick, d_Store_write_in_part]
def fnD3 : List He.DefD := [d_Store_begin_checkpoint, d_Store_write_checkpoint, d_Store_commit_checkpoint, d_Store_cut_power, d_Store_commits, d_Store_recover, d_Store_recovered, d_Store_get, d_Store_contents, d_Store_read_file, d_Store_corrupt_byte, d_Store_import_journal, d_Store_status, d_Store_list_ticks]
def fnD : List He.DefD := fnD0 ++ fnD1 ++ fnD2 ++ fnD3
def faD0 : List He.Fa := [.int "PART" (128), .int "LONGEST_PART" (12), .int "CHECK_BY" (65521), .int "PAIR_BY" (256), .int "LAST_BYTE" (165), .int "PAIR" (2), .int "AROUND" (7), .int "MOST_KEY" (63), .int "MOST_VALUE" (1000000000000000000), .int "CHANGE" (3), .int "REMOVE" (0), .int "PUT" (1), .int "SIDES" (2), .int "LINE_END" (10), .int "BLANK" (32), .int "MINUS" (45), .int "NOUGHT" (48), .int "NINE" (57), .int "EQUALS" (61), .int "REMOVAL" (33)]
def faD1 : List He.Fa := [.int "MOST_DIGITS" (19), .int "MOST_CHANGES_oldjournal" (16), .int "OUTSIDE" (-1), .int "INVALID_TEXT" (-2), .int "NOT_NOW" (-3), .int "NONE_SUCH" (-4), .int "TOO_GREAT" (-5), .int "NOT_RECOVERED" (-6), .int "NO_POWER" (-7), .int "FAILED" (-1), .int "UNLIMITED" (-1), .int "MOST_POWER" (100000), .int "MOST_CHANGES_desk" (48), .int "MOST_ROW" (40), .int "MOST_NUMBER" (1000000000000000000), .int "MOST_BYTE" (255), .int "FILES" (6), .int "JOURNAL" (2), .int "COMMIT" (4), .glo "NUMBERS"]
def faD2 : List He.Fa := [.glo "WITH_LIST", .glo "natural_of", .glo "integer_of", .glo "integer_bytes", .glo "row_bytes", .glo "checksum", .glo "two_bytes", .glo "frame_of", .glo "part_integer", .glo "parts_of", .glo "decoded", .glo "frame_at", .glo "frames_in", .glo "only_row", .glo "is_entry", .glo "is_change", .glo "changes_of", .glo "are_changes", .glo "tick_row", .glo "is_tick"]
def faD3 : List He.Fa := [.glo "changed", .glo "flat", .glo "pairs_of", .glo "is_checkpoint", .glo "checkpoint_in", .glo "commit_in", .glo "replayed", .glo "cut_at", .glo "are_digits", .glo "worth", .glo "number_in", .glo "limited", .glo "removal_in", .glo "change_in", .glo "changes_in", .glo "journal_in", .glo "want", .glo "want_power_range", .glo "is_enough", .glo "counted_frames"]
def faD4 : List He.Fa := [.glo "checksum_told", .glo "frame_told", .glo "previewed", .glo "of_writing", .glo "of_store", .glo "of_lists", .glo "called", .glo "answered", .glo "answers", .glo "BadLine", .glo "Refused", .glo "Store", .free "len", .free "enumerate", .free "range", .free "zip", .free "sorted", .free "dict", .free "list", .free "int"]
def faD5 : List He.Fa := [.free "abs", .free "all", .free "any", .free "ValueError", .cls "Store", .mkr "Store", .noat "Store" "files", .noat "Store" "has_power", .noat "Store" "durable", .noat "Store" "last", .noat "Store" "entries", .noat "Store" "side", .noat "Store" "commit", .noat "Store" "is_writing", .noat "Store" "pending", .meth "Store" "begin_anew", .meth "Store" "finish", .meth "Store" "fail", .meth "Store" "want_power", .meth "Store" "other"]
def faD6 : List He.Fa := [.meth "Store" "append", .meth "Store" "reset", .meth "Store" "tick", .meth "Store" "write_in_part", .meth "Store" "begin_checkpoint", .meth "Store" "write_checkpoint", .meth "Store" "commit_checkpoint", .meth "Store" "cut_power", .meth "Store" "commits", .meth "Store" "recover", .meth "Store" "recovered", .meth "Store" "get", .meth "Store" "contents", .meth "Store" "read_file", .meth "Store" "corrupt_byte", .meth "Store" "import_journal", .meth "Store" "status", .meth "Store" "list_ticks"]
def faD : List He.Fa := faD0 ++ faD1 ++ faD2 ++ faD3 ++ faD4 ++ faD5 ++ faD6
/-! ### what is told besides: the two exceptions' classes, two tuples -/
def oexB (K : PySem.W.Frag) (C : Addr) : Bool := match K.lookup C with
  | some ⟨.type "type", _, .cls cd, sl⟩ => (match cd.mro, sl.toList with
    | .ref C' :: bm, [_, _, _, _, some (.builtin n), _] => C' == C && (n == "ValueError.__new__" && (!cd.hasDel && (cd.hasDict && PySem.HandSPX.refsVE bm)))
    | _, _ => false)
  | _ => false
theorem oexB_ok {K : PySem.W.Frag} {C : Addr} (h : oexB K C = true) : ∃ nm q N bs bm sn sub ab col dd k0 k1 k2 k3 k5,
    K.lookup C = some (excClassObj nm q C N bs bm true sn sub ab col dd k0 k1 k2 k3 k5 "ValueError.__new__") ∧ PySem.HandSPX.refsVE bm = true := by
  unfold oexB at h
  split at h
  case h_2 => exact Bool.noConfusion h
  case h_1 dd cd sl ho =>
    split at h
    case h_2 => exact Bool.noConfusion h
    case h_1 C' bm k0 k1 k2 k3 n k5 hm hs =>
      rw [Bool.and_eq_true, Bool.and_eq_true, Bool.and_eq_true, Bool.and_eq_true] at h
      obtain ⟨a1, a2, a3, a4, a5⟩ := h
      have b1 : C' = C := by simpa using a1
      have b2 : n = "ValueError.__new__" := by simpa using a2
      cases cd with
      | mk nm bs mro ns qn hd sn sub ab col del =>
        have c1 : mro = .ref C' :: bm := hm
        have c2 : del = false := by simpa using a3
        have c3 : hd = true := a4
        have c4 : sl = #[k0, k1, k2, k3, some (.builtin n), k5] := by
          cases sl with
          | mk l => exact congrArg Array.mk hs
        rw [b1] at c1
        rw [b2] at c4
        subst c1 c2 c3 c4
        exact ⟨nm, qn, ns, bs, bm, sn, sub, ab, col, dd, k0, k1, k2, k3, k5, ho, a5⟩
/-- all that is asked of an own exception class x with one field f -/
def ownB (K : PySem.W.Frag) (x f : Str) : Bool := oexB K (He.ga K x) && (He.eqO (PySem.W.findIn K (.ref (He.ga K x)) "__setattr__") (some (some (.builtin "object.__setattr__"))) && (
  decide (PySem.W.subIn K (.ref (He.ga K x)) (.type "BaseException") = some true) && (decide (PySem.W.typeIn K (.ref (He.ga K x)) = some (.type "type")) && (PySem.W.keepIn K (.ref (He.ga K x)) && (
  He.eqO (PySem.W.findIn K (.ref (He.ga K x)) "__init__") (some (some (.ref (He.ma K (He.ga K x) "__init__")))) && (decide (PySem.W.typeIn K (.ref (He.ma K (He.ga K x) "__init__")) = some (.type "function")) && (
  He.eqO (PySem.W.findIn K (.ref (He.ga K x)) f) (some none) && (decide (PySem.W.exmOne K (.ref (He.ga K x)) (.ref (He.ga K x)) = some true) && (
  He.eqO (PySem.W.findIn K (.ref (He.ga K x)) "__getattribute__") (some (some (.builtin "BaseException.__getattribute__"))) && (He.eqO (PySem.W.findIn K (.ref (He.ga K x)) "__getattr__") (some none) && PySem.W.hasDictIn K (He.ga K x)))))))))))
structure OwnX (K : PySem.W.Frag) (x f : Str) : Prop where
  oex : OexC K (He.ga K x)
  init : PySem.W.findIn K (.ref (He.ga K x)) "__init__" = some (some (.ref (He.ma K (He.ga K x) "__init__")))
  fn : PySem.W.typeIn K (.ref (He.ma K (He.ga K x) "__init__")) = some (.type "function")
  no : PySem.W.findIn K (.ref (He.ga K x)) f = some none
  te : PySem.W.exmOne K (.ref (He.ga K x)) (.ref (He.ga K x)) = some true
  ga : PySem.W.findIn K (.ref (He.ga K x)) "__getattribute__" = some (some (.builtin "BaseException.__getattribute__"))
  gg : PySem.W.findIn K (.ref (He.ga K x)) "__getattr__" = some none
  hd : PySem.W.hasDictIn K (He.ga K x) = true
theorem ownB_ok {K : PySem.W.Frag} {x f : Str} (h : ownB K x f = true) : OwnX K x f := by
  unfold ownB at h
  simp only [Bool.and_eq_true] at h
  obtain ⟨a1, a2, a3, a4, a5, a6, a7, a8, a9, b1, b2, b3⟩ := h
  exact ⟨⟨oexB_ok a1, He.eqO_ok a2, of_decide_eq_true a3, of_decide_eq_true a4, a5⟩, He.eqO_ok a6, of_decide_eq_true a7, He.eqO_ok a8, of_decide_eq_true a9, He.eqO_ok b1, He.eqO_ok b2, b3⟩
def veB (K : PySem.W.Frag) : Bool := match PySem.W.findCls K (.type "ValueError") (.type "type") "__init__" with
  | some (.val (.builtin "ValueError.__init__")) => true
  | _ => false
theorem veB_ok {K : PySem.W.Frag} (h : veB K = true) : PySem.W.findCls K (.type "ValueError") (.type "type") "__init__" = some (.val (.builtin "ValueError.__init__")) := by
  unfold veB at h
  split at h
  · assumption
  · exact Bool.noConfusion h
def v_NUMBERS : List He.Dv := [.int 0, .int 1, .int 0, .int 1, .int 1, .int 0, .int 0, .int 1, .int 0, .int 1, .int 3, .int 0, .int 0, .int 0, .int 0, .int 0, .int 0, .int 0]
def v_WITH_LIST : List He.Dv := [.int 1, .int 11, .int 13, .int 15, .int 16, .int 17]
def moreB (K : PySem.W.Frag) : Bool := ownB K "BadLine" "line" && (ownB K "Refused" "error" && (veB K && (He.tupB K "NUMBERS" v_NUMBERS && (He.tupB K "WITH_LIST" v_WITH_LIST))))
/-! ### the hook -/
abbrev AlP : Type := He.AlD × Bool
def obsP (n : Nat) (g : Addr → Option Obj) : AlP := (He.obsD faD fnD (He.frG g (He.asD g n)), moreB (He.frG g (He.asD g n)))
def valP : AlP := (He.valD fnD, true)
def SaysP (K : PySem.W.Frag) : Prop := He.SaysD faD fnD K ∧ moreB K = true
def hookP (n : Nat) : PySem.W.Hook where
  α := AlP
  obs := fun s => obsP n s.heap.get?
  val := fun _ => valP
  says := fun _ h => ∃ K : PySem.W.Frag, K.In h ∧ SaysP K
  of := fun _ _ e => ⟨_, He.frG_in, congrArg Prod.fst e, congrArg Prod.snd e⟩
  keeps := fun _ _ _ ⟨K, hK, c⟩ k => ⟨K, PySem.W.Frag.In.keeps hK k, c⟩
theorem obsP_eq {n : Nat} {g : Addr → Option Obj} {s : Shared} (h : ∀ a, g a = s.heap.get? a) : obsP n g = (hookP n).obs s := by
  have e : g = s.heap.get? := funext h
  rw [e]
  rfl
/-! ### the function object of a def -/
def fdA (K : PySem.W.Frag) (a : Addr) : FuncData := match K.lookup a with
  | some ⟨_, _, .func fd, _⟩ => fd
  | _ => default
/-- a def as it stands: its address and its function object are told by K -/
abbrev DefAt (K : PySem.W.Frag) (d : He.DefD) : Prop := FunD K d.name d.qual d.params d.body d.scope [] [] (He.fAd K d.at_) (fdA K (He.fAd K d.at_))
theorem defAt_of {K : PySem.W.Frag} {d : He.DefD} {fd : FuncData} (h : FunD K d.name d.qual d.params d.body d.scope [] [] (He.fAd K d.at_) fd) : DefAt K d := by
  have e : fdA K (He.fAd K d.at_) = fd := by
    obtain ⟨oc, od, dV, kV, doc, pm, an, cdv, ct, osl, e1, e2, _⟩ := h.ex
    unfold fdA
    rw [e2]
  show FunD K d.name d.qual d.params d.body d.scope [] [] (He.fAd K d.at_) (fdA K (He.fAd K d.at_))
  rw [e]
  exact h
/-! ### all that the walk leans on -/
structure Tx (K : PySem.W.Frag) (mg : Str → Option Value) : Prop where
  c_PART : ∃ t, mg "PART" = some (.int (128) t)
  c_LONGEST_PART : ∃ t, mg "LONGEST_PART" = some (.int (12) t)
  c_CHECK_BY : ∃ t, mg "CHECK_BY" = some (.int (65521) t)
  c_PAIR_BY : ∃ t, mg "PAIR_BY" = some (.int (256) t)
  c_LAST_BYTE : ∃ t, mg "LAST_BYTE" = some (.int (165) t)
  c_PAIR : ∃ t, mg "PAIR" = some (.int (2) t)
  c_AROUND : ∃ t, mg "AROUND" = some (.int (7) t)
  c_MOST_KEY : ∃ t, mg "MOST_KEY" = some (.int (63) t)
  c_MOST_VALUE : ∃ t, mg "MOST_VALUE" = some (.int (1000000000000000000) t)
  c_CHANGE : ∃ t, mg "CHANGE" = some (.int (3) t)
  c_REMOVE : ∃ t, mg "REMOVE" = some (.int (0) t)
  c_PUT : ∃ t, mg "PUT" = some (.int (1) t)
  c_SIDES : ∃ t, mg "SIDES" = some (.int (2) t)
  c_LINE_END : ∃ t, mg "LINE_END" = some (.int (10) t)
  c_BLANK : ∃ t, mg "BLANK" = some (.int (32) t)
  c_MINUS : ∃ t, mg "MINUS" = some (.int (45) t)
  c_NOUGHT : ∃ t, mg "NOUGHT" = some (.int (48) t)
  c_NINE : ∃ t, mg "NINE" = some (.int (57) t)
  c_EQUALS : ∃ t, mg "EQUALS" = some (.int (61) t)
  c_REMOVAL : ∃ t, mg "REMOVAL" = some (.int (33) t)
  c_MOST_DIGITS : ∃ t, mg "MOST_DIGITS" = some (.int (19) t)
  c_MOST_CHANGES_oldjournal : ∃ t, mg "MOST_CHANGES_oldjournal" = some (.int (16) t)
  c_OUTSIDE : ∃ t, mg "OUTSIDE" = some (.int (-1) t)
  c_INVALID_TEXT : ∃ t, mg "INVALID_TEXT" = some (.int (-2) t)
  c_NOT_NOW : ∃ t, mg "NOT_NOW" = some (.int (-3) t)
  c_NONE_SUCH : ∃ t, mg "NONE_SUCH" = some (.int (-4) t)
  c_TOO_GREAT : ∃ t, mg "TOO_GREAT" = some (.int (-5) t)
  c_NOT_RECOVERED : ∃ t, mg "NOT_RECOVERED" = some (.int (-6) t)
  c_NO_POWER : ∃ t, mg "NO_POWER" = some (.int (-7) t)
  c_FAILED : ∃ t, mg "FAILED" = some (.int (-1) t)
  c_UNLIMITED : ∃ t, mg "UNLIMITED" = some (.int (-1) t)
  c_MOST_POWER : ∃ t, mg "MOST_POWER" = some (.int (100000) t)
  c_MOST_CHANGES_desk : ∃ t, mg "MOST_CHANGES_desk" = some (.int (48) t)
  c_MOST_ROW : ∃ t, mg "MOST_ROW" = some (.int (40) t)
  c_MOST_NUMBER : ∃ t, mg "MOST_NUMBER" = some (.int (1000000000000000000) t)
  c_MOST_BYTE : ∃ t, mg "MOST_BYTE" = some (.int (255) t)
  c_FILES : ∃ t, mg "FILES" = some (.int (6) t)
  c_JOURNAL : ∃ t, mg "JOURNAL" = some (.int (2) t)
  c_COMMIT : ∃ t, mg "COMMIT" = some (.int (4) t)
  g_NUMBERS : mg "NUMBERS" = some (.ref (He.ga K "NUMBERS"))
  g_WITH_LIST : mg "WITH_LIST" = some (.ref (He.ga K "WITH_LIST"))
  g_natural_of : mg "natural_of" = some (.ref (He.ga K "natural_of"))
  g_integer_of : mg "integer_of" = some (.ref (He.ga K "integer_of"))
  g_integer_bytes : mg "integer_bytes" = some (.ref (He.ga K "integer_bytes"))
  g_row_bytes : mg "row_bytes" = some (.ref (He.ga K "row_bytes"))
  g_checksum : mg "checksum" = some (.ref (He.ga K "checksum"))
  g_two_bytes : mg "two_bytes" = some (.ref (He.ga K "two_bytes"))
  g_frame_of : mg "frame_of" = some (.ref (He.ga K "frame_of"))
  g_part_integer : mg "part_integer" = some (.ref (He.ga K "part_integer"))
  g_parts_of : mg "parts_of" = some (.ref (He.ga K "parts_of"))
  g_decoded : mg "decoded" = some (.ref (He.ga K "decoded"))
  g_frame_at : mg "frame_at" = some (.ref (He.ga K "frame_at"))
  g_frames_in : mg "frames_in" = some (.ref (He.ga K "frames_in"))
  g_only_row : mg "only_row" = some (.ref (He.ga K "only_row"))
  g_is_entry : mg "is_entry" = some (.ref (He.ga K "is_entry"))
  g_is_change : mg "is_change" = some (.ref (He.ga K "is_change"))
  g_changes_of : mg "changes_of" = some (.ref (He.ga K "changes_of"))
  g_are_changes : mg "are_changes" = some (.ref (He.ga K "are_changes"))
  g_tick_row : mg "tick_row" = some (.ref (He.ga K "tick_row"))
  g_is_tick : mg "is_tick" = some (.ref (He.ga K "is_tick"))
  g_changed : mg "changed" = some (.ref (He.ga K "changed"))
  g_flat : mg "flat" = some (.ref (He.ga K "flat"))
  g_pairs_of : mg "pairs_of" = some (.ref (He.ga K "pairs_of"))
  g_is_checkpoint : mg "is_checkpoint" = some (.ref (He.ga K "is_checkpoint"))
  g_checkpoint_in : mg "checkpoint_in" = some (.ref (He.ga K "checkpoint_in"))
  g_commit_in : mg "commit_in" = some (.ref (He.ga K "commit_in"))
  g_replayed : mg "replayed" = some (.ref (He.ga K "replayed"))
  g_cut_at : mg "cut_at" = some (.ref (He.ga K "cut_at"))
  g_are_digits : mg "are_digits" = some (.ref (He.ga K "are_digits"))
  g_worth : mg "worth" = some (.ref (He.ga K "worth"))
  g_number_in : mg "number_in" = some (.ref (He.ga K "number_in"))
  g_limited : mg "limited" = some (.ref (He.ga K "limited"))
  g_removal_in : mg "removal_in" = some (.ref (He.ga K "removal_in"))
  g_change_in : mg "change_in" = some (.ref (He.ga K "change_in"))
  g_changes_in : mg "changes_in" = some (.ref (He.ga K "changes_in"))
  g_journal_in : mg "journal_in" = some (.ref (He.ga K "journal_in"))
  g_want : mg "want" = some (.ref (He.ga K "want"))
  g_want_power_range : mg "want_power_range" = some (.ref (He.ga K "want_power_range"))
  g_is_enough : mg "is_enough" = some (.ref (He.ga K "is_enough"))
  g_counted_frames : mg "counted_frames" = some (.ref (He.ga K "counted_frames"))
  g_checksum_told : mg "checksum_told" = some (.ref (He.ga K "checksum_told"))
  g_frame_told : mg "frame_told" = some (.ref (He.ga K "frame_told"))
  g_previewed : mg "previewed" = some (.ref (He.ga K "previewed"))
  g_of_writing : mg "of_writing" = some (.ref (He.ga K "of_writing"))
  g_of_store : mg "of_store" = some (.ref (He.ga K "of_store"))
  g_of_lists : mg "of_lists" = some (.ref (He.ga K "of_lists"))
  g_called : mg "called" = some (.ref (He.ga K "called"))
  g_answered : mg "answered" = some (.ref (He.ga K "answered"))
  g_answers : mg "answers" = some (.ref (He.ga K "answers"))
  g_BadLine : mg "BadLine" = some (.ref (He.ga K "BadLine"))
  g_Refused : mg "Refused" = some (.ref (He.ga K "Refused"))
  g_Store : mg "Store" = some (.ref (He.ga K "Store"))
  n_len : mg "len" = none
  n_enumerate : mg "enumerate" = none
  n_range : mg "range" = none
  n_zip : mg "zip" = none
  n_sorted : mg "sorted" = none
  n_dict : mg "dict" = none
  n_list : mg "list" = none
  n_int : mg "int" = none
  n_abs : mg "abs" = none
  n_all : mg "all" = none
  n_any : mg "any" = none
  n_ValueError : mg "ValueError" = none
  cl : Cls K (He.ga K "Store")
  mkS : Mk K (He.ga K "Store") (He.ma K (He.ga K "Store") "__init__")
  na_files : NoAttr K (He.ga K "Store") "files"
  na_has_power : NoAttr K (He.ga K "Store") "has_power"
  na_durable : NoAttr K (He.ga K "Store") "durable"
  na_last : NoAttr K (He.ga K "Store") "last"
  na_entries : NoAttr K (He.ga K "Store") "entries"
  na_side : NoAttr K (He.ga K "Store") "side"
  na_commit : NoAttr K (He.ga K "Store") "commit"
  na_is_writing : NoAttr K (He.ga K "Store") "is_writing"
  na_pending : NoAttr K (He.ga K "Store") "pending"
  m_begin_anew : Meth K (He.ga K "Store") "begin_anew" (He.ma K (He.ga K "Store") "begin_anew")
  m_finish : Meth K (He.ga K "Store") "finish" (He.ma K (He.ga K "Store") "finish")
  m_fail : Meth K (He.ga K "Store") "fail" (He.ma K (He.ga K "Store") "fail")
  m_want_power : Meth K (He.ga K "Store") "want_power" (He.ma K (He.ga K "Store") "want_power")
  m_other : Meth K (He.ga K "Store") "other" (He.ma K (He.ga K "Store") "other")
  m_append : Meth K (He.ga K "Store") "append" (He.ma K (He.ga K "Store") "append")
  m_reset : Meth K (He.ga K "Store") "reset" (He.ma K (He.ga K "Store") "reset")
  m_tick : Meth K (He.ga K "Store") "tick" (He.ma K (He.ga K "Store") "tick")
  m_write_in_part : Meth K (He.ga K "Store") "write_in_part" (He.ma K (He.ga K "Store") "write_in_part")
  m_begin_checkpoint : Meth K (He.ga K "Store") "begin_checkpoint" (He.ma K (He.ga K "Store") "begin_checkpoint")
  m_write_checkpoint : Meth K (He.ga K "Store") "write_checkpoint" (He.ma K (He.ga K "Store") "write_checkpoint")
  m_commit_checkpoint : Meth K (He.ga K "Store") "commit_checkpoint" (He.ma K (He.ga K "Store") "commit_checkpoint")
  m_cut_power : Meth K (He.ga K "Store") "cut_power" (He.ma K (He.ga K "Store") "cut_power")
  m_commits : Meth K (He.ga K "Store") "commits" (He.ma K (He.ga K "Store") "commits")
  m_recover : Meth K (He.ga K "Store") "recover" (He.ma K (He.ga K "Store") "recover")
  m_recovered : Meth K (He.ga K "Store") "recovered" (He.ma K (He.ga K "Store") "recovered")
  m_get : Meth K (He.ga K "Store") "get" (He.ma K (He.ga K "Store") "get")
  m_contents : Meth K (He.ga K "Store") "contents" (He.ma K (He.ga K "Store") "contents")
  m_read_file : Meth K (He.ga K "Store") "read_file" (He.ma K (He.ga K "Store") "read_file")
  m_corrupt_byte : Meth K (He.ga K "Store") "corrupt_byte" (He.ma K (He.ga K "Store") "corrupt_byte")
  m_import_journal : Meth K (He.ga K "Store") "import_journal" (He.ma K (He.ga K "Store") "import_journal")
  m_status : Meth K (He.ga K "Store") "status" (He.ma K (He.ga K "Store") "status")
  m_list_ticks : Meth K (He.ga K "Store") "list_ticks" (He.ma K (He.ga K "Store") "list_ticks")
  x_BadLine : OwnX K "BadLine" "line"
  x_Refused : OwnX K "Refused" "error"
  ve : PySem.W.findCls K (.type "ValueError") (.type "type") "__init__" = some (.val (.builtin "ValueError.__init__"))
  t_NUMBERS : ∀ H, SqT K H (He.ga K "NUMBERS") (([0, 1, 0, 1, 1, 0, 0, 1, 0, 1, 3, 0, 0, 0, 0, 0, 0, 0] : List Int).map V.int)
  t_WITH_LIST : ∀ H, SqT K H (He.ga K "WITH_LIST") (([1, 11, 13, 15, 16, 17] : List Int).map V.int)
  f_natural_of : DefAt K d_natural_of
  f_integer_of : DefAt K d_integer_of
  f_integer_bytes : DefAt K d_integer_bytes
  f_row_bytes : DefAt K d_row_bytes
  f_checksum : DefAt K d_checksum
  f_two_bytes : DefAt K d_two_bytes
  f_frame_of : DefAt K d_frame_of
  f_part_integer : DefAt K d_part_integer
  f_parts_of : DefAt K d_parts_of
  f_decoded : DefAt K d_decoded
  f_frame_at : DefAt K d_frame_at
  f_frames_in : DefAt K d_frames_in
  f_only_row : DefAt K d_only_row
  f_is_entry : DefAt K d_is_entry
  f_is_change : DefAt K d_is_change
  f_changes_of : DefAt K d_changes_of
  f_are_changes : DefAt K d_are_changes
  f_tick_row : DefAt K d_tick_row
  f_is_tick : DefAt K d_is_tick
  f_changed : DefAt K d_changed
  f_flat : DefAt K d_flat
  f_pairs_of : DefAt K d_pairs_of
  f_is_checkpoint : DefAt K d_is_checkpoint
  f_checkpoint_in : DefAt K d_checkpoint_in
  f_commit_in : DefAt K d_commit_in
  f_replayed : DefAt K d_replayed
  f_cut_at : DefAt K d_cut_at
  f_are_digits : DefAt K d_are_digits
  f_worth : DefAt K d_worth
  f_number_in : DefAt K d_number_in
  f_limited : DefAt K d_limited
  f_removal_in : DefAt K d_removal_in
  f_change_in : DefAt K d_change_in
  f_changes_in : DefAt K d_changes_in
  f_journal_in : DefAt K d_journal_in
  f_want : DefAt K d_want
  f_want_power_range : DefAt K d_want_power_range
  f_is_enough : DefAt K d_is_enough
  f_counted_frames : DefAt K d_counted_frames
  f_checksum_told : DefAt K d_checksum_told
  f_frame_told : DefAt K d_frame_told
  f_previewed : DefAt K d_previewed
  f_of_writing : DefAt K d_of_writing
  f_of_store : DefAt K d_of_store
  f_of_lists : DefAt K d_of_lists
  f_called : DefAt K d_called
  f_answered : DefAt K d_answered
  f_answers : DefAt K d_answers
  f_BadLine___init__ : DefAt K d_BadLine___init__
  f_Refused___init__ : DefAt K d_Refused___init__
  f_Store___init__ : DefAt K d_Store___init__
  f_Store_begin_anew : DefAt K d_Store_begin_anew
  f_Store_finish : DefAt K d_Store_finish
  f_Store_fail : DefAt K d_Store_fail
  f_Store_want_power : DefAt K d_Store_want_power
  f_Store_other : DefAt K d_Store_other
  f_Store_append : DefAt K d_Store_append
  f_Store_reset : DefAt K d_Store_reset
  f_Store_tick : DefAt K d_Store_tick
  f_Store_write_in_part : DefAt K d_Store_write_in_part
  f_Store_begin_checkpoint : DefAt K d_Store_begin_checkpoint
  f_Store_write_checkpoint : DefAt K d_Store_write_checkpoint
  f_Store_commit_checkpoint : DefAt K d_Store_commit_checkpoint
  f_Store_cut_power : DefAt K d_Store_cut_power
  f_Store_commits : DefAt K d_Store_commits
  f_Store_recover : DefAt K d_Store_recover
  f_Store_recovered : DefAt K d_Store_recovered
  f_Store_get : DefAt K d_Store_get
  f_Store_contents : DefAt K d_Store_contents
  f_Store_read_file : DefAt K d_Store_read_file
  f_Store_corrupt_byte : DefAt K d_Store_corrupt_byte
  f_Store_import_journal : DefAt K d_Store_import_journal
  f_Store_status : DefAt K d_Store_status
  f_Store_list_ticks : DefAt K d_Store_list_ticks
section
variable {K : PySem.W.Frag} {mg : Str → Option Value} {h : Heap}
theorem fact_ {fa : List He.Fa} {fn : List He.DefD} {K : PySem.W.Frag} (c : He.SaysD fa fn K) (i : Nat) {f : He.Fa} (e : fa[i]? = some f) : f.ok K = true := c.fact i e
theorem tx_of (X : K.In h) (G : h.Ns mainGlobals mg) (c : SaysP K) : Tx K mg := by
  obtain ⟨c, mB⟩ := c
  unfold moreB at mB
  simp only [Bool.and_eq_true] at mB
  obtain ⟨b0, b1, b2, b3, b4⟩ := mB
  exact {
    c_PART := He.int_ok X G (c.fact 0 rfl),
    c_LONGEST_PART := He.int_ok X G (c.fact 1 rfl),
    c_CHECK_BY := He.int_ok X G (c.fact 2 rfl),
    c_PAIR_BY := He.int_ok X G (c.fact 3 rfl),
    c_LAST_BYTE := He.int_ok X G (c.fact 4 rfl),
    c_PAIR := He.int_ok X G (c.fact 5 rfl),
    c_AROUND := He.int_ok X G (c.fact 6 rfl),
    c_MOST_KEY := He.int_ok X G (c.fact 7 rfl),
    c_MOST_VALUE := He.int_ok X G (c.fact 8 rfl),
    c_CHANGE := He.int_ok X G (c.fact 9 rfl),
    c_REMOVE := He.int_ok X G (c.fact 10 rfl),
    c_PUT := He.int_ok X G (c.fact 11 rfl),
    c_SIDES := He.int_ok X G (c.fact 12 rfl),
    c_LINE_END := He.int_ok X G (c.fact 13 rfl),
    c_BLANK := He.int_ok X G (c.fact 14 rfl),
    c_MINUS := He.int_ok X G (c.fact 15 rfl),
    c_NOUGHT := He.int_ok X G (c.fact 16 rfl),
    c_NINE := He.int_ok X G (c.fact 17 rfl),
    c_EQUALS := He.int_ok X G (c.fact 18 rfl),
    c_REMOVAL := He.int_ok X G (c.fact 19 rfl),
    c_MOST_DIGITS := He.int_ok X G (c.fact 20 rfl),
    c_MOST_CHANGES_oldjournal := He.int_ok X G (c.fact 21 rfl),
    c_OUTSIDE := He.int_ok X G (c.fact 22 rfl),
    c_INVALID_TEXT := He.int_ok X G (c.fact 23 rfl),
    c_NOT_NOW := He.int_ok X G (c.fact 24 rfl),
    c_NONE_SUCH := He.int_ok X G (c.fact 25 rfl),
    c_TOO_GREAT := He.int_ok X G (c.fact 26 rfl),
    c_NOT_RECOVERED := He.int_ok X G (c.fact 27 rfl),
    c_NO_POWER := He.int_ok X G (c.fact 28 rfl),
    c_FAILED := He.int_ok X G (c.fact 29 rfl),
    c_UNLIMITED := He.int_ok X G (c.fact 30 rfl),
    c_MOST_POWER := He.int_ok X G (c.fact 31 rfl),
    c_MOST_CHANGES_desk := He.int_ok X G (c.fact 32 rfl),
    c_MOST_ROW := He.int_ok X G (c.fact 33 rfl),
    c_MOST_NUMBER := He.int_ok X G (c.fact 34 rfl),
    c_MOST_BYTE := He.int_ok X G (c.fact 35 rfl),
    c_FILES := He.int_ok X G (c.fact 36 rfl),
    c_JOURNAL := He.int_ok X G (c.fact 37 rfl),
    c_COMMIT := He.int_ok X G (c.fact 38 rfl),
    g_NUMBERS := He.glo_ok X G (c.fact 39 rfl),
    g_WITH_LIST := He.glo_ok X G (c.fact 40 rfl),
    g_natural_of := He.glo_ok X G (c.fact 41 rfl),
    g_integer_of := He.glo_ok X G (c.fact 42 rfl),
    g_integer_bytes := He.glo_ok X G (c.fact 43 rfl),
    g_row_bytes := He.glo_ok X G (c.fact 44 rfl),
    g_checksum := He.glo_ok X G (c.fact 45 rfl),
    g_two_bytes := He.glo_ok X G (c.fact 46 rfl),
    g_frame_of := He.glo_ok X G (c.fact 47 rfl),
    g_part_integer := He.glo_ok X G (c.fact 48 rfl),
    g_parts_of := He.glo_ok X G (c.fact 49 rfl),
    g_decoded := He.glo_ok X G (c.fact 50 rfl),
    g_frame_at := He.glo_ok X G (c.fact 51 rfl),
    g_frames_in := He.glo_ok X G (c.fact 52 rfl),
    g_only_row := He.glo_ok X G (c.fact 53 rfl),
    g_is_entry := He.glo_ok X G (c.fact 54 rfl),
    g_is_change := He.glo_ok X G (c.fact 55 rfl),
    g_changes_of := He.glo_ok X G (c.fact 56 rfl),
    g_are_changes := He.glo_ok X G (c.fact 57 rfl),
    g_tick_row := He.glo_ok X G (c.fact 58 rfl),
    g_is_tick := He.glo_ok X G (c.fact 59 rfl),
    g_changed := He.glo_ok X G (c.fact 60 rfl),
    g_flat := He.glo_ok X G (c.fact 61 rfl),
    g_pairs_of := He.glo_ok X G (c.fact 62 rfl),
    g_is_checkpoint := He.glo_ok X G (c.fact 63 rfl),
    g_checkpoint_in := He.glo_ok X G (c.fact 64 rfl),
    g_commit_in := He.glo_ok X G (c.fact 65 rfl),
    g_replayed := He.glo_ok X G (c.fact 66 rfl),
    g_cut_at := He.glo_ok X G (c.fact 67 rfl),
    g_are_digits := He.glo_ok X G (c.fact 68 rfl),
    g_worth := He.glo_ok X G (c.fact 69 rfl),
    g_number_in := He.glo_ok X G (c.fact 70 rfl),
    g_limited := He.glo_ok X G (c.fact 71 rfl),
    g_removal_in := He.glo_ok X G (c.fact 72 rfl),
    g_change_in := He.glo_ok X G (c.fact 73 rfl),
    g_changes_in := He.glo_ok X G (c.fact 74 rfl),
    g_journal_in := He.glo_ok X G (c.fact 75 rfl),
    g_want := He.glo_ok X G (c.fact 76 rfl),
    g_want_power_range := He.glo_ok X G (c.fact 77 rfl),
    g_is_enough := He.glo_ok X G (c.fact 78 rfl),
    g_counted_frames := He.glo_ok X G (c.fact 79 rfl),
    g_checksum_told := He.glo_ok X G (c.fact 80 rfl),
    g_frame_told := He.glo_ok X G (c.fact 81 rfl),
    g_previewed := He.glo_ok X G (c.fact 82 rfl),
    g_of_writing := He.glo_ok X G (c.fact 83 rfl),
    g_of_store := He.glo_ok X G (c.fact 84 rfl),
    g_of_lists := He.glo_ok X G (c.fact 85 rfl),
    g_called := He.glo_ok X G (c.fact 86 rfl),
    g_answered := He.glo_ok X G (c.fact 87 rfl),
    g_answers := He.glo_ok X G (c.fact 88 rfl),
    g_BadLine := He.glo_ok X G (c.fact 89 rfl),
    g_Refused := He.glo_ok X G (c.fact 90 rfl),
    g_Store := He.glo_ok X G (c.fact 91 rfl),
    n_len := He.free_ok X G (c.fact 92 rfl),
    n_enumerate := He.free_ok X G (c.fact 93 rfl),
    n_range := He.free_ok X G (c.fact 94 rfl),
    n_zip := He.free_ok X G (c.fact 95 rfl),
    n_sorted := He.free_ok X G (c.fact 96 rfl),
    n_dict := He.free_ok X G (c.fact 97 rfl),
    n_list := He.free_ok X G (c.fact 98 rfl),
    n_int := He.free_ok X G (c.fact 99 rfl),
    n_abs := He.free_ok X G (c.fact 100 rfl),
    n_all := He.free_ok X G (c.fact 101 rfl),
    n_any := He.free_ok X G (c.fact 102 rfl),
    n_ValueError := He.free_ok X G (c.fact 103 rfl),
    cl := He.cls_ok (c.fact 104 rfl),
    mkS := He.mkr_ok (c.fact 105 rfl),
    na_files := He.noat_ok (c.fact 106 rfl),
    na_has_power := He.noat_ok (c.fact 107 rfl),
    na_durable := He.noat_ok (c.fact 108 rfl),
    na_last := He.noat_ok (c.fact 109 rfl),
    na_entries := He.noat_ok (c.fact 110 rfl),
    na_side := He.noat_ok (c.fact 111 rfl),
    na_commit := He.noat_ok (c.fact 112 rfl),
    na_is_writing := He.noat_ok (c.fact 113 rfl),
    na_pending := He.noat_ok (c.fact 114 rfl),
    m_begin_anew := He.meth_ok (c.fact 115 rfl),
    m_finish := He.meth_ok (c.fact 116 rfl),
    m_fail := He.meth_ok (c.fact 117 rfl),
    m_want_power := He.meth_ok (c.fact 118 rfl),
    m_other := He.meth_ok (c.fact 119 rfl),
    m_append := He.meth_ok (c.fact 120 rfl),
    m_reset := He.meth_ok (c.fact 121 rfl),
    m_tick := He.meth_ok (c.fact 122 rfl),
    m_write_in_part := He.meth_ok (c.fact 123 rfl),
    m_begin_checkpoint := He.meth_ok (c.fact 124 rfl),
    m_write_checkpoint := He.meth_ok (c.fact 125 rfl),
    m_commit_checkpoint := He.meth_ok (c.fact 126 rfl),
    m_cut_power := He.meth_ok (c.fact 127 rfl),
    m_commits := He.meth_ok (c.fact 128 rfl),
    m_recover := He.meth_ok (c.fact 129 rfl),
    m_recovered := He.meth_ok (c.fact 130 rfl),
    m_get := He.meth_ok (c.fact 131 rfl),
    m_contents := He.meth_ok (c.fact 132 rfl),
    m_read_file := He.meth_ok (c.fact 133 rfl),
    m_corrupt_byte := He.meth_ok (c.fact 134 rfl),
    m_import_journal := He.meth_ok (c.fact 135 rfl),
    m_status := He.meth_ok (c.fact 136 rfl),
    m_list_ticks := He.meth_ok (c.fact 137 rfl),
    x_BadLine := ownB_ok b0,
    x_Refused := ownB_ok b1,
    ve := veB_ok b2,
    t_NUMBERS := fun H => He.tupB_ok b3 H,
    t_WITH_LIST := fun H => He.tupB_ok b4 H,
    f_natural_of := (c.def_ 0 (d := d_natural_of) rfl).elim fun _ h => defAt_of h,
    f_integer_of := (c.def_ 1 (d := d_integer_of) rfl).elim fun _ h => defAt_of h,
    f_integer_bytes := (c.def_ 2 (d := d_integer_bytes) rfl).elim fun _ h => defAt_of h,
    f_row_bytes := (c.def_ 3 (d := d_row_bytes) rfl).elim fun _ h => defAt_of h,
    f_checksum := (c.def_ 4 (d := d_checksum) rfl).elim fun _ h => defAt_of h,
    f_two_bytes := (c.def_ 5 (d := d_two_bytes) rfl).elim fun _ h => defAt_of h,
    f_frame_of := (c.def_ 6 (d := d_frame_of) rfl).elim fun _ h => defAt_of h,
    f_part_integer := (c.def_ 7 (d := d_part_integer) rfl).elim fun _ h => defAt_of h,
    f_parts_of := (c.def_ 8 (d := d_parts_of) rfl).elim fun _ h => defAt_of h,
    f_decoded := (c.def_ 9 (d := d_decoded) rfl).elim fun _ h => defAt_of h,
    f_frame_at := (c.def_ 10 (d := d_frame_at) rfl).elim fun _ h => defAt_of h,
    f_frames_in := (c.def_ 11 (d := d_frames_in) rfl).elim fun _ h => defAt_of h,
    f_only_row := (c.def_ 12 (d := d_only_row) rfl).elim fun _ h => defAt_of h,
    f_is_entry := (c.def_ 13 (d := d_is_entry) rfl).elim fun _ h => defAt_of h,
    f_is_change := (c.def_ 14 (d := d_is_change) rfl).elim fun _ h => defAt_of h,
    f_changes_of := (c.def_ 15 (d := d_changes_of) rfl).elim fun _ h => defAt_of h,
    f_are_changes := (c.def_ 16 (d := d_are_changes) rfl).elim fun _ h => defAt_of h,
    f_tick_row := (c.def_ 17 (d := d_tick_row) rfl).elim fun _ h => defAt_of h,
    f_is_tick := (c.def_ 18 (d := d_is_tick) rfl).elim fun _ h => defAt_of h,
    f_changed := (c.def_ 19 (d := d_changed) rfl).elim fun _ h => defAt_of h,
    f_flat := (c.def_ 20 (d := d_flat) rfl).elim fun _ h => defAt_of h,
    f_pairs_of := (c.def_ 21 (d := d_pairs_of) rfl).elim fun _ h => defAt_of h,
    f_is_checkpoint := (c.def_ 22 (d := d_is_checkpoint) rfl).elim fun _ h => defAt_of h,
    f_checkpoint_in := (c.def_ 23 (d := d_checkpoint_in) rfl).elim fun _ h => defAt_of h,
    f_commit_in := (c.def_ 24 (d := d_commit_in) rfl).elim fun _ h => defAt_of h,
    f_replayed := (c.def_ 25 (d := d_replayed) rfl).elim fun _ h => defAt_of h,
    f_cut_at := (c.def_ 26 (d := d_cut_at) rfl).elim fun _ h => defAt_of h,
    f_are_digits := (c.def_ 27 (d := d_are_digits) rfl).elim fun _ h => defAt_of h,
    f_worth := (c.def_ 28 (d := d_worth) rfl).elim fun _ h => defAt_of h,
    f_number_in := (c.def_ 29 (d := d_number_in) rfl).elim fun _ h => defAt_of h,
    f_limited := (c.def_ 30 (d := d_limited) rfl).elim fun _ h => defAt_of h,
    f_removal_in := (c.def_ 31 (d := d_removal_in) rfl).elim fun _ h => defAt_of h,
    f_change_in := (c.def_ 32 (d := d_change_in) rfl).elim fun _ h => defAt_of h,
    f_changes_in := (c.def_ 33 (d := d_changes_in) rfl).elim fun _ h => defAt_of h,
    f_journal_in := (c.def_ 34 (d := d_journal_in) rfl).elim fun _ h => defAt_of h,
    f_want := (c.def_ 35 (d := d_want) rfl).elim fun _ h => defAt_of h,
    f_want_power_range := (c.def_ 36 (d := d_want_power_range) rfl).elim fun _ h => defAt_of h,
    f_is_enough := (c.def_ 37 (d := d_is_enough) rfl).elim fun _ h => defAt_of h,
    f_counted_frames := (c.def_ 38 (d := d_counted_frames) rfl).elim fun _ h => defAt_of h,
    f_checksum_told := (c.def_ 39 (d := d_checksum_told) rfl).elim fun _ h => defAt_of h,
    f_frame_told := (c.def_ 40 (d := d_frame_told) rfl).elim fun _ h => defAt_of h,
    f_previewed := (c.def_ 41 (d := d_previewed) rfl).elim fun _ h => defAt_of h,
    f_of_writing := (c.def_ 42 (d := d_of_writing) rfl).elim fun _ h => defAt_of h,
    f_of_store := (c.def_ 43 (d := d_of_store) rfl).elim fun _ h => defAt_of h,
    f_of_lists := (c.def_ 44 (d := d_of_lists) rfl).elim fun _ h => defAt_of h,
    f_called := (c.def_ 45 (d := d_called) rfl).elim fun _ h => defAt_of h,
    f_answered := (c.def_ 46 (d := d_answered) rfl).elim fun _ h => defAt_of h,
    f_answers := (c.def_ 47 (d := d_answers) rfl).elim fun _ h => defAt_of h,
    f_BadLine___init__ := (c.def_ 48 (d := d_BadLine___init__) rfl).elim fun _ h => defAt_of h,
    f_Refused___init__ := (c.def_ 49 (d := d_Refused___init__) rfl).elim fun _ h => defAt_of h,
    f_Store___init__ := (c.def_ 50 (d := d_Store___init__) rfl).elim fun _ h => defAt_of h,
    f_Store_begin_anew := (c.def_ 51 (d := d_Store_begin_anew) rfl).elim fun _ h => defAt_of h,
    f_Store_finish := (c.def_ 52 (d := d_Store_finish) rfl).elim fun _ h => defAt_of h,
    f_Store_fail := (c.def_ 53 (d := d_Store_fail) rfl).elim fun _ h => defAt_of h,
    f_Store_want_power := (c.def_ 54 (d := d_Store_want_power) rfl).elim fun _ h => defAt_of h,
    f_Store_other := (c.def_ 55 (d := d_Store_other) rfl).elim fun _ h => defAt_of h,
    f_Store_append := (c.def_ 56 (d := d_Store_append) rfl).elim fun _ h => defAt_of h,
    f_Store_reset := (c.def_ 57 (d := d_Store_reset) rfl).elim fun _ h => defAt_of h,
    f_Store_tick := (c.def_ 58 (d := d_Store_tick) rfl).elim fun _ h => defAt_of h,
    f_Store_write_in_part := (c.def_ 59 (d := d_Store_write_in_part) rfl).elim fun _ h => defAt_of h,
    f_Store_begin_checkpoint := (c.def_ 60 (d := d_Store_begin_checkpoint) rfl).elim fun _ h => defAt_of h,
    f_Store_write_checkpoint := (c.def_ 61 (d := d_Store_write_checkpoint) rfl).elim fun _ h => defAt_of h,
    f_Store_commit_checkpoint := (c.def_ 62 (d := d_Store_commit_checkpoint) rfl).elim fun _ h => defAt_of h,
    f_Store_cut_power := (c.def_ 63 (d := d_Store_cut_power) rfl).elim fun _ h => defAt_of h,
    f_Store_commits := (c.def_ 64 (d := d_Store_commits) rfl).elim fun _ h => defAt_of h,
    f_Store_recover := (c.def_ 65 (d := d_Store_recover) rfl).elim fun _ h => defAt_of h,
    f_Store_recovered := (c.def_ 66 (d := d_Store_recovered) rfl).elim fun _ h => defAt_of h,
    f_Store_get := (c.def_ 67 (d := d_Store_get) rfl).elim fun _ h => defAt_of h,
    f_Store_contents := (c.def_ 68 (d := d_Store_contents) rfl).elim fun _ h => defAt_of h,
    f_Store_read_file := (c.def_ 69 (d := d_Store_read_file) rfl).elim fun _ h => defAt_of h,
    f_Store_corrupt_byte := (c.def_ 70 (d := d_Store_corrupt_byte) rfl).elim fun _ h => defAt_of h,
    f_Store_import_journal := (c.def_ 71 (d := d_Store_import_journal) rfl).elim fun _ h => defAt_of h,
    f_Store_status := (c.def_ 72 (d := d_Store_status) rfl).elim fun _ h => defAt_of h,
    f_Store_list_ticks := (c.def_ 73 (d := d_Store_list_ticks) rfl).elim fun _ h => defAt_of h }
end
/-! ### the other names that the top binds -/
def otherN0 : List PySem.Str := ["PART", "LONGEST_PART", "CHECK_BY", "PAIR_BY", "LAST_BYTE", "PAIR", "AROUND", "natural_of", "integer_of", "integer_bytes", "row_bytes", "checksum", "two_bytes", "frame_of", "part_integer", "parts_of", "decoded", "frame_at", "frames_in", "only_row", "MOST_KEY", "MOST_VALUE", "CHANGE", "REMOVE", "PUT", "SIDES", "is_entry", "is_change", "changes_of", "are_changes"]
def otherN1 : List PySem.Str := ["tick_row", "is_tick", "changed", "flat", "pairs_of", "is_checkpoint", "checkpoint_in", "commit_in", "replayed", "LINE_END", "BLANK", "MINUS", "NOUGHT", "NINE", "EQUALS", "REMOVAL", "MOST_DIGITS", "MOST_CHANGES_oldjournal", "BadLine", "cut_at", "are_digits", "worth", "number_in", "limited", "removal_in", "change_in", "changes_in", "journal_in", "OUTSIDE", "INVALID_TEXT"]
def otherN2 : List PySem.Str := ["NOT_NOW", "NONE_SUCH", "TOO_GREAT", "NOT_RECOVERED", "NO_POWER", "FAILED", "UNLIMITED", "MOST_POWER", "MOST_CHANGES_desk", "MOST_ROW", "MOST_NUMBER", "MOST_BYTE", "FILES", "JOURNAL", "COMMIT", "Refused", "want", "want_power_range", "is_enough", "Store", "counted_frames", "checksum_told", "frame_told", "previewed", "NUMBERS", "WITH_LIST", "of_writing", "of_store", "of_lists", "called"]
def otherN3 : List PySem.Str := ["answered"]
def otherN : List PySem.Str := otherN0 ++ otherN1 ++ otherN2 ++ otherN3
end Ts
/-! ## TsHead -/
set_option maxHeartbeats 0
namespace Ts
open PySem PySem.Spec PyProof.Rows L2
abbrev R : PySem.W.OpenSpec := PySem.Challenge.rw_tickstore_s01_answers
def obT (s : PySem.W.SharedT) : AlP := obsP 5 (HandSHeadRun.getT s)
theorem obT_eq (s : PySem.W.SharedT) : obT s = (hookP 5).obs s.abs := obsP_eq (HandSHeadRun.getT_eq s)
theorem run (w : World) : HandSHeadRun.RunEqS R (PySem.W.view R.prog [96]) (hookP 5) obT 8000 otherN w := by
  intro os
  kernel_rfl
end Ts
/-! ## TsA -/
namespace Ts
open Vbwsai
/-! ### digits, rows -/
theorem b128_lt {f n : Nat} (h : n < 128) : base128Digits (f + 1) n = [n] := by simp [base128Digits, h]
theorem b128_ge {f n : Nat} (h : ¬ n < 128) : base128Digits (f + 1) n = (128 + n % 128) :: base128Digits f (n / 128) := by simp [base128Digits, h]
theorem b128_len : ∀ f n, (base128Digits f n).length ≤ f
  | 0, n => by simp [base128Digits]
  | f + 1, n => by
    by_cases h : n < 128
    · rw [b128_lt h]; simp
    · rw [b128_ge h, List.length_cons]
      exact Nat.succ_le_succ (b128_len f _)
theorem b128_byte : ∀ f n, ∀ b ∈ base128Digits f n, b < 256
  | 0, n, b, hb => by simp [base128Digits] at hb
  | f + 1, n, b, hb => by
    by_cases h : n < 128
    · rw [b128_lt h] at hb
      have e : b = n := by simpa using hb
      omega
    · rw [b128_ge h] at hb
      rcases List.mem_cons.mp hb with e | e
      · omega
      · exact b128_byte f _ b e
theorem enc_len (n : Int) : (encodeInteger n).length ≤ 12 := b128_len _ _
theorem enc_byte (n : Int) : ∀ b ∈ encodeInteger n, b < 256 := b128_byte _ _
theorem encRow_nil : encodeRow [] = [] := rfl
theorem encRow_cons (n : Int) (l : List Int) : encodeRow (n :: l) = encodeInteger n ++ encodeRow l := by simp [encodeRow]
theorem encRow_app (a b : List Int) : encodeRow (a ++ b) = encodeRow a ++ encodeRow b := by simp [encodeRow]
theorem encRow_len : ∀ l : List Int, (encodeRow l).length ≤ 12 * l.length
  | [] => by simp [encRow_nil]
  | n :: l => by
    rw [encRow_cons, List.length_append, List.length_cons]
    have := enc_len n
    have := encRow_len l
    omega
theorem encRow_byte : ∀ l : List Int, ∀ b ∈ encodeRow l, b < 256
  | [], b, hb => by simp [encRow_nil] at hb
  | n :: l, b, hb => by
    rw [encRow_cons, List.mem_append] at hb
    rcases hb with h | h
    · exact enc_byte n b h
    · exact encRow_byte l b h
/-- how great a number may be: its natural number has twelve digits at most -/
def Fit (n : Int) : Prop := zigzagEncode n < 128 ^ 12
/-! ### checksums -/
def wsum : Nat → Bytes → Nat
  | _, [] => 0
  | i, b :: r => (b + 1) * i + wsum (i + 1) r
theorem cs_from : ∀ (l : Bytes) (i c : Nat), checksumFrom i c l % 65521 = (c + wsum i l) % 65521
  | [], i, c => by simp [checksumFrom, wsum]
  | b :: r, i, c => by
    show checksumFrom (i + 1) ((c + (b + 1) * i) % 65521) r % 65521 = _
    rw [cs_from r, wsum]
    omega
theorem cs_lt : ∀ (l : Bytes) (i c : Nat), c < 65521 → checksumFrom i c l < 65521
  | [], i, c, h => h
  | b :: r, i, c, h => cs_lt r _ _ (Nat.mod_lt _ (by decide))
theorem checksum_lt (b : Bytes) : checksum b < 65521 := cs_lt b 1 0 (by decide)
theorem checksum_eq (b : Bytes) : checksum b = wsum 1 b % 65521 := by
  have h := cs_from b 1 0
  rw [Nat.zero_add] at h
  rw [← h]
  exact (Nat.mod_eq_of_lt (checksum_lt b)).symm
theorem wsum_snoc : ∀ (l : Bytes) (i b : Nat), wsum i (l ++ [b]) = wsum i l + (b + 1) * (i + l.length)
  | [], i, b => by simp [wsum]
  | x :: l, i, b => by
    rw [List.cons_append, wsum, wsum, wsum_snoc l, List.length_cons]
    have : i + 1 + l.length = i + (l.length + 1) := by omega
    rw [this]
    omega
theorem take_more {α : Type} : ∀ {l : List α} {i : Nat} {x : α}, l[i]? = some x → l.take (i + 1) = l.take i ++ [x]
  | [], i, x, h => by simp at h
  | a :: l, 0, x, h => by
    have e : a = x := Option.some.inj h
    subst e
    rfl
  | a :: l, i + 1, x, h => by
    have ih := take_more (l := l) (i := i) (x := x) h
    show a :: l.take (i + 1) = a :: l.take i ++ [x]
    rw [ih]
    rfl
theorem twoBytes_eq {n : Nat} (h : n < 65536) : twoBytes n = [n / 256, n % 256] := by
  unfold twoBytes
  rw [Nat.mod_eq_of_lt (by omega : n / 256 < 256)]
theorem twoBytes_byte (n : Nat) : ∀ b ∈ twoBytes n, b < 256 := by
  intro b hb
  unfold twoBytes at hb
  simp at hb
  omega
/-! ### parts -/
def partNat : Bytes → Nat
  | [] => 0
  | b :: r => b % 128 + 128 * partNat r
def consHead (b : Nat) : List Bytes → List Bytes
  | [] => [[b]]
  | h :: t => (b :: h) :: t
def cuts : Bytes → List Bytes
  | [] => [[]]
  | b :: r => if b < 128 then [b] :: cuts r else consHead b (cuts r)
theorem cuts_ne : ∀ l, cuts l ≠ []
  | [] => by simp [cuts]
  | b :: r => by
    unfold cuts
    split
    · simp
    · cases h : cuts r with
      | nil => exact absurd h (cuts_ne r)
      | cons x y => simp [consHead]
/-- the part that is being filled stands ahead of what is left -/
def glue (cur : Bytes) : List Bytes → List Bytes
  | [] => [cur]
  | h :: t => (cur ++ h) :: t
theorem glue_nil (l : List Bytes) (h : l ≠ []) : glue [] l = l := by
  cases l with
  | nil => exact absurd rfl h
  | cons x y => rfl
theorem glue_lt {cur : Bytes} {b : Nat} {r : Bytes} (h : b < 128) : glue cur (cuts (b :: r)) = (cur ++ [b]) :: cuts r := by
  rw [show cuts (b :: r) = [b] :: cuts r from if_pos h]
  rfl
theorem glue_ge {cur : Bytes} {b : Nat} {r : Bytes} (h : ¬ b < 128) : glue cur (cuts (b :: r)) = glue (cur ++ [b]) (cuts r) := by
  rw [show cuts (b :: r) = consHead b (cuts r) from if_neg h]
  cases cuts r with
  | nil => rfl
  | cons x y => simp [glue, consHead]
/-- no more parts than bytes, and one -/
theorem cuts_len : ∀ l, (cuts l).length ≤ l.length + 1
  | [] => by simp [cuts]
  | b :: r => by
    have ih := cuts_len r
    unfold cuts
    split
    · simp; omega
    · cases h : cuts r with
      | nil => simp [consHead]
      | cons x y =>
        rw [h] at ih
        simp [consHead] at *
        omega
theorem cuts_part : ∀ l, ∀ p ∈ cuts l, p.length ≤ l.length ∧ ∀ b ∈ p, b ∈ l
  | [], p, hp => by
    have e : p = [] := by simpa [cuts] using hp
    subst e
    simp
  | b :: r, p, hp => by
    unfold cuts at hp
    split at hp
    · rcases List.mem_cons.mp hp with e | e
      · subst e
        simp
      · have ih := cuts_part r p e
        exact ⟨by simp; omega, fun x hx => List.mem_cons_of_mem _ (ih.2 x hx)⟩
    · cases h : cuts r with
      | nil => exact absurd h (cuts_ne r)
      | cons x y =>
        rw [h] at hp
        have ih := cuts_part r
        rw [h] at ih
        rcases List.mem_cons.mp hp with e | e
        · subst e
          have i2 := ih x (List.mem_cons_self)
          refine ⟨by simp; omega, fun z hz => ?_⟩
          rcases List.mem_cons.mp hz with e2 | e2
          · subst e2; exact List.mem_cons_self
          · exact List.mem_cons_of_mem _ (i2.2 z e2)
        · have i2 := ih p (List.mem_cons_of_mem _ e)
          exact ⟨by simp; omega, fun z hz => List.mem_cons_of_mem _ (i2.2 z hz)⟩
/-- decodeDigits reads the first part, where one is cut and it's short enough -/
theorem digits_cut : ∀ (l : Bytes) (f : Nat), (∀ b ∈ l, b < 256) → ∀ c t, cuts l = c :: t → decodeDigits f l = if t = [] ∨ f < c.length then none else some (partNat c, l.drop c.length)
  | [], f, _, c, t, h => by
    have e : c = [] ∧ t = [] := by simpa [cuts, eq_comm] using h
    cases f <;> simp [decodeDigits, e.2]
  | b :: r, 0, _, c, t, h => by
    have hc : t = [] ∨ 0 < c.length := by
      unfold cuts at h
      split at h
      · cases h; right; simp
      · cases e : cuts r with
        | nil => exact absurd e (cuts_ne r)
        | cons x y => rw [e] at h; cases h; right; simp
    rw [if_pos hc]
    rfl
  | b :: r, f + 1, hb, c, t, h => by
    have b1 := hb b List.mem_cons_self
    unfold cuts at h
    by_cases hlt : b < 128
    · rw [if_pos hlt] at h
      cases h
      have e1 : partNat [b] = b := by simp [partNat]; omega
      have e2 : ¬ (cuts r = [] ∨ f + 1 < [b].length) := by
        intro q
        rcases q with q | q
        · exact cuts_ne r q
        · simp at q
      rw [if_neg e2, e1]
      simp [decodeDigits, hlt]
    · rw [if_neg hlt] at h
      cases e : cuts r with
      | nil => exact absurd e (cuts_ne r)
      | cons x y =>
        rw [e] at h
        obtain ⟨rfl, rfl⟩ := List.cons.inj (show (b :: x) :: y = c :: t from h)
        have ih := digits_cut r f (fun z hz => hb z (List.mem_cons_of_mem _ hz)) x y e
        unfold decodeDigits
        rw [if_neg hlt, ih]
        by_cases q : y = [] ∨ f < x.length
        · rw [if_pos q]
          have q2 : y = [] ∨ f + 1 < (b :: x).length := by
            rcases q with q | q
            · exact .inl q
            · right; simp; omega
          rw [if_pos q2]
        · rw [if_neg q]
          have q2 : ¬ (y = [] ∨ f + 1 < (b :: x).length) := by
            intro z
            apply q
            rcases z with z | z
            · exact .inl z
            · right; simp at z; omega
          rw [if_neg q2]
          have e3 : b - 128 = b % 128 := by omega
          simp [partNat, e3]
theorem cuts_drop : ∀ (l : Bytes) (c : Bytes) (t : List Bytes), cuts l = c :: t → t ≠ [] → cuts (l.drop c.length) = t ∧ c ≠ [] ∧ c.length ≤ l.length
  | [], c, t, h, ht => by
    have e : c = [] ∧ t = [] := by simpa [cuts, eq_comm] using h
    exact absurd e.2 ht
  | b :: r, c, t, h, ht => by
    unfold cuts at h
    by_cases hlt : b < 128
    · rw [if_pos hlt] at h
      cases h
      simp
    · rw [if_neg hlt] at h
      cases e : cuts r with
      | nil => exact absurd e (cuts_ne r)
      | cons x y =>
        rw [e] at h
        obtain ⟨rfl, rfl⟩ := List.cons.inj (show (b :: x) :: y = c :: t from h)
        have ih := cuts_drop r x y e ht
        refine ⟨by simpa using ih.1, by simp, ?_⟩
        have := ih.2.2
        simp
        omega
/-- the mirror of decoded -/
def decoded (p : Bytes) : Option (List Int) :=
  if (cuts p).getLast (cuts_ne p) ≠ [] ∨ (cuts p).any (fun x => decide (12 < x.length)) = true then none
  else some ((cuts p).dropLast.map fun x => zigzagDecode (partNat x))
theorem cuts_one : ∀ (p c : Bytes), cuts p = [c] → c = p
  | [], c, h => by simpa [cuts, eq_comm] using h
  | b :: r, c, h => by
    unfold cuts at h
    by_cases hlt : b < 128
    · rw [if_pos hlt] at h
      have e : cuts r = [] := (List.cons.inj h).2
      exact absurd e (cuts_ne r)
    · rw [if_neg hlt] at h
      cases e : cuts r with
      | nil => exact absurd e (cuts_ne r)
      | cons x y =>
        rw [e] at h
        have h1 := (List.cons.inj h).1
        have h2 := (List.cons.inj h).2
        subst h2
        have e4 := cuts_one r x e
        rw [← h1, e4]
theorem decodeRow_eq : ∀ (f : Nat) (p : Bytes), p.length ≤ f → (∀ b ∈ p, b < 256) → decodeRow f p = decoded p
  | f, [], _, _ => by
    have e : decodeRow f [] = some [] := by cases f <;> rfl
    rw [e]
    rfl
  | 0, b :: r, h, _ => by simp at h
  | f + 1, b :: r, h, hb => by
    cases e : cuts (b :: r) with
    | nil => exact absurd e (cuts_ne _)
    | cons c t =>
      have hd := digits_cut (b :: r) 12 hb c t e
      have hm : maxIntegerBytes = 12 := rfl
      unfold decodeRow
      rw [hm, hd]
      unfold decoded
      by_cases ht : t = []
      · rw [if_pos (.inl ht)]
        subst ht
        have ec : c = b :: r := cuts_one _ _ e
        have q : (cuts (b :: r)).getLast (cuts_ne (b :: r)) ≠ [] := by
          simp only [e, List.getLast_singleton]
          rw [ec]
          simp
        rw [if_pos (.inl q)]
      · have hc := cuts_drop _ c t e ht
        have elast : (cuts (b :: r)).getLast (cuts_ne (b :: r)) = t.getLast ht := by
          simp only [e]
          exact List.getLast_cons ht
        by_cases hl : 12 < c.length
        · rw [if_pos (.inr hl)]
          have q : (cuts (b :: r)).any (fun x => decide (12 < x.length)) = true := by
            rw [e]
            simp [hl]
          rw [if_pos (.inr q)]
        · rw [if_neg (by intro z; rcases z with z | z; exact ht z; exact hl z)]
          have hlen : ((b :: r).drop c.length).length ≤ f := by
            have h1 : c.length ≠ 0 := fun z => hc.2.1 (List.length_eq_zero_iff.mp z)
            rw [List.length_drop]
            simp at h ⊢
            omega
          have ih := decodeRow_eq f ((b :: r).drop c.length) hlen fun z hz => hb z (List.mem_of_mem_drop hz)
          show (decodeRow f ((b :: r).drop c.length)).map (fun l => zigzagDecode (partNat c) :: l) = _
          rw [ih]
          unfold decoded
          have hany : (cuts (b :: r)).any (fun x => decide (12 < x.length)) = t.any (fun x => decide (12 < x.length)) := by
            rw [e]
            simp [hl]
          have hglast : (cuts ((b :: r).drop c.length)).getLast (cuts_ne _) = t.getLast ht := by
            simp only [hc.1]
          rw [hany, elast, hglast, hc.1, e]
          by_cases q : t.getLast ht ≠ [] ∨ t.any (fun x => decide (12 < x.length)) = true
          · rw [if_pos q, if_pos q]
            rfl
          · rw [if_neg q, if_neg q]
            cases t with
            | nil => exact absurd rfl ht
            | cons y ys => rfl
end Ts
/-! ## TsB -/
namespace Ts
open Vbwsai
/-! ### the mirrors: what each def gives, as plain functions -/
def frameAt (b : Bytes) (i : Nat) : Option (List Int × Nat) := (decodeFrame (b.drop i)).map fun x => (x.1, b.length - x.2.length)
def framesGo : Nat → Bytes → Nat → List (List Int × Nat)
  | 0, _, _ => []
  | f + 1, b, i => match frameAt b i with
    | none => []
    | some x => x :: framesGo f b x.2
def framesOf (b : Bytes) : List (List Int × Nat) := framesGo (b.length + 1) b 0
def onlyRow (b : Bytes) : Option (List Int) := match decodeFrame b with
  | some (l, []) => some l
  | _ => none
def isEntry (k v : Int) : Bool := (decide (0 ≤ k) && decide (k ≤ 63)) && (decide (-1000000000000000000 ≤ v) && decide (v ≤ 1000000000000000000))
def isChange (k f v : Int) : Bool := isEntry k v && (decide (f = 0) || decide (f = 1))
def chunks (n : Nat) (l : List Int) : List (List Int) := (List.range ((l.length + n - 1) / n)).map fun i => (l.drop (n * i)).take n
def flatS (s : Store) : List Int := s.flatMap fun x => [(x.1 : Int), x.2]
def replayM : Nat → Nat → List (List Int × Nat) → List (List Int) × Nat
  | _, sz, [] => ([], sz)
  | t, sz, (l, e) :: r => if (parseTickRow l).isSome = true ∧ l.head? = some ((t : Int) + 1) then
      let x := replayM (t + 1) e r
      (l :: x.1, x.2)
    else ([], sz)
def chg (c : Change) : List Int := match c.2 with
  | none => [(c.1 : Int), 0, 0]
  | some v => [(c.1 : Int), 1, v]
def areDigits (b : Bytes) : Bool := (decide (1 ≤ b.length) && decide (b.length ≤ 19)) && (b.all isDigit && (decide (b.length = 1) || !decide (b.head? = some 48)))
def worth (b : Bytes) : Nat := b.foldl (fun n c => 10 * n + (c - 48)) 0
def lineIn (b : Bytes) (t : Nat) : Option (List Change) := match parseTickLine b with
  | none => none
  | some (n, cs) => if n ≠ t ∨ maxChanges < cs.length ∨ maxValue < (n : Int) then none else some cs
/-- keys below 64, rising; values within their range -/
structure Ent (s : Store) : Prop where
  up : s.Pairwise fun x y => x.1 < y.1
  rng : ∀ x ∈ s, x.1 < 64 ∧ -maxValue ≤ x.2 ∧ x.2 ≤ maxValue
/-! ### the object -/
structure Mem where
  files : List Bytes
  power : Bool
  durable : Nat
  last : Nat
  entries : Store
  side : Nat
  commit : Nat
  writing : Bool
  pending : Bytes
def Mem.file (m : Mem) (i : Nat) : Bytes := m.files.getD i []
def Mem.put (m : Mem) (i : Nat) (d : Bytes) : Mem := { m with files := m.files.set i d }
def Mem.app (m : Mem) (i : Nat) (d : Bytes) : Mem := m.put i (m.file i ++ d)
def Mem.finish (m : Mem) : Mem := { m with writing := false, pending := [] }
def Mem.fail (m : Mem) : Mem := { m with power := false, last := 0, entries := [], side := 0, commit := 0, writing := false, pending := [] }
def anew (t : Nat) (s : Store) : Mem := ⟨[encodeFrame ((t : Int) :: flatS s), [], [], [], [], encodeFrame [1, 0]], true, t, t, s, 0, 1, false, []⟩
abbrev Out := Except Int (Mem × List Int)
def big : Nat := 1000000000000000000
def okPower (p : Int) : Bool := decide (-1 ≤ p) && decide (p ≤ 100000)
def enough (p : Int) (n : Nat) : Bool := decide (p = -1) || decide ((n : Int) ≤ p)
def Mem.inPart (m : Mem) (w : Bytes) (p : Nat) : Mem :=
  let m1 := m.app (2 + m.side) (w.take p)
  if m.writing = true ∧ w.length < p then m1.app (2 + (1 - m.side)) (w.take (p - w.length)) else m1
def mTick (m : Mem) (p : Int) (l : List Int) : Out :=
  if okPower p = false then .error (-1) else
  if l.length ≤ 48 ∧ (parseChanges l).isSome = true then
    if m.power = false then .error (-7) else
    if big ≤ m.last then .error (-5) else
    let cs := (parseChanges l).getD []
    let w := encodeFrame (tickRow (m.last + 1) cs)
    let many := w.length * (1 + (if m.writing = true then 1 else 0))
    if enough p many = false then .ok ((m.inPart w p.toNat).fail, [-1, (many : Int)]) else
    let m1 := m.app (2 + m.side) w
    let m2 := if m.writing = true then m1.app (2 + (1 - m.side)) w else m1
    .ok ({ m2 with last := m.last + 1, entries := applyChanges m.entries cs, durable := m.last + 1 }, [((m.last + 1 : Nat) : Int), (many : Int)])
  else .error (-1)
def mBegin (m : Mem) : Out :=
  if m.power = false then .error (-7) else
  if m.writing = true then .error (-3) else
  let b := encodeFrame ((m.last : Int) :: flatS m.entries)
  .ok ({ ((m.put (1 - m.side) []).put (2 + (1 - m.side)) []) with pending := b, writing := true }, [(b.length : Int)])
def mWrite (m : Mem) (n : Int) : Out :=
  if (decide (1 ≤ n) && decide (n ≤ 100000)) = false then .error (-1) else
  if m.power = false then .error (-7) else
  if m.writing = false then .error (-3) else
  .ok ({ m.app (1 - m.side) (m.pending.take n.toNat) with pending := m.pending.drop n.toNat }, [((m.pending.drop n.toNat).length : Int)])
def mCommit (m : Mem) (p : Int) : Out :=
  if okPower p = false then .error (-1) else
  if m.power = false then .error (-7) else
  if (m.writing && decide (m.pending = [])) = false then .error (-3) else
  if big ≤ m.commit then .error (-5) else
  let w := encodeFrame [((m.commit + 1 : Nat) : Int), ((1 - m.side : Nat) : Int)]
  if enough p w.length = false then .ok ((m.put (4 + (m.commit + 1) % 2) (w.take p.toNat)).fail, [-1, (w.length : Int)]) else
  .ok ({ (m.put (4 + (m.commit + 1) % 2) w) with side := 1 - m.side, commit := m.commit + 1 }.finish, [((1 - m.side : Nat) : Int), ((m.commit + 1 : Nat) : Int)])
def mCut (m : Mem) : Out := if m.power = false then .error (-7) else .ok (m.fail, [])
def mCommits (m : Mem) : List (Nat × Nat) := match readCommit (m.file 4), readCommit (m.file 5) with
  | some a, some b => if a.1 < b.1 then [b, a] else [a, b]
  | some a, none => [a]
  | none, some b => [b]
  | none, none => []
def mRecovered (m : Mem) (c side t : Nat) (s : Store) : Mem × List Int :=
  let x := replayM t 0 (framesOf (m.file (2 + side)))
  let s' := x.1.foldl (fun s l => applyChanges s ((parseChanges l.tail).getD [])) s
  ({ (m.put (2 + side) ((m.file (2 + side)).take x.2)) with power := true, last := t + x.1.length, entries := s', side := side, commit := c, writing := false, pending := [], durable := t + x.1.length },
    [(side : Int), ((t + x.1.length : Nat) : Int), (x.1.length : Int), ((m.file (2 + side)).length : Int) - (x.2 : Int)])
def mTry (m : Mem) : List (Nat × Nat) → Out
  | [] => .error (-6)
  | (c, side) :: r => match readCheckpoint (m.file side) with
    | some (t, s) => .ok (mRecovered m c side t s)
    | none => mTry m r
def mRecover (m : Mem) : Out := if m.power = true then .error (-3) else mTry m (mCommits m)
def mGet (m : Mem) (k : Int) : Out :=
  if k < 0 then .error (-1) else if m.power = false then .error (-7) else match lookupKey k.toNat m.entries with
    | none => .error (-4)
    | some v => .ok (m, [v])
def mContents (m : Mem) : Out := if m.power = false then .error (-7) else .ok (m, (m.last : Int) :: flatS m.entries)
def mRead (m : Mem) (i : Int) : Out := if (decide (0 ≤ i) && decide (i < 6)) = false then .error (-1) else .ok (m, (m.file i.toNat).map fun (n : Nat) => (n : Int))
def mCorrupt (m : Mem) (i p b : Int) : Out :=
  if ((decide (0 ≤ i) && decide (i < 6)) && (decide (0 ≤ b) && decide (b ≤ 255))) = false then .error (-1) else
  if (decide (0 ≤ p) && decide (p < ((m.file i.toNat).length : Int))) = false then .error (-4) else
  .ok (m.put i.toNat ((m.file i.toNat).take p.toNat ++ [b.toNat] ++ (m.file i.toNat).drop (p.toNat + 1)), [])
def mImport (m : Mem) (b : Bytes) : Out :=
  if m.power = false then .error (-7) else match importText b with
    | .error _ => .error (-2)
    | .ok (t, s) => .ok (anew t s, [(t : Int), (s.length : Int)])
def b2 (b : Bool) : Int := if b = true then 1 else 0
def mStatus (m : Mem) : Out := .ok (m, [b2 m.power, (m.last : Int), (m.side : Int), (m.commit : Int), b2 m.writing, (m.pending.length : Int), (m.durable : Int)])
def mList (m : Mem) : Out := if m.power = false then .error (-7) else
  .ok (m, (framesOf (m.file (2 + m.side))).flatMap fun f => match parseTickRow f.1 with
    | some e => [(e.1 : Int), (e.2.length : Int)]
    | none => [])
def mCount (b : Bytes) : List Int := match (framesOf b).getLast? with
  | none => [0, 0]
  | some x => [((framesOf b).length : Int), (x.2 : Int)]
def mPreview (b : Bytes) : List Int := match importText b with
  | .error n => [0, (n : Int)]
  | .ok (t, s) => [1, (t : Int)] ++ flatS s
def toB (l : List Int) : Bytes := l.map Int.toNat
def wOf (m : Mem) : Int → List Int → List Int → Out := fun c n row =>
  if c = 0 then .ok (anew 0 [], []) else
  if c = 1 then mTick m (n.getD 0 0) row else
  if c = 2 then mBegin m else
  if c = 3 then mWrite m (n.getD 0 0) else
  if c = 4 then mCommit m (n.getD 0 0) else
  if c = 5 then mCut m else mRecover m
def sOf (m : Mem) : Int → List Int → List Int → Out := fun c n row =>
  if c = 7 then mGet m (n.getD 0 0) else
  if c = 8 then mContents m else
  if c = 9 then mRead m (n.getD 0 0) else
  if c = 10 then mCorrupt m (n.getD 0 0) (n.getD 1 0) (n.getD 2 0) else
  if c = 11 then mImport m (toB row) else
  if c = 12 then mStatus m else mList m
def lOf : Int → List Int → Except Int (List Int) := fun c row =>
  if c = 13 then .ok (mCount (toB row)) else
  if c = 15 then .ok [(checksum (toB row) : Int)] else
  if c = 16 then (if row.length ≤ 40 then .ok ((encodeFrame row).map fun (n : Nat) => (n : Int)) else .error (-1)) else
  .ok (mPreview (toB row))
def cOf (m : Mem) (c : Int) (n row : List Int) : Out :=
  if c < 7 then wOf m c n row else
  if c = 13 ∨ c = 15 ∨ c = 16 ∨ c = 17 then (lOf c row).map fun l => (m, l) else sOf m c n row
/-- what is asked of a call's numbers and row -/
def CallOk (c : Int) (n row : List Int) : Prop := 0 ≤ c ∧ c ≤ 17 ∧ (c = 1 ∨ c = 3 ∨ c = 4 ∨ c = 7 ∨ c = 9 → n.length = 1) ∧ (c = 10 → n.length = 3) ∧
  (∀ x ∈ n, -maxValue ≤ x ∧ x ≤ maxValue) ∧ (∀ x ∈ row, -maxValue ≤ x ∧ x ≤ maxValue) ∧ row.length ≤ 2000 ∧
  (c = 1 ∨ c = 16 → row.length ≤ 60) ∧ (c = 11 ∨ c = 13 ∨ c = 15 ∨ c = 17 → ∀ x ∈ row, 0 ≤ x ∧ x < 256)
/-- how great the object may be -/
structure Bd (n : Nat) (m : Mem) : Prop where
  six : m.files.length = 6
  len : ∀ b ∈ m.files, b.length ≤ n
  byt : ∀ b ∈ m.files, ∀ x ∈ b, x < 256
  pen : m.pending.length ≤ 2000
  pby : ∀ x ∈ m.pending, x < 256
  side : m.side ≤ 1
  last : Fit m.last
  com : Fit m.commit
  ent : Ent m.entries
end Ts
/-! ## TsSp -/
namespace Ts
open PySem PySem.Spec PyProof.Rows L2
/-! ### short names of readings -/
abbrev rAddI : R2 := rI0 fun i j => .int (i + j)
abbrev rSubI : R2 := rI0 fun i j => .int (i - j)
abbrev rMulI : R2 := rI CMul fun i j => .int (i * j)
abbrev rFdivI : R2 := rI CDivN fun i j => .int (i.fdiv j)
abbrev rModI : R2 := rI (fun _ j => j ≠ 0) fun i j => .int (i.fmod j)
abbrev rLt : R2 := rI0 fun i j => .bl (decide (i < j))
abbrev rLe : R2 := rI0 fun i j => .bl (decide (i ≤ j))
abbrev rGt : R2 := rI0 fun i j => .bl (decide (j < i))
abbrev rGe : R2 := rI0 fun i j => .bl (decide (j ≤ i))
abbrev rEqI : R2 := rI0 fun i j => .bl (decide (i = j))
abbrev rNeI : R2 := rI0 fun i j => .bl (!decide (i = j))
abbrev rIsN : R2 := fun x y H Q => y = .non ∧ Q (.bl (decide (x = .non))) H
abbrev rNotN : R2 := fun x y H Q => y = .non ∧ Q (.bl (!decide (x = .non))) H
abbrev rNeg : V → Hp → VK → Prop := rU fun i => .int (-i)
abbrev rLenS (K : PySem.W.Frag) : List V → Hp → VK → Prop := fun xs H Q => ∃ p ys, xs = [.ref p] ∧ (SqL K H p ys ∨ SqT K H p ys) ∧ Q (.int ys.length) H
abbrev rListS (K : PySem.W.Frag) : List V → Hp → VK → Prop := fun xs H Q => ∃ p ys, xs = [.ref p] ∧ (SqL K H p ys ∨ SqT K H p ys) ∧ ∀ l, H l = none → Q (.ref l) (upd H l (.lst ys))
abbrev rLenD (K : PySem.W.Frag) : List V → Hp → VK → Prop := fun xs H Q => ∃ (a : Addr) (kvs : List (Key × V)), xs = [.ref a] ∧ Rd H a (.dK kvs) ∧ Q (.int kvs.length) H
abbrev rAbs : List V → Hp → VK → Prop := fun xs H Q => ∃ i, xs = [.int i] ∧ Q (.int (if i < 0 then -i else i)) H
abbrev rInt1 : List V → Hp → VK → Prop := fun xs H Q => (∃ i, xs = [.int i] ∧ Q (.int i) H) ∨ ∃ k, xs = [.bl k] ∧ Q (.int (if k then 1 else 0)) H
abbrev rDictP (K : PySem.W.Frag) : List V → Hp → VK → Prop := fun xs H Q => ∃ (a : Addr) (ps : List Addr) (kvs : List (Key × V)), xs = [.ref a] ∧ SqL K H a (ps.map V.ref) ∧ Paired (fun p kv => SqT K H p [kV kv.1, kv.2]) ps kvs ∧
    ∀ p, H p = none → Q (.ref p) (upd H p (.dK (mergeK [] kvs)))
abbrev rDictD : List V → Hp → VK → Prop := fun xs H Q => ∃ (a : Addr) (kvs : List (Key × V)), xs = [.ref a] ∧ Rd H a (.dK kvs) ∧ ∀ p, H p = none → Q (.ref p) (upd H p (.dK kvs))
abbrev rSortedDI : List V → Hp → VK → Prop := fun xs H Q => ∃ (a : Addr) (kvs : List (Key × V)) (ks : List Int), xs = [.ref a] ∧ Rd H a (.dK kvs) ∧ kvs.map (·.1) = ks.map Sum.inl ∧
    ∀ (ys : List Int) (p : Addr), ys.Perm ks → ys.Pairwise (· ≤ ·) → H p = none → Q (.ref p) (upd H p (.lst (ys.map V.int)))
/-! ### rules that lack -/
section
variable {X : Cx}
theorem op_eqI : OpR X (compareOp .Eq) rEqI := by
  intro pins s σ H x y v u Q I rx ry ⟨i, j, ex, ey, q⟩
  subst ex ey
  refine op_eq pins s σ H (.int i) (.int j) v u Q I rx ry ⟨rfl, ?_⟩
  have e : decide (V.int i = V.int j) = decide (i = j) := decide_eq_decide.mpr ⟨fun h => V.int.inj h, fun h => congrArg V.int h⟩
  rw [e]
  exact q
theorem op_neI : OpR X (compareOp .NotEq) rNeI := by
  intro pins s σ H x y v u Q I rx ry ⟨i, j, ex, ey, q⟩
  subst ex ey
  refine op_ne pins s σ H (.int i) (.int j) v u Q I rx ry ⟨rfl, ?_⟩
  have e : decide (V.int i = V.int j) = decide (i = j) := decide_eq_decide.mpr ⟨fun h => V.int.inj h, fun h => congrArg V.int h⟩
  rw [e]
  exact q
/-- nothing leaves an error's own __init__ -/
theorem passN : Passes CX0 X (fun _ _ _ => False) := fun _ _ _ _ _ _ _ h => h.elim
theorem call_lenD : CallR X (.builtin "len") (rLenD X.K) := by
  intro pins s σ H xs us Q I r ⟨a, kvs, ex, hd, q⟩
  subst ex
  obtain ⟨u, eu, rx⟩ := vals1 r
  subst eu
  cases rx
  exact d_len I hd fun t s' I' => ⟨.int kvs.length, H, I', ⟨t, rfl⟩, q⟩
/-- sorted(d) of a dict whose keys are ints, any number of them -/
theorem call_sortedDI2 (hcalm : X.calm = true) : CallR X (.builtin "sorted") rSortedDI := by
  intro pins s σ H xs us Q I r ⟨a, kvs, ks, ex, hd, hks, q⟩
  subst ex
  obtain ⟨u, eu, rx⟩ := vals1 r
  subst eu
  cases rx
  obtain ⟨z, lo, vs, rel, dd⟩ := dk_rd I.hok hd
  obtain ⟨ep, hat⟩ := dd.dictAt
  have keys1 : vs.map (·.1) = ks.map Sum.inl := rel.keys.symm.trans hks
  have len1 : vs.length = ks.length := by simpa using congrArg List.length keys1
  have len2 : kvs.length = ks.length := rel.length.trans len1
  have line1 : vs.length ≤ sizeLine := by rw [← rel.length]; exact z
  refine Calls.call_function_entry PyProof.Rows.kind_sorted PyProof.Rows.plain_sorted PyProof.Rows.entry_sorted (PyProof.Rows.args_sorted1 _) ?_
  unfold Builtin.«sorted»
  refine wpAny_bind (m := checkCount "sorted" 1 1 _) (wpAny_pure ?_)
  have road := PySem.W.kdl_dict (knd := mixKind X.prog X.w) (kvs := vs) (ep := ep) lo
  refine wpAny_bind (PySem.W.kdu_collect (A := X.A.in1) road (I.ok.hd hcalm) hat line1 fun h' tk acc hk hacc => ?_)
  have accLen : acc.toList.length = ks.length := by rw [Array.length_toList, hacc.1, len1]
  have accInts : IntsAre acc.toList ks := ints_each accLen fun j v e => by
    obtain ⟨k, x, at1, at2⟩ := hacc.2 j v (by rw [← Array.getElem?_toList]; exact e)
    have at3 : (ks.map (Sum.inl : Int → Key))[j]? = some k := by rw [← keys1, List.getElem?_map, at1]; rfl
    rw [List.getElem?_map] at at3
    obtain ⟨y, y1, y2⟩ := Option.map_eq_some_iff.mp at3
    subst y2
    rcases keyIs_shape (show keyIs (Sum.inl y) v = true from at2) with ⟨i, t, p1, p2⟩ | ⟨_, _, p1, _⟩
    · cases p1
      exact ⟨y, t, y1, p2⟩
    · cases p1
  have I1 : Inv X pins σ H { s with heap := h', toks := tk } := I.kept hk
  have line2 : acc.toList.length ≤ sizeLine := by rw [accLen, ← len1]; exact line1
  refine wpAny_bind (wpAny_newList ?_ line2)
  have atL : (h'.push (seqObj "list" acc.toList.toArray 0)).get? h'.objs.size = some (seqObj "list" acc.toList.toArray 0) := Heap.get?_push_size _ rfl
  show wpAny _ _ _ _ _ { s with heap := h'.push (seqObj "list" acc.toList.toArray 0), toks := tk }
  refine wpAny_bind (wpAny_holding (wpAny_call_entry PyProof.Rows.slot_list_sort ⟨_, atL, rfl⟩ PyProof.Rows.entry_list_sort
    (SrtO.list_sort_ord (s := { s with heap := h'.push (seqObj "list" acc.toList.toArray 0), toks := tk }) SrtO.swo_int atL line2 (fun h2 => SrtO.ints_sortable accInts h2) fun out g1 g2 => ⟨_, rfl, ?_⟩) (PyProof.Rows.args_list_sort _)))
  obtain ⟨k1, k2, k3⟩ := SrtO.ints_out accInts g1 g2
  obtain ⟨e', he'⟩ := PyProof.Rows.sortedHeap_at (vs := acc.toList) (out := out.toArray) atL
  have line3 : ((out.map SrtO.iv).map V.int).length ≤ sizeLine := by
    rw [List.length_map, k2.length_eq, ← len1]
    exact line1
  have obj3 : ObjOk X.prog X.w (upd H h'.objs.size (.lst ((out.map SrtO.iv).map V.int))) _ h'.objs.size (.lst ((out.map SrtO.iv).map V.int)) := ⟨line3, out, e', vals_of_ints k1, he'⟩
  refine wpAny_pure ⟨_, rfl, .ref h'.objs.size, upd H h'.objs.size (.lst ((out.map SrtO.iv).map V.int)), I1.laid (t' := tk) (fun b u e => ?_) (Nat.le_refl _) obj3, rfl, q _ _ k2 k3 (I1.hok.fresh (Nat.le_refl _))⟩
  have hb : b < h'.objs.size := Heap.lt_size e
  rw [PyProof.Rows.sortedHeap_old (Nat.ne_of_lt hb) (by rw [size_push']; exact Nat.lt_succ_of_lt hb)]
  exact Heap.get?_push_of_some _ e
end
/-- raise C(e): C's own __init__, then the def's way out -/
abbrev tRaiseO (C : Addr) (sp : Sp) (E : XK) (ta : TA) : TS := fun _ σ H => tMkO C sp [] ta σ H fun cls d H' => E cls d H'
/-! ### lists of numbers, of bytes, of lists -/
abbrev iv (l : List Int) : List V := l.map V.int
abbrev nv (l : List Nat) : List V := l.map fun (n : Nat) => V.int (n : Int)
theorem nv_iv (l : List Nat) : nv l = iv (l.map fun (n : Nat) => (n : Int)) := by simp [nv, iv, List.map_map, Function.comp_def]
/-- a new object: what was tracked stands, p is new, o stands there -/
def New (H : Hp) (Q : VK) (o : HO) : Prop := ∀ (H' : Hp) (p : Addr), Same H H' → H p = none → H' p = some o → Q (.ref p) H'
def Lls (H : Hp) : List Addr → List (List Int) → Prop := Paired fun a l => H a = some (.lst (iv l))
def Nls (H : Hp) : List Addr → List (List Nat) → Prop := Paired fun a l => H a = some (.lst (nv l))
def Frs (B H : Hp) : List Addr → List (List Int × Nat) → Prop := Paired fun a f => ∃ r, B r = none ∧ H a = some (.tup [.ref r, .int (f.2 : Int)]) ∧ H r = some (.lst (iv f.1))
/-- a dict holds the contents -/
def DRel (kvs : List (Key × V)) (s : Vbwsai.Store) : Prop := ∃ l : List (Nat × Int), kvs = l.map (fun x => ((Sum.inl (x.1 : Int) : Key), V.int x.2)) ∧ l.Perm s
/-- an error of the program's own class, refused with e: all that was tracked stands -/
def Rf (K : PySem.W.Frag) (H : Hp) (E : XK) (e : Int) : Prop := ∀ (H' : Hp) (d : Addr), Same H H' → H' d = some (.xd [("error", .int e)]) → E (.ref (He.ga K "Refused")) (some d) H'
def optV : Option Int → V
  | none => .non
  | some i => .int i
/-! ### the object -/
def sF (F e p : Addr) (m : Mem) : List (Str × V) := [("files", .ref F), ("has_power", .bl m.power), ("durable", .int (m.durable : Int)), ("last", .int (m.last : Int)), ("entries", .ref e), ("side", .int (m.side : Int)), ("commit", .int (m.commit : Int)), ("is_writing", .bl m.writing), ("pending", .ref p)]
/-- the object at a is m; its list of files lies at F -/
structure MemAt (K : PySem.W.Frag) (H : Hp) (a F : Addr) (m : Mem) : Prop where
  six : m.files.length = 6
  obj : ∃ dx e p kvs, H a = some (.ins (He.ga K "Store") dx (sF F e p m)) ∧ H e = some (.dK kvs) ∧ DRel kvs m.entries ∧ H p = some (.lst (nv m.pending))
  fil : ∃ fs, H F = some (.lst (fs.map V.ref)) ∧ Nls H fs m.files
def Fr2 (a F : Addr) (H H' : Hp) : Prop := ∀ b o, H b = some o → b ≠ a → b ≠ F → H' b = some o
def Fr1 (a : Addr) (H H' : Hp) : Prop := ∀ b o, H b = some o → b ≠ a → H' b = some o
/-- how an operation ends -/
def Res (K : PySem.W.Frag) (a F : Addr) (H : Hp) (Q : VK) (E : XK) : Out → Prop
  | .error e => Rf K H E e
  | .ok (m, out) => ∀ (H' : Hp) (F' q : Addr), Fr2 a F H H' → MemAt K H' a F' m → H' q = some (.lst (iv out)) → Q (.ref q) H'
def ResL (K : PySem.W.Frag) (H : Hp) (Q : VK) (E : XK) : Except Int (List Int) → Prop
  | .error e => Rf K H E e
  | .ok out => ∀ (H' : Hp) (q : Addr), Same H H' → H' q = some (.lst (iv out)) → Q (.ref q) H'
def most : Nat := 1000000
/-! ### the promises -/
def sp_natural_of (K : PySem.W.Frag) : Sp := fun vs H Q _ => ∃ n : Int, vs = [.int n] ∧ Q (.int (Vbwsai.zigzagEncode n : Nat)) H
def sp_integer_of (K : PySem.W.Frag) : Sp := fun vs H Q _ => ∃ n : Nat, vs = [.int (n : Int)] ∧ Q (.int (Vbwsai.zigzagDecode n)) H
def sp_integer_bytes (K : PySem.W.Frag) : Sp := fun vs H Q _ => ∃ n : Int, vs = [.int n] ∧ Fit n ∧ New H Q (.lst (nv (Vbwsai.encodeInteger n)))
def sp_row_bytes (K : PySem.W.Frag) : Sp := fun vs H Q _ => ∃ (a : Addr) (l : List Int), vs = [.ref a] ∧ H a = some (.lst (iv l)) ∧ (∀ n ∈ l, Fit n) ∧ l.length ≤ 10000 ∧ New H Q (.lst (nv (Vbwsai.encodeRow l)))
def sp_checksum (K : PySem.W.Frag) : Sp := fun vs H Q _ => ∃ (a : Addr) (b : List Nat), vs = [.ref a] ∧ H a = some (.lst (nv b)) ∧ b.length ≤ most ∧ ∀ H', Same H H' → Q (.int (Vbwsai.checksum b : Nat)) H'
def sp_two_bytes (K : PySem.W.Frag) : Sp := fun vs H Q _ => ∃ n : Nat, vs = [.int (n : Int)] ∧ n < 65536 ∧ New H Q (.lst (nv (Vbwsai.twoBytes n)))
def sp_frame_of (K : PySem.W.Frag) : Sp := fun vs H Q _ => ∃ (a : Addr) (l : List Int), vs = [.ref a] ∧ H a = some (.lst (iv l)) ∧ (∀ n ∈ l, Fit n) ∧ l.length ≤ 1000 ∧ New H Q (.lst (nv (Vbwsai.encodeFrame l)))
def sp_part_integer (K : PySem.W.Frag) : Sp := fun vs H Q _ => ∃ (a : Addr) (p : List Nat), vs = [.ref a] ∧ H a = some (.lst (nv p)) ∧ ∀ H', Same H H' → Q (.int (Vbwsai.zigzagDecode (partNat p))) H'
def sp_parts_of (K : PySem.W.Frag) : Sp := fun vs H Q _ => ∃ (a : Addr) (p : List Nat), vs = [.ref a] ∧ H a = some (.lst (nv p)) ∧ p.length ≤ most ∧
  ∀ (H' : Hp) (q : Addr) (as : List Addr), Same H H' → H' q = some (.lst (as.map V.ref)) → Nls H' as (cuts p) → Q (.ref q) H'
def sp_decoded (K : PySem.W.Frag) : Sp := fun vs H Q _ => ∃ (a : Addr) (p : List Nat), vs = [.ref a] ∧ H a = some (.lst (nv p)) ∧ p.length ≤ most ∧
  match decoded p with
  | none => ∀ H', Same H H' → Q .non H'
  | some l => New H Q (.lst (iv l))
def sp_frame_at (K : PySem.W.Frag) : Sp := fun vs H Q _ => ∃ (a : Addr) (b : List Nat) (i : Nat), vs = [.ref a, .int (i : Int)] ∧ H a = some (.lst (nv b)) ∧ b.length ≤ most ∧ (∀ x ∈ b, x < 256) ∧
  match frameAt b i with
  | none => ∀ H', Same H H' → Q .non H'
  | some f => ∀ (H' : Hp) (p r : Addr), Same H H' → H r = none → H' p = some (.tup [.ref r, .int (f.2 : Int)]) → H' r = some (.lst (iv f.1)) → Q (.ref p) H'
def sp_frames_in (K : PySem.W.Frag) : Sp := fun vs H Q _ => ∃ (a : Addr) (b : List Nat), vs = [.ref a] ∧ H a = some (.lst (nv b)) ∧ b.length ≤ most ∧ (∀ x ∈ b, x < 256) ∧
  ∀ (H' : Hp) (q : Addr) (as : List Addr), Same H H' → H q = none → H' q = some (.lst (as.map V.ref)) → Frs H H' as (framesOf b) → Q (.ref q) H'
def sp_only_row (K : PySem.W.Frag) : Sp := fun vs H Q _ => ∃ (a : Addr) (b : List Nat), vs = [.ref a] ∧ H a = some (.lst (nv b)) ∧ b.length ≤ most ∧ (∀ x ∈ b, x < 256) ∧
  match onlyRow b with
  | none => ∀ H', Same H H' → Q .non H'
  | some l => ∀ (H' : Hp) (r : Addr), Same H H' → H' r = some (.lst (iv l)) → Q (.ref r) H'
def sp_is_entry (K : PySem.W.Frag) : Sp := fun vs H Q _ => ∃ k v : Int, vs = [.int k, .int v] ∧ Q (.bl (isEntry k v)) H
def sp_is_change (K : PySem.W.Frag) : Sp := fun vs H Q _ => ∃ (a : Addr) (k f v : Int), vs = [.ref a] ∧ H a = some (.lst (iv [k, f, v])) ∧ ∀ H', Same H H' → Q (.bl (isChange k f v)) H'
def sp_chunks (n : Nat) : Sp := fun vs H Q _ => ∃ (a : Addr) (l : List Int), vs = [.ref a] ∧ H a = some (.lst (iv l)) ∧ l.length ≤ most ∧
  ∀ (H' : Hp) (q : Addr) (as : List Addr), Same H H' → (∀ x ∈ as, H x = none) → H' q = some (.lst (as.map V.ref)) → Lls H' as (chunks n l) → Q (.ref q) H'
def sp_changes_of (K : PySem.W.Frag) : Sp := sp_chunks 3
def sp_pairs_of (K : PySem.W.Frag) : Sp := sp_chunks 2
def sp_are_changes (K : PySem.W.Frag) : Sp := fun vs H Q _ => ∃ (a : Addr) (l : List Int), vs = [.ref a] ∧ H a = some (.lst (iv l)) ∧ l.length ≤ most ∧ ∀ H', Same H H' → Q (.bl (Vbwsai.parseChanges l).isSome) H'
def sp_tick_row (K : PySem.W.Frag) : Sp := fun vs H Q _ => ∃ (t : Nat) (a : Addr) (l : List Int) (cs : List Vbwsai.Change), vs = [.int (t : Int), .ref a] ∧ H a = some (.lst (iv l)) ∧ l.length ≤ 1000 ∧ Vbwsai.parseChanges l = some cs ∧ New H Q (.lst (iv (Vbwsai.tickRow t cs)))
def sp_is_tick (K : PySem.W.Frag) : Sp := fun vs H Q _ => ∃ (a : Addr) (l : List Int), vs = [.ref a] ∧ H a = some (.lst (iv l)) ∧ l.length ≤ most ∧ ∀ H', Same H H' → Q (.bl (Vbwsai.parseTickRow l).isSome) H'
def sp_changed (K : PySem.W.Frag) : Sp := fun vs H Q _ => ∃ (e a : Addr) (kvs : List (Key × V)) (s : Vbwsai.Store) (l : List Int) (cs : List Vbwsai.Change), vs = [.ref e, .ref a] ∧ H e = some (.dK kvs) ∧ DRel kvs s ∧ Ent s ∧ H a = some (.lst (iv l)) ∧ l.length ≤ most ∧ Vbwsai.parseChanges l = some cs ∧
  ∀ (H' : Hp) (p : Addr) (kvs' : List (Key × V)), Same H H' → H' p = some (.dK kvs') → DRel kvs' (Vbwsai.applyChanges s cs) → Q (.ref p) H'
def sp_flat (K : PySem.W.Frag) : Sp := fun vs H Q _ => ∃ (e : Addr) (kvs : List (Key × V)) (s : Vbwsai.Store), vs = [.ref e] ∧ H e = some (.dK kvs) ∧ DRel kvs s ∧ Ent s ∧ New H Q (.lst (iv (flatS s)))
def sp_is_checkpoint (K : PySem.W.Frag) : Sp := fun vs H Q _ => ∃ (a : Addr) (l : List Int), vs = [.ref a] ∧ H a = some (.lst (iv l)) ∧ l.length ≤ most ∧ ∀ H', Same H H' → Q (.bl (Vbwsai.parseCheckpointRow l).isSome) H'
def sp_checkpoint_in (K : PySem.W.Frag) : Sp := fun vs H Q _ => ∃ (a : Addr) (b : List Nat), vs = [.ref a] ∧ H a = some (.lst (nv b)) ∧ b.length ≤ most ∧ (∀ x ∈ b, x < 256) ∧
  match Vbwsai.readCheckpoint b with
  | none => ∀ H', Same H H' → Q .non H'
  | some x => ∀ (H' : Hp) (p e : Addr) (kvs : List (Key × V)), Same H H' → H' p = some (.tup [.int (x.1 : Int), .ref e]) → H' e = some (.dK kvs) → DRel kvs x.2 → Q (.ref p) H'
def sp_commit_in (K : PySem.W.Frag) : Sp := fun vs H Q _ => ∃ (a : Addr) (b : List Nat), vs = [.ref a] ∧ H a = some (.lst (nv b)) ∧ b.length ≤ most ∧ (∀ x ∈ b, x < 256) ∧
  match Vbwsai.readCommit b with
  | none => ∀ H', Same H H' → Q .non H'
  | some x => ∀ (H' : Hp) (p : Addr), Same H H' → H' p = some (.tup [.int (x.1 : Int), .int (x.2 : Int)]) → Q (.ref p) H'
def sp_replayed (K : PySem.W.Frag) : Sp := fun vs H Q _ => ∃ (a : Addr) (b : List Nat) (t : Nat), vs = [.ref a, .int (t : Int)] ∧ H a = some (.lst (nv b)) ∧ b.length ≤ most ∧ (∀ x ∈ b, x < 256) ∧
  ∀ (H' : Hp) (p r : Addr) (as : List Addr), Same H H' → H r = none → H' p = some (.tup [.ref r, .int ((replayM t 0 (framesOf b)).2 : Int)]) → H' r = some (.lst (as.map V.ref)) → Lls H' as (replayM t 0 (framesOf b)).1 → Q (.ref p) H'
/-! #### the old journal -/
def sp_exc (C f : Str) (K : PySem.W.Frag) : Sp := fun vs H Q _ => ∃ (a : Addr) (e : Int), vs = [.ref a, .int e] ∧ H a = some (exo a (He.ga K C) none) ∧
  ∀ (H' : Hp) (d : Addr), H d = none → (∀ b o, H b = some o → b ≠ a → H' b = some o) → H' a = some (exo a (He.ga K C) (some d)) → H' d = some (exd d [(f, .int e)]) → Q .non H'
def sp_BadLine___init__ (K : PySem.W.Frag) : Sp := sp_exc "BadLine" "line" K
def sp_Refused___init__ (K : PySem.W.Frag) : Sp := sp_exc "Refused" "error" K
def sp_cut_at (K : PySem.W.Frag) : Sp := fun vs H Q _ => ∃ (a : Addr) (b : List Nat) (c : Nat), vs = [.ref a, .int (c : Int)] ∧ H a = some (.lst (nv b)) ∧ b.length ≤ most ∧
  ∀ (H' : Hp) (q : Addr) (as : List Addr), Same H H' → H' q = some (.lst (as.map V.ref)) → Nls H' as (Vbwsai.splitAtByte c [] b) → Q (.ref q) H'
def sp_are_digits (K : PySem.W.Frag) : Sp := fun vs H Q _ => ∃ (a : Addr) (b : List Nat), vs = [.ref a] ∧ H a = some (.lst (nv b)) ∧ b.length ≤ most ∧ ∀ H', Same H H' → Q (.bl (areDigits b)) H'
def sp_worth (K : PySem.W.Frag) : Sp := fun vs H Q _ => ∃ (a : Addr) (b : List Nat), vs = [.ref a] ∧ H a = some (.lst (nv b)) ∧ b.all Vbwsai.isDigit = true ∧ ∀ H', Same H H' → Q (.int (worth b : Nat)) H'
def sp_number_in (K : PySem.W.Frag) : Sp := fun vs H Q _ => ∃ (a : Addr) (b : List Nat), vs = [.ref a] ∧ H a = some (.lst (nv b)) ∧ b.length ≤ most ∧ ∀ H', Same H H' → Q (optV (Vbwsai.parseInteger b)) H'
def sp_limited (K : PySem.W.Frag) : Sp := fun vs H Q _ => ∃ (a : Addr) (b : List Nat) (lo hi : Int), vs = [.ref a, .int lo, .int hi] ∧ H a = some (.lst (nv b)) ∧ b.length ≤ most ∧
  ∀ H', Same H H' → Q (optV ((Vbwsai.parseInteger b).filter fun n => decide (lo ≤ n) && decide (n ≤ hi))) H'
def ChgOut (H : Hp) (Q : VK) : Option Vbwsai.Change → Prop
  | none => ∀ H', Same H H' → Q .non H'
  | some c => ∀ (H' : Hp) (p : Addr), Same H H' → H' p = some (.lst (iv (chg c))) → Q (.ref p) H'
def sp_removal_in (K : PySem.W.Frag) : Sp := fun vs H Q _ => ∃ (a : Addr) (b : List Nat), vs = [.ref a] ∧ H a = some (.lst (nv (b ++ [33]))) ∧ b.length ≤ 10000 ∧ ChgOut H Q (Vbwsai.parseChange (b ++ [33]))
def sp_change_in (K : PySem.W.Frag) : Sp := fun vs H Q _ => ∃ (a : Addr) (b : List Nat), vs = [.ref a] ∧ H a = some (.lst (nv b)) ∧ b.length ≤ 10000 ∧ ChgOut H Q (Vbwsai.parseChange b)
def sp_changes_in (K : PySem.W.Frag) : Sp := fun vs H Q _ => ∃ (a : Addr) (b : List Nat) (t : Nat), vs = [.ref a, .int (t : Int)] ∧ H a = some (.lst (nv b)) ∧ b.length ≤ 10000 ∧ 1 ≤ t ∧ t ≤ 100000 ∧
  match lineIn b t with
  | none => ∀ H', Same H H' → Q .non H'
  | some cs => ∀ (H' : Hp) (p : Addr), Same H H' → H' p = some (.lst (iv (cs.flatMap chg))) → Q (.ref p) H'
def sp_journal_in (K : PySem.W.Frag) : Sp := fun vs H Q E => ∃ (a : Addr) (b : List Nat), vs = [.ref a] ∧ H a = some (.lst (nv b)) ∧ b.length ≤ 10000 ∧
  match Vbwsai.importText b with
  | .error n => ∀ (H' : Hp) (d : Addr), Same H H' → H' d = some (.xd [("line", .int (n : Int))]) → E (.ref (He.ga K "BadLine")) (some d) H'
  | .ok x => ∀ (H' : Hp) (p e : Addr) (kvs : List (Key × V)), Same H H' → H' p = some (.tup [.int (x.1 : Int), .ref e]) → H' e = some (.dK kvs) → DRel kvs x.2 → Q (.ref p) H'
/-! #### the desk -/
def sp_want (K : PySem.W.Frag) : Sp := fun vs H Q E => ∃ (b : Bool) (e : Int), vs = [.bl b, .int e] ∧ (b = true → Q .non H) ∧ (b = false → Rf K H E e)
def sp_want_power_range (K : PySem.W.Frag) : Sp := fun vs H Q E => ∃ p : Int, vs = [.int p] ∧ (okPower p = true → Q .non H) ∧ (okPower p = false → Rf K H E (-1))
def sp_is_enough (K : PySem.W.Frag) : Sp := fun vs H Q _ => ∃ (p : Int) (n : Nat), vs = [.int p, .int (n : Int)] ∧ Q (.bl (enough p n)) H
def sp_Store_finish (K : PySem.W.Frag) : Sp := fun vs H Q _ => ∃ (a F : Addr) (m : Mem), vs = [.ref a] ∧ MemAt K H a F m ∧ ∀ H', Fr1 a H H' → MemAt K H' a F m.finish → Q .non H'
def sp_Store_fail (K : PySem.W.Frag) : Sp := fun vs H Q _ => ∃ (a F : Addr) (m : Mem), vs = [.ref a] ∧ MemAt K H a F m ∧ ∀ H', Fr1 a H H' → MemAt K H' a F m.fail → Q .non H'
def sp_Store_want_power (K : PySem.W.Frag) : Sp := fun vs H Q E => ∃ (a F : Addr) (m : Mem), vs = [.ref a] ∧ MemAt K H a F m ∧ (m.power = true → Q .non H) ∧ (m.power = false → Rf K H E (-7))
def sp_Store_other (K : PySem.W.Frag) : Sp := fun vs H Q _ => ∃ (a F : Addr) (m : Mem), vs = [.ref a] ∧ MemAt K H a F m ∧ m.side ≤ 1 ∧ Q (.int ((1 - m.side : Nat) : Int)) H
def sp_Store_append (K : PySem.W.Frag) : Sp := fun vs H Q _ => ∃ (a F q : Addr) (m : Mem) (i : Nat) (d : List Nat), vs = [.ref a, .int (i : Int), .ref q] ∧ MemAt K H a F m ∧ i < 6 ∧ H q = some (.lst (nv d)) ∧ (m.file i).length + d.length ≤ 10000000 ∧
  ∀ H', Fr1 F H H' → MemAt K H' a F (m.app i d) → Q .non H'
def sp_Store_begin_anew (K : PySem.W.Frag) : Sp := fun vs H Q _ => ∃ (a e dx : Addr) (F : Addr) (e0 p0 : Addr) (m : Mem) (t : Nat) (s : Vbwsai.Store) (kvs : List (Key × V)), vs = [.ref a, .int (t : Int), .ref e] ∧ H a = some (.ins (He.ga K "Store") dx (sF F e0 p0 m)) ∧ H p0 = some (.lst (nv m.pending)) ∧
  H e = some (.dK kvs) ∧ DRel kvs s ∧ Ent s ∧ Fit t ∧ ∀ (H' : Hp) (F' : Addr), Fr1 a H H' → MemAt K H' a F' (anew t s) → Q .non H'
def sp_Store___init__ (K : PySem.W.Frag) : Sp := fun vs H Q _ => ∃ (a dx : Addr), vs = [.ref a] ∧ H a = some (.ins (He.ga K "Store") dx []) ∧ ∀ (H' : Hp) (F' : Addr), Fr1 a H H' → MemAt K H' a F' (anew 0 []) → Q .non H'
def sp_op0 (f : Mem → Out) (K : PySem.W.Frag) : Sp := fun vs H Q E => ∃ (a F : Addr) (m : Mem), vs = [.ref a] ∧ MemAt K H a F m ∧ Bd most m ∧ Res K a F H Q E (f m)
def sp_op1 (f : Mem → Int → Out) (K : PySem.W.Frag) : Sp := fun vs H Q E => ∃ (a F : Addr) (m : Mem) (x : Int), vs = [.ref a, .int x] ∧ MemAt K H a F m ∧ Bd most m ∧ Res K a F H Q E (f m x)
def sp_Store_reset (K : PySem.W.Frag) : Sp := sp_op0 (fun _ => .ok (anew 0 [], [])) K
def sp_Store_tick (K : PySem.W.Frag) : Sp := fun vs H Q E => ∃ (a F r : Addr) (m : Mem) (p : Int) (l : List Int), vs = [.ref a, .int p, .ref r] ∧ MemAt K H a F m ∧ Bd most m ∧ H r = some (.lst (iv l)) ∧ l.length ≤ 2000 ∧ Res K a F H Q E (mTick m p l)
def sp_Store_write_in_part (K : PySem.W.Frag) : Sp := fun vs H Q _ => ∃ (a F q : Addr) (m : Mem) (w : List Nat) (p : Nat), vs = [.ref a, .ref q, .int (p : Int)] ∧ MemAt K H a F m ∧ Bd most m ∧ H q = some (.lst (nv w)) ∧ w.length ≤ 10000 ∧
  ∀ H', Fr1 F H H' → MemAt K H' a F (m.inPart w p) → Q .non H'
def sp_Store_begin_checkpoint (K : PySem.W.Frag) : Sp := sp_op0 mBegin K
def sp_Store_write_checkpoint (K : PySem.W.Frag) : Sp := sp_op1 mWrite K
def sp_Store_commit_checkpoint (K : PySem.W.Frag) : Sp := sp_op1 mCommit K
def sp_Store_cut_power (K : PySem.W.Frag) : Sp := sp_op0 mCut K
def sp_Store_commits (K : PySem.W.Frag) : Sp := fun vs H Q _ => ∃ (a F : Addr) (m : Mem), vs = [.ref a] ∧ MemAt K H a F m ∧ Bd most m ∧
  ∀ (H' : Hp) (q : Addr) (as : List Addr), Same H H' → H' q = some (.lst (as.map V.ref)) → Paired (fun p (x : Nat × Nat) => H' p = some (.tup [.int (x.1 : Int), .int (x.2 : Int)])) as (mCommits m) → Q (.ref q) H'
def sp_Store_recover (K : PySem.W.Frag) : Sp := sp_op0 mRecover K
def sp_Store_recovered (K : PySem.W.Frag) : Sp := fun vs H Q E => ∃ (a F p e : Addr) (m : Mem) (c side t : Nat) (s : Vbwsai.Store) (kvs : List (Key × V)), vs = [.ref a, .int (c : Int), .int (side : Int), .ref p] ∧ MemAt K H a F m ∧ Bd most m ∧ side ≤ 1 ∧
  H p = some (.tup [.int (t : Int), .ref e]) ∧ H e = some (.dK kvs) ∧ DRel kvs s ∧ Ent s ∧ Res K a F H Q E (.ok (mRecovered m c side t s))
def sp_Store_get (K : PySem.W.Frag) : Sp := sp_op1 mGet K
def sp_Store_contents (K : PySem.W.Frag) : Sp := sp_op0 mContents K
def sp_Store_read_file (K : PySem.W.Frag) : Sp := sp_op1 mRead K
def sp_Store_corrupt_byte (K : PySem.W.Frag) : Sp := fun vs H Q E => ∃ (a F : Addr) (m : Mem) (i p b : Int), vs = [.ref a, .int i, .int p, .int b] ∧ MemAt K H a F m ∧ Bd most m ∧ Res K a F H Q E (mCorrupt m i p b)
def sp_Store_import_journal (K : PySem.W.Frag) : Sp := fun vs H Q E => ∃ (a F r : Addr) (m : Mem) (b : List Nat), vs = [.ref a, .ref r] ∧ MemAt K H a F m ∧ Bd most m ∧ H r = some (.lst (nv b)) ∧ b.length ≤ 10000 ∧ Res K a F H Q E (mImport m b)
def sp_Store_status (K : PySem.W.Frag) : Sp := sp_op0 mStatus K
def sp_Store_list_ticks (K : PySem.W.Frag) : Sp := sp_op0 mList K
/-! #### lists alone, the calls -/
def sp_counted_frames (K : PySem.W.Frag) : Sp := fun vs H Q _ => ∃ (a : Addr) (b : List Nat), vs = [.ref a] ∧ H a = some (.lst (nv b)) ∧ b.length ≤ most ∧ (∀ x ∈ b, x < 256) ∧ ∀ (H' : Hp) (q : Addr), Same H H' → H' q = some (.lst (iv (mCount b))) → Q (.ref q) H'
def sp_checksum_told (K : PySem.W.Frag) : Sp := fun vs H Q _ => ∃ (a : Addr) (b : List Nat), vs = [.ref a] ∧ H a = some (.lst (nv b)) ∧ b.length ≤ most ∧ ∀ (H' : Hp) (q : Addr), Same H H' → H' q = some (.lst (iv [(Vbwsai.checksum b : Int)])) → Q (.ref q) H'
def sp_frame_told (K : PySem.W.Frag) : Sp := fun vs H Q E => ∃ (a : Addr) (l : List Int), vs = [.ref a] ∧ H a = some (.lst (iv l)) ∧ (∀ n ∈ l, Fit n) ∧ l.length ≤ 2000 ∧ (¬ l.length ≤ 40 → Rf K H E (-1)) ∧ (l.length ≤ 40 → New H Q (.lst (nv (Vbwsai.encodeFrame l))))
def sp_previewed (K : PySem.W.Frag) : Sp := fun vs H Q _ => ∃ (a : Addr) (b : List Nat), vs = [.ref a] ∧ H a = some (.lst (nv b)) ∧ b.length ≤ 10000 ∧ ∀ (H' : Hp) (q : Addr), Same H H' → H' q = some (.lst (iv (mPreview b))) → Q (.ref q) H'
def sp_of (f : Mem → Int → List Int → List Int → Out) (A : Int → Prop) (K : PySem.W.Frag) : Sp := fun vs H Q E => ∃ (a F qn qr : Addr) (m : Mem) (c : Int) (n row : List Int), vs = [.ref a, .int c, .ref qn, .ref qr] ∧ MemAt K H a F m ∧ Bd most m ∧
  H qn = some (.lst (iv n)) ∧ H qr = some (.lst (iv row)) ∧ CallOk c n row ∧ A c ∧ Res K a F H Q E (f m c n row)
def sp_of_writing (K : PySem.W.Frag) : Sp := sp_of wOf (fun c => c < 7) K
def sp_of_store (K : PySem.W.Frag) : Sp := sp_of sOf (fun c => ¬ c < 7 ∧ ¬ (c = 13 ∨ c = 15 ∨ c = 16 ∨ c = 17)) K
def sp_of_lists (K : PySem.W.Frag) : Sp := fun vs H Q E => ∃ (qr : Addr) (c : Int) (n row : List Int), vs = [.int c, .ref qr] ∧ H qr = some (.lst (iv row)) ∧ CallOk c n row ∧ (c = 13 ∨ c = 15 ∨ c = 16 ∨ c = 17) ∧ ResL K H Q E (lOf c row)
def sp_called (K : PySem.W.Frag) : Sp := sp_of cOf (fun _ => True) K
/-- what an answer is, the object behind it -/
def told (m : Mem) : Out → Mem × List Int
  | .error e => (m, [e])
  | .ok (m', out) => (m', 0 :: out)
def sp_answered0 (K : PySem.W.Frag) : Sp := fun vs H Q _ => ∃ (a F qn qr : Addr) (m : Mem) (c : Int) (n row : List Int), vs = [.ref a, .int c, .ref qn, .ref qr] ∧ MemAt K H a F m ∧ Bd most m ∧
  H qn = some (.lst (iv n)) ∧ H qr = some (.lst (iv row)) ∧ CallOk c n row ∧ (∀ m' out, cOf m c n row = .ok (m', out) → out.length ≤ 15000000) ∧
  ∀ (H' : Hp) (F' q : Addr), Fr2 a F H H' → MemAt K H' a F' (told m (cOf m c n row)).1 → H' q = some (.lst (iv (told m (cOf m c n row)).2)) → Q (.ref q) H'
/-- the same, a list at g aside: the def doesn't know it, and leaves it -/
def sp_fr (sp : Sp) : Sp := fun vs H Q _ => ∃ (g : Addr) (xs : List V), H g = some (.lst xs) ∧ sp vs (del H g) (fun v H' => H' g = none → Q v (upd H' g (.lst xs))) (fun _ _ _ => False)
def sp_answered (K : PySem.W.Frag) : Sp := sp_fr (sp_answered0 K)
def sp_answers (K : PySem.W.Frag) : Sp := fun vs H Q _ => ∃ (a : Addr) (ns : List Int), vs = [.ref a] ∧ SqL K H a (ns.map V.int) ∧ PyVbwsai.answers_asked ns = true ∧
  ∀ (H' : Hp) (p : Addr), H' p = some (.lst ((PyVbwsai.answers ns).map V.int)) → Q (.ref p) H'
def t_natural_of (K : PySem.W.Frag) : TS := (tSeq (tIfS (tTest (tOp rGe (tVar 0) (tC (.int 0)))) (tRet (tOp rMulI (tC (.int 2)) (tVar 0))) tNext)
  (tRet (tOp rSubI (tOp rSubI (tC (.int 0)) (tOp rMulI (tC (.int 2)) (tVar 0))) (tC (.int 1)))))
def t_integer_of (K : PySem.W.Frag) : TS := (tSeq (tIfS (tTest (tOp rEqI (tOp rModI (tVar 0) (tC (.int 2))) (tC (.int 0)))) (tRet (tOp rFdivI (tVar 0) (tC (.int 2)))) tNext)
  (tRet (tOp rSubI (tC (.int 0)) (tOp rFdivI (tOp rAddI (tVar 0) (tC (.int 1))) (tC (.int 2))))))
def t_integer_bytes (K : PySem.W.Frag) : TS := (tSeq (tAsg (tLst tNil) (gName 1))
  (tSeq (tAsg (tCall (sp_natural_of K) [] E0 (tCons (tVar 0) tNil)) (gName 2))
  (tSeq (tWhile (tTest (tOp rGe (tVar 2) (tC (.int (128))))) (tSeq (tDrop (tBM K "list" rAppend (tVar 1) (tCons (tOp rAddI (tOp rModI (tVar 2) (tC (.int (128)))) (tC (.int (128)))) tNil)))
  (tAsg (tOp rFdivI (tVar 2) (tC (.int (128)))) (gName 2))))
  (tSeq (tDrop (tBM K "list" rAppend (tVar 1) (tCons (tVar 2) tNil)))
  (tRet (tVar 1))))))
def t_row_bytes (K : PySem.W.Frag) : TS := (tSeq (tAsg (tLst tNil) (gName 1))
  (tSeq (tFor (iList K (tVar 0)) (gName 2) (tDrop (tBM K "list" rExtend (tVar 1) (tCons (tCall (sp_integer_bytes K) [] E0 (tCons (tVar 2) tNil)) tNil))))
  (tRet (tVar 1))))
def t_checksum (K : PySem.W.Frag) : TS := (tSeq (tAsg (tC (.int 0)) (gName 1))
  (tSeq (tFor (iEnum K (tCons (tVar 0) tNil)) (gTup K 2 (gCons (gName 2) (gCons (gName 3) gNil))) (tAug 1 (tOp rMulI (tOp rAddI (tVar 3) (tC (.int 1))) (tOp rAddI (tVar 2) (tC (.int 1)))) (ipI fun i j => i + j)))
  (tRet (tOp rModI (tVar 1) (tC (.int (65521)))))))
def t_two_bytes (K : PySem.W.Frag) : TS := (tRet (tLst (tCons (tOp rFdivI (tVar 0) (tC (.int (256)))) (tCons (tOp rModI (tVar 0) (tC (.int (256)))) tNil))))
def t_frame_of (K : PySem.W.Frag) : TS := (tSeq (tAsg (tCall (sp_row_bytes K) [] E0 (tCons (tVar 0) tNil)) (gName 1))
  (tSeq (tAsg (tCall (sp_two_bytes K) [] E0 (tCons (tCB (rLenS K) (tCons (tVar 1) tNil)) tNil)) (gName 2))
  (tRet (tOp rCat (tOp rCat (tOp rCat (tOp rCat (tVar 2) (tCall (sp_two_bytes K) [] E0 (tCons (tCall (sp_checksum K) [] E0 (tCons (tVar 2) tNil)) tNil))) (tVar 1)) (tCall (sp_two_bytes K) [] E0 (tCons (tCall (sp_checksum K) [] E0 (tCons (tVar 1) tNil)) tNil))) (tLst (tCons (tC (.int (165))) tNil))))))
def t_part_integer (K : PySem.W.Frag) : TS := (tSeq (tAsg (tC (.int 0)) (gName 1))
  (tSeq (tAsg (tC (.int 1)) (gName 2))
  (tSeq (tFor (iList K (tVar 0)) (gName 3) (tSeq (tAug 1 (tOp rMulI (tOp rModI (tVar 3) (tC (.int (128)))) (tVar 2)) (ipI fun i j => i + j))
  (tAsg (tOp rMulI (tVar 2) (tC (.int (128)))) (gName 2))))
  (tRet (tCall (sp_integer_of K) [] E0 (tCons (tVar 1) tNil))))))
def t_parts_of (K : PySem.W.Frag) : TS := (tSeq (tAsg (tLst (tCons (tLst tNil) tNil)) (gName 1))
  (tSeq (tFor (iList K (tVar 0)) (gName 2) (tSeq (tDrop (tBM K "list" rAppend (tOp (rIxL K) (tVar 1) (tUn rNeg (tC (.int 1)))) (tCons (tVar 2) tNil)))
  (tIfS (tTest (tOp rLt (tVar 2) (tC (.int (128))))) (tDrop (tBM K "list" rAppend (tVar 1) (tCons (tLst tNil) tNil))) tNext)))
  (tRet (tVar 1))))
def t_decoded (K : PySem.W.Frag) : TS := (tSeq (tAsg (tCall (sp_parts_of K) [] E0 (tCons (tVar 0) tNil)) (gName 1))
  (tSeq (tIfS (tOr (tTest (tOp (rNeD K) (tOp (rIxL K) (tVar 1) (tUn rNeg (tC (.int 1)))) (tLst tNil))) (tB (tCB (rAny K) (tCons (tLc (iList K (tVar 1)) (gName 2) tYes (tOp rGt (tCB (rLenS K) (tCons (tVar 2) tNil)) (tC (.int (12)))) [2]) tNil)))) (tRet (tC .non)) tNext)
  (tRet (tLc (iList K (tSl (rSlL K) (tVar 1) tNoPart (tPart (tUn rNeg (tC (.int 1)))))) (gName 2) tYes (tCall (sp_part_integer K) [] E0 (tCons (tVar 2) tNil)) [2]))))
def t_frame_at (K : PySem.W.Frag) : TS := (tSeq (tIfS (tTest (tOp rLt (tCB (rLenS K) (tCons (tVar 0) tNil)) (tOp rAddI (tVar 1) (tC (.int (7)))))) (tRet (tC .non)) tNext)
  (tSeq (tAsg (tSl (rSlL K) (tVar 0) (tPart (tVar 1)) (tPart (tOp rAddI (tVar 1) (tC (.int (2)))))) (gName 2))
  (tSeq (tAsg (tOp rAddI (tOp rMulI (tOp (rIxL K) (tVar 2) (tC (.int 0))) (tC (.int (256)))) (tOp (rIxL K) (tVar 2) (tC (.int 1)))) (gName 3))
  (tSeq (tAsg (tOp rAddI (tOp rAddI (tVar 1) (tC (.int (7)))) (tVar 3)) (gName 4))
  (tSeq (tIfS (tOr (tTest (tOp rLt (tCB (rLenS K) (tCons (tVar 0) tNil)) (tVar 4))) (tTest (tOp (rNeD K) (tSl (rSlL K) (tVar 0) (tPart (tOp rAddI (tVar 1) (tC (.int (2))))) (tPart (tOp rAddI (tVar 1) (tOp rMulI (tC (.int 2)) (tC (.int (2))))))) (tCall (sp_two_bytes K) [] E0 (tCons (tCall (sp_checksum K) [] E0 (tCons (tVar 2) tNil)) tNil))))) (tRet (tC .non)) tNext)
  (tSeq (tAsg (tSl (rSlL K) (tVar 0) (tPart (tOp rAddI (tVar 1) (tOp rMulI (tC (.int 2)) (tC (.int (2)))))) (tPart (tOp rAddI (tOp rAddI (tVar 1) (tOp rMulI (tC (.int 2)) (tC (.int (2))))) (tVar 3)))) (gName 5))
  (tSeq (tIfS (tOr (tTest (tOp (rNeD K) (tSl (rSlL K) (tVar 0) (tPart (tOp rSubI (tOp rSubI (tVar 4) (tC (.int 1))) (tC (.int (2))))) (tPart (tOp rSubI (tVar 4) (tC (.int 1))))) (tCall (sp_two_bytes K) [] E0 (tCons (tCall (sp_checksum K) [] E0 (tCons (tVar 5) tNil)) tNil)))) (tTest (tOp rNeI (tOp (rIxL K) (tVar 0) (tOp rSubI (tVar 4) (tC (.int 1)))) (tC (.int (165)))))) (tRet (tC .non)) tNext)
  (tSeq (tAsg (tCall (sp_decoded K) [] E0 (tCons (tVar 5) tNil)) (gName 6))
  (tSeq (tIfS (tTest (tOp rIsN (tVar 6) (tC .non))) (tRet (tC .non)) tNext)
  (tRet (tTup (tCons (tVar 6) (tCons (tVar 4) tNil)))))))))))))
def t_frames_in (K : PySem.W.Frag) : TS := (tSeq (tAsg (tLst tNil) (gName 1))
  (tSeq (tAsg (tCall (sp_frame_at K) [] E0 (tCons (tVar 0) (tCons (tC (.int 0)) tNil))) (gName 2))
  (tSeq (tWhile (tTest (tOp rNotN (tVar 2) (tC .non))) (tSeq (tDrop (tBM K "list" rAppend (tVar 1) (tCons (tVar 2) tNil)))
  (tAsg (tCall (sp_frame_at K) [] E0 (tCons (tVar 0) (tCons (tOp (rIxT K) (tVar 2) (tC (.int 1))) tNil))) (gName 2))))
  (tRet (tVar 1)))))
def t_only_row (K : PySem.W.Frag) : TS := (tSeq (tAsg (tCall (sp_frame_at K) [] E0 (tCons (tVar 0) (tCons (tC (.int 0)) tNil))) (gName 1))
  (tSeq (tIfS (tOr (tTest (tOp rIsN (tVar 1) (tC .non))) (tTest (tOp rNeI (tOp (rIxT K) (tVar 1) (tC (.int 1))) (tCB (rLenS K) (tCons (tVar 0) tNil))))) (tRet (tC .non)) tNext)
  (tRet (tOp (rIxT K) (tVar 1) (tC (.int 0))))))
def t_is_entry (K : PySem.W.Frag) : TS := (tRet (tAndV (tChain rLe rLe (tC (.int 0)) (tVar 0) (tC (.int (63)))) (tOp rLe (tCB rAbs (tCons (tVar 1) tNil)) (tC (.int (1000000000000000000))))))
def t_is_change (K : PySem.W.Frag) : TS := (tRet (tAndV (tCall (sp_is_entry K) [] E0 (tCons (tOp (rIxL K) (tVar 0) (tC (.int 0))) (tCons (tOp (rIxL K) (tVar 0) (tC (.int 2))) tNil))) (tOp (rIn K false) (tOp (rIxL K) (tVar 0) (tC (.int 1))) (tTup (tCons (tC (.int (0))) (tCons (tC (.int (1))) tNil))))))
def t_changes_of (K : PySem.W.Frag) : TS := (tRet (tLc (iRng3 (tCons (tC (.int 0)) (tCons (tCB (rLenS K) (tCons (tVar 0) tNil)) (tCons (tC (.int (3))) tNil)))) (gName 1) tYes (tSl (rSlL K) (tVar 0) (tPart (tVar 1)) (tPart (tOp rAddI (tVar 1) (tC (.int (3)))))) [1]))
def t_are_changes (K : PySem.W.Frag) : TS := (tSeq (tIfS (tTest (tOp rNeI (tOp rModI (tCB (rLenS K) (tCons (tVar 0) tNil)) (tC (.int (3)))) (tC (.int 0)))) (tRet (tC (.bl false))) tNext)
  (tRet (tCB (rAll K) (tCons (tLc (iList K (tCall (sp_changes_of K) [] E0 (tCons (tVar 0) tNil))) (gName 1) tYes (tCall (sp_is_change K) [] E0 (tCons (tVar 1) tNil)) [1]) tNil))))
def t_tick_row (K : PySem.W.Frag) : TS := (tSeq (tAsg (tLst (tCons (tVar 0) tNil)) (gName 2))
  (tSeq (tFor (iList K (tCall (sp_changes_of K) [] E0 (tCons (tVar 1) tNil))) (gLst K 3 (gCons (gName 3) (gCons (gName 4) (gCons (gName 5) gNil)))) (tDrop (tBM K "list" rExtend (tVar 2) (tCons (tLst (tCons (tVar 3) (tCons (tVar 4) (tCons (tOp rMulI (tVar 5) (tVar 4)) tNil)))) tNil))))
  (tRet (tVar 2))))
def t_is_tick (K : PySem.W.Frag) : TS := (tRet (tAndV (tOp (rNeD K) (tVar 0) (tLst tNil)) (tAndV (tOp rGe (tOp (rIxL K) (tVar 0) (tC (.int 0))) (tC (.int 1))) (tCall (sp_are_changes K) [] E0 (tCons (tSl (rSlL K) (tVar 0) (tPart (tC (.int 1))) tNoPart) tNil)))))
def t_changed (K : PySem.W.Frag) : TS := (tSeq (tAsg (tCB rDictD (tCons (tVar 0) tNil)) (gName 2))
  (tSeq (tFor (iList K (tCall (sp_changes_of K) [] E0 (tCons (tVar 1) tNil))) (gLst K 3 (gCons (gName 3) (gCons (gName 4) (gCons (gName 5) gNil)))) (tIfS (tTest (tOp rEqI (tVar 4) (tC (.int (1))))) (sDPut (tVar 2) (tVar 3) (tVar 5)) (tDrop (tDPop2 (tVar 2) (tVar 3) (tC .non)))))
  (tRet (tVar 2))))
def t_flat (K : PySem.W.Frag) : TS := (tSeq (tAsg (tLst tNil) (gName 1))
  (tSeq (tFor (iList K (tCB rSortedDI (tCons (tVar 0) tNil))) (gName 2) (tDrop (tBM K "list" rExtend (tVar 1) (tCons (tLst (tCons (tVar 2) (tCons (tDGet (tVar 0) (tVar 2)) tNil))) tNil))))
  (tRet (tVar 1))))
def t_pairs_of (K : PySem.W.Frag) : TS := (tRet (tLc (iRng3 (tCons (tC (.int 0)) (tCons (tCB (rLenS K) (tCons (tVar 0) tNil)) (tCons (tC (.int 2)) tNil)))) (gName 1) tYes (tSl (rSlL K) (tVar 0) (tPart (tVar 1)) (tPart (tOp rAddI (tVar 1) (tC (.int 2))))) [1]))
def t_is_checkpoint (K : PySem.W.Frag) : TS := (tSeq (tIfS (tOr (tTest (tOp rNeI (tOp rModI (tCB (rLenS K) (tCons (tVar 0) tNil)) (tC (.int 2))) (tC (.int 1)))) (tTest (tOp rLt (tOp (rIxL K) (tVar 0) (tC (.int 0))) (tC (.int 0))))) (tRet (tC (.bl false))) tNext)
  (tSeq (tAsg (tCall (sp_pairs_of K) [] E0 (tCons (tSl (rSlL K) (tVar 0) (tPart (tC (.int 1))) tNoPart) tNil)) (gName 1))
  (tSeq (tIfS (tNot (tB (tCB (rAll K) (tCons (tLc (iList K (tVar 1)) (gName 4) tYes (tCall (sp_is_entry K) [] E0 (tCons (tOp (rIxL K) (tVar 4) (tC (.int 0))) (tCons (tOp (rIxL K) (tVar 4) (tC (.int 1))) tNil))) [4]) tNil)))) (tRet (tC (.bl false))) tNext)
  (tRet (tCB (rAll K) (tCons (tLc (iZip K (tCons (tVar 1) (tCons (tSl (rSlL K) (tVar 1) (tPart (tC (.int 1))) tNoPart) tNil))) (gTup K 2 (gCons (gName 2) (gCons (gName 3) gNil))) tYes (tOp rLt (tOp (rIxL K) (tVar 2) (tC (.int 0))) (tOp (rIxL K) (tVar 3) (tC (.int 0)))) [2, 3]) tNil))))))
def t_checkpoint_in (K : PySem.W.Frag) : TS := (tSeq (tAsg (tCall (sp_only_row K) [] E0 (tCons (tVar 0) tNil)) (gName 1))
  (tSeq (tIfS (tOr (tTest (tOp rIsN (tVar 1) (tC .non))) (tNot (tB (tCall (sp_is_checkpoint K) [] E0 (tCons (tVar 1) tNil))))) (tRet (tC .non)) tNext)
  (tRet (tTup (tCons (tOp (rIxL K) (tVar 1) (tC (.int 0))) (tCons (tCB (rDictP K) (tCons (tLc (iList K (tCall (sp_pairs_of K) [] E0 (tCons (tSl (rSlL K) (tVar 1) (tPart (tC (.int 1))) tNoPart) tNil))) (gName 2) tYes (tTup (tCons (tOp (rIxL K) (tVar 2) (tC (.int 0))) (tCons (tOp (rIxL K) (tVar 2) (tC (.int 1))) tNil))) [2]) tNil)) tNil))))))
def t_commit_in (K : PySem.W.Frag) : TS := (tSeq (tAsg (tCall (sp_only_row K) [] E0 (tCons (tVar 0) tNil)) (gName 1))
  (tSeq (tIfS (tOr (tTest (tOp rIsN (tVar 1) (tC .non))) (tOr (tTest (tOp rNeI (tCB (rLenS K) (tCons (tVar 1) tNil)) (tC (.int 2)))) (tOr (tTest (tOp rLt (tOp (rIxL K) (tVar 1) (tC (.int 0))) (tC (.int 1)))) (tNot (tTest (tChain rLe rLt (tC (.int 0)) (tOp (rIxL K) (tVar 1) (tC (.int 1))) (tC (.int (2))))))))) (tRet (tC .non)) tNext)
  (tRet (tTup (tCons (tOp (rIxL K) (tVar 1) (tC (.int 0))) (tCons (tOp (rIxL K) (tVar 1) (tC (.int 1))) tNil))))))
def t_replayed (K : PySem.W.Frag) : TS := (tSeq (tAsg (tLst tNil) (gName 2))
  (tSeq (tAsg (tC (.int 0)) (gName 3))
  (tSeq (tFor (iList K (tCall (sp_frames_in K) [] E0 (tCons (tVar 0) tNil))) (gTup K 2 (gCons (gName 4) (gCons (gName 5) gNil))) (tSeq (tIfS (tOr (tNot (tB (tCall (sp_is_tick K) [] E0 (tCons (tVar 4) tNil)))) (tTest (tOp rNeI (tOp (rIxL K) (tVar 4) (tC (.int 0))) (tOp rAddI (tOp rAddI (tVar 1) (tCB (rLenS K) (tCons (tVar 2) tNil))) (tC (.int 1)))))) (tRet (tTup (tCons (tVar 2) (tCons (tVar 3) tNil)))) tNext)
  (tSeq (tDrop (tBM K "list" rAppend (tVar 2) (tCons (tVar 4) tNil)))
  (tAsg (tVar 5) (gName 3)))))
  (tRet (tTup (tCons (tVar 2) (tCons (tVar 3) tNil)))))))
def t_cut_at (K : PySem.W.Frag) : TS := (tSeq (tAsg (tLst (tCons (tLst tNil) tNil)) (gName 2))
  (tSeq (tFor (iList K (tVar 0)) (gName 3) (tIfS (tTest (tOp rEqI (tVar 3) (tVar 1))) (tDrop (tBM K "list" rAppend (tVar 2) (tCons (tLst tNil) tNil))) (tDrop (tBM K "list" rAppend (tOp (rIxL K) (tVar 2) (tUn rNeg (tC (.int 1)))) (tCons (tVar 3) tNil)))))
  (tRet (tVar 2))))
def t_are_digits (K : PySem.W.Frag) : TS := (tSeq (tIfS (tOr (tNot (tTest (tChain rLe rLe (tC (.int 1)) (tCB (rLenS K) (tCons (tVar 0) tNil)) (tC (.int (19)))))) (tNot (tB (tCB (rAll K) (tCons (tLc (iList K (tVar 0)) (gName 1) tYes (tChain rLe rLe (tC (.int (48))) (tVar 1) (tC (.int (57)))) [1]) tNil))))) (tRet (tC (.bl false))) tNext)
  (tRet (tOrV (tOp rEqI (tCB (rLenS K) (tCons (tVar 0) tNil)) (tC (.int 1))) (tOp rNeI (tOp (rIxL K) (tVar 0) (tC (.int 0))) (tC (.int (48)))))))
def t_worth (K : PySem.W.Frag) : TS := (tSeq (tAsg (tC (.int 0)) (gName 1))
  (tSeq (tFor (iList K (tVar 0)) (gName 2) (tAsg (tOp rSubI (tOp rAddI (tOp rMulI (tC (.int 10)) (tVar 1)) (tVar 2)) (tC (.int (48)))) (gName 1)))
  (tRet (tVar 1))))
def t_number_in (K : PySem.W.Frag) : TS := (tSeq (tIfS (tTest (tOp (rEqD K) (tSl (rSlL K) (tVar 0) tNoPart (tPart (tC (.int 1)))) (tLst (tCons (tC (.int (45))) tNil)))) (tSeq (tIfS (tOr (tNot (tB (tCall (sp_are_digits K) [] E0 (tCons (tSl (rSlL K) (tVar 0) (tPart (tC (.int 1))) tNoPart) tNil)))) (tTest (tOp rEqI (tOp (rIxL K) (tVar 0) (tC (.int 1))) (tC (.int (48)))))) (tRet (tC .non)) tNext)
  (tRet (tOp rSubI (tC (.int 0)) (tCall (sp_worth K) [] E0 (tCons (tSl (rSlL K) (tVar 0) (tPart (tC (.int 1))) tNoPart) tNil))))) tNext)
  (tSeq (tIfS (tNot (tB (tCall (sp_are_digits K) [] E0 (tCons (tVar 0) tNil)))) (tRet (tC .non)) tNext)
  (tRet (tCall (sp_worth K) [] E0 (tCons (tVar 0) tNil)))))
def t_limited (K : PySem.W.Frag) : TS := (tSeq (tAsg (tCall (sp_number_in K) [] E0 (tCons (tVar 0) tNil)) (gName 3))
  (tSeq (tIfS (tOr (tTest (tOp rIsN (tVar 3) (tC .non))) (tNot (tTest (tChain rLe rLe (tVar 1) (tVar 3) (tVar 2))))) (tRet (tC .non)) tNext)
  (tRet (tVar 3))))
def t_removal_in (K : PySem.W.Frag) : TS := (tSeq (tAsg (tCall (sp_limited K) [] E0 (tCons (tSl (rSlL K) (tVar 0) tNoPart (tPart (tUn rNeg (tC (.int 1))))) (tCons (tC (.int 0)) (tCons (tC (.int (63))) tNil)))) (gName 1))
  (tSeq (tIfS (tTest (tOp rIsN (tVar 1) (tC .non))) (tRet (tC .non)) tNext)
  (tRet (tLst (tCons (tVar 1) (tCons (tC (.int (0))) (tCons (tC (.int 0)) tNil)))))))
def t_change_in (K : PySem.W.Frag) : TS := (tSeq (tIfS (tTest (tOp (rEqD K) (tSl (rSlL K) (tVar 0) (tPart (tUn rNeg (tC (.int 1)))) tNoPart) (tLst (tCons (tC (.int (33))) tNil)))) (tRet (tCall (sp_removal_in K) [] E0 (tCons (tVar 0) tNil))) tNext)
  (tSeq (tAsg (tCall (sp_cut_at K) [] E0 (tCons (tVar 0) (tCons (tC (.int (61))) tNil))) (gName 1))
  (tSeq (tIfS (tTest (tOp rNeI (tCB (rLenS K) (tCons (tVar 1) tNil)) (tC (.int 2)))) (tRet (tC .non)) tNext)
  (tSeq (tAsg (tCall (sp_limited K) [] E0 (tCons (tOp (rIxL K) (tVar 1) (tC (.int 0))) (tCons (tC (.int 0)) (tCons (tC (.int (63))) tNil)))) (gName 2))
  (tSeq (tAsg (tCall (sp_limited K) [] E0 (tCons (tOp (rIxL K) (tVar 1) (tC (.int 1))) (tCons (tOp rSubI (tC (.int 0)) (tC (.int (1000000000000000000)))) (tCons (tC (.int (1000000000000000000))) tNil)))) (gName 3))
  (tSeq (tIfS (tOr (tTest (tOp rIsN (tVar 2) (tC .non))) (tTest (tOp rIsN (tVar 3) (tC .non)))) (tRet (tC .non)) tNext)
  (tRet (tLst (tCons (tVar 2) (tCons (tC (.int (1))) (tCons (tVar 3) tNil)))))))))))
def t_changes_in (K : PySem.W.Frag) : TS := (tSeq (tAsg (tCall (sp_cut_at K) [] E0 (tCons (tVar 0) (tCons (tC (.int (32))) tNil))) (gName 2))
  (tSeq (tIfS (tOr (tTest (tOp rNe (tCall (sp_number_in K) [] E0 (tCons (tOp (rIxL K) (tVar 2) (tC (.int 0))) tNil)) (tVar 1))) (tTest (tOp rGt (tCB (rLenS K) (tCons (tVar 2) tNil)) (tOp rAddI (tC (.int 1)) (tC (.int (16))))))) (tRet (tC .non)) tNext)
  (tSeq (tAsg (tLst tNil) (gName 3))
  (tSeq (tFor (iList K (tSl (rSlL K) (tVar 2) (tPart (tC (.int 1))) tNoPart)) (gName 4) (tSeq (tAsg (tCall (sp_change_in K) [] E0 (tCons (tVar 4) tNil)) (gName 5))
  (tSeq (tIfS (tTest (tOp rIsN (tVar 5) (tC .non))) (tRet (tC .non)) tNext)
  (tDrop (tBM K "list" rExtend (tVar 3) (tCons (tVar 5) tNil))))))
  (tRet (tVar 3))))))
def t_journal_in (K : PySem.W.Frag) (E : XK) : TS := (tSeq (tAsg (tSl (rSlL K) (tCall (sp_cut_at K) [] E0 (tCons (tVar 0) (tCons (tC (.int (10))) tNil))) tNoPart (tPart (tUn rNeg (tC (.int 1))))) (gName 1))
  (tSeq (tAsg tDNewK (gName 2))
  (tSeq (tFor (iEnum K (tCons (tVar 1) tNil)) (gTup K 2 (gCons (gName 3) (gCons (gName 4) gNil))) (tSeq (tAsg (tCall (sp_changes_in K) [] E0 (tCons (tVar 4) (tCons (tOp rAddI (tVar 3) (tC (.int 1))) tNil))) (gName 5))
  (tSeq (tIfS (tTest (tOp rIsN (tVar 5) (tC .non))) (tRaiseO (He.ga K "BadLine") (sp_BadLine___init__ K) E (tCons (tOp rAddI (tVar 3) (tC (.int 1))) tNil)) tNext)
  (tAsg (tCall (sp_changed K) [] E0 (tCons (tVar 2) (tCons (tVar 5) tNil))) (gName 2)))))
  (tRet (tTup (tCons (tCB (rLenS K) (tCons (tVar 1) tNil)) (tCons (tVar 2) tNil)))))))
def t_want (K : PySem.W.Frag) (E : XK) : TS := (tIfS (tNot (tB (tVar 0))) (tRaiseO (He.ga K "Refused") (sp_Refused___init__ K) E (tCons (tVar 1) tNil)) tNext)
def t_want_power_range (K : PySem.W.Frag) (E : XK) : TS := (tDrop (tCall (sp_want K) [] E (tCons (tChain rLe rLe (tC (.int (-1))) (tVar 0) (tC (.int (100000)))) (tCons (tC (.int (-1))) tNil))))
def t_is_enough (K : PySem.W.Frag) : TS := (tRet (tOrV (tOp rEqI (tVar 0) (tC (.int (-1)))) (tOp rGe (tVar 0) (tVar 1))))
def t_Store_finish (K : PySem.W.Frag) : TS := (tSeq (sFld K (tVar 0) (tC (.bl false)) "is_writing")
  (sFld K (tVar 0) (tLst tNil) "pending"))
def t_Store_begin_anew (K : PySem.W.Frag) : TS := (tSeq (sFld K (tVar 0) (tLst (tCons (tCall (sp_frame_of K) [] E0 (tCons (tOp rCat (tLst (tCons (tVar 1) tNil)) (tCall (sp_flat K) [] E0 (tCons (tVar 2) tNil))) tNil)) (tCons (tLst tNil) (tCons (tLst tNil) (tCons (tLst tNil) (tCons (tLst tNil) (tCons (tCall (sp_frame_of K) [] E0 (tCons (tLst (tCons (tC (.int 1)) (tCons (tC (.int 0)) tNil))) tNil)) tNil))))))) "files")
  (tSeq (sFld K (tVar 0) (tC (.bl true)) "has_power")
  (tSeq (sFld K (tVar 0) (tVar 1) "durable")
  (tSeq (sFld K (tVar 0) (tVar 1) "last")
  (tSeq (sFld K (tVar 0) (tVar 2) "entries")
  (tSeq (sFld K (tVar 0) (tC (.int 0)) "side")
  (tSeq (sFld K (tVar 0) (tC (.int 1)) "commit")
  (tDrop (tMeth (He.ga K "Store") "finish" (sp_Store_finish K) [] E0 (tVar 0) tNil)))))))))
def t_Store___init__ (K : PySem.W.Frag) : TS := (tSeq (sFld K (tVar 0) (tLst tNil) "files")
  (tSeq (sFld K (tVar 0) (tC (.bl true)) "has_power")
  (tSeq (sFld K (tVar 0) (tC (.int 0)) "durable")
  (tSeq (sFld K (tVar 0) (tC (.int 0)) "last")
  (tSeq (sFld K (tVar 0) tDNewK "entries")
  (tSeq (sFld K (tVar 0) (tC (.int 0)) "side")
  (tSeq (sFld K (tVar 0) (tC (.int 0)) "commit")
  (tSeq (sFld K (tVar 0) (tC (.bl false)) "is_writing")
  (tSeq (sFld K (tVar 0) (tLst tNil) "pending")
  (tDrop (tMeth (He.ga K "Store") "begin_anew" (sp_Store_begin_anew K) [] E0 (tVar 0) (tCons (tC (.int 0)) (tCons tDNewK tNil)))))))))))))
def t_Store_fail (K : PySem.W.Frag) : TS := (tSeq (sFld K (tVar 0) (tC (.bl false)) "has_power")
  (tSeq (sFld K (tVar 0) (tC (.int 0)) "last")
  (tSeq (sFld K (tVar 0) tDNewK "entries")
  (tSeq (sFld K (tVar 0) (tC (.int 0)) "side")
  (tSeq (sFld K (tVar 0) (tC (.int 0)) "commit")
  (tDrop (tMeth (He.ga K "Store") "finish" (sp_Store_finish K) [] E0 (tVar 0) tNil)))))))
def t_Store_want_power (K : PySem.W.Frag) (E : XK) : TS := (tDrop (tCall (sp_want K) [] E (tCons (tFld K (tVar 0) "has_power") (tCons (tC (.int (-7))) tNil))))
def t_Store_other (K : PySem.W.Frag) : TS := (tRet (tOp rSubI (tC (.int 1)) (tFld K (tVar 0) "side")))
def t_Store_append (K : PySem.W.Frag) : TS := (tAsg (tOp rCat (tOp (rIxL K) (tFld K (tVar 0) "files") (tVar 1)) (tVar 2)) (gSub (tFld K (tVar 0) "files") (tVar 1) rSetL))
def t_Store_reset (K : PySem.W.Frag) : TS := (tSeq (tDrop (tMeth (He.ga K "Store") "begin_anew" (sp_Store_begin_anew K) [] E0 (tVar 0) (tCons (tC (.int 0)) (tCons tDNewK tNil))))
  (tRet (tLst tNil)))
def t_Store_write_in_part (K : PySem.W.Frag) : TS := (tSeq (tDrop (tMeth (He.ga K "Store") "append" (sp_Store_append K) [] E0 (tVar 0) (tCons (tOp rAddI (tC (.int (2))) (tFld K (tVar 0) "side")) (tCons (tSl (rSlL K) (tVar 1) tNoPart (tPart (tVar 2))) tNil))))
  (tIfS (tAnd (tB (tFld K (tVar 0) "is_writing")) (tTest (tOp rGt (tVar 2) (tCB (rLenS K) (tCons (tVar 1) tNil))))) (tDrop (tMeth (He.ga K "Store") "append" (sp_Store_append K) [] E0 (tVar 0) (tCons (tOp rAddI (tC (.int (2))) (tMeth (He.ga K "Store") "other" (sp_Store_other K) [] E0 (tVar 0) tNil)) (tCons (tSl (rSlL K) (tVar 1) tNoPart (tPart (tOp rSubI (tVar 2) (tCB (rLenS K) (tCons (tVar 1) tNil))))) tNil)))) tNext))
def t_Store_tick (K : PySem.W.Frag) (E : XK) : TS := (tSeq (tDrop (tCall (sp_want_power_range K) [] E (tCons (tVar 1) tNil)))
  (tSeq (tDrop (tCall (sp_want K) [] E (tCons (tAndV (tOp rLe (tCB (rLenS K) (tCons (tVar 2) tNil)) (tC (.int (48)))) (tCall (sp_are_changes K) [] E0 (tCons (tVar 2) tNil))) (tCons (tC (.int (-1))) tNil))))
  (tSeq (tDrop (tMeth (He.ga K "Store") "want_power" (sp_Store_want_power K) [] E (tVar 0) tNil))
  (tSeq (tDrop (tCall (sp_want K) [] E (tCons (tOp rLt (tFld K (tVar 0) "last") (tC (.int (1000000000000000000)))) (tCons (tC (.int (-5))) tNil))))
  (tSeq (tAsg (tCall (sp_frame_of K) [] E0 (tCons (tCall (sp_tick_row K) [] E0 (tCons (tOp rAddI (tFld K (tVar 0) "last") (tC (.int 1))) (tCons (tVar 2) tNil))) tNil)) (gName 3))
  (tSeq (tAsg (tOp rMulI (tCB (rLenS K) (tCons (tVar 3) tNil)) (tOp rAddI (tC (.int 1)) (tCB rInt1 (tCons (tFld K (tVar 0) "is_writing") tNil)))) (gName 4))
  (tSeq (tIfS (tNot (tB (tCall (sp_is_enough K) [] E0 (tCons (tVar 1) (tCons (tVar 4) tNil))))) (tSeq (tDrop (tMeth (He.ga K "Store") "write_in_part" (sp_Store_write_in_part K) [] E0 (tVar 0) (tCons (tVar 3) (tCons (tVar 1) tNil))))
  (tSeq (tDrop (tMeth (He.ga K "Store") "fail" (sp_Store_fail K) [] E0 (tVar 0) tNil))
  (tRet (tLst (tCons (tC (.int (-1))) (tCons (tVar 4) tNil)))))) tNext)
  (tSeq (tDrop (tMeth (He.ga K "Store") "append" (sp_Store_append K) [] E0 (tVar 0) (tCons (tOp rAddI (tC (.int (2))) (tFld K (tVar 0) "side")) (tCons (tVar 3) tNil))))
  (tSeq (tIfS (tB (tFld K (tVar 0) "is_writing")) (tDrop (tMeth (He.ga K "Store") "append" (sp_Store_append K) [] E0 (tVar 0) (tCons (tOp rAddI (tC (.int (2))) (tMeth (He.ga K "Store") "other" (sp_Store_other K) [] E0 (tVar 0) tNil)) (tCons (tVar 3) tNil)))) tNext)
  (tSeq (sFldAug K (tVar 0) (tC (.int 1)) rAdd "last")
  (tSeq (sFld K (tVar 0) (tCall (sp_changed K) [] E0 (tCons (tFld K (tVar 0) "entries") (tCons (tVar 2) tNil))) "entries")
  (tSeq (sFld K (tVar 0) (tFld K (tVar 0) "last") "durable")
  (tRet (tLst (tCons (tFld K (tVar 0) "last") (tCons (tVar 4) tNil))))))))))))))))
def t_Store_begin_checkpoint (K : PySem.W.Frag) (E : XK) : TS := (tSeq (tDrop (tMeth (He.ga K "Store") "want_power" (sp_Store_want_power K) [] E (tVar 0) tNil))
  (tSeq (tDrop (tCall (sp_want K) [] E (tCons (tNotV (tFld K (tVar 0) "is_writing")) (tCons (tC (.int (-3))) tNil))))
  (tSeq (tAsg (tLst tNil) (gSub (tFld K (tVar 0) "files") (tMeth (He.ga K "Store") "other" (sp_Store_other K) [] E0 (tVar 0) tNil) rSetL))
  (tSeq (tAsg (tLst tNil) (gSub (tFld K (tVar 0) "files") (tOp rAddI (tC (.int (2))) (tMeth (He.ga K "Store") "other" (sp_Store_other K) [] E0 (tVar 0) tNil)) rSetL))
  (tSeq (sFld K (tVar 0) (tCall (sp_frame_of K) [] E0 (tCons (tOp rCat (tLst (tCons (tFld K (tVar 0) "last") tNil)) (tCall (sp_flat K) [] E0 (tCons (tFld K (tVar 0) "entries") tNil))) tNil)) "pending")
  (tSeq (sFld K (tVar 0) (tC (.bl true)) "is_writing")
  (tRet (tLst (tCons (tCB (rLenS K) (tCons (tFld K (tVar 0) "pending") tNil)) tNil)))))))))
def t_Store_write_checkpoint (K : PySem.W.Frag) (E : XK) : TS := (tSeq (tDrop (tCall (sp_want K) [] E (tCons (tChain rLe rLe (tC (.int 1)) (tVar 1) (tC (.int (100000)))) (tCons (tC (.int (-1))) tNil))))
  (tSeq (tDrop (tMeth (He.ga K "Store") "want_power" (sp_Store_want_power K) [] E (tVar 0) tNil))
  (tSeq (tDrop (tCall (sp_want K) [] E (tCons (tFld K (tVar 0) "is_writing") (tCons (tC (.int (-3))) tNil))))
  (tSeq (tDrop (tMeth (He.ga K "Store") "append" (sp_Store_append K) [] E0 (tVar 0) (tCons (tMeth (He.ga K "Store") "other" (sp_Store_other K) [] E0 (tVar 0) tNil) (tCons (tSl (rSlL K) (tFld K (tVar 0) "pending") tNoPart (tPart (tVar 1))) tNil))))
  (tSeq (sFld K (tVar 0) (tSl (rSlL K) (tFld K (tVar 0) "pending") (tPart (tVar 1)) tNoPart) "pending")
  (tRet (tLst (tCons (tCB (rLenS K) (tCons (tFld K (tVar 0) "pending") tNil)) tNil))))))))
def t_Store_commit_checkpoint (K : PySem.W.Frag) (E : XK) : TS := (tSeq (tDrop (tCall (sp_want_power_range K) [] E (tCons (tVar 1) tNil)))
  (tSeq (tDrop (tMeth (He.ga K "Store") "want_power" (sp_Store_want_power K) [] E (tVar 0) tNil))
  (tSeq (tDrop (tCall (sp_want K) [] E (tCons (tAndV (tFld K (tVar 0) "is_writing") (tOp (rEqD K) (tFld K (tVar 0) "pending") (tLst tNil))) (tCons (tC (.int (-3))) tNil))))
  (tSeq (tDrop (tCall (sp_want K) [] E (tCons (tOp rLt (tFld K (tVar 0) "commit") (tC (.int (1000000000000000000)))) (tCons (tC (.int (-5))) tNil))))
  (tSeq (tAsg (tOp rAddI (tFld K (tVar 0) "commit") (tC (.int 1))) (gName 2))
  (tSeq (tAsg (tCall (sp_frame_of K) [] E0 (tCons (tLst (tCons (tVar 2) (tCons (tMeth (He.ga K "Store") "other" (sp_Store_other K) [] E0 (tVar 0) tNil) tNil))) tNil)) (gName 3))
  (tSeq (tIfS (tNot (tB (tCall (sp_is_enough K) [] E0 (tCons (tVar 1) (tCons (tCB (rLenS K) (tCons (tVar 3) tNil)) tNil))))) (tSeq (tAsg (tSl (rSlL K) (tVar 3) tNoPart (tPart (tVar 1))) (gSub (tFld K (tVar 0) "files") (tOp rAddI (tC (.int (4))) (tOp rModI (tVar 2) (tC (.int 2)))) rSetL))
  (tSeq (tDrop (tMeth (He.ga K "Store") "fail" (sp_Store_fail K) [] E0 (tVar 0) tNil))
  (tRet (tLst (tCons (tC (.int (-1))) (tCons (tCB (rLenS K) (tCons (tVar 3) tNil)) tNil)))))) tNext)
  (tSeq (tAsg (tVar 3) (gSub (tFld K (tVar 0) "files") (tOp rAddI (tC (.int (4))) (tOp rModI (tVar 2) (tC (.int 2)))) rSetL))
  (tSeq (sFld K (tVar 0) (tMeth (He.ga K "Store") "other" (sp_Store_other K) [] E0 (tVar 0) tNil) "side")
  (tSeq (sFld K (tVar 0) (tVar 2) "commit")
  (tSeq (tDrop (tMeth (He.ga K "Store") "finish" (sp_Store_finish K) [] E0 (tVar 0) tNil))
  (tRet (tLst (tCons (tFld K (tVar 0) "side") (tCons (tVar 2) tNil)))))))))))))))
def t_Store_cut_power (K : PySem.W.Frag) (E : XK) : TS := (tSeq (tDrop (tMeth (He.ga K "Store") "want_power" (sp_Store_want_power K) [] E (tVar 0) tNil))
  (tSeq (tDrop (tMeth (He.ga K "Store") "fail" (sp_Store_fail K) [] E0 (tVar 0) tNil))
  (tRet (tLst tNil))))
def t_Store_commits (K : PySem.W.Frag) : TS := (tSeq (tAsg (tLst tNil) (gName 1))
  (tSeq (tFor (iTup K (tTup (tCons (tOp (rIxL K) (tFld K (tVar 0) "files") (tC (.int (4)))) (tCons (tOp (rIxL K) (tFld K (tVar 0) "files") (tOp rAddI (tC (.int (4))) (tC (.int 1)))) tNil)))) (gName 2) (tSeq (tAsg (tCall (sp_commit_in K) [] E0 (tCons (tVar 2) tNil)) (gName 3))
  (tIfS (tTest (tOp rNotN (tVar 3) (tC .non))) (tDrop (tBM K "list" rAppend (tVar 1) (tCons (tVar 3) tNil))) tNext)))
  (tSeq (tIfS (tAnd (tTest (tOp rEqI (tCB (rLenS K) (tCons (tVar 1) tNil)) (tC (.int 2)))) (tTest (tOp rGt (tOp (rIxT K) (tOp (rIxL K) (tVar 1) (tC (.int 1))) (tC (.int 0))) (tOp (rIxT K) (tOp (rIxL K) (tVar 1) (tC (.int 0))) (tC (.int 0)))))) (tRet (tRevL K (tVar 1))) tNext)
  (tRet (tVar 1)))))
def t_Store_recovered (K : PySem.W.Frag) : TS := (tSeq (tAsg (tVar 3) (gTup K 2 (gCons (gName 4) (gCons (gName 5) gNil))))
  (tSeq (tAsg (tCall (sp_replayed K) [] E0 (tCons (tOp (rIxL K) (tFld K (tVar 0) "files") (tOp rAddI (tC (.int (2))) (tVar 2))) (tCons (tVar 4) tNil))) (gTup K 2 (gCons (gName 6) (gCons (gName 7) gNil))))
  (tSeq (tFor (iList K (tVar 6)) (gName 8) (tAsg (tCall (sp_changed K) [] E0 (tCons (tVar 5) (tCons (tSl (rSlL K) (tVar 8) (tPart (tC (.int 1))) tNoPart) tNil))) (gName 5)))
  (tSeq (tAsg (tOp rSubI (tCB (rLenS K) (tCons (tOp (rIxL K) (tFld K (tVar 0) "files") (tOp rAddI (tC (.int (2))) (tVar 2))) tNil)) (tVar 7)) (gName 9))
  (tSeq (tAsg (tSl (rSlL K) (tOp (rIxL K) (tFld K (tVar 0) "files") (tOp rAddI (tC (.int (2))) (tVar 2))) tNoPart (tPart (tVar 7))) (gSub (tFld K (tVar 0) "files") (tOp rAddI (tC (.int (2))) (tVar 2)) rSetL))
  (tSeq (sFld K (tVar 0) (tC (.bl true)) "has_power")
  (tSeq (sFld K (tVar 0) (tOp rAddI (tVar 4) (tCB (rLenS K) (tCons (tVar 6) tNil))) "last")
  (tSeq (sFld K (tVar 0) (tVar 5) "entries")
  (tSeq (sFld K (tVar 0) (tVar 2) "side")
  (tSeq (sFld K (tVar 0) (tVar 1) "commit")
  (tSeq (tDrop (tMeth (He.ga K "Store") "finish" (sp_Store_finish K) [] E0 (tVar 0) tNil))
  (tSeq (sFld K (tVar 0) (tFld K (tVar 0) "last") "durable")
  (tRet (tLst (tCons (tVar 2) (tCons (tFld K (tVar 0) "last") (tCons (tCB (rLenS K) (tCons (tVar 6) tNil)) (tCons (tVar 9) tNil))))))))))))))))))
def t_Store_recover (K : PySem.W.Frag) (E : XK) : TS := (tSeq (tDrop (tCall (sp_want K) [] E (tCons (tNotV (tFld K (tVar 0) "has_power")) (tCons (tC (.int (-3))) tNil))))
  (tSeq (tFor (iList K (tMeth (He.ga K "Store") "commits" (sp_Store_commits K) [] E0 (tVar 0) tNil)) (gTup K 2 (gCons (gName 1) (gCons (gName 2) gNil))) (tSeq (tAsg (tCall (sp_checkpoint_in K) [] E0 (tCons (tOp (rIxL K) (tFld K (tVar 0) "files") (tVar 2)) tNil)) (gName 3))
  (tIfS (tTest (tOp rNotN (tVar 3) (tC .non))) (tRet (tMeth (He.ga K "Store") "recovered" (sp_Store_recovered K) [] E0 (tVar 0) (tCons (tVar 1) (tCons (tVar 2) (tCons (tVar 3) tNil))))) tNext)))
  (tRaiseO (He.ga K "Refused") (sp_Refused___init__ K) E (tCons (tC (.int (-6))) tNil))))
def t_Store_get (K : PySem.W.Frag) (E : XK) : TS := (tSeq (tDrop (tCall (sp_want K) [] E (tCons (tOp rGe (tVar 1) (tC (.int 0))) (tCons (tC (.int (-1))) tNil))))
  (tSeq (tDrop (tMeth (He.ga K "Store") "want_power" (sp_Store_want_power K) [] E (tVar 0) tNil))
  (tSeq (tDrop (tCall (sp_want K) [] E (tCons (tDIn (tVar 1) (tFld K (tVar 0) "entries")) (tCons (tC (.int (-4))) tNil))))
  (tRet (tLst (tCons (tDGet (tFld K (tVar 0) "entries") (tVar 1)) tNil))))))
def t_Store_contents (K : PySem.W.Frag) (E : XK) : TS := (tSeq (tDrop (tMeth (He.ga K "Store") "want_power" (sp_Store_want_power K) [] E (tVar 0) tNil))
  (tRet (tOp rCat (tLst (tCons (tFld K (tVar 0) "last") tNil)) (tCall (sp_flat K) [] E0 (tCons (tFld K (tVar 0) "entries") tNil)))))
def t_Store_read_file (K : PySem.W.Frag) (E : XK) : TS := (tSeq (tDrop (tCall (sp_want K) [] E (tCons (tChain rLe rLt (tC (.int 0)) (tVar 1) (tC (.int (6)))) (tCons (tC (.int (-1))) tNil))))
  (tRet (tCB (rListS K) (tCons (tOp (rIxL K) (tFld K (tVar 0) "files") (tVar 1)) tNil))))
def t_Store_corrupt_byte (K : PySem.W.Frag) (E : XK) : TS := (tSeq (tDrop (tCall (sp_want K) [] E (tCons (tAndV (tChain rLe rLt (tC (.int 0)) (tVar 1) (tC (.int (6)))) (tChain rLe rLe (tC (.int 0)) (tVar 3) (tC (.int (255))))) (tCons (tC (.int (-1))) tNil))))
  (tSeq (tDrop (tCall (sp_want K) [] E (tCons (tChain rLe rLt (tC (.int 0)) (tVar 2) (tCB (rLenS K) (tCons (tOp (rIxL K) (tFld K (tVar 0) "files") (tVar 1)) tNil))) (tCons (tC (.int (-4))) tNil))))
  (tSeq (tAsg (tOp (rIxL K) (tFld K (tVar 0) "files") (tVar 1)) (gName 4))
  (tSeq (tAsg (tOp rCat (tOp rCat (tSl (rSlL K) (tVar 4) tNoPart (tPart (tVar 2))) (tLst (tCons (tVar 3) tNil))) (tSl (rSlL K) (tVar 4) (tPart (tOp rAddI (tVar 2) (tC (.int 1)))) tNoPart)) (gSub (tFld K (tVar 0) "files") (tVar 1) rSetL))
  (tRet (tLst tNil))))))
def t_Store_status (K : PySem.W.Frag) : TS := (tSeq (tAsg (tLst (tCons (tCB rInt1 (tCons (tFld K (tVar 0) "has_power") tNil)) (tCons (tFld K (tVar 0) "last") (tCons (tFld K (tVar 0) "side") (tCons (tFld K (tVar 0) "commit") tNil))))) (gName 1))
  (tRet (tOp rCat (tVar 1) (tLst (tCons (tCB rInt1 (tCons (tFld K (tVar 0) "is_writing") tNil)) (tCons (tCB (rLenS K) (tCons (tFld K (tVar 0) "pending") tNil)) (tCons (tFld K (tVar 0) "durable") tNil)))))))
def t_Store_list_ticks (K : PySem.W.Frag) (E : XK) : TS := (tSeq (tDrop (tMeth (He.ga K "Store") "want_power" (sp_Store_want_power K) [] E (tVar 0) tNil))
  (tSeq (tAsg (tLst tNil) (gName 1))
  (tSeq (tFor (iList K (tCall (sp_frames_in K) [] E0 (tCons (tOp (rIxL K) (tFld K (tVar 0) "files") (tOp rAddI (tC (.int (2))) (tFld K (tVar 0) "side"))) tNil))) (gTup K 2 (gCons (gName 2) (gCons (gName 3) gNil))) (tIfS (tB (tCall (sp_is_tick K) [] E0 (tCons (tVar 2) tNil))) (tDrop (tBM K "list" rExtend (tVar 1) (tCons (tLst (tCons (tOp (rIxL K) (tVar 2) (tC (.int 0))) (tCons (tOp rFdivI (tCB (rLenS K) (tCons (tVar 2) tNil)) (tC (.int 3))) tNil))) tNil))) tNext))
  (tRet (tVar 1)))))
def t_counted_frames (K : PySem.W.Frag) : TS := (tSeq (tAsg (tCall (sp_frames_in K) [] E0 (tCons (tVar 0) tNil)) (gName 1))
  (tSeq (tIfS (tTest (tOp (rEqD K) (tVar 1) (tLst tNil))) (tRet (tLst (tCons (tC (.int 0)) (tCons (tC (.int 0)) tNil)))) tNext)
  (tRet (tLst (tCons (tCB (rLenS K) (tCons (tVar 1) tNil)) (tCons (tOp (rIxT K) (tOp (rIxL K) (tVar 1) (tUn rNeg (tC (.int 1)))) (tC (.int 1))) tNil))))))
def t_checksum_told (K : PySem.W.Frag) : TS := (tRet (tLst (tCons (tCall (sp_checksum K) [] E0 (tCons (tVar 0) tNil)) tNil)))
def t_frame_told (K : PySem.W.Frag) (E : XK) : TS := (tSeq (tDrop (tCall (sp_want K) [] E (tCons (tOp rLe (tCB (rLenS K) (tCons (tVar 0) tNil)) (tC (.int (40)))) (tCons (tC (.int (-1))) tNil))))
  (tRet (tCall (sp_frame_of K) [] E0 (tCons (tVar 0) tNil))))
def t_of_writing (K : PySem.W.Frag) (E : XK) : TS := (tSeq (tIfS (tTest (tOp rEqI (tVar 1) (tC (.int 0)))) (tRet (tMeth (He.ga K "Store") "reset" (sp_Store_reset K) [] E0 (tVar 0) tNil)) tNext)
  (tSeq (tIfS (tTest (tOp rEqI (tVar 1) (tC (.int 1)))) (tRet (tMeth (He.ga K "Store") "tick" (sp_Store_tick K) [] E (tVar 0) (tCons (tOp (rIxL K) (tVar 2) (tC (.int 0))) (tCons (tVar 3) tNil)))) tNext)
  (tSeq (tIfS (tTest (tOp rEqI (tVar 1) (tC (.int 2)))) (tRet (tMeth (He.ga K "Store") "begin_checkpoint" (sp_Store_begin_checkpoint K) [] E (tVar 0) tNil)) tNext)
  (tSeq (tIfS (tTest (tOp rEqI (tVar 1) (tC (.int 3)))) (tRet (tMeth (He.ga K "Store") "write_checkpoint" (sp_Store_write_checkpoint K) [] E (tVar 0) (tCons (tOp (rIxL K) (tVar 2) (tC (.int 0))) tNil))) tNext)
  (tSeq (tIfS (tTest (tOp rEqI (tVar 1) (tC (.int 4)))) (tRet (tMeth (He.ga K "Store") "commit_checkpoint" (sp_Store_commit_checkpoint K) [] E (tVar 0) (tCons (tOp (rIxL K) (tVar 2) (tC (.int 0))) tNil))) tNext)
  (tSeq (tIfS (tTest (tOp rEqI (tVar 1) (tC (.int 5)))) (tRet (tMeth (He.ga K "Store") "cut_power" (sp_Store_cut_power K) [] E (tVar 0) tNil)) tNext)
  (tRet (tMeth (He.ga K "Store") "recover" (sp_Store_recover K) [] E (tVar 0) tNil))))))))
def t_of_store (K : PySem.W.Frag) (E : XK) : TS := (tSeq (tIfS (tTest (tOp rEqI (tVar 1) (tC (.int 7)))) (tRet (tMeth (He.ga K "Store") "get" (sp_Store_get K) [] E (tVar 0) (tCons (tOp (rIxL K) (tVar 2) (tC (.int 0))) tNil))) tNext)
  (tSeq (tIfS (tTest (tOp rEqI (tVar 1) (tC (.int 8)))) (tRet (tMeth (He.ga K "Store") "contents" (sp_Store_contents K) [] E (tVar 0) tNil)) tNext)
  (tSeq (tIfS (tTest (tOp rEqI (tVar 1) (tC (.int 9)))) (tRet (tMeth (He.ga K "Store") "read_file" (sp_Store_read_file K) [] E (tVar 0) (tCons (tOp (rIxL K) (tVar 2) (tC (.int 0))) tNil))) tNext)
  (tSeq (tIfS (tTest (tOp rEqI (tVar 1) (tC (.int 10)))) (tRet (tMeth (He.ga K "Store") "corrupt_byte" (sp_Store_corrupt_byte K) [] E (tVar 0) (tCons (tOp (rIxL K) (tVar 2) (tC (.int 0))) (tCons (tOp (rIxL K) (tVar 2) (tC (.int 1))) (tCons (tOp (rIxL K) (tVar 2) (tC (.int 2))) tNil))))) tNext)
  (tSeq (tIfS (tTest (tOp rEqI (tVar 1) (tC (.int 11)))) (tRet (tMeth (He.ga K "Store") "import_journal" (sp_Store_import_journal K) [] E (tVar 0) (tCons (tVar 3) tNil))) tNext)
  (tSeq (tIfS (tTest (tOp rEqI (tVar 1) (tC (.int 12)))) (tRet (tMeth (He.ga K "Store") "status" (sp_Store_status K) [] E0 (tVar 0) tNil)) tNext)
  (tRet (tMeth (He.ga K "Store") "list_ticks" (sp_Store_list_ticks K) [] E (tVar 0) tNil))))))))
def t_of_lists (K : PySem.W.Frag) (E : XK) : TS := (tSeq (tIfS (tTest (tOp rEqI (tVar 0) (tC (.int 13)))) (tRet (tCall (sp_counted_frames K) [] E0 (tCons (tVar 1) tNil))) tNext)
  (tSeq (tIfS (tTest (tOp rEqI (tVar 0) (tC (.int 15)))) (tRet (tCall (sp_checksum_told K) [] E0 (tCons (tVar 1) tNil))) tNext)
  (tSeq (tIfS (tTest (tOp rEqI (tVar 0) (tC (.int 16)))) (tRet (tCall (sp_frame_told K) [] E (tCons (tVar 1) tNil))) tNext)
  (tRet (tCall (sp_previewed K) [] E0 (tCons (tVar 1) tNil))))))
def t_called (K : PySem.W.Frag) (E : XK) : TS := (tSeq (tIfS (tTest (tOp rLt (tVar 1) (tC (.int 7)))) (tRet (tCall (sp_of_writing K) [] E (tCons (tVar 0) (tCons (tVar 1) (tCons (tVar 2) (tCons (tVar 3) tNil)))))) tNext)
  (tSeq (tIfS (tTest (tOp (rIn K false) (tVar 1) (tTup (tCons (tC (.int 13)) (tCons (tC (.int 15)) (tCons (tC (.int 16)) (tCons (tC (.int 17)) tNil))))))) (tRet (tCall (sp_of_lists K) [] E (tCons (tVar 1) (tCons (tVar 3) tNil)))) tNext)
  (tRet (tCall (sp_of_store K) [] E (tCons (tVar 0) (tCons (tVar 1) (tCons (tVar 2) (tCons (tVar 3) tNil))))))))
def t_answers (K : PySem.W.Frag) : TS := (tSeq (tAsg (tMake (He.ga K "Store") (sp_Store___init__ K) [] E0 tNil) (gName 1))
  (tSeq (tAsg (tLst tNil) (gName 2))
  (tSeq (tAsg (tC (.int 0)) (gName 3))
  (tSeq (tWhile (tTest (tOp rLt (tVar 3) (tCB (rLenS K) (tCons (tVar 0) tNil)))) (tSeq (tAsg (tOp (rIxL K) (tVar 0) (tVar 3)) (gName 4))
  (tSeq (tAsg (tOp rAddI (tOp rAddI (tVar 3) (tC (.int 1))) (tOp (rIxT K) (tC (.ref (He.ga K "NUMBERS"))) (tVar 4))) (gName 5))
  (tSeq (tAsg (tSl (rSlL K) (tVar 0) (tPart (tOp rAddI (tVar 3) (tC (.int 1)))) (tPart (tVar 5))) (gName 6))
  (tSeq (tAsg (tLst tNil) (gName 7))
  (tSeq (tIfS (tTest (tOp (rIn K false) (tVar 4) (tC (.ref (He.ga K "WITH_LIST"))))) (tSeq (tAsg (tOp rAddI (tVar 5) (tC (.int 1))) (gName 8))
  (tSeq (tAsg (tOp rAddI (tVar 8) (tOp (rIxL K) (tVar 0) (tVar 5))) (gName 5))
  (tAsg (tSl (rSlL K) (tVar 0) (tPart (tVar 8)) (tPart (tVar 5))) (gName 7)))) tNext)
  (tSeq (tAsg (tCall (sp_answered K) [] E0 (tCons (tVar 1) (tCons (tVar 4) (tCons (tVar 6) (tCons (tVar 7) tNil))))) (gName 9))
  (tSeq (tDrop (tBM K "list" rAppend (tVar 2) (tCons (tCB (rLenS K) (tCons (tVar 9) tNil)) tNil)))
  (tSeq (tDrop (tBM K "list" rExtend (tVar 2) (tCons (tVar 9) tNil)))
  (tAsg (tVar 5) (gName 3)))))))))))
  (tRet (tVar 2))))))
end Ts
/-! ## TsSc -/
namespace Ts
open PySem PySem.Spec PyProof.Rows L2
section
variable {K : PySem.W.Frag} {mg : Str → Option Value}
theorem sc_natural_of : FnScope ["number"] ["number"] (defScope s_natural_of) := ⟨rfl, rfl, rfl, by decide +kernel, rfl, by decide +kernel, by decide +kernel⟩
theorem bd_natural_of (T : Tx K mg) : Binds K (fdA K (He.ga K "natural_of")) ["number"] [] := T.f_natural_of.bindsN (ps := ["number"]) fun _ _ _ _ _ _ us hl => match us, hl with | [_], _ => rfl
theorem sc_integer_of : FnScope ["natural"] ["natural"] (defScope s_integer_of) := ⟨rfl, rfl, rfl, by decide +kernel, rfl, by decide +kernel, by decide +kernel⟩
theorem bd_integer_of (T : Tx K mg) : Binds K (fdA K (He.ga K "integer_of")) ["natural"] [] := T.f_integer_of.bindsN (ps := ["natural"]) fun _ _ _ _ _ _ us hl => match us, hl with | [_], _ => rfl
theorem sc_integer_bytes : FnScope ["number", "found", "left"] ["number"] (defScope s_integer_bytes) := ⟨rfl, rfl, rfl, by decide +kernel, rfl, by decide +kernel, by decide +kernel⟩
theorem bd_integer_bytes (T : Tx K mg) : Binds K (fdA K (He.ga K "integer_bytes")) ["number"] [] := T.f_integer_bytes.bindsN (ps := ["number"]) fun _ _ _ _ _ _ us hl => match us, hl with | [_], _ => rfl
theorem sc_row_bytes : FnScope ["row", "found", "number"] ["row"] (defScope s_row_bytes) := ⟨rfl, rfl, rfl, by decide +kernel, rfl, by decide +kernel, by decide +kernel⟩
theorem bd_row_bytes (T : Tx K mg) : Binds K (fdA K (He.ga K "row_bytes")) ["row"] [] := T.f_row_bytes.bindsN (ps := ["row"]) fun _ _ _ _ _ _ us hl => match us, hl with | [_], _ => rfl
theorem sc_checksum : FnScope ["data", "found", "at", "byte"] ["data"] (defScope s_checksum) := ⟨rfl, rfl, rfl, by decide +kernel, rfl, by decide +kernel, by decide +kernel⟩
theorem bd_checksum (T : Tx K mg) : Binds K (fdA K (He.ga K "checksum")) ["data"] [] := T.f_checksum.bindsN (ps := ["data"]) fun _ _ _ _ _ _ us hl => match us, hl with | [_], _ => rfl
theorem sc_two_bytes : FnScope ["number"] ["number"] (defScope s_two_bytes) := ⟨rfl, rfl, rfl, by decide +kernel, rfl, by decide +kernel, by decide +kernel⟩
theorem bd_two_bytes (T : Tx K mg) : Binds K (fdA K (He.ga K "two_bytes")) ["number"] [] := T.f_two_bytes.bindsN (ps := ["number"]) fun _ _ _ _ _ _ us hl => match us, hl with | [_], _ => rfl
theorem sc_frame_of : FnScope ["row", "payload", "head"] ["row"] (defScope s_frame_of) := ⟨rfl, rfl, rfl, by decide +kernel, rfl, by decide +kernel, by decide +kernel⟩
theorem bd_frame_of (T : Tx K mg) : Binds K (fdA K (He.ga K "frame_of")) ["row"] [] := T.f_frame_of.bindsN (ps := ["row"]) fun _ _ _ _ _ _ us hl => match us, hl with | [_], _ => rfl
theorem sc_part_integer : FnScope ["part", "natural", "by", "byte"] ["part"] (defScope s_part_integer) := ⟨rfl, rfl, rfl, by decide +kernel, rfl, by decide +kernel, by decide +kernel⟩
theorem bd_part_integer (T : Tx K mg) : Binds K (fdA K (He.ga K "part_integer")) ["part"] [] := T.f_part_integer.bindsN (ps := ["part"]) fun _ _ _ _ _ _ us hl => match us, hl with | [_], _ => rfl
theorem sc_parts_of : FnScope ["payload", "found", "byte"] ["payload"] (defScope s_parts_of) := ⟨rfl, rfl, rfl, by decide +kernel, rfl, by decide +kernel, by decide +kernel⟩
theorem bd_parts_of (T : Tx K mg) : Binds K (fdA K (He.ga K "parts_of")) ["payload"] [] := T.f_parts_of.bindsN (ps := ["payload"]) fun _ _ _ _ _ _ us hl => match us, hl with | [_], _ => rfl
theorem sc_decoded : FnScope ["payload", "parts", "part"] ["payload"] (defScope s_decoded) := ⟨rfl, rfl, rfl, by decide +kernel, rfl, by decide +kernel, by decide +kernel⟩
theorem bd_decoded (T : Tx K mg) : Binds K (fdA K (He.ga K "decoded")) ["payload"] [] := T.f_decoded.bindsN (ps := ["payload"]) fun _ _ _ _ _ _ us hl => match us, hl with | [_], _ => rfl
theorem sc_frame_at : FnScope ["data", "at", "head", "size", "end", "payload", "row"] ["data", "at"] (defScope s_frame_at) := ⟨rfl, rfl, rfl, by decide +kernel, rfl, by decide +kernel, by decide +kernel⟩
theorem bd_frame_at (T : Tx K mg) : Binds K (fdA K (He.ga K "frame_at")) ["data", "at"] [] := T.f_frame_at.bindsN (ps := ["data", "at"]) fun _ _ _ _ _ _ us hl => match us, hl with | [_, _], _ => rfl
theorem sc_frames_in : FnScope ["data", "found", "frame"] ["data"] (defScope s_frames_in) := ⟨rfl, rfl, rfl, by decide +kernel, rfl, by decide +kernel, by decide +kernel⟩
theorem bd_frames_in (T : Tx K mg) : Binds K (fdA K (He.ga K "frames_in")) ["data"] [] := T.f_frames_in.bindsN (ps := ["data"]) fun _ _ _ _ _ _ us hl => match us, hl with | [_], _ => rfl
theorem sc_only_row : FnScope ["data", "frame"] ["data"] (defScope s_only_row) := ⟨rfl, rfl, rfl, by decide +kernel, rfl, by decide +kernel, by decide +kernel⟩
theorem bd_only_row (T : Tx K mg) : Binds K (fdA K (He.ga K "only_row")) ["data"] [] := T.f_only_row.bindsN (ps := ["data"]) fun _ _ _ _ _ _ us hl => match us, hl with | [_], _ => rfl
theorem sc_is_entry : FnScope ["key", "value"] ["key", "value"] (defScope s_is_entry) := ⟨rfl, rfl, rfl, by decide +kernel, rfl, by decide +kernel, by decide +kernel⟩
theorem bd_is_entry (T : Tx K mg) : Binds K (fdA K (He.ga K "is_entry")) ["key", "value"] [] := T.f_is_entry.bindsN (ps := ["key", "value"]) fun _ _ _ _ _ _ us hl => match us, hl with | [_, _], _ => rfl
theorem sc_is_change : FnScope ["change"] ["change"] (defScope s_is_change) := ⟨rfl, rfl, rfl, by decide +kernel, rfl, by decide +kernel, by decide +kernel⟩
theorem bd_is_change (T : Tx K mg) : Binds K (fdA K (He.ga K "is_change")) ["change"] [] := T.f_is_change.bindsN (ps := ["change"]) fun _ _ _ _ _ _ us hl => match us, hl with | [_], _ => rfl
theorem sc_changes_of : FnScope ["numbers", "at"] ["numbers"] (defScope s_changes_of) := ⟨rfl, rfl, rfl, by decide +kernel, rfl, by decide +kernel, by decide +kernel⟩
theorem bd_changes_of (T : Tx K mg) : Binds K (fdA K (He.ga K "changes_of")) ["numbers"] [] := T.f_changes_of.bindsN (ps := ["numbers"]) fun _ _ _ _ _ _ us hl => match us, hl with | [_], _ => rfl
theorem sc_are_changes : FnScope ["numbers", "change"] ["numbers"] (defScope s_are_changes) := ⟨rfl, rfl, rfl, by decide +kernel, rfl, by decide +kernel, by decide +kernel⟩
theorem bd_are_changes (T : Tx K mg) : Binds K (fdA K (He.ga K "are_changes")) ["numbers"] [] := T.f_are_changes.bindsN (ps := ["numbers"]) fun _ _ _ _ _ _ us hl => match us, hl with | [_], _ => rfl
theorem sc_tick_row : FnScope ["number", "numbers", "found", "key", "kind", "value"] ["number", "numbers"] (defScope s_tick_row) := ⟨rfl, rfl, rfl, by decide +kernel, rfl, by decide +kernel, by decide +kernel⟩
theorem bd_tick_row (T : Tx K mg) : Binds K (fdA K (He.ga K "tick_row")) ["number", "numbers"] [] := T.f_tick_row.bindsN (ps := ["number", "numbers"]) fun _ _ _ _ _ _ us hl => match us, hl with | [_, _], _ => rfl
theorem sc_is_tick : FnScope ["row"] ["row"] (defScope s_is_tick) := ⟨rfl, rfl, rfl, by decide +kernel, rfl, by decide +kernel, by decide +kernel⟩
theorem bd_is_tick (T : Tx K mg) : Binds K (fdA K (He.ga K "is_tick")) ["row"] [] := T.f_is_tick.bindsN (ps := ["row"]) fun _ _ _ _ _ _ us hl => match us, hl with | [_], _ => rfl
theorem sc_changed : FnScope ["entries", "numbers", "found", "key", "kind", "value"] ["entries", "numbers"] (defScope s_changed) := ⟨rfl, rfl, rfl, by decide +kernel, rfl, by decide +kernel, by decide +kernel⟩
theorem bd_changed (T : Tx K mg) : Binds K (fdA K (He.ga K "changed")) ["entries", "numbers"] [] := T.f_changed.bindsN (ps := ["entries", "numbers"]) fun _ _ _ _ _ _ us hl => match us, hl with | [_, _], _ => rfl
theorem sc_flat : FnScope ["entries", "found", "key"] ["entries"] (defScope s_flat) := ⟨rfl, rfl, rfl, by decide +kernel, rfl, by decide +kernel, by decide +kernel⟩
theorem bd_flat (T : Tx K mg) : Binds K (fdA K (He.ga K "flat")) ["entries"] [] := T.f_flat.bindsN (ps := ["entries"]) fun _ _ _ _ _ _ us hl => match us, hl with | [_], _ => rfl
theorem sc_pairs_of : FnScope ["numbers", "at"] ["numbers"] (defScope s_pairs_of) := ⟨rfl, rfl, rfl, by decide +kernel, rfl, by decide +kernel, by decide +kernel⟩
theorem bd_pairs_of (T : Tx K mg) : Binds K (fdA K (He.ga K "pairs_of")) ["numbers"] [] := T.f_pairs_of.bindsN (ps := ["numbers"]) fun _ _ _ _ _ _ us hl => match us, hl with | [_], _ => rfl
theorem sc_is_checkpoint : FnScope ["row", "pairs", "one", "other", "pair"] ["row"] (defScope s_is_checkpoint) := ⟨rfl, rfl, rfl, by decide +kernel, rfl, by decide +kernel, by decide +kernel⟩
theorem bd_is_checkpoint (T : Tx K mg) : Binds K (fdA K (He.ga K "is_checkpoint")) ["row"] [] := T.f_is_checkpoint.bindsN (ps := ["row"]) fun _ _ _ _ _ _ us hl => match us, hl with | [_], _ => rfl
theorem sc_checkpoint_in : FnScope ["data", "row", "pair"] ["data"] (defScope s_checkpoint_in) := ⟨rfl, rfl, rfl, by decide +kernel, rfl, by decide +kernel, by decide +kernel⟩
theorem bd_checkpoint_in (T : Tx K mg) : Binds K (fdA K (He.ga K "checkpoint_in")) ["data"] [] := T.f_checkpoint_in.bindsN (ps := ["data"]) fun _ _ _ _ _ _ us hl => match us, hl with | [_], _ => rfl
theorem sc_commit_in : FnScope ["data", "row"] ["data"] (defScope s_commit_in) := ⟨rfl, rfl, rfl, by decide +kernel, rfl, by decide +kernel, by decide +kernel⟩
theorem bd_commit_in (T : Tx K mg) : Binds K (fdA K (He.ga K "commit_in")) ["data"] [] := T.f_commit_in.bindsN (ps := ["data"]) fun _ _ _ _ _ _ us hl => match us, hl with | [_], _ => rfl
theorem sc_replayed : FnScope ["data", "number", "rows", "size", "row", "end"] ["data", "number"] (defScope s_replayed) := ⟨rfl, rfl, rfl, by decide +kernel, rfl, by decide +kernel, by decide +kernel⟩
theorem bd_replayed (T : Tx K mg) : Binds K (fdA K (He.ga K "replayed")) ["data", "number"] [] := T.f_replayed.bindsN (ps := ["data", "number"]) fun _ _ _ _ _ _ us hl => match us, hl with | [_, _], _ => rfl
theorem sc_BadLine___init__ : FnScope ["self", "line"] ["self", "line"] (defScope s_BadLine___init__) := ⟨rfl, rfl, rfl, by decide +kernel, rfl, by decide +kernel, by decide +kernel⟩
theorem bd_BadLine___init__ (T : Tx K mg) : Binds K (fdA K (He.ma K (He.ga K "BadLine") "__init__")) ["self", "line"] [] := T.f_BadLine___init__.bindsN (ps := ["self", "line"]) fun _ _ _ _ _ _ us hl => match us, hl with | [_, _], _ => rfl
theorem sc_cut_at : FnScope ["data", "sign", "found", "byte"] ["data", "sign"] (defScope s_cut_at) := ⟨rfl, rfl, rfl, by decide +kernel, rfl, by decide +kernel, by decide +kernel⟩
theorem bd_cut_at (T : Tx K mg) : Binds K (fdA K (He.ga K "cut_at")) ["data", "sign"] [] := T.f_cut_at.bindsN (ps := ["data", "sign"]) fun _ _ _ _ _ _ us hl => match us, hl with | [_, _], _ => rfl
theorem sc_are_digits : FnScope ["data", "byte"] ["data"] (defScope s_are_digits) := ⟨rfl, rfl, rfl, by decide +kernel, rfl, by decide +kernel, by decide +kernel⟩
theorem bd_are_digits (T : Tx K mg) : Binds K (fdA K (He.ga K "are_digits")) ["data"] [] := T.f_are_digits.bindsN (ps := ["data"]) fun _ _ _ _ _ _ us hl => match us, hl with | [_], _ => rfl
theorem sc_worth : FnScope ["digits", "found", "byte"] ["digits"] (defScope s_worth) := ⟨rfl, rfl, rfl, by decide +kernel, rfl, by decide +kernel, by decide +kernel⟩
theorem bd_worth (T : Tx K mg) : Binds K (fdA K (He.ga K "worth")) ["digits"] [] := T.f_worth.bindsN (ps := ["digits"]) fun _ _ _ _ _ _ us hl => match us, hl with | [_], _ => rfl
theorem sc_number_in : FnScope ["data"] ["data"] (defScope s_number_in) := ⟨rfl, rfl, rfl, by decide +kernel, rfl, by decide +kernel, by decide +kernel⟩
theorem bd_number_in (T : Tx K mg) : Binds K (fdA K (He.ga K "number_in")) ["data"] [] := T.f_number_in.bindsN (ps := ["data"]) fun _ _ _ _ _ _ us hl => match us, hl with | [_], _ => rfl
theorem sc_limited : FnScope ["data", "least", "most", "number"] ["data", "least", "most"] (defScope s_limited) := ⟨rfl, rfl, rfl, by decide +kernel, rfl, by decide +kernel, by decide +kernel⟩
theorem bd_limited (T : Tx K mg) : Binds K (fdA K (He.ga K "limited")) ["data", "least", "most"] [] := T.f_limited.bindsN (ps := ["data", "least", "most"]) fun _ _ _ _ _ _ us hl => match us, hl with | [_, _, _], _ => rfl
theorem sc_removal_in : FnScope ["token", "key"] ["token"] (defScope s_removal_in) := ⟨rfl, rfl, rfl, by decide +kernel, rfl, by decide +kernel, by decide +kernel⟩
theorem bd_removal_in (T : Tx K mg) : Binds K (fdA K (He.ga K "removal_in")) ["token"] [] := T.f_removal_in.bindsN (ps := ["token"]) fun _ _ _ _ _ _ us hl => match us, hl with | [_], _ => rfl
theorem sc_change_in : FnScope ["token", "parts", "key", "value"] ["token"] (defScope s_change_in) := ⟨rfl, rfl, rfl, by decide +kernel, rfl, by decide +kernel, by decide +kernel⟩
theorem bd_change_in (T : Tx K mg) : Binds K (fdA K (He.ga K "change_in")) ["token"] [] := T.f_change_in.bindsN (ps := ["token"]) fun _ _ _ _ _ _ us hl => match us, hl with | [_], _ => rfl
theorem sc_changes_in : FnScope ["line", "number", "tokens", "found", "token", "change"] ["line", "number"] (defScope s_changes_in) := ⟨rfl, rfl, rfl, by decide +kernel, rfl, by decide +kernel, by decide +kernel⟩
theorem bd_changes_in (T : Tx K mg) : Binds K (fdA K (He.ga K "changes_in")) ["line", "number"] [] := T.f_changes_in.bindsN (ps := ["line", "number"]) fun _ _ _ _ _ _ us hl => match us, hl with | [_, _], _ => rfl
theorem sc_journal_in : FnScope ["text", "lines", "entries", "at", "line", "changes"] ["text"] (defScope s_journal_in) := ⟨rfl, rfl, rfl, by decide +kernel, rfl, by decide +kernel, by decide +kernel⟩
theorem bd_journal_in (T : Tx K mg) : Binds K (fdA K (He.ga K "journal_in")) ["text"] [] := T.f_journal_in.bindsN (ps := ["text"]) fun _ _ _ _ _ _ us hl => match us, hl with | [_], _ => rfl
theorem sc_Refused___init__ : FnScope ["self", "error"] ["self", "error"] (defScope s_Refused___init__) := ⟨rfl, rfl, rfl, by decide +kernel, rfl, by decide +kernel, by decide +kernel⟩
theorem bd_Refused___init__ (T : Tx K mg) : Binds K (fdA K (He.ma K (He.ga K "Refused") "__init__")) ["self", "error"] [] := T.f_Refused___init__.bindsN (ps := ["self", "error"]) fun _ _ _ _ _ _ us hl => match us, hl with | [_, _], _ => rfl
theorem sc_want : FnScope ["is_so", "error"] ["is_so", "error"] (defScope s_want) := ⟨rfl, rfl, rfl, by decide +kernel, rfl, by decide +kernel, by decide +kernel⟩
theorem bd_want (T : Tx K mg) : Binds K (fdA K (He.ga K "want")) ["is_so", "error"] [] := T.f_want.bindsN (ps := ["is_so", "error"]) fun _ _ _ _ _ _ us hl => match us, hl with | [_, _], _ => rfl
theorem sc_want_power_range : FnScope ["power"] ["power"] (defScope s_want_power_range) := ⟨rfl, rfl, rfl, by decide +kernel, rfl, by decide +kernel, by decide +kernel⟩
theorem bd_want_power_range (T : Tx K mg) : Binds K (fdA K (He.ga K "want_power_range")) ["power"] [] := T.f_want_power_range.bindsN (ps := ["power"]) fun _ _ _ _ _ _ us hl => match us, hl with | [_], _ => rfl
theorem sc_is_enough : FnScope ["power", "many"] ["power", "many"] (defScope s_is_enough) := ⟨rfl, rfl, rfl, by decide +kernel, rfl, by decide +kernel, by decide +kernel⟩
theorem bd_is_enough (T : Tx K mg) : Binds K (fdA K (He.ga K "is_enough")) ["power", "many"] [] := T.f_is_enough.bindsN (ps := ["power", "many"]) fun _ _ _ _ _ _ us hl => match us, hl with | [_, _], _ => rfl
theorem sc_Store_finish : FnScope ["self"] ["self"] (defScope s_Store_finish) := ⟨rfl, rfl, rfl, by decide +kernel, rfl, by decide +kernel, by decide +kernel⟩
theorem bd_Store_finish (T : Tx K mg) : Binds K (fdA K (He.ma K (He.ga K "Store") "finish")) ["self"] [] := T.f_Store_finish.bindsN (ps := ["self"]) fun _ _ _ _ _ _ us hl => match us, hl with | [_], _ => rfl
theorem sc_Store_begin_anew : FnScope ["self", "number", "entries"] ["self", "number", "entries"] (defScope s_Store_begin_anew) := ⟨rfl, rfl, rfl, by decide +kernel, rfl, by decide +kernel, by decide +kernel⟩
theorem bd_Store_begin_anew (T : Tx K mg) : Binds K (fdA K (He.ma K (He.ga K "Store") "begin_anew")) ["self", "number", "entries"] [] := T.f_Store_begin_anew.bindsN (ps := ["self", "number", "entries"]) fun _ _ _ _ _ _ us hl => match us, hl with | [_, _, _], _ => rfl
theorem sc_Store___init__ : FnScope ["self"] ["self"] (defScope s_Store___init__) := ⟨rfl, rfl, rfl, by decide +kernel, rfl, by decide +kernel, by decide +kernel⟩
theorem bd_Store___init__ (T : Tx K mg) : Binds K (fdA K (He.ma K (He.ga K "Store") "__init__")) ["self"] [] := T.f_Store___init__.bindsN (ps := ["self"]) fun _ _ _ _ _ _ us hl => match us, hl with | [_], _ => rfl
theorem sc_Store_fail : FnScope ["self"] ["self"] (defScope s_Store_fail) := ⟨rfl, rfl, rfl, by decide +kernel, rfl, by decide +kernel, by decide +kernel⟩
theorem bd_Store_fail (T : Tx K mg) : Binds K (fdA K (He.ma K (He.ga K "Store") "fail")) ["self"] [] := T.f_Store_fail.bindsN (ps := ["self"]) fun _ _ _ _ _ _ us hl => match us, hl with | [_], _ => rfl
theorem sc_Store_want_power : FnScope ["self"] ["self"] (defScope s_Store_want_power) := ⟨rfl, rfl, rfl, by decide +kernel, rfl, by decide +kernel, by decide +kernel⟩
theorem bd_Store_want_power (T : Tx K mg) : Binds K (fdA K (He.ma K (He.ga K "Store") "want_power")) ["self"] [] := T.f_Store_want_power.bindsN (ps := ["self"]) fun _ _ _ _ _ _ us hl => match us, hl with | [_], _ => rfl
theorem sc_Store_other : FnScope ["self"] ["self"] (defScope s_Store_other) := ⟨rfl, rfl, rfl, by decide +kernel, rfl, by decide +kernel, by decide +kernel⟩
theorem bd_Store_other (T : Tx K mg) : Binds K (fdA K (He.ma K (He.ga K "Store") "other")) ["self"] [] := T.f_Store_other.bindsN (ps := ["self"]) fun _ _ _ _ _ _ us hl => match us, hl with | [_], _ => rfl
theorem sc_Store_append : FnScope ["self", "number", "data"] ["self", "number", "data"] (defScope s_Store_append) := ⟨rfl, rfl, rfl, by decide +kernel, rfl, by decide +kernel, by decide +kernel⟩
theorem bd_Store_append (T : Tx K mg) : Binds K (fdA K (He.ma K (He.ga K "Store") "append")) ["self", "number", "data"] [] := T.f_Store_append.bindsN (ps := ["self", "number", "data"]) fun _ _ _ _ _ _ us hl => match us, hl with | [_, _, _], _ => rfl
theorem sc_Store_reset : FnScope ["self"] ["self"] (defScope s_Store_reset) := ⟨rfl, rfl, rfl, by decide +kernel, rfl, by decide +kernel, by decide +kernel⟩
theorem bd_Store_reset (T : Tx K mg) : Binds K (fdA K (He.ma K (He.ga K "Store") "reset")) ["self"] [] := T.f_Store_reset.bindsN (ps := ["self"]) fun _ _ _ _ _ _ us hl => match us, hl with | [_], _ => rfl
theorem sc_Store_write_in_part : FnScope ["self", "frame", "power"] ["self", "frame", "power"] (defScope s_Store_write_in_part) := ⟨rfl, rfl, rfl, by decide +kernel, rfl, by decide +kernel, by decide +kernel⟩
theorem bd_Store_write_in_part (T : Tx K mg) : Binds K (fdA K (He.ma K (He.ga K "Store") "write_in_part")) ["self", "frame", "power"] [] := T.f_Store_write_in_part.bindsN (ps := ["self", "frame", "power"]) fun _ _ _ _ _ _ us hl => match us, hl with | [_, _, _], _ => rfl
theorem sc_Store_tick : FnScope ["self", "power", "numbers", "frame", "many"] ["self", "power", "numbers"] (defScope s_Store_tick) := ⟨rfl, rfl, rfl, by decide +kernel, rfl, by decide +kernel, by decide +kernel⟩
theorem bd_Store_tick (T : Tx K mg) : Binds K (fdA K (He.ma K (He.ga K "Store") "tick")) ["self", "power", "numbers"] [] := T.f_Store_tick.bindsN (ps := ["self", "power", "numbers"]) fun _ _ _ _ _ _ us hl => match us, hl with | [_, _, _], _ => rfl
theorem sc_Store_begin_checkpoint : FnScope ["self"] ["self"] (defScope s_Store_begin_checkpoint) := ⟨rfl, rfl, rfl, by decide +kernel, rfl, by decide +kernel, by decide +kernel⟩
theorem bd_Store_begin_checkpoint (T : Tx K mg) : Binds K (fdA K (He.ma K (He.ga K "Store") "begin_checkpoint")) ["self"] [] := T.f_Store_begin_checkpoint.bindsN (ps := ["self"]) fun _ _ _ _ _ _ us hl => match us, hl with | [_], _ => rfl
theorem sc_Store_write_checkpoint : FnScope ["self", "count"] ["self", "count"] (defScope s_Store_write_checkpoint) := ⟨rfl, rfl, rfl, by decide +kernel, rfl, by decide +kernel, by decide +kernel⟩
theorem bd_Store_write_checkpoint (T : Tx K mg) : Binds K (fdA K (He.ma K (He.ga K "Store") "write_checkpoint")) ["self", "count"] [] := T.f_Store_write_checkpoint.bindsN (ps := ["self", "count"]) fun _ _ _ _ _ _ us hl => match us, hl with | [_, _], _ => rfl
theorem sc_Store_commit_checkpoint : FnScope ["self", "power", "number", "frame"] ["self", "power"] (defScope s_Store_commit_checkpoint) := ⟨rfl, rfl, rfl, by decide +kernel, rfl, by decide +kernel, by decide +kernel⟩
theorem bd_Store_commit_checkpoint (T : Tx K mg) : Binds K (fdA K (He.ma K (He.ga K "Store") "commit_checkpoint")) ["self", "power"] [] := T.f_Store_commit_checkpoint.bindsN (ps := ["self", "power"]) fun _ _ _ _ _ _ us hl => match us, hl with | [_, _], _ => rfl
theorem sc_Store_cut_power : FnScope ["self"] ["self"] (defScope s_Store_cut_power) := ⟨rfl, rfl, rfl, by decide +kernel, rfl, by decide +kernel, by decide +kernel⟩
theorem bd_Store_cut_power (T : Tx K mg) : Binds K (fdA K (He.ma K (He.ga K "Store") "cut_power")) ["self"] [] := T.f_Store_cut_power.bindsN (ps := ["self"]) fun _ _ _ _ _ _ us hl => match us, hl with | [_], _ => rfl
theorem sc_Store_commits : FnScope ["self", "found", "data", "record"] ["self"] (defScope s_Store_commits) := ⟨rfl, rfl, rfl, by decide +kernel, rfl, by decide +kernel, by decide +kernel⟩
theorem bd_Store_commits (T : Tx K mg) : Binds K (fdA K (He.ma K (He.ga K "Store") "commits")) ["self"] [] := T.f_Store_commits.bindsN (ps := ["self"]) fun _ _ _ _ _ _ us hl => match us, hl with | [_], _ => rfl
theorem sc_Store_recovered : FnScope ["self", "commit", "side", "checkpoint", "number", "entries", "rows", "size", "row", "dropped"] ["self", "commit", "side", "checkpoint"] (defScope s_Store_recovered) := ⟨rfl, rfl, rfl, by decide +kernel, rfl, by decide +kernel, by decide +kernel⟩
theorem bd_Store_recovered (T : Tx K mg) : Binds K (fdA K (He.ma K (He.ga K "Store") "recovered")) ["self", "commit", "side", "checkpoint"] [] := T.f_Store_recovered.bindsN (ps := ["self", "commit", "side", "checkpoint"]) fun _ _ _ _ _ _ us hl => match us, hl with | [_, _, _, _], _ => rfl
theorem sc_Store_recover : FnScope ["self", "number", "side", "checkpoint"] ["self"] (defScope s_Store_recover) := ⟨rfl, rfl, rfl, by decide +kernel, rfl, by decide +kernel, by decide +kernel⟩
theorem bd_Store_recover (T : Tx K mg) : Binds K (fdA K (He.ma K (He.ga K "Store") "recover")) ["self"] [] := T.f_Store_recover.bindsN (ps := ["self"]) fun _ _ _ _ _ _ us hl => match us, hl with | [_], _ => rfl
theorem sc_Store_get : FnScope ["self", "key"] ["self", "key"] (defScope s_Store_get) := ⟨rfl, rfl, rfl, by decide +kernel, rfl, by decide +kernel, by decide +kernel⟩
theorem bd_Store_get (T : Tx K mg) : Binds K (fdA K (He.ma K (He.ga K "Store") "get")) ["self", "key"] [] := T.f_Store_get.bindsN (ps := ["self", "key"]) fun _ _ _ _ _ _ us hl => match us, hl with | [_, _], _ => rfl
theorem sc_Store_contents : FnScope ["self"] ["self"] (defScope s_Store_contents) := ⟨rfl, rfl, rfl, by decide +kernel, rfl, by decide +kernel, by decide +kernel⟩
theorem bd_Store_contents (T : Tx K mg) : Binds K (fdA K (He.ma K (He.ga K "Store") "contents")) ["self"] [] := T.f_Store_contents.bindsN (ps := ["self"]) fun _ _ _ _ _ _ us hl => match us, hl with | [_], _ => rfl
theorem sc_Store_read_file : FnScope ["self", "number"] ["self", "number"] (defScope s_Store_read_file) := ⟨rfl, rfl, rfl, by decide +kernel, rfl, by decide +kernel, by decide +kernel⟩
theorem bd_Store_read_file (T : Tx K mg) : Binds K (fdA K (He.ma K (He.ga K "Store") "read_file")) ["self", "number"] [] := T.f_Store_read_file.bindsN (ps := ["self", "number"]) fun _ _ _ _ _ _ us hl => match us, hl with | [_, _], _ => rfl
theorem sc_Store_corrupt_byte : FnScope ["self", "number", "at", "byte", "data"] ["self", "number", "at", "byte"] (defScope s_Store_corrupt_byte) := ⟨rfl, rfl, rfl, by decide +kernel, rfl, by decide +kernel, by decide +kernel⟩
theorem bd_Store_corrupt_byte (T : Tx K mg) : Binds K (fdA K (He.ma K (He.ga K "Store") "corrupt_byte")) ["self", "number", "at", "byte"] [] := T.f_Store_corrupt_byte.bindsN (ps := ["self", "number", "at", "byte"]) fun _ _ _ _ _ _ us hl => match us, hl with | [_, _, _, _], _ => rfl
theorem sc_Store_import_journal : FnScope ["self", "text", "number", "entries"] ["self", "text"] (defScope s_Store_import_journal) := ⟨rfl, rfl, rfl, by decide +kernel, rfl, by decide +kernel, by decide +kernel⟩
theorem bd_Store_import_journal (T : Tx K mg) : Binds K (fdA K (He.ma K (He.ga K "Store") "import_journal")) ["self", "text"] [] := T.f_Store_import_journal.bindsN (ps := ["self", "text"]) fun _ _ _ _ _ _ us hl => match us, hl with | [_, _], _ => rfl
theorem sc_Store_status : FnScope ["self", "found"] ["self"] (defScope s_Store_status) := ⟨rfl, rfl, rfl, by decide +kernel, rfl, by decide +kernel, by decide +kernel⟩
theorem bd_Store_status (T : Tx K mg) : Binds K (fdA K (He.ma K (He.ga K "Store") "status")) ["self"] [] := T.f_Store_status.bindsN (ps := ["self"]) fun _ _ _ _ _ _ us hl => match us, hl with | [_], _ => rfl
theorem sc_Store_list_ticks : FnScope ["self", "found", "row", "end"] ["self"] (defScope s_Store_list_ticks) := ⟨rfl, rfl, rfl, by decide +kernel, rfl, by decide +kernel, by decide +kernel⟩
theorem bd_Store_list_ticks (T : Tx K mg) : Binds K (fdA K (He.ma K (He.ga K "Store") "list_ticks")) ["self"] [] := T.f_Store_list_ticks.bindsN (ps := ["self"]) fun _ _ _ _ _ _ us hl => match us, hl with | [_], _ => rfl
theorem sc_counted_frames : FnScope ["data", "frames"] ["data"] (defScope s_counted_frames) := ⟨rfl, rfl, rfl, by decide +kernel, rfl, by decide +kernel, by decide +kernel⟩
theorem bd_counted_frames (T : Tx K mg) : Binds K (fdA K (He.ga K "counted_frames")) ["data"] [] := T.f_counted_frames.bindsN (ps := ["data"]) fun _ _ _ _ _ _ us hl => match us, hl with | [_], _ => rfl
theorem sc_checksum_told : FnScope ["data"] ["data"] (defScope s_checksum_told) := ⟨rfl, rfl, rfl, by decide +kernel, rfl, by decide +kernel, by decide +kernel⟩
theorem bd_checksum_told (T : Tx K mg) : Binds K (fdA K (He.ga K "checksum_told")) ["data"] [] := T.f_checksum_told.bindsN (ps := ["data"]) fun _ _ _ _ _ _ us hl => match us, hl with | [_], _ => rfl
theorem sc_frame_told : FnScope ["row"] ["row"] (defScope s_frame_told) := ⟨rfl, rfl, rfl, by decide +kernel, rfl, by decide +kernel, by decide +kernel⟩
theorem bd_frame_told (T : Tx K mg) : Binds K (fdA K (He.ga K "frame_told")) ["row"] [] := T.f_frame_told.bindsN (ps := ["row"]) fun _ _ _ _ _ _ us hl => match us, hl with | [_], _ => rfl
theorem sc_previewed : FnScope ["text", "found", "number", "entries", "e"] ["text"] (defScope s_previewed) := ⟨rfl, rfl, rfl, by decide +kernel, rfl, by decide +kernel, by decide +kernel⟩
theorem bd_previewed (T : Tx K mg) : Binds K (fdA K (He.ga K "previewed")) ["text"] [] := T.f_previewed.bindsN (ps := ["text"]) fun _ _ _ _ _ _ us hl => match us, hl with | [_], _ => rfl
theorem sc_of_writing : FnScope ["store", "call", "n", "row"] ["store", "call", "n", "row"] (defScope s_of_writing) := ⟨rfl, rfl, rfl, by decide +kernel, rfl, by decide +kernel, by decide +kernel⟩
theorem bd_of_writing (T : Tx K mg) : Binds K (fdA K (He.ga K "of_writing")) ["store", "call", "n", "row"] [] := T.f_of_writing.bindsN (ps := ["store", "call", "n", "row"]) fun _ _ _ _ _ _ us hl => match us, hl with | [_, _, _, _], _ => rfl
theorem sc_of_store : FnScope ["store", "call", "n", "row"] ["store", "call", "n", "row"] (defScope s_of_store) := ⟨rfl, rfl, rfl, by decide +kernel, rfl, by decide +kernel, by decide +kernel⟩
theorem bd_of_store (T : Tx K mg) : Binds K (fdA K (He.ga K "of_store")) ["store", "call", "n", "row"] [] := T.f_of_store.bindsN (ps := ["store", "call", "n", "row"]) fun _ _ _ _ _ _ us hl => match us, hl with | [_, _, _, _], _ => rfl
theorem sc_of_lists : FnScope ["call", "row"] ["call", "row"] (defScope s_of_lists) := ⟨rfl, rfl, rfl, by decide +kernel, rfl, by decide +kernel, by decide +kernel⟩
theorem bd_of_lists (T : Tx K mg) : Binds K (fdA K (He.ga K "of_lists")) ["call", "row"] [] := T.f_of_lists.bindsN (ps := ["call", "row"]) fun _ _ _ _ _ _ us hl => match us, hl with | [_, _], _ => rfl
theorem sc_called : FnScope ["store", "call", "n", "row"] ["store", "call", "n", "row"] (defScope s_called) := ⟨rfl, rfl, rfl, by decide +kernel, rfl, by decide +kernel, by decide +kernel⟩
theorem bd_called (T : Tx K mg) : Binds K (fdA K (He.ga K "called")) ["store", "call", "n", "row"] [] := T.f_called.bindsN (ps := ["store", "call", "n", "row"]) fun _ _ _ _ _ _ us hl => match us, hl with | [_, _, _, _], _ => rfl
theorem sc_answered : FnScope ["store", "call", "n", "row", "found", "e"] ["store", "call", "n", "row"] (defScope s_answered) := ⟨rfl, rfl, rfl, by decide +kernel, rfl, by decide +kernel, by decide +kernel⟩
theorem bd_answered (T : Tx K mg) : Binds K (fdA K (He.ga K "answered")) ["store", "call", "n", "row"] [] := T.f_answered.bindsN (ps := ["store", "call", "n", "row"]) fun _ _ _ _ _ _ us hl => match us, hl with | [_, _, _, _], _ => rfl
theorem sc_answers : FnScope ["calls", "store", "found", "at", "call", "end", "n", "row", "begin", "told"] ["calls"] (defScope s_answers) := ⟨rfl, rfl, rfl, by decide +kernel, rfl, by decide +kernel, by decide +kernel⟩
theorem bd_answers (T : Tx K mg) : Binds K (fdA K (He.ga K "answers")) ["calls"] [] := T.f_answers.bindsN (ps := ["calls"]) fun _ _ _ _ _ _ us hl => match us, hl with | [_], _ => rfl
end
end Ts
/-! ## TsD1 -/
namespace Ts
open PySem PySem.Spec PyProof.Rows L2
section
variable {K : PySem.W.Frag} {mg : Str → Option Value}
theorem mk_Store_tick {P : Program} {w : World} {base : Heap} (T : Tx K mg) (G_want_power_range : FnOk P w K mg base (L2.CX P w) 4 (He.ga K "want_power_range") (fdA K (He.ga K "want_power_range")) ["power"] (sp_want_power_range K)) (G_want : FnOk P w K mg base (L2.CX P w) 3 (He.ga K "want") (fdA K (He.ga K "want")) ["is_so", "error"] (sp_want K)) (G_Store_want_power : FnOk P w K mg base (L2.CX P w) 4 (He.ma K (He.ga K "Store") "want_power") (fdA K (He.ma K (He.ga K "Store") "want_power")) ["self"] (sp_Store_want_power K)) (G_frame_of : FnOk P w K mg base CX0 4 (He.ga K "frame_of") (fdA K (He.ga K "frame_of")) ["row"] (sp_frame_of K)) (G_Store_append : FnOk P w K mg base CX0 1 (He.ma K (He.ga K "Store") "append") (fdA K (He.ma K (He.ga K "Store") "append")) ["self", "number", "data"] (sp_Store_append K)) (G_changed : FnOk P w K mg base CX0 2 (He.ga K "changed") (fdA K (He.ga K "changed")) ["entries", "numbers"] (sp_changed K)) (G_tick_row : FnOk P w K mg base CX0 2 (He.ga K "tick_row") (fdA K (He.ga K "tick_row")) ["number", "numbers"] (sp_tick_row K)) (G_is_enough : FnOk P w K mg base CX0 1 (He.ga K "is_enough") (fdA K (He.ga K "is_enough")) ["power", "many"] (sp_is_enough K)) (G_Store_write_in_part : FnOk P w K mg base CX0 2 (He.ma K (He.ga K "Store") "write_in_part") (fdA K (He.ma K (He.ga K "Store") "write_in_part")) ["self", "frame", "power"] (sp_Store_write_in_part K)) (G_Store_fail : FnOk P w K mg base CX0 2 (He.ma K (He.ga K "Store") "fail") (fdA K (He.ma K (He.ga K "Store") "fail")) ["self"] (sp_Store_fail K)) (G_are_changes : FnOk P w K mg base CX0 3 (He.ga K "are_changes") (fdA K (He.ga K "are_changes")) ["numbers"] (sp_are_changes K)) (G_Store_other : FnOk P w K mg base CX0 1 (He.ma K (He.ga K "Store") "other") (fdA K (He.ma K (He.ga K "Store") "other")) ["self"] (sp_Store_other K))
    (len : ∀ vs H Q E, sp_Store_tick K vs H Q E → vs.length = 3)
    (pure : ∀ vs H Q E, sp_Store_tick K vs H Q E → t_Store_tick K E { nx := fun _ H' => Q .non H', rt := Q } (start ["self", "power", "numbers", "frame", "many"] vs) H) :
    FnOk P w K mg base (L2.CX P w) 5 (He.ma K (He.ga K "Store") "tick") (fdA K (He.ma K (He.ga K "Store") "tick")) ["self", "power", "numbers"] (sp_Store_tick K) :=
  T.f_Store_tick.ok sc_Store_tick len fun cdv A outer s H vs Q E hr h => ⟨t_Store_tick K E, (pss_cons (ps_expr (pe_call G_want_power_range (hr.mono (by decide)) (by rfl) T.g_want_power_range T.f_want_power_range.kp (bd_want_power_range T) .nil (passes_call (takes_of rfl rfl rfl rfl) (fun _ _ _ _ h => h)) (by exact (pa_cons (pv 1) pa_nil))))
  (pss_cons (ps_expr (pe_call G_want (hr.mono (by decide)) (by rfl) T.g_want T.f_want.kp (bd_want T) .nil (passes_call (takes_of rfl rfl rfl rfl) (fun _ _ _ _ h => h)) (by exact (pa_cons (pe_and (pe_cmpR op_le (pe_callB call_len_seq (by rfl) T.n_len PySem.boot_len (by exact (pa_cons (pv 2) pa_nil))) (pe_glob (by rfl) T.c_MOST_CHANGES_desk.choose_spec ⟨_, rfl⟩) (nomark _)) (pe_one (pe_call G_are_changes (hr.mono (by decide)) (by rfl) T.g_are_changes T.f_are_changes.kp (bd_are_changes T) .nil pass0 (by exact (pa_cons (pv 2) pa_nil))))) (pa_cons (pe_glob (by rfl) T.c_OUTSIDE.choose_spec ⟨_, rfl⟩) pa_nil)))))
  (pss_cons (ps_expr (pe_meth0 (pv 0) T.cl T.m_want_power G_Store_want_power (hr.mono (by decide)) (bd_Store_want_power T) .nil (passes_call (takes_of rfl rfl rfl rfl) (fun _ _ _ _ h => h))))
  (pss_cons (ps_expr (pe_call G_want (hr.mono (by decide)) (by rfl) T.g_want T.f_want.kp (bd_want T) .nil (passes_call (takes_of rfl rfl rfl rfl) (fun _ _ _ _ h => h)) (by exact (pa_cons (pe_cmpR op_lt (pe_fld (pv 0) rfl) (pe_glob (by rfl) T.c_MOST_NUMBER.choose_spec ⟨_, rfl⟩) (nomark _)) (pa_cons (pe_glob (by rfl) T.c_TOO_GREAT.choose_spec ⟨_, rfl⟩) pa_nil)))))
  (pss_cons (ps_set (i := 3) sc_Store_tick.nd rfl (Or.inl rfl) (pe_call G_frame_of (hr.mono (by decide)) (by rfl) T.g_frame_of T.f_frame_of.kp (bd_frame_of T) .nil pass0 (by exact (pa_cons (pe_call G_tick_row (hr.mono (by decide)) (by rfl) T.g_tick_row T.f_tick_row.kp (bd_tick_row T) .nil pass0 (by exact (pa_cons (pe_op op_add (pe_fld (pv 0) rfl) pe_int) (pa_cons (pv 2) pa_nil)))) pa_nil))))
  (pss_cons (ps_set (i := 4) sc_Store_tick.nd rfl (Or.inl rfl) (pe_op op_mul (pe_callB call_len_seq (by rfl) T.n_len PySem.boot_len (by exact (pa_cons (pv 3) pa_nil))) (pe_op op_add pe_int (pe_callTy call_int1 (by rfl) T.n_int (by decide +kernel) (by exact (pa_cons (pe_fld (pv 0) rfl) pa_nil))))))
  (pss_cons (ps_if (pt_not (pt_val (pe_call G_is_enough (hr.mono (by decide)) (by rfl) T.g_is_enough T.f_is_enough.kp (bd_is_enough T) .nil pass0 (by exact (pa_cons (pv 1) (pa_cons (pv 4) pa_nil))))))
  (pss_cons (ps_expr (pe_meth (pv 0) T.cl T.m_write_in_part G_Store_write_in_part (hr.mono (by decide)) (bd_Store_write_in_part T) .nil pass0 (by exact (pa_cons (pv 3) (pa_cons (pv 1) pa_nil)))))
  (pss_cons (ps_expr (pe_meth0 (pv 0) T.cl T.m_fail G_Store_fail (hr.mono (by decide)) (bd_Store_fail T) .nil pass0))
  (pss_one (ps_ret (pe_lst (pa_cons (pe_glob (by rfl) T.c_FAILED.choose_spec ⟨_, rfl⟩) (pa_cons (pv 4) pa_nil)))))))
  pss_nil)
  (pss_cons (ps_expr (pe_meth (pv 0) T.cl T.m_append G_Store_append (hr.mono (by decide)) (bd_Store_append T) .nil pass0 (by exact (pa_cons (pe_op op_add (pe_glob (by rfl) T.c_JOURNAL.choose_spec ⟨_, rfl⟩) (pe_fld (pv 0) rfl)) (pa_cons (pv 3) pa_nil)))))
  (pss_cons (ps_if (pt_val (pe_fld (pv 0) rfl))
  (pss_one (ps_expr (pe_meth (pv 0) T.cl T.m_append G_Store_append (hr.mono (by decide)) (bd_Store_append T) .nil pass0 (by exact (pa_cons (pe_op op_add (pe_glob (by rfl) T.c_JOURNAL.choose_spec ⟨_, rfl⟩) (pe_meth0 (pv 0) T.cl T.m_other G_Store_other (hr.mono (by decide)) (bd_Store_other T) .nil pass0)) (pa_cons (pv 3) pa_nil))))))
  pss_nil)
  (pss_cons (ps_fldaug (pv 0) pe_int in_add)
  (pss_cons (ps_fld (pv 0) (pe_call G_changed (hr.mono (by decide)) (by rfl) T.g_changed T.f_changed.kp (bd_changed T) .nil pass0 (by exact (pa_cons (pe_fld (pv 0) rfl) (pa_cons (pv 2) pa_nil)))) rfl)
  (pss_cons (ps_fld (pv 0) (pe_fld (pv 0) rfl) rfl)
  (pss_one (ps_ret (pe_lst (pa_cons (pe_fld (pv 0) rfl) (pa_cons (pv 4) pa_nil))))))))))))))))), pure vs H Q E h⟩
theorem mk_Store_corrupt_byte {P : Program} {w : World} {base : Heap} (T : Tx K mg) (G_want : FnOk P w K mg base (L2.CX P w) 3 (He.ga K "want") (fdA K (He.ga K "want")) ["is_so", "error"] (sp_want K))
    (len : ∀ vs H Q E, sp_Store_corrupt_byte K vs H Q E → vs.length = 4)
    (pure : ∀ vs H Q E, sp_Store_corrupt_byte K vs H Q E → t_Store_corrupt_byte K E { nx := fun _ H' => Q .non H', rt := Q } (start ["self", "number", "at", "byte", "data"] vs) H) :
    FnOk P w K mg base (L2.CX P w) 4 (He.ma K (He.ga K "Store") "corrupt_byte") (fdA K (He.ma K (He.ga K "Store") "corrupt_byte")) ["self", "number", "at", "byte"] (sp_Store_corrupt_byte K) :=
  T.f_Store_corrupt_byte.ok sc_Store_corrupt_byte len fun cdv A outer s H vs Q E hr h => ⟨t_Store_corrupt_byte K E, (pss_cons (ps_expr (pe_call G_want (hr.mono (by decide)) (by rfl) T.g_want T.f_want.kp (bd_want T) .nil (passes_call (takes_of rfl rfl rfl rfl) (fun _ _ _ _ h => h)) (by exact (pa_cons (pe_and (pe_chain op_le op_lt pe_int (pv 1) (pe_glob (by rfl) T.c_FILES.choose_spec ⟨_, rfl⟩)) (pe_one (pe_chain op_le op_le pe_int (pv 3) (pe_glob (by rfl) T.c_MOST_BYTE.choose_spec ⟨_, rfl⟩)))) (pa_cons (pe_glob (by rfl) T.c_OUTSIDE.choose_spec ⟨_, rfl⟩) pa_nil)))))
  (pss_cons (ps_expr (pe_call G_want (hr.mono (by decide)) (by rfl) T.g_want T.f_want.kp (bd_want T) .nil (passes_call (takes_of rfl rfl rfl rfl) (fun _ _ _ _ h => h)) (by exact (pa_cons (pe_chain op_le op_lt pe_int (pv 2) (pe_callB call_len_seq (by rfl) T.n_len PySem.boot_len (by exact (pa_cons (pe_ix ix_list (pe_fld (pv 0) rfl) (pv 1) (fun _ _ => rfl)) pa_nil)))) (pa_cons (pe_glob (by rfl) T.c_NONE_SUCH.choose_spec ⟨_, rfl⟩) pa_nil)))))
  (pss_cons (ps_set (i := 4) sc_Store_corrupt_byte.nd rfl (Or.inl rfl) (pe_ix ix_list (pe_fld (pv 0) rfl) (pv 1) (fun _ _ => rfl)))
  (pss_cons (ps_asg (pe_op op_cat (pe_op op_cat (pe_slice sl_list (pv 4) po_none (po_some (pv 2))) (pe_lst (pa_cons (pv 3) pa_nil))) (pe_slice sl_list (pv 4) (po_some (pe_op op_add (pv 2) pe_int)) po_none)) (pg_sub (pe_fld (pv 0) rfl) (pv 1) set_list))
  (pss_one (ps_ret (pe_lst pa_nil))))))), pure vs H Q E h⟩
theorem mk_number_in {P : Program} {w : World} {base : Heap} (T : Tx K mg) (G_worth : FnOk P w K mg base CX0 1 (He.ga K "worth") (fdA K (He.ga K "worth")) ["digits"] (sp_worth K)) (G_are_digits : FnOk P w K mg base CX0 1 (He.ga K "are_digits") (fdA K (He.ga K "are_digits")) ["data"] (sp_are_digits K))
    (len : ∀ vs H Q E, sp_number_in K vs H Q E → vs.length = 1)
    (pure : ∀ vs H Q E, sp_number_in K vs H Q E → t_number_in K { nx := fun _ H' => Q .non H', rt := Q } (start ["data"] vs) H) :
    FnOk P w K mg base CX0 2 (He.ga K "number_in") (fdA K (He.ga K "number_in")) ["data"] (sp_number_in K) :=
  T.f_number_in.ok sc_number_in len fun cdv A outer s H vs Q E hr h => ⟨t_number_in K, PSs.nox (pss_cons (ps_if (pt_cmpR (op_eqD hr.units) (pe_slice sl_list (pv 0) po_none (po_some pe_int)) (pe_lst (pa_cons (pe_glob (by rfl) T.c_MINUS.choose_spec ⟨_, rfl⟩) pa_nil)) (nomark _))
  (pss_cons (ps_if (PW.pt (pw_or (pt_not (pt_val (pe_call G_are_digits (hr.mono (by decide)) (by rfl) T.g_are_digits T.f_are_digits.kp (bd_are_digits T) .nil pass0 (by exact (pa_cons (pe_slice sl_list (pv 0) (po_some pe_int) po_none) pa_nil))))) (pw_or1 (pt_cmpR op_eqI (pe_ix ix_list (pv 0) pe_int (fun _ _ => rfl)) (pe_glob (by rfl) T.c_NOUGHT.choose_spec ⟨_, rfl⟩) (nomark _)))))
  (pss_one (ps_ret pe_non))
  pss_nil)
  (pss_one (ps_ret (pe_op op_sub pe_int (pe_call G_worth (hr.mono (by decide)) (by rfl) T.g_worth T.f_worth.kp (bd_worth T) .nil pass0 (by exact (pa_cons (pe_slice sl_list (pv 0) (po_some pe_int) po_none) pa_nil)))))))
  pss_nil)
  (pss_cons (ps_if (pt_not (pt_val (pe_call G_are_digits (hr.mono (by decide)) (by rfl) T.g_are_digits T.f_are_digits.kp (bd_are_digits T) .nil pass0 (by exact (pa_cons (pv 0) pa_nil)))))
  (pss_one (ps_ret pe_non))
  pss_nil)
  (pss_one (ps_ret (pe_call G_worth (hr.mono (by decide)) (by rfl) T.g_worth T.f_worth.kp (bd_worth T) .nil pass0 (by exact (pa_cons (pv 0) pa_nil))))))), pure vs H Q E h⟩
theorem mk_frame_told {P : Program} {w : World} {base : Heap} (T : Tx K mg) (G_want : FnOk P w K mg base (L2.CX P w) 3 (He.ga K "want") (fdA K (He.ga K "want")) ["is_so", "error"] (sp_want K)) (G_frame_of : FnOk P w K mg base CX0 4 (He.ga K "frame_of") (fdA K (He.ga K "frame_of")) ["row"] (sp_frame_of K))
    (len : ∀ vs H Q E, sp_frame_told K vs H Q E → vs.length = 1)
    (pure : ∀ vs H Q E, sp_frame_told K vs H Q E → t_frame_told K E { nx := fun _ H' => Q .non H', rt := Q } (start ["row"] vs) H) :
    FnOk P w K mg base (L2.CX P w) 5 (He.ga K "frame_told") (fdA K (He.ga K "frame_told")) ["row"] (sp_frame_told K) :=
  T.f_frame_told.ok sc_frame_told len fun cdv A outer s H vs Q E hr h => ⟨t_frame_told K E, (pss_cons (ps_expr (pe_call G_want (hr.mono (by decide)) (by rfl) T.g_want T.f_want.kp (bd_want T) .nil (passes_call (takes_of rfl rfl rfl rfl) (fun _ _ _ _ h => h)) (by exact (pa_cons (pe_cmpR op_le (pe_callB call_len_seq (by rfl) T.n_len PySem.boot_len (by exact (pa_cons (pv 0) pa_nil))) (pe_glob (by rfl) T.c_MOST_ROW.choose_spec ⟨_, rfl⟩) (nomark _)) (pa_cons (pe_glob (by rfl) T.c_OUTSIDE.choose_spec ⟨_, rfl⟩) pa_nil)))))
  (pss_one (ps_ret (pe_call G_frame_of (hr.mono (by decide)) (by rfl) T.g_frame_of T.f_frame_of.kp (bd_frame_of T) .nil pass0 (by exact (pa_cons (pv 0) pa_nil)))))), pure vs H Q E h⟩
theorem mk_only_row {P : Program} {w : World} {base : Heap} (T : Tx K mg) (G_frame_at : FnOk P w K mg base CX0 4 (He.ga K "frame_at") (fdA K (He.ga K "frame_at")) ["data", "at"] (sp_frame_at K))
    (len : ∀ vs H Q E, sp_only_row K vs H Q E → vs.length = 1)
    (pure : ∀ vs H Q E, sp_only_row K vs H Q E → t_only_row K { nx := fun _ H' => Q .non H', rt := Q } (start ["data", "frame"] vs) H) :
    FnOk P w K mg base CX0 5 (He.ga K "only_row") (fdA K (He.ga K "only_row")) ["data"] (sp_only_row K) :=
  T.f_only_row.ok sc_only_row len fun cdv A outer s H vs Q E hr h => ⟨t_only_row K, PSs.nox (pss_cons (ps_set (i := 1) sc_only_row.nd rfl (Or.inl rfl) (pe_call G_frame_at (hr.mono (by decide)) (by rfl) T.g_frame_at T.f_frame_at.kp (bd_frame_at T) .nil pass0 (by exact (pa_cons (pv 0) (pa_cons pe_int pa_nil)))))
  (pss_cons (ps_if (PW.pt (pw_or (pt_cmpR op_isN (pv 1) pe_non (nomark _)) (pw_or1 (pt_cmpR op_neI (pe_ix ix_tup (pv 1) pe_int (fun _ _ => rfl)) (pe_callB call_len_seq (by rfl) T.n_len PySem.boot_len (by exact (pa_cons (pv 0) pa_nil))) (nomark _)))))
  (pss_one (ps_ret pe_non))
  pss_nil)
  (pss_one (ps_ret (pe_ix ix_tup (pv 1) pe_int (fun _ _ => rfl)))))), pure vs H Q E h⟩
theorem mk_want_power_range {P : Program} {w : World} {base : Heap} (T : Tx K mg) (G_want : FnOk P w K mg base (L2.CX P w) 3 (He.ga K "want") (fdA K (He.ga K "want")) ["is_so", "error"] (sp_want K))
    (len : ∀ vs H Q E, sp_want_power_range K vs H Q E → vs.length = 1)
    (pure : ∀ vs H Q E, sp_want_power_range K vs H Q E → t_want_power_range K E { nx := fun _ H' => Q .non H', rt := Q } (start ["power"] vs) H) :
    FnOk P w K mg base (L2.CX P w) 4 (He.ga K "want_power_range") (fdA K (He.ga K "want_power_range")) ["power"] (sp_want_power_range K) :=
  T.f_want_power_range.ok sc_want_power_range len fun cdv A outer s H vs Q E hr h => ⟨t_want_power_range K E, (pss_one (ps_expr (pe_call G_want (hr.mono (by decide)) (by rfl) T.g_want T.f_want.kp (bd_want T) .nil (passes_call (takes_of rfl rfl rfl rfl) (fun _ _ _ _ h => h)) (by exact (pa_cons (pe_chain op_le op_le (pe_glob (by rfl) T.c_UNLIMITED.choose_spec ⟨_, rfl⟩) (pv 0) (pe_glob (by rfl) T.c_MOST_POWER.choose_spec ⟨_, rfl⟩)) (pa_cons (pe_glob (by rfl) T.c_OUTSIDE.choose_spec ⟨_, rfl⟩) pa_nil)))))), pure vs H Q E h⟩
theorem mk_worth {P : Program} {w : World} {base : Heap} (T : Tx K mg) 
    (len : ∀ vs H Q E, sp_worth K vs H Q E → vs.length = 1)
    (pure : ∀ vs H Q E, sp_worth K vs H Q E → t_worth K { nx := fun _ H' => Q .non H', rt := Q } (start ["digits", "found", "byte"] vs) H) :
    FnOk P w K mg base CX0 1 (He.ga K "worth") (fdA K (He.ga K "worth")) ["digits"] (sp_worth K) :=
  T.f_worth.ok sc_worth len fun cdv A outer s H vs Q E hr h => ⟨t_worth K, PSs.nox (pss_cons (ps_set (i := 1) sc_worth.nd rfl (Or.inl rfl) pe_int)
  (pss_cons (ps_for PassesOwn.never rfl (pi_list (pv 0)) (pg_name (i := 2) sc_worth.nd rfl (Or.inl rfl))
  (pss_one (ps_set (i := 1) sc_worth.nd rfl (Or.inl rfl) (pe_op op_sub (pe_op op_add (pe_op op_mul pe_int (pv 1)) (pv 2)) (pe_glob (by rfl) T.c_NOUGHT.choose_spec ⟨_, rfl⟩)))))
  (pss_one (ps_ret (pv 1))))), pure vs H Q E h⟩
theorem mk_Store_append {P : Program} {w : World} {base : Heap} (T : Tx K mg) 
    (len : ∀ vs H Q E, sp_Store_append K vs H Q E → vs.length = 3)
    (pure : ∀ vs H Q E, sp_Store_append K vs H Q E → t_Store_append K { nx := fun _ H' => Q .non H', rt := Q } (start ["self", "number", "data"] vs) H) :
    FnOk P w K mg base CX0 1 (He.ma K (He.ga K "Store") "append") (fdA K (He.ma K (He.ga K "Store") "append")) ["self", "number", "data"] (sp_Store_append K) :=
  T.f_Store_append.ok sc_Store_append len fun cdv A outer s H vs Q E hr h => ⟨t_Store_append K, PSs.nox (pss_one (ps_asg (pe_op op_cat (pe_ix ix_list (pe_fld (pv 0) rfl) (pv 1) (fun _ _ => rfl)) (pv 2)) (pg_sub (pe_fld (pv 0) rfl) (pv 1) set_list))), pure vs H Q E h⟩
end
end Ts
/-! ## TsD2 -/
namespace Ts
open PySem PySem.Spec PyProof.Rows L2
section
variable {K : PySem.W.Frag} {mg : Str → Option Value}
theorem mk_Store_commit_checkpoint {P : Program} {w : World} {base : Heap} (T : Tx K mg) (G_want_power_range : FnOk P w K mg base (L2.CX P w) 4 (He.ga K "want_power_range") (fdA K (He.ga K "want_power_range")) ["power"] (sp_want_power_range K)) (G_Store_want_power : FnOk P w K mg base (L2.CX P w) 4 (He.ma K (He.ga K "Store") "want_power") (fdA K (He.ma K (He.ga K "Store") "want_power")) ["self"] (sp_Store_want_power K)) (G_want : FnOk P w K mg base (L2.CX P w) 3 (He.ga K "want") (fdA K (He.ga K "want")) ["is_so", "error"] (sp_want K)) (G_frame_of : FnOk P w K mg base CX0 4 (He.ga K "frame_of") (fdA K (He.ga K "frame_of")) ["row"] (sp_frame_of K)) (G_Store_other : FnOk P w K mg base CX0 1 (He.ma K (He.ga K "Store") "other") (fdA K (He.ma K (He.ga K "Store") "other")) ["self"] (sp_Store_other K)) (G_Store_finish : FnOk P w K mg base CX0 1 (He.ma K (He.ga K "Store") "finish") (fdA K (He.ma K (He.ga K "Store") "finish")) ["self"] (sp_Store_finish K)) (G_is_enough : FnOk P w K mg base CX0 1 (He.ga K "is_enough") (fdA K (He.ga K "is_enough")) ["power", "many"] (sp_is_enough K)) (G_Store_fail : FnOk P w K mg base CX0 2 (He.ma K (He.ga K "Store") "fail") (fdA K (He.ma K (He.ga K "Store") "fail")) ["self"] (sp_Store_fail K))
    (len : ∀ vs H Q E, sp_Store_commit_checkpoint K vs H Q E → vs.length = 2)
    (pure : ∀ vs H Q E, sp_Store_commit_checkpoint K vs H Q E → t_Store_commit_checkpoint K E { nx := fun _ H' => Q .non H', rt := Q } (start ["self", "power", "number", "frame"] vs) H) :
    FnOk P w K mg base (L2.CX P w) 5 (He.ma K (He.ga K "Store") "commit_checkpoint") (fdA K (He.ma K (He.ga K "Store") "commit_checkpoint")) ["self", "power"] (sp_Store_commit_checkpoint K) :=
  T.f_Store_commit_checkpoint.ok sc_Store_commit_checkpoint len fun cdv A outer s H vs Q E hr h => ⟨t_Store_commit_checkpoint K E, (pss_cons (ps_expr (pe_call G_want_power_range (hr.mono (by decide)) (by rfl) T.g_want_power_range T.f_want_power_range.kp (bd_want_power_range T) .nil (passes_call (takes_of rfl rfl rfl rfl) (fun _ _ _ _ h => h)) (by exact (pa_cons (pv 1) pa_nil))))
  (pss_cons (ps_expr (pe_meth0 (pv 0) T.cl T.m_want_power G_Store_want_power (hr.mono (by decide)) (bd_Store_want_power T) .nil (passes_call (takes_of rfl rfl rfl rfl) (fun _ _ _ _ h => h))))
  (pss_cons (ps_expr (pe_call G_want (hr.mono (by decide)) (by rfl) T.g_want T.f_want.kp (bd_want T) .nil (passes_call (takes_of rfl rfl rfl rfl) (fun _ _ _ _ h => h)) (by exact (pa_cons (pe_and (pe_fld (pv 0) rfl) (pe_one (pe_cmpR (op_eqD hr.units) (pe_fld (pv 0) rfl) (pe_lst pa_nil) (nomark _)))) (pa_cons (pe_glob (by rfl) T.c_NOT_NOW.choose_spec ⟨_, rfl⟩) pa_nil)))))
  (pss_cons (ps_expr (pe_call G_want (hr.mono (by decide)) (by rfl) T.g_want T.f_want.kp (bd_want T) .nil (passes_call (takes_of rfl rfl rfl rfl) (fun _ _ _ _ h => h)) (by exact (pa_cons (pe_cmpR op_lt (pe_fld (pv 0) rfl) (pe_glob (by rfl) T.c_MOST_NUMBER.choose_spec ⟨_, rfl⟩) (nomark _)) (pa_cons (pe_glob (by rfl) T.c_TOO_GREAT.choose_spec ⟨_, rfl⟩) pa_nil)))))
  (pss_cons (ps_set (i := 2) sc_Store_commit_checkpoint.nd rfl (Or.inl rfl) (pe_op op_add (pe_fld (pv 0) rfl) pe_int))
  (pss_cons (ps_set (i := 3) sc_Store_commit_checkpoint.nd rfl (Or.inl rfl) (pe_call G_frame_of (hr.mono (by decide)) (by rfl) T.g_frame_of T.f_frame_of.kp (bd_frame_of T) .nil pass0 (by exact (pa_cons (pe_lst (pa_cons (pv 2) (pa_cons (pe_meth0 (pv 0) T.cl T.m_other G_Store_other (hr.mono (by decide)) (bd_Store_other T) .nil pass0) pa_nil))) pa_nil))))
  (pss_cons (ps_if (pt_not (pt_val (pe_call G_is_enough (hr.mono (by decide)) (by rfl) T.g_is_enough T.f_is_enough.kp (bd_is_enough T) .nil pass0 (by exact (pa_cons (pv 1) (pa_cons (pe_callB call_len_seq (by rfl) T.n_len PySem.boot_len (by exact (pa_cons (pv 3) pa_nil))) pa_nil))))))
  (pss_cons (ps_asg (pe_slice sl_list (pv 3) po_none (po_some (pv 1))) (pg_sub (pe_fld (pv 0) rfl) (pe_op op_add (pe_glob (by rfl) T.c_COMMIT.choose_spec ⟨_, rfl⟩) (pe_op op_modN (pv 2) pe_int)) set_list))
  (pss_cons (ps_expr (pe_meth0 (pv 0) T.cl T.m_fail G_Store_fail (hr.mono (by decide)) (bd_Store_fail T) .nil pass0))
  (pss_one (ps_ret (pe_lst (pa_cons (pe_glob (by rfl) T.c_FAILED.choose_spec ⟨_, rfl⟩) (pa_cons (pe_callB call_len_seq (by rfl) T.n_len PySem.boot_len (by exact (pa_cons (pv 3) pa_nil))) pa_nil)))))))
  pss_nil)
  (pss_cons (ps_asg (pv 3) (pg_sub (pe_fld (pv 0) rfl) (pe_op op_add (pe_glob (by rfl) T.c_COMMIT.choose_spec ⟨_, rfl⟩) (pe_op op_modN (pv 2) pe_int)) set_list))
  (pss_cons (ps_fld (pv 0) (pe_meth0 (pv 0) T.cl T.m_other G_Store_other (hr.mono (by decide)) (bd_Store_other T) .nil pass0) rfl)
  (pss_cons (ps_fld (pv 0) (pv 2) rfl)
  (pss_cons (ps_expr (pe_meth0 (pv 0) T.cl T.m_finish G_Store_finish (hr.mono (by decide)) (bd_Store_finish T) .nil pass0))
  (pss_one (ps_ret (pe_lst (pa_cons (pe_fld (pv 0) rfl) (pa_cons (pv 2) pa_nil)))))))))))))))), pure vs H Q E h⟩
theorem mk_Store_list_ticks {P : Program} {w : World} {base : Heap} (T : Tx K mg) (G_Store_want_power : FnOk P w K mg base (L2.CX P w) 4 (He.ma K (He.ga K "Store") "want_power") (fdA K (He.ma K (He.ga K "Store") "want_power")) ["self"] (sp_Store_want_power K)) (G_frames_in : FnOk P w K mg base CX0 5 (He.ga K "frames_in") (fdA K (He.ga K "frames_in")) ["data"] (sp_frames_in K)) (G_is_tick : FnOk P w K mg base CX0 4 (He.ga K "is_tick") (fdA K (He.ga K "is_tick")) ["row"] (sp_is_tick K))
    (len : ∀ vs H Q E, sp_Store_list_ticks K vs H Q E → vs.length = 1)
    (pure : ∀ vs H Q E, sp_Store_list_ticks K vs H Q E → t_Store_list_ticks K E { nx := fun _ H' => Q .non H', rt := Q } (start ["self", "found", "row", "end"] vs) H) :
    FnOk P w K mg base (L2.CX P w) 6 (He.ma K (He.ga K "Store") "list_ticks") (fdA K (He.ma K (He.ga K "Store") "list_ticks")) ["self"] (sp_Store_list_ticks K) :=
  T.f_Store_list_ticks.ok sc_Store_list_ticks len fun cdv A outer s H vs Q E hr h => ⟨t_Store_list_ticks K E, (pss_cons (ps_expr (pe_meth0 (pv 0) T.cl T.m_want_power G_Store_want_power (hr.mono (by decide)) (bd_Store_want_power T) .nil (passes_call (takes_of rfl rfl rfl rfl) (fun _ _ _ _ h => h))))
  (pss_cons (ps_set (i := 1) sc_Store_list_ticks.nd rfl (Or.inl rfl) (pe_lst pa_nil))
  (pss_cons (ps_for (passes_of rfl) rfl (pi_list (pe_call G_frames_in (hr.mono (by decide)) (by rfl) T.g_frames_in T.f_frames_in.kp (bd_frames_in T) .nil pass0 (by exact (pa_cons (pe_ix ix_list (pe_fld (pv 0) rfl) (pe_op op_add (pe_glob (by rfl) T.c_JOURNAL.choose_spec ⟨_, rfl⟩) (pe_fld (pv 0) rfl)) (fun _ _ => rfl)) pa_nil)))) (pg_tup rfl (pgs_cons (pg_name (i := 2) sc_Store_list_ticks.nd rfl (Or.inl rfl)) (pgs_cons (pg_name (i := 3) sc_Store_list_ticks.nd rfl (Or.inl rfl)) pgs_nil)))
  (pss_one (ps_if (pt_val (pe_call G_is_tick (hr.mono (by decide)) (by rfl) T.g_is_tick T.f_is_tick.kp (bd_is_tick T) .nil pass0 (by exact (pa_cons (pv 2) pa_nil))))
  (pss_one (ps_expr (pe_bm PySem.F.plainAttrs_list PySem.F.slot_list_extend PySem.F.type_list_extend mt_extend (pv 1) (by exact (pa_cons (pe_lst (pa_cons (pe_ix ix_list (pv 2) pe_int (fun _ _ => rfl)) (pa_cons (pe_op op_fdivN (pe_callB call_len_seq (by rfl) T.n_len PySem.boot_len (by exact (pa_cons (pv 2) pa_nil))) pe_int) pa_nil))) pa_nil)))))
  pss_nil)))
  (pss_one (ps_ret (pv 1)))))), pure vs H Q E h⟩
theorem mk_of_lists {P : Program} {w : World} {base : Heap} (T : Tx K mg) (G_previewed : FnOk P w K mg base CX0 8 (He.ga K "previewed") (fdA K (He.ga K "previewed")) ["text"] (sp_previewed K)) (G_counted_frames : FnOk P w K mg base CX0 6 (He.ga K "counted_frames") (fdA K (He.ga K "counted_frames")) ["data"] (sp_counted_frames K)) (G_checksum_told : FnOk P w K mg base CX0 2 (He.ga K "checksum_told") (fdA K (He.ga K "checksum_told")) ["data"] (sp_checksum_told K)) (G_frame_told : FnOk P w K mg base (L2.CX P w) 5 (He.ga K "frame_told") (fdA K (He.ga K "frame_told")) ["row"] (sp_frame_told K))
    (len : ∀ vs H Q E, sp_of_lists K vs H Q E → vs.length = 2)
    (pure : ∀ vs H Q E, sp_of_lists K vs H Q E → t_of_lists K E { nx := fun _ H' => Q .non H', rt := Q } (start ["call", "row"] vs) H) :
    FnOk P w K mg base (L2.CX P w) 9 (He.ga K "of_lists") (fdA K (He.ga K "of_lists")) ["call", "row"] (sp_of_lists K) :=
  T.f_of_lists.ok sc_of_lists len fun cdv A outer s H vs Q E hr h => ⟨t_of_lists K E, (pss_cons (ps_if (pt_cmpR op_eqI (pv 0) pe_int (nomark _))
  (pss_one (ps_ret (pe_call G_counted_frames (hr.mono (by decide)) (by rfl) T.g_counted_frames T.f_counted_frames.kp (bd_counted_frames T) .nil pass0 (by exact (pa_cons (pv 1) pa_nil)))))
  pss_nil)
  (pss_cons (ps_if (pt_cmpR op_eqI (pv 0) pe_int (nomark _))
  (pss_one (ps_ret (pe_call G_checksum_told (hr.mono (by decide)) (by rfl) T.g_checksum_told T.f_checksum_told.kp (bd_checksum_told T) .nil pass0 (by exact (pa_cons (pv 1) pa_nil)))))
  pss_nil)
  (pss_cons (ps_if (pt_cmpR op_eqI (pv 0) pe_int (nomark _))
  (pss_one (ps_ret (pe_call G_frame_told (hr.mono (by decide)) (by rfl) T.g_frame_told T.f_frame_told.kp (bd_frame_told T) .nil (passes_call (takes_of rfl rfl rfl rfl) (fun _ _ _ _ h => h)) (by exact (pa_cons (pv 1) pa_nil)))))
  pss_nil)
  (pss_one (ps_ret (pe_call G_previewed (hr.mono (by decide)) (by rfl) T.g_previewed T.f_previewed.kp (bd_previewed T) .nil pass0 (by exact (pa_cons (pv 1) pa_nil)))))))), pure vs H Q E h⟩
theorem mk_changed {P : Program} {w : World} {base : Heap} (T : Tx K mg) (G_changes_of : FnOk P w K mg base CX0 1 (He.ga K "changes_of") (fdA K (He.ga K "changes_of")) ["numbers"] (sp_changes_of K))
    (len : ∀ vs H Q E, sp_changed K vs H Q E → vs.length = 2)
    (pure : ∀ vs H Q E, sp_changed K vs H Q E → t_changed K { nx := fun _ H' => Q .non H', rt := Q } (start ["entries", "numbers", "found", "key", "kind", "value"] vs) H) :
    FnOk P w K mg base CX0 2 (He.ga K "changed") (fdA K (He.ga K "changed")) ["entries", "numbers"] (sp_changed K) :=
  T.f_changed.ok sc_changed len fun cdv A outer s H vs Q E hr h => ⟨t_changed K, PSs.nox (pss_cons (ps_set (i := 2) sc_changed.nd rfl (Or.inl rfl) (pe_callTy call_dictD (by rfl) T.n_dict (by decide +kernel) (by exact (pa_cons (pv 0) pa_nil))))
  (pss_cons (ps_for PassesOwn.never rfl (pi_list (pe_call G_changes_of (hr.mono (by decide)) (by rfl) T.g_changes_of T.f_changes_of.kp (bd_changes_of T) .nil pass0 (by exact (pa_cons (pv 1) pa_nil)))) (pg_lst rfl (pgs_cons (pg_name (i := 3) sc_changed.nd rfl (Or.inl rfl)) (pgs_cons (pg_name (i := 4) sc_changed.nd rfl (Or.inl rfl)) (pgs_cons (pg_name (i := 5) sc_changed.nd rfl (Or.inl rfl)) pgs_nil))))
  (pss_one (ps_if (pt_cmpR op_eqI (pv 4) (pe_glob (by rfl) T.c_PUT.choose_spec ⟨_, rfl⟩) (nomark _))
  (pss_one (ps_dput (hu_of hr) (pv 2) (pv 3) (pv 5) rfl))
  (pss_one (ps_expr (pe_dpop2 (pv 2) (pv 3) pe_non ⟨by rfl, by rfl, by rfl, by rfl⟩))))))
  (pss_one (ps_ret (pv 2))))), pure vs H Q E h⟩
theorem mk_Store_contents {P : Program} {w : World} {base : Heap} (T : Tx K mg) (G_Store_want_power : FnOk P w K mg base (L2.CX P w) 4 (He.ma K (He.ga K "Store") "want_power") (fdA K (He.ma K (He.ga K "Store") "want_power")) ["self"] (sp_Store_want_power K)) (G_flat : FnOk P w K mg base CX0 1 (He.ga K "flat") (fdA K (He.ga K "flat")) ["entries"] (sp_flat K))
    (len : ∀ vs H Q E, sp_Store_contents K vs H Q E → vs.length = 1)
    (pure : ∀ vs H Q E, sp_Store_contents K vs H Q E → t_Store_contents K E { nx := fun _ H' => Q .non H', rt := Q } (start ["self"] vs) H) :
    FnOk P w K mg base (L2.CX P w) 5 (He.ma K (He.ga K "Store") "contents") (fdA K (He.ma K (He.ga K "Store") "contents")) ["self"] (sp_Store_contents K) :=
  T.f_Store_contents.ok sc_Store_contents len fun cdv A outer s H vs Q E hr h => ⟨t_Store_contents K E, (pss_cons (ps_expr (pe_meth0 (pv 0) T.cl T.m_want_power G_Store_want_power (hr.mono (by decide)) (bd_Store_want_power T) .nil (passes_call (takes_of rfl rfl rfl rfl) (fun _ _ _ _ h => h))))
  (pss_one (ps_ret (pe_op op_cat (pe_lst (pa_cons (pe_fld (pv 0) rfl) pa_nil)) (pe_call G_flat (hr.mono (by decide)) (by rfl) T.g_flat T.f_flat.kp (bd_flat T) .nil pass0 (by exact (pa_cons (pe_fld (pv 0) rfl) pa_nil))))))), pure vs H Q E h⟩
theorem mk_changes_of {P : Program} {w : World} {base : Heap} (T : Tx K mg) 
    (len : ∀ vs H Q E, sp_changes_of K vs H Q E → vs.length = 1)
    (pure : ∀ vs H Q E, sp_changes_of K vs H Q E → t_changes_of K { nx := fun _ H' => Q .non H', rt := Q } (start ["numbers", "at"] vs) H) :
    FnOk P w K mg base CX0 1 (He.ga K "changes_of") (fdA K (He.ga K "changes_of")) ["numbers"] (sp_changes_of K) :=
  T.f_changes_of.ok sc_changes_of len fun cdv A outer s H vs Q E hr h => ⟨t_changes_of K, PSs.nox (pss_one (ps_ret (pe_lc (own := [("at", 1)]) (by rfl) sc_changes_of.nd (pi_range3 (by rfl) T.n_range (by exact (pa_cons pe_int (pa_cons (pe_callB call_len_seq (by rfl) T.n_len PySem.boot_len (by exact (pa_cons (pv 0) pa_nil))) (pa_cons (pe_glob (by rfl) T.c_CHANGE.choose_spec ⟨_, rfl⟩) pa_nil))))) (blkOk_by (own := [("at", 1)]) (N := ["numbers", "at"]) (sc := defScope s_changes_of) (by decide +kernel)) (fun _ _ _ _ _ => (pg_name (i := 1) sc_changes_of.nd rfl (Or.inl rfl))) (fun _ _ _ _ _ => pts_nil) (fun _ _ _ _ _ => (pe_slice sl_list (pv 0) (po_some (pv 1)) (po_some (pe_op op_add (pv 1) (pe_glob (by rfl) T.c_CHANGE.choose_spec ⟨_, rfl⟩)))))))), pure vs H Q E h⟩
theorem mk_Store_fail {P : Program} {w : World} {base : Heap} (T : Tx K mg) (G_Store_finish : FnOk P w K mg base CX0 1 (He.ma K (He.ga K "Store") "finish") (fdA K (He.ma K (He.ga K "Store") "finish")) ["self"] (sp_Store_finish K))
    (len : ∀ vs H Q E, sp_Store_fail K vs H Q E → vs.length = 1)
    (pure : ∀ vs H Q E, sp_Store_fail K vs H Q E → t_Store_fail K { nx := fun _ H' => Q .non H', rt := Q } (start ["self"] vs) H) :
    FnOk P w K mg base CX0 2 (He.ma K (He.ga K "Store") "fail") (fdA K (He.ma K (He.ga K "Store") "fail")) ["self"] (sp_Store_fail K) :=
  T.f_Store_fail.ok sc_Store_fail len fun cdv A outer s H vs Q E hr h => ⟨t_Store_fail K, PSs.nox (pss_cons (ps_fld (pv 0) pe_bl rfl)
  (pss_cons (ps_fld (pv 0) pe_int rfl)
  (pss_cons (ps_fld (pv 0) pe_dnewK rfl)
  (pss_cons (ps_fld (pv 0) pe_int rfl)
  (pss_cons (ps_fld (pv 0) pe_int rfl)
  (pss_one (ps_expr (pe_meth0 (pv 0) T.cl T.m_finish G_Store_finish (hr.mono (by decide)) (bd_Store_finish T) .nil pass0)))))))), pure vs H Q E h⟩
theorem mk_integer_of {P : Program} {w : World} {base : Heap} (T : Tx K mg) 
    (len : ∀ vs H Q E, sp_integer_of K vs H Q E → vs.length = 1)
    (pure : ∀ vs H Q E, sp_integer_of K vs H Q E → t_integer_of K { nx := fun _ H' => Q .non H', rt := Q } (start ["natural"] vs) H) :
    FnOk P w K mg base CX0 1 (He.ga K "integer_of") (fdA K (He.ga K "integer_of")) ["natural"] (sp_integer_of K) :=
  T.f_integer_of.ok sc_integer_of len fun cdv A outer s H vs Q E hr h => ⟨t_integer_of K, PSs.nox (pss_cons (ps_if (pt_cmpR op_eqI (pe_op op_modN (pv 0) pe_int) pe_int (nomark _))
  (pss_one (ps_ret (pe_op op_fdivN (pv 0) pe_int)))
  pss_nil)
  (pss_one (ps_ret (pe_op op_sub pe_int (pe_op op_fdivN (pe_op op_add (pv 0) pe_int) pe_int))))), pure vs H Q E h⟩
end
end Ts
/-! ## TsD3 -/
namespace Ts
open PySem PySem.Spec PyProof.Rows L2
section
variable {K : PySem.W.Frag} {mg : Str → Option Value}
theorem mk_frame_at {P : Program} {w : World} {base : Heap} (T : Tx K mg) (G_decoded : FnOk P w K mg base CX0 3 (He.ga K "decoded") (fdA K (He.ga K "decoded")) ["payload"] (sp_decoded K)) (G_two_bytes : FnOk P w K mg base CX0 1 (He.ga K "two_bytes") (fdA K (He.ga K "two_bytes")) ["number"] (sp_two_bytes K)) (G_checksum : FnOk P w K mg base CX0 1 (He.ga K "checksum") (fdA K (He.ga K "checksum")) ["data"] (sp_checksum K))
    (len : ∀ vs H Q E, sp_frame_at K vs H Q E → vs.length = 2)
    (pure : ∀ vs H Q E, sp_frame_at K vs H Q E → t_frame_at K { nx := fun _ H' => Q .non H', rt := Q } (start ["data", "at", "head", "size", "end", "payload", "row"] vs) H) :
    FnOk P w K mg base CX0 4 (He.ga K "frame_at") (fdA K (He.ga K "frame_at")) ["data", "at"] (sp_frame_at K) :=
  T.f_frame_at.ok sc_frame_at len fun cdv A outer s H vs Q E hr h => ⟨t_frame_at K, PSs.nox (pss_cons (ps_if (pt_cmpR op_lt (pe_callB call_len_seq (by rfl) T.n_len PySem.boot_len (by exact (pa_cons (pv 0) pa_nil))) (pe_op op_add (pv 1) (pe_glob (by rfl) T.c_AROUND.choose_spec ⟨_, rfl⟩)) (nomark _))
  (pss_one (ps_ret pe_non))
  pss_nil)
  (pss_cons (ps_set (i := 2) sc_frame_at.nd rfl (Or.inl rfl) (pe_slice sl_list (pv 0) (po_some (pv 1)) (po_some (pe_op op_add (pv 1) (pe_glob (by rfl) T.c_PAIR.choose_spec ⟨_, rfl⟩)))))
  (pss_cons (ps_set (i := 3) sc_frame_at.nd rfl (Or.inl rfl) (pe_op op_add (pe_op op_mul (pe_ix ix_list (pv 2) pe_int (fun _ _ => rfl)) (pe_glob (by rfl) T.c_PAIR_BY.choose_spec ⟨_, rfl⟩)) (pe_ix ix_list (pv 2) pe_int (fun _ _ => rfl))))
  (pss_cons (ps_set (i := 4) sc_frame_at.nd rfl (Or.inl rfl) (pe_op op_add (pe_op op_add (pv 1) (pe_glob (by rfl) T.c_AROUND.choose_spec ⟨_, rfl⟩)) (pv 3)))
  (pss_cons (ps_if (PW.pt (pw_or (pt_cmpR op_lt (pe_callB call_len_seq (by rfl) T.n_len PySem.boot_len (by exact (pa_cons (pv 0) pa_nil))) (pv 4) (nomark _)) (pw_or1 (pt_cmpR (op_neD hr.units) (pe_slice sl_list (pv 0) (po_some (pe_op op_add (pv 1) (pe_glob (by rfl) T.c_PAIR.choose_spec ⟨_, rfl⟩))) (po_some (pe_op op_add (pv 1) (pe_op op_mul pe_int (pe_glob (by rfl) T.c_PAIR.choose_spec ⟨_, rfl⟩))))) (pe_call G_two_bytes (hr.mono (by decide)) (by rfl) T.g_two_bytes T.f_two_bytes.kp (bd_two_bytes T) .nil pass0 (by exact (pa_cons (pe_call G_checksum (hr.mono (by decide)) (by rfl) T.g_checksum T.f_checksum.kp (bd_checksum T) .nil pass0 (by exact (pa_cons (pv 2) pa_nil))) pa_nil))) (nomark _)))))
  (pss_one (ps_ret pe_non))
  pss_nil)
  (pss_cons (ps_set (i := 5) sc_frame_at.nd rfl (Or.inl rfl) (pe_slice sl_list (pv 0) (po_some (pe_op op_add (pv 1) (pe_op op_mul pe_int (pe_glob (by rfl) T.c_PAIR.choose_spec ⟨_, rfl⟩)))) (po_some (pe_op op_add (pe_op op_add (pv 1) (pe_op op_mul pe_int (pe_glob (by rfl) T.c_PAIR.choose_spec ⟨_, rfl⟩))) (pv 3)))))
  (pss_cons (ps_if (PW.pt (pw_or (pt_cmpR (op_neD hr.units) (pe_slice sl_list (pv 0) (po_some (pe_op op_sub (pe_op op_sub (pv 4) pe_int) (pe_glob (by rfl) T.c_PAIR.choose_spec ⟨_, rfl⟩))) (po_some (pe_op op_sub (pv 4) pe_int))) (pe_call G_two_bytes (hr.mono (by decide)) (by rfl) T.g_two_bytes T.f_two_bytes.kp (bd_two_bytes T) .nil pass0 (by exact (pa_cons (pe_call G_checksum (hr.mono (by decide)) (by rfl) T.g_checksum T.f_checksum.kp (bd_checksum T) .nil pass0 (by exact (pa_cons (pv 5) pa_nil))) pa_nil))) (nomark _)) (pw_or1 (pt_cmpR op_neI (pe_ix ix_list (pv 0) (pe_op op_sub (pv 4) pe_int) (fun _ _ => rfl)) (pe_glob (by rfl) T.c_LAST_BYTE.choose_spec ⟨_, rfl⟩) (nomark _)))))
  (pss_one (ps_ret pe_non))
  pss_nil)
  (pss_cons (ps_set (i := 6) sc_frame_at.nd rfl (Or.inl rfl) (pe_call G_decoded (hr.mono (by decide)) (by rfl) T.g_decoded T.f_decoded.kp (bd_decoded T) .nil pass0 (by exact (pa_cons (pv 5) pa_nil))))
  (pss_cons (ps_if (pt_cmpR op_isN (pv 6) pe_non (nomark _))
  (pss_one (ps_ret pe_non))
  pss_nil)
  (pss_one (ps_ret (pe_tup (pa_cons (pv 6) (pa_cons (pv 4) pa_nil)))))))))))))), pure vs H Q E h⟩
theorem mk_changes_in {P : Program} {w : World} {base : Heap} (T : Tx K mg) (G_cut_at : FnOk P w K mg base CX0 1 (He.ga K "cut_at") (fdA K (He.ga K "cut_at")) ["data", "sign"] (sp_cut_at K)) (G_change_in : FnOk P w K mg base CX0 5 (He.ga K "change_in") (fdA K (He.ga K "change_in")) ["token"] (sp_change_in K)) (G_number_in : FnOk P w K mg base CX0 2 (He.ga K "number_in") (fdA K (He.ga K "number_in")) ["data"] (sp_number_in K))
    (len : ∀ vs H Q E, sp_changes_in K vs H Q E → vs.length = 2)
    (pure : ∀ vs H Q E, sp_changes_in K vs H Q E → t_changes_in K { nx := fun _ H' => Q .non H', rt := Q } (start ["line", "number", "tokens", "found", "token", "change"] vs) H) :
    FnOk P w K mg base CX0 6 (He.ga K "changes_in") (fdA K (He.ga K "changes_in")) ["line", "number"] (sp_changes_in K) :=
  T.f_changes_in.ok sc_changes_in len fun cdv A outer s H vs Q E hr h => ⟨t_changes_in K, PSs.nox (pss_cons (ps_set (i := 2) sc_changes_in.nd rfl (Or.inl rfl) (pe_call G_cut_at (hr.mono (by decide)) (by rfl) T.g_cut_at T.f_cut_at.kp (bd_cut_at T) .nil pass0 (by exact (pa_cons (pv 0) (pa_cons (pe_glob (by rfl) T.c_BLANK.choose_spec ⟨_, rfl⟩) pa_nil)))))
  (pss_cons (ps_if (PW.pt (pw_or (pt_cmpR op_ne (pe_call G_number_in (hr.mono (by decide)) (by rfl) T.g_number_in T.f_number_in.kp (bd_number_in T) .nil pass0 (by exact (pa_cons (pe_ix ix_list (pv 2) pe_int (fun _ _ => rfl)) pa_nil))) (pv 1) (nomark _)) (pw_or1 (pt_cmpR op_gt (pe_callB call_len_seq (by rfl) T.n_len PySem.boot_len (by exact (pa_cons (pv 2) pa_nil))) (pe_op op_add pe_int (pe_glob (by rfl) T.c_MOST_CHANGES_oldjournal.choose_spec ⟨_, rfl⟩)) (nomark _)))))
  (pss_one (ps_ret pe_non))
  pss_nil)
  (pss_cons (ps_set (i := 3) sc_changes_in.nd rfl (Or.inl rfl) (pe_lst pa_nil))
  (pss_cons (ps_for PassesOwn.never rfl (pi_list (pe_slice sl_list (pv 2) (po_some pe_int) po_none)) (pg_name (i := 4) sc_changes_in.nd rfl (Or.inl rfl))
  (pss_cons (ps_set (i := 5) sc_changes_in.nd rfl (Or.inl rfl) (pe_call G_change_in (hr.mono (by decide)) (by rfl) T.g_change_in T.f_change_in.kp (bd_change_in T) .nil pass0 (by exact (pa_cons (pv 4) pa_nil))))
  (pss_cons (ps_if (pt_cmpR op_isN (pv 5) pe_non (nomark _))
  (pss_one (ps_ret pe_non))
  pss_nil)
  (pss_one (ps_expr (pe_bm PySem.F.plainAttrs_list PySem.F.slot_list_extend PySem.F.type_list_extend mt_extend (pv 3) (by exact (pa_cons (pv 5) pa_nil))))))))
  (pss_one (ps_ret (pv 3))))))), pure vs H Q E h⟩
theorem mk_Store_commits {P : Program} {w : World} {base : Heap} (T : Tx K mg) (G_commit_in : FnOk P w K mg base CX0 6 (He.ga K "commit_in") (fdA K (He.ga K "commit_in")) ["data"] (sp_commit_in K))
    (len : ∀ vs H Q E, sp_Store_commits K vs H Q E → vs.length = 1)
    (pure : ∀ vs H Q E, sp_Store_commits K vs H Q E → t_Store_commits K { nx := fun _ H' => Q .non H', rt := Q } (start ["self", "found", "data", "record"] vs) H) :
    FnOk P w K mg base CX0 7 (He.ma K (He.ga K "Store") "commits") (fdA K (He.ma K (He.ga K "Store") "commits")) ["self"] (sp_Store_commits K) :=
  T.f_Store_commits.ok sc_Store_commits len fun cdv A outer s H vs Q E hr h => ⟨t_Store_commits K, PSs.nox (pss_cons (ps_set (i := 1) sc_Store_commits.nd rfl (Or.inl rfl) (pe_lst pa_nil))
  (pss_cons (ps_for PassesOwn.never rfl (pi_tup (pe_tup (pa_cons (pe_ix ix_list (pe_fld (pv 0) rfl) (pe_glob (by rfl) T.c_COMMIT.choose_spec ⟨_, rfl⟩) (fun _ _ => rfl)) (pa_cons (pe_ix ix_list (pe_fld (pv 0) rfl) (pe_op op_add (pe_glob (by rfl) T.c_COMMIT.choose_spec ⟨_, rfl⟩) pe_int) (fun _ _ => rfl)) pa_nil)))) (pg_name (i := 2) sc_Store_commits.nd rfl (Or.inl rfl))
  (pss_cons (ps_set (i := 3) sc_Store_commits.nd rfl (Or.inl rfl) (pe_call G_commit_in (hr.mono (by decide)) (by rfl) T.g_commit_in T.f_commit_in.kp (bd_commit_in T) .nil pass0 (by exact (pa_cons (pv 2) pa_nil))))
  (pss_one (ps_if (pt_cmpR op_notN (pv 3) pe_non (nomark _))
  (pss_one (ps_expr (pe_bm PySem.F.plainAttrs_list PySem.F.slot_list_append PySem.F.type_list_append mt_append (pv 1) (by exact (pa_cons (pv 3) pa_nil)))))
  pss_nil))))
  (pss_cons (ps_if (PW.pt (pw_and (pt_cmpR op_eqI (pe_callB call_len_seq (by rfl) T.n_len PySem.boot_len (by exact (pa_cons (pv 1) pa_nil))) pe_int (nomark _)) (pw_and1 (pt_cmpR op_gt (pe_ix ix_tup (pe_ix ix_list (pv 1) pe_int (fun _ _ => rfl)) pe_int (fun _ _ => rfl)) (pe_ix ix_tup (pe_ix ix_list (pv 1) pe_int (fun _ _ => rfl)) pe_int (fun _ _ => rfl)) (nomark _)))))
  (pss_one (ps_ret (pe_revL (pv 1))))
  pss_nil)
  (pss_one (ps_ret (pv 1)))))), pure vs H Q E h⟩
theorem mk_are_changes {P : Program} {w : World} {base : Heap} (T : Tx K mg) (G_is_change : FnOk P w K mg base CX0 2 (He.ga K "is_change") (fdA K (He.ga K "is_change")) ["change"] (sp_is_change K)) (G_changes_of : FnOk P w K mg base CX0 1 (He.ga K "changes_of") (fdA K (He.ga K "changes_of")) ["numbers"] (sp_changes_of K))
    (len : ∀ vs H Q E, sp_are_changes K vs H Q E → vs.length = 1)
    (pure : ∀ vs H Q E, sp_are_changes K vs H Q E → t_are_changes K { nx := fun _ H' => Q .non H', rt := Q } (start ["numbers", "change"] vs) H) :
    FnOk P w K mg base CX0 3 (He.ga K "are_changes") (fdA K (He.ga K "are_changes")) ["numbers"] (sp_are_changes K) :=
  T.f_are_changes.ok sc_are_changes len fun cdv A outer s H vs Q E hr h => ⟨t_are_changes K, PSs.nox (pss_cons (ps_if (pt_cmpR op_neI (pe_op op_modN (pe_callB call_len_seq (by rfl) T.n_len PySem.boot_len (by exact (pa_cons (pv 0) pa_nil))) (pe_glob (by rfl) T.c_CHANGE.choose_spec ⟨_, rfl⟩)) pe_int (nomark _))
  (pss_one (ps_ret pe_bl))
  pss_nil)
  (pss_one (ps_ret (pe_callB (cr_all rfl) (by rfl) T.n_all (by decide +kernel) (by exact (pa_cons (pe_lc (own := [("change", 1)]) (by rfl) sc_are_changes.nd (pi_list (pe_call G_changes_of (hr.mono (by decide)) (by rfl) T.g_changes_of T.f_changes_of.kp (bd_changes_of T) .nil pass0 (by exact (pa_cons (pv 0) pa_nil)))) (blkOk_by (own := [("change", 1)]) (N := ["numbers", "change"]) (sc := defScope s_are_changes) (by decide +kernel)) (fun _ _ _ _ _ => (pg_name (i := 1) sc_are_changes.nd rfl (Or.inl rfl))) (fun _ _ _ _ _ => pts_nil) (fun _ _ _ _ _ => (pe_call G_is_change (hr.mono (by decide)) (by rfl) T.g_is_change T.f_is_change.kp (bd_is_change T) .nil pass0 (by exact (pa_cons (pv 1) pa_nil))))) pa_nil)))))), pure vs H Q E h⟩
theorem mk_part_integer {P : Program} {w : World} {base : Heap} (T : Tx K mg) (G_integer_of : FnOk P w K mg base CX0 1 (He.ga K "integer_of") (fdA K (He.ga K "integer_of")) ["natural"] (sp_integer_of K))
    (len : ∀ vs H Q E, sp_part_integer K vs H Q E → vs.length = 1)
    (pure : ∀ vs H Q E, sp_part_integer K vs H Q E → t_part_integer K { nx := fun _ H' => Q .non H', rt := Q } (start ["part", "natural", "by", "byte"] vs) H) :
    FnOk P w K mg base CX0 2 (He.ga K "part_integer") (fdA K (He.ga K "part_integer")) ["part"] (sp_part_integer K) :=
  T.f_part_integer.ok sc_part_integer len fun cdv A outer s H vs Q E hr h => ⟨t_part_integer K, PSs.nox (pss_cons (ps_set (i := 1) sc_part_integer.nd rfl (Or.inl rfl) pe_int)
  (pss_cons (ps_set (i := 2) sc_part_integer.nd rfl (Or.inl rfl) pe_int)
  (pss_cons (ps_for PassesOwn.never rfl (pi_list (pv 0)) (pg_name (i := 3) sc_part_integer.nd rfl (Or.inl rfl))
  (pss_cons (ps_aug (i := 1) sc_part_integer.nd rfl (Or.inl rfl) (pe_op op_mul (pe_op op_modN (pv 3) (pe_glob (by rfl) T.c_PART.choose_spec ⟨_, rfl⟩)) (pv 2)) ip_add)
  (pss_one (ps_set (i := 2) sc_part_integer.nd rfl (Or.inl rfl) (pe_op op_mul (pv 2) (pe_glob (by rfl) T.c_PART.choose_spec ⟨_, rfl⟩))))))
  (pss_one (ps_ret (pe_call G_integer_of (hr.mono (by decide)) (by rfl) T.g_integer_of T.f_integer_of.kp (bd_integer_of T) .nil pass0 (by exact (pa_cons (pv 1) pa_nil)))))))), pure vs H Q E h⟩
theorem mk_Store_read_file {P : Program} {w : World} {base : Heap} (T : Tx K mg) (G_want : FnOk P w K mg base (L2.CX P w) 3 (He.ga K "want") (fdA K (He.ga K "want")) ["is_so", "error"] (sp_want K))
    (len : ∀ vs H Q E, sp_Store_read_file K vs H Q E → vs.length = 2)
    (pure : ∀ vs H Q E, sp_Store_read_file K vs H Q E → t_Store_read_file K E { nx := fun _ H' => Q .non H', rt := Q } (start ["self", "number"] vs) H) :
    FnOk P w K mg base (L2.CX P w) 4 (He.ma K (He.ga K "Store") "read_file") (fdA K (He.ma K (He.ga K "Store") "read_file")) ["self", "number"] (sp_Store_read_file K) :=
  T.f_Store_read_file.ok sc_Store_read_file len fun cdv A outer s H vs Q E hr h => ⟨t_Store_read_file K E, (pss_cons (ps_expr (pe_call G_want (hr.mono (by decide)) (by rfl) T.g_want T.f_want.kp (bd_want T) .nil (passes_call (takes_of rfl rfl rfl rfl) (fun _ _ _ _ h => h)) (by exact (pa_cons (pe_chain op_le op_lt pe_int (pv 1) (pe_glob (by rfl) T.c_FILES.choose_spec ⟨_, rfl⟩)) (pa_cons (pe_glob (by rfl) T.c_OUTSIDE.choose_spec ⟨_, rfl⟩) pa_nil)))))
  (pss_one (ps_ret (pe_callTy call_list_of (by rfl) T.n_list (by decide +kernel) (by exact (pa_cons (pe_ix ix_list (pe_fld (pv 0) rfl) (pv 1) (fun _ _ => rfl)) pa_nil)))))), pure vs H Q E h⟩
theorem mk_limited {P : Program} {w : World} {base : Heap} (T : Tx K mg) (G_number_in : FnOk P w K mg base CX0 2 (He.ga K "number_in") (fdA K (He.ga K "number_in")) ["data"] (sp_number_in K))
    (len : ∀ vs H Q E, sp_limited K vs H Q E → vs.length = 3)
    (pure : ∀ vs H Q E, sp_limited K vs H Q E → t_limited K { nx := fun _ H' => Q .non H', rt := Q } (start ["data", "least", "most", "number"] vs) H) :
    FnOk P w K mg base CX0 3 (He.ga K "limited") (fdA K (He.ga K "limited")) ["data", "least", "most"] (sp_limited K) :=
  T.f_limited.ok sc_limited len fun cdv A outer s H vs Q E hr h => ⟨t_limited K, PSs.nox (pss_cons (ps_set (i := 3) sc_limited.nd rfl (Or.inl rfl) (pe_call G_number_in (hr.mono (by decide)) (by rfl) T.g_number_in T.f_number_in.kp (bd_number_in T) .nil pass0 (by exact (pa_cons (pv 0) pa_nil))))
  (pss_cons (ps_if (PW.pt (pw_or (pt_cmpR op_isN (pv 3) pe_non (nomark _)) (pw_or1 (pt_not (pt_chain op_le op_le (pv 1) (pv 3) (pv 2))))))
  (pss_one (ps_ret pe_non))
  pss_nil)
  (pss_one (ps_ret (pv 3))))), pure vs H Q E h⟩
theorem mk_Store_reset {P : Program} {w : World} {base : Heap} (T : Tx K mg) (G_Store_begin_anew : FnOk P w K mg base CX0 5 (He.ma K (He.ga K "Store") "begin_anew") (fdA K (He.ma K (He.ga K "Store") "begin_anew")) ["self", "number", "entries"] (sp_Store_begin_anew K))
    (len : ∀ vs H Q E, sp_Store_reset K vs H Q E → vs.length = 1)
    (pure : ∀ vs H Q E, sp_Store_reset K vs H Q E → t_Store_reset K { nx := fun _ H' => Q .non H', rt := Q } (start ["self"] vs) H) :
    FnOk P w K mg base CX0 6 (He.ma K (He.ga K "Store") "reset") (fdA K (He.ma K (He.ga K "Store") "reset")) ["self"] (sp_Store_reset K) :=
  T.f_Store_reset.ok sc_Store_reset len fun cdv A outer s H vs Q E hr h => ⟨t_Store_reset K, PSs.nox (pss_cons (ps_expr (pe_meth (pv 0) T.cl T.m_begin_anew G_Store_begin_anew (hr.mono (by decide)) (bd_Store_begin_anew T) .nil pass0 (by exact (pa_cons pe_int (pa_cons pe_dnewK pa_nil)))))
  (pss_one (ps_ret (pe_lst pa_nil)))), pure vs H Q E h⟩
theorem mk_Store_finish {P : Program} {w : World} {base : Heap} (T : Tx K mg) 
    (len : ∀ vs H Q E, sp_Store_finish K vs H Q E → vs.length = 1)
    (pure : ∀ vs H Q E, sp_Store_finish K vs H Q E → t_Store_finish K { nx := fun _ H' => Q .non H', rt := Q } (start ["self"] vs) H) :
    FnOk P w K mg base CX0 1 (He.ma K (He.ga K "Store") "finish") (fdA K (He.ma K (He.ga K "Store") "finish")) ["self"] (sp_Store_finish K) :=
  T.f_Store_finish.ok sc_Store_finish len fun cdv A outer s H vs Q E hr h => ⟨t_Store_finish K, PSs.nox (pss_cons (ps_fld (pv 0) pe_bl rfl)
  (pss_one (ps_fld (pv 0) (pe_lst pa_nil) rfl))), pure vs H Q E h⟩
end
end Ts
/-! ## TsD4 -/
namespace Ts
open PySem PySem.Spec PyProof.Rows L2
section
variable {K : PySem.W.Frag} {mg : Str → Option Value}
theorem mk_of_store {P : Program} {w : World} {base : Heap} (T : Tx K mg) (G_Store_list_ticks : FnOk P w K mg base (L2.CX P w) 6 (He.ma K (He.ga K "Store") "list_ticks") (fdA K (He.ma K (He.ga K "Store") "list_ticks")) ["self"] (sp_Store_list_ticks K)) (G_Store_get : FnOk P w K mg base (L2.CX P w) 5 (He.ma K (He.ga K "Store") "get") (fdA K (He.ma K (He.ga K "Store") "get")) ["self", "key"] (sp_Store_get K)) (G_Store_contents : FnOk P w K mg base (L2.CX P w) 5 (He.ma K (He.ga K "Store") "contents") (fdA K (He.ma K (He.ga K "Store") "contents")) ["self"] (sp_Store_contents K)) (G_Store_read_file : FnOk P w K mg base (L2.CX P w) 4 (He.ma K (He.ga K "Store") "read_file") (fdA K (He.ma K (He.ga K "Store") "read_file")) ["self", "number"] (sp_Store_read_file K)) (G_Store_corrupt_byte : FnOk P w K mg base (L2.CX P w) 4 (He.ma K (He.ga K "Store") "corrupt_byte") (fdA K (He.ma K (He.ga K "Store") "corrupt_byte")) ["self", "number", "at", "byte"] (sp_Store_corrupt_byte K)) (G_Store_import_journal : FnOk P w K mg base (L2.CX P w) 8 (He.ma K (He.ga K "Store") "import_journal") (fdA K (He.ma K (He.ga K "Store") "import_journal")) ["self", "text"] (sp_Store_import_journal K)) (G_Store_status : FnOk P w K mg base CX0 1 (He.ma K (He.ga K "Store") "status") (fdA K (He.ma K (He.ga K "Store") "status")) ["self"] (sp_Store_status K))
    (len : ∀ vs H Q E, sp_of_store K vs H Q E → vs.length = 4)
    (pure : ∀ vs H Q E, sp_of_store K vs H Q E → t_of_store K E { nx := fun _ H' => Q .non H', rt := Q } (start ["store", "call", "n", "row"] vs) H) :
    FnOk P w K mg base (L2.CX P w) 9 (He.ga K "of_store") (fdA K (He.ga K "of_store")) ["store", "call", "n", "row"] (sp_of_store K) :=
  T.f_of_store.ok sc_of_store len fun cdv A outer s H vs Q E hr h => ⟨t_of_store K E, (pss_cons (ps_if (pt_cmpR op_eqI (pv 1) pe_int (nomark _))
  (pss_one (ps_ret (pe_meth (pv 0) T.cl T.m_get G_Store_get (hr.mono (by decide)) (bd_Store_get T) .nil (passes_call (takes_of rfl rfl rfl rfl) (fun _ _ _ _ h => h)) (by exact (pa_cons (pe_ix ix_list (pv 2) pe_int (fun _ _ => rfl)) pa_nil)))))
  pss_nil)
  (pss_cons (ps_if (pt_cmpR op_eqI (pv 1) pe_int (nomark _))
  (pss_one (ps_ret (pe_meth0 (pv 0) T.cl T.m_contents G_Store_contents (hr.mono (by decide)) (bd_Store_contents T) .nil (passes_call (takes_of rfl rfl rfl rfl) (fun _ _ _ _ h => h)))))
  pss_nil)
  (pss_cons (ps_if (pt_cmpR op_eqI (pv 1) pe_int (nomark _))
  (pss_one (ps_ret (pe_meth (pv 0) T.cl T.m_read_file G_Store_read_file (hr.mono (by decide)) (bd_Store_read_file T) .nil (passes_call (takes_of rfl rfl rfl rfl) (fun _ _ _ _ h => h)) (by exact (pa_cons (pe_ix ix_list (pv 2) pe_int (fun _ _ => rfl)) pa_nil)))))
  pss_nil)
  (pss_cons (ps_if (pt_cmpR op_eqI (pv 1) pe_int (nomark _))
  (pss_one (ps_ret (pe_meth (pv 0) T.cl T.m_corrupt_byte G_Store_corrupt_byte (hr.mono (by decide)) (bd_Store_corrupt_byte T) .nil (passes_call (takes_of rfl rfl rfl rfl) (fun _ _ _ _ h => h)) (by exact (pa_cons (pe_ix ix_list (pv 2) pe_int (fun _ _ => rfl)) (pa_cons (pe_ix ix_list (pv 2) pe_int (fun _ _ => rfl)) (pa_cons (pe_ix ix_list (pv 2) pe_int (fun _ _ => rfl)) pa_nil)))))))
  pss_nil)
  (pss_cons (ps_if (pt_cmpR op_eqI (pv 1) pe_int (nomark _))
  (pss_one (ps_ret (pe_meth (pv 0) T.cl T.m_import_journal G_Store_import_journal (hr.mono (by decide)) (bd_Store_import_journal T) .nil (passes_call (takes_of rfl rfl rfl rfl) (fun _ _ _ _ h => h)) (by exact (pa_cons (pv 3) pa_nil)))))
  pss_nil)
  (pss_cons (ps_if (pt_cmpR op_eqI (pv 1) pe_int (nomark _))
  (pss_one (ps_ret (pe_meth0 (pv 0) T.cl T.m_status G_Store_status (hr.mono (by decide)) (bd_Store_status T) .nil pass0)))
  pss_nil)
  (pss_one (ps_ret (pe_meth0 (pv 0) T.cl T.m_list_ticks G_Store_list_ticks (hr.mono (by decide)) (bd_Store_list_ticks T) .nil (passes_call (takes_of rfl rfl rfl rfl) (fun _ _ _ _ h => h))))))))))), pure vs H Q E h⟩
theorem mk_Store_write_checkpoint {P : Program} {w : World} {base : Heap} (T : Tx K mg) (G_want : FnOk P w K mg base (L2.CX P w) 3 (He.ga K "want") (fdA K (He.ga K "want")) ["is_so", "error"] (sp_want K)) (G_Store_want_power : FnOk P w K mg base (L2.CX P w) 4 (He.ma K (He.ga K "Store") "want_power") (fdA K (He.ma K (He.ga K "Store") "want_power")) ["self"] (sp_Store_want_power K)) (G_Store_append : FnOk P w K mg base CX0 1 (He.ma K (He.ga K "Store") "append") (fdA K (He.ma K (He.ga K "Store") "append")) ["self", "number", "data"] (sp_Store_append K)) (G_Store_other : FnOk P w K mg base CX0 1 (He.ma K (He.ga K "Store") "other") (fdA K (He.ma K (He.ga K "Store") "other")) ["self"] (sp_Store_other K))
    (len : ∀ vs H Q E, sp_Store_write_checkpoint K vs H Q E → vs.length = 2)
    (pure : ∀ vs H Q E, sp_Store_write_checkpoint K vs H Q E → t_Store_write_checkpoint K E { nx := fun _ H' => Q .non H', rt := Q } (start ["self", "count"] vs) H) :
    FnOk P w K mg base (L2.CX P w) 5 (He.ma K (He.ga K "Store") "write_checkpoint") (fdA K (He.ma K (He.ga K "Store") "write_checkpoint")) ["self", "count"] (sp_Store_write_checkpoint K) :=
  T.f_Store_write_checkpoint.ok sc_Store_write_checkpoint len fun cdv A outer s H vs Q E hr h => ⟨t_Store_write_checkpoint K E, (pss_cons (ps_expr (pe_call G_want (hr.mono (by decide)) (by rfl) T.g_want T.f_want.kp (bd_want T) .nil (passes_call (takes_of rfl rfl rfl rfl) (fun _ _ _ _ h => h)) (by exact (pa_cons (pe_chain op_le op_le pe_int (pv 1) (pe_glob (by rfl) T.c_MOST_POWER.choose_spec ⟨_, rfl⟩)) (pa_cons (pe_glob (by rfl) T.c_OUTSIDE.choose_spec ⟨_, rfl⟩) pa_nil)))))
  (pss_cons (ps_expr (pe_meth0 (pv 0) T.cl T.m_want_power G_Store_want_power (hr.mono (by decide)) (bd_Store_want_power T) .nil (passes_call (takes_of rfl rfl rfl rfl) (fun _ _ _ _ h => h))))
  (pss_cons (ps_expr (pe_call G_want (hr.mono (by decide)) (by rfl) T.g_want T.f_want.kp (bd_want T) .nil (passes_call (takes_of rfl rfl rfl rfl) (fun _ _ _ _ h => h)) (by exact (pa_cons (pe_fld (pv 0) rfl) (pa_cons (pe_glob (by rfl) T.c_NOT_NOW.choose_spec ⟨_, rfl⟩) pa_nil)))))
  (pss_cons (ps_expr (pe_meth (pv 0) T.cl T.m_append G_Store_append (hr.mono (by decide)) (bd_Store_append T) .nil pass0 (by exact (pa_cons (pe_meth0 (pv 0) T.cl T.m_other G_Store_other (hr.mono (by decide)) (bd_Store_other T) .nil pass0) (pa_cons (pe_slice sl_list (pe_fld (pv 0) rfl) po_none (po_some (pv 1))) pa_nil)))))
  (pss_cons (ps_fld (pv 0) (pe_slice sl_list (pe_fld (pv 0) rfl) (po_some (pv 1)) po_none) rfl)
  (pss_one (ps_ret (pe_lst (pa_cons (pe_callB call_len_seq (by rfl) T.n_len PySem.boot_len (by exact (pa_cons (pe_fld (pv 0) rfl) pa_nil))) pa_nil))))))))), pure vs H Q E h⟩
theorem mk_replayed {P : Program} {w : World} {base : Heap} (T : Tx K mg) (G_frames_in : FnOk P w K mg base CX0 5 (He.ga K "frames_in") (fdA K (He.ga K "frames_in")) ["data"] (sp_frames_in K)) (G_is_tick : FnOk P w K mg base CX0 4 (He.ga K "is_tick") (fdA K (He.ga K "is_tick")) ["row"] (sp_is_tick K))
    (len : ∀ vs H Q E, sp_replayed K vs H Q E → vs.length = 2)
    (pure : ∀ vs H Q E, sp_replayed K vs H Q E → t_replayed K { nx := fun _ H' => Q .non H', rt := Q } (start ["data", "number", "rows", "size", "row", "end"] vs) H) :
    FnOk P w K mg base CX0 6 (He.ga K "replayed") (fdA K (He.ga K "replayed")) ["data", "number"] (sp_replayed K) :=
  T.f_replayed.ok sc_replayed len fun cdv A outer s H vs Q E hr h => ⟨t_replayed K, PSs.nox (pss_cons (ps_set (i := 2) sc_replayed.nd rfl (Or.inl rfl) (pe_lst pa_nil))
  (pss_cons (ps_set (i := 3) sc_replayed.nd rfl (Or.inl rfl) pe_int)
  (pss_cons (ps_for PassesOwn.never rfl (pi_list (pe_call G_frames_in (hr.mono (by decide)) (by rfl) T.g_frames_in T.f_frames_in.kp (bd_frames_in T) .nil pass0 (by exact (pa_cons (pv 0) pa_nil)))) (pg_tup rfl (pgs_cons (pg_name (i := 4) sc_replayed.nd rfl (Or.inl rfl)) (pgs_cons (pg_name (i := 5) sc_replayed.nd rfl (Or.inl rfl)) pgs_nil)))
  (pss_cons (ps_if (PW.pt (pw_or (pt_not (pt_val (pe_call G_is_tick (hr.mono (by decide)) (by rfl) T.g_is_tick T.f_is_tick.kp (bd_is_tick T) .nil pass0 (by exact (pa_cons (pv 4) pa_nil))))) (pw_or1 (pt_cmpR op_neI (pe_ix ix_list (pv 4) pe_int (fun _ _ => rfl)) (pe_op op_add (pe_op op_add (pv 1) (pe_callB call_len_seq (by rfl) T.n_len PySem.boot_len (by exact (pa_cons (pv 2) pa_nil)))) pe_int) (nomark _)))))
  (pss_one (ps_ret (pe_tup (pa_cons (pv 2) (pa_cons (pv 3) pa_nil)))))
  pss_nil)
  (pss_cons (ps_expr (pe_bm PySem.F.plainAttrs_list PySem.F.slot_list_append PySem.F.type_list_append mt_append (pv 2) (by exact (pa_cons (pv 4) pa_nil))))
  (pss_one (ps_set (i := 3) sc_replayed.nd rfl (Or.inl rfl) (pv 5))))))
  (pss_one (ps_ret (pe_tup (pa_cons (pv 2) (pa_cons (pv 3) pa_nil)))))))), pure vs H Q E h⟩
theorem mk_are_digits {P : Program} {w : World} {base : Heap} (T : Tx K mg) 
    (len : ∀ vs H Q E, sp_are_digits K vs H Q E → vs.length = 1)
    (pure : ∀ vs H Q E, sp_are_digits K vs H Q E → t_are_digits K { nx := fun _ H' => Q .non H', rt := Q } (start ["data", "byte"] vs) H) :
    FnOk P w K mg base CX0 1 (He.ga K "are_digits") (fdA K (He.ga K "are_digits")) ["data"] (sp_are_digits K) :=
  T.f_are_digits.ok sc_are_digits len fun cdv A outer s H vs Q E hr h => ⟨t_are_digits K, PSs.nox (pss_cons (ps_if (PW.pt (pw_or (pt_not (pt_chain op_le op_le pe_int (pe_callB call_len_seq (by rfl) T.n_len PySem.boot_len (by exact (pa_cons (pv 0) pa_nil))) (pe_glob (by rfl) T.c_MOST_DIGITS.choose_spec ⟨_, rfl⟩))) (pw_or1 (pt_not (pt_val (pe_callB (cr_all rfl) (by rfl) T.n_all (by decide +kernel) (by exact (pa_cons (pe_lc (own := [("byte", 1)]) (by rfl) sc_are_digits.nd (pi_list (pv 0)) (blkOk_by (own := [("byte", 1)]) (N := ["data", "byte"]) (sc := defScope s_are_digits) (by decide +kernel)) (fun _ _ _ _ _ => (pg_name (i := 1) sc_are_digits.nd rfl (Or.inl rfl))) (fun _ _ _ _ _ => pts_nil) (fun _ _ _ _ _ => (pe_chain op_le op_le (pe_glob (by rfl) T.c_NOUGHT.choose_spec ⟨_, rfl⟩) (pv 1) (pe_glob (by rfl) T.c_NINE.choose_spec ⟨_, rfl⟩)))) pa_nil))))))))
  (pss_one (ps_ret pe_bl))
  pss_nil)
  (pss_one (ps_ret (pe_or (pe_cmpR op_eqI (pe_callB call_len_seq (by rfl) T.n_len PySem.boot_len (by exact (pa_cons (pv 0) pa_nil))) pe_int (nomark _)) (pe_one (pe_cmpR op_neI (pe_ix ix_list (pv 0) pe_int (fun _ _ => rfl)) (pe_glob (by rfl) T.c_NOUGHT.choose_spec ⟨_, rfl⟩) (nomark _))))))), pure vs H Q E h⟩
theorem mk_Store___init__ {P : Program} {w : World} {base : Heap} (T : Tx K mg) (G_Store_begin_anew : FnOk P w K mg base CX0 5 (He.ma K (He.ga K "Store") "begin_anew") (fdA K (He.ma K (He.ga K "Store") "begin_anew")) ["self", "number", "entries"] (sp_Store_begin_anew K))
    (len : ∀ vs H Q E, sp_Store___init__ K vs H Q E → vs.length = 1)
    (pure : ∀ vs H Q E, sp_Store___init__ K vs H Q E → t_Store___init__ K { nx := fun _ H' => Q .non H', rt := Q } (start ["self"] vs) H) :
    FnOk P w K mg base CX0 6 (He.ma K (He.ga K "Store") "__init__") (fdA K (He.ma K (He.ga K "Store") "__init__")) ["self"] (sp_Store___init__ K) :=
  T.f_Store___init__.ok sc_Store___init__ len fun cdv A outer s H vs Q E hr h => ⟨t_Store___init__ K, PSs.nox (pss_cons (ps_fld (pv 0) (pe_lst pa_nil) rfl)
  (pss_cons (ps_fld (pv 0) pe_bl rfl)
  (pss_cons (ps_fld (pv 0) pe_int rfl)
  (pss_cons (ps_fld (pv 0) pe_int rfl)
  (pss_cons (ps_fld (pv 0) pe_dnewK rfl)
  (pss_cons (ps_fld (pv 0) pe_int rfl)
  (pss_cons (ps_fld (pv 0) pe_int rfl)
  (pss_cons (ps_fld (pv 0) pe_bl rfl)
  (pss_cons (ps_fld (pv 0) (pe_lst pa_nil) rfl)
  (pss_one (ps_expr (pe_meth (pv 0) T.cl T.m_begin_anew G_Store_begin_anew (hr.mono (by decide)) (bd_Store_begin_anew T) .nil pass0 (by exact (pa_cons pe_int (pa_cons pe_dnewK pa_nil))))))))))))))), pure vs H Q E h⟩
theorem mk_row_bytes {P : Program} {w : World} {base : Heap} (T : Tx K mg) (G_integer_bytes : FnOk P w K mg base CX0 2 (He.ga K "integer_bytes") (fdA K (He.ga K "integer_bytes")) ["number"] (sp_integer_bytes K))
    (len : ∀ vs H Q E, sp_row_bytes K vs H Q E → vs.length = 1)
    (pure : ∀ vs H Q E, sp_row_bytes K vs H Q E → t_row_bytes K { nx := fun _ H' => Q .non H', rt := Q } (start ["row", "found", "number"] vs) H) :
    FnOk P w K mg base CX0 3 (He.ga K "row_bytes") (fdA K (He.ga K "row_bytes")) ["row"] (sp_row_bytes K) :=
  T.f_row_bytes.ok sc_row_bytes len fun cdv A outer s H vs Q E hr h => ⟨t_row_bytes K, PSs.nox (pss_cons (ps_set (i := 1) sc_row_bytes.nd rfl (Or.inl rfl) (pe_lst pa_nil))
  (pss_cons (ps_for PassesOwn.never rfl (pi_list (pv 0)) (pg_name (i := 2) sc_row_bytes.nd rfl (Or.inl rfl))
  (pss_one (ps_expr (pe_bm PySem.F.plainAttrs_list PySem.F.slot_list_extend PySem.F.type_list_extend mt_extend (pv 1) (by exact (pa_cons (pe_call G_integer_bytes (hr.mono (by decide)) (by rfl) T.g_integer_bytes T.f_integer_bytes.kp (bd_integer_bytes T) .nil pass0 (by exact (pa_cons (pv 2) pa_nil))) pa_nil))))))
  (pss_one (ps_ret (pv 1))))), pure vs H Q E h⟩
theorem mk_Store_status {P : Program} {w : World} {base : Heap} (T : Tx K mg) 
    (len : ∀ vs H Q E, sp_Store_status K vs H Q E → vs.length = 1)
    (pure : ∀ vs H Q E, sp_Store_status K vs H Q E → t_Store_status K { nx := fun _ H' => Q .non H', rt := Q } (start ["self", "found"] vs) H) :
    FnOk P w K mg base CX0 1 (He.ma K (He.ga K "Store") "status") (fdA K (He.ma K (He.ga K "Store") "status")) ["self"] (sp_Store_status K) :=
  T.f_Store_status.ok sc_Store_status len fun cdv A outer s H vs Q E hr h => ⟨t_Store_status K, PSs.nox (pss_cons (ps_set (i := 1) sc_Store_status.nd rfl (Or.inl rfl) (pe_lst (pa_cons (pe_callTy call_int1 (by rfl) T.n_int (by decide +kernel) (by exact (pa_cons (pe_fld (pv 0) rfl) pa_nil))) (pa_cons (pe_fld (pv 0) rfl) (pa_cons (pe_fld (pv 0) rfl) (pa_cons (pe_fld (pv 0) rfl) pa_nil))))))
  (pss_one (ps_ret (pe_op op_cat (pv 1) (pe_lst (pa_cons (pe_callTy call_int1 (by rfl) T.n_int (by decide +kernel) (by exact (pa_cons (pe_fld (pv 0) rfl) pa_nil))) (pa_cons (pe_callB call_len_seq (by rfl) T.n_len PySem.boot_len (by exact (pa_cons (pe_fld (pv 0) rfl) pa_nil))) (pa_cons (pe_fld (pv 0) rfl) pa_nil)))))))), pure vs H Q E h⟩
theorem mk_is_entry {P : Program} {w : World} {base : Heap} (T : Tx K mg) 
    (len : ∀ vs H Q E, sp_is_entry K vs H Q E → vs.length = 2)
    (pure : ∀ vs H Q E, sp_is_entry K vs H Q E → t_is_entry K { nx := fun _ H' => Q .non H', rt := Q } (start ["key", "value"] vs) H) :
    FnOk P w K mg base CX0 1 (He.ga K "is_entry") (fdA K (He.ga K "is_entry")) ["key", "value"] (sp_is_entry K) :=
  T.f_is_entry.ok sc_is_entry len fun cdv A outer s H vs Q E hr h => ⟨t_is_entry K, PSs.nox (pss_one (ps_ret (pe_and (pe_chain op_le op_le pe_int (pv 0) (pe_glob (by rfl) T.c_MOST_KEY.choose_spec ⟨_, rfl⟩)) (pe_one (pe_cmpR op_le (pe_callB call_abs (by rfl) T.n_abs (by decide +kernel) (by exact (pa_cons (pv 1) pa_nil))) (pe_glob (by rfl) T.c_MOST_VALUE.choose_spec ⟨_, rfl⟩) (nomark _)))))), pure vs H Q E h⟩
theorem mk_natural_of {P : Program} {w : World} {base : Heap} (T : Tx K mg) 
    (len : ∀ vs H Q E, sp_natural_of K vs H Q E → vs.length = 1)
    (pure : ∀ vs H Q E, sp_natural_of K vs H Q E → t_natural_of K { nx := fun _ H' => Q .non H', rt := Q } (start ["number"] vs) H) :
    FnOk P w K mg base CX0 1 (He.ga K "natural_of") (fdA K (He.ga K "natural_of")) ["number"] (sp_natural_of K) :=
  T.f_natural_of.ok sc_natural_of len fun cdv A outer s H vs Q E hr h => ⟨t_natural_of K, PSs.nox (pss_cons (ps_if (pt_cmpR op_ge (pv 0) pe_int (nomark _))
  (pss_one (ps_ret (pe_op op_mul pe_int (pv 0))))
  pss_nil)
  (pss_one (ps_ret (pe_op op_sub (pe_op op_sub pe_int (pe_op op_mul pe_int (pv 0))) pe_int)))), pure vs H Q E h⟩
end
end Ts
/-! ## TsD5 -/
namespace Ts
open PySem PySem.Spec PyProof.Rows L2
section
variable {K : PySem.W.Frag} {mg : Str → Option Value}
theorem mk_of_writing {P : Program} {w : World} {base : Heap} (T : Tx K mg) (G_Store_recover : FnOk P w K mg base (L2.CX P w) 8 (He.ma K (He.ga K "Store") "recover") (fdA K (He.ma K (He.ga K "Store") "recover")) ["self"] (sp_Store_recover K)) (G_Store_reset : FnOk P w K mg base CX0 6 (He.ma K (He.ga K "Store") "reset") (fdA K (He.ma K (He.ga K "Store") "reset")) ["self"] (sp_Store_reset K)) (G_Store_tick : FnOk P w K mg base (L2.CX P w) 5 (He.ma K (He.ga K "Store") "tick") (fdA K (He.ma K (He.ga K "Store") "tick")) ["self", "power", "numbers"] (sp_Store_tick K)) (G_Store_begin_checkpoint : FnOk P w K mg base (L2.CX P w) 5 (He.ma K (He.ga K "Store") "begin_checkpoint") (fdA K (He.ma K (He.ga K "Store") "begin_checkpoint")) ["self"] (sp_Store_begin_checkpoint K)) (G_Store_write_checkpoint : FnOk P w K mg base (L2.CX P w) 5 (He.ma K (He.ga K "Store") "write_checkpoint") (fdA K (He.ma K (He.ga K "Store") "write_checkpoint")) ["self", "count"] (sp_Store_write_checkpoint K)) (G_Store_commit_checkpoint : FnOk P w K mg base (L2.CX P w) 5 (He.ma K (He.ga K "Store") "commit_checkpoint") (fdA K (He.ma K (He.ga K "Store") "commit_checkpoint")) ["self", "power"] (sp_Store_commit_checkpoint K)) (G_Store_cut_power : FnOk P w K mg base (L2.CX P w) 5 (He.ma K (He.ga K "Store") "cut_power") (fdA K (He.ma K (He.ga K "Store") "cut_power")) ["self"] (sp_Store_cut_power K))
    (len : ∀ vs H Q E, sp_of_writing K vs H Q E → vs.length = 4)
    (pure : ∀ vs H Q E, sp_of_writing K vs H Q E → t_of_writing K E { nx := fun _ H' => Q .non H', rt := Q } (start ["store", "call", "n", "row"] vs) H) :
    FnOk P w K mg base (L2.CX P w) 9 (He.ga K "of_writing") (fdA K (He.ga K "of_writing")) ["store", "call", "n", "row"] (sp_of_writing K) :=
  T.f_of_writing.ok sc_of_writing len fun cdv A outer s H vs Q E hr h => ⟨t_of_writing K E, (pss_cons (ps_if (pt_cmpR op_eqI (pv 1) pe_int (nomark _))
  (pss_one (ps_ret (pe_meth0 (pv 0) T.cl T.m_reset G_Store_reset (hr.mono (by decide)) (bd_Store_reset T) .nil pass0)))
  pss_nil)
  (pss_cons (ps_if (pt_cmpR op_eqI (pv 1) pe_int (nomark _))
  (pss_one (ps_ret (pe_meth (pv 0) T.cl T.m_tick G_Store_tick (hr.mono (by decide)) (bd_Store_tick T) .nil (passes_call (takes_of rfl rfl rfl rfl) (fun _ _ _ _ h => h)) (by exact (pa_cons (pe_ix ix_list (pv 2) pe_int (fun _ _ => rfl)) (pa_cons (pv 3) pa_nil))))))
  pss_nil)
  (pss_cons (ps_if (pt_cmpR op_eqI (pv 1) pe_int (nomark _))
  (pss_one (ps_ret (pe_meth0 (pv 0) T.cl T.m_begin_checkpoint G_Store_begin_checkpoint (hr.mono (by decide)) (bd_Store_begin_checkpoint T) .nil (passes_call (takes_of rfl rfl rfl rfl) (fun _ _ _ _ h => h)))))
  pss_nil)
  (pss_cons (ps_if (pt_cmpR op_eqI (pv 1) pe_int (nomark _))
  (pss_one (ps_ret (pe_meth (pv 0) T.cl T.m_write_checkpoint G_Store_write_checkpoint (hr.mono (by decide)) (bd_Store_write_checkpoint T) .nil (passes_call (takes_of rfl rfl rfl rfl) (fun _ _ _ _ h => h)) (by exact (pa_cons (pe_ix ix_list (pv 2) pe_int (fun _ _ => rfl)) pa_nil)))))
  pss_nil)
  (pss_cons (ps_if (pt_cmpR op_eqI (pv 1) pe_int (nomark _))
  (pss_one (ps_ret (pe_meth (pv 0) T.cl T.m_commit_checkpoint G_Store_commit_checkpoint (hr.mono (by decide)) (bd_Store_commit_checkpoint T) .nil (passes_call (takes_of rfl rfl rfl rfl) (fun _ _ _ _ h => h)) (by exact (pa_cons (pe_ix ix_list (pv 2) pe_int (fun _ _ => rfl)) pa_nil)))))
  pss_nil)
  (pss_cons (ps_if (pt_cmpR op_eqI (pv 1) pe_int (nomark _))
  (pss_one (ps_ret (pe_meth0 (pv 0) T.cl T.m_cut_power G_Store_cut_power (hr.mono (by decide)) (bd_Store_cut_power T) .nil (passes_call (takes_of rfl rfl rfl rfl) (fun _ _ _ _ h => h)))))
  pss_nil)
  (pss_one (ps_ret (pe_meth0 (pv 0) T.cl T.m_recover G_Store_recover (hr.mono (by decide)) (bd_Store_recover T) .nil (passes_call (takes_of rfl rfl rfl rfl) (fun _ _ _ _ h => h))))))))))), pure vs H Q E h⟩
theorem mk_journal_in {P : Program} {w : World} {base : Heap} (T : Tx K mg) (G_cut_at : FnOk P w K mg base CX0 1 (He.ga K "cut_at") (fdA K (He.ga K "cut_at")) ["data", "sign"] (sp_cut_at K)) (G_changes_in : FnOk P w K mg base CX0 6 (He.ga K "changes_in") (fdA K (He.ga K "changes_in")) ["line", "number"] (sp_changes_in K)) (G_changed : FnOk P w K mg base CX0 2 (He.ga K "changed") (fdA K (He.ga K "changed")) ["entries", "numbers"] (sp_changed K)) (G_BadLine___init__ : FnOk P w K mg base CX0 1 (He.ma K (He.ga K "BadLine") "__init__") (fdA K (He.ma K (He.ga K "BadLine") "__init__")) ["self", "line"] (sp_BadLine___init__ K))
    (len : ∀ vs H Q E, sp_journal_in K vs H Q E → vs.length = 1)
    (pure : ∀ vs H Q E, sp_journal_in K vs H Q E → t_journal_in K E { nx := fun _ H' => Q .non H', rt := Q } (start ["text", "lines", "entries", "at", "line", "changes"] vs) H) :
    FnOk P w K mg base (L2.CX P w) 7 (He.ga K "journal_in") (fdA K (He.ga K "journal_in")) ["text"] (sp_journal_in K) :=
  T.f_journal_in.ok sc_journal_in len fun cdv A outer s H vs Q E hr h => ⟨t_journal_in K E, (pss_cons (ps_set (i := 1) sc_journal_in.nd rfl (Or.inl rfl) (pe_slice sl_list (pe_call G_cut_at (hr.mono (by decide)) (by rfl) T.g_cut_at T.f_cut_at.kp (bd_cut_at T) .nil pass0 (by exact (pa_cons (pv 0) (pa_cons (pe_glob (by rfl) T.c_LINE_END.choose_spec ⟨_, rfl⟩) pa_nil)))) po_none (po_some (pe_un un_neg pe_int))))
  (pss_cons (ps_set (i := 2) sc_journal_in.nd rfl (Or.inl rfl) pe_dnewK)
  (pss_cons (ps_for (passes_of rfl) rfl (pi_enum (by rfl) T.n_enumerate (by exact (pa_cons (pv 1) pa_nil))) (pg_tup rfl (pgs_cons (pg_name (i := 3) sc_journal_in.nd rfl (Or.inl rfl)) (pgs_cons (pg_name (i := 4) sc_journal_in.nd rfl (Or.inl rfl)) pgs_nil)))
  (pss_cons (ps_set (i := 5) sc_journal_in.nd rfl (Or.inl rfl) (pe_call G_changes_in (hr.mono (by decide)) (by rfl) T.g_changes_in T.f_changes_in.kp (bd_changes_in T) .nil pass0 (by exact (pa_cons (pv 4) (pa_cons (pe_op op_add (pv 3) pe_int) pa_nil)))))
  (pss_cons (ps_if (pt_cmpR op_isN (pv 5) pe_non (nomark _))
  (pss_one (ps_raise rfl (takes_of rfl rfl rfl rfl) (pmk_oex T.x_BadLine.oex T.x_BadLine.init T.x_BadLine.fn G_BadLine___init__ (hr.mono (by decide)) (bd_BadLine___init__ T) .nil passN (by rfl) T.g_BadLine (by exact (pa_cons (pe_op op_add (pv 3) pe_int) pa_nil)))))
  pss_nil)
  (pss_one (ps_set (i := 2) sc_journal_in.nd rfl (Or.inl rfl) (pe_call G_changed (hr.mono (by decide)) (by rfl) T.g_changed T.f_changed.kp (bd_changed T) .nil pass0 (by exact (pa_cons (pv 2) (pa_cons (pv 5) pa_nil)))))))))
  (pss_one (ps_ret (pe_tup (pa_cons (pe_callB call_len_seq (by rfl) T.n_len PySem.boot_len (by exact (pa_cons (pv 1) pa_nil))) (pa_cons (pv 2) pa_nil)))))))), pure vs H Q E h⟩
theorem mk_Store_begin_anew {P : Program} {w : World} {base : Heap} (T : Tx K mg) (G_Store_finish : FnOk P w K mg base CX0 1 (He.ma K (He.ga K "Store") "finish") (fdA K (He.ma K (He.ga K "Store") "finish")) ["self"] (sp_Store_finish K)) (G_frame_of : FnOk P w K mg base CX0 4 (He.ga K "frame_of") (fdA K (He.ga K "frame_of")) ["row"] (sp_frame_of K)) (G_flat : FnOk P w K mg base CX0 1 (He.ga K "flat") (fdA K (He.ga K "flat")) ["entries"] (sp_flat K))
    (len : ∀ vs H Q E, sp_Store_begin_anew K vs H Q E → vs.length = 3)
    (pure : ∀ vs H Q E, sp_Store_begin_anew K vs H Q E → t_Store_begin_anew K { nx := fun _ H' => Q .non H', rt := Q } (start ["self", "number", "entries"] vs) H) :
    FnOk P w K mg base CX0 5 (He.ma K (He.ga K "Store") "begin_anew") (fdA K (He.ma K (He.ga K "Store") "begin_anew")) ["self", "number", "entries"] (sp_Store_begin_anew K) :=
  T.f_Store_begin_anew.ok sc_Store_begin_anew len fun cdv A outer s H vs Q E hr h => ⟨t_Store_begin_anew K, PSs.nox (pss_cons (ps_fld (pv 0) (pe_lst (pa_cons (pe_call G_frame_of (hr.mono (by decide)) (by rfl) T.g_frame_of T.f_frame_of.kp (bd_frame_of T) .nil pass0 (by exact (pa_cons (pe_op op_cat (pe_lst (pa_cons (pv 1) pa_nil)) (pe_call G_flat (hr.mono (by decide)) (by rfl) T.g_flat T.f_flat.kp (bd_flat T) .nil pass0 (by exact (pa_cons (pv 2) pa_nil)))) pa_nil))) (pa_cons (pe_lst pa_nil) (pa_cons (pe_lst pa_nil) (pa_cons (pe_lst pa_nil) (pa_cons (pe_lst pa_nil) (pa_cons (pe_call G_frame_of (hr.mono (by decide)) (by rfl) T.g_frame_of T.f_frame_of.kp (bd_frame_of T) .nil pass0 (by exact (pa_cons (pe_lst (pa_cons pe_int (pa_cons pe_int pa_nil))) pa_nil))) pa_nil))))))) rfl)
  (pss_cons (ps_fld (pv 0) pe_bl rfl)
  (pss_cons (ps_fld (pv 0) (pv 1) rfl)
  (pss_cons (ps_fld (pv 0) (pv 1) rfl)
  (pss_cons (ps_fld (pv 0) (pv 2) rfl)
  (pss_cons (ps_fld (pv 0) pe_int rfl)
  (pss_cons (ps_fld (pv 0) pe_int rfl)
  (pss_one (ps_expr (pe_meth0 (pv 0) T.cl T.m_finish G_Store_finish (hr.mono (by decide)) (bd_Store_finish T) .nil pass0)))))))))), pure vs H Q E h⟩
theorem mk_integer_bytes {P : Program} {w : World} {base : Heap} (T : Tx K mg) (G_natural_of : FnOk P w K mg base CX0 1 (He.ga K "natural_of") (fdA K (He.ga K "natural_of")) ["number"] (sp_natural_of K))
    (len : ∀ vs H Q E, sp_integer_bytes K vs H Q E → vs.length = 1)
    (pure : ∀ vs H Q E, sp_integer_bytes K vs H Q E → t_integer_bytes K { nx := fun _ H' => Q .non H', rt := Q } (start ["number", "found", "left"] vs) H) :
    FnOk P w K mg base CX0 2 (He.ga K "integer_bytes") (fdA K (He.ga K "integer_bytes")) ["number"] (sp_integer_bytes K) :=
  T.f_integer_bytes.ok sc_integer_bytes len fun cdv A outer s H vs Q E hr h => ⟨t_integer_bytes K, PSs.nox (pss_cons (ps_set (i := 1) sc_integer_bytes.nd rfl (Or.inl rfl) (pe_lst pa_nil))
  (pss_cons (ps_set (i := 2) sc_integer_bytes.nd rfl (Or.inl rfl) (pe_call G_natural_of (hr.mono (by decide)) (by rfl) T.g_natural_of T.f_natural_of.kp (bd_natural_of T) .nil pass0 (by exact (pa_cons (pv 0) pa_nil))))
  (pss_cons (ps_while PassesOwn.never (pt_cmpR op_ge (pv 2) (pe_glob (by rfl) T.c_PART.choose_spec ⟨_, rfl⟩) (nomark _))
  (pss_cons (ps_expr (pe_bm PySem.F.plainAttrs_list PySem.F.slot_list_append PySem.F.type_list_append mt_append (pv 1) (by exact (pa_cons (pe_op op_add (pe_op op_modN (pv 2) (pe_glob (by rfl) T.c_PART.choose_spec ⟨_, rfl⟩)) (pe_glob (by rfl) T.c_PART.choose_spec ⟨_, rfl⟩)) pa_nil))))
  (pss_one (ps_set (i := 2) sc_integer_bytes.nd rfl (Or.inl rfl) (pe_op op_fdivN (pv 2) (pe_glob (by rfl) T.c_PART.choose_spec ⟨_, rfl⟩))))))
  (pss_cons (ps_expr (pe_bm PySem.F.plainAttrs_list PySem.F.slot_list_append PySem.F.type_list_append mt_append (pv 1) (by exact (pa_cons (pv 2) pa_nil))))
  (pss_one (ps_ret (pv 1))))))), pure vs H Q E h⟩
theorem mk_counted_frames {P : Program} {w : World} {base : Heap} (T : Tx K mg) (G_frames_in : FnOk P w K mg base CX0 5 (He.ga K "frames_in") (fdA K (He.ga K "frames_in")) ["data"] (sp_frames_in K))
    (len : ∀ vs H Q E, sp_counted_frames K vs H Q E → vs.length = 1)
    (pure : ∀ vs H Q E, sp_counted_frames K vs H Q E → t_counted_frames K { nx := fun _ H' => Q .non H', rt := Q } (start ["data", "frames"] vs) H) :
    FnOk P w K mg base CX0 6 (He.ga K "counted_frames") (fdA K (He.ga K "counted_frames")) ["data"] (sp_counted_frames K) :=
  T.f_counted_frames.ok sc_counted_frames len fun cdv A outer s H vs Q E hr h => ⟨t_counted_frames K, PSs.nox (pss_cons (ps_set (i := 1) sc_counted_frames.nd rfl (Or.inl rfl) (pe_call G_frames_in (hr.mono (by decide)) (by rfl) T.g_frames_in T.f_frames_in.kp (bd_frames_in T) .nil pass0 (by exact (pa_cons (pv 0) pa_nil))))
  (pss_cons (ps_if (pt_cmpR (op_eqD hr.units) (pv 1) (pe_lst pa_nil) (nomark _))
  (pss_one (ps_ret (pe_lst (pa_cons pe_int (pa_cons pe_int pa_nil)))))
  pss_nil)
  (pss_one (ps_ret (pe_lst (pa_cons (pe_callB call_len_seq (by rfl) T.n_len PySem.boot_len (by exact (pa_cons (pv 1) pa_nil))) (pa_cons (pe_ix ix_tup (pe_ix ix_list (pv 1) (pe_un un_neg pe_int) (fun _ _ => rfl)) pe_int (fun _ _ => rfl)) pa_nil))))))), pure vs H Q E h⟩
theorem mk_cut_at {P : Program} {w : World} {base : Heap} (T : Tx K mg) 
    (len : ∀ vs H Q E, sp_cut_at K vs H Q E → vs.length = 2)
    (pure : ∀ vs H Q E, sp_cut_at K vs H Q E → t_cut_at K { nx := fun _ H' => Q .non H', rt := Q } (start ["data", "sign", "found", "byte"] vs) H) :
    FnOk P w K mg base CX0 1 (He.ga K "cut_at") (fdA K (He.ga K "cut_at")) ["data", "sign"] (sp_cut_at K) :=
  T.f_cut_at.ok sc_cut_at len fun cdv A outer s H vs Q E hr h => ⟨t_cut_at K, PSs.nox (pss_cons (ps_set (i := 2) sc_cut_at.nd rfl (Or.inl rfl) (pe_lst (pa_cons (pe_lst pa_nil) pa_nil)))
  (pss_cons (ps_for PassesOwn.never rfl (pi_list (pv 0)) (pg_name (i := 3) sc_cut_at.nd rfl (Or.inl rfl))
  (pss_one (ps_if (pt_cmpR op_eqI (pv 3) (pv 1) (nomark _))
  (pss_one (ps_expr (pe_bm PySem.F.plainAttrs_list PySem.F.slot_list_append PySem.F.type_list_append mt_append (pv 2) (by exact (pa_cons (pe_lst pa_nil) pa_nil)))))
  (pss_one (ps_expr (pe_bm PySem.F.plainAttrs_list PySem.F.slot_list_append PySem.F.type_list_append mt_append (pe_ix ix_list (pv 2) (pe_un un_neg pe_int) (fun _ _ => rfl)) (by exact (pa_cons (pv 3) pa_nil))))))))
  (pss_one (ps_ret (pv 2))))), pure vs H Q E h⟩
theorem mk_flat {P : Program} {w : World} {base : Heap} (T : Tx K mg) 
    (len : ∀ vs H Q E, sp_flat K vs H Q E → vs.length = 1)
    (pure : ∀ vs H Q E, sp_flat K vs H Q E → t_flat K { nx := fun _ H' => Q .non H', rt := Q } (start ["entries", "found", "key"] vs) H) :
    FnOk P w K mg base CX0 1 (He.ga K "flat") (fdA K (He.ga K "flat")) ["entries"] (sp_flat K) :=
  T.f_flat.ok sc_flat len fun cdv A outer s H vs Q E hr h => ⟨t_flat K, PSs.nox (pss_cons (ps_set (i := 1) sc_flat.nd rfl (Or.inl rfl) (pe_lst pa_nil))
  (pss_cons (ps_for PassesOwn.never rfl (pi_list (pe_callB (call_sortedDI2 rfl) (by rfl) T.n_sorted (by decide +kernel) (by exact (pa_cons (pv 0) pa_nil)))) (pg_name (i := 2) sc_flat.nd rfl (Or.inl rfl))
  (pss_one (ps_expr (pe_bm PySem.F.plainAttrs_list PySem.F.slot_list_extend PySem.F.type_list_extend mt_extend (pv 1) (by exact (pa_cons (pe_lst (pa_cons (pv 2) (pa_cons (pe_dget (hu_of hr) (pv 0) (pv 2) (fun _ _ => rfl)) pa_nil))) pa_nil))))))
  (pss_one (ps_ret (pv 1))))), pure vs H Q E h⟩
theorem mk_Store_want_power {P : Program} {w : World} {base : Heap} (T : Tx K mg) (G_want : FnOk P w K mg base (L2.CX P w) 3 (He.ga K "want") (fdA K (He.ga K "want")) ["is_so", "error"] (sp_want K))
    (len : ∀ vs H Q E, sp_Store_want_power K vs H Q E → vs.length = 1)
    (pure : ∀ vs H Q E, sp_Store_want_power K vs H Q E → t_Store_want_power K E { nx := fun _ H' => Q .non H', rt := Q } (start ["self"] vs) H) :
    FnOk P w K mg base (L2.CX P w) 4 (He.ma K (He.ga K "Store") "want_power") (fdA K (He.ma K (He.ga K "Store") "want_power")) ["self"] (sp_Store_want_power K) :=
  T.f_Store_want_power.ok sc_Store_want_power len fun cdv A outer s H vs Q E hr h => ⟨t_Store_want_power K E, (pss_one (ps_expr (pe_call G_want (hr.mono (by decide)) (by rfl) T.g_want T.f_want.kp (bd_want T) .nil (passes_call (takes_of rfl rfl rfl rfl) (fun _ _ _ _ h => h)) (by exact (pa_cons (pe_fld (pv 0) rfl) (pa_cons (pe_glob (by rfl) T.c_NO_POWER.choose_spec ⟨_, rfl⟩) pa_nil)))))), pure vs H Q E h⟩
end
end Ts
/-! ## TsD6 -/
namespace Ts
open PySem PySem.Spec PyProof.Rows L2
section
variable {K : PySem.W.Frag} {mg : Str → Option Value}
theorem mk_Store_recovered {P : Program} {w : World} {base : Heap} (T : Tx K mg) (G_replayed : FnOk P w K mg base CX0 6 (He.ga K "replayed") (fdA K (He.ga K "replayed")) ["data", "number"] (sp_replayed K)) (G_Store_finish : FnOk P w K mg base CX0 1 (He.ma K (He.ga K "Store") "finish") (fdA K (He.ma K (He.ga K "Store") "finish")) ["self"] (sp_Store_finish K)) (G_changed : FnOk P w K mg base CX0 2 (He.ga K "changed") (fdA K (He.ga K "changed")) ["entries", "numbers"] (sp_changed K))
    (len : ∀ vs H Q E, sp_Store_recovered K vs H Q E → vs.length = 4)
    (pure : ∀ vs H Q E, sp_Store_recovered K vs H Q E → t_Store_recovered K { nx := fun _ H' => Q .non H', rt := Q } (start ["self", "commit", "side", "checkpoint", "number", "entries", "rows", "size", "row", "dropped"] vs) H) :
    FnOk P w K mg base CX0 7 (He.ma K (He.ga K "Store") "recovered") (fdA K (He.ma K (He.ga K "Store") "recovered")) ["self", "commit", "side", "checkpoint"] (sp_Store_recovered K) :=
  T.f_Store_recovered.ok sc_Store_recovered len fun cdv A outer s H vs Q E hr h => ⟨t_Store_recovered K, PSs.nox (pss_cons (ps_asg (pv 3) (pg_tup rfl (pgs_cons (pg_name (i := 4) sc_Store_recovered.nd rfl (Or.inl rfl)) (pgs_cons (pg_name (i := 5) sc_Store_recovered.nd rfl (Or.inl rfl)) pgs_nil))))
  (pss_cons (ps_asg (pe_call G_replayed (hr.mono (by decide)) (by rfl) T.g_replayed T.f_replayed.kp (bd_replayed T) .nil pass0 (by exact (pa_cons (pe_ix ix_list (pe_fld (pv 0) rfl) (pe_op op_add (pe_glob (by rfl) T.c_JOURNAL.choose_spec ⟨_, rfl⟩) (pv 2)) (fun _ _ => rfl)) (pa_cons (pv 4) pa_nil)))) (pg_tup rfl (pgs_cons (pg_name (i := 6) sc_Store_recovered.nd rfl (Or.inl rfl)) (pgs_cons (pg_name (i := 7) sc_Store_recovered.nd rfl (Or.inl rfl)) pgs_nil))))
  (pss_cons (ps_for PassesOwn.never rfl (pi_list (pv 6)) (pg_name (i := 8) sc_Store_recovered.nd rfl (Or.inl rfl))
  (pss_one (ps_set (i := 5) sc_Store_recovered.nd rfl (Or.inl rfl) (pe_call G_changed (hr.mono (by decide)) (by rfl) T.g_changed T.f_changed.kp (bd_changed T) .nil pass0 (by exact (pa_cons (pv 5) (pa_cons (pe_slice sl_list (pv 8) (po_some pe_int) po_none) pa_nil)))))))
  (pss_cons (ps_set (i := 9) sc_Store_recovered.nd rfl (Or.inl rfl) (pe_op op_sub (pe_callB call_len_seq (by rfl) T.n_len PySem.boot_len (by exact (pa_cons (pe_ix ix_list (pe_fld (pv 0) rfl) (pe_op op_add (pe_glob (by rfl) T.c_JOURNAL.choose_spec ⟨_, rfl⟩) (pv 2)) (fun _ _ => rfl)) pa_nil))) (pv 7)))
  (pss_cons (ps_asg (pe_slice sl_list (pe_ix ix_list (pe_fld (pv 0) rfl) (pe_op op_add (pe_glob (by rfl) T.c_JOURNAL.choose_spec ⟨_, rfl⟩) (pv 2)) (fun _ _ => rfl)) po_none (po_some (pv 7))) (pg_sub (pe_fld (pv 0) rfl) (pe_op op_add (pe_glob (by rfl) T.c_JOURNAL.choose_spec ⟨_, rfl⟩) (pv 2)) set_list))
  (pss_cons (ps_fld (pv 0) pe_bl rfl)
  (pss_cons (ps_fld (pv 0) (pe_op op_add (pv 4) (pe_callB call_len_seq (by rfl) T.n_len PySem.boot_len (by exact (pa_cons (pv 6) pa_nil)))) rfl)
  (pss_cons (ps_fld (pv 0) (pv 5) rfl)
  (pss_cons (ps_fld (pv 0) (pv 2) rfl)
  (pss_cons (ps_fld (pv 0) (pv 1) rfl)
  (pss_cons (ps_expr (pe_meth0 (pv 0) T.cl T.m_finish G_Store_finish (hr.mono (by decide)) (bd_Store_finish T) .nil pass0))
  (pss_cons (ps_fld (pv 0) (pe_fld (pv 0) rfl) rfl)
  (pss_one (ps_ret (pe_lst (pa_cons (pv 2) (pa_cons (pe_fld (pv 0) rfl) (pa_cons (pe_callB call_len_seq (by rfl) T.n_len PySem.boot_len (by exact (pa_cons (pv 6) pa_nil))) (pa_cons (pv 9) pa_nil))))))))))))))))))), pure vs H Q E h⟩
theorem mk_change_in {P : Program} {w : World} {base : Heap} (T : Tx K mg) (G_cut_at : FnOk P w K mg base CX0 1 (He.ga K "cut_at") (fdA K (He.ga K "cut_at")) ["data", "sign"] (sp_cut_at K)) (G_limited : FnOk P w K mg base CX0 3 (He.ga K "limited") (fdA K (He.ga K "limited")) ["data", "least", "most"] (sp_limited K)) (G_removal_in : FnOk P w K mg base CX0 4 (He.ga K "removal_in") (fdA K (He.ga K "removal_in")) ["token"] (sp_removal_in K))
    (len : ∀ vs H Q E, sp_change_in K vs H Q E → vs.length = 1)
    (pure : ∀ vs H Q E, sp_change_in K vs H Q E → t_change_in K { nx := fun _ H' => Q .non H', rt := Q } (start ["token", "parts", "key", "value"] vs) H) :
    FnOk P w K mg base CX0 5 (He.ga K "change_in") (fdA K (He.ga K "change_in")) ["token"] (sp_change_in K) :=
  T.f_change_in.ok sc_change_in len fun cdv A outer s H vs Q E hr h => ⟨t_change_in K, PSs.nox (pss_cons (ps_if (pt_cmpR (op_eqD hr.units) (pe_slice sl_list (pv 0) (po_some (pe_un un_neg pe_int)) po_none) (pe_lst (pa_cons (pe_glob (by rfl) T.c_REMOVAL.choose_spec ⟨_, rfl⟩) pa_nil)) (nomark _))
  (pss_one (ps_ret (pe_call G_removal_in (hr.mono (by decide)) (by rfl) T.g_removal_in T.f_removal_in.kp (bd_removal_in T) .nil pass0 (by exact (pa_cons (pv 0) pa_nil)))))
  pss_nil)
  (pss_cons (ps_set (i := 1) sc_change_in.nd rfl (Or.inl rfl) (pe_call G_cut_at (hr.mono (by decide)) (by rfl) T.g_cut_at T.f_cut_at.kp (bd_cut_at T) .nil pass0 (by exact (pa_cons (pv 0) (pa_cons (pe_glob (by rfl) T.c_EQUALS.choose_spec ⟨_, rfl⟩) pa_nil)))))
  (pss_cons (ps_if (pt_cmpR op_neI (pe_callB call_len_seq (by rfl) T.n_len PySem.boot_len (by exact (pa_cons (pv 1) pa_nil))) pe_int (nomark _))
  (pss_one (ps_ret pe_non))
  pss_nil)
  (pss_cons (ps_set (i := 2) sc_change_in.nd rfl (Or.inl rfl) (pe_call G_limited (hr.mono (by decide)) (by rfl) T.g_limited T.f_limited.kp (bd_limited T) .nil pass0 (by exact (pa_cons (pe_ix ix_list (pv 1) pe_int (fun _ _ => rfl)) (pa_cons pe_int (pa_cons (pe_glob (by rfl) T.c_MOST_KEY.choose_spec ⟨_, rfl⟩) pa_nil))))))
  (pss_cons (ps_set (i := 3) sc_change_in.nd rfl (Or.inl rfl) (pe_call G_limited (hr.mono (by decide)) (by rfl) T.g_limited T.f_limited.kp (bd_limited T) .nil pass0 (by exact (pa_cons (pe_ix ix_list (pv 1) pe_int (fun _ _ => rfl)) (pa_cons (pe_op op_sub pe_int (pe_glob (by rfl) T.c_MOST_VALUE.choose_spec ⟨_, rfl⟩)) (pa_cons (pe_glob (by rfl) T.c_MOST_VALUE.choose_spec ⟨_, rfl⟩) pa_nil))))))
  (pss_cons (ps_if (PW.pt (pw_or (pt_cmpR op_isN (pv 2) pe_non (nomark _)) (pw_or1 (pt_cmpR op_isN (pv 3) pe_non (nomark _)))))
  (pss_one (ps_ret pe_non))
  pss_nil)
  (pss_one (ps_ret (pe_lst (pa_cons (pv 2) (pa_cons (pe_glob (by rfl) T.c_PUT.choose_spec ⟨_, rfl⟩) (pa_cons (pv 3) pa_nil)))))))))))), pure vs H Q E h⟩
theorem mk_frame_of {P : Program} {w : World} {base : Heap} (T : Tx K mg) (G_row_bytes : FnOk P w K mg base CX0 3 (He.ga K "row_bytes") (fdA K (He.ga K "row_bytes")) ["row"] (sp_row_bytes K)) (G_two_bytes : FnOk P w K mg base CX0 1 (He.ga K "two_bytes") (fdA K (He.ga K "two_bytes")) ["number"] (sp_two_bytes K)) (G_checksum : FnOk P w K mg base CX0 1 (He.ga K "checksum") (fdA K (He.ga K "checksum")) ["data"] (sp_checksum K))
    (len : ∀ vs H Q E, sp_frame_of K vs H Q E → vs.length = 1)
    (pure : ∀ vs H Q E, sp_frame_of K vs H Q E → t_frame_of K { nx := fun _ H' => Q .non H', rt := Q } (start ["row", "payload", "head"] vs) H) :
    FnOk P w K mg base CX0 4 (He.ga K "frame_of") (fdA K (He.ga K "frame_of")) ["row"] (sp_frame_of K) :=
  T.f_frame_of.ok sc_frame_of len fun cdv A outer s H vs Q E hr h => ⟨t_frame_of K, PSs.nox (pss_cons (ps_set (i := 1) sc_frame_of.nd rfl (Or.inl rfl) (pe_call G_row_bytes (hr.mono (by decide)) (by rfl) T.g_row_bytes T.f_row_bytes.kp (bd_row_bytes T) .nil pass0 (by exact (pa_cons (pv 0) pa_nil))))
  (pss_cons (ps_set (i := 2) sc_frame_of.nd rfl (Or.inl rfl) (pe_call G_two_bytes (hr.mono (by decide)) (by rfl) T.g_two_bytes T.f_two_bytes.kp (bd_two_bytes T) .nil pass0 (by exact (pa_cons (pe_callB call_len_seq (by rfl) T.n_len PySem.boot_len (by exact (pa_cons (pv 1) pa_nil))) pa_nil))))
  (pss_one (ps_ret (pe_op op_cat (pe_op op_cat (pe_op op_cat (pe_op op_cat (pv 2) (pe_call G_two_bytes (hr.mono (by decide)) (by rfl) T.g_two_bytes T.f_two_bytes.kp (bd_two_bytes T) .nil pass0 (by exact (pa_cons (pe_call G_checksum (hr.mono (by decide)) (by rfl) T.g_checksum T.f_checksum.kp (bd_checksum T) .nil pass0 (by exact (pa_cons (pv 2) pa_nil))) pa_nil)))) (pv 1)) (pe_call G_two_bytes (hr.mono (by decide)) (by rfl) T.g_two_bytes T.f_two_bytes.kp (bd_two_bytes T) .nil pass0 (by exact (pa_cons (pe_call G_checksum (hr.mono (by decide)) (by rfl) T.g_checksum T.f_checksum.kp (bd_checksum T) .nil pass0 (by exact (pa_cons (pv 1) pa_nil))) pa_nil)))) (pe_lst (pa_cons (pe_glob (by rfl) T.c_LAST_BYTE.choose_spec ⟨_, rfl⟩) pa_nil))))))), pure vs H Q E h⟩
theorem mk_Store_get {P : Program} {w : World} {base : Heap} (T : Tx K mg) (G_want : FnOk P w K mg base (L2.CX P w) 3 (He.ga K "want") (fdA K (He.ga K "want")) ["is_so", "error"] (sp_want K)) (G_Store_want_power : FnOk P w K mg base (L2.CX P w) 4 (He.ma K (He.ga K "Store") "want_power") (fdA K (He.ma K (He.ga K "Store") "want_power")) ["self"] (sp_Store_want_power K))
    (len : ∀ vs H Q E, sp_Store_get K vs H Q E → vs.length = 2)
    (pure : ∀ vs H Q E, sp_Store_get K vs H Q E → t_Store_get K E { nx := fun _ H' => Q .non H', rt := Q } (start ["self", "key"] vs) H) :
    FnOk P w K mg base (L2.CX P w) 5 (He.ma K (He.ga K "Store") "get") (fdA K (He.ma K (He.ga K "Store") "get")) ["self", "key"] (sp_Store_get K) :=
  T.f_Store_get.ok sc_Store_get len fun cdv A outer s H vs Q E hr h => ⟨t_Store_get K E, (pss_cons (ps_expr (pe_call G_want (hr.mono (by decide)) (by rfl) T.g_want T.f_want.kp (bd_want T) .nil (passes_call (takes_of rfl rfl rfl rfl) (fun _ _ _ _ h => h)) (by exact (pa_cons (pe_cmpR op_ge (pv 1) pe_int (nomark _)) (pa_cons (pe_glob (by rfl) T.c_OUTSIDE.choose_spec ⟨_, rfl⟩) pa_nil)))))
  (pss_cons (ps_expr (pe_meth0 (pv 0) T.cl T.m_want_power G_Store_want_power (hr.mono (by decide)) (bd_Store_want_power T) .nil (passes_call (takes_of rfl rfl rfl rfl) (fun _ _ _ _ h => h))))
  (pss_cons (ps_expr (pe_call G_want (hr.mono (by decide)) (by rfl) T.g_want T.f_want.kp (bd_want T) .nil (passes_call (takes_of rfl rfl rfl rfl) (fun _ _ _ _ h => h)) (by exact (pa_cons (pe_cmp (pc_din (hu_of hr) (pv 1) (pe_fld (pv 0) rfl)) (by rfl)) (pa_cons (pe_glob (by rfl) T.c_NONE_SUCH.choose_spec ⟨_, rfl⟩) pa_nil)))))
  (pss_one (ps_ret (pe_lst (pa_cons (pe_dget (hu_of hr) (pe_fld (pv 0) rfl) (pv 1) (fun _ _ => rfl)) pa_nil))))))), pure vs H Q E h⟩
theorem mk_commit_in {P : Program} {w : World} {base : Heap} (T : Tx K mg) (G_only_row : FnOk P w K mg base CX0 5 (He.ga K "only_row") (fdA K (He.ga K "only_row")) ["data"] (sp_only_row K))
    (len : ∀ vs H Q E, sp_commit_in K vs H Q E → vs.length = 1)
    (pure : ∀ vs H Q E, sp_commit_in K vs H Q E → t_commit_in K { nx := fun _ H' => Q .non H', rt := Q } (start ["data", "row"] vs) H) :
    FnOk P w K mg base CX0 6 (He.ga K "commit_in") (fdA K (He.ga K "commit_in")) ["data"] (sp_commit_in K) :=
  T.f_commit_in.ok sc_commit_in len fun cdv A outer s H vs Q E hr h => ⟨t_commit_in K, PSs.nox (pss_cons (ps_set (i := 1) sc_commit_in.nd rfl (Or.inl rfl) (pe_call G_only_row (hr.mono (by decide)) (by rfl) T.g_only_row T.f_only_row.kp (bd_only_row T) .nil pass0 (by exact (pa_cons (pv 0) pa_nil))))
  (pss_cons (ps_if (PW.pt (pw_or (pt_cmpR op_isN (pv 1) pe_non (nomark _)) (pw_or (pt_cmpR op_neI (pe_callB call_len_seq (by rfl) T.n_len PySem.boot_len (by exact (pa_cons (pv 1) pa_nil))) pe_int (nomark _)) (pw_or (pt_cmpR op_lt (pe_ix ix_list (pv 1) pe_int (fun _ _ => rfl)) pe_int (nomark _)) (pw_or1 (pt_not (pt_chain op_le op_lt pe_int (pe_ix ix_list (pv 1) pe_int (fun _ _ => rfl)) (pe_glob (by rfl) T.c_SIDES.choose_spec ⟨_, rfl⟩))))))))
  (pss_one (ps_ret pe_non))
  pss_nil)
  (pss_one (ps_ret (pe_tup (pa_cons (pe_ix ix_list (pv 1) pe_int (fun _ _ => rfl)) (pa_cons (pe_ix ix_list (pv 1) pe_int (fun _ _ => rfl)) pa_nil))))))), pure vs H Q E h⟩
theorem mk_parts_of {P : Program} {w : World} {base : Heap} (T : Tx K mg) 
    (len : ∀ vs H Q E, sp_parts_of K vs H Q E → vs.length = 1)
    (pure : ∀ vs H Q E, sp_parts_of K vs H Q E → t_parts_of K { nx := fun _ H' => Q .non H', rt := Q } (start ["payload", "found", "byte"] vs) H) :
    FnOk P w K mg base CX0 1 (He.ga K "parts_of") (fdA K (He.ga K "parts_of")) ["payload"] (sp_parts_of K) :=
  T.f_parts_of.ok sc_parts_of len fun cdv A outer s H vs Q E hr h => ⟨t_parts_of K, PSs.nox (pss_cons (ps_set (i := 1) sc_parts_of.nd rfl (Or.inl rfl) (pe_lst (pa_cons (pe_lst pa_nil) pa_nil)))
  (pss_cons (ps_for PassesOwn.never rfl (pi_list (pv 0)) (pg_name (i := 2) sc_parts_of.nd rfl (Or.inl rfl))
  (pss_cons (ps_expr (pe_bm PySem.F.plainAttrs_list PySem.F.slot_list_append PySem.F.type_list_append mt_append (pe_ix ix_list (pv 1) (pe_un un_neg pe_int) (fun _ _ => rfl)) (by exact (pa_cons (pv 2) pa_nil))))
  (pss_one (ps_if (pt_cmpR op_lt (pv 2) (pe_glob (by rfl) T.c_PART.choose_spec ⟨_, rfl⟩) (nomark _))
  (pss_one (ps_expr (pe_bm PySem.F.plainAttrs_list PySem.F.slot_list_append PySem.F.type_list_append mt_append (pv 1) (by exact (pa_cons (pe_lst pa_nil) pa_nil)))))
  pss_nil))))
  (pss_one (ps_ret (pv 1))))), pure vs H Q E h⟩
theorem mk_checksum {P : Program} {w : World} {base : Heap} (T : Tx K mg) 
    (len : ∀ vs H Q E, sp_checksum K vs H Q E → vs.length = 1)
    (pure : ∀ vs H Q E, sp_checksum K vs H Q E → t_checksum K { nx := fun _ H' => Q .non H', rt := Q } (start ["data", "found", "at", "byte"] vs) H) :
    FnOk P w K mg base CX0 1 (He.ga K "checksum") (fdA K (He.ga K "checksum")) ["data"] (sp_checksum K) :=
  T.f_checksum.ok sc_checksum len fun cdv A outer s H vs Q E hr h => ⟨t_checksum K, PSs.nox (pss_cons (ps_set (i := 1) sc_checksum.nd rfl (Or.inl rfl) pe_int)
  (pss_cons (ps_for PassesOwn.never rfl (pi_enum (by rfl) T.n_enumerate (by exact (pa_cons (pv 0) pa_nil))) (pg_tup rfl (pgs_cons (pg_name (i := 2) sc_checksum.nd rfl (Or.inl rfl)) (pgs_cons (pg_name (i := 3) sc_checksum.nd rfl (Or.inl rfl)) pgs_nil)))
  (pss_one (ps_aug (i := 1) sc_checksum.nd rfl (Or.inl rfl) (pe_op op_mul (pe_op op_add (pv 3) pe_int) (pe_op op_add (pv 2) pe_int)) ip_add)))
  (pss_one (ps_ret (pe_op op_modN (pv 1) (pe_glob (by rfl) T.c_CHECK_BY.choose_spec ⟨_, rfl⟩)))))), pure vs H Q E h⟩
theorem mk_want {P : Program} {w : World} {base : Heap} (T : Tx K mg) (G_Refused___init__ : FnOk P w K mg base CX0 1 (He.ma K (He.ga K "Refused") "__init__") (fdA K (He.ma K (He.ga K "Refused") "__init__")) ["self", "error"] (sp_Refused___init__ K))
    (len : ∀ vs H Q E, sp_want K vs H Q E → vs.length = 2)
    (pure : ∀ vs H Q E, sp_want K vs H Q E → t_want K E { nx := fun _ H' => Q .non H', rt := Q } (start ["is_so", "error"] vs) H) :
    FnOk P w K mg base (L2.CX P w) 3 (He.ga K "want") (fdA K (He.ga K "want")) ["is_so", "error"] (sp_want K) :=
  T.f_want.ok sc_want len fun cdv A outer s H vs Q E hr h => ⟨t_want K E, (pss_one (ps_if (pt_not (pt_val (pv 0)))
  (pss_one (ps_raise rfl (takes_of rfl rfl rfl rfl) (pmk_oex T.x_Refused.oex T.x_Refused.init T.x_Refused.fn G_Refused___init__ (hr.mono (by decide)) (bd_Refused___init__ T) .nil passN (by rfl) T.g_Refused (by exact (pa_cons (pv 1) pa_nil)))))
  pss_nil)), pure vs H Q E h⟩
theorem mk_is_enough {P : Program} {w : World} {base : Heap} (T : Tx K mg) 
    (len : ∀ vs H Q E, sp_is_enough K vs H Q E → vs.length = 2)
    (pure : ∀ vs H Q E, sp_is_enough K vs H Q E → t_is_enough K { nx := fun _ H' => Q .non H', rt := Q } (start ["power", "many"] vs) H) :
    FnOk P w K mg base CX0 1 (He.ga K "is_enough") (fdA K (He.ga K "is_enough")) ["power", "many"] (sp_is_enough K) :=
  T.f_is_enough.ok sc_is_enough len fun cdv A outer s H vs Q E hr h => ⟨t_is_enough K, PSs.nox (pss_one (ps_ret (pe_or (pe_cmpR op_eqI (pv 0) (pe_glob (by rfl) T.c_UNLIMITED.choose_spec ⟨_, rfl⟩) (nomark _)) (pe_one (pe_cmpR op_ge (pv 0) (pv 1) (nomark _)))))), pure vs H Q E h⟩
end
end Ts
/-! ## TsD7 -/
namespace Ts
open PySem PySem.Spec PyProof.Rows L2
section
variable {K : PySem.W.Frag} {mg : Str → Option Value}
theorem mk_answers {P : Program} {w : World} {base : Heap} (T : Tx K mg) (G_Store___init__ : FnOk P w K mg base CX0 6 (He.ma K (He.ga K "Store") "__init__") (fdA K (He.ma K (He.ga K "Store") "__init__")) ["self"] (sp_Store___init__ K)) (G_answered : FnOk P w K mg base CX0 11 (He.ga K "answered") (fdA K (He.ga K "answered")) ["store", "call", "n", "row"] (sp_answered K))
    (len : ∀ vs H Q E, sp_answers K vs H Q E → vs.length = 1)
    (pure : ∀ vs H Q E, sp_answers K vs H Q E → t_answers K { nx := fun _ H' => Q .non H', rt := Q } (start ["calls", "store", "found", "at", "call", "end", "n", "row", "begin", "told"] vs) H) :
    FnOk P w K mg base CX0 12 (He.ga K "answers") (fdA K (He.ga K "answers")) ["calls"] (sp_answers K) :=
  T.f_answers.ok sc_answers len fun cdv A outer s H vs Q E hr h => ⟨t_answers K, PSs.nox (pss_cons (ps_set (i := 1) sc_answers.nd rfl (Or.inl rfl) (pe_make0 T.mkS G_Store___init__ (hr.mono (by decide)) (by rfl) T.g_Store (bd_Store___init__ T) .nil pass0))
  (pss_cons (ps_set (i := 2) sc_answers.nd rfl (Or.inl rfl) (pe_lst pa_nil))
  (pss_cons (ps_set (i := 3) sc_answers.nd rfl (Or.inl rfl) pe_int)
  (pss_cons (ps_while PassesOwn.never (pt_cmpR op_lt (pv 3) (pe_callB call_len_seq (by rfl) T.n_len PySem.boot_len (by exact (pa_cons (pv 0) pa_nil))) (nomark _))
  (pss_cons (ps_set (i := 4) sc_answers.nd rfl (Or.inl rfl) (pe_ix ix_list (pv 0) (pv 3) (fun _ _ => rfl)))
  (pss_cons (ps_set (i := 5) sc_answers.nd rfl (Or.inl rfl) (pe_op op_add (pe_op op_add (pv 3) pe_int) (pe_ix ix_tup (pe_glob (by rfl) T.g_NUMBERS rfl) (pv 4) (fun _ _ => rfl))))
  (pss_cons (ps_set (i := 6) sc_answers.nd rfl (Or.inl rfl) (pe_slice sl_list (pv 0) (po_some (pe_op op_add (pv 3) pe_int)) (po_some (pv 5))))
  (pss_cons (ps_set (i := 7) sc_answers.nd rfl (Or.inl rfl) (pe_lst pa_nil))
  (pss_cons (ps_if (pt_cmpR op_in_seq (pv 4) (pe_glob (by rfl) T.g_WITH_LIST rfl) (by first | rfl | with_unfolding_all rfl))
  (pss_cons (ps_set (i := 8) sc_answers.nd rfl (Or.inl rfl) (pe_op op_add (pv 5) pe_int))
  (pss_cons (ps_set (i := 5) sc_answers.nd rfl (Or.inl rfl) (pe_op op_add (pv 8) (pe_ix ix_list (pv 0) (pv 5) (fun _ _ => rfl))))
  (pss_one (ps_set (i := 7) sc_answers.nd rfl (Or.inl rfl) (pe_slice sl_list (pv 0) (po_some (pv 8)) (po_some (pv 5)))))))
  pss_nil)
  (pss_cons (ps_set (i := 9) sc_answers.nd rfl (Or.inl rfl) (pe_call G_answered (hr.mono (by decide)) (by rfl) T.g_answered T.f_answered.kp (bd_answered T) .nil pass0 (by exact (pa_cons (pv 1) (pa_cons (pv 4) (pa_cons (pv 6) (pa_cons (pv 7) pa_nil)))))))
  (pss_cons (ps_expr (pe_bm PySem.F.plainAttrs_list PySem.F.slot_list_append PySem.F.type_list_append mt_append (pv 2) (by exact (pa_cons (pe_callB call_len_seq (by rfl) T.n_len PySem.boot_len (by exact (pa_cons (pv 9) pa_nil))) pa_nil))))
  (pss_cons (ps_expr (pe_bm PySem.F.plainAttrs_list PySem.F.slot_list_extend PySem.F.type_list_extend mt_extend (pv 2) (by exact (pa_cons (pv 9) pa_nil))))
  (pss_one (ps_set (i := 3) sc_answers.nd rfl (Or.inl rfl) (pv 5))))))))))))
  (pss_one (ps_ret (pv 2))))))), pure vs H Q E h⟩
theorem mk_Store_begin_checkpoint {P : Program} {w : World} {base : Heap} (T : Tx K mg) (G_Store_want_power : FnOk P w K mg base (L2.CX P w) 4 (He.ma K (He.ga K "Store") "want_power") (fdA K (He.ma K (He.ga K "Store") "want_power")) ["self"] (sp_Store_want_power K)) (G_want : FnOk P w K mg base (L2.CX P w) 3 (He.ga K "want") (fdA K (He.ga K "want")) ["is_so", "error"] (sp_want K)) (G_frame_of : FnOk P w K mg base CX0 4 (He.ga K "frame_of") (fdA K (He.ga K "frame_of")) ["row"] (sp_frame_of K)) (G_Store_other : FnOk P w K mg base CX0 1 (He.ma K (He.ga K "Store") "other") (fdA K (He.ma K (He.ga K "Store") "other")) ["self"] (sp_Store_other K)) (G_flat : FnOk P w K mg base CX0 1 (He.ga K "flat") (fdA K (He.ga K "flat")) ["entries"] (sp_flat K))
    (len : ∀ vs H Q E, sp_Store_begin_checkpoint K vs H Q E → vs.length = 1)
    (pure : ∀ vs H Q E, sp_Store_begin_checkpoint K vs H Q E → t_Store_begin_checkpoint K E { nx := fun _ H' => Q .non H', rt := Q } (start ["self"] vs) H) :
    FnOk P w K mg base (L2.CX P w) 5 (He.ma K (He.ga K "Store") "begin_checkpoint") (fdA K (He.ma K (He.ga K "Store") "begin_checkpoint")) ["self"] (sp_Store_begin_checkpoint K) :=
  T.f_Store_begin_checkpoint.ok sc_Store_begin_checkpoint len fun cdv A outer s H vs Q E hr h => ⟨t_Store_begin_checkpoint K E, (pss_cons (ps_expr (pe_meth0 (pv 0) T.cl T.m_want_power G_Store_want_power (hr.mono (by decide)) (bd_Store_want_power T) .nil (passes_call (takes_of rfl rfl rfl rfl) (fun _ _ _ _ h => h))))
  (pss_cons (ps_expr (pe_call G_want (hr.mono (by decide)) (by rfl) T.g_want T.f_want.kp (bd_want T) .nil (passes_call (takes_of rfl rfl rfl rfl) (fun _ _ _ _ h => h)) (by exact (pa_cons (pe_not (pe_fld (pv 0) rfl)) (pa_cons (pe_glob (by rfl) T.c_NOT_NOW.choose_spec ⟨_, rfl⟩) pa_nil)))))
  (pss_cons (ps_asg (pe_lst pa_nil) (pg_sub (pe_fld (pv 0) rfl) (pe_meth0 (pv 0) T.cl T.m_other G_Store_other (hr.mono (by decide)) (bd_Store_other T) .nil pass0) set_list))
  (pss_cons (ps_asg (pe_lst pa_nil) (pg_sub (pe_fld (pv 0) rfl) (pe_op op_add (pe_glob (by rfl) T.c_JOURNAL.choose_spec ⟨_, rfl⟩) (pe_meth0 (pv 0) T.cl T.m_other G_Store_other (hr.mono (by decide)) (bd_Store_other T) .nil pass0)) set_list))
  (pss_cons (ps_fld (pv 0) (pe_call G_frame_of (hr.mono (by decide)) (by rfl) T.g_frame_of T.f_frame_of.kp (bd_frame_of T) .nil pass0 (by exact (pa_cons (pe_op op_cat (pe_lst (pa_cons (pe_fld (pv 0) rfl) pa_nil)) (pe_call G_flat (hr.mono (by decide)) (by rfl) T.g_flat T.f_flat.kp (bd_flat T) .nil pass0 (by exact (pa_cons (pe_fld (pv 0) rfl) pa_nil)))) pa_nil))) rfl)
  (pss_cons (ps_fld (pv 0) pe_bl rfl)
  (pss_one (ps_ret (pe_lst (pa_cons (pe_callB call_len_seq (by rfl) T.n_len PySem.boot_len (by exact (pa_cons (pe_fld (pv 0) rfl) pa_nil))) pa_nil)))))))))), pure vs H Q E h⟩
theorem mk_checkpoint_in {P : Program} {w : World} {base : Heap} (T : Tx K mg) (G_only_row : FnOk P w K mg base CX0 5 (He.ga K "only_row") (fdA K (He.ga K "only_row")) ["data"] (sp_only_row K)) (G_is_checkpoint : FnOk P w K mg base CX0 2 (He.ga K "is_checkpoint") (fdA K (He.ga K "is_checkpoint")) ["row"] (sp_is_checkpoint K)) (G_pairs_of : FnOk P w K mg base CX0 1 (He.ga K "pairs_of") (fdA K (He.ga K "pairs_of")) ["numbers"] (sp_pairs_of K))
    (len : ∀ vs H Q E, sp_checkpoint_in K vs H Q E → vs.length = 1)
    (pure : ∀ vs H Q E, sp_checkpoint_in K vs H Q E → t_checkpoint_in K { nx := fun _ H' => Q .non H', rt := Q } (start ["data", "row", "pair"] vs) H) :
    FnOk P w K mg base CX0 6 (He.ga K "checkpoint_in") (fdA K (He.ga K "checkpoint_in")) ["data"] (sp_checkpoint_in K) :=
  T.f_checkpoint_in.ok sc_checkpoint_in len fun cdv A outer s H vs Q E hr h => ⟨t_checkpoint_in K, PSs.nox (pss_cons (ps_set (i := 1) sc_checkpoint_in.nd rfl (Or.inl rfl) (pe_call G_only_row (hr.mono (by decide)) (by rfl) T.g_only_row T.f_only_row.kp (bd_only_row T) .nil pass0 (by exact (pa_cons (pv 0) pa_nil))))
  (pss_cons (ps_if (PW.pt (pw_or (pt_cmpR op_isN (pv 1) pe_non (nomark _)) (pw_or1 (pt_not (pt_val (pe_call G_is_checkpoint (hr.mono (by decide)) (by rfl) T.g_is_checkpoint T.f_is_checkpoint.kp (bd_is_checkpoint T) .nil pass0 (by exact (pa_cons (pv 1) pa_nil))))))))
  (pss_one (ps_ret pe_non))
  pss_nil)
  (pss_one (ps_ret (pe_tup (pa_cons (pe_ix ix_list (pv 1) pe_int (fun _ _ => rfl)) (pa_cons (pe_callTy (call_dictP rfl) (by rfl) T.n_dict (by decide +kernel) (by exact (pa_cons (pe_lc (own := [("pair", 2)]) (by rfl) sc_checkpoint_in.nd (pi_list (pe_call G_pairs_of (hr.mono (by decide)) (by rfl) T.g_pairs_of T.f_pairs_of.kp (bd_pairs_of T) .nil pass0 (by exact (pa_cons (pe_slice sl_list (pv 1) (po_some pe_int) po_none) pa_nil)))) (blkOk_by (own := [("pair", 2)]) (N := ["data", "row", "pair"]) (sc := defScope s_checkpoint_in) (by decide +kernel)) (fun _ _ _ _ _ => (pg_name (i := 2) sc_checkpoint_in.nd rfl (Or.inl rfl))) (fun _ _ _ _ _ => pts_nil) (fun _ _ _ _ _ => (pe_tup (pa_cons (pe_ix ix_list (pv 2) pe_int (fun _ _ => rfl)) (pa_cons (pe_ix ix_list (pv 2) pe_int (fun _ _ => rfl)) pa_nil))))) pa_nil))) pa_nil))))))), pure vs H Q E h⟩
theorem mk_Store_write_in_part {P : Program} {w : World} {base : Heap} (T : Tx K mg) (G_Store_append : FnOk P w K mg base CX0 1 (He.ma K (He.ga K "Store") "append") (fdA K (He.ma K (He.ga K "Store") "append")) ["self", "number", "data"] (sp_Store_append K)) (G_Store_other : FnOk P w K mg base CX0 1 (He.ma K (He.ga K "Store") "other") (fdA K (He.ma K (He.ga K "Store") "other")) ["self"] (sp_Store_other K))
    (len : ∀ vs H Q E, sp_Store_write_in_part K vs H Q E → vs.length = 3)
    (pure : ∀ vs H Q E, sp_Store_write_in_part K vs H Q E → t_Store_write_in_part K { nx := fun _ H' => Q .non H', rt := Q } (start ["self", "frame", "power"] vs) H) :
    FnOk P w K mg base CX0 2 (He.ma K (He.ga K "Store") "write_in_part") (fdA K (He.ma K (He.ga K "Store") "write_in_part")) ["self", "frame", "power"] (sp_Store_write_in_part K) :=
  T.f_Store_write_in_part.ok sc_Store_write_in_part len fun cdv A outer s H vs Q E hr h => ⟨t_Store_write_in_part K, PSs.nox (pss_cons (ps_expr (pe_meth (pv 0) T.cl T.m_append G_Store_append (hr.mono (by decide)) (bd_Store_append T) .nil pass0 (by exact (pa_cons (pe_op op_add (pe_glob (by rfl) T.c_JOURNAL.choose_spec ⟨_, rfl⟩) (pe_fld (pv 0) rfl)) (pa_cons (pe_slice sl_list (pv 1) po_none (po_some (pv 2))) pa_nil)))))
  (pss_one (ps_if (PW.pt (pw_and (pt_val (pe_fld (pv 0) rfl)) (pw_and1 (pt_cmpR op_gt (pv 2) (pe_callB call_len_seq (by rfl) T.n_len PySem.boot_len (by exact (pa_cons (pv 1) pa_nil))) (nomark _)))))
  (pss_one (ps_expr (pe_meth (pv 0) T.cl T.m_append G_Store_append (hr.mono (by decide)) (bd_Store_append T) .nil pass0 (by exact (pa_cons (pe_op op_add (pe_glob (by rfl) T.c_JOURNAL.choose_spec ⟨_, rfl⟩) (pe_meth0 (pv 0) T.cl T.m_other G_Store_other (hr.mono (by decide)) (bd_Store_other T) .nil pass0)) (pa_cons (pe_slice sl_list (pv 1) po_none (po_some (pe_op op_sub (pv 2) (pe_callB call_len_seq (by rfl) T.n_len PySem.boot_len (by exact (pa_cons (pv 1) pa_nil)))))) pa_nil))))))
  pss_nil))), pure vs H Q E h⟩
theorem mk_tick_row {P : Program} {w : World} {base : Heap} (T : Tx K mg) (G_changes_of : FnOk P w K mg base CX0 1 (He.ga K "changes_of") (fdA K (He.ga K "changes_of")) ["numbers"] (sp_changes_of K))
    (len : ∀ vs H Q E, sp_tick_row K vs H Q E → vs.length = 2)
    (pure : ∀ vs H Q E, sp_tick_row K vs H Q E → t_tick_row K { nx := fun _ H' => Q .non H', rt := Q } (start ["number", "numbers", "found", "key", "kind", "value"] vs) H) :
    FnOk P w K mg base CX0 2 (He.ga K "tick_row") (fdA K (He.ga K "tick_row")) ["number", "numbers"] (sp_tick_row K) :=
  T.f_tick_row.ok sc_tick_row len fun cdv A outer s H vs Q E hr h => ⟨t_tick_row K, PSs.nox (pss_cons (ps_set (i := 2) sc_tick_row.nd rfl (Or.inl rfl) (pe_lst (pa_cons (pv 0) pa_nil)))
  (pss_cons (ps_for PassesOwn.never rfl (pi_list (pe_call G_changes_of (hr.mono (by decide)) (by rfl) T.g_changes_of T.f_changes_of.kp (bd_changes_of T) .nil pass0 (by exact (pa_cons (pv 1) pa_nil)))) (pg_lst rfl (pgs_cons (pg_name (i := 3) sc_tick_row.nd rfl (Or.inl rfl)) (pgs_cons (pg_name (i := 4) sc_tick_row.nd rfl (Or.inl rfl)) (pgs_cons (pg_name (i := 5) sc_tick_row.nd rfl (Or.inl rfl)) pgs_nil))))
  (pss_one (ps_expr (pe_bm PySem.F.plainAttrs_list PySem.F.slot_list_extend PySem.F.type_list_extend mt_extend (pv 2) (by exact (pa_cons (pe_lst (pa_cons (pv 3) (pa_cons (pv 4) (pa_cons (pe_op op_mul (pv 5) (pv 4)) pa_nil)))) pa_nil))))))
  (pss_one (ps_ret (pv 2))))), pure vs H Q E h⟩
theorem mk_removal_in {P : Program} {w : World} {base : Heap} (T : Tx K mg) (G_limited : FnOk P w K mg base CX0 3 (He.ga K "limited") (fdA K (He.ga K "limited")) ["data", "least", "most"] (sp_limited K))
    (len : ∀ vs H Q E, sp_removal_in K vs H Q E → vs.length = 1)
    (pure : ∀ vs H Q E, sp_removal_in K vs H Q E → t_removal_in K { nx := fun _ H' => Q .non H', rt := Q } (start ["token", "key"] vs) H) :
    FnOk P w K mg base CX0 4 (He.ga K "removal_in") (fdA K (He.ga K "removal_in")) ["token"] (sp_removal_in K) :=
  T.f_removal_in.ok sc_removal_in len fun cdv A outer s H vs Q E hr h => ⟨t_removal_in K, PSs.nox (pss_cons (ps_set (i := 1) sc_removal_in.nd rfl (Or.inl rfl) (pe_call G_limited (hr.mono (by decide)) (by rfl) T.g_limited T.f_limited.kp (bd_limited T) .nil pass0 (by exact (pa_cons (pe_slice sl_list (pv 0) po_none (po_some (pe_un un_neg pe_int))) (pa_cons pe_int (pa_cons (pe_glob (by rfl) T.c_MOST_KEY.choose_spec ⟨_, rfl⟩) pa_nil))))))
  (pss_cons (ps_if (pt_cmpR op_isN (pv 1) pe_non (nomark _))
  (pss_one (ps_ret pe_non))
  pss_nil)
  (pss_one (ps_ret (pe_lst (pa_cons (pv 1) (pa_cons (pe_glob (by rfl) T.c_REMOVE.choose_spec ⟨_, rfl⟩) (pa_cons pe_int pa_nil)))))))), pure vs H Q E h⟩
theorem mk_pairs_of {P : Program} {w : World} {base : Heap} (T : Tx K mg) 
    (len : ∀ vs H Q E, sp_pairs_of K vs H Q E → vs.length = 1)
    (pure : ∀ vs H Q E, sp_pairs_of K vs H Q E → t_pairs_of K { nx := fun _ H' => Q .non H', rt := Q } (start ["numbers", "at"] vs) H) :
    FnOk P w K mg base CX0 1 (He.ga K "pairs_of") (fdA K (He.ga K "pairs_of")) ["numbers"] (sp_pairs_of K) :=
  T.f_pairs_of.ok sc_pairs_of len fun cdv A outer s H vs Q E hr h => ⟨t_pairs_of K, PSs.nox (pss_one (ps_ret (pe_lc (own := [("at", 1)]) (by rfl) sc_pairs_of.nd (pi_range3 (by rfl) T.n_range (by exact (pa_cons pe_int (pa_cons (pe_callB call_len_seq (by rfl) T.n_len PySem.boot_len (by exact (pa_cons (pv 0) pa_nil))) (pa_cons pe_int pa_nil))))) (blkOk_by (own := [("at", 1)]) (N := ["numbers", "at"]) (sc := defScope s_pairs_of) (by decide +kernel)) (fun _ _ _ _ _ => (pg_name (i := 1) sc_pairs_of.nd rfl (Or.inl rfl))) (fun _ _ _ _ _ => pts_nil) (fun _ _ _ _ _ => (pe_slice sl_list (pv 0) (po_some (pv 1)) (po_some (pe_op op_add (pv 1) pe_int))))))), pure vs H Q E h⟩
theorem mk_is_tick {P : Program} {w : World} {base : Heap} (T : Tx K mg) (G_are_changes : FnOk P w K mg base CX0 3 (He.ga K "are_changes") (fdA K (He.ga K "are_changes")) ["numbers"] (sp_are_changes K))
    (len : ∀ vs H Q E, sp_is_tick K vs H Q E → vs.length = 1)
    (pure : ∀ vs H Q E, sp_is_tick K vs H Q E → t_is_tick K { nx := fun _ H' => Q .non H', rt := Q } (start ["row"] vs) H) :
    FnOk P w K mg base CX0 4 (He.ga K "is_tick") (fdA K (He.ga K "is_tick")) ["row"] (sp_is_tick K) :=
  T.f_is_tick.ok sc_is_tick len fun cdv A outer s H vs Q E hr h => ⟨t_is_tick K, PSs.nox (pss_one (ps_ret (pe_and (pe_cmpR (op_neD hr.units) (pv 0) (pe_lst pa_nil) (nomark _)) (pe_and (pe_cmpR op_ge (pe_ix ix_list (pv 0) pe_int (fun _ _ => rfl)) pe_int (nomark _)) (pe_one (pe_call G_are_changes (hr.mono (by decide)) (by rfl) T.g_are_changes T.f_are_changes.kp (bd_are_changes T) .nil pass0 (by exact (pa_cons (pe_slice sl_list (pv 0) (po_some pe_int) po_none) pa_nil)))))))), pure vs H Q E h⟩
theorem mk_Store_other {P : Program} {w : World} {base : Heap} (T : Tx K mg) 
    (len : ∀ vs H Q E, sp_Store_other K vs H Q E → vs.length = 1)
    (pure : ∀ vs H Q E, sp_Store_other K vs H Q E → t_Store_other K { nx := fun _ H' => Q .non H', rt := Q } (start ["self"] vs) H) :
    FnOk P w K mg base CX0 1 (He.ma K (He.ga K "Store") "other") (fdA K (He.ma K (He.ga K "Store") "other")) ["self"] (sp_Store_other K) :=
  T.f_Store_other.ok sc_Store_other len fun cdv A outer s H vs Q E hr h => ⟨t_Store_other K, PSs.nox (pss_one (ps_ret (pe_op op_sub pe_int (pe_fld (pv 0) rfl)))), pure vs H Q E h⟩
end
end Ts
/-! ## TsD8 -/
namespace Ts
open PySem PySem.Spec PyProof.Rows L2
section
variable {K : PySem.W.Frag} {mg : Str → Option Value}
theorem mk_is_checkpoint {P : Program} {w : World} {base : Heap} (T : Tx K mg) (G_pairs_of : FnOk P w K mg base CX0 1 (He.ga K "pairs_of") (fdA K (He.ga K "pairs_of")) ["numbers"] (sp_pairs_of K)) (G_is_entry : FnOk P w K mg base CX0 1 (He.ga K "is_entry") (fdA K (He.ga K "is_entry")) ["key", "value"] (sp_is_entry K))
    (len : ∀ vs H Q E, sp_is_checkpoint K vs H Q E → vs.length = 1)
    (pure : ∀ vs H Q E, sp_is_checkpoint K vs H Q E → t_is_checkpoint K { nx := fun _ H' => Q .non H', rt := Q } (start ["row", "pairs", "one", "other", "pair"] vs) H) :
    FnOk P w K mg base CX0 2 (He.ga K "is_checkpoint") (fdA K (He.ga K "is_checkpoint")) ["row"] (sp_is_checkpoint K) :=
  T.f_is_checkpoint.ok sc_is_checkpoint len fun cdv A outer s H vs Q E hr h => ⟨t_is_checkpoint K, PSs.nox (pss_cons (ps_if (PW.pt (pw_or (pt_cmpR op_neI (pe_op op_modN (pe_callB call_len_seq (by rfl) T.n_len PySem.boot_len (by exact (pa_cons (pv 0) pa_nil))) pe_int) pe_int (nomark _)) (pw_or1 (pt_cmpR op_lt (pe_ix ix_list (pv 0) pe_int (fun _ _ => rfl)) pe_int (nomark _)))))
  (pss_one (ps_ret pe_bl))
  pss_nil)
  (pss_cons (ps_set (i := 1) sc_is_checkpoint.nd rfl (Or.inl rfl) (pe_call G_pairs_of (hr.mono (by decide)) (by rfl) T.g_pairs_of T.f_pairs_of.kp (bd_pairs_of T) .nil pass0 (by exact (pa_cons (pe_slice sl_list (pv 0) (po_some pe_int) po_none) pa_nil))))
  (pss_cons (ps_if (pt_not (pt_val (pe_callB (cr_all rfl) (by rfl) T.n_all (by decide +kernel) (by exact (pa_cons (pe_lc (own := [("pair", 4)]) (by rfl) sc_is_checkpoint.nd (pi_list (pv 1)) (blkOk_by (own := [("pair", 4)]) (N := ["row", "pairs", "one", "other", "pair"]) (sc := defScope s_is_checkpoint) (by decide +kernel)) (fun _ _ _ _ _ => (pg_name (i := 4) sc_is_checkpoint.nd rfl (Or.inl rfl))) (fun _ _ _ _ _ => pts_nil) (fun _ _ _ _ _ => (pe_call G_is_entry (hr.mono (by decide)) (by rfl) T.g_is_entry T.f_is_entry.kp (bd_is_entry T) .nil pass0 (by exact (pa_cons (pe_ix ix_list (pv 4) pe_int (fun _ _ => rfl)) (pa_cons (pe_ix ix_list (pv 4) pe_int (fun _ _ => rfl)) pa_nil)))))) pa_nil)))))
  (pss_one (ps_ret pe_bl))
  pss_nil)
  (pss_one (ps_ret (pe_callB (cr_all rfl) (by rfl) T.n_all (by decide +kernel) (by exact (pa_cons (pe_lc (own := [("one", 2), ("other", 3)]) (by rfl) sc_is_checkpoint.nd (pi_zip (by rfl) T.n_zip (by exact (pa_cons (pv 1) (pa_cons (pe_slice sl_list (pv 1) (po_some pe_int) po_none) pa_nil)))) (blkOk_by (own := [("one", 2), ("other", 3)]) (N := ["row", "pairs", "one", "other", "pair"]) (sc := defScope s_is_checkpoint) (by decide +kernel)) (fun _ _ _ _ _ => (pg_tup rfl (pgs_cons (pg_name (i := 2) sc_is_checkpoint.nd rfl (Or.inl rfl)) (pgs_cons (pg_name (i := 3) sc_is_checkpoint.nd rfl (Or.inl rfl)) pgs_nil)))) (fun _ _ _ _ _ => pts_nil) (fun _ _ _ _ _ => (pe_cmpR op_lt (pe_ix ix_list (pv 2) pe_int (fun _ _ => rfl)) (pe_ix ix_list (pv 3) pe_int (fun _ _ => rfl)) (nomark _)))) pa_nil)))))))), pure vs H Q E h⟩
theorem mk_Store_recover {P : Program} {w : World} {base : Heap} (T : Tx K mg) (G_want : FnOk P w K mg base (L2.CX P w) 3 (He.ga K "want") (fdA K (He.ga K "want")) ["is_so", "error"] (sp_want K)) (G_Store_commits : FnOk P w K mg base CX0 7 (He.ma K (He.ga K "Store") "commits") (fdA K (He.ma K (He.ga K "Store") "commits")) ["self"] (sp_Store_commits K)) (G_Refused___init__ : FnOk P w K mg base CX0 1 (He.ma K (He.ga K "Refused") "__init__") (fdA K (He.ma K (He.ga K "Refused") "__init__")) ["self", "error"] (sp_Refused___init__ K)) (G_checkpoint_in : FnOk P w K mg base CX0 6 (He.ga K "checkpoint_in") (fdA K (He.ga K "checkpoint_in")) ["data"] (sp_checkpoint_in K)) (G_Store_recovered : FnOk P w K mg base CX0 7 (He.ma K (He.ga K "Store") "recovered") (fdA K (He.ma K (He.ga K "Store") "recovered")) ["self", "commit", "side", "checkpoint"] (sp_Store_recovered K))
    (len : ∀ vs H Q E, sp_Store_recover K vs H Q E → vs.length = 1)
    (pure : ∀ vs H Q E, sp_Store_recover K vs H Q E → t_Store_recover K E { nx := fun _ H' => Q .non H', rt := Q } (start ["self", "number", "side", "checkpoint"] vs) H) :
    FnOk P w K mg base (L2.CX P w) 8 (He.ma K (He.ga K "Store") "recover") (fdA K (He.ma K (He.ga K "Store") "recover")) ["self"] (sp_Store_recover K) :=
  T.f_Store_recover.ok sc_Store_recover len fun cdv A outer s H vs Q E hr h => ⟨t_Store_recover K E, (pss_cons (ps_expr (pe_call G_want (hr.mono (by decide)) (by rfl) T.g_want T.f_want.kp (bd_want T) .nil (passes_call (takes_of rfl rfl rfl rfl) (fun _ _ _ _ h => h)) (by exact (pa_cons (pe_not (pe_fld (pv 0) rfl)) (pa_cons (pe_glob (by rfl) T.c_NOT_NOW.choose_spec ⟨_, rfl⟩) pa_nil)))))
  (pss_cons (ps_for (passes_of rfl) rfl (pi_list (pe_meth0 (pv 0) T.cl T.m_commits G_Store_commits (hr.mono (by decide)) (bd_Store_commits T) .nil pass0)) (pg_tup rfl (pgs_cons (pg_name (i := 1) sc_Store_recover.nd rfl (Or.inl rfl)) (pgs_cons (pg_name (i := 2) sc_Store_recover.nd rfl (Or.inl rfl)) pgs_nil)))
  (pss_cons (ps_set (i := 3) sc_Store_recover.nd rfl (Or.inl rfl) (pe_call G_checkpoint_in (hr.mono (by decide)) (by rfl) T.g_checkpoint_in T.f_checkpoint_in.kp (bd_checkpoint_in T) .nil pass0 (by exact (pa_cons (pe_ix ix_list (pe_fld (pv 0) rfl) (pv 2) (fun _ _ => rfl)) pa_nil))))
  (pss_one (ps_if (pt_cmpR op_notN (pv 3) pe_non (nomark _))
  (pss_one (ps_ret (pe_meth (pv 0) T.cl T.m_recovered G_Store_recovered (hr.mono (by decide)) (bd_Store_recovered T) .nil pass0 (by exact (pa_cons (pv 1) (pa_cons (pv 2) (pa_cons (pv 3) pa_nil)))))))
  pss_nil))))
  (pss_one (ps_raise rfl (takes_of rfl rfl rfl rfl) (pmk_oex T.x_Refused.oex T.x_Refused.init T.x_Refused.fn G_Refused___init__ (hr.mono (by decide)) (bd_Refused___init__ T) .nil passN (by rfl) T.g_Refused (by exact (pa_cons (pe_glob (by rfl) T.c_NOT_RECOVERED.choose_spec ⟨_, rfl⟩) pa_nil))))))), pure vs H Q E h⟩
theorem mk_decoded {P : Program} {w : World} {base : Heap} (T : Tx K mg) (G_parts_of : FnOk P w K mg base CX0 1 (He.ga K "parts_of") (fdA K (He.ga K "parts_of")) ["payload"] (sp_parts_of K)) (G_part_integer : FnOk P w K mg base CX0 2 (He.ga K "part_integer") (fdA K (He.ga K "part_integer")) ["part"] (sp_part_integer K))
    (len : ∀ vs H Q E, sp_decoded K vs H Q E → vs.length = 1)
    (pure : ∀ vs H Q E, sp_decoded K vs H Q E → t_decoded K { nx := fun _ H' => Q .non H', rt := Q } (start ["payload", "parts", "part"] vs) H) :
    FnOk P w K mg base CX0 3 (He.ga K "decoded") (fdA K (He.ga K "decoded")) ["payload"] (sp_decoded K) :=
  T.f_decoded.ok sc_decoded len fun cdv A outer s H vs Q E hr h => ⟨t_decoded K, PSs.nox (pss_cons (ps_set (i := 1) sc_decoded.nd rfl (Or.inl rfl) (pe_call G_parts_of (hr.mono (by decide)) (by rfl) T.g_parts_of T.f_parts_of.kp (bd_parts_of T) .nil pass0 (by exact (pa_cons (pv 0) pa_nil))))
  (pss_cons (ps_if (PW.pt (pw_or (pt_cmpR (op_neD hr.units) (pe_ix ix_list (pv 1) (pe_un un_neg pe_int) (fun _ _ => rfl)) (pe_lst pa_nil) (nomark _)) (pw_or1 (pt_val (pe_callB (cr_any rfl) (by rfl) T.n_any (by decide +kernel) (by exact (pa_cons (pe_lc (own := [("part", 2)]) (by rfl) sc_decoded.nd (pi_list (pv 1)) (blkOk_by (own := [("part", 2)]) (N := ["payload", "parts", "part"]) (sc := defScope s_decoded) (by decide +kernel)) (fun _ _ _ _ _ => (pg_name (i := 2) sc_decoded.nd rfl (Or.inl rfl))) (fun _ _ _ _ _ => pts_nil) (fun _ _ _ _ _ => (pe_cmpR op_gt (pe_callB call_len_seq (by rfl) T.n_len PySem.boot_len (by exact (pa_cons (pv 2) pa_nil))) (pe_glob (by rfl) T.c_LONGEST_PART.choose_spec ⟨_, rfl⟩) (nomark _)))) pa_nil)))))))
  (pss_one (ps_ret pe_non))
  pss_nil)
  (pss_one (ps_ret (pe_lc (own := [("part", 2)]) (by rfl) sc_decoded.nd (pi_list (pe_slice sl_list (pv 1) po_none (po_some (pe_un un_neg pe_int)))) (blkOk_by (own := [("part", 2)]) (N := ["payload", "parts", "part"]) (sc := defScope s_decoded) (by decide +kernel)) (fun _ _ _ _ _ => (pg_name (i := 2) sc_decoded.nd rfl (Or.inl rfl))) (fun _ _ _ _ _ => pts_nil) (fun _ _ _ _ _ => (pe_call G_part_integer (hr.mono (by decide)) (by rfl) T.g_part_integer T.f_part_integer.kp (bd_part_integer T) .nil pass0 (by exact (pa_cons (pv 2) pa_nil))))))))), pure vs H Q E h⟩
theorem mk_called {P : Program} {w : World} {base : Heap} (T : Tx K mg) (G_of_store : FnOk P w K mg base (L2.CX P w) 9 (He.ga K "of_store") (fdA K (He.ga K "of_store")) ["store", "call", "n", "row"] (sp_of_store K)) (G_of_writing : FnOk P w K mg base (L2.CX P w) 9 (He.ga K "of_writing") (fdA K (He.ga K "of_writing")) ["store", "call", "n", "row"] (sp_of_writing K)) (G_of_lists : FnOk P w K mg base (L2.CX P w) 9 (He.ga K "of_lists") (fdA K (He.ga K "of_lists")) ["call", "row"] (sp_of_lists K))
    (len : ∀ vs H Q E, sp_called K vs H Q E → vs.length = 4)
    (pure : ∀ vs H Q E, sp_called K vs H Q E → t_called K E { nx := fun _ H' => Q .non H', rt := Q } (start ["store", "call", "n", "row"] vs) H) :
    FnOk P w K mg base (L2.CX P w) 10 (He.ga K "called") (fdA K (He.ga K "called")) ["store", "call", "n", "row"] (sp_called K) :=
  T.f_called.ok sc_called len fun cdv A outer s H vs Q E hr h => ⟨t_called K E, (pss_cons (ps_if (pt_cmpR op_lt (pv 1) pe_int (nomark _))
  (pss_one (ps_ret (pe_call G_of_writing (hr.mono (by decide)) (by rfl) T.g_of_writing T.f_of_writing.kp (bd_of_writing T) .nil (passes_call (takes_of rfl rfl rfl rfl) (fun _ _ _ _ h => h)) (by exact (pa_cons (pv 0) (pa_cons (pv 1) (pa_cons (pv 2) (pa_cons (pv 3) pa_nil))))))))
  pss_nil)
  (pss_cons (ps_if (pt_cmpR op_in_seq (pv 1) (pe_tup (pa_cons pe_int (pa_cons pe_int (pa_cons pe_int (pa_cons pe_int pa_nil))))) (by first | rfl | with_unfolding_all rfl))
  (pss_one (ps_ret (pe_call G_of_lists (hr.mono (by decide)) (by rfl) T.g_of_lists T.f_of_lists.kp (bd_of_lists T) .nil (passes_call (takes_of rfl rfl rfl rfl) (fun _ _ _ _ h => h)) (by exact (pa_cons (pv 1) (pa_cons (pv 3) pa_nil))))))
  pss_nil)
  (pss_one (ps_ret (pe_call G_of_store (hr.mono (by decide)) (by rfl) T.g_of_store T.f_of_store.kp (bd_of_store T) .nil (passes_call (takes_of rfl rfl rfl rfl) (fun _ _ _ _ h => h)) (by exact (pa_cons (pv 0) (pa_cons (pv 1) (pa_cons (pv 2) (pa_cons (pv 3) pa_nil)))))))))), pure vs H Q E h⟩
theorem mk_frames_in {P : Program} {w : World} {base : Heap} (T : Tx K mg) (G_frame_at : FnOk P w K mg base CX0 4 (He.ga K "frame_at") (fdA K (He.ga K "frame_at")) ["data", "at"] (sp_frame_at K))
    (len : ∀ vs H Q E, sp_frames_in K vs H Q E → vs.length = 1)
    (pure : ∀ vs H Q E, sp_frames_in K vs H Q E → t_frames_in K { nx := fun _ H' => Q .non H', rt := Q } (start ["data", "found", "frame"] vs) H) :
    FnOk P w K mg base CX0 5 (He.ga K "frames_in") (fdA K (He.ga K "frames_in")) ["data"] (sp_frames_in K) :=
  T.f_frames_in.ok sc_frames_in len fun cdv A outer s H vs Q E hr h => ⟨t_frames_in K, PSs.nox (pss_cons (ps_set (i := 1) sc_frames_in.nd rfl (Or.inl rfl) (pe_lst pa_nil))
  (pss_cons (ps_set (i := 2) sc_frames_in.nd rfl (Or.inl rfl) (pe_call G_frame_at (hr.mono (by decide)) (by rfl) T.g_frame_at T.f_frame_at.kp (bd_frame_at T) .nil pass0 (by exact (pa_cons (pv 0) (pa_cons pe_int pa_nil)))))
  (pss_cons (ps_while PassesOwn.never (pt_cmpR op_notN (pv 2) pe_non (nomark _))
  (pss_cons (ps_expr (pe_bm PySem.F.plainAttrs_list PySem.F.slot_list_append PySem.F.type_list_append mt_append (pv 1) (by exact (pa_cons (pv 2) pa_nil))))
  (pss_one (ps_set (i := 2) sc_frames_in.nd rfl (Or.inl rfl) (pe_call G_frame_at (hr.mono (by decide)) (by rfl) T.g_frame_at T.f_frame_at.kp (bd_frame_at T) .nil pass0 (by exact (pa_cons (pv 0) (pa_cons (pe_ix ix_tup (pv 2) pe_int (fun _ _ => rfl)) pa_nil))))))))
  (pss_one (ps_ret (pv 1)))))), pure vs H Q E h⟩
theorem mk_Store_cut_power {P : Program} {w : World} {base : Heap} (T : Tx K mg) (G_Store_want_power : FnOk P w K mg base (L2.CX P w) 4 (He.ma K (He.ga K "Store") "want_power") (fdA K (He.ma K (He.ga K "Store") "want_power")) ["self"] (sp_Store_want_power K)) (G_Store_fail : FnOk P w K mg base CX0 2 (He.ma K (He.ga K "Store") "fail") (fdA K (He.ma K (He.ga K "Store") "fail")) ["self"] (sp_Store_fail K))
    (len : ∀ vs H Q E, sp_Store_cut_power K vs H Q E → vs.length = 1)
    (pure : ∀ vs H Q E, sp_Store_cut_power K vs H Q E → t_Store_cut_power K E { nx := fun _ H' => Q .non H', rt := Q } (start ["self"] vs) H) :
    FnOk P w K mg base (L2.CX P w) 5 (He.ma K (He.ga K "Store") "cut_power") (fdA K (He.ma K (He.ga K "Store") "cut_power")) ["self"] (sp_Store_cut_power K) :=
  T.f_Store_cut_power.ok sc_Store_cut_power len fun cdv A outer s H vs Q E hr h => ⟨t_Store_cut_power K E, (pss_cons (ps_expr (pe_meth0 (pv 0) T.cl T.m_want_power G_Store_want_power (hr.mono (by decide)) (bd_Store_want_power T) .nil (passes_call (takes_of rfl rfl rfl rfl) (fun _ _ _ _ h => h))))
  (pss_cons (ps_expr (pe_meth0 (pv 0) T.cl T.m_fail G_Store_fail (hr.mono (by decide)) (bd_Store_fail T) .nil pass0))
  (pss_one (ps_ret (pe_lst pa_nil))))), pure vs H Q E h⟩
theorem mk_is_change {P : Program} {w : World} {base : Heap} (T : Tx K mg) (G_is_entry : FnOk P w K mg base CX0 1 (He.ga K "is_entry") (fdA K (He.ga K "is_entry")) ["key", "value"] (sp_is_entry K))
    (len : ∀ vs H Q E, sp_is_change K vs H Q E → vs.length = 1)
    (pure : ∀ vs H Q E, sp_is_change K vs H Q E → t_is_change K { nx := fun _ H' => Q .non H', rt := Q } (start ["change"] vs) H) :
    FnOk P w K mg base CX0 2 (He.ga K "is_change") (fdA K (He.ga K "is_change")) ["change"] (sp_is_change K) :=
  T.f_is_change.ok sc_is_change len fun cdv A outer s H vs Q E hr h => ⟨t_is_change K, PSs.nox (pss_one (ps_ret (pe_and (pe_call G_is_entry (hr.mono (by decide)) (by rfl) T.g_is_entry T.f_is_entry.kp (bd_is_entry T) .nil pass0 (by exact (pa_cons (pe_ix ix_list (pv 0) pe_int (fun _ _ => rfl)) (pa_cons (pe_ix ix_list (pv 0) pe_int (fun _ _ => rfl)) pa_nil)))) (pe_one (pe_cmpR op_in_seq (pe_ix ix_list (pv 0) pe_int (fun _ _ => rfl)) (pe_tup (pa_cons (pe_glob (by rfl) T.c_REMOVE.choose_spec ⟨_, rfl⟩) (pa_cons (pe_glob (by rfl) T.c_PUT.choose_spec ⟨_, rfl⟩) pa_nil))) (by first | rfl | with_unfolding_all rfl)))))), pure vs H Q E h⟩
theorem mk_checksum_told {P : Program} {w : World} {base : Heap} (T : Tx K mg) (G_checksum : FnOk P w K mg base CX0 1 (He.ga K "checksum") (fdA K (He.ga K "checksum")) ["data"] (sp_checksum K))
    (len : ∀ vs H Q E, sp_checksum_told K vs H Q E → vs.length = 1)
    (pure : ∀ vs H Q E, sp_checksum_told K vs H Q E → t_checksum_told K { nx := fun _ H' => Q .non H', rt := Q } (start ["data"] vs) H) :
    FnOk P w K mg base CX0 2 (He.ga K "checksum_told") (fdA K (He.ga K "checksum_told")) ["data"] (sp_checksum_told K) :=
  T.f_checksum_told.ok sc_checksum_told len fun cdv A outer s H vs Q E hr h => ⟨t_checksum_told K, PSs.nox (pss_one (ps_ret (pe_lst (pa_cons (pe_call G_checksum (hr.mono (by decide)) (by rfl) T.g_checksum T.f_checksum.kp (bd_checksum T) .nil pass0 (by exact (pa_cons (pv 0) pa_nil))) pa_nil)))), pure vs H Q E h⟩
theorem mk_two_bytes {P : Program} {w : World} {base : Heap} (T : Tx K mg) 
    (len : ∀ vs H Q E, sp_two_bytes K vs H Q E → vs.length = 1)
    (pure : ∀ vs H Q E, sp_two_bytes K vs H Q E → t_two_bytes K { nx := fun _ H' => Q .non H', rt := Q } (start ["number"] vs) H) :
    FnOk P w K mg base CX0 1 (He.ga K "two_bytes") (fdA K (He.ga K "two_bytes")) ["number"] (sp_two_bytes K) :=
  T.f_two_bytes.ok sc_two_bytes len fun cdv A outer s H vs Q E hr h => ⟨t_two_bytes K, PSs.nox (pss_one (ps_ret (pe_lst (pa_cons (pe_op op_fdivN (pv 0) (pe_glob (by rfl) T.c_PAIR_BY.choose_spec ⟨_, rfl⟩)) (pa_cons (pe_op op_modN (pv 0) (pe_glob (by rfl) T.c_PAIR_BY.choose_spec ⟨_, rfl⟩)) pa_nil))))), pure vs H Q E h⟩
end
end Ts
/-! ## TsEx -/
namespace L2
open PySem PySem.Spec PyProof.Rows
theorem Same.new {H : Hp} {p : Addr} {o : HO} (h : H p = none) : Same H (upd H p o) := fun b u e => by
  rw [upd_ne (ne_of_none e h)]
  exact e
/-- an object that the old heap didn't know may change -/
theorem Same.mut {H H' : Hp} {p : Addr} {o : HO} (e : Same H H') (h : H p = none) : Same H (upd H' p o) := fun b u q => by
  rw [upd_ne (ne_of_none q h)]
  exact e b u q
/-- behind a further new object -/
theorem Same.more {H H' : Hp} {p : Addr} {o : HO} (e : Same H H') (h : H' p = none) : Same H (upd H' p o) := e.trans (Same.new h)
end L2
namespace Ts
open PySem PySem.Spec PyProof.Rows L2
/-! ### a reading, step by step: each row says what is left to be shown -/
section
variable {K : PySem.W.Frag} {D : Ends} {σ : L2.St} {H : Hp} {t u : TS} {ta tb tc te : TE} {c : TT} {Q : VK} {i : Nat} {v : V}
theorem x_seq (h : t { D with nx := u D } σ H) : tSeq t u D σ H := h
theorem x_next (h : D.nx σ H) : tNext D σ H := h
theorem x_asg {g : TG} (h : te σ H fun x H1 => g x σ H1 D.nx) : tAsg te g D σ H := h
theorem x_gname {N : L2.St → Hp → Prop} (h : N (σ.set i (some v)) H) : gName i v σ H N := h
theorem x_ret (h : te σ H D.rt) : tRet te D σ H := h
theorem x_retN (h : D.rt .non H) : tRetN D σ H := h
theorem x_drop (h : te σ H fun _ H1 => D.nx σ H1) : tDrop te D σ H := h
theorem x_if (h : c σ H fun b H1 => if b = true then t D σ H1 else u D σ H1) : tIfS c t u D σ H := h
theorem x_var (h : ∃ v, σ[i]? = some (some v) ∧ Q v H) : tVar i σ H Q := h
theorem x_c (h : Q v H) : tC v σ H Q := h
theorem x_op {r : R2} (h : ta σ H fun x H1 => tb σ H1 fun y H2 => r x y H2 Q) : tOp r ta tb σ H Q := h
theorem x_un {r : V → Hp → VK → Prop} (h : ta σ H fun x H1 => r x H1 Q) : tUn r ta σ H Q := h
theorem x_I0 {g : Int → Int → V} {i j : Int} (h : Q (g i j) H) : rI0 g (.int i) (.int j) H Q := ⟨i, j, rfl, rfl, h⟩
theorem x_I {C : Int → Int → Prop} {g : Int → Int → V} {i j : Int} (hc : C i j) (h : Q (g i j) H) : rI C g (.int i) (.int j) H Q := ⟨i, j, rfl, rfl, hc, h⟩
theorem x_mod {i j : Int} (hj : j ≠ 0) (h : Q (.int (i.fmod j)) H) : rModI (.int i) (.int j) H Q := ⟨i, j, rfl, rfl, hj, h⟩
theorem x_fdiv {i j : Int} (hj : j ≠ 0 ∧ j.natAbs < 1073741824) (h : Q (.int (i.fdiv j)) H) : rFdivI (.int i) (.int j) H Q := ⟨i, j, rfl, rfl, hj, h⟩
theorem x_mulL {i j : Int} (hi : -18446744073709551616 < i ∧ i < 18446744073709551616) (h : Q (.int (i * j)) H) : rMulI (.int i) (.int j) H Q := ⟨i, j, rfl, rfl, .inl hi, h⟩
theorem x_mulR {i j : Int} (hj : -18446744073709551616 < j ∧ j < 18446744073709551616) (h : Q (.int (i * j)) H) : rMulI (.int i) (.int j) H Q := ⟨i, j, rfl, rfl, .inr hj, h⟩
theorem x_modN {n : Nat} (k : Nat) (hk : 0 < k) (h : Q (.int ((n % k : Nat) : Int)) H) : rModI (.int (n : Int)) (.int (k : Int)) H Q := ⟨n, k, rfl, rfl, by omega, by
  show Q (.int ((n : Int).fmod (k : Int))) H
  rw [Int.fmod_eq_emod_of_nonneg _ (by omega), ← Int.natCast_emod]
  exact h⟩
theorem x_fdivN {n : Nat} (k : Nat) (hk : 0 < k ∧ k < 1073741824) (h : Q (.int ((n / k : Nat) : Int)) H) : rFdivI (.int (n : Int)) (.int (k : Int)) H Q := ⟨n, k, rfl, rfl, ⟨by omega, by omega⟩, by
  show Q (.int ((n : Int).fdiv (k : Int))) H
  rw [Int.fdiv_eq_ediv_of_nonneg _ (by omega), ← Int.natCast_ediv]
  exact h⟩
theorem x_U {g : Int → V} {i : Int} (h : Q (g i) H) : rU g (.int i) H Q := ⟨i, rfl, h⟩
theorem x_isN {x : V} (h : Q (.bl (decide (x = .non))) H) : rIsN x .non H Q := ⟨rfl, h⟩
theorem x_notN {x : V} (h : Q (.bl (!decide (x = .non))) H) : rNotN x .non H Q := ⟨rfl, h⟩
theorem x_test {Q : Bool → Hp → Prop} (h : te σ H fun x H' => ∃ k, x = .bl k ∧ Q k H') : tTest te σ H Q := h
theorem x_tB {Q : Bool → Hp → Prop} (h : te σ H fun x H' => ∃ k, x = .bl k ∧ Q k H') : tB te σ H Q := h
theorem x_bl {b : Bool} {Q : Bool → Hp → Prop} (h : Q b H) : ∃ k, V.bl b = .bl k ∧ Q k H := ⟨b, rfl, h⟩
theorem x_blV {b : Bool} {P : Bool → Prop} (h : P b) : ∃ k, V.bl b = .bl k ∧ P k := ⟨b, rfl, h⟩
theorem x_chain {r r' : R2} (h : ta σ H fun x H1 => tb σ H1 fun y H2 => r x y H2 fun z H3 => ∃ k, z = .bl k ∧ (if k = true then tc σ H3 fun w' H4 => r' y w' H4 Q else Q (.bl false) H3)) : tChain r r' ta tb tc σ H Q := h
theorem x_cb {r : List V → Hp → VK → Prop} {ts : TA} (h : ts σ H fun vs H1 => r vs H1 Q) : tCB r ts σ H Q := h
theorem x_nil {Q : List V → Hp → Prop} (h : Q [] H) : tNil σ H Q := h
theorem x_cons {tr : TA} {Q : List V → Hp → Prop} (h : ta σ H fun x H1 => tr σ H1 fun xs H2 => Q (x :: xs) H2) : tCons ta tr σ H Q := h
theorem x_call {sp : Sp} {E : XK} {ts : TA} (h : ts σ H fun vs H1 => sp (vs ++ []) H1 Q E) : tCall sp [] E ts σ H Q := h
theorem x_not {Q : Bool → Hp → Prop} (h : c σ H fun b H1 => Q (!b) H1) : tNot c σ H Q := h
theorem x_and {d : TT} {Q : Bool → Hp → Prop} (h : c σ H fun b H1 => if b = true then d σ H1 Q else Q false H1) : tAnd c d σ H Q := h
theorem x_or {d : TT} {Q : Bool → Hp → Prop} (h : c σ H fun b H1 => if b = true then Q true H1 else d σ H1 Q) : tOr c d σ H Q := h
theorem x_andV (h : ta σ H fun x H1 => ∃ b, x = .bl b ∧ if b = true then tb σ H1 Q else Q (.bl false) H1) : tAndV ta tb σ H Q := h
theorem x_orV (h : ta σ H fun x H1 => ∃ b, x = .bl b ∧ if b = true then Q (.bl true) H1 else tb σ H1 Q) : tOrV ta tb σ H Q := h
theorem x_notV (h : ta σ H fun x H1 => ∃ b, x = .bl b ∧ Q (.bl (!b)) H1) : tNotV ta σ H Q := h
theorem x_lst {ts : TA} (h : ts σ H fun xs H1 => xs.length ≤ sizeLine ∧ ∀ p, H1 p = none → Q (.ref p) (upd H1 p (.lst xs))) : tLst ts σ H Q := h
theorem x_tup {ts : TA} (h : ts σ H fun xs H1 => xs.length ≤ sizeLine ∧ ∀ p, H1 p = none → Q (.ref p) (upd H1 p (.tup xs))) : tTup ts σ H Q := h
theorem x_sl {r : V → Option Int → Option Int → Hp → VK → Prop} {tl th : TO} (h : te σ H fun x H1 => tl σ H1 fun l H2 => th σ H2 fun u H3 => r x l u H3 Q) : tSl r te tl th σ H Q := h
theorem x_noPart {Q : Option Int → Hp → Prop} (h : Q none H) : tNoPart σ H Q := h
theorem x_part {Q : Option Int → Hp → Prop} (h : te σ H fun x H1 => ∃ i, x = .int i ∧ Q (some i) H1) : tPart te σ H Q := h
theorem x_int {i : Int} {P : Int → Prop} (h : P i) : ∃ j, V.int i = .int j ∧ P j := ⟨i, rfl, h⟩
theorem x_slL {a : Addr} {xs : List V} {lo hi : Option Int} (ha : H a = some (.lst xs)) (h : ∀ p, H p = none → Q (.ref p) (upd H p (.lst (cutV xs lo hi)))) : rSlL K (.ref a) lo hi H Q := ⟨a, xs, rfl, .of ha, h⟩
theorem x_ixL {p : Addr} {xs : List V} {i : Int} (hp : H p = some (.lst xs)) (hi : atI xs i = some v) (h : Q v H) : rIxL K (.ref p) (.int i) H Q := ⟨p, xs, i, v, rfl, rfl, .of hp, hi, h⟩
theorem x_ixT {p : Addr} {xs : List V} {i : Int} (hp : H p = some (.tup xs)) (hi : atI xs i = some v) (h : Q v H) : rIxT K (.ref p) (.int i) H Q := ⟨p, xs, i, v, rfl, rfl, .of hp, hi, h⟩
theorem x_lenL {p : Addr} {xs : List V} (hp : H p = some (.lst xs)) (h : Q (.int xs.length) H) : rLenS K [.ref p] H Q := ⟨p, xs, rfl, .inl (.of hp), h⟩
theorem x_cat {l b : Addr} {xs zs : List V} (hl : H l = some (.lst xs)) (hb : H b = some (.lst zs)) (hz : xs.length + zs.length ≤ sizeLine) (h : ∀ p, H p = none → Q (.ref p) (upd H p (.lst (xs ++ zs)))) : rCat (.ref l) (.ref b) H Q := ⟨l, b, xs, zs, rfl, rfl, hl, hb, hz, h⟩
theorem x_bm {T : String} {r : V → List V → Hp → VK → Prop} {ts : TA} (h : te σ H fun x H1 => tyV K T x H1 ∧ ts σ H1 fun xs H2 => r x xs H2 Q) : tBM K T r te ts σ H Q := h
theorem x_tyL {l : Addr} {xs : List V} {P : Prop} (hl : H l = some (.lst xs)) (h : P) : tyV K "list" (.ref l) H ∧ P := ⟨.inl ⟨rfl, _, .of hl⟩, h⟩
theorem x_append {l : Addr} {xs : List V} {y : V} (hl : H l = some (.lst xs)) (hz : xs.length < sizeLine) (h : Q .non (upd H l (.lst (xs ++ [y])))) : rAppend (.ref l) [y] H Q := ⟨l, xs, y, rfl, rfl, hl, hz, h⟩
theorem x_extend {l b : Addr} {xs zs : List V} (hl : H l = some (.lst xs)) (hb : H b = some (.lst zs)) (hz : xs.length + zs.length ≤ sizeLine) (h : Q .non (upd H l (.lst (xs ++ zs)))) : rExtend (.ref l) [.ref b] H Q := ⟨l, b, xs, zs, rfl, rfl, hl, hb, hz, h⟩
theorem x_aug {ti : TIp} (h : ∃ x, σ[i]? = some (some x) ∧ te σ H fun y H1 => ti x y H1 fun z H2 => D.nx (σ.set i (some z)) H2) : tAug i te ti D σ H := h
theorem x_ipI {f : Int → Int → Int} {x y : Int} (h : Q (.int (f x y)) H) : ipI f (.int x) (.int y) H Q := ⟨x, y, rfl, rfl, h⟩
theorem x_ite {p : Prop} [Decidable p] {A B : Prop} (h1 : p → A) (h2 : ¬ p → B) : if decide p = true then A else B := by
  by_cases h : p
  · rw [if_pos (decide_eq_true h)]; exact h1 h
  · rw [if_neg (by rw [decide_eq_false h]; exact Bool.false_ne_true)]; exact h2 h
theorem x_iteN {p : Prop} [Decidable p] {A B : Prop} (h1 : ¬ p → A) (h2 : p → B) : if (!decide p) = true then A else B := by
  by_cases h : p
  · rw [decide_eq_true h]; exact (if_neg (by decide)).mpr (h2 h)
  · rw [decide_eq_false h]; exact (if_pos (by decide)).mpr (h1 h)
theorem x_iteB {b : Bool} {A B : Prop} (h1 : b = true → A) (h2 : b = false → B) : if b = true then A else B := by
  cases b with
  | true => exact (if_pos rfl).mpr (h1 rfl)
  | false => exact (if_neg Bool.false_ne_true).mpr (h2 rfl)
theorem x_iteNB {b : Bool} {A B : Prop} (h1 : b = false → A) (h2 : b = true → B) : if (!b) = true then A else B := by
  cases b with
  | true => exact (if_neg (by decide)).mpr (h2 rfl)
  | false => exact (if_pos (by decide)).mpr (h1 rfl)
theorem x_yes {A B : Prop} (h : A) : if true = true then A else B := (if_pos rfl).mpr h
theorem x_no {A B : Prop} (h : B) : if false = true then A else B := (if_neg Bool.false_ne_true).mpr h
theorem x_refN {p : Addr} {A B : Prop} (h : B) : if decide (V.ref p = .non) = true then A else B := h
theorem x_intN {i : Int} {A B : Prop} (h : B) : if decide (V.int i = .non) = true then A else B := h
theorem x_nonN {A B : Prop} (h : A) : if decide (V.non = .non) = true then A else B := h
theorem x_refNN {p : Addr} {A B : Prop} (h : A) : if (!decide (V.ref p = .non)) = true then A else B := h
theorem x_nonNN {A B : Prop} (h : B) : if (!decide (V.non = .non)) = true then A else B := h
theorem x_dnewK (h : ∀ p, H p = none → Q (.ref p) (upd H p (.dK []))) : tDNewK σ H Q := h
theorem x_gtup {n : Nat} {ts : TGs} {a : Addr} {xs : List V} {N : L2.St → Hp → Prop} (ha : H a = some (.tup xs)) (hn : xs.length = n) (h : ts xs σ H N) : gTup K n ts (.ref a) σ H N := ⟨a, xs, rfl, .of ha, hn, h⟩
theorem x_glst {n : Nat} {ts : TGs} {a : Addr} {xs : List V} {N : L2.St → Hp → Prop} (ha : H a = some (.lst xs)) (hn : xs.length = n) (h : ts xs σ H N) : gLst K n ts (.ref a) σ H N := ⟨a, xs, rfl, .of ha, hn, h⟩
theorem x_gcons {g : TG} {ts : TGs} {r : List V} {N : L2.St → Hp → Prop} (h : g v σ H fun σ' H' => ts r σ' H' N) : gCons g ts (v :: r) σ H N := ⟨v, r, rfl, h⟩
theorem x_gnil {N : L2.St → Hp → Prop} (h : N σ H) : gNil [] σ H N := ⟨rfl, h⟩
/-! ### heaps -/
theorem iv_app (l : List Int) (x : Int) : iv l ++ [.int x] = iv (l ++ [x]) := by simp [iv]
theorem nv_app (l : List Nat) (x : Nat) : nv l ++ [.int (x : Int)] = nv (l ++ [x]) := by simp [nv]
theorem iv_cat (l r : List Int) : iv l ++ iv r = iv (l ++ r) := by simp [iv]
theorem nv_cat (l r : List Nat) : nv l ++ nv r = nv (l ++ r) := by simp [nv]
theorem iv_len (l : List Int) : (iv l).length = l.length := by simp [iv]
theorem nv_len (l : List Nat) : (nv l).length = l.length := by simp [nv]
theorem iv_at {l : List Int} {i : Nat} {x : V} (h : (iv l)[i]? = some x) : ∃ n, l[i]? = some n ∧ x = .int n := by
  rw [List.getElem?_map] at h
  obtain ⟨n, h1, h2⟩ := Option.map_eq_some_iff.mp h
  exact ⟨n, h1, h2.symm⟩
theorem nv_at {l : List Nat} {i : Nat} {x : V} (h : (nv l)[i]? = some x) : ∃ n, l[i]? = some n ∧ x = .int (n : Int) := by
  rw [List.getElem?_map] at h
  obtain ⟨n, h1, h2⟩ := Option.map_eq_some_iff.mp h
  exact ⟨n, h1, h2.symm⟩
theorem ref_at {l : List Addr} {i : Nat} {x : V} (h : (l.map V.ref)[i]? = some x) : ∃ n, l[i]? = some n ∧ x = .ref n := by
  rw [List.getElem?_map] at h
  obtain ⟨n, h1, h2⟩ := Option.map_eq_some_iff.mp h
  exact ⟨n, h1, h2.symm⟩
theorem cutV_nat (xs : List V) (i j : Nat) : cutV xs (some (i : Int)) (some (j : Int)) = (xs.drop i).take (j - i) := by
  unfold cutV
  rw [HT.sIx_nat, HT.sIx_nat]
  by_cases h : i ≤ xs.length
  · rw [Nat.min_eq_left h]
    by_cases h2 : j ≤ xs.length
    · rw [Nat.min_eq_left h2]
    · rw [Nat.min_eq_right (by omega), List.take_of_length_le (by rw [List.length_drop]; omega), List.take_of_length_le (by rw [List.length_drop]; omega)]
  · have e1 : min i xs.length = xs.length := by omega
    rw [e1, List.drop_of_length_le (Nat.le_refl _), List.drop_of_length_le (by omega)]
    simp
theorem cutV_to (xs : List V) (j : Nat) : cutV xs none (some (j : Int)) = xs.take j := by
  unfold cutV
  rw [HT.sIx_none, HT.sIx_nat, List.drop_zero, Nat.sub_zero]
  by_cases h : j ≤ xs.length
  · rw [Nat.min_eq_left h]
  · rw [Nat.min_eq_right (by omega), List.take_of_length_le (Nat.le_refl _), List.take_of_length_le (by omega)]
theorem cutV_from (xs : List V) (i : Nat) : cutV xs (some (i : Int)) none = xs.drop i := by
  unfold cutV
  rw [HT.sIx_none, HT.sIx_nat]
  by_cases h : i ≤ xs.length
  · rw [Nat.min_eq_left h, List.take_of_length_le (by rw [List.length_drop]; omega)]
  · rw [Nat.min_eq_right (by omega), List.drop_of_length_le (Nat.le_refl _), List.drop_of_length_le (by omega)]
    simp
/-- xs[:-1] -/
theorem cutV_init (xs : List V) : cutV xs none (some (-1)) = xs.dropLast := by
  unfold cutV
  rw [HT.sIx_none, List.drop_zero, Nat.sub_zero, List.dropLast_eq_take]
  have e : HT.sIx xs.length xs.length (some (-1)) = xs.length - 1 := by
    show (if (-1 : Int) < 0 then ((-1 : Int) + (xs.length : Int)).toNat else min (-1 : Int).toNat xs.length) = _
    rw [if_pos (by decide)]
    omega
  rw [e]
/-- xs[-1:] -/
theorem cutV_last (xs : List V) : cutV xs (some (-1)) none = xs.drop (xs.length - 1) := by
  unfold cutV
  rw [HT.sIx_none]
  have e : HT.sIx xs.length 0 (some (-1)) = xs.length - 1 := by
    show (if (-1 : Int) < 0 then ((-1 : Int) + (xs.length : Int)).toNat else min (-1 : Int).toNat xs.length) = _
    rw [if_pos (by decide)]
    omega
  rw [e, List.take_of_length_le (by rw [List.length_drop]; omega)]
theorem sz {n : Nat} (h : n ≤ 16777216) : n ≤ sizeLine := by rw [sizeLine_eq]; exact h
theorem szl {n : Nat} (h : n < 16777216) : n < sizeLine := by rw [sizeLine_eq]; exact h
theorem atI_of {α : Type} {xs : List α} {i : Int} {j : Nat} {v : α} (e : i = (j : Int)) (h : xs[j]? = some v) : atI xs i = some v := by
  subst e
  exact atI_nat h
theorem atI_neg {xs : List V} {v : V} (h : xs.getLast? = some v) : atI xs (-1) = some v := by
  obtain ⟨ys, e⟩ := List.getLast?_eq_some_iff.mp h
  rw [e]
  exact atI_last ys v
end
/-- the steps that leave no choice -/
local macro_rules | `(tactic| tm_at "x") => `(tactic| repeat (first | (with_reducible refine x_var ?_; refine ⟨_, rfl, ?_⟩) | with_reducible refine x_seq ?_ | with_reducible refine x_asg ?_ | with_reducible refine x_gname ?_ | with_reducible refine x_op ?_ | with_reducible refine x_c ?_ | with_reducible refine x_I0 ?_ | with_reducible refine x_if ?_ | with_reducible refine x_test ?_ | with_reducible refine x_bl ?_ | with_reducible refine x_blV ?_ | with_reducible refine x_ret ?_ | with_reducible refine x_retN ?_ | with_reducible refine x_drop ?_ | with_reducible refine x_cons ?_ | with_reducible refine x_nil ?_ | with_reducible refine x_call ?_ | with_reducible refine x_cb ?_ | with_reducible refine x_tB ?_ | with_reducible refine x_not ?_ | with_reducible refine x_and ?_ | with_reducible refine x_or ?_ | with_reducible refine x_andV ?_ | with_reducible refine x_orV ?_ | with_reducible refine x_notV ?_ | with_reducible refine x_chain ?_ | with_reducible refine x_un ?_ | with_reducible refine x_U ?_ | with_reducible refine x_mulL (by decide) ?_ | with_reducible refine x_mulR (by decide) ?_ | with_reducible refine x_isN ?_ | with_reducible refine x_notN ?_ | with_reducible refine x_sl ?_ | with_reducible refine x_noPart ?_ | with_reducible refine x_part ?_ | with_reducible refine x_int ?_ | with_reducible refine x_bm ?_ | with_reducible refine x_ipI ?_ | with_reducible refine x_next ?_ | with_reducible refine x_refN ?_ | with_reducible refine x_intN ?_ | with_reducible refine x_nonN ?_ | with_reducible refine x_refNN ?_ | with_reducible refine x_nonNN ?_ | with_reducible refine x_yes ?_ | with_reducible refine x_no ?_ | with_reducible refine x_gcons ?_ | with_reducible refine x_gnil ?_ | with_reducible refine x_lst ?_ | with_reducible refine x_tup ?_ | with_reducible refine x_dnewK ?_ | with_reducible refine x_for ?_ | with_reducible refine x_iList ?_ | with_reducible refine x_iTup ?_ | with_reducible refine x_iEnum ?_ | with_reducible refine x_iZip ?_ | with_reducible refine x_iRng3 ?_ | with_reducible refine x_lc ?_ | with_reducible refine x_dput ?_ | with_reducible refine x_dget ?_ | with_reducible refine x_din ?_ | with_reducible refine x_dpop ?_ | (with_reducible refine x_aug ?_; refine ⟨_, rfl, ?_⟩)))
/-! ### the smallest defs -/
theorem x_end {Q : VK} {v w : V} {H : Hp} (e : v = w) (q : Q w H) : Q v H := e ▸ q
section
variable {K : PySem.W.Frag}
theorem pure_natural_of (vs : List V) (H : Hp) (Q : VK) (E : XK) (h : sp_natural_of K vs H Q E) : t_natural_of K { nx := fun _ H' => Q .non H', rt := Q } (start ["number"] vs) H := by
  obtain ⟨n, rfl, q⟩ := h
  unfold t_natural_of
  tm_at "x"
  refine x_ite (fun c => ?_) fun c => ?_
  · tm_at "x"
    refine x_end ?_ q
    unfold Vbwsai.zigzagEncode
    rw [if_pos c]
    congr 1
    omega
  · tm_at "x"
    refine x_end ?_ q
    unfold Vbwsai.zigzagEncode
    rw [if_neg c]
    congr 1
    omega
theorem pure_integer_of (vs : List V) (H : Hp) (Q : VK) (E : XK) (h : sp_integer_of K vs H Q E) : t_integer_of K { nx := fun _ H' => Q .non H', rt := Q } (start ["natural"] vs) H := by
  obtain ⟨n, rfl, q⟩ := h
  unfold t_integer_of
  tm_at "x"
  refine x_modN 2 (by decide) ?_
  tm_at "x"
  refine x_ite (fun c => ?_) fun c => ?_
  · tm_at "x"
    refine x_fdivN 2 (by decide) ?_
    refine x_end ?_ q
    unfold Vbwsai.zigzagDecode
    rw [if_pos (by omega)]
  · tm_at "x"
    refine x_fdivN (n := n + 1) 2 (by decide) ?_
    tm_at "x"
    refine x_end ?_ q
    unfold Vbwsai.zigzagDecode
    rw [if_neg (by omega)]
    congr 1
    omega
theorem pure_two_bytes (vs : List V) (H : Hp) (Q : VK) (E : XK) (h : sp_two_bytes K vs H Q E) : t_two_bytes K { nx := fun _ H' => Q .non H', rt := Q } (start ["number"] vs) H := by
  obtain ⟨n, rfl, hn, q⟩ := h
  unfold t_two_bytes
  tm_at "x"
  refine x_fdivN 256 (by decide) ?_
  tm_at "x"
  refine x_modN 256 (by decide) ?_
  tm_at "x"
  refine ⟨sz (by simp), fun p hp => q _ p (Same.new hp) hp ?_⟩
  rw [twoBytes_eq hn]
  exact upd_same
theorem pure_integer_bytes (vs : List V) (H : Hp) (Q : VK) (E : XK) (h : sp_integer_bytes K vs H Q E) : t_integer_bytes K { nx := fun _ H' => Q .non H', rt := Q } (start ["number", "found", "left"] vs) H := by
  obtain ⟨n, rfl, hf, q⟩ := h
  unfold t_integer_bytes
  tm_at "x"
  refine ⟨sz (by simp), fun p hp => ?_⟩
  tm_at "x"
  refine ⟨n, rfl, ?_⟩
  tm_at "x"
  -- what is found and what is left
  refine while_by (fun σ H' => ∃ (l : List Nat) (m f : Nat), σ = [some (.int n), some (.ref p), some (.int (m : Int))] ∧ Same H H' ∧ H' p = some (.lst (nv l)) ∧ m < 128 ^ (f + 1) ∧ l.length + f + 1 ≤ 12 ∧ l ++ Vbwsai.base128Digits (f + 1) m = Vbwsai.encodeInteger n)
    (fun σ _ => match σ with | [_, _, some (.int m)] => m.toNat | _ => 0) ⟨[], Vbwsai.zigzagEncode n, 11, rfl, Same.new hp, upd_same, hf, by simp, rfl⟩ ?_ (fun σ H P P' hP h => ?_)
  · rintro σ H' ⟨l, m, f, rfl, hs, hl, hm, hlen, he⟩
    tm_at "x"
    refine x_ite (fun c => ?_) fun c => ?_
    · tm_at "x"
      refine x_tyL hl ?_
      tm_at "x"
      refine x_modN 128 (by decide) ?_
      tm_at "x"
      have c' : ¬ m < 128 := by omega
      have hf0 : f ≠ 0 := by
        intro z
        subst z
        exact c' hm
      obtain ⟨g, rfl⟩ : ∃ g, f = g + 1 := ⟨f - 1, by omega⟩
      refine x_append hl (szl (by rw [nv_len]; omega)) ?_
      tm_at "x"
      refine x_fdivN 128 (by decide) ?_
      tm_at "x"
      refine ⟨⟨l ++ [m % 128 + 128], m / 128, g, rfl, hs.mut hp, ?_, ?_, ?_, ?_⟩, ?_⟩
      · rw [← nv_app]
        exact upd_same
      · rw [Nat.div_lt_iff_lt_mul (by decide)]
        rw [Nat.pow_succ] at hm
        exact hm
      · rw [List.length_append]
        simp
        omega
      · rw [b128_ge c'] at he
        rw [List.append_assoc, Nat.add_comm (m % 128) 128]
        exact he
      · show ((m / 128 : Nat) : Int).toNat < ((m : Nat) : Int).toNat
        omega
    · tm_at "x"
      refine x_tyL hl ?_
      tm_at "x"
      have c' : m < 128 := by omega
      refine x_append hl (szl (by rw [nv_len]; omega)) ?_
      tm_at "x"
      refine q _ p (hs.mut hp) hp ?_
      rw [b128_lt c'] at he
      rw [← he, ← nv_app]
      exact upd_same
  · obtain ⟨v, hv, i, j, e1, e2, k, e3, z⟩ := h
    exact ⟨v, hv, i, j, e1, e2, k, e3, hP _ _ z⟩
end
end Ts
/-! ## TsEy -/
namespace Ts
open PySem PySem.Spec PyProof.Rows L2
/-! ### what is walked, once for all: n turns while S stands; at turn i an item of which It holds -/
structure Src (J : It) (S : Hp → Prop) (n : Nat) (Im : Nat → V → Hp → Prop) : Prop where
  go : ∀ i H, i < n → S H → J.go i H
  stop : ∀ H, S H → J.stop n H
  yld : ∀ i x H1 H2, i < n → S H1 → J.yld i H1 x H2 → Same H1 H2 ∧ Im i x H2
section
variable {K : PySem.W.Frag} {a b : Addr} {xs ys : List V}
theorem sq_inj {H : Hp} {zs : List V} (h : H a = some (.lst xs)) (hx : SqL K H a zs → False ∨ zs = xs) (q : SqL K H a zs) : zs = xs := (hx q).elim False.elim id
theorem src_list : Src (Itl K a) (fun H => H a = some (.lst xs)) xs.length (fun i x _ => xs[i]? = some x) where
  go := fun i H h e => ⟨xs, xs[i], .of e, List.getElem?_eq_getElem h⟩
  stop := fun H e => ⟨xs, .of e, Nat.le_refl _⟩
  yld := fun i x H1 H2 h e q => by
    obtain ⟨rfl, q⟩ := q
    exact ⟨Same.refl _, q xs (.of e)⟩
theorem src_tup : Src (Itt K a) (fun H => H a = some (.tup xs)) xs.length (fun i x _ => xs[i]? = some x) where
  go := fun i H h e => ⟨xs, xs[i], .of e, List.getElem?_eq_getElem h⟩
  stop := fun H e => ⟨xs, .of e, Nat.le_refl _⟩
  yld := fun i x H1 H2 h e q => by
    obtain ⟨rfl, q⟩ := q
    exact ⟨Same.refl _, q xs (.of e)⟩
theorem src_enum : Src (Ite K a) (fun H => H a = some (.lst xs)) xs.length (fun i x H => ∃ T y, x = .ref T ∧ H T = some (.tup [.int (i : Nat), y]) ∧ xs[i]? = some y) where
  go := fun i H h e => ⟨xs, xs[i], .of e, List.getElem?_eq_getElem h⟩
  stop := fun H e => ⟨xs, .of e, Nat.le_refl _⟩
  yld := fun i x H1 H2 h e q => by
    obtain ⟨T, y, rfl, hT, rfl, q⟩ := q
    exact ⟨Same.new hT, T, y, rfl, upd_same, q xs (.of e)⟩
theorem src_zip : Src (Itz K a b) (fun H => H a = some (.lst xs) ∧ H b = some (.lst ys)) (min xs.length ys.length) (fun i v H => ∃ T x y, v = .ref T ∧ H T = some (.tup [x, y]) ∧ xs[i]? = some x ∧ ys[i]? = some y) where
  go := fun i H h e => ⟨xs, ys, xs[i]'(by omega), ys[i]'(by omega), .of e.1, .of e.2, List.getElem?_eq_getElem (by omega), List.getElem?_eq_getElem (by omega)⟩
  stop := fun H e => ⟨xs, ys, .of e.1, .of e.2, by omega⟩
  yld := fun i v H1 H2 h e q => by
    obtain ⟨T, x, y, rfl, hT, rfl, q1, q2⟩ := q
    exact ⟨Same.new hT, T, x, y, rfl, upd_same, q1 xs (.of e.1), q2 ys (.of e.2)⟩
theorem src_rangeC {lo c : Int} {n : Nat} : Src (Itc lo c n) (fun _ => True) n (fun i x _ => x = .int (lo + (i : Nat) * c)) where
  go := fun i H h _ => h
  stop := fun H _ => Nat.le_refl _
  yld := fun i x H1 H2 h _ q => by
    obtain ⟨rfl, q⟩ := q
    exact ⟨Same.refl _, q⟩
end
/-! ### the for loop -/
def LoopP (J : It) (g : TG) (tb : TS) (D : Ends) (σ : L2.St) (H : Hp) : Prop := ∃ W : Nat → Nat → L2.St → Hp → Prop, (∃ m, W 0 m σ H) ∧ ∀ i m σ H, W i m σ H →
  (J.stop i H ∧ D.nx σ H) ∨ (J.go i H ∧ ∃ N : L2.St → Hp → Prop, (∀ σ' H', N σ' H' → ∃ m', m' < m ∧ W (i + 1) m' σ' H') ∧ ∀ x H', J.yld i H x H' → g x σ H' fun σ2 H2 => tb { D with nx := N, ct := N, bk := D.nx } σ2 H2)
section
variable {K : PySem.W.Frag} {D : Ends} {σ : L2.St} {H : Hp} {tb : TS} {te : TE} {g : TG} {wi : TI} {J : It} {S : Hp → Prop} {n : Nat} {Im : Nat → V → Hp → Prop} {R : It → Hp → Prop} {a b : Addr} {xs ys : List V}
theorem x_for (h : wi σ H fun J H1 => LoopP J g tb D σ H1) : tFor wi g tb D σ H := h
theorem x_iList (h : te σ H fun x H1 => ∃ a, x = .ref a ∧ (∃ xs, SqL K H1 a xs) ∧ R (Itl K a) H1) : iList K te σ H R := h
theorem x_iTup (h : te σ H fun x H1 => ∃ a, x = .ref a ∧ (∃ xs, SqT K H1 a xs) ∧ R (Itt K a) H1) : iTup K te σ H R := h
theorem x_iEnum {ta : TA} (h : ta σ H fun vs H1 => ∃ a xs, vs = [.ref a] ∧ SqL K H1 a xs ∧ R (Ite K a) H1) : iEnum K ta σ H R := h
theorem x_iZip {ta : TA} (h : ta σ H fun vs H1 => ∃ a b xs ys, vs = [.ref a, .ref b] ∧ SqL K H1 a xs ∧ SqL K H1 b ys ∧ R (Itz K a b) H1) : iZip K ta σ H R := h
theorem x_iRng3 {ta : TA} (h : ta σ H fun vs H1 => ∃ (i j c : Int) (n : Nat), vs = [.int i, .int j, .int c] ∧ RgC i j c n ∧ R (Itc i c n) H1) : iRng3 ta σ H R := h
theorem x_loop (src : Src J S n Im) (Pv : Nat → L2.St → Hp → Prop) (h0 : Pv 0 σ H) (hS : ∀ i σ H', Pv i σ H' → S H')
    (hs : ∀ i x σ' H1 H2, i < n → Pv i σ' H1 → Same H1 H2 → Im i x H2 → g x σ' H2 fun σ2 H3 => tb { D with nx := Pv (i + 1), ct := Pv (i + 1), bk := D.nx } σ2 H3) (hd : ∀ σ' H', Pv n σ' H' → D.nx σ' H') : LoopP J g tb D σ H := by
  refine ⟨fun i m σ' H' => Pv i σ' H' ∧ i + m = n, ⟨n, h0, by omega⟩, fun i m σ' H' ⟨hp, hm⟩ => ?_⟩
  cases m with
  | zero =>
    have e : i = n := by omega
    subst e
    exact .inl ⟨src.stop _ (hS _ _ _ hp), hd _ _ hp⟩
  | succ m =>
    refine .inr ⟨src.go i H' (by omega) (hS _ _ _ hp), Pv (i + 1), fun σ2 H2 q => ⟨m, by omega, q, by omega⟩, fun x H2 y => ?_⟩
    obtain ⟨y1, y2⟩ := src.yld i x H' H2 (by omega) (hS _ _ _ hp) y
    exact hs i x σ' H' H2 (by omega) hp y1 y2
theorem x_while {c : TT} (W : Nat → L2.St → Hp → Prop) (m0 : Nat) (h0 : W m0 σ H) (hs : ∀ m σ H, W m σ H → c σ H fun b H1 => if b = true then (∃ N : L2.St → Hp → Prop, (∀ σ' H', N σ' H' → ∃ m', m' < m ∧ W m' σ' H') ∧ tb { D with nx := N, ct := N, bk := D.nx } σ H1) else D.nx σ H1) : tWhile c tb D σ H :=
  ⟨W, ⟨m0, h0⟩, hs⟩
theorem x_body {W : Nat → L2.St → Hp → Prop} {m : Nat} (h : tb { D with nx := fun σ' H' => ∃ m', m' < m ∧ W m' σ' H', ct := fun σ' H' => ∃ m', m' < m ∧ W m' σ' H', bk := D.nx } σ H) :
    ∃ N : L2.St → Hp → Prop, (∀ σ' H', N σ' H' → ∃ m', m' < m ∧ W m' σ' H') ∧ tb { D with nx := N, ct := N, bk := D.nx } σ H := ⟨_, fun _ _ h => h, h⟩
/-! ### the comprehension -/
def CompP (J : It) (g : TG) (tt : TT) (te : TE) (vs : List Nat) (σ : L2.St) (H1 : Hp) (Q : VK) : Prop := ∀ D, H1 D = none → ∃ W : Nat → Nat → Hp → Prop, (∃ m, W 0 m (upd H1 D (.lst []))) ∧ ∀ i m H, W i m H →
  (J.stop i H ∧ Q (.ref D) H) ∨ (J.go i H ∧ ∃ Nx : Hp → Prop, (∀ H', Nx H' → ∃ m', m' < m ∧ W (i + 1) m' H') ∧ ∀ x H', J.yld i H x H' → g x (wipe σ vs) H' fun σ2 H2 => wipe σ2 vs = wipe σ vs ∧ tt σ2 H2 fun b H3 =>
    if b = true then te σ2 H3 fun y H4 => ∃ acc, H4 D = some (.lst acc) ∧ acc.length < sizeLine ∧ Nx (upd H4 D (.lst (acc ++ [y]))) else Nx H3)
theorem x_srcL (hx : H a = some (.lst xs)) (h : LoopP (Itl K a) g tb D σ H) : ∃ a', V.ref a = .ref a' ∧ (∃ zs, SqL K H a' zs) ∧ LoopP (Itl K a') g tb D σ H := ⟨a, rfl, ⟨_, .of hx⟩, h⟩
theorem x_srcLc {vs : List Nat} {tt : TT} {Q : VK} (hx : H a = some (.lst xs)) (h : CompP (Itl K a) g tt te vs σ H Q) : ∃ a', V.ref a = .ref a' ∧ (∃ zs, SqL K H a' zs) ∧ CompP (Itl K a') g tt te vs σ H Q := ⟨a, rfl, ⟨_, .of hx⟩, h⟩
theorem x_srcT (hx : H a = some (.tup xs)) (h : LoopP (Itt K a) g tb D σ H) : ∃ a', V.ref a = .ref a' ∧ (∃ zs, SqT K H a' zs) ∧ LoopP (Itt K a') g tb D σ H := ⟨a, rfl, ⟨_, .of hx⟩, h⟩
theorem x_srcTc {vs : List Nat} {tt : TT} {Q : VK} (hx : H a = some (.tup xs)) (h : CompP (Itt K a) g tt te vs σ H Q) : ∃ a', V.ref a = .ref a' ∧ (∃ zs, SqT K H a' zs) ∧ CompP (Itt K a') g tt te vs σ H Q := ⟨a, rfl, ⟨_, .of hx⟩, h⟩
theorem x_srcE (hx : H a = some (.lst xs)) (h : LoopP (Ite K a) g tb D σ H) : ∃ a' zs, [V.ref a] = [.ref a'] ∧ SqL K H a' zs ∧ LoopP (Ite K a') g tb D σ H := ⟨a, _, rfl, .of hx, h⟩
theorem x_srcEc {vs : List Nat} {tt : TT} {Q : VK} (hx : H a = some (.lst xs)) (h : CompP (Ite K a) g tt te vs σ H Q) : ∃ a' zs, [V.ref a] = [.ref a'] ∧ SqL K H a' zs ∧ CompP (Ite K a') g tt te vs σ H Q := ⟨a, _, rfl, .of hx, h⟩
theorem x_srcZ (hx : H a = some (.lst xs)) (hy : H b = some (.lst ys)) (h : LoopP (Itz K a b) g tb D σ H) : ∃ a' b' zs ws, [V.ref a, V.ref b] = [.ref a', .ref b'] ∧ SqL K H a' zs ∧ SqL K H b' ws ∧ LoopP (Itz K a' b') g tb D σ H := ⟨a, b, _, _, rfl, .of hx, .of hy, h⟩
theorem x_srcZc {vs : List Nat} {tt : TT} {Q : VK} (hx : H a = some (.lst xs)) (hy : H b = some (.lst ys)) (h : CompP (Itz K a b) g tt te vs σ H Q) : ∃ a' b' zs ws, [V.ref a, V.ref b] = [.ref a', .ref b'] ∧ SqL K H a' zs ∧ SqL K H b' ws ∧ CompP (Itz K a' b') g tt te vs σ H Q := ⟨a, b, _, _, rfl, .of hx, .of hy, h⟩
theorem x_srcR {i j c : Int} (n : Nat) (hn : RgC i j c n) (h : LoopP (Itc i c n) g tb D σ H) : ∃ (i' j' c' : Int) (n : Nat), [V.int i, V.int j, V.int c] = [.int i', .int j', .int c'] ∧ RgC i' j' c' n ∧ LoopP (Itc i' c' n) g tb D σ H := ⟨i, j, c, n, rfl, hn, h⟩
theorem x_srcRc {vs : List Nat} {tt : TT} {Q : VK} {i j c : Int} (n : Nat) (hn : RgC i j c n) (h : CompP (Itc i c n) g tt te vs σ H Q) : ∃ (i' j' c' : Int) (n : Nat), [V.int i, V.int j, V.int c] = [.int i', .int j', .int c'] ∧ RgC i' j' c' n ∧ CompP (Itc i' c' n) g tt te vs σ H Q := ⟨i, j, c, n, rfl, hn, h⟩
theorem x_lc {vs : List Nat} {tt : TT} {Q : VK} (h : wi σ H fun J H1 => CompP J g tt te vs σ H1 Q) : tLc wi g tt te vs σ H Q := h
theorem tYes_eq {σ : L2.St} {H : Hp} {A B : Hp → Prop} : (tYes σ H fun b H3 => if b = true then A H3 else B H3) = A H := by
  unfold tYes
  exact if_pos rfl
/-- at turn i the element y is such that P i y; P leans on no object that changes -/
theorem x_comp {vs : List Nat} {Q : VK} (src : Src J S n Im) (P : Nat → V → Hp → Addr → Prop) (hn : n < 16777216) (hS : ∀ H', Same H H' → S H')
    (mono : ∀ i y H1 H2 D, (∀ b o, H1 b = some o → b ≠ D → H2 b = some o) → P i y H1 D → P i y H2 D)
    (hs : ∀ D i x H1 (N : VK), i < n → H D = none → (∃ acc, H1 D = some (.lst acc)) → Same H H1 → Im i x H1 → (∀ y H3, Same H1 H3 → P i y H3 D → N y H3) → g x (wipe σ vs) H1 fun σ2 H2 => wipe σ2 vs = wipe σ vs ∧ te σ2 H2 N)
    (hd : ∀ H' D ys, Same H H' → H D = none → H' D = some (.lst ys) → ys.length = n → (∀ i y, ys[i]? = some y → P i y H' D) → Q (.ref D) H') : CompP J g tYes te vs σ H Q := by
  intro D hD
  refine ⟨fun i m H' => Same H H' ∧ i + m = n ∧ ∃ ys, H' D = some (.lst ys) ∧ ys.length = i ∧ ∀ j y, ys[j]? = some y → P j y H' D, ⟨n, Same.new hD, by omega, [], upd_same, rfl, fun j y e => by simp at e⟩, fun i m H' ⟨h1, h2, ys, h3, h4, h5⟩ => ?_⟩
  cases m with
  | zero =>
    have e : i = n := by omega
    subst e
    exact .inl ⟨src.stop _ (hS _ h1), hd H' D ys h1 hD h3 h4 h5⟩
  | succ m =>
    refine .inr ⟨src.go i H' (by omega) (hS _ h1), fun H3 => Same H H3 ∧ i + 1 + m = n ∧ ∃ ys, H3 D = some (.lst ys) ∧ ys.length = i + 1 ∧ ∀ j y, ys[j]? = some y → P j y H3 D, fun H3 q => ⟨m, by omega, q⟩, fun x H2 y => ?_⟩
    obtain ⟨y1, y2⟩ := src.yld i x H' H2 (by omega) (hS _ h1) y
    have s2 : Same H H2 := h1.trans y1
    have z := hs D i x H2 (fun y H4 => ∃ acc, H4 D = some (.lst acc) ∧ acc.length < sizeLine ∧ (Same H (upd H4 D (.lst (acc ++ [y]))) ∧ i + 1 + m = n ∧ ∃ ys, (upd H4 D (.lst (acc ++ [y]))) D = some (.lst ys) ∧ ys.length = i + 1 ∧ ∀ j z, ys[j]? = some z → P j z (upd H4 D (.lst (acc ++ [y]))) D))
      (by omega) hD ⟨ys, y1 _ _ h3⟩ s2 y2 fun y H4 s4 hp => ?_
    · have e : (fun σ2 H2 => wipe σ2 vs = wipe σ vs ∧ tYes σ2 H2 fun b H3 => if b = true then te σ2 H3 fun y H4 => ∃ acc, H4 D = some (.lst acc) ∧ acc.length < sizeLine ∧
          (fun H3 => Same H H3 ∧ i + 1 + m = n ∧ ∃ ys, H3 D = some (.lst ys) ∧ ys.length = i + 1 ∧ ∀ j y, ys[j]? = some y → P j y H3 D) (upd H4 D (.lst (acc ++ [y]))) else
          (fun H3 => Same H H3 ∧ i + 1 + m = n ∧ ∃ ys, H3 D = some (.lst ys) ∧ ys.length = i + 1 ∧ ∀ j y, ys[j]? = some y → P j y H3 D) H3) =
        fun σ2 H2 => wipe σ2 vs = wipe σ vs ∧ te σ2 H2 (fun y H4 => ∃ acc, H4 D = some (.lst acc) ∧ acc.length < sizeLine ∧ (Same H (upd H4 D (.lst (acc ++ [y]))) ∧ i + 1 + m = n ∧ ∃ ys, (upd H4 D (.lst (acc ++ [y]))) D = some (.lst ys) ∧ ys.length = i + 1 ∧ ∀ j z, ys[j]? = some z → P j z (upd H4 D (.lst (acc ++ [y]))) D)) := by
        funext σ2 H2
        exact congrArg (And _) tYes_eq
      exact e ▸ z
    · refine ⟨ys, s4 _ _ (y1 _ _ h3), szl (by omega), (s2.trans s4).mut hD, by omega, ys ++ [y], upd_same, by simp [h4], fun j z ej => ?_⟩
      have keep : ∀ b o, H4 b = some o → b ≠ D → upd H4 D (.lst (ys ++ [y])) b = some o := fun b o e hb => by rw [upd_ne hb]; exact e
      by_cases c : j < ys.length
      · rw [List.getElem?_append_left c] at ej
        exact mono _ _ _ _ _ (fun b o e hb => keep b o (s4 _ _ (y1 _ _ e)) hb) (h5 j z ej)
      · rw [List.getElem?_append_right (by omega)] at ej
        have e0 : j - ys.length = 0 := by
          cases q : j - ys.length with
          | zero => rfl
          | succ k => rw [q] at ej; simp at ej
        rw [e0] at ej
        have e1 : y = z := by simpa using ej
        subst e1
        have e2 : j = i := by omega
        subst e2
        exact mono _ _ _ _ _ keep hp
/-- the same where each element is told by its place -/
theorem x_compV {vs : List Nat} {Q : VK} (src : Src J S n Im) (f : Nat → V) (hn : n < 16777216) (hS : ∀ H', Same H H' → S H')
    (hs : ∀ i x H1 (N : VK), i < n → Same H H1 → Im i x H1 → (∀ H3, Same H1 H3 → N (f i) H3) → g x (wipe σ vs) H1 fun σ2 H2 => wipe σ2 vs = wipe σ vs ∧ te σ2 H2 N)
    (hd : ∀ H' D, Same H H' → H D = none → H' D = some (.lst ((List.range n).map f)) → Q (.ref D) H') : CompP J g tYes te vs σ H Q := by
  refine x_comp src (fun i y _ _ => y = f i) hn hS (fun _ _ _ _ _ _ h => h) (fun D i x H1 N h1 _ _ h2 h3 h4 => hs i x H1 N h1 h2 h3 fun H3 s => h4 _ _ s rfl) fun H' D ys h1 h2 h3 h4 h5 => hd H' D h1 h2 ?_
  have e : ys = (List.range n).map f := by
    apply List.ext_getElem?
    intro i
    rw [List.getElem?_map]
    by_cases c : i < n
    · rw [List.getElem?_range c]
      have c2 : i < ys.length := by omega
      rw [List.getElem?_eq_getElem c2]
      exact congrArg some (h5 i _ (List.getElem?_eq_getElem c2))
    · rw [List.getElem?_eq_none (by omega), List.getElem?_eq_none (by simp; omega)]
      rfl
  rw [← e]
  exact h3
end
end Ts
/-! ## TsC -/
namespace Ts
open Vbwsai
/-! ### frames -/
theorem drop_at {α : Type} {b : List α} {i : Nat} {x : α} {r : List α} (h : b.drop i = x :: r) : b[i]? = some x ∧ b.drop (i + 1) = r ∧ i < b.length := by
  have hl : i < b.length := by
    have e := congrArg List.length h
    rw [List.length_drop, List.length_cons] at e
    omega
  rw [List.drop_eq_getElem_cons hl] at h
  obtain ⟨h1, h2⟩ := List.cons.inj h
  exact ⟨by rw [List.getElem?_eq_getElem hl, h1], h2, hl⟩
theorem frameAt_short {b : Bytes} {i : Nat} (h : b.length < i + 7) : frameAt b i = none := by
  have hl : (b.drop i).length < 7 := by rw [List.length_drop]; omega
  unfold frameAt
  rw [Option.map_eq_none_iff]
  generalize b.drop i = D at hl
  match D, hl with
  | [], _ => rfl
  | [_], _ => rfl
  | [_, _], _ => rfl
  | [_, _, _], _ => rfl
  | x :: y :: c :: d :: r, hl =>
    show (if twoBytes (checksum [x, y]) ≠ [c, d] then none else _) = none
    by_cases c1 : twoBytes (checksum [x, y]) ≠ [c, d]
    · rw [if_pos c1]
    · rw [if_neg c1]
      show (if (r.take (256 * x + y)).length < 256 * x + y then none else _) = none
      by_cases c2 : (r.take (256 * x + y)).length < 256 * x + y
      · rw [if_pos c2]
      · rw [if_neg c2]
        have hr : (r.drop (256 * x + y)).length < 3 := by
          rw [List.length_drop]
          simp at hl
          omega
        generalize r.drop (256 * x + y) = E at hr
        match E, hr with
        | [], _ => rfl
        | [_], _ => rfl
        | [_, _], _ => rfl
theorem frameAt_long {b : Bytes} {i x y : Nat} (h : i + 7 ≤ b.length) (hx : b[i]? = some x) (hy : b[i + 1]? = some y) (hb : ∀ z ∈ b, z < 256) :
    frameAt b i = if b.length < i + 7 + (x * 256 + y) then none else if (b.drop (i + 2)).take 2 ≠ twoBytes (checksum [x, y]) then none else
      if (b.drop (i + 4 + (x * 256 + y))).take 2 ≠ twoBytes (checksum ((b.drop (i + 4)).take (x * 256 + y))) ∨ b[i + 6 + (x * 256 + y)]? ≠ some 165 then none else
        (decoded ((b.drop (i + 4)).take (x * 256 + y))).map fun l => (l, i + 7 + (x * 256 + y)) := by
  have hl : (b.drop i).length = b.length - i := List.length_drop
  unfold frameAt
  generalize hD : b.drop i = D at hl
  match D, hl, hD with
  | [], hl, _ => simp at hl; omega
  | [_], hl, _ => simp at hl; omega
  | [_, _], hl, _ => simp at hl; omega
  | [_, _, _], hl, _ => simp at hl; omega
  | x' :: y' :: c :: d :: r, hl, hD =>
    obtain ⟨a1, a2, a3⟩ := drop_at hD
    obtain ⟨b1, b2, b3⟩ := drop_at a2
    obtain ⟨c1, c2, c3⟩ := drop_at b2
    obtain ⟨d1, d2, d3⟩ := drop_at c2
    have ex : x' = x := Option.some.inj (a1.symm.trans hx)
    have ey : y' = y := Option.some.inj (b1.symm.trans hy)
    subst ex ey
    have e2 : b.drop (i + 2) = c :: d :: r := b2
    have e4 : b.drop (i + 4) = r := d2
    have hn : 256 * x' + y' = x' * 256 + y' := by omega
    have hrl : r.length = b.length - (i + 4) := by rw [← e4, List.length_drop]
    have e5 : b.drop (i + 4 + (x' * 256 + y')) = r.drop (x' * 256 + y') := by rw [← e4, List.drop_drop]
    have hpb : ∀ z ∈ r.take (x' * 256 + y'), z < 256 := fun z hz => hb z (List.mem_of_mem_drop (e4 ▸ List.mem_of_mem_take hz))
    rw [e2, e4, e5]
    show Option.map _ (if twoBytes (checksum [x', y']) ≠ [c, d] then none else _) = _
    rw [hn]
    have t2 : (c :: d :: r).take 2 = [c, d] := rfl
    rw [t2]
    by_cases k1 : twoBytes (checksum [x', y']) ≠ [c, d]
    · rw [if_pos k1]
      have k1' : [c, d] ≠ twoBytes (checksum [x', y']) := fun z => k1 z.symm
      rw [if_pos k1']
      split <;> rfl
    · rw [if_neg k1]
      have k1' : ¬ [c, d] ≠ twoBytes (checksum [x', y']) := fun z => k1 fun q => z q.symm
      rw [if_neg k1']
      show Option.map _ (if (r.take (x' * 256 + y')).length < x' * 256 + y' then none else _) = _
      by_cases k2 : b.length < i + 7 + (x' * 256 + y')
      · rw [if_pos k2]
        by_cases k3 : (r.take (x' * 256 + y')).length < x' * 256 + y'
        · rw [if_pos k3]; rfl
        · rw [if_neg k3]
          have hr : (r.drop (x' * 256 + y')).length < 3 := by
            rw [List.length_drop]
            omega
          generalize r.drop (x' * 256 + y') = E at hr
          match E, hr with
          | [], _ => rfl
          | [_], _ => rfl
          | [_, _], _ => rfl
      · rw [if_neg k2]
        have k3 : ¬ (r.take (x' * 256 + y')).length < x' * 256 + y' := by
          rw [List.length_take]
          omega
        rw [if_neg k3]
        have hr : 3 ≤ (r.drop (x' * 256 + y')).length := by
          rw [List.length_drop]
          omega
        have hend : b[i + 6 + (x' * 256 + y')]? = (r.drop (x' * 256 + y'))[2]? := by
          rw [← e5, List.getElem?_drop]
          congr 1
          omega
        have hlen : (r.drop (x' * 256 + y')).length = b.length - (i + 4 + (x' * 256 + y')) := by rw [← e5, List.length_drop]
        rw [hend]
        generalize r.drop (x' * 256 + y') = E at hr hlen
        match E, hr, hlen with
        | [], hr, _ => simp at hr
        | [_], hr, _ => simp at hr
        | [_, _], hr, _ => simp at hr
        | u :: v :: w :: q, _, hlen =>
          show Option.map _ (if twoBytes (checksum (r.take (x' * 256 + y'))) ≠ [u, v] ∨ w ≠ endByte then none else _) = _
          have t3 : (u :: v :: w :: q).take 2 = [u, v] := rfl
          have t4 : (u :: v :: w :: q)[2]? = some w := rfl
          rw [t3, t4]
          by_cases k4 : twoBytes (checksum (r.take (x' * 256 + y'))) ≠ [u, v] ∨ w ≠ endByte
          · rw [if_pos k4]
            have k4' : [u, v] ≠ twoBytes (checksum (r.take (x' * 256 + y'))) ∨ some w ≠ some 165 := by
              rcases k4 with k | k
              · exact .inl fun z => k z.symm
              · exact .inr fun z => k (Option.some.inj z)
            rw [if_pos k4']
            rfl
          · rw [if_neg k4]
            have k4' : ¬ ([u, v] ≠ twoBytes (checksum (r.take (x' * 256 + y'))) ∨ some w ≠ some 165) := by
              intro z
              apply k4
              rcases z with k | k
              · exact .inl fun q => k q.symm
              · exact .inr fun q => k (congrArg some q)
            rw [if_neg k4', decodeRow_eq _ _ (Nat.le_refl _) hpb, Option.map_map]
            congr 1
            funext l
            simp at hlen
            simp
            omega
theorem frameAt_end {b : Bytes} {i : Nat} {f : List Int × Nat} (hb : ∀ z ∈ b, z < 256) (h : frameAt b i = some f) : i + 7 ≤ f.2 ∧ f.2 ≤ b.length ∧ decodeFrame (b.drop i) = some (f.1, b.drop f.2) := by
  by_cases hs : b.length < i + 7
  · rw [frameAt_short hs] at h
    cases h
  · have h0 : i < b.length := by omega
    have h1 : i + 1 < b.length := by omega
    have e := frameAt_long (i := i) (x := b[i]) (y := b[i + 1]) (by omega) (List.getElem?_eq_getElem h0) (List.getElem?_eq_getElem h1) hb
    rw [h] at e
    have f2 : f.2 = i + 7 + (b[i] * 256 + b[i + 1]) ∧ ¬ b.length < i + 7 + (b[i] * 256 + b[i + 1]) := by
      split at e
      · cases e
      · rename_i c
        refine ⟨?_, c⟩
        split at e
        · cases e
        · split at e
          · cases e
          · obtain ⟨l, _, q⟩ := Option.map_eq_some_iff.mp e.symm
            rw [← q]
    refine ⟨by omega, by omega, ?_⟩
    unfold frameAt at h
    obtain ⟨x, hx, hq⟩ := Option.map_eq_some_iff.mp h
    rw [hx]
    have hsuf : ∀ (D : Bytes) (l : List Int) (r : Bytes), decodeFrame D = some (l, r) → ∃ n, r = D.drop n ∧ r.length + n = D.length := by
      intro D l r hd
      match D, hd with
      | [], hd => cases hd
      | [_], hd => cases hd
      | [_, _], hd => cases hd
      | [_, _, _], hd => cases hd
      | x :: y :: c :: d :: t, hd =>
        have hd2 : (if twoBytes (checksum [x, y]) ≠ [c, d] then none else if (t.take (256 * x + y)).length < 256 * x + y then none else match t.drop (256 * x + y) with
          | u :: v :: e :: q => if twoBytes (checksum (t.take (256 * x + y))) ≠ [u, v] ∨ e ≠ endByte then none else (decodeRow (t.take (256 * x + y)).length (t.take (256 * x + y))).map fun l => (l, q)
          | _ => none) = some (l, r) := hd
        split at hd2
        · cases hd2
        · split at hd2
          · cases hd2
          · split at hd2
            · rename_i u v e q hE
              split at hd2
              · cases hd2
              · obtain ⟨l', _, q2⟩ := Option.map_eq_some_iff.mp hd2
                have e3 : q = r := (Prod.mk.inj q2).2
                subst e3
                refine ⟨4 + (256 * x + y) + 3, ?_, ?_⟩
                · have : (x :: y :: c :: d :: t).drop (4 + (256 * x + y) + 3) = (t.drop (256 * x + y)).drop 3 := by
                    rw [List.drop_drop]
                    rw [show 4 + (256 * x + y) + 3 = (256 * x + y + 3) + 4 from by omega]
                    rfl
                  rw [this, hE]
                  rfl
                · have z := congrArg List.length hE
                  rw [List.length_drop] at z
                  simp at z ⊢
                  omega
            · cases hd2
    obtain ⟨l, r⟩ := x
    obtain ⟨n, hn, hn2⟩ := hsuf _ _ _ hx
    have q1 : f.1 = l := by rw [← hq]
    have q2 : f.2 = b.length - r.length := by rw [← hq]
    rw [q1]
    congr 2
    rw [hn, List.drop_drop]
    congr 1
    rw [List.length_drop] at hn2
    omega
end Ts
/-! ## TsF -/
namespace Ts
open Vbwsai
/-! ### chunks -/
theorem chunks_nil {n : Nat} (hn : 0 < n) : chunks n [] = [] := by
  unfold chunks
  have e : (([] : List Int).length + n - 1) / n = 0 := by
    rw [List.length_nil]
    exact Nat.div_eq_of_lt (by omega)
  rw [e]
  rfl
theorem chunks_cons {n : Nat} {l : List Int} (hn : 0 < n) (hl : l ≠ []) : chunks n l = l.take n :: chunks n (l.drop n) := by
  have h0 : 0 < l.length := List.length_pos_iff.mpr hl
  have e : (l.length + n - 1) / n = ((l.drop n).length + n - 1) / n + 1 := by
    rw [List.length_drop]
    by_cases c : n ≤ l.length
    · rw [show l.length + n - 1 = (l.length - n + n - 1) + n from by omega, Nat.add_div_right _ hn]
    · rw [show l.length - n + n - 1 = n - 1 from by omega, Nat.div_eq_of_lt (show n - 1 < n by omega), show l.length + n - 1 = (l.length - 1) + n from by omega, Nat.add_div_right _ hn, Nat.div_eq_of_lt (show l.length - 1 < n by omega)]
  unfold chunks
  rw [e, List.range_succ_eq_map, List.map_cons, List.map_map]
  simp only [Nat.mul_zero, List.drop_zero]
  congr 1
  apply List.map_congr_left
  intro i _
  show (l.drop (n * (i + 1))).take n = ((l.drop n).drop (n * i)).take n
  rw [List.drop_drop]
  congr 2
  rw [Nat.mul_add, Nat.mul_one]
  omega
theorem chunks3 (a b c : Int) (r : List Int) : chunks 3 (a :: b :: c :: r) = [a, b, c] :: chunks 3 r := by
  rw [chunks_cons (by decide) (by simp)]
  rfl
theorem chunks2 (a b : Int) (r : List Int) : chunks 2 (a :: b :: r) = [a, b] :: chunks 2 r := by
  rw [chunks_cons (by decide) (by simp)]
  rfl
theorem chunks_len {n : Nat} (hn : 0 < n) (l : List Int) : (chunks n l).length ≤ l.length := by
  unfold chunks
  rw [List.length_map, List.length_range]
  by_cases h : l.length = 0
  · rw [h, Nat.div_eq_of_lt (by omega)]
    exact Nat.le_refl _
  · have h1 : l.length + n - 1 ≤ n * l.length := by
      cases n with
      | zero => omega
      | succ k =>
        rw [Nat.succ_mul]
        have := Nat.le_mul_of_pos_right k (show 0 < l.length by omega)
        omega
    exact Nat.div_le_of_le_mul h1
theorem three_ind {P : List Int → Prop} (h0 : P []) (h1 : ∀ a, P [a]) (h2 : ∀ a b, P [a, b]) (h3 : ∀ a b c r, P r → P (a :: b :: c :: r)) : ∀ l, P l
  | [] => h0
  | [a] => h1 a
  | [a, b] => h2 a b
  | a :: b :: c :: r => h3 a b c r (three_ind h0 h1 h2 h3 r)
theorem two_ind {P : List Int → Prop} (h0 : P []) (h1 : ∀ a, P [a]) (h2 : ∀ a b r, P r → P (a :: b :: r)) : ∀ l, P l
  | [] => h0
  | [a] => h1 a
  | a :: b :: r => h2 a b r (two_ind h0 h1 h2 r)
theorem isChange_iff (k f v : Int) : isChange k f v = true ↔ ¬ (k < 0 ∨ (keyCount : Int) ≤ k ∨ (f ≠ 0 ∧ f ≠ 1) ∨ v < -maxValue ∨ maxValue < v) := by
  unfold isChange isEntry keyCount maxValue
  simp only [Bool.and_eq_true, Bool.or_eq_true, decide_eq_true_eq]
  omega
def okC : List Int → Bool
  | [k, f, v] => isChange k f v
  | _ => false
theorem parse_cons (k f v : Int) (r : List Int) : parseChanges (k :: f :: v :: r) = if isChange k f v = true then (parseChanges r).map (fun l => (k.toNat, if f = 1 then some v else none) :: l) else none := by
  show (if k < 0 ∨ (keyCount : Int) ≤ k ∨ (f ≠ 0 ∧ f ≠ 1) ∨ v < -maxValue ∨ maxValue < v then none else _) = _
  by_cases c : isChange k f v = true
  · rw [if_pos c, if_neg ((isChange_iff k f v).mp c)]
  · rw [if_neg c, if_pos]
    exact Decidable.not_not.mp fun z => c ((isChange_iff k f v).mpr z)
theorem parse_isSome : ∀ l, (parseChanges l).isSome = (decide (l.length % 3 = 0) && (chunks 3 l).all okC) := by
  apply three_ind
  · rw [chunks_nil (by decide)]
    rfl
  · intro a
    rfl
  · intro a b
    rfl
  · intro a b c r ih
    rw [parse_cons, chunks3, List.all_cons]
    have e : decide ((a :: b :: c :: r).length % 3 = 0) = decide (r.length % 3 = 0) := decide_eq_decide.mpr (by simp only [List.length_cons]; omega)
    rw [e]
    show _ = (decide (r.length % 3 = 0) && (isChange a b c && (chunks 3 r).all okC))
    by_cases k : isChange a b c = true
    · rw [if_pos k, k, Bool.true_and, ← ih]
      cases parseChanges r <;> rfl
    · have k' : isChange a b c = false := by simpa using k
      rw [if_neg k, k']
      simp
theorem chunk_three : ∀ l, l.length % 3 = 0 → ∀ c ∈ chunks 3 l, ∃ k f v, c = [k, f, v] := by
  apply three_ind
  · intro _ c hc
    rw [chunks_nil (by decide)] at hc
    cases hc
  · intro a h
    simp at h
  · intro a b h
    simp at h
  · intro a b c r ih h x hx
    rw [chunks3] at hx
    rcases List.mem_cons.mp hx with e | e
    · exact ⟨a, b, c, e⟩
    · exact ih (by simp only [List.length_cons] at h; omega) x e
/-- what a chunk of three tells as a change -/
def ChgOf (c : List Int) (x : Change) : Prop := ∃ k f v, c = [k, f, v] ∧ isChange k f v = true ∧ x = (k.toNat, if f = 1 then some v else none)
theorem parse_at : ∀ (l : List Int) (cs : List Change), parseChanges l = some cs → (chunks 3 l).length = cs.length ∧ ∀ (i : Nat) (c : List Int) (x : Change), (chunks 3 l)[i]? = some c → cs[i]? = some x → ChgOf c x := by
  apply three_ind
  · intro cs h
    have e : cs = [] := (Option.some.inj h).symm
    subst e
    rw [chunks_nil (by decide)]
    exact ⟨rfl, fun i c x h => by simp at h⟩
  · intro a cs h
    cases h
  · intro a b cs h
    cases h
  · intro a b c r ih cs h
    rw [parse_cons] at h
    by_cases k : isChange a b c = true
    · rw [if_pos k] at h
      obtain ⟨l, h1, h2⟩ := Option.map_eq_some_iff.mp h
      subst h2
      obtain ⟨i1, i2⟩ := ih l h1
      rw [chunks3]
      refine ⟨by simp [i1], fun i x y e1 e2 => ?_⟩
      cases i with
      | zero =>
        have q1 := Option.some.inj e1
        have q2 := Option.some.inj e2
        subst q1 q2
        exact ⟨a, b, c, rfl, k, rfl⟩
      | succ i => exact i2 i x y e1 e2
    · rw [if_neg k] at h
      cases h
theorem chg_of {c : List Int} {x : Change} (h : ChgOf c x) : ∃ k f v, c = [k, f, v] ∧ isChange k f v = true ∧ 0 ≤ k ∧ (f = 0 ∨ f = 1) ∧ -maxValue ≤ v ∧ v ≤ maxValue ∧ chg x = [k, f, v * f] ∧ x.1 = k.toNat ∧ x.2 = (if f = 1 then some v else none) ∧ k.toNat < 64 := by
  obtain ⟨k, f, v, rfl, h, rfl⟩ := h
  have z := (isChange_iff k f v).mp h
  have e : (keyCount : Int) = 64 := rfl
  rw [e] at z
  have h0 : 0 ≤ k := by omega
  have hf : f = 0 ∨ f = 1 := by omega
  refine ⟨k, f, v, rfl, h, h0, hf, by omega, by omega, ?_, rfl, rfl, by omega⟩
  have ek : ((k.toNat : Nat) : Int) = k := Int.toNat_of_nonneg h0
  rcases hf with rfl | rfl
  · simp [chg, ek]
  · simp [chg, ek]
theorem tickRow_eq (t : Nat) (cs : List Change) : tickRow t cs = (t : Int) :: cs.flatMap chg := by
  unfold tickRow
  congr 1
theorem tick_isSome (l : List Int) : (parseTickRow l).isSome = (decide (l ≠ []) && (decide (1 ≤ l.headD 0) && (parseChanges l.tail).isSome)) := by
  cases l with
  | nil => rfl
  | cons t r =>
    show (if t < 1 then none else _ : Option (Nat × List Change)).isSome = _
    by_cases c : t < 1
    · rw [if_pos c]
      have : ¬ 1 ≤ t := by omega
      simp [this]
    · rw [if_neg c]
      have : 1 ≤ t := by omega
      simp [this]
/-! ### contents -/
theorem insert_lt {k : Nat} {v : Int} {x : Nat × Int} {r : Store} (h : k < x.1) : insertKey k v (x :: r) = (k, v) :: x :: r := if_pos h
theorem insert_eq {k : Nat} {v : Int} {x : Nat × Int} {r : Store} (h : k = x.1) : insertKey k v (x :: r) = (k, v) :: r := by
  show (if k < x.1 then _ else if k = x.1 then _ else _) = _
  rw [if_neg (by omega), if_pos h]
theorem insert_gt {k : Nat} {v : Int} {x : Nat × Int} {r : Store} (h : x.1 < k) : insertKey k v (x :: r) = x :: insertKey k v r := by
  show (if k < x.1 then _ else if k = x.1 then _ else _) = _
  rw [if_neg (by omega), if_neg (by omega)]
theorem insert_mem {k : Nat} {v : Int} : ∀ {s : Store} {y : Nat × Int}, y ∈ insertKey k v s → y = (k, v) ∨ y ∈ s
  | [], y, h => by
    have e : y = (k, v) := by simpa [insertKey] using h
    exact .inl e
  | x :: r, y, h => by
    rcases Nat.lt_trichotomy k x.1 with c | c | c
    · rw [insert_lt c] at h
      rcases List.mem_cons.mp h with e | e
      · exact .inl e
      · exact .inr e
    · rw [insert_eq c] at h
      rcases List.mem_cons.mp h with e | e
      · exact .inl e
      · exact .inr (List.mem_cons_of_mem _ e)
    · rw [insert_gt c] at h
      rcases List.mem_cons.mp h with e | e
      · exact .inr (e ▸ List.mem_cons_self)
      · rcases insert_mem e with q | q
        · exact .inl q
        · exact .inr (List.mem_cons_of_mem _ q)
theorem insert_up {k : Nat} {v : Int} : ∀ {s : Store}, s.Pairwise (fun x y => x.1 < y.1) → (insertKey k v s).Pairwise (fun x y => x.1 < y.1)
  | [], _ => by simp [insertKey]
  | x :: r, h => by
    obtain ⟨h1, h2⟩ := List.pairwise_cons.mp h
    rcases Nat.lt_trichotomy k x.1 with c | c | c
    · rw [insert_lt c]
      refine List.pairwise_cons.mpr ⟨fun y hy => ?_, h⟩
      rcases List.mem_cons.mp hy with e | e
      · rw [e]; exact c
      · exact Nat.lt_trans c (h1 y e)
    · rw [insert_eq c]
      refine List.pairwise_cons.mpr ⟨fun y hy => ?_, h2⟩
      show k < y.1
      rw [c]
      exact h1 y hy
    · rw [insert_gt c]
      refine List.pairwise_cons.mpr ⟨fun y hy => ?_, insert_up h2⟩
      rcases insert_mem hy with e | e
      · rw [e]; exact c
      · exact h1 y e
theorem insert_perm {k : Nat} {v : Int} : ∀ {s : Store}, (∀ x ∈ s, x.1 ≠ k) → (insertKey k v s).Perm (s ++ [(k, v)])
  | [], _ => List.Perm.refl _
  | x :: r, h => by
    rcases Nat.lt_trichotomy k x.1 with c | c | c
    · rw [insert_lt c]
      exact (List.perm_append_comm (l₁ := [(k, v)]) (l₂ := x :: r))
    · exact absurd c.symm (h x List.mem_cons_self)
    · rw [insert_gt c]
      exact (insert_perm fun y hy => h y (List.mem_cons_of_mem _ hy)).cons x
theorem insert_map {k : Nat} {v : Int} : ∀ {s : Store}, s.Pairwise (fun x y => x.1 < y.1) → (∃ x ∈ s, x.1 = k) → insertKey k v s = s.map fun x => if x.1 = k then (x.1, v) else x
  | [], _, h => by obtain ⟨x, hx, _⟩ := h; cases hx
  | x :: r, hp, h => by
    obtain ⟨h1, h2⟩ := List.pairwise_cons.mp hp
    rcases Nat.lt_trichotomy k x.1 with c | c | c
    · obtain ⟨y, hy, e⟩ := h
      rcases List.mem_cons.mp hy with q | q
      · rw [q] at e; omega
      · have := h1 y q; omega
    · have e : (r.map fun x => if x.1 = k then (x.1, v) else x) = r := by
        conv => rhs; rw [← List.map_id r]
        exact List.map_congr_left fun y hy => if_neg (by have := h1 y hy; omega)
      rw [insert_eq c, List.map_cons, if_pos c.symm, e, c]
    · rw [insert_gt c, List.map_cons, if_neg (by omega)]
      congr 1
      refine insert_map h2 ?_
      obtain ⟨y, hy, e⟩ := h
      rcases List.mem_cons.mp hy with q | q
      · rw [q] at e; omega
      · exact ⟨y, q, e⟩
theorem ent_nil : Ent [] := ⟨.nil, fun x h => by cases h⟩
theorem ent_insert {k : Nat} {v : Int} {s : Store} (h : Ent s) (hk : k < 64) (hv : -maxValue ≤ v ∧ v ≤ maxValue) : Ent (insertKey k v s) :=
  ⟨insert_up h.up, fun x hx => by
    rcases insert_mem hx with e | e
    · rw [e]
      exact ⟨hk, hv⟩
    · exact h.rng x e⟩
theorem ent_remove {k : Nat} {s : Store} (h : Ent s) : Ent (removeKey k s) := ⟨h.up.filter _, fun x hx => h.rng x (List.mem_filter.mp hx).1⟩
theorem ent_change {l : List Int} {c : Change} {s : Store} (h : Ent s) (hc : ChgOf l c) : Ent (applyChange s c) := by
  obtain ⟨k, f, v, _, _, h0, hf, v1, v2, _, e1, e2, e3⟩ := chg_of hc
  unfold applyChange
  rw [e1, e2]
  rcases hf with rfl | rfl
  · exact ent_remove h
  · exact ent_insert h e3 ⟨v1, v2⟩
theorem apply_snoc (s : Store) (l : List Change) (c : Change) : applyChanges s (l ++ [c]) = applyChange (applyChanges s l) c := by simp [applyChanges]
theorem apply_app (s : Store) (l r : List Change) : applyChanges s (l ++ r) = applyChanges (applyChanges s l) r := by simp [applyChanges]
theorem ent_applyL : ∀ (cs : List Change) (s : Store), Ent s → (∀ c ∈ cs, ∃ l, ChgOf l c) → Ent (applyChanges s cs)
  | [], s, h, _ => h
  | c :: cs, s, h, k => by
    obtain ⟨l, hl⟩ := k c List.mem_cons_self
    exact ent_applyL cs (applyChange s c) (ent_change h hl) fun c' hc => k c' (List.mem_cons_of_mem _ hc)
theorem parse_mem {l : List Int} {cs : List Change} (h : parseChanges l = some cs) : ∀ c ∈ cs, ∃ x, ChgOf x c := by
  intro c hc
  obtain ⟨h1, h2⟩ := parse_at l cs h
  obtain ⟨i, hi⟩ := List.getElem?_of_mem hc
  have hl : i < cs.length := by
    rcases Nat.lt_or_ge i cs.length with z | z
    · exact z
    · rw [List.getElem?_eq_none z] at hi
      cases hi
  exact ⟨_, h2 i _ c (List.getElem?_eq_getElem (by omega)) hi⟩
theorem ent_apply {s : Store} {l : List Int} {cs : List Change} (h : Ent s) (hp : parseChanges l = some cs) : Ent (applyChanges s cs) := ent_applyL cs s h (parse_mem hp)
theorem up_len : ∀ (s : Store) (n : Nat), s.Pairwise (fun x y => x.1 < y.1) → (∀ x ∈ s, n ≤ x.1 ∧ x.1 < 64) → s.length + n ≤ 64 ∨ s = []
  | [], n, _, _ => .inr rfl
  | x :: r, n, hp, h => by
    obtain ⟨h1, h2⟩ := List.pairwise_cons.mp hp
    have hx := h x List.mem_cons_self
    rcases up_len r (x.1 + 1) h2 (fun y hy => ⟨h1 y hy, (h y (List.mem_cons_of_mem _ hy)).2⟩) with e | e
    · left; simp; omega
    · left; rw [e]; simp; omega
theorem Ent.len {s : Store} (h : Ent s) : s.length ≤ 64 := by
  rcases up_len s 0 h.up (fun x hx => ⟨Nat.zero_le _, (h.rng x hx).1⟩) with e | e
  · omega
  · rw [e]; simp
theorem flat_len (s : Store) : (flatS s).length = 2 * s.length := by
  induction s with
  | nil => rfl
  | cons x r ih =>
    show ([(x.1 : Int), x.2] ++ flatS r).length = _
    rw [List.length_append, ih]
    simp
    omega
theorem flat_snoc (s : Store) (x : Nat × Int) : flatS (s ++ [x]) = flatS s ++ [(x.1 : Int), x.2] := by simp [flatS]
/-- two rising lists of the same numbers are one -/
theorem sorted_one : ∀ {l r : List Int}, l.Perm r → l.Pairwise (· ≤ ·) → r.Pairwise (· ≤ ·) → l = r
  | [], r, h, _, _ => (List.nil_perm.mp h).symm
  | x :: l, [], h, _, _ => absurd (List.perm_nil.mp h) (by simp)
  | x :: l, y :: r, h, h1, h2 => by
    obtain ⟨a1, a2⟩ := List.pairwise_cons.mp h1
    obtain ⟨b1, b2⟩ := List.pairwise_cons.mp h2
    have e : x = y := by
      have mx : x ∈ y :: r := h.mem_iff.mp List.mem_cons_self
      have my : y ∈ x :: l := h.mem_iff.mpr List.mem_cons_self
      rcases List.mem_cons.mp mx with q | q
      · exact q
      · rcases List.mem_cons.mp my with p | p
        · exact p.symm
        · have := b1 x q
          have := a1 y p
          omega
    subst e
    rw [sorted_one (List.Perm.cons_inv h) a2 b2]
/-! ### checkpoints -/
def okE : List Int → Bool
  | [k, v] => isEntry k v
  | _ => false
def rising : List (List Int) → Bool
  | [] => true
  | [_] => true
  | x :: y :: r => decide (x.headD 0 < y.headD 0) && rising (y :: r)
theorem isEntry_iff (k v : Int) : isEntry k v = true ↔ (0 ≤ k ∧ k < 64 ∧ -maxValue ≤ v ∧ v ≤ maxValue) := by
  unfold isEntry maxValue
  simp only [Bool.and_eq_true, decide_eq_true_eq]
  omega
theorem entries_cons (low : Nat) (k v : Int) (r : List Int) : parseEntries low (k :: v :: r) = if k < (low : Int) ∨ (keyCount : Int) ≤ k ∨ v < -maxValue ∨ maxValue < v then none else (parseEntries (k.toNat + 1) r).map fun l => (k.toNat, v) :: l := rfl
theorem entries_isSome : ∀ (r : List Int) (low : Nat), (parseEntries low r).isSome = (decide (r.length % 2 = 0) && ((chunks 2 r).all okE && (rising (chunks 2 r) && (match r with | [] => true | k :: _ => decide ((low : Int) ≤ k))))) := by
  apply two_ind
  · intro low
    rw [chunks_nil (by decide)]
    rfl
  · intro a low
    rfl
  · intro k v r ih low
    rw [entries_cons, chunks2, List.all_cons]
    have e : decide ((k :: v :: r).length % 2 = 0) = decide (r.length % 2 = 0) := decide_eq_decide.mpr (by simp only [List.length_cons]; omega)
    rw [e]
    show _ = (decide (r.length % 2 = 0) && ((isEntry k v && (chunks 2 r).all okE) && (rising ([k, v] :: chunks 2 r) && decide ((low : Int) ≤ k))))
    by_cases c : isEntry k v = true
    · have c2 := (isEntry_iff k v).mp c
      by_cases d : (low : Int) ≤ k
      · have z : ¬ (k < (low : Int) ∨ (keyCount : Int) ≤ k ∨ v < -maxValue ∨ maxValue < v) := by
          have : (keyCount : Int) = 64 := rfl
          omega
        rw [if_neg z, c, decide_eq_true d, Bool.true_and, Bool.and_true]
        have ee : ((parseEntries (k.toNat + 1) r).map fun l => (k.toNat, v) :: l).isSome = (parseEntries (k.toNat + 1) r).isSome := by cases parseEntries (k.toNat + 1) r <;> rfl
        rw [ee, ih]
        congr 1
        congr 1
        cases r with
        | nil =>
          rw [chunks_nil (by decide)]
          rfl
        | cons k2 r2 =>
          have cc : chunks 2 (k2 :: r2) = (k2 :: r2).take 2 :: chunks 2 ((k2 :: r2).drop 2) := chunks_cons (by decide) (by simp)
          rw [cc]
          have hh : ((k2 :: r2).take 2).headD 0 = k2 := by cases r2 <;> rfl
          show (rising (_ :: _) && decide (((k.toNat + 1 : Nat) : Int) ≤ k2)) = (decide (k < ((k2 :: r2).take 2).headD 0) && rising (_ :: _))
          rw [hh, Bool.and_comm]
          congr 1
          exact decide_eq_decide.mpr (by omega)
      · rw [if_pos (.inl (by omega)), decide_eq_false d]
        simp
    · have c' : isEntry k v = false := by simpa using c
      rw [c', if_pos]
      · simp
      · have z : ¬ (0 ≤ k ∧ k < 64 ∧ -maxValue ≤ v ∧ v ≤ maxValue) := fun q => c ((isEntry_iff k v).mpr q)
        have : (keyCount : Int) = 64 := rfl
        omega
theorem entries_ent : ∀ (r : List Int) (low : Nat) (s : Store), parseEntries low r = some s → flatS s = r ∧ Ent s ∧ (∀ x ∈ s, low ≤ x.1) ∧ chunks 2 r = s.map fun x => [(x.1 : Int), x.2] := by
  apply two_ind
  · intro low s h
    have e : s = [] := (Option.some.inj h).symm
    subst e
    exact ⟨rfl, ent_nil, (fun x h => by cases h), chunks_nil (by decide)⟩
  · intro a low s h
    cases h
  · intro k v r ih low s h
    rw [entries_cons] at h
    split at h
    · cases h
    · rename_i c
      obtain ⟨l, h1, h2⟩ := Option.map_eq_some_iff.mp h
      subst h2
      obtain ⟨i1, i2, i3, i4⟩ := ih _ _ h1
      have h0 : 0 ≤ k := by omega
      have ek : ((k.toNat : Nat) : Int) = k := Int.toNat_of_nonneg h0
      have hkc : (keyCount : Int) = 64 := rfl
      refine ⟨?_, ⟨List.pairwise_cons.mpr ⟨fun y hy => by have := i3 y hy; show k.toNat < y.1; omega, i2.up⟩, fun x hx => ?_⟩, fun x hx => ?_, ?_⟩
      · show [((k.toNat : Nat) : Int), v] ++ flatS l = _
        rw [i1, ek]
        rfl
      · rcases List.mem_cons.mp hx with e | e
        · rw [e]
          show k.toNat < 64 ∧ -maxValue ≤ v ∧ v ≤ maxValue
          omega
        · exact i2.rng x e
      · rcases List.mem_cons.mp hx with e | e
        · rw [e]
          show low ≤ k.toNat
          omega
        · have := i3 x e
          omega
      · rw [chunks2, i4, List.map_cons, ek]
theorem checkpoint_isSome (l : List Int) : (parseCheckpointRow l).isSome = (decide (l.length % 2 = 1) && (decide (0 ≤ l.headD 0) && ((chunks 2 l.tail).all okE && rising (chunks 2 l.tail)))) := by
  cases l with
  | nil => rfl
  | cons t r =>
    have e : decide ((t :: r).length % 2 = 1) = decide (r.length % 2 = 0) := decide_eq_decide.mpr (by simp only [List.length_cons]; omega)
    rw [e]
    show (if t < 0 then none else (parseEntries 0 r).map fun s => (t.toNat, s) : Option (Nat × Store)).isSome = (decide (r.length % 2 = 0) && (decide (0 ≤ t) && ((chunks 2 r).all okE && rising (chunks 2 r))))
    by_cases c : t < 0
    · rw [if_pos c, decide_eq_false (show ¬ (0 ≤ t) by omega)]
      simp
    · rw [if_neg c, decide_eq_true (by omega : 0 ≤ t), Bool.true_and]
      have ee : ((parseEntries 0 r).map fun s => (t.toNat, s)).isSome = (parseEntries 0 r).isSome := by cases parseEntries 0 r <;> rfl
      rw [ee, entries_isSome]
      by_cases k : (chunks 2 r).all okE = true
      · rw [k, Bool.true_and, Bool.true_and]
        congr 1
        cases r with
        | nil => rw [Bool.and_true]
        | cons k0 r0 =>
          have cc : chunks 2 (k0 :: r0) = (k0 :: r0).take 2 :: chunks 2 ((k0 :: r0).drop 2) := chunks_cons (by decide) (by simp)
          rw [cc, List.all_cons, Bool.and_eq_true] at k
          have : decide (((0 : Nat) : Int) ≤ k0) = true := by
            cases r0 with
            | nil => exact absurd k.1 (by simp [okE])
            | cons v0 r1 =>
              have := (isEntry_iff k0 v0).mp k.1
              exact decide_eq_true (by omega)
          show (_ && decide (((0 : Nat) : Int) ≤ k0)) = _
          rw [this, Bool.and_true]
      · have k' : (chunks 2 r).all okE = false := by simpa using k
        rw [k', Bool.false_and, Bool.false_and]
theorem checkpoint_of {l : List Int} {t : Nat} {s : Store} (h : parseCheckpointRow l = some (t, s)) : l = (t : Int) :: flatS s ∧ Ent s ∧ chunks 2 l.tail = s.map fun x => [(x.1 : Int), x.2] := by
  cases l with
  | nil => cases h
  | cons t' r =>
    have h2 : (if t' < 0 then none else (parseEntries 0 r).map fun s => (t'.toNat, s)) = some (t, s) := h
    split at h2
    · cases h2
    · rename_i c
      obtain ⟨s', h3, h4⟩ := Option.map_eq_some_iff.mp h2
      obtain ⟨e1, e2⟩ := Prod.mk.inj h4
      subst e2
      obtain ⟨i1, i2, _, i4⟩ := entries_ent r 0 s' h3
      refine ⟨?_, i2, i4⟩
      rw [i1, ← e1, Int.toNat_of_nonneg (by omega)]
theorem readCheckpoint_eq (b : Bytes) : readCheckpoint b = (onlyRow b).bind parseCheckpointRow := by
  unfold readCheckpoint onlyRow
  cases decodeFrame b with
  | none => rfl
  | some x =>
    obtain ⟨l, r⟩ := x
    cases r <;> rfl
def commitOf : List Int → Option (Nat × Nat)
  | [n, s] => if n < 1 ∨ s < 0 ∨ 1 < s then none else some (n.toNat, s.toNat)
  | _ => none
theorem commitOf_other : ∀ {l : List Int}, l.length ≠ 2 → commitOf l = none
  | [], _ => rfl
  | [_], _ => rfl
  | [_, _], c => absurd rfl c
  | _ :: _ :: _ :: _, _ => rfl
theorem readCommit_eq (b : Bytes) : readCommit b = (onlyRow b).bind commitOf := by
  unfold readCommit onlyRow
  cases decodeFrame b with
  | none => rfl
  | some x =>
    obtain ⟨l, r⟩ := x
    cases r with
    | nil => 
      match l with
      | [] => rfl
      | [_] => rfl
      | [_, _] => rfl
      | _ :: _ :: _ :: _ => rfl
    | cons y r => 
      match l with
      | [] => rfl
      | [_] => rfl
      | [_, _] => rfl
      | _ :: _ :: _ :: _ => rfl
/-! ### what a decoded row is -/
theorem partNat_lt : ∀ c : Bytes, partNat c < 128 ^ c.length
  | [] => by decide
  | b :: r => by
    have ih := partNat_lt r
    show b % 128 + 128 * partNat r < 128 ^ (r.length + 1)
    rw [Nat.pow_succ]
    omega
theorem zz (n : Nat) : zigzagEncode (zigzagDecode n) = n := by
  unfold zigzagDecode
  by_cases c : n % 2 = 0
  · rw [if_pos c]
    unfold zigzagEncode
    rw [if_pos (by omega)]
    omega
  · rw [if_neg c]
    unfold zigzagEncode
    rw [if_neg (by omega)]
    omega
theorem decoded_fit {p : Bytes} {l : List Int} (h : decoded p = some l) : l.length ≤ p.length ∧ ∀ n ∈ l, Fit n := by
  unfold decoded at h
  split at h
  · cases h
  · rename_i c
    have e := Option.some.inj h
    subst e
    have hl := cuts_len p
    refine ⟨by rw [List.length_map, List.length_dropLast]; omega, fun n hn => ?_⟩
    obtain ⟨x, hx, rfl⟩ := List.mem_map.mp hn
    have hx2 : x ∈ cuts p := (List.dropLast_sublist _).subset hx
    have h12 : ¬ 12 < x.length := fun z => c (.inr (List.any_eq_true.mpr ⟨x, hx2, decide_eq_true z⟩))
    unfold Fit
    rw [zz]
    exact Nat.lt_of_lt_of_le (partNat_lt x) (Nat.pow_le_pow_right (by decide) (by omega))
theorem frameAt_fit {b : Bytes} {i : Nat} {f : List Int × Nat} (hb : ∀ z ∈ b, z < 256) (h : frameAt b i = some f) : f.1.length ≤ b.length ∧ ∀ n ∈ f.1, Fit n := by
  by_cases hs : b.length < i + 7
  · rw [frameAt_short hs] at h
    cases h
  · have h0 : i < b.length := by omega
    have h1 : i + 1 < b.length := by omega
    have e := frameAt_long (i := i) (x := b[i]) (y := b[i + 1]) (by omega) (List.getElem?_eq_getElem h0) (List.getElem?_eq_getElem h1) hb
    rw [h] at e
    split at e
    · cases e
    · split at e
      · cases e
      · split at e
        · cases e
        · obtain ⟨l, k, q⟩ := Option.map_eq_some_iff.mp e.symm
          obtain ⟨d1, d2⟩ := decoded_fit k
          rw [← q]
          refine ⟨Nat.le_trans d1 ?_, d2⟩
          rw [List.length_take, List.length_drop]
          omega
theorem onlyRow_frame {b : Bytes} {l : List Int} (hb : ∀ z ∈ b, z < 256) (h : onlyRow b = some l) : frameAt b 0 = some (l, b.length) := by
  unfold onlyRow at h
  split at h
  · rename_i l' hd
    have e := Option.some.inj h
    subst e
    unfold frameAt
    rw [List.drop_zero, hd]
    rfl
  · cases h
theorem onlyRow_fit {b : Bytes} {l : List Int} (hb : ∀ z ∈ b, z < 256) (h : onlyRow b = some l) : l.length ≤ b.length ∧ ∀ n ∈ l, Fit n := frameAt_fit hb (onlyRow_frame hb h)
theorem framesGo_fit {b : Bytes} (hb : ∀ z ∈ b, z < 256) : ∀ (k i : Nat), ∀ f ∈ framesGo k b i, i + 7 ≤ f.2 ∧ f.2 ≤ b.length ∧ f.1.length ≤ b.length ∧ ∀ n ∈ f.1, Fit n
  | 0, i, f, h => by cases h
  | k + 1, i, f, h => by
    unfold framesGo at h
    cases e : frameAt b i with
    | none =>
      rw [e] at h
      cases h
    | some g =>
      rw [e] at h
      obtain ⟨g1, g2, _⟩ := frameAt_end hb e
      rcases List.mem_cons.mp h with q | q
      · subst q
        exact ⟨g1, g2, (frameAt_fit hb e).1, (frameAt_fit hb e).2⟩
      · obtain ⟨r1, r2⟩ := framesGo_fit hb k g.2 f q
        exact ⟨by omega, r2⟩
theorem framesOf_fit {b : Bytes} (hb : ∀ z ∈ b, z < 256) {f : List Int × Nat} (h : f ∈ framesOf b) : f.2 ≤ b.length ∧ f.1.length ≤ b.length ∧ ∀ n ∈ f.1, Fit n := (framesGo_fit hb _ _ f h).2
theorem framesGo_len {b : Bytes} (hb : ∀ z ∈ b, z < 256) : ∀ (k i : Nat), i ≤ b.length → 7 * (framesGo k b i).length + i ≤ b.length
  | 0, i, h => by simpa [framesGo] using h
  | k + 1, i, h => by
    unfold framesGo
    cases e : frameAt b i with
    | none => simpa using h
    | some g =>
      obtain ⟨g1, g2, _⟩ := frameAt_end hb e
      have := framesGo_len hb k g.2 g2
      show 7 * (framesGo k b g.2).length.succ + i ≤ b.length
      omega
theorem framesOf_len {b : Bytes} (hb : ∀ z ∈ b, z < 256) : 7 * (framesOf b).length ≤ b.length := by
  have := framesGo_len hb (b.length + 1) 0 (Nat.zero_le _)
  unfold framesOf
  omega
end Ts
/-! ## TsEz -/
namespace Ts
open PySem PySem.Spec PyProof.Rows L2
/-! ### == of lists as data -/
section
variable {K : PySem.W.Frag} {H : Hp} {Q : VK} {a b : Addr}
theorem dp_iv : ∀ l : List Int, DpAll K H (iv l) (l.map PyData.int)
  | [] => .nil
  | n :: l => .cons (.int n) (dp_iv l)
theorem lay_iv : ∀ l : List Int, PyData.canLayAll0 (l.map PyData.int) = true
  | [] => rfl
  | n :: l => by
    show (PyData.canLay0 (.int n) && PyData.canLayAll0 (l.map PyData.int)) = true
    rw [lay_iv l]
    rfl
theorem dep_iv : ∀ l : List Int, PyData.depthAll (l.map PyData.int) ≤ 2
  | [] => by simp [PyData.depthAll]
  | n :: l => by
    have := dep_iv l
    simp only [List.map_cons, PyData.depthAll, PyData.depth]
    omega
theorem sh_iv (l : List Int) : SeqAt.shaped (.list (l.map PyData.int)) = true := by
  unfold SeqAt.shaped
  have e1 : PyData.canLay0 (.list (l.map PyData.int)) = true := lay_iv l
  have e2 : PyData.depth (.list (l.map PyData.int)) ≤ 64 := by
    have := dep_iv l
    simp only [PyData.depth]
    omega
  rw [e1, decide_eq_true e2]
  rfl
theorem eqv_iv : ∀ l r : List Int, PyData.eqvAll (l.map PyData.int) (r.map PyData.int) = decide (l = r)
  | [], [] => by simp [PyData.eqvAll]
  | [], _ :: _ => by simp [PyData.eqvAll]
  | _ :: _, [] => by simp [PyData.eqvAll]
  | x :: l, y :: r => by
    simp only [List.map_cons, PyData.eqvAll, PyData.eqv, eqv_iv l r, List.cons.injEq]
    by_cases h1 : x = y <;> by_cases h2 : l = r <;> simp [h1, h2]
theorem x_eqD {l r : List Int} (ha : H a = some (.lst (iv l))) (hb : H b = some (.lst (iv r))) (h : Q (.bl (decide (l = r))) H) : rEqD K (.ref a) (.ref b) H Q := by
  refine ⟨_, _, .lst (.of ha) (dp_iv l), .lst (.of hb) (dp_iv r), sh_iv l, sh_iv r, ?_⟩
  have e : PyData.eqv (.list (l.map PyData.int)) (.list (r.map PyData.int)) = decide (l = r) := by rw [PyData.eqv]; exact eqv_iv l r
  rw [e]
  exact h
theorem x_neD {l r : List Int} (ha : H a = some (.lst (iv l))) (hb : H b = some (.lst (iv r))) (h : Q (.bl (!decide (l = r))) H) : rNeD K (.ref a) (.ref b) H Q := by
  refine ⟨_, _, .lst (.of ha) (dp_iv l), .lst (.of hb) (dp_iv r), sh_iv l, sh_iv r, ?_⟩
  have e : PyData.eqv (.list (l.map PyData.int)) (.list (r.map PyData.int)) = decide (l = r) := by rw [PyData.eqv]; exact eqv_iv l r
  rw [e]
  exact h
theorem nv_inj {l r : List Nat} : l.map (fun (n : Nat) => (n : Int)) = r.map (fun (n : Nat) => (n : Int)) ↔ l = r := by
  constructor
  · intro h
    have e := congrArg (List.map Int.toNat) h
    simpa [List.map_map, Function.comp_def] using e
  · intro h
    rw [h]
theorem x_eqN {l r : List Nat} (ha : H a = some (.lst (nv l))) (hb : H b = some (.lst (nv r))) (h : Q (.bl (decide (l = r))) H) : rEqD K (.ref a) (.ref b) H Q := by
  rw [nv_iv] at ha hb
  refine x_eqD ha hb ?_
  have e : decide (l.map (fun (n : Nat) => (n : Int)) = r.map (fun (n : Nat) => (n : Int))) = decide (l = r) := decide_eq_decide.mpr nv_inj
  rw [e]
  exact h
theorem x_neN {l r : List Nat} (ha : H a = some (.lst (nv l))) (hb : H b = some (.lst (nv r))) (h : Q (.bl (!decide (l = r))) H) : rNeD K (.ref a) (.ref b) H Q := by
  rw [nv_iv] at ha hb
  refine x_neD ha hb ?_
  have e : decide (l.map (fun (n : Nat) => (n : Int)) = r.map (fun (n : Nat) => (n : Int))) = decide (l = r) := decide_eq_decide.mpr nv_inj
  rw [e]
  exact h
/-! ### lists of lists -/
theorem pair_mem {α β : Type} {F G : α → β → Prop} : ∀ {l : List α} {r : List β}, Paired F l r → (∀ a b, a ∈ l → F a b → G a b) → Paired G l r
  | _, _, .nil, _ => .nil
  | _, _, .cons h t, k => .cons (k _ _ List.mem_cons_self h) (pair_mem t fun a b m => k a b (List.mem_cons_of_mem _ m))
theorem pair_at {α β : Type} {F : α → β → Prop} : ∀ {l : List α} {r : List β}, Paired F l r → ∀ {i : Nat} {a : α}, l[i]? = some a → ∃ b, r[i]? = some b ∧ F a b
  | _, _, .nil, i, a, h => by simp at h
  | _, _, .cons h t, 0, a, e => by
    have e2 := Option.some.inj e
    subst e2
    exact ⟨_, rfl, h⟩
  | _, _, .cons h t, i + 1, a, e => pair_at t (i := i) (a := a) e
theorem pair_at' {α β : Type} {F : α → β → Prop} : ∀ {l : List α} {r : List β}, Paired F l r → ∀ {i : Nat} {b : β}, r[i]? = some b → ∃ a, l[i]? = some a ∧ F a b
  | _, _, .nil, i, a, h => by simp at h
  | _, _, .cons h t, 0, a, e => by
    have e2 := Option.some.inj e
    subst e2
    exact ⟨_, rfl, h⟩
  | _, _, .cons h t, i + 1, a, e => pair_at' t (i := i) (b := a) e
theorem pair_set {α β : Type} {F : α → β → Prop} : ∀ {l : List α} {r : List β}, Paired F l r → ∀ (i : Nat) {a : α} {b : β}, F a b → Paired F (l.set i a) (r.set i b)
  | _, _, .nil, i, a, b, h => .nil
  | _, _, .cons h t, 0, a, b, k => .cons k t
  | _, _, .cons h t, i + 1, a, b, k => .cons h (pair_set t i k)
theorem pair_of {α β : Type} {F : α → β → Prop} : ∀ {l : List α} {r : List β}, l.length = r.length → (∀ (i : Nat) (a : α) (b : β), l[i]? = some a → r[i]? = some b → F a b) → Paired F l r
  | [], [], _, _ => .nil
  | a :: l, b :: r, h, k => .cons (k 0 a b rfl rfl) (pair_of (by simpa using h) fun i x y e1 e2 => k (i + 1) x y e1 e2)
  | [], _ :: _, h, _ => by simp at h
  | _ :: _, [], h, _ => by simp at h
theorem Nls.same {H' : Hp} {as : List Addr} {ls : List (List Nat)} (s : Same H H') (h : Nls H as ls) : Nls H' as ls := pair_mem h fun a b _ e => s _ _ e
theorem Lls.same {H' : Hp} {as : List Addr} {ls : List (List Int)} (s : Same H H') (h : Lls H as ls) : Lls H' as ls := pair_mem h fun a b _ e => s _ _ e
theorem Frs.same {B H' : Hp} {as : List Addr} {ls : List (List Int × Nat)} (s : Same H H') (h : Frs B H as ls) : Frs B H' as ls := pair_mem h fun a b _ ⟨r, e0, e1, e2⟩ => ⟨r, e0, s _ _ e1, s _ _ e2⟩
theorem Lls.upd {as : List Addr} {ls : List (List Int)} {c : Addr} {o : HO} (h : Lls H as ls) (hc : ∀ x ∈ as, x ≠ c) : Lls (upd H c o) as ls := pair_mem h fun a b m e => by rw [upd_ne (hc a m)]; exact e
theorem Nls.there {as : List Addr} {ls : List (List Nat)} (h : Nls H as ls) {a : Addr} (m : a ∈ as) : ∃ l, H a = some (.lst (nv l)) := by
  obtain ⟨i, hi⟩ := List.getElem?_of_mem m
  obtain ⟨l, _, e⟩ := pair_at h hi
  exact ⟨l, e⟩
theorem iv_inj : ∀ {l r : List Int}, iv l = iv r → l = r
  | [], [], _ => rfl
  | [], _ :: _, h => by simp [iv] at h
  | _ :: _, [], h => by simp [iv] at h
  | x :: l, y :: r, h => by
    have h1 := List.cons.inj (show V.int x :: iv l = V.int y :: iv r from h)
    rw [V.int.inj h1.1, iv_inj h1.2]
/-- frames as data, against the empty list -/
theorem dp_frs {B : Hp} : ∀ {as : List Addr} {fs : List (List Int × Nat)}, Frs B H as fs → ∃ ds, DpAll K H (as.map V.ref) ds ∧ ds.length = fs.length ∧ PyData.canLayAll0 ds = true ∧ PyData.depthAll ds ≤ 4
  | _, _, .nil => ⟨[], .nil, rfl, rfl, by simp [PyData.depthAll]⟩
  | _, _, .cons (b := f) ⟨r, _, e1, e2⟩ t => by
    obtain ⟨ds, d1, d2, d3, d4⟩ := dp_frs t
    refine ⟨.tuple [.list (f.1.map PyData.int), .int f.2] :: ds, .cons (.tup (.of e1) (.cons (.lst (.of e2) (dp_iv f.1)) (.cons (.int _) .nil))) d1, by simp [d2], ?_, ?_⟩
    · show (PyData.canLay0 (.tuple [.list (f.1.map PyData.int), .int f.2]) && PyData.canLayAll0 ds) = true
      rw [d3]
      show (PyData.canLayAll0 [.list (f.1.map PyData.int), .int f.2] && true) = true
      show ((PyData.canLayAll0 (f.1.map PyData.int) && PyData.canLayAll0 [.int f.2]) && true) = true
      rw [lay_iv]
      rfl
    · have := dep_iv f.1
      simp only [PyData.depthAll, PyData.depth]
      omega
theorem x_eqFrs {B : Hp} {as : List Addr} {fs : List (List Int × Nat)} (ha : H a = some (.lst (as.map V.ref))) (hf : Frs B H as fs) (hb : H b = some (.lst [])) (h : Q (.bl (decide (fs = []))) H) : rEqD K (.ref a) (.ref b) H Q := by
  obtain ⟨ds, d1, d2, d3, d4⟩ := dp_frs (K := K) hf
  refine ⟨.list ds, .list [], .lst (.of ha) d1, .lst (.of hb) .nil, ?_, rfl, ?_⟩
  · unfold SeqAt.shaped
    have e1 : PyData.canLay0 (.list ds) = true := d3
    have e2 : PyData.depth (.list ds) ≤ 64 := by
      simp only [PyData.depth]
      omega
    rw [e1, decide_eq_true e2]
    rfl
  · have e : PyData.eqv (.list ds) (.list []) = decide (fs = []) := by
      cases ds with
      | nil =>
        have : fs = [] := List.length_eq_zero_iff.mp (by rw [← d2]; rfl)
        rw [this]
        rfl
      | cons x r =>
        have : fs ≠ [] := by
          intro z
          rw [z] at d2
          simp at d2
        rw [decide_eq_false this]
        rfl
    rw [e]
    exact h
/-! ### dicts -/
section
variable {σ : L2.St} {D : Ends} {td ty tv tx : TE} {d : Addr} {kvs : List (Key × V)}
theorem x_dput (h : tv σ H fun v H1 => td σ H1 fun x H2 => ty σ H2 fun y H3 => ∃ a H4, x = .ref a ∧ DPut H3 a y v H4 ∧ D.nx σ H4) : sDPut td ty tv D σ H := h
theorem x_dputE {k : Int} {v : V} {N : Hp → Prop} (hd : H d = some (.dK kvs)) (hl : kvs.length < sizeLine) (h : N (upd H d (.dK (putK kvs (Sum.inl k) v)))) : ∃ a H4, V.ref d = .ref a ∧ DPut H a (.int k) v H4 ∧ N H4 :=
  ⟨d, _, rfl, DPut.k (k := Sum.inl k) hd hl, h⟩
theorem x_dget (h : td σ H fun x H1 => ty σ H1 fun y H2 => ∃ a v, x = .ref a ∧ DGet H2 a y (some v) ∧ Q v H2) : tDGet td ty σ H Q := h
theorem x_dgetE {k : Int} {v : V} {P : V → Prop} (hd : H d = some (.dK kvs)) (hv : valV kvs (Sum.inl k) = some v) (h : P v) : ∃ a w, V.ref d = .ref a ∧ DGet H a (.int k) (some w) ∧ P w :=
  ⟨d, v, rfl, .inl ⟨kvs, Sum.inl k, .of hd, rfl, hv.symm⟩, h⟩
theorem x_din (h : ty σ H fun y H1 => td σ H1 fun x H2 => ∃ a o, x = .ref a ∧ DGet H2 a y o ∧ Q (.bl o.isSome) H2) : tDIn ty td σ H Q := h
theorem x_dinE {k : Int} {P : Option V → Prop} (hd : H d = some (.dK kvs)) (h : P (valV kvs (Sum.inl k))) : ∃ a o, V.ref d = .ref a ∧ DGet H a (.int k) o ∧ P o :=
  ⟨d, _, rfl, .inl ⟨kvs, Sum.inl k, .of hd, rfl, rfl⟩, h⟩
theorem x_dpop (h : td σ H fun x H1 => ∃ a, x = .ref a ∧ IsD H1 a ∧ ty σ H1 fun y H2 => tx σ H2 fun z H3 => ∃ kvs k, H3 a = some (.dK kvs) ∧ y = kV k ∧ (∀ v, valV kvs k = some v → Q v (upd H3 a (.dK (dropK kvs k)))) ∧ (valV kvs k = none → Q z H3)) : tDPop2 td ty tx σ H Q := h
theorem x_isD {P : Addr → Prop} (hd : H d = some (.dK kvs)) (h : P d) : ∃ a, V.ref d = .ref a ∧ IsD H a ∧ P a := ⟨d, rfl, .inl ⟨kvs, .of hd⟩, h⟩
theorem x_dpopE {k : Int} {z : V} (hd : H d = some (.dK kvs)) (h1 : ∀ v, valV kvs (Sum.inl k) = some v → Q v (upd H d (.dK (dropK kvs (Sum.inl k))))) (h2 : valV kvs (Sum.inl k) = none → Q z H) :
    ∃ kvs k', H d = some (.dK kvs) ∧ V.int k = kV k' ∧ (∀ v, valV kvs k' = some v → Q v (upd H d (.dK (dropK kvs k')))) ∧ (valV kvs k' = none → Q z H) := ⟨kvs, Sum.inl k, hd, rfl, h1, h2⟩
end
abbrev kvf : Nat × Int → Key × V := fun x => (Sum.inl (x.1 : Int), V.int x.2)
theorem val_at : ∀ {l : List (Nat × Int)} {k : Nat} {v : Int}, (l.map (·.1)).Nodup → (k, v) ∈ l → valV (l.map kvf) (Sum.inl (k : Int)) = some (.int v)
  | x :: l, k, v, hn, h => by
    rw [List.map_cons, List.nodup_cons] at hn
    by_cases c : x.1 = k
    · have e : x = (k, v) := by
        rcases List.mem_cons.mp h with q | q
        · exact q.symm
        · exact absurd (List.mem_map.mpr ⟨_, q, rfl⟩) (c ▸ hn.1)
      subst e
      exact valV_pos rfl
    · have e : (k, v) ∈ l := by
        rcases List.mem_cons.mp h with q | q
        · rw [← q] at c; exact absurd rfl c
        · exact q
      rw [List.map_cons, valV_neg (by intro z; have := Sum.inl.inj z; exact c (by omega))]
      exact val_at hn.2 e
theorem val_no : ∀ {l : List (Nat × Int)} {k : Nat}, (∀ x ∈ l, x.1 ≠ k) → valV (l.map kvf) (Sum.inl (k : Int)) = none
  | [], k, h => rfl
  | x :: l, k, h => by
    rw [List.map_cons, valV_neg (by intro z; have := Sum.inl.inj z; exact h x List.mem_cons_self (by omega))]
    exact val_no fun y hy => h y (List.mem_cons_of_mem _ hy)
theorem up_nodup {s : Vbwsai.Store} (h : s.Pairwise fun x y => x.1 < y.1) : (s.map (·.1)).Nodup := by
  rw [List.nodup_iff_pairwise_ne, List.pairwise_map]
  exact h.imp fun q => Nat.ne_of_lt q
theorem DRel.len {s : Vbwsai.Store} {kvs : List (Key × V)} (h : DRel kvs s) : kvs.length = s.length := by
  obtain ⟨l, rfl, p⟩ := h
  rw [List.length_map, p.length_eq]
theorem DRel.some {s : Vbwsai.Store} {kvs : List (Key × V)} (h : DRel kvs s) (he : Ent s) {k : Nat} {v : Int} (m : (k, v) ∈ s) : valV kvs (Sum.inl (k : Int)) = some (.int v) := by
  obtain ⟨l, rfl, p⟩ := h
  exact val_at ((p.map (·.1)).nodup_iff.mpr (up_nodup he.up)) (p.mem_iff.mpr m)
theorem DRel.none {s : Vbwsai.Store} {kvs : List (Key × V)} (h : DRel kvs s) {k : Nat} (m : ∀ x ∈ s, x.1 ≠ k) : valV kvs (Sum.inl (k : Int)) = none := by
  obtain ⟨l, rfl, p⟩ := h
  exact val_no fun x hx => m x (p.mem_iff.mp hx)
theorem DRel.nil : DRel [] [] := ⟨[], rfl, List.Perm.refl _⟩
theorem DRel.put {s : Vbwsai.Store} {kvs : List (Key × V)} (h : DRel kvs s) (he : Ent s) (k : Nat) (v : Int) : DRel (putK kvs (Sum.inl (k : Int)) (.int v)) (Vbwsai.insertKey k v s) := by
  by_cases c : ∃ x ∈ s, x.1 = k
  · rw [insert_map he.up c]
    obtain ⟨l, rfl, p⟩ := h
    refine ⟨l.map fun x => if x.1 = k then (x.1, v) else x, ?_, p.map _⟩
    unfold putK
    rw [if_pos]
    · rw [List.map_map, List.map_map]
      apply List.map_congr_left
      intro x _
      show (if (Sum.inl (x.1 : Int) : Key) = Sum.inl (k : Int) then ((Sum.inl (x.1 : Int) : Key), V.int v) else kvf x) = kvf (if x.1 = k then (x.1, v) else x)
      by_cases e : x.1 = k
      · rw [if_pos (by rw [e]), if_pos e]
      · rw [if_neg (by intro z; have := Sum.inl.inj z; exact e (by omega)), if_neg e]
    · obtain ⟨x, hx, e⟩ := c
      rw [List.any_eq_true]
      exact ⟨kvf x, List.mem_map.mpr ⟨x, p.mem_iff.mpr hx, rfl⟩, decide_eq_true (by rw [← e])⟩
  · have c' : ∀ x ∈ s, x.1 ≠ k := fun x hx e => c ⟨x, hx, e⟩
    have hv := h.none c'
    rw [putK_new _ hv]
    obtain ⟨l, rfl, p⟩ := h
    exact ⟨l ++ [(k, v)], by simp, (p.append_right _).trans (insert_perm c').symm⟩
theorem DRel.drop {s : Vbwsai.Store} {kvs : List (Key × V)} (h : DRel kvs s) (k : Nat) : DRel (dropK kvs (Sum.inl (k : Int))) (Vbwsai.removeKey k s) := by
  obtain ⟨l, rfl, p⟩ := h
  refine ⟨l.filter fun x => x.1 != k, ?_, p.filter _⟩
  unfold dropK
  rw [List.filter_map]
  congr 1
  apply List.filter_congr
  intro x _
  show decide ((Sum.inl (x.1 : Int) : Key) ≠ Sum.inl (k : Int)) = (x.1 != k)
  by_cases e : x.1 = k
  · rw [e]
    simp
  · have e1 : (Sum.inl (x.1 : Int) : Key) ≠ Sum.inl (k : Int) := by intro z; have := Sum.inl.inj z; exact e (by omega)
    rw [decide_eq_true e1]
    simp [e]
theorem DRel.keep {s : Vbwsai.Store} {kvs : List (Key × V)} (h : DRel kvs s) {k : Nat} (hn : valV kvs (Sum.inl (k : Int)) = Option.none) (he : Ent s) : DRel kvs (Vbwsai.removeKey k s) := by
  have e : Vbwsai.removeKey k s = s := by
    apply List.filter_eq_self.mpr
    intro x hx
    by_cases c : x.1 = k
    · have := h.some he (k := x.1) (v := x.2) hx
      rw [c, hn] at this
      cases this
    · simp [c]
  rw [e]
  exact h
/-! ### all, any of what a comprehension made -/
theorem x_any {bs : List Bool} (ha : H a = some (.lst (bs.map V.bl))) (h : Q (.bl (bs.any id)) H) : rAny K [.ref a] H Q := ⟨a, bs, rfl, .of ha, h⟩
theorem x_all {bs : List Bool} (ha : H a = some (.lst (bs.map V.bl))) (h : Q (.bl (bs.all id)) H) : rAll K [.ref a] H Q := ⟨a, bs, rfl, .of ha, h⟩
end
section
variable {K : PySem.W.Frag} {σ : L2.St} {H : Hp} {te : TE} {g : TG} {J : It} {S : Hp → Prop} {n : Nat} {Im : Nat → V → Hp → Prop}
/-- the elements are f of a plain list's -/
theorem x_compM {α : Type} {vs : List Nat} {Q : VK} (src : Src J S n Im) (ls : List α) (f : α → V) (hl : ls.length = n) (hn : n < 16777216) (hS : ∀ H', Same H H' → S H')
    (hs : ∀ i x l H1 (N : VK), ls[i]? = some l → Same H H1 → Im i x H1 → (∀ H3, Same H1 H3 → N (f l) H3) → g x (wipe σ vs) H1 fun σ2 H2 => wipe σ2 vs = wipe σ vs ∧ te σ2 H2 N)
    (hd : ∀ H' D, Same H H' → H D = none → H' D = some (.lst (ls.map f)) → Q (.ref D) H') : CompP J g tYes te vs σ H Q := by
  refine x_comp src (fun i y _ _ => ∃ l, ls[i]? = some l ∧ y = f l) hn hS (fun _ _ _ _ _ _ h => h) (fun D i x H1 N h1 _ _ h2 h3 h4 => ?_) fun H' D ys h1 h2 h3 h4 h5 => hd H' D h1 h2 ?_
  · have e := List.getElem?_eq_getElem (by omega : i < ls.length)
    exact hs i x _ H1 N e h2 h3 fun H3 s => h4 _ _ s ⟨_, e, rfl⟩
  · have e : ys = ls.map f := by
      apply List.ext_getElem?
      intro i
      rw [List.getElem?_map]
      by_cases c : i < n
      · have c2 : i < ys.length := by omega
        rw [List.getElem?_eq_getElem c2]
        obtain ⟨l, e1, e2⟩ := h5 i _ (List.getElem?_eq_getElem c2)
        rw [e1, e2]
        rfl
      · rw [List.getElem?_eq_none (by omega), List.getElem?_eq_none (by omega)]
        rfl
    rw [← e]
    exact h3
end
end Ts
/-! ## TsQ -/
namespace Ts
open Vbwsai
/-! ### the old journal -/
theorem parseNatural_eq (b : Bytes) : parseNatural b = if areDigits b = true then some (worth b) else none := by
  unfold parseNatural areDigits
  by_cases h : b = [] ∨ 19 < b.length ∨ b.all isDigit = false ∨ (1 < b.length ∧ b.head? = some 48)
  · rw [if_pos h, if_neg]
    intro z
    simp only [Bool.and_eq_true, Bool.or_eq_true, decide_eq_true_eq, Bool.not_eq_true', decide_eq_false_iff_not] at z
    obtain ⟨⟨z1, z2⟩, z3, z4⟩ := z
    rcases h with h | h | h | h
    · rw [h] at z1; simp at z1
    · omega
    · rw [z3] at h; cases h
    · rcases z4 with z | z
      · omega
      · exact z h.2
  · rw [if_neg h, if_pos]
    · rfl
    · simp only [Bool.and_eq_true, Bool.or_eq_true, decide_eq_true_eq, Bool.not_eq_true', decide_eq_false_iff_not]
      have h1 : b ≠ [] := fun z => h (.inl z)
      have h2 : ¬ 19 < b.length := fun z => h (.inr (.inl z))
      have h3 : b.all isDigit = true := by
        cases e : b.all isDigit with
        | true => rfl
        | false => exact absurd (.inr (.inr (.inl e))) h
      have h4 : 0 < b.length := List.length_pos_iff.mpr h1
      refine ⟨⟨h4, by omega⟩, h3, ?_⟩
      by_cases c : b.length = 1
      · exact .inl c
      · exact .inr fun z => h (.inr (.inr (.inr ⟨by omega, z⟩)))
theorem worth_acc : ∀ (l : Bytes) (n : Nat), n ≤ l.foldl (fun n c => 10 * n + (c - 48)) n
  | [], n => Nat.le_refl _
  | c :: l, n => by
    show n ≤ l.foldl (fun n c => 10 * n + (c - 48)) (10 * n + (c - 48))
    have := worth_acc l (10 * n + (c - 48))
    omega
theorem worth_pos {r : Bytes} (h : areDigits r = true) (h2 : r.head? ≠ some 48) : 0 < worth r := by
  unfold areDigits at h
  simp only [Bool.and_eq_true] at h
  cases r with
  | nil => simp at h
  | cons c r =>
    have hc : isDigit c = true := by
      have := h.2.1
      rw [List.all_cons, Bool.and_eq_true] at this
      exact this.1
    unfold isDigit at hc
    have hc2 := of_decide_eq_true hc
    have : c ≠ 48 := fun z => h2 (by rw [z]; rfl)
    have k := worth_acc r (10 * 0 + (c - 48))
    show 0 < r.foldl (fun n c => 10 * n + (c - 48)) (10 * 0 + (c - 48))
    omega
theorem parseInteger_minus (r : Bytes) : parseInteger (45 :: r) = if areDigits r = true ∧ r.head? ≠ some 48 then some (-(worth r : Int)) else none := by
  show (match parseNatural r with | some (n + 1) => some (-((n : Int) + 1)) | _ => none) = _
  rw [parseNatural_eq]
  by_cases h : areDigits r = true
  · rw [if_pos h]
    by_cases h2 : r.head? = some 48
    · rw [if_neg (fun z => z.2 h2)]
      have e : worth r = 0 := by
        have h' := h
        unfold areDigits at h'
        simp only [Bool.and_eq_true, Bool.or_eq_true, decide_eq_true_eq, Bool.not_eq_true', decide_eq_false_iff_not] at h'
        have hl : r.length = 1 := by
          rcases h'.2.2 with z | z
          · exact z
          · exact absurd h2 z
        match r, hl, h2 with
        | [c], _, h2 =>
          have : c = 48 := Option.some.inj h2
          subst this
          rfl
      rw [e]
    · rw [if_pos ⟨h, h2⟩]
      have := worth_pos h h2
      obtain ⟨n, hn⟩ : ∃ n, worth r = n + 1 := ⟨worth r - 1, by omega⟩
      rw [hn]
      rfl
  · rw [if_neg h, if_neg (fun z => h z.1)]
theorem parseInteger_plain {b : Bytes} (h : b.head? ≠ some 45) : parseInteger b = if areDigits b = true then some ((worth b : Nat) : Int) else none := by
  have e : parseInteger b = (parseNatural b).map fun n => (n : Int) := by
    unfold parseInteger
    split
    · rename_i r
      exact absurd rfl h
    · rfl
  rw [e, parseNatural_eq]
  split <;> rfl
theorem digits_minus (r : Bytes) : areDigits (45 :: r) = false := by
  unfold areDigits
  have : (45 :: r).all isDigit = false := by
    rw [List.all_cons]
    rfl
  rw [this]
  simp
/-- a number that's not below nought is a natural one -/
theorem parse_nat (b : Bytes) (n : Nat) : parseInteger b = some (n : Int) ↔ parseNatural b = some n := by
  by_cases h : b.head? = some 45
  · obtain ⟨r, rfl⟩ : ∃ r, b = 45 :: r := by
      cases b with
      | nil => cases h
      | cons c r => exact ⟨r, by rw [Option.some.inj h]⟩
    rw [parseInteger_minus, parseNatural_eq, digits_minus]
    constructor
    · intro z
      split at z
      · rename_i c
        have := worth_pos c.1 c.2
        have := Option.some.inj z
        omega
      · cases z
    · intro z
      cases z
  · rw [parseInteger_plain h, parseNatural_eq]
    split
    · constructor
      · intro z
        have := Option.some.inj z
        exact congrArg some (by omega)
      · intro z
        rw [Option.some.inj z]
    · constructor <;> intro z <;> cases z
def within (lo hi : Int) (n : Int) : Bool := decide (lo ≤ n) && decide (n ≤ hi)
theorem key_lim (b : Bytes) : (parseInteger b).filter (within 0 63) = match parseNatural b with
    | some k => if k < keyCount then some (k : Int) else none
    | none => none := by
  cases e : parseNatural b with
  | some k =>
    rw [(parse_nat b k).mpr e]
    show (if within 0 63 (k : Int) = true then some (k : Int) else none) = if k < keyCount then some (k : Int) else none
    have hk : keyCount = 64 := rfl
    by_cases c : k < keyCount
    · rw [if_pos c, if_pos]
      unfold within
      rw [Bool.and_eq_true]
      exact ⟨decide_eq_true (by omega), decide_eq_true (by omega)⟩
    · rw [if_neg c, if_neg]
      unfold within
      rw [Bool.and_eq_true]
      intro z
      have := of_decide_eq_true z.2
      omega
  | none =>
    show _ = none
    rw [Option.filter_eq_none_iff]
    intro n hn z
    unfold within at z
    rw [Bool.and_eq_true] at z
    have h0 := of_decide_eq_true z.1
    have : parseInteger b = some ((n.toNat : Nat) : Int) := by rw [hn]; congr 1; omega
    rw [(parse_nat b n.toNat).mp this] at e
    cases e
theorem change_minus (b : Bytes) : parseChange (b ++ [33]) = ((parseInteger b).filter (within 0 63)).map fun k => (k.toNat, none) := by
  rw [key_lim]
  unfold parseChange
  rw [List.getLast?_concat, List.dropLast_concat]
  show (match parseNatural b with | some k => if k < keyCount then some (k, none) else none | none => none) = _
  cases parseNatural b with
  | none => rfl
  | some k =>
    show (if k < keyCount then some ((k, none) : Change) else none) = Option.map _ (if k < keyCount then some (k : Int) else none)
    by_cases c : k < keyCount
    · rw [if_pos c, if_pos c]
      rfl
    · rw [if_neg c, if_neg c]
      rfl
theorem change_put {b : Bytes} (h : b.getLast? ≠ some 33) : parseChange b = match splitAtByte 61 [] b with
    | [x, y] => (match (parseInteger x).filter (within 0 63), (parseInteger y).filter (within (-maxValue) maxValue) with
      | some k, some v => some (k.toNat, some v)
      | _, _ => none)
    | _ => none := by
  unfold parseChange
  split
  · rename_i e
    exact absurd e h
  · split
    · rename_i x y e
      rw [e]
      show _ = (match (parseInteger x).filter (within 0 63), (parseInteger y).filter (within (-maxValue) maxValue) with
        | some k, some v => some ((k.toNat, some v) : Change)
        | _, _ => none)
      rw [key_lim]
      cases parseNatural x with
      | none => rfl
      | some k =>
        cases parseInteger y with
        | none =>
          show none = (match (if k < keyCount then some (k : Int) else none), (none : Option Int) with
            | some k, some v => some ((k.toNat, some v) : Change)
            | _, _ => none)
          split <;> simp_all
        | some v =>
          show (if k < keyCount ∧ -maxValue ≤ v ∧ v ≤ maxValue then some ((k, some v) : Change) else none) = (match (if k < keyCount then some (k : Int) else none), (if within (-maxValue) maxValue v = true then some v else none) with
            | some k, some v => some ((k.toNat, some v) : Change)
            | _, _ => none)
          have ew : within (-maxValue) maxValue v = true ↔ (-maxValue ≤ v ∧ v ≤ maxValue) := by
            unfold within
            rw [Bool.and_eq_true, decide_eq_true_eq, decide_eq_true_eq]
          by_cases c1 : k < keyCount
          · rw [if_pos c1]
            by_cases c2 : -maxValue ≤ v ∧ v ≤ maxValue
            · rw [if_pos ⟨c1, c2⟩, if_pos (ew.mpr c2)]
              rfl
            · rw [if_neg (fun z => c2 z.2), if_neg (fun z => c2 (ew.mp z))]
          · rw [if_neg (fun z => c1 z.1), if_neg c1]
    · rename_i h2
      split
      · rename_i x y e
        exact absurd e (h2 x y)
      · rfl
/-- what a token's change may be -/
theorem change_ok {b : Bytes} {c : Change} (h : parseChange b = some c) : parseChanges (chg c) = some [c] ∧ c.1 < 64 := by
  have key : ∀ (k : Nat) (o : Option Int), k < 64 → (∀ v, o = some v → -maxValue ≤ v ∧ v ≤ maxValue) → parseChanges (chg (k, o)) = some [(k, o)] := by
    intro k o hk ho
    cases o with
    | none =>
      show parseChanges [(k : Int), 0, 0] = _
      rw [parse_cons, if_pos]
      · show some [(((k : Int)).toNat, if (0 : Int) = 1 then some (0 : Int) else none)] = _
        rw [if_neg (by decide)]
        rfl
      · rw [isChange_iff]
        have : (keyCount : Int) = 64 := rfl
        have : maxValue = 1000000000000000000 := rfl
        omega
    | some v =>
      have := ho v rfl
      show parseChanges [(k : Int), 1, v] = _
      rw [parse_cons, if_pos]
      · show some [(((k : Int)).toNat, if (1 : Int) = 1 then some v else none)] = _
        rw [if_pos rfl]
        rfl
      · rw [isChange_iff]
        have : (keyCount : Int) = 64 := rfl
        omega
  by_cases hb : b.getLast? = some 33
  · obtain ⟨r, rfl⟩ := List.getLast?_eq_some_iff.mp hb
    rw [change_minus, key_lim] at h
    cases e : parseNatural r with
    | none =>
      rw [e] at h
      cases h
    | some k =>
      rw [e] at h
      change Option.map _ (if k < keyCount then some (k : Int) else none) = some c at h
      by_cases ck : k < keyCount
      · rw [if_pos ck] at h
        have z := Option.some.inj h
        subst z
        exact ⟨key k none ck (fun v e => by cases e), ck⟩
      · rw [if_neg ck] at h
        cases h
  · rw [change_put hb] at h
    split at h
    · rename_i x y _
      rw [key_lim] at h
      cases e : parseNatural x with
      | none =>
        rw [e] at h
        cases h
      | some k =>
        rw [e] at h
        change (match (if k < keyCount then some (k : Int) else none), _ with | some k, some v => some ((k.toNat, some v) : Change) | _, _ => none) = some c at h
        by_cases ck : k < keyCount
        · rw [if_pos ck] at h
          cases e2 : (parseInteger y).filter (within (-maxValue) maxValue) with
          | none =>
            rw [e2] at h
            cases h
          | some v =>
            rw [e2] at h
            have z := Option.some.inj h
            subst z
            rw [Option.filter_eq_some_iff] at e2
            have w := e2.2
            unfold within at w
            rw [Bool.and_eq_true] at w
            exact ⟨key k (some v) ck (fun v' e => by cases e; exact ⟨of_decide_eq_true w.1, of_decide_eq_true w.2⟩), ck⟩
        · rw [if_neg ck] at h
          cases h
    · cases h
theorem parse_app : ∀ (l r : List Int) (a b : List Change), parseChanges l = some a → parseChanges r = some b → parseChanges (l ++ r) = some (a ++ b) := by
  intro l
  refine three_ind (P := fun l => ∀ (r : List Int) (a b : List Change), parseChanges l = some a → parseChanges r = some b → parseChanges (l ++ r) = some (a ++ b)) ?_ ?_ ?_ ?_ l
  · intro r a b h1 h2
    rw [← Option.some.inj h1]
    exact h2
  · intro x r a b h1
    cases h1
  · intro x y r a b h1
    cases h1
  · intro x y z t ih r a b h1 h2
    rw [parse_cons] at h1
    by_cases c : isChange x y z = true
    · rw [if_pos c] at h1
      obtain ⟨a', h3, h4⟩ := Option.map_eq_some_iff.mp h1
      subst h4
      show parseChanges (x :: y :: z :: (t ++ r)) = _
      rw [parse_cons, if_pos c, ih r a' b h3 h2]
      rfl
    · rw [if_neg c] at h1
      cases h1
theorem tokens_at : ∀ (r : List Bytes) (cs : List Change), parseChangeTokens r = some cs → cs.length = r.length ∧ parseChanges (cs.flatMap chg) = some cs
  | [], cs, h => by
    have e := Option.some.inj h
    subst e
    exact ⟨rfl, rfl⟩
  | t :: r, cs, h => by
    change (match parseChange t, parseChangeTokens r with | some c, some l => some (c :: l) | _, _ => none) = some cs at h
    cases e1 : parseChange t with
    | none =>
      rw [e1] at h
      cases h
    | some c =>
      cases e2 : parseChangeTokens r with
      | none =>
        rw [e1, e2] at h
        cases h
      | some l =>
        rw [e1, e2] at h
        have z := Option.some.inj h
        subst z
        obtain ⟨i1, i2⟩ := tokens_at r l e2
        refine ⟨by simp [i1], ?_⟩
        rw [List.flatMap_cons]
        exact parse_app _ _ [c] l (change_ok e1).1 i2
theorem split_ne (c : Nat) : ∀ (acc b : Bytes), splitAtByte c acc b ≠ []
  | acc, [] => by simp [splitAtByte]
  | acc, x :: r => by
    unfold splitAtByte
    split
    · simp
    · exact split_ne c _ r
theorem split_len (c : Nat) : ∀ (b acc : Bytes), (splitAtByte c acc b).length ≤ b.length + 1
  | [], acc => by simp [splitAtByte]
  | x :: r, acc => by
    unfold splitAtByte
    split
    · have := split_len c r []
      simp
      omega
    · have := split_len c r (acc ++ [x])
      simp
      omega
theorem split_part (c : Nat) : ∀ (b acc : Bytes), ∀ p ∈ splitAtByte c acc b, p.length ≤ acc.length + b.length
  | [], acc, p, h => by
    have e : p = acc := by simpa [splitAtByte] using h
    rw [e]
    simp
  | x :: r, acc, p, h => by
    unfold splitAtByte at h
    split at h
    · rcases List.mem_cons.mp h with e | e
      · rw [e]; simp
      · have := split_part c r [] p e
        simp at this ⊢
        omega
    · have := split_part c r (acc ++ [x]) p h
      simp at this ⊢
      omega
/-- a line as the program reads it -/
theorem lineIn_eq {b : Bytes} {t : Nat} {a : Bytes} {r : List Bytes} (hs : splitAtByte 32 [] b = a :: r) (ht : t ≤ 1000000) :
    lineIn b t = if parseInteger a = some (t : Int) ∧ r.length ≤ 16 then parseChangeTokens r else none := by
  unfold lineIn parseTickLine
  rw [hs]
  show (match (match parseNatural a, parseChangeTokens r with | some n, some l => some (n, l) | _, _ => none : Option (Nat × List Change)) with
    | none => none
    | some (n, cs) => if n ≠ t ∨ maxChanges < cs.length ∨ maxValue < (n : Int) then none else some cs) = _
  cases e1 : parseNatural a with
  | none =>
    rw [if_neg]
    intro z
    rw [(parse_nat a t).mp z.1] at e1
    cases e1
  | some n =>
    cases e2 : parseChangeTokens r with
    | none =>
      show none = _
      split <;> rfl
    | some cs =>
      obtain ⟨l1, _⟩ := tokens_at r cs e2
      show (if n ≠ t ∨ maxChanges < cs.length ∨ maxValue < (n : Int) then none else some cs) = _
      have hm : maxChanges = 16 := rfl
      have hv : maxValue = 1000000000000000000 := rfl
      by_cases c : n = t
      · subst c
        rw [(parse_nat a n).mpr e1]
        by_cases c2 : r.length ≤ 16
        · rw [if_neg (by omega), if_pos ⟨rfl, c2⟩]
        · rw [if_pos (by omega), if_neg (fun z => c2 z.2)]
      · rw [if_pos (.inl c), if_neg]
        intro z
        rw [(parse_nat a t).mp z.1] at e1
        exact c (Option.some.inj e1).symm
theorem lineIn_ok {b : Bytes} {t : Nat} {cs : List Change} (ht : t ≤ 1000000) (h : lineIn b t = some cs) : cs.length ≤ 16 ∧ parseChanges (cs.flatMap chg) = some cs := by
  cases hs : splitAtByte 32 [] b with
  | nil => exact absurd hs (split_ne _ _ _)
  | cons a r =>
    rw [lineIn_eq hs ht] at h
    split at h
    · rename_i c
      obtain ⟨i1, i2⟩ := tokens_at r cs h
      exact ⟨by omega, i2⟩
    · cases h
theorem lines_cons (t : Nat) (s : Store) (x : Bytes) (r : List Bytes) : importLines t s (x :: r) = match lineIn x (t + 1) with
    | none => .error (t + 1)
    | some cs => importLines (t + 1) (applyChanges s cs) r := by
  unfold lineIn
  show (match parseTickLine x with | none => Except.error (t + 1) | some (n, cs) => if n ≠ t + 1 ∨ maxChanges < cs.length ∨ maxValue < (n : Int) then Except.error (t + 1) else importLines n (applyChanges s cs) r) = _
  cases parseTickLine x with
  | none => rfl
  | some y =>
    obtain ⟨n, cs⟩ := y
    show (if n ≠ t + 1 ∨ maxChanges < cs.length ∨ maxValue < (n : Int) then _ else _) = (match (if n ≠ t + 1 ∨ maxChanges < cs.length ∨ maxValue < (n : Int) then none else some cs) with | none => _ | some cs => _)
    by_cases c : n ≠ t + 1 ∨ maxChanges < cs.length ∨ maxValue < (n : Int)
    · rw [if_pos c, if_pos c]
    · rw [if_neg c, if_neg c]
      have : n = t + 1 := by omega
      rw [this]
end Ts
/-! ## TsEw -/
namespace Ts
open PySem PySem.Spec PyProof.Rows L2
/-! ### raising -/
def MkP (C : Addr) (sp : Sp) (E : XK) (vs : List V) (H1 : Hp) : Prop := vs.length ≤ 1000 ∧ ∀ a, H1 a = none → sp (.ref a :: (vs ++ [])) (upd H1 a (exo a C none))
    (fun v H2 => v = .non ∧ ∃ (d : Addr) (fs : List (Str × V)), H2 a = some (exo a C (some d)) ∧ H2 d = some (exd d fs) ∧ H1 d = none ∧ E (.ref C) (some d) (upd (del H2 a) d (.xd fs))) (fun _ _ _ => False)
section
variable {K : PySem.W.Frag} {D : Ends} {σ : L2.St} {H : Hp} {Q : VK} {E : XK} {C f : Str}
theorem x_raiseO {A : Addr} {sp : Sp} {ta : TA} (h : ta σ H fun vs H1 => MkP A sp E vs H1) : tRaiseO A sp E ta D σ H := h
theorem x_made {e : Int} (h : ∀ (H' : Hp) (d : Addr), Same H H' → H' d = some (.xd [(f, .int e)]) → E (.ref (He.ga K C)) (some d) H') : MkP (He.ga K C) (sp_exc C f K) E [.int e] H := by
  refine ⟨by simp, fun a ha => ⟨a, e, rfl, upd_same, fun H' d hd hk h1 h2 => ⟨rfl, d, _, h1, h2, ?_, h _ d (fun b o hb => ?_) upd_same⟩⟩⟩
  · have : d ≠ a := fun z => by
      rw [z, upd_same] at hd
      cases hd
    rw [upd_ne this] at hd
    exact hd
  · have b1 : b ≠ a := ne_of_none hb ha
    have hb2 : upd H a (exo a (He.ga K C) none) b = some o := by rw [upd_ne b1]; exact hb
    have b2 : b ≠ d := ne_of_none hb2 hd
    rw [upd_ne b2, del_ne b1]
    exact hk b o hb2 b1
theorem Rf.same {H' : Hp} {e : Int} (s : Same H H') (h : Rf K H E e) : Rf K H' E e := fun H2 d s2 => h H2 d (s.trans s2)
end
/-! ### the object -/
section
variable {K : PySem.W.Frag} {H H' H2 : Hp} {a F : Addr} {m : Mem}
theorem Fr2.refl : Fr2 a F H H := fun _ _ h _ _ => h
theorem Fr2.trans (h : Fr2 a F H H') (h2 : Fr2 a F H' H2) : Fr2 a F H H2 := fun b o e e1 e2 => h2 b o (h b o e e1 e2) e1 e2
theorem Fr1.trans (h : Fr1 a H H') (h2 : Fr1 a H' H2) : Fr1 a H H2 := fun b o e e1 => h2 b o (h b o e e1) e1
theorem Fr1.objt (h : Fr1 a H H') : Fr2 a F H H' := fun b o e e1 _ => h b o e e1
theorem Fr1.file (h : Fr1 F H H') : Fr2 a F H H' := fun b o e _ e2 => h b o e e2
theorem Fr1.of (h : Same H H') : Fr1 a H H' := fun b o e _ => h b o e
theorem Fr2.of (h : Same H H') : Fr2 a F H H' := fun b o e _ _ => h b o e
theorem Fr1.upd {o : HO} : Fr1 a H (upd H a o) := fun b u e e1 => by rw [upd_ne e1]; exact e
theorem ref6 {fs : List Addr} {ls : List (List Nat)} (h6 : ls.length = 6) (hn : Nls H fs ls) (l : List Int) : fs.map V.ref ≠ iv l := by
  have e := hn.length
  intro z
  match fs, l, e, z with
  | [], _, e, _ => rw [h6] at e; cases e
  | _ :: _, [], _, z => cases z
  | _ :: _, _ :: _, _, z => cases (List.cons.inj z).1
theorem MemAt.objS (h : MemAt K H a F m) : ∃ dx fs, H a = some (.ins (He.ga K "Store") dx fs) := by
  obtain ⟨dx, e, p, kvs, h1, _⟩ := h.obj
  exact ⟨dx, _, h1⟩
theorem MemAt.filS (h : MemAt K H a F m) : ∃ fs : List Addr, H F = some (.lst (fs.map V.ref)) ∧ ∀ l, fs.map V.ref ≠ iv l := by
  obtain ⟨fs, h1, h2⟩ := h.fil
  exact ⟨fs, h1, ref6 h.six h2⟩
theorem MemAt.naL (h : MemAt K H a F m) {q : Addr} {l : List V} (e : H q = some (.lst l)) : q ≠ a := by
  obtain ⟨_, _, h1⟩ := h.objS
  exact ne_of e h1 (by simp)
theorem MemAt.naD (h : MemAt K H a F m) {q : Addr} {l : List (Key × V)} (e : H q = some (.dK l)) : q ≠ a := by
  obtain ⟨_, _, h1⟩ := h.objS
  exact ne_of e h1 (by simp)
theorem MemAt.nfD (h : MemAt K H a F m) {q : Addr} {l : List (Key × V)} (e : H q = some (.dK l)) : q ≠ F := by
  obtain ⟨_, h1, _⟩ := h.filS
  exact ne_of e h1 (by simp)
theorem MemAt.naF (h : MemAt K H a F m) : F ≠ a := by
  obtain ⟨_, h1, _⟩ := h.filS
  exact h.naL h1
theorem MemAt.nfI (h : MemAt K H a F m) {q : Addr} {l : List Int} (e : H q = some (.lst (iv l))) : q ≠ F := by
  obtain ⟨fs, h1, h2⟩ := h.filS
  exact ne_of e h1 (by intro z; exact h2 l (by injection z with z; exact z.symm))
theorem MemAt.nfN (h : MemAt K H a F m) {q : Addr} {l : List Nat} (e : H q = some (.lst (nv l))) : q ≠ F := by
  rw [nv_iv] at e
  exact h.nfI e
/-- an int list stays -/
theorem MemAt.kI (h : MemAt K H a F m) (fr : Fr2 a F H H') {q : Addr} {l : List Int} (e : H q = some (.lst (iv l))) : H' q = some (.lst (iv l)) := fr _ _ e (h.naL e) (h.nfI e)
theorem MemAt.kN (h : MemAt K H a F m) (fr : Fr2 a F H H') {q : Addr} {l : List Nat} (e : H q = some (.lst (nv l))) : H' q = some (.lst (nv l)) := fr _ _ e (h.naL e) (h.nfN e)
theorem MemAt.kD (h : MemAt K H a F m) (fr : Fr2 a F H H') {q : Addr} {l : List (Key × V)} (e : H q = some (.dK l)) : H' q = some (.dK l) := fr _ _ e (h.naD e) (h.nfD e)
theorem MemAt.same (h : MemAt K H a F m) (s : Same H H') : MemAt K H' a F m where
  six := h.six
  obj := by
    obtain ⟨dx, e, p, kvs, h1, h2, h3, h4⟩ := h.obj
    exact ⟨dx, e, p, kvs, s _ _ h1, s _ _ h2, h3, s _ _ h4⟩
  fil := by
    obtain ⟨fs, h1, h2⟩ := h.fil
    exact ⟨fs, s _ _ h1, Nls.same s h2⟩
theorem MemAt.new (h : MemAt K H a F m) {p : Addr} {o : HO} (e : H p = none) : MemAt K (upd H p o) a F m := h.same (Same.new e)
theorem Fr2.new {p : Addr} {o : HO} (e : H p = none) : Fr2 a F H (upd H p o) := .of (Same.new e)
/-- the fields' part changes, no more -/
theorem MemAt.field (h : MemAt K H a F m) {dx e p : Addr} {kvs : List (Key × V)} {m' : Mem} (hf : m'.files = m.files) (he : H e = some (.dK kvs)) (hr : DRel kvs m'.entries) (hp : H p = some (.lst (nv m'.pending))) :
    MemAt K (upd H a (.ins (He.ga K "Store") dx (sF F e p m'))) a F m' where
  six := by rw [hf]; exact h.six
  obj := by
    refine ⟨dx, e, p, kvs, upd_same, ?_, hr, ?_⟩
    · rw [upd_ne (h.naD he)]
      exact he
    · rw [upd_ne (h.naL hp)]
      exact hp
  fil := by
    obtain ⟨fs, h1, h2⟩ := h.fil
    refine ⟨fs, ?_, ?_⟩
    · rw [upd_ne h.naF]
      exact h1
    · rw [hf]
      refine pair_mem h2 fun x l mx q => ?_
      rw [upd_ne (h.naL q)]
      exact q
/-- one file is set -/
theorem MemAt.put (h : MemAt K H a F m) {fs : List Addr} (hF : H F = some (.lst (fs.map V.ref))) (hn : Nls H fs m.files) {i : Nat} {q : Addr} {d : List Nat} (hq : H q = some (.lst (nv d))) :
    MemAt K (upd H F (.lst ((fs.set i q).map V.ref))) a F (m.put i d) where
  six := by
    show (m.files.set i d).length = 6
    rw [List.length_set]
    exact h.six
  obj := by
    obtain ⟨dx, e, p, kvs, h1, h2, h3, h4⟩ := h.obj
    refine ⟨dx, e, p, kvs, ?_, ?_, h3, ?_⟩
    · rw [upd_ne (Ne.symm h.naF)]
      exact h1
    · rw [upd_ne (h.nfD h2)]
      exact h2
    · rw [upd_ne (h.nfN h4)]
      exact h4
  fil := by
    refine ⟨fs.set i q, upd_same, ?_⟩
    have k : Nls (upd H F (.lst ((fs.set i q).map V.ref))) fs m.files := pair_mem hn fun x l mx e => by
      rw [upd_ne (h.nfN e)]
      exact e
    refine pair_set k i ?_
    rw [upd_ne (h.nfN hq)]
    exact hq
end
/-! ### fields, methods -/
def Mem.wPower (m : Mem) (x : Bool) : Mem := { m with power := x }
def Mem.wDur (m : Mem) (x : Nat) : Mem := { m with durable := x }
def Mem.wLast (m : Mem) (x : Nat) : Mem := { m with last := x }
def Mem.wSide (m : Mem) (x : Nat) : Mem := { m with side := x }
def Mem.wCom (m : Mem) (x : Nat) : Mem := { m with commit := x }
def Mem.wWrit (m : Mem) (x : Bool) : Mem := { m with writing := x }
def Mem.wEnt (m : Mem) (x : Vbwsai.Store) : Mem := { m with entries := x }
def Mem.wPend (m : Mem) (x : List Nat) : Mem := { m with pending := x }
section
variable {K : PySem.W.Frag} {mg : Str → Option Value} {D : Ends} {σ : L2.St} {H : Hp} {a F : Addr} {m : Mem} {ta tv : TE} {f : Str} {Q : VK} {P : V → Prop} {N : Hp → Prop} {E : XK}
theorem x_fld (h : ta σ H fun x H1 => ∃ a C dx fs v, x = .ref a ∧ H1 a = some (.ins C dx fs) ∧ Cls K C ∧ NoAttr K C f ∧ fs.lookup f = some v ∧ Q v H1) : tFld K ta f σ H Q := h
theorem x_gPower (T : Tx K mg) (hm : MemAt K H a F m) (h : P (.bl m.power)) : ∃ a' C dx fs v, V.ref a = .ref a' ∧ H a' = some (.ins C dx fs) ∧ Cls K C ∧ NoAttr K C "has_power" ∧ fs.lookup ("has_power" : Str) = some v ∧ P v := by
  obtain ⟨dx, e, p, kvs, h1, _⟩ := hm.obj
  exact ⟨a, _, dx, _, _, rfl, h1, T.cl, T.na_has_power, rfl, h⟩
theorem x_gDur (T : Tx K mg) (hm : MemAt K H a F m) (h : P (.int (m.durable : Int))) : ∃ a' C dx fs v, V.ref a = .ref a' ∧ H a' = some (.ins C dx fs) ∧ Cls K C ∧ NoAttr K C "durable" ∧ fs.lookup ("durable" : Str) = some v ∧ P v := by
  obtain ⟨dx, e, p, kvs, h1, _⟩ := hm.obj
  exact ⟨a, _, dx, _, _, rfl, h1, T.cl, T.na_durable, rfl, h⟩
theorem x_gLast (T : Tx K mg) (hm : MemAt K H a F m) (h : P (.int (m.last : Int))) : ∃ a' C dx fs v, V.ref a = .ref a' ∧ H a' = some (.ins C dx fs) ∧ Cls K C ∧ NoAttr K C "last" ∧ fs.lookup ("last" : Str) = some v ∧ P v := by
  obtain ⟨dx, e, p, kvs, h1, _⟩ := hm.obj
  exact ⟨a, _, dx, _, _, rfl, h1, T.cl, T.na_last, rfl, h⟩
theorem x_gSide (T : Tx K mg) (hm : MemAt K H a F m) (h : P (.int (m.side : Int))) : ∃ a' C dx fs v, V.ref a = .ref a' ∧ H a' = some (.ins C dx fs) ∧ Cls K C ∧ NoAttr K C "side" ∧ fs.lookup ("side" : Str) = some v ∧ P v := by
  obtain ⟨dx, e, p, kvs, h1, _⟩ := hm.obj
  exact ⟨a, _, dx, _, _, rfl, h1, T.cl, T.na_side, rfl, h⟩
theorem x_gCommit (T : Tx K mg) (hm : MemAt K H a F m) (h : P (.int (m.commit : Int))) : ∃ a' C dx fs v, V.ref a = .ref a' ∧ H a' = some (.ins C dx fs) ∧ Cls K C ∧ NoAttr K C "commit" ∧ fs.lookup ("commit" : Str) = some v ∧ P v := by
  obtain ⟨dx, e, p, kvs, h1, _⟩ := hm.obj
  exact ⟨a, _, dx, _, _, rfl, h1, T.cl, T.na_commit, rfl, h⟩
theorem x_gWrit (T : Tx K mg) (hm : MemAt K H a F m) (h : P (.bl m.writing)) : ∃ a' C dx fs v, V.ref a = .ref a' ∧ H a' = some (.ins C dx fs) ∧ Cls K C ∧ NoAttr K C "is_writing" ∧ fs.lookup ("is_writing" : Str) = some v ∧ P v := by
  obtain ⟨dx, e, p, kvs, h1, _⟩ := hm.obj
  exact ⟨a, _, dx, _, _, rfl, h1, T.cl, T.na_is_writing, rfl, h⟩
theorem x_gFiles (T : Tx K mg) (hm : MemAt K H a F m) (h : P (.ref F)) : ∃ a' C dx fs v, V.ref a = .ref a' ∧ H a' = some (.ins C dx fs) ∧ Cls K C ∧ NoAttr K C "files" ∧ fs.lookup ("files" : Str) = some v ∧ P v := by
  obtain ⟨dx, e, p, kvs, h1, _⟩ := hm.obj
  exact ⟨a, _, dx, _, _, rfl, h1, T.cl, T.na_files, rfl, h⟩
theorem x_gEnt (T : Tx K mg) (hm : MemAt K H a F m) (h : ∀ e kvs, H e = some (.dK kvs) → DRel kvs m.entries → P (.ref e)) : ∃ a' C dx fs v, V.ref a = .ref a' ∧ H a' = some (.ins C dx fs) ∧ Cls K C ∧ NoAttr K C "entries" ∧ fs.lookup ("entries" : Str) = some v ∧ P v := by
  obtain ⟨dx, e, p, kvs, h1, h2, h3, h4⟩ := hm.obj
  exact ⟨a, _, dx, _, _, rfl, h1, T.cl, T.na_entries, rfl, h e kvs h2 h3⟩
theorem x_gPend (T : Tx K mg) (hm : MemAt K H a F m) (h : ∀ p, H p = some (.lst (nv m.pending)) → P (.ref p)) : ∃ a' C dx fs v, V.ref a = .ref a' ∧ H a' = some (.ins C dx fs) ∧ Cls K C ∧ NoAttr K C "pending" ∧ fs.lookup ("pending" : Str) = some v ∧ P v := by
  obtain ⟨dx, e, p, kvs, h1, h2, h3, h4⟩ := hm.obj
  exact ⟨a, _, dx, _, _, rfl, h1, T.cl, T.na_pending, rfl, h p h4⟩
/-- the file at i -/
theorem x_file (hm : MemAt K H a F m) {i : Int} {j : Nat} (e : i = (j : Int)) (hj : j < 6) (h : ∀ q, H q = some (.lst (nv (m.file j))) → Q (.ref q) H) : rIxL K (.ref F) (.int i) H Q := by
  obtain ⟨fs, h1, h2⟩ := hm.fil
  have hl : j < m.files.length := by rw [hm.six]; exact hj
  obtain ⟨q, q1, q2⟩ := pair_at' h2 (List.getElem?_eq_getElem hl)
  refine x_ixL h1 (atI_of (j := j) e (v := .ref q) (by rw [List.getElem?_map, q1]; rfl)) (h q ?_)
  have ef : m.file j = m.files[j] := by
    unfold Mem.file
    rw [List.getD_eq_getElem?_getD, List.getElem?_eq_getElem hl]
    rfl
  rw [ef]
  exact q2
theorem x_gsub {to ti : TE} {t : TSet} {v : V} {N : L2.St → Hp → Prop} (h : to σ H fun o H1 => ti σ H1 fun i H2 => t o i v H2 fun H3 => N σ H3) : gSub to ti t v σ H N := h
theorem x_setF (hm : MemAt K H a F m) {i : Int} {j : Nat} (e : i = (j : Int)) (hj : j < 6) {q : Addr} {d : List Nat} (hq : H q = some (.lst (nv d))) (h : ∀ H', Fr1 F H H' → MemAt K H' a F (m.put j d) → N H') : rSetL (.ref F) (.int i) (.ref q) H N := by
  obtain ⟨fs, h1, h2⟩ := hm.fil
  have hl : fs.length = 6 := h2.length.trans hm.six
  have hx : ixN (fs.map V.ref).length i = some j := by
    unfold ixN
    rw [List.length_map, hl, if_pos (by omega), if_pos (by omega), e]
    rfl
  refine ⟨F, _, i, j, rfl, rfl, h1, hx, ?_⟩
  have es : (fs.map V.ref).set j (.ref q) = (fs.set j q).map V.ref := by rw [List.map_set]
  rw [es]
  exact h _ Fr1.upd (hm.put h1 h2 hq)
theorem x_sfld (h : tv σ H fun y H1 => ta σ H1 fun x H2 => ∃ a C dx fs, x = .ref a ∧ H2 a = some (.ins C dx fs) ∧ Cls K C ∧ NoAttr K C f ∧ fs.length < 1000 ∧ D.nx σ (upd H2 a (.ins C dx (putF f y fs)))) : sFld K ta tv f D σ H := h
theorem x_sPower (T : Tx K mg) (hm : MemAt K H a F m) {b : Bool} (h : ∀ H', Fr1 a H H' → MemAt K H' a F (m.wPower b) → N H') : ∃ a' C dx fs, V.ref a = .ref a' ∧ H a' = some (.ins C dx fs) ∧ Cls K C ∧ NoAttr K C "has_power" ∧ fs.length < 1000 ∧ N (upd H a' (.ins C dx (putF "has_power" (.bl b) fs))) := by
  obtain ⟨dx, e, p, kvs, h1, h2, h3, h4⟩ := hm.obj
  exact ⟨a, _, dx, _, rfl, h1, T.cl, T.na_has_power, by simp [sF], h _ Fr1.upd (hm.field (m' := (m.wPower b)) rfl h2 h3 h4)⟩
theorem x_sDur (T : Tx K mg) (hm : MemAt K H a F m) {i : Int} (n : Nat) (ei : i = (n : Int)) (h : ∀ H', Fr1 a H H' → MemAt K H' a F (m.wDur n) → N H') : ∃ a' C dx fs, V.ref a = .ref a' ∧ H a' = some (.ins C dx fs) ∧ Cls K C ∧ NoAttr K C "durable" ∧ fs.length < 1000 ∧ N (upd H a' (.ins C dx (putF "durable" (.int i) fs))) := by
  subst ei
  obtain ⟨dx, e, p, kvs, h1, h2, h3, h4⟩ := hm.obj
  exact ⟨a, _, dx, _, rfl, h1, T.cl, T.na_durable, by simp [sF], h _ Fr1.upd (hm.field (m' := (m.wDur n)) rfl h2 h3 h4)⟩
theorem x_sLast (T : Tx K mg) (hm : MemAt K H a F m) {i : Int} (n : Nat) (ei : i = (n : Int)) (h : ∀ H', Fr1 a H H' → MemAt K H' a F (m.wLast n) → N H') : ∃ a' C dx fs, V.ref a = .ref a' ∧ H a' = some (.ins C dx fs) ∧ Cls K C ∧ NoAttr K C "last" ∧ fs.length < 1000 ∧ N (upd H a' (.ins C dx (putF "last" (.int i) fs))) := by
  subst ei
  obtain ⟨dx, e, p, kvs, h1, h2, h3, h4⟩ := hm.obj
  exact ⟨a, _, dx, _, rfl, h1, T.cl, T.na_last, by simp [sF], h _ Fr1.upd (hm.field (m' := (m.wLast n)) rfl h2 h3 h4)⟩
theorem x_sSide (T : Tx K mg) (hm : MemAt K H a F m) {i : Int} (n : Nat) (ei : i = (n : Int)) (h : ∀ H', Fr1 a H H' → MemAt K H' a F (m.wSide n) → N H') : ∃ a' C dx fs, V.ref a = .ref a' ∧ H a' = some (.ins C dx fs) ∧ Cls K C ∧ NoAttr K C "side" ∧ fs.length < 1000 ∧ N (upd H a' (.ins C dx (putF "side" (.int i) fs))) := by
  subst ei
  obtain ⟨dx, e, p, kvs, h1, h2, h3, h4⟩ := hm.obj
  exact ⟨a, _, dx, _, rfl, h1, T.cl, T.na_side, by simp [sF], h _ Fr1.upd (hm.field (m' := (m.wSide n)) rfl h2 h3 h4)⟩
theorem x_sCommit (T : Tx K mg) (hm : MemAt K H a F m) {i : Int} (n : Nat) (ei : i = (n : Int)) (h : ∀ H', Fr1 a H H' → MemAt K H' a F (m.wCom n) → N H') : ∃ a' C dx fs, V.ref a = .ref a' ∧ H a' = some (.ins C dx fs) ∧ Cls K C ∧ NoAttr K C "commit" ∧ fs.length < 1000 ∧ N (upd H a' (.ins C dx (putF "commit" (.int i) fs))) := by
  subst ei
  obtain ⟨dx, e, p, kvs, h1, h2, h3, h4⟩ := hm.obj
  exact ⟨a, _, dx, _, rfl, h1, T.cl, T.na_commit, by simp [sF], h _ Fr1.upd (hm.field (m' := (m.wCom n)) rfl h2 h3 h4)⟩
theorem x_sWrit (T : Tx K mg) (hm : MemAt K H a F m) {b : Bool} (h : ∀ H', Fr1 a H H' → MemAt K H' a F (m.wWrit b) → N H') : ∃ a' C dx fs, V.ref a = .ref a' ∧ H a' = some (.ins C dx fs) ∧ Cls K C ∧ NoAttr K C "is_writing" ∧ fs.length < 1000 ∧ N (upd H a' (.ins C dx (putF "is_writing" (.bl b) fs))) := by
  obtain ⟨dx, e, p, kvs, h1, h2, h3, h4⟩ := hm.obj
  exact ⟨a, _, dx, _, rfl, h1, T.cl, T.na_is_writing, by simp [sF], h _ Fr1.upd (hm.field (m' := (m.wWrit b)) rfl h2 h3 h4)⟩
theorem x_sEnt (T : Tx K mg) (hm : MemAt K H a F m) {e : Addr} {kvs : List (Key × V)} (s : Vbwsai.Store) (he : H e = some (.dK kvs)) (hr : DRel kvs s) (h : ∀ H', Fr1 a H H' → MemAt K H' a F (m.wEnt s) → N H') : ∃ a' C dx fs, V.ref a = .ref a' ∧ H a' = some (.ins C dx fs) ∧ Cls K C ∧ NoAttr K C "entries" ∧ fs.length < 1000 ∧ N (upd H a' (.ins C dx (putF "entries" (.ref e) fs))) := by
  obtain ⟨dx, e0, p, kvs0, h1, h2, h3, h4⟩ := hm.obj
  exact ⟨a, _, dx, _, rfl, h1, T.cl, T.na_entries, by simp [sF], h _ Fr1.upd (hm.field (m' := (m.wEnt s)) rfl he hr h4)⟩
theorem x_sPend (T : Tx K mg) (hm : MemAt K H a F m) {p : Addr} (d : List Nat) (hp : H p = some (.lst (nv d))) (h : ∀ H', Fr1 a H H' → MemAt K H' a F (m.wPend d) → N H') : ∃ a' C dx fs, V.ref a = .ref a' ∧ H a' = some (.ins C dx fs) ∧ Cls K C ∧ NoAttr K C "pending" ∧ fs.length < 1000 ∧ N (upd H a' (.ins C dx (putF "pending" (.ref p) fs))) := by
  obtain ⟨dx, e0, p0, kvs0, h1, h2, h3, h4⟩ := hm.obj
  exact ⟨a, _, dx, _, rfl, h1, T.cl, T.na_pending, by simp [sF], h _ Fr1.upd (hm.field (m' := (m.wPend d)) rfl h2 h3 hp)⟩
theorem x_meth {C : Addr} {n : Str} {sp : Sp} {t : TA} (h : ta σ H fun x H1 => ∃ a dx fs, x = .ref a ∧ H1 a = some (.ins C dx fs) ∧ fs.lookup n = none ∧ t σ H1 fun vs H2 => sp (x :: (vs ++ [])) H2 Q E) : tMeth C n sp [] E ta t σ H Q := h
theorem x_self {n : Str} {P : Prop} (hm : MemAt K H a F m) (hn : ∀ F e p m, (sF F e p m).lookup n = none) (h : P) : ∃ a' dx fs, V.ref a = .ref a' ∧ H a' = some (.ins (He.ga K "Store") dx fs) ∧ fs.lookup n = none ∧ P := by
  obtain ⟨dx, e, p, kvs, h1, _⟩ := hm.obj
  exact ⟨a, dx, _, rfl, h1, hn _ _ _ _, h⟩
end
end Ts
/-! ## TsI -/
namespace Ts
open PySem PySem.Spec PyProof.Rows L2
/-- the steps that leave no choice -/
local macro_rules | `(tactic| tm_at "x") => `(tactic| repeat (first | (with_reducible refine x_var ?_; refine ⟨_, rfl, ?_⟩) | with_reducible refine x_seq ?_ | with_reducible refine x_asg ?_ | with_reducible refine x_gname ?_ | with_reducible refine x_op ?_ | with_reducible refine x_c ?_ | with_reducible refine x_I0 ?_ | with_reducible refine x_if ?_ | with_reducible refine x_test ?_ | with_reducible refine x_bl ?_ | with_reducible refine x_blV ?_ | with_reducible refine x_ret ?_ | with_reducible refine x_retN ?_ | with_reducible refine x_drop ?_ | with_reducible refine x_cons ?_ | with_reducible refine x_nil ?_ | with_reducible refine x_call ?_ | with_reducible refine x_cb ?_ | with_reducible refine x_tB ?_ | with_reducible refine x_not ?_ | with_reducible refine x_and ?_ | with_reducible refine x_or ?_ | with_reducible refine x_andV ?_ | with_reducible refine x_orV ?_ | with_reducible refine x_notV ?_ | with_reducible refine x_chain ?_ | with_reducible refine x_un ?_ | with_reducible refine x_U ?_ | with_reducible refine x_mulL (by decide) ?_ | with_reducible refine x_mulR (by decide) ?_ | with_reducible refine x_isN ?_ | with_reducible refine x_notN ?_ | with_reducible refine x_sl ?_ | with_reducible refine x_noPart ?_ | with_reducible refine x_part ?_ | with_reducible refine x_int ?_ | with_reducible refine x_bm ?_ | with_reducible refine x_ipI ?_ | with_reducible refine x_next ?_ | with_reducible refine x_refN ?_ | with_reducible refine x_intN ?_ | with_reducible refine x_nonN ?_ | with_reducible refine x_refNN ?_ | with_reducible refine x_nonNN ?_ | with_reducible refine x_yes ?_ | with_reducible refine x_no ?_ | with_reducible refine x_gcons ?_ | with_reducible refine x_gnil ?_ | with_reducible refine x_lst ?_ | with_reducible refine x_tup ?_ | with_reducible refine x_dnewK ?_ | with_reducible refine x_for ?_ | with_reducible refine x_iList ?_ | with_reducible refine x_iTup ?_ | with_reducible refine x_iEnum ?_ | with_reducible refine x_iZip ?_ | with_reducible refine x_iRng3 ?_ | with_reducible refine x_lc ?_ | with_reducible refine x_dput ?_ | with_reducible refine x_dget ?_ | with_reducible refine x_din ?_ | with_reducible refine x_dpop ?_ | (with_reducible refine x_aug ?_; refine ⟨_, rfl, ?_⟩)))
section
variable {K : PySem.W.Frag} {mg : Str → Option Value}
def t_exc (K : PySem.W.Frag) (f z : Str) : TS := tSeq (tDrop (tVeI K (tCons (tVar 0) (tCons (tC (.str z)) tNil)))) (tOst K f (tVar 0) (tVar 1))
theorem pure_exc (x f z : Str) (N : List Str) (hN : N.length = 2) (X : OwnX K x f) (vs : List V) (H : Hp) (Q : VK) (E : XK) (h : sp_exc x f K vs H Q E) : t_exc K f z { nx := fun _ H' => Q .non H', rt := Q } (start N vs) H := by
  obtain ⟨a, e, rfl, ha, q⟩ := h
  have hst : start N [.ref a, .int e] = [some (.ref a), some (.int e)] := by
    unfold L2.start
    rw [hN]
    rfl
  rw [hst]
  refine ⟨.ref a, rfl, ?_⟩
  refine ⟨a, He.ga K x, [.str z], rfl, by simp, X.oex, ha, ?_⟩
  refine ⟨.int e, rfl, .ref a, rfl, a, He.ga K x, rfl, X.oex, X.no, .inl ⟨ha, fun d hd hne => ?_⟩⟩
  refine q _ d hd (fun b o hb hba => ?_) ?_ ?_
  · rw [upd_ne hba, upd_ne (ne_of_none hb hd)]
    exact hb
  · exact upd_same
  · rw [upd_ne hne]
    exact upd_same
theorem ok_BadLine___init__ {P : Program} {w : World} {base : Heap} (T : Tx K mg) : FnOk P w K mg base CX0 1 (He.ma K (He.ga K "BadLine") "__init__") (fdA K (He.ma K (He.ga K "BadLine") "__init__")) ["self", "line"] (sp_BadLine___init__ K) :=
  T.f_BadLine___init__.ok sc_BadLine___init__ (fun vs H Q E h => by obtain ⟨a, e, rfl, _⟩ := h; rfl) fun cdv A outer s H vs Q E hr h => ⟨t_exc K "line" "an invalid line", PSs.nox (pss_cons (ps_expr (pe_veinit (by rfl) T.n_ValueError T.ve (by exact (pa_cons (pv 0) (pa_cons pe_str pa_nil)))))
    (pss_one (ps_ost (pv 0) (pv 1)))), pure_exc "BadLine" "line" _ ["self", "line"] rfl T.x_BadLine vs H Q E h⟩
theorem ok_Refused___init__ {P : Program} {w : World} {base : Heap} (T : Tx K mg) : FnOk P w K mg base CX0 1 (He.ma K (He.ga K "Refused") "__init__") (fdA K (He.ma K (He.ga K "Refused") "__init__")) ["self", "error"] (sp_Refused___init__ K) :=
  T.f_Refused___init__.ok sc_Refused___init__ (fun vs H Q E h => by obtain ⟨a, e, rfl, _⟩ := h; rfl) fun cdv A outer s H vs Q E hr h => ⟨t_exc K "error" "refused", PSs.nox (pss_cons (ps_expr (pe_veinit (by rfl) T.n_ValueError T.ve (by exact (pa_cons (pv 0) (pa_cons pe_str pa_nil)))))
    (pss_one (ps_ost (pv 0) (pv 1)))), pure_exc "Refused" "error" _ ["self", "error"] rfl T.x_Refused vs H Q E h⟩
end
end Ts
/-! ## TsP1 -/
namespace Ts
open PySem PySem.Spec PyProof.Rows L2
/-- the steps that leave no choice -/
local macro_rules | `(tactic| tm_at "x") => `(tactic| repeat (first | (with_reducible refine x_var ?_; refine ⟨_, rfl, ?_⟩) | with_reducible refine x_seq ?_ | with_reducible refine x_asg ?_ | with_reducible refine x_gname ?_ | with_reducible refine x_op ?_ | with_reducible refine x_c ?_ | with_reducible refine x_I0 ?_ | with_reducible refine x_if ?_ | with_reducible refine x_test ?_ | with_reducible refine x_bl ?_ | with_reducible refine x_blV ?_ | with_reducible refine x_ret ?_ | with_reducible refine x_retN ?_ | with_reducible refine x_drop ?_ | with_reducible refine x_cons ?_ | with_reducible refine x_nil ?_ | with_reducible refine x_call ?_ | with_reducible refine x_cb ?_ | with_reducible refine x_tB ?_ | with_reducible refine x_not ?_ | with_reducible refine x_and ?_ | with_reducible refine x_or ?_ | with_reducible refine x_andV ?_ | with_reducible refine x_orV ?_ | with_reducible refine x_notV ?_ | with_reducible refine x_chain ?_ | with_reducible refine x_un ?_ | with_reducible refine x_U ?_ | with_reducible refine x_mulL (by decide) ?_ | with_reducible refine x_mulR (by decide) ?_ | with_reducible refine x_isN ?_ | with_reducible refine x_notN ?_ | with_reducible refine x_sl ?_ | with_reducible refine x_noPart ?_ | with_reducible refine x_part ?_ | with_reducible refine x_int ?_ | with_reducible refine x_bm ?_ | with_reducible refine x_ipI ?_ | with_reducible refine x_next ?_ | with_reducible refine x_refN ?_ | with_reducible refine x_intN ?_ | with_reducible refine x_nonN ?_ | with_reducible refine x_refNN ?_ | with_reducible refine x_nonNN ?_ | with_reducible refine x_yes ?_ | with_reducible refine x_no ?_ | with_reducible refine x_gcons ?_ | with_reducible refine x_gnil ?_ | with_reducible refine x_lst ?_ | with_reducible refine x_tup ?_ | with_reducible refine x_dnewK ?_ | with_reducible refine x_for ?_ | with_reducible refine x_iList ?_ | with_reducible refine x_iTup ?_ | with_reducible refine x_iEnum ?_ | with_reducible refine x_iZip ?_ | with_reducible refine x_iRng3 ?_ | with_reducible refine x_lc ?_ | with_reducible refine x_dput ?_ | with_reducible refine x_dget ?_ | with_reducible refine x_din ?_ | with_reducible refine x_dpop ?_ | (with_reducible refine x_aug ?_; refine ⟨_, rfl, ?_⟩)))
section
variable {K : PySem.W.Frag}
theorem pure_row_bytes (vs : List V) (H : Hp) (Q : VK) (E : XK) (h : sp_row_bytes K vs H Q E) : t_row_bytes K { nx := fun _ H' => Q .non H', rt := Q } (start ["row", "found", "number"] vs) H := by
  obtain ⟨a, l, rfl, ha, hf, hl, q⟩ := h
  unfold t_row_bytes
  tm_at "x"
  refine ⟨sz (by simp), fun p hp => ?_⟩
  tm_at "x"
  refine x_srcL (Same.new hp _ _ ha) ?_
  refine x_loop src_list (fun i σ H' => ∃ v, σ = [some (.ref a), some (.ref p), v] ∧ Same H H' ∧ H' p = some (.lst (nv (Vbwsai.encodeRow (l.take i))))) ⟨_, rfl, Same.new hp, upd_same⟩ (fun i σ H' ⟨_, _, s, _⟩ => s _ _ ha) ?_ ?_
  · rintro i x σ H1 H2 hi ⟨v, rfl, s, e⟩ s2 hx
    obtain ⟨n, hn, rfl⟩ := iv_at hx
    rw [iv_len] at hi
    tm_at "x"
    refine x_tyL (s2 _ _ e) ?_
    tm_at "x"
    refine ⟨n, rfl, hf n (List.mem_of_getElem? hn), fun H3 r s3 hr er => ?_⟩
    have b1 := encRow_len (l.take i)
    have b2 := enc_len n
    have b3 : (l.take i).length ≤ l.length := by rw [List.length_take]; omega
    tm_at "x"
    refine x_extend (s3 _ _ (s2 _ _ e)) er (sz (by rw [nv_len, nv_len]; omega)) ?_
    refine ⟨_, rfl, ((s.trans s2).trans s3).mut hp, ?_⟩
    rw [nv_cat, take_more hn, encRow_app]
    rw [show Vbwsai.encodeRow [n] = Vbwsai.encodeInteger n from by simp [Vbwsai.encodeRow]]
    exact upd_same
  · rintro σ H' ⟨v, rfl, s, e⟩
    rw [iv_len, List.take_length] at e
    tm_at "x"
    exact q _ p s hp e
theorem pure_checksum (vs : List V) (H : Hp) (Q : VK) (E : XK) (h : sp_checksum K vs H Q E) : t_checksum K { nx := fun _ H' => Q .non H', rt := Q } (start ["data", "found", "at", "byte"] vs) H := by
  obtain ⟨a, b, rfl, ha, hl, q⟩ := h
  unfold t_checksum
  tm_at "x"
  refine x_srcE ha ?_
  refine x_loop src_enum (fun i σ H' => ∃ v w, σ = [some (.ref a), some (.int (wsum 1 (b.take i) : Nat)), v, w] ∧ Same H H') ⟨_, _, rfl, Same.refl _⟩ (fun i σ H' ⟨_, _, _, s⟩ => s _ _ ha) ?_ ?_
  · rintro i x σ H1 H2 hi ⟨v, w, rfl, s⟩ s2 ⟨T, y, rfl, hT, hy⟩
    obtain ⟨n, hn, rfl⟩ := nv_at hy
    rw [nv_len] at hi
    have hm : b.length ≤ 1000000 := hl
    refine x_gtup hT rfl ?_
    tm_at "x"
    refine x_mulR ⟨by omega, by omega⟩ ?_
    tm_at "x"
    refine ⟨some (.int (i : Int)), some (.int (n : Int)), ?_, s.trans s2⟩
    rw [take_more hn, wsum_snoc, List.length_take, Nat.min_eq_left (by omega)]
    have e : ((wsum 1 (b.take i) : Nat) : Int) + ((n : Int) + 1) * ((i : Int) + 1) = ((wsum 1 (b.take i) + (n + 1) * (1 + i) : Nat) : Int) := by
      rw [Nat.add_comm 1 i]
      push_cast
      rfl
    rw [← e]
    rfl
  · rintro σ H' ⟨v, w, rfl, s⟩
    rw [nv_len, List.take_length]
    tm_at "x"
    refine x_modN 65521 (by decide) ?_
    rw [← checksum_eq]
    exact q H' s
theorem pure_frame_of (vs : List V) (H : Hp) (Q : VK) (E : XK) (h : sp_frame_of K vs H Q E) : t_frame_of K { nx := fun _ H' => Q .non H', rt := Q } (start ["row", "payload", "head"] vs) H := by
  obtain ⟨a, l, rfl, ha, hf, hl, q⟩ := h
  unfold t_frame_of
  tm_at "x"
  refine ⟨a, l, rfl, ha, hf, by omega, fun H1 p s1 hp ep => ?_⟩
  have b1 := encRow_len l
  have c1 := checksum_lt (Vbwsai.encodeRow l)
  tm_at "x"
  refine x_lenL ep ?_
  rw [nv_len]
  tm_at "x"
  refine ⟨_, rfl, by omega, fun H2 r s2 hr er => ?_⟩
  have c2 := checksum_lt (Vbwsai.twoBytes (Vbwsai.encodeRow l).length)
  have ep2 := s2 _ _ ep
  tm_at "x"
  refine ⟨r, _, rfl, er, by unfold Vbwsai.twoBytes most; simp, fun H3 s3 => ?_⟩
  tm_at "x"
  refine ⟨_, rfl, by omega, fun H4 r2 s4 hr2 er2 => ?_⟩
  refine x_cat (s4 _ _ (s3 _ _ er)) er2 (sz (by simp [nv_len, Vbwsai.twoBytes])) fun x1 hx1 => ?_
  rw [nv_cat]
  tm_at "x"
  have ep5 := (Same.new hx1 (o := .lst (nv (Vbwsai.twoBytes (Vbwsai.encodeRow l).length ++ Vbwsai.twoBytes (Vbwsai.checksum (Vbwsai.twoBytes (Vbwsai.encodeRow l).length)))))) _ _ (s4 _ _ (s3 _ _ ep2))
  refine x_cat upd_same ep5 (sz (by rw [nv_len, nv_len]; simp [Vbwsai.twoBytes]; omega)) fun x2 hx2 => ?_
  rw [nv_cat]
  have ep6 := (Same.new hx2 (o := .lst (nv ((Vbwsai.twoBytes (Vbwsai.encodeRow l).length ++ Vbwsai.twoBytes (Vbwsai.checksum (Vbwsai.twoBytes (Vbwsai.encodeRow l).length))) ++ Vbwsai.encodeRow l)))) _ _ ep5
  tm_at "x"
  refine ⟨p, _, rfl, ep6, by unfold most; omega, fun H7 s7 => ?_⟩
  tm_at "x"
  refine ⟨_, rfl, by omega, fun H8 r3 s8 hr3 er3 => ?_⟩
  refine x_cat (s8 _ _ (s7 _ _ upd_same)) er3 (sz (by rw [nv_len, nv_len]; simp [Vbwsai.twoBytes]; omega)) fun x3 hx3 => ?_
  rw [nv_cat]
  tm_at "x"
  refine ⟨sz (by simp), fun x4 hx4 => ?_⟩
  refine x_cat (Same.new hx4 _ _ upd_same) (upd_same (H := upd H8 x3 _)) (sz (by rw [nv_len]; simp [Vbwsai.twoBytes]; omega)) fun x5 hx5 => ?_
  have sA : Same H H8 := ((((((s1.trans s2).trans s3).trans s4).more hx1).more hx2).trans s7).trans s8
  refine q _ x5 (((sA.more hx3).more hx4).more hx5) ?_ ?_
  · exact (((sA.more hx3).more hx4)).free hx5
  · have e : Vbwsai.encodeFrame l = ((Vbwsai.twoBytes (Vbwsai.encodeRow l).length ++ Vbwsai.twoBytes (Vbwsai.checksum (Vbwsai.twoBytes (Vbwsai.encodeRow l).length))) ++ Vbwsai.encodeRow l ++ Vbwsai.twoBytes (Vbwsai.checksum (Vbwsai.encodeRow l))) ++ [165] := by
      simp [Vbwsai.encodeFrame, Vbwsai.endByte, List.append_assoc]
    rw [e, ← nv_app]
    exact upd_same
theorem pure_part_integer (vs : List V) (H : Hp) (Q : VK) (E : XK) (h : sp_part_integer K vs H Q E) : t_part_integer K { nx := fun _ H' => Q .non H', rt := Q } (start ["part", "natural", "by", "byte"] vs) H := by
  obtain ⟨a, p, rfl, ha, q⟩ := h
  unfold t_part_integer
  tm_at "x"
  refine x_srcL ha ?_
  refine x_loop src_list (fun i σ H' => ∃ (n k : Nat) (v : Option V), σ = [some (.ref a), some (.int (n : Int)), some (.int (k : Int)), v] ∧ Same H H' ∧ n + k * partNat (p.drop i) = partNat p) ⟨0, 1, _, rfl, Same.refl _, by simp⟩ (fun i σ H' ⟨_, _, _, _, s, _⟩ => s _ _ ha) ?_ ?_
  · rintro i x σ H1 H2 hi ⟨n, k, v, rfl, s, e⟩ s2 hx
    obtain ⟨y, hy, rfl⟩ := nv_at hx
    rw [nv_len] at hi
    tm_at "x"
    refine x_modN 128 (by decide) ?_
    tm_at "x"
    refine x_mulL ?_ ?_
    · constructor <;> omega
    tm_at "x"
    refine ⟨n + y % 128 * k, k * 128, some (.int (y : Int)), ?_, s.trans s2, ?_⟩
    · push_cast
      rfl
    · rw [← e, List.drop_eq_getElem_cons hi]
      have ey : p[i] = y := by
        rw [List.getElem?_eq_getElem hi] at hy
        exact Option.some.inj hy
      rw [ey]
      show _ = n + k * (y % 128 + 128 * partNat (p.drop (i + 1)))
      rw [Nat.mul_add, Nat.mul_comm k (y % 128), Nat.add_assoc, Nat.mul_assoc]
  · rintro σ H' ⟨n, k, v, rfl, s, e⟩
    rw [nv_len, List.drop_length] at e
    have e2 : n = partNat p := by simpa [partNat] using e
    subst e2
    tm_at "x"
    exact ⟨_, rfl, q _ s⟩
end
end Ts
/-! ## TsP2 -/
namespace Ts
open PySem PySem.Spec PyProof.Rows L2
/-- the steps that leave no choice -/
local macro_rules | `(tactic| tm_at "x") => `(tactic| repeat (first | (with_reducible refine x_var ?_; refine ⟨_, rfl, ?_⟩) | with_reducible refine x_seq ?_ | with_reducible refine x_asg ?_ | with_reducible refine x_gname ?_ | with_reducible refine x_op ?_ | with_reducible refine x_c ?_ | with_reducible refine x_I0 ?_ | with_reducible refine x_if ?_ | with_reducible refine x_test ?_ | with_reducible refine x_bl ?_ | with_reducible refine x_blV ?_ | with_reducible refine x_ret ?_ | with_reducible refine x_retN ?_ | with_reducible refine x_drop ?_ | with_reducible refine x_cons ?_ | with_reducible refine x_nil ?_ | with_reducible refine x_call ?_ | with_reducible refine x_cb ?_ | with_reducible refine x_tB ?_ | with_reducible refine x_not ?_ | with_reducible refine x_and ?_ | with_reducible refine x_or ?_ | with_reducible refine x_andV ?_ | with_reducible refine x_orV ?_ | with_reducible refine x_notV ?_ | with_reducible refine x_chain ?_ | with_reducible refine x_un ?_ | with_reducible refine x_U ?_ | with_reducible refine x_mulL (by decide) ?_ | with_reducible refine x_mulR (by decide) ?_ | with_reducible refine x_isN ?_ | with_reducible refine x_notN ?_ | with_reducible refine x_sl ?_ | with_reducible refine x_noPart ?_ | with_reducible refine x_part ?_ | with_reducible refine x_int ?_ | with_reducible refine x_bm ?_ | with_reducible refine x_ipI ?_ | with_reducible refine x_next ?_ | with_reducible refine x_refN ?_ | with_reducible refine x_intN ?_ | with_reducible refine x_nonN ?_ | with_reducible refine x_refNN ?_ | with_reducible refine x_nonNN ?_ | with_reducible refine x_yes ?_ | with_reducible refine x_no ?_ | with_reducible refine x_gcons ?_ | with_reducible refine x_gnil ?_ | with_reducible refine x_lst ?_ | with_reducible refine x_tup ?_ | with_reducible refine x_dnewK ?_ | with_reducible refine x_for ?_ | with_reducible refine x_iList ?_ | with_reducible refine x_iTup ?_ | with_reducible refine x_iEnum ?_ | with_reducible refine x_iZip ?_ | with_reducible refine x_iRng3 ?_ | with_reducible refine x_lc ?_ | with_reducible refine x_dput ?_ | with_reducible refine x_dget ?_ | with_reducible refine x_din ?_ | with_reducible refine x_dpop ?_ | (with_reducible refine x_aug ?_; refine ⟨_, rfl, ?_⟩)))
section
variable {K : PySem.W.Frag}
theorem pure_parts_of (vs : List V) (H : Hp) (Q : VK) (E : XK) (h : sp_parts_of K vs H Q E) : t_parts_of K { nx := fun _ H' => Q .non H', rt := Q } (start ["payload", "found", "byte"] vs) H := by
  obtain ⟨a, p, rfl, ha, hl, q⟩ := h
  have hm : p.length ≤ 1000000 := hl
  unfold t_parts_of
  tm_at "x"
  refine ⟨sz (by simp), fun c0 hc0 => ?_⟩
  tm_at "x"
  refine ⟨sz (by simp), fun f hf => ?_⟩
  tm_at "x"
  have s0 : Same H (upd (upd H c0 (.lst [])) f (.lst [.ref c0])) := (Same.new hc0).more hf
  have hfH : H f = none := (Same.new hc0).free hf
  have hne : c0 ≠ f := ne_of_none upd_same hf
  refine x_srcL (s0 _ _ ha) ?_
  refine x_loop src_list (fun i σ H' => ∃ (v : Option V) (as : List Addr) (c : Addr) (pre : List (List Nat)) (cur : List Nat), σ = [some (.ref a), some (.ref f), v] ∧ Same H H' ∧ H' f = some (.lst ((as ++ [c]).map V.ref)) ∧ Nls H' as pre ∧ H' c = some (.lst (nv cur)) ∧
      (∀ x ∈ as, x ≠ c) ∧ H c = none ∧ c ≠ f ∧ (∀ x ∈ as, x ≠ f) ∧ pre.length ≤ i ∧ cur.length ≤ i ∧ pre ++ glue cur (cuts (p.drop i)) = cuts p)
    ⟨none, [], c0, [], [], rfl, s0, upd_same, .nil, by rw [upd_ne hne]; exact upd_same, by simp, hc0, hne, by simp, Nat.le_refl _, Nat.le_refl _, by rw [List.nil_append, List.drop_zero]; exact glue_nil _ (cuts_ne _)⟩
    (fun i σ H' h => by obtain ⟨_, _, _, _, _, _, s, _⟩ := h; exact s _ _ ha) ?_ ?_
  · rintro i x σ H1 H2 hi ⟨v, as, c, pre, cur, rfl, s, e1, e2, e3, e4, e5, e6, e7, e8, e9, e10⟩ s2 hx
    obtain ⟨n, hn, rfl⟩ := nv_at hx
    rw [nv_len] at hi
    have hn2 : p[i] = n := by
      rw [List.getElem?_eq_getElem hi] at hn
      exact Option.some.inj hn
    rw [List.drop_eq_getElem_cons hi, hn2] at e10
    tm_at "x"
    refine x_ixL (s2 _ _ e1) (atI_neg (v := .ref c) (by simp)) ?_
    tm_at "x"
    refine x_tyL (s2 _ _ e3) ?_
    tm_at "x"
    refine x_append (s2 _ _ e3) (szl (by rw [nv_len]; omega)) ?_
    rw [nv_app]
    tm_at "x"
    have s3 : Same H (upd H2 c (.lst (nv (cur ++ [n])))) := (s.trans s2).mut e5
    have f3 : upd H2 c (.lst (nv (cur ++ [n]))) f = some (.lst ((as ++ [c]).map V.ref)) := by rw [upd_ne (Ne.symm e6)]; exact s2 _ _ e1
    have n3 : Nls (upd H2 c (.lst (nv (cur ++ [n])))) as pre := pair_mem (e2.same s2) fun x l m e => by
      have := e4 x m
      rw [upd_ne this]
      exact e
    refine x_ite (fun k => ?_) fun k => ?_
    · tm_at "x"
      refine x_tyL f3 ?_
      tm_at "x"
      refine ⟨sz (by simp), fun c' hc' => ?_⟩
      tm_at "x"
      have k' : n < 128 := by omega
      have f4 : upd (upd H2 c (.lst (nv (cur ++ [n])))) c' (.lst []) f = some (.lst ((as ++ [c]).map V.ref)) := Same.new hc' _ _ f3
      have al : as.length = pre.length := e2.length
      refine x_append f4 (szl (by simp; omega)) ?_
      have cf : c' ≠ f := Ne.symm (ne_of_none f3 hc')
      have cc : c ≠ c' := ne_of_none upd_same hc'
      refine ⟨_, as ++ [c], c', pre ++ [cur ++ [n]], [], rfl, (s3.more hc').mut hfH, ?_, ?_, ?_, ?_, ?_, cf, ?_, ?_, by simp, ?_⟩
      · rw [upd_same]
        simp
      · refine (pair_mem n3 fun x l m e => ?_).snoc ?_
        · rw [upd_ne (e7 x m), upd_ne (ne_of_none e hc')]
          exact e
        · show upd (upd (upd H2 c _) c' _) f _ c = _
          rw [upd_ne e6, upd_ne cc]
          exact upd_same
      · rw [upd_ne cf]
        exact upd_same
      · intro x m
        rcases List.mem_append.mp m with m | m
        · obtain ⟨l, el⟩ := n3.there m
          exact ne_of_none el hc'
        · have : x = c := by simpa using m
          rw [this]
          exact cc
      · exact s3.free hc'
      · intro x m
        rcases List.mem_append.mp m with m | m
        · exact e7 x m
        · have : x = c := by simpa using m
          rw [this]
          exact e6
      · simp
        omega
      · rw [glue_nil _ (cuts_ne _)]
        rw [glue_lt k'] at e10
        rw [← e10]
        simp
    · tm_at "x"
      have k' : ¬ n < 128 := by omega
      refine ⟨_, as, c, pre, cur ++ [n], rfl, s3, f3, n3, upd_same, e4, e5, e6, e7, by omega, by simp; omega, ?_⟩
      rw [glue_ge k'] at e10
      exact e10
  · rintro σ H' ⟨v, as, c, pre, cur, rfl, s, e1, e2, e3, e4, e5, e6, e7, e8, e9, e10⟩
    rw [nv_len, List.drop_length] at e10
    tm_at "x"
    refine q H' f (as ++ [c]) s e1 ?_
    have z : cuts p = pre ++ [cur] := by
      rw [← e10]
      simp [cuts, glue]
    rw [z]
    exact e2.snoc e3
theorem pure_decoded (vs : List V) (H : Hp) (Q : VK) (E : XK) (h : sp_decoded K vs H Q E) : t_decoded K { nx := fun _ H' => Q .non H', rt := Q } (start ["payload", "parts", "part"] vs) H := by
  obtain ⟨a, p, rfl, ha, hl, q⟩ := h
  have hm : p.length ≤ 1000000 := hl
  have hc := cuts_len p
  unfold t_decoded
  tm_at "x"
  refine ⟨a, p, rfl, ha, hl, fun H1 f as s1 e1 n1 => ?_⟩
  have al : as.length = (cuts p).length := n1.length
  tm_at "x"
  -- the last part
  obtain ⟨c, hc1, hc2⟩ := pair_at' n1 (i := (cuts p).length - 1) (b := (cuts p).getLast (cuts_ne p)) (by rw [List.getLast_eq_getElem]; exact List.getElem?_eq_getElem _)
  have hlast : (as.map V.ref).getLast? = some (.ref c) := by
    rw [List.getLast?_eq_getElem?, List.length_map, al, List.getElem?_map, hc1]
    rfl
  refine x_ixL e1 (atI_neg hlast) ?_
  tm_at "x"
  refine ⟨sz (by simp), fun z hz => ?_⟩
  have s2 : Same H1 (upd H1 z (.lst [])) := Same.new hz
  refine x_neN (r := []) (s2 _ _ hc2) upd_same ?_
  tm_at "x"
  refine x_iteN (fun k => ?_) fun k => ?_
  · tm_at "x"
    have d : decoded p = none := if_pos (.inl k)
    rw [d] at q
    exact q _ (s1.trans s2)
  · tm_at "x"
    refine x_srcLc (s2 _ _ e1) ?_
    refine x_compM src_list (cuts p) (fun x => V.bl (decide (12 < x.length))) (by rw [List.length_map, al]) (by rw [List.length_map, al]; omega) (fun H' s => s _ _ (s2 _ _ e1)) ?_ ?_
    · intro i x l H3 N hi s3 hx hN
      obtain ⟨b, hb, rfl⟩ := ref_at hx
      obtain ⟨l', hl1, hl2⟩ := pair_at n1 hb
      have : l' = l := Option.some.inj (hl1.symm.trans hi)
      subst this
      tm_at "x"
      refine ⟨rfl, ?_⟩
      tm_at "x"
      refine x_lenL (s3 _ _ (s2 _ _ hl2)) ?_
      tm_at "x"
      have e : decide ((12 : Int) < ((nv l').length : Int)) = decide (12 < l'.length) := decide_eq_decide.mpr (by rw [nv_len]; omega)
      show N (.bl (decide ((12 : Int) < ((nv l').length : Int)))) H3
      rw [e]
      exact hN _ (Same.refl _)
    · intro H3 D s3 hD eD
      tm_at "x"
      have eD2 : H3 D = some (.lst (((cuts p).map fun x => decide (12 < x.length)).map V.bl)) := by rw [eD, List.map_map]; rfl
      refine x_any eD2 ?_
      tm_at "x"
      have eany : ((cuts p).map fun x => decide (12 < x.length)).any id = (cuts p).any fun x => decide (12 < x.length) := by rw [List.any_map]; rfl
      rw [eany]
      refine x_iteB (fun k2 => ?_) fun k2 => ?_
      · tm_at "x"
        have d : decoded p = none := if_pos (.inr k2)
        rw [d] at q
        exact q _ ((s1.trans s2).trans s3)
      · have d : decoded p = some ((cuts p).dropLast.map fun x => Vbwsai.zigzagDecode (partNat x)) := if_neg (by
          intro o
          rcases o with o | o
          · exact o k
          · rw [k2] at o
            cases o)
        rw [d] at q
        tm_at "x"
        have s4 : Same H1 H3 := s2.trans s3
        refine x_slL (s4 _ _ e1) fun y hy => ?_
        rw [cutV_init]
        have dl : (as.map V.ref).dropLast = as.dropLast.map V.ref := by simp
        rw [dl]
        tm_at "x"
        refine x_srcLc upd_same ?_
        have s5 : Same H1 (upd H3 y (.lst (as.dropLast.map V.ref))) := s4.more hy
        refine x_compM src_list (cuts p).dropLast (fun x => V.int (Vbwsai.zigzagDecode (partNat x))) (by simp [al]) (by simp [al]; omega) (fun H' s => s _ _ upd_same) ?_ ?_
        · intro i x l H5 N hi s6 hx hN
          obtain ⟨b, hb, rfl⟩ := ref_at hx
          have hb2 : as[i]? = some b := by
            have : i < as.dropLast.length := by
              rcases Nat.lt_or_ge i as.dropLast.length with z | z
              · exact z
              · rw [List.getElem?_eq_none z] at hb
                cases hb
            rw [List.getElem?_dropLast] at hb
            split at hb
            · exact hb
            · cases hb
          have hl2 : (cuts p)[i]? = some l := by
            rw [List.getElem?_dropLast] at hi
            split at hi
            · exact hi
            · cases hi
          obtain ⟨l', hl3, hl4⟩ := pair_at n1 hb2
          have : l' = l := Option.some.inj (hl3.symm.trans hl2)
          subst this
          tm_at "x"
          refine ⟨rfl, ?_⟩
          tm_at "x"
          exact ⟨b, l', rfl, s6 _ _ (s5 _ _ hl4), fun H6 s7 => hN _ s7⟩
        · intro H5 D2 s6 hD2 eD2
          refine q H5 D2 (s1.trans (s5.trans s6)) ((s1.trans s5).free hD2) ?_
          rw [eD2, iv, List.map_map]
          rfl
theorem pure_frame_at (vs : List V) (H : Hp) (Q : VK) (E : XK) (h : sp_frame_at K vs H Q E) : t_frame_at K { nx := fun _ H' => Q .non H', rt := Q } (start ["data", "at", "head", "size", "end", "payload", "row"] vs) H := by
  obtain ⟨a, b, i, rfl, ha, hl, hb, q⟩ := h
  have hm : b.length ≤ 1000000 := hl
  unfold t_frame_at
  tm_at "x"
  refine x_lenL ha ?_
  rw [nv_len]
  tm_at "x"
  refine x_ite (fun c => ?_) fun c => ?_
  · tm_at "x"
    rw [frameAt_short (by omega)] at q
    exact q _ (Same.refl _)
  · have c' : i + 7 ≤ b.length := by omega
    have i0 : i < b.length := by omega
    have i1 : i + 1 < b.length := by omega
    have hx := List.getElem?_eq_getElem i0
    have hy := List.getElem?_eq_getElem i1
    have bx := hb b[i] (List.getElem_mem i0)
    have by' := hb b[i + 1] (List.getElem_mem i1)
    have e := frameAt_long c' hx hy hb
    generalize hxv : b[i] = x at hx bx e
    generalize hyv : b[i + 1] = y at hy by' e
    rw [e] at q
    tm_at "x"
    refine x_slL ha fun p1 hp1 => ?_
    have cut1 : cutV (nv b) (some (i : Int)) (some ((i : Int) + 2)) = nv [x, y] := by
      rw [show ((i : Int) + 2) = ((i + 2 : Nat) : Int) from by push_cast; rfl, cutV_nat, show i + 2 - i = 2 from by omega]
      rw [List.drop_eq_getElem_cons (by rw [nv_len]; exact i0), List.take_succ_cons, List.drop_eq_getElem_cons (by rw [nv_len]; exact i1), List.take_succ_cons, List.take_zero]
      simp [nv, hxv, hyv]
    rw [cut1]
    have s1 : Same H (upd H p1 (.lst (nv [x, y]))) := Same.new hp1
    tm_at "x"
    refine x_ixL upd_same (atI_of (j := 0) rfl rfl) ?_
    tm_at "x"
    refine x_ixL upd_same (atI_of (j := 1) rfl rfl) ?_
    tm_at "x"
    refine x_lenL (s1 _ _ ha) ?_
    rw [nv_len]
    tm_at "x"
    have ez : (x : Int) * 256 + (y : Int) = ((x * 256 + y : Nat) : Int) := by push_cast; rfl
    have esz : x * 256 + y < 65536 := by omega
    rw [ez]
    generalize x * 256 + y = z at esz q
    refine x_ite (fun c2 => ?_) fun c2 => ?_
    · tm_at "x"
      rw [if_pos (by omega)] at q
      exact q _ s1
    · rw [if_neg (by omega)] at q
      tm_at "x"
      -- the head's checksum
      refine x_slL (s1 _ _ ha) fun p2 hp2 => ?_
      have cut2 : cutV (nv b) (some ((i : Int) + 2)) (some ((i : Int) + 2 * 2)) = nv ((b.drop (i + 2)).take 2) := by
        rw [show ((i : Int) + 2) = ((i + 2 : Nat) : Int) from by push_cast; rfl, show ((i : Int) + 2 * 2) = ((i + 4 : Nat) : Int) from by push_cast; rfl, cutV_nat, show i + 4 - (i + 2) = 2 from by omega]
        simp [nv, List.map_drop, List.map_take]
      rw [cut2]
      have s2 : Same H (upd (upd H p1 (.lst (nv [x, y]))) p2 (.lst (nv ((b.drop (i + 2)).take 2)))) := s1.more hp2
      have h2 := (Same.new hp2 (o := .lst (nv ((b.drop (i + 2)).take 2)))) _ _ (upd_same (H := H) (a := p1) (o := .lst (nv [x, y])))
      tm_at "x"
      refine ⟨p1, _, rfl, h2, by unfold most; simp, fun H3 s3 => ?_⟩
      tm_at "x"
      refine ⟨_, rfl, Nat.lt_of_lt_of_le (checksum_lt _) (by decide), fun H4 p4 s4 hp4 e4 => ?_⟩
      refine x_neN (s4 _ _ (s3 _ _ upd_same)) e4 ?_
      have s5 : Same H H4 := (s2.trans s3).trans s4
      tm_at "x"
      refine x_iteN (fun c3 => ?_) fun c3 => ?_
      · rw [if_pos c3] at q
        tm_at "x"
        exact q _ s5
      · rw [if_neg (fun k => k c3)] at q
        tm_at "x"
        refine x_slL (s5 _ _ ha) fun p5 hp5 => ?_
        have cut3 : cutV (nv b) (some ((i : Int) + 2 * 2)) (some ((i : Int) + 2 * 2 + (z : Int))) = nv ((b.drop (i + 4)).take z) := by
          rw [show ((i : Int) + 2 * 2) = ((i + 4 : Nat) : Int) from by push_cast; rfl, show (((i + 4 : Nat) : Int) + (z : Int)) = ((i + 4 + z : Nat) : Int) from by push_cast; rfl, cutV_nat, show i + 4 + z - (i + 4) = z from by omega]
          simp [nv, List.map_drop, List.map_take]
        rw [cut3]
        generalize hpl : (b.drop (i + 4)).take z = pl at q
        have hpll : pl.length ≤ b.length := by rw [← hpl, List.length_take, List.length_drop]; omega
        have s6 : Same H (upd H4 p5 (.lst (nv pl))) := s5.more hp5
        tm_at "x"
        refine x_slL (s6 _ _ ha) fun p6 hp6 => ?_
        have cut4 : cutV (nv b) (some ((i : Int) + 7 + (z : Int) - 1 - 2)) (some ((i : Int) + 7 + (z : Int) - 1)) = nv ((b.drop (i + 4 + z)).take 2) := by
          rw [show ((i : Int) + 7 + (z : Int) - 1 - 2) = ((i + 4 + z : Nat) : Int) from by push_cast; omega, show ((i : Int) + 7 + (z : Int) - 1) = ((i + 6 + z : Nat) : Int) from by push_cast; omega, cutV_nat, show i + 6 + z - (i + 4 + z) = 2 from by omega]
          simp [nv, List.map_drop, List.map_take]
        rw [cut4]
        have s7 := s6.more hp6 (o := .lst (nv ((b.drop (i + 4 + z)).take 2)))
        tm_at "x"
        refine ⟨p5, pl, rfl, Same.new hp6 _ _ upd_same, Nat.le_trans hpll hl, fun H8 s8 => ?_⟩
        tm_at "x"
        refine ⟨_, rfl, Nat.lt_of_lt_of_le (checksum_lt _) (by decide), fun H9 p9 s9 hp9 e9 => ?_⟩
        refine x_neN (s9 _ _ (s8 _ _ upd_same)) e9 ?_
        have s10 : Same H H9 := (s7.trans s8).trans s9
        have e5 : H9 p5 = some (.lst (nv pl)) := s9 _ _ (s8 _ _ (Same.new hp6 _ _ upd_same))
        tm_at "x"
        refine x_iteN (fun c4 => ?_) fun c4 => ?_
        · rw [if_pos (.inl c4)] at q
          tm_at "x"
          exact q _ s10
        · tm_at "x"
          have h6 : i + 6 + z < b.length := by omega
          have g6 := List.getElem?_eq_getElem h6
          generalize hw : b[i + 6 + z] = w at g6
          refine x_ixL (v := .int (w : Int)) (s10 _ _ ha) (atI_of (j := i + 6 + z) (by push_cast; omega) (by rw [List.getElem?_map, g6]; rfl)) ?_
          tm_at "x"
          refine x_iteN (fun c5 => ?_) fun c5 => ?_
          · rw [if_pos (.inr (by rw [g6]; intro k; cases k; exact c5 rfl))] at q
            tm_at "x"
            exact q _ s10
          · have c5' : w = 165 := by omega
            subst c5'
            rw [if_neg (by intro k; rcases k with k | k; exact k c4; exact k g6)] at q
            tm_at "x"
            refine ⟨p5, pl, rfl, e5, Nat.le_trans hpll hl, ?_⟩
            cases hd : decoded pl with
            | none =>
              rw [hd] at q
              intro H11 s11
              tm_at "x"
              exact q _ (s10.trans s11)
            | some l =>
              rw [hd] at q
              intro H11 r s11 hr er
              tm_at "x"
              refine ⟨sz (by simp), fun t ht => ?_⟩
              refine q _ t r ((s10.trans s11).more ht) (s10.free hr) ?_ ?_
              · rw [upd_same]
                congr 3
              · exact Same.new ht _ _ er
def FrN (B : Hp) (f : Addr) (H : Hp) : List Addr → List (List Int × Nat) → Prop := Paired fun a x => ∃ r, B r = none ∧ a ≠ f ∧ r ≠ f ∧ H a = some (.tup [.ref r, .int (x.2 : Int)]) ∧ H r = some (.lst (iv x.1))
theorem FrN.frs {B : Hp} {f : Addr} {H : Hp} {as : List Addr} {fs : List (List Int × Nat)} (h : FrN B f H as fs) : Frs B H as fs := pair_mem h fun _ _ _ ⟨r, h0, _, _, h1, h2⟩ => ⟨r, h0, h1, h2⟩
theorem FrN.same {B : Hp} {f : Addr} {H H' : Hp} {as : List Addr} {fs : List (List Int × Nat)} (s : Same H H') (h : FrN B f H as fs) : FrN B f H' as fs := pair_mem h fun _ _ _ ⟨r, h0, h1, h2, h3, h4⟩ => ⟨r, h0, h1, h2, s _ _ h3, s _ _ h4⟩
theorem pure_frames_in (vs : List V) (H : Hp) (Q : VK) (E : XK) (h : sp_frames_in K vs H Q E) : t_frames_in K { nx := fun _ H' => Q .non H', rt := Q } (start ["data", "found", "frame"] vs) H := by
  obtain ⟨a, b, rfl, ha, hl, hb, q⟩ := h
  have hm : b.length ≤ 1000000 := hl
  unfold t_frames_in
  tm_at "x"
  refine ⟨sz (by simp), fun f hf => ?_⟩
  tm_at "x"
  have s0 : Same H (upd H f (.lst [])) := Same.new hf
  refine ⟨a, b, 0, rfl, s0 _ _ ha, hl, hb, ?_⟩
  -- the loop, from any state of it
  have loop : ∀ (D : Ends) (σ : L2.St) (H1 : Hp), (∃ (k i : Nat) (done : List (List Int × Nat)) (as : List Addr) (v : V), σ = [some (.ref a), some (.ref f), some v] ∧ Same H H1 ∧ H1 f = some (.lst (as.map V.ref)) ∧ FrN H f H1 as done ∧
        b.length < k + i ∧ i ≤ b.length ∧ 7 * done.length ≤ i ∧ framesOf b = done ++ framesGo k b i ∧ (match frameAt b i with | none => v = .non | some g => ∃ p r, v = .ref p ∧ p ≠ f ∧ H r = none ∧ r ≠ f ∧ H1 p = some (.tup [.ref r, .int (g.2 : Int)]) ∧ H1 r = some (.lst (iv g.1)))) →
      (∀ σ' H' as, Same H H' → H' f = some (.lst (as.map V.ref)) → Frs H H' as (framesOf b) → (∃ v, σ' = [some (.ref a), some (.ref f), v]) → D.nx σ' H') →
      tWhile (tTest (tOp rNotN (tVar 2) (tC .non))) (tSeq (tDrop (tBM K "list" rAppend (tVar 1) (tCons (tVar 2) tNil))) (tAsg (tCall (sp_frame_at K) [] E0 (tCons (tVar 0) (tCons (tOp (rIxT K) (tVar 2) (tC (.int 1))) tNil))) (gName 2))) D σ H1 := by
    intro D σ H1 h0 hD
    obtain ⟨k, i, done, as, v, e0, h1, h2, h3, h5, h6, h6b, h7, h8⟩ := h0
    refine x_while (fun m σ H1 => ∃ (k i : Nat) (done : List (List Int × Nat)) (as : List Addr) (v : V), m = b.length - i ∧ σ = [some (.ref a), some (.ref f), some v] ∧ Same H H1 ∧ H1 f = some (.lst (as.map V.ref)) ∧ FrN H f H1 as done ∧
        b.length < k + i ∧ i ≤ b.length ∧ 7 * done.length ≤ i ∧ framesOf b = done ++ framesGo k b i ∧ (match frameAt b i with | none => v = .non | some g => ∃ p r, v = .ref p ∧ p ≠ f ∧ H r = none ∧ r ≠ f ∧ H1 p = some (.tup [.ref r, .int (g.2 : Int)]) ∧ H1 r = some (.lst (iv g.1)))) (b.length - i) ⟨k, i, done, as, v, rfl, e0, h1, h2, h3, h5, h6, h6b, h7, h8⟩ ?_
    rintro m σ H1 ⟨k, i, done, as, v, rfl, rfl, h1, h2, h3, h5, h6, h6b, h7, h8⟩
    tm_at "x"
    cases e : frameAt b i with
    | none =>
      rw [e] at h8
      subst h8
      have z : framesGo k b i = [] := by
        cases k with
        | zero => rfl
        | succ k =>
          unfold framesGo
          rw [e]
      rw [z, List.append_nil] at h7
      tm_at "x"
      exact hD _ _ as h1 h2 (h7 ▸ FrN.frs h3) ⟨_, rfl⟩
    | some g =>
      rw [e] at h8
      obtain ⟨p, r, rfl, hpf, hrH, hrf, hp, hr⟩ := h8
      obtain ⟨g1, g2, g3⟩ := frameAt_end hb e
      obtain ⟨k, rfl⟩ : ∃ k', k = k' + 1 := ⟨k - 1, by omega⟩
      have z : framesGo (k + 1) b i = g :: framesGo k b g.2 := by
        conv => lhs; unfold framesGo
        rw [e]
      rw [z] at h7
      have al : as.length = done.length := h3.length
      tm_at "x"
      refine x_body ?_
      tm_at "x"
      refine x_tyL h2 ?_
      tm_at "x"
      refine x_append h2 (szl (by simp; omega)) ?_
      tm_at "x"
      have keep : ∀ x o, H1 x = some o → x ≠ f → upd H1 f (.lst (as.map V.ref ++ [.ref p])) x = some o := fun x o q hx => by rw [upd_ne hx]; exact q
      refine x_ixT (keep _ _ hp hpf) (atI_of (j := 1) rfl rfl) ?_
      tm_at "x"
      have s1 : Same H (upd H1 f (.lst (as.map V.ref ++ [.ref p]))) := h1.mut hf
      have f1 : upd H1 f (.lst (as.map V.ref ++ [.ref p])) f = some (.lst ((as ++ [p]).map V.ref)) := by rw [upd_same]; simp
      have n1 : FrN H f (upd H1 f (.lst (as.map V.ref ++ [.ref p]))) (as ++ [p]) (done ++ [g]) :=
        (pair_mem h3 fun x y mx q => by
          obtain ⟨r', q0, q1, q2, q3, q4⟩ := q
          exact ⟨r', q0, q1, q2, keep _ _ q3 q1, keep _ _ q4 q2⟩).snoc ⟨r, hrH, hpf, hrf, keep _ _ hp hpf, keep _ _ hr hrf⟩
      have m1 : upd H1 f (.lst (as.map V.ref ++ [.ref p])) f ≠ none := by rw [f1]; simp
      refine ⟨a, b, g.2, rfl, s1 _ _ ha, hl, hb, ?_⟩
      cases e2 : frameAt b g.2 with
      | none =>
        intro H3 s3
        tm_at "x"
        refine ⟨_, ?_, k, g.2, done ++ [g], as ++ [p], .non, rfl, rfl, s1.trans s3, s3 _ _ f1, FrN.same s3 n1, by omega, by omega, by simp; omega, by rw [h7]; simp, by rw [e2]⟩
        omega
      | some g' =>
        intro H3 p' r' s3 hr' q1 q2
        tm_at "x"
        refine ⟨_, ?_, k, g.2, done ++ [g], as ++ [p], .ref p', rfl, rfl, s1.trans s3, s3 _ _ f1, FrN.same s3 n1, by omega, by omega, by simp; omega, by rw [h7]; simp, by rw [e2]; exact ⟨p', r', rfl, Ne.symm (ne_of (s3 _ _ f1) q1 (by simp)), s1.free hr', fun z => m1 (z ▸ hr'), q1, q2⟩⟩
        omega
  have start0 : ∀ (v : V) (H1 : Hp), Same (upd H f (.lst [])) H1 → (match frameAt b 0 with | none => v = .non | some g => ∃ p r, v = .ref p ∧ p ≠ f ∧ H r = none ∧ r ≠ f ∧ H1 p = some (.tup [.ref r, .int (g.2 : Int)]) ∧ H1 r = some (.lst (iv g.1))) →
      (∃ (k i : Nat) (done : List (List Int × Nat)) (as : List Addr) (w : V), [some (.ref a), some (.ref f), some v] = [some (.ref a), some (.ref f), some w] ∧ Same H H1 ∧ H1 f = some (.lst (as.map V.ref)) ∧ FrN H f H1 as done ∧
        b.length < k + i ∧ i ≤ b.length ∧ 7 * done.length ≤ i ∧ framesOf b = done ++ framesGo k b i ∧ (match frameAt b i with | none => w = .non | some g => ∃ p r, w = .ref p ∧ p ≠ f ∧ H r = none ∧ r ≠ f ∧ H1 p = some (.tup [.ref r, .int (g.2 : Int)]) ∧ H1 r = some (.lst (iv g.1)))) :=
    fun v H1 s hv => ⟨b.length + 1, 0, [], [], v, rfl, s0.trans s, s _ _ upd_same, .nil, by omega, by omega, by simp, rfl, hv⟩
  have fin : ∀ (σ' : L2.St) (H' : Hp) (as : List Addr), Same H H' → H' f = some (.lst (as.map V.ref)) → Frs H H' as (framesOf b) → (∃ v, σ' = [some (.ref a), some (.ref f), v]) → tRet (tVar 1) { nx := fun _ H' => Q .non H', rt := Q } σ' H' := by
    rintro σ' H' as h1 h2 h3 ⟨v, rfl⟩
    tm_at "x"
    exact q H' f as h1 hf h2 h3
  cases e : frameAt b 0 with
  | none =>
    intro H1 s1
    tm_at "x"
    exact loop _ _ _ (start0 _ _ s1 (by rw [e])) fin
  | some g =>
    intro H1 p r s1 hr q1 q2
    tm_at "x"
    have rf : r ≠ f := fun z => by
      rw [z, upd_same] at hr
      cases hr
    exact loop _ _ _ (start0 _ _ s1 (by rw [e]; exact ⟨p, r, rfl, Ne.symm (ne_of (s1 _ _ upd_same) q1 (by simp)), s0.free hr, rf, q1, q2⟩)) fin
theorem pure_only_row (vs : List V) (H : Hp) (Q : VK) (E : XK) (h : sp_only_row K vs H Q E) : t_only_row K { nx := fun _ H' => Q .non H', rt := Q } (start ["data", "frame"] vs) H := by
  obtain ⟨a, b, rfl, ha, hl, hb, q⟩ := h
  unfold t_only_row
  tm_at "x"
  refine ⟨a, b, 0, rfl, ha, hl, hb, ?_⟩
  have ho : onlyRow b = (frameAt b 0).bind fun f => if f.2 = b.length then some f.1 else none := by
    cases e : frameAt b 0 with
    | none =>
      unfold frameAt at e
      rw [List.drop_zero, Option.map_eq_none_iff] at e
      unfold onlyRow
      rw [e]
      rfl
    | some f =>
      obtain ⟨e1, e2, e3⟩ := frameAt_end hb e
      rw [List.drop_zero] at e3
      unfold onlyRow
      rw [e3]
      show _ = if f.2 = b.length then some f.1 else none
      by_cases k : f.2 = b.length
      · rw [if_pos k, k, List.drop_length]
      · rw [if_neg k]
        cases e4 : b.drop f.2 with
        | nil =>
          have := congrArg List.length e4
          rw [List.length_drop] at this
          simp at this
          omega
        | cons x r => rfl
  rw [ho] at q
  cases e : frameAt b 0 with
  | none =>
    rw [e] at q
    intro H1 s1
    tm_at "x"
    exact q _ s1
  | some f =>
    rw [e] at q
    intro H1 p r s1 _ e1 e2
    tm_at "x"
    refine x_ixT e1 (atI_of (j := 1) rfl rfl) ?_
    tm_at "x"
    refine x_lenL (s1 _ _ ha) ?_
    rw [nv_len]
    tm_at "x"
    change (match (if f.2 = b.length then some f.1 else none) with | none => _ | some l => _) at q
    refine x_iteN (fun c => ?_) fun c => ?_
    · rw [if_neg (by omega)] at q
      tm_at "x"
      exact q _ s1
    · rw [if_pos (by omega)] at q
      tm_at "x"
      refine x_ixT e1 (atI_of (j := 0) rfl rfl) ?_
      tm_at "x"
      exact q _ r s1 e2
end
end Ts
/-! ## TsP3 -/
namespace Ts
open PySem PySem.Spec PyProof.Rows L2
/-- the steps that leave no choice -/
local macro_rules | `(tactic| tm_at "x") => `(tactic| repeat (first | (with_reducible refine x_var ?_; refine ⟨_, rfl, ?_⟩) | with_reducible refine x_seq ?_ | with_reducible refine x_asg ?_ | with_reducible refine x_gname ?_ | with_reducible refine x_op ?_ | with_reducible refine x_c ?_ | with_reducible refine x_I0 ?_ | with_reducible refine x_if ?_ | with_reducible refine x_test ?_ | with_reducible refine x_bl ?_ | with_reducible refine x_blV ?_ | with_reducible refine x_ret ?_ | with_reducible refine x_retN ?_ | with_reducible refine x_drop ?_ | with_reducible refine x_cons ?_ | with_reducible refine x_nil ?_ | with_reducible refine x_call ?_ | with_reducible refine x_cb ?_ | with_reducible refine x_tB ?_ | with_reducible refine x_not ?_ | with_reducible refine x_and ?_ | with_reducible refine x_or ?_ | with_reducible refine x_andV ?_ | with_reducible refine x_orV ?_ | with_reducible refine x_notV ?_ | with_reducible refine x_chain ?_ | with_reducible refine x_un ?_ | with_reducible refine x_U ?_ | with_reducible refine x_mulL (by decide) ?_ | with_reducible refine x_mulR (by decide) ?_ | with_reducible refine x_isN ?_ | with_reducible refine x_notN ?_ | with_reducible refine x_sl ?_ | with_reducible refine x_noPart ?_ | with_reducible refine x_part ?_ | with_reducible refine x_int ?_ | with_reducible refine x_bm ?_ | with_reducible refine x_ipI ?_ | with_reducible refine x_next ?_ | with_reducible refine x_refN ?_ | with_reducible refine x_intN ?_ | with_reducible refine x_nonN ?_ | with_reducible refine x_refNN ?_ | with_reducible refine x_nonNN ?_ | with_reducible refine x_yes ?_ | with_reducible refine x_no ?_ | with_reducible refine x_gcons ?_ | with_reducible refine x_gnil ?_ | with_reducible refine x_lst ?_ | with_reducible refine x_tup ?_ | with_reducible refine x_dnewK ?_ | with_reducible refine x_for ?_ | with_reducible refine x_iList ?_ | with_reducible refine x_iTup ?_ | with_reducible refine x_iEnum ?_ | with_reducible refine x_iZip ?_ | with_reducible refine x_iRng3 ?_ | with_reducible refine x_lc ?_ | with_reducible refine x_dput ?_ | with_reducible refine x_dget ?_ | with_reducible refine x_din ?_ | with_reducible refine x_dpop ?_ | (with_reducible refine x_aug ?_; refine ⟨_, rfl, ?_⟩)))
section
variable {K : PySem.W.Frag}
theorem pure_is_entry (vs : List V) (H : Hp) (Q : VK) (E : XK) (h : sp_is_entry K vs H Q E) : t_is_entry K { nx := fun _ H' => Q .non H', rt := Q } (start ["key", "value"] vs) H := by
  obtain ⟨k, v, rfl, q⟩ := h
  unfold t_is_entry
  have e : isEntry k v = ((decide (0 ≤ k) && decide (k ≤ 63)) && decide ((if v < 0 then -v else v) ≤ 1000000000000000000)) := by
    unfold isEntry
    congr 1
    by_cases c : v < 0
    · rw [if_pos c, decide_eq_true (show v ≤ 1000000000000000000 by omega), Bool.and_true]
      exact decide_eq_decide.mpr (by omega)
    · rw [if_neg c, decide_eq_true (show -1000000000000000000 ≤ v by omega), Bool.true_and]
  rw [e] at q
  tm_at "x"
  refine x_ite (fun c => ?_) fun c => ?_
  · rw [decide_eq_true c] at q
    tm_at "x"
    refine x_ite (fun c2 => ?_) fun c2 => ?_
    · rw [decide_eq_true c2] at q
      tm_at "x"
      refine ⟨v, rfl, ?_⟩
      tm_at "x"
      exact q
    · rw [decide_eq_false c2] at q
      exact q
  · rw [decide_eq_false c] at q
    tm_at "x"
    exact q
theorem pure_is_change (vs : List V) (H : Hp) (Q : VK) (E : XK) (h : sp_is_change K vs H Q E) : t_is_change K { nx := fun _ H' => Q .non H', rt := Q } (start ["change"] vs) H := by
  obtain ⟨a, k, f, v, rfl, ha, q⟩ := h
  unfold t_is_change
  tm_at "x"
  refine x_ixL ha (atI_of (j := 0) rfl rfl) ?_
  tm_at "x"
  refine x_ixL ha (atI_of (j := 2) rfl rfl) ?_
  tm_at "x"
  refine ⟨k, v, rfl, ?_⟩
  unfold isChange at q
  tm_at "x"
  refine x_iteB (fun c => ?_) fun c => ?_
  · rw [c] at q
    tm_at "x"
    refine x_ixL ha (atI_of (j := 1) rfl rfl) ?_
    tm_at "x"
    refine ⟨sz (by simp), fun t ht => ?_⟩
    refine ⟨t, _, rfl, .inr (.of upd_same), rfl, rfl, ?_⟩
    have e : (if false = true then !inV (.int f) [.int 0, .int 1] else inV (.int f) [.int 0, .int 1]) = (true && (decide (f = 0) || decide (f = 1))) := by
      show ((0 == f) || ((1 == f) || false)) = _
      rw [Bool.or_false, Bool.true_and]
      by_cases c0 : f = 0
      · subst c0
        rfl
      · by_cases c1 : f = 1
        · subst c1
          rfl
        · have h0 : ((0 : Int) == f) = false := by simp; omega
          have h1 : ((1 : Int) == f) = false := by simp; omega
          rw [h0, h1, decide_eq_false c0, decide_eq_false c1]
    show Q (.bl _) _
    rw [e]
    exact q _ (Same.new ht)
  · rw [c] at q
    tm_at "x"
    exact q _ (Same.refl _)
theorem size_pos (len n : Int) (hn : 0 < n) : Builtin.Range.rangeSize 0 len n = if 0 < len then (len - 0 - 1) / n + 1 else 0 := by
  unfold Builtin.Range.rangeSize
  rw [if_pos hn]
theorem fits_small {x : Int} (h1 : -100000000 ≤ x) (h2 : x ≤ 100000000) : Builtin.Range.rangeFitsLong x = true := by
  unfold Builtin.Range.rangeFitsLong
  rw [Bool.and_eq_true]
  exact ⟨decide_eq_true (Int.le_trans (by decide) h1), decide_eq_true (Int.lt_of_le_of_lt h2 (by decide))⟩
theorem rgC3 {len : Nat} (hl : len ≤ 10000000) : RgC 0 (len : Int) ((3 : Nat) : Int) ((len + 3 - 1) / 3) := by
  have e : Builtin.Range.rangeSize 0 (len : Int) 3 = (((len + 3 - 1) / 3 : Nat) : Int) := by
    rw [size_pos _ _ (by decide)]
    split <;> omega
  refine ⟨by decide, by decide, ?_, e⟩
  show Builtin.Range.small 0 (len : Int) 3 = true
  unfold Builtin.Range.small
  rw [e, fits_small (by omega) (by omega), fits_small (by omega) (by omega), fits_small (by omega) (by omega), fits_small (by omega) (by omega), if_pos (by decide), fits_small (by omega) (by omega), Bool.or_true]
  rfl
theorem rgC2 {len : Nat} (hl : len ≤ 10000000) : RgC 0 (len : Int) ((2 : Nat) : Int) ((len + 2 - 1) / 2) := by
  have e : Builtin.Range.rangeSize 0 (len : Int) 2 = (((len + 2 - 1) / 2 : Nat) : Int) := by
    rw [size_pos _ _ (by decide)]
    split <;> omega
  refine ⟨by decide, by decide, ?_, e⟩
  show Builtin.Range.small 0 (len : Int) 2 = true
  unfold Builtin.Range.small
  rw [e, fits_small (by omega) (by omega), fits_small (by omega) (by omega), fits_small (by omega) (by omega), fits_small (by omega) (by omega), if_pos (by decide), fits_small (by omega) (by omega), Bool.or_true]
  rfl
theorem pure_chunks (n : Nat) (hn : 0 < n) (hs : ∀ {len : Nat}, len ≤ 10000000 → RgC 0 (len : Int) (n : Int) ((len + n - 1) / n)) (vs : List V) (H : Hp) (Q : VK) (E : XK) (h : sp_chunks n vs H Q E) (tn tn2 : TE) (h1 : ∀ σ H Q, Q (.int (n : Int)) H → tn σ H Q) (h2 : ∀ σ H Q, Q (.int (n : Int)) H → tn2 σ H Q) :
    (tRet (tLc (iRng3 (tCons (tC (.int 0)) (tCons (tCB (rLenS K) (tCons (tVar 0) tNil)) (tCons tn tNil)))) (gName 1) tYes (tSl (rSlL K) (tVar 0) (tPart (tVar 1)) (tPart (tOp rAddI (tVar 1) tn2))) [1])) { nx := fun _ H' => Q .non H', rt := Q } (start ["numbers", "at"] vs) H := by
  obtain ⟨a, l, rfl, ha, hl, q⟩ := h
  have hm : l.length ≤ 1000000 := hl
  tm_at "x"
  refine x_lenL ha ?_
  rw [iv_len]
  tm_at "x"
  refine h1 _ _ _ ?_
  tm_at "x"
  refine x_srcRc _ (hs (by omega)) ?_
  have hcl := chunks_len hn l
  have hln : (chunks n l).length = (l.length + n - 1) / n := by simp [chunks]
  refine x_comp src_rangeC (fun i y H' D => ∃ r c, y = .ref r ∧ r ≠ D ∧ (chunks n l)[i]? = some c ∧ H' r = some (.lst (iv c)) ∧ H r = none) (by omega) (fun _ _ => trivial) ?_ ?_ ?_
  · rintro i y H1 H2 D k ⟨r, c, rfl, e1, e2, e3, e4⟩
    exact ⟨r, c, rfl, e1, e2, k _ _ e3 e1, e4⟩
  · intro D i x H1 N hi hD hacc s hx hN
    subst hx
    tm_at "x"
    refine ⟨rfl, ?_⟩
    tm_at "x"
    refine h2 _ _ _ ?_
    tm_at "x"
    refine x_slL (s _ _ ha) fun p hp => ?_
    obtain ⟨acc, hacc⟩ := hacc
    have hi2 : i < (chunks n l).length := by omega
    refine hN _ _ (Same.new hp) ⟨p, (l.drop (n * i)).take n, rfl, Ne.symm (ne_of_none hacc hp), ?_, ?_, s.free hp⟩
    · rw [List.getElem?_eq_getElem hi2]
      simp [chunks]
    · rw [upd_same]
      congr 2
      have e1 : (0 : Int) + (i : Nat) * (n : Int) = ((n * i : Nat) : Int) := by push_cast; rw [Int.zero_add, Int.mul_comm]
      have e2 : (0 : Int) + (i : Nat) * (n : Int) + (n : Int) = ((n * i + n : Nat) : Int) := by rw [e1]; push_cast; rfl
      rw [e2, e1, cutV_nat, show n * i + n - n * i = n from by omega]
      simp [iv, List.map_drop, List.map_take]
  · intro H' D ys s hD e1 e2 e3
    obtain ⟨as, eas⟩ : ∃ as : List Addr, ys = as.map V.ref := by
      refine ⟨ys.map fun v => match v with | .ref r => r | _ => 0, ?_⟩
      rw [List.map_map]
      conv => lhs; rw [← List.map_id ys]
      apply List.map_congr_left
      intro y hy
      obtain ⟨i, hi⟩ := List.getElem?_of_mem hy
      obtain ⟨r, c, rfl, _⟩ := e3 i y hi
      rfl
    subst eas
    refine q H' D as s (fun x hx => ?_) e1 (pair_of (by rw [List.length_map] at e2; rw [e2, hln]) fun i x c k1 k2 => ?_)
    · obtain ⟨i, hi⟩ := List.getElem?_of_mem hx
      obtain ⟨r, c', k3, _, k4, k5, k6⟩ := e3 i (.ref x) (by rw [List.getElem?_map, hi]; rfl)
      cases k3
      exact k6
    · obtain ⟨r, c', k3, _, k4, k5, _⟩ := e3 i (.ref x) (by rw [List.getElem?_map, k1]; rfl)
      cases k3
      have : c' = c := Option.some.inj (k4.symm.trans k2)
      rw [← this]
      exact k5
theorem pure_changes_of (vs : List V) (H : Hp) (Q : VK) (E : XK) (h : sp_changes_of K vs H Q E) : t_changes_of K { nx := fun _ H' => Q .non H', rt := Q } (start ["numbers", "at"] vs) H :=
  pure_chunks 3 (by decide) rgC3 vs H Q E h _ _ (fun _ _ _ h => h) (fun _ _ _ h => h)
theorem pure_pairs_of (vs : List V) (H : Hp) (Q : VK) (E : XK) (h : sp_pairs_of K vs H Q E) : t_pairs_of K { nx := fun _ H' => Q .non H', rt := Q } (start ["numbers", "at"] vs) H :=
  pure_chunks 2 (by decide) rgC2 vs H Q E h _ _ (fun _ _ _ h => h) (fun _ _ _ h => h)
theorem pure_are_changes (vs : List V) (H : Hp) (Q : VK) (E : XK) (h : sp_are_changes K vs H Q E) : t_are_changes K { nx := fun _ H' => Q .non H', rt := Q } (start ["numbers", "change"] vs) H := by
  obtain ⟨a, l, rfl, ha, hl, q⟩ := h
  have hm : l.length ≤ 1000000 := hl
  rw [parse_isSome] at q
  unfold t_are_changes
  tm_at "x"
  refine x_lenL ha ?_
  rw [iv_len]
  tm_at "x"
  refine x_modN 3 (by decide) ?_
  tm_at "x"
  refine x_iteN (fun c => ?_) fun c => ?_
  · tm_at "x"
    rw [decide_eq_false (by omega)] at q
    exact q _ (Same.refl _)
  · have c3 : l.length % 3 = 0 := by omega
    rw [decide_eq_true c3] at q
    tm_at "x"
    refine ⟨a, l, rfl, ha, hl, fun H1 f as s1 hnew e1 n1 => ?_⟩
    have al : as.length = (chunks 3 l).length := n1.length
    have hcl := chunks_len (show 0 < 3 by decide) l
    tm_at "x"
    refine x_srcLc e1 ?_
    refine x_compM src_list (chunks 3 l) (fun c => V.bl (okC c)) (by rw [List.length_map, al]) (by rw [List.length_map, al]; omega) (fun H' s => s _ _ e1) ?_ ?_
    · intro i x c H2 N hi s hx hN
      obtain ⟨b, hb, rfl⟩ := ref_at hx
      obtain ⟨c', h1, h2⟩ := pair_at n1 hb
      have : c' = c := Option.some.inj (h1.symm.trans hi)
      subst this
      obtain ⟨k, f, v, rfl⟩ := chunk_three l c3 c' (List.mem_of_getElem? hi)
      tm_at "x"
      refine ⟨rfl, ?_⟩
      tm_at "x"
      exact ⟨b, k, f, v, rfl, s _ _ h2, fun H3 s3 => hN _ s3⟩
    · intro H2 D s2 hD eD
      tm_at "x"
      refine x_all (bs := (chunks 3 l).map okC) (by rw [eD, List.map_map]; rfl) ?_
      have e : ((chunks 3 l).map okC).all id = (chunks 3 l).all okC := by rw [List.all_map]; rfl
      rw [e]
      exact q _ (s1.trans s2)
theorem pure_tick_row (vs : List V) (H : Hp) (Q : VK) (E : XK) (h : sp_tick_row K vs H Q E) : t_tick_row K { nx := fun _ H' => Q .non H', rt := Q } (start ["number", "numbers", "found", "key", "kind", "value"] vs) H := by
  obtain ⟨t, a, l, cs, rfl, ha, hl, hp, q⟩ := h
  obtain ⟨p1, p2⟩ := parse_at l cs hp
  have hcl := chunks_len (show 0 < 3 by decide) l
  rw [tickRow_eq] at q
  unfold t_tick_row
  tm_at "x"
  refine ⟨sz (by simp), fun f hf => ?_⟩
  tm_at "x"
  have s0 : Same H (upd H f (.lst [.int (t : Int)])) := Same.new hf
  refine ⟨a, l, rfl, s0 _ _ ha, by unfold most; omega, fun H1 d as s1 hnew e1 n1 => ?_⟩
  have al : as.length = (chunks 3 l).length := n1.length
  tm_at "x"
  refine x_srcL e1 ?_
  have fd : f ≠ d := by
    intro z
    have := s1 _ _ (upd_same (H := H) (a := f) (o := .lst [.int (t : Int)]))
    rw [z, e1] at this
    have := Option.some.inj this
    have := HO.lst.inj this
    cases as with
    | nil => simp at this
    | cons x r => simp at this
  have nf : ∀ x ∈ as, x ≠ f := fun x hx z => by
    have := hnew x hx
    rw [z, upd_same] at this
    cases this
  refine x_loop src_list (fun i σ H' => ∃ v1 v2 v3 v4, σ = [v1, v2, some (.ref f), v3, v4, σ[5]?.getD none] ∧ Same H H' ∧ H' d = some (.lst (as.map V.ref)) ∧ Lls H' as (chunks 3 l) ∧ H' f = some (.lst (iv ((t : Int) :: (cs.take i).flatMap chg)))) ?_ (fun i σ H' h => by obtain ⟨_, _, _, _, _, _, e, _⟩ := h; exact e) ?_ ?_
  · exact ⟨_, _, _, _, rfl, s0.trans s1, e1, n1, s1 _ _ upd_same⟩
  · rintro i x σ H2 H3 hi ⟨v1, v2, v3, v4, hσ, s2, d2, n2, f2⟩ s3 hx
    obtain ⟨b, hb, rfl⟩ := ref_at hx
    obtain ⟨c, h1, h2⟩ := pair_at n2 hb
    rw [List.length_map] at hi
    have hi2 : i < cs.length := by omega
    have hc := p2 i c cs[i] h1 (List.getElem?_eq_getElem hi2)
    obtain ⟨k, fl, v, rfl, g1, g2, g3, g4, g5, g6, _, _, _⟩ := chg_of hc
    have b3 : H3 b = some (.lst [.int k, .int fl, .int v]) := s3 _ _ h2
    rw [hσ]
    refine x_glst b3 rfl ?_
    tm_at "x"
    refine x_tyL (s3 _ _ f2) ?_
    tm_at "x"
    have hfl : -18446744073709551616 < fl ∧ fl < 18446744073709551616 := by omega
    refine x_mulR hfl ?_
    tm_at "x"
    refine ⟨sz (by simp), fun y hy => ?_⟩
    have f4 := Same.new hy (o := .lst [.int k, .int fl, .int (v * fl)]) _ _ (s3 _ _ f2)
    have len1 : (iv ((t : Int) :: (cs.take i).flatMap chg)).length ≤ 10000 := by
      rw [iv_len]
      have : ((cs.take i).flatMap chg).length ≤ 3 * (cs.take i).length := by
        clear f4 f2
        induction cs.take i with
        | nil => simp
        | cons z zs ih =>
          rw [List.flatMap_cons, List.length_append, List.length_cons]
          have : (chg z).length = 3 := by unfold chg; split <;> rfl
          omega
      have h3 : (cs.take i).length ≤ cs.length := by rw [List.length_take]; omega
      simp only [List.length_cons]
      omega
    tm_at "x"
    refine x_extend f4 upd_same (sz (by simp only [List.length_cons, List.length_nil]; omega)) ?_
    have hff : H f = none := hf
    refine ⟨_, _, _, _, rfl, ((s2.trans s3).more hy).mut hff, ?_, ?_, ?_⟩
    · rw [upd_ne (Ne.symm fd)]
      exact Same.new hy _ _ (s3 _ _ d2)
    · exact Lls.upd (Lls.same (Same.new hy) (Lls.same s3 n2)) nf
    · rw [upd_same]
      have e1 : cs.take (i + 1) = cs.take i ++ [cs[i]] := take_more (List.getElem?_eq_getElem hi2)
      rw [e1, List.flatMap_append]
      have e2 : [cs[i]].flatMap chg = [k, fl, v * fl] := by simp [g6]
      rw [e2]
      simp [iv]
  · rintro σ H2 ⟨v1, v2, v3, v4, hσ, s2, d2, n2, f2⟩
    rw [hσ]
    tm_at "x"
    refine q _ f s2 hf ?_
    rw [List.length_map, al, p1, List.take_length] at f2
    exact f2
theorem pure_is_tick (vs : List V) (H : Hp) (Q : VK) (E : XK) (h : sp_is_tick K vs H Q E) : t_is_tick K { nx := fun _ H' => Q .non H', rt := Q } (start ["row"] vs) H := by
  obtain ⟨a, l, rfl, ha, hl, q⟩ := h
  rw [tick_isSome] at q
  unfold t_is_tick
  tm_at "x"
  refine ⟨sz (by simp), fun p hp => ?_⟩
  refine x_neD (r := []) (Same.new hp _ _ ha) upd_same ?_
  have s1 : Same H (upd H p (.lst [])) := Same.new hp
  tm_at "x"
  refine x_iteN (fun c => ?_) fun c => ?_
  · rw [decide_eq_true c] at q
    obtain ⟨t, r, rfl⟩ : ∃ t r, l = t :: r := by
      cases l with
      | nil => exact absurd rfl c
      | cons t r => exact ⟨t, r, rfl⟩
    tm_at "x"
    refine x_ixL (s1 _ _ ha) (atI_of (j := 0) rfl rfl) ?_
    tm_at "x"
    refine x_ite (fun c2 => ?_) fun c2 => ?_
    · rw [show decide (1 ≤ (t :: r).headD 0) = true from decide_eq_true c2] at q
      tm_at "x"
      refine x_slL (s1 _ _ ha) fun p2 hp2 => ?_
      have e : cutV (iv (t :: r)) (some 1) none = iv r := cutV_from (iv (t :: r)) 1
      rw [e]
      tm_at "x"
      refine ⟨p2, r, rfl, upd_same, by simp only [List.length_cons] at hl; omega, fun H2 s2 => ?_⟩
      exact q _ ((s1.more hp2).trans s2)
    · rw [show decide (1 ≤ (t :: r).headD 0) = false from decide_eq_false c2] at q
      tm_at "x"
      exact q _ s1
  · rw [show decide (l ≠ []) = false from decide_eq_false (fun z => z c)] at q
    tm_at "x"
    exact q _ s1
theorem pure_changed (vs : List V) (H : Hp) (Q : VK) (E : XK) (h : sp_changed K vs H Q E) : t_changed K { nx := fun _ H' => Q .non H', rt := Q } (start ["entries", "numbers", "found", "key", "kind", "value"] vs) H := by
  obtain ⟨e, a, kvs, s, l, cs, rfl, he, hr, hs, ha, hl, hp, q⟩ := h
  have hm : l.length ≤ 1000000 := hl
  obtain ⟨p1, p2⟩ := parse_at l cs hp
  have hcl := chunks_len (show 0 < 3 by decide) l
  unfold t_changed
  tm_at "x"
  refine ⟨e, kvs, rfl, .of he, fun f hf => ?_⟩
  tm_at "x"
  have s0 : Same H (upd H f (.dK kvs)) := Same.new hf
  refine ⟨a, l, rfl, s0 _ _ ha, hl, fun H1 d as s1 hnew e1 n1 => ?_⟩
  have al : as.length = (chunks 3 l).length := n1.length
  tm_at "x"
  refine x_srcL e1 ?_
  have ent : ∀ i, Ent (Vbwsai.applyChanges s (cs.take i)) := fun i => ent_applyL _ _ hs fun c hc => parse_mem hp c (List.mem_of_mem_take hc)
  refine x_loop src_list (fun i σ H' => ∃ v1 v2 v3 v4 v5 kvs', σ = [v1, v2, some (.ref f), v3, v4, v5] ∧ Same H H' ∧ H' d = some (.lst (as.map V.ref)) ∧ Lls H' as (chunks 3 l) ∧ H' f = some (.dK kvs') ∧ DRel kvs' (Vbwsai.applyChanges s (cs.take i))) ?_ (fun i σ H' h => by obtain ⟨_, _, _, _, _, _, _, _, e, _⟩ := h; exact e) ?_ ?_
  · exact ⟨_, _, _, _, _, kvs, rfl, s0.trans s1, e1, n1, s1 _ _ upd_same, hr⟩
  · rintro i x σ H2 H3 hi ⟨v1, v2, v3, v4, v5, kvs', rfl, s2, d2, n2, f2, r2⟩ s3 hx
    obtain ⟨b, hb, rfl⟩ := ref_at hx
    obtain ⟨c, h1, h2⟩ := pair_at n2 hb
    rw [List.length_map] at hi
    have hi2 : i < cs.length := by omega
    have hc := p2 i c cs[i] h1 (List.getElem?_eq_getElem hi2)
    obtain ⟨k, fl, v, rfl, g1, g2, g3, g4, g5, g6, g7, g8, g9⟩ := chg_of hc
    have b3 : H3 b = some (.lst [.int k, .int fl, .int v]) := s3 _ _ h2
    have f3 := s3 _ _ f2
    have ek : ((k.toNat : Nat) : Int) = k := Int.toNat_of_nonneg g2
    have step : Vbwsai.applyChanges s (cs.take (i + 1)) = Vbwsai.applyChange (Vbwsai.applyChanges s (cs.take i)) cs[i] := by
      rw [take_more (List.getElem?_eq_getElem hi2), apply_snoc]
    have klen : kvs'.length ≤ 64 := by rw [r2.len]; exact (ent i).len
    have nf : ∀ x ∈ as, x ≠ f := fun x hx => by
      obtain ⟨j, hj⟩ := List.getElem?_of_mem hx
      obtain ⟨c', _, q2⟩ := pair_at n2 hj
      exact ne_of q2 f2 (by simp)
    have df : d ≠ f := ne_of d2 f2 (by simp)
    refine x_glst b3 rfl ?_
    tm_at "x"
    refine x_ite (fun c1 => ?_) fun c1 => ?_
    · have c1' : fl = 1 := c1
      rw [if_pos c1'] at g8
      tm_at "x"
      refine x_dputE f3 (szl (by omega)) ?_
      refine ⟨_, _, _, _, _, _, rfl, (s2.trans s3).mut hf, ?_, Lls.upd (Lls.same s3 n2) nf, upd_same, ?_⟩
      · rw [upd_ne df]
        exact s3 _ _ d2
      · rw [step]
        unfold Vbwsai.applyChange
        rw [g8, g7]
        have := r2.put (ent i) k.toNat v
        rw [ek] at this
        exact this
    · have c1' : fl = 0 := by
        rcases g3 with z | z
        · exact z
        · exact absurd z c1
      rw [if_neg (by omega)] at g8
      have step2 : Vbwsai.applyChanges s (cs.take (i + 1)) = Vbwsai.removeKey k.toNat (Vbwsai.applyChanges s (cs.take i)) := by
        rw [step]
        unfold Vbwsai.applyChange
        rw [g8, g7]
      tm_at "x"
      refine x_isD f3 ?_
      tm_at "x"
      refine x_dpopE (z := .non) f3 (fun w hw => ?_) fun hw => ?_
      · tm_at "x"
        refine ⟨_, _, _, _, _, _, rfl, (s2.trans s3).mut hf, ?_, Lls.upd (Lls.same s3 n2) nf, upd_same, ?_⟩
        · rw [upd_ne df]
          exact s3 _ _ d2
        · rw [step2]
          have := r2.drop k.toNat
          rw [ek] at this
          exact this
      · tm_at "x"
        refine ⟨_, _, _, _, _, _, rfl, s2.trans s3, s3 _ _ d2, Lls.same s3 n2, f3, ?_⟩
        rw [step2]
        exact r2.keep (by rw [ek]; exact hw) (ent i)
  · rintro σ H2 ⟨v1, v2, v3, v4, v5, kvs', rfl, s2, d2, n2, f2, r2⟩
    tm_at "x"
    rw [List.length_map, al, p1, List.take_length] at r2
    exact q _ f kvs' s2 f2 r2
theorem pure_flat (vs : List V) (H : Hp) (Q : VK) (E : XK) (h : sp_flat K vs H Q E) : t_flat K { nx := fun _ H' => Q .non H', rt := Q } (start ["entries", "found", "key"] vs) H := by
  obtain ⟨e, kvs, s, rfl, he, hr, hs, q⟩ := h
  have hsl := hs.len
  unfold t_flat
  tm_at "x"
  refine ⟨sz (by simp), fun f hf => ?_⟩
  tm_at "x"
  have s0 : Same H (upd H f (.lst [])) := Same.new hf
  obtain ⟨l, hk, hp⟩ := id hr
  refine ⟨e, kvs, l.map (fun x => (x.1 : Int)), rfl, .of (s0 _ _ he), by rw [hk, List.map_map, List.map_map]; rfl, fun ys p hperm hup hnp => ?_⟩
  have eys : ys = s.map (fun x => (x.1 : Int)) := by
    refine sorted_one (hperm.trans (hp.map _)) hup ?_
    rw [List.pairwise_map]
    exact hs.up.imp fun q => by omega
  subst eys
  have s1 : Same H (upd (upd H f (.lst [])) p (.lst ((s.map fun x => (x.1 : Int)).map V.int))) := s0.more hnp
  have pf : p ≠ f := Ne.symm (ne_of_none upd_same hnp)
  tm_at "x"
  refine x_srcL upd_same ?_
  refine x_loop src_list (fun i σ H' => ∃ v, σ = [some (.ref e), some (.ref f), v] ∧ Same H H' ∧ H' p = some (.lst ((s.map fun x => (x.1 : Int)).map V.int)) ∧ H' f = some (.lst (iv (flatS (s.take i))))) ?_ (fun i σ H' h => by obtain ⟨_, _, _, e, _⟩ := h; exact e) ?_ ?_
  · exact ⟨_, rfl, s1, upd_same, by rw [upd_ne (Ne.symm pf)]; exact upd_same⟩
  · rintro i x σ H2 H3 hi ⟨v, rfl, s2, p2, f2⟩ s3 hx
    have hx' : (iv (s.map fun x => (x.1 : Int)))[i]? = some x := hx
    obtain ⟨k, hk2, rfl⟩ := iv_at hx'
    rw [List.length_map, List.length_map] at hi
    have hsi := List.getElem?_eq_getElem hi
    rw [List.getElem?_map, hsi] at hk2
    have ek : ((s[i].1 : Nat) : Int) = k := Option.some.inj hk2
    have f3 := s3 _ _ f2
    tm_at "x"
    refine x_tyL f3 ?_
    tm_at "x"
    refine x_dgetE (k := k) (v := .int s[i].2) (s3 _ _ (s2 _ _ he)) (by rw [← ek]; exact hr.some hs (List.getElem_mem hi)) ?_
    tm_at "x"
    refine ⟨sz (by simp), fun y hy => ?_⟩
    tm_at "x"
    have f4 := Same.new hy (o := .lst [.int k, .int s[i].2]) _ _ f3
    refine x_extend f4 upd_same (sz (by rw [iv_len, flat_len, List.length_take]; simp only [List.length_cons, List.length_nil]; omega)) ?_
    refine ⟨_, rfl, ((s2.trans s3).more hy).mut hf, ?_, ?_⟩
    · rw [upd_ne pf]
      exact Same.new hy _ _ (s3 _ _ p2)
    · rw [upd_same, take_more hsi, flat_snoc, ek]
      simp [iv]
  · rintro σ H2 ⟨v, rfl, s2, p2, f2⟩
    rw [List.length_map, List.length_map, List.take_length] at f2
    tm_at "x"
    exact q _ f s2 hf f2
end
end Ts
/-! ## TsP4 -/
namespace Ts
open PySem PySem.Spec PyProof.Rows L2
/-- the steps that leave no choice -/
local macro_rules | `(tactic| tm_at "x") => `(tactic| repeat (first | (with_reducible refine x_var ?_; refine ⟨_, rfl, ?_⟩) | with_reducible refine x_seq ?_ | with_reducible refine x_asg ?_ | with_reducible refine x_gname ?_ | with_reducible refine x_op ?_ | with_reducible refine x_c ?_ | with_reducible refine x_I0 ?_ | with_reducible refine x_if ?_ | with_reducible refine x_test ?_ | with_reducible refine x_bl ?_ | with_reducible refine x_blV ?_ | with_reducible refine x_ret ?_ | with_reducible refine x_retN ?_ | with_reducible refine x_drop ?_ | with_reducible refine x_cons ?_ | with_reducible refine x_nil ?_ | with_reducible refine x_call ?_ | with_reducible refine x_cb ?_ | with_reducible refine x_tB ?_ | with_reducible refine x_not ?_ | with_reducible refine x_and ?_ | with_reducible refine x_or ?_ | with_reducible refine x_andV ?_ | with_reducible refine x_orV ?_ | with_reducible refine x_notV ?_ | with_reducible refine x_chain ?_ | with_reducible refine x_un ?_ | with_reducible refine x_U ?_ | with_reducible refine x_mulL (by decide) ?_ | with_reducible refine x_mulR (by decide) ?_ | with_reducible refine x_isN ?_ | with_reducible refine x_notN ?_ | with_reducible refine x_sl ?_ | with_reducible refine x_noPart ?_ | with_reducible refine x_part ?_ | with_reducible refine x_int ?_ | with_reducible refine x_bm ?_ | with_reducible refine x_ipI ?_ | with_reducible refine x_next ?_ | with_reducible refine x_refN ?_ | with_reducible refine x_intN ?_ | with_reducible refine x_nonN ?_ | with_reducible refine x_refNN ?_ | with_reducible refine x_nonNN ?_ | with_reducible refine x_yes ?_ | with_reducible refine x_no ?_ | with_reducible refine x_gcons ?_ | with_reducible refine x_gnil ?_ | with_reducible refine x_lst ?_ | with_reducible refine x_tup ?_ | with_reducible refine x_dnewK ?_ | with_reducible refine x_for ?_ | with_reducible refine x_iList ?_ | with_reducible refine x_iTup ?_ | with_reducible refine x_iEnum ?_ | with_reducible refine x_iZip ?_ | with_reducible refine x_iRng3 ?_ | with_reducible refine x_lc ?_ | with_reducible refine x_dput ?_ | with_reducible refine x_dget ?_ | with_reducible refine x_din ?_ | with_reducible refine x_dpop ?_ | (with_reducible refine x_aug ?_; refine ⟨_, rfl, ?_⟩)))
theorem chunk_two : ∀ l, l.length % 2 = 0 → ∀ c ∈ chunks 2 l, ∃ k v, c = [k, v] := by
  apply two_ind
  · intro _ c hc
    rw [chunks_nil (by decide)] at hc
    cases hc
  · intro a h
    simp at h
  · intro a b r ih h x hx
    rw [chunks2] at hx
    rcases List.mem_cons.mp hx with e | e
    · exact ⟨a, b, e⟩
    · exact ih (by simp only [List.length_cons] at h; omega) x e
def lt2h (p : List Int × List Int) : Bool := decide (p.1.headD 0 < p.2.headD 0)
theorem rising_zip : ∀ ps : List (List Int), ((ps.zip (ps.drop 1)).map lt2h).all id = rising ps
  | [] => rfl
  | [_] => rfl
  | x :: y :: r => by
    have ih := rising_zip (y :: r)
    show (lt2h (x, y) && (((y :: r).zip ((y :: r).drop 1)).map lt2h).all id) = (decide (x.headD 0 < y.headD 0) && rising (y :: r))
    rw [ih]
    rfl
theorem merge_new : ∀ (more acc : List (Key × V)), ((acc ++ more).map (·.1)).Nodup → mergeK acc more = acc ++ more
  | [], acc, _ => by simp [mergeK]
  | x :: r, acc, h => by
    have hx : valV acc x.1 = none := by
      have hn : x.1 ∉ acc.map (·.1) := by
        rw [List.map_append, List.nodup_append] at h
        intro m
        exact h.2.2 _ m _ (by simp) rfl
      have e := valV_any x.1 acc
      cases hv : valV acc x.1 with
      | none => rfl
      | some w =>
        rw [hv] at e
        obtain ⟨y, hy, hy2⟩ := List.any_eq_true.mp e
        exact absurd (List.mem_map.mpr ⟨y, hy, of_decide_eq_true hy2⟩) hn
    show mergeK (putK acc x.1 x.2) r = _
    rw [putK_new _ hx]
    have e : acc ++ [(x.1, x.2)] ++ r = acc ++ x :: r := by simp
    rw [← e] at h ⊢
    exact merge_new r (acc ++ [(x.1, x.2)]) h
section
variable {K : PySem.W.Frag}
theorem pure_is_checkpoint (vs : List V) (H : Hp) (Q : VK) (E : XK) (h : sp_is_checkpoint K vs H Q E) : t_is_checkpoint K { nx := fun _ H' => Q .non H', rt := Q } (start ["row", "pairs", "one", "other", "pair"] vs) H := by
  obtain ⟨a, l, rfl, ha, hl, q⟩ := h
  have hm : l.length ≤ 1000000 := hl
  rw [checkpoint_isSome] at q
  unfold t_is_checkpoint
  tm_at "x"
  refine x_lenL ha ?_
  rw [iv_len]
  tm_at "x"
  refine x_modN 2 (by decide) ?_
  tm_at "x"
  refine x_iteN (fun c => ?_) fun c => ?_
  · tm_at "x"
    rw [decide_eq_false (by omega)] at q
    exact q _ (Same.refl _)
  · have c2 : l.length % 2 = 1 := by omega
    rw [decide_eq_true c2] at q
    obtain ⟨t, r, rfl⟩ : ∃ t r, l = t :: r := by
      cases l with
      | nil => simp at c2
      | cons t r => exact ⟨t, r, rfl⟩
    have hr2 : r.length % 2 = 0 := by simp only [List.length_cons] at c2; omega
    simp only [List.length_cons] at hm
    have hcl := chunks_len (show 0 < 2 by decide) r
    tm_at "x"
    refine x_ixL ha (atI_of (j := 0) rfl rfl) ?_
    tm_at "x"
    refine x_ite (fun c3 => ?_) fun c3 => ?_
    · tm_at "x"
      rw [show decide (0 ≤ (t :: r).headD 0) = false from decide_eq_false (show ¬ 0 ≤ t by omega)] at q
      exact q _ (Same.refl _)
    · rw [show decide (0 ≤ (t :: r).headD 0) = true from decide_eq_true (show 0 ≤ t by omega)] at q
      tm_at "x"
      refine x_slL ha fun p1 hp1 => ?_
      have e : cutV (iv (t :: r)) (some 1) none = iv r := cutV_from (iv (t :: r)) 1
      rw [e]
      tm_at "x"
      refine ⟨p1, r, rfl, upd_same, by show r.length ≤ 1000000; omega, fun H2 f as s2 hnew f2 n2 => ?_⟩
      have s1 : Same H H2 := (Same.new hp1).trans s2
      have al : as.length = (chunks 2 r).length := n2.length
      tm_at "x"
      refine x_srcLc f2 ?_
      refine x_compM src_list (chunks 2 r) (fun c => V.bl (okE c)) (by rw [List.length_map, al]) (by rw [List.length_map, al]; omega) (fun H' s => s _ _ f2) ?_ ?_
      · intro i x c H3 N hi s hx hN
        obtain ⟨b, hb, rfl⟩ := ref_at hx
        obtain ⟨c', h1, h2⟩ := pair_at n2 hb
        have : c' = c := Option.some.inj (h1.symm.trans hi)
        subst this
        obtain ⟨k, v, rfl⟩ := chunk_two r hr2 c' (List.mem_of_getElem? hi)
        tm_at "x"
        refine ⟨rfl, ?_⟩
        have b3 := s _ _ h2
        tm_at "x"
        refine x_ixL b3 (atI_of (j := 0) rfl rfl) ?_
        tm_at "x"
        refine x_ixL b3 (atI_of (j := 1) rfl rfl) ?_
        tm_at "x"
        exact ⟨k, v, rfl, hN _ (Same.refl _)⟩
      · intro H3 D s3 hD eD
        tm_at "x"
        refine x_all (bs := (chunks 2 r).map okE) (by rw [eD, List.map_map]; rfl) ?_
        have e : ((chunks 2 r).map okE).all id = (chunks 2 r).all okE := by rw [List.all_map]; rfl
        rw [e]
        tm_at "x"
        refine x_iteNB (fun c4 => ?_) fun c4 => ?_
        · tm_at "x"
          rw [show (chunks 2 (t :: r).tail).all okE = false from c4] at q
          exact q _ (s1.trans s3)
        · rw [show (chunks 2 (t :: r).tail).all okE = true from c4] at q
          tm_at "x"
          have f3 := s3 _ _ f2
          refine x_slL f3 fun g hg => ?_
          have e2 : cutV (as.map V.ref) (some 1) none = (as.drop 1).map V.ref := by
            rw [show (some (1 : Int)) = some ((1 : Nat) : Int) from rfl, cutV_from, List.map_drop]
          rw [e2]
          have s4 : Same H3 (upd H3 g (.lst ((as.drop 1).map V.ref))) := Same.new hg
          tm_at "x"
          refine x_srcZc (s4 _ _ f3) upd_same ?_
          refine x_compM src_zip ((chunks 2 r).zip ((chunks 2 r).drop 1)) (fun p => V.bl (lt2h p)) ?_ ?_ (fun H' s => ⟨s _ _ (s4 _ _ f3), s _ _ upd_same⟩) ?_ ?_
          · rw [List.length_zip, List.length_map, List.length_map, List.length_drop, List.length_drop, al]
          · rw [List.length_map]
            omega
          · rintro i x ⟨c1, c2'⟩ H5 N hi s hx hN
            obtain ⟨T, x1, x2, rfl, hT, k1, k2⟩ := hx
            obtain ⟨b1, hb1, rfl⟩ := ref_at k1
            obtain ⟨b2, hb2, rfl⟩ := ref_at k2
            rw [List.getElem?_drop] at hb2
            obtain ⟨d1, hd1, hh1⟩ := pair_at n2 hb1
            obtain ⟨d2, hd2, hh2⟩ := pair_at n2 hb2
            have hz : (chunks 2 r)[i]? = some c1 ∧ (chunks 2 r)[1 + i]? = some c2' := by
              rw [List.getElem?_zip_eq_some] at hi
              rw [List.getElem?_drop] at hi
              exact hi
            have q1 : d1 = c1 := Option.some.inj (hd1.symm.trans hz.1)
            have q2 : d2 = c2' := Option.some.inj (hd2.symm.trans hz.2)
            subst q1 q2
            obtain ⟨ka, va, rfl⟩ := chunk_two r hr2 d1 (List.mem_of_getElem? hd1)
            obtain ⟨kb, vb, rfl⟩ := chunk_two r hr2 d2 (List.mem_of_getElem? hd2)
            have m1 := s _ _ (s4 _ _ (s3 _ _ hh1))
            have m2 := s _ _ (s4 _ _ (s3 _ _ hh2))
            refine x_gtup hT rfl ?_
            tm_at "x"
            refine ⟨rfl, ?_⟩
            tm_at "x"
            refine x_ixL m1 (atI_of (j := 0) rfl rfl) ?_
            tm_at "x"
            refine x_ixL m2 (atI_of (j := 0) rfl rfl) ?_
            tm_at "x"
            exact hN _ (Same.refl _)
          · intro H5 D2 s5 hD2 eD2
            tm_at "x"
            refine x_all (bs := ((chunks 2 r).zip ((chunks 2 r).drop 1)).map lt2h) (by rw [eD2, List.map_map]; rfl) ?_
            rw [rising_zip]
            exact q _ (s1.trans (s3.trans (s4.trans s5)))
theorem pure_checkpoint_in (vs : List V) (H : Hp) (Q : VK) (E : XK) (h : sp_checkpoint_in K vs H Q E) : t_checkpoint_in K { nx := fun _ H' => Q .non H', rt := Q } (start ["data", "row", "pair"] vs) H := by
  obtain ⟨a, b, rfl, ha, hl, hb, q⟩ := h
  have hm : b.length ≤ 1000000 := hl
  rw [readCheckpoint_eq] at q
  unfold t_checkpoint_in
  tm_at "x"
  refine ⟨a, b, rfl, ha, hl, hb, ?_⟩
  cases e : onlyRow b with
  | none =>
    rw [e] at q
    intro H1 s1
    tm_at "x"
    exact q _ s1
  | some l =>
    rw [e] at q
    change (match Vbwsai.parseCheckpointRow l with | none => _ | some x => _) at q
    intro H1 r s1 r1
    have hll : l.length ≤ most := Nat.le_trans (onlyRow_fit hb e).1 hl
    tm_at "x"
    refine ⟨r, l, rfl, r1, hll, fun H2 s2 => ?_⟩
    tm_at "x"
    cases e2 : Vbwsai.parseCheckpointRow l with
    | none =>
      rw [e2] at q
      tm_at "x"
      exact q _ (s1.trans s2)
    | some x =>
      obtain ⟨t, s⟩ := x
      rw [e2] at q
      obtain ⟨el, es, ec⟩ := checkpoint_of e2
      subst el
      have hsl := es.len
      have r2 := s2 _ _ r1
      have fl := flat_len s
      refine x_iteNB (fun c => absurd c (by simp)) fun _ => ?_
      tm_at "x"
      refine x_ixL r2 (atI_of (j := 0) rfl rfl) ?_
      tm_at "x"
      refine x_slL r2 fun p hp => ?_
      have ecut : cutV (iv ((t : Int) :: flatS s)) (some 1) none = iv (flatS s) := cutV_from (iv ((t : Int) :: flatS s)) 1
      rw [ecut]
      tm_at "x"
      refine ⟨p, flatS s, rfl, upd_same, by show (flatS s).length ≤ 1000000; omega, fun H4 f as s4 hnew f4 n4 => ?_⟩
      have ec2 : chunks 2 (flatS s) = s.map fun x => [(x.1 : Int), x.2] := ec
      rw [ec2] at n4
      have al : as.length = s.length := by rw [n4.length, List.length_map]
      have s5 : Same H H4 := ((s1.trans s2).more hp).trans s4
      tm_at "x"
      refine x_srcLc f4 ?_
      refine x_comp src_list (fun i y H' D => ∃ z x, y = .ref z ∧ z ≠ D ∧ s[i]? = some x ∧ H' z = some (.tup [.int (x.1 : Int), .int x.2])) (by rw [List.length_map]; omega) (fun H' s => s _ _ f4) ?_ ?_ ?_
      · rintro i y H1 H2 D k ⟨z, x, rfl, e1, e2, e3⟩
        exact ⟨z, x, rfl, e1, e2, k _ _ e3 e1⟩
      · intro D i x H5 N hi hD hacc s6 hx hN
        obtain ⟨c, hc, rfl⟩ := ref_at hx
        obtain ⟨l', h1, h2⟩ := pair_at n4 hc
        rw [List.getElem?_map] at h1
        obtain ⟨y, hy1, hy2⟩ := Option.map_eq_some_iff.mp h1
        subst hy2
        have m := s6 _ _ h2
        obtain ⟨acc, hacc⟩ := hacc
        tm_at "x"
        refine ⟨rfl, ?_⟩
        tm_at "x"
        refine x_ixL m (atI_of (j := 0) rfl rfl) ?_
        tm_at "x"
        refine x_ixL m (atI_of (j := 1) rfl rfl) ?_
        tm_at "x"
        refine ⟨sz (by simp), fun z hz => hN _ _ (Same.new hz) ⟨z, y, rfl, Ne.symm (ne_of_none hacc hz), hy1, upd_same⟩⟩
      · intro H5 D ys s6 hD e5 e6 e7
        obtain ⟨ts, ets⟩ : ∃ ts : List Addr, ys = ts.map V.ref := by
          refine ⟨ys.map fun v => match v with | .ref r => r | _ => 0, ?_⟩
          rw [List.map_map]
          conv => lhs; rw [← List.map_id ys]
          apply List.map_congr_left
          intro y hy
          obtain ⟨i, hi⟩ := List.getElem?_of_mem hy
          obtain ⟨r, c, rfl, _⟩ := e7 i y hi
          rfl
        subst ets
        rw [List.length_map, List.length_map, al] at e6
        have pr : Paired (fun p (kv : Key × V) => SqT K H5 p [kV kv.1, kv.2]) ts (s.map kvf) := by
          refine pair_of (by rw [List.length_map, e6]) fun i t kv k1 k2 => ?_
          obtain ⟨z, x, k3, _, k4, k5⟩ := e7 i (.ref t) (by rw [List.getElem?_map, k1]; rfl)
          cases k3
          rw [List.getElem?_map, k4] at k2
          have := Option.some.inj k2
          subst this
          exact .of k5
        tm_at "x"
        refine ⟨D, ts, s.map kvf, rfl, .of e5, pr, fun d hd => ?_⟩
        tm_at "x"
        refine ⟨sz (by simp), fun w hw => ?_⟩
        have em : mergeK [] (s.map kvf) = s.map kvf := by
          have z : (([] ++ s.map kvf : List (Key × V)).map (fun x => x.1)).Nodup := by
            rw [List.nil_append, List.map_map, List.nodup_iff_pairwise_ne, List.pairwise_map]
            exact es.up.imp fun q z => by
              have := Sum.inl.inj (show (Sum.inl _ : Key) = Sum.inl _ from z)
              omega
          have := merge_new (s.map kvf) [] z
          simpa using this
        rw [em] at hw ⊢
        refine q _ w d (s.map kvf) (((s5.trans s6).more hd).more hw) upd_same ?_ ⟨s, rfl, List.Perm.refl _⟩
        rw [upd_ne (ne_of_none upd_same hw)]
        exact upd_same
theorem pure_commit_in (vs : List V) (H : Hp) (Q : VK) (E : XK) (h : sp_commit_in K vs H Q E) : t_commit_in K { nx := fun _ H' => Q .non H', rt := Q } (start ["data", "row"] vs) H := by
  obtain ⟨a, b, rfl, ha, hl, hb, q⟩ := h
  rw [readCommit_eq] at q
  unfold t_commit_in
  tm_at "x"
  refine ⟨a, b, rfl, ha, hl, hb, ?_⟩
  cases e : onlyRow b with
  | none =>
    rw [e] at q
    intro H1 s1
    tm_at "x"
    exact q _ s1
  | some l =>
    rw [e] at q
    intro H1 r s1 r1
    tm_at "x"
    refine x_lenL r1 ?_
    rw [iv_len]
    tm_at "x"
    refine x_iteN (fun c => ?_) fun c => ?_
    · tm_at "x"
      change (match commitOf l with | none => _ | some x => _) at q
      rw [commitOf_other (fun z => c (by omega))] at q
      exact q _ s1
    · obtain ⟨n, s, rfl⟩ : ∃ n s, l = [n, s] := by
        match l, c with
        | [], c => simp at c
        | [_], c => simp at c
        | [n, s], _ => exact ⟨n, s, rfl⟩
        | _ :: _ :: _ :: _, c => simp only [List.length_cons] at c; omega
      change (match (if n < 1 ∨ s < 0 ∨ 1 < s then none else some (n.toNat, s.toNat) : Option (Nat × Nat)) with | none => _ | some x => _) at q
      tm_at "x"
      refine x_ixL r1 (atI_of (j := 0) rfl rfl) ?_
      tm_at "x"
      refine x_ite (fun c2 => ?_) fun c2 => ?_
      · rw [if_pos (.inl c2)] at q
        tm_at "x"
        exact q _ s1
      · tm_at "x"
        refine x_ixL r1 (atI_of (j := 1) rfl rfl) ?_
        tm_at "x"
        refine x_ite (fun c3 => ?_) fun c3 => ?_
        · tm_at "x"
          refine x_iteN (fun c4 => ?_) fun c4 => ?_
          · rw [if_pos (.inr (.inr (by omega)))] at q
            tm_at "x"
            exact q _ s1
          · rw [if_neg (by omega)] at q
            tm_at "x"
            refine x_ixL r1 (atI_of (j := 0) rfl rfl) ?_
            tm_at "x"
            refine x_ixL r1 (atI_of (j := 1) rfl rfl) ?_
            tm_at "x"
            refine ⟨sz (by simp), fun p hp => q _ p (s1.more hp) ?_⟩
            rw [upd_same]
            congr 4
            · show n = ((n.toNat : Nat) : Int)
              omega
            · congr 2
              show s = ((s.toNat : Nat) : Int)
              omega
        · rw [if_pos (.inr (.inl (by omega)))] at q
          tm_at "x"
          exact q _ s1
theorem pure_replayed (vs : List V) (H : Hp) (Q : VK) (E : XK) (h : sp_replayed K vs H Q E) : t_replayed K { nx := fun _ H' => Q .non H', rt := Q } (start ["data", "number", "rows", "size", "row", "end"] vs) H := by
  obtain ⟨a, b, t, rfl, ha, hl, hb, q⟩ := h
  have hm : b.length ≤ 1000000 := hl
  have hfl := framesOf_len hb
  unfold t_replayed
  tm_at "x"
  refine ⟨sz (by simp), fun f hf => ?_⟩
  tm_at "x"
  have s0 : Same H (upd H f (.lst [])) := Same.new hf
  refine ⟨a, b, rfl, s0 _ _ ha, hl, hb, fun H1 d as s1 hd0 d1 n1 => ?_⟩
  have al : as.length = (framesOf b).length := n1.length
  have hmem : ∀ x ∈ framesOf b, x.1.length ≤ most := fun x hx => Nat.le_trans (framesOf_fit hb hx).2.1 hl
  generalize framesOf b = fs at n1 al q hmem hfl
  tm_at "x"
  refine x_srcL d1 ?_
  have fd : d ≠ f := by
    intro z
    rw [z, upd_same] at hd0
    cases hd0
  refine x_loop src_list (fun i σ H' => ∃ (v1 v2 : Option V) (ds : List Addr) (done : List (List Int)) (szv : Nat), σ = [some (.ref a), some (.int (t : Int)), some (.ref f), some (.int (szv : Int)), v1, v2] ∧ Same H H' ∧ H' d = some (.lst (as.map V.ref)) ∧ Frs (upd H f (.lst [])) H' as fs ∧
      H' f = some (.lst (ds.map V.ref)) ∧ Lls H' ds done ∧ (∀ x ∈ ds, x ≠ f) ∧ done.length = i ∧ replayM t 0 fs = (done ++ (replayM (t + i) szv (fs.drop i)).1, (replayM (t + i) szv (fs.drop i)).2)) ?_ (fun i σ H' h => by obtain ⟨_, _, _, _, _, _, _, e, _⟩ := h; exact e) ?_ ?_
  · exact ⟨_, _, [], [], 0, rfl, s0.trans s1, d1, n1, s1 _ _ upd_same, .nil, by simp, rfl, by rw [List.drop_zero, Nat.add_zero, List.nil_append]⟩
  · rintro i x σ H2 H3 hi ⟨v1, v2, ds, done, szv, rfl, s2, d2, n2, f2, l2, k2, k3, k4⟩ s3 hx
    obtain ⟨c, hc, rfl⟩ := ref_at hx
    obtain ⟨fr, hfr, r, hr0, hr1, hr2⟩ := pair_at n2 hc
    rw [List.length_map] at hi
    have hi2 : i < fs.length := by omega
    have ei : fs[i] = fr := by
      rw [List.getElem?_eq_getElem hi2] at hfr
      exact Option.some.inj hfr
    rw [List.drop_eq_getElem_cons hi2, ei] at k4
    obtain ⟨row, en⟩ := fr
    have hrl := hmem (row, en) (List.mem_of_getElem? hfr)
    have rf : r ≠ f := fun z => by
      rw [z, upd_same] at hr0
      cases hr0
    have r3 := s3 _ _ hr2
    have f3 := s3 _ _ f2
    refine x_gtup (s3 _ _ hr1) rfl ?_
    tm_at "x"
    refine ⟨r, row, rfl, r3, hrl, fun H4 s4 => ?_⟩
    have s5 : Same H H4 := (s2.trans s3).trans s4
    have unf : replayM (t + i) szv ((row, en) :: fs.drop (i + 1)) = if (Vbwsai.parseTickRow row).isSome = true ∧ row.head? = some (((t + i : Nat) : Int) + 1) then
        (row :: (replayM (t + i + 1) en (fs.drop (i + 1))).1, (replayM (t + i + 1) en (fs.drop (i + 1))).2) else ([], szv) := rfl
    rw [unf] at k4
    -- the early end
    have early : ∀ H5, Same H4 H5 → ¬ ((Vbwsai.parseTickRow row).isSome = true ∧ row.head? = some (((t + i : Nat) : Int) + 1)) → ∀ p, H5 p = none → Q (.ref p) (upd H5 p (.tup [.ref f, .int (szv : Int)])) := by
      intro H5 s6 hno p hp
      rw [if_neg hno] at k4
      rw [k4] at q
      refine q _ p f ds ((s5.trans s6).more hp) hf upd_same (Same.new hp _ _ (s6 _ _ (s4 _ _ f3))) ?_
      rw [List.append_nil]
      exact Lls.same (Same.new hp) (Lls.same s6 (Lls.same s4 (Lls.same s3 l2)))
    tm_at "x"
    refine x_iteNB (fun c1 => ?_) fun c1 => ?_
    · tm_at "x"
      refine ⟨sz (by simp), early _ (Same.refl _) (fun z => by rw [c1] at z; exact absurd z.1 (by decide))⟩
    · tm_at "x"
      obtain ⟨t0, r0, rfl⟩ : ∃ t0 r0, row = t0 :: r0 := by
        cases row with
        | nil => cases c1
        | cons t0 r0 => exact ⟨t0, r0, rfl⟩
      refine x_ixL (s4 _ _ r3) (atI_of (j := 0) rfl rfl) ?_
      tm_at "x"
      refine x_lenL (s4 _ _ f3) ?_
      rw [List.length_map, l2.length, k3]
      tm_at "x"
      refine x_iteN (fun c2 => ?_) fun c2 => ?_
      · tm_at "x"
        refine ⟨sz (by simp), early _ (Same.refl _) (fun z => ?_)⟩
        have := Option.some.inj z.2
        push_cast at this
        exact c2 this
      · have ok : (Vbwsai.parseTickRow (t0 :: r0)).isSome = true ∧ (t0 :: r0).head? = some (((t + i : Nat) : Int) + 1) := ⟨c1, by
          show some t0 = _
          push_cast
          rw [c2]⟩
        rw [if_pos ok] at k4
        tm_at "x"
        refine x_tyL (s4 _ _ f3) ?_
        tm_at "x"
        refine x_append (s4 _ _ f3) (szl (by rw [List.length_map, l2.length, k3]; omega)) ?_
        tm_at "x"
        refine ⟨_, _, ds ++ [r], done ++ [t0 :: r0], en, rfl, s5.mut hf, ?_, ?_, ?_, ?_, ?_, by simp [k3], ?_⟩
        · rw [upd_ne fd]
          exact s4 _ _ (s3 _ _ d2)
        · refine pair_mem (Frs.same s4 (Frs.same s3 n2)) fun x y mx e => ?_
          obtain ⟨r', z0, z1, z2⟩ := e
          have xf : x ≠ f := ne_of z1 (s4 _ _ f3) (by simp)
          have rf' : r' ≠ f := fun z => by
            rw [z, upd_same] at z0
            cases z0
          exact ⟨r', z0, by rw [upd_ne xf]; exact z1, by rw [upd_ne rf']; exact z2⟩
        · rw [upd_same]
          simp
        · refine (Lls.upd (Lls.same s4 (Lls.same s3 l2)) k2).snoc ?_
          show upd H4 f _ r = _
          rw [upd_ne rf]
          exact s4 _ _ r3
        · intro x hx
          rcases List.mem_append.mp hx with m | m
          · exact k2 x m
          · have : x = r := by simpa using m
            rw [this]
            exact rf
        · rw [k4, List.append_assoc]
          rfl
  · rintro σ H2 ⟨v1, v2, ds, done, szv, rfl, s2, d2, n2, f2, l2, k2, k3, k4⟩
    rw [List.length_map, al, List.drop_length] at k4
    have e0 : replayM (t + fs.length) szv [] = ([], szv) := rfl
    rw [e0, List.append_nil] at k4
    rw [k4] at q
    tm_at "x"
    refine ⟨sz (by simp), fun p hp => ?_⟩
    exact q _ p f ds (s2.more hp) hf upd_same (Same.new hp _ _ f2) (Lls.same (Same.new hp) l2)
end
end Ts
/-! ## TsP5 -/
namespace Ts
open PySem PySem.Spec PyProof.Rows L2
/-- the steps that leave no choice -/
local macro_rules | `(tactic| tm_at "x") => `(tactic| repeat (first | (with_reducible refine x_var ?_; refine ⟨_, rfl, ?_⟩) | with_reducible refine x_seq ?_ | with_reducible refine x_asg ?_ | with_reducible refine x_gname ?_ | with_reducible refine x_op ?_ | with_reducible refine x_c ?_ | with_reducible refine x_I0 ?_ | with_reducible refine x_if ?_ | with_reducible refine x_test ?_ | with_reducible refine x_bl ?_ | with_reducible refine x_blV ?_ | with_reducible refine x_ret ?_ | with_reducible refine x_retN ?_ | with_reducible refine x_drop ?_ | with_reducible refine x_cons ?_ | with_reducible refine x_nil ?_ | with_reducible refine x_call ?_ | with_reducible refine x_cb ?_ | with_reducible refine x_tB ?_ | with_reducible refine x_not ?_ | with_reducible refine x_and ?_ | with_reducible refine x_or ?_ | with_reducible refine x_andV ?_ | with_reducible refine x_orV ?_ | with_reducible refine x_notV ?_ | with_reducible refine x_chain ?_ | with_reducible refine x_un ?_ | with_reducible refine x_U ?_ | with_reducible refine x_mulL (by decide) ?_ | with_reducible refine x_mulR (by decide) ?_ | with_reducible refine x_isN ?_ | with_reducible refine x_notN ?_ | with_reducible refine x_sl ?_ | with_reducible refine x_noPart ?_ | with_reducible refine x_part ?_ | with_reducible refine x_int ?_ | with_reducible refine x_bm ?_ | with_reducible refine x_ipI ?_ | with_reducible refine x_next ?_ | with_reducible refine x_refN ?_ | with_reducible refine x_intN ?_ | with_reducible refine x_nonN ?_ | with_reducible refine x_refNN ?_ | with_reducible refine x_nonNN ?_ | with_reducible refine x_yes ?_ | with_reducible refine x_no ?_ | with_reducible refine x_gcons ?_ | with_reducible refine x_gnil ?_ | with_reducible refine x_lst ?_ | with_reducible refine x_tup ?_ | with_reducible refine x_dnewK ?_ | with_reducible refine x_for ?_ | with_reducible refine x_iList ?_ | with_reducible refine x_iTup ?_ | with_reducible refine x_iEnum ?_ | with_reducible refine x_iZip ?_ | with_reducible refine x_iRng3 ?_ | with_reducible refine x_lc ?_ | with_reducible refine x_dput ?_ | with_reducible refine x_dget ?_ | with_reducible refine x_din ?_ | with_reducible refine x_dpop ?_ | (with_reducible refine x_aug ?_; refine ⟨_, rfl, ?_⟩)))
section
variable {K : PySem.W.Frag}
theorem sp_eq {c n : Nat} {acc r : List Nat} (h : n = c) : Vbwsai.splitAtByte c acc (n :: r) = acc :: Vbwsai.splitAtByte c [] r := if_pos h
theorem sp_ne {c n : Nat} {acc r : List Nat} (h : n ≠ c) : Vbwsai.splitAtByte c acc (n :: r) = Vbwsai.splitAtByte c (acc ++ [n]) r := if_neg h
theorem pure_cut_at (vs : List V) (H : Hp) (Q : VK) (E : XK) (h : sp_cut_at K vs H Q E) : t_cut_at K { nx := fun _ H' => Q .non H', rt := Q } (start ["data", "sign", "found", "byte"] vs) H := by
  obtain ⟨a, p, sg, rfl, ha, hl, q⟩ := h
  have hm : p.length ≤ 1000000 := hl
  unfold t_cut_at
  tm_at "x"
  refine ⟨sz (by simp), fun c0 hc0 => ?_⟩
  tm_at "x"
  refine ⟨sz (by simp), fun f hf => ?_⟩
  tm_at "x"
  have s0 : Same H (upd (upd H c0 (.lst [])) f (.lst [.ref c0])) := (Same.new hc0).more hf
  have hfH : H f = none := (Same.new hc0).free hf
  have hne : c0 ≠ f := ne_of_none upd_same hf
  refine x_srcL (s0 _ _ ha) ?_
  refine x_loop src_list (fun i σ H' => ∃ (v : Option V) (as : List Addr) (c : Addr) (pre : List (List Nat)) (cur : List Nat), σ = [some (.ref a), some (.int (sg : Int)), some (.ref f), v] ∧ Same H H' ∧ H' f = some (.lst ((as ++ [c]).map V.ref)) ∧ Nls H' as pre ∧ H' c = some (.lst (nv cur)) ∧
      (∀ x ∈ as, x ≠ c) ∧ H c = none ∧ c ≠ f ∧ (∀ x ∈ as, x ≠ f) ∧ pre.length ≤ i ∧ cur.length ≤ i ∧ pre ++ Vbwsai.splitAtByte sg cur (p.drop i) = Vbwsai.splitAtByte sg [] p)
    ⟨none, [], c0, [], [], rfl, s0, upd_same, .nil, by rw [upd_ne hne]; exact upd_same, by simp, hc0, hne, by simp, Nat.le_refl _, Nat.le_refl _, by rw [List.nil_append, List.drop_zero]⟩
    (fun i σ H' h => by obtain ⟨_, _, _, _, _, _, s, _⟩ := h; exact s _ _ ha) ?_ ?_
  · rintro i x σ H1 H2 hi ⟨v, as, c, pre, cur, rfl, s, e1, e2, e3, e4, e5, e6, e7, e8, e9, e10⟩ s2 hx
    obtain ⟨n, hn, rfl⟩ := nv_at hx
    rw [nv_len] at hi
    have hn2 : p[i] = n := by
      rw [List.getElem?_eq_getElem hi] at hn
      exact Option.some.inj hn
    rw [List.drop_eq_getElem_cons hi, hn2] at e10
    have al : as.length = pre.length := e2.length
    tm_at "x"
    refine x_ite (fun k => ?_) fun k => ?_
    · have k' : n = sg := by omega
      rw [sp_eq k'] at e10
      tm_at "x"
      refine x_tyL (s2 _ _ e1) ?_
      tm_at "x"
      refine ⟨sz (by simp), fun c' hc' => ?_⟩
      tm_at "x"
      have f4 : upd H2 c' (.lst []) f = some (.lst ((as ++ [c]).map V.ref)) := Same.new hc' _ _ (s2 _ _ e1)
      refine x_append f4 (szl (by simp; omega)) ?_
      have cf : c' ≠ f := Ne.symm (ne_of_none (s2 _ _ e1) hc')
      have cc : c ≠ c' := ne_of_none (s2 _ _ e3) hc'
      refine ⟨_, as ++ [c], c', pre ++ [cur], [], rfl, ((s.trans s2).more hc').mut hfH, ?_, ?_, ?_, ?_, ?_, cf, ?_, ?_, by simp, ?_⟩
      · rw [upd_same]
        simp
      · refine (pair_mem (e2.same s2) fun x l m e => ?_).snoc ?_
        · rw [upd_ne (e7 x m), upd_ne (ne_of_none e hc')]
          exact e
        · rw [upd_ne e6, upd_ne cc]
          exact s2 _ _ e3
      · rw [upd_ne cf]
        exact upd_same
      · intro x m
        rcases List.mem_append.mp m with m | m
        · obtain ⟨l, el⟩ := (e2.same s2).there m
          exact ne_of_none el hc'
        · have : x = c := by simpa using m
          rw [this]
          exact cc
      · exact (s.trans s2).free hc'
      · intro x m
        rcases List.mem_append.mp m with m | m
        · exact e7 x m
        · have : x = c := by simpa using m
          rw [this]
          exact e6
      · simp
        omega
      · rw [← e10]
        simp
    · have k' : n ≠ sg := by omega
      rw [sp_ne k'] at e10
      tm_at "x"
      refine x_ixL (s2 _ _ e1) (atI_neg (v := .ref c) (by simp)) ?_
      tm_at "x"
      refine x_tyL (s2 _ _ e3) ?_
      tm_at "x"
      refine x_append (s2 _ _ e3) (szl (by rw [nv_len]; omega)) ?_
      rw [nv_app]
      have s3 : Same H (upd H2 c (.lst (nv (cur ++ [n])))) := (s.trans s2).mut e5
      have f3 : upd H2 c (.lst (nv (cur ++ [n]))) f = some (.lst ((as ++ [c]).map V.ref)) := by rw [upd_ne (Ne.symm e6)]; exact s2 _ _ e1
      have n3 : Nls (upd H2 c (.lst (nv (cur ++ [n])))) as pre := pair_mem (e2.same s2) fun x l m e => by
        have := e4 x m
        rw [upd_ne this]
        exact e
      exact ⟨_, as, c, pre, cur ++ [n], rfl, s3, f3, n3, upd_same, e4, e5, e6, e7, by omega, by simp; omega, e10⟩
  · rintro σ H' ⟨v, as, c, pre, cur, rfl, s, e1, e2, e3, e4, e5, e6, e7, e8, e9, e10⟩
    rw [nv_len, List.drop_length] at e10
    tm_at "x"
    refine q H' f (as ++ [c]) s e1 ?_
    have z : Vbwsai.splitAtByte sg [] p = pre ++ [cur] := by
      rw [← e10]
      rfl
    rw [z]
    exact e2.snoc e3
theorem pure_are_digits (vs : List V) (H : Hp) (Q : VK) (E : XK) (h : sp_are_digits K vs H Q E) : t_are_digits K { nx := fun _ H' => Q .non H', rt := Q } (start ["data", "byte"] vs) H := by
  obtain ⟨a, b, rfl, ha, hl, q⟩ := h
  have hm : b.length ≤ 1000000 := hl
  unfold t_are_digits
  tm_at "x"
  refine x_lenL ha ?_
  rw [nv_len]
  tm_at "x"
  have no : ∀ {A B : Bool}, A = false → (A && B) = false := fun h => by rw [h]; rfl
  refine x_ite (fun c => ?_) fun c => ?_
  · tm_at "x"
    refine x_iteNB (fun c2 => ?_) fun c2 => ?_
    · tm_at "x"
      have d : areDigits b = false := by
        unfold areDigits
        have c3 := of_decide_eq_false c2
        rw [decide_eq_false (show ¬ b.length ≤ 19 by omega), Bool.and_false, Bool.false_and]
      rw [d] at q
      exact q _ (Same.refl _)
    · have c3 := of_decide_eq_true c2
      tm_at "x"
      refine x_srcLc ha ?_
      refine x_compM src_list b (fun x => V.bl (Vbwsai.isDigit x)) (by rw [nv_len]) (by rw [nv_len]; omega) (fun H' s => s _ _ ha) ?_ ?_
      · intro i x l H3 N hi s3 hx hN
        obtain ⟨n, hb, rfl⟩ := nv_at hx
        have : n = l := Option.some.inj (hb.symm.trans hi)
        subst this
        tm_at "x"
        refine ⟨rfl, ?_⟩
        tm_at "x"
        refine x_ite (fun k => ?_) fun k => ?_
        · tm_at "x"
          have e : decide ((n : Int) ≤ 57) = Vbwsai.isDigit n := decide_eq_decide.mpr (by omega)
          show N (.bl (decide ((n : Int) ≤ 57))) H3
          rw [e]
          exact hN _ (Same.refl _)
        · have e : false = Vbwsai.isDigit n := by
            unfold Vbwsai.isDigit
            rw [decide_eq_false]
            omega
          show N (.bl false) H3
          rw [e]
          exact hN _ (Same.refl _)
      · intro H3 D s3 hD eD
        tm_at "x"
        have eD2 : H3 D = some (.lst ((b.map Vbwsai.isDigit).map V.bl)) := by rw [eD, List.map_map]; rfl
        refine x_all eD2 ?_
        have eall : (b.map Vbwsai.isDigit).all id = b.all Vbwsai.isDigit := by rw [List.all_map]; rfl
        rw [eall]
        tm_at "x"
        have c1' : 1 ≤ b.length := by omega
        have c3' : b.length ≤ 19 := by omega
        refine x_iteNB (fun k => ?_) fun k => ?_
        · tm_at "x"
          have d : areDigits b = false := by
            unfold areDigits
            rw [k, Bool.false_and, Bool.and_false]
          rw [d] at q
          exact q _ s3
        · have d : areDigits b = (decide (b.length = 1) || !decide (b.head? = some 48)) := by
            unfold areDigits
            rw [k, decide_eq_true c1', decide_eq_true c3']
            rfl
          rw [d] at q
          tm_at "x"
          refine x_lenL (s3 _ _ ha) ?_
          rw [nv_len]
          tm_at "x"
          refine x_ite (fun c4 => ?_) fun c4 => ?_
          · rw [decide_eq_true (show b.length = 1 by omega)] at q
            exact q _ s3
          · rw [decide_eq_false (show ¬ b.length = 1 by omega), Bool.false_or] at q
            tm_at "x"
            cases b with
            | nil => simp at c1'
            | cons x r =>
              refine x_ixL (v := .int (x : Int)) (s3 _ _ ha) (atI_of (j := 0) rfl rfl) ?_
              tm_at "x"
              have e : decide ((x : Int) = 48) = decide ((x :: r).head? = some 48) := decide_eq_decide.mpr ⟨fun z => by show some x = some 48; congr 1; omega, fun z => by have := Option.some.inj z; omega⟩
              rw [e]
              exact q _ s3
  · tm_at "x"
    have d : areDigits b = false := by
      unfold areDigits
      rw [decide_eq_false (show ¬ 1 ≤ b.length by omega), Bool.false_and, Bool.false_and]
    rw [d] at q
    exact q _ (Same.refl _)
theorem worth_snoc (l : List Nat) (n : Nat) : worth (l ++ [n]) = 10 * worth l + (n - 48) := by
  unfold worth
  rw [List.foldl_append]
  rfl
theorem pure_worth (vs : List V) (H : Hp) (Q : VK) (E : XK) (h : sp_worth K vs H Q E) : t_worth K { nx := fun _ H' => Q .non H', rt := Q } (start ["digits", "found", "byte"] vs) H := by
  obtain ⟨a, b, rfl, ha, hd, q⟩ := h
  unfold t_worth
  tm_at "x"
  refine x_srcL ha ?_
  refine x_loop src_list (fun i σ H' => ∃ (v : Option V), σ = [some (.ref a), some (.int (worth (b.take i) : Nat)), v] ∧ Same H H') ⟨_, rfl, Same.refl _⟩ (fun i σ H' ⟨_, _, s⟩ => s _ _ ha) ?_ ?_
  · rintro i x σ H1 H2 hi ⟨v, rfl, s⟩ s2 hx
    obtain ⟨n, hn, rfl⟩ := nv_at hx
    tm_at "x"
    refine ⟨some (.int (n : Int)), ?_, s.trans s2⟩
    have hdn : Vbwsai.isDigit n = true := List.all_eq_true.mp hd n (List.mem_of_getElem? hn)
    unfold Vbwsai.isDigit at hdn
    have hdn2 := of_decide_eq_true hdn
    rw [List.take_add_one, hn]
    show [some (V.ref a), some (.int (10 * ((worth (b.take i) : Nat) : Int) + (n : Int) - 48)), some (.int (n : Int))] = [some (V.ref a), some (.int ((worth (b.take i ++ [n]) : Nat) : Int)), some (.int (n : Int))]
    rw [worth_snoc]
    congr 4
    omega
  · rintro σ H' ⟨v, rfl, s⟩
    tm_at "x"
    rw [nv_len, List.take_length]
    exact q _ s
theorem take1 (b : List Nat) : cutV (nv b) none (some 1) = nv (b.take 1) := by
  rw [show (1 : Int) = ((1 : Nat) : Int) from rfl, cutV_to]
  simp [nv, List.map_take]
theorem drop1 (b : List Nat) : cutV (nv b) (some 1) none = nv (b.drop 1) := by
  rw [show (1 : Int) = ((1 : Nat) : Int) from rfl, cutV_from]
  simp [nv, List.map_drop]
theorem digits_all {r : List Nat} (h : areDigits r = true) : 1 ≤ r.length ∧ r.all Vbwsai.isDigit = true := by
  unfold areDigits at h
  simp only [Bool.and_eq_true, decide_eq_true_eq] at h
  exact ⟨h.1.1, h.2.1⟩
theorem pure_number_in (vs : List V) (H : Hp) (Q : VK) (E : XK) (h : sp_number_in K vs H Q E) : t_number_in K { nx := fun _ H' => Q .non H', rt := Q } (start ["data"] vs) H := by
  obtain ⟨a, b, rfl, ha, hl, q⟩ := h
  unfold t_number_in
  tm_at "x"
  refine x_slL ha fun p1 hp1 => ?_
  rw [take1]
  tm_at "x"
  refine ⟨sz (by simp), fun p2 hp2 => ?_⟩
  have s1 := (Same.new hp1 (o := .lst (nv (b.take 1)))).more hp2 (o := .lst [.int 45])
  refine x_eqN (r := [45]) (Same.new hp2 _ _ upd_same) upd_same ?_
  tm_at "x"
  refine x_ite (fun c => ?_) fun c => ?_
  · obtain ⟨r, rfl⟩ : ∃ r, b = 45 :: r := by
      cases b with
      | nil => cases c
      | cons x r =>
        rw [List.take_succ_cons, List.take_zero] at c
        exact ⟨r, by rw [(List.cons.inj c).1]⟩
    rw [parseInteger_minus] at q
    have hl' : r.length ≤ most := Nat.le_trans (by simp) hl
    tm_at "x"
    refine x_slL (s1 _ _ ha) fun p3 hp3 => ?_
    rw [drop1, show (45 :: r).drop 1 = r from rfl]
    have s2 := s1.more hp3 (o := .lst (nv r))
    tm_at "x"
    refine ⟨p3, r, rfl, upd_same, hl', fun H4 s4 => ?_⟩
    tm_at "x"
    refine x_iteNB (fun k => ?_) fun k => ?_
    · rw [if_neg (fun z => by rw [k] at z; exact absurd z.1 (by decide))] at q
      tm_at "x"
      exact q _ (s2.trans s4)
    · obtain ⟨d1, d2⟩ := digits_all k
      cases r with
      | nil => simp at d1
      | cons x r =>
        tm_at "x"
        refine x_ixL (v := .int (x : Int)) (s4 _ _ (Same.new hp3 _ _ (s1 _ _ ha))) (atI_of (j := 1) rfl rfl) ?_
        tm_at "x"
        refine x_ite (fun k2 => ?_) fun k2 => ?_
        · rw [if_neg (fun z => z.2 (by show some x = some 48; congr 1; omega))] at q
          tm_at "x"
          exact q _ (s2.trans s4)
        · rw [if_pos ⟨k, fun z => by have := Option.some.inj z; omega⟩] at q
          tm_at "x"
          refine x_slL (s4 _ _ (Same.new hp3 _ _ (s1 _ _ ha))) fun p5 hp5 => ?_
          rw [drop1, show (45 :: x :: r).drop 1 = x :: r from rfl]
          tm_at "x"
          refine ⟨p5, x :: r, rfl, upd_same, d2, fun H6 s6 => ?_⟩
          tm_at "x"
          have := q _ (((s2.trans s4).more hp5 (o := .lst (nv (x :: r)))).trans s6)
          show Q (.int (0 - (worth (x :: r) : Int))) H6
          rw [Int.zero_sub]
          exact this
  · have c' : b.head? ≠ some 45 := fun z => by
      cases b with
      | nil => cases z
      | cons x r =>
        rw [Option.some.inj z] at c
        exact c rfl
    rw [parseInteger_plain c'] at q
    tm_at "x"
    refine ⟨a, b, rfl, s1 _ _ ha, hl, fun H4 s4 => ?_⟩
    tm_at "x"
    refine x_iteNB (fun k => ?_) fun k => ?_
    · rw [if_neg (fun z => by rw [k] at z; cases z)] at q
      tm_at "x"
      exact q _ (s1.trans s4)
    · rw [if_pos k] at q
      tm_at "x"
      refine ⟨a, b, rfl, s4 _ _ (s1 _ _ ha), (digits_all k).2, fun H6 s6 => ?_⟩
      tm_at "x"
      exact q _ ((s1.trans s4).trans s6)
theorem pure_limited (vs : List V) (H : Hp) (Q : VK) (E : XK) (h : sp_limited K vs H Q E) : t_limited K { nx := fun _ H' => Q .non H', rt := Q } (start ["data", "least", "most", "number"] vs) H := by
  obtain ⟨a, b, lo, hi, rfl, ha, hl, q⟩ := h
  unfold t_limited
  tm_at "x"
  refine ⟨a, b, rfl, ha, hl, fun H1 s1 => ?_⟩
  cases e : Vbwsai.parseInteger b with
  | none =>
    rw [e] at q
    tm_at "x"
    exact q _ s1
  | some n =>
    rw [e] at q
    change ∀ H', Same H H' → Q (optV (if (decide (lo ≤ n) && decide (n ≤ hi)) = true then some n else none)) H' at q
    show gName _ (.int n) _ _ _
    tm_at "x"
    refine x_ite (fun c1 => ?_) fun c1 => ?_
    · rw [decide_eq_true c1, Bool.true_and] at q
      tm_at "x"
      refine x_iteNB (fun c2 => ?_) fun c2 => ?_
      · rw [c2] at q
        tm_at "x"
        exact q _ s1
      · rw [c2] at q
        tm_at "x"
        exact q _ s1
    · rw [decide_eq_false c1] at q
      tm_at "x"
      exact q _ s1
theorem pure_removal_in (vs : List V) (H : Hp) (Q : VK) (E : XK) (h : sp_removal_in K vs H Q E) : t_removal_in K { nx := fun _ H' => Q .non H', rt := Q } (start ["token", "key"] vs) H := by
  obtain ⟨a, b, rfl, ha, hl, q⟩ := h
  rw [change_minus] at q
  unfold t_removal_in
  tm_at "x"
  refine x_slL ha fun p1 hp1 => ?_
  rw [show (-(1 : Int)) = -1 from rfl, cutV_init]
  have e1 : (nv (b ++ [33])).dropLast = nv b := by simp [nv]
  rw [e1]
  have s1 := Same.new hp1 (o := .lst (nv b))
  tm_at "x"
  refine ⟨p1, b, 0, 63, rfl, upd_same, Nat.le_trans hl (by decide), fun H2 s2 => ?_⟩
  cases e : (Vbwsai.parseInteger b).filter (within 0 63) with
  | none =>
    rw [e] at q
    have e' : ((Vbwsai.parseInteger b).filter fun n => decide ((0 : Int) ≤ n) && decide (n ≤ 63)) = none := e
    rw [e']
    show gName _ .non _ _ _
    tm_at "x"
    exact q _ (s1.trans s2)
  | some n =>
    rw [e] at q
    have e' : ((Vbwsai.parseInteger b).filter fun n => decide ((0 : Int) ≤ n) && decide (n ≤ 63)) = some n := e
    rw [e']
    have w := (Option.filter_eq_some_iff.mp e).2
    unfold within at w
    rw [Bool.and_eq_true] at w
    have w0 := of_decide_eq_true w.1
    show gName _ (.int n) _ _ _
    tm_at "x"
    refine ⟨sz (by simp), fun p hp => ?_⟩
    refine q _ p ((s1.trans s2).more hp) ?_
    rw [upd_same]
    show some (HO.lst [V.int n, .int 0, .int 0]) = some (.lst (iv [((n.toNat : Nat) : Int), 0, 0]))
    rw [Int.toNat_of_nonneg w0]
    rfl
theorem pure_change_in (vs : List V) (H : Hp) (Q : VK) (E : XK) (h : sp_change_in K vs H Q E) : t_change_in K { nx := fun _ H' => Q .non H', rt := Q } (start ["token", "parts", "key", "value"] vs) H := by
  obtain ⟨a, b, rfl, ha, hl, q⟩ := h
  unfold t_change_in
  tm_at "x"
  refine x_slL ha fun p1 hp1 => ?_
  rw [show (-(1 : Int)) = -1 from rfl, cutV_last]
  have e1 : (nv b).drop ((nv b).length - 1) = nv (b.drop (b.length - 1)) := by simp [nv, List.map_drop]
  rw [e1]
  tm_at "x"
  refine ⟨sz (by simp), fun p2 hp2 => ?_⟩
  have s1 := (Same.new hp1 (o := .lst (nv (b.drop (b.length - 1))))).more hp2 (o := .lst [.int 33])
  refine x_eqN (r := [33]) (Same.new hp2 _ _ upd_same) upd_same ?_
  tm_at "x"
  refine x_ite (fun c => ?_) fun c => ?_
  · have eb : b = b.take (b.length - 1) ++ [33] := by
      rw [← c, List.take_append_drop]
    have hl2 : (b.take (b.length - 1)).length ≤ 10000 := by rw [List.length_take]; omega
    generalize b.take (b.length - 1) = r at eb hl2
    subst eb
    tm_at "x"
    refine ⟨a, r, rfl, s1 _ _ ha, hl2, ?_⟩
    cases e : Vbwsai.parseChange (r ++ [33]) with
    | none =>
      rw [e] at q
      intro H3 s3
      tm_at "x"
      exact q _ (s1.trans s3)
    | some x =>
      rw [e] at q
      intro H3 p s3 e3
      tm_at "x"
      exact q _ _ (s1.trans s3) e3
  · have c' : b.getLast? ≠ some 33 := fun z => by
      obtain ⟨r, rfl⟩ := List.getLast?_eq_some_iff.mp z
      exact c (by simp)
    rw [change_put c'] at q
    tm_at "x"
    refine ⟨a, b, 61, rfl, s1 _ _ ha, Nat.le_trans hl (by decide), fun H3 d as s3 d3 n3 => ?_⟩
    have hpart := split_part 61 b []
    generalize hcs : Vbwsai.splitAtByte 61 [] b = cs at q n3 hpart
    have al : as.length = cs.length := n3.length
    have s4 := s1.trans s3
    tm_at "x"
    refine x_lenL d3 ?_
    rw [List.length_map]
    tm_at "x"
    refine x_iteN (fun c2 => ?_) fun c2 => ?_
    · tm_at "x"
      have : ChgOut H Q none := by
        match cs, al, q with
        | [], _, q => exact q
        | [_], _, q => exact q
        | [_, _], z, _ => exact absurd (by rw [z]; rfl) c2
        | _ :: _ :: _ :: _, _, q => exact q
      exact this _ s4
    · obtain ⟨x, y, rfl⟩ : ∃ x y, cs = [x, y] := by
        match cs, al with
        | [], z => exact absurd (by rw [z]; exact fun h => by simp at h) (not_not_intro c2)
        | [_], z => exact absurd (by rw [z]; exact fun h => by simp at h) (not_not_intro c2)
        | [x, y], _ => exact ⟨x, y, rfl⟩
        | _ :: _ :: _ :: _, z => rw [z] at c2; simp at c2; omega
      obtain ⟨ax, ay, rfl⟩ : ∃ x y, as = [x, y] := by
        match as, al with
        | [x, y], _ => exact ⟨x, y, rfl⟩
      obtain ⟨_, hx1, hx2⟩ := pair_at n3 (i := 0) (a := ax) rfl
      have := Option.some.inj hx1
      subst this
      obtain ⟨_, hy1, hy2⟩ := pair_at n3 (i := 1) (a := ay) rfl
      have := Option.some.inj hy1
      subst this
      have lx : x.length ≤ most := Nat.le_trans (hpart x (by simp)) (by simp; exact Nat.le_trans hl (by decide))
      have ly : y.length ≤ most := Nat.le_trans (hpart y (by simp)) (by simp; exact Nat.le_trans hl (by decide))
      tm_at "x"
      refine x_ixL (v := .ref ax) d3 (atI_of (j := 0) rfl rfl) ?_
      tm_at "x"
      refine ⟨ax, x, 0, 63, rfl, hx2, lx, fun H5 s5 => ?_⟩
      tm_at "x"
      refine x_ixL (v := .ref ay) (s5 _ _ d3) (atI_of (j := 1) rfl rfl) ?_
      tm_at "x"
      refine ⟨ay, y, _, _, rfl, s5 _ _ hy2, ly, fun H6 s6 => ?_⟩
      have s7 := (s4.trans s5).trans s6
      change ChgOut H Q (match (Vbwsai.parseInteger x).filter (within 0 63), (Vbwsai.parseInteger y).filter (within (-Vbwsai.maxValue) Vbwsai.maxValue) with | some k, some v => some ((k.toNat, some v) : Vbwsai.Change) | _, _ => none) at q
      have ex : ((Vbwsai.parseInteger x).filter fun n => decide ((0 : Int) ≤ n) && decide (n ≤ 63)) = (Vbwsai.parseInteger x).filter (within 0 63) := rfl
      have ey : ((Vbwsai.parseInteger y).filter fun n => decide ((0 : Int) - 1000000000000000000 ≤ n) && decide (n ≤ 1000000000000000000)) = (Vbwsai.parseInteger y).filter (within (-Vbwsai.maxValue) Vbwsai.maxValue) := rfl
      rw [ex, ey]
      cases e1 : (Vbwsai.parseInteger x).filter (within 0 63) with
      | none =>
        rw [e1] at q
        show gName _ _ _ _ _
        tm_at "x"
        show (if decide (V.non = .non) = true then _ else _)
        tm_at "x"
        exact q _ s7
      | some k =>
        rw [e1] at q
        have w := (Option.filter_eq_some_iff.mp e1).2
        unfold within at w
        rw [Bool.and_eq_true] at w
        have w0 := of_decide_eq_true w.1
        cases e2 : (Vbwsai.parseInteger y).filter (within (-Vbwsai.maxValue) Vbwsai.maxValue) with
        | none =>
          rw [e2] at q
          show gName _ _ _ _ _
          tm_at "x"
          show (if decide (V.int k = .non) = true then _ else _)
          tm_at "x"
          show (if decide (V.non = .non) = true then _ else _)
          tm_at "x"
          exact q _ s7
        | some v =>
          rw [e2] at q
          show gName _ _ _ _ _
          tm_at "x"
          show (if decide (V.int k = .non) = true then _ else _)
          tm_at "x"
          show (if decide (V.int v = .non) = true then _ else _)
          tm_at "x"
          refine ⟨sz (by simp), fun p hp => ?_⟩
          refine q _ p (s7.more hp) ?_
          rw [upd_same]
          show some (HO.lst [V.int k, .int 1, .int v]) = some (.lst (iv [((k.toNat : Nat) : Int), 1, v]))
          rw [Int.toNat_of_nonneg w0]
          rfl
end
end Ts
/-! ## TsP6 -/
namespace Ts
open PySem PySem.Spec PyProof.Rows L2
/-- the steps that leave no choice -/
local macro_rules | `(tactic| tm_at "x") => `(tactic| repeat (first | (with_reducible refine x_var ?_; refine ⟨_, rfl, ?_⟩) | with_reducible refine x_seq ?_ | with_reducible refine x_asg ?_ | with_reducible refine x_gname ?_ | with_reducible refine x_op ?_ | with_reducible refine x_c ?_ | with_reducible refine x_I0 ?_ | with_reducible refine x_if ?_ | with_reducible refine x_test ?_ | with_reducible refine x_bl ?_ | with_reducible refine x_blV ?_ | with_reducible refine x_ret ?_ | with_reducible refine x_retN ?_ | with_reducible refine x_drop ?_ | with_reducible refine x_cons ?_ | with_reducible refine x_nil ?_ | with_reducible refine x_call ?_ | with_reducible refine x_cb ?_ | with_reducible refine x_tB ?_ | with_reducible refine x_not ?_ | with_reducible refine x_and ?_ | with_reducible refine x_or ?_ | with_reducible refine x_andV ?_ | with_reducible refine x_orV ?_ | with_reducible refine x_notV ?_ | with_reducible refine x_chain ?_ | with_reducible refine x_un ?_ | with_reducible refine x_U ?_ | with_reducible refine x_mulL (by decide) ?_ | with_reducible refine x_mulR (by decide) ?_ | with_reducible refine x_isN ?_ | with_reducible refine x_notN ?_ | with_reducible refine x_sl ?_ | with_reducible refine x_noPart ?_ | with_reducible refine x_part ?_ | with_reducible refine x_int ?_ | with_reducible refine x_bm ?_ | with_reducible refine x_ipI ?_ | with_reducible refine x_next ?_ | with_reducible refine x_refN ?_ | with_reducible refine x_intN ?_ | with_reducible refine x_nonN ?_ | with_reducible refine x_refNN ?_ | with_reducible refine x_nonNN ?_ | with_reducible refine x_yes ?_ | with_reducible refine x_no ?_ | with_reducible refine x_gcons ?_ | with_reducible refine x_gnil ?_ | with_reducible refine x_lst ?_ | with_reducible refine x_tup ?_ | with_reducible refine x_dnewK ?_ | with_reducible refine x_for ?_ | with_reducible refine x_iList ?_ | with_reducible refine x_iTup ?_ | with_reducible refine x_iEnum ?_ | with_reducible refine x_iZip ?_ | with_reducible refine x_iRng3 ?_ | with_reducible refine x_lc ?_ | with_reducible refine x_dput ?_ | with_reducible refine x_dget ?_ | with_reducible refine x_din ?_ | with_reducible refine x_dpop ?_ | with_reducible refine x_fld ?_ | with_reducible refine x_sfld ?_ | with_reducible refine x_meth ?_ | with_reducible refine x_gsub ?_ | with_reducible refine x_raiseO ?_ | ((with_reducible refine x_self (by assumption) ?_ ?_); exact fun _ _ _ _ => rfl) | with_reducible refine x_gPower (by assumption) (by assumption) ?_ | with_reducible refine x_gDur (by assumption) (by assumption) ?_ | with_reducible refine x_gLast (by assumption) (by assumption) ?_ | with_reducible refine x_gSide (by assumption) (by assumption) ?_ | with_reducible refine x_gCommit (by assumption) (by assumption) ?_ | with_reducible refine x_gWrit (by assumption) (by assumption) ?_ | with_reducible refine x_gFiles (by assumption) (by assumption) ?_ | (with_reducible refine x_aug ?_; refine ⟨_, rfl, ?_⟩)))
section
variable {K : PySem.W.Frag}
theorem chg_len (c : Vbwsai.Change) : (chg c).length = 3 := by
  unfold chg
  split <;> rfl
theorem chgs_len : ∀ cs : List Vbwsai.Change, (cs.flatMap chg).length = 3 * cs.length
  | [] => rfl
  | c :: cs => by
    rw [List.flatMap_cons, List.length_append, chg_len, chgs_len cs, List.length_cons]
    omega
theorem tok_cons (t : List Nat) (r : List (List Nat)) : Vbwsai.parseChangeTokens (t :: r) = (match Vbwsai.parseChange t, Vbwsai.parseChangeTokens r with | some c, some l => some (c :: l) | _, _ => none) := rfl
theorem pure_changes_in (vs : List V) (H : Hp) (Q : VK) (E : XK) (h : sp_changes_in K vs H Q E) : t_changes_in K { nx := fun _ H' => Q .non H', rt := Q } (start ["line", "number", "tokens", "found", "token", "change"] vs) H := by
  obtain ⟨a, b, t, rfl, ha, hl, ht1, ht2, q⟩ := h
  unfold t_changes_in
  tm_at "x"
  refine ⟨a, b, 32, rfl, ha, Nat.le_trans hl (by decide), fun H1 d as s1 d1 n1 => ?_⟩
  have hpart := split_part 32 b []
  have hlen := split_len 32 b []
  cases hs : Vbwsai.splitAtByte 32 [] b with
  | nil => exact absurd hs (split_ne _ _ _)
  | cons w r =>
    rw [lineIn_eq hs (Nat.le_trans ht2 (by decide))] at q
    rw [hs] at n1 hpart hlen
    obtain ⟨aw, ar, rfl⟩ : ∃ x y, as = x :: y := by
      cases as with
      | nil => cases n1
      | cons x y => exact ⟨x, y, rfl⟩
    have nw : H1 aw = some (.lst (nv w)) := by
      obtain ⟨_, h1, h2⟩ := pair_at n1 (i := 0) (a := aw) rfl
      rw [Option.some.inj h1]
      exact h2
    have nr : Nls H1 ar r := by
      cases n1 with
      | cons _ t => exact t
    have al : ar.length = r.length := nr.length
    have hw : w.length ≤ most := Nat.le_trans (hpart w (by simp)) (by simp; exact Nat.le_trans hl (by decide))
    have hr : ∀ p ∈ r, p.length ≤ 10000 := fun p hp => Nat.le_trans (hpart p (by simp [hp])) (by simp; exact hl)
    tm_at "x"
    refine x_ixL (v := .ref aw) d1 (atI_of (j := 0) rfl rfl) ?_
    tm_at "x"
    refine ⟨aw, w, rfl, nw, hw, fun H2 s2 => ?_⟩
    have eq1 : decide (optV (Vbwsai.parseInteger w) = .int (t : Int)) = decide (Vbwsai.parseInteger w = some (t : Int)) := by
      cases Vbwsai.parseInteger w with
      | none => rfl
      | some n =>
        exact decide_eq_decide.mpr ⟨fun z => congrArg some (V.int.inj z), fun z => congrArg V.int (Option.some.inj z)⟩
    have sc : scal (optV (Vbwsai.parseInteger w)) (.int (t : Int)) = true := by
      cases Vbwsai.parseInteger w <;> rfl
    tm_at "x"
    refine ⟨sc, ?_⟩
    rw [eq1]
    tm_at "x"
    refine x_iteN (fun c1 => ?_) fun c1 => ?_
    · rw [if_neg (fun z => c1 z.1)] at q
      tm_at "x"
      exact q _ (s1.trans s2)
    · tm_at "x"
      refine x_lenL (s2 _ _ d1) ?_
      rw [List.length_map]
      tm_at "x"
      refine x_ite (fun c2 => ?_) fun c2 => ?_
      · rw [if_neg (fun z => by have := z.2; simp at c2; omega)] at q
        tm_at "x"
        exact q _ (s1.trans s2)
      · have hr16 : r.length ≤ 16 := by simp at c2; omega
        rw [if_pos ⟨c1, hr16⟩] at q
        tm_at "x"
        refine ⟨sz (by simp), fun f hf => ?_⟩
        tm_at "x"
        have s3 : Same H2 (upd H2 f (.lst [])) := Same.new hf
        have s03 := (s1.trans s2).trans s3
        refine x_slL (s3 _ _ (s2 _ _ d1)) fun p hp => ?_
        rw [show (1 : Int) = ((1 : Nat) : Int) from rfl, cutV_from]
        rw [show ((aw :: ar).map V.ref).drop 1 = ar.map V.ref from rfl]
        have s4 : Same H2 (upd (upd H2 f (.lst [])) p (.lst (ar.map V.ref))) := s3.more hp
        have pf : p ≠ f := Ne.symm (ne_of_none upd_same hp)
        tm_at "x"
        refine x_srcL upd_same ?_
        refine x_loop src_list (fun i σ H' => ∃ v4 v5 pre, σ = [some (.ref a), some (.int (t : Int)), some (.ref d), some (.ref f), v4, v5] ∧ Same H2 H' ∧ H' p = some (.lst (ar.map V.ref)) ∧ H' f = some (.lst (iv (pre.flatMap chg))) ∧ pre.length = i ∧
          Vbwsai.parseChangeTokens r = (Vbwsai.parseChangeTokens (r.drop i)).map (pre ++ ·)) ?_ (fun i σ H' h => by obtain ⟨_, _, _, _, _, e, _⟩ := h; exact e) ?_ ?_
        · refine ⟨none, none, [], rfl, s4, upd_same, ?_, rfl, ?_⟩
          · rw [upd_ne (Ne.symm pf)]
            exact upd_same
          · rw [List.drop_zero]
            cases Vbwsai.parseChangeTokens r <;> rfl
        · rintro i x σ H5 H6 hi ⟨v4, v5, pre, rfl, s5, p5, f5, l5, k5⟩ s6 hx
          obtain ⟨c, hc, rfl⟩ := ref_at hx
          rw [List.length_map] at hi
          have hi2 : i < r.length := by omega
          obtain ⟨tk, htk, ctk⟩ := pair_at nr hc
          have etk : r[i] = tk := by
            rw [List.getElem?_eq_getElem hi2] at htk
            exact Option.some.inj htk
          rw [List.drop_eq_getElem_cons hi2, etk, tok_cons] at k5
          have s7 : Same H2 H6 := s5.trans s6
          tm_at "x"
          refine ⟨c, tk, rfl, s7 _ _ (s2 _ _ ctk), hr tk (List.mem_of_getElem? htk), ?_⟩
          cases e : Vbwsai.parseChange tk with
          | none =>
            rw [e] at k5
            change _ = none at k5
            rw [k5] at q
            intro H8 s8
            tm_at "x"
            exact q _ (((s1.trans s2).trans s7).trans s8)
          | some ch =>
            rw [e] at k5
            intro H8 y s8 y8
            have f8 := s8 _ _ (s6 _ _ f5)
            tm_at "x"
            refine x_tyL f8 ?_
            tm_at "x"
            refine x_extend f8 y8 (sz (by rw [iv_len, iv_len, chgs_len, chg_len]; omega)) ?_
            rw [iv_cat]
            tm_at "x"
            refine ⟨_, _, pre ++ [ch], rfl, (s7.trans s8).mut hf, ?_, ?_, by simp [l5], ?_⟩
            · rw [upd_ne pf]
              exact s8 _ _ (s6 _ _ p5)
            · rw [upd_same]
              simp
            · rw [k5]
              cases Vbwsai.parseChangeTokens (r.drop (i + 1)) with
              | none => rfl
              | some l => simp
        · rintro σ H5 ⟨v4, v5, pre, rfl, s5, p5, f5, l5, k5⟩
          rw [List.length_map, al, List.drop_length] at k5
          have k6 : Vbwsai.parseChangeTokens r = some pre := by rw [k5]; show some (pre ++ []) = _; rw [List.append_nil]
          rw [k6] at q
          tm_at "x"
          exact q _ f ((s1.trans s2).trans s5) f5
theorem pure_journal_in (vs : List V) (H : Hp) (Q : VK) (E : XK) (h : sp_journal_in K vs H Q E) : t_journal_in K E { nx := fun _ H' => Q .non H', rt := Q } (start ["text", "lines", "entries", "at", "line", "changes"] vs) H := by
  obtain ⟨a, b, rfl, ha, hl, q⟩ := h
  unfold t_journal_in
  tm_at "x"
  refine ⟨a, b, 10, rfl, ha, Nat.le_trans hl (by decide), fun H1 d as s1 d1 n1 => ?_⟩
  have hpart := split_part 10 b []
  have hlen := split_len 10 b []
  unfold Vbwsai.importText at q
  generalize Vbwsai.splitAtByte 10 [] b = ls at q n1 hpart hlen
  have al : as.length = ls.length := n1.length
  tm_at "x"
  refine x_slL d1 fun p hp => ?_
  rw [show (-(1 : Int)) = -1 from rfl, cutV_init]
  have dl : (as.map V.ref).dropLast = as.dropLast.map V.ref := by simp
  rw [dl]
  have nd : Nls H1 as.dropLast ls.dropLast := by
    refine pair_of (by simp [al]) fun i x y h1 h2 => ?_
    have i1 : i < as.dropLast.length := by
      rcases Nat.lt_or_ge i as.dropLast.length with z | z
      · exact z
      · rw [List.getElem?_eq_none z] at h1
        cases h1
    rw [List.getElem?_dropLast] at h1 h2
    split at h1
    · split at h2
      · obtain ⟨y', h3, h4⟩ := pair_at n1 h1
        rw [h2] at h3
        rw [Option.some.inj h3]
        exact h4
      · cases h2
    · cases h1
  have hpart2 : ∀ x ∈ ls.dropLast, x.length ≤ 10000 := fun x hx => Nat.le_trans (hpart x (List.dropLast_subset _ hx)) (by simp; exact hl)
  have hlen2 : ls.dropLast.length ≤ 10000 := by rw [List.length_dropLast]; omega
  generalize ls.dropLast = ks at q nd hpart2 hlen2
  generalize as.dropLast = bs at nd
  have bl : bs.length = ks.length := nd.length
  have s2 : Same H1 (upd H1 p (.lst (bs.map V.ref))) := Same.new hp
  tm_at "x"
  intro e he
  have s3 := s2.more he (o := .dK [])
  tm_at "x"
  have p3 : upd (upd H1 p (.lst (bs.map V.ref))) e (.dK []) p = some (.lst (bs.map V.ref)) := Same.new he _ _ upd_same
  refine x_srcE p3 ?_
  refine x_loop src_enum (fun i σ H' => ∃ v3 v4 v5 e kvs s, σ = [some (.ref a), some (.ref p), some (.ref e), v3, v4, v5] ∧ Same H1 H' ∧ H' p = some (.lst (bs.map V.ref)) ∧ H' e = some (.dK kvs) ∧ DRel kvs s ∧ Ent s ∧
    Vbwsai.importLines 0 [] ks = Vbwsai.importLines i s (ks.drop i)) ?_ (fun i σ H' h => by obtain ⟨_, _, _, _, _, _, _, _, e, _⟩ := h; exact e) ?_ ?_
  · exact ⟨none, none, none, e, [], [], rfl, s3, p3, upd_same, DRel.nil, ent_nil, by rw [List.drop_zero]⟩
  · rintro i x σ H4 H5 hi ⟨v3, v4, v5, e4, kvs, s, rfl, s4, p4, h4, r4, n4, k4⟩ s5 ⟨T, y, rfl, hT, hy⟩
    obtain ⟨c, hc, rfl⟩ := ref_at hy
    obtain ⟨ln, hln, cln⟩ := pair_at nd hc
    rw [List.length_map] at hi
    have hi2 : i < ks.length := by omega
    have eln : ks[i] = ln := by
      rw [List.getElem?_eq_getElem hi2] at hln
      exact Option.some.inj hln
    rw [List.drop_eq_getElem_cons hi2, eln, lines_cons] at k4
    refine x_gtup hT rfl ?_
    tm_at "x"
    have s6 : Same H1 H5 := s4.trans s5
    refine ⟨c, ln, i + 1, by push_cast; rfl, s6 _ _ cln, hpart2 ln (List.mem_of_getElem? hln), by omega, by omega, ?_⟩
    cases el : lineIn ln (i + 1) with
    | none =>
      rw [el] at k4
      change _ = Except.error (i + 1) at k4
      rw [k4] at q
      intro H7 s7
      tm_at "x"
      refine x_made fun H8 d8 s8 e8 => ?_
      exact q H8 d8 (((s1.trans s6).trans s7).trans s8) (by rw [e8]; push_cast; rfl)
    | some cs =>
      rw [el] at k4
      obtain ⟨c1, c2⟩ := lineIn_ok (show i + 1 ≤ 1000000 by omega) el
      intro H7 y7 s7 e7
      tm_at "x"
      refine ⟨e4, y7, kvs, s, cs.flatMap chg, cs, rfl, s7 _ _ (s5 _ _ h4), r4, n4, e7, by rw [chgs_len]; unfold most; omega, c2, fun H8 e8 kvs8 s8 h8 r8 => ?_⟩
      tm_at "x"
      exact ⟨_, _, _, e8, kvs8, _, rfl, (s6.trans s7).trans s8, s8 _ _ (s7 _ _ (s5 _ _ p4)), h8, r8, ent_apply n4 c2, k4⟩
  · rintro σ H4 ⟨v3, v4, v5, e4, kvs, s, rfl, s4, p4, h4, r4, n4, k4⟩
    rw [List.length_map, bl, List.drop_length] at k4
    have k5 : Vbwsai.importLines 0 [] ks = .ok (ks.length, s) := k4
    rw [k5] at q
    tm_at "x"
    refine x_lenL p4 ?_
    rw [List.length_map, bl]
    tm_at "x"
    refine ⟨sz (by simp), fun r hr => ?_⟩
    exact q _ r e4 kvs ((s1.trans s4).more hr) upd_same (Same.new hr _ _ h4) r4
end
end Ts
/-! ## TsP7 -/
namespace Ts
open PySem PySem.Spec PyProof.Rows L2
/-- the steps that leave no choice -/
local macro_rules | `(tactic| tm_at "x") => `(tactic| repeat (first | (with_reducible refine x_var ?_; refine ⟨_, rfl, ?_⟩) | with_reducible refine x_seq ?_ | with_reducible refine x_asg ?_ | with_reducible refine x_gname ?_ | with_reducible refine x_op ?_ | with_reducible refine x_c ?_ | with_reducible refine x_I0 ?_ | with_reducible refine x_if ?_ | with_reducible refine x_test ?_ | with_reducible refine x_bl ?_ | with_reducible refine x_blV ?_ | with_reducible refine x_ret ?_ | with_reducible refine x_retN ?_ | with_reducible refine x_drop ?_ | with_reducible refine x_cons ?_ | with_reducible refine x_nil ?_ | with_reducible refine x_call ?_ | with_reducible refine x_cb ?_ | with_reducible refine x_tB ?_ | with_reducible refine x_not ?_ | with_reducible refine x_and ?_ | with_reducible refine x_or ?_ | with_reducible refine x_andV ?_ | with_reducible refine x_orV ?_ | with_reducible refine x_notV ?_ | with_reducible refine x_chain ?_ | with_reducible refine x_un ?_ | with_reducible refine x_U ?_ | with_reducible refine x_mulL (by decide) ?_ | with_reducible refine x_mulR (by decide) ?_ | with_reducible refine x_isN ?_ | with_reducible refine x_notN ?_ | with_reducible refine x_sl ?_ | with_reducible refine x_noPart ?_ | with_reducible refine x_part ?_ | with_reducible refine x_int ?_ | with_reducible refine x_bm ?_ | with_reducible refine x_ipI ?_ | with_reducible refine x_next ?_ | with_reducible refine x_refN ?_ | with_reducible refine x_intN ?_ | with_reducible refine x_nonN ?_ | with_reducible refine x_refNN ?_ | with_reducible refine x_nonNN ?_ | with_reducible refine x_yes ?_ | with_reducible refine x_no ?_ | with_reducible refine x_gcons ?_ | with_reducible refine x_gnil ?_ | with_reducible refine x_lst ?_ | with_reducible refine x_tup ?_ | with_reducible refine x_dnewK ?_ | with_reducible refine x_for ?_ | with_reducible refine x_iList ?_ | with_reducible refine x_iTup ?_ | with_reducible refine x_iEnum ?_ | with_reducible refine x_iZip ?_ | with_reducible refine x_iRng3 ?_ | with_reducible refine x_lc ?_ | with_reducible refine x_dput ?_ | with_reducible refine x_dget ?_ | with_reducible refine x_din ?_ | with_reducible refine x_dpop ?_ | with_reducible refine x_fld ?_ | with_reducible refine x_sfld ?_ | with_reducible refine x_meth ?_ | with_reducible refine x_gsub ?_ | with_reducible refine x_raiseO ?_ | ((with_reducible refine x_self (by assumption) ?_ ?_); exact fun _ _ _ _ => rfl) | with_reducible refine x_gPower (by assumption) (by assumption) ?_ | with_reducible refine x_gDur (by assumption) (by assumption) ?_ | with_reducible refine x_gLast (by assumption) (by assumption) ?_ | with_reducible refine x_gSide (by assumption) (by assumption) ?_ | with_reducible refine x_gCommit (by assumption) (by assumption) ?_ | with_reducible refine x_gWrit (by assumption) (by assumption) ?_ | with_reducible refine x_gFiles (by assumption) (by assumption) ?_ | (with_reducible refine x_aug ?_; refine ⟨_, rfl, ?_⟩)))
theorem fit_of {n : Int} (h1 : -1000000000000000001 ≤ n) (h2 : n ≤ 1000000000000000001) : Fit n := by
  unfold Fit Vbwsai.zigzagEncode
  have e : 128 ^ 12 = 19342813113834066795298816 := by decide
  rw [e]
  split <;> omega
theorem fit_ent {s : Vbwsai.Store} (h : Ent s) : ∀ n ∈ flatS s, Fit n := by
  intro n hn
  obtain ⟨x, hx, hn2⟩ := List.mem_flatMap.mp hn
  have r := h.rng x hx
  have hv : Vbwsai.maxValue = 1000000000000000000 := rfl
  rcases List.mem_cons.mp hn2 with e | e
  · rw [e]
    exact fit_of (by omega) (by omega)
  · have e2 : n = x.2 := by simpa using e
    rw [e2]
    exact fit_of (by omega) (by omega)
theorem frame_len (l : List Int) : (Vbwsai.encodeFrame l).length ≤ 12 * l.length + 7 := by
  have := encRow_len l
  unfold Vbwsai.encodeFrame
  simp [Vbwsai.twoBytes]
  omega
section
variable {K : PySem.W.Frag} {mg : Str → Option Value}
theorem pure_want (vs : List V) (H : Hp) (Q : VK) (E : XK) (h : sp_want K vs H Q E) : t_want K E { nx := fun _ H' => Q .non H', rt := Q } (start ["is_so", "error"] vs) H := by
  obtain ⟨b, e, rfl, q1, q2⟩ := h
  unfold t_want
  tm_at "x"
  refine x_iteNB (fun c => ?_) fun c => ?_
  · tm_at "x"
    exact x_made (q2 c)
  · tm_at "x"
    exact q1 c
theorem pure_want_power_range (vs : List V) (H : Hp) (Q : VK) (E : XK) (h : sp_want_power_range K vs H Q E) : t_want_power_range K E { nx := fun _ H' => Q .non H', rt := Q } (start ["power"] vs) H := by
  obtain ⟨p, rfl, q1, q2⟩ := h
  unfold okPower at q1 q2
  unfold t_want_power_range
  tm_at "x"
  refine x_ite (fun c => ?_) fun c => ?_
  · rw [decide_eq_true c, Bool.true_and] at q1 q2
    tm_at "x"
    exact ⟨_, _, rfl, q1, q2⟩
  · rw [decide_eq_false c, Bool.false_and] at q1 q2
    tm_at "x"
    exact ⟨_, _, rfl, q1, q2⟩
theorem pure_is_enough (vs : List V) (H : Hp) (Q : VK) (E : XK) (h : sp_is_enough K vs H Q E) : t_is_enough K { nx := fun _ H' => Q .non H', rt := Q } (start ["power", "many"] vs) H := by
  obtain ⟨p, n, rfl, q⟩ := h
  unfold enough at q
  unfold t_is_enough
  tm_at "x"
  refine x_ite (fun c => ?_) fun c => ?_
  · rw [decide_eq_true c, Bool.true_or] at q
    exact q
  · rw [decide_eq_false c, Bool.false_or] at q
    tm_at "x"
    exact q
theorem pure_Store_finish (T : Tx K mg) (vs : List V) (H : Hp) (Q : VK) (E : XK) (h : sp_Store_finish K vs H Q E) : t_Store_finish K { nx := fun _ H' => Q .non H', rt := Q } (start ["self"] vs) H := by
  obtain ⟨a, F, m, rfl, hm, q⟩ := h
  unfold t_Store_finish
  tm_at "x"
  refine x_sWrit T hm fun H1 f1 hm1 => ?_
  tm_at "x"
  refine ⟨sz (by simp), fun p hp => ?_⟩
  have hm2 := hm1.new hp (o := .lst [])
  tm_at "x"
  refine x_sPend T hm2 [] upd_same fun H3 f3 hm3 => ?_
  exact q _ ((f1.trans (Fr1.of (Same.new hp))).trans f3) hm3
theorem pure_Store_fail (T : Tx K mg) (vs : List V) (H : Hp) (Q : VK) (E : XK) (h : sp_Store_fail K vs H Q E) : t_Store_fail K { nx := fun _ H' => Q .non H', rt := Q } (start ["self"] vs) H := by
  obtain ⟨a, F, m, rfl, hm, q⟩ := h
  unfold t_Store_fail
  tm_at "x"
  refine x_sPower T hm fun H1 f1 hm1 => ?_
  tm_at "x"
  refine x_sLast T hm1 0 rfl fun H2 f2 hm2 => ?_
  tm_at "x"
  intro e he
  have hm3 := hm2.new he (o := .dK [])
  tm_at "x"
  refine x_sEnt T hm3 [] upd_same DRel.nil fun H4 f4 hm4 => ?_
  tm_at "x"
  refine x_sSide T hm4 0 rfl fun H5 f5 hm5 => ?_
  tm_at "x"
  refine x_sCommit T hm5 0 rfl fun H6 f6 hm6 => ?_
  tm_at "x"
  refine ⟨a, F, _, rfl, hm6, fun H7 f7 hm7 => ?_⟩
  exact q _ ((((((f1.trans f2).trans (Fr1.of (Same.new he))).trans f4).trans f5).trans f6).trans f7) hm7
theorem x_raw {a dx : Addr} {H : Hp} {f : Str} {y : V} {N : Hp → Prop} (T : Tx K mg) (na : NoAttr K (He.ga K "Store") f) (fs gs : List (Str × V)) (h1 : H a = some (.ins (He.ga K "Store") dx fs)) (hl : fs.length < 1000) (e : putF f y fs = gs) (h : N (upd H a (.ins (He.ga K "Store") dx gs))) :
    ∃ a' C dx fs, V.ref a = .ref a' ∧ H a' = some (.ins C dx fs) ∧ Cls K C ∧ NoAttr K C f ∧ fs.length < 1000 ∧ N (upd H a' (.ins C dx (putF f y fs))) := by
  subst e
  exact ⟨a, _, dx, fs, rfl, h1, T.cl, na, hl, h⟩
theorem pure_Store_begin_anew (T : Tx K mg) (vs : List V) (H : Hp) (Q : VK) (E : XK) (h : sp_Store_begin_anew K vs H Q E) : t_Store_begin_anew K { nx := fun _ H' => Q .non H', rt := Q } (start ["self", "number", "entries"] vs) H := by
  obtain ⟨a, e, dx, F, e0, p0, m, t, s, kvs, rfl, ha, hp0, he, hr, hs, ht, q⟩ := h
  have hsl := hs.len
  unfold t_Store_begin_anew
  tm_at "x"
  refine ⟨sz (by simp), fun p1 hp1 => ?_⟩
  have s1 := Same.new hp1 (o := .lst [.int (t : Int)])
  tm_at "x"
  refine ⟨e, kvs, s, rfl, s1 _ _ he, hr, hs, fun H2 p2 s2 hp2 e2 => ?_⟩
  refine x_cat (s2 _ _ upd_same) e2 (sz (by rw [iv_len, flat_len]; simp; omega)) fun p3 hp3 => ?_
  rw [show [V.int (t : Int)] ++ iv (flatS s) = iv ((t : Int) :: flatS s) from rfl]
  have s3 := (s1.trans s2).more hp3 (o := .lst (iv ((t : Int) :: flatS s)))
  tm_at "x"
  refine ⟨p3, _, rfl, upd_same, fun n hn => ?_, by simp [flat_len]; omega, fun H4 q0 s4 hq0 e4 => ?_⟩
  · rcases List.mem_cons.mp hn with z | z
    · rw [z]; exact ht
    · exact fit_ent hs n z
  have s5 := s3.trans s4
  tm_at "x"
  refine ⟨sz (by simp), fun q1 hq1 => ?_⟩
  have s6 := Same.new hq1 (o := .lst [])
  tm_at "x"
  refine ⟨sz (by simp), fun q2 hq2 => ?_⟩
  have s7 := Same.new hq2 (o := .lst [])
  tm_at "x"
  refine ⟨sz (by simp), fun q3 hq3 => ?_⟩
  have s8 := Same.new hq3 (o := .lst [])
  tm_at "x"
  refine ⟨sz (by simp), fun q4 hq4 => ?_⟩
  have s9 := Same.new hq4 (o := .lst [])
  tm_at "x"
  refine ⟨sz (by simp), fun p5 hp5 => ?_⟩
  have s10 := Same.new hp5 (o := .lst [.int 1, .int 0])
  tm_at "x"
  refine ⟨p5, [1, 0], rfl, upd_same, fun n hn => ?_, by simp, fun H11 q5 s11 hq5 e11 => ?_⟩
  · have : n = 1 ∨ n = 0 := by simpa using hn
    rcases this with z | z <;> rw [z] <;> exact fit_of (by decide) (by decide)
  tm_at "x"
  refine ⟨sz (by simp), fun F' hF' => ?_⟩
  have s12 := Same.new hF' (o := .lst [.ref q0, .ref q1, .ref q2, .ref q3, .ref q4, .ref q5])
  have t5 := (s10.trans s11).trans s12
  have t4 := s9.trans t5
  have t3 := s8.trans t4
  have t2 := s7.trans t3
  have t1 := s6.trans t2
  have t0 := s5.trans t1
  have hF : upd H11 F' (.lst [.ref q0, .ref q1, .ref q2, .ref q3, .ref q4, .ref q5]) F' = some (.lst ([q0, q1, q2, q3, q4, q5].map V.ref)) := upd_same
  have hN : Nls (upd H11 F' (.lst [.ref q0, .ref q1, .ref q2, .ref q3, .ref q4, .ref q5])) [q0, q1, q2, q3, q4, q5] (anew t s).files :=
    .cons (t1 _ _ e4) (.cons (t2 _ _ upd_same) (.cons (t3 _ _ upd_same) (.cons (t4 _ _ upd_same) (.cons (t5 _ _ upd_same) (.cons (s12 _ _ e11) .nil)))))
  have hF0 : H F' = none := (((((((s5.trans s6).trans s7).trans s8).trans s9).trans s10).trans s11)).free hF'
  generalize upd H11 F' (.lst [.ref q0, .ref q1, .ref q2, .ref q3, .ref q4, .ref q5]) = H12 at t0 hF hN
  have ha12 := t0 _ _ ha
  have he12 := t0 _ _ he
  have hp12 := t0 _ _ hp0
  tm_at "x"
  refine x_raw T T.na_files _ (sF F' e0 p0 m) ha12 (by simp [sF]) rfl ?_
  tm_at "x"
  refine x_raw T T.na_has_power _ (sF F' e0 p0 (m.wPower true)) upd_same (by simp [sF]) rfl ?_
  tm_at "x"
  refine x_raw T T.na_durable _ (sF F' e0 p0 ((m.wPower true).wDur t)) upd_same (by simp [sF]) rfl ?_
  tm_at "x"
  refine x_raw T T.na_last _ (sF F' e0 p0 (((m.wPower true).wDur t).wLast t)) upd_same (by simp [sF]) rfl ?_
  tm_at "x"
  refine x_raw T T.na_entries _ (sF F' e p0 ((((m.wPower true).wDur t).wLast t).wEnt s)) upd_same (by simp [sF]) rfl ?_
  tm_at "x"
  refine x_raw T T.na_side _ (sF F' e p0 (((((m.wPower true).wDur t).wLast t).wEnt s).wSide 0)) upd_same (by simp [sF]) rfl ?_
  tm_at "x"
  refine x_raw T T.na_commit _ (sF F' e p0 ((((((m.wPower true).wDur t).wLast t).wEnt s).wSide 0).wCom 1)) upd_same (by simp [sF]) rfl ?_
  have ne : ∀ {x : Addr} {o : HO}, H12 x = some o → (∀ dx fs, o ≠ .ins (He.ga K "Store") dx fs) → x ≠ a := fun h k => ne_of h ha12 (k _ _)
  have hmA : ∀ HZ : Hp, (∀ x, x ≠ a → HZ x = H12 x) → HZ a = some (.ins (He.ga K "Store") dx (sF F' e p0 ((((((m.wPower true).wDur t).wLast t).wEnt s).wSide 0).wCom 1))) → MemAt K HZ a F' { m with files := (anew t s).files, power := true, durable := t, last := t, entries := s, side := 0, commit := 1 } := by
    intro HZ hz hza
    have keep : ∀ {x : Addr} {o : HO}, H12 x = some o → (∀ dx fs, o ≠ .ins (He.ga K "Store") dx fs) → HZ x = some o := fun h k => by
      rw [hz _ (ne h k)]
      exact h
    exact ⟨rfl, ⟨dx, e, p0, kvs, hza, keep he12 (fun _ _ => by simp), hr, keep hp12 (fun _ _ => by simp)⟩, [q0, q1, q2, q3, q4, q5], keep hF (fun _ _ => by simp), pair_mem hN fun x l mx z => keep z (fun _ _ => by simp)⟩
  tm_at "x"
  have hdx : ∃ dx' fs', HO.ins (He.ga K "Store") dx (sF F' e p0 ((((((m.wPower true).wDur t).wLast t).wEnt s).wSide 0).wCom 1)) = .ins (He.ga K "Store") dx' fs' ∧ fs'.lookup ("finish" : Str) = none := ⟨_, _, rfl, rfl⟩
  obtain ⟨dx', fs', hd1, hd2⟩ := hdx
  refine ⟨a, dx', fs', rfl, by rw [← hd1]; exact upd_same, hd2, ?_⟩
  tm_at "x"
  refine ⟨a, F', _, rfl, hmA _ (fun x hx => by simp only [upd_ne hx]) upd_same, fun H13 f13 hm13 => ?_⟩
  refine q _ _ ((Fr1.of t0).trans (Fr1.trans (fun b o hb hne => ?_) f13)) hm13
  simp only [upd_ne hne]
  exact hb
theorem pure_Store___init__ (T : Tx K mg) (vs : List V) (H : Hp) (Q : VK) (E : XK) (h : sp_Store___init__ K vs H Q E) : t_Store___init__ K { nx := fun _ H' => Q .non H', rt := Q } (start ["self"] vs) H := by
  obtain ⟨a, dx, rfl, ha, q⟩ := h
  unfold t_Store___init__
  tm_at "x"
  refine ⟨sz (by simp), fun F hF => ?_⟩
  have fa : F ≠ a := Ne.symm (ne_of_none ha hF)
  have z1 := Fr1.of (a := a) (Same.new hF (o := .lst []))
  have a1 := Same.new hF (o := .lst []) _ _ ha
  generalize upd H F (.lst []) = H1 at z1 a1
  tm_at "x"
  refine x_raw T T.na_files _ [("files", .ref F)] a1 (by simp) rfl ?_
  tm_at "x"
  refine x_raw T T.na_has_power _ [("files", .ref F), ("has_power", .bl true)] upd_same (by simp) rfl ?_
  tm_at "x"
  refine x_raw T T.na_durable _ [("files", .ref F), ("has_power", .bl true), ("durable", .int 0)] upd_same (by simp) rfl ?_
  tm_at "x"
  refine x_raw T T.na_last _ [("files", .ref F), ("has_power", .bl true), ("durable", .int 0), ("last", .int 0)] upd_same (by simp) rfl ?_
  have z2 : Fr1 a H (upd (upd (upd (upd H1 a (.ins (He.ga K "Store") dx [("files", .ref F)])) a (.ins (He.ga K "Store") dx [("files", .ref F), ("has_power", .bl true)])) a (.ins (He.ga K "Store") dx [("files", .ref F), ("has_power", .bl true), ("durable", .int 0)])) a (.ins (He.ga K "Store") dx [("files", .ref F), ("has_power", .bl true), ("durable", .int 0), ("last", .int 0)])) :=
    z1.trans (Fr1.upd.trans (Fr1.upd.trans (Fr1.upd.trans Fr1.upd)))
  have a2 : upd (upd (upd (upd H1 a (.ins (He.ga K "Store") dx [("files", .ref F)])) a (.ins (He.ga K "Store") dx [("files", .ref F), ("has_power", .bl true)])) a (.ins (He.ga K "Store") dx [("files", .ref F), ("has_power", .bl true), ("durable", .int 0)])) a (.ins (He.ga K "Store") dx [("files", .ref F), ("has_power", .bl true), ("durable", .int 0), ("last", .int 0)]) a = some (.ins (He.ga K "Store") dx [("files", .ref F), ("has_power", .bl true), ("durable", .int 0), ("last", .int 0)]) := upd_same
  generalize upd (upd (upd (upd H1 a _) a _) a _) a _ = H2 at z2 a2
  tm_at "x"
  intro e he
  have ea : e ≠ a := Ne.symm (ne_of_none a2 he)
  have z3 := z2.trans (Fr1.of (Same.new he (o := .dK [])))
  have a3 := Same.new he (o := .dK []) _ _ a2
  generalize upd H2 e (.dK []) = H3 at z3 a3
  tm_at "x"
  refine x_raw T T.na_entries _ [("files", .ref F), ("has_power", .bl true), ("durable", .int 0), ("last", .int 0), ("entries", .ref e)] a3 (by simp) rfl ?_
  tm_at "x"
  refine x_raw T T.na_side _ [("files", .ref F), ("has_power", .bl true), ("durable", .int 0), ("last", .int 0), ("entries", .ref e), ("side", .int 0)] upd_same (by simp) rfl ?_
  tm_at "x"
  refine x_raw T T.na_commit _ [("files", .ref F), ("has_power", .bl true), ("durable", .int 0), ("last", .int 0), ("entries", .ref e), ("side", .int 0), ("commit", .int 0)] upd_same (by simp) rfl ?_
  tm_at "x"
  refine x_raw T T.na_is_writing _ [("files", .ref F), ("has_power", .bl true), ("durable", .int 0), ("last", .int 0), ("entries", .ref e), ("side", .int 0), ("commit", .int 0), ("is_writing", .bl false)] upd_same (by simp) rfl ?_
  tm_at "x"
  have z4 : ∀ x o, H3 x = some o → x ≠ a → upd (upd (upd (upd H3 a (.ins (He.ga K "Store") dx [("files", .ref F), ("has_power", .bl true), ("durable", .int 0), ("last", .int 0), ("entries", .ref e)])) a (.ins (He.ga K "Store") dx [("files", .ref F), ("has_power", .bl true), ("durable", .int 0), ("last", .int 0), ("entries", .ref e), ("side", .int 0)])) a (.ins (He.ga K "Store") dx [("files", .ref F), ("has_power", .bl true), ("durable", .int 0), ("last", .int 0), ("entries", .ref e), ("side", .int 0), ("commit", .int 0)])) a (.ins (He.ga K "Store") dx [("files", .ref F), ("has_power", .bl true), ("durable", .int 0), ("last", .int 0), ("entries", .ref e), ("side", .int 0), ("commit", .int 0), ("is_writing", .bl false)]) x = some o := fun x o hx hn => by
    simp only [upd_ne hn]
    exact hx
  have a4 : upd (upd (upd (upd H3 a (.ins (He.ga K "Store") dx [("files", .ref F), ("has_power", .bl true), ("durable", .int 0), ("last", .int 0), ("entries", .ref e)])) a (.ins (He.ga K "Store") dx [("files", .ref F), ("has_power", .bl true), ("durable", .int 0), ("last", .int 0), ("entries", .ref e), ("side", .int 0)])) a (.ins (He.ga K "Store") dx [("files", .ref F), ("has_power", .bl true), ("durable", .int 0), ("last", .int 0), ("entries", .ref e), ("side", .int 0), ("commit", .int 0)])) a (.ins (He.ga K "Store") dx [("files", .ref F), ("has_power", .bl true), ("durable", .int 0), ("last", .int 0), ("entries", .ref e), ("side", .int 0), ("commit", .int 0), ("is_writing", .bl false)]) a = some (.ins (He.ga K "Store") dx [("files", .ref F), ("has_power", .bl true), ("durable", .int 0), ("last", .int 0), ("entries", .ref e), ("side", .int 0), ("commit", .int 0), ("is_writing", .bl false)]) := upd_same
  generalize upd (upd (upd (upd H3 a _) a _) a _) a _ = H4 at z4 a4
  refine ⟨sz (by simp), fun p hp => ?_⟩
  have pa : p ≠ a := Ne.symm (ne_of_none a4 hp)
  have a5 := Same.new hp (o := .lst []) _ _ a4
  tm_at "x"
  refine x_raw T T.na_pending _ (sF F e p ⟨[], true, 0, 0, [], 0, 0, false, []⟩) a5 (by simp) rfl ?_
  have z6 : Fr1 a H (upd (upd H4 p (.lst [])) a (.ins (He.ga K "Store") dx (sF F e p ⟨[], true, 0, 0, [], 0, 0, false, []⟩))) := (z3.trans z4).trans ((Fr1.of (Same.new hp)).trans Fr1.upd)
  have p6 : upd (upd H4 p (.lst [])) a (.ins (He.ga K "Store") dx (sF F e p ⟨[], true, 0, 0, [], 0, 0, false, []⟩)) p = some (.lst []) := by
    rw [upd_ne pa]
    exact upd_same
  have a6 : upd (upd H4 p (.lst [])) a (.ins (He.ga K "Store") dx (sF F e p ⟨[], true, 0, 0, [], 0, 0, false, []⟩)) a = some (.ins (He.ga K "Store") dx (sF F e p ⟨[], true, 0, 0, [], 0, 0, false, []⟩)) := upd_same
  generalize upd (upd H4 p (.lst [])) a _ = H6 at z6 p6 a6
  tm_at "x"
  refine ⟨a, dx, _, rfl, a6, rfl, ?_⟩
  tm_at "x"
  intro e7 he7
  have s7 := Same.new he7 (o := .dK [])
  tm_at "x"
  refine ⟨a, e7, dx, F, e, p, _, 0, [], [], rfl, s7 _ _ a6, s7 _ _ p6, upd_same, DRel.nil, ent_nil, fit_of (by decide) (by decide), fun H8 F8 f8 hm8 => ?_⟩
  exact q _ _ ((z6.trans (Fr1.of s7)).trans f8) hm8
theorem pure_Store_want_power (T : Tx K mg) (vs : List V) (H : Hp) (Q : VK) (E : XK) (h : sp_Store_want_power K vs H Q E) : t_Store_want_power K E { nx := fun _ H' => Q .non H', rt := Q } (start ["self"] vs) H := by
  obtain ⟨a, F, m, rfl, hm, q1, q2⟩ := h
  unfold t_Store_want_power
  tm_at "x"
  exact ⟨_, _, rfl, q1, q2⟩
theorem pure_Store_other (T : Tx K mg) (vs : List V) (H : Hp) (Q : VK) (E : XK) (h : sp_Store_other K vs H Q E) : t_Store_other K { nx := fun _ H' => Q .non H', rt := Q } (start ["self"] vs) H := by
  obtain ⟨a, F, m, rfl, hm, hs, q⟩ := h
  unfold t_Store_other
  tm_at "x"
  refine x_end ?_ q
  congr 1
  omega
theorem pure_Store_append (T : Tx K mg) (vs : List V) (H : Hp) (Q : VK) (E : XK) (h : sp_Store_append K vs H Q E) : t_Store_append K { nx := fun _ H' => Q .non H', rt := Q } (start ["self", "number", "data"] vs) H := by
  obtain ⟨a, F, q0, m, i, d, rfl, hm, hi, hd, hl, q⟩ := h
  unfold t_Store_append
  tm_at "x"
  refine x_file hm rfl hi fun p hp => ?_
  tm_at "x"
  refine x_cat hp hd (sz (by rw [nv_len, nv_len]; omega)) fun r hr => ?_
  rw [nv_cat]
  have hm1 := hm.new hr (o := .lst (nv (m.file i ++ d)))
  tm_at "x"
  refine x_setF hm1 rfl hi upd_same fun H2 f2 hm2 => ?_
  exact q _ ((Fr1.of (Same.new hr)).trans f2) hm2
theorem pure_Store_reset (T : Tx K mg) (vs : List V) (H : Hp) (Q : VK) (E : XK) (h : sp_Store_reset K vs H Q E) : t_Store_reset K { nx := fun _ H' => Q .non H', rt := Q } (start ["self"] vs) H := by
  obtain ⟨a, F, m, rfl, hm, hb, q⟩ := h
  unfold t_Store_reset
  tm_at "x"
  intro e he
  have hm1 := hm.new he (o := .dK [])
  obtain ⟨dx, e0, p0, kvs0, o1, o2, o3, o4⟩ := hm1.obj
  tm_at "x"
  refine ⟨a, e, dx, F, e0, p0, m, 0, [], [], rfl, o1, o4, upd_same, DRel.nil, ent_nil, fit_of (by decide) (by decide), fun H2 F2 f2 hm2 => ?_⟩
  tm_at "x"
  refine ⟨sz (by simp), fun r hr => ?_⟩
  exact q _ F2 r ((Fr2.new he).trans (f2.objt.trans (Fr2.new hr))) (hm2.new hr) upd_same
theorem file_len {m : Mem} {n : Nat} (hb : Bd n m) (i : Nat) : (m.file i).length ≤ n := by
  unfold Mem.file
  rw [List.getD_eq_getElem?_getD]
  cases e : m.files[i]? with
  | none => simp
  | some b => exact hb.len b (List.mem_of_getElem? e)
theorem file_put (m : Mem) (i j : Nat) (d : List Nat) : (m.put i d).file j = if i = j ∧ j < m.files.length then d else m.file j := by
  unfold Mem.file Mem.put
  rw [List.getD_eq_getElem?_getD, List.getD_eq_getElem?_getD, List.getElem?_set]
  by_cases h : i = j
  · subst h
    by_cases h2 : i < m.files.length
    · rw [if_pos rfl, if_pos h2, if_pos ⟨rfl, h2⟩]
      rfl
    · rw [if_pos rfl, if_neg h2, if_neg (fun z => h2 z.2), List.getElem?_eq_none (by omega)]
  · rw [if_neg h, if_neg (fun z => h z.1)]
theorem app_len {m : Mem} {n k : Nat} (hb : Bd n m) (i j : Nat) {d : List Nat} (hd : d.length ≤ k) : ((m.app i d).file j).length ≤ n + k := by
  unfold Mem.app
  rw [file_put]
  have h1 := file_len hb i
  have h2 := file_len hb j
  split
  · rw [List.length_append]
    omega
  · omega
theorem pure_Store_write_in_part (T : Tx K mg) (vs : List V) (H : Hp) (Q : VK) (E : XK) (h : sp_Store_write_in_part K vs H Q E) : t_Store_write_in_part K { nx := fun _ H' => Q .non H', rt := Q } (start ["self", "frame", "power"] vs) H := by
  obtain ⟨a, F, q0, m, w, p, rfl, hm, hb, hq, hw, q⟩ := h
  have hsd := hb.side
  have hq2 := hm.nfN hq
  unfold t_Store_write_in_part
  tm_at "x"
  refine x_slL hq fun p1 hp1 => ?_
  rw [cutV_to, show (nv w).take p = nv (w.take p) from by simp [nv, List.map_take]]
  have hm1 := hm.new hp1 (o := .lst (nv (w.take p)))
  have hq1 := Same.new hp1 (o := .lst (nv (w.take p))) _ _ hq
  have hl := file_len hb (2 + m.side)
  have hlm : most = 1000000 := rfl
  tm_at "x"
  refine ⟨a, F, p1, m, 2 + m.side, w.take p, by push_cast; rfl, hm1, by omega, upd_same, by rw [List.length_take]; omega, fun H2 f2 hm2 => ?_⟩
  have hq3 := f2 _ _ hq1 hq2
  have f02 : Fr1 F H H2 := (Fr1.of (Same.new hp1)).trans f2
  have hsd2 : (m.app (2 + m.side) (w.take p)).side = m.side := rfl
  have hwr2 : (m.app (2 + m.side) (w.take p)).writing = m.writing := rfl
  have hal : ∀ j, ((m.app (2 + m.side) (w.take p)).file j).length ≤ most + 10000 := fun j => app_len hb _ _ (by rw [List.length_take]; omega)
  unfold Mem.inPart at q
  generalize m.app (2 + m.side) (w.take p) = m2 at q hm2 hsd2 hwr2 hal
  tm_at "x"
  rw [hwr2]
  refine x_iteB (fun c => ?_) fun c => ?_
  · tm_at "x"
    refine x_lenL hq3 ?_
    rw [nv_len]
    tm_at "x"
    refine x_ite (fun c2 => ?_) fun c2 => ?_
    · rw [if_pos ⟨c, by omega⟩] at q
      tm_at "x"
      refine ⟨a, F, m2, rfl, hm2, by omega, ?_⟩
      tm_at "x"
      refine x_lenL hq3 ?_
      rw [nv_len]
      tm_at "x"
      refine x_slL hq3 fun p4 hp4 => ?_
      have ep : (p : Int) - (w.length : Int) = ((p - w.length : Nat) : Int) := by omega
      rw [ep, cutV_to, show (nv w).take (p - w.length) = nv (w.take (p - w.length)) from by simp [nv, List.map_take]]
      have hm4 := hm2.new hp4 (o := .lst (nv (w.take (p - w.length))))
      have := hal (2 + (1 - m2.side))
      tm_at "x"
      refine ⟨a, F, p4, m2, 2 + (1 - m2.side), w.take (p - w.length), by push_cast; rfl, hm4, by omega, upd_same, by rw [List.length_take]; omega, fun H5 f5 hm5 => ?_⟩
      rw [hsd2] at hm5
      exact q _ ((f02.trans (Fr1.of (Same.new hp4))).trans f5) hm5
    · rw [if_neg (fun z => by have := z.2; omega)] at q
      tm_at "x"
      exact q _ f02 hm2
  · rw [if_neg (fun z => by rw [c] at z; exact absurd z.1 (by decide))] at q
    tm_at "x"
    exact q _ f02 hm2
end
end Ts
/-! ## TsP8 -/
namespace Ts
open PySem PySem.Spec PyProof.Rows L2
/-- the steps that leave no choice -/
local macro_rules | `(tactic| tm_at "x") => `(tactic| repeat (first | (with_reducible refine x_var ?_; refine ⟨_, rfl, ?_⟩) | with_reducible refine x_seq ?_ | with_reducible refine x_asg ?_ | with_reducible refine x_gname ?_ | with_reducible refine x_op ?_ | with_reducible refine x_c ?_ | with_reducible refine x_I0 ?_ | with_reducible refine x_if ?_ | with_reducible refine x_test ?_ | with_reducible refine x_bl ?_ | with_reducible refine x_blV ?_ | with_reducible refine x_ret ?_ | with_reducible refine x_retN ?_ | with_reducible refine x_drop ?_ | with_reducible refine x_cons ?_ | with_reducible refine x_nil ?_ | with_reducible refine x_call ?_ | with_reducible refine x_cb ?_ | with_reducible refine x_tB ?_ | with_reducible refine x_not ?_ | with_reducible refine x_and ?_ | with_reducible refine x_or ?_ | with_reducible refine x_andV ?_ | with_reducible refine x_orV ?_ | with_reducible refine x_notV ?_ | with_reducible refine x_chain ?_ | with_reducible refine x_un ?_ | with_reducible refine x_U ?_ | with_reducible refine x_mulL (by decide) ?_ | with_reducible refine x_mulR (by decide) ?_ | with_reducible refine x_isN ?_ | with_reducible refine x_notN ?_ | with_reducible refine x_sl ?_ | with_reducible refine x_noPart ?_ | with_reducible refine x_part ?_ | with_reducible refine x_int ?_ | with_reducible refine x_bm ?_ | with_reducible refine x_ipI ?_ | with_reducible refine x_next ?_ | with_reducible refine x_refN ?_ | with_reducible refine x_intN ?_ | with_reducible refine x_nonN ?_ | with_reducible refine x_refNN ?_ | with_reducible refine x_nonNN ?_ | with_reducible refine x_yes ?_ | with_reducible refine x_no ?_ | with_reducible refine x_gcons ?_ | with_reducible refine x_gnil ?_ | with_reducible refine x_lst ?_ | with_reducible refine x_tup ?_ | with_reducible refine x_dnewK ?_ | with_reducible refine x_for ?_ | with_reducible refine x_iList ?_ | with_reducible refine x_iTup ?_ | with_reducible refine x_iEnum ?_ | with_reducible refine x_iZip ?_ | with_reducible refine x_iRng3 ?_ | with_reducible refine x_lc ?_ | with_reducible refine x_dput ?_ | with_reducible refine x_dget ?_ | with_reducible refine x_din ?_ | with_reducible refine x_dpop ?_ | with_reducible refine x_fld ?_ | with_reducible refine x_sfld ?_ | with_reducible refine x_meth ?_ | with_reducible refine x_gsub ?_ | with_reducible refine x_raiseO ?_ | ((with_reducible refine x_self (by assumption) ?_ ?_); exact fun _ _ _ _ => rfl) | with_reducible refine x_gPower (by assumption) (by assumption) ?_ | with_reducible refine x_gDur (by assumption) (by assumption) ?_ | with_reducible refine x_gLast (by assumption) (by assumption) ?_ | with_reducible refine x_gSide (by assumption) (by assumption) ?_ | with_reducible refine x_gCommit (by assumption) (by assumption) ?_ | with_reducible refine x_gWrit (by assumption) (by assumption) ?_ | with_reducible refine x_gFiles (by assumption) (by assumption) ?_ | (with_reducible refine x_aug ?_; refine ⟨_, rfl, ?_⟩)))
theorem tickRow_fit {l : List Int} {cs : List Vbwsai.Change} (h : Vbwsai.parseChanges l = some cs) {t : Nat} (ht : t ≤ 1000000000000000000) : (∀ n ∈ Vbwsai.tickRow t cs, Fit n) ∧ (Vbwsai.tickRow t cs).length ≤ 1 + 3 * l.length := by
  rw [tickRow_eq]
  constructor
  · intro n hn
    have hv : Vbwsai.maxValue = 1000000000000000000 := rfl
    rcases List.mem_cons.mp hn with e | e
    · rw [e]
      exact fit_of (by omega) (by omega)
    · obtain ⟨c, hc, hn2⟩ := List.mem_flatMap.mp e
      obtain ⟨x, hx⟩ := parse_mem h c hc
      obtain ⟨k, f, v, g1, g2, g3, g4, g5, g6, g7, g8, g9, g10⟩ := chg_of hx
      rw [g7] at hn2
      have hn3 : n = k ∨ n = f ∨ n = v * f := by simpa using hn2
      rcases hn3 with e | e | e
      · rw [e]
        exact fit_of (by omega) (by omega)
      · rw [e]
        rcases g4 with z | z <;> rw [z] <;> exact fit_of (by decide) (by decide)
      · rw [e]
        rcases g4 with z | z
        · rw [z, Int.mul_zero]
          exact fit_of (by decide) (by decide)
        · rw [z, Int.mul_one]
          exact fit_of (by omega) (by omega)
  · obtain ⟨h1, _⟩ := parse_at l cs h
    have h2 := chunks_len (show 0 < 3 by decide) l
    have h3 : ∀ cs : List Vbwsai.Change, (cs.flatMap chg).length = 3 * cs.length := by
      intro cs
      induction cs with
      | nil => rfl
      | cons c cs ih =>
        have : (chg c).length = 3 := by unfold chg; split <;> rfl
        rw [List.flatMap_cons, List.length_append, this, ih, List.length_cons]
        omega
    rw [List.length_cons, h3]
    omega
theorem mTick_go {m : Mem} {p : Int} {l : List Int} {cs : List Vbwsai.Change} (c1 : okPower p = true) (c2 : l.length ≤ 48) (c3 : Vbwsai.parseChanges l = some cs) (c4 : m.power = true) (c5 : m.last < big) :
    mTick m p l = if enough p ((Vbwsai.encodeFrame (Vbwsai.tickRow (m.last + 1) cs)).length * (1 + (if m.writing = true then 1 else 0))) = false then
      .ok ((m.inPart (Vbwsai.encodeFrame (Vbwsai.tickRow (m.last + 1) cs)) p.toNat).fail, [-1, (((Vbwsai.encodeFrame (Vbwsai.tickRow (m.last + 1) cs)).length * (1 + (if m.writing = true then 1 else 0)) : Nat) : Int)]) else
      .ok ((((if m.writing = true then (m.app (2 + m.side) (Vbwsai.encodeFrame (Vbwsai.tickRow (m.last + 1) cs))).app (2 + (1 - m.side)) (Vbwsai.encodeFrame (Vbwsai.tickRow (m.last + 1) cs)) else m.app (2 + m.side) (Vbwsai.encodeFrame (Vbwsai.tickRow (m.last + 1) cs))).wLast (m.last + 1)).wEnt (Vbwsai.applyChanges m.entries cs)).wDur (m.last + 1),
        [((m.last + 1 : Nat) : Int), (((Vbwsai.encodeFrame (Vbwsai.tickRow (m.last + 1) cs)).length * (1 + (if m.writing = true then 1 else 0)) : Nat) : Int)]) := by
  unfold mTick
  rw [if_neg (by rw [c1]; decide), if_pos ⟨c2, by rw [c3]; rfl⟩, if_neg (by rw [c4]; decide), if_neg (by omega), c3]
  rfl
section
variable {K : PySem.W.Frag} {mg : Str → Option Value}
theorem x_augLast {D : Ends} {σ : L2.St} {H : Hp} {a F : Addr} {m : Mem} (T : Tx K mg) (hm : MemAt K H a F m) (hv : σ[0]? = some (some (.ref a))) (h : ∀ H', Fr1 a H H' → MemAt K H' a F (m.wLast (m.last + 1)) → D.nx σ H') : sFldAug K (tVar 0) (tC (.int 1)) rAdd "last" D σ H := by
  obtain ⟨dx, e, p, kvs, h1, h2, h3, h4⟩ := hm.obj
  refine ⟨.ref a, hv, a, _, dx, _, _, rfl, h1, T.cl, T.na_last, rfl, ?_⟩
  refine ⟨(m.last : Int), 1, rfl, rfl, dx, _, h1, by simp [sF], ?_⟩
  exact h _ Fr1.upd (hm.field (m' := m.wLast (m.last + 1)) rfl h2 h3 h4)
theorem pure_Store_tick (T : Tx K mg) (vs : List V) (H : Hp) (Q : VK) (E : XK) (h : sp_Store_tick K vs H Q E) : t_Store_tick K E { nx := fun _ H' => Q .non H', rt := Q } (start ["self", "power", "numbers", "frame", "many"] vs) H := by
  obtain ⟨a, F, r, m, p, l, rfl, hm, hb, hr, hl, q⟩ := h
  have hsd := hb.side
  unfold t_Store_tick
  tm_at "x"
  refine ⟨p, rfl, fun c1 => ?_, fun c1 => ?_⟩
  rotate_left
  · have e : mTick m p l = .error (-1) := if_pos c1
    rw [e] at q
    exact q
  tm_at "x"
  refine x_lenL hr ?_
  rw [iv_len]
  tm_at "x"
  refine x_ite (fun c2 => ?_) fun c2 => ?_
  rotate_left
  · tm_at "x"
    have e : mTick m p l = .error (-1) := by
      unfold mTick
      rw [if_neg (by rw [c1]; decide), if_neg (fun z => by have := z.1; omega)]
    rw [e] at q
    exact ⟨_, _, rfl, fun z => absurd z (by decide), fun _ => q⟩
  have c2' : l.length ≤ 48 := by omega
  tm_at "x"
  refine ⟨r, l, rfl, hr, Nat.le_trans hl (by decide), fun H1 s1 => ?_⟩
  tm_at "x"
  refine ⟨_, _, rfl, fun c3 => ?_, fun c3 => ?_⟩
  rotate_left
  · have e : mTick m p l = .error (-1) := by
      unfold mTick
      rw [if_neg (by rw [c1]; decide), if_neg (fun z => by rw [c3] at z; exact absurd z.2 (by decide))]
    rw [e] at q
    exact q.same s1
  have hm1 := hm.same s1
  tm_at "x"
  refine ⟨a, F, m, rfl, hm1, fun c4 => ?_, fun c4 => ?_⟩
  rotate_left
  · have e : mTick m p l = .error (-7) := by
      unfold mTick
      rw [if_neg (by rw [c1]; decide), if_pos ⟨c2', c3⟩, if_pos c4]
    rw [e] at q
    exact q.same s1
  tm_at "x"
  refine ⟨_, _, rfl, fun c5 => ?_, fun c5 => ?_⟩
  rotate_left
  · have e : mTick m p l = .error (-5) := by
      unfold mTick
      have := of_decide_eq_false c5
      rw [if_neg (by rw [c1]; decide), if_pos ⟨c2', c3⟩, if_neg (by rw [c4]; decide), if_pos (by unfold big; omega)]
    rw [e] at q
    exact q.same s1
  have c5' : m.last < big := by
    have := of_decide_eq_true c5
    unfold big
    omega
  have c5'' : m.last + 1 ≤ 1000000000000000000 := c5'
  obtain ⟨cs, c3'⟩ := Option.isSome_iff_exists.mp c3
  rw [mTick_go c1 c2' c3' c4 c5'] at q
  obtain ⟨tf, tl⟩ := tickRow_fit c3' c5''
  tm_at "x"
  refine ⟨m.last + 1, r, l, cs, by push_cast; rfl, s1 _ _ hr, by omega, c3', fun H2 pr s2 hpr e2 => ?_⟩
  tm_at "x"
  refine ⟨pr, _, rfl, e2, tf, by omega, fun H3 fr s3 hfr e3 => ?_⟩
  have hwl := frame_len (Vbwsai.tickRow (m.last + 1) cs)
  generalize Vbwsai.encodeFrame (Vbwsai.tickRow (m.last + 1) cs) = w at q e3 hwl
  have hwl2 : w.length ≤ 2000 := by omega
  have s03 : Same H H3 := (s1.trans s2).trans s3
  have hm3 := hm.same s03
  have hr3 := s03 _ _ hr
  tm_at "x"
  refine x_lenL e3 ?_
  rw [nv_len]
  tm_at "x"
  refine .inr ⟨_, rfl, ?_⟩
  tm_at "x"
  refine x_mulL (by omega) ?_
  have emany : (w.length : Int) * (1 + (if m.writing = true then 1 else 0)) = ((w.length * (1 + (if m.writing = true then 1 else 0)) : Nat) : Int) := by
    cases m.writing <;> simp
  rw [emany]
  have hmany : w.length * (1 + (if m.writing = true then 1 else 0)) ≤ 4000 := by
    cases m.writing with
    | true => show w.length * 2 ≤ 4000; omega
    | false => show w.length * 1 ≤ 4000; omega
  generalize hmn : w.length * (1 + (if m.writing = true then 1 else 0)) = many at q hmany
  tm_at "x"
  refine ⟨p, many, rfl, ?_⟩
  tm_at "x"
  have hfl := file_len hb (2 + m.side)
  have hlm : most = 1000000 := rfl
  refine x_iteNB (fun c6 => ?_) fun c6 => ?_
  · rw [if_pos c6] at q
    have p0 : 0 ≤ p := by
      unfold okPower at c1
      unfold enough at c6
      rw [Bool.and_eq_true] at c1
      rw [Bool.or_eq_false_iff] at c6
      have := of_decide_eq_true c1.1
      have := of_decide_eq_false c6.1
      omega
    tm_at "x"
    refine ⟨a, F, fr, m, w, p.toNat, by rw [Int.toNat_of_nonneg p0]; rfl, hm3, hb, e3, by omega, fun H4 f4 hm4 => ?_⟩
    tm_at "x"
    refine ⟨a, F, _, rfl, hm4, fun H5 f5 hm5 => ?_⟩
    tm_at "x"
    refine ⟨sz (by simp), fun o ho => ?_⟩
    exact q _ F o ((Fr2.of s03).trans (f4.file.trans (f5.objt.trans (Fr2.new ho)))) (hm5.new ho) upd_same
  · rw [if_neg (by rw [c6]; decide)] at q
    tm_at "x"
    refine ⟨a, F, fr, m, 2 + m.side, w, by push_cast; rfl, hm3, by omega, e3, by omega, fun H4 f4 hm4 => ?_⟩
    have hr4 := f4 _ _ hr3 (hm3.nfI hr3)
    have e4 := f4 _ _ e3 (hm3.nfN e3)
    have f04 : Fr2 a F H H4 := (Fr2.of s03).trans f4.file
    tm_at "x"
    refine x_iteB (fun c7 => ?_) fun c7 => ?_
    · have c7' : m.writing = true := c7
      simp only [c7', if_true] at q
      tm_at "x"
      refine ⟨a, F, _, rfl, hm4, hsd, ?_⟩
      have hal := app_len hb (2 + m.side) (2 + (1 - m.side)) (Nat.le_refl w.length)
      tm_at "x"
      refine ⟨a, F, fr, m.app (2 + m.side) w, 2 + (1 - m.side), w, by push_cast; rfl, hm4, by omega, e4, by omega, fun H5 f5 hm5 => ?_⟩
      have hr5 := f5 _ _ hr4 (hm4.nfI hr4)
      have f05 := f04.trans f5.file
      tm_at "x"
      refine x_augLast T hm5 rfl fun H6 f6 hm6 => ?_
      have hr6 := f6 _ _ hr5 (hm5.naL hr5)
      tm_at "x"
      refine x_gEnt T hm6 fun e kvs he hre => ?_
      tm_at "x"
      refine ⟨e, r, kvs, m.entries, l, cs, rfl, he, hre, hb.ent, hr6, Nat.le_trans hl (by decide), c3', fun H7 e7 kvs7 s7 he7 hr7 => ?_⟩
      tm_at "x"
      refine x_sEnt T (hm6.same s7) _ he7 hr7 fun H8 f8 hm8 => ?_
      tm_at "x"
      refine x_sDur T hm8 (m.last + 1) rfl fun H9 f9 hm9 => ?_
      tm_at "x"
      refine ⟨sz (by simp), fun o ho => ?_⟩
      exact q _ F o (f05.trans (f6.objt.trans ((Fr2.of s7).trans (f8.objt.trans (f9.objt.trans (Fr2.new ho)))))) (hm9.new ho) upd_same
    · have c7' : m.writing = false := c7
      simp only [c7', Bool.false_eq_true, if_false] at q
      have hr5 := hr4
      have f05 := f04
      have hm5 := hm4
      tm_at "x"
      refine x_augLast T hm5 rfl fun H6 f6 hm6 => ?_
      have hr6 := f6 _ _ hr5 (hm5.naL hr5)
      tm_at "x"
      refine x_gEnt T hm6 fun e kvs he hre => ?_
      tm_at "x"
      refine ⟨e, r, kvs, m.entries, l, cs, rfl, he, hre, hb.ent, hr6, Nat.le_trans hl (by decide), c3', fun H7 e7 kvs7 s7 he7 hr7 => ?_⟩
      tm_at "x"
      refine x_sEnt T (hm6.same s7) _ he7 hr7 fun H8 f8 hm8 => ?_
      tm_at "x"
      refine x_sDur T hm8 (m.last + 1) rfl fun H9 f9 hm9 => ?_
      tm_at "x"
      refine ⟨sz (by simp), fun o ho => ?_⟩
      exact q _ F o (f05.trans (f6.objt.trans ((Fr2.of s7).trans (f8.objt.trans (f9.objt.trans (Fr2.new ho)))))) (hm9.new ho) upd_same
theorem mBegin_go {m : Mem} (c1 : m.power = true) (c2 : m.writing = false) : mBegin m = .ok (((((m.put (1 - m.side) []).put (2 + (1 - m.side)) []).wPend (Vbwsai.encodeFrame ((m.last : Int) :: flatS m.entries))).wWrit true), [((Vbwsai.encodeFrame ((m.last : Int) :: flatS m.entries)).length : Int)]) := by
  unfold mBegin
  rw [if_neg (by rw [c1]; decide), if_neg (by rw [c2]; decide)]
  rfl
theorem pure_Store_begin_checkpoint (T : Tx K mg) (vs : List V) (H : Hp) (Q : VK) (E : XK) (h : sp_Store_begin_checkpoint K vs H Q E) : t_Store_begin_checkpoint K E { nx := fun _ H' => Q .non H', rt := Q } (start ["self"] vs) H := by
  obtain ⟨a, F, m, rfl, hm, hb, q⟩ := h
  have hsd := hb.side
  have hel := hb.ent.len
  unfold t_Store_begin_checkpoint
  tm_at "x"
  refine ⟨a, F, m, rfl, hm, fun c1 => ?_, fun c1 => ?_⟩
  rotate_left
  · have e : mBegin m = .error (-7) := if_pos c1
    rw [e] at q
    exact q
  tm_at "x"
  refine ⟨_, _, rfl, fun c2 => ?_, fun c2 => ?_⟩
  rotate_left
  · have e : mBegin m = .error (-3) := by
      unfold mBegin
      rw [if_neg (by rw [c1]; decide), if_pos (by simpa using c2)]
    rw [e] at q
    exact q
  have c2' : m.writing = false := by simpa using c2
  rw [mBegin_go c1 c2'] at q
  tm_at "x"
  refine ⟨sz (by simp), fun p1 hp1 => ?_⟩
  have hm1 := hm.new hp1 (o := .lst [])
  tm_at "x"
  refine ⟨a, F, m, rfl, hm1, hsd, ?_⟩
  refine x_setF (d := []) hm1 rfl (by omega) upd_same fun H2 f2 hm2 => ?_
  have f02 : Fr2 a F H H2 := (Fr2.new hp1).trans f2.file
  tm_at "x"
  refine ⟨sz (by simp), fun p3 hp3 => ?_⟩
  have hm3 := hm2.new hp3 (o := .lst [])
  tm_at "x"
  refine ⟨a, F, _, rfl, hm3, hsd, ?_⟩
  tm_at "x"
  refine x_setF (d := []) (j := 2 + (1 - m.side)) hm3 (by push_cast; rfl) (by omega) upd_same fun H4 f4 hm4 => ?_
  have f04 : Fr2 a F H H4 := f02.trans ((Fr2.new hp3).trans f4.file)
  tm_at "x"
  refine ⟨sz (by simp), fun p5 hp5 => ?_⟩
  have hm5 := hm4.new hp5 (o := .lst [.int (m.last : Int)])
  tm_at "x"
  refine x_gEnt T hm5 fun e kvs he hre => ?_
  tm_at "x"
  refine ⟨e, kvs, m.entries, rfl, he, hre, hb.ent, fun H6 p6 s6 hp6 e6 => ?_⟩
  refine x_cat (s6 _ _ upd_same) e6 (sz (by rw [iv_len, flat_len]; simp; omega)) fun p7 hp7 => ?_
  have el : ((m.put (1 - m.side) []).put (2 + (1 - m.side)) []).last = m.last := rfl
  rw [el, show [V.int (m.last : Int)] ++ iv (flatS m.entries) = iv ((m.last : Int) :: flatS m.entries) from rfl]
  have hm7 := (hm5.same s6).new hp7 (o := .lst (iv ((m.last : Int) :: flatS m.entries)))
  tm_at "x"
  refine ⟨p7, _, rfl, upd_same, fun n hn => ?_, by simp [flat_len]; omega, fun H8 p8 s8 hp8 e8 => ?_⟩
  · rcases List.mem_cons.mp hn with z | z
    · rw [z]; exact hb.last
    · exact fit_ent hb.ent n z
  generalize Vbwsai.encodeFrame ((m.last : Int) :: flatS m.entries) = w at q e8
  tm_at "x"
  refine x_sPend T (hm7.same s8) w e8 fun H9 f9 hm9 => ?_
  tm_at "x"
  refine x_sWrit T hm9 fun H10 f10 hm10 => ?_
  tm_at "x"
  refine x_gPend T hm10 fun pp hpp => ?_
  tm_at "x"
  refine x_lenL hpp ?_
  rw [nv_len]
  tm_at "x"
  refine ⟨sz (by simp), fun o ho => ?_⟩
  exact q _ F o (f04.trans ((Fr2.new hp5).trans ((Fr2.of s6).trans ((Fr2.new hp7).trans ((Fr2.of s8).trans (f9.objt.trans (f10.objt.trans (Fr2.new ho)))))))) (hm10.new ho) upd_same
theorem mWrite_go {m : Mem} {n : Int} (c0 : (decide (1 ≤ n) && decide (n ≤ 100000)) = true) (c1 : m.power = true) (c2 : m.writing = true) : mWrite m n = .ok ((m.app (1 - m.side) (m.pending.take n.toNat)).wPend (m.pending.drop n.toNat), [((m.pending.drop n.toNat).length : Int)]) := by
  unfold mWrite
  rw [if_neg (by rw [c0]; decide), if_neg (by rw [c1]; decide), if_neg (by rw [c2]; decide)]
  rfl
theorem pure_Store_write_checkpoint (T : Tx K mg) (vs : List V) (H : Hp) (Q : VK) (E : XK) (h : sp_Store_write_checkpoint K vs H Q E) : t_Store_write_checkpoint K E { nx := fun _ H' => Q .non H', rt := Q } (start ["self", "count"] vs) H := by
  obtain ⟨a, F, m, n, rfl, hm, hb, q⟩ := h
  have hsd := hb.side
  have hpe := hb.pen
  unfold t_Store_write_checkpoint
  tm_at "x"
  refine x_ite (fun c0 => ?_) fun c0 => ?_
  rotate_left
  · have e : mWrite m n = .error (-1) := if_pos (by rw [decide_eq_false c0]; rfl)
    rw [e] at q
    tm_at "x"
    exact ⟨_, _, rfl, fun z => absurd z (by decide), fun _ => q⟩
  tm_at "x"
  refine ⟨_, _, rfl, fun c0' => ?_, fun c0' => ?_⟩
  rotate_left
  · have e : mWrite m n = .error (-1) := if_pos (by rw [c0', Bool.and_false])
    rw [e] at q
    exact q
  have cc : (decide (1 ≤ n) && decide (n ≤ 100000)) = true := by rw [decide_eq_true c0, c0']; rfl
  tm_at "x"
  refine ⟨a, F, m, rfl, hm, fun c1 => ?_, fun c1 => ?_⟩
  rotate_left
  · have e : mWrite m n = .error (-7) := by
      unfold mWrite
      rw [if_neg (by rw [cc]; decide), if_pos c1]
    rw [e] at q
    exact q
  tm_at "x"
  refine ⟨_, _, rfl, fun c2 => ?_, fun c2 => ?_⟩
  rotate_left
  · have e : mWrite m n = .error (-3) := by
      unfold mWrite
      rw [if_neg (by rw [cc]; decide), if_neg (by rw [c1]; decide), if_pos c2]
    rw [e] at q
    exact q
  rw [mWrite_go cc c1 c2] at q
  have n0 : n = ((n.toNat : Nat) : Int) := (Int.toNat_of_nonneg (by omega)).symm
  generalize n.toNat = k at n0 q
  subst n0
  tm_at "x"
  refine ⟨a, F, m, rfl, hm, hsd, ?_⟩
  tm_at "x"
  refine x_gPend T hm fun pp hpp => ?_
  tm_at "x"
  refine x_slL hpp fun p1 hp1 => ?_
  rw [cutV_to, show (nv m.pending).take k = nv (m.pending.take k) from by simp [nv, List.map_take]]
  have hm1 := hm.new hp1 (o := .lst (nv (m.pending.take k)))
  have hfl := file_len hb (1 - m.side)
  have hlm : most = 1000000 := rfl
  tm_at "x"
  refine ⟨a, F, p1, m, 1 - m.side, m.pending.take k, rfl, hm1, by omega, upd_same, by rw [List.length_take]; omega, fun H2 f2 hm2 => ?_⟩
  tm_at "x"
  refine x_gPend T hm2 fun pp hpp => ?_
  tm_at "x"
  refine x_slL hpp fun p3 hp3 => ?_
  have ep : (m.app (1 - m.side) (m.pending.take k)).pending = m.pending := rfl
  rw [ep, cutV_from, show (nv m.pending).drop k = nv (m.pending.drop k) from by simp [nv, List.map_drop]]
  have hm3 := hm2.new hp3 (o := .lst (nv (m.pending.drop k)))
  tm_at "x"
  refine x_sPend T hm3 (m.pending.drop k) upd_same fun H4 f4 hm4 => ?_
  tm_at "x"
  refine x_gPend T hm4 fun pp hpp => ?_
  tm_at "x"
  refine x_lenL hpp ?_
  rw [nv_len]
  tm_at "x"
  refine ⟨sz (by simp), fun o ho => ?_⟩
  exact q _ F o ((Fr2.new hp1).trans (f2.file.trans ((Fr2.new hp3).trans (f4.objt.trans (Fr2.new ho))))) (hm4.new ho) upd_same
theorem mCommit_go {m : Mem} {p : Int} (c0 : okPower p = true) (c1 : m.power = true) (c2 : (m.writing && decide (m.pending = [])) = true) (c3 : m.commit < big) :
    mCommit m p = if enough p (Vbwsai.encodeFrame [((m.commit + 1 : Nat) : Int), ((1 - m.side : Nat) : Int)]).length = false then
      .ok ((m.put (4 + (m.commit + 1) % 2) ((Vbwsai.encodeFrame [((m.commit + 1 : Nat) : Int), ((1 - m.side : Nat) : Int)]).take p.toNat)).fail, [-1, ((Vbwsai.encodeFrame [((m.commit + 1 : Nat) : Int), ((1 - m.side : Nat) : Int)]).length : Int)]) else
      .ok ((((m.put (4 + (m.commit + 1) % 2) (Vbwsai.encodeFrame [((m.commit + 1 : Nat) : Int), ((1 - m.side : Nat) : Int)])).wSide (1 - m.side)).wCom (m.commit + 1)).finish, [((1 - m.side : Nat) : Int), ((m.commit + 1 : Nat) : Int)]) := by
  unfold mCommit
  rw [if_neg (by rw [c0]; decide), if_neg (by rw [c1]; decide), if_neg (by rw [c2]; decide), if_neg (by omega)]
  rfl
theorem pure_Store_commit_checkpoint (T : Tx K mg) (vs : List V) (H : Hp) (Q : VK) (E : XK) (h : sp_Store_commit_checkpoint K vs H Q E) : t_Store_commit_checkpoint K E { nx := fun _ H' => Q .non H', rt := Q } (start ["self", "power", "number", "frame"] vs) H := by
  obtain ⟨a, F, m, p, rfl, hm, hb, q⟩ := h
  have hsd := hb.side
  unfold t_Store_commit_checkpoint
  tm_at "x"
  refine ⟨p, rfl, fun c0 => ?_, fun c0 => ?_⟩
  rotate_left
  · have e : mCommit m p = .error (-1) := if_pos c0
    rw [e] at q
    exact q
  tm_at "x"
  refine ⟨a, F, m, rfl, hm, fun c1 => ?_, fun c1 => ?_⟩
  rotate_left
  · have e : mCommit m p = .error (-7) := by
      unfold mCommit
      rw [if_neg (by rw [c0]; decide), if_pos c1]
    rw [e] at q
    exact q
  tm_at "x"
  have no : (m.writing && decide (m.pending = [])) = false → Rf K H E (-3) := by
    intro z
    have e : mCommit m p = .error (-3) := by
      unfold mCommit
      rw [if_neg (by rw [c0]; decide), if_neg (by rw [c1]; decide), if_pos z]
    rw [e] at q
    exact q
  have go : ∀ H1, Same H H1 → (m.writing && decide (m.pending = [])) = true → sp_want K [V.bl (decide ((m.commit : Int) < 1000000000000000000)), .int (-5)] H1 (fun _ H2 => (tSeq (tAsg (tOp rAddI (tFld K (tVar 0) "commit") (tC (.int 1))) (gName 2))
  (tSeq (tAsg (tCall (sp_frame_of K) [] E0 (tCons (tLst (tCons (tVar 2) (tCons (tMeth (He.ga K "Store") "other" (sp_Store_other K) [] E0 (tVar 0) tNil) tNil))) tNil)) (gName 3))
  (tSeq (tIfS (tNot (tB (tCall (sp_is_enough K) [] E0 (tCons (tVar 1) (tCons (tCB (rLenS K) (tCons (tVar 3) tNil)) tNil))))) (tSeq (tAsg (tSl (rSlL K) (tVar 3) tNoPart (tPart (tVar 1))) (gSub (tFld K (tVar 0) "files") (tOp rAddI (tC (.int (4))) (tOp rModI (tVar 2) (tC (.int 2)))) rSetL))
  (tSeq (tDrop (tMeth (He.ga K "Store") "fail" (sp_Store_fail K) [] E0 (tVar 0) tNil))
  (tRet (tLst (tCons (tC (.int (-1))) (tCons (tCB (rLenS K) (tCons (tVar 3) tNil)) tNil)))))) tNext)
  (tSeq (tAsg (tVar 3) (gSub (tFld K (tVar 0) "files") (tOp rAddI (tC (.int (4))) (tOp rModI (tVar 2) (tC (.int 2)))) rSetL))
  (tSeq (sFld K (tVar 0) (tMeth (He.ga K "Store") "other" (sp_Store_other K) [] E0 (tVar 0) tNil) "side")
  (tSeq (sFld K (tVar 0) (tVar 2) "commit")
  (tSeq (tDrop (tMeth (He.ga K "Store") "finish" (sp_Store_finish K) [] E0 (tVar 0) tNil))
  (tRet (tLst (tCons (tFld K (tVar 0) "side") (tCons (tVar 2) tNil)))))))))) : TS) { nx := fun _ H' => Q .non H', rt := Q } [some (.ref a), some (.int p), none, none] H2) E := by
    intro H1 s1 c2
    refine ⟨_, _, rfl, fun c3 => ?_, fun c3 => ?_⟩
    rotate_left
    · have e : mCommit m p = .error (-5) := by
        unfold mCommit
        have := of_decide_eq_false c3
        rw [if_neg (by rw [c0]; decide), if_neg (by rw [c1]; decide), if_neg (by rw [c2]; decide), if_pos (by unfold big; omega)]
      rw [e] at q
      exact q.same s1
    have c3' : m.commit < big := by
      have := of_decide_eq_true c3
      unfold big
      omega
    have c3'' : m.commit + 1 ≤ 1000000000000000000 := c3'
    rw [mCommit_go c0 c1 c2 c3'] at q
    have hm1 := hm.same s1
    tm_at "x"
    refine ⟨a, F, m, rfl, hm1, hsd, ?_⟩
    tm_at "x"
    refine ⟨sz (by simp), fun p2 hp2 => ?_⟩
    rw [show [V.int ((m.commit : Int) + 1), .int ((1 - m.side : Nat) : Int)] = iv [((m.commit + 1 : Nat) : Int), ((1 - m.side : Nat) : Int)] from by push_cast; rfl]
    have hm2 := hm1.new hp2 (o := .lst (iv [((m.commit + 1 : Nat) : Int), ((1 - m.side : Nat) : Int)]))
    tm_at "x"
    refine ⟨p2, _, rfl, upd_same, fun n hn => ?_, by simp, fun H3 fr s3 hfr e3 => ?_⟩
    · have : n = ((m.commit + 1 : Nat) : Int) ∨ n = ((1 - m.side : Nat) : Int) := by simpa using hn
      rcases this with z | z <;> rw [z] <;> exact fit_of (by omega) (by omega)
    have hwl := frame_len [((m.commit + 1 : Nat) : Int), ((1 - m.side : Nat) : Int)]
    generalize Vbwsai.encodeFrame [((m.commit + 1 : Nat) : Int), ((1 - m.side : Nat) : Int)] = w at q e3 hwl
    have hm3 := hm2.same s3
    have f03 : Fr2 a F H H3 := (Fr2.of s1).trans ((Fr2.new hp2).trans (Fr2.of s3))
    tm_at "x"
    refine x_lenL e3 ?_
    rw [nv_len]
    tm_at "x"
    refine ⟨p, w.length, rfl, ?_⟩
    tm_at "x"
    have ecom : (m.commit : Int) + 1 = ((m.commit + 1 : Nat) : Int) := by push_cast; rfl
    have hmod : (m.commit + 1) % 2 < 2 := Nat.mod_lt _ (by decide)
    refine x_iteNB (fun c6 => ?_) fun c6 => ?_
    · rw [if_pos c6] at q
      have p0 : 0 ≤ p := by
        unfold okPower at c0
        unfold enough at c6
        rw [Bool.and_eq_true] at c0
        rw [Bool.or_eq_false_iff] at c6
        have := of_decide_eq_true c0.1
        have := of_decide_eq_false c6.1
        omega
      have n0 : p = ((p.toNat : Nat) : Int) := (Int.toNat_of_nonneg p0).symm
      generalize p.toNat = k at n0 q
      subst n0
      tm_at "x"
      refine x_slL e3 fun p4 hp4 => ?_
      rw [cutV_to, show (nv w).take k = nv (w.take k) from by simp [nv, List.map_take]]
      have hm4 := hm3.new hp4 (o := .lst (nv (w.take k)))
      have e4 := Same.new hp4 (o := .lst (nv (w.take k))) _ _ e3
      tm_at "x"
      rw [ecom]
      refine x_modN 2 (by decide) ?_
      tm_at "x"
      refine x_setF (j := 4 + (m.commit + 1) % 2) hm4 (by push_cast; rfl) (by omega) upd_same fun H5 f5 hm5 => ?_
      have e5 := f5 _ _ e4 (hm4.nfN e4)
      tm_at "x"
      refine ⟨a, F, _, rfl, hm5, fun H6 f6 hm6 => ?_⟩
      have e6 := f6 _ _ e5 (hm5.naL e5)
      tm_at "x"
      refine x_lenL e6 ?_
      rw [nv_len]
      tm_at "x"
      refine ⟨sz (by simp), fun o ho => ?_⟩
      exact q _ F o (f03.trans ((Fr2.new hp4).trans (f5.file.trans (f6.objt.trans (Fr2.new ho))))) (hm6.new ho) upd_same
    · rw [if_neg (by rw [c6]; decide)] at q
      tm_at "x"
      rw [ecom]
      refine x_modN 2 (by decide) ?_
      tm_at "x"
      refine x_setF (j := 4 + (m.commit + 1) % 2) hm3 (by push_cast; rfl) (by omega) e3 fun H4 f4 hm4 => ?_
      tm_at "x"
      refine ⟨a, F, _, rfl, hm4, hsd, ?_⟩
      tm_at "x"
      refine x_sSide T hm4 (1 - m.side) rfl fun H5 f5 hm5 => ?_
      tm_at "x"
      refine x_sCommit T hm5 (m.commit + 1) (by push_cast; rfl) fun H6 f6 hm6 => ?_
      tm_at "x"
      refine ⟨a, F, _, rfl, hm6, fun H7 f7 hm7 => ?_⟩
      tm_at "x"
      refine ⟨sz (by simp), fun o ho => ?_⟩
      refine q _ F o (f03.trans (f4.file.trans (f5.objt.trans (f6.objt.trans (f7.objt.trans (Fr2.new ho)))))) (hm7.new ho) ?_
      rw [upd_same, ← ecom]
      rfl
  refine x_iteB (fun c2 => ?_) fun c2 => ?_
  rotate_left
  · tm_at "x"
    exact ⟨_, _, rfl, fun z => absurd z (by decide), fun _ => no (by rw [c2]; rfl)⟩
  tm_at "x"
  refine x_gPend T hm fun pp hpp => ?_
  tm_at "x"
  refine ⟨sz (by simp), fun p1 hp1 => ?_⟩
  have s1 := Same.new hp1 (o := .lst [])
  refine x_eqN (r := []) (s1 _ _ hpp) upd_same ?_
  tm_at "x"
  refine ⟨_, _, rfl, fun c3 => ?_, fun c3 => ?_⟩
  rotate_left
  · exact (no (by rw [c3, Bool.and_false])).same s1
  have hm1 := hm.same s1
  tm_at "x"
  exact go _ s1 (by rw [c2, c3]; rfl)
end
end Ts
/-! ## TsP9 -/
namespace Ts
open PySem PySem.Spec PyProof.Rows L2
/-- the steps that leave no choice -/
local macro_rules | `(tactic| tm_at "x") => `(tactic| repeat (first | (with_reducible refine x_var ?_; refine ⟨_, rfl, ?_⟩) | with_reducible refine x_seq ?_ | with_reducible refine x_asg ?_ | with_reducible refine x_gname ?_ | with_reducible refine x_op ?_ | with_reducible refine x_c ?_ | with_reducible refine x_I0 ?_ | with_reducible refine x_if ?_ | with_reducible refine x_test ?_ | with_reducible refine x_bl ?_ | with_reducible refine x_blV ?_ | with_reducible refine x_ret ?_ | with_reducible refine x_retN ?_ | with_reducible refine x_drop ?_ | with_reducible refine x_cons ?_ | with_reducible refine x_nil ?_ | with_reducible refine x_call ?_ | with_reducible refine x_cb ?_ | with_reducible refine x_tB ?_ | with_reducible refine x_not ?_ | with_reducible refine x_and ?_ | with_reducible refine x_or ?_ | with_reducible refine x_andV ?_ | with_reducible refine x_orV ?_ | with_reducible refine x_notV ?_ | with_reducible refine x_chain ?_ | with_reducible refine x_un ?_ | with_reducible refine x_U ?_ | with_reducible refine x_mulL (by decide) ?_ | with_reducible refine x_mulR (by decide) ?_ | with_reducible refine x_isN ?_ | with_reducible refine x_notN ?_ | with_reducible refine x_sl ?_ | with_reducible refine x_noPart ?_ | with_reducible refine x_part ?_ | with_reducible refine x_int ?_ | with_reducible refine x_bm ?_ | with_reducible refine x_ipI ?_ | with_reducible refine x_next ?_ | with_reducible refine x_refN ?_ | with_reducible refine x_intN ?_ | with_reducible refine x_nonN ?_ | with_reducible refine x_refNN ?_ | with_reducible refine x_nonNN ?_ | with_reducible refine x_yes ?_ | with_reducible refine x_no ?_ | with_reducible refine x_gcons ?_ | with_reducible refine x_gnil ?_ | with_reducible refine x_lst ?_ | with_reducible refine x_tup ?_ | with_reducible refine x_dnewK ?_ | with_reducible refine x_for ?_ | with_reducible refine x_iList ?_ | with_reducible refine x_iTup ?_ | with_reducible refine x_iEnum ?_ | with_reducible refine x_iZip ?_ | with_reducible refine x_iRng3 ?_ | with_reducible refine x_lc ?_ | with_reducible refine x_dput ?_ | with_reducible refine x_dget ?_ | with_reducible refine x_din ?_ | with_reducible refine x_dpop ?_ | with_reducible refine x_fld ?_ | with_reducible refine x_sfld ?_ | with_reducible refine x_meth ?_ | with_reducible refine x_gsub ?_ | with_reducible refine x_raiseO ?_ | ((with_reducible refine x_self (by assumption) ?_ ?_); exact fun _ _ _ _ => rfl) | with_reducible refine x_gPower (by assumption) (by assumption) ?_ | with_reducible refine x_gDur (by assumption) (by assumption) ?_ | with_reducible refine x_gLast (by assumption) (by assumption) ?_ | with_reducible refine x_gSide (by assumption) (by assumption) ?_ | with_reducible refine x_gCommit (by assumption) (by assumption) ?_ | with_reducible refine x_gWrit (by assumption) (by assumption) ?_ | with_reducible refine x_gFiles (by assumption) (by assumption) ?_ | (with_reducible refine x_aug ?_; refine ⟨_, rfl, ?_⟩)))
theorem parse_len : ∀ (l : List Int) (cs : List Vbwsai.Change), Vbwsai.parseChanges l = some cs → l.length = 3 * cs.length := by
  apply three_ind
  · intro cs h
    rw [← Option.some.inj h]
    rfl
  · intro a cs h
    cases h
  · intro a b cs h
    cases h
  · intro k f v r ih cs h
    rw [parse_cons] at h
    split at h
    · obtain ⟨c2, h1, h2⟩ := Option.map_eq_some_iff.mp h
      rw [← h2, List.length_cons, List.length_cons, List.length_cons, List.length_cons, ih c2 h1]
      omega
    · cases h
theorem look_mem {s : Vbwsai.Store} (h : Ent s) {k : Nat} {v : Int} (e : Vbwsai.lookupKey k s = some v) : (k, v) ∈ s := by
  obtain ⟨x, h1, h2⟩ := Option.map_eq_some_iff.mp e
  have h3 := List.mem_of_find?_eq_some h1
  have h4 := List.find?_some h1
  have h5 : x.1 = k := by simpa using h4
  rw [← h5, ← h2]
  exact h3
theorem look_none {s : Vbwsai.Store} {k : Nat} (e : Vbwsai.lookupKey k s = none) : ∀ x ∈ s, x.1 ≠ k := by
  intro x hx z
  have h1 := Option.map_eq_none_iff.mp e
  have h2 := List.find?_eq_none.mp h1 x hx
  simp [z] at h2
theorem val_look {s : Vbwsai.Store} {kvs : List (Key × V)} (h : DRel kvs s) (he : Ent s) {k : Int} (hk : 0 ≤ k) : valV kvs (Sum.inl k) = (Vbwsai.lookupKey k.toNat s).map V.int := by
  have e : k = ((k.toNat : Nat) : Int) := (Int.toNat_of_nonneg hk).symm
  generalize k.toNat = n at e
  subst e
  cases q : Vbwsai.lookupKey n s with
  | none => exact h.none (look_none q)
  | some v => exact h.some he (look_mem he q)
section
variable {K : PySem.W.Frag} {mg : Str → Option Value}
theorem pure_Store_cut_power (T : Tx K mg) (vs : List V) (H : Hp) (Q : VK) (E : XK) (h : sp_Store_cut_power K vs H Q E) : t_Store_cut_power K E { nx := fun _ H' => Q .non H', rt := Q } (start ["self"] vs) H := by
  obtain ⟨a, F, m, rfl, hm, hb, q⟩ := h
  unfold t_Store_cut_power
  tm_at "x"
  refine ⟨a, F, m, rfl, hm, fun c1 => ?_, fun c1 => ?_⟩
  rotate_left
  · have e : mCut m = .error (-7) := if_pos c1
    rw [e] at q
    exact q
  have e : mCut m = .ok (m.fail, []) := if_neg (by rw [c1]; decide)
  rw [e] at q
  tm_at "x"
  refine ⟨a, F, m, rfl, hm, fun H1 f1 hm1 => ?_⟩
  tm_at "x"
  refine ⟨sz (by simp), fun o ho => ?_⟩
  exact q _ F o (f1.objt.trans (Fr2.new ho)) (hm1.new ho) upd_same
theorem pure_Store_get (T : Tx K mg) (vs : List V) (H : Hp) (Q : VK) (E : XK) (h : sp_Store_get K vs H Q E) : t_Store_get K E { nx := fun _ H' => Q .non H', rt := Q } (start ["self", "key"] vs) H := by
  obtain ⟨a, F, m, k, rfl, hm, hb, q⟩ := h
  unfold mGet at q
  unfold t_Store_get
  tm_at "x"
  refine ⟨_, _, rfl, fun c0 => ?_, fun c0 => ?_⟩
  rotate_left
  · rw [if_pos (by have := of_decide_eq_false c0; omega)] at q
    exact q
  have c0' := of_decide_eq_true c0
  rw [if_neg (by omega)] at q
  tm_at "x"
  refine ⟨a, F, m, rfl, hm, fun c1 => ?_, fun c1 => ?_⟩
  rotate_left
  · rw [if_pos c1] at q
    exact q
  rw [if_neg (by rw [c1]; decide)] at q
  tm_at "x"
  refine x_gEnt T hm fun e kvs he hre => ?_
  refine x_dinE he ?_
  have hv := val_look hre hb.ent c0'
  rw [hv]
  tm_at "x"
  cases el : Vbwsai.lookupKey k.toNat m.entries with
  | none =>
    rw [el] at q
    exact ⟨false, _, rfl, fun z => absurd z (by decide), fun _ => q⟩
  | some v =>
    rw [el] at q hv
    refine ⟨true, _, rfl, fun _ => ?_, fun z => absurd z (by decide)⟩
    tm_at "x"
    refine x_gEnt T hm fun e2 kvs2 he2 hre2 => ?_
    have hv2 := val_look hre2 hb.ent c0'
    rw [el] at hv2
    tm_at "x"
    refine x_dgetE he2 hv2 ?_
    tm_at "x"
    refine ⟨sz (by simp), fun o ho => ?_⟩
    exact q _ F o (Fr2.new ho) (hm.new ho) upd_same
theorem pure_Store_contents (T : Tx K mg) (vs : List V) (H : Hp) (Q : VK) (E : XK) (h : sp_Store_contents K vs H Q E) : t_Store_contents K E { nx := fun _ H' => Q .non H', rt := Q } (start ["self"] vs) H := by
  obtain ⟨a, F, m, rfl, hm, hb, q⟩ := h
  have hel := hb.ent.len
  unfold mContents at q
  unfold t_Store_contents
  tm_at "x"
  refine ⟨a, F, m, rfl, hm, fun c1 => ?_, fun c1 => ?_⟩
  rotate_left
  · rw [if_pos c1] at q
    exact q
  rw [if_neg (by rw [c1]; decide)] at q
  tm_at "x"
  refine ⟨sz (by simp), fun p1 hp1 => ?_⟩
  have hm1 := hm.new hp1 (o := .lst [.int (m.last : Int)])
  tm_at "x"
  refine x_gEnt T hm1 fun e kvs he hre => ?_
  tm_at "x"
  refine ⟨e, kvs, m.entries, rfl, he, hre, hb.ent, fun H2 p2 s2 hp2 e2 => ?_⟩
  refine x_cat (s2 _ _ upd_same) e2 (sz (by rw [iv_len, flat_len]; simp; omega)) fun p3 hp3 => ?_
  exact q _ F p3 ((Fr2.new hp1).trans ((Fr2.of s2).trans (Fr2.new hp3))) ((hm1.same s2).new hp3) upd_same
theorem pure_Store_read_file (T : Tx K mg) (vs : List V) (H : Hp) (Q : VK) (E : XK) (h : sp_Store_read_file K vs H Q E) : t_Store_read_file K E { nx := fun _ H' => Q .non H', rt := Q } (start ["self", "number"] vs) H := by
  obtain ⟨a, F, m, i, rfl, hm, hb, q⟩ := h
  unfold mRead at q
  unfold t_Store_read_file
  tm_at "x"
  refine x_ite (fun c0 => ?_) fun c0 => ?_
  rotate_left
  · rw [if_pos (by rw [decide_eq_false c0, Bool.false_and])] at q
    tm_at "x"
    exact ⟨_, _, rfl, fun z => absurd z (by decide), fun _ => q⟩
  rw [decide_eq_true c0, Bool.true_and] at q
  tm_at "x"
  refine ⟨_, _, rfl, fun c1 => ?_, fun c1 => ?_⟩
  rotate_left
  · rw [if_pos c1] at q
    exact q
  rw [if_neg (by rw [c1]; decide)] at q
  have c1' := of_decide_eq_true c1
  have n0 : i = ((i.toNat : Nat) : Int) := (Int.toNat_of_nonneg (by omega)).symm
  generalize i.toNat = k at n0 q
  subst n0
  tm_at "x"
  refine x_file hm rfl (by omega) fun p hp => ?_
  tm_at "x"
  refine ⟨p, _, rfl, .inl (.of hp), fun l hl => ?_⟩
  refine q _ F l (Fr2.new hl) (hm.new hl) ?_
  rw [upd_same, nv_iv]
theorem pure_Store_corrupt_byte (T : Tx K mg) (vs : List V) (H : Hp) (Q : VK) (E : XK) (h : sp_Store_corrupt_byte K vs H Q E) : t_Store_corrupt_byte K E { nx := fun _ H' => Q .non H', rt := Q } (start ["self", "number", "at", "byte", "data"] vs) H := by
  obtain ⟨a, F, m, i, p, b, rfl, hm, hb, q⟩ := h
  have hlm : most = 1000000 := rfl
  unfold mCorrupt at q
  unfold t_Store_corrupt_byte
  have no : ((decide (0 ≤ i) && decide (i < 6)) && (decide (0 ≤ b) && decide (b ≤ 255))) = false → Rf K H E (-1) := by
    intro z
    rw [if_pos z] at q
    exact q
  tm_at "x"
  refine x_ite (fun c0 => ?_) fun c0 => ?_
  rotate_left
  · tm_at "x"
    exact ⟨_, _, rfl, fun z => absurd z (by decide), fun _ => no (by rw [decide_eq_false c0]; rfl)⟩
  tm_at "x"
  refine x_ite (fun c1 => ?_) fun c1 => ?_
  rotate_left
  · tm_at "x"
    exact ⟨_, _, rfl, fun z => absurd z (by decide), fun _ => no (by rw [decide_eq_false c1, Bool.and_false]; rfl)⟩
  tm_at "x"
  refine x_ite (fun c2 => ?_) fun c2 => ?_
  rotate_left
  · tm_at "x"
    exact ⟨_, _, rfl, fun z => absurd z (by decide), fun _ => no (by rw [decide_eq_false c2, Bool.false_and, Bool.and_false])⟩
  tm_at "x"
  refine ⟨_, _, rfl, fun c3 => ?_, fun c3 => ?_⟩
  rotate_left
  · exact no (by rw [c3, Bool.and_false, Bool.and_false])
  rw [if_neg (by rw [decide_eq_true c0, decide_eq_true c1, decide_eq_true c2, c3]; decide)] at q
  have c3' := of_decide_eq_true c3
  have ni : i = ((i.toNat : Nat) : Int) := (Int.toNat_of_nonneg (by omega)).symm
  have nb : b = ((b.toNat : Nat) : Int) := (Int.toNat_of_nonneg (by omega)).symm
  generalize i.toNat = k at ni q
  generalize b.toNat = bt at nb q
  subst ni
  subst nb
  have hfl := file_len hb k
  have no2 : (decide (0 ≤ p) && decide (p < ((m.file k).length : Int))) = false → Rf K H E (-4) := by
    intro z
    rw [if_pos z] at q
    exact q
  tm_at "x"
  refine x_ite (fun c4 => ?_) fun c4 => ?_
  rotate_left
  · tm_at "x"
    exact ⟨_, _, rfl, fun z => absurd z (by decide), fun _ => no2 (by rw [decide_eq_false c4]; rfl)⟩
  tm_at "x"
  refine x_file hm rfl (by omega) fun f1 hf1 => ?_
  tm_at "x"
  refine x_lenL hf1 ?_
  rw [nv_len]
  tm_at "x"
  refine ⟨_, _, rfl, fun c5 => ?_, fun c5 => ?_⟩
  rotate_left
  · exact no2 (by rw [c5, Bool.and_false])
  rw [if_neg (by rw [decide_eq_true c4, c5]; decide)] at q
  have c5' := of_decide_eq_true c5
  have np : p = ((p.toNat : Nat) : Int) := (Int.toNat_of_nonneg c4).symm
  generalize p.toNat = n at np q
  subst np
  tm_at "x"
  refine x_file hm rfl (by omega) fun f2 hf2 => ?_
  tm_at "x"
  refine x_slL hf2 fun p3 hp3 => ?_
  rw [cutV_to, show (nv (m.file k)).take n = nv ((m.file k).take n) from by simp [nv, List.map_take]]
  have s3 := Same.new hp3 (o := .lst (nv ((m.file k).take n)))
  tm_at "x"
  refine ⟨sz (by simp), fun p4 hp4 => ?_⟩
  have s4 := Same.new hp4 (o := .lst [.int (bt : Int)])
  refine x_cat (zs := nv [bt]) (s4 _ _ upd_same) upd_same (sz (by rw [nv_len, nv_len, List.length_take]; simp; omega)) fun p5 hp5 => ?_
  rw [nv_cat]
  have s5 := (s3.trans s4).more hp5 (o := .lst (nv ((m.file k).take n ++ [bt])))
  tm_at "x"
  refine x_slL (s5 _ _ hf2) fun p6 hp6 => ?_
  rw [show (n : Int) + 1 = ((n + 1 : Nat) : Int) from by push_cast; rfl, cutV_from, show (nv (m.file k)).drop (n + 1) = nv ((m.file k).drop (n + 1)) from by simp [nv, List.map_drop]]
  have s6 := Same.new hp6 (o := .lst (nv ((m.file k).drop (n + 1))))
  refine x_cat (s6 _ _ upd_same) upd_same (sz (by rw [nv_len, nv_len, List.length_append, List.length_take, List.length_drop]; simp; omega)) fun p7 hp7 => ?_
  rw [nv_cat]
  have s7 := ((s5.trans s6).more hp7 (o := .lst (nv ((m.file k).take n ++ [bt] ++ (m.file k).drop (n + 1)))))
  have hm7 := hm.same s7
  tm_at "x"
  refine x_setF hm7 rfl (by omega) upd_same fun H8 f8 hm8 => ?_
  tm_at "x"
  refine ⟨sz (by simp), fun o ho => ?_⟩
  exact q _ F o ((Fr2.of s7).trans (f8.file.trans (Fr2.new ho))) (hm8.new ho) upd_same
theorem pure_Store_status (T : Tx K mg) (vs : List V) (H : Hp) (Q : VK) (E : XK) (h : sp_Store_status K vs H Q E) : t_Store_status K { nx := fun _ H' => Q .non H', rt := Q } (start ["self", "found"] vs) H := by
  obtain ⟨a, F, m, rfl, hm, hb, q⟩ := h
  unfold mStatus at q
  unfold t_Store_status
  tm_at "x"
  refine .inr ⟨_, rfl, ?_⟩
  tm_at "x"
  refine ⟨sz (by simp), fun p1 hp1 => ?_⟩
  have hm1 := hm.new hp1 (o := .lst [.int (if m.power = true then 1 else 0), .int (m.last : Int), .int (m.side : Int), .int (m.commit : Int)])
  tm_at "x"
  refine .inr ⟨_, rfl, ?_⟩
  tm_at "x"
  refine x_gPend T hm1 fun pp hpp => ?_
  tm_at "x"
  refine x_lenL hpp ?_
  rw [nv_len]
  tm_at "x"
  refine ⟨sz (by simp), fun p2 hp2 => ?_⟩
  have hm2 := hm1.new hp2 (o := .lst [.int (if m.writing = true then 1 else 0), .int (m.pending.length : Int), .int (m.durable : Int)])
  refine x_cat (Same.new hp2 _ _ upd_same) upd_same (sz (by simp)) fun p3 hp3 => ?_
  exact q _ F p3 ((Fr2.new hp1).trans ((Fr2.new hp2).trans (Fr2.new hp3))) (hm2.new hp3) upd_same
theorem file_byt {m : Mem} {n : Nat} (hb : Bd n m) (i : Nat) : ∀ x ∈ m.file i, x < 256 := by
  unfold Mem.file
  rw [List.getD_eq_getElem?_getD]
  cases e : m.files[i]? with
  | none => intro x hx; cases hx
  | some b => exact hb.byt b (List.mem_of_getElem? e)
theorem pure_Store_list_ticks (T : Tx K mg) (vs : List V) (H : Hp) (Q : VK) (E : XK) (h : sp_Store_list_ticks K vs H Q E) : t_Store_list_ticks K E { nx := fun _ H' => Q .non H', rt := Q } (start ["self", "found", "row", "end"] vs) H := by
  obtain ⟨a, F, m, rfl, hm, hb, q⟩ := h
  have hsd := hb.side
  have hfb := file_byt hb (2 + m.side)
  have hfl := file_len hb (2 + m.side)
  have hlm : most = 1000000 := rfl
  unfold mList at q
  unfold t_Store_list_ticks
  tm_at "x"
  refine ⟨a, F, m, rfl, hm, fun c1 => ?_, fun c1 => ?_⟩
  rotate_left
  · rw [if_pos c1] at q
    exact q
  rw [if_neg (by rw [c1]; decide)] at q
  tm_at "x"
  refine ⟨sz (by simp), fun f hf => ?_⟩
  have s0 := Same.new hf (o := .lst [])
  have hm1 := hm.same s0
  tm_at "x"
  refine x_file (j := 2 + m.side) hm1 (by push_cast; rfl) (by omega) fun p hp => ?_
  have hfr := framesOf_len hfb
  have hmem : ∀ x ∈ framesOf (m.file (2 + m.side)), x.1.length ≤ most := fun x hx => Nat.le_trans (framesOf_fit hfb hx).2.1 hfl
  tm_at "x"
  refine ⟨p, m.file (2 + m.side), rfl, hp, hfl, hfb, fun H1 d as s1 hd0 d1 n1 => ?_⟩
  generalize framesOf (m.file (2 + m.side)) = fs at n1 q hfr hmem
  have al : as.length = fs.length := n1.length
  tm_at "x"
  refine x_srcL d1 ?_
  have fd : d ≠ f := by
    intro z
    rw [z, upd_same] at hd0
    cases hd0
  refine x_loop src_list (fun i σ H' => ∃ v1 v2, σ = [some (.ref a), some (.ref f), v1, v2] ∧ Same H H' ∧ H' d = some (.lst (as.map V.ref)) ∧ Frs (upd H f (.lst [])) H' as fs ∧
      H' f = some (.lst (iv ((fs.take i).flatMap fun f => match Vbwsai.parseTickRow f.1 with | some e => [(e.1 : Int), (e.2.length : Int)] | none => [])))) ?_ (fun i σ H' h => by obtain ⟨_, _, _, _, e, _⟩ := h; exact e) ?_ ?_
  · exact ⟨none, none, rfl, s0.trans s1, d1, n1, s1 _ _ upd_same⟩
  · rintro i x σ H2 H3 hi ⟨v1, v2, rfl, s2, d2, n2, f2⟩ s3 hx
    obtain ⟨c, hc, rfl⟩ := ref_at hx
    obtain ⟨fr, hfr2, r, hr0, hr1, hr2⟩ := pair_at n2 hc
    rw [List.length_map] at hi
    have hi2 : i < fs.length := by omega
    obtain ⟨row, en⟩ := fr
    have hrl := hmem (row, en) (List.mem_of_getElem? hfr2)
    have r3 := s3 _ _ hr2
    have f3 := s3 _ _ f2
    have n3 := Frs.same s3 n2
    have d3 := s3 _ _ d2
    have s13 := s2.trans s3
    rw [List.take_add_one, hfr2]
    simp only [List.flatMap_append, Option.toList_some, List.flatMap_cons, List.flatMap_nil, List.append_nil]
    have hfl2 : ((fs.take i).flatMap fun f => match Vbwsai.parseTickRow f.1 with | some e => [(e.1 : Int), (e.2.length : Int)] | none => []).length ≤ 2 * i := by
      have : ∀ l : List (List Int × Nat), (l.flatMap fun f => match Vbwsai.parseTickRow f.1 with | some e => [(e.1 : Int), (e.2.length : Int)] | none => []).length ≤ 2 * l.length := by
        intro l
        induction l with
        | nil => simp
        | cons y l ih =>
          rw [List.flatMap_cons, List.length_append, List.length_cons]
          have : (match Vbwsai.parseTickRow y.1 with | some e => [(e.1 : Int), (e.2.length : Int)] | none => []).length ≤ 2 := by
            cases Vbwsai.parseTickRow y.1 <;> simp
          omega
      have h2 := this (fs.take i)
      rw [List.length_take] at h2
      omega
    generalize ((fs.take i).flatMap fun f => match Vbwsai.parseTickRow f.1 with | some e => [(e.1 : Int), (e.2.length : Int)] | none => []) = done at f3 hfl2
    refine x_gtup (s3 _ _ hr1) rfl ?_
    tm_at "x"
    refine ⟨r, row, rfl, r3, hrl, fun H4 s4 => ?_⟩
    tm_at "x"
    refine x_iteB (fun k => ?_) fun k => ?_
    · obtain ⟨e, he⟩ := Option.isSome_iff_exists.mp k
      rw [he]
      cases row with
      | nil => cases he
      | cons t0 r0 =>
        change (if t0 < 1 then none else (Vbwsai.parseChanges r0).map fun l => (t0.toNat, l)) = some e at he
        split at he
        · cases he
        rename_i ht0
        obtain ⟨cs, h1, h2⟩ := Option.map_eq_some_iff.mp he
        have hl := parse_len _ _ h1
        subst h2
        tm_at "x"
        refine x_tyL (s4 _ _ f3) ?_
        tm_at "x"
        refine x_ixL (v := .int t0) (s4 _ _ r3) (atI_of (j := 0) rfl rfl) ?_
        tm_at "x"
        refine x_lenL (s4 _ _ r3) ?_
        rw [iv_len]
        tm_at "x"
        refine x_fdivN 3 (by decide) ?_
        tm_at "x"
        have ed : (t0 :: r0).length / 3 = cs.length := by rw [List.length_cons]; omega
        rw [ed]
        refine ⟨sz (by simp), fun y hy => ?_⟩
        have s5 := Same.new hy (o := .lst [.int t0, .int (cs.length : Int)])
        have f5 := s5 _ _ (s4 _ _ f3)
        tm_at "x"
        refine x_extend (zs := iv [t0, (cs.length : Int)]) f5 upd_same (sz (by rw [iv_len, iv_len]; simp; omega)) ?_
        rw [iv_cat]
        tm_at "x"
        have et : ((t0.toNat : Nat) : Int) = t0 := Int.toNat_of_nonneg (by omega)
        refine ⟨_, _, rfl, (s13.trans (s4.trans s5)).mut hf, ?_, ?_, ?_⟩
        · rw [upd_ne fd]
          exact s5 _ _ (s4 _ _ d3)
        · refine pair_mem (Frs.same s5 (Frs.same s4 n3)) fun x y mx e => ?_
          obtain ⟨r', z0, z1, z2⟩ := e
          have xf : x ≠ f := ne_of z1 f5 (by simp)
          have rf' : r' ≠ f := fun z => by
            rw [z, upd_same] at z0
            cases z0
          exact ⟨r', z0, by rw [upd_ne xf]; exact z1, by rw [upd_ne rf']; exact z2⟩
        · rw [upd_same]
          show some (HO.lst (iv (done ++ [t0, (cs.length : Int)]))) = some (.lst (iv (done ++ [((t0.toNat : Nat) : Int), (cs.length : Int)])))
          rw [et]
    · have he : Vbwsai.parseTickRow row = none := by
        cases e : Vbwsai.parseTickRow row with
        | none => rfl
        | some z => rw [e] at k; cases k
      rw [he]
      tm_at "x"
      refine ⟨_, _, rfl, s13.trans s4, s4 _ _ d3, Frs.same s4 n3, ?_⟩
      rw [s4 _ _ f3]
      simp
  · rintro σ H2 ⟨v1, v2, rfl, s2, d2, n2, f2⟩
    rw [List.length_map, al, List.take_length] at f2
    tm_at "x"
    exact q _ F f (Fr2.of s2) (hm.same s2) f2
theorem pure_counted_frames (vs : List V) (H : Hp) (Q : VK) (E : XK) (h : sp_counted_frames K vs H Q E) : t_counted_frames K { nx := fun _ H' => Q .non H', rt := Q } (start ["data", "frames"] vs) H := by
  obtain ⟨a, b, rfl, ha, hl, hb, q⟩ := h
  unfold mCount at q
  unfold t_counted_frames
  tm_at "x"
  refine ⟨a, b, rfl, ha, hl, hb, fun H1 d as s1 hd0 d1 n1 => ?_⟩
  have al : as.length = (framesOf b).length := n1.length
  generalize framesOf b = fs at n1 q al
  tm_at "x"
  refine ⟨sz (by simp), fun p2 hp2 => ?_⟩
  have s2 := Same.new hp2 (o := .lst [])
  refine x_eqFrs (s2 _ _ d1) (Frs.same s2 n1) upd_same ?_
  tm_at "x"
  refine x_ite (fun c => ?_) fun c => ?_
  · subst c
    tm_at "x"
    refine ⟨sz (by simp), fun o ho => ?_⟩
    exact q _ o ((s1.trans s2).more ho) upd_same
  · tm_at "x"
    refine x_lenL (s2 _ _ d1) ?_
    rw [List.length_map, al]
    tm_at "x"
    obtain ⟨z, hz⟩ : ∃ z, fs.getLast? = some z := ⟨fs.getLast c, List.getLast?_eq_some_getLast c⟩
    rw [hz] at q
    have hz2 : fs[fs.length - 1]? = some z := by rw [← List.getLast?_eq_getElem?]; exact hz
    obtain ⟨p, hp, r, _, hr1, hr2⟩ := pair_at' n1 hz2
    have hlast : (as.map V.ref).getLast? = some (.ref p) := by
      rw [List.getLast?_eq_getElem?, List.length_map, al, List.getElem?_map, hp]
      rfl
    refine x_ixL (s2 _ _ d1) (atI_neg hlast) ?_
    tm_at "x"
    refine x_ixT (s2 _ _ hr1) (atI_of (j := 1) rfl rfl) ?_
    tm_at "x"
    refine ⟨sz (by simp), fun o ho => ?_⟩
    exact q _ o ((s1.trans s2).more ho) upd_same
theorem pure_checksum_told (vs : List V) (H : Hp) (Q : VK) (E : XK) (h : sp_checksum_told K vs H Q E) : t_checksum_told K { nx := fun _ H' => Q .non H', rt := Q } (start ["data"] vs) H := by
  obtain ⟨a, b, rfl, ha, hl, q⟩ := h
  unfold t_checksum_told
  tm_at "x"
  refine ⟨a, b, rfl, ha, hl, fun H1 s1 => ?_⟩
  tm_at "x"
  refine ⟨sz (by simp), fun o ho => ?_⟩
  exact q _ o (s1.more ho) upd_same
theorem pure_frame_told (vs : List V) (H : Hp) (Q : VK) (E : XK) (h : sp_frame_told K vs H Q E) : t_frame_told K E { nx := fun _ H' => Q .non H', rt := Q } (start ["row"] vs) H := by
  obtain ⟨a, l, rfl, ha, hf, hl, q1, q2⟩ := h
  unfold t_frame_told
  tm_at "x"
  refine x_lenL ha ?_
  rw [iv_len]
  tm_at "x"
  refine ⟨_, _, rfl, fun c => ?_, fun c => ?_⟩
  · have c' : l.length ≤ 40 := by have := of_decide_eq_true c; omega
    tm_at "x"
    exact ⟨a, l, rfl, ha, hf, by omega, q2 c'⟩
  · exact q1 (by have := of_decide_eq_false c; omega)
end
end Ts
/-! ## TsP10 -/
namespace Ts
open PySem PySem.Spec PyProof.Rows L2
/-- the steps that leave no choice -/
local macro_rules | `(tactic| tm_at "x") => `(tactic| repeat (first | (with_reducible refine x_var ?_; refine ⟨_, rfl, ?_⟩) | with_reducible refine x_seq ?_ | with_reducible refine x_asg ?_ | with_reducible refine x_gname ?_ | with_reducible refine x_op ?_ | with_reducible refine x_c ?_ | with_reducible refine x_I0 ?_ | with_reducible refine x_if ?_ | with_reducible refine x_test ?_ | with_reducible refine x_bl ?_ | with_reducible refine x_blV ?_ | with_reducible refine x_ret ?_ | with_reducible refine x_retN ?_ | with_reducible refine x_drop ?_ | with_reducible refine x_cons ?_ | with_reducible refine x_nil ?_ | with_reducible refine x_call ?_ | with_reducible refine x_cb ?_ | with_reducible refine x_tB ?_ | with_reducible refine x_not ?_ | with_reducible refine x_and ?_ | with_reducible refine x_or ?_ | with_reducible refine x_andV ?_ | with_reducible refine x_orV ?_ | with_reducible refine x_notV ?_ | with_reducible refine x_chain ?_ | with_reducible refine x_un ?_ | with_reducible refine x_U ?_ | with_reducible refine x_mulL (by decide) ?_ | with_reducible refine x_mulR (by decide) ?_ | with_reducible refine x_isN ?_ | with_reducible refine x_notN ?_ | with_reducible refine x_sl ?_ | with_reducible refine x_noPart ?_ | with_reducible refine x_part ?_ | with_reducible refine x_int ?_ | with_reducible refine x_bm ?_ | with_reducible refine x_ipI ?_ | with_reducible refine x_next ?_ | with_reducible refine x_refN ?_ | with_reducible refine x_intN ?_ | with_reducible refine x_nonN ?_ | with_reducible refine x_refNN ?_ | with_reducible refine x_nonNN ?_ | with_reducible refine x_yes ?_ | with_reducible refine x_no ?_ | with_reducible refine x_gcons ?_ | with_reducible refine x_gnil ?_ | with_reducible refine x_lst ?_ | with_reducible refine x_tup ?_ | with_reducible refine x_dnewK ?_ | with_reducible refine x_for ?_ | with_reducible refine x_iList ?_ | with_reducible refine x_iTup ?_ | with_reducible refine x_iEnum ?_ | with_reducible refine x_iZip ?_ | with_reducible refine x_iRng3 ?_ | with_reducible refine x_lc ?_ | with_reducible refine x_dput ?_ | with_reducible refine x_dget ?_ | with_reducible refine x_din ?_ | with_reducible refine x_dpop ?_ | with_reducible refine x_fld ?_ | with_reducible refine x_sfld ?_ | with_reducible refine x_meth ?_ | with_reducible refine x_gsub ?_ | with_reducible refine x_raiseO ?_ | ((with_reducible refine x_self (by assumption) ?_ ?_); exact fun _ _ _ _ => rfl) | with_reducible refine x_gPower (by assumption) (by assumption) ?_ | with_reducible refine x_gDur (by assumption) (by assumption) ?_ | with_reducible refine x_gLast (by assumption) (by assumption) ?_ | with_reducible refine x_gSide (by assumption) (by assumption) ?_ | with_reducible refine x_gCommit (by assumption) (by assumption) ?_ | with_reducible refine x_gWrit (by assumption) (by assumption) ?_ | with_reducible refine x_gFiles (by assumption) (by assumption) ?_ | (with_reducible refine x_aug ?_; refine ⟨_, rfl, ?_⟩)))
theorem commit_side {b : List Nat} {x : Nat × Nat} (h : Vbwsai.readCommit b = some x) : x.2 ≤ 1 := by
  unfold Vbwsai.readCommit at h
  split at h
  · split at h
    · cases h
    · have := Option.some.inj h
      rw [← this]
      show Int.toNat _ ≤ 1
      omega
  · cases h
theorem commits_side {m : Mem} : ∀ x ∈ mCommits m, x.2 ≤ 1 := by
  intro x hx
  unfold mCommits at hx
  cases e4 : Vbwsai.readCommit (m.file 4) <;> cases e5 : Vbwsai.readCommit (m.file 5) <;> rw [e4, e5] at hx
  · cases hx
  · rename_i y
    have : x = y := by simpa using hx
    rw [this]
    exact commit_side e5
  · rename_i y
    have : x = y := by simpa using hx
    rw [this]
    exact commit_side e4
  · rename_i y z
    change x ∈ (if y.1 < z.1 then [z, y] else [y, z]) at hx
    have h2 : x = y ∨ x = z := by
      split at hx
      · have : x = z ∨ x = y := by simpa using hx
        exact this.symm
      · simpa using hx
    rcases h2 with h | h
    · rw [h]; exact commit_side e4
    · rw [h]; exact commit_side e5
theorem replay_mem : ∀ (fs : List (List Int × Nat)) (t sz : Nat), (replayM t sz fs).1.length ≤ fs.length ∧ ∀ l ∈ (replayM t sz fs).1, (Vbwsai.parseTickRow l).isSome = true ∧ ∃ e, (l, e) ∈ fs
  | [], t, sz => ⟨Nat.le_refl _, fun l h => by cases h⟩
  | (x, e) :: r, t, sz => by
    have ih := replay_mem r (t + 1) e
    have unf : replayM t sz ((x, e) :: r) = if (Vbwsai.parseTickRow x).isSome = true ∧ x.head? = some ((t : Int) + 1) then (x :: (replayM (t + 1) e r).1, (replayM (t + 1) e r).2) else ([], sz) := rfl
    rw [unf]
    split
    · rename_i c
      refine ⟨by simp [ih.1], fun l hl => ?_⟩
      rcases List.mem_cons.mp hl with z | z
      · rw [z]
        exact ⟨c.1, e, List.mem_cons_self⟩
      · obtain ⟨h1, e2, h2⟩ := ih.2 l z
        exact ⟨h1, e2, List.mem_cons_of_mem _ h2⟩
    · exact ⟨by simp, fun l h => by cases h⟩
theorem tick_tail {l : List Int} (h : (Vbwsai.parseTickRow l).isSome = true) : ∃ cs, Vbwsai.parseChanges l.tail = some cs := by
  rw [tick_isSome] at h
  simp only [Bool.and_eq_true] at h
  exact Option.isSome_iff_exists.mp h.2.2
section
variable {K : PySem.W.Frag} {mg : Str → Option Value}
theorem x_revL {te : TE} {σ : L2.St} {H : Hp} {Q : VK} (h : te σ H fun x H1 => ∃ a xs, x = .ref a ∧ SqL K H1 a xs ∧ ∀ p, H1 p = none → Q (.ref p) (upd H1 p (.lst xs.reverse))) : tRevL K te σ H Q := h
theorem Res.same {a F : Addr} {H H' : Hp} {Q : VK} {E : XK} {o : Out} (s : Same H H') (h : Res K a F H Q E o) : Res K a F H' Q E o := by
  cases o with
  | error e => exact Rf.same s h
  | ok x => exact fun H2 F' q f hm e => h H2 F' q ((Fr2.of s).trans f) hm e
theorem x_fileS {a F : Addr} {H0 H : Hp} {m : Mem} {Q : VK} (hm : MemAt K H0 a F m) (s : Same H0 H) {i : Int} {j : Nat} (e : i = (j : Int)) (hj : j < 6) (h : ∀ q, H0 q = some (.lst (nv (m.file j))) → Q (.ref q) H) : rIxL K (.ref F) (.int i) H Q := by
  obtain ⟨fs, h1, h2⟩ := hm.fil
  have hl : j < m.files.length := by rw [hm.six]; exact hj
  obtain ⟨q, q1, q2⟩ := pair_at' h2 (List.getElem?_eq_getElem hl)
  refine x_ixL (s _ _ h1) (atI_of (j := j) e (v := .ref q) (by rw [List.getElem?_map, q1]; rfl)) (h q ?_)
  have ef : m.file j = m.files[j] := by
    unfold Mem.file
    rw [List.getD_eq_getElem?_getD, List.getElem?_eq_getElem hl]
    rfl
  rw [ef]
  exact q2
theorem pure_Store_commits (T : Tx K mg) (vs : List V) (H : Hp) (Q : VK) (E : XK) (h : sp_Store_commits K vs H Q E) : t_Store_commits K { nx := fun _ H' => Q .non H', rt := Q } (start ["self", "found", "data", "record"] vs) H := by
  obtain ⟨a, F, m, rfl, hm, hb, q⟩ := h
  unfold t_Store_commits
  tm_at "x"
  refine ⟨sz (by simp), fun f hf => ?_⟩
  have s0 := Same.new hf (o := .lst [])
  have hm0 := hm.same s0
  tm_at "x"
  refine x_fileS (j := 4) hm s0 rfl (by decide) fun q4 hq4 => ?_
  tm_at "x"
  refine x_fileS (j := 5) hm s0 rfl (by decide) fun q5 hq5 => ?_
  tm_at "x"
  refine ⟨sz (by simp), fun tp htp => ?_⟩
  have s1 := Same.new htp (o := .tup [.ref q4, .ref q5])
  have hft : f ≠ tp := ne_of_none upd_same htp
  refine x_srcT upd_same ?_
  refine x_loop src_tup (fun i σ H' => ∃ v2 v3 as, σ = [some (.ref a), some (.ref f), v2, v3] ∧ Same H H' ∧ H' tp = some (.tup [.ref q4, .ref q5]) ∧ H' f = some (.lst (as.map V.ref)) ∧ as.length ≤ i ∧
      Paired (fun p (x : Nat × Nat) => H' p = some (.tup [.int (x.1 : Int), .int (x.2 : Int)])) as ((List.range i).filterMap fun j => Vbwsai.readCommit (m.file (4 + j)))) ?_ (fun i σ H' h => by obtain ⟨_, _, _, _, _, e, _⟩ := h; exact e) ?_ ?_
  · exact ⟨none, none, [], rfl, s0.trans s1, upd_same, s1 _ _ upd_same, Nat.le_refl _, .nil⟩
  · rintro i x σ H2 H3 hi ⟨v2, v3, as, rfl, s2, t2, f2, l2, n2⟩ s3 hx
    have hi2 : i < 2 := hi
    have s23 := s2.trans s3
    have f3 := s3 _ _ f2
    have t3 := s3 _ _ t2
    have n3 : Paired (fun p (x : Nat × Nat) => H3 p = some (.tup [.int (x.1 : Int), .int (x.2 : Int)])) as ((List.range i).filterMap fun j => Vbwsai.readCommit (m.file (4 + j))) := pair_mem n2 fun _ _ _ e => s3 _ _ e
    obtain ⟨qi, rfl, hqi⟩ : ∃ qi, x = .ref qi ∧ H3 qi = some (.lst (nv (m.file (4 + i)))) := by
      match i, hi2, hx with
      | 0, _, hx => exact ⟨q4, (Option.some.inj hx).symm, s23 _ _ hq4⟩
      | 1, _, hx => exact ⟨q5, (Option.some.inj hx).symm, s23 _ _ hq5⟩
    have estep : (List.range (i + 1)).filterMap (fun j => Vbwsai.readCommit (m.file (4 + j))) = (List.range i).filterMap (fun j => Vbwsai.readCommit (m.file (4 + j))) ++ (match Vbwsai.readCommit (m.file (4 + i)) with | some x => [x] | none => []) := by
      rw [List.range_succ, List.filterMap_append]
      congr 1
      cases e : Vbwsai.readCommit (m.file (4 + i)) <;> simp [e]
    tm_at "x"
    refine ⟨qi, _, rfl, hqi, file_len hb _, file_byt hb _, ?_⟩
    cases e : Vbwsai.readCommit (m.file (4 + i)) with
    | none =>
      rw [e] at estep
      intro H4 s4
      tm_at "x"
      exact ⟨_, _, as, rfl, s23.trans s4, s4 _ _ t3, s4 _ _ f3, by omega, by rw [estep, List.append_nil]; exact pair_mem n3 fun _ _ _ e => s4 _ _ e⟩
    | some y =>
      rw [e] at estep
      intro H4 p s4 hp
      have f4 := s4 _ _ f3
      tm_at "x"
      refine x_tyL f4 ?_
      tm_at "x"
      refine x_append f4 (szl (by simp; omega)) ?_
      tm_at "x"
      have kt : ∀ {z l}, H4 z = some (.tup l) → upd H4 f (.lst (as.map V.ref ++ [.ref p])) z = some (.tup l) := fun {z l} hz => by
        rw [upd_ne (ne_of hz f4 (by simp))]
        exact hz
      refine ⟨_, _, as ++ [p], rfl, (s23.trans s4).mut hf, kt (s4 _ _ t3), by rw [upd_same]; simp, by simp; omega, ?_⟩
      rw [estep]
      exact (pair_mem n3 fun _ _ _ e => kt (s4 _ _ e)).snoc (kt hp)
  · rintro σ H2 ⟨v2, v3, as, rfl, s2, t2, f2, l2, n2⟩
    have ef : (List.range 2).filterMap (fun j => Vbwsai.readCommit (m.file (4 + j))) = (match Vbwsai.readCommit (m.file 4) with | some x => [x] | none => []) ++ (match Vbwsai.readCommit (m.file 5) with | some x => [x] | none => []) := by
      show List.filterMap _ [0, 1] = _
      cases e4 : Vbwsai.readCommit (m.file 4) <;> cases e5 : Vbwsai.readCommit (m.file 5) <;> simp [e4, e5]
    change Paired _ as ((List.range 2).filterMap _) at n2
    rw [ef] at n2
    have al := n2.length
    unfold mCommits at q
    tm_at "x"
    refine x_lenL f2 ?_
    rw [List.length_map]
    tm_at "x"
    cases e4 : Vbwsai.readCommit (m.file 4) with
    | none =>
      cases e5 : Vbwsai.readCommit (m.file 5) with
      | none =>
        rw [e4, e5] at n2 al q
        have al2 : as.length = 0 := al
        rw [al2]
        refine x_ite (fun c => absurd c (by decide)) fun c => ?_
        tm_at "x"
        exact q _ f as s2 f2 n2
      | some y =>
        rw [e4, e5] at n2 al q
        have al2 : as.length = 1 := al
        rw [al2]
        refine x_ite (fun c => absurd c (by decide)) fun c => ?_
        tm_at "x"
        exact q _ f as s2 f2 n2
    | some z =>
      cases e5 : Vbwsai.readCommit (m.file 5) with
      | none =>
        rw [e4, e5] at n2 al q
        have al2 : as.length = 1 := al
        rw [al2]
        refine x_ite (fun c => absurd c (by decide)) fun c => ?_
        tm_at "x"
        exact q _ f as s2 f2 n2
      | some y =>
        rw [e4, e5] at n2 al q
        have al2 : as.length = 2 := al
        obtain ⟨az, ay, rfl⟩ : ∃ x y, as = [x, y] := by
          match as, al2 with
          | [x, y], _ => exact ⟨x, y, rfl⟩
        have hz : H2 az = some (.tup [.int (z.1 : Int), .int (z.2 : Int)]) := by
          obtain ⟨w, h1, h2⟩ := pair_at n2 (i := 0) (a := az) rfl
          rw [Option.some.inj h1]
          exact h2
        have hy : H2 ay = some (.tup [.int (y.1 : Int), .int (y.2 : Int)]) := by
          obtain ⟨w, h1, h2⟩ := pair_at n2 (i := 1) (a := ay) rfl
          rw [Option.some.inj h1]
          exact h2
        change ∀ (H' : Hp) (q : Addr) (as : List Addr), Same H H' → H' q = some (.lst (as.map V.ref)) → Paired _ as (if z.1 < y.1 then [y, z] else [z, y]) → _ at q
        refine x_ite (fun c => ?_) fun c => absurd rfl c
        tm_at "x"
        refine x_ixL f2 (atI_of (j := 1) rfl rfl) ?_
        tm_at "x"
        refine x_ixT hy (atI_of (j := 0) rfl rfl) ?_
        tm_at "x"
        refine x_ixL f2 (atI_of (j := 0) rfl rfl) ?_
        tm_at "x"
        refine x_ixT hz (atI_of (j := 0) rfl rfl) ?_
        tm_at "x"
        refine x_ite (fun c2 => ?_) fun c2 => ?_
        · rw [if_pos (by omega)] at q
          tm_at "x"
          refine x_revL ?_
          tm_at "x"
          refine ⟨f, _, rfl, .of f2, fun r hr => ?_⟩
          have s3 := Same.new hr (o := .lst [.ref ay, .ref az])
          exact q _ r [ay, az] (s2.trans s3) upd_same (.cons (s3 _ _ hy) (.cons (s3 _ _ hz) .nil))
        · rw [if_neg (by omega)] at q
          tm_at "x"
          exact q _ f _ s2 f2 n2
theorem pure_Store_recovered (T : Tx K mg) (vs : List V) (H : Hp) (Q : VK) (E : XK) (h : sp_Store_recovered K vs H Q E) : t_Store_recovered K { nx := fun _ H' => Q .non H', rt := Q } (start ["self", "commit", "side", "checkpoint", "number", "entries", "rows", "size", "row", "dropped"] vs) H := by
  obtain ⟨a, F, p, e, m, c, side, t, s, kvs, rfl, hm, hb, hsd, hp, he, hr, hs, q⟩ := h
  have hfb := file_byt hb (2 + side)
  have hfl := file_len hb (2 + side)
  have hlm : most = 1000000 := rfl
  have hfr := framesOf_len hfb
  have hmem : ∀ x ∈ framesOf (m.file (2 + side)), x.1.length ≤ most := fun x hx => Nat.le_trans (framesOf_fit hfb hx).2.1 hfl
  obtain ⟨rl, rmem⟩ := replay_mem (framesOf (m.file (2 + side))) t 0
  unfold mRecovered at q
  unfold t_Store_recovered
  tm_at "x"
  refine x_gtup hp rfl ?_
  tm_at "x"
  refine x_file (j := 2 + side) hm (by push_cast; rfl) (by omega) fun p1 hp1 => ?_
  tm_at "x"
  refine ⟨p1, _, t, rfl, hp1, hfl, hfb, fun H1 pp r as s1 hr0 hpp hr1 hrows => ?_⟩
  have hrm : ∀ l ∈ (replayM t 0 (framesOf (m.file (2 + side)))).1, l.length ≤ most ∧ ∃ cs, Vbwsai.parseChanges l.tail = some cs := fun l hl => by
    obtain ⟨h1, e, h2⟩ := rmem l hl
    exact ⟨hmem _ h2, tick_tail h1⟩
  generalize replayM t 0 (framesOf (m.file (2 + side))) = rp at q rl hpp hrows hrm
  obtain ⟨rows, size⟩ := rp
  have al : as.length = rows.length := hrows.length
  have rl' : rows.length ≤ 1000000 := by
    have : rows.length ≤ (framesOf (m.file (2 + side))).length := rl
    omega
  refine x_gtup hpp rfl ?_
  tm_at "x"
  refine x_srcL hr1 ?_
  have ents : ∀ l : List (List Int), (∀ x ∈ l, x ∈ rows) → Ent (l.foldl (fun s l => Vbwsai.applyChanges s ((Vbwsai.parseChanges l.tail).getD [])) s) := by
    intro l
    generalize s = s0 at hs
    clear q hr
    induction l generalizing s0 with
    | nil => intro _; exact hs
    | cons x l ih =>
      intro hl
      obtain ⟨_, cs, hcs⟩ := hrm x (hl x List.mem_cons_self)
      rw [List.foldl_cons, hcs]
      exact ih _ (ent_apply hs hcs) fun y hy => hl y (List.mem_cons_of_mem _ hy)
  refine x_loop src_list (fun i σ H' => ∃ e2 v8 v9 kvs2, σ = [some (.ref a), some (.int (c : Int)), some (.int (side : Int)), some (.ref p), some (.int (t : Int)), some (.ref e2), some (.ref r), some (.int (size : Int)), v8, v9] ∧ Same H1 H' ∧ H' r = some (.lst (as.map V.ref)) ∧ Lls H' as rows ∧
      H' e2 = some (.dK kvs2) ∧ DRel kvs2 ((rows.take i).foldl (fun s l => Vbwsai.applyChanges s ((Vbwsai.parseChanges l.tail).getD [])) s)) ?_ (fun i σ H' h => by obtain ⟨_, _, _, _, _, _, e, _⟩ := h; exact e) ?_ ?_
  · exact ⟨e, none, none, kvs, rfl, Same.refl _, hr1, hrows, s1 _ _ he, hr⟩
  · rintro i x σ H2 H3 hi ⟨e2, v8, v9, kvs2, rfl, s2, r2, n2, he2, hr2⟩ s3 hx
    obtain ⟨b, hb2, rfl⟩ := ref_at hx
    obtain ⟨l, hl1, hl2⟩ := pair_at n2 hb2
    obtain ⟨hll, cs, hcs⟩ := hrm l (List.mem_of_getElem? hl1)
    have hl3 := s3 _ _ hl2
    tm_at "x"
    refine x_slL hl3 fun p4 hp4 => ?_
    rw [show (1 : Int) = ((1 : Nat) : Int) from rfl, cutV_from, show (iv l).drop 1 = iv l.tail from by cases l <;> rfl]
    have s4 := Same.new hp4 (o := .lst (iv l.tail))
    tm_at "x"
    refine ⟨e2, p4, kvs2, _, l.tail, cs, rfl, s4 _ _ (s3 _ _ he2), hr2, ents _ (fun y hy => List.mem_of_mem_take hy), upd_same, by rw [List.length_tail]; omega, hcs, fun H5 e5 kvs5 s5 he5 hr5 => ?_⟩
    tm_at "x"
    have s35 := s4.trans s5
    refine ⟨e5, _, _, kvs5, rfl, (s2.trans s3).trans s35, s35 _ _ (s3 _ _ r2), Lls.same s35 (Lls.same s3 n2), he5, ?_⟩
    rw [List.take_add_one, hl1]
    simp only [Option.toList_some, List.foldl_append, List.foldl_cons, List.foldl_nil, hcs, Option.getD_some]
    exact hr5
  · rintro σ H2 ⟨e2, v8, v9, kvs2, rfl, s2, r2, n2, he2, hr2⟩
    rw [List.length_map, al, List.take_length] at hr2
    have s02 := s1.trans s2
    have hm2 := hm.same s02
    tm_at "x"
    refine x_file (j := 2 + side) hm2 (by push_cast; rfl) (by omega) fun p3 hp3 => ?_
    tm_at "x"
    refine x_lenL hp3 ?_
    rw [nv_len]
    tm_at "x"
    refine x_file (j := 2 + side) hm2 (by push_cast; rfl) (by omega) fun p4 hp4 => ?_
    tm_at "x"
    refine x_slL hp4 fun p5 hp5 => ?_
    rw [cutV_to, show (nv (m.file (2 + side))).take size = nv ((m.file (2 + side)).take size) from by simp [nv, List.map_take]]
    have s5 := Same.new hp5 (o := .lst (nv ((m.file (2 + side)).take size)))
    have hm5 := hm2.same s5
    have he5 := s5 _ _ he2
    have r5 := s5 _ _ r2
    tm_at "x"
    refine x_setF (j := 2 + side) hm5 (by push_cast; rfl) (by omega) upd_same fun H6 f6 hm6 => ?_
    have he6 := f6 _ _ he5 (hm5.nfD he5)
    have rf : r ≠ F := by
      intro z
      obtain ⟨fs, g1, g2⟩ := hm.fil
      rw [z, g1] at hr0
      cases hr0
    have r6 := f6 _ _ r5 rf
    tm_at "x"
    refine x_sPower T hm6 fun H7 f7 hm7 => ?_
    have he7 := f7 _ _ he6 (hm6.naD he6)
    have r7 := f7 _ _ r6 (hm6.naL r6)
    tm_at "x"
    refine x_lenL r7 ?_
    rw [List.length_map, al]
    tm_at "x"
    refine x_sLast T hm7 (t + rows.length) (by push_cast; rfl) fun H8 f8 hm8 => ?_
    have he8 := f8 _ _ he7 (hm7.naD he7)
    have r8 := f8 _ _ r7 (hm7.naL r7)
    tm_at "x"
    refine x_sEnt T hm8 _ he8 hr2 fun H9 f9 hm9 => ?_
    have r9 := f9 _ _ r8 (hm8.naL r8)
    tm_at "x"
    refine x_sSide T hm9 side rfl fun H10 f10 hm10 => ?_
    have r10 := f10 _ _ r9 (hm9.naL r9)
    tm_at "x"
    refine x_sCommit T hm10 c rfl fun H11 f11 hm11 => ?_
    have r11 := f11 _ _ r10 (hm10.naL r10)
    tm_at "x"
    refine ⟨a, F, _, rfl, hm11, fun H12 f12 hm12 => ?_⟩
    have r12 := f12 _ _ r11 (hm11.naL r11)
    tm_at "x"
    refine x_sDur T hm12 (t + rows.length) rfl fun H13 f13 hm13 => ?_
    have r13 := f13 _ _ r12 (hm12.naL r12)
    tm_at "x"
    refine x_lenL r13 ?_
    rw [List.length_map, al]
    tm_at "x"
    refine ⟨sz (by simp), fun o ho => ?_⟩
    exact q _ F o ((Fr2.of s02).trans ((Fr2.of s5).trans (f6.file.trans (f7.objt.trans (f8.objt.trans (f9.objt.trans (f10.objt.trans (f11.objt.trans (f12.objt.trans (f13.objt.trans (Fr2.new ho))))))))))) (hm13.new ho) upd_same
end
end Ts
/-! ## TsP11 -/
namespace Ts
open PySem PySem.Spec PyProof.Rows L2
/-- the steps that leave no choice -/
local macro_rules | `(tactic| tm_at "x") => `(tactic| repeat (first | (with_reducible refine x_var ?_; refine ⟨_, rfl, ?_⟩) | with_reducible refine x_seq ?_ | with_reducible refine x_asg ?_ | with_reducible refine x_gname ?_ | with_reducible refine x_op ?_ | with_reducible refine x_c ?_ | with_reducible refine x_I0 ?_ | with_reducible refine x_if ?_ | with_reducible refine x_test ?_ | with_reducible refine x_bl ?_ | with_reducible refine x_blV ?_ | with_reducible refine x_ret ?_ | with_reducible refine x_retN ?_ | with_reducible refine x_drop ?_ | with_reducible refine x_cons ?_ | with_reducible refine x_nil ?_ | with_reducible refine x_call ?_ | with_reducible refine x_cb ?_ | with_reducible refine x_tB ?_ | with_reducible refine x_not ?_ | with_reducible refine x_and ?_ | with_reducible refine x_or ?_ | with_reducible refine x_andV ?_ | with_reducible refine x_orV ?_ | with_reducible refine x_notV ?_ | with_reducible refine x_chain ?_ | with_reducible refine x_un ?_ | with_reducible refine x_U ?_ | with_reducible refine x_mulL (by decide) ?_ | with_reducible refine x_mulR (by decide) ?_ | with_reducible refine x_isN ?_ | with_reducible refine x_notN ?_ | with_reducible refine x_sl ?_ | with_reducible refine x_noPart ?_ | with_reducible refine x_part ?_ | with_reducible refine x_int ?_ | with_reducible refine x_bm ?_ | with_reducible refine x_ipI ?_ | with_reducible refine x_next ?_ | with_reducible refine x_refN ?_ | with_reducible refine x_intN ?_ | with_reducible refine x_nonN ?_ | with_reducible refine x_refNN ?_ | with_reducible refine x_nonNN ?_ | with_reducible refine x_yes ?_ | with_reducible refine x_no ?_ | with_reducible refine x_gcons ?_ | with_reducible refine x_gnil ?_ | with_reducible refine x_lst ?_ | with_reducible refine x_tup ?_ | with_reducible refine x_dnewK ?_ | with_reducible refine x_for ?_ | with_reducible refine x_iList ?_ | with_reducible refine x_iTup ?_ | with_reducible refine x_iEnum ?_ | with_reducible refine x_iZip ?_ | with_reducible refine x_iRng3 ?_ | with_reducible refine x_lc ?_ | with_reducible refine x_dput ?_ | with_reducible refine x_dget ?_ | with_reducible refine x_din ?_ | with_reducible refine x_dpop ?_ | with_reducible refine x_fld ?_ | with_reducible refine x_sfld ?_ | with_reducible refine x_meth ?_ | with_reducible refine x_gsub ?_ | with_reducible refine x_raiseO ?_ | ((with_reducible refine x_self (by assumption) ?_ ?_); exact fun _ _ _ _ => rfl) | with_reducible refine x_gPower (by assumption) (by assumption) ?_ | with_reducible refine x_gDur (by assumption) (by assumption) ?_ | with_reducible refine x_gLast (by assumption) (by assumption) ?_ | with_reducible refine x_gSide (by assumption) (by assumption) ?_ | with_reducible refine x_gCommit (by assumption) (by assumption) ?_ | with_reducible refine x_gWrit (by assumption) (by assumption) ?_ | with_reducible refine x_gFiles (by assumption) (by assumption) ?_ | (with_reducible refine x_aug ?_; refine ⟨_, rfl, ?_⟩)))
theorem readCp_ent {b : List Nat} {t : Nat} {s : Vbwsai.Store} (h : Vbwsai.readCheckpoint b = some (t, s)) : Ent s := by
  rw [readCheckpoint_eq] at h
  obtain ⟨l, _, h2⟩ := Option.bind_eq_some_iff.mp h
  exact (checkpoint_of h2).2.1
theorem toB_iv {row : List Int} (h : ∀ x ∈ row, 0 ≤ x ∧ x < 256) : iv row = nv (toB row) := by
  rw [nv_iv]
  congr 1
  unfold toB
  rw [List.map_map]
  have : ∀ x ∈ row, x = ((fun (n : Nat) => (n : Int)) ∘ Int.toNat) x := fun x hx => (Int.toNat_of_nonneg (h x hx).1).symm
  exact (List.map_id row).symm.trans (List.map_congr_left this)
theorem toB_byt {row : List Int} (h : ∀ x ∈ row, 0 ≤ x ∧ x < 256) : ∀ x ∈ toB row, x < 256 := by
  intro x hx
  obtain ⟨y, hy, rfl⟩ := List.mem_map.mp hx
  have := h y hy
  omega
theorem toB_len (row : List Int) : (toB row).length = row.length := by simp [toB]
section
variable {K : PySem.W.Frag} {mg : Str → Option Value}
theorem pure_Store_recover (T : Tx K mg) (vs : List V) (H : Hp) (Q : VK) (E : XK) (h : sp_Store_recover K vs H Q E) : t_Store_recover K E { nx := fun _ H' => Q .non H', rt := Q } (start ["self", "number", "side", "checkpoint"] vs) H := by
  obtain ⟨a, F, m, rfl, hm, hb, q⟩ := h
  unfold mRecover at q
  unfold t_Store_recover
  tm_at "x"
  refine ⟨_, _, rfl, fun c0 => ?_, fun c0 => ?_⟩
  rotate_left
  · rw [if_pos (by simpa using c0)] at q
    exact q
  have c0' : m.power = false := by simpa using c0
  rw [if_neg (by rw [c0']; decide)] at q
  tm_at "x"
  refine ⟨a, F, m, rfl, hm, hb, fun H1 d as s1 d1 n1 => ?_⟩
  have al : as.length = (mCommits m).length := n1.length
  have hside := commits_side (m := m)
  generalize mCommits m = cs at n1 q al hside
  refine x_srcL d1 ?_
  refine x_loop src_list (fun i σ H' => ∃ v1 v2 v3, σ = [some (.ref a), v1, v2, v3] ∧ Same H H' ∧ H' d = some (.lst (as.map V.ref)) ∧ Paired (fun p (x : Nat × Nat) => H' p = some (.tup [.int (x.1 : Int), .int (x.2 : Int)])) as cs ∧
    mTry m cs = mTry m (cs.drop i)) ?_ (fun i σ H' h => by obtain ⟨_, _, _, _, _, e, _⟩ := h; exact e) ?_ ?_
  · exact ⟨none, none, none, rfl, s1, d1, n1, by rw [List.drop_zero]⟩
  · rintro i x σ H2 H3 hi ⟨v1, v2, v3, rfl, s2, d2, n2, k2⟩ s3 hx
    obtain ⟨p, hp, rfl⟩ := ref_at hx
    obtain ⟨y, hy, hy2⟩ := pair_at n2 hp
    rw [List.length_map] at hi
    have hi2 : i < cs.length := by omega
    have ey : cs[i] = y := by
      rw [List.getElem?_eq_getElem hi2] at hy
      exact Option.some.inj hy
    rw [List.drop_eq_getElem_cons hi2, ey] at k2
    have hsd := hside y (List.mem_of_getElem? hy)
    obtain ⟨c, sd⟩ := y
    have unf : mTry m ((c, sd) :: cs.drop (i + 1)) = match Vbwsai.readCheckpoint (m.file sd) with | some (t, s) => .ok (mRecovered m c sd t s) | none => mTry m (cs.drop (i + 1)) := rfl
    rw [unf] at k2
    have s23 := s2.trans s3
    have hm3 := hm.same s23
    refine x_gtup (s3 _ _ hy2) rfl ?_
    tm_at "x"
    refine x_file (j := sd) hm3 rfl (by change sd ≤ 1 at hsd; omega) fun p4 hp4 => ?_
    tm_at "x"
    refine ⟨p4, _, rfl, hp4, file_len hb _, file_byt hb _, ?_⟩
    cases e : Vbwsai.readCheckpoint (m.file sd) with
    | none =>
      rw [e] at k2
      intro H4 s4
      tm_at "x"
      exact ⟨_, _, _, rfl, s23.trans s4, s4 _ _ (s3 _ _ d2), pair_mem n2 fun _ _ _ z => s4 _ _ (s3 _ _ z), k2⟩
    | some z =>
      obtain ⟨t, s⟩ := z
      rw [e] at k2
      change mTry m cs = .ok (mRecovered m c sd t s) at k2
      rw [k2] at q
      intro H4 p e4 kvs s4 hp4 he4 hr4
      tm_at "x"
      have s34 := s23.trans s4
      have hm4 := hm.same s34
      tm_at "x"
      exact ⟨a, F, p, e4, m, c, sd, t, s, kvs, rfl, hm4, hb, hsd, hp4, he4, hr4, readCp_ent e, Res.same s34 q⟩
  · rintro σ H2 ⟨v1, v2, v3, rfl, s2, d2, n2, k2⟩
    rw [List.length_map, al, List.drop_length] at k2
    have k3 : mTry m cs = .error (-6) := k2
    rw [k3] at q
    tm_at "x"
    exact x_made (q.same s2)
theorem pure_of_writing (T : Tx K mg) (vs : List V) (H : Hp) (Q : VK) (E : XK) (h : sp_of_writing K vs H Q E) : t_of_writing K E { nx := fun _ H' => Q .non H', rt := Q } (start ["store", "call", "n", "row"] vs) H := by
  obtain ⟨a, F, qn, qr, m, c, n, row, rfl, hm, hb, hn, hr, ok, hc, q⟩ := h
  obtain ⟨o1, o2, o3, o4, o5, o6, o7, o8, o9⟩ := ok
  unfold wOf at q
  unfold t_of_writing
  tm_at "x"
  refine x_ite (fun k => ?_) fun k => ?_
  · rw [if_pos k] at q
    tm_at "x"
    exact ⟨a, F, m, rfl, hm, hb, q⟩
  rw [if_neg k] at q
  tm_at "x"
  refine x_ite (fun k1 => ?_) fun k1 => ?_
  · rw [if_pos k1] at q
    obtain ⟨x, rfl⟩ := List.length_eq_one_iff.mp (o3 (by omega))
    tm_at "x"
    refine x_ixL (v := .int x) hn (atI_of (j := 0) rfl rfl) ?_
    tm_at "x"
    exact ⟨a, F, qr, m, x, row, rfl, hm, hb, hr, o7, q⟩
  rw [if_neg k1] at q
  tm_at "x"
  refine x_ite (fun k2 => ?_) fun k2 => ?_
  · rw [if_pos k2] at q
    tm_at "x"
    exact ⟨a, F, m, rfl, hm, hb, q⟩
  rw [if_neg k2] at q
  tm_at "x"
  refine x_ite (fun k3 => ?_) fun k3 => ?_
  · rw [if_pos k3] at q
    obtain ⟨x, rfl⟩ := List.length_eq_one_iff.mp (o3 (by omega))
    tm_at "x"
    refine x_ixL (v := .int x) hn (atI_of (j := 0) rfl rfl) ?_
    tm_at "x"
    exact ⟨a, F, m, x, rfl, hm, hb, q⟩
  rw [if_neg k3] at q
  tm_at "x"
  refine x_ite (fun k4 => ?_) fun k4 => ?_
  · rw [if_pos k4] at q
    obtain ⟨x, rfl⟩ := List.length_eq_one_iff.mp (o3 (by omega))
    tm_at "x"
    refine x_ixL (v := .int x) hn (atI_of (j := 0) rfl rfl) ?_
    tm_at "x"
    exact ⟨a, F, m, x, rfl, hm, hb, q⟩
  rw [if_neg k4] at q
  tm_at "x"
  refine x_ite (fun k5 => ?_) fun k5 => ?_
  · rw [if_pos k5] at q
    tm_at "x"
    exact ⟨a, F, m, rfl, hm, hb, q⟩
  rw [if_neg k5] at q
  tm_at "x"
  exact ⟨a, F, m, rfl, hm, hb, q⟩
theorem pure_of_store (T : Tx K mg) (vs : List V) (H : Hp) (Q : VK) (E : XK) (h : sp_of_store K vs H Q E) : t_of_store K E { nx := fun _ H' => Q .non H', rt := Q } (start ["store", "call", "n", "row"] vs) H := by
  obtain ⟨a, F, qn, qr, m, c, n, row, rfl, hm, hb, hn, hr, ok, hc, q⟩ := h
  obtain ⟨o1, o2, o3, o4, o5, o6, o7, o8, o9⟩ := ok
  unfold sOf at q
  unfold t_of_store
  tm_at "x"
  refine x_ite (fun k => ?_) fun k => ?_
  · rw [if_pos k] at q
    obtain ⟨x, rfl⟩ := List.length_eq_one_iff.mp (o3 (by omega))
    tm_at "x"
    refine x_ixL (v := .int x) hn (atI_of (j := 0) rfl rfl) ?_
    tm_at "x"
    exact ⟨a, F, m, x, rfl, hm, hb, q⟩
  rw [if_neg k] at q
  tm_at "x"
  refine x_ite (fun k1 => ?_) fun k1 => ?_
  · rw [if_pos k1] at q
    tm_at "x"
    exact ⟨a, F, m, rfl, hm, hb, q⟩
  rw [if_neg k1] at q
  tm_at "x"
  refine x_ite (fun k2 => ?_) fun k2 => ?_
  · rw [if_pos k2] at q
    obtain ⟨x, rfl⟩ := List.length_eq_one_iff.mp (o3 (by omega))
    tm_at "x"
    refine x_ixL (v := .int x) hn (atI_of (j := 0) rfl rfl) ?_
    tm_at "x"
    exact ⟨a, F, m, x, rfl, hm, hb, q⟩
  rw [if_neg k2] at q
  tm_at "x"
  refine x_ite (fun k3 => ?_) fun k3 => ?_
  · rw [if_pos k3] at q
    obtain ⟨x, y, z, rfl⟩ : ∃ x y z, n = [x, y, z] := by
      match n, o4 k3 with
      | [x, y, z], _ => exact ⟨x, y, z, rfl⟩
    tm_at "x"
    refine x_ixL (v := .int x) hn (atI_of (j := 0) rfl rfl) ?_
    tm_at "x"
    refine x_ixL (v := .int y) hn (atI_of (j := 1) rfl rfl) ?_
    tm_at "x"
    refine x_ixL (v := .int z) hn (atI_of (j := 2) rfl rfl) ?_
    tm_at "x"
    exact ⟨a, F, m, x, y, z, rfl, hm, hb, q⟩
  rw [if_neg k3] at q
  tm_at "x"
  refine x_ite (fun k4 => ?_) fun k4 => ?_
  · rw [if_pos k4] at q
    tm_at "x"
    refine ⟨a, F, qr, m, toB row, rfl, hm, hb, ?_, by rw [toB_len]; omega, q⟩
    rw [hr, toB_iv (o9 (.inl k4))]
  rw [if_neg k4] at q
  tm_at "x"
  refine x_ite (fun k5 => ?_) fun k5 => ?_
  · rw [if_pos k5] at q
    tm_at "x"
    exact ⟨a, F, m, rfl, hm, hb, q⟩
  rw [if_neg k5] at q
  tm_at "x"
  exact ⟨a, F, m, rfl, hm, hb, q⟩
theorem pure_of_lists (vs : List V) (H : Hp) (Q : VK) (E : XK) (h : sp_of_lists K vs H Q E) : t_of_lists K E { nx := fun _ H' => Q .non H', rt := Q } (start ["call", "row"] vs) H := by
  obtain ⟨qr, c, n, row, rfl, hr, ok, hc, q⟩ := h
  obtain ⟨o1, o2, o3, o4, o5, o6, o7, o8, o9⟩ := ok
  have hlm : most = 1000000 := rfl
  have hl := toB_len row
  unfold lOf at q
  unfold t_of_lists
  tm_at "x"
  refine x_ite (fun k => ?_) fun k => ?_
  · rw [if_pos k] at q
    tm_at "x"
    refine ⟨qr, toB row, rfl, ?_, by omega, toB_byt (o9 (by omega)), fun H1 p s1 e1 => q H1 p s1 e1⟩
    rw [hr, toB_iv (o9 (by omega))]
  rw [if_neg k] at q
  tm_at "x"
  refine x_ite (fun k1 => ?_) fun k1 => ?_
  · rw [if_pos k1] at q
    tm_at "x"
    refine ⟨qr, toB row, rfl, ?_, by omega, fun H1 p s1 e1 => q H1 p s1 e1⟩
    rw [hr, toB_iv (o9 (by omega))]
  rw [if_neg k1] at q
  tm_at "x"
  refine x_ite (fun k2 => ?_) fun k2 => ?_
  · rw [if_pos k2] at q
    tm_at "x"
    refine ⟨qr, row, rfl, hr, fun x hx => ?_, by omega, fun z => ?_, fun z => ?_⟩
    · have := o6 x hx
      have hv : Vbwsai.maxValue = 1000000000000000000 := rfl
      exact fit_of (by omega) (by omega)
    · rw [if_neg z] at q
      exact q
    · rw [if_pos z] at q
      intro H1 p s1 _ e1
      exact q H1 p s1 (by rw [e1, nv_iv])
  rw [if_neg k2] at q
  tm_at "x"
  refine ⟨qr, toB row, rfl, ?_, by omega, fun H1 p s1 e1 => q H1 p s1 e1⟩
  rw [hr, toB_iv (o9 (by omega))]
theorem pure_called (T : Tx K mg) (vs : List V) (H : Hp) (Q : VK) (E : XK) (h : sp_called K vs H Q E) : t_called K E { nx := fun _ H' => Q .non H', rt := Q } (start ["store", "call", "n", "row"] vs) H := by
  obtain ⟨a, F, qn, qr, m, c, n, row, rfl, hm, hb, hn, hr, ok, hc, q⟩ := h
  unfold cOf at q
  unfold t_called
  tm_at "x"
  refine x_ite (fun k => ?_) fun k => ?_
  · rw [if_pos k] at q
    tm_at "x"
    exact ⟨a, F, qn, qr, m, c, n, row, rfl, hm, hb, hn, hr, ok, k, q⟩
  rw [if_neg k] at q
  tm_at "x"
  refine ⟨sz (by simp), fun t ht => ?_⟩
  have s1 := Same.new ht (o := .tup [.int 13, .int 15, .int 16, .int 17])
  refine ⟨t, _, rfl, .inr (.of upd_same), rfl, rfl, ?_⟩
  have e : (if false = true then !inV (.int c) [.int 13, .int 15, .int 16, .int 17] else inV (.int c) [.int 13, .int 15, .int 16, .int 17]) = decide (c = 13 ∨ c = 15 ∨ c = 16 ∨ c = 17) := by
    show ((13 == c) || ((15 == c) || ((16 == c) || ((17 == c) || false)))) = _
    rw [Bool.eq_iff_iff]
    simp
    omega
  rw [e]
  tm_at "x"
  refine x_ite (fun k2 => ?_) fun k2 => ?_
  · rw [if_pos k2] at q
    tm_at "x"
    refine ⟨qr, c, n, row, rfl, s1 _ _ hr, ok, k2, ?_⟩
    cases e2 : lOf c row with
    | error z =>
      rw [e2] at q
      exact Rf.same s1 q
    | ok out =>
      rw [e2] at q
      intro H2 o s2 e3
      exact q H2 F o (Fr2.of (s1.trans s2)) (hm.same (s1.trans s2)) e3
  · rw [if_neg k2] at q
    tm_at "x"
    exact ⟨a, F, qn, qr, m, c, n, row, rfl, hm.same s1, hb, s1 _ _ hn, s1 _ _ hr, ok, ⟨k, k2⟩, Res.same s1 q⟩
end
end Ts
/-! ## TsJ -/
namespace Ts
open PySem PySem.Spec PyProof.Rows L2
/-- the steps that leave no choice -/
local macro_rules | `(tactic| tm_at "x") => `(tactic| repeat (first | (with_reducible refine x_var ?_; refine ⟨_, rfl, ?_⟩) | with_reducible refine x_seq ?_ | with_reducible refine x_asg ?_ | with_reducible refine x_gname ?_ | with_reducible refine x_op ?_ | with_reducible refine x_c ?_ | with_reducible refine x_I0 ?_ | with_reducible refine x_if ?_ | with_reducible refine x_test ?_ | with_reducible refine x_bl ?_ | with_reducible refine x_blV ?_ | with_reducible refine x_ret ?_ | with_reducible refine x_retN ?_ | with_reducible refine x_drop ?_ | with_reducible refine x_cons ?_ | with_reducible refine x_nil ?_ | with_reducible refine x_call ?_ | with_reducible refine x_cb ?_ | with_reducible refine x_tB ?_ | with_reducible refine x_not ?_ | with_reducible refine x_and ?_ | with_reducible refine x_or ?_ | with_reducible refine x_andV ?_ | with_reducible refine x_orV ?_ | with_reducible refine x_notV ?_ | with_reducible refine x_chain ?_ | with_reducible refine x_un ?_ | with_reducible refine x_U ?_ | with_reducible refine x_mulL (by decide) ?_ | with_reducible refine x_mulR (by decide) ?_ | with_reducible refine x_isN ?_ | with_reducible refine x_notN ?_ | with_reducible refine x_sl ?_ | with_reducible refine x_noPart ?_ | with_reducible refine x_part ?_ | with_reducible refine x_int ?_ | with_reducible refine x_bm ?_ | with_reducible refine x_ipI ?_ | with_reducible refine x_next ?_ | with_reducible refine x_refN ?_ | with_reducible refine x_intN ?_ | with_reducible refine x_nonN ?_ | with_reducible refine x_refNN ?_ | with_reducible refine x_nonNN ?_ | with_reducible refine x_yes ?_ | with_reducible refine x_no ?_ | with_reducible refine x_gcons ?_ | with_reducible refine x_gnil ?_ | with_reducible refine x_lst ?_ | with_reducible refine x_tup ?_ | with_reducible refine x_dnewK ?_ | with_reducible refine x_for ?_ | with_reducible refine x_iList ?_ | with_reducible refine x_iTup ?_ | with_reducible refine x_iEnum ?_ | with_reducible refine x_iZip ?_ | with_reducible refine x_iRng3 ?_ | with_reducible refine x_lc ?_ | with_reducible refine x_dput ?_ | with_reducible refine x_dget ?_ | with_reducible refine x_din ?_ | with_reducible refine x_dpop ?_ | with_reducible refine x_fld ?_ | with_reducible refine x_sfld ?_ | with_reducible refine x_meth ?_ | with_reducible refine x_gsub ?_ | with_reducible refine x_raiseO ?_ | ((with_reducible refine x_self (by assumption) ?_ ?_); exact fun _ _ _ _ => rfl) | with_reducible refine x_gPower (by assumption) (by assumption) ?_ | with_reducible refine x_gDur (by assumption) (by assumption) ?_ | with_reducible refine x_gLast (by assumption) (by assumption) ?_ | with_reducible refine x_gSide (by assumption) (by assumption) ?_ | with_reducible refine x_gCommit (by assumption) (by assumption) ?_ | with_reducible refine x_gWrit (by assumption) (by assumption) ?_ | with_reducible refine x_gFiles (by assumption) (by assumption) ?_ | (with_reducible refine x_aug ?_; refine ⟨_, rfl, ?_⟩)))
section
variable {X : Cx} {e1 : Expr} {er : List Expr} {tas : TA}
/-- an error of an own class with its own __init__, of whose context it is known that there is none -/
theorem made_none {CY : CXT} {nm : Str} {D J : Addr} {n : Nat} {fdat : FuncData} {prm : List Str} {spi : Sp} {q0 q1 : Pos} (own : OexC X.K D) (ini : PySem.W.findIn X.K (.ref D) "__init__" = some (some (.ref J)))
    (tyJ : PySem.W.typeIn X.K (.ref J) = some (.type "function")) (G : FnOk X.prog X.w X.K X.mg X.base CY n J fdat prm spi) (room : Room (n + 1) X.A) (bnd : Binds X.K fdat prm []) (still : Passes CY X (fun _ _ _ => False))
    (glob : Gl X nm) (held : X.mg nm = some (.ref D)) (args : PA X (e1 :: er) tas) (notD : (nm == ("__debug__" : Str)) = false := by decide)
    (star : starEach (e1 :: er) X.env = (false, eval e1 X.env) :: starEach er X.env := by rfl) (back : (backTo q1 (starEach er X.env)).any (·.1) = false := by rfl) :
    L2N.PMk X (.Call (.Name nm q0) (e1 :: er) [] q1) (tMkO D spi [] tas) := by
  intro pns st sl hp0 wish inv hyp
  have ⟨c1, c2, c3, c4, c5, c6, c7, c8, c9, c10, c11, c12, c13, c14, c15, inK, bases⟩ := own.cls
  refine wpAny_Call_Name_kw (ld_glob inv glob held ?_ notD)
  refine PySem.W.callWith_K (h₀ := X.base) inv.ok.mod.kin own.kC (thn (args.run q1 pns st sl hp0 _ inv hyp) fun vals st1 ⟨ws, hp1, inv1, rel1, short, cont⟩ => ⟨inv1.kIn, ?_⟩) star back
  show wpAny _ _ (call (.ref D) vals) _ _ _
  obtain ⟨hh, gens, drw, toks, oss⟩ := st1
  have up1 : hh.objs.size ≤ hh.objs.size + 1 := Nat.le_add_right _ 1
  have cont2 := cont _ (inv1.hok.fresh up1)
  rw [List.append_nil] at cont2
  have stay : ∀ b o, hh.get? b = some o → ((hh.push (PySem.W.kdv_tup vals)).push (PySem.HandSPX.excO D hh.objs.size)).get? b = some o := by
    intro b o there
    exact Heap.get?_push_of_some _ (Heap.get?_push_of_some _ there)
  have newO : ((hh.push (PySem.W.kdv_tup vals)).push (PySem.HandSPX.excO D hh.objs.size)).get? (hh.objs.size + 1) = some (PySem.HandSPX.excO D hh.objs.size) := by heap_get
  have inv2 := inv1.laid (t' := toks) (a := hh.objs.size + 1) (o := exo (hh.objs.size + 1) D none) (h' := (hh.push (PySem.W.kdv_tup vals)).push (PySem.HandSPX.excO D hh.objs.size)) stay up1 (exo_ok newO)
  have rel2 : Vals (V.ref (hh.objs.size + 1) :: ws) (Value.ref (hh.objs.size + 1) :: vals) := .cons rfl rel1
  have rel3 : Vals (V.ref (hh.objs.size + 1) :: ws) (Value.ref (hh.objs.size + 1) :: vals ++ []) := by
    rw [List.append_nil]
    exact rel2
  have many : (Value.ref (hh.objs.size + 1) :: vals ++ []).length = prm.length := (Paired.length rel3).symm.trans (G.len _ _ _ _ cont2)
  have few : vals.length ≤ sizeLine := sz (by rw [← Paired.length rel1]; omega)
  have ran := G.run _ X.stack _ _ ⟨Value.ref (hh.objs.size + 1) :: vals, []⟩ (Value.ref (hh.objs.size + 1) :: vals ++ []) _ _ (fun _ _ _ => False) (room.make D vals []) (inv2.env0.make D vals []) (bnd _ (Value.ref (hh.objs.size + 1) :: vals) inv2.kIn many) rel3 cont2
  refine wpAny_call (PySem.HandSPX.call_own F.excBase_ValueError (fun _ => PySem.HandSPX.refsVE_contains _ c5 bases) (inv1.kIn _ _ inK) (PySem.W.looks_findIn inv1.kIn ini) (fun slf => PySem.W.bind_fn inv1.kIn slf tyJ) few (codeAny_mono ran fun out st2 after => ?_))
  match out, after with
  | .error x, after => exact still pns sl _ _ x st2 inv2 after
  | .ok .next, after => exact after.elim
  | .ok .brk, after => exact after.elim
  | .ok .cont, after => exact after.elim
  | .ok (.ret u), after =>
    obtain ⟨v, hp2, sameOs, bare, un, ok2, rv, isNone, d, fs, objA, objD, freeD, last⟩ := after
    subst isNone
    obtain ⟨h2, g2, d2, t2, os2⟩ := st2
    obtain ⟨tp, gr, invF, keepF, goneF, recF, freeF⟩ := mk_end0 (d2 := d2) (t2 := t2) inv1 up1 stay un ok2 sameOs bare objA objD freeD
    exact ⟨rv, hh.objs.size + 1, _, _, ⟨gr, g2, d2, t2, os2⟩, _, .ref D, some d, rfl, invF, keepF, goneF, recF, ⟨rfl, rfl, fun fl z => by cases z; rfl⟩, rfl, rfl, freeF, rfl, bare, raises_own own.exC own.tyC, last⟩
end
section
variable {K : PySem.W.Frag} {mg : Str → Option Value}
theorem xf_of {x f : Str} (o : OwnX K x f) : XfC K (He.ga K x) := ⟨o.ga, o.gg, o.oex.exC, o.hd⟩
theorem takesN0 {X : Cx} : L2N.Takes X (fun _ _ _ _ => False) := fun _ _ x => by
  obtain ⟨_, _, _, _, _, _, _, _, _, _, _, _, _, _, _, _, z⟩ := x
  exact z.elim
abbrev W0 : WX := fun _ _ _ _ => False
def su_of (K : PySem.W.Frag) (C f : Str) (i : Nat) (pre : List TE) (g : TG) : Addr → Value → Option Addr → TS := fun a cls d => tAsg (tLst (pre.foldr tCons (tCons (tXf a cls d (He.ga K C) f (tVar i)) tNil))) g
def tb_answered (K : PySem.W.Frag) (W : WX) : TS := tAsg (tOp rCat (tLst (tCons (tC (.int 0)) tNil)) (tCallS (sp_called K) (WE W) (tCons (tVar 0) (tCons (tVar 1) (tCons (tVar 2) (tCons (tVar 3) tNil)))))) (gName 4)
def t_answered (K : PySem.W.Frag) : TS := tSeq (tAsg (tLst tNil) (gName 4)) (tSeq (fun D σ H => tb_answered K (wAs K (.ref (He.ga K "Refused")) 5 (su_of K "Refused" "error" 5 [] (gName 4)) W0 D) D σ H) (tRet (tVar 4)))
theorem mk_answered {P : Program} {w : World} {base : Heap} (T : Tx K mg) (G_called : FnOk P w K mg base (L2.CX P w) 10 (He.ga K "called") (fdA K (He.ga K "called")) ["store", "call", "n", "row"] (sp_called K))
    (len : ∀ vs H Q E, sp_answered0 K vs H Q E → vs.length = 4)
    (pure : ∀ vs H Q E, sp_answered0 K vs H Q E → t_answered K { nx := fun _ H' => Q .non H', rt := Q } (start ["store", "call", "n", "row", "found", "e"] vs) H) :
    FnOk P w K mg base CX0 11 (He.ga K "answered") (fdA K (He.ga K "answered")) ["store", "call", "n", "row"] (sp_answered0 K) :=
  T.f_answered.ok sc_answered len fun cdv A outer s H vs Q E hr h => ⟨t_answered K, (pss_cons (ps_set (i := 4) sc_answered.nd rfl (Or.inl rfl) (pe_lst pa_nil))
    (pss_cons (ps_try_as (i := 5) (tb := tb_answered K) (ts := su_of K "Refused" "error" 5 [] (gName 4)) (Wout := W0) rfl rfl sc_answered.nd rfl rfl ⟨rfl, by decide, Or.inl T.g_Refused⟩ takes0
      (fun W pn xe tk _ => pss_one (ps_set (i := 4) sc_answered.nd rfl (Or.inl rfl) (pe_op op_cat (pe_lst (pa_cons pe_int pa_nil)) (by exact (pe_callS G_called (hr.mono (by decide)) rfl T.g_called T.f_called.kp (bd_called T) (fun σ => passAt tk σ) (by exact (pa_cons (pv 0) (pa_cons (pv 1) (pa_cons (pv 2) (pa_cons (pv 3) pa_nil))))))))))
      (fun a oe cls d pn hz hf => pss_one (ps_set (i := 4) sc_answered.nd rfl (Or.inl rfl) (by exact (pe_lst (pa_cons (pe_xf (xf_of T.x_Refused) T.x_Refused.no hz hf (pv 5)) pa_nil))))))
    (pss_one (ps_ret (pv 4))))), pure vs H Q E h⟩
theorem mk_journal_inN {P : Program} {w : World} {base : Heap} (T : Tx K mg) (G_cut_at : FnOk P w K mg base CX0 1 (He.ga K "cut_at") (fdA K (He.ga K "cut_at")) ["data", "sign"] (sp_cut_at K)) (G_changes_in : FnOk P w K mg base CX0 6 (He.ga K "changes_in") (fdA K (He.ga K "changes_in")) ["line", "number"] (sp_changes_in K)) (G_changed : FnOk P w K mg base CX0 2 (He.ga K "changed") (fdA K (He.ga K "changed")) ["entries", "numbers"] (sp_changed K)) (G_BadLine___init__ : FnOk P w K mg base CX0 1 (He.ma K (He.ga K "BadLine") "__init__") (fdA K (He.ma K (He.ga K "BadLine") "__init__")) ["self", "line"] (sp_BadLine___init__ K))
    (len : ∀ vs H Q E, sp_journal_in K vs H Q E → vs.length = 1)
    (pure : ∀ vs H Q E, sp_journal_in K vs H Q E → t_journal_in K E { nx := fun _ H' => Q .non H', rt := Q } (start ["text", "lines", "entries", "at", "line", "changes"] vs) H) :
    FnOk P w K mg base (L2N.CX P w) 7 (He.ga K "journal_in") (fdA K (He.ga K "journal_in")) ["text"] (sp_journal_in K) :=
  T.f_journal_in.ok sc_journal_in len fun cdv A outer s H vs Q E hr h => ⟨t_journal_in K E, (pss_cons (ps_set (i := 1) sc_journal_in.nd rfl (Or.inl rfl) (pe_slice sl_list (pe_call G_cut_at (hr.mono (by decide)) (by rfl) T.g_cut_at T.f_cut_at.kp (bd_cut_at T) .nil pass0 (by exact (pa_cons (pv 0) (pa_cons (pe_glob (by rfl) T.c_LINE_END.choose_spec ⟨_, rfl⟩) pa_nil)))) po_none (po_some (pe_un un_neg pe_int))))
  (pss_cons (ps_set (i := 2) sc_journal_in.nd rfl (Or.inl rfl) pe_dnewK)
  (pss_cons (ps_for (passes_of rfl) rfl (pi_enum (by rfl) T.n_enumerate (by exact (pa_cons (pv 1) pa_nil))) (pg_tup rfl (pgs_cons (pg_name (i := 3) sc_journal_in.nd rfl (Or.inl rfl)) (pgs_cons (pg_name (i := 4) sc_journal_in.nd rfl (Or.inl rfl)) pgs_nil)))
  (pss_cons (ps_set (i := 5) sc_journal_in.nd rfl (Or.inl rfl) (pe_call G_changes_in (hr.mono (by decide)) (by rfl) T.g_changes_in T.f_changes_in.kp (bd_changes_in T) .nil pass0 (by exact (pa_cons (pv 4) (pa_cons (pe_op op_add (pv 3) pe_int) pa_nil)))))
  (pss_cons (ps_if (pt_cmpR op_isN (pv 5) pe_non (nomark _))
  (pss_one (L2N.ps_raise rfl (L2N.takes_of rfl rfl rfl rfl) (made_none T.x_BadLine.oex T.x_BadLine.init T.x_BadLine.fn G_BadLine___init__ (hr.mono (by decide)) (bd_BadLine___init__ T) passN (by rfl) T.g_BadLine (by exact (pa_cons (pe_op op_add (pv 3) pe_int) pa_nil)))))
  pss_nil)
  (pss_one (ps_set (i := 2) sc_journal_in.nd rfl (Or.inl rfl) (pe_call G_changed (hr.mono (by decide)) (by rfl) T.g_changed T.f_changed.kp (bd_changed T) .nil pass0 (by exact (pa_cons (pv 2) (pa_cons (pv 5) pa_nil)))))))))
  (pss_one (ps_ret (pe_tup (pa_cons (pe_callB call_len_seq (by rfl) T.n_len PySem.boot_len (by exact (pa_cons (pv 1) pa_nil))) (pa_cons (pv 2) pa_nil)))))))), pure vs H Q E h⟩
def tb_previewed (K : PySem.W.Frag) (W : WX) : TS := tSeq (tAsg (tCallS (sp_journal_in K) (WE W) (tCons (tVar 0) tNil)) (gTup K 2 (gCons (gName 2) (gCons (gName 3) gNil)))) (tAsg (tOp rCat (tLst (tCons (tC (.int 1)) (tCons (tVar 2) tNil))) (tCall (sp_flat K) [] E0 (tCons (tVar 3) tNil))) (gName 1))
def t_previewed (K : PySem.W.Frag) : TS := tSeq (tAsg (tLst tNil) (gName 1)) (tSeq (fun D σ H => tb_previewed K (wAs K (.ref (He.ga K "BadLine")) 4 (su_of K "BadLine" "line" 4 [tC (.int 0)] (gName 1)) W0 D) D σ H) (tRet (tVar 1)))
theorem mk_previewed {P : Program} {w : World} {base : Heap} (T : Tx K mg) (G_journal_in : FnOk P w K mg base (L2N.CX P w) 7 (He.ga K "journal_in") (fdA K (He.ga K "journal_in")) ["text"] (sp_journal_in K)) (G_flat : FnOk P w K mg base CX0 1 (He.ga K "flat") (fdA K (He.ga K "flat")) ["entries"] (sp_flat K))
    (len : ∀ vs H Q E, sp_previewed K vs H Q E → vs.length = 1)
    (pure : ∀ vs H Q E, sp_previewed K vs H Q E → t_previewed K { nx := fun _ H' => Q .non H', rt := Q } (start ["text", "found", "number", "entries", "e"] vs) H) :
    FnOk P w K mg base CX0 8 (He.ga K "previewed") (fdA K (He.ga K "previewed")) ["text"] (sp_previewed K) :=
  T.f_previewed.ok sc_previewed len fun cdv A outer s H vs Q E hr h => ⟨t_previewed K, (pss_cons (ps_set (i := 1) sc_previewed.nd rfl (Or.inl rfl) (pe_lst pa_nil))
    (pss_cons (L2N.ps_try_as (i := 4) (tb := tb_previewed K) (ts := su_of K "BadLine" "line" 4 [tC (.int 0)] (gName 1)) (Wout := W0) rfl rfl sc_previewed.nd rfl rfl ⟨rfl, by decide, Or.inl T.g_BadLine⟩ (takesN0)
      (fun W pn xe tk _ => pss_cons (ps_asg (by exact (pe_callS G_journal_in (hr.mono (by decide)) rfl T.g_journal_in T.f_journal_in.kp (bd_journal_in T) (fun σ => L2N.passAt tk σ) (by exact (pa_cons (pv 0) pa_nil)))) (pg_tup rfl (pgs_cons (pg_name (i := 2) sc_previewed.nd rfl (Or.inl rfl)) (pgs_cons (pg_name (i := 3) sc_previewed.nd rfl (Or.inl rfl)) pgs_nil))))
        (pss_one (ps_set (i := 1) sc_previewed.nd rfl (Or.inl rfl) (pe_op op_cat (pe_lst (pa_cons pe_int (pa_cons (pv 2) pa_nil))) (by exact (pe_call G_flat (hr.mono (by decide)) (by rfl) T.g_flat T.f_flat.kp (bd_flat T) .nil pass0 (by exact (pa_cons (pv 3) pa_nil))))))))
      (fun a oe cls d pn hz hf => pss_one (ps_set (i := 1) sc_previewed.nd rfl (Or.inl rfl) (by exact (pe_lst (pa_cons pe_int (pa_cons (pe_xf (xf_of T.x_BadLine) T.x_BadLine.no hz.zc hf (pv 4)) pa_nil)))))))
    (pss_one (ps_ret (pv 1))))), pure vs H Q E h⟩
theorem hot_Refused___init__ {P : Program} {w : World} {base : Heap} (T : Tx K mg) : L2H.FnH P w K mg base CX0 1 (He.ma K (He.ga K "Refused") "__init__") (fdA K (He.ma K (He.ga K "Refused") "__init__")) ["self", "error"] (sp_Refused___init__ K) := by
  obtain ⟨oc, od, dV, kV, doc, pm, an, cdv, ct, osl, e, lk, hcd, _, _⟩ := T.f_Refused___init__.ex
  change fdA K (He.ma K (He.ga K "Refused") "__init__") = _ at e
  change K.lookup (He.ma K (He.ga K "Refused") "__init__") = some ⟨oc, od, .func (fdA K (He.ma K (He.ga K "Refused") "__init__")), osl⟩ at lk
  rw [e] at lk ⊢
  exact L2H.fn_ofH lk hcd sc_Refused___init__ (fun vs H Q E h => by obtain ⟨a, e, rfl, _⟩ := h; rfl) fun A outer s H vs Q E p hot hr h => ⟨t_exc K "error" "refused", PSs.nox (pss_cons (ps_expr (pe_veinit (by rfl) T.n_ValueError T.ve (by exact (pa_cons (pv 0) (pa_cons pe_str pa_nil)))))
    (pss_one (ps_ost (pv 0) (pv 1)))), pure_exc "Refused" "error" _ ["self", "error"] rfl T.x_Refused vs H Q E h⟩
def tb_import (K : PySem.W.Frag) (W : WX) : TS := tAsg (tCallS (sp_journal_in K) (WE W) (tCons (tVar 1) tNil)) (gTup K 2 (gCons (gName 2) (gCons (gName 3) gNil)))
def ts_import (K : PySem.W.Frag) (E : XK) : Addr → Value → Option Addr → TS := fun _ _ _ => tRaiseO (He.ga K "Refused") (sp_Refused___init__ K) E (tCons (tC (.int (-2))) tNil)
def t_Store_import_journal (K : PySem.W.Frag) (E : XK) : TS := tSeq (tDrop (tMeth (He.ga K "Store") "want_power" (sp_Store_want_power K) [] E (tVar 0) tNil)) (tSeq (fun D σ H => tb_import K (wOnly K (.ref (He.ga K "BadLine")) (ts_import K E) (fun cls d _ H => E cls d H) D) D σ H)
  (tSeq (tDrop (tMeth (He.ga K "Store") "begin_anew" (sp_Store_begin_anew K) [] E0 (tVar 0) (tCons (tVar 2) (tCons (tVar 3) tNil)))) (tRet (tLst (tCons (tVar 2) (tCons (tCB (rLenD K) (tCons (tVar 3) tNil)) tNil))))))
theorem mk_Store_import_journal {P : Program} {w : World} {base : Heap} (T : Tx K mg) (G_Store_want_power : FnOk P w K mg base (L2.CX P w) 4 (He.ma K (He.ga K "Store") "want_power") (fdA K (He.ma K (He.ga K "Store") "want_power")) ["self"] (sp_Store_want_power K))
    (G_journal_in : FnOk P w K mg base (L2N.CX P w) 7 (He.ga K "journal_in") (fdA K (He.ga K "journal_in")) ["text"] (sp_journal_in K)) (G_Store_begin_anew : FnOk P w K mg base CX0 5 (He.ma K (He.ga K "Store") "begin_anew") (fdA K (He.ma K (He.ga K "Store") "begin_anew")) ["self", "number", "entries"] (sp_Store_begin_anew K))
    (len : ∀ vs H Q E, sp_Store_import_journal K vs H Q E → vs.length = 2)
    (pure : ∀ vs H Q E, sp_Store_import_journal K vs H Q E → t_Store_import_journal K E { nx := fun _ H' => Q .non H', rt := Q } (start ["self", "text", "number", "entries"] vs) H) :
    FnOk P w K mg base (L2.CX P w) 8 (He.ma K (He.ga K "Store") "import_journal") (fdA K (He.ma K (He.ga K "Store") "import_journal")) ["self", "text"] (sp_Store_import_journal K) :=
  T.f_Store_import_journal.ok sc_Store_import_journal len fun cdv A outer s H vs Q E hr h => ⟨t_Store_import_journal K E, (pss_cons (ps_expr (pe_meth0 (pv 0) T.cl T.m_want_power G_Store_want_power (hr.mono (by decide)) (bd_Store_want_power T) .nil (passes_call (takes_of rfl rfl rfl rfl) (fun _ _ _ _ h => h))))
    (pss_cons (L2H.ps_try_onlyX (tb := tb_import K) (ts := ts_import K E) (Wout := fun cls d _ H => E cls d H) rfl rfl ⟨rfl, by decide, Or.inl T.g_BadLine⟩ (fun hd => L2H.passesAt_of rfl hd) (takes_of rfl rfl rfl rfl)
      (fun W pn xe tk _ _ => pss_one (ps_asg (by exact (pe_callS G_journal_in (hr.mono (by decide)) rfl T.g_journal_in T.f_journal_in.kp (bd_journal_in T) (fun σ => L2N.passAt tk σ) (by exact (pa_cons (pv 1) pa_nil)))) (pg_tup rfl (pgs_cons (pg_name (i := 2) sc_Store_import_journal.nd rfl (Or.inl rfl)) (pgs_cons (pg_name (i := 3) sc_Store_import_journal.nd rfl (Or.inl rfl)) pgs_nil)))))
      (fun a oe cls d pn hz hf tk hot => pss_one (L2H.ps_raiseHN hot tk (L2H.pmk5_oexH T.x_Refused.oex T.x_Refused.init T.x_Refused.fn (hot_Refused___init__ T) (L2H.roomH_mark (hr.mono (by decide)) _) hot (bd_Refused___init__ T) passN (by rfl) T.g_Refused (by exact (pa_cons (pe_glob (by rfl) T.c_INVALID_TEXT.choose_spec ⟨_, rfl⟩) pa_nil))))))
    (pss_cons (ps_expr (pe_meth (pv 0) T.cl T.m_begin_anew G_Store_begin_anew (hr.mono (by decide)) (bd_Store_begin_anew T) .nil pass0 (by exact (pa_cons (pv 2) (pa_cons (pv 3) pa_nil)))))
    (pss_one (ps_ret (pe_lst (pa_cons (pv 2) (pa_cons (pe_callB call_lenD (by rfl) T.n_len PySem.boot_len (by exact (pa_cons (pv 3) pa_nil))) pa_nil)))))))), pure vs H Q E h⟩
/-- a list aside -/
theorem fn_fr {P : Program} {w : World} {base : Heap} {k : Nat} {f : Addr} {fdat : FuncData} {ps : List Str} {sp : Sp} (F : FnOk P w K mg base CX0 k f fdat ps sp) : FnOk P w K mg base CX0 k f fdat ps (sp_fr sp) := by
  refine ⟨fun vs H Q E h => ?_, fun A outer s H args us vs Q E hr e0 hb rv h => ?_⟩
  · obtain ⟨g, xs, _, h⟩ := h
    exact F.len _ _ _ _ h
  · obtain ⟨g, xs, hg, h⟩ := h
    have dn : ∀ {b}, H b = none → del H g b = none := fun {b} z => by
      by_cases c : b = g
      · rw [c]; exact del_same
      · rw [del_ne c]; exact z
    have ds : ∀ {b o}, H b = some o → (∀ xs, o ≠ .lst xs) → del H g b = some o := fun {b o} z n => by
      have c : b ≠ g := ne_of z hg (n xs)
      rw [del_ne c]
      exact z
    have e1 : Env0 P w K mg base A outer s (del H g) := by
      refine ⟨e0.frames, e0.mod, fun b o z => ⟨(e0.bs b o z).1, dn (e0.bs b o z).2⟩, e0.bsz, e0.funs, fun b z => dn (e0.frf b z), fun a o z => ?_, e0.bare⟩
      have c : a ≠ g := fun e => by
        rw [e, del_same] at z
        cases z
      rw [del_ne c] at z
      exact (e0.hok a o z).stay (fun b u _ q => q) (fun b q => ds q (fun _ => by simp)) fun b ys q => ds q (fun _ => by simp)
    obtain ⟨hz, its, n, vr, hat⟩ := e0.hok g _ hg
    have gfr : g ∉ frs outer := fun z => by
      have := e0.frf g z
      rw [hg] at this
      cases this
    refine codeAny_mono (F.run A outer s (del H g) args us vs _ _ hr e1 hb rv h) fun r s' hq => ?_
    match r, hq with
    | .error _, hq => exact hq.elim
    | .ok .next, hq => exact hq.elim
    | .ok .brk, hq => exact hq.elim
    | .ok .cont, hq => exact hq.elim
    | .ok (.ret u), hq =>
      obtain ⟨v, H', os, bare, un, ok, ru, q⟩ := hq
      have gone : H' g = none := un.free g _ hat del_same (by simp)
      have ng : ∀ {b o}, H' b = some o → b ≠ g := fun z => ne_of_none z gone
      refine ⟨v, upd H' g (.lst xs), os, bare, ?_, ?_, ru, q gone⟩
      · refine ⟨fun b o z1 z2 z3 z4 => un.keep b o z1 (dn z2) z3 z4, fun b o z1 z2 z3 z4 => un.slot b o z1 (dn z2) z3 z4, fun b o z1 z2 z3 => ?_, fun b o z1 z2 => un.there b o z1 z2, fun b ys z => ?_, fun b o y z => ?_, fun b ys z => ?_⟩
        · have c : b ≠ g := fun e => by
            rw [e, hg] at z2
            cases z2
          rw [upd_ne c]
          exact un.free b o z1 (dn z2) z3
        · have := un.tups b ys (ds z (fun _ => by simp))
          rw [upd_ne (ng this)]
          exact this
        · have := un.frzs b o y (ds z (fun _ => by simp))
          rw [upd_ne (ng this)]
          exact this
        · obtain ⟨more, this⟩ := un.tbls b ys (ds z (fun _ => by simp))
          exact ⟨more, by rw [upd_ne (ng this)]; exact this⟩
      · intro a o z
        by_cases c : a = g
        · subst c
          rw [upd_same] at z
          have := Option.some.inj z
          subst this
          exact ⟨hz, its, n, vr, un.keep a _ hat del_same gfr (by simp)⟩
        · rw [upd_ne c] at z
          exact (ok a o z).stay (fun b u _ q => q) (fun b q => by rw [upd_ne (ng q)]; exact q) fun b ys q => by rw [upd_ne (ng q)]; exact q
end
end Ts
/-! ## TsP12 -/
namespace Ts
open PySem PySem.Spec PyProof.Rows L2
section
variable {K : PySem.W.Frag} {σ : L2.St} {H : Hp} {Q : VK} {D : Ends}
theorem x_callS {sp : Sp} {E : L2.St → XK} {ts : TA} (h : ts σ H fun vs H1 => sp vs H1 Q (E σ)) : tCallS sp E ts σ H Q := h
theorem x_xf {a : Addr} {cls : Value} {d : Option Addr} {C : Addr} {f : Str} {te : TE} (h : te σ H fun x H1 => x = .ref a ∧ cls = .ref C ∧ ∃ (dd : Addr) (fs : List (Str × V)) (v : V), d = some dd ∧ H1 dd = some (.xd fs) ∧ fs.lookup f = some v ∧ Q v H1) : tXf a cls d C f te σ H Q := h
end
theorem lines_ent : ∀ (ls : List Vbwsai.Bytes) (t : Nat) (s : Vbwsai.Store) (t' : Nat) (s' : Vbwsai.Store), t + ls.length ≤ 1000000 → Ent s → Vbwsai.importLines t s ls = .ok (t', s') → Ent s' ∧ t' = t + ls.length
  | [], t, s, t', s', _, hs, h => by
    have e : (t, s) = (t', s') := by injection h
    cases e
    exact ⟨hs, rfl⟩
  | x :: r, t, s, t', s', hl, hs, h => by
    rw [List.length_cons] at hl
    rw [lines_cons] at h
    cases e : lineIn x (t + 1) with
    | none => rw [e] at h; cases h
    | some cs =>
      rw [e] at h
      obtain ⟨_, c2⟩ := lineIn_ok (show t + 1 ≤ 1000000 by omega) e
      obtain ⟨i1, i2⟩ := lines_ent r (t + 1) _ t' s' (by omega) (ent_apply hs c2) h
      exact ⟨i1, by rw [i2, List.length_cons]; omega⟩
theorem import_ok {b : Vbwsai.Bytes} {t : Nat} {s : Vbwsai.Store} (hl : b.length ≤ 10000) (h : Vbwsai.importText b = .ok (t, s)) : Ent s ∧ t ≤ 10001 := by
  unfold Vbwsai.importText at h
  have h1 := split_len 10 b []
  have h2 : (Vbwsai.splitAtByte 10 [] b).dropLast.length ≤ 10001 := by rw [List.length_dropLast]; omega
  obtain ⟨i1, i2⟩ := lines_ent _ 0 [] t s (by omega) ent_nil h
  exact ⟨i1, by omega⟩
/-- the steps that leave no choice -/
local macro_rules | `(tactic| tm_at "x") => `(tactic| repeat (first | (with_reducible refine x_var ?_; refine ⟨_, rfl, ?_⟩) | with_reducible refine x_seq ?_ | with_reducible refine x_asg ?_ | with_reducible refine x_gname ?_ | with_reducible refine x_op ?_ | with_reducible refine x_c ?_ | with_reducible refine x_I0 ?_ | with_reducible refine x_if ?_ | with_reducible refine x_test ?_ | with_reducible refine x_bl ?_ | with_reducible refine x_blV ?_ | with_reducible refine x_ret ?_ | with_reducible refine x_retN ?_ | with_reducible refine x_drop ?_ | with_reducible refine x_cons ?_ | with_reducible refine x_nil ?_ | with_reducible refine x_call ?_ | with_reducible refine x_cb ?_ | with_reducible refine x_tB ?_ | with_reducible refine x_not ?_ | with_reducible refine x_and ?_ | with_reducible refine x_or ?_ | with_reducible refine x_andV ?_ | with_reducible refine x_orV ?_ | with_reducible refine x_notV ?_ | with_reducible refine x_chain ?_ | with_reducible refine x_un ?_ | with_reducible refine x_U ?_ | with_reducible refine x_mulL (by decide) ?_ | with_reducible refine x_mulR (by decide) ?_ | with_reducible refine x_isN ?_ | with_reducible refine x_notN ?_ | with_reducible refine x_sl ?_ | with_reducible refine x_noPart ?_ | with_reducible refine x_part ?_ | with_reducible refine x_int ?_ | with_reducible refine x_bm ?_ | with_reducible refine x_ipI ?_ | with_reducible refine x_next ?_ | with_reducible refine x_refN ?_ | with_reducible refine x_intN ?_ | with_reducible refine x_nonN ?_ | with_reducible refine x_refNN ?_ | with_reducible refine x_nonNN ?_ | with_reducible refine x_yes ?_ | with_reducible refine x_no ?_ | with_reducible refine x_gcons ?_ | with_reducible refine x_gnil ?_ | with_reducible refine x_lst ?_ | with_reducible refine x_tup ?_ | with_reducible refine x_dnewK ?_ | with_reducible refine x_for ?_ | with_reducible refine x_iList ?_ | with_reducible refine x_iTup ?_ | with_reducible refine x_iEnum ?_ | with_reducible refine x_iZip ?_ | with_reducible refine x_iRng3 ?_ | with_reducible refine x_lc ?_ | with_reducible refine x_dput ?_ | with_reducible refine x_dget ?_ | with_reducible refine x_din ?_ | with_reducible refine x_dpop ?_ | with_reducible refine x_fld ?_ | with_reducible refine x_sfld ?_ | with_reducible refine x_meth ?_ | with_reducible refine x_gsub ?_ | with_reducible refine x_raiseO ?_ | ((with_reducible refine x_self (by assumption) ?_ ?_); exact fun _ _ _ _ => rfl) | with_reducible refine x_gPower (by assumption) (by assumption) ?_ | with_reducible refine x_gDur (by assumption) (by assumption) ?_ | with_reducible refine x_gLast (by assumption) (by assumption) ?_ | with_reducible refine x_gSide (by assumption) (by assumption) ?_ | with_reducible refine x_gCommit (by assumption) (by assumption) ?_ | with_reducible refine x_gWrit (by assumption) (by assumption) ?_ | with_reducible refine x_gFiles (by assumption) (by assumption) ?_ | (with_reducible refine x_aug ?_; refine ⟨_, rfl, ?_⟩)))
section
variable {K : PySem.W.Frag} {mg : Str → Option Value}
theorem pure_answered (T : Tx K mg) (vs : List V) (H : Hp) (Q : VK) (E : XK) (h : sp_answered0 K vs H Q E) : t_answered K { nx := fun _ H' => Q .non H', rt := Q } (start ["store", "call", "n", "row", "found", "e"] vs) H := by
  obtain ⟨a, F, qn, qr, m, c, n, row, rfl, hm, hb, hn, hr, ok, hl, q⟩ := h
  unfold t_answered
  tm_at "x"
  refine ⟨sz (by simp), fun f hf => ?_⟩
  have s1 := Same.new hf (o := .lst [])
  tm_at "x"
  show tb_answered K _ _ _ _
  unfold tb_answered
  tm_at "x"
  refine ⟨sz (by simp), fun p hp => ?_⟩
  have s2 := s1.more hp (o := .lst [.int 0])
  have hm2 := hm.same s2
  refine x_callS ?_
  tm_at "x"
  refine ⟨a, F, qn, qr, m, c, n, row, rfl, hm2, hb, s2 _ _ hn, s2 _ _ hr, ok, trivial, ?_⟩
  cases e : cOf m c n row with
  | error z =>
    rw [e] at q
    intro H3 d s3 hd
    refine ⟨true, T.x_Refused.te, fun _ a0 _ => ?_, fun w => Bool.noConfusion w⟩
    show su_of K "Refused" "error" 5 [] (gName 4) a0 _ _ _ _ _
    unfold su_of
    tm_at "x"
    refine x_xf ?_
    tm_at "x"
    refine ⟨rfl, rfl, d, _, _, rfl, hd, rfl, ?_⟩
    tm_at "x"
    refine ⟨sz (by simp), fun o ho => ?_⟩
    tm_at "x"
    exact q _ F o (Fr2.of ((s2.trans s3).more ho)) ((hm2.same s3).new ho) upd_same
  | ok x =>
    obtain ⟨m', out⟩ := x
    rw [e] at q
    intro H3 F3 q3 f3 hm3 e3
    have p3 : H3 p = some (.lst [.int 0]) := hm2.kI (l := [0]) f3 upd_same
    have hlo := hl m' out e
    refine x_cat p3 e3 (sz (by rw [iv_len]; simp; omega)) fun o ho => ?_
    rw [show [V.int 0] ++ iv out = iv (0 :: out) from rfl]
    tm_at "x"
    exact q _ F3 o ((Fr2.of s2).trans (f3.trans (Fr2.new ho))) (hm3.new ho) upd_same
theorem pure_previewed (T : Tx K mg) (vs : List V) (H : Hp) (Q : VK) (E : XK) (h : sp_previewed K vs H Q E) : t_previewed K { nx := fun _ H' => Q .non H', rt := Q } (start ["text", "found", "number", "entries", "e"] vs) H := by
  obtain ⟨a, b, rfl, ha, hl, q⟩ := h
  unfold mPreview at q
  unfold t_previewed
  tm_at "x"
  refine ⟨sz (by simp), fun f hf => ?_⟩
  have s1 := Same.new hf (o := .lst [])
  tm_at "x"
  show tb_previewed K _ _ _ _
  unfold tb_previewed
  tm_at "x"
  refine x_callS ?_
  tm_at "x"
  refine ⟨a, b, rfl, s1 _ _ ha, hl, ?_⟩
  cases e : Vbwsai.importText b with
  | error z =>
    rw [e] at q
    intro H3 d s3 hd
    refine ⟨true, T.x_BadLine.te, fun _ a0 _ => ?_, fun w => Bool.noConfusion w⟩
    show su_of K "BadLine" "line" 4 [tC (.int 0)] (gName 1) a0 _ _ _ _ _
    unfold su_of
    show tAsg (tLst (tCons (tC (.int 0)) (tCons _ tNil))) _ _ _ _
    tm_at "x"
    refine x_xf ?_
    tm_at "x"
    refine ⟨rfl, rfl, d, _, _, rfl, hd, rfl, ?_⟩
    tm_at "x"
    refine ⟨sz (by simp), fun o ho => ?_⟩
    tm_at "x"
    exact q _ o ((s1.trans s3).more ho) upd_same
  | ok x =>
    obtain ⟨t, s⟩ := x
    rw [e] at q
    intro H3 p e3 kvs s3 hp he hr
    obtain ⟨hs, _⟩ := import_ok hl e
    refine x_gtup hp rfl ?_
    tm_at "x"
    refine ⟨sz (by simp), fun p4 hp4 => ?_⟩
    have s4 := Same.new hp4 (o := .lst [.int 1, .int (t : Int)])
    tm_at "x"
    refine ⟨e3, kvs, s, rfl, s4 _ _ he, hr, hs, fun H5 p5 s5 hp5 e5 => ?_⟩
    have hsl := hs.len
    refine x_cat (s5 _ _ upd_same) e5 (sz (by rw [iv_len, flat_len]; simp; omega)) fun o ho => ?_
    tm_at "x"
    exact q _ o ((s1.trans (s3.trans (s4.trans s5))).more ho) upd_same
theorem pure_Store_import_journal (T : Tx K mg) (vs : List V) (H : Hp) (Q : VK) (E : XK) (h : sp_Store_import_journal K vs H Q E) : t_Store_import_journal K E { nx := fun _ H' => Q .non H', rt := Q } (start ["self", "text", "number", "entries"] vs) H := by
  obtain ⟨a, F, r, m, b, rfl, hm, hb, hr, hl, q⟩ := h
  unfold mImport at q
  unfold t_Store_import_journal
  tm_at "x"
  refine ⟨a, F, m, rfl, hm, fun c1 => ?_, fun c1 => ?_⟩
  rotate_left
  · rw [if_pos c1] at q
    exact q
  rw [if_neg (by rw [c1]; decide)] at q
  tm_at "x"
  show tb_import K _ _ _ _
  unfold tb_import
  tm_at "x"
  refine x_callS ?_
  tm_at "x"
  refine ⟨r, b, rfl, hr, hl, ?_⟩
  cases e : Vbwsai.importText b with
  | error z =>
    rw [e] at q
    intro H3 d s3 hd
    refine ⟨true, T.x_BadLine.te, fun _ a0 _ => ?_, fun w => Bool.noConfusion w⟩
    show ts_import K E a0 _ _ _ _ _
    unfold ts_import
    tm_at "x"
    exact x_made (Rf.same s3 q)
  | ok x =>
    obtain ⟨t, s⟩ := x
    rw [e] at q
    intro H3 p e3 kvs s3 hp he hre
    obtain ⟨hs, ht⟩ := import_ok hl e
    refine x_gtup hp rfl ?_
    have hm3 := hm.same s3
    obtain ⟨dx, e0, p0, kvs0, o1, o2, o3, o4⟩ := hm3.obj
    tm_at "x"
    refine ⟨a, e3, dx, F, e0, p0, m, t, s, kvs, rfl, o1, o4, he, hre, hs, fit_of (by omega) (by omega), fun H4 F4 f4 hm4 => ?_⟩
    have he4 := f4 _ _ he (hm3.naD he)
    tm_at "x"
    refine ⟨e3, kvs, rfl, .of he4, ?_⟩
    rw [hre.len]
    tm_at "x"
    refine ⟨sz (by simp), fun o ho => ?_⟩
    exact q _ F4 o ((Fr2.of s3).trans (f4.objt.trans (Fr2.new ho))) (hm4.new ho) upd_same
end
end Ts
/-! ## TsL1 -/
namespace Ts
open Vbwsai
/-- the object that a state of the specification is -/
def toM (s : State) : Mem := ⟨[checkpointFile s.disk 0, checkpointFile s.disk 1, journalFile s.disk 0, journalFile s.disk 1, commitFile s.disk 0, commitFile s.disk 1], s.powered, s.durableTick, s.tick, s.contents, s.side, s.commitNumber, s.checkpointing, s.pending⟩
structure Sz (s : State) : Prop where
  c : s.disk.checkpoints.length = 2
  j : s.disk.journals.length = 2
  k : s.disk.commits.length = 2
  side : s.side = 0 ∨ s.side = 1
theorem two_of {l : List Bytes} (h : l.length = 2) : ∃ a b, l = [a, b] := by
  match l, h with
  | [a, b], _ => exact ⟨a, b, rfl⟩
theorem Sz.mk' {s : State} (h : Sz s) : ∃ c0 c1 j0 j1 k0 k1 pw tk ct sd cn ck pd du, s = ⟨⟨[c0, c1], [j0, j1], [k0, k1]⟩, pw, tk, ct, sd, cn, ck, pd, du⟩ ∧ (sd = 0 ∨ sd = 1) := by
  obtain ⟨⟨c, j, k⟩, pw, tk, ct, sd, cn, ck, pd, du⟩ := s
  obtain ⟨c0, c1, e1⟩ := two_of h.c
  obtain ⟨j0, j1, e2⟩ := two_of h.j
  obtain ⟨k0, k1, e3⟩ := two_of h.k
  change c = _ at e1
  change j = _ at e2
  change k = _ at e3
  subst e1 e2 e3
  exact ⟨c0, c1, j0, j1, k0, k1, pw, tk, ct, sd, cn, ck, pd, du, rfl, h.side⟩
theorem inR (n lo hi : Int) : inRange n lo hi = (decide (lo ≤ n) && decide (n ≤ hi)) := by
  unfold inRange
  exact Bool.decide_and _ _
/-- the object's operation does what the specification's does -/
def Law (s : State) (o : Out) (c : Call) : Prop := told (toM s) o = (toM (step s c).1, (step s c).2) ∧ Sz (step s c).1
theorem law_fail {s : State} {o : Out} {c : Call} {k : Nat} (h : Sz s) (ho : o = .error (-(k : Int))) (hs : step s c = fail s k) : Law s o c := by
  unfold Law
  rw [ho, hs]
  exact ⟨rfl, h⟩
theorem law_reset (s : State) : Law s (.ok (anew 0 [], [])) .reset := ⟨rfl, rfl, rfl, rfl, .inl rfl⟩
theorem law_cut {s : State} (h : Sz s) : Law s (mCut (toM s)) .cutPower := by
  unfold mCut
  have e : step s .cutPower = if s.powered = false then fail s 7 else succeed (powerDown s s.disk) [] := rfl
  by_cases c : s.powered = false
  · rw [if_pos (show (toM s).power = false from c)]
    exact law_fail h rfl (by rw [e, if_pos c])
  · rw [if_neg (show ¬ (toM s).power = false from c)]
    unfold Law
    rw [e, if_neg c]
    exact ⟨rfl, h.c, h.j, h.k, .inl rfl⟩
theorem law_get {s : State} (h : Sz s) (k : Int) : Law s (mGet (toM s) k) (.get k) := by
  unfold mGet
  have e : step s (.get k) = if k < 0 then fail s 1 else if s.powered = false then fail s 7 else match lookupKey k.toNat s.contents with
    | none => fail s 4
    | some v => succeed s [v] := rfl
  by_cases c0 : k < 0
  · rw [if_pos c0]
    exact law_fail h rfl (by rw [e, if_pos c0])
  rw [if_neg c0]
  rw [if_neg c0] at e
  by_cases c : s.powered = false
  · rw [if_pos (show (toM s).power = false from c)]
    exact law_fail h rfl (by rw [e, if_pos c])
  · rw [if_neg (show ¬ (toM s).power = false from c)]
    rw [if_neg c] at e
    show Law s (match lookupKey k.toNat s.contents with | none => .error (-4) | some v => .ok (toM s, [v])) _
    cases el : lookupKey k.toNat s.contents with
    | none =>
      rw [el] at e
      exact law_fail h rfl e
    | some v =>
      rw [el] at e
      unfold Law
      rw [e]
      exact ⟨rfl, h⟩
theorem law_contents {s : State} (h : Sz s) : Law s (mContents (toM s)) .contents := by
  unfold mContents
  have e : step s .contents = if s.powered = false then fail s 7 else succeed s ((s.tick : Int) :: s.contents.flatMap fun x => [(x.1 : Int), x.2]) := rfl
  by_cases c : s.powered = false
  · rw [if_pos (show (toM s).power = false from c)]
    exact law_fail h rfl (by rw [e, if_pos c])
  · rw [if_neg (show ¬ (toM s).power = false from c)]
    unfold Law
    rw [e, if_neg c]
    exact ⟨rfl, h⟩
theorem file_at {s : State} (h : Sz s) {i : Nat} (hi : i < 6) : (toM s).file i = fileAt s.disk i := by
  obtain ⟨c0, c1, j0, j1, k0, k1, pw, tk, ct, sd, cn, ck, pd, du, rfl, _⟩ := h.mk'
  match i, hi with
  | 0, _ => rfl
  | 1, _ => rfl
  | 2, _ => rfl
  | 3, _ => rfl
  | 4, _ => rfl
  | 5, _ => rfl
theorem law_read {s : State} (h : Sz s) (i : Int) : Law s (mRead (toM s) i) (.readFile i) := by
  unfold mRead
  have e : step s (.readFile i) = if inRange i 0 5 = false then fail s 1 else succeed s (toInts (fileAt s.disk i.toNat)) := rfl
  have e2 : inRange i 0 5 = (decide (0 ≤ i) && decide (i < 6)) := by
    rw [inR]
    congr 1
    exact decide_eq_decide.mpr (by omega)
  rw [e2] at e
  by_cases c : (decide (0 ≤ i) && decide (i < 6)) = false
  · rw [if_pos c]
    exact law_fail h rfl (by rw [e, if_pos c])
  · rw [if_neg c]
    rw [if_neg c] at e
    have c' : (decide (0 ≤ i) && decide (i < 6)) = true := by simpa using c
    rw [Bool.and_eq_true] at c'
    have c1 := of_decide_eq_true c'.1
    have c2 := of_decide_eq_true c'.2
    unfold Law
    rw [e, file_at h (by omega)]
    exact ⟨rfl, h⟩
theorem law_status {s : State} (h : Sz s) : Law s (mStatus (toM s)) .status := ⟨rfl, h⟩
theorem set_byte : ∀ (l : Bytes) (n b : Nat), n < l.length → l.take n ++ [b] ++ l.drop (n + 1) = l.set n b
  | [], n, b, h => by simp at h
  | x :: l, 0, b, h => rfl
  | x :: l, n + 1, b, h => by
    have ih := set_byte l n b (by simpa using h)
    simp only [List.take_succ_cons, List.drop_succ_cons, List.set_cons_succ, List.cons_append]
    rw [ih]
theorem put_at {s : State} (h : Sz s) {i : Nat} (hi : i < 6) (b : Bytes) : (toM s).put i b = toM { s with disk := setFileAt s.disk i b } ∧ Sz { s with disk := setFileAt s.disk i b } := by
  obtain ⟨c0, c1, j0, j1, k0, k1, pw, tk, ct, sd, cn, ck, pd, du, rfl, hs⟩ := h.mk'
  match i, hi with
  | 0, _ => exact ⟨rfl, rfl, rfl, rfl, hs⟩
  | 1, _ => exact ⟨rfl, rfl, rfl, rfl, hs⟩
  | 2, _ => exact ⟨rfl, rfl, rfl, rfl, hs⟩
  | 3, _ => exact ⟨rfl, rfl, rfl, rfl, hs⟩
  | 4, _ => exact ⟨rfl, rfl, rfl, rfl, hs⟩
  | 5, _ => exact ⟨rfl, rfl, rfl, rfl, hs⟩
theorem law_corrupt {s : State} (h : Sz s) (i p b : Int) : Law s (mCorrupt (toM s) i p b) (.corruptByte i p b) := by
  unfold mCorrupt
  have e : step s (.corruptByte i p b) = if inRange i 0 5 = false ∨ inRange b 0 255 = false then fail s 1 else if p < 0 ∨ ((fileAt s.disk i.toNat).length : Int) ≤ p then fail s 4 else
    succeed { s with disk := setFileAt s.disk i.toNat ((fileAt s.disk i.toNat).set p.toNat b.toNat) } [] := rfl
  have e2 : inRange i 0 5 = (decide (0 ≤ i) && decide (i < 6)) := by
    rw [inR]
    congr 1
    exact decide_eq_decide.mpr (by omega)
  rw [e2, inR] at e
  by_cases c : ((decide (0 ≤ i) && decide (i < 6)) && (decide (0 ≤ b) && decide (b ≤ 255))) = false
  · rw [if_pos c]
    exact law_fail h rfl (by rw [e, if_pos (by rwa [Bool.and_eq_false_iff] at c)])
  · rw [if_neg c]
    rw [if_neg (fun z => c (by rw [Bool.and_eq_false_iff]; exact z))] at e
    have c' : ((decide (0 ≤ i) && decide (i < 6)) && (decide (0 ≤ b) && decide (b ≤ 255))) = true := by rwa [Bool.not_eq_false] at c
    simp only [Bool.and_eq_true, decide_eq_true_eq] at c'
    have hi : i.toNat < 6 := by omega
    rw [file_at h hi]
    by_cases d : p < 0 ∨ ((fileAt s.disk i.toNat).length : Int) ≤ p
    · rw [if_pos d] at e
      rw [if_pos]
      · exact law_fail h rfl e
      · rw [Bool.and_eq_false_iff]
        rcases d with d | d
        · exact .inl (decide_eq_false (by omega))
        · exact .inr (decide_eq_false (by omega))
    · rw [if_neg d] at e
      rw [if_neg]
      · obtain ⟨p1, p2⟩ := put_at h hi ((fileAt s.disk i.toNat).set p.toNat b.toNat)
        unfold Law
        rw [e, set_byte _ _ _ (by omega), p1]
        exact ⟨rfl, p2⟩
      · rw [Bool.not_eq_false, Bool.and_eq_true]
        exact ⟨decide_eq_true (by omega), decide_eq_true (by omega)⟩
theorem law_import {s : State} (h : Sz s) (b : Bytes) : Law s (mImport (toM s) b) (.importJournal b) := by
  unfold mImport
  have e : step s (.importJournal b) = if s.powered = false then fail s 7 else match importText b with
    | .error _ => fail s 2
    | .ok (t, w) => succeed (initializedWith t w) [(t : Int), (w.length : Int)] := rfl
  by_cases c : s.powered = false
  · rw [if_pos (show (toM s).power = false from c)]
    exact law_fail h rfl (by rw [e, if_pos c])
  · rw [if_neg (show ¬ (toM s).power = false from c)]
    rw [if_neg c] at e
    cases el : importText b with
    | error z =>
      rw [el] at e
      exact law_fail h rfl e
    | ok x =>
      rw [el] at e
      unfold Law
      rw [e]
      exact ⟨rfl, rfl, rfl, rfl, .inl rfl⟩
theorem law_begin {s : State} (h : Sz s) : Law s (mBegin (toM s)) .beginCheckpoint := by
  unfold mBegin
  have e : step s .beginCheckpoint = if s.powered = false then fail s 7 else if s.checkpointing = true then fail s 3 else
    succeed { s with disk := { s.disk with checkpoints := setElement s.disk.checkpoints (1 - s.side) [], journals := setElement s.disk.journals (1 - s.side) [] }, checkpointing := true, pending := encodeFrame (checkpointRow s.tick s.contents) } [((encodeFrame (checkpointRow s.tick s.contents)).length : Int)] := rfl
  by_cases c : s.powered = false
  · rw [if_pos (show (toM s).power = false from c)]
    exact law_fail h rfl (by rw [e, if_pos c])
  rw [if_neg (show ¬ (toM s).power = false from c)]
  rw [if_neg c] at e
  by_cases c2 : s.checkpointing = true
  · rw [if_pos (show (toM s).writing = true from c2)]
    exact law_fail h rfl (by rw [e, if_pos c2])
  rw [if_neg (show ¬ (toM s).writing = true from c2)]
  rw [if_neg c2] at e
  unfold Law
  rw [e]
  obtain ⟨c0, c1, j0, j1, k0, k1, pw, tk, ct, sd, cn, ck, pd, du, rfl, hs⟩ := h.mk'
  rcases hs with hs | hs <;> subst hs
  · exact ⟨rfl, rfl, rfl, rfl, .inl rfl⟩
  · exact ⟨rfl, rfl, rfl, rfl, .inr rfl⟩
theorem law_write {s : State} (h : Sz s) (n : Int) : Law s (mWrite (toM s) n) (.writeCheckpoint n) := by
  unfold mWrite
  have e : step s (.writeCheckpoint n) = if inRange n 1 100000 = false then fail s 1 else if s.powered = false then fail s 7 else if s.checkpointing = false then fail s 3 else
    succeed { s with disk := { s.disk with checkpoints := setElement s.disk.checkpoints (1 - s.side) (checkpointFile s.disk (1 - s.side) ++ s.pending.take n.toNat) }, pending := s.pending.drop n.toNat } [((s.pending.drop n.toNat).length : Int)] := rfl
  rw [inR] at e
  by_cases c0 : (decide (1 ≤ n) && decide (n ≤ 100000)) = false
  · rw [if_pos c0]
    exact law_fail h rfl (by rw [e, if_pos c0])
  rw [if_neg c0]
  rw [if_neg c0] at e
  by_cases c : s.powered = false
  · rw [if_pos (show (toM s).power = false from c)]
    exact law_fail h rfl (by rw [e, if_pos c])
  rw [if_neg (show ¬ (toM s).power = false from c)]
  rw [if_neg c] at e
  by_cases c2 : s.checkpointing = false
  · rw [if_pos (show (toM s).writing = false from c2)]
    exact law_fail h rfl (by rw [e, if_pos c2])
  rw [if_neg (show ¬ (toM s).writing = false from c2)]
  rw [if_neg c2] at e
  unfold Law
  rw [e]
  obtain ⟨c0, c1, j0, j1, k0, k1, pw, tk, ct, sd, cn, ck, pd, du, rfl, hs⟩ := h.mk'
  rcases hs with hs | hs <;> subst hs
  · exact ⟨rfl, rfl, rfl, rfl, .inl rfl⟩
  · exact ⟨rfl, rfl, rfl, rfl, .inr rfl⟩
theorem Sz.files {s s' : State} (h : Sz s) (e : s'.disk = s.disk) (hs : s'.side = 0 ∨ s'.side = 1) : Sz s' := ⟨by rw [e]; exact h.c, by rw [e]; exact h.j, by rw [e]; exact h.k, hs⟩
theorem law_commit {s : State} (h : Sz s) (p : Int) : Law s (mCommit (toM s) p) (.commitCheckpoint p) := by
  have e : step s (.commitCheckpoint p) = if inRange p (-1) 100000 = false then fail s 1 else if s.powered = false then fail s 7 else if s.checkpointing = false ∨ s.pending ≠ [] then fail s 3 else if maxValue < (s.commitNumber : Int) + 1 then fail s 5 else
    if isFullyWritten (encodeFrame (commitRow (s.commitNumber + 1) (1 - s.side))) p = true then succeed { s with disk := { s.disk with commits := setElement s.disk.commits ((s.commitNumber + 1) % 2) (appendWithPower [] (encodeFrame (commitRow (s.commitNumber + 1) (1 - s.side))) p) }, side := 1 - s.side, commitNumber := s.commitNumber + 1, checkpointing := false } [((1 - s.side : Nat) : Int), (s.commitNumber : Int) + 1]
      else succeed (powerDown s { s.disk with commits := setElement s.disk.commits ((s.commitNumber + 1) % 2) (appendWithPower [] (encodeFrame (commitRow (s.commitNumber + 1) (1 - s.side))) p) }) [-1, ((encodeFrame (commitRow (s.commitNumber + 1) (1 - s.side))).length : Int)] := rfl
  rw [inR] at e
  have e0 : (decide (-1 ≤ p) && decide (p ≤ 100000)) = okPower p := rfl
  rw [e0] at e
  by_cases c0 : okPower p = false
  · have z : mCommit (toM s) p = .error (-1) := by unfold mCommit; rw [if_pos c0]
    rw [z]
    exact law_fail h rfl (by rw [e, if_pos c0])
  rw [if_neg c0] at e
  have c0' : okPower p = true := by rwa [Bool.not_eq_false] at c0
  by_cases c : s.powered = false
  · have z : mCommit (toM s) p = .error (-7) := by unfold mCommit; rw [if_neg c0, if_pos (show (toM s).power = false from c)]
    rw [z]
    exact law_fail h rfl (by rw [e, if_pos c])
  rw [if_neg c] at e
  have c' : (toM s).power = true := by
    show s.powered = true
    rwa [Bool.not_eq_false] at c
  by_cases c2 : s.checkpointing = false ∨ s.pending ≠ []
  · have k : ((toM s).writing && decide ((toM s).pending = [])) = false := by
      rw [Bool.and_eq_false_iff]
      rcases c2 with z | z
      · exact .inl z
      · exact .inr (decide_eq_false z)
    have z : mCommit (toM s) p = .error (-3) := by unfold mCommit; rw [if_neg c0, if_neg (by rw [c']; decide), if_pos k]
    rw [z]
    exact law_fail h rfl (by rw [e, if_pos c2])
  rw [if_neg c2] at e
  have c21 : s.checkpointing = true := by
    cases q : s.checkpointing with
    | true => rfl
    | false => exact absurd (.inl q) c2
  have c22 : s.pending = [] := Classical.byContradiction fun q => c2 (.inr q)
  have k : ((toM s).writing && decide ((toM s).pending = [])) = true := by
    rw [Bool.and_eq_true]
    exact ⟨c21, decide_eq_true c22⟩
  have hv : maxValue = 1000000000000000000 := rfl
  have hb : big = 1000000000000000000 := rfl
  by_cases c3 : maxValue < (s.commitNumber : Int) + 1
  · have z : mCommit (toM s) p = .error (-5) := by
      unfold mCommit
      rw [if_neg c0, if_neg (by rw [c']; decide), if_neg (by rw [k]; decide), if_pos]
      show big ≤ s.commitNumber
      omega
    rw [z]
    exact law_fail h rfl (by rw [e, if_pos c3])
  rw [if_neg c3] at e
  have c3' : (toM s).commit < big := by
    show s.commitNumber < big
    omega
  rw [mCommit_go c0' c' k c3']
  show Law s (if enough p (encodeFrame (commitRow (s.commitNumber + 1) (1 - s.side))).length = false then
      .ok (((toM s).put (4 + (s.commitNumber + 1) % 2) ((encodeFrame (commitRow (s.commitNumber + 1) (1 - s.side))).take p.toNat)).fail, [-1, ((encodeFrame (commitRow (s.commitNumber + 1) (1 - s.side))).length : Int)]) else
      .ok (((((toM s).put (4 + (s.commitNumber + 1) % 2) (encodeFrame (commitRow (s.commitNumber + 1) (1 - s.side)))).wSide (1 - s.side)).wCom (s.commitNumber + 1)).finish, [((1 - s.side : Nat) : Int), ((s.commitNumber + 1 : Nat) : Int)])) _
  generalize encodeFrame (commitRow (s.commitNumber + 1) (1 - s.side)) = w at e
  have pr : -1 ≤ p := by
    unfold okPower at c0'
    rw [Bool.and_eq_true] at c0'
    exact of_decide_eq_true c0'.1
  have full : isFullyWritten w p = enough p w.length := by
    unfold isFullyWritten enough
    congr 1
    exact decide_eq_decide.mpr (by omega)
  rw [full] at e
  have hm : (s.commitNumber + 1) % 2 = 0 ∨ (s.commitNumber + 1) % 2 = 1 := by omega
  by_cases c4 : enough p w.length = true
  · rw [if_pos c4] at e
    rw [if_neg (by rw [c4]; decide)]
    have ap : appendWithPower [] w p = w := by
      unfold appendWithPower
      unfold enough at c4
      rw [Bool.or_eq_true, decide_eq_true_eq, decide_eq_true_eq] at c4
      rw [List.nil_append]
      split
      · rfl
      · exact List.take_of_length_le (by omega)
    rw [ap] at e
    unfold Law
    rw [e]
    clear e
    obtain ⟨c0, c1, j0, j1, k0, k1, pw, tk, ct, sd, cn, ck, pd, du, rfl, hs⟩ := h.mk'
    change pd = [] at c22
    subst c22
    change (cn + 1) % 2 = 0 ∨ (cn + 1) % 2 = 1 at hm
    rcases hs with hs | hs <;> subst hs <;> rcases hm with hm | hm
    all_goals
      show _ ∧ _
      simp only [hm]
      exact ⟨by first | rfl | (push_cast; rfl), rfl, rfl, rfl, by first | exact .inl rfl | exact .inr rfl⟩
  · have c4' : enough p w.length = false := by
      cases q : enough p w.length with
      | true => exact absurd q c4
      | false => rfl
    rw [if_neg c4] at e
    rw [if_pos c4']
    have ap : appendWithPower [] w p = w.take p.toNat := by
      unfold appendWithPower
      unfold enough at c4'
      rw [Bool.or_eq_false_iff, decide_eq_false_iff_not, decide_eq_false_iff_not] at c4'
      rw [List.nil_append, if_neg (by omega)]
    rw [ap] at e
    unfold Law
    rw [e]
    clear e
    obtain ⟨c0, c1, j0, j1, k0, k1, pw, tk, ct, sd, cn, ck, pd, du, rfl, hs⟩ := h.mk'
    change (cn + 1) % 2 = 0 ∨ (cn + 1) % 2 = 1 at hm
    rcases hm with hm | hm
    all_goals
      show _ ∧ _
      simp only [hm]
      exact ⟨by first | rfl | (push_cast; rfl), rfl, rfl, rfl, .inl rfl⟩
end Ts
/-! ## TsL2 -/
namespace Ts
open Vbwsai
/-! ### frames, one behind the other -/
theorem go_none {f i : Nat} {b : Bytes} (h : frameAt b i = none) : framesGo (f + 1) b i = [] := by
  conv => lhs; unfold framesGo
  rw [h]
theorem go_some {f i : Nat} {b : Bytes} {x : List Int × Nat} (h : frameAt b i = some x) : framesGo (f + 1) b i = x :: framesGo f b x.2 := by
  conv => lhs; unfold framesGo
  rw [h]
theorem dec_none {i : Nat} {b : Bytes} (h : frameAt b i = none) : decodeFrame (b.drop i) = none := Option.map_eq_none_iff.mp h
def lastEnd (i : Nat) (fs : List (List Int × Nat)) : Nat := match fs.getLast? with
  | none => i
  | some x => x.2
theorem lastEnd_cons (i : Nat) (x : List Int × Nat) (r : List (List Int × Nat)) : lastEnd i (x :: r) = lastEnd x.2 r := by
  cases r with
  | nil => rfl
  | cons y r =>
    unfold lastEnd
    rw [List.getLast?_cons_cons, List.getLast?_eq_some_getLast (l := y :: r) (by simp)]
theorem read_go {b : Bytes} (hb : ∀ z ∈ b, z < 256) : ∀ (f i : Nat), i ≤ b.length → i ≤ lastEnd i (framesGo f b i) ∧ readFramesFrom f (b.drop i) = ((framesGo f b i).map (·.1), lastEnd i (framesGo f b i) - i)
  | 0, i, _ => ⟨Nat.le_refl _, by
    show ([], 0) = ([], i - i)
    rw [Nat.sub_self]⟩
  | f + 1, i, hi => by
    cases e : frameAt b i with
    | none =>
      rw [go_none e]
      refine ⟨Nat.le_refl _, ?_⟩
      unfold readFramesFrom
      rw [dec_none e]
      show ([], 0) = ([], i - i)
      rw [Nat.sub_self]
    | some x =>
      obtain ⟨g1, g2, g3⟩ := frameAt_end hb e
      rw [go_some e, lastEnd_cons]
      obtain ⟨i1, i2⟩ := read_go hb f x.2 g2
      refine ⟨by omega, ?_⟩
      unfold readFramesFrom
      rw [g3]
      show (x.1 :: (readFramesFrom f (b.drop x.2)).1, (b.drop i).length - (b.drop x.2).length + (readFramesFrom f (b.drop x.2)).2) = _
      rw [i2]
      show (x.1 :: (framesGo f b x.2).map (·.1), _) = (x.1 :: (framesGo f b x.2).map (·.1), _)
      congr 1
      rw [List.length_drop, List.length_drop]
      show b.length - i - (b.length - x.2) + (lastEnd x.2 (framesGo f b x.2) - x.2) = _
      omega
theorem read_frames {b : Bytes} (hb : ∀ z ∈ b, z < 256) : readFrames b = ((framesOf b).map (·.1), lastEnd 0 (framesOf b)) := by
  have := (read_go hb (b.length + 1) 0 (Nat.zero_le _)).2
  rw [List.drop_zero] at this
  exact this
def runRows (s : Store) (rows : List (List Int)) : Store := rows.foldl (fun s l => applyChanges s ((parseChanges l.tail).getD [])) s
theorem replay_go {b : Bytes} (hb : ∀ z ∈ b, z < 256) : ∀ (f i t : Nat) (s : Store), i ≤ b.length → i ≤ (replayM t i (framesGo f b i)).2 ∧ (replayM t i (framesGo f b i)).2 ≤ b.length ∧
    replayFrom f t s (b.drop i) = ((replayM t i (framesGo f b i)).1.length, (runRows s (replayM t i (framesGo f b i)).1, (replayM t i (framesGo f b i)).2 - i))
  | 0, i, t, s, h => ⟨Nat.le_refl _, h, by
    show (0, s, 0) = (0, s, i - i)
    rw [Nat.sub_self]⟩
  | f + 1, i, t, s, h => by
    cases e : frameAt b i with
    | none =>
      rw [go_none e]
      refine ⟨Nat.le_refl _, h, ?_⟩
      unfold replayFrom
      rw [dec_none e]
      show (0, s, 0) = (0, s, i - i)
      rw [Nat.sub_self]
    | some x =>
      obtain ⟨g1, g2, g3⟩ := frameAt_end hb e
      obtain ⟨l, en⟩ := x
      rw [go_some e]
      have unf : replayM t i ((l, en) :: framesGo f b en) = if (parseTickRow l).isSome = true ∧ l.head? = some ((t : Int) + 1) then (l :: (replayM (t + 1) en (framesGo f b en)).1, (replayM (t + 1) en (framesGo f b en)).2) else ([], i) := rfl
      rw [unf]
      have unf2 : replayFrom (f + 1) t s (b.drop i) = (match parseTickRow l with
          | none => (0, s, 0)
          | some (n, cs) => if n ≠ t + 1 then (0, s, 0) else ((replayFrom f n (applyChanges s cs) (b.drop en)).1 + 1, (replayFrom f n (applyChanges s cs) (b.drop en)).2.1, (b.drop i).length - (b.drop en).length + (replayFrom f n (applyChanges s cs) (b.drop en)).2.2)) := by
        conv => lhs; unfold replayFrom
        rw [g3]
        rfl
      rw [unf2]
      cases ep : parseTickRow l with
      | none =>
        rw [if_neg (fun z => by have := z.1; cases this)]
        exact ⟨Nat.le_refl _, h, by show (0, s, 0) = (0, s, i - i); rw [Nat.sub_self]⟩
      | some y =>
        obtain ⟨n, cs⟩ := y
        cases l with
        | nil => cases ep
        | cons t0 r0 =>
          change (if t0 < 1 then none else (parseChanges r0).map fun l => (t0.toNat, l)) = some (n, cs) at ep
          split at ep
          · cases ep
          rename_i ht0
          obtain ⟨cs2, h1, h2⟩ := Option.map_eq_some_iff.mp ep
          have z1 := (Prod.mk.inj h2).1
          have z2 := (Prod.mk.inj h2).2
          subst z2
          show _ ∧ _ ∧ (if n ≠ t + 1 then _ else _) = _
          by_cases c : n = t + 1
          · have hd : (t0 :: r0).head? = some ((t : Int) + 1) := by
              show some t0 = _
              congr 1
              omega
            have hcond : (some (n, cs2)).isSome = true ∧ (t0 :: r0).head? = some ((t : Int) + 1) := ⟨rfl, hd⟩
            rw [if_pos hcond, if_neg (fun z => z c)]
            subst c
            obtain ⟨i1, i2, i3⟩ := replay_go hb f en (t + 1) (applyChanges s cs2) g2
            rw [i3]
            refine ⟨by show i ≤ (replayM (t + 1) en (framesGo f b en)).2; change i + 7 ≤ en at g1; omega, i2, ?_⟩
            show ((replayM (t + 1) en (framesGo f b en)).1.length + 1, runRows (applyChanges s cs2) (replayM (t + 1) en (framesGo f b en)).1, (b.drop i).length - (b.drop en).length + ((replayM (t + 1) en (framesGo f b en)).2 - en)) =
              ((replayM (t + 1) en (framesGo f b en)).1.length + 1, runRows s ((t0 :: r0) :: (replayM (t + 1) en (framesGo f b en)).1), (replayM (t + 1) en (framesGo f b en)).2 - i)
            congr 1
            have e1 : runRows s ((t0 :: r0) :: (replayM (t + 1) en (framesGo f b en)).1) = runRows (applyChanges s cs2) (replayM (t + 1) en (framesGo f b en)).1 := by
              unfold runRows
              rw [List.foldl_cons]
              show List.foldl _ (applyChanges s ((parseChanges r0).getD [])) _ = _
              rw [h1]
              rfl
            rw [e1]
            congr 1
            change i + 7 ≤ en at g1
            change en ≤ b.length at g2
            rw [List.length_drop, List.length_drop]
            omega
          · have hd : ¬ ((t0 :: r0).head? = some ((t : Int) + 1)) := by
              intro z
              have := Option.some.inj z
              exact c (by omega)
            rw [if_pos c, if_neg (fun z => hd z.2)]
            exact ⟨Nat.le_refl _, h, by show (0, s, 0) = (0, s, i - i); rw [Nat.sub_self]⟩
theorem replay_eq {b : Bytes} (hb : ∀ z ∈ b, z < 256) (t : Nat) (s : Store) : (replayM t 0 (framesOf b)).2 ≤ b.length ∧
    replay t s b = ((replayM t 0 (framesOf b)).1.length, (runRows s (replayM t 0 (framesOf b)).1, (replayM t 0 (framesOf b)).2)) := by
  obtain ⟨_, h2, h3⟩ := replay_go hb (b.length + 1) 0 t s (Nat.zero_le _)
  rw [List.drop_zero] at h3
  exact ⟨h2, h3⟩
/-! ### the operations that read frames -/
theorem law_list {s : State} (h : Sz s) (hb : ∀ i, ∀ x ∈ (toM s).file i, x < 256) : Law s (mList (toM s)) .listTicks := by
  unfold mList
  have e : step s .listTicks = if s.powered = false then fail s 7 else succeed s ((readFrames (journalFile s.disk s.side)).1.flatMap fun l => match parseTickRow l with
    | some e => [(e.1 : Int), (e.2.length : Int)]
    | none => []) := rfl
  by_cases c : s.powered = false
  · rw [if_pos (show (toM s).power = false from c)]
    exact law_fail h rfl (by rw [e, if_pos c])
  · rw [if_neg (show ¬ (toM s).power = false from c)]
    have ej : (toM s).file (2 + (toM s).side) = journalFile s.disk s.side := by
      obtain ⟨c0, c1, j0, j1, k0, k1, pw, tk, ct, sd, cn, ck, pd, du, rfl, hs⟩ := h.mk'
      rcases hs with hs | hs <;> subst hs <;> rfl
    have hb2 := hb (2 + (toM s).side)
    rw [ej] at hb2
    unfold Law
    rw [e, if_neg c, ej, read_frames hb2]
    refine ⟨?_, h⟩
    show (toM s, 0 :: _) = (toM s, 0 :: _)
    first | (rw [List.flatMap_map]; done) | (rw [List.flatMap_map]; rfl)
theorem count_eq {b : Bytes} (hb : ∀ z ∈ b, z < 256) : mCount b = [((readFrames b).1.length : Int), ((readFrames b).2 : Int)] := by
  rw [read_frames hb]
  unfold mCount lastEnd
  cases e : (framesOf b).getLast? with
  | none =>
    have : framesOf b = [] := List.getLast?_eq_none_iff.mp e
    rw [this]
    rfl
  | some x =>
    show _ = [((((framesOf b).map (·.1)).length : Nat) : Int), _]
    rw [List.length_map]
theorem law_recover {s : State} (h : Sz s) (hb : ∀ i, ∀ x ∈ (toM s).file i, x < 256) : Law s (mRecover (toM s)) .recover := by
  unfold mRecover
  have e : step s .recover = if s.powered = true then fail s 3 else match recoverDisk s.disk with
    | none => fail s 6
    | some (m, t, n, w, k) =>
      succeed { s with disk := { s.disk with journals := setElement s.disk.journals m.2 ((journalFile s.disk m.2).take k) }, powered := true, tick := t + n, contents := w, side := m.2, commitNumber := m.1, checkpointing := false, pending := [], durableTick := t + n } [(m.2 : Int), ((t + n : Nat) : Int), (n : Int), (((journalFile s.disk m.2).length - k : Nat) : Int)] := rfl
  by_cases c : s.powered = true
  · rw [if_pos (show (toM s).power = true from c)]
    exact law_fail h rfl (by rw [e, if_pos c])
  rw [if_neg (show ¬ (toM s).power = true from c)]
  rw [if_neg c] at e
  have ec : mCommits (toM s) = validCommits s.disk := rfl
  have hsd := commits_side (m := toM s)
  rw [ec] at hsd ⊢
  unfold recoverDisk at e
  generalize validCommits s.disk = cs at hsd e
  clear ec
  have key : ∀ x : Nat × Nat, x.2 ≤ 1 → (toM s).file x.2 = checkpointFile s.disk x.2 ∧ (toM s).file (2 + x.2) = journalFile s.disk x.2 := by
    intro x hx
    have : x.2 = 0 ∨ x.2 = 1 := by omega
    rcases this with z | z <;> rw [z] <;> exact ⟨rfl, rfl⟩
  induction cs with
  | nil => exact law_fail h rfl e
  | cons x r ih =>
    obtain ⟨cn, sd⟩ := x
    have hx := hsd (cn, sd) List.mem_cons_self
    obtain ⟨k1, k2⟩ := key (cn, sd) hx
    change (toM s).file sd = checkpointFile s.disk sd at k1
    change (toM s).file (2 + sd) = journalFile s.disk sd at k2
    have unf : mTry (toM s) ((cn, sd) :: r) = match readCheckpoint ((toM s).file sd) with | some (t, st) => .ok (mRecovered (toM s) cn sd t st) | none => mTry (toM s) r := rfl
    rw [unf, k1]
    rw [List.findSome?_cons] at e
    have unf2 : readSide s.disk sd = match readCheckpoint (checkpointFile s.disk sd) with | none => none | some (t, st) => some (t, replay t st (journalFile s.disk sd)) := rfl
    rw [unf2] at e
    cases er : readCheckpoint (checkpointFile s.disk sd) with
    | none =>
      rw [er] at e
      exact ih (fun y hy => hsd y (List.mem_cons_of_mem _ hy)) e
    | some z =>
      obtain ⟨t, st⟩ := z
      rw [er] at e
      have hb2 := hb (2 + sd)
      rw [k2] at hb2
      obtain ⟨r1, r2⟩ := replay_eq hb2 t st
      change step s .recover = (match some ((cn, sd), (t, replay t st (journalFile s.disk sd))) with
        | none => fail s 6
        | some (m, t, n, w, k) => succeed { s with disk := { s.disk with journals := setElement s.disk.journals m.2 ((journalFile s.disk m.2).take k) }, powered := true, tick := t + n, contents := w, side := m.2, commitNumber := m.1, checkpointing := false, pending := [], durableTick := t + n } [(m.2 : Int), ((t + n : Nat) : Int), (n : Int), (((journalFile s.disk m.2).length - k : Nat) : Int)]) at e
      rw [r2] at e
      show Law s (.ok (mRecovered (toM s) cn sd t st)) _
      unfold mRecovered
      rw [k2]
      generalize replayM t 0 (framesOf (journalFile s.disk sd)) = rp at r1 e
      obtain ⟨rows, size⟩ := rp
      unfold Law
      rw [e]
      have r1' : size ≤ (journalFile s.disk sd).length := r1
      have ed : ((journalFile s.disk sd).length : Int) - (size : Int) = (((journalFile s.disk sd).length - size : Nat) : Int) := by omega
      have hx2 : sd = 0 ∨ sd = 1 := by
        change sd ≤ 1 at hx
        omega
      show (((_, 0 :: [(sd : Int), ((t + rows.length : Nat) : Int), (rows.length : Int), ((journalFile s.disk sd).length : Int) - (size : Int)]) : Mem × List Int) = _) ∧ _
      rw [ed]
      clear e r2 er unf unf2 k1 k2 ih hb2 ed
      obtain ⟨c0, c1, j0, j1, q0, q1, pw, tk, ct, sd2, cn2, ck, pd, du, rfl, hs⟩ := h.mk'
      rcases hx2 with z | z <;> subst z
      · exact ⟨rfl, rfl, rfl, rfl, .inl rfl⟩
      · exact ⟨rfl, rfl, rfl, rfl, .inr rfl⟩
end Ts
/-! ## TsL3 -/
namespace Ts
open Vbwsai
theorem wt0 (c0 c1 j0 j1 k0 k1 : Bytes) (pw : Bool) (tk : Nat) (ct : Store) (cn : Nat) (ck : Bool) (pd : Bytes) (du : Nat) (w : Bytes) (p : Int) :
    writeTick ⟨⟨[c0, c1], [j0, j1], [k0, k1]⟩, pw, tk, ct, 0, cn, ck, pd, du⟩ w p = ⟨[c0, c1], [appendWithPower j0 w p, if ck = true then appendWithPower j1 w (if p < 0 then -1 else max 0 (p - (w.length : Int))) else j1], [k0, k1]⟩ := by
  cases ck <;> rfl
theorem wt1 (c0 c1 j0 j1 k0 k1 : Bytes) (pw : Bool) (tk : Nat) (ct : Store) (cn : Nat) (ck : Bool) (pd : Bytes) (du : Nat) (w : Bytes) (p : Int) :
    writeTick ⟨⟨[c0, c1], [j0, j1], [k0, k1]⟩, pw, tk, ct, 1, cn, ck, pd, du⟩ w p = ⟨[c0, c1], [if ck = true then appendWithPower j0 w (if p < 0 then -1 else max 0 (p - (w.length : Int))) else j0, appendWithPower j1 w p], [k0, k1]⟩ := by
  cases ck <;> rfl
theorem ap_full {f w : Bytes} {p : Int} (h : p < 0 ∨ (w.length : Int) ≤ p) : appendWithPower f w p = f ++ w := by
  unfold appendWithPower
  split
  · rfl
  · rw [List.take_of_length_le (by omega)]
theorem ap_part {f w : Bytes} {p : Int} (h : 0 ≤ p) : appendWithPower f w p = f ++ w.take p.toNat := by
  unfold appendWithPower
  rw [if_neg (by omega)]
theorem law_tick {s : State} (h : Sz s) (p : Int) (row : List Int) : Law s (mTick (toM s) p row) (.tick p row) := by
  have e : step s (.tick p row) = if inRange p (-1) 100000 = false then fail s 1 else match parseChanges row with
    | none => fail s 1
    | some cs => if 16 < cs.length then fail s 1 else if s.powered = false then fail s 7 else if maxValue < (s.tick : Int) + 1 then fail s 5 else
      if p < 0 ∨ (bytesToWrite s (encodeFrame (tickRow (s.tick + 1) cs)) : Int) ≤ p then
        succeed { s with disk := writeTick s (encodeFrame (tickRow (s.tick + 1) cs)) p, tick := s.tick + 1, contents := applyChanges s.contents cs, durableTick := s.tick + 1 } [(s.tick : Int) + 1, (bytesToWrite s (encodeFrame (tickRow (s.tick + 1) cs)) : Int)]
      else succeed (powerDown s (writeTick s (encodeFrame (tickRow (s.tick + 1) cs)) p)) [-1, (bytesToWrite s (encodeFrame (tickRow (s.tick + 1) cs)) : Int)] := rfl
  rw [inR] at e
  have e0 : (decide (-1 ≤ p) && decide (p ≤ 100000)) = okPower p := rfl
  rw [e0] at e
  by_cases c0 : okPower p = false
  · have z : mTick (toM s) p row = .error (-1) := by unfold mTick; rw [if_pos c0]
    rw [z]
    exact law_fail h rfl (by rw [e, if_pos c0])
  rw [if_neg c0] at e
  have c0' : okPower p = true := by rwa [Bool.not_eq_false] at c0
  have pr : -1 ≤ p := by
    unfold okPower at c0'
    rw [Bool.and_eq_true] at c0'
    exact of_decide_eq_true c0'.1
  cases ep : parseChanges row with
  | none =>
    rw [ep] at e
    have z : mTick (toM s) p row = .error (-1) := by
      unfold mTick
      rw [if_neg c0, if_neg (fun z => by rw [ep] at z; cases z.2)]
    rw [z]
    exact law_fail h rfl e
  | some cs =>
    rw [ep] at e
    change step s (.tick p row) = (if 16 < cs.length then fail s 1 else if s.powered = false then fail s 7 else if maxValue < (s.tick : Int) + 1 then fail s 5 else
      if p < 0 ∨ (bytesToWrite s (encodeFrame (tickRow (s.tick + 1) cs)) : Int) ≤ p then
        succeed { s with disk := writeTick s (encodeFrame (tickRow (s.tick + 1) cs)) p, tick := s.tick + 1, contents := applyChanges s.contents cs, durableTick := s.tick + 1 } [(s.tick : Int) + 1, (bytesToWrite s (encodeFrame (tickRow (s.tick + 1) cs)) : Int)]
      else succeed (powerDown s (writeTick s (encodeFrame (tickRow (s.tick + 1) cs)) p)) [-1, (bytesToWrite s (encodeFrame (tickRow (s.tick + 1) cs)) : Int)]) at e
    have hl := parse_len row cs ep
    by_cases c1 : 16 < cs.length
    · have z : mTick (toM s) p row = .error (-1) := by
        unfold mTick
        rw [if_neg c0, if_neg (fun z => by have := z.1; omega)]
      rw [z]
      exact law_fail h rfl (by rw [e, if_pos c1])
    rw [if_neg c1] at e
    have c1' : row.length ≤ 48 := by omega
    have k : row.length ≤ 48 ∧ (parseChanges row).isSome = true := ⟨c1', by rw [ep]; rfl⟩
    by_cases c2 : s.powered = false
    · have z : mTick (toM s) p row = .error (-7) := by
        unfold mTick
        rw [if_neg c0, if_pos k, if_pos (show (toM s).power = false from c2)]
      rw [z]
      exact law_fail h rfl (by rw [e, if_pos c2])
    rw [if_neg c2] at e
    have c2' : (toM s).power = true := by
      show s.powered = true
      rwa [Bool.not_eq_false] at c2
    have hv : maxValue = 1000000000000000000 := rfl
    have hb : big = 1000000000000000000 := rfl
    by_cases c3 : maxValue < (s.tick : Int) + 1
    · have z : mTick (toM s) p row = .error (-5) := by
        unfold mTick
        rw [if_neg c0, if_pos k, if_neg (by rw [c2']; decide), if_pos]
        show big ≤ s.tick
        omega
      rw [z]
      exact law_fail h rfl (by rw [e, if_pos c3])
    rw [if_neg c3] at e
    have c3' : (toM s).last < big := by
      show s.tick < big
      omega
    rw [mTick_go c0' c1' ep c2' c3']
    have el : (toM s).last = s.tick := rfl
    have ew : (toM s).writing = s.checkpointing := rfl
    have es : (toM s).side = s.side := rfl
    have ec : (toM s).entries = s.contents := rfl
    rw [el, ew, es, ec]
    generalize encodeFrame (tickRow (s.tick + 1) cs) = w at e
    generalize applyChanges s.contents cs = st at e
    have eb : bytesToWrite s w = w.length * (1 + (if s.checkpointing = true then 1 else 0)) := by
      unfold bytesToWrite
      cases s.checkpointing
      · show w.length = w.length * 1
        omega
      · show 2 * w.length = w.length * 2
        omega
    have en : (p < 0 ∨ ((w.length * (1 + (if s.checkpointing = true then 1 else 0)) : Nat) : Int) ≤ p) ↔ enough p (w.length * (1 + (if s.checkpointing = true then 1 else 0))) = true := by
      unfold enough
      rw [Bool.or_eq_true, decide_eq_true_eq, decide_eq_true_eq]
      constructor
      · rintro (z | z)
        · exact .inl (by omega)
        · exact .inr z
      · rintro (z | z)
        · exact .inl (by omega)
        · exact .inr z
    rw [eb] at e
    by_cases c4 : enough p (w.length * (1 + (if s.checkpointing = true then 1 else 0))) = true
    · rw [if_pos (en.mpr c4)] at e
      rw [if_neg (by rw [c4]; decide)]
      have c5 := en.mpr c4
      unfold Law
      rw [e]
      clear e en eb
      obtain ⟨c0, c1, j0, j1, k0, k1, pw, tk, ct, sd, cn, ck, pd, du, rfl, hs⟩ := h.mk'
      change p < 0 ∨ ((w.length * (1 + (if ck = true then 1 else 0)) : Nat) : Int) ≤ p at c5
      have f1 : ∀ f : Bytes, appendWithPower f w p = f ++ w := fun f => ap_full (by
        rcases c5 with z | z
        · exact .inl z
        · refine .inr ?_
          cases ck
          · change ((w.length * 1 : Nat) : Int) ≤ p at z
            omega
          · change ((w.length * 2 : Nat) : Int) ≤ p at z
            omega)
      have f2 : ck = true → ∀ f : Bytes, appendWithPower f w (if p < 0 then -1 else max 0 (p - (w.length : Int))) = f ++ w := fun hc f => ap_full (by
        subst hc
        by_cases z0 : p < 0
        · rw [if_pos z0]
          exact .inl (by decide)
        · rw [if_neg z0]
          rcases c5 with z | z
          · exact absurd z z0
          · change ((w.length * 2 : Nat) : Int) ≤ p at z
            refine .inr ?_
            omega)
      rcases hs with hs | hs <;> subst hs
      · show _ ∧ _
        simp only [wt0, f1]
        cases ck
        · exact ⟨rfl, rfl, rfl, rfl, .inl rfl⟩
        · simp only [f2 rfl]
          exact ⟨rfl, rfl, rfl, rfl, .inl rfl⟩
      · show _ ∧ _
        simp only [wt1, f1]
        cases ck
        · exact ⟨rfl, rfl, rfl, rfl, .inr rfl⟩
        · simp only [f2 rfl]
          exact ⟨rfl, rfl, rfl, rfl, .inr rfl⟩
    · rw [if_neg (fun z => c4 (en.mp z))] at e
      have c5 : ¬ (p < 0 ∨ ((w.length * (1 + (if s.checkpointing = true then 1 else 0)) : Nat) : Int) ≤ p) := fun z => c4 (en.mp z)
      rw [if_pos (by rwa [Bool.not_eq_true] at c4)]
      unfold Law
      rw [e]
      clear e en eb
      have p0 : 0 ≤ p := by
        rcases Int.lt_or_le p 0 with z | z
        · exact absurd (.inl z) c5
        · exact z
      have f1 : ∀ f : Bytes, appendWithPower f w p = f ++ w.take p.toNat := fun f => ap_part p0
      have f2 : ∀ f : Bytes, appendWithPower f w (if p < 0 then -1 else max 0 (p - (w.length : Int))) = f ++ w.take (p.toNat - w.length) := fun f => by
        rw [if_neg (by omega), ap_part (by omega)]
        congr 2
        omega
      obtain ⟨c0, c1, j0, j1, k0, k1, pw, tk, ct, sd, cn, ck, pd, du, rfl, hs⟩ := h.mk'
      have f3 : ∀ f : Bytes, ¬ w.length < p.toNat → f ++ w.take (p.toNat - w.length) = f := fun f z => by
        rw [show p.toNat - w.length = 0 from by omega, List.take_zero, List.append_nil]
      unfold Mem.inPart
      rcases hs with hs | hs <;> subst hs
      · show _ ∧ _
        simp only [wt0, f1, f2]
        cases ck
        · exact ⟨rfl, rfl, rfl, rfl, .inl rfl⟩
        · by_cases z : w.length < p.toNat
          · refine ⟨?_, rfl, rfl, rfl, .inl rfl⟩
            show told _ (.ok (Mem.fail (if true = true ∧ w.length < p.toNat then _ else _), _)) = _
            rw [if_pos ⟨rfl, z⟩]
            rfl
          · simp only [f3 _ z]
            refine ⟨?_, rfl, rfl, rfl, .inl rfl⟩
            show told _ (.ok (Mem.fail (if true = true ∧ w.length < p.toNat then _ else _), _)) = _
            rw [if_neg (fun y => z y.2)]
            rfl
      · show _ ∧ _
        simp only [wt1, f1, f2]
        cases ck
        · exact ⟨rfl, rfl, rfl, rfl, .inl rfl⟩
        · by_cases z : w.length < p.toNat
          · refine ⟨?_, rfl, rfl, rfl, .inl rfl⟩
            show told _ (.ok (Mem.fail (if true = true ∧ w.length < p.toNat then _ else _), _)) = _
            rw [if_pos ⟨rfl, z⟩]
            rfl
          · simp only [f3 _ z]
            refine ⟨?_, rfl, rfl, rfl, .inl rfl⟩
            show told _ (.ok (Mem.fail (if true = true ∧ w.length < p.toNat then _ else _), _)) = _
            rw [if_neg (fun y => z y.2)]
            rfl
end Ts
/-! ## TsL4 -/
namespace Ts
open Vbwsai
theorem b128_byt : ∀ (f n : Nat), ∀ x ∈ base128Digits f n, x < 256
  | 0, n, x, h => by cases h
  | f + 1, n, x, h => by
    unfold base128Digits at h
    split at h
    · have : x = n := by simpa using h
      omega
    · rcases List.mem_cons.mp h with e | e
      · omega
      · exact b128_byt f _ x e
theorem two_byt (n : Nat) : ∀ x ∈ twoBytes n, x < 256 := by
  intro x h
  have : x = n / 256 % 256 ∨ x = n % 256 := by simpa [twoBytes] using h
  omega
theorem frame_byt (l : List Int) : ∀ x ∈ encodeFrame l, x < 256 := by
  intro x h
  have hr : ∀ x ∈ encodeRow l, x < 256 := by
    intro y hy
    obtain ⟨n, _, h2⟩ := List.mem_flatMap.mp hy
    exact b128_byt _ _ y h2
  unfold encodeFrame at h
  simp only [List.mem_append] at h
  rcases h with h | h | h | h | h
  · exact two_byt _ x h
  · exact two_byt _ x h
  · exact hr x h
  · exact two_byt _ x h
  · have : x = 165 := by simpa [endByte] using h
    omega
theorem nil_byt : ∀ x ∈ ([] : Bytes), x < 256 := by
  intro x hx
  cases hx
theorem fit0 : Fit ((0 : Nat) : Int) := fit_of (by decide) (by decide)
theorem fit1 : Fit ((1 : Nat) : Int) := fit_of (by decide) (by decide)
theorem Bd.mono {n k : Nat} {m : Mem} (h : Bd n m) (hk : n ≤ k) : Bd k m := ⟨h.six, fun b hb => Nat.le_trans (h.len b hb) hk, h.byt, h.pen, h.pby, h.side, h.last, h.com, h.ent⟩
theorem Bd.put {n : Nat} {m : Mem} (h : Bd n m) (i : Nat) {d : Bytes} (hd : d.length ≤ n) (hb : ∀ x ∈ d, x < 256) : Bd n (m.put i d) := by
  have mem : ∀ b ∈ (m.put i d).files, b ∈ m.files ∨ b = d := fun b hb => List.mem_or_eq_of_mem_set hb
  refine ⟨by show (m.files.set i d).length = 6; rw [List.length_set]; exact h.six, fun b hb2 => ?_, fun b hb2 => ?_, h.pen, h.pby, h.side, h.last, h.com, h.ent⟩
  · rcases mem b hb2 with e | e
    · exact h.len b e
    · rw [e]; exact hd
  · rcases mem b hb2 with e | e
    · exact h.byt b e
    · rw [e]; exact hb
theorem Bd.app {n k : Nat} {m : Mem} (h : Bd n m) (i : Nat) {d : Bytes} (hd : d.length ≤ k) (hb : ∀ x ∈ d, x < 256) : Bd (n + k) (m.app i d) := by
  refine (h.mono (Nat.le_add_right n k)).put i ?_ ?_
  · have := file_len h i
    rw [List.length_append]
    omega
  · intro x hx
    rcases List.mem_append.mp hx with e | e
    · exact file_byt h i x e
    · exact hb x e
theorem Bd.fail {n : Nat} {m : Mem} (h : Bd n m) : Bd n m.fail := ⟨h.six, h.len, h.byt, Nat.zero_le _, nil_byt, Nat.zero_le _, fit0, fit0, ent_nil⟩
theorem take_byt {d : Bytes} (h : ∀ x ∈ d, x < 256) (k : Nat) : ∀ x ∈ d.take k, x < 256 := fun x hx => h x (List.mem_of_mem_take hx)
theorem drop_byt {d : Bytes} (h : ∀ x ∈ d, x < 256) (k : Nat) : ∀ x ∈ d.drop k, x < 256 := fun x hx => h x (List.mem_of_mem_drop hx)
theorem cp_len {t : Nat} {s : Store} (h : Ent s) : (encodeFrame ((t : Int) :: flatS s)).length ≤ 1555 := by
  have h1 := frame_len ((t : Int) :: flatS s)
  have h2 := h.len
  rw [List.length_cons, flat_len] at h1
  omega
theorem bd_anew {t : Nat} {s : Store} (hs : Ent s) (ht : Fit t) : Bd 2000 (anew t s) := by
  have h1 := cp_len (t := t) hs
  have h2 : (encodeFrame [1, 0]).length ≤ 31 := frame_len [1, 0]
  have mem : ∀ b ∈ (anew t s).files, b = encodeFrame ((t : Int) :: flatS s) ∨ b = [] ∨ b = encodeFrame [1, 0] := by
    intro b hb
    have : b = encodeFrame ((t : Int) :: flatS s) ∨ b = [] ∨ b = [] ∨ b = [] ∨ b = [] ∨ b = encodeFrame [1, 0] := by simpa [anew] using hb
    rcases this with e | e | e | e | e | e
    · exact .inl e
    · exact .inr (.inl e)
    · exact .inr (.inl e)
    · exact .inr (.inl e)
    · exact .inr (.inl e)
    · exact .inr (.inr e)
  refine ⟨rfl, fun b hb => ?_, fun b hb => ?_, Nat.zero_le _, nil_byt, Nat.zero_le _, ht, fit1, hs⟩
  · rcases mem b hb with e | e | e <;> rw [e]
    · omega
    · exact Nat.zero_le _
    · omega
  · rcases mem b hb with e | e | e <;> rw [e]
    · exact frame_byt _
    · intro x hx; cases hx
    · exact frame_byt _
theorem replay_last : ∀ (fs : List (List Int × Nat)) (t sz : Nat), (replayM t sz fs).1 = [] ∨ ∃ l ∈ (replayM t sz fs).1, l.head? = some (((t + (replayM t sz fs).1.length : Nat) : Int))
  | [], t, sz => .inl rfl
  | (x, e) :: r, t, sz => by
    have unf : replayM t sz ((x, e) :: r) = if (parseTickRow x).isSome = true ∧ x.head? = some ((t : Int) + 1) then (x :: (replayM (t + 1) e r).1, (replayM (t + 1) e r).2) else ([], sz) := rfl
    rw [unf]
    split
    · rename_i c
      right
      rcases replay_last r (t + 1) e with h | ⟨l, hl, h⟩
      · refine ⟨x, List.mem_cons_self, ?_⟩
        rw [c.2]
        show some ((t : Int) + 1) = some (((t + ((replayM (t + 1) e r).1.length + 1) : Nat)) : Int)
        rw [h]
        rfl
      · refine ⟨l, List.mem_cons_of_mem _ hl, ?_⟩
        rw [h]
        congr 1
        show ((t + 1 + (replayM (t + 1) e r).1.length : Nat) : Int) = ((t + ((replayM (t + 1) e r).1.length + 1) : Nat) : Int)
        omega
    · exact .inl rfl
theorem readCp_fit {b : Bytes} {t : Nat} {s : Store} (hb : ∀ z ∈ b, z < 256) (h : readCheckpoint b = some (t, s)) : Fit t := by
  rw [readCheckpoint_eq] at h
  obtain ⟨l, h1, h2⟩ := Option.bind_eq_some_iff.mp h
  obtain ⟨e, _⟩ := checkpoint_of h2
  exact (onlyRow_fit hb h1).2 _ (by rw [e]; exact List.mem_cons_self)
theorem readCommit_fit {b : Bytes} {x : Nat × Nat} (hb : ∀ z ∈ b, z < 256) (h : readCommit b = some x) : Fit x.1 := by
  have h0 := h
  rw [readCommit_eq] at h
  obtain ⟨l, h1, h2⟩ := Option.bind_eq_some_iff.mp h
  have hf := (onlyRow_fit hb h1).2
  unfold onlyRow at h1
  unfold readCommit at h0
  split at h0
  · rename_i n s e
    rw [e] at h1
    have el := Option.some.inj h1
    split at h0
    · cases h0
    · rename_i c
      have := Option.some.inj h0
      rw [← this]
      show Fit ((n.toNat : Nat) : Int)
      rw [Int.toNat_of_nonneg (by omega)]
      exact hf n (by rw [← el]; exact List.mem_cons_self)
  · cases h0
theorem rows_ent : ∀ (l : List (List Int)) (s : Store), Ent s → (∀ x ∈ l, ∃ cs, parseChanges x.tail = some cs) → Ent (l.foldl (fun s l => applyChanges s ((parseChanges l.tail).getD [])) s)
  | [], s, hs, _ => hs
  | x :: l, s, hs, h => by
    obtain ⟨cs, hcs⟩ := h x List.mem_cons_self
    rw [List.foldl_cons, hcs]
    exact rows_ent l _ (ent_apply hs hcs) fun y hy => h y (List.mem_cons_of_mem _ hy)
/-- what an operation may leave -/
def Good (n : Nat) : Out → Prop
  | .error _ => True
  | .ok (m, out) => Bd (n + 2000) m ∧ out.length ≤ 2000000
theorem good_tick {n : Nat} {m : Mem} (h : Bd n m) (p : Int) (l : List Int) : Good n (mTick m p l) := by
  by_cases c1 : okPower p = false
  · have z : mTick m p l = .error (-1) := by unfold mTick; rw [if_pos c1]
    rw [z]
    trivial
  have c1' : okPower p = true := by rwa [Bool.not_eq_false] at c1
  by_cases k : l.length ≤ 48 ∧ (parseChanges l).isSome = true
  · by_cases c2 : m.power = false
    · have z : mTick m p l = .error (-7) := by unfold mTick; rw [if_neg c1, if_pos k, if_pos c2]
      rw [z]
      trivial
    have c2' : m.power = true := by rwa [Bool.not_eq_false] at c2
    by_cases c3 : big ≤ m.last
    · have z : mTick m p l = .error (-5) := by unfold mTick; rw [if_neg c1, if_pos k, if_neg c2, if_pos c3]
      rw [z]
      trivial
    obtain ⟨cs, hcs⟩ := Option.isSome_iff_exists.mp k.2
    rw [mTick_go c1' k.1 hcs c2' (by omega)]
    have hlast : m.last + 1 ≤ 1000000000000000000 := by
      have : big = 1000000000000000000 := rfl
      omega
    have tl : (tickRow (m.last + 1) cs).length = 1 + l.length := by
      rw [tickRow_eq, List.length_cons, chgs_len, parse_len l cs hcs]
      omega
    have hwl := frame_len (tickRow (m.last + 1) cs)
    have hwb := frame_byt (tickRow (m.last + 1) cs)
    have hent : Ent (applyChanges m.entries cs) := ent_apply h.ent hcs
    have kl := k.1
    rw [tl] at hwl
    generalize encodeFrame (tickRow (m.last + 1) cs) = w at hwl hwb
    generalize w.length * (1 + (if m.writing = true then 1 else 0)) = many
    have hw : w.length ≤ 600 := by omega
    by_cases c6 : enough p many = false
    · rw [if_pos c6]
      refine ⟨?_, by simp⟩
      have b1 : Bd (n + 600) (m.app (2 + m.side) (w.take p.toNat)) := h.app _ (by rw [List.length_take]; omega) (take_byt hwb _)
      refine Bd.fail ?_
      unfold Mem.inPart
      show Bd (n + 2000) (if m.writing = true ∧ w.length < p.toNat then _ else _)
      split
      · exact (b1.app (k := 600) _ (by rw [List.length_take]; omega) (take_byt hwb _)).mono (by omega)
      · exact b1.mono (by omega)
    · rw [if_neg c6]
      refine ⟨?_, by simp⟩
      have b1 : Bd (n + 600) (m.app (2 + m.side) w) := h.app _ hw hwb
      have b2 : ∀ m2 : Mem, Bd (n + 2000) m2 → Bd (n + 2000) (((m2.wLast (m.last + 1)).wEnt (applyChanges m.entries cs)).wDur (m.last + 1)) := fun m2 z => ⟨z.six, z.len, z.byt, z.pen, z.pby, z.side, fit_of (by show _ ≤ ((m.last + 1 : Nat) : Int); omega) (by show ((m.last + 1 : Nat) : Int) ≤ _; omega), z.com, hent⟩
      refine b2 _ ?_
      split
      · exact (b1.app (k := 600) _ hw hwb).mono (by omega)
      · exact b1.mono (by omega)
  · have z : mTick m p l = .error (-1) := by unfold mTick; rw [if_neg c1, if_neg k]
    rw [z]
    trivial
theorem good_begin {n : Nat} {m : Mem} (h : Bd n m) : Good n (mBegin m) := by
  unfold mBegin
  split
  · trivial
  split
  · trivial
  have h1 := cp_len (t := m.last) h.ent
  have z : Bd (n + 2000) ((m.put (1 - m.side) []).put (2 + (1 - m.side)) []) := ((h.mono (by omega)).put _ (Nat.zero_le _) nil_byt).put _ (Nat.zero_le _) nil_byt
  exact ⟨⟨z.six, z.len, z.byt, by show (encodeFrame ((m.last : Int) :: flatS m.entries)).length ≤ 2000; omega, frame_byt _, z.side, z.last, z.com, z.ent⟩, by simp⟩
theorem good_write {n : Nat} {m : Mem} (h : Bd n m) (k : Int) : Good n (mWrite m k) := by
  unfold mWrite
  split
  · trivial
  split
  · trivial
  split
  · trivial
  have z : Bd (n + 2000) (m.app (1 - m.side) (m.pending.take k.toNat)) := h.app _ (by have := h.pen; rw [List.length_take]; omega) (take_byt h.pby _)
  exact ⟨⟨z.six, z.len, z.byt, by have := h.pen; show (m.pending.drop k.toNat).length ≤ 2000; rw [List.length_drop]; omega, drop_byt h.pby _, z.side, z.last, z.com, z.ent⟩, by simp⟩
theorem good_commit {n : Nat} {m : Mem} (h : Bd n m) (p : Int) : Good n (mCommit m p) := by
  unfold mCommit
  split
  · trivial
  split
  · trivial
  split
  · trivial
  split
  · trivial
  rename_i _ _ _ c
  have hb : big = 1000000000000000000 := rfl
  have h1 : (encodeFrame [((m.commit + 1 : Nat) : Int), ((1 - m.side : Nat) : Int)]).length ≤ 31 := frame_len [((m.commit + 1 : Nat) : Int), ((1 - m.side : Nat) : Int)]
  have h2 := frame_byt [((m.commit + 1 : Nat) : Int), ((1 - m.side : Nat) : Int)]
  show Good n (if enough p (encodeFrame [((m.commit + 1 : Nat) : Int), ((1 - m.side : Nat) : Int)]).length = false then _ else _)
  generalize encodeFrame [((m.commit + 1 : Nat) : Int), ((1 - m.side : Nat) : Int)] = w at h1 h2
  split
  · exact ⟨Bd.fail ((h.mono (by omega)).put _ (by rw [List.length_take]; omega) (take_byt h2 _)), by simp⟩
  · have z : Bd (n + 2000) (m.put (4 + (m.commit + 1) % 2) w) := (h.mono (by omega)).put _ (by omega) h2
    exact ⟨⟨z.six, z.len, z.byt, Nat.zero_le _, nil_byt, by show 1 - m.side ≤ 1; omega, z.last, fit_of (by show _ ≤ ((m.commit + 1 : Nat) : Int); omega) (by show ((m.commit + 1 : Nat) : Int) ≤ _; omega), z.ent⟩, by simp⟩
theorem commits_fit {n : Nat} {m : Mem} (h : Bd n m) : ∀ x ∈ mCommits m, Fit x.1 := by
  intro x hx
  unfold mCommits at hx
  have f4 := file_byt h 4
  have f5 := file_byt h 5
  cases e4 : readCommit (m.file 4) <;> cases e5 : readCommit (m.file 5) <;> rw [e4, e5] at hx
  · cases hx
  · rename_i y
    have : x = y := by simpa using hx
    rw [this]
    exact readCommit_fit f5 e5
  · rename_i y
    have : x = y := by simpa using hx
    rw [this]
    exact readCommit_fit f4 e4
  · rename_i y z
    change x ∈ (if y.1 < z.1 then [z, y] else [y, z]) at hx
    have h2 : x = y ∨ x = z := by
      split at hx
      · have : x = z ∨ x = y := by simpa using hx
        exact this.symm
      · simpa using hx
    rcases h2 with h | h
    · rw [h]; exact readCommit_fit f4 e4
    · rw [h]; exact readCommit_fit f5 e5
theorem good_recovered {n : Nat} {m : Mem} (h : Bd n m) {c side t : Nat} {s : Store} (hc : Fit c) (hs : side ≤ 1) (hr : readCheckpoint (m.file side) = some (t, s)) : Good n (.ok (mRecovered m c side t s)) := by
  have hfb := file_byt h (2 + side)
  have hfl := file_len h (2 + side)
  obtain ⟨_, rmem⟩ := replay_mem (framesOf (m.file (2 + side))) t 0
  have rlast := replay_last (framesOf (m.file (2 + side))) t 0
  have ht := readCp_fit (file_byt h side) hr
  unfold mRecovered
  have hrm : ∀ l ∈ (replayM t 0 (framesOf (m.file (2 + side)))).1, (∀ z ∈ l, Fit z) ∧ ∃ cs, parseChanges l.tail = some cs := fun l hl => by
    obtain ⟨h1, e, h2⟩ := rmem l hl
    exact ⟨(framesOf_fit hfb h2).2.2, tick_tail h1⟩
  generalize replayM t 0 (framesOf (m.file (2 + side))) = rp at rlast hrm
  have z : Bd (n + 2000) (m.put (2 + side) ((m.file (2 + side)).take rp.2)) := (h.mono (by omega)).put _ (by rw [List.length_take]; omega) (take_byt hfb _)
  have hfit : Fit ((t + rp.1.length : Nat) : Int) := by
    rcases rlast with e | ⟨l, hl, e⟩
    · rw [e]
      exact ht
    · obtain ⟨f, _⟩ := hrm l hl
      exact f _ (List.mem_of_mem_head? e)
  exact ⟨⟨z.six, z.len, z.byt, Nat.zero_le _, nil_byt, hs, hfit, hc, rows_ent _ _ (readCp_ent hr) fun x hx => (hrm x hx).2⟩, by simp⟩
theorem good_recover {n : Nat} {m : Mem} (h : Bd n m) : Good n (mRecover m) := by
  unfold mRecover
  split
  · trivial
  have h1 := commits_fit h
  have h2 := commits_side (m := m)
  generalize mCommits m = cs at h1 h2
  induction cs with
  | nil => trivial
  | cons x r ih =>
    obtain ⟨c, side⟩ := x
    have unf : mTry m ((c, side) :: r) = match readCheckpoint (m.file side) with | some (t, st) => .ok (mRecovered m c side t st) | none => mTry m r := rfl
    rw [unf]
    cases e : readCheckpoint (m.file side) with
    | none => exact ih (fun y hy => h1 y (List.mem_cons_of_mem _ hy)) (fun y hy => h2 y (List.mem_cons_of_mem _ hy))
    | some z => exact good_recovered h (h1 _ List.mem_cons_self) (h2 _ List.mem_cons_self) e
theorem good_same {n : Nat} {m : Mem} (h : Bd n m) {out : List Int} (ho : out.length ≤ 2000000) : Good n (.ok (m, out)) := ⟨h.mono (by omega), ho⟩
theorem good_writing {n : Nat} {m : Mem} (h : Bd n m) (c : Int) (nn row : List Int) : Good n (wOf m c nn row) := by
  unfold wOf
  split
  · exact ⟨(bd_anew ent_nil (fit_of (by decide) (by decide))).mono (by omega), by simp⟩
  split
  · exact good_tick h _ _
  split
  · exact good_begin h
  split
  · exact good_write h _
  split
  · exact good_commit h _
  split
  · unfold mCut
    split
    · trivial
    · exact ⟨(h.mono (by omega)).fail, by simp⟩
  · exact good_recover h
theorem good_store {n : Nat} {m : Mem} (h : Bd n m) (hn : n ≤ 1000000) (c : Int) (nn row : List Int) (hr : row.length ≤ 2000) : Good n (sOf m c nn row) := by
  unfold sOf
  split
  · unfold mGet
    split
    · trivial
    split
    · trivial
    split
    · trivial
    · exact good_same h (by simp)
  split
  · unfold mContents
    split
    · trivial
    · refine good_same h ?_
      have := h.ent.len
      rw [List.length_cons, flat_len]
      omega
  split
  · unfold mRead
    split
    · trivial
    · refine good_same h ?_
      have := file_len h (nn.getD 0 0).toNat
      rw [List.length_map]
      omega
  split
  · unfold mCorrupt
    split
    · trivial
    split
    · trivial
    · rename_i k1 k2
      refine ⟨?_, by simp⟩
      have hf := file_len h (nn.getD 0 0).toNat
      have hfb := file_byt h (nn.getD 0 0).toNat
      have k1' : ((decide (0 ≤ nn.getD 0 0) && decide (nn.getD 0 0 < 6)) && (decide (0 ≤ nn.getD 2 0) && decide (nn.getD 2 0 ≤ 255))) = true := by rwa [Bool.not_eq_false] at k1
      have k2' : (decide (0 ≤ nn.getD 1 0) && decide (nn.getD 1 0 < ((m.file (nn.getD 0 0).toNat).length : Int))) = true := by rwa [Bool.not_eq_false] at k2
      rw [Bool.and_eq_true, Bool.and_eq_true, Bool.and_eq_true, decide_eq_true_eq, decide_eq_true_eq, decide_eq_true_eq, decide_eq_true_eq] at k1'
      rw [Bool.and_eq_true, decide_eq_true_eq, decide_eq_true_eq] at k2'
      refine (h.mono (by omega)).put _ ?_ ?_
      · rw [List.length_append, List.length_append, List.length_take, List.length_drop, List.length_singleton]
        omega
      · intro x hx
        simp only [List.mem_append, List.mem_singleton] at hx
        rcases hx with (hx | hx) | hx
        · exact hfb x (List.mem_of_mem_take hx)
        · omega
        · exact hfb x (List.mem_of_mem_drop hx)
  split
  · unfold mImport
    split
    · trivial
    cases e : importText (toB row) with
    | error z => trivial
    | ok x =>
      obtain ⟨t, s⟩ := x
      obtain ⟨h1, h2⟩ := import_ok (by rw [toB_len]; omega) e
      exact ⟨(bd_anew h1 (fit_of (by omega) (by omega))).mono (by omega), by simp⟩
  split
  · exact good_same h (by simp)
  · unfold mList
    split
    · trivial
    · refine good_same h ?_
      have h1 := framesOf_len (file_byt h (2 + m.side))
      have h2 := file_len h (2 + m.side)
      have : ∀ l : List (List Int × Nat), (l.flatMap fun f => match parseTickRow f.1 with | some e => [(e.1 : Int), (e.2.length : Int)] | none => []).length ≤ 2 * l.length := by
        intro l
        induction l with
        | nil => simp
        | cons y l ih =>
          rw [List.flatMap_cons, List.length_append, List.length_cons]
          have : (match parseTickRow y.1 with | some e => [(e.1 : Int), (e.2.length : Int)] | none => []).length ≤ 2 := by
            cases parseTickRow y.1 <;> simp
          omega
      exact Nat.le_trans (this (framesOf (m.file (2 + m.side)))) (by omega)
theorem good_lists {n : Nat} {m : Mem} (h : Bd n m) (c : Int) (row : List Int) (hr : row.length ≤ 2000) : Good n ((lOf c row).map fun l => (m, l)) := by
  unfold lOf
  split
  · refine good_same h ?_
    unfold mCount
    split <;> simp
  split
  · exact good_same h (by simp)
  split
  · split
    · refine good_same h ?_
      have := frame_len row
      rw [List.length_map]
      omega
    · trivial
  · refine good_same h ?_
    unfold mPreview
    cases e : importText (toB row) with
    | error z => simp
    | ok x =>
      obtain ⟨t, s⟩ := x
      obtain ⟨h1, _⟩ := import_ok (by rw [toB_len]; omega) e
      have := h1.len
      show ([1, (t : Int)] ++ flatS s).length ≤ 2000000
      rw [List.length_append, flat_len]
      simp
      omega
theorem good_cOf {n : Nat} {m : Mem} (h : Bd n m) (hn : n ≤ 1000000) (c : Int) (nn row : List Int) (hr : row.length ≤ 2000) : Good n (cOf m c nn row) := by
  unfold cOf
  split
  · exact good_writing h c nn row
  split
  · exact good_lists h c row hr
  · exact good_store h hn c nn row hr
end Ts
/-! ## TsL5 -/
namespace Ts
open Vbwsai
theorem whole_id (c : List (List Int)) : PyVbwsai.whole c = c := by
  unfold PyVbwsai.whole
  split <;> rfl
theorem wholes_id (l : List (List (List Int))) : l.map PyVbwsai.whole = l := by
  rw [show PyVbwsai.whole = id from funext whole_id, List.map_id]
def NUMS : List Nat := [0, 1, 0, 1, 1, 0, 0, 1, 0, 1, 3, 0, 0, 0, 0, 0, 0, 0]
def hasL (p : Int) : Bool := decide (p = 1 ∨ p = 11 ∨ p = 13 ∨ p = 15 ∨ p = 16 ∨ p = 17)
theorem shape_in : ∀ k : Nat, k < 18 → PyVbwsai.shape (k : Int) = some (NUMS.getD k 0, if hasL (k : Int) = true then 1 else 0) := by decide
theorem shape_out {p : Int} (h : ¬ (0 ≤ p ∧ p ≤ 17)) : PyVbwsai.shape p = none := by
  unfold PyVbwsai.shape
  repeat rw [if_neg (by omega)]
/-- one call of the list ns, at i -/
theorem one_call {ns : List Int} {i f : Nat} {raw : List (List (List Int))} (h : PyFlat.calls PyVbwsai.shape f (ns.drop i) = some raw) (hi : i < ns.length) :
    ∃ (f' : Nat) (k : Nat) (rest : List (List (List Int))), f = f' + 1 ∧ k < 18 ∧ ns[i]? = some (k : Int) ∧ i + 1 + NUMS.getD k 0 ≤ ns.length ∧
      ((hasL (k : Int) = false ∧ raw = [(k : Int) :: (ns.drop (i + 1)).take (NUMS.getD k 0)] :: rest ∧ PyFlat.calls PyVbwsai.shape f' (ns.drop (i + 1 + NUMS.getD k 0)) = some rest) ∨
       (hasL (k : Int) = true ∧ ∃ m : Nat, ns[i + 1 + NUMS.getD k 0]? = some (m : Int) ∧ i + 1 + NUMS.getD k 0 + 1 + m ≤ ns.length ∧
          raw = [(k : Int) :: (ns.drop (i + 1)).take (NUMS.getD k 0), (ns.drop (i + 1 + NUMS.getD k 0 + 1)).take m] :: rest ∧ PyFlat.calls PyVbwsai.shape f' (ns.drop (i + 1 + NUMS.getD k 0 + 1 + m)) = some rest)) := by
  rw [List.drop_eq_getElem_cons hi] at h
  cases f with
  | zero => cases h
  | succ f =>
    unfold PyFlat.calls at h
    cases ec : PyFlat.call PyVbwsai.shape (ns[i] :: ns.drop (i + 1)) with
    | none => rw [ec] at h; cases h
    | some ct =>
      obtain ⟨c, t⟩ := ct
      rw [ec] at h
      change (match PyFlat.calls PyVbwsai.shape f t with | none => none | some cs => some (c :: cs)) = some raw at h
      cases er : PyFlat.calls PyVbwsai.shape f t with
      | none => rw [er] at h; cases h
      | some rest =>
        rw [er] at h
        have hraw := Option.some.inj h
        by_cases hp : 0 ≤ ns[i] ∧ ns[i] ≤ 17
        · have ek : ns[i] = ((ns[i].toNat : Nat) : Int) := (Int.toNat_of_nonneg hp.1).symm
          have hk : ns[i].toNat < 18 := by omega
          have hat : ns[i]? = some ((ns[i].toNat : Nat) : Int) := by rw [List.getElem?_eq_getElem hi, ← ek]
          generalize ns[i].toNat = k at ek hk hat
          unfold PyFlat.call at ec
          dsimp only at ec
          rw [ek, shape_in k hk] at ec
          change (if (ns.drop (i + 1)).length < NUMS.getD k 0 then none else match PyFlat.rows (if hasL (k : Int) = true then 1 else 0) ((ns.drop (i + 1)).drop (NUMS.getD k 0)) with
            | none => none
            | some (xs, t) => some (((k : Int) :: (ns.drop (i + 1)).take (NUMS.getD k 0)) :: xs, t)) = some (c, t) at ec
          refine ⟨f, k, rest, rfl, hk, hat, ?_⟩
          generalize NUMS.getD k 0 = n at ec ⊢
          rw [List.length_drop] at ec
          by_cases hl : ns.length - (i + 1) < n
          · rw [if_pos hl] at ec
            cases ec
          · rw [if_neg hl, List.drop_drop] at ec
            refine ⟨by omega, ?_⟩
            cases hL : hasL (k : Int) with
            | false =>
              rw [hL] at ec
              have e2 := Option.some.inj ec
              have e3 := (Prod.mk.inj e2).1
              have e4 := (Prod.mk.inj e2).2
              refine .inl ⟨rfl, ?_, ?_⟩
              · rw [← hraw, ← e3]
              · rw [e4]
                exact er
            | true =>
              rw [hL] at ec
              have hd : i + 1 + n ≤ ns.length := by omega
              by_cases hz : i + 1 + n < ns.length
              · rw [List.drop_eq_getElem_cons hz] at ec
                change (match (match (if 0 ≤ ns[i + 1 + n] ∧ ns[i + 1 + n].toNat ≤ (ns.drop (i + 1 + n + 1)).length then some ((ns.drop (i + 1 + n + 1)).take ns[i + 1 + n].toNat, (ns.drop (i + 1 + n + 1)).drop ns[i + 1 + n].toNat) else none) with
                    | none => none
                    | some (x, s) => some ([x], s)) with
                  | none => none
                  | some (xs, t) => some (((k : Int) :: (ns.drop (i + 1)).take n) :: xs, t)) = some (c, t) at ec
                by_cases hm : 0 ≤ ns[i + 1 + n] ∧ ns[i + 1 + n].toNat ≤ (ns.drop (i + 1 + n + 1)).length
                · rw [if_pos hm] at ec
                  have e2 := Option.some.inj ec
                  have e3 := (Prod.mk.inj e2).1
                  have e4 := (Prod.mk.inj e2).2
                  have hm2 := hm.2
                  rw [List.length_drop] at hm2
                  refine .inr ⟨rfl, ns[i + 1 + n].toNat, ?_, by omega, ?_, ?_⟩
                  · rw [List.getElem?_eq_getElem hz, Int.toNat_of_nonneg hm.1]
                  · rw [← hraw, ← e3]
                  · rw [List.drop_drop] at e4
                    rw [e4]
                    exact er
                · rw [if_neg hm] at ec
                  cases ec
              · rw [List.drop_eq_nil_of_le (by omega)] at ec
                cases ec
        · unfold PyFlat.call at ec
          dsimp only at ec
          rw [shape_out hp] at ec
          cases ec
theorem no_call {ns : List Int} {i f : Nat} {raw : List (List (List Int))} (h : PyFlat.calls PyVbwsai.shape f (ns.drop i) = some raw) (hi : ns.length ≤ i) : raw = [] := by
  rw [List.drop_eq_nil_of_le hi] at h
  unfold PyFlat.calls at h
  exact (Option.some.inj h).symm
/-! ### a call, its parts, its law -/
def cc (r : List (List Int)) : Int := (r.headD []).headD 0
def nn (r : List (List Int)) : List Int := (r.headD []).tail
def rr (r : List (List Int)) : List Int := r.tail.headD []
theorem lim {z : Int} (h : VbwsaiNeutral.isWithinLimit z = true) : -maxValue ≤ z ∧ z ≤ maxValue := by
  unfold VbwsaiNeutral.isWithinLimit at h
  rw [Bool.and_eq_true] at h
  exact ⟨of_decide_eq_true h.1, of_decide_eq_true h.2⟩
theorem lim0 : ∀ x ∈ ([] : List Int), -maxValue ≤ x ∧ x ≤ maxValue := by
  intro x hx
  cases hx
theorem lim1 {z : Int} (h : VbwsaiNeutral.isWithinLimit z = true) : ∀ x ∈ [z], -maxValue ≤ x ∧ x ≤ maxValue := by
  intro x hx
  have : x = z := by simpa using hx
  rw [this]
  exact lim h
theorem rowOk {k : Nat} {l : List Int} (h : VbwsaiNeutral.isRow k l = true) : l.length ≤ k ∧ ∀ x ∈ l, -maxValue ≤ x ∧ x ≤ maxValue := by
  unfold VbwsaiNeutral.isRow at h
  rw [Bool.and_eq_true] at h
  exact ⟨of_decide_eq_true h.1, fun x hx => lim (List.all_eq_true.mp h.2 x hx)⟩
theorem bytesOk {k : Nat} {l : List Int} (h : VbwsaiNeutral.isByteList k l = true) : l.length ≤ k ∧ ∀ x ∈ l, 0 ≤ x ∧ x < 256 := by
  unfold VbwsaiNeutral.isByteList at h
  rw [Bool.and_eq_true] at h
  refine ⟨of_decide_eq_true h.1, fun x hx => ?_⟩
  have := List.all_eq_true.mp h.2 x hx
  rw [Bool.and_eq_true] at this
  exact ⟨of_decide_eq_true this.1, of_decide_eq_true this.2⟩
theorem bytesLim {l : List Int} (h : ∀ x ∈ l, 0 ≤ x ∧ x < 256) : ∀ x ∈ l, -maxValue ≤ x ∧ x ≤ maxValue := fun x hx => by
  have := h x hx
  have hv : maxValue = 1000000000000000000 := rfl
  omega
theorem ok0 (c : Int) (h : c = 0 ∨ c = 2 ∨ c = 5 ∨ c = 6 ∨ c = 8 ∨ c = 12 ∨ c = 14) : CallOk c [] [] :=
  ⟨by omega, by omega, fun _ => by omega, fun _ => by omega, lim0, lim0, Nat.zero_le _, fun _ => Nat.zero_le _, fun _ x hx => by cases hx⟩
theorem ok1 (c : Int) (h : c = 3 ∨ c = 4 ∨ c = 7 ∨ c = 9) {x : Int} (hx : VbwsaiNeutral.isWithinLimit x = true) : CallOk c [x] [] :=
  ⟨by omega, by omega, fun _ => rfl, fun _ => by omega, lim1 hx, lim0, Nat.zero_le _, fun _ => Nat.zero_le _, fun _ x hx => by cases hx⟩
theorem okB (c : Int) (h : c = 11 ∨ c = 13 ∨ c = 15 ∨ c = 17) {l : List Int} (hl : VbwsaiNeutral.isByteList 2000 l = true) : CallOk c [] l :=
  ⟨by omega, by omega, fun _ => by omega, fun _ => by omega, lim0, bytesLim (bytesOk hl).2, (bytesOk hl).1, fun _ => by omega, fun _ => (bytesOk hl).2⟩
/-- one call: the object does what the specification does -/
def CLaw (r : List (List Int)) : Prop := CallOk (cc r) (nn r) (rr r) ∧ ∀ s, Sz s → (∀ i, ∀ x ∈ (toM s).file i, x < 256) →
  told (toM s) (cOf (toM s) (cc r) (nn r) (rr r)) = (toM (VbwsaiNeutral.step s r).1, (VbwsaiNeutral.step s r).2) ∧ Sz (VbwsaiNeutral.step s r).1
theorem call_law {r : List (List Int)} (h : VbwsaiNeutral.asked1 r = true) : CLaw r := by
  unfold VbwsaiNeutral.asked1 at h
  split at h
  · exact ⟨ok0 0 (by decide), fun s hz hb => law_reset s⟩
  · rename_i p row
    rw [Bool.and_eq_true] at h
    obtain ⟨h1, h2⟩ := rowOk h.2
    exact ⟨⟨by show (0 : Int) ≤ 1; decide, by show (1 : Int) ≤ 17; decide, fun _ => rfl, fun z => absurd (show (1 : Int) = 10 from z) (by decide), lim1 h.1, h2, by show row.length ≤ 2000; omega, fun _ => h1, fun z => absurd (show (1 : Int) = 11 ∨ (1 : Int) = 13 ∨ (1 : Int) = 15 ∨ (1 : Int) = 17 from z) (by decide)⟩, fun s hz hb => law_tick hz p row⟩
  · exact ⟨ok0 2 (by decide), fun s hz hb => law_begin hz⟩
  · exact ⟨ok1 3 (by decide) h, fun s hz hb => law_write hz _⟩
  · exact ⟨ok1 4 (by decide) h, fun s hz hb => law_commit hz _⟩
  · exact ⟨ok0 5 (by decide), fun s hz hb => law_cut hz⟩
  · exact ⟨ok0 6 (by decide), fun s hz hb => law_recover hz hb⟩
  · exact ⟨ok1 7 (by decide) h, fun s hz hb => law_get hz _⟩
  · exact ⟨ok0 8 (by decide), fun s hz hb => law_contents hz⟩
  · exact ⟨ok1 9 (by decide) h, fun s hz hb => law_read hz _⟩
  · rename_i i p b
    rw [Bool.and_eq_true, Bool.and_eq_true] at h
    refine ⟨⟨by show (0 : Int) ≤ 10; decide, by show (10 : Int) ≤ 17; decide, fun z => absurd (show (10 : Int) = 1 ∨ (10 : Int) = 3 ∨ (10 : Int) = 4 ∨ (10 : Int) = 7 ∨ (10 : Int) = 9 from z) (by decide), fun _ => rfl, ?_, lim0, Nat.zero_le _, fun _ => Nat.zero_le _, fun _ x hx => by cases hx⟩, fun s hz hb => law_corrupt hz i p b⟩
    intro x hx
    have : x = i ∨ x = p ∨ x = b := by simpa [nn] using hx
    rcases this with e | e | e <;> rw [e]
    · exact lim h.1
    · exact lim h.2.1
    · exact lim h.2.2
  · exact ⟨okB 11 (by decide) h, fun s hz hb => law_import hz _⟩
  · exact ⟨ok0 12 (by decide), fun s hz hb => law_status hz⟩
  · rename_i t
    refine ⟨okB 13 (by decide) h, fun s hz hb => ?_⟩
    have e := count_eq (toB_byt (bytesOk h).2)
    refine ⟨?_, hz⟩
    show (toM s, 0 :: mCount (toB t)) = _
    rw [e]
    rfl
  · exact ⟨ok0 14 (by decide), fun s hz hb => law_list hz hb⟩
  · exact ⟨okB 15 (by decide) h, fun s hz hb => ⟨rfl, hz⟩⟩
  · rename_i row
    obtain ⟨h1, h2⟩ := rowOk h
    refine ⟨⟨by show (0 : Int) ≤ 16; decide, by show (16 : Int) ≤ 17; decide, fun z => absurd (show (16 : Int) = 1 ∨ (16 : Int) = 3 ∨ (16 : Int) = 4 ∨ (16 : Int) = 7 ∨ (16 : Int) = 9 from z) (by decide), fun z => absurd (show (16 : Int) = 10 from z) (by decide), lim0, h2, by show row.length ≤ 2000; omega, fun _ => h1, fun z => absurd (show (16 : Int) = 11 ∨ (16 : Int) = 13 ∨ (16 : Int) = 15 ∨ (16 : Int) = 17 from z) (by decide)⟩, fun s hz hb => ?_⟩
    have e : step s (.frameOf row) = if 40 < row.length ∨ (row.all fun v => inRange v (-maxValue) maxValue) = false then fail s 1 else succeed s (toInts (encodeFrame row)) := rfl
    have ha : (row.all fun v => inRange v (-maxValue) maxValue) = true := by
      rw [List.all_eq_true]
      intro x hx
      exact decide_eq_true (h2 x hx)
    show Law s ((if row.length ≤ 40 then .ok ((encodeFrame row).map fun (n : Nat) => (n : Int)) else .error (-1) : Except Int (List Int)).map fun l => (toM s, l)) (.frameOf row)
    by_cases c : row.length ≤ 40
    · rw [if_neg (by rw [ha]; intro z; rcases z with z | z; omega; cases z)] at e
      rw [if_pos c]
      unfold Law
      rw [e]
      exact ⟨rfl, hz⟩
    · rw [if_pos (.inl (by omega))] at e
      rw [if_neg c]
      exact law_fail hz rfl e
  · rename_i t
    refine ⟨okB 17 (by decide) h, fun s hz hb => ?_⟩
    have e : step s (.previewImport (toB t)) = match importText (toB t) with
      | .error n => succeed s [0, (n : Int)]
      | .ok (t, w) => succeed s ([1, (t : Int)] ++ w.flatMap fun x => [(x.1 : Int), x.2]) := rfl
    show Law s (.ok (toM s, mPreview (toB t))) (.previewImport (toB t))
    unfold Law mPreview
    rw [e]
    cases importText (toB t) with
    | error z => exact ⟨rfl, hz⟩
    | ok x => exact ⟨rfl, hz⟩
  · cases h
end Ts
/-! ## TsP13 -/
namespace Ts
open PySem PySem.Spec PyProof.Rows L2
/-- the steps that leave no choice -/
local macro_rules | `(tactic| tm_at "x") => `(tactic| repeat (first | (with_reducible refine x_var ?_; refine ⟨_, rfl, ?_⟩) | with_reducible refine x_seq ?_ | with_reducible refine x_asg ?_ | with_reducible refine x_gname ?_ | with_reducible refine x_op ?_ | with_reducible refine x_c ?_ | with_reducible refine x_I0 ?_ | with_reducible refine x_if ?_ | with_reducible refine x_test ?_ | with_reducible refine x_bl ?_ | with_reducible refine x_blV ?_ | with_reducible refine x_ret ?_ | with_reducible refine x_retN ?_ | with_reducible refine x_drop ?_ | with_reducible refine x_cons ?_ | with_reducible refine x_nil ?_ | with_reducible refine x_call ?_ | with_reducible refine x_cb ?_ | with_reducible refine x_tB ?_ | with_reducible refine x_not ?_ | with_reducible refine x_and ?_ | with_reducible refine x_or ?_ | with_reducible refine x_andV ?_ | with_reducible refine x_orV ?_ | with_reducible refine x_notV ?_ | with_reducible refine x_chain ?_ | with_reducible refine x_un ?_ | with_reducible refine x_U ?_ | with_reducible refine x_mulL (by decide) ?_ | with_reducible refine x_mulR (by decide) ?_ | with_reducible refine x_isN ?_ | with_reducible refine x_notN ?_ | with_reducible refine x_sl ?_ | with_reducible refine x_noPart ?_ | with_reducible refine x_part ?_ | with_reducible refine x_int ?_ | with_reducible refine x_bm ?_ | with_reducible refine x_ipI ?_ | with_reducible refine x_next ?_ | with_reducible refine x_refN ?_ | with_reducible refine x_intN ?_ | with_reducible refine x_nonN ?_ | with_reducible refine x_refNN ?_ | with_reducible refine x_nonNN ?_ | with_reducible refine x_yes ?_ | with_reducible refine x_no ?_ | with_reducible refine x_gcons ?_ | with_reducible refine x_gnil ?_ | with_reducible refine x_lst ?_ | with_reducible refine x_tup ?_ | with_reducible refine x_dnewK ?_ | with_reducible refine x_for ?_ | with_reducible refine x_iList ?_ | with_reducible refine x_iTup ?_ | with_reducible refine x_iEnum ?_ | with_reducible refine x_iZip ?_ | with_reducible refine x_iRng3 ?_ | with_reducible refine x_lc ?_ | with_reducible refine x_dput ?_ | with_reducible refine x_dget ?_ | with_reducible refine x_din ?_ | with_reducible refine x_dpop ?_ | with_reducible refine x_fld ?_ | with_reducible refine x_sfld ?_ | with_reducible refine x_meth ?_ | with_reducible refine x_gsub ?_ | with_reducible refine x_raiseO ?_ | ((with_reducible refine x_self (by assumption) ?_ ?_); exact fun _ _ _ _ => rfl) | with_reducible refine x_gPower (by assumption) (by assumption) ?_ | with_reducible refine x_gDur (by assumption) (by assumption) ?_ | with_reducible refine x_gLast (by assumption) (by assumption) ?_ | with_reducible refine x_gSide (by assumption) (by assumption) ?_ | with_reducible refine x_gCommit (by assumption) (by assumption) ?_ | with_reducible refine x_gWrit (by assumption) (by assumption) ?_ | with_reducible refine x_gFiles (by assumption) (by assumption) ?_ | (with_reducible refine x_aug ?_; refine ⟨_, rfl, ?_⟩)))
theorem asked_out {ns : List Int} (h : PyVbwsai.answers_asked ns = true) : ∃ raw, PyFlat.calls PyVbwsai.shape ns.length ns = some raw ∧ raw.length ≤ 200 ∧ (∀ r ∈ raw, VbwsaiNeutral.asked1 r = true) ∧
    PyVbwsai.answers ns = PyFlat.told (PyFlat.played VbwsaiNeutral.step VbwsaiNeutral.start raw) ∧ (PyVbwsai.answers ns).length ≤ 10000000 := by
  unfold PyVbwsai.answers_asked at h
  cases e : PyFlat.calls PyVbwsai.shape ns.length ns with
  | none => rw [e] at h; cases h
  | some raw =>
    rw [e] at h
    simp only [Bool.and_eq_true, wholes_id] at h
    obtain ⟨⟨⟨⟨h1, h2⟩, h3⟩, h4⟩, h5⟩ := h
    have ea : PyVbwsai.answers ns = PyFlat.told (PyFlat.played VbwsaiNeutral.step VbwsaiNeutral.start raw) := by
      unfold PyVbwsai.answers PyVbwsai.calls
      rw [e]
      show PyFlat.told (PyFlat.played VbwsaiNeutral.step VbwsaiNeutral.start (raw.map PyVbwsai.whole)) = _
      rw [wholes_id]
    refine ⟨raw, rfl, of_decide_eq_true h2, ?_, ea, of_decide_eq_true h5⟩
    unfold VbwsaiNeutral.asked at h4
    rw [Bool.and_eq_true] at h4
    exact fun r hr => List.all_eq_true.mp h4.1 r hr
theorem del_upd {H : Hp} {g : Addr} {o : HO} : del (upd H g o) g = del H g := by
  funext b
  by_cases c : b = g
  · rw [c, del_same, del_same]
  · rw [del_ne c, del_ne c, upd_ne c]
theorem del_none {H : Hp} {g : Addr} (h : H g = none) : del H g = H := by
  funext b
  by_cases c : b = g
  · rw [c, del_same, h]
  · rw [del_ne c]
theorem same_del {H H' : Hp} {g : Addr} (s : Same H H') : Same (del H g) (del H' g) := fun b o e => by
  have c : b ≠ g := fun z => by
    rw [z, del_same] at e
    cases e
  rw [del_ne c] at e ⊢
  exact s b o e
theorem nums_at : ∀ k : Nat, k < 18 → (([0, 1, 0, 1, 1, 0, 0, 1, 0, 1, 3, 0, 0, 0, 0, 0, 0, 0] : List Int))[k]? = some ((NUMS.getD k 0 : Nat) : Int) := by decide
section
variable {K : PySem.W.Frag} {mg : Str → Option Value}
theorem sq_keep {H H' : Hp} {a : Addr} {xs : List V} (h : SqL K H a xs) (k : ∀ o, H a = some o → (∀ C dx fs, o ≠ .ins C dx fs) → (∀ l : List V, o = .lst l → l = xs) → H' a = some o) : SqL K H' a xs := by
  rcases h with (h | ⟨o, h⟩) | h
  · exact .inl (.inl (k _ h (fun _ _ _ => by simp) fun l e => by injection e with e; exact e.symm))
  · exact .inl (.inr ⟨o, k _ h (fun _ _ _ => by simp) fun l e => by cases e⟩)
  · exact .inr h
theorem sq_same {H H' : Hp} {a : Addr} {xs : List V} (h : SqL K H a xs) (s : Same H H') : SqL K H' a xs := sq_keep h fun o e _ _ => s _ _ e
/-- the list of calls stands, whatever is done to the list at fd -/
def Argl (K : PySem.W.Frag) (a fd : Addr) (ns : List Int) (H : Hp) : Prop := (∀ H', SqL K H' a (iv ns)) ∨ (a ≠ fd ∧ SqL K H a (iv ns))
theorem Argl.sq {a fd : Addr} {ns : List Int} {H : Hp} (h : Argl K a fd ns H) : SqL K H a (iv ns) := by
  rcases h with h | h
  · exact h H
  · exact h.2
theorem Argl.keep {a fd : Addr} {ns : List Int} {H H' : Hp} (h : Argl K a fd ns H) (k : ∀ o, H a = some o → a ≠ fd → (∀ C dx fs, o ≠ .ins C dx fs) → (∀ l : List V, o = .lst l → l = iv ns) → H' a = some o) : Argl K a fd ns H' := by
  rcases h with h | ⟨h1, h2⟩
  · exact .inl h
  · exact .inr ⟨h1, sq_keep h2 fun o e => k o e h1⟩
theorem Argl.same {a fd : Addr} {ns : List Int} {H H' : Hp} (h : Argl K a fd ns H) (s : Same H H') : Argl K a fd ns H' := h.keep fun o e _ _ _ => s _ _ e
theorem x_make {C : Addr} {sp : Sp} {E : XK} {t : TA} {σ : L2.St} {H : Hp} {Q : VK} (h : t σ H fun vs H1 => ∀ x dx, H1 x = none → H1 dx = none → dx ≠ x → sp (.ref x :: (vs ++ [])) (upd (upd H1 dx (.own x)) x (.ins C dx [])) (fun v H2 => v = .non ∧ Q (.ref x) H2) E) : tMake C sp [] E t σ H Q := h
/-- what a turn's end does -/
theorem answers_tail {D : Ends} {H : Hp} {a st fd F qn qr : Addr} {v3 v8 v9 : Option V} {k : Int} {e : Nat} {m : Mem} {n row fs : List Int} (T : Tx K mg) (hm : MemAt K (del H fd) st F m) (hb : Bd most m) (hfd : H fd = some (.lst (iv fs)))
    (hn : H qn = some (.lst (iv n))) (hr : H qr = some (.lst (iv row))) (nn : qn ≠ fd) (nr : qr ≠ fd) (ok : CallOk k n row) (out : ∀ m' o, cOf m k n row = .ok (m', o) → o.length ≤ 15000000) (tot : fs.length + 1 + (told m (cOf m k n row)).2.length ≤ 10000000)
    (ns : List Int) (hs : Argl K a fd ns H) (hD : ∀ (H' : Hp) (F' q : Addr), MemAt K (del H' fd) st F' (told m (cOf m k n row)).1 → H' fd = some (.lst (iv (fs ++ (((told m (cOf m k n row)).2.length : Int) :: (told m (cOf m k n row)).2)))) → Argl K a fd ns H' →
      D.nx [some (.ref a), some (.ref st), some (.ref fd), some (.int (e : Int)), some (.int k), some (.int (e : Int)), some (.ref qn), some (.ref qr), v8, some (.ref q)] H') :
    (tSeq (tAsg (tCall (sp_answered K) [] E0 (tCons (tVar 1) (tCons (tVar 4) (tCons (tVar 6) (tCons (tVar 7) tNil))))) (gName 9))
  (tSeq (tDrop (tBM K "list" rAppend (tVar 2) (tCons (tCB (rLenS K) (tCons (tVar 9) tNil)) tNil)))
  (tSeq (tDrop (tBM K "list" rExtend (tVar 2) (tCons (tVar 9) tNil)))
  (tAsg (tVar 5) (gName 3)))) : TS) D [some (.ref a), some (.ref st), some (.ref fd), v3, some (.int k), some (.int (e : Int)), some (.ref qn), some (.ref qr), v8, v9] H := by
  tm_at "x"
  refine ⟨fd, iv fs, hfd, st, F, qn, qr, m, k, n, row, rfl, hm, hb, by rw [del_ne nn]; exact hn, by rw [del_ne nr]; exact hr, ok, out, fun H1 F1 q f1 hm1 hq gone => ?_⟩
  have qf : q ≠ fd := ne_of_none hq gone
  have keepS : ∀ {o : HO}, Argl K a fd ns (upd H1 fd o) := fun {u} => hs.keep fun o z naf n1 n2 => by
    rw [upd_ne naf]
    have z' : del H fd a = some o := by rw [del_ne naf]; exact z
    refine f1 _ _ z' ?_ ?_
    · obtain ⟨_, _, h1⟩ := hm.objS
      exact ne_of z' h1 (n1 _ _ _)
    · obtain ⟨fsx, h1, h2⟩ := hm.filS
      refine ne_of z' h1 fun z2 => ?_
      exact h2 ns (n2 _ z2)
  generalize (told m (cOf m k n row)).2 = ans at tot hD hq
  generalize (told m (cOf m k n row)).1 = m1 at hD hm1
  have hq2 : ∀ {o : HO}, upd H1 fd o q = some (.lst (iv ans)) := fun {o} => by rw [upd_ne qf]; exact hq
  tm_at "x"
  refine x_tyL upd_same ?_
  tm_at "x"
  refine x_lenL hq2 ?_
  rw [iv_len]
  tm_at "x"
  refine x_append upd_same (szl (by rw [iv_len]; omega)) ?_
  rw [upd_upd, iv_app]
  tm_at "x"
  refine x_tyL upd_same ?_
  tm_at "x"
  refine x_extend upd_same hq2 (sz (by rw [iv_len, iv_len, List.length_append]; simp; omega)) ?_
  rw [upd_upd, iv_cat]
  tm_at "x"
  refine hD _ F1 q ?_ ?_ keepS
  · rw [del_upd, del_none gone]
    exact hm1
  · rw [upd_same, List.append_assoc]
    rfl
/-- what stands ahead of each turn -/
def WA (K : PySem.W.Frag) (a st fd : Addr) (ns : List Int) (m : Nat) (σ : L2.St) (H' : Hp) : Prop := ∃ (i f : Nat) (v4 v5 v6 v7 v8 v9 : Option V) (s : Vbwsai.State) (rest : List (List (List Int))) (fs : List Int) (F : Addr), m = ns.length - i ∧ σ = [some (.ref a), some (.ref st), some (.ref fd), some (.int (i : Int)), v4, v5, v6, v7, v8, v9] ∧
    Argl K a fd ns H' ∧ MemAt K (del H' fd) st F (toM s) ∧ Sz s ∧ Bd (2000 * (201 - rest.length)) (toM s) ∧ PyFlat.calls PyVbwsai.shape f (ns.drop i) = some rest ∧ (∀ r ∈ rest, VbwsaiNeutral.asked1 r = true) ∧ rest.length ≤ 200 ∧ H' fd = some (.lst (iv fs)) ∧
    fs ++ PyFlat.told (PyFlat.played VbwsaiNeutral.step s rest) = PyVbwsai.answers ns
/-- one turn, the call read -/
theorem answers_turn {D : Ends} {H : Hp} {a st fd F qn qr : Addr} {v3 v8 v9 : Option V} {i e f' : Nat} {s : Vbwsai.State} {c : List (List Int)} {rest' : List (List (List Int))} {fs ns : List Int} (T : Tx K mg) (hs : Argl K a fd ns H) (hm : MemAt K (del H fd) st F (toM s)) (hz : Sz s) (hb : Bd (2000 * (201 - (c :: rest').length)) (toM s))
    (hc : PyFlat.calls PyVbwsai.shape f' (ns.drop e) = some rest') (ha : ∀ r ∈ c :: rest', VbwsaiNeutral.asked1 r = true) (hlen : (c :: rest').length ≤ 200) (hfd : H fd = some (.lst (iv fs))) (htot : fs ++ PyFlat.told (PyFlat.played VbwsaiNeutral.step s (c :: rest')) = PyVbwsai.answers ns)
    (hall : (PyVbwsai.answers ns).length ≤ 10000000) (hie : i < e) (hil : i < ns.length) (hn : H qn = some (.lst (iv (nn c)))) (hr : H qr = some (.lst (iv (rr c)))) (nnf : qn ≠ fd) (nrf : qr ≠ fd)
    (hD : ∀ σ H', (∃ m', m' < ns.length - i ∧ WA K a st fd ns m' σ H') → D.nx σ H') :
    (tSeq (tAsg (tCall (sp_answered K) [] E0 (tCons (tVar 1) (tCons (tVar 4) (tCons (tVar 6) (tCons (tVar 7) tNil))))) (gName 9))
  (tSeq (tDrop (tBM K "list" rAppend (tVar 2) (tCons (tCB (rLenS K) (tCons (tVar 9) tNil)) tNil)))
  (tSeq (tDrop (tBM K "list" rExtend (tVar 2) (tCons (tVar 9) tNil)))
  (tAsg (tVar 5) (gName 3)))) : TS) D [some (.ref a), some (.ref st), some (.ref fd), v3, some (.int (cc c)), some (.int (e : Int)), some (.ref qn), some (.ref qr), v8, v9] H := by
  obtain ⟨ok, law⟩ := call_law (ha c List.mem_cons_self)
  obtain ⟨l1, l2⟩ := law s hz (file_byt hb)
  have hll : (c :: rest').length = rest'.length + 1 := rfl
  have good := good_cOf hb (by omega) (cc c) (nn c) (rr c) (by obtain ⟨_, _, _, _, _, _, o7, _, _⟩ := ok; exact o7)
  have etot : PyFlat.told (PyFlat.played VbwsaiNeutral.step s (c :: rest')) = (((VbwsaiNeutral.step s c).2.length : Int) :: (VbwsaiNeutral.step s c).2) ++ PyFlat.told (PyFlat.played VbwsaiNeutral.step (VbwsaiNeutral.step s c).1 rest') := rfl
  rw [etot] at htot
  have t1 : (told (toM s) (cOf (toM s) (cc c) (nn c) (rr c))).1 = toM (VbwsaiNeutral.step s c).1 := by rw [l1]
  have t2 : (told (toM s) (cOf (toM s) (cc c) (nn c) (rr c))).2 = (VbwsaiNeutral.step s c).2 := by rw [l1]
  have hbn : Bd (2000 * (201 - rest'.length)) (toM (VbwsaiNeutral.step s c).1) := by
    rw [← t1]
    cases e2 : cOf (toM s) (cc c) (nn c) (rr c) with
    | error z => exact hb.mono (by omega)
    | ok x =>
      obtain ⟨m', out⟩ := x
      rw [e2] at good
      exact good.1.mono (by omega)
  refine answers_tail T hm (hb.mono (by unfold most; omega)) hfd hn hr nnf nrf ok (fun m' o z => ?_) ?_ ns hs fun H' F' q hm' hfd' hs' => ?_
  · rw [z] at good
    have := good.2
    omega
  · rw [t2]
    have := congrArg List.length htot
    rw [List.length_append, List.length_append, List.length_cons] at this
    omega
  · rw [t1] at hm'
    rw [t2] at hfd'
    refine hD _ _ ⟨ns.length - e, by omega, e, f', _, _, _, _, _, _, (VbwsaiNeutral.step s c).1, rest', _, F', rfl, rfl, hs', hm', l2, hbn, hc, fun r hr => ha r (List.mem_cons_of_mem _ hr), by omega, hfd', ?_⟩
    rw [← htot, List.append_assoc]
theorem pure_answers (T : Tx K mg) (vs : List V) (H : Hp) (Q : VK) (E : XK) (h : sp_answers K vs H Q E) : t_answers K { nx := fun _ H' => Q .non H', rt := Q } (start ["calls", "store", "found", "at", "call", "end", "n", "row", "begin", "told"] vs) H := by
  obtain ⟨a, ns, rfl, hs, hask, q⟩ := h
  obtain ⟨raw, c1, c2, c3, c4, c5⟩ := asked_out hask
  change SqL K H a (iv ns) at hs
  unfold t_answers
  tm_at "x"
  refine x_make ?_
  tm_at "x"
  intro st dx hst hdx hne
  have hs1 : SqL K (upd (upd H dx (.own st)) st (.ins (He.ga K "Store") dx [])) a (iv ns) := sq_keep hs fun o z _ _ => by
    rw [upd_ne (ne_of_none z hst), upd_ne (ne_of_none z hdx)]
    exact z
  refine ⟨st, dx, rfl, upd_same, fun H2 F2 f2 hm2 => ⟨rfl, ?_⟩⟩
  have hs2 : SqL K H2 a (iv ns) := sq_keep hs1 fun o z n1 _ => f2 _ _ z (ne_of z upd_same (n1 _ _ _))
  tm_at "x"
  refine ⟨sz (by simp), fun fd hfd => ?_⟩
  have hs3 : Argl K a fd ns (upd H2 fd (.lst [])) := by
    rcases hs2 with h | h
    · refine .inr ⟨?_, sq_same (.inl h) (Same.new hfd)⟩
      rcases h with h | ⟨o, h⟩
      · exact ne_of_none h hfd
      · exact ne_of_none h hfd
    · exact .inl fun _ => .inr h
  have hm3 : MemAt K (del (upd H2 fd (.lst [])) fd) st F2 (toM VbwsaiNeutral.start) := by
    rw [del_upd, del_none hfd]
    exact hm2
  have e3 : upd H2 fd (.lst []) fd = some (.lst (iv [])) := upd_same
  generalize upd H2 fd (.lst []) = H3 at hs3 hm3 e3
  tm_at "x"
  have sz0 : Sz VbwsaiNeutral.start := ⟨rfl, rfl, rfl, .inl rfl⟩
  have bd0 : Bd 2000 (toM VbwsaiNeutral.start) := bd_anew (t := 0) (s := []) ent_nil fit0
  refine x_while (WA K a st fd ns) ns.length ?_ ?_
  · exact ⟨0, ns.length, none, none, none, none, none, none, VbwsaiNeutral.start, raw, [], F2, rfl, rfl, hs3, hm3, sz0, bd0.mono (by omega), by rw [List.drop_zero]; exact c1, c3, c2, e3, by rw [c4]; rfl⟩
  rintro m σ H4 ⟨i, f, v4, v5, v6, v7, v8, v9, s, rest, fs, F, rfl, rfl, hs4, hm4, hz, hb, hc, ha, hlen, e4, htot⟩
  tm_at "x"
  refine ⟨a, _, rfl, .inl hs4.sq, ?_⟩
  rw [iv_len]
  tm_at "x"
  refine x_ite (fun c => ?_) fun c => ?_
  rotate_left
  · have hr := no_call hc (by omega)
    subst hr
    tm_at "x"
    refine q H4 fd ?_
    rw [e4, ← htot]
    show some (HO.lst (iv fs)) = some (.lst (iv (fs ++ [])))
    rw [List.append_nil]
  refine x_body ?_
  have hi : i < ns.length := by omega
  obtain ⟨f', k, rest', rfl, hk, hat, hle, hcase⟩ := one_call hc hi
  have hat2 : (iv ns)[i]? = some (.int (k : Int)) := by rw [List.getElem?_map, hat]; rfl
  tm_at "x"
  refine ⟨a, _, i, _, rfl, rfl, hs4.sq, atI_of (j := i) rfl hat2, ?_⟩
  tm_at "x"
  refine ⟨_, _, (k : Int), _, rfl, rfl, T.t_NUMBERS _, atI_of (j := k) rfl (by rw [List.getElem?_map, nums_at k hk]; rfl), ?_⟩
  tm_at "x"
  refine ⟨a, _, rfl, hs4.sq, fun p1 hp1 => ?_⟩
  have eE : (i : Int) + 1 + ((NUMS.getD k 0 : Nat) : Int) = ((i + 1 + NUMS.getD k 0 : Nat) : Int) := by push_cast; rfl
  rw [eE]
  generalize hnk : NUMS.getD k 0 = n at hle hcase
  have ecut : cutV (iv ns) (some ((i : Int) + 1)) (some ((i + 1 + n : Nat) : Int)) = iv ((ns.drop (i + 1)).take n) := by
    rw [show (i : Int) + 1 = ((i + 1 : Nat) : Int) from by push_cast; rfl, cutV_nat, show i + 1 + n - (i + 1) = n from by omega]
    simp [iv, List.map_drop, List.map_take]
  rw [ecut]
  have s1 := Same.new hp1 (o := .lst (iv ((ns.drop (i + 1)).take n)))
  have e5 : upd H4 p1 (.lst (iv ((ns.drop (i + 1)).take n))) p1 = some (.lst (iv ((ns.drop (i + 1)).take n))) := upd_same
  have n1 : p1 ≠ fd := Ne.symm (ne_of_none e4 hp1)
  have hs5 := hs4.same s1
  have hm5 := hm4.same (same_del s1 (g := fd))
  have f5 := s1 _ _ e4
  generalize upd H4 p1 (.lst (iv ((ns.drop (i + 1)).take n))) = H5 at e5 hs5 hm5 f5
  tm_at "x"
  refine ⟨sz (by simp), fun p2 hp2 => ?_⟩
  have s2 := Same.new hp2 (o := .lst [])
  have e6 : upd H5 p2 (.lst []) p2 = some (.lst (iv [])) := upd_same
  have n2 : p2 ≠ fd := Ne.symm (ne_of_none f5 hp2)
  have hs6 := hs5.same s2
  have hm6 := hm5.same (same_del s2 (g := fd))
  have f6 := s2 _ _ f5
  have e56 := s2 _ _ e5
  generalize upd H5 p2 (.lst []) = H6 at e6 hs6 hm6 f6 e56
  tm_at "x"
  refine ⟨_, _, rfl, .inr (T.t_WITH_LIST _), rfl, rfl, ?_⟩
  have eL : (if false = true then !inV (.int (k : Int)) (([1, 11, 13, 15, 16, 17] : List Int).map V.int) else inV (.int (k : Int)) (([1, 11, 13, 15, 16, 17] : List Int).map V.int)) = hasL (k : Int) := by
    show ((1 == (k : Int)) || ((11 == (k : Int)) || ((13 == (k : Int)) || ((15 == (k : Int)) || ((16 == (k : Int)) || ((17 == (k : Int)) || false)))))) = _
    unfold hasL
    rw [Bool.eq_iff_iff]
    simp
    omega
  rw [eL]
  tm_at "x"
  rcases hcase with ⟨hL, hraw, hrest⟩ | ⟨hL, mm, hmm, hle2, hraw, hrest⟩
  · rw [hL]
    subst hraw
    refine x_no ?_
    refine x_next ?_
    exact answers_turn T hs6 hm6 hz hb hrest ha hlen f6 htot c5 (by omega) hi e56 e6 n1 n2 (fun σ H' z => by exact z)
  · rw [hL]
    subst hraw
    tm_at "x"
    have hmm2 : (iv ns)[i + 1 + n]? = some (.int (mm : Int)) := by rw [List.getElem?_map, hmm]; rfl
    refine ⟨a, _, ((i + 1 + n : Nat) : Int), _, rfl, rfl, hs6.sq, atI_of (j := i + 1 + n) rfl hmm2, ?_⟩
    tm_at "x"
    refine ⟨a, _, rfl, hs6.sq, fun p3 hp3 => ?_⟩
    have eE2 : ((i + 1 + n : Nat) : Int) + 1 + (mm : Int) = ((i + 1 + n + 1 + mm : Nat) : Int) := by push_cast; rfl
    rw [eE2]
    have ecut2 : cutV (iv ns) (some (((i + 1 + n : Nat) : Int) + 1)) (some ((i + 1 + n + 1 + mm : Nat) : Int)) = iv ((ns.drop (i + 1 + n + 1)).take mm) := by
      rw [show ((i + 1 + n : Nat) : Int) + 1 = ((i + 1 + n + 1 : Nat) : Int) from by push_cast; rfl, cutV_nat, show i + 1 + n + 1 + mm - (i + 1 + n + 1) = mm from by omega]
      simp [iv, List.map_drop, List.map_take]
    rw [ecut2]
    have s3 := Same.new hp3 (o := .lst (iv ((ns.drop (i + 1 + n + 1)).take mm)))
    have n3 : p3 ≠ fd := Ne.symm (ne_of_none f6 hp3)
    refine x_gname ?_
    exact answers_turn T (hs6.same s3) (hm6.same (same_del s3)) hz hb hrest ha hlen (s3 _ _ f6) htot c5 (by omega) hi (s3 _ _ e56) upd_same n1 n3 (fun σ H' z => by exact z)
end
end Ts
/-! ## TsOk -/
namespace Ts
open PySem PySem.Spec PyProof.Rows L2
section
variable {K : PySem.W.Frag} {mg : Str → Option Value}
theorem ok_Store_finish {P : Program} {w : World} {base : Heap} (T : Tx K mg) : FnOk P w K mg base CX0 1 (He.ma K (He.ga K "Store") "finish") (fdA K (He.ma K (He.ga K "Store") "finish")) ["self"] (sp_Store_finish K) :=
  mk_Store_finish T  (fun vs H Q E h => by obtain ⟨_, _, _, rfl, _⟩ := h; rfl) (fun vs H Q E h => pure_Store_finish T vs H Q E h)
theorem ok_natural_of {P : Program} {w : World} {base : Heap} (T : Tx K mg) : FnOk P w K mg base CX0 1 (He.ga K "natural_of") (fdA K (He.ga K "natural_of")) ["number"] (sp_natural_of K) :=
  mk_natural_of T  (fun vs H Q E h => by obtain ⟨_, rfl, _⟩ := h; rfl) (fun vs H Q E h => pure_natural_of vs H Q E h)
theorem ok_integer_bytes {P : Program} {w : World} {base : Heap} (T : Tx K mg) : FnOk P w K mg base CX0 2 (He.ga K "integer_bytes") (fdA K (He.ga K "integer_bytes")) ["number"] (sp_integer_bytes K) :=
  mk_integer_bytes T (ok_natural_of T) (fun vs H Q E h => by obtain ⟨_, rfl, _⟩ := h; rfl) (fun vs H Q E h => pure_integer_bytes vs H Q E h)
theorem ok_row_bytes {P : Program} {w : World} {base : Heap} (T : Tx K mg) : FnOk P w K mg base CX0 3 (He.ga K "row_bytes") (fdA K (He.ga K "row_bytes")) ["row"] (sp_row_bytes K) :=
  mk_row_bytes T (ok_integer_bytes T) (fun vs H Q E h => by obtain ⟨_, _, rfl, _⟩ := h; rfl) (fun vs H Q E h => pure_row_bytes vs H Q E h)
theorem ok_two_bytes {P : Program} {w : World} {base : Heap} (T : Tx K mg) : FnOk P w K mg base CX0 1 (He.ga K "two_bytes") (fdA K (He.ga K "two_bytes")) ["number"] (sp_two_bytes K) :=
  mk_two_bytes T  (fun vs H Q E h => by obtain ⟨_, rfl, _⟩ := h; rfl) (fun vs H Q E h => pure_two_bytes vs H Q E h)
theorem ok_checksum {P : Program} {w : World} {base : Heap} (T : Tx K mg) : FnOk P w K mg base CX0 1 (He.ga K "checksum") (fdA K (He.ga K "checksum")) ["data"] (sp_checksum K) :=
  mk_checksum T  (fun vs H Q E h => by obtain ⟨_, _, rfl, _⟩ := h; rfl) (fun vs H Q E h => pure_checksum vs H Q E h)
theorem ok_frame_of {P : Program} {w : World} {base : Heap} (T : Tx K mg) : FnOk P w K mg base CX0 4 (He.ga K "frame_of") (fdA K (He.ga K "frame_of")) ["row"] (sp_frame_of K) :=
  mk_frame_of T (ok_row_bytes T) (ok_two_bytes T) (ok_checksum T) (fun vs H Q E h => by obtain ⟨_, _, rfl, _⟩ := h; rfl) (fun vs H Q E h => pure_frame_of vs H Q E h)
theorem ok_flat {P : Program} {w : World} {base : Heap} (T : Tx K mg) : FnOk P w K mg base CX0 1 (He.ga K "flat") (fdA K (He.ga K "flat")) ["entries"] (sp_flat K) :=
  mk_flat T  (fun vs H Q E h => by obtain ⟨_, _, _, rfl, _⟩ := h; rfl) (fun vs H Q E h => pure_flat vs H Q E h)
theorem ok_Store_begin_anew {P : Program} {w : World} {base : Heap} (T : Tx K mg) : FnOk P w K mg base CX0 5 (He.ma K (He.ga K "Store") "begin_anew") (fdA K (He.ma K (He.ga K "Store") "begin_anew")) ["self", "number", "entries"] (sp_Store_begin_anew K) :=
  mk_Store_begin_anew T (ok_Store_finish T) (ok_frame_of T) (ok_flat T) (fun vs H Q E h => by obtain ⟨_, _, _, _, _, _, _, _, _, _, rfl, _⟩ := h; rfl) (fun vs H Q E h => pure_Store_begin_anew T vs H Q E h)
theorem ok_Store___init__ {P : Program} {w : World} {base : Heap} (T : Tx K mg) : FnOk P w K mg base CX0 6 (He.ma K (He.ga K "Store") "__init__") (fdA K (He.ma K (He.ga K "Store") "__init__")) ["self"] (sp_Store___init__ K) :=
  mk_Store___init__ T (ok_Store_begin_anew T) (fun vs H Q E h => by obtain ⟨_, _, rfl, _⟩ := h; rfl) (fun vs H Q E h => pure_Store___init__ T vs H Q E h)
theorem ok_want {P : Program} {w : World} {base : Heap} (T : Tx K mg) : FnOk P w K mg base (L2.CX P w) 3 (He.ga K "want") (fdA K (He.ga K "want")) ["is_so", "error"] (sp_want K) :=
  mk_want T (ok_Refused___init__ T) (fun vs H Q E h => by obtain ⟨_, _, rfl, _⟩ := h; rfl) (fun vs H Q E h => pure_want vs H Q E h)
theorem ok_Store_want_power {P : Program} {w : World} {base : Heap} (T : Tx K mg) : FnOk P w K mg base (L2.CX P w) 4 (He.ma K (He.ga K "Store") "want_power") (fdA K (He.ma K (He.ga K "Store") "want_power")) ["self"] (sp_Store_want_power K) :=
  mk_Store_want_power T (ok_want T) (fun vs H Q E h => by obtain ⟨_, _, _, rfl, _⟩ := h; rfl) (fun vs H Q E h => pure_Store_want_power T vs H Q E h)
theorem ok_parts_of {P : Program} {w : World} {base : Heap} (T : Tx K mg) : FnOk P w K mg base CX0 1 (He.ga K "parts_of") (fdA K (He.ga K "parts_of")) ["payload"] (sp_parts_of K) :=
  mk_parts_of T  (fun vs H Q E h => by obtain ⟨_, _, rfl, _⟩ := h; rfl) (fun vs H Q E h => pure_parts_of vs H Q E h)
theorem ok_integer_of {P : Program} {w : World} {base : Heap} (T : Tx K mg) : FnOk P w K mg base CX0 1 (He.ga K "integer_of") (fdA K (He.ga K "integer_of")) ["natural"] (sp_integer_of K) :=
  mk_integer_of T  (fun vs H Q E h => by obtain ⟨_, rfl, _⟩ := h; rfl) (fun vs H Q E h => pure_integer_of vs H Q E h)
theorem ok_part_integer {P : Program} {w : World} {base : Heap} (T : Tx K mg) : FnOk P w K mg base CX0 2 (He.ga K "part_integer") (fdA K (He.ga K "part_integer")) ["part"] (sp_part_integer K) :=
  mk_part_integer T (ok_integer_of T) (fun vs H Q E h => by obtain ⟨_, _, rfl, _⟩ := h; rfl) (fun vs H Q E h => pure_part_integer vs H Q E h)
theorem ok_decoded {P : Program} {w : World} {base : Heap} (T : Tx K mg) : FnOk P w K mg base CX0 3 (He.ga K "decoded") (fdA K (He.ga K "decoded")) ["payload"] (sp_decoded K) :=
  mk_decoded T (ok_parts_of T) (ok_part_integer T) (fun vs H Q E h => by obtain ⟨_, _, rfl, _⟩ := h; rfl) (fun vs H Q E h => pure_decoded vs H Q E h)
theorem ok_frame_at {P : Program} {w : World} {base : Heap} (T : Tx K mg) : FnOk P w K mg base CX0 4 (He.ga K "frame_at") (fdA K (He.ga K "frame_at")) ["data", "at"] (sp_frame_at K) :=
  mk_frame_at T (ok_decoded T) (ok_two_bytes T) (ok_checksum T) (fun vs H Q E h => by obtain ⟨_, _, _, rfl, _⟩ := h; rfl) (fun vs H Q E h => pure_frame_at vs H Q E h)
theorem ok_frames_in {P : Program} {w : World} {base : Heap} (T : Tx K mg) : FnOk P w K mg base CX0 5 (He.ga K "frames_in") (fdA K (He.ga K "frames_in")) ["data"] (sp_frames_in K) :=
  mk_frames_in T (ok_frame_at T) (fun vs H Q E h => by obtain ⟨_, _, rfl, _⟩ := h; rfl) (fun vs H Q E h => pure_frames_in vs H Q E h)
theorem ok_is_entry {P : Program} {w : World} {base : Heap} (T : Tx K mg) : FnOk P w K mg base CX0 1 (He.ga K "is_entry") (fdA K (He.ga K "is_entry")) ["key", "value"] (sp_is_entry K) :=
  mk_is_entry T  (fun vs H Q E h => by obtain ⟨_, _, rfl, _⟩ := h; rfl) (fun vs H Q E h => pure_is_entry vs H Q E h)
theorem ok_is_change {P : Program} {w : World} {base : Heap} (T : Tx K mg) : FnOk P w K mg base CX0 2 (He.ga K "is_change") (fdA K (He.ga K "is_change")) ["change"] (sp_is_change K) :=
  mk_is_change T (ok_is_entry T) (fun vs H Q E h => by obtain ⟨_, _, _, _, rfl, _⟩ := h; rfl) (fun vs H Q E h => pure_is_change vs H Q E h)
theorem ok_changes_of {P : Program} {w : World} {base : Heap} (T : Tx K mg) : FnOk P w K mg base CX0 1 (He.ga K "changes_of") (fdA K (He.ga K "changes_of")) ["numbers"] (sp_changes_of K) :=
  mk_changes_of T  (fun vs H Q E h => by obtain ⟨_, _, rfl, _⟩ := h; rfl) (fun vs H Q E h => pure_changes_of vs H Q E h)
theorem ok_are_changes {P : Program} {w : World} {base : Heap} (T : Tx K mg) : FnOk P w K mg base CX0 3 (He.ga K "are_changes") (fdA K (He.ga K "are_changes")) ["numbers"] (sp_are_changes K) :=
  mk_are_changes T (ok_is_change T) (ok_changes_of T) (fun vs H Q E h => by obtain ⟨_, _, rfl, _⟩ := h; rfl) (fun vs H Q E h => pure_are_changes vs H Q E h)
theorem ok_is_tick {P : Program} {w : World} {base : Heap} (T : Tx K mg) : FnOk P w K mg base CX0 4 (He.ga K "is_tick") (fdA K (He.ga K "is_tick")) ["row"] (sp_is_tick K) :=
  mk_is_tick T (ok_are_changes T) (fun vs H Q E h => by obtain ⟨_, _, rfl, _⟩ := h; rfl) (fun vs H Q E h => pure_is_tick vs H Q E h)
theorem ok_Store_list_ticks {P : Program} {w : World} {base : Heap} (T : Tx K mg) : FnOk P w K mg base (L2.CX P w) 6 (He.ma K (He.ga K "Store") "list_ticks") (fdA K (He.ma K (He.ga K "Store") "list_ticks")) ["self"] (sp_Store_list_ticks K) :=
  mk_Store_list_ticks T (ok_Store_want_power T) (ok_frames_in T) (ok_is_tick T) (fun vs H Q E h => by obtain ⟨_, _, _, rfl, _⟩ := h; rfl) (fun vs H Q E h => pure_Store_list_ticks T vs H Q E h)
theorem ok_Store_get {P : Program} {w : World} {base : Heap} (T : Tx K mg) : FnOk P w K mg base (L2.CX P w) 5 (He.ma K (He.ga K "Store") "get") (fdA K (He.ma K (He.ga K "Store") "get")) ["self", "key"] (sp_Store_get K) :=
  mk_Store_get T (ok_want T) (ok_Store_want_power T) (fun vs H Q E h => by obtain ⟨_, _, _, _, rfl, _⟩ := h; rfl) (fun vs H Q E h => pure_Store_get T vs H Q E h)
theorem ok_Store_contents {P : Program} {w : World} {base : Heap} (T : Tx K mg) : FnOk P w K mg base (L2.CX P w) 5 (He.ma K (He.ga K "Store") "contents") (fdA K (He.ma K (He.ga K "Store") "contents")) ["self"] (sp_Store_contents K) :=
  mk_Store_contents T (ok_Store_want_power T) (ok_flat T) (fun vs H Q E h => by obtain ⟨_, _, _, rfl, _⟩ := h; rfl) (fun vs H Q E h => pure_Store_contents T vs H Q E h)
theorem ok_Store_read_file {P : Program} {w : World} {base : Heap} (T : Tx K mg) : FnOk P w K mg base (L2.CX P w) 4 (He.ma K (He.ga K "Store") "read_file") (fdA K (He.ma K (He.ga K "Store") "read_file")) ["self", "number"] (sp_Store_read_file K) :=
  mk_Store_read_file T (ok_want T) (fun vs H Q E h => by obtain ⟨_, _, _, _, rfl, _⟩ := h; rfl) (fun vs H Q E h => pure_Store_read_file T vs H Q E h)
theorem ok_Store_corrupt_byte {P : Program} {w : World} {base : Heap} (T : Tx K mg) : FnOk P w K mg base (L2.CX P w) 4 (He.ma K (He.ga K "Store") "corrupt_byte") (fdA K (He.ma K (He.ga K "Store") "corrupt_byte")) ["self", "number", "at", "byte"] (sp_Store_corrupt_byte K) :=
  mk_Store_corrupt_byte T (ok_want T) (fun vs H Q E h => by obtain ⟨_, _, _, _, _, _, rfl, _⟩ := h; rfl) (fun vs H Q E h => pure_Store_corrupt_byte T vs H Q E h)
theorem ok_cut_at {P : Program} {w : World} {base : Heap} (T : Tx K mg) : FnOk P w K mg base CX0 1 (He.ga K "cut_at") (fdA K (He.ga K "cut_at")) ["data", "sign"] (sp_cut_at K) :=
  mk_cut_at T  (fun vs H Q E h => by obtain ⟨_, _, _, rfl, _⟩ := h; rfl) (fun vs H Q E h => pure_cut_at vs H Q E h)
theorem ok_worth {P : Program} {w : World} {base : Heap} (T : Tx K mg) : FnOk P w K mg base CX0 1 (He.ga K "worth") (fdA K (He.ga K "worth")) ["digits"] (sp_worth K) :=
  mk_worth T  (fun vs H Q E h => by obtain ⟨_, _, rfl, _⟩ := h; rfl) (fun vs H Q E h => pure_worth vs H Q E h)
theorem ok_are_digits {P : Program} {w : World} {base : Heap} (T : Tx K mg) : FnOk P w K mg base CX0 1 (He.ga K "are_digits") (fdA K (He.ga K "are_digits")) ["data"] (sp_are_digits K) :=
  mk_are_digits T  (fun vs H Q E h => by obtain ⟨_, _, rfl, _⟩ := h; rfl) (fun vs H Q E h => pure_are_digits vs H Q E h)
theorem ok_number_in {P : Program} {w : World} {base : Heap} (T : Tx K mg) : FnOk P w K mg base CX0 2 (He.ga K "number_in") (fdA K (He.ga K "number_in")) ["data"] (sp_number_in K) :=
  mk_number_in T (ok_worth T) (ok_are_digits T) (fun vs H Q E h => by obtain ⟨_, _, rfl, _⟩ := h; rfl) (fun vs H Q E h => pure_number_in vs H Q E h)
theorem ok_limited {P : Program} {w : World} {base : Heap} (T : Tx K mg) : FnOk P w K mg base CX0 3 (He.ga K "limited") (fdA K (He.ga K "limited")) ["data", "least", "most"] (sp_limited K) :=
  mk_limited T (ok_number_in T) (fun vs H Q E h => by obtain ⟨_, _, _, _, rfl, _⟩ := h; rfl) (fun vs H Q E h => pure_limited vs H Q E h)
theorem ok_removal_in {P : Program} {w : World} {base : Heap} (T : Tx K mg) : FnOk P w K mg base CX0 4 (He.ga K "removal_in") (fdA K (He.ga K "removal_in")) ["token"] (sp_removal_in K) :=
  mk_removal_in T (ok_limited T) (fun vs H Q E h => by obtain ⟨_, _, rfl, _⟩ := h; rfl) (fun vs H Q E h => pure_removal_in vs H Q E h)
theorem ok_change_in {P : Program} {w : World} {base : Heap} (T : Tx K mg) : FnOk P w K mg base CX0 5 (He.ga K "change_in") (fdA K (He.ga K "change_in")) ["token"] (sp_change_in K) :=
  mk_change_in T (ok_cut_at T) (ok_limited T) (ok_removal_in T) (fun vs H Q E h => by obtain ⟨_, _, rfl, _⟩ := h; rfl) (fun vs H Q E h => pure_change_in vs H Q E h)
theorem ok_changes_in {P : Program} {w : World} {base : Heap} (T : Tx K mg) : FnOk P w K mg base CX0 6 (He.ga K "changes_in") (fdA K (He.ga K "changes_in")) ["line", "number"] (sp_changes_in K) :=
  mk_changes_in T (ok_cut_at T) (ok_change_in T) (ok_number_in T) (fun vs H Q E h => by obtain ⟨_, _, _, rfl, _⟩ := h; rfl) (fun vs H Q E h => pure_changes_in vs H Q E h)
theorem ok_changed {P : Program} {w : World} {base : Heap} (T : Tx K mg) : FnOk P w K mg base CX0 2 (He.ga K "changed") (fdA K (He.ga K "changed")) ["entries", "numbers"] (sp_changed K) :=
  mk_changed T (ok_changes_of T) (fun vs H Q E h => by obtain ⟨_, _, _, _, _, _, rfl, _⟩ := h; rfl) (fun vs H Q E h => pure_changed vs H Q E h)
theorem ok_journal_inN {P : Program} {w : World} {base : Heap} (T : Tx K mg) : FnOk P w K mg base (L2N.CX P w) 7 (He.ga K "journal_in") (fdA K (He.ga K "journal_in")) ["text"] (sp_journal_in K) :=
  mk_journal_inN T (ok_cut_at T) (ok_changes_in T) (ok_changed T) (ok_BadLine___init__ T) (fun vs H Q E h => by obtain ⟨_, _, rfl, _⟩ := h; rfl) (fun vs H Q E h => pure_journal_in vs H Q E h)
theorem ok_Store_import_journal {P : Program} {w : World} {base : Heap} (T : Tx K mg) : FnOk P w K mg base (L2.CX P w) 8 (He.ma K (He.ga K "Store") "import_journal") (fdA K (He.ma K (He.ga K "Store") "import_journal")) ["self", "text"] (sp_Store_import_journal K) :=
  mk_Store_import_journal T (ok_Store_want_power T) (ok_journal_inN T) (ok_Store_begin_anew T) (fun vs H Q E h => by obtain ⟨_, _, _, _, _, rfl, _⟩ := h; rfl) (fun vs H Q E h => pure_Store_import_journal T vs H Q E h)
theorem ok_Store_status {P : Program} {w : World} {base : Heap} (T : Tx K mg) : FnOk P w K mg base CX0 1 (He.ma K (He.ga K "Store") "status") (fdA K (He.ma K (He.ga K "Store") "status")) ["self"] (sp_Store_status K) :=
  mk_Store_status T  (fun vs H Q E h => by obtain ⟨_, _, _, rfl, _⟩ := h; rfl) (fun vs H Q E h => pure_Store_status T vs H Q E h)
theorem ok_of_store {P : Program} {w : World} {base : Heap} (T : Tx K mg) : FnOk P w K mg base (L2.CX P w) 9 (He.ga K "of_store") (fdA K (He.ga K "of_store")) ["store", "call", "n", "row"] (sp_of_store K) :=
  mk_of_store T (ok_Store_list_ticks T) (ok_Store_get T) (ok_Store_contents T) (ok_Store_read_file T) (ok_Store_corrupt_byte T) (ok_Store_import_journal T) (ok_Store_status T) (fun vs H Q E h => by obtain ⟨_, _, _, _, _, _, _, _, rfl, _⟩ := h; rfl) (fun vs H Q E h => pure_of_store T vs H Q E h)
theorem ok_only_row {P : Program} {w : World} {base : Heap} (T : Tx K mg) : FnOk P w K mg base CX0 5 (He.ga K "only_row") (fdA K (He.ga K "only_row")) ["data"] (sp_only_row K) :=
  mk_only_row T (ok_frame_at T) (fun vs H Q E h => by obtain ⟨_, _, rfl, _⟩ := h; rfl) (fun vs H Q E h => pure_only_row vs H Q E h)
theorem ok_commit_in {P : Program} {w : World} {base : Heap} (T : Tx K mg) : FnOk P w K mg base CX0 6 (He.ga K "commit_in") (fdA K (He.ga K "commit_in")) ["data"] (sp_commit_in K) :=
  mk_commit_in T (ok_only_row T) (fun vs H Q E h => by obtain ⟨_, _, rfl, _⟩ := h; rfl) (fun vs H Q E h => pure_commit_in vs H Q E h)
theorem ok_Store_commits {P : Program} {w : World} {base : Heap} (T : Tx K mg) : FnOk P w K mg base CX0 7 (He.ma K (He.ga K "Store") "commits") (fdA K (He.ma K (He.ga K "Store") "commits")) ["self"] (sp_Store_commits K) :=
  mk_Store_commits T (ok_commit_in T) (fun vs H Q E h => by obtain ⟨_, _, _, rfl, _⟩ := h; rfl) (fun vs H Q E h => pure_Store_commits T vs H Q E h)
theorem ok_pairs_of {P : Program} {w : World} {base : Heap} (T : Tx K mg) : FnOk P w K mg base CX0 1 (He.ga K "pairs_of") (fdA K (He.ga K "pairs_of")) ["numbers"] (sp_pairs_of K) :=
  mk_pairs_of T  (fun vs H Q E h => by obtain ⟨_, _, rfl, _⟩ := h; rfl) (fun vs H Q E h => pure_pairs_of vs H Q E h)
theorem ok_is_checkpoint {P : Program} {w : World} {base : Heap} (T : Tx K mg) : FnOk P w K mg base CX0 2 (He.ga K "is_checkpoint") (fdA K (He.ga K "is_checkpoint")) ["row"] (sp_is_checkpoint K) :=
  mk_is_checkpoint T (ok_pairs_of T) (ok_is_entry T) (fun vs H Q E h => by obtain ⟨_, _, rfl, _⟩ := h; rfl) (fun vs H Q E h => pure_is_checkpoint vs H Q E h)
theorem ok_checkpoint_in {P : Program} {w : World} {base : Heap} (T : Tx K mg) : FnOk P w K mg base CX0 6 (He.ga K "checkpoint_in") (fdA K (He.ga K "checkpoint_in")) ["data"] (sp_checkpoint_in K) :=
  mk_checkpoint_in T (ok_only_row T) (ok_is_checkpoint T) (ok_pairs_of T) (fun vs H Q E h => by obtain ⟨_, _, rfl, _⟩ := h; rfl) (fun vs H Q E h => pure_checkpoint_in vs H Q E h)
theorem ok_replayed {P : Program} {w : World} {base : Heap} (T : Tx K mg) : FnOk P w K mg base CX0 6 (He.ga K "replayed") (fdA K (He.ga K "replayed")) ["data", "number"] (sp_replayed K) :=
  mk_replayed T (ok_frames_in T) (ok_is_tick T) (fun vs H Q E h => by obtain ⟨_, _, _, rfl, _⟩ := h; rfl) (fun vs H Q E h => pure_replayed vs H Q E h)
theorem ok_Store_recovered {P : Program} {w : World} {base : Heap} (T : Tx K mg) : FnOk P w K mg base CX0 7 (He.ma K (He.ga K "Store") "recovered") (fdA K (He.ma K (He.ga K "Store") "recovered")) ["self", "commit", "side", "checkpoint"] (sp_Store_recovered K) :=
  mk_Store_recovered T (ok_replayed T) (ok_Store_finish T) (ok_changed T) (fun vs H Q E h => by obtain ⟨_, _, _, _, _, _, _, _, _, _, rfl, _⟩ := h; rfl) (fun vs H Q E h => pure_Store_recovered T vs H Q E h)
theorem ok_Store_recover {P : Program} {w : World} {base : Heap} (T : Tx K mg) : FnOk P w K mg base (L2.CX P w) 8 (He.ma K (He.ga K "Store") "recover") (fdA K (He.ma K (He.ga K "Store") "recover")) ["self"] (sp_Store_recover K) :=
  mk_Store_recover T (ok_want T) (ok_Store_commits T) (ok_Refused___init__ T) (ok_checkpoint_in T) (ok_Store_recovered T) (fun vs H Q E h => by obtain ⟨_, _, _, rfl, _⟩ := h; rfl) (fun vs H Q E h => pure_Store_recover T vs H Q E h)
theorem ok_Store_reset {P : Program} {w : World} {base : Heap} (T : Tx K mg) : FnOk P w K mg base CX0 6 (He.ma K (He.ga K "Store") "reset") (fdA K (He.ma K (He.ga K "Store") "reset")) ["self"] (sp_Store_reset K) :=
  mk_Store_reset T (ok_Store_begin_anew T) (fun vs H Q E h => by obtain ⟨_, _, _, rfl, _⟩ := h; rfl) (fun vs H Q E h => pure_Store_reset T vs H Q E h)
theorem ok_want_power_range {P : Program} {w : World} {base : Heap} (T : Tx K mg) : FnOk P w K mg base (L2.CX P w) 4 (He.ga K "want_power_range") (fdA K (He.ga K "want_power_range")) ["power"] (sp_want_power_range K) :=
  mk_want_power_range T (ok_want T) (fun vs H Q E h => by obtain ⟨_, rfl, _⟩ := h; rfl) (fun vs H Q E h => pure_want_power_range vs H Q E h)
theorem ok_Store_append {P : Program} {w : World} {base : Heap} (T : Tx K mg) : FnOk P w K mg base CX0 1 (He.ma K (He.ga K "Store") "append") (fdA K (He.ma K (He.ga K "Store") "append")) ["self", "number", "data"] (sp_Store_append K) :=
  mk_Store_append T  (fun vs H Q E h => by obtain ⟨_, _, _, _, _, _, rfl, _⟩ := h; rfl) (fun vs H Q E h => pure_Store_append T vs H Q E h)
theorem ok_tick_row {P : Program} {w : World} {base : Heap} (T : Tx K mg) : FnOk P w K mg base CX0 2 (He.ga K "tick_row") (fdA K (He.ga K "tick_row")) ["number", "numbers"] (sp_tick_row K) :=
  mk_tick_row T (ok_changes_of T) (fun vs H Q E h => by obtain ⟨_, _, _, _, rfl, _⟩ := h; rfl) (fun vs H Q E h => pure_tick_row vs H Q E h)
theorem ok_is_enough {P : Program} {w : World} {base : Heap} (T : Tx K mg) : FnOk P w K mg base CX0 1 (He.ga K "is_enough") (fdA K (He.ga K "is_enough")) ["power", "many"] (sp_is_enough K) :=
  mk_is_enough T  (fun vs H Q E h => by obtain ⟨_, _, rfl, _⟩ := h; rfl) (fun vs H Q E h => pure_is_enough vs H Q E h)
theorem ok_Store_other {P : Program} {w : World} {base : Heap} (T : Tx K mg) : FnOk P w K mg base CX0 1 (He.ma K (He.ga K "Store") "other") (fdA K (He.ma K (He.ga K "Store") "other")) ["self"] (sp_Store_other K) :=
  mk_Store_other T  (fun vs H Q E h => by obtain ⟨_, _, _, rfl, _⟩ := h; rfl) (fun vs H Q E h => pure_Store_other T vs H Q E h)
theorem ok_Store_write_in_part {P : Program} {w : World} {base : Heap} (T : Tx K mg) : FnOk P w K mg base CX0 2 (He.ma K (He.ga K "Store") "write_in_part") (fdA K (He.ma K (He.ga K "Store") "write_in_part")) ["self", "frame", "power"] (sp_Store_write_in_part K) :=
  mk_Store_write_in_part T (ok_Store_append T) (ok_Store_other T) (fun vs H Q E h => by obtain ⟨_, _, _, _, _, _, rfl, _⟩ := h; rfl) (fun vs H Q E h => pure_Store_write_in_part T vs H Q E h)
theorem ok_Store_fail {P : Program} {w : World} {base : Heap} (T : Tx K mg) : FnOk P w K mg base CX0 2 (He.ma K (He.ga K "Store") "fail") (fdA K (He.ma K (He.ga K "Store") "fail")) ["self"] (sp_Store_fail K) :=
  mk_Store_fail T (ok_Store_finish T) (fun vs H Q E h => by obtain ⟨_, _, _, rfl, _⟩ := h; rfl) (fun vs H Q E h => pure_Store_fail T vs H Q E h)
theorem ok_Store_tick {P : Program} {w : World} {base : Heap} (T : Tx K mg) : FnOk P w K mg base (L2.CX P w) 5 (He.ma K (He.ga K "Store") "tick") (fdA K (He.ma K (He.ga K "Store") "tick")) ["self", "power", "numbers"] (sp_Store_tick K) :=
  mk_Store_tick T (ok_want_power_range T) (ok_want T) (ok_Store_want_power T) (ok_frame_of T) (ok_Store_append T) (ok_changed T) (ok_tick_row T) (ok_is_enough T) (ok_Store_write_in_part T) (ok_Store_fail T) (ok_are_changes T) (ok_Store_other T) (fun vs H Q E h => by obtain ⟨_, _, _, _, _, _, rfl, _⟩ := h; rfl) (fun vs H Q E h => pure_Store_tick T vs H Q E h)
theorem ok_Store_begin_checkpoint {P : Program} {w : World} {base : Heap} (T : Tx K mg) : FnOk P w K mg base (L2.CX P w) 5 (He.ma K (He.ga K "Store") "begin_checkpoint") (fdA K (He.ma K (He.ga K "Store") "begin_checkpoint")) ["self"] (sp_Store_begin_checkpoint K) :=
  mk_Store_begin_checkpoint T (ok_Store_want_power T) (ok_want T) (ok_frame_of T) (ok_Store_other T) (ok_flat T) (fun vs H Q E h => by obtain ⟨_, _, _, rfl, _⟩ := h; rfl) (fun vs H Q E h => pure_Store_begin_checkpoint T vs H Q E h)
theorem ok_Store_write_checkpoint {P : Program} {w : World} {base : Heap} (T : Tx K mg) : FnOk P w K mg base (L2.CX P w) 5 (He.ma K (He.ga K "Store") "write_checkpoint") (fdA K (He.ma K (He.ga K "Store") "write_checkpoint")) ["self", "count"] (sp_Store_write_checkpoint K) :=
  mk_Store_write_checkpoint T (ok_want T) (ok_Store_want_power T) (ok_Store_append T) (ok_Store_other T) (fun vs H Q E h => by obtain ⟨_, _, _, _, rfl, _⟩ := h; rfl) (fun vs H Q E h => pure_Store_write_checkpoint T vs H Q E h)
theorem ok_Store_commit_checkpoint {P : Program} {w : World} {base : Heap} (T : Tx K mg) : FnOk P w K mg base (L2.CX P w) 5 (He.ma K (He.ga K "Store") "commit_checkpoint") (fdA K (He.ma K (He.ga K "Store") "commit_checkpoint")) ["self", "power"] (sp_Store_commit_checkpoint K) :=
  mk_Store_commit_checkpoint T (ok_want_power_range T) (ok_Store_want_power T) (ok_want T) (ok_frame_of T) (ok_Store_other T) (ok_Store_finish T) (ok_is_enough T) (ok_Store_fail T) (fun vs H Q E h => by obtain ⟨_, _, _, _, rfl, _⟩ := h; rfl) (fun vs H Q E h => pure_Store_commit_checkpoint T vs H Q E h)
theorem ok_Store_cut_power {P : Program} {w : World} {base : Heap} (T : Tx K mg) : FnOk P w K mg base (L2.CX P w) 5 (He.ma K (He.ga K "Store") "cut_power") (fdA K (He.ma K (He.ga K "Store") "cut_power")) ["self"] (sp_Store_cut_power K) :=
  mk_Store_cut_power T (ok_Store_want_power T) (ok_Store_fail T) (fun vs H Q E h => by obtain ⟨_, _, _, rfl, _⟩ := h; rfl) (fun vs H Q E h => pure_Store_cut_power T vs H Q E h)
theorem ok_of_writing {P : Program} {w : World} {base : Heap} (T : Tx K mg) : FnOk P w K mg base (L2.CX P w) 9 (He.ga K "of_writing") (fdA K (He.ga K "of_writing")) ["store", "call", "n", "row"] (sp_of_writing K) :=
  mk_of_writing T (ok_Store_recover T) (ok_Store_reset T) (ok_Store_tick T) (ok_Store_begin_checkpoint T) (ok_Store_write_checkpoint T) (ok_Store_commit_checkpoint T) (ok_Store_cut_power T) (fun vs H Q E h => by obtain ⟨_, _, _, _, _, _, _, _, rfl, _⟩ := h; rfl) (fun vs H Q E h => pure_of_writing T vs H Q E h)
theorem ok_previewed {P : Program} {w : World} {base : Heap} (T : Tx K mg) : FnOk P w K mg base CX0 8 (He.ga K "previewed") (fdA K (He.ga K "previewed")) ["text"] (sp_previewed K) :=
  mk_previewed T (ok_journal_inN T) (ok_flat T) (fun vs H Q E h => by obtain ⟨_, _, rfl, _⟩ := h; rfl) (fun vs H Q E h => pure_previewed T vs H Q E h)
theorem ok_counted_frames {P : Program} {w : World} {base : Heap} (T : Tx K mg) : FnOk P w K mg base CX0 6 (He.ga K "counted_frames") (fdA K (He.ga K "counted_frames")) ["data"] (sp_counted_frames K) :=
  mk_counted_frames T (ok_frames_in T) (fun vs H Q E h => by obtain ⟨_, _, rfl, _⟩ := h; rfl) (fun vs H Q E h => pure_counted_frames vs H Q E h)
theorem ok_checksum_told {P : Program} {w : World} {base : Heap} (T : Tx K mg) : FnOk P w K mg base CX0 2 (He.ga K "checksum_told") (fdA K (He.ga K "checksum_told")) ["data"] (sp_checksum_told K) :=
  mk_checksum_told T (ok_checksum T) (fun vs H Q E h => by obtain ⟨_, _, rfl, _⟩ := h; rfl) (fun vs H Q E h => pure_checksum_told vs H Q E h)
theorem ok_frame_told {P : Program} {w : World} {base : Heap} (T : Tx K mg) : FnOk P w K mg base (L2.CX P w) 5 (He.ga K "frame_told") (fdA K (He.ga K "frame_told")) ["row"] (sp_frame_told K) :=
  mk_frame_told T (ok_want T) (ok_frame_of T) (fun vs H Q E h => by obtain ⟨_, _, rfl, _⟩ := h; rfl) (fun vs H Q E h => pure_frame_told vs H Q E h)
theorem ok_of_lists {P : Program} {w : World} {base : Heap} (T : Tx K mg) : FnOk P w K mg base (L2.CX P w) 9 (He.ga K "of_lists") (fdA K (He.ga K "of_lists")) ["call", "row"] (sp_of_lists K) :=
  mk_of_lists T (ok_previewed T) (ok_counted_frames T) (ok_checksum_told T) (ok_frame_told T) (fun vs H Q E h => by obtain ⟨_, _, _, _, rfl, _⟩ := h; rfl) (fun vs H Q E h => pure_of_lists vs H Q E h)
theorem ok_called {P : Program} {w : World} {base : Heap} (T : Tx K mg) : FnOk P w K mg base (L2.CX P w) 10 (He.ga K "called") (fdA K (He.ga K "called")) ["store", "call", "n", "row"] (sp_called K) :=
  mk_called T (ok_of_store T) (ok_of_writing T) (ok_of_lists T) (fun vs H Q E h => by obtain ⟨_, _, _, _, _, _, _, _, rfl, _⟩ := h; rfl) (fun vs H Q E h => pure_called T vs H Q E h)
theorem ok_answered {P : Program} {w : World} {base : Heap} (T : Tx K mg) : FnOk P w K mg base CX0 11 (He.ga K "answered") (fdA K (He.ga K "answered")) ["store", "call", "n", "row"] (sp_answered K) :=
  fn_fr (mk_answered T (ok_called T) (fun vs H Q E h => by obtain ⟨_, _, _, _, _, _, _, _, rfl, _⟩ := h; rfl) (fun vs H Q E h => pure_answered T vs H Q E h))
theorem ok_answers {P : Program} {w : World} {base : Heap} (T : Tx K mg) : FnOk P w K mg base CX0 12 (He.ga K "answers") (fdA K (He.ga K "answers")) ["calls"] (sp_answers K) :=
  mk_answers T (ok_Store___init__ T) (ok_answered T) (fun vs H Q E h => by obtain ⟨_, _, rfl, _⟩ := h; rfl) (fun vs H Q E h => pure_answers T vs H Q E h)
end
end Ts
/-! ## TsEnd -/
namespace Ts
open PySem PySem.Spec PyProof.Rows L2
open PySem.W (WData Codec OpenSpec Well WellAll ReadsW ReadsAllW)
/-- the row's end over a head that tells its facts by a hook -/
theorem walk_E {r : OpenSpec} {k : Nat} {q : Program} {loose : List Str} {XP : (Str → Option Value) → Heap → Prop} {YP : World → Heap → Prop} {d : DefRec} {ps : List Str} {sp : PySem.W.Frag → Sp}
    (hwell : r.wellSaid = true) (hlen : r.args.length = ps.length) (hr : Room k callerA)
    (F : ∀ (w : World) (mg : Str → Option Value) (fa : Addr) (h : Heap), YP w h → h.Ns mainGlobals mg → mg d.name = some (.ref fa) → ∃ (K : PySem.W.Frag) (fd : FuncData), K.In h ∧
      (∀ (s : Shared) (us : List Value), us.length = ps.length → BindsTo s fd ⟨us, []⟩ (ps.zip us)) ∧ ∀ base : Heap, K.In base → base.Ns mainGlobals mg → FnOk r.prog w K mg base CX0 k fa fd ps (sp K))
    (hsp : ∀ (K : PySem.W.Frag) (H : Hp) (xs : List V) (a : Codec.denoteAll r.args), OnlyF H → Codec.withinAll r.args a = true → Codec.app r.args r.asked a = true → DwAll K H xs (Codec.encAll r.args a) →
      sp K xs H (fun v H' => Dw K H' v (r.ret.enc (Codec.app r.args r.f a))) fun _ _ _ => False) :
    PySem.W.WalkOS q loose XP YP r d [] (fun f vs => PySem.call f vs) := by
  intro w s0 s1 mg mb G Y fa o pm cd doc dV kV ho hd hcd hD hmg hg args vals as hpre hlay hrd hwl hlo
  obtain ⟨a, e1, e2⟩ := PySem.W.os_pre_some hpre
  obtain ⟨e3, hwi⟩ := Codec.encAll_of_decAll r.args args a e1
  subst e3
  obtain ⟨K, fd, KX, hb, hF⟩ := F w mg fa _ Y G.T.g hmg
  have hlen2 : (Codec.encAll r.args a).length = ps.length := (encAll_len r.args a).trans hlen
  have hend := spec_call (R := []) (cl := classAt s0.heap) (d0 := r.ret.enc (Codec.app r.args r.f a)) KX G.T.g G.T.b G.T.builtins G.T.nolimit hg hwl (pl_encAll _ _) (layable_weight hlay) hr hF hb hlen2
    (fun H xs hO hS => hsp K H xs a hO hwi e2 hS) (fun H e s' z => z)
  refine PySem.W.enter_call (codeAny_mono hend fun r' s' hq => ?_)
  obtain ⟨u, as', rfl, h1, h2, h3, h4⟩ := hq
  exact ⟨.inl ⟨u, _, as', rfl, fun _ => rfl, h1, (OpenSpec.post_iff hwell hwi _ _).mpr rfl, fun z => Bool.noConfusion (show false = true from z)⟩, h2, h3, h4⟩
theorem bdA (K : PySem.W.Frag) (mg : Str → Option Value) (T : Tx K mg) (s : Shared) (us : List Value) (hl : us.length = (["calls"] : List Str).length) : BindsTo s (fdA K (He.ga K "answers")) ⟨us, []⟩ ((["calls"] : List Str).zip us) :=
  T.f_answers.bindsA (ps := ["calls"]) (fun _ _ _ _ _ _ us hl => match us, hl with | [_], _ => rfl) s us hl
end Ts
open PySem PySem.W PySem.Calls PyProof.Rows
theorem PySem.Challenge.cw_tickstore_s01_answers_holds : PySem.Challenge.rw_tickstore_s01_answers.Holds := by
  refine HandSHeadRun.head_spec (r := Ts.R) (q := view Ts.R.prog [96]) (H := Ts.hookP 5) (ob := Ts.obT) (M := 8000) (loose := Ts.otherN) (d := HandSHeadRun.topDef Ts.R.prog 96) (kwd := []) Ts.obT_eq
    (by kernel_rfl) (fun s => by kernel_rfl) Ts.run (by kernel_rfl) (by kernel_rfl) (by kernel_rfl) os_shapes (by decide +kernel) (by decide +kernel) ⟨rfl, rfl, rfl, rfl, rfl, by decide +kernel⟩ ⟨[.list [.int 0]], by decide +kernel, by decide +kernel⟩ ?call
  refine Ts.walk_E (k := 12) (ps := ["calls"]) (sp := Ts.sp_answers) (by decide +kernel) rfl ⟨rfl, by decide, by decide⟩ ?F ?S
  case F =>
    intro w mg fa h Y G hmg
    obtain ⟨K, KX, c⟩ := Y
    have T := Ts.tx_of KX G c
    have e : fa = He.ga K "answers" := by
      have z : mg ("answers" : PySem.Str) = some (.ref fa) := by
        have e : (HandSHeadRun.topDef Ts.R.prog 96).name = ("answers" : PySem.Str) := by kernel_rfl
        rw [← e]
        exact hmg
      have := z.symm.trans T.g_answers
      cases this
      rfl
    subst e
    exact ⟨K, _, KX, Ts.bdA K mg T, fun base _ _ => Ts.ok_answers T⟩
  case S =>
    intro K H xs a hO hwi hask hx
    cases hx with
    | cons h1 h2 =>
      cases h2
      cases h1 with
      | lst hs ha =>
        have e := L2.ints_dw a.1 _ ha
        subst e
        exact ⟨_, a.1, rfl, hs, hask, fun H' p hp => .lst (L2.SqL.of hp) (L2.dw_ints _)⟩
