import PyProof.Rows.All
import Wide.All
import OpenK.AllK
import Wide.FinOn
import KE.KStateDown
import Lean
import HandS.ForMost
import HandS.Exc
import HandS.TryOnly
import HandS.ExcOwn
import HandS.WordsExc
import HandS.Defaults
import HandS.Star
import HandS.Conv
import HandS.Sort
import HandS.SortKw
import HandS.SortOrd
import HandS.SortRule
import HandS.SortInts
import HandS.TupSets
import HandS.DictTup
import HandS.DictSub
import HandS.Deep
import HandS.SetKeys
import HandS.More
import HandS.ExcInit
import HandS.ExcIs
import HandS.ExcField
import HandS.Walk
import HandS.Zip
import HandS.Steps
import HandS.Evl
import HandS.Bytes
import HandS.Wide
import HandS.WideBits
import HandS.Codes
import HandS.Flow
import HandS.NoneIn
import HandS.Style
import HandS.HeadHook1
import HandS.HeadHook2
import HandS.Head0
import HandS.Head1
import HandS.Head2
import HandS.HeadEnd
import KE.SortData
import PySem.Challenge.RW_spoolbox_k52_whole_mixed_files
set_option Elab.async false
set_option linter.all false
set_option maxRecDepth 100000
set_option maxHeartbeats 8000000
namespace Sp
open PySem PySem.Spec PyProof.Rows L2
def top (i : Nat) : Stmt := PySem.Challenge.pw_spoolbox_k52_whole_mixed_files.main.body.getD i (.Pass ⟨0, 0, 0, 0⟩)
abbrev s_alike : Stmt := top 41
abbrev d_alike : He.DefD := ⟨("alike", none), "alike", "alike", defArgs s_alike, defBody s_alike, defScope s_alike, [], []⟩
abbrev s_change : Stmt := top 42
abbrev d_change : He.DefD := ⟨("change", none), "change", "change", defArgs s_change, defBody s_change, defScope s_change, [], []⟩
abbrev s_changed : Stmt := top 43
abbrev d_changed : He.DefD := ⟨("changed", none), "changed", "changed", defArgs s_changed, defBody s_changed, defScope s_changed, [], []⟩
abbrev s_is_line : Stmt := top 55
abbrev d_is_line : He.DefD := ⟨("is_line", none), "is_line", "is_line", defArgs s_is_line, defBody s_is_line, defScope s_is_line, [], []⟩
abbrev s_is_word : Stmt := top 56
abbrev d_is_word : He.DefD := ⟨("is_word", none), "is_word", "is_word", defArgs s_is_word, defBody s_is_word, defScope s_is_word, [], []⟩
abbrev s_is_row : Stmt := top 57
abbrev d_is_row : He.DefD := ⟨("is_row", none), "is_row", "is_row", defArgs s_is_row, defBody s_is_row, defScope s_is_row, [], []⟩
abbrev s_are_units : Stmt := top 58
abbrev d_are_units : He.DefD := ⟨("are_units", none), "are_units", "are_units", defArgs s_are_units, defBody s_are_units, defScope s_are_units, [], []⟩
abbrev s_step_size : Stmt := top 59
abbrev d_step_size : He.DefD := ⟨("step_size", none), "step_size", "step_size", defArgs s_step_size, defBody s_step_size, defScope s_step_size, [], []⟩
abbrev s_are_tags : Stmt := top 60
abbrev d_are_tags : He.DefD := ⟨("are_tags", none), "are_tags", "are_tags", defArgs s_are_tags, defBody s_are_tags, defScope s_are_tags, [], []⟩
abbrev s_is_presentation : Stmt := top 61
abbrev d_is_presentation : He.DefD := ⟨("is_presentation", none), "is_presentation", "is_presentation", defArgs s_is_presentation, defBody s_is_presentation, defScope s_is_presentation, [], []⟩
abbrev s_put_steps : Stmt := top 65
abbrev d_put_steps : He.DefD := ⟨("put_steps", none), "put_steps", "put_steps", defArgs s_put_steps, defBody s_put_steps, defScope s_put_steps, [], []⟩
abbrev s_get_steps : Stmt := top 66
abbrev d_get_steps : He.DefD := ⟨("get_steps", none), "get_steps", "get_steps", defArgs s_get_steps, defBody s_get_steps, defScope s_get_steps, [], []⟩
abbrev s_checksum : Stmt := top 70
abbrev d_checksum : He.DefD := ⟨("checksum", none), "checksum", "checksum", defArgs s_checksum, defBody s_checksum, defScope s_checksum, [], []⟩
abbrev s_four_bytes : Stmt := top 71
abbrev d_four_bytes : He.DefD := ⟨("four_bytes", none), "four_bytes", "four_bytes", defArgs s_four_bytes, defBody s_four_bytes, defScope s_four_bytes, [], []⟩
abbrev s_number_of : Stmt := top 72
abbrev d_number_of : He.DefD := ⟨("number_of", none), "number_of", "number_of", defArgs s_number_of, defBody s_number_of, defScope s_number_of, [], []⟩
abbrev s_char_of : Stmt := top 79
abbrev d_char_of : He.DefD := ⟨("char_of", none), "char_of", "char_of", defArgs s_char_of, defBody s_char_of, defScope s_char_of, [], []⟩
abbrev s_bytes_of : Stmt := top 80
abbrev d_bytes_of : He.DefD := ⟨("bytes_of", none), "bytes_of", "bytes_of", defArgs s_bytes_of, defBody s_bytes_of, defScope s_bytes_of, [], []⟩
abbrev s_text_bytes : Stmt := top 81
abbrev d_text_bytes : He.DefD := ⟨("text_bytes", none), "text_bytes", "text_bytes", defArgs s_text_bytes, defBody s_text_bytes, defScope s_text_bytes, [], []⟩
abbrev s_head_of_rows : Stmt := top 82
abbrev d_head_of_rows : He.DefD := ⟨("head_of_rows", none), "head_of_rows", "head_of_rows", defArgs s_head_of_rows, defBody s_head_of_rows, defScope s_head_of_rows, [], []⟩
abbrev s_tags_body : Stmt := top 83
abbrev d_tags_body : He.DefD := ⟨("tags_body", none), "tags_body", "tags_body", defArgs s_tags_body, defBody s_tags_body, defScope s_tags_body, [], []⟩
abbrev s_index_body : Stmt := top 84
abbrev d_index_body : He.DefD := ⟨("index_body", none), "index_body", "index_body", defArgs s_index_body, defBody s_index_body, defScope s_index_body, [], []⟩
abbrev s_end_body : Stmt := top 85
abbrev d_end_body : He.DefD := ⟨("end_body", none), "end_body", "end_body", defArgs s_end_body, defBody s_end_body, defScope s_end_body, [], []⟩
abbrev s_unit_body : Stmt := top 86
abbrev d_unit_body : He.DefD := ⟨("unit_body", none), "unit_body", "unit_body", defArgs s_unit_body, defBody s_unit_body, defScope s_unit_body, [], []⟩
abbrev s_BodyReader_init : Stmt := inClass (top 87) 0
abbrev d_BodyReader_init : He.DefD := ⟨("BodyReader", some "__init__"), "__init__", "BodyReader.__init__", defArgs s_BodyReader_init, defBody s_BodyReader_init, defScope s_BodyReader_init, [], []⟩
abbrev s_BodyReader_number : Stmt := inClass (top 87) 1
abbrev d_BodyReader_number : He.DefD := ⟨("BodyReader", some "number"), "number", "BodyReader.number", defArgs s_BodyReader_number, defBody s_BodyReader_number, defScope s_BodyReader_number, [], []⟩
abbrev s_BodyReader_take : Stmt := inClass (top 87) 2
abbrev d_BodyReader_take : He.DefD := ⟨("BodyReader", some "take"), "take", "BodyReader.take", defArgs s_BodyReader_take, defBody s_BodyReader_take, defScope s_BodyReader_take, [], []⟩
abbrev s_BodyReader_text : Stmt := inClass (top 87) 3
abbrev d_BodyReader_text : He.DefD := ⟨("BodyReader", some "text"), "text", "BodyReader.text", defArgs s_BodyReader_text, defBody s_BodyReader_text, defScope s_BodyReader_text, [], []⟩
abbrev s_BodyReader_word : Stmt := inClass (top 87) 4
abbrev d_BodyReader_word : He.DefD := ⟨("BodyReader", some "word"), "word", "BodyReader.word", defArgs s_BodyReader_word, defBody s_BodyReader_word, defScope s_BodyReader_word, [], []⟩
abbrev s_BodyReader_close : Stmt := inClass (top 87) 5
abbrev d_BodyReader_close : He.DefD := ⟨("BodyReader", some "close"), "close", "BodyReader.close", defArgs s_BodyReader_close, defBody s_BodyReader_close, defScope s_BodyReader_close, [], []⟩
abbrev s_read_head : Stmt := top 88
abbrev d_read_head : He.DefD := ⟨("read_head", none), "read_head", "read_head", defArgs s_read_head, defBody s_read_head, defScope s_read_head, [], []⟩
abbrev s_read_tags : Stmt := top 89
abbrev d_read_tags : He.DefD := ⟨("read_tags", none), "read_tags", "read_tags", defArgs s_read_tags, defBody s_read_tags, defScope s_read_tags, [], []⟩
abbrev s_read_index : Stmt := top 90
abbrev d_read_index : He.DefD := ⟨("read_index", none), "read_index", "read_index", defArgs s_read_index, defBody s_read_index, defScope s_read_index, [], []⟩
abbrev s_read_end : Stmt := top 91
abbrev d_read_end : He.DefD := ⟨("read_end", none), "read_end", "read_end", defArgs s_read_end, defBody s_read_end, defScope s_read_end, [], []⟩
abbrev s_read_content : Stmt := top 92
abbrev d_read_content : He.DefD := ⟨("read_content", none), "read_content", "read_content", defArgs s_read_content, defBody s_read_content, defScope s_read_content, [], []⟩
abbrev s_write_leaf : Stmt := top 102
abbrev d_write_leaf : He.DefD := ⟨("write_leaf", none), "write_leaf", "write_leaf", defArgs s_write_leaf, defBody s_write_leaf, defScope s_write_leaf, [], []⟩
abbrev s_small_byte : Stmt := top 104
abbrev d_small_byte : He.DefD := ⟨("small_byte", none), "small_byte", "small_byte", defArgs s_small_byte, defBody s_small_byte, defScope s_small_byte, [], []⟩
abbrev s_word_at : Stmt := top 105
abbrev d_word_at : He.DefD := ⟨("word_at", none), "word_at", "word_at", defArgs s_word_at, defBody s_word_at, defScope s_word_at, [], []⟩
abbrev s_steps_at : Stmt := top 106
abbrev d_steps_at : He.DefD := ⟨("steps_at", none), "steps_at", "steps_at", defArgs s_steps_at, defBody s_steps_at, defScope s_steps_at, [], []⟩
abbrev s_read_leaf : Stmt := top 107
abbrev d_read_leaf : He.DefD := ⟨("read_leaf", none), "read_leaf", "read_leaf", defArgs s_read_leaf, defBody s_read_leaf, defScope s_read_leaf, [], []⟩
abbrev s_stuff : Stmt := top 110
abbrev d_stuff : He.DefD := ⟨("stuff", none), "stuff", "stuff", defArgs s_stuff, defBody s_stuff, defScope s_stuff, [], []⟩
abbrev s_unstuff : Stmt := top 111
abbrev d_unstuff : He.DefD := ⟨("unstuff", none), "unstuff", "unstuff", defArgs s_unstuff, defBody s_unstuff, defScope s_unstuff, [], []⟩
abbrev s_write_leaves : Stmt := top 113
abbrev d_write_leaves : He.DefD := ⟨("write_leaves", none), "write_leaves", "write_leaves", defArgs s_write_leaves, defBody s_write_leaves, defScope s_write_leaves, [], []⟩
abbrev s_places : Stmt := top 114
abbrev d_places : He.DefD := ⟨("places", none), "places", "places", defArgs s_places, defBody s_places, defScope s_places, [], []⟩
abbrev s_leaf_at : Stmt := top 116
abbrev d_leaf_at : He.DefD := ⟨("leaf_at", none), "leaf_at", "leaf_at", defArgs s_leaf_at, defBody s_leaf_at, defScope s_leaf_at, [], []⟩
abbrev s_salvage : Stmt := top 117
abbrev d_salvage : He.DefD := ⟨("salvage", none), "salvage", "salvage", defArgs s_salvage, defBody s_salvage, defScope s_salvage, [], []⟩
abbrev s_stamps : Stmt := top 118
abbrev d_stamps : He.DefD := ⟨("stamps", none), "stamps", "stamps", defArgs s_stamps, defBody s_stamps, defScope s_stamps, [], []⟩
abbrev s_fresh : Stmt := top 119
abbrev d_fresh : He.DefD := ⟨("fresh", none), "fresh", "fresh", defArgs s_fresh, defBody s_fresh, defScope s_fresh, [], []⟩
abbrev s_roll : Stmt := top 120
abbrev d_roll : He.DefD := ⟨("roll", none), "roll", "roll", defArgs s_roll, defBody s_roll, defScope s_roll, [], []⟩
abbrev s_gaps : Stmt := top 121
abbrev d_gaps : He.DefD := ⟨("gaps", none), "gaps", "gaps", defArgs s_gaps, defBody s_gaps, defScope s_gaps, [], []⟩
abbrev s_last_key : Stmt := top 123
abbrev d_last_key : He.DefD := ⟨("last_key", none), "last_key", "last_key", defArgs s_last_key, defBody s_last_key, defScope s_last_key, [], []⟩
abbrev s_greedy : Stmt := top 124
abbrev d_greedy : He.DefD := ⟨("greedy", none), "greedy", "greedy", defArgs s_greedy, defBody s_greedy, defScope s_greedy, [], []⟩
abbrev s_greedy_index : Stmt := top 125
abbrev d_greedy_index : He.DefD := ⟨("greedy_index", none), "greedy_index", "greedy_index", defArgs s_greedy_index, defBody s_greedy_index, defScope s_greedy_index, [], []⟩
abbrev s_best_index : Stmt := top 126
abbrev d_best_index : He.DefD := ⟨("best_index", none), "best_index", "best_index", defArgs s_best_index, defBody s_best_index, defScope s_best_index, [], []⟩
abbrev s_LeafWriter_init : Stmt := inClass (top 128) 0
abbrev d_LeafWriter_init : He.DefD := ⟨("LeafWriter", some "__init__"), "__init__", "LeafWriter.__init__", defArgs s_LeafWriter_init, defBody s_LeafWriter_init, defScope s_LeafWriter_init, [], []⟩
abbrev s_LeafWriter_add : Stmt := inClass (top 128) 1
abbrev d_LeafWriter_add : He.DefD := ⟨("LeafWriter", some "add"), "add", "LeafWriter.add", defArgs s_LeafWriter_add, defBody s_LeafWriter_add, defScope s_LeafWriter_add, [], []⟩
abbrev s_LeafWriter_add_plain : Stmt := inClass (top 128) 2
abbrev d_LeafWriter_add_plain : He.DefD := ⟨("LeafWriter", some "add_plain"), "add_plain", "LeafWriter.add_plain", defArgs s_LeafWriter_add_plain, defBody s_LeafWriter_add_plain, defScope s_LeafWriter_add_plain, [], []⟩
abbrev s_in_times : Stmt := top 129
abbrev d_in_times : He.DefD := ⟨("in_times", none), "in_times", "in_times", defArgs s_in_times, defBody s_in_times, defScope s_in_times, [], []⟩
abbrev s_written : Stmt := top 130
abbrev d_written : He.DefD := ⟨("written", none), "written", "written", defArgs s_written, defBody s_written, defScope s_written, [], []⟩
abbrev s_file_from : Stmt := top 131
abbrev d_file_from : He.DefD := ⟨("file_from", none), "file_from", "file_from", defArgs s_file_from, defBody s_file_from, defScope s_file_from, [], []⟩
abbrev s_with_bodies : Stmt := top 132
abbrev d_with_bodies : He.DefD := ⟨("with_bodies", none), "with_bodies", "with_bodies", defArgs s_with_bodies, defBody s_with_bodies, defScope s_with_bodies, [], []⟩
abbrev s_write : Stmt := top 133
abbrev d_write : He.DefD := ⟨("write", none), "write", "write", defArgs s_write, defBody s_write, defScope s_write, [.int 100], []⟩
abbrev s_first_leaves : Stmt := top 136
abbrev d_first_leaves : He.DefD := ⟨("first_leaves", none), "first_leaves", "first_leaves", defArgs s_first_leaves, defBody s_first_leaves, defScope s_first_leaves, [], []⟩
abbrev s_content_of : Stmt := top 137
abbrev d_content_of : He.DefD := ⟨("content_of", none), "content_of", "content_of", defArgs s_content_of, defBody s_content_of, defScope s_content_of, [], []⟩
abbrev s_sound_contents : Stmt := top 138
abbrev d_sound_contents : He.DefD := ⟨("sound_contents", none), "sound_contents", "sound_contents", defArgs s_sound_contents, defBody s_sound_contents, defScope s_sound_contents, [], []⟩
abbrev s_sound : Stmt := top 139
abbrev d_sound : He.DefD := ⟨("sound", none), "sound", "sound", defArgs s_sound, defBody s_sound, defScope s_sound, [], []⟩
abbrev s_found_head : Stmt := top 140
abbrev d_found_head : He.DefD := ⟨("found_head", none), "found_head", "found_head", defArgs s_found_head, defBody s_found_head, defScope s_found_head, [], []⟩
abbrev s_found_tags : Stmt := top 141
abbrev d_found_tags : He.DefD := ⟨("found_tags", none), "found_tags", "found_tags", defArgs s_found_tags, defBody s_found_tags, defScope s_found_tags, [], []⟩
abbrev s_units_of : Stmt := top 142
abbrev d_units_of : He.DefD := ⟨("units_of", none), "units_of", "units_of", defArgs s_units_of, defBody s_units_of, defScope s_units_of, [], []⟩
abbrev s_rebuilt : Stmt := top 143
abbrev d_rebuilt : He.DefD := ⟨("rebuilt", none), "rebuilt", "rebuilt", defArgs s_rebuilt, defBody s_rebuilt, defScope s_rebuilt, [], []⟩
abbrev s_rebuild : Stmt := top 144
abbrev d_rebuild : He.DefD := ⟨("rebuild", none), "rebuild", "rebuild", defArgs s_rebuild, defBody s_rebuild, defScope s_rebuild, [], []⟩
abbrev s_unstuffed : Stmt := top 146
abbrev d_unstuffed : He.DefD := ⟨("unstuffed", none), "unstuffed", "unstuffed", defArgs s_unstuffed, defBody s_unstuffed, defScope s_unstuffed, [], []⟩
abbrev s_leaf_of : Stmt := top 147
abbrev d_leaf_of : He.DefD := ⟨("leaf_of", none), "leaf_of", "leaf_of", defArgs s_leaf_of, defBody s_leaf_of, defScope s_leaf_of, [], []⟩
abbrev s_LeafReader_init : Stmt := inClass (top 148) 0
abbrev d_LeafReader_init : He.DefD := ⟨("LeafReader", some "__init__"), "__init__", "LeafReader.__init__", defArgs s_LeafReader_init, defBody s_LeafReader_init, defScope s_LeafReader_init, [], []⟩
abbrev s_LeafReader_extend : Stmt := inClass (top 148) 1
abbrev d_LeafReader_extend : He.DefD := ⟨("LeafReader", some "extend"), "extend", "LeafReader.extend", defArgs s_LeafReader_extend, defBody s_LeafReader_extend, defScope s_LeafReader_extend, [], []⟩
abbrev s_LeafReader_next_leaf : Stmt := inClass (top 148) 3
abbrev d_LeafReader_next_leaf : He.DefD := ⟨("LeafReader", some "next_leaf"), "next_leaf", "LeafReader.next_leaf", defArgs s_LeafReader_next_leaf, defBody s_LeafReader_next_leaf, defScope s_LeafReader_next_leaf, [], []⟩
abbrev s_LeafReader_finish : Stmt := inClass (top 148) 4
abbrev d_LeafReader_finish : He.DefD := ⟨("LeafReader", some "finish"), "finish", "LeafReader.finish", defArgs s_LeafReader_finish, defBody s_LeafReader_finish, defScope s_LeafReader_finish, [], []⟩
abbrev s_LeafReader_check_leaf : Stmt := inClass (top 148) 5
abbrev d_LeafReader_check_leaf : He.DefD := ⟨("LeafReader", some "check_leaf"), "check_leaf", "LeafReader.check_leaf", defArgs s_LeafReader_check_leaf, defBody s_LeafReader_check_leaf, defScope s_LeafReader_check_leaf, [], []⟩
abbrev s_LeafReader_is_in_order : Stmt := inClass (top 148) 6
abbrev d_LeafReader_is_in_order : He.DefD := ⟨("LeafReader", some "is_in_order"), "is_in_order", "LeafReader.is_in_order", defArgs s_LeafReader_is_in_order, defBody s_LeafReader_is_in_order, defScope s_LeafReader_is_in_order, [], []⟩
abbrev s_LeafReader_check_body : Stmt := inClass (top 148) 7
abbrev d_LeafReader_check_body : He.DefD := ⟨("LeafReader", some "check_body"), "check_body", "LeafReader.check_body", defArgs s_LeafReader_check_body, defBody s_LeafReader_check_body, defScope s_LeafReader_check_body, [], []⟩
abbrev s_LeafReader_check_unit : Stmt := inClass (top 148) 8
abbrev d_LeafReader_check_unit : He.DefD := ⟨("LeafReader", some "check_unit"), "check_unit", "LeafReader.check_unit", defArgs s_LeafReader_check_unit, defBody s_LeafReader_check_unit, defScope s_LeafReader_check_unit, [], []⟩
abbrev s_LeafReader_check_entries : Stmt := inClass (top 148) 9
abbrev d_LeafReader_check_entries : He.DefD := ⟨("LeafReader", some "check_entries"), "check_entries", "LeafReader.check_entries", defArgs s_LeafReader_check_entries, defBody s_LeafReader_check_entries, defScope s_LeafReader_check_entries, [], []⟩
abbrev s_LeafReader_check_end : Stmt := inClass (top 148) 10
abbrev d_LeafReader_check_end : He.DefD := ⟨("LeafReader", some "check_end"), "check_end", "LeafReader.check_end", defArgs s_LeafReader_check_end, defBody s_LeafReader_check_end, defScope s_LeafReader_check_end, [], []⟩
abbrev s_copied : Stmt := top 150
abbrev d_copied : He.DefD := ⟨("copied", none), "copied", "copied", defArgs s_copied, defBody s_copied, defScope s_copied, [], []⟩
abbrev s_Reader_init : Stmt := inClass (top 151) 0
abbrev d_Reader_init : He.DefD := ⟨("Reader", some "__init__"), "__init__", "Reader.__init__", defArgs s_Reader_init, defBody s_Reader_init, defScope s_Reader_init, [], []⟩
abbrev s_Reader_feed : Stmt := inClass (top 151) 1
abbrev d_Reader_feed : He.DefD := ⟨("Reader", some "feed"), "feed", "Reader.feed", defArgs s_Reader_feed, defBody s_Reader_feed, defScope s_Reader_feed, [], []⟩
abbrev s_Reader__later_unit : Stmt := inClass (top 151) 2
abbrev d_Reader__later_unit : He.DefD := ⟨("Reader", some "_later_unit"), "_later_unit", "Reader._later_unit", defArgs s_Reader__later_unit, defBody s_Reader__later_unit, defScope s_Reader__later_unit, [], []⟩
abbrev s_Reader__next_unit : Stmt := inClass (top 151) 3
abbrev d_Reader__next_unit : He.DefD := ⟨("Reader", some "_next_unit"), "_next_unit", "Reader._next_unit", defArgs s_Reader__next_unit, defBody s_Reader__next_unit, defScope s_Reader__next_unit, [], []⟩
abbrev s_Reader_close : Stmt := inClass (top 151) 4
abbrev d_Reader_close : He.DefD := ⟨("Reader", some "close"), "close", "Reader.close", defArgs s_Reader_close, defBody s_Reader_close, defScope s_Reader_close, [], []⟩
abbrev s_read : Stmt := top 153
abbrev d_read : He.DefD := ⟨("read", none), "read", "read", defArgs s_read, defBody s_read, defScope s_read, [], []⟩
abbrev s__law_numbers : Stmt := top 155
abbrev d__law_numbers : He.DefD := ⟨("_law_numbers", none), "_law_numbers", "_law_numbers", defArgs s__law_numbers, defBody s__law_numbers, defScope s__law_numbers, [], []⟩
abbrev s__law_content : Stmt := top 156
abbrev d__law_content : He.DefD := ⟨("_law_content", none), "_law_content", "_law_content", defArgs s__law_content, defBody s__law_content, defScope s__law_content, [], []⟩
abbrev s__law_units : Stmt := top 157
abbrev d__law_units : He.DefD := ⟨("_law_units", none), "_law_units", "_law_units", defArgs s__law_units, defBody s__law_units, defScope s__law_units, [], []⟩
abbrev s__law_presentation : Stmt := top 158
abbrev d__law_presentation : He.DefD := ⟨("_law_presentation", none), "_law_presentation", "_law_presentation", defArgs s__law_presentation, defBody s__law_presentation, defScope s__law_presentation, [], []⟩
abbrev s__law_pieces : Stmt := top 160
abbrev d__law_pieces : He.DefD := ⟨("_law_pieces", none), "_law_pieces", "_law_pieces", defArgs s__law_pieces, defBody s__law_pieces, defScope s__law_pieces, [], []⟩
abbrev s__law_mixed : Stmt := top 164
abbrev d__law_mixed : He.DefD := ⟨("_law_mixed", none), "_law_mixed", "_law_mixed", defArgs s__law_mixed, defBody s__law_mixed, defScope s__law_mixed, [], []⟩
abbrev s__law_absent : Stmt := top 165
abbrev d__law_absent : He.DefD := ⟨("_law_absent", none), "_law_absent", "_law_absent", defArgs s__law_absent, defBody s__law_absent, defScope s__law_absent, [], []⟩
abbrev s_law : Stmt := top 166
abbrev d_law : He.DefD := ⟨("law", none), "law", "law", defArgs s_law, defBody s_law, defScope s_law, [], []⟩
abbrev s_SpoolboxError_init : Stmt := inClass (top 2) 0
abbrev d_SpoolboxError_init : He.DefD := ⟨("SpoolboxError", some "__init__"), "__init__", "SpoolboxError.__init__", defArgs s_SpoolboxError_init, defBody s_SpoolboxError_init, defScope s_SpoolboxError_init, [], []⟩
abbrev fn : List He.DefD := [d_alike, d_change, d_changed, d_is_line, d_is_word, d_is_row, d_are_units, d_step_size, d_are_tags, d_is_presentation, d_put_steps, d_get_steps, d_checksum, d_four_bytes, d_number_of, d_char_of, d_bytes_of, d_text_bytes, d_head_of_rows, d_tags_body, d_index_body, d_end_body, d_unit_body, d_BodyReader_init, d_BodyReader_number, d_BodyReader_take, d_BodyReader_text, d_BodyReader_word, d_BodyReader_close, d_read_head, d_read_tags, d_read_index, d_read_end, d_read_content, d_write_leaf, d_small_byte, d_word_at, d_steps_at, d_read_leaf, d_stuff, d_unstuff, d_write_leaves, d_places, d_leaf_at, d_salvage, d_stamps, d_fresh, d_roll, d_gaps, d_last_key, d_greedy, d_greedy_index, d_best_index, d_LeafWriter_init, d_LeafWriter_add, d_LeafWriter_add_plain, d_in_times, d_written, d_file_from, d_with_bodies, d_write, d_first_leaves, d_content_of, d_sound_contents, d_sound, d_found_head, d_found_tags, d_units_of, d_rebuilt, d_rebuild, d_unstuffed, d_leaf_of, d_LeafReader_init, d_LeafReader_extend, d_LeafReader_next_leaf, d_LeafReader_finish, d_LeafReader_check_leaf, d_LeafReader_is_in_order, d_LeafReader_check_body, d_LeafReader_check_unit, d_LeafReader_check_entries, d_LeafReader_check_end, d_copied, d_Reader_init, d_Reader_feed, d_Reader__later_unit, d_Reader__next_unit, d_Reader_close, d_read, d__law_numbers, d__law_content, d__law_units, d__law_presentation, d__law_pieces, d__law_mixed, d__law_absent, d_law, d_SpoolboxError_init]
abbrev fa : List He.Fa := [.glo "alike", .glo "change", .glo "changed", .glo "is_line", .glo "is_word", .glo "is_row", .glo "are_units", .glo "step_size", .glo "are_tags", .glo "is_presentation", .glo "put_steps", .glo "get_steps", .glo "checksum", .glo "four_bytes", .glo "number_of", .glo "char_of", .glo "bytes_of", .glo "text_bytes", .glo "head_of_rows", .glo "tags_body", .glo "index_body", .glo "end_body", .glo "unit_body", .glo "read_head", .glo "read_tags", .glo "read_index", .glo "read_end", .glo "read_content", .glo "write_leaf", .glo "small_byte", .glo "word_at", .glo "steps_at", .glo "read_leaf", .glo "stuff", .glo "unstuff", .glo "write_leaves", .glo "places", .glo "leaf_at", .glo "salvage", .glo "stamps", .glo "fresh", .glo "roll", .glo "gaps", .glo "last_key", .glo "greedy", .glo "greedy_index", .glo "best_index", .glo "in_times", .glo "written", .glo "file_from", .glo "with_bodies", .glo "write", .glo "first_leaves", .glo "content_of", .glo "sound_contents", .glo "sound", .glo "found_head", .glo "found_tags", .glo "units_of", .glo "rebuilt", .glo "rebuild", .glo "unstuffed", .glo "leaf_of", .glo "copied", .glo "read", .glo "_law_numbers", .glo "_law_content", .glo "_law_units", .glo "_law_presentation", .glo "_law_pieces", .glo "_law_mixed", .glo "_law_absent", .glo "law", .glo "BodyReader", .glo "LeafWriter", .glo "LeafReader", .glo "Reader", .glo "NoHead", .glo "SpoolboxError", .glo "MOST", .free "len", .free "range", .free "zip", .free "ord", .free "abs", .free "int", .free "list", .free "tuple", .free "min", .free "max", .free "sorted", .free "all", .free "isinstance", .free "ValueError", .int "MOST_TICKS" 90000, .int "TIME_BOUND" 1099511627776, .int "SPAN_BOUND" 16777216, .int "MOST_TRACKS" 15, .int "MOST_UNITS_presentation" 300, .int "MOST_CONTENT" 200, .int "MOST_NAME" 32, .int "MOST_WORD" 16, .int "MOST_VALUE" 100, .int "MOST_BODY_presentation" 1024, .int "BOUND" 1099511627776, .int "MOST_BYTES" 6, .int "FULL" 4294967295, .int "POLYNOMIAL" 3988292384, .int "VERSION" 1, .int "MOST_ENTRIES" 100, .int "MOST_LEAVES" 4294967295, .int "HEAD" 0, .int "TAGS" 1, .int "UNIT" 2, .int "INDEX" 3, .int "END" 4, .int "WORD" 4294967295, .int "MOST_BODY_leaves" 1024, .int "FULL_BLOCK" 255, .int "MOST_UNITS_rebuild" 300, .str "LETTERS" "spool", .str "CHARS" " !\"#$&'()*+,-./0123456789:;<=>?@ABCDEFGHIJKLMNOPQRSTUVWXYZ[\\]^_`abcdefghijklmnopqrstuvwxyz{|}~", .cls "BodyReader", .mkr "BodyReader", .noat "BodyReader" "body", .noat "BodyReader" "at", .cls "LeafWriter", .mkr "LeafWriter", .noat "LeafWriter" "stamp", .noat "LeafWriter" "leaves", .noat "LeafWriter" "data", .cls "LeafReader", .mkr "LeafReader", .noat "LeafReader" "data", .noat "LeafReader" "at", .noat "LeafReader" "scan", .noat "LeafReader" "count", .noat "LeafReader" "stamp", .noat "LeafReader" "last", .noat "LeafReader" "head", .noat "LeafReader" "tags", .noat "LeafReader" "entries", .noat "LeafReader" "units", .noat "LeafReader" "places", .cls "Reader", .mkr "Reader", .noat "Reader" "_leaves", .noat "Reader" "_units", .noat "Reader" "_given", .noat "Reader" "_bad", .meth "BodyReader" "number", .meth "BodyReader" "take", .meth "BodyReader" "text", .meth "BodyReader" "word", .meth "BodyReader" "close", .meth "LeafWriter" "add", .meth "LeafWriter" "add_plain", .meth "LeafReader" "extend", .meth "LeafReader" "next_leaf", .meth "LeafReader" "finish", .meth "LeafReader" "check_leaf", .meth "LeafReader" "is_in_order", .meth "LeafReader" "check_body", .meth "LeafReader" "check_unit", .meth "LeafReader" "check_entries", .meth "LeafReader" "check_end", .meth "Reader" "feed", .meth "Reader" "_later_unit", .meth "Reader" "_next_unit", .meth "Reader" "close"]
def asL : List Addr := [3, 492, 499, 506, 511, 516, 521, 528, 535, 542, 549, 556, 563, 570, 575, 582, 589, 594, 601, 608, 615, 622, 629, 636, 650, 657, 664, 669, 676, 683, 697, 704, 711, 718, 725, 733, 747, 754, 761, 768, 775, 782, 789, 794, 801, 808, 815, 822, 827, 834, 841, 848, 853, 858, 872, 879, 886, 898, 903, 908, 913, 921, 928, 935, 942, 949, 956, 963, 968, 975, 982, 989, 996, 1010, 1017, 1029, 1036, 1043, 1050, 1055, 1062, 1069, 1076, 1088, 1102, 1109, 1116, 1123, 1130, 1165, 1170, 1175, 1182, 1189, 1201, 1229, 1236, 1241, 35, 491, 498, 505, 510, 515, 520, 527, 534, 541, 548, 555, 562, 569, 574, 581, 588, 593, 600, 607, 614, 621, 628, 635, 649, 656, 663, 668, 675, 682, 696, 703, 710, 717, 724, 732, 746, 753, 760, 767, 774, 781, 788, 793, 800, 807, 814, 821, 826, 833, 840, 847, 852, 857, 871, 878, 885, 897, 902, 907, 912, 920, 914, 927, 934, 941, 948, 955, 962, 967, 974, 981, 988, 995, 1009, 1016, 1028, 1035, 1042, 1049, 1054, 1061, 1068, 1075, 1087, 1101, 1108, 1115, 1122, 1129, 1164, 1169, 1174, 1181, 1188, 1200, 1228, 1235, 1240, 34, 686, 685, 889, 888, 1079, 1078, 1154, 1153, 483, 482, 38, 37, 726]
theorem ex1 {α : Type} {us : List α} (h : us.length = 1) : ∃ a, us = [a] := by
  match us, h with
  | [a], _ => exact ⟨a, rfl⟩
theorem ex2 {α : Type} {us : List α} (h : us.length = 2) : ∃ a b, us = [a, b] := by
  match us, h with
  | [a, b], _ => exact ⟨a, b, rfl⟩
theorem ex3 {α : Type} {us : List α} (h : us.length = 3) : ∃ a b c, us = [a, b, c] := by
  match us, h with
  | [a, b, c], _ => exact ⟨a, b, c, rfl⟩
theorem ex4 {α : Type} {us : List α} (h : us.length = 4) : ∃ a b c d, us = [a, b, c, d] := by
  match us, h with
  | [a, b, c, d], _ => exact ⟨a, b, c, d, rfl⟩
theorem ex5 {α : Type} {us : List α} (h : us.length = 5) : ∃ a b c d e, us = [a, b, c, d, e] := by
  match us, h with
  | [a, b, c, d, e], _ => exact ⟨a, b, c, d, e, rfl⟩
theorem ex6 {α : Type} {us : List α} (h : us.length = 6) : ∃ a b c d e f, us = [a, b, c, d, e, f] := by
  match us, h with
  | [a, b, c, d, e, f], _ => exact ⟨a, b, c, d, e, f, rfl⟩
theorem ex7 {α : Type} {us : List α} (h : us.length = 7) : ∃ a b c d e f g, us = [a, b, c, d, e, f, g] := by
  match us, h with
  | [a, b, c, d, e, f, g], _ => exact ⟨a, b, c, d, e, f, g, rfl⟩
theorem ex8 {α : Type} {us : List α} (h : us.length = 8) : ∃ a b c d e f g h, us = [a, b, c, d, e, f, g, h] := by
  match us, h with
  | [a, b, c, d, e, f, g, h], _ => exact ⟨a, b, c, d, e, f, g, h, rfl⟩
abbrev ga (K : PySem.W.Frag) (x : Str) : Addr := He.ga K x
abbrev ma (K : PySem.W.Frag) (C : Addr) (m : Str) : Addr := He.ma K C m
/-- what is asked of the exceptions' classes and of the table MOST -/
def oexB (K : PySem.W.Frag) (C : Addr) : Bool := (match K.lookup C with
  | some ⟨.type t, dd, .cls cd, sl⟩ => (match cd.mro, sl.toList with
    | .ref C' :: bm, [s0, s1, s2, s3, some (.builtin n), s5] => decide (t = "type") && (decide (C' = C) && (decide (n = "ValueError.__new__") && (PySem.HandSPX.refsVE bm && (cd.hasDict && !cd.hasDel))))
    | _, _ => false)
  | _ => false) && (decide (PySem.W.findIn K (.ref C) "__setattr__" = some (some (.builtin "object.__setattr__"))) && (decide (PySem.W.subIn K (.ref C) (.type "BaseException") = some true) && (decide (PySem.W.typeIn K (.ref C) = some (.type "type")) && PySem.W.keepIn K (.ref C))))
def excB (K : PySem.W.Frag) (D : Addr) : Bool := decide (PySem.W.findIn K (.ref D) "__getattribute__" = some (some (.builtin "BaseException.__getattribute__"))) && (decide (PySem.W.findIn K (.ref D) "__getattr__" = some none) && (decide (PySem.W.subIn K (.ref D) (.type "BaseException") = some true) &&
  (PySem.W.hasDictIn K D && (decide (PySem.W.findIn K (.ref D) "__class__" = some (some (.builtin "object.__class__"))) && (decide (PySem.W.specialIn K (.builtin "object.__class__") "__get__" = some (some (.builtin "getset_descriptor.__get__"))) &&
  (decide (PySem.W.takesIn K (.builtin "object.__class__") = some true) && decide (PySem.W.mroIn K D (.type "object") = some true)))))))
def exB (K : PySem.W.Frag) : Bool := oexB K (ga K "NoHead") && (excB K (ga K "NoHead") && (decide (PySem.W.findIn K (.ref (ga K "NoHead")) "at" = some none) && (decide (PySem.W.findIn K (.ref (ga K "NoHead")) "__init__" = some (some (.ref (ma K (ga K "SpoolboxError") "__init__")))) &&
  (decide (PySem.W.typeIn K (.ref (ma K (ga K "SpoolboxError") "__init__")) = some (.type "function")) && (decide (PySem.W.exmOne K (.ref (ga K "NoHead")) (.ref (ga K "SpoolboxError")) = some true) && (decide (PySem.W.kitOne K (.ref (ga K "NoHead")) (.ref (ga K "NoHead")) = some true) &&
  ((match PySem.W.findCls K (.type "ValueError") (.type "type") "__init__" with | some (.val (.builtin n)) => decide (n = "ValueError.__init__") | _ => false) && He.tupB K "MOST" [.int 4, .int 4294967295, .int 4294967295, .int 15, .int 16777215, .int 1099511627775, .int 16777215, .int 1])))))))
abbrev AlL : Type := He.AlD × Bool
def obsL (K : PySem.W.Frag) : AlL := (He.obsD fa fn K, exB K)
def valL : AlL := (He.valD fn, true)
end Sp
namespace Sp
open PySem PySem.Spec PyProof.Rows L2
abbrev R : PySem.W.OpenRow := PySem.W.OpenLaw.row PySem.Challenge.rw_spoolbox_k52_whole_mixed_files
def hkL : PySem.W.Hook where
  α := AlL
  obs := fun s => obsL (He.frG s.heap.get? asL)
  val := fun _ => valL
  says := fun _ h => ∃ K : PySem.W.Frag, K.In h ∧ obsL K = valL
  of := fun _ _ e => ⟨_, He.frG_in, e⟩
  keeps := fun _ _ _ ⟨K, hK, c⟩ k => ⟨K, PySem.W.Frag.In.keeps hK k, c⟩
def ob (s : PySem.W.SharedT) : AlL := obsL (He.frG (HandSHeadRun.getT s) asL)
theorem ob_eq (s : PySem.W.SharedT) : ob s = hkL.obs s.abs := by
  have e : HandSHeadRun.getT s = s.abs.heap.get? := funext (HandSHeadRun.getT_eq s)
  unfold ob
  rw [e]
  rfl
def loose0 : List Str := ["_wall", "SpoolboxError", "OutOfRange", "LooseNumber", "Truncated", "BadStuffing", "BadKind", "BadStamp", "BadNumber", "BadTrack", "BadOrdinal", "BadTime", "BadSpan", "BadKey", "BadSize", "ShortBody", "BadCheck", "NotAPresentation", "BadChange", "BadBody", "BadStart", "CutOff", "EmptyPiece", "OtherStamp", "WrongNumber", "WrongOrder", "WrongFields", "NoTrack", "TooManyUnits", "WrongOrdinal"]
def loose1 : List Str := ["WrongTime", "WrongKey", "WrongEntry", "WrongCount", "WrongSum", "MissingUnits", "Behind", "NoEnd", "NoHead", "alike", "change", "changed", "MOST_TICKS", "TIME_BOUND", "SPAN_BOUND", "MOST_TRACKS", "MOST_UNITS_presentation", "MOST_CONTENT", "MOST_NAME", "MOST_WORD", "MOST_VALUE", "MOST_BODY_presentation", "is_line", "is_word", "is_row", "are_units", "step_size", "are_tags", "is_presentation", "BOUND"]
def loose2 : List Str := ["MOST_BYTES", "put_steps", "get_steps", "FULL", "POLYNOMIAL", "checksum", "four_bytes", "number_of", "LETTERS", "VERSION", "MOST_ENTRIES", "MOST_LEAVES", "CHARS", "char_of", "bytes_of", "text_bytes", "head_of_rows", "tags_body", "index_body", "end_body", "unit_body", "BodyReader", "read_head", "read_tags", "read_index", "read_end", "read_content", "HEAD", "TAGS", "UNIT"]
def loose3 : List Str := ["INDEX", "END", "WORD", "MOST", "MOST_BODY_leaves", "write_leaf", "raise_fault", "small_byte", "word_at", "steps_at", "read_leaf", "FULL_BLOCK", "stuff", "unstuff", "write_leaves", "places", "leaf_at", "salvage", "stamps", "fresh", "roll", "gaps", "last_key", "greedy", "greedy_index", "best_index", "LeafWriter", "in_times", "written", "file_from"]
def loose4 : List Str := ["with_bodies", "write", "MOST_UNITS_rebuild", "first_leaves", "content_of", "sound_contents", "sound", "found_head", "found_tags", "units_of", "rebuilt", "rebuild", "unstuffed", "leaf_of", "LeafReader", "copied", "Reader", "read", "_law_numbers", "_law_content", "_law_units", "_law_presentation", "_law_copy", "_law_pieces", "_law_unstuffed", "_law_steps", "_law_place", "_law_mixed", "_law_absent"]
def loose : List Str := loose0 ++ loose1 ++ loose2 ++ loose3 ++ loose4
noncomputable abbrev endR (w : World) (os : OsState) : Option PySem.W.SharedT := HandSHeadRun.endF (HandSHeadRun.stepQ (HandSHeadRun.denQ HandSHeadRun.tabQ) R.prog w) 20000 R.prog w os
def keysL0 : List Str := ["__name__", "__doc__", "__package__", "__loader__", "__spec__", "__annotations__", "__builtins__", "__file__", "__cached__", "_wall", "SpoolboxError", "OutOfRange", "LooseNumber", "Truncated", "BadStuffing", "BadKind", "BadStamp", "BadNumber", "BadTrack", "BadOrdinal", "BadTime", "BadSpan", "BadKey", "BadSize", "ShortBody", "BadCheck", "NotAPresentation", "BadChange", "BadBody", "BadStart"]
def keysL1 : List Str := ["CutOff", "EmptyPiece", "OtherStamp", "WrongNumber", "WrongOrder", "WrongFields", "NoTrack", "TooManyUnits", "WrongOrdinal", "WrongTime", "WrongKey", "WrongEntry", "WrongCount", "WrongSum", "MissingUnits", "Behind", "NoEnd", "NoHead", "alike", "change", "changed", "MOST_TICKS", "TIME_BOUND", "SPAN_BOUND", "MOST_TRACKS", "MOST_UNITS_presentation", "MOST_CONTENT", "MOST_NAME", "MOST_WORD", "MOST_VALUE"]
def keysL2 : List Str := ["MOST_BODY_presentation", "is_line", "is_word", "is_row", "are_units", "step_size", "are_tags", "is_presentation", "BOUND", "MOST_BYTES", "put_steps", "get_steps", "FULL", "POLYNOMIAL", "checksum", "four_bytes", "number_of", "LETTERS", "VERSION", "MOST_ENTRIES", "MOST_LEAVES", "CHARS", "char_of", "bytes_of", "text_bytes", "head_of_rows", "tags_body", "index_body", "end_body", "unit_body"]
def keysL3 : List Str := ["BodyReader", "read_head", "read_tags", "read_index", "read_end", "read_content", "HEAD", "TAGS", "UNIT", "INDEX", "END", "WORD", "MOST", "MOST_BODY_leaves", "write_leaf", "raise_fault", "small_byte", "word_at", "steps_at", "read_leaf", "FULL_BLOCK", "stuff", "unstuff", "write_leaves", "places", "leaf_at", "salvage", "stamps", "fresh", "roll"]
def keysL4 : List Str := ["gaps", "last_key", "greedy", "greedy_index", "best_index", "LeafWriter", "in_times", "written", "file_from", "with_bodies", "write", "MOST_UNITS_rebuild", "first_leaves", "content_of", "sound_contents", "sound", "found_head", "found_tags", "units_of", "rebuilt", "rebuild", "unstuffed", "leaf_of", "LeafReader", "copied", "Reader", "read", "_law_numbers", "_law_content", "_law_units"]
def keysL5 : List Str := ["_law_presentation", "_law_copy", "_law_pieces", "_law_unstuffed", "_law_steps", "_law_place", "_law_mixed", "_law_absent", "law"]
def keysL : List Str := keysL0 ++ keysL1 ++ keysL2 ++ keysL3 ++ keysL4 ++ keysL5
theorem keys_ok : (keysL.all fun k => PySem.startupNames.contains k || R.prog.boundNames.contains k) = true := by
  kernel_rfl
def frO (s : PySem.W.SharedT) : PySem.W.Frag := He.frG (HandSHeadRun.getT s) asL
noncomputable def obL (w : World) (s : PySem.W.SharedT) : Bool × Bool × List Str × Bool × Bool := (PySem.W.staticsOk (importedModules R.prog.main.body) (PySem.W.boot_heap w.params) s.abs.heap, s.abs.heap.isNs mainGlobals, s.abs.heap.nsKeys mainGlobals, PySem.W.gensDone s.abs, PySem.W.laidKept (PySem.W.boot_heap w.params) s.abs.heap)
def obA1 (s : PySem.W.SharedT) : Bool := (fa.take 85).all fun f => f.ok (frO s)
def obA2 (s : PySem.W.SharedT) : Bool := ((fa.drop 85).all fun f => f.ok (frO s)) && exB (frO s)
def obB1 (s : PySem.W.SharedT) : He.AlD := ((fn.take 55).all fun d => d.ok (frO s), (fn.take 55).map fun d => He.fnW (frO s) d.at_)
def obB2 (s : PySem.W.SharedT) : He.AlD := ((fn.drop 55).all fun d => d.ok (frO s), (fn.drop 55).map fun d => He.fnW (frO s) d.at_)
end Sp
namespace Sp
open PySem PySem.Spec PyProof.Rows L2
theorem run1 (w : World) (os : OsState) : (endR w os).map (fun s => (obL w s, obA1 s)) = some ((true, true, keysL, true, true), true) := by
  kernel_rfl
end Sp
namespace Sp
open PySem PySem.Spec PyProof.Rows L2
theorem run2 (w : World) (os : OsState) : (endR w os).map (fun s => HandSHeadRun.seenQ (PySem.W.view R.prog [166]) loose (importedModules R.prog.main.body) (fun s => PySem.W.xlAt (PySem.W.view R.prog [166]) [] s && PySem.W.recOk R.toRowW.records s) s.abs) = some (PySem.W.openGood (PySem.W.view R.prog [166]) loose) := by
  kernel_rfl
end Sp
namespace Sp
open PySem PySem.Spec PyProof.Rows L2
theorem run3 (w : World) (os : OsState) : (endR w os).map obA2 = some true := by
  kernel_rfl
end Sp
namespace Sp
open PySem PySem.Spec PyProof.Rows L2
theorem run4 (w : World) (os : OsState) : (endR w os).map obB1 = some (true, (fn.take 55).map He.DefD.val) := by
  kernel_rfl
end Sp
namespace Sp
open PySem PySem.Spec PyProof.Rows L2
theorem run5 (w : World) (os : OsState) : (endR w os).map obB2 = some (true, (fn.drop 55).map He.DefD.val) := by
  kernel_rfl
end Sp
namespace Sp
open PySem PySem.Spec PyProof.Rows L2
theorem run (w : World) : HandSHeadRun.RunEq R (PySem.W.view R.prog [166]) hkL ob 20000 loose w := fun os => by
  have e1 := run1 w os
  have e2 := run2 w os
  have e4 := run3 w os
  have e5 := run4 w os
  have e6 := run5 w os
  show (endR w os).map _ = _
  generalize endR w os = o at e1 e2 e4 e5 e6
  cases o with
  | none => cases e1
  | some s =>
    have e1 : (obL w s, obA1 s) = ((true, true, keysL, true, true), true) := Option.some.inj e1
    have e2 := Option.some.inj e2
    have e3 : ((fa.take 85).all fun f => f.ok (frO s)) = true := congrArg Prod.snd e1
    have e4 : (((fa.drop 85).all fun f => f.ok (frO s)) && exB (frO s)) = true := Option.some.inj e4
    have e5 := Option.some.inj e5
    have e6 := Option.some.inj e6
    have l0 : obL w s = (true, true, keysL, true, true) := congrArg Prod.fst e1
    have l1 : PySem.W.staticsOk (importedModules R.prog.main.body) (PySem.W.boot_heap w.params) s.abs.heap = true := congrArg (fun z => z.1) l0
    have l2 : s.abs.heap.isNs mainGlobals = true := congrArg (fun z => z.2.1) l0
    have l3 : s.abs.heap.nsKeys mainGlobals = keysL := congrArg (fun z => z.2.2.1) l0
    have l4 : PySem.W.gensDone s.abs = true := congrArg (fun z => z.2.2.2.1) l0
    have l5 : PySem.W.laidKept (PySem.W.boot_heap w.params) s.abs.heap = true := congrArg (fun z => z.2.2.2.2) l0
    have l6 : PySem.W.namesBound R.prog s.abs.heap = true := by
      unfold PySem.W.namesBound
      rw [l2, l3, keys_ok]
      rfl
    have l7 : HandSHeadRun.looksF R.prog (PySem.W.boot_heap w.params) s.abs = true := by
      unfold HandSHeadRun.looksF
      rw [l1, l6, l4, l5]
      rfl
    have e7 : ob s = valL := by
      have a1 : (fa.all fun f => f.ok (frO s)) = true := by
        rw [← List.take_append_drop 85 fa, List.all_append, e3, (Bool.and_eq_true_iff.mp e4).1]
        rfl
      have b1 : (fn.all fun d => d.ok (frO s)) = true := by
        rw [← List.take_append_drop 55 fn, List.all_append, show ((fn.take 55).all fun d => d.ok (frO s)) = true from congrArg Prod.fst e5, show ((fn.drop 55).all fun d => d.ok (frO s)) = true from congrArg Prod.fst e6]
        rfl
      have b2 : (fn.map fun d => He.fnW (frO s) d.at_) = fn.map He.DefD.val := by
        have c1 : ((fn.take 55).map fun d => He.fnW (frO s) d.at_) = (fn.take 55).map He.DefD.val := congrArg Prod.snd e5
        have c2 : ((fn.drop 55).map fun d => He.fnW (frO s) d.at_) = (fn.drop 55).map He.DefD.val := congrArg Prod.snd e6
        rw [← List.take_append_drop 55 fn, List.map_append, List.map_append, c1, c2]
      show (((fa.all fun f => f.ok (frO s)) && (fn.all fun d => d.ok (frO s)), fn.map fun d => He.fnW (frO s) d.at_), exB (frO s)) = ((true, fn.map He.DefD.val), true)
      rw [a1, b1, b2, (Bool.and_eq_true_iff.mp e4).2]
      rfl
    exact congrArg some (Prod.ext l7 (Prod.ext e2 e7))
end Sp
namespace Sp
open PySem PySem.Spec PyProof.Rows L2
/-- what the head leaves, by names -/
def Txt (K : PySem.W.Frag) (mg : Str → Option Value) : Prop := ∃ h : Heap, K.In h ∧ h.Ns mainGlobals mg ∧ obsL K = valL
def fdAt (K : PySem.W.Frag) (a : Addr) : FuncData := match K.lookup a with
  | some ⟨_, _, .func fd, _⟩ => fd
  | _ => default
theorem fdAt_eq {K : PySem.W.Frag} {x q : Str} {ps : Arguments} {b : List Stmt} {s : Scope} {dvs : List V} {kws : List (Str × V)} {f : Addr} {fd : FuncData} (F : FunD K x q ps b s dvs kws f fd) : fdAt K f = fd := by
  obtain ⟨oc, od, dV, kV, doc, pm, an, cdv, ct, osl, e, lk, _⟩ := F.ex
  unfold fdAt
  rw [lk]
section
variable {K : PySem.W.Frag} {mg : Str → Option Value}
theorem Txt.says (T : Txt K mg) : He.SaysD fa fn K := by
  obtain ⟨h, _, _, e⟩ := T
  exact congrArg (fun z : AlL => z.1) e
theorem Txt.exB (T : Txt K mg) : exB K = true := by
  obtain ⟨h, _, _, e⟩ := T
  exact congrArg (fun z : AlL => z.2) e
theorem Txt.glo (T : Txt K mg) (i : Nat) {x : Str} (h : fa[i]? = some (.glo x)) : mg x = some (.ref (ga K x)) := by
  obtain ⟨hp, X, G, e⟩ := id T
  exact He.glo_ok X G (T.says.fact i h)
theorem Txt.free (T : Txt K mg) (i : Nat) {x : Str} (h : fa[i]? = some (.free x)) : mg x = none := by
  obtain ⟨hp, X, G, e⟩ := id T
  exact He.free_ok X G (T.says.fact i h)
theorem Txt.int (T : Txt K mg) (i : Nat) {x : Str} {z : Int} (h : fa[i]? = some (.int x z)) : ∃ t, mg x = some (.int z t) := by
  obtain ⟨hp, X, G, e⟩ := id T
  exact He.int_ok X G (T.says.fact i h)
theorem Txt.str (T : Txt K mg) (i : Nat) {x z : Str} (h : fa[i]? = some (.str x z)) : ∃ t, mg x = some (.str z t) := by
  obtain ⟨hp, X, G, e⟩ := id T
  exact He.str_ok X G (T.says.fact i h)
theorem Txt.fund (T : Txt K mg) (i : Nat) {d : He.DefD} (h : fn[i]? = some d) : FunD K d.name d.qual d.params d.body d.scope (d.dvs K) (d.kws K) (He.fAd K d.at_) (fdAt K (He.fAd K d.at_)) := by
  obtain ⟨fd, F⟩ := T.says.def_ i h
  rw [fdAt_eq F]
  exact F
theorem Txt.g_alike (T : Txt K mg) : mg "alike" = some (.ref (ga K "alike")) := T.glo 0 rfl
theorem Txt.g_change (T : Txt K mg) : mg "change" = some (.ref (ga K "change")) := T.glo 1 rfl
theorem Txt.g_changed (T : Txt K mg) : mg "changed" = some (.ref (ga K "changed")) := T.glo 2 rfl
theorem Txt.g_is_line (T : Txt K mg) : mg "is_line" = some (.ref (ga K "is_line")) := T.glo 3 rfl
theorem Txt.g_is_word (T : Txt K mg) : mg "is_word" = some (.ref (ga K "is_word")) := T.glo 4 rfl
theorem Txt.g_is_row (T : Txt K mg) : mg "is_row" = some (.ref (ga K "is_row")) := T.glo 5 rfl
theorem Txt.g_are_units (T : Txt K mg) : mg "are_units" = some (.ref (ga K "are_units")) := T.glo 6 rfl
theorem Txt.g_step_size (T : Txt K mg) : mg "step_size" = some (.ref (ga K "step_size")) := T.glo 7 rfl
theorem Txt.g_are_tags (T : Txt K mg) : mg "are_tags" = some (.ref (ga K "are_tags")) := T.glo 8 rfl
theorem Txt.g_is_presentation (T : Txt K mg) : mg "is_presentation" = some (.ref (ga K "is_presentation")) := T.glo 9 rfl
theorem Txt.g_put_steps (T : Txt K mg) : mg "put_steps" = some (.ref (ga K "put_steps")) := T.glo 10 rfl
theorem Txt.g_get_steps (T : Txt K mg) : mg "get_steps" = some (.ref (ga K "get_steps")) := T.glo 11 rfl
theorem Txt.g_checksum (T : Txt K mg) : mg "checksum" = some (.ref (ga K "checksum")) := T.glo 12 rfl
theorem Txt.g_four_bytes (T : Txt K mg) : mg "four_bytes" = some (.ref (ga K "four_bytes")) := T.glo 13 rfl
theorem Txt.g_number_of (T : Txt K mg) : mg "number_of" = some (.ref (ga K "number_of")) := T.glo 14 rfl
theorem Txt.g_char_of (T : Txt K mg) : mg "char_of" = some (.ref (ga K "char_of")) := T.glo 15 rfl
theorem Txt.g_bytes_of (T : Txt K mg) : mg "bytes_of" = some (.ref (ga K "bytes_of")) := T.glo 16 rfl
theorem Txt.g_text_bytes (T : Txt K mg) : mg "text_bytes" = some (.ref (ga K "text_bytes")) := T.glo 17 rfl
theorem Txt.g_head_of_rows (T : Txt K mg) : mg "head_of_rows" = some (.ref (ga K "head_of_rows")) := T.glo 18 rfl
theorem Txt.g_tags_body (T : Txt K mg) : mg "tags_body" = some (.ref (ga K "tags_body")) := T.glo 19 rfl
theorem Txt.g_index_body (T : Txt K mg) : mg "index_body" = some (.ref (ga K "index_body")) := T.glo 20 rfl
theorem Txt.g_end_body (T : Txt K mg) : mg "end_body" = some (.ref (ga K "end_body")) := T.glo 21 rfl
theorem Txt.g_unit_body (T : Txt K mg) : mg "unit_body" = some (.ref (ga K "unit_body")) := T.glo 22 rfl
theorem Txt.g_read_head (T : Txt K mg) : mg "read_head" = some (.ref (ga K "read_head")) := T.glo 23 rfl
theorem Txt.g_read_tags (T : Txt K mg) : mg "read_tags" = some (.ref (ga K "read_tags")) := T.glo 24 rfl
theorem Txt.g_read_index (T : Txt K mg) : mg "read_index" = some (.ref (ga K "read_index")) := T.glo 25 rfl
theorem Txt.g_read_end (T : Txt K mg) : mg "read_end" = some (.ref (ga K "read_end")) := T.glo 26 rfl
theorem Txt.g_read_content (T : Txt K mg) : mg "read_content" = some (.ref (ga K "read_content")) := T.glo 27 rfl
theorem Txt.g_write_leaf (T : Txt K mg) : mg "write_leaf" = some (.ref (ga K "write_leaf")) := T.glo 28 rfl
theorem Txt.g_small_byte (T : Txt K mg) : mg "small_byte" = some (.ref (ga K "small_byte")) := T.glo 29 rfl
theorem Txt.g_word_at (T : Txt K mg) : mg "word_at" = some (.ref (ga K "word_at")) := T.glo 30 rfl
theorem Txt.g_steps_at (T : Txt K mg) : mg "steps_at" = some (.ref (ga K "steps_at")) := T.glo 31 rfl
theorem Txt.g_read_leaf (T : Txt K mg) : mg "read_leaf" = some (.ref (ga K "read_leaf")) := T.glo 32 rfl
theorem Txt.g_stuff (T : Txt K mg) : mg "stuff" = some (.ref (ga K "stuff")) := T.glo 33 rfl
theorem Txt.g_unstuff (T : Txt K mg) : mg "unstuff" = some (.ref (ga K "unstuff")) := T.glo 34 rfl
theorem Txt.g_write_leaves (T : Txt K mg) : mg "write_leaves" = some (.ref (ga K "write_leaves")) := T.glo 35 rfl
theorem Txt.g_places (T : Txt K mg) : mg "places" = some (.ref (ga K "places")) := T.glo 36 rfl
theorem Txt.g_leaf_at (T : Txt K mg) : mg "leaf_at" = some (.ref (ga K "leaf_at")) := T.glo 37 rfl
theorem Txt.g_salvage (T : Txt K mg) : mg "salvage" = some (.ref (ga K "salvage")) := T.glo 38 rfl
theorem Txt.g_stamps (T : Txt K mg) : mg "stamps" = some (.ref (ga K "stamps")) := T.glo 39 rfl
theorem Txt.g_fresh (T : Txt K mg) : mg "fresh" = some (.ref (ga K "fresh")) := T.glo 40 rfl
theorem Txt.g_roll (T : Txt K mg) : mg "roll" = some (.ref (ga K "roll")) := T.glo 41 rfl
theorem Txt.g_gaps (T : Txt K mg) : mg "gaps" = some (.ref (ga K "gaps")) := T.glo 42 rfl
theorem Txt.g_last_key (T : Txt K mg) : mg "last_key" = some (.ref (ga K "last_key")) := T.glo 43 rfl
theorem Txt.g_greedy (T : Txt K mg) : mg "greedy" = some (.ref (ga K "greedy")) := T.glo 44 rfl
theorem Txt.g_greedy_index (T : Txt K mg) : mg "greedy_index" = some (.ref (ga K "greedy_index")) := T.glo 45 rfl
theorem Txt.g_best_index (T : Txt K mg) : mg "best_index" = some (.ref (ga K "best_index")) := T.glo 46 rfl
theorem Txt.g_in_times (T : Txt K mg) : mg "in_times" = some (.ref (ga K "in_times")) := T.glo 47 rfl
theorem Txt.g_written (T : Txt K mg) : mg "written" = some (.ref (ga K "written")) := T.glo 48 rfl
theorem Txt.g_file_from (T : Txt K mg) : mg "file_from" = some (.ref (ga K "file_from")) := T.glo 49 rfl
theorem Txt.g_with_bodies (T : Txt K mg) : mg "with_bodies" = some (.ref (ga K "with_bodies")) := T.glo 50 rfl
theorem Txt.g_write (T : Txt K mg) : mg "write" = some (.ref (ga K "write")) := T.glo 51 rfl
theorem Txt.g_first_leaves (T : Txt K mg) : mg "first_leaves" = some (.ref (ga K "first_leaves")) := T.glo 52 rfl
theorem Txt.g_content_of (T : Txt K mg) : mg "content_of" = some (.ref (ga K "content_of")) := T.glo 53 rfl
theorem Txt.g_sound_contents (T : Txt K mg) : mg "sound_contents" = some (.ref (ga K "sound_contents")) := T.glo 54 rfl
theorem Txt.g_sound (T : Txt K mg) : mg "sound" = some (.ref (ga K "sound")) := T.glo 55 rfl
theorem Txt.g_found_head (T : Txt K mg) : mg "found_head" = some (.ref (ga K "found_head")) := T.glo 56 rfl
theorem Txt.g_found_tags (T : Txt K mg) : mg "found_tags" = some (.ref (ga K "found_tags")) := T.glo 57 rfl
theorem Txt.g_units_of (T : Txt K mg) : mg "units_of" = some (.ref (ga K "units_of")) := T.glo 58 rfl
theorem Txt.g_rebuilt (T : Txt K mg) : mg "rebuilt" = some (.ref (ga K "rebuilt")) := T.glo 59 rfl
theorem Txt.g_rebuild (T : Txt K mg) : mg "rebuild" = some (.ref (ga K "rebuild")) := T.glo 60 rfl
theorem Txt.g_unstuffed (T : Txt K mg) : mg "unstuffed" = some (.ref (ga K "unstuffed")) := T.glo 61 rfl
theorem Txt.g_leaf_of (T : Txt K mg) : mg "leaf_of" = some (.ref (ga K "leaf_of")) := T.glo 62 rfl
theorem Txt.g_copied (T : Txt K mg) : mg "copied" = some (.ref (ga K "copied")) := T.glo 63 rfl
theorem Txt.g_read (T : Txt K mg) : mg "read" = some (.ref (ga K "read")) := T.glo 64 rfl
theorem Txt.g__law_numbers (T : Txt K mg) : mg "_law_numbers" = some (.ref (ga K "_law_numbers")) := T.glo 65 rfl
theorem Txt.g__law_content (T : Txt K mg) : mg "_law_content" = some (.ref (ga K "_law_content")) := T.glo 66 rfl
theorem Txt.g__law_units (T : Txt K mg) : mg "_law_units" = some (.ref (ga K "_law_units")) := T.glo 67 rfl
theorem Txt.g__law_presentation (T : Txt K mg) : mg "_law_presentation" = some (.ref (ga K "_law_presentation")) := T.glo 68 rfl
theorem Txt.g__law_pieces (T : Txt K mg) : mg "_law_pieces" = some (.ref (ga K "_law_pieces")) := T.glo 69 rfl
theorem Txt.g__law_mixed (T : Txt K mg) : mg "_law_mixed" = some (.ref (ga K "_law_mixed")) := T.glo 70 rfl
theorem Txt.g__law_absent (T : Txt K mg) : mg "_law_absent" = some (.ref (ga K "_law_absent")) := T.glo 71 rfl
theorem Txt.g_law (T : Txt K mg) : mg "law" = some (.ref (ga K "law")) := T.glo 72 rfl
theorem Txt.g_BodyReader (T : Txt K mg) : mg "BodyReader" = some (.ref (ga K "BodyReader")) := T.glo 73 rfl
theorem Txt.g_LeafWriter (T : Txt K mg) : mg "LeafWriter" = some (.ref (ga K "LeafWriter")) := T.glo 74 rfl
theorem Txt.g_LeafReader (T : Txt K mg) : mg "LeafReader" = some (.ref (ga K "LeafReader")) := T.glo 75 rfl
theorem Txt.g_Reader (T : Txt K mg) : mg "Reader" = some (.ref (ga K "Reader")) := T.glo 76 rfl
theorem Txt.g_NoHead (T : Txt K mg) : mg "NoHead" = some (.ref (ga K "NoHead")) := T.glo 77 rfl
theorem Txt.g_SpoolboxError (T : Txt K mg) : mg "SpoolboxError" = some (.ref (ga K "SpoolboxError")) := T.glo 78 rfl
theorem Txt.g_MOST (T : Txt K mg) : mg "MOST" = some (.ref (ga K "MOST")) := T.glo 79 rfl
theorem Txt.n_len (T : Txt K mg) : mg "len" = none := T.free 80 rfl
theorem Txt.n_range (T : Txt K mg) : mg "range" = none := T.free 81 rfl
theorem Txt.n_zip (T : Txt K mg) : mg "zip" = none := T.free 82 rfl
theorem Txt.n_ord (T : Txt K mg) : mg "ord" = none := T.free 83 rfl
theorem Txt.n_abs (T : Txt K mg) : mg "abs" = none := T.free 84 rfl
theorem Txt.n_int (T : Txt K mg) : mg "int" = none := T.free 85 rfl
theorem Txt.n_list (T : Txt K mg) : mg "list" = none := T.free 86 rfl
theorem Txt.n_tuple (T : Txt K mg) : mg "tuple" = none := T.free 87 rfl
theorem Txt.n_min (T : Txt K mg) : mg "min" = none := T.free 88 rfl
theorem Txt.n_max (T : Txt K mg) : mg "max" = none := T.free 89 rfl
theorem Txt.n_sorted (T : Txt K mg) : mg "sorted" = none := T.free 90 rfl
theorem Txt.n_all (T : Txt K mg) : mg "all" = none := T.free 91 rfl
theorem Txt.n_isinstance (T : Txt K mg) : mg "isinstance" = none := T.free 92 rfl
theorem Txt.n_ValueError (T : Txt K mg) : mg "ValueError" = none := T.free 93 rfl
theorem Txt.i_MOST_TICKS (T : Txt K mg) : ∃ t, mg "MOST_TICKS" = some (.int 90000 t) := T.int 94 rfl
theorem Txt.i_TIME_BOUND (T : Txt K mg) : ∃ t, mg "TIME_BOUND" = some (.int 1099511627776 t) := T.int 95 rfl
theorem Txt.i_SPAN_BOUND (T : Txt K mg) : ∃ t, mg "SPAN_BOUND" = some (.int 16777216 t) := T.int 96 rfl
theorem Txt.i_MOST_TRACKS (T : Txt K mg) : ∃ t, mg "MOST_TRACKS" = some (.int 15 t) := T.int 97 rfl
theorem Txt.i_MOST_UNITS_presentation (T : Txt K mg) : ∃ t, mg "MOST_UNITS_presentation" = some (.int 300 t) := T.int 98 rfl
theorem Txt.i_MOST_CONTENT (T : Txt K mg) : ∃ t, mg "MOST_CONTENT" = some (.int 200 t) := T.int 99 rfl
theorem Txt.i_MOST_NAME (T : Txt K mg) : ∃ t, mg "MOST_NAME" = some (.int 32 t) := T.int 100 rfl
theorem Txt.i_MOST_WORD (T : Txt K mg) : ∃ t, mg "MOST_WORD" = some (.int 16 t) := T.int 101 rfl
theorem Txt.i_MOST_VALUE (T : Txt K mg) : ∃ t, mg "MOST_VALUE" = some (.int 100 t) := T.int 102 rfl
theorem Txt.i_MOST_BODY_presentation (T : Txt K mg) : ∃ t, mg "MOST_BODY_presentation" = some (.int 1024 t) := T.int 103 rfl
theorem Txt.i_BOUND (T : Txt K mg) : ∃ t, mg "BOUND" = some (.int 1099511627776 t) := T.int 104 rfl
theorem Txt.i_MOST_BYTES (T : Txt K mg) : ∃ t, mg "MOST_BYTES" = some (.int 6 t) := T.int 105 rfl
theorem Txt.i_FULL (T : Txt K mg) : ∃ t, mg "FULL" = some (.int 4294967295 t) := T.int 106 rfl
theorem Txt.i_POLYNOMIAL (T : Txt K mg) : ∃ t, mg "POLYNOMIAL" = some (.int 3988292384 t) := T.int 107 rfl
theorem Txt.i_VERSION (T : Txt K mg) : ∃ t, mg "VERSION" = some (.int 1 t) := T.int 108 rfl
theorem Txt.i_MOST_ENTRIES (T : Txt K mg) : ∃ t, mg "MOST_ENTRIES" = some (.int 100 t) := T.int 109 rfl
theorem Txt.i_MOST_LEAVES (T : Txt K mg) : ∃ t, mg "MOST_LEAVES" = some (.int 4294967295 t) := T.int 110 rfl
theorem Txt.i_HEAD (T : Txt K mg) : ∃ t, mg "HEAD" = some (.int 0 t) := T.int 111 rfl
theorem Txt.i_TAGS (T : Txt K mg) : ∃ t, mg "TAGS" = some (.int 1 t) := T.int 112 rfl
theorem Txt.i_UNIT (T : Txt K mg) : ∃ t, mg "UNIT" = some (.int 2 t) := T.int 113 rfl
theorem Txt.i_INDEX (T : Txt K mg) : ∃ t, mg "INDEX" = some (.int 3 t) := T.int 114 rfl
theorem Txt.i_END (T : Txt K mg) : ∃ t, mg "END" = some (.int 4 t) := T.int 115 rfl
theorem Txt.i_WORD (T : Txt K mg) : ∃ t, mg "WORD" = some (.int 4294967295 t) := T.int 116 rfl
theorem Txt.i_MOST_BODY_leaves (T : Txt K mg) : ∃ t, mg "MOST_BODY_leaves" = some (.int 1024 t) := T.int 117 rfl
theorem Txt.i_FULL_BLOCK (T : Txt K mg) : ∃ t, mg "FULL_BLOCK" = some (.int 255 t) := T.int 118 rfl
theorem Txt.i_MOST_UNITS_rebuild (T : Txt K mg) : ∃ t, mg "MOST_UNITS_rebuild" = some (.int 300 t) := T.int 119 rfl
theorem Txt.s_LETTERS (T : Txt K mg) : ∃ t, mg "LETTERS" = some (.str "spool" t) := T.str 120 rfl
theorem Txt.s_CHARS (T : Txt K mg) : ∃ t, mg "CHARS" = some (.str " !\"#$&'()*+,-./0123456789:;<=>?@ABCDEFGHIJKLMNOPQRSTUVWXYZ[\\]^_`abcdefghijklmnopqrstuvwxyz{|}~" t) := T.str 121 rfl
theorem Txt.c_BodyReader (T : Txt K mg) : Cls K (ga K "BodyReader") := He.cls_ok (T.says.fact 122 rfl)
theorem Txt.mk_BodyReader (T : Txt K mg) : Mk K (ga K "BodyReader") (ma K (ga K "BodyReader") "__init__") := He.mkr_ok (T.says.fact 123 rfl)
theorem Txt.a_BodyReader_body (T : Txt K mg) : NoAttr K (ga K "BodyReader") "body" := He.noat_ok (T.says.fact 124 rfl)
theorem Txt.a_BodyReader_at (T : Txt K mg) : NoAttr K (ga K "BodyReader") "at" := He.noat_ok (T.says.fact 125 rfl)
theorem Txt.c_LeafWriter (T : Txt K mg) : Cls K (ga K "LeafWriter") := He.cls_ok (T.says.fact 126 rfl)
theorem Txt.mk_LeafWriter (T : Txt K mg) : Mk K (ga K "LeafWriter") (ma K (ga K "LeafWriter") "__init__") := He.mkr_ok (T.says.fact 127 rfl)
theorem Txt.a_LeafWriter_stamp (T : Txt K mg) : NoAttr K (ga K "LeafWriter") "stamp" := He.noat_ok (T.says.fact 128 rfl)
theorem Txt.a_LeafWriter_leaves (T : Txt K mg) : NoAttr K (ga K "LeafWriter") "leaves" := He.noat_ok (T.says.fact 129 rfl)
theorem Txt.a_LeafWriter_data (T : Txt K mg) : NoAttr K (ga K "LeafWriter") "data" := He.noat_ok (T.says.fact 130 rfl)
theorem Txt.c_LeafReader (T : Txt K mg) : Cls K (ga K "LeafReader") := He.cls_ok (T.says.fact 131 rfl)
theorem Txt.mk_LeafReader (T : Txt K mg) : Mk K (ga K "LeafReader") (ma K (ga K "LeafReader") "__init__") := He.mkr_ok (T.says.fact 132 rfl)
theorem Txt.a_LeafReader_data (T : Txt K mg) : NoAttr K (ga K "LeafReader") "data" := He.noat_ok (T.says.fact 133 rfl)
theorem Txt.a_LeafReader_at (T : Txt K mg) : NoAttr K (ga K "LeafReader") "at" := He.noat_ok (T.says.fact 134 rfl)
theorem Txt.a_LeafReader_scan (T : Txt K mg) : NoAttr K (ga K "LeafReader") "scan" := He.noat_ok (T.says.fact 135 rfl)
theorem Txt.a_LeafReader_count (T : Txt K mg) : NoAttr K (ga K "LeafReader") "count" := He.noat_ok (T.says.fact 136 rfl)
theorem Txt.a_LeafReader_stamp (T : Txt K mg) : NoAttr K (ga K "LeafReader") "stamp" := He.noat_ok (T.says.fact 137 rfl)
theorem Txt.a_LeafReader_last (T : Txt K mg) : NoAttr K (ga K "LeafReader") "last" := He.noat_ok (T.says.fact 138 rfl)
theorem Txt.a_LeafReader_head (T : Txt K mg) : NoAttr K (ga K "LeafReader") "head" := He.noat_ok (T.says.fact 139 rfl)
theorem Txt.a_LeafReader_tags (T : Txt K mg) : NoAttr K (ga K "LeafReader") "tags" := He.noat_ok (T.says.fact 140 rfl)
theorem Txt.a_LeafReader_entries (T : Txt K mg) : NoAttr K (ga K "LeafReader") "entries" := He.noat_ok (T.says.fact 141 rfl)
theorem Txt.a_LeafReader_units (T : Txt K mg) : NoAttr K (ga K "LeafReader") "units" := He.noat_ok (T.says.fact 142 rfl)
theorem Txt.a_LeafReader_places (T : Txt K mg) : NoAttr K (ga K "LeafReader") "places" := He.noat_ok (T.says.fact 143 rfl)
theorem Txt.c_Reader (T : Txt K mg) : Cls K (ga K "Reader") := He.cls_ok (T.says.fact 144 rfl)
theorem Txt.mk_Reader (T : Txt K mg) : Mk K (ga K "Reader") (ma K (ga K "Reader") "__init__") := He.mkr_ok (T.says.fact 145 rfl)
theorem Txt.a_Reader__leaves (T : Txt K mg) : NoAttr K (ga K "Reader") "_leaves" := He.noat_ok (T.says.fact 146 rfl)
theorem Txt.a_Reader__units (T : Txt K mg) : NoAttr K (ga K "Reader") "_units" := He.noat_ok (T.says.fact 147 rfl)
theorem Txt.a_Reader__given (T : Txt K mg) : NoAttr K (ga K "Reader") "_given" := He.noat_ok (T.says.fact 148 rfl)
theorem Txt.a_Reader__bad (T : Txt K mg) : NoAttr K (ga K "Reader") "_bad" := He.noat_ok (T.says.fact 149 rfl)
theorem Txt.m_BodyReader_number (T : Txt K mg) : Meth K (ga K "BodyReader") "number" (ma K (ga K "BodyReader") "number") := He.meth_ok (T.says.fact 150 rfl)
theorem Txt.m_BodyReader_take (T : Txt K mg) : Meth K (ga K "BodyReader") "take" (ma K (ga K "BodyReader") "take") := He.meth_ok (T.says.fact 151 rfl)
theorem Txt.m_BodyReader_text (T : Txt K mg) : Meth K (ga K "BodyReader") "text" (ma K (ga K "BodyReader") "text") := He.meth_ok (T.says.fact 152 rfl)
theorem Txt.m_BodyReader_word (T : Txt K mg) : Meth K (ga K "BodyReader") "word" (ma K (ga K "BodyReader") "word") := He.meth_ok (T.says.fact 153 rfl)
theorem Txt.m_BodyReader_close (T : Txt K mg) : Meth K (ga K "BodyReader") "close" (ma K (ga K "BodyReader") "close") := He.meth_ok (T.says.fact 154 rfl)
theorem Txt.m_LeafWriter_add (T : Txt K mg) : Meth K (ga K "LeafWriter") "add" (ma K (ga K "LeafWriter") "add") := He.meth_ok (T.says.fact 155 rfl)
theorem Txt.m_LeafWriter_add_plain (T : Txt K mg) : Meth K (ga K "LeafWriter") "add_plain" (ma K (ga K "LeafWriter") "add_plain") := He.meth_ok (T.says.fact 156 rfl)
theorem Txt.m_LeafReader_extend (T : Txt K mg) : Meth K (ga K "LeafReader") "extend" (ma K (ga K "LeafReader") "extend") := He.meth_ok (T.says.fact 157 rfl)
theorem Txt.m_LeafReader_next_leaf (T : Txt K mg) : Meth K (ga K "LeafReader") "next_leaf" (ma K (ga K "LeafReader") "next_leaf") := He.meth_ok (T.says.fact 158 rfl)
theorem Txt.m_LeafReader_finish (T : Txt K mg) : Meth K (ga K "LeafReader") "finish" (ma K (ga K "LeafReader") "finish") := He.meth_ok (T.says.fact 159 rfl)
theorem Txt.m_LeafReader_check_leaf (T : Txt K mg) : Meth K (ga K "LeafReader") "check_leaf" (ma K (ga K "LeafReader") "check_leaf") := He.meth_ok (T.says.fact 160 rfl)
theorem Txt.m_LeafReader_is_in_order (T : Txt K mg) : Meth K (ga K "LeafReader") "is_in_order" (ma K (ga K "LeafReader") "is_in_order") := He.meth_ok (T.says.fact 161 rfl)
theorem Txt.m_LeafReader_check_body (T : Txt K mg) : Meth K (ga K "LeafReader") "check_body" (ma K (ga K "LeafReader") "check_body") := He.meth_ok (T.says.fact 162 rfl)
theorem Txt.m_LeafReader_check_unit (T : Txt K mg) : Meth K (ga K "LeafReader") "check_unit" (ma K (ga K "LeafReader") "check_unit") := He.meth_ok (T.says.fact 163 rfl)
theorem Txt.m_LeafReader_check_entries (T : Txt K mg) : Meth K (ga K "LeafReader") "check_entries" (ma K (ga K "LeafReader") "check_entries") := He.meth_ok (T.says.fact 164 rfl)
theorem Txt.m_LeafReader_check_end (T : Txt K mg) : Meth K (ga K "LeafReader") "check_end" (ma K (ga K "LeafReader") "check_end") := He.meth_ok (T.says.fact 165 rfl)
theorem Txt.m_Reader_feed (T : Txt K mg) : Meth K (ga K "Reader") "feed" (ma K (ga K "Reader") "feed") := He.meth_ok (T.says.fact 166 rfl)
theorem Txt.m_Reader__later_unit (T : Txt K mg) : Meth K (ga K "Reader") "_later_unit" (ma K (ga K "Reader") "_later_unit") := He.meth_ok (T.says.fact 167 rfl)
theorem Txt.m_Reader__next_unit (T : Txt K mg) : Meth K (ga K "Reader") "_next_unit" (ma K (ga K "Reader") "_next_unit") := He.meth_ok (T.says.fact 168 rfl)
theorem Txt.m_Reader_close (T : Txt K mg) : Meth K (ga K "Reader") "close" (ma K (ga K "Reader") "close") := He.meth_ok (T.says.fact 169 rfl)
abbrev N_alike : List Str := ["old", "new", "most", "size"]
theorem sc_alike : FnScope N_alike ["old", "new", "most"] (defScope s_alike) := ⟨rfl, rfl, rfl, by decide +kernel, rfl, by decide +kernel, by decide +kernel⟩
theorem Txt.F_alike (T : Txt K mg) : FunD K "alike" "alike" (defArgs s_alike) (defBody s_alike) (defScope s_alike) [] [] (ga K "alike") (fdAt K (ga K "alike")) := T.fund (d := d_alike) 0 (by kernel_rfl)
theorem Txt.k_alike (T : Txt K mg) : PySem.W.keepIn K (.ref (ga K "alike")) = true := T.F_alike.kp
theorem Txt.b_alike (T : Txt K mg) : Binds K (fdAt K (ga K "alike")) ["old", "new", "most"] [] := FunD.bindsN T.F_alike fun _ _ _ _ _ _ us hl => by
  obtain ⟨a, b, c, rfl⟩ := ex3 hl
  kernel_rfl
abbrev N_change : List Str := ["old", "new", "least", "front", "back"]
theorem sc_change : FnScope N_change ["old", "new"] (defScope s_change) := ⟨rfl, rfl, rfl, by decide +kernel, rfl, by decide +kernel, by decide +kernel⟩
theorem Txt.F_change (T : Txt K mg) : FunD K "change" "change" (defArgs s_change) (defBody s_change) (defScope s_change) [] [] (ga K "change") (fdAt K (ga K "change")) := T.fund (d := d_change) 1 (by kernel_rfl)
theorem Txt.k_change (T : Txt K mg) : PySem.W.keepIn K (.ref (ga K "change")) = true := T.F_change.kp
theorem Txt.b_change (T : Txt K mg) : Binds K (fdAt K (ga K "change")) ["old", "new"] [] := FunD.bindsN T.F_change fun _ _ _ _ _ _ us hl => by
  obtain ⟨a, b, rfl⟩ := ex2 hl
  kernel_rfl
abbrev N_changed : List Str := ["old", "parts", "front", "back", "middle", "new"]
theorem sc_changed : FnScope N_changed ["old", "parts"] (defScope s_changed) := ⟨rfl, rfl, rfl, by decide +kernel, rfl, by decide +kernel, by decide +kernel⟩
theorem Txt.F_changed (T : Txt K mg) : FunD K "changed" "changed" (defArgs s_changed) (defBody s_changed) (defScope s_changed) [] [] (ga K "changed") (fdAt K (ga K "changed")) := T.fund (d := d_changed) 2 (by kernel_rfl)
theorem Txt.k_changed (T : Txt K mg) : PySem.W.keepIn K (.ref (ga K "changed")) = true := T.F_changed.kp
theorem Txt.b_changed (T : Txt K mg) : Binds K (fdAt K (ga K "changed")) ["old", "parts"] [] := FunD.bindsN T.F_changed fun _ _ _ _ _ _ us hl => by
  obtain ⟨a, b, rfl⟩ := ex2 hl
  kernel_rfl
abbrev N_is_line : List Str := ["text", "most", "char"]
theorem sc_is_line : FnScope N_is_line ["text", "most"] (defScope s_is_line) := ⟨rfl, rfl, rfl, by decide +kernel, rfl, by decide +kernel, by decide +kernel⟩
theorem Txt.F_is_line (T : Txt K mg) : FunD K "is_line" "is_line" (defArgs s_is_line) (defBody s_is_line) (defScope s_is_line) [] [] (ga K "is_line") (fdAt K (ga K "is_line")) := T.fund (d := d_is_line) 3 (by kernel_rfl)
theorem Txt.k_is_line (T : Txt K mg) : PySem.W.keepIn K (.ref (ga K "is_line")) = true := T.F_is_line.kp
theorem Txt.b_is_line (T : Txt K mg) : Binds K (fdAt K (ga K "is_line")) ["text", "most"] [] := FunD.bindsN T.F_is_line fun _ _ _ _ _ _ us hl => by
  obtain ⟨a, b, rfl⟩ := ex2 hl
  kernel_rfl
abbrev N_is_word : List Str := ["text", "char"]
theorem sc_is_word : FnScope N_is_word ["text"] (defScope s_is_word) := ⟨rfl, rfl, rfl, by decide +kernel, rfl, by decide +kernel, by decide +kernel⟩
theorem Txt.F_is_word (T : Txt K mg) : FunD K "is_word" "is_word" (defArgs s_is_word) (defBody s_is_word) (defScope s_is_word) [] [] (ga K "is_word") (fdAt K (ga K "is_word")) := T.fund (d := d_is_word) 4 (by kernel_rfl)
theorem Txt.k_is_word (T : Txt K mg) : PySem.W.keepIn K (.ref (ga K "is_word")) = true := T.F_is_word.kp
theorem Txt.b_is_word (T : Txt K mg) : Binds K (fdAt K (ga K "is_word")) ["text"] [] := FunD.bindsN T.F_is_word fun _ _ _ _ _ _ us hl => by
  obtain ⟨a, rfl⟩ := ex1 hl
  kernel_rfl
abbrev N_is_row : List Str := ["row", "most", "byte"]
theorem sc_is_row : FnScope N_is_row ["row", "most"] (defScope s_is_row) := ⟨rfl, rfl, rfl, by decide +kernel, rfl, by decide +kernel, by decide +kernel⟩
theorem Txt.F_is_row (T : Txt K mg) : FunD K "is_row" "is_row" (defArgs s_is_row) (defBody s_is_row) (defScope s_is_row) [] [] (ga K "is_row") (fdAt K (ga K "is_row")) := T.fund (d := d_is_row) 5 (by kernel_rfl)
theorem Txt.k_is_row (T : Txt K mg) : PySem.W.keepIn K (.ref (ga K "is_row")) = true := T.F_is_row.kp
theorem Txt.b_is_row (T : Txt K mg) : Binds K (fdAt K (ga K "is_row")) ["row", "most"] [] := FunD.bindsN T.F_is_row fun _ _ _ _ _ _ us hl => by
  obtain ⟨a, b, rfl⟩ := ex2 hl
  kernel_rfl
abbrev N_are_units : List Str := ["units", "least", "k", "time", "span", "content", "leans"]
theorem sc_are_units : FnScope N_are_units ["units"] (defScope s_are_units) := ⟨rfl, rfl, rfl, by decide +kernel, rfl, by decide +kernel, by decide +kernel⟩
theorem Txt.F_are_units (T : Txt K mg) : FunD K "are_units" "are_units" (defArgs s_are_units) (defBody s_are_units) (defScope s_are_units) [] [] (ga K "are_units") (fdAt K (ga K "are_units")) := T.fund (d := d_are_units) 6 (by kernel_rfl)
theorem Txt.k_are_units (T : Txt K mg) : PySem.W.keepIn K (.ref (ga K "are_units")) = true := T.F_are_units.kp
theorem Txt.b_are_units (T : Txt K mg) : Binds K (fdAt K (ga K "are_units")) ["units"] [] := FunD.bindsN T.F_are_units fun _ _ _ _ _ _ us hl => by
  obtain ⟨a, rfl⟩ := ex1 hl
  kernel_rfl
abbrev N_step_size : List Str := ["number", "size"]
theorem sc_step_size : FnScope N_step_size ["number"] (defScope s_step_size) := ⟨rfl, rfl, rfl, by decide +kernel, rfl, by decide +kernel, by decide +kernel⟩
theorem Txt.F_step_size (T : Txt K mg) : FunD K "step_size" "step_size" (defArgs s_step_size) (defBody s_step_size) (defScope s_step_size) [] [] (ga K "step_size") (fdAt K (ga K "step_size")) := T.fund (d := d_step_size) 7 (by kernel_rfl)
theorem Txt.k_step_size (T : Txt K mg) : PySem.W.keepIn K (.ref (ga K "step_size")) = true := T.F_step_size.kp
theorem Txt.b_step_size (T : Txt K mg) : Binds K (fdAt K (ga K "step_size")) ["number"] [] := FunD.bindsN T.F_step_size fun _ _ _ _ _ _ us hl => by
  obtain ⟨a, rfl⟩ := ex1 hl
  kernel_rfl
abbrev N_are_tags : List Str := ["tags", "size", "k", "key", "value"]
theorem sc_are_tags : FnScope N_are_tags ["tags"] (defScope s_are_tags) := ⟨rfl, rfl, rfl, by decide +kernel, rfl, by decide +kernel, by decide +kernel⟩
theorem Txt.F_are_tags (T : Txt K mg) : FunD K "are_tags" "are_tags" (defArgs s_are_tags) (defBody s_are_tags) (defScope s_are_tags) [] [] (ga K "are_tags") (fdAt K (ga K "are_tags")) := T.fund (d := d_are_tags) 8 (by kernel_rfl)
theorem Txt.k_are_tags (T : Txt K mg) : PySem.W.keepIn K (.ref (ga K "are_tags")) = true := T.F_are_tags.kp
theorem Txt.b_are_tags (T : Txt K mg) : Binds K (fdAt K (ga K "are_tags")) ["tags"] [] := FunD.bindsN T.F_are_tags fun _ _ _ _ _ _ us hl => by
  obtain ⟨a, rfl⟩ := ex1 hl
  kernel_rfl
abbrev N_is_presentation : List Str := ["value", "ticks", "skip", "tracks", "tags", "name", "kind", "units"]
theorem sc_is_presentation : FnScope N_is_presentation ["value"] (defScope s_is_presentation) := ⟨rfl, rfl, rfl, by decide +kernel, rfl, by decide +kernel, by decide +kernel⟩
theorem Txt.F_is_presentation (T : Txt K mg) : FunD K "is_presentation" "is_presentation" (defArgs s_is_presentation) (defBody s_is_presentation) (defScope s_is_presentation) [] [] (ga K "is_presentation") (fdAt K (ga K "is_presentation")) := T.fund (d := d_is_presentation) 9 (by kernel_rfl)
theorem Txt.k_is_presentation (T : Txt K mg) : PySem.W.keepIn K (.ref (ga K "is_presentation")) = true := T.F_is_presentation.kp
theorem Txt.b_is_presentation (T : Txt K mg) : Binds K (fdAt K (ga K "is_presentation")) ["value"] [] := FunD.bindsN T.F_is_presentation fun _ _ _ _ _ _ us hl => by
  obtain ⟨a, rfl⟩ := ex1 hl
  kernel_rfl
abbrev N_put_steps : List Str := ["number", "out"]
theorem sc_put_steps : FnScope N_put_steps ["number"] (defScope s_put_steps) := ⟨rfl, rfl, rfl, by decide +kernel, rfl, by decide +kernel, by decide +kernel⟩
theorem Txt.F_put_steps (T : Txt K mg) : FunD K "put_steps" "put_steps" (defArgs s_put_steps) (defBody s_put_steps) (defScope s_put_steps) [] [] (ga K "put_steps") (fdAt K (ga K "put_steps")) := T.fund (d := d_put_steps) 10 (by kernel_rfl)
theorem Txt.k_put_steps (T : Txt K mg) : PySem.W.keepIn K (.ref (ga K "put_steps")) = true := T.F_put_steps.kp
theorem Txt.b_put_steps (T : Txt K mg) : Binds K (fdAt K (ga K "put_steps")) ["number"] [] := FunD.bindsN T.F_put_steps fun _ _ _ _ _ _ us hl => by
  obtain ⟨a, rfl⟩ := ex1 hl
  kernel_rfl
abbrev N_get_steps : List Str := ["row", "at", "number", "k", "byte"]
theorem sc_get_steps : FnScope N_get_steps ["row", "at"] (defScope s_get_steps) := ⟨rfl, rfl, rfl, by decide +kernel, rfl, by decide +kernel, by decide +kernel⟩
theorem Txt.F_get_steps (T : Txt K mg) : FunD K "get_steps" "get_steps" (defArgs s_get_steps) (defBody s_get_steps) (defScope s_get_steps) [] [] (ga K "get_steps") (fdAt K (ga K "get_steps")) := T.fund (d := d_get_steps) 11 (by kernel_rfl)
theorem Txt.k_get_steps (T : Txt K mg) : PySem.W.keepIn K (.ref (ga K "get_steps")) = true := T.F_get_steps.kp
theorem Txt.b_get_steps (T : Txt K mg) : Binds K (fdAt K (ga K "get_steps")) ["row", "at"] [] := FunD.bindsN T.F_get_steps fun _ _ _ _ _ _ us hl => by
  obtain ⟨a, b, rfl⟩ := ex2 hl
  kernel_rfl
abbrev N_checksum : List Str := ["row", "rest", "value", "_"]
theorem sc_checksum : FnScope N_checksum ["row"] (defScope s_checksum) := ⟨rfl, rfl, rfl, by decide +kernel, rfl, by decide +kernel, by decide +kernel⟩
theorem Txt.F_checksum (T : Txt K mg) : FunD K "checksum" "checksum" (defArgs s_checksum) (defBody s_checksum) (defScope s_checksum) [] [] (ga K "checksum") (fdAt K (ga K "checksum")) := T.fund (d := d_checksum) 12 (by kernel_rfl)
theorem Txt.k_checksum (T : Txt K mg) : PySem.W.keepIn K (.ref (ga K "checksum")) = true := T.F_checksum.kp
theorem Txt.b_checksum (T : Txt K mg) : Binds K (fdAt K (ga K "checksum")) ["row"] [] := FunD.bindsN T.F_checksum fun _ _ _ _ _ _ us hl => by
  obtain ⟨a, rfl⟩ := ex1 hl
  kernel_rfl
abbrev N_four_bytes : List Str := ["number", "k"]
theorem sc_four_bytes : FnScope N_four_bytes ["number"] (defScope s_four_bytes) := ⟨rfl, rfl, rfl, by decide +kernel, rfl, by decide +kernel, by decide +kernel⟩
theorem Txt.F_four_bytes (T : Txt K mg) : FunD K "four_bytes" "four_bytes" (defArgs s_four_bytes) (defBody s_four_bytes) (defScope s_four_bytes) [] [] (ga K "four_bytes") (fdAt K (ga K "four_bytes")) := T.fund (d := d_four_bytes) 13 (by kernel_rfl)
theorem Txt.k_four_bytes (T : Txt K mg) : PySem.W.keepIn K (.ref (ga K "four_bytes")) = true := T.F_four_bytes.kp
theorem Txt.b_four_bytes (T : Txt K mg) : Binds K (fdAt K (ga K "four_bytes")) ["number"] [] := FunD.bindsN T.F_four_bytes fun _ _ _ _ _ _ us hl => by
  obtain ⟨a, rfl⟩ := ex1 hl
  kernel_rfl
abbrev N_number_of : List Str := ["row"]
theorem sc_number_of : FnScope N_number_of ["row"] (defScope s_number_of) := ⟨rfl, rfl, rfl, by decide +kernel, rfl, by decide +kernel, by decide +kernel⟩
theorem Txt.F_number_of (T : Txt K mg) : FunD K "number_of" "number_of" (defArgs s_number_of) (defBody s_number_of) (defScope s_number_of) [] [] (ga K "number_of") (fdAt K (ga K "number_of")) := T.fund (d := d_number_of) 14 (by kernel_rfl)
theorem Txt.k_number_of (T : Txt K mg) : PySem.W.keepIn K (.ref (ga K "number_of")) = true := T.F_number_of.kp
theorem Txt.b_number_of (T : Txt K mg) : Binds K (fdAt K (ga K "number_of")) ["row"] [] := FunD.bindsN T.F_number_of fun _ _ _ _ _ _ us hl => by
  obtain ⟨a, rfl⟩ := ex1 hl
  kernel_rfl
abbrev N_char_of : List Str := ["byte"]
theorem sc_char_of : FnScope N_char_of ["byte"] (defScope s_char_of) := ⟨rfl, rfl, rfl, by decide +kernel, rfl, by decide +kernel, by decide +kernel⟩
theorem Txt.F_char_of (T : Txt K mg) : FunD K "char_of" "char_of" (defArgs s_char_of) (defBody s_char_of) (defScope s_char_of) [] [] (ga K "char_of") (fdAt K (ga K "char_of")) := T.fund (d := d_char_of) 15 (by kernel_rfl)
theorem Txt.k_char_of (T : Txt K mg) : PySem.W.keepIn K (.ref (ga K "char_of")) = true := T.F_char_of.kp
theorem Txt.b_char_of (T : Txt K mg) : Binds K (fdAt K (ga K "char_of")) ["byte"] [] := FunD.bindsN T.F_char_of fun _ _ _ _ _ _ us hl => by
  obtain ⟨a, rfl⟩ := ex1 hl
  kernel_rfl
abbrev N_bytes_of : List Str := ["text", "char"]
theorem sc_bytes_of : FnScope N_bytes_of ["text"] (defScope s_bytes_of) := ⟨rfl, rfl, rfl, by decide +kernel, rfl, by decide +kernel, by decide +kernel⟩
theorem Txt.F_bytes_of (T : Txt K mg) : FunD K "bytes_of" "bytes_of" (defArgs s_bytes_of) (defBody s_bytes_of) (defScope s_bytes_of) [] [] (ga K "bytes_of") (fdAt K (ga K "bytes_of")) := T.fund (d := d_bytes_of) 16 (by kernel_rfl)
theorem Txt.k_bytes_of (T : Txt K mg) : PySem.W.keepIn K (.ref (ga K "bytes_of")) = true := T.F_bytes_of.kp
theorem Txt.b_bytes_of (T : Txt K mg) : Binds K (fdAt K (ga K "bytes_of")) ["text"] [] := FunD.bindsN T.F_bytes_of fun _ _ _ _ _ _ us hl => by
  obtain ⟨a, rfl⟩ := ex1 hl
  kernel_rfl
abbrev N_text_bytes : List Str := ["text"]
theorem sc_text_bytes : FnScope N_text_bytes ["text"] (defScope s_text_bytes) := ⟨rfl, rfl, rfl, by decide +kernel, rfl, by decide +kernel, by decide +kernel⟩
theorem Txt.F_text_bytes (T : Txt K mg) : FunD K "text_bytes" "text_bytes" (defArgs s_text_bytes) (defBody s_text_bytes) (defScope s_text_bytes) [] [] (ga K "text_bytes") (fdAt K (ga K "text_bytes")) := T.fund (d := d_text_bytes) 17 (by kernel_rfl)
theorem Txt.k_text_bytes (T : Txt K mg) : PySem.W.keepIn K (.ref (ga K "text_bytes")) = true := T.F_text_bytes.kp
theorem Txt.b_text_bytes (T : Txt K mg) : Binds K (fdAt K (ga K "text_bytes")) ["text"] [] := FunD.bindsN T.F_text_bytes fun _ _ _ _ _ _ us hl => by
  obtain ⟨a, rfl⟩ := ex1 hl
  kernel_rfl
abbrev N_head_of_rows : List Str := ["ticks", "skip", "rows", "body", "name", "kind", "count"]
theorem sc_head_of_rows : FnScope N_head_of_rows ["ticks", "skip", "rows"] (defScope s_head_of_rows) := ⟨rfl, rfl, rfl, by decide +kernel, rfl, by decide +kernel, by decide +kernel⟩
theorem Txt.F_head_of_rows (T : Txt K mg) : FunD K "head_of_rows" "head_of_rows" (defArgs s_head_of_rows) (defBody s_head_of_rows) (defScope s_head_of_rows) [] [] (ga K "head_of_rows") (fdAt K (ga K "head_of_rows")) := T.fund (d := d_head_of_rows) 18 (by kernel_rfl)
theorem Txt.k_head_of_rows (T : Txt K mg) : PySem.W.keepIn K (.ref (ga K "head_of_rows")) = true := T.F_head_of_rows.kp
theorem Txt.b_head_of_rows (T : Txt K mg) : Binds K (fdAt K (ga K "head_of_rows")) ["ticks", "skip", "rows"] [] := FunD.bindsN T.F_head_of_rows fun _ _ _ _ _ _ us hl => by
  obtain ⟨a, b, c, rfl⟩ := ex3 hl
  kernel_rfl
abbrev N_tags_body : List Str := ["tags", "body", "key", "value"]
theorem sc_tags_body : FnScope N_tags_body ["tags"] (defScope s_tags_body) := ⟨rfl, rfl, rfl, by decide +kernel, rfl, by decide +kernel, by decide +kernel⟩
theorem Txt.F_tags_body (T : Txt K mg) : FunD K "tags_body" "tags_body" (defArgs s_tags_body) (defBody s_tags_body) (defScope s_tags_body) [] [] (ga K "tags_body") (fdAt K (ga K "tags_body")) := T.fund (d := d_tags_body) 19 (by kernel_rfl)
theorem Txt.k_tags_body (T : Txt K mg) : PySem.W.keepIn K (.ref (ga K "tags_body")) = true := T.F_tags_body.kp
theorem Txt.b_tags_body (T : Txt K mg) : Binds K (fdAt K (ga K "tags_body")) ["tags"] [] := FunD.bindsN T.F_tags_body fun _ _ _ _ _ _ us hl => by
  obtain ⟨a, rfl⟩ := ex1 hl
  kernel_rfl
abbrev N_index_body : List Str := ["entries", "body", "track", "time", "offset"]
theorem sc_index_body : FnScope N_index_body ["entries"] (defScope s_index_body) := ⟨rfl, rfl, rfl, by decide +kernel, rfl, by decide +kernel, by decide +kernel⟩
theorem Txt.F_index_body (T : Txt K mg) : FunD K "index_body" "index_body" (defArgs s_index_body) (defBody s_index_body) (defScope s_index_body) [] [] (ga K "index_body") (fdAt K (ga K "index_body")) := T.fund (d := d_index_body) 20 (by kernel_rfl)
theorem Txt.k_index_body (T : Txt K mg) : PySem.W.keepIn K (.ref (ga K "index_body")) = true := T.F_index_body.kp
theorem Txt.b_index_body (T : Txt K mg) : Binds K (fdAt K (ga K "index_body")) ["entries"] [] := FunD.bindsN T.F_index_body fun _ _ _ _ _ _ us hl => by
  obtain ⟨a, rfl⟩ := ex1 hl
  kernel_rfl
abbrev N_end_body : List Str := ["count", "total"]
theorem sc_end_body : FnScope N_end_body ["count", "total"] (defScope s_end_body) := ⟨rfl, rfl, rfl, by decide +kernel, rfl, by decide +kernel, by decide +kernel⟩
theorem Txt.F_end_body (T : Txt K mg) : FunD K "end_body" "end_body" (defArgs s_end_body) (defBody s_end_body) (defScope s_end_body) [] [] (ga K "end_body") (fdAt K (ga K "end_body")) := T.fund (d := d_end_body) 21 (by kernel_rfl)
theorem Txt.k_end_body (T : Txt K mg) : PySem.W.keepIn K (.ref (ga K "end_body")) = true := T.F_end_body.kp
theorem Txt.b_end_body (T : Txt K mg) : Binds K (fdAt K (ga K "end_body")) ["count", "total"] [] := FunD.bindsN T.F_end_body fun _ _ _ _ _ _ us hl => by
  obtain ⟨a, b, rfl⟩ := ex2 hl
  kernel_rfl
abbrev N_unit_body : List Str := ["unit", "before", "_", "content", "leans", "front", "back", "middle"]
theorem sc_unit_body : FnScope N_unit_body ["unit", "before"] (defScope s_unit_body) := ⟨rfl, rfl, rfl, by decide +kernel, rfl, by decide +kernel, by decide +kernel⟩
theorem Txt.F_unit_body (T : Txt K mg) : FunD K "unit_body" "unit_body" (defArgs s_unit_body) (defBody s_unit_body) (defScope s_unit_body) [] [] (ga K "unit_body") (fdAt K (ga K "unit_body")) := T.fund (d := d_unit_body) 22 (by kernel_rfl)
theorem Txt.k_unit_body (T : Txt K mg) : PySem.W.keepIn K (.ref (ga K "unit_body")) = true := T.F_unit_body.kp
theorem Txt.b_unit_body (T : Txt K mg) : Binds K (fdAt K (ga K "unit_body")) ["unit", "before"] [] := FunD.bindsN T.F_unit_body fun _ _ _ _ _ _ us hl => by
  obtain ⟨a, b, rfl⟩ := ex2 hl
  kernel_rfl
abbrev N_BodyReader_init : List Str := ["self", "body"]
theorem sc_BodyReader_init : FnScope N_BodyReader_init ["self", "body"] (defScope s_BodyReader_init) := ⟨rfl, rfl, rfl, by decide +kernel, rfl, by decide +kernel, by decide +kernel⟩
theorem Txt.F_BodyReader_init (T : Txt K mg) : FunD K "__init__" "BodyReader.__init__" (defArgs s_BodyReader_init) (defBody s_BodyReader_init) (defScope s_BodyReader_init) [] [] (ma K (ga K "BodyReader") "__init__") (fdAt K (ma K (ga K "BodyReader") "__init__")) := T.fund (d := d_BodyReader_init) 23 (by kernel_rfl)
theorem Txt.k_BodyReader_init (T : Txt K mg) : PySem.W.keepIn K (.ref (ma K (ga K "BodyReader") "__init__")) = true := T.F_BodyReader_init.kp
theorem Txt.b_BodyReader_init (T : Txt K mg) : Binds K (fdAt K (ma K (ga K "BodyReader") "__init__")) ["self", "body"] [] := FunD.bindsN T.F_BodyReader_init fun _ _ _ _ _ _ us hl => by
  obtain ⟨a, b, rfl⟩ := ex2 hl
  kernel_rfl
abbrev N_BodyReader_number : List Str := ["self", "least", "most", "number", "after"]
theorem sc_BodyReader_number : FnScope N_BodyReader_number ["self", "least", "most"] (defScope s_BodyReader_number) := ⟨rfl, rfl, rfl, by decide +kernel, rfl, by decide +kernel, by decide +kernel⟩
theorem Txt.F_BodyReader_number (T : Txt K mg) : FunD K "number" "BodyReader.number" (defArgs s_BodyReader_number) (defBody s_BodyReader_number) (defScope s_BodyReader_number) [] [] (ma K (ga K "BodyReader") "number") (fdAt K (ma K (ga K "BodyReader") "number")) := T.fund (d := d_BodyReader_number) 24 (by kernel_rfl)
theorem Txt.k_BodyReader_number (T : Txt K mg) : PySem.W.keepIn K (.ref (ma K (ga K "BodyReader") "number")) = true := T.F_BodyReader_number.kp
theorem Txt.b_BodyReader_number (T : Txt K mg) : Binds K (fdAt K (ma K (ga K "BodyReader") "number")) ["self", "least", "most"] [] := FunD.bindsN T.F_BodyReader_number fun _ _ _ _ _ _ us hl => by
  obtain ⟨a, b, c, rfl⟩ := ex3 hl
  kernel_rfl
abbrev N_BodyReader_take : List Str := ["self", "size"]
theorem sc_BodyReader_take : FnScope N_BodyReader_take ["self", "size"] (defScope s_BodyReader_take) := ⟨rfl, rfl, rfl, by decide +kernel, rfl, by decide +kernel, by decide +kernel⟩
theorem Txt.F_BodyReader_take (T : Txt K mg) : FunD K "take" "BodyReader.take" (defArgs s_BodyReader_take) (defBody s_BodyReader_take) (defScope s_BodyReader_take) [] [] (ma K (ga K "BodyReader") "take") (fdAt K (ma K (ga K "BodyReader") "take")) := T.fund (d := d_BodyReader_take) 25 (by kernel_rfl)
theorem Txt.k_BodyReader_take (T : Txt K mg) : PySem.W.keepIn K (.ref (ma K (ga K "BodyReader") "take")) = true := T.F_BodyReader_take.kp
theorem Txt.b_BodyReader_take (T : Txt K mg) : Binds K (fdAt K (ma K (ga K "BodyReader") "take")) ["self", "size"] [] := FunD.bindsN T.F_BodyReader_take fun _ _ _ _ _ _ us hl => by
  obtain ⟨a, b, rfl⟩ := ex2 hl
  kernel_rfl
abbrev N_BodyReader_text : List Str := ["self", "most", "byte"]
theorem sc_BodyReader_text : FnScope N_BodyReader_text ["self", "most"] (defScope s_BodyReader_text) := ⟨rfl, rfl, rfl, by decide +kernel, rfl, by decide +kernel, by decide +kernel⟩
theorem Txt.F_BodyReader_text (T : Txt K mg) : FunD K "text" "BodyReader.text" (defArgs s_BodyReader_text) (defBody s_BodyReader_text) (defScope s_BodyReader_text) [] [] (ma K (ga K "BodyReader") "text") (fdAt K (ma K (ga K "BodyReader") "text")) := T.fund (d := d_BodyReader_text) 26 (by kernel_rfl)
theorem Txt.k_BodyReader_text (T : Txt K mg) : PySem.W.keepIn K (.ref (ma K (ga K "BodyReader") "text")) = true := T.F_BodyReader_text.kp
theorem Txt.b_BodyReader_text (T : Txt K mg) : Binds K (fdAt K (ma K (ga K "BodyReader") "text")) ["self", "most"] [] := FunD.bindsN T.F_BodyReader_text fun _ _ _ _ _ _ us hl => by
  obtain ⟨a, b, rfl⟩ := ex2 hl
  kernel_rfl
abbrev N_BodyReader_word : List Str := ["self", "text"]
theorem sc_BodyReader_word : FnScope N_BodyReader_word ["self"] (defScope s_BodyReader_word) := ⟨rfl, rfl, rfl, by decide +kernel, rfl, by decide +kernel, by decide +kernel⟩
theorem Txt.F_BodyReader_word (T : Txt K mg) : FunD K "word" "BodyReader.word" (defArgs s_BodyReader_word) (defBody s_BodyReader_word) (defScope s_BodyReader_word) [] [] (ma K (ga K "BodyReader") "word") (fdAt K (ma K (ga K "BodyReader") "word")) := T.fund (d := d_BodyReader_word) 27 (by kernel_rfl)
theorem Txt.k_BodyReader_word (T : Txt K mg) : PySem.W.keepIn K (.ref (ma K (ga K "BodyReader") "word")) = true := T.F_BodyReader_word.kp
theorem Txt.b_BodyReader_word (T : Txt K mg) : Binds K (fdAt K (ma K (ga K "BodyReader") "word")) ["self"] [] := FunD.bindsN T.F_BodyReader_word fun _ _ _ _ _ _ us hl => by
  obtain ⟨a, rfl⟩ := ex1 hl
  kernel_rfl
abbrev N_BodyReader_close : List Str := ["self"]
theorem sc_BodyReader_close : FnScope N_BodyReader_close ["self"] (defScope s_BodyReader_close) := ⟨rfl, rfl, rfl, by decide +kernel, rfl, by decide +kernel, by decide +kernel⟩
theorem Txt.F_BodyReader_close (T : Txt K mg) : FunD K "close" "BodyReader.close" (defArgs s_BodyReader_close) (defBody s_BodyReader_close) (defScope s_BodyReader_close) [] [] (ma K (ga K "BodyReader") "close") (fdAt K (ma K (ga K "BodyReader") "close")) := T.fund (d := d_BodyReader_close) 28 (by kernel_rfl)
theorem Txt.k_BodyReader_close (T : Txt K mg) : PySem.W.keepIn K (.ref (ma K (ga K "BodyReader") "close")) = true := T.F_BodyReader_close.kp
theorem Txt.b_BodyReader_close (T : Txt K mg) : Binds K (fdAt K (ma K (ga K "BodyReader") "close")) ["self"] [] := FunD.bindsN T.F_BodyReader_close fun _ _ _ _ _ _ us hl => by
  obtain ⟨a, rfl⟩ := ex1 hl
  kernel_rfl
abbrev N_read_head : List Str := ["body", "reader", "ticks", "skip", "rows", "_", "name", "kind"]
theorem sc_read_head : FnScope N_read_head ["body"] (defScope s_read_head) := ⟨rfl, rfl, rfl, by decide +kernel, rfl, by decide +kernel, by decide +kernel⟩
theorem Txt.F_read_head (T : Txt K mg) : FunD K "read_head" "read_head" (defArgs s_read_head) (defBody s_read_head) (defScope s_read_head) [] [] (ga K "read_head") (fdAt K (ga K "read_head")) := T.fund (d := d_read_head) 29 (by kernel_rfl)
theorem Txt.k_read_head (T : Txt K mg) : PySem.W.keepIn K (.ref (ga K "read_head")) = true := T.F_read_head.kp
theorem Txt.b_read_head (T : Txt K mg) : Binds K (fdAt K (ga K "read_head")) ["body"] [] := FunD.bindsN T.F_read_head fun _ _ _ _ _ _ us hl => by
  obtain ⟨a, rfl⟩ := ex1 hl
  kernel_rfl
abbrev N_read_tags : List Str := ["body", "reader", "tags", "_", "key"]
theorem sc_read_tags : FnScope N_read_tags ["body"] (defScope s_read_tags) := ⟨rfl, rfl, rfl, by decide +kernel, rfl, by decide +kernel, by decide +kernel⟩
theorem Txt.F_read_tags (T : Txt K mg) : FunD K "read_tags" "read_tags" (defArgs s_read_tags) (defBody s_read_tags) (defScope s_read_tags) [] [] (ga K "read_tags") (fdAt K (ga K "read_tags")) := T.fund (d := d_read_tags) 30 (by kernel_rfl)
theorem Txt.k_read_tags (T : Txt K mg) : PySem.W.keepIn K (.ref (ga K "read_tags")) = true := T.F_read_tags.kp
theorem Txt.b_read_tags (T : Txt K mg) : Binds K (fdAt K (ga K "read_tags")) ["body"] [] := FunD.bindsN T.F_read_tags fun _ _ _ _ _ _ us hl => by
  obtain ⟨a, rfl⟩ := ex1 hl
  kernel_rfl
abbrev N_read_index : List Str := ["body", "reader", "entries", "_", "track", "time"]
theorem sc_read_index : FnScope N_read_index ["body"] (defScope s_read_index) := ⟨rfl, rfl, rfl, by decide +kernel, rfl, by decide +kernel, by decide +kernel⟩
theorem Txt.F_read_index (T : Txt K mg) : FunD K "read_index" "read_index" (defArgs s_read_index) (defBody s_read_index) (defScope s_read_index) [] [] (ga K "read_index") (fdAt K (ga K "read_index")) := T.fund (d := d_read_index) 31 (by kernel_rfl)
theorem Txt.k_read_index (T : Txt K mg) : PySem.W.keepIn K (.ref (ga K "read_index")) = true := T.F_read_index.kp
theorem Txt.b_read_index (T : Txt K mg) : Binds K (fdAt K (ga K "read_index")) ["body"] [] := FunD.bindsN T.F_read_index fun _ _ _ _ _ _ us hl => by
  obtain ⟨a, rfl⟩ := ex1 hl
  kernel_rfl
abbrev N_read_end : List Str := ["body", "reader", "count", "total"]
theorem sc_read_end : FnScope N_read_end ["body"] (defScope s_read_end) := ⟨rfl, rfl, rfl, by decide +kernel, rfl, by decide +kernel, by decide +kernel⟩
theorem Txt.F_read_end (T : Txt K mg) : FunD K "read_end" "read_end" (defArgs s_read_end) (defBody s_read_end) (defScope s_read_end) [] [] (ga K "read_end") (fdAt K (ga K "read_end")) := T.fund (d := d_read_end) 32 (by kernel_rfl)
theorem Txt.k_read_end (T : Txt K mg) : PySem.W.keepIn K (.ref (ga K "read_end")) = true := T.F_read_end.kp
theorem Txt.b_read_end (T : Txt K mg) : Binds K (fdAt K (ga K "read_end")) ["body"] [] := FunD.bindsN T.F_read_end fun _ _ _ _ _ _ us hl => by
  obtain ⟨a, rfl⟩ := ex1 hl
  kernel_rfl
abbrev N_read_content : List Str := ["body", "before", "content", "reader", "front", "back"]
theorem sc_read_content : FnScope N_read_content ["body", "before"] (defScope s_read_content) := ⟨rfl, rfl, rfl, by decide +kernel, rfl, by decide +kernel, by decide +kernel⟩
theorem Txt.F_read_content (T : Txt K mg) : FunD K "read_content" "read_content" (defArgs s_read_content) (defBody s_read_content) (defScope s_read_content) [] [] (ga K "read_content") (fdAt K (ga K "read_content")) := T.fund (d := d_read_content) 33 (by kernel_rfl)
theorem Txt.k_read_content (T : Txt K mg) : PySem.W.keepIn K (.ref (ga K "read_content")) = true := T.F_read_content.kp
theorem Txt.b_read_content (T : Txt K mg) : Binds K (fdAt K (ga K "read_content")) ["body", "before"] [] := FunD.bindsN T.F_read_content fun _ _ _ _ _ _ us hl => by
  obtain ⟨a, b, rfl⟩ := ex2 hl
  kernel_rfl
abbrev N_write_leaf : List Str := ["leaf", "k", "kind", "stamp", "number", "track", "ordinal", "time", "span", "key", "body", "out", "field"]
theorem sc_write_leaf : FnScope N_write_leaf ["leaf"] (defScope s_write_leaf) := ⟨rfl, rfl, rfl, by decide +kernel, rfl, by decide +kernel, by decide +kernel⟩
theorem Txt.F_write_leaf (T : Txt K mg) : FunD K "write_leaf" "write_leaf" (defArgs s_write_leaf) (defBody s_write_leaf) (defScope s_write_leaf) [] [] (ga K "write_leaf") (fdAt K (ga K "write_leaf")) := T.fund (d := d_write_leaf) 34 (by kernel_rfl)
theorem Txt.k_write_leaf (T : Txt K mg) : PySem.W.keepIn K (.ref (ga K "write_leaf")) = true := T.F_write_leaf.kp
theorem Txt.b_write_leaf (T : Txt K mg) : Binds K (fdAt K (ga K "write_leaf")) ["leaf"] [] := FunD.bindsN T.F_write_leaf fun _ _ _ _ _ _ us hl => by
  obtain ⟨a, rfl⟩ := ex1 hl
  kernel_rfl
abbrev N_small_byte : List Str := ["row", "at", "field"]
theorem sc_small_byte : FnScope N_small_byte ["row", "at", "field"] (defScope s_small_byte) := ⟨rfl, rfl, rfl, by decide +kernel, rfl, by decide +kernel, by decide +kernel⟩
theorem Txt.F_small_byte (T : Txt K mg) : FunD K "small_byte" "small_byte" (defArgs s_small_byte) (defBody s_small_byte) (defScope s_small_byte) [] [] (ga K "small_byte") (fdAt K (ga K "small_byte")) := T.fund (d := d_small_byte) 35 (by kernel_rfl)
theorem Txt.k_small_byte (T : Txt K mg) : PySem.W.keepIn K (.ref (ga K "small_byte")) = true := T.F_small_byte.kp
theorem Txt.b_small_byte (T : Txt K mg) : Binds K (fdAt K (ga K "small_byte")) ["row", "at", "field"] [] := FunD.bindsN T.F_small_byte fun _ _ _ _ _ _ us hl => by
  obtain ⟨a, b, c, rfl⟩ := ex3 hl
  kernel_rfl
abbrev N_word_at : List Str := ["row", "at", "field"]
theorem sc_word_at : FnScope N_word_at ["row", "at", "field"] (defScope s_word_at) := ⟨rfl, rfl, rfl, by decide +kernel, rfl, by decide +kernel, by decide +kernel⟩
theorem Txt.F_word_at (T : Txt K mg) : FunD K "word_at" "word_at" (defArgs s_word_at) (defBody s_word_at) (defScope s_word_at) [] [] (ga K "word_at") (fdAt K (ga K "word_at")) := T.fund (d := d_word_at) 36 (by kernel_rfl)
theorem Txt.k_word_at (T : Txt K mg) : PySem.W.keepIn K (.ref (ga K "word_at")) = true := T.F_word_at.kp
theorem Txt.b_word_at (T : Txt K mg) : Binds K (fdAt K (ga K "word_at")) ["row", "at", "field"] [] := FunD.bindsN T.F_word_at fun _ _ _ _ _ _ us hl => by
  obtain ⟨a, b, c, rfl⟩ := ex3 hl
  kernel_rfl
abbrev N_steps_at : List Str := ["row", "at", "most", "field", "number", "after"]
theorem sc_steps_at : FnScope N_steps_at ["row", "at", "most", "field"] (defScope s_steps_at) := ⟨rfl, rfl, rfl, by decide +kernel, rfl, by decide +kernel, by decide +kernel⟩
theorem Txt.F_steps_at (T : Txt K mg) : FunD K "steps_at" "steps_at" (defArgs s_steps_at) (defBody s_steps_at) (defScope s_steps_at) [] [] (ga K "steps_at") (fdAt K (ga K "steps_at")) := T.fund (d := d_steps_at) 37 (by kernel_rfl)
theorem Txt.k_steps_at (T : Txt K mg) : PySem.W.keepIn K (.ref (ga K "steps_at")) = true := T.F_steps_at.kp
theorem Txt.b_steps_at (T : Txt K mg) : Binds K (fdAt K (ga K "steps_at")) ["row", "at", "most", "field"] [] := FunD.bindsN T.F_steps_at fun _ _ _ _ _ _ us hl => by
  obtain ⟨a, b, c, d, rfl⟩ := ex4 hl
  kernel_rfl
abbrev N_read_leaf : List Str := ["writing", "fields", "at", "field", "number", "size", "start", "stop"]
theorem sc_read_leaf : FnScope N_read_leaf ["writing"] (defScope s_read_leaf) := ⟨rfl, rfl, rfl, by decide +kernel, rfl, by decide +kernel, by decide +kernel⟩
theorem Txt.F_read_leaf (T : Txt K mg) : FunD K "read_leaf" "read_leaf" (defArgs s_read_leaf) (defBody s_read_leaf) (defScope s_read_leaf) [] [] (ga K "read_leaf") (fdAt K (ga K "read_leaf")) := T.fund (d := d_read_leaf) 38 (by kernel_rfl)
theorem Txt.k_read_leaf (T : Txt K mg) : PySem.W.keepIn K (.ref (ga K "read_leaf")) = true := T.F_read_leaf.kp
theorem Txt.b_read_leaf (T : Txt K mg) : Binds K (fdAt K (ga K "read_leaf")) ["writing"] [] := FunD.bindsN T.F_read_leaf fun _ _ _ _ _ _ us hl => by
  obtain ⟨a, rfl⟩ := ex1 hl
  kernel_rfl
abbrev N_stuff : List Str := ["row", "out", "block", "byte"]
theorem sc_stuff : FnScope N_stuff ["row"] (defScope s_stuff) := ⟨rfl, rfl, rfl, by decide +kernel, rfl, by decide +kernel, by decide +kernel⟩
theorem Txt.F_stuff (T : Txt K mg) : FunD K "stuff" "stuff" (defArgs s_stuff) (defBody s_stuff) (defScope s_stuff) [] [] (ga K "stuff") (fdAt K (ga K "stuff")) := T.fund (d := d_stuff) 39 (by kernel_rfl)
theorem Txt.k_stuff (T : Txt K mg) : PySem.W.keepIn K (.ref (ga K "stuff")) = true := T.F_stuff.kp
theorem Txt.b_stuff (T : Txt K mg) : Binds K (fdAt K (ga K "stuff")) ["row"] [] := FunD.bindsN T.F_stuff fun _ _ _ _ _ _ us hl => by
  obtain ⟨a, rfl⟩ := ex1 hl
  kernel_rfl
abbrev N_unstuff : List Str := ["piece", "out", "at", "size"]
theorem sc_unstuff : FnScope N_unstuff ["piece"] (defScope s_unstuff) := ⟨rfl, rfl, rfl, by decide +kernel, rfl, by decide +kernel, by decide +kernel⟩
theorem Txt.F_unstuff (T : Txt K mg) : FunD K "unstuff" "unstuff" (defArgs s_unstuff) (defBody s_unstuff) (defScope s_unstuff) [] [] (ga K "unstuff") (fdAt K (ga K "unstuff")) := T.fund (d := d_unstuff) 40 (by kernel_rfl)
theorem Txt.k_unstuff (T : Txt K mg) : PySem.W.keepIn K (.ref (ga K "unstuff")) = true := T.F_unstuff.kp
theorem Txt.b_unstuff (T : Txt K mg) : Binds K (fdAt K (ga K "unstuff")) ["piece"] [] := FunD.bindsN T.F_unstuff fun _ _ _ _ _ _ us hl => by
  obtain ⟨a, rfl⟩ := ex1 hl
  kernel_rfl
abbrev N_write_leaves : List Str := ["leaves", "out", "leaf"]
theorem sc_write_leaves : FnScope N_write_leaves ["leaves"] (defScope s_write_leaves) := ⟨rfl, rfl, rfl, by decide +kernel, rfl, by decide +kernel, by decide +kernel⟩
theorem Txt.F_write_leaves (T : Txt K mg) : FunD K "write_leaves" "write_leaves" (defArgs s_write_leaves) (defBody s_write_leaves) (defScope s_write_leaves) [] [] (ga K "write_leaves") (fdAt K (ga K "write_leaves")) := T.fund (d := d_write_leaves) 41 (by kernel_rfl)
theorem Txt.k_write_leaves (T : Txt K mg) : PySem.W.keepIn K (.ref (ga K "write_leaves")) = true := T.F_write_leaves.kp
theorem Txt.b_write_leaves (T : Txt K mg) : Binds K (fdAt K (ga K "write_leaves")) ["leaves"] [] := FunD.bindsN T.F_write_leaves fun _ _ _ _ _ _ us hl => by
  obtain ⟨a, rfl⟩ := ex1 hl
  kernel_rfl
abbrev N_places : List Str := ["row", "zeros", "k", "found", "start", "stop"]
theorem sc_places : FnScope N_places ["row"] (defScope s_places) := ⟨rfl, rfl, rfl, by decide +kernel, rfl, by decide +kernel, by decide +kernel⟩
theorem Txt.F_places (T : Txt K mg) : FunD K "places" "places" (defArgs s_places) (defBody s_places) (defScope s_places) [] [] (ga K "places") (fdAt K (ga K "places")) := T.fund (d := d_places) 42 (by kernel_rfl)
theorem Txt.k_places (T : Txt K mg) : PySem.W.keepIn K (.ref (ga K "places")) = true := T.F_places.kp
theorem Txt.b_places (T : Txt K mg) : Binds K (fdAt K (ga K "places")) ["row"] [] := FunD.bindsN T.F_places fun _ _ _ _ _ _ us hl => by
  obtain ⟨a, rfl⟩ := ex1 hl
  kernel_rfl
abbrev N_leaf_at : List Str := ["row", "start", "stop"]
theorem sc_leaf_at : FnScope N_leaf_at ["row", "start", "stop"] (defScope s_leaf_at) := ⟨rfl, rfl, rfl, by decide +kernel, rfl, by decide +kernel, by decide +kernel⟩
theorem Txt.F_leaf_at (T : Txt K mg) : FunD K "leaf_at" "leaf_at" (defArgs s_leaf_at) (defBody s_leaf_at) (defScope s_leaf_at) [] [] (ga K "leaf_at") (fdAt K (ga K "leaf_at")) := T.fund (d := d_leaf_at) 43 (by kernel_rfl)
theorem Txt.k_leaf_at (T : Txt K mg) : PySem.W.keepIn K (.ref (ga K "leaf_at")) = true := T.F_leaf_at.kp
theorem Txt.b_leaf_at (T : Txt K mg) : Binds K (fdAt K (ga K "leaf_at")) ["row", "start", "stop"] [] := FunD.bindsN T.F_leaf_at fun _ _ _ _ _ _ us hl => by
  obtain ⟨a, b, c, rfl⟩ := ex3 hl
  kernel_rfl
abbrev N_salvage : List Str := ["row", "finds", "start", "stop", "leaf"]
theorem sc_salvage : FnScope N_salvage ["row"] (defScope s_salvage) := ⟨rfl, rfl, rfl, by decide +kernel, rfl, by decide +kernel, by decide +kernel⟩
theorem Txt.F_salvage (T : Txt K mg) : FunD K "salvage" "salvage" (defArgs s_salvage) (defBody s_salvage) (defScope s_salvage) [] [] (ga K "salvage") (fdAt K (ga K "salvage")) := T.fund (d := d_salvage) 44 (by kernel_rfl)
theorem Txt.k_salvage (T : Txt K mg) : PySem.W.keepIn K (.ref (ga K "salvage")) = true := T.F_salvage.kp
theorem Txt.b_salvage (T : Txt K mg) : Binds K (fdAt K (ga K "salvage")) ["row"] [] := FunD.bindsN T.F_salvage fun _ _ _ _ _ _ us hl => by
  obtain ⟨a, rfl⟩ := ex1 hl
  kernel_rfl
abbrev N_stamps : List Str := ["finds", "found", "_", "leaf"]
theorem sc_stamps : FnScope N_stamps ["finds"] (defScope s_stamps) := ⟨rfl, rfl, rfl, by decide +kernel, rfl, by decide +kernel, by decide +kernel⟩
theorem Txt.F_stamps (T : Txt K mg) : FunD K "stamps" "stamps" (defArgs s_stamps) (defBody s_stamps) (defScope s_stamps) [] [] (ga K "stamps") (fdAt K (ga K "stamps")) := T.fund (d := d_stamps) 45 (by kernel_rfl)
theorem Txt.k_stamps (T : Txt K mg) : PySem.W.keepIn K (.ref (ga K "stamps")) = true := T.F_stamps.kp
theorem Txt.b_stamps (T : Txt K mg) : Binds K (fdAt K (ga K "stamps")) ["finds"] [] := FunD.bindsN T.F_stamps fun _ _ _ _ _ _ us hl => by
  obtain ⟨a, rfl⟩ := ex1 hl
  kernel_rfl
abbrev N_fresh : List Str := ["leaf"]
theorem sc_fresh : FnScope N_fresh ["leaf"] (defScope s_fresh) := ⟨rfl, rfl, rfl, by decide +kernel, rfl, by decide +kernel, by decide +kernel⟩
theorem Txt.F_fresh (T : Txt K mg) : FunD K "fresh" "fresh" (defArgs s_fresh) (defBody s_fresh) (defScope s_fresh) [] [] (ga K "fresh") (fdAt K (ga K "fresh")) := T.fund (d := d_fresh) 46 (by kernel_rfl)
theorem Txt.k_fresh (T : Txt K mg) : PySem.W.keepIn K (.ref (ga K "fresh")) = true := T.F_fresh.kp
theorem Txt.b_fresh (T : Txt K mg) : Binds K (fdAt K (ga K "fresh")) ["leaf"] [] := FunD.bindsN T.F_fresh fun _ _ _ _ _ _ us hl => by
  obtain ⟨a, rfl⟩ := ex1 hl
  kernel_rfl
abbrev N_roll : List Str := ["finds", "stamp", "leaves", "_", "leaf", "number"]
theorem sc_roll : FnScope N_roll ["finds", "stamp"] (defScope s_roll) := ⟨rfl, rfl, rfl, by decide +kernel, rfl, by decide +kernel, by decide +kernel⟩
theorem Txt.F_roll (T : Txt K mg) : FunD K "roll" "roll" (defArgs s_roll) (defBody s_roll) (defScope s_roll) [] [] (ga K "roll") (fdAt K (ga K "roll")) := T.fund (d := d_roll) 47 (by kernel_rfl)
theorem Txt.k_roll (T : Txt K mg) : PySem.W.keepIn K (.ref (ga K "roll")) = true := T.F_roll.kp
theorem Txt.b_roll (T : Txt K mg) : Binds K (fdAt K (ga K "roll")) ["finds", "stamp"] [] := FunD.bindsN T.F_roll fun _ _ _ _ _ _ us hl => by
  obtain ⟨a, b, rfl⟩ := ex2 hl
  kernel_rfl
abbrev N_gaps : List Str := ["leaves", "found", "due", "leaf"]
theorem sc_gaps : FnScope N_gaps ["leaves"] (defScope s_gaps) := ⟨rfl, rfl, rfl, by decide +kernel, rfl, by decide +kernel, by decide +kernel⟩
theorem Txt.F_gaps (T : Txt K mg) : FunD K "gaps" "gaps" (defArgs s_gaps) (defBody s_gaps) (defScope s_gaps) [] [] (ga K "gaps") (fdAt K (ga K "gaps")) := T.fund (d := d_gaps) 48 (by kernel_rfl)
theorem Txt.k_gaps (T : Txt K mg) : PySem.W.keepIn K (.ref (ga K "gaps")) = true := T.F_gaps.kp
theorem Txt.b_gaps (T : Txt K mg) : Binds K (fdAt K (ga K "gaps")) ["leaves"] [] := FunD.bindsN T.F_gaps fun _ _ _ _ _ _ us hl => by
  obtain ⟨a, rfl⟩ := ex1 hl
  kernel_rfl
abbrev N_last_key : List Str := ["row", "first", "last", "place"]
theorem sc_last_key : FnScope N_last_key ["row", "first", "last"] (defScope s_last_key) := ⟨rfl, rfl, rfl, by decide +kernel, rfl, by decide +kernel, by decide +kernel⟩
theorem Txt.F_last_key (T : Txt K mg) : FunD K "last_key" "last_key" (defArgs s_last_key) (defBody s_last_key) (defScope s_last_key) [] [] (ga K "last_key") (fdAt K (ga K "last_key")) := T.fund (d := d_last_key) 49 (by kernel_rfl)
theorem Txt.k_last_key (T : Txt K mg) : PySem.W.keepIn K (.ref (ga K "last_key")) = true := T.F_last_key.kp
theorem Txt.b_last_key (T : Txt K mg) : Binds K (fdAt K (ga K "last_key")) ["row", "first", "last"] [] := FunD.bindsN T.F_last_key fun _ _ _ _ _ _ us hl => by
  obtain ⟨a, b, c, rfl⟩ := ex3 hl
  kernel_rfl
abbrev N_greedy : List Str := ["row", "w", "named", "start"]
theorem sc_greedy : FnScope N_greedy ["row", "w"] (defScope s_greedy) := ⟨rfl, rfl, rfl, by decide +kernel, rfl, by decide +kernel, by decide +kernel⟩
theorem Txt.F_greedy (T : Txt K mg) : FunD K "greedy" "greedy" (defArgs s_greedy) (defBody s_greedy) (defScope s_greedy) [] [] (ga K "greedy") (fdAt K (ga K "greedy")) := T.fund (d := d_greedy) 50 (by kernel_rfl)
theorem Txt.k_greedy (T : Txt K mg) : PySem.W.keepIn K (.ref (ga K "greedy")) = true := T.F_greedy.kp
theorem Txt.b_greedy (T : Txt K mg) : Binds K (fdAt K (ga K "greedy")) ["row", "w"] [] := FunD.bindsN T.F_greedy fun _ _ _ _ _ _ us hl => by
  obtain ⟨a, b, rfl⟩ := ex2 hl
  kernel_rfl
abbrev N_greedy_index : List Str := ["keys", "w", "index", "k", "places", "place"]
theorem sc_greedy_index : FnScope N_greedy_index ["keys", "w"] (defScope s_greedy_index) := ⟨rfl, rfl, rfl, by decide +kernel, rfl, by decide +kernel, by decide +kernel⟩
theorem Txt.F_greedy_index (T : Txt K mg) : FunD K "greedy_index" "greedy_index" (defArgs s_greedy_index) (defBody s_greedy_index) (defScope s_greedy_index) [] [] (ga K "greedy_index") (fdAt K (ga K "greedy_index")) := T.fund (d := d_greedy_index) 51 (by kernel_rfl)
theorem Txt.k_greedy_index (T : Txt K mg) : PySem.W.keepIn K (.ref (ga K "greedy_index")) = true := T.F_greedy_index.kp
theorem Txt.b_greedy_index (T : Txt K mg) : Binds K (fdAt K (ga K "greedy_index")) ["keys", "w"] [] := FunD.bindsN T.F_greedy_index fun _ _ _ _ _ _ us hl => by
  obtain ⟨a, b, rfl⟩ := ex2 hl
  kernel_rfl
abbrev N_best_index : List Str := ["keys", "count", "low", "high", "row", "middle", "index"]
theorem sc_best_index : FnScope N_best_index ["keys", "count"] (defScope s_best_index) := ⟨rfl, rfl, rfl, by decide +kernel, rfl, by decide +kernel, by decide +kernel⟩
theorem Txt.F_best_index (T : Txt K mg) : FunD K "best_index" "best_index" (defArgs s_best_index) (defBody s_best_index) (defScope s_best_index) [] [] (ga K "best_index") (fdAt K (ga K "best_index")) := T.fund (d := d_best_index) 52 (by kernel_rfl)
theorem Txt.k_best_index (T : Txt K mg) : PySem.W.keepIn K (.ref (ga K "best_index")) = true := T.F_best_index.kp
theorem Txt.b_best_index (T : Txt K mg) : Binds K (fdAt K (ga K "best_index")) ["keys", "count"] [] := FunD.bindsN T.F_best_index fun _ _ _ _ _ _ us hl => by
  obtain ⟨a, b, rfl⟩ := ex2 hl
  kernel_rfl
abbrev N_LeafWriter_init : List Str := ["self", "stamp"]
theorem sc_LeafWriter_init : FnScope N_LeafWriter_init ["self", "stamp"] (defScope s_LeafWriter_init) := ⟨rfl, rfl, rfl, by decide +kernel, rfl, by decide +kernel, by decide +kernel⟩
theorem Txt.F_LeafWriter_init (T : Txt K mg) : FunD K "__init__" "LeafWriter.__init__" (defArgs s_LeafWriter_init) (defBody s_LeafWriter_init) (defScope s_LeafWriter_init) [] [] (ma K (ga K "LeafWriter") "__init__") (fdAt K (ma K (ga K "LeafWriter") "__init__")) := T.fund (d := d_LeafWriter_init) 53 (by kernel_rfl)
theorem Txt.k_LeafWriter_init (T : Txt K mg) : PySem.W.keepIn K (.ref (ma K (ga K "LeafWriter") "__init__")) = true := T.F_LeafWriter_init.kp
theorem Txt.b_LeafWriter_init (T : Txt K mg) : Binds K (fdAt K (ma K (ga K "LeafWriter") "__init__")) ["self", "stamp"] [] := FunD.bindsN T.F_LeafWriter_init fun _ _ _ _ _ _ us hl => by
  obtain ⟨a, b, rfl⟩ := ex2 hl
  kernel_rfl
abbrev N_LeafWriter_add : List Str := ["self", "kind", "track", "ordinal", "time", "span", "key", "body", "leaf"]
theorem sc_LeafWriter_add : FnScope N_LeafWriter_add ["self", "kind", "track", "ordinal", "time", "span", "key", "body"] (defScope s_LeafWriter_add) := ⟨rfl, rfl, rfl, by decide +kernel, rfl, by decide +kernel, by decide +kernel⟩
theorem Txt.F_LeafWriter_add (T : Txt K mg) : FunD K "add" "LeafWriter.add" (defArgs s_LeafWriter_add) (defBody s_LeafWriter_add) (defScope s_LeafWriter_add) [] [] (ma K (ga K "LeafWriter") "add") (fdAt K (ma K (ga K "LeafWriter") "add")) := T.fund (d := d_LeafWriter_add) 54 (by kernel_rfl)
theorem Txt.k_LeafWriter_add (T : Txt K mg) : PySem.W.keepIn K (.ref (ma K (ga K "LeafWriter") "add")) = true := T.F_LeafWriter_add.kp
theorem Txt.b_LeafWriter_add (T : Txt K mg) : Binds K (fdAt K (ma K (ga K "LeafWriter") "add")) ["self", "kind", "track", "ordinal", "time", "span", "key", "body"] [] := FunD.bindsN T.F_LeafWriter_add fun _ _ _ _ _ _ us hl => by
  obtain ⟨a, b, c, d, e, f, g, h, rfl⟩ := ex8 hl
  kernel_rfl
abbrev N_LeafWriter_add_plain : List Str := ["self", "kind", "body"]
theorem sc_LeafWriter_add_plain : FnScope N_LeafWriter_add_plain ["self", "kind", "body"] (defScope s_LeafWriter_add_plain) := ⟨rfl, rfl, rfl, by decide +kernel, rfl, by decide +kernel, by decide +kernel⟩
theorem Txt.F_LeafWriter_add_plain (T : Txt K mg) : FunD K "add_plain" "LeafWriter.add_plain" (defArgs s_LeafWriter_add_plain) (defBody s_LeafWriter_add_plain) (defScope s_LeafWriter_add_plain) [] [] (ma K (ga K "LeafWriter") "add_plain") (fdAt K (ma K (ga K "LeafWriter") "add_plain")) := T.fund (d := d_LeafWriter_add_plain) 55 (by kernel_rfl)
theorem Txt.k_LeafWriter_add_plain (T : Txt K mg) : PySem.W.keepIn K (.ref (ma K (ga K "LeafWriter") "add_plain")) = true := T.F_LeafWriter_add_plain.kp
theorem Txt.b_LeafWriter_add_plain (T : Txt K mg) : Binds K (fdAt K (ma K (ga K "LeafWriter") "add_plain")) ["self", "kind", "body"] [] := FunD.bindsN T.F_LeafWriter_add_plain fun _ _ _ _ _ _ us hl => by
  obtain ⟨a, b, c, rfl⟩ := ex3 hl
  kernel_rfl
abbrev N_in_times : List Str := ["tracks", "rows", "k", "j", "_", "track", "ordinal"]
theorem sc_in_times : FnScope N_in_times ["tracks"] (defScope s_in_times) := ⟨rfl, rfl, rfl, by decide +kernel, rfl, by decide +kernel, by decide +kernel⟩
theorem Txt.F_in_times (T : Txt K mg) : FunD K "in_times" "in_times" (defArgs s_in_times) (defBody s_in_times) (defScope s_in_times) [] [] (ga K "in_times") (fdAt K (ga K "in_times")) := T.fund (d := d_in_times) 56 (by kernel_rfl)
theorem Txt.k_in_times (T : Txt K mg) : PySem.W.keepIn K (.ref (ga K "in_times")) = true := T.F_in_times.kp
theorem Txt.b_in_times (T : Txt K mg) : Binds K (fdAt K (ga K "in_times")) ["tracks"] [] := FunD.bindsN T.F_in_times fun _ _ _ _ _ _ us hl => by
  obtain ⟨a, rfl⟩ := ex1 hl
  kernel_rfl
abbrev N_written : List Str := ["head", "tags", "tracks", "stamp", "order", "entries", "writer", "ticks", "skip", "rows", "k", "found", "track", "ordinal", "time", "span", "key", "body"]
theorem sc_written : FnScope N_written ["head", "tags", "tracks", "stamp", "order", "entries"] (defScope s_written) := ⟨rfl, rfl, rfl, by decide +kernel, rfl, by decide +kernel, by decide +kernel⟩
theorem Txt.F_written (T : Txt K mg) : FunD K "written" "written" (defArgs s_written) (defBody s_written) (defScope s_written) [] [] (ga K "written") (fdAt K (ga K "written")) := T.fund (d := d_written) 57 (by kernel_rfl)
theorem Txt.k_written (T : Txt K mg) : PySem.W.keepIn K (.ref (ga K "written")) = true := T.F_written.kp
theorem Txt.b_written (T : Txt K mg) : Binds K (fdAt K (ga K "written")) ["head", "tags", "tracks", "stamp", "order", "entries"] [] := FunD.bindsN T.F_written fun _ _ _ _ _ _ us hl => by
  obtain ⟨a, b, c, d, e, f, rfl⟩ := ex6 hl
  kernel_rfl
abbrev N_file_from : List Str := ["head", "tags", "tracks", "count", "stamp", "keys", "unit", "units", "index"]
theorem sc_file_from : FnScope N_file_from ["head", "tags", "tracks", "count", "stamp"] (defScope s_file_from) := ⟨rfl, rfl, rfl, by decide +kernel, rfl, by decide +kernel, by decide +kernel⟩
theorem Txt.F_file_from (T : Txt K mg) : FunD K "file_from" "file_from" (defArgs s_file_from) (defBody s_file_from) (defScope s_file_from) [] [] (ga K "file_from") (fdAt K (ga K "file_from")) := T.fund (d := d_file_from) 58 (by kernel_rfl)
theorem Txt.k_file_from (T : Txt K mg) : PySem.W.keepIn K (.ref (ga K "file_from")) = true := T.F_file_from.kp
theorem Txt.b_file_from (T : Txt K mg) : Binds K (fdAt K (ga K "file_from")) ["head", "tags", "tracks", "count", "stamp"] [] := FunD.bindsN T.F_file_from fun _ _ _ _ _ _ us hl => by
  obtain ⟨a, b, c, d, e, rfl⟩ := ex5 hl
  kernel_rfl
abbrev N_with_bodies : List Str := ["presentation", "ticks", "skip", "tracks", "_", "rows", "name", "kind", "units", "result", "before", "bodies", "unit"]
theorem sc_with_bodies : FnScope N_with_bodies ["presentation"] (defScope s_with_bodies) := ⟨rfl, rfl, rfl, by decide +kernel, rfl, by decide +kernel, by decide +kernel⟩
theorem Txt.F_with_bodies (T : Txt K mg) : FunD K "with_bodies" "with_bodies" (defArgs s_with_bodies) (defBody s_with_bodies) (defScope s_with_bodies) [] [] (ga K "with_bodies") (fdAt K (ga K "with_bodies")) := T.fund (d := d_with_bodies) 59 (by kernel_rfl)
theorem Txt.k_with_bodies (T : Txt K mg) : PySem.W.keepIn K (.ref (ga K "with_bodies")) = true := T.F_with_bodies.kp
theorem Txt.b_with_bodies (T : Txt K mg) : Binds K (fdAt K (ga K "with_bodies")) ["presentation"] [] := FunD.bindsN T.F_with_bodies fun _ _ _ _ _ _ us hl => by
  obtain ⟨a, rfl⟩ := ex1 hl
  kernel_rfl
abbrev N_write : List Str := ["presentation", "stamp", "most", "head", "tracks"]
theorem sc_write : FnScope N_write ["presentation", "stamp", "most"] (defScope s_write) := ⟨rfl, rfl, rfl, by decide +kernel, rfl, by decide +kernel, by decide +kernel⟩
theorem Txt.F_write (T : Txt K mg) : FunD K "write" "write" (defArgs s_write) (defBody s_write) (defScope s_write) [V.int 100] [] (ga K "write") (fdAt K (ga K "write")) := T.fund (d := d_write) 60 (by kernel_rfl)
theorem Txt.k_write (T : Txt K mg) : PySem.W.keepIn K (.ref (ga K "write")) = true := T.F_write.kp
theorem Txt.b_write (T : Txt K mg) : Binds K (fdAt K (ga K "write")) ["presentation", "stamp", "most"] [] := by
  obtain ⟨ds, hv, hb⟩ := FunD.binds1 T.F_write (ps := ["presentation", "stamp", "most"]) 3 1 (by simp) rfl fun TT kV doc pm an cdv ct us its hu hi => by
    match us, hu, its, hi with
    | [a, b, c], _, [d], _ => exact ⟨_, rfl, rfl⟩
  cases hv
  exact hb
abbrev N_first_leaves : List Str := ["leaves", "first", "leaf"]
theorem sc_first_leaves : FnScope N_first_leaves ["leaves"] (defScope s_first_leaves) := ⟨rfl, rfl, rfl, by decide +kernel, rfl, by decide +kernel, by decide +kernel⟩
theorem Txt.F_first_leaves (T : Txt K mg) : FunD K "first_leaves" "first_leaves" (defArgs s_first_leaves) (defBody s_first_leaves) (defScope s_first_leaves) [] [] (ga K "first_leaves") (fdAt K (ga K "first_leaves")) := T.fund (d := d_first_leaves) 61 (by kernel_rfl)
theorem Txt.k_first_leaves (T : Txt K mg) : PySem.W.keepIn K (.ref (ga K "first_leaves")) = true := T.F_first_leaves.kp
theorem Txt.b_first_leaves (T : Txt K mg) : Binds K (fdAt K (ga K "first_leaves")) ["leaves"] [] := FunD.bindsN T.F_first_leaves fun _ _ _ _ _ _ us hl => by
  obtain ⟨a, rfl⟩ := ex1 hl
  kernel_rfl
abbrev N_content_of : List Str := ["leaf", "before"]
theorem sc_content_of : FnScope N_content_of ["leaf", "before"] (defScope s_content_of) := ⟨rfl, rfl, rfl, by decide +kernel, rfl, by decide +kernel, by decide +kernel⟩
theorem Txt.F_content_of (T : Txt K mg) : FunD K "content_of" "content_of" (defArgs s_content_of) (defBody s_content_of) (defScope s_content_of) [] [] (ga K "content_of") (fdAt K (ga K "content_of")) := T.fund (d := d_content_of) 62 (by kernel_rfl)
theorem Txt.k_content_of (T : Txt K mg) : PySem.W.keepIn K (.ref (ga K "content_of")) = true := T.F_content_of.kp
theorem Txt.b_content_of (T : Txt K mg) : Binds K (fdAt K (ga K "content_of")) ["leaf", "before"] [] := FunD.bindsN T.F_content_of fun _ _ _ _ _ _ us hl => by
  obtain ⟨a, b, rfl⟩ := ex2 hl
  kernel_rfl
abbrev N_sound_contents : List Str := ["first", "contents", "place", "leaf", "before", "content"]
theorem sc_sound_contents : FnScope N_sound_contents ["first"] (defScope s_sound_contents) := ⟨rfl, rfl, rfl, by decide +kernel, rfl, by decide +kernel, by decide +kernel⟩
theorem Txt.F_sound_contents (T : Txt K mg) : FunD K "sound_contents" "sound_contents" (defArgs s_sound_contents) (defBody s_sound_contents) (defScope s_sound_contents) [] [] (ga K "sound_contents") (fdAt K (ga K "sound_contents")) := T.fund (d := d_sound_contents) 63 (by kernel_rfl)
theorem Txt.k_sound_contents (T : Txt K mg) : PySem.W.keepIn K (.ref (ga K "sound_contents")) = true := T.F_sound_contents.kp
theorem Txt.b_sound_contents (T : Txt K mg) : Binds K (fdAt K (ga K "sound_contents")) ["first"] [] := FunD.bindsN T.F_sound_contents fun _ _ _ _ _ _ us hl => by
  obtain ⟨a, rfl⟩ := ex1 hl
  kernel_rfl
abbrev N_sound : List Str := ["leaves", "first", "contents", "found", "leaf", "place"]
theorem sc_sound : FnScope N_sound ["leaves"] (defScope s_sound) := ⟨rfl, rfl, rfl, by decide +kernel, rfl, by decide +kernel, by decide +kernel⟩
theorem Txt.F_sound (T : Txt K mg) : FunD K "sound" "sound" (defArgs s_sound) (defBody s_sound) (defScope s_sound) [] [] (ga K "sound") (fdAt K (ga K "sound")) := T.fund (d := d_sound) 64 (by kernel_rfl)
theorem Txt.k_sound (T : Txt K mg) : PySem.W.keepIn K (.ref (ga K "sound")) = true := T.F_sound.kp
theorem Txt.b_sound (T : Txt K mg) : Binds K (fdAt K (ga K "sound")) ["leaves"] [] := FunD.bindsN T.F_sound fun _ _ _ _ _ _ us hl => by
  obtain ⟨a, rfl⟩ := ex1 hl
  kernel_rfl
abbrev N_found_head : List Str := ["leaves", "leaf"]
theorem sc_found_head : FnScope N_found_head ["leaves"] (defScope s_found_head) := ⟨rfl, rfl, rfl, by decide +kernel, rfl, by decide +kernel, by decide +kernel⟩
theorem Txt.F_found_head (T : Txt K mg) : FunD K "found_head" "found_head" (defArgs s_found_head) (defBody s_found_head) (defScope s_found_head) [] [] (ga K "found_head") (fdAt K (ga K "found_head")) := T.fund (d := d_found_head) 65 (by kernel_rfl)
theorem Txt.k_found_head (T : Txt K mg) : PySem.W.keepIn K (.ref (ga K "found_head")) = true := T.F_found_head.kp
theorem Txt.b_found_head (T : Txt K mg) : Binds K (fdAt K (ga K "found_head")) ["leaves"] [] := FunD.bindsN T.F_found_head fun _ _ _ _ _ _ us hl => by
  obtain ⟨a, rfl⟩ := ex1 hl
  kernel_rfl
abbrev N_found_tags : List Str := ["leaves", "leaf"]
theorem sc_found_tags : FnScope N_found_tags ["leaves"] (defScope s_found_tags) := ⟨rfl, rfl, rfl, by decide +kernel, rfl, by decide +kernel, by decide +kernel⟩
theorem Txt.F_found_tags (T : Txt K mg) : FunD K "found_tags" "found_tags" (defArgs s_found_tags) (defBody s_found_tags) (defScope s_found_tags) [] [] (ga K "found_tags") (fdAt K (ga K "found_tags")) := T.fund (d := d_found_tags) 66 (by kernel_rfl)
theorem Txt.k_found_tags (T : Txt K mg) : PySem.W.keepIn K (.ref (ga K "found_tags")) = true := T.F_found_tags.kp
theorem Txt.b_found_tags (T : Txt K mg) : Binds K (fdAt K (ga K "found_tags")) ["leaves"] [] := FunD.bindsN T.F_found_tags fun _ _ _ _ _ _ us hl => by
  obtain ⟨a, rfl⟩ := ex1 hl
  kernel_rfl
abbrev N_units_of : List Str := ["pairs", "track", "units", "last", "mine", "leaf", "content", "ordinal", "time", "span", "key", "due", "leans"]
theorem sc_units_of : FnScope N_units_of ["pairs", "track"] (defScope s_units_of) := ⟨rfl, rfl, rfl, by decide +kernel, rfl, by decide +kernel, by decide +kernel⟩
theorem Txt.F_units_of (T : Txt K mg) : FunD K "units_of" "units_of" (defArgs s_units_of) (defBody s_units_of) (defScope s_units_of) [] [] (ga K "units_of") (fdAt K (ga K "units_of")) := T.fund (d := d_units_of) 67 (by kernel_rfl)
theorem Txt.k_units_of (T : Txt K mg) : PySem.W.keepIn K (.ref (ga K "units_of")) = true := T.F_units_of.kp
theorem Txt.b_units_of (T : Txt K mg) : Binds K (fdAt K (ga K "units_of")) ["pairs", "track"] [] := FunD.bindsN T.F_units_of fun _ _ _ _ _ _ us hl => by
  obtain ⟨a, b, rfl⟩ := ex2 hl
  kernel_rfl
abbrev N_rebuilt : List Str := ["leaves", "ticks", "skip", "rows", "pairs", "tracks", "k"]
theorem sc_rebuilt : FnScope N_rebuilt ["leaves"] (defScope s_rebuilt) := ⟨rfl, rfl, rfl, by decide +kernel, rfl, by decide +kernel, by decide +kernel⟩
theorem Txt.F_rebuilt (T : Txt K mg) : FunD K "rebuilt" "rebuilt" (defArgs s_rebuilt) (defBody s_rebuilt) (defScope s_rebuilt) [] [] (ga K "rebuilt") (fdAt K (ga K "rebuilt")) := T.fund (d := d_rebuilt) 68 (by kernel_rfl)
theorem Txt.k_rebuilt (T : Txt K mg) : PySem.W.keepIn K (.ref (ga K "rebuilt")) = true := T.F_rebuilt.kp
theorem Txt.b_rebuilt (T : Txt K mg) : Binds K (fdAt K (ga K "rebuilt")) ["leaves"] [] := FunD.bindsN T.F_rebuilt fun _ _ _ _ _ _ us hl => by
  obtain ⟨a, rfl⟩ := ex1 hl
  kernel_rfl
abbrev N_rebuild : List Str := ["row", "stamp", "count"]
theorem sc_rebuild : FnScope N_rebuild ["row", "stamp", "count"] (defScope s_rebuild) := ⟨rfl, rfl, rfl, by decide +kernel, rfl, by decide +kernel, by decide +kernel⟩
theorem Txt.F_rebuild (T : Txt K mg) : FunD K "rebuild" "rebuild" (defArgs s_rebuild) (defBody s_rebuild) (defScope s_rebuild) [] [] (ga K "rebuild") (fdAt K (ga K "rebuild")) := T.fund (d := d_rebuild) 69 (by kernel_rfl)
theorem Txt.k_rebuild (T : Txt K mg) : PySem.W.keepIn K (.ref (ga K "rebuild")) = true := T.F_rebuild.kp
theorem Txt.b_rebuild (T : Txt K mg) : Binds K (fdAt K (ga K "rebuild")) ["row", "stamp", "count"] [] := FunD.bindsN T.F_rebuild fun _ _ _ _ _ _ us hl => by
  obtain ⟨a, b, c, rfl⟩ := ex3 hl
  kernel_rfl
abbrev N_unstuffed : List Str := ["piece", "number"]
theorem sc_unstuffed : FnScope N_unstuffed ["piece", "number"] (defScope s_unstuffed) := ⟨rfl, rfl, rfl, by decide +kernel, rfl, by decide +kernel, by decide +kernel⟩
theorem Txt.F_unstuffed (T : Txt K mg) : FunD K "unstuffed" "unstuffed" (defArgs s_unstuffed) (defBody s_unstuffed) (defScope s_unstuffed) [] [] (ga K "unstuffed") (fdAt K (ga K "unstuffed")) := T.fund (d := d_unstuffed) 70 (by kernel_rfl)
theorem Txt.k_unstuffed (T : Txt K mg) : PySem.W.keepIn K (.ref (ga K "unstuffed")) = true := T.F_unstuffed.kp
theorem Txt.b_unstuffed (T : Txt K mg) : Binds K (fdAt K (ga K "unstuffed")) ["piece", "number"] [] := FunD.bindsN T.F_unstuffed fun _ _ _ _ _ _ us hl => by
  obtain ⟨a, b, rfl⟩ := ex2 hl
  kernel_rfl
abbrev N_leaf_of : List Str := ["writing", "number"]
theorem sc_leaf_of : FnScope N_leaf_of ["writing", "number"] (defScope s_leaf_of) := ⟨rfl, rfl, rfl, by decide +kernel, rfl, by decide +kernel, by decide +kernel⟩
theorem Txt.F_leaf_of (T : Txt K mg) : FunD K "leaf_of" "leaf_of" (defArgs s_leaf_of) (defBody s_leaf_of) (defScope s_leaf_of) [] [] (ga K "leaf_of") (fdAt K (ga K "leaf_of")) := T.fund (d := d_leaf_of) 71 (by kernel_rfl)
theorem Txt.k_leaf_of (T : Txt K mg) : PySem.W.keepIn K (.ref (ga K "leaf_of")) = true := T.F_leaf_of.kp
theorem Txt.b_leaf_of (T : Txt K mg) : Binds K (fdAt K (ga K "leaf_of")) ["writing", "number"] [] := FunD.bindsN T.F_leaf_of fun _ _ _ _ _ _ us hl => by
  obtain ⟨a, b, rfl⟩ := ex2 hl
  kernel_rfl
abbrev N_LeafReader_init : List Str := ["self"]
theorem sc_LeafReader_init : FnScope N_LeafReader_init ["self"] (defScope s_LeafReader_init) := ⟨rfl, rfl, rfl, by decide +kernel, rfl, by decide +kernel, by decide +kernel⟩
theorem Txt.F_LeafReader_init (T : Txt K mg) : FunD K "__init__" "LeafReader.__init__" (defArgs s_LeafReader_init) (defBody s_LeafReader_init) (defScope s_LeafReader_init) [] [] (ma K (ga K "LeafReader") "__init__") (fdAt K (ma K (ga K "LeafReader") "__init__")) := T.fund (d := d_LeafReader_init) 72 (by kernel_rfl)
theorem Txt.k_LeafReader_init (T : Txt K mg) : PySem.W.keepIn K (.ref (ma K (ga K "LeafReader") "__init__")) = true := T.F_LeafReader_init.kp
theorem Txt.b_LeafReader_init (T : Txt K mg) : Binds K (fdAt K (ma K (ga K "LeafReader") "__init__")) ["self"] [] := FunD.bindsN T.F_LeafReader_init fun _ _ _ _ _ _ us hl => by
  obtain ⟨a, rfl⟩ := ex1 hl
  kernel_rfl
abbrev N_LeafReader_extend : List Str := ["self", "part"]
theorem sc_LeafReader_extend : FnScope N_LeafReader_extend ["self", "part"] (defScope s_LeafReader_extend) := ⟨rfl, rfl, rfl, by decide +kernel, rfl, by decide +kernel, by decide +kernel⟩
theorem Txt.F_LeafReader_extend (T : Txt K mg) : FunD K "extend" "LeafReader.extend" (defArgs s_LeafReader_extend) (defBody s_LeafReader_extend) (defScope s_LeafReader_extend) [] [] (ma K (ga K "LeafReader") "extend") (fdAt K (ma K (ga K "LeafReader") "extend")) := T.fund (d := d_LeafReader_extend) 73 (by kernel_rfl)
theorem Txt.k_LeafReader_extend (T : Txt K mg) : PySem.W.keepIn K (.ref (ma K (ga K "LeafReader") "extend")) = true := T.F_LeafReader_extend.kp
theorem Txt.b_LeafReader_extend (T : Txt K mg) : Binds K (fdAt K (ma K (ga K "LeafReader") "extend")) ["self", "part"] [] := FunD.bindsN T.F_LeafReader_extend fun _ _ _ _ _ _ us hl => by
  obtain ⟨a, b, rfl⟩ := ex2 hl
  kernel_rfl
abbrev N_LeafReader_next_leaf : List Str := ["self", "leaf"]
theorem sc_LeafReader_next_leaf : FnScope N_LeafReader_next_leaf ["self"] (defScope s_LeafReader_next_leaf) := ⟨rfl, rfl, rfl, by decide +kernel, rfl, by decide +kernel, by decide +kernel⟩
theorem Txt.F_LeafReader_next_leaf (T : Txt K mg) : FunD K "next_leaf" "LeafReader.next_leaf" (defArgs s_LeafReader_next_leaf) (defBody s_LeafReader_next_leaf) (defScope s_LeafReader_next_leaf) [] [] (ma K (ga K "LeafReader") "next_leaf") (fdAt K (ma K (ga K "LeafReader") "next_leaf")) := T.fund (d := d_LeafReader_next_leaf) 74 (by kernel_rfl)
theorem Txt.k_LeafReader_next_leaf (T : Txt K mg) : PySem.W.keepIn K (.ref (ma K (ga K "LeafReader") "next_leaf")) = true := T.F_LeafReader_next_leaf.kp
theorem Txt.b_LeafReader_next_leaf (T : Txt K mg) : Binds K (fdAt K (ma K (ga K "LeafReader") "next_leaf")) ["self"] [] := FunD.bindsN T.F_LeafReader_next_leaf fun _ _ _ _ _ _ us hl => by
  obtain ⟨a, rfl⟩ := ex1 hl
  kernel_rfl
abbrev N_LeafReader_finish : List Str := ["self"]
theorem sc_LeafReader_finish : FnScope N_LeafReader_finish ["self"] (defScope s_LeafReader_finish) := ⟨rfl, rfl, rfl, by decide +kernel, rfl, by decide +kernel, by decide +kernel⟩
theorem Txt.F_LeafReader_finish (T : Txt K mg) : FunD K "finish" "LeafReader.finish" (defArgs s_LeafReader_finish) (defBody s_LeafReader_finish) (defScope s_LeafReader_finish) [] [] (ma K (ga K "LeafReader") "finish") (fdAt K (ma K (ga K "LeafReader") "finish")) := T.fund (d := d_LeafReader_finish) 75 (by kernel_rfl)
theorem Txt.k_LeafReader_finish (T : Txt K mg) : PySem.W.keepIn K (.ref (ma K (ga K "LeafReader") "finish")) = true := T.F_LeafReader_finish.kp
theorem Txt.b_LeafReader_finish (T : Txt K mg) : Binds K (fdAt K (ma K (ga K "LeafReader") "finish")) ["self"] [] := FunD.bindsN T.F_LeafReader_finish fun _ _ _ _ _ _ us hl => by
  obtain ⟨a, rfl⟩ := ex1 hl
  kernel_rfl
abbrev N_LeafReader_check_leaf : List Str := ["self", "leaf", "kind", "stamp", "number", "track", "ordinal", "time", "span", "key", "body"]
theorem sc_LeafReader_check_leaf : FnScope N_LeafReader_check_leaf ["self", "leaf"] (defScope s_LeafReader_check_leaf) := ⟨rfl, rfl, rfl, by decide +kernel, rfl, by decide +kernel, by decide +kernel⟩
theorem Txt.F_LeafReader_check_leaf (T : Txt K mg) : FunD K "check_leaf" "LeafReader.check_leaf" (defArgs s_LeafReader_check_leaf) (defBody s_LeafReader_check_leaf) (defScope s_LeafReader_check_leaf) [] [] (ma K (ga K "LeafReader") "check_leaf") (fdAt K (ma K (ga K "LeafReader") "check_leaf")) := T.fund (d := d_LeafReader_check_leaf) 76 (by kernel_rfl)
theorem Txt.k_LeafReader_check_leaf (T : Txt K mg) : PySem.W.keepIn K (.ref (ma K (ga K "LeafReader") "check_leaf")) = true := T.F_LeafReader_check_leaf.kp
theorem Txt.b_LeafReader_check_leaf (T : Txt K mg) : Binds K (fdAt K (ma K (ga K "LeafReader") "check_leaf")) ["self", "leaf"] [] := FunD.bindsN T.F_LeafReader_check_leaf fun _ _ _ _ _ _ us hl => by
  obtain ⟨a, b, rfl⟩ := ex2 hl
  kernel_rfl
abbrev N_LeafReader_is_in_order : List Str := ["self", "kind"]
theorem sc_LeafReader_is_in_order : FnScope N_LeafReader_is_in_order ["self", "kind"] (defScope s_LeafReader_is_in_order) := ⟨rfl, rfl, rfl, by decide +kernel, rfl, by decide +kernel, by decide +kernel⟩
theorem Txt.F_LeafReader_is_in_order (T : Txt K mg) : FunD K "is_in_order" "LeafReader.is_in_order" (defArgs s_LeafReader_is_in_order) (defBody s_LeafReader_is_in_order) (defScope s_LeafReader_is_in_order) [] [] (ma K (ga K "LeafReader") "is_in_order") (fdAt K (ma K (ga K "LeafReader") "is_in_order")) := T.fund (d := d_LeafReader_is_in_order) 77 (by kernel_rfl)
theorem Txt.k_LeafReader_is_in_order (T : Txt K mg) : PySem.W.keepIn K (.ref (ma K (ga K "LeafReader") "is_in_order")) = true := T.F_LeafReader_is_in_order.kp
theorem Txt.b_LeafReader_is_in_order (T : Txt K mg) : Binds K (fdAt K (ma K (ga K "LeafReader") "is_in_order")) ["self", "kind"] [] := FunD.bindsN T.F_LeafReader_is_in_order fun _ _ _ _ _ _ us hl => by
  obtain ⟨a, b, rfl⟩ := ex2 hl
  kernel_rfl
abbrev N_LeafReader_check_body : List Str := ["self", "kind", "body", "_", "count", "total"]
theorem sc_LeafReader_check_body : FnScope N_LeafReader_check_body ["self", "kind", "body"] (defScope s_LeafReader_check_body) := ⟨rfl, rfl, rfl, by decide +kernel, rfl, by decide +kernel, by decide +kernel⟩
theorem Txt.F_LeafReader_check_body (T : Txt K mg) : FunD K "check_body" "LeafReader.check_body" (defArgs s_LeafReader_check_body) (defBody s_LeafReader_check_body) (defScope s_LeafReader_check_body) [] [] (ma K (ga K "LeafReader") "check_body") (fdAt K (ma K (ga K "LeafReader") "check_body")) := T.fund (d := d_LeafReader_check_body) 78 (by kernel_rfl)
theorem Txt.k_LeafReader_check_body (T : Txt K mg) : PySem.W.keepIn K (.ref (ma K (ga K "LeafReader") "check_body")) = true := T.F_LeafReader_check_body.kp
theorem Txt.b_LeafReader_check_body (T : Txt K mg) : Binds K (fdAt K (ma K (ga K "LeafReader") "check_body")) ["self", "kind", "body"] [] := FunD.bindsN T.F_LeafReader_check_body fun _ _ _ _ _ _ us hl => by
  obtain ⟨a, b, c, rfl⟩ := ex3 hl
  kernel_rfl
abbrev N_LeafReader_check_unit : List Str := ["self", "leaf", "_", "track", "ordinal", "time", "span", "key", "leaves"]
theorem sc_LeafReader_check_unit : FnScope N_LeafReader_check_unit ["self", "leaf"] (defScope s_LeafReader_check_unit) := ⟨rfl, rfl, rfl, by decide +kernel, rfl, by decide +kernel, by decide +kernel⟩
theorem Txt.F_LeafReader_check_unit (T : Txt K mg) : FunD K "check_unit" "LeafReader.check_unit" (defArgs s_LeafReader_check_unit) (defBody s_LeafReader_check_unit) (defScope s_LeafReader_check_unit) [] [] (ma K (ga K "LeafReader") "check_unit") (fdAt K (ma K (ga K "LeafReader") "check_unit")) := T.fund (d := d_LeafReader_check_unit) 79 (by kernel_rfl)
theorem Txt.k_LeafReader_check_unit (T : Txt K mg) : PySem.W.keepIn K (.ref (ma K (ga K "LeafReader") "check_unit")) = true := T.F_LeafReader_check_unit.kp
theorem Txt.b_LeafReader_check_unit (T : Txt K mg) : Binds K (fdAt K (ma K (ga K "LeafReader") "check_unit")) ["self", "leaf"] [] := FunD.bindsN T.F_LeafReader_check_unit fun _ _ _ _ _ _ us hl => by
  obtain ⟨a, b, rfl⟩ := ex2 hl
  kernel_rfl
abbrev N_LeafReader_check_entries : List Str := ["self", "before", "track", "time", "offset"]
theorem sc_LeafReader_check_entries : FnScope N_LeafReader_check_entries ["self"] (defScope s_LeafReader_check_entries) := ⟨rfl, rfl, rfl, by decide +kernel, rfl, by decide +kernel, by decide +kernel⟩
theorem Txt.F_LeafReader_check_entries (T : Txt K mg) : FunD K "check_entries" "LeafReader.check_entries" (defArgs s_LeafReader_check_entries) (defBody s_LeafReader_check_entries) (defScope s_LeafReader_check_entries) [] [] (ma K (ga K "LeafReader") "check_entries") (fdAt K (ma K (ga K "LeafReader") "check_entries")) := T.fund (d := d_LeafReader_check_entries) 80 (by kernel_rfl)
theorem Txt.k_LeafReader_check_entries (T : Txt K mg) : PySem.W.keepIn K (.ref (ma K (ga K "LeafReader") "check_entries")) = true := T.F_LeafReader_check_entries.kp
theorem Txt.b_LeafReader_check_entries (T : Txt K mg) : Binds K (fdAt K (ma K (ga K "LeafReader") "check_entries")) ["self"] [] := FunD.bindsN T.F_LeafReader_check_entries fun _ _ _ _ _ _ us hl => by
  obtain ⟨a, rfl⟩ := ex1 hl
  kernel_rfl
abbrev N_LeafReader_check_end : List Str := ["self", "count", "total", "k"]
theorem sc_LeafReader_check_end : FnScope N_LeafReader_check_end ["self", "count", "total"] (defScope s_LeafReader_check_end) := ⟨rfl, rfl, rfl, by decide +kernel, rfl, by decide +kernel, by decide +kernel⟩
theorem Txt.F_LeafReader_check_end (T : Txt K mg) : FunD K "check_end" "LeafReader.check_end" (defArgs s_LeafReader_check_end) (defBody s_LeafReader_check_end) (defScope s_LeafReader_check_end) [] [] (ma K (ga K "LeafReader") "check_end") (fdAt K (ma K (ga K "LeafReader") "check_end")) := T.fund (d := d_LeafReader_check_end) 81 (by kernel_rfl)
theorem Txt.k_LeafReader_check_end (T : Txt K mg) : PySem.W.keepIn K (.ref (ma K (ga K "LeafReader") "check_end")) = true := T.F_LeafReader_check_end.kp
theorem Txt.b_LeafReader_check_end (T : Txt K mg) : Binds K (fdAt K (ma K (ga K "LeafReader") "check_end")) ["self", "count", "total"] [] := FunD.bindsN T.F_LeafReader_check_end fun _ _ _ _ _ _ us hl => by
  obtain ⟨a, b, c, rfl⟩ := ex3 hl
  kernel_rfl
abbrev N_copied : List Str := ["units", "time", "span", "content", "leans"]
theorem sc_copied : FnScope N_copied ["units"] (defScope s_copied) := ⟨rfl, rfl, rfl, by decide +kernel, rfl, by decide +kernel, by decide +kernel⟩
theorem Txt.F_copied (T : Txt K mg) : FunD K "copied" "copied" (defArgs s_copied) (defBody s_copied) (defScope s_copied) [] [] (ga K "copied") (fdAt K (ga K "copied")) := T.fund (d := d_copied) 82 (by kernel_rfl)
theorem Txt.k_copied (T : Txt K mg) : PySem.W.keepIn K (.ref (ga K "copied")) = true := T.F_copied.kp
theorem Txt.b_copied (T : Txt K mg) : Binds K (fdAt K (ga K "copied")) ["units"] [] := FunD.bindsN T.F_copied fun _ _ _ _ _ _ us hl => by
  obtain ⟨a, rfl⟩ := ex1 hl
  kernel_rfl
abbrev N_Reader_init : List Str := ["self"]
theorem sc_Reader_init : FnScope N_Reader_init ["self"] (defScope s_Reader_init) := ⟨rfl, rfl, rfl, by decide +kernel, rfl, by decide +kernel, by decide +kernel⟩
theorem Txt.F_Reader_init (T : Txt K mg) : FunD K "__init__" "Reader.__init__" (defArgs s_Reader_init) (defBody s_Reader_init) (defScope s_Reader_init) [] [] (ma K (ga K "Reader") "__init__") (fdAt K (ma K (ga K "Reader") "__init__")) := T.fund (d := d_Reader_init) 83 (by kernel_rfl)
theorem Txt.k_Reader_init (T : Txt K mg) : PySem.W.keepIn K (.ref (ma K (ga K "Reader") "__init__")) = true := T.F_Reader_init.kp
theorem Txt.b_Reader_init (T : Txt K mg) : Binds K (fdAt K (ma K (ga K "Reader") "__init__")) ["self"] [] := FunD.bindsN T.F_Reader_init fun _ _ _ _ _ _ us hl => by
  obtain ⟨a, rfl⟩ := ex1 hl
  kernel_rfl
abbrev N_Reader_feed : List Str := ["self", "part", "found", "pair"]
theorem sc_Reader_feed : FnScope N_Reader_feed ["self", "part"] (defScope s_Reader_feed) := ⟨rfl, rfl, rfl, by decide +kernel, rfl, by decide +kernel, by decide +kernel⟩
theorem Txt.F_Reader_feed (T : Txt K mg) : FunD K "feed" "Reader.feed" (defArgs s_Reader_feed) (defBody s_Reader_feed) (defScope s_Reader_feed) [] [] (ma K (ga K "Reader") "feed") (fdAt K (ma K (ga K "Reader") "feed")) := T.fund (d := d_Reader_feed) 84 (by kernel_rfl)
theorem Txt.k_Reader_feed (T : Txt K mg) : PySem.W.keepIn K (.ref (ma K (ga K "Reader") "feed")) = true := T.F_Reader_feed.kp
theorem Txt.b_Reader_feed (T : Txt K mg) : Binds K (fdAt K (ma K (ga K "Reader") "feed")) ["self", "part"] [] := FunD.bindsN T.F_Reader_feed fun _ _ _ _ _ _ us hl => by
  obtain ⟨a, b, rfl⟩ := ex2 hl
  kernel_rfl
abbrev N_Reader__later_unit : List Str := ["self"]
theorem sc_Reader__later_unit : FnScope N_Reader__later_unit ["self"] (defScope s_Reader__later_unit) := ⟨rfl, rfl, rfl, by decide +kernel, rfl, by decide +kernel, by decide +kernel⟩
theorem Txt.F_Reader__later_unit (T : Txt K mg) : FunD K "_later_unit" "Reader._later_unit" (defArgs s_Reader__later_unit) (defBody s_Reader__later_unit) (defScope s_Reader__later_unit) [] [] (ma K (ga K "Reader") "_later_unit") (fdAt K (ma K (ga K "Reader") "_later_unit")) := T.fund (d := d_Reader__later_unit) 85 (by kernel_rfl)
theorem Txt.k_Reader__later_unit (T : Txt K mg) : PySem.W.keepIn K (.ref (ma K (ga K "Reader") "_later_unit")) = true := T.F_Reader__later_unit.kp
theorem Txt.b_Reader__later_unit (T : Txt K mg) : Binds K (fdAt K (ma K (ga K "Reader") "_later_unit")) ["self"] [] := FunD.bindsN T.F_Reader__later_unit fun _ _ _ _ _ _ us hl => by
  obtain ⟨a, rfl⟩ := ex1 hl
  kernel_rfl
abbrev N_Reader__next_unit : List Str := ["self", "leaf", "_", "number", "track", "time", "span", "key", "body", "units", "before", "content"]
theorem sc_Reader__next_unit : FnScope N_Reader__next_unit ["self"] (defScope s_Reader__next_unit) := ⟨rfl, rfl, rfl, by decide +kernel, rfl, by decide +kernel, by decide +kernel⟩
theorem Txt.F_Reader__next_unit (T : Txt K mg) : FunD K "_next_unit" "Reader._next_unit" (defArgs s_Reader__next_unit) (defBody s_Reader__next_unit) (defScope s_Reader__next_unit) [] [] (ma K (ga K "Reader") "_next_unit") (fdAt K (ma K (ga K "Reader") "_next_unit")) := T.fund (d := d_Reader__next_unit) 86 (by kernel_rfl)
theorem Txt.k_Reader__next_unit (T : Txt K mg) : PySem.W.keepIn K (.ref (ma K (ga K "Reader") "_next_unit")) = true := T.F_Reader__next_unit.kp
theorem Txt.b_Reader__next_unit (T : Txt K mg) : Binds K (fdAt K (ma K (ga K "Reader") "_next_unit")) ["self"] [] := FunD.bindsN T.F_Reader__next_unit fun _ _ _ _ _ _ us hl => by
  obtain ⟨a, rfl⟩ := ex1 hl
  kernel_rfl
abbrev N_Reader_close : List Str := ["self", "ticks", "skip", "rows", "tracks", "k", "name", "kind", "_"]
theorem sc_Reader_close : FnScope N_Reader_close ["self"] (defScope s_Reader_close) := ⟨rfl, rfl, rfl, by decide +kernel, rfl, by decide +kernel, by decide +kernel⟩
theorem Txt.F_Reader_close (T : Txt K mg) : FunD K "close" "Reader.close" (defArgs s_Reader_close) (defBody s_Reader_close) (defScope s_Reader_close) [] [] (ma K (ga K "Reader") "close") (fdAt K (ma K (ga K "Reader") "close")) := T.fund (d := d_Reader_close) 87 (by kernel_rfl)
theorem Txt.k_Reader_close (T : Txt K mg) : PySem.W.keepIn K (.ref (ma K (ga K "Reader") "close")) = true := T.F_Reader_close.kp
theorem Txt.b_Reader_close (T : Txt K mg) : Binds K (fdAt K (ma K (ga K "Reader") "close")) ["self"] [] := FunD.bindsN T.F_Reader_close fun _ _ _ _ _ _ us hl => by
  obtain ⟨a, rfl⟩ := ex1 hl
  kernel_rfl
abbrev N_read : List Str := ["data", "reader"]
theorem sc_read : FnScope N_read ["data"] (defScope s_read) := ⟨rfl, rfl, rfl, by decide +kernel, rfl, by decide +kernel, by decide +kernel⟩
theorem Txt.F_read (T : Txt K mg) : FunD K "read" "read" (defArgs s_read) (defBody s_read) (defScope s_read) [] [] (ga K "read") (fdAt K (ga K "read")) := T.fund (d := d_read) 88 (by kernel_rfl)
theorem Txt.k_read (T : Txt K mg) : PySem.W.keepIn K (.ref (ga K "read")) = true := T.F_read.kp
theorem Txt.b_read (T : Txt K mg) : Binds K (fdAt K (ga K "read")) ["data"] [] := FunD.bindsN T.F_read fun _ _ _ _ _ _ us hl => by
  obtain ⟨a, rfl⟩ := ex1 hl
  kernel_rfl
abbrev N__law_numbers : List Str := ["_law_script", "_law_count", "_law_rest", "_law_cell", "_law_mixed_here", "_law_numbers_here", "_law_k", "_law_at"]
theorem sc__law_numbers : FnScope N__law_numbers ["_law_script", "_law_count"] (defScope s__law_numbers) := ⟨rfl, rfl, rfl, by decide +kernel, rfl, by decide +kernel, by decide +kernel⟩
theorem Txt.F__law_numbers (T : Txt K mg) : FunD K "_law_numbers" "_law_numbers" (defArgs s__law_numbers) (defBody s__law_numbers) (defScope s__law_numbers) [] [] (ga K "_law_numbers") (fdAt K (ga K "_law_numbers")) := T.fund (d := d__law_numbers) 89 (by kernel_rfl)
theorem Txt.k__law_numbers (T : Txt K mg) : PySem.W.keepIn K (.ref (ga K "_law_numbers")) = true := T.F__law_numbers.kp
theorem Txt.b__law_numbers (T : Txt K mg) : Binds K (fdAt K (ga K "_law_numbers")) ["_law_script", "_law_count"] [] := FunD.bindsN T.F__law_numbers fun _ _ _ _ _ _ us hl => by
  obtain ⟨a, b, rfl⟩ := ex2 hl
  kernel_rfl
abbrev N__law_content : List Str := ["_law_numbers_here", "_law_at", "_law_before", "_law_size", "_law_place_here", "_law_k"]
theorem sc__law_content : FnScope N__law_content ["_law_numbers_here", "_law_at", "_law_before"] (defScope s__law_content) := ⟨rfl, rfl, rfl, by decide +kernel, rfl, by decide +kernel, by decide +kernel⟩
theorem Txt.F__law_content (T : Txt K mg) : FunD K "_law_content" "_law_content" (defArgs s__law_content) (defBody s__law_content) (defScope s__law_content) [] [] (ga K "_law_content") (fdAt K (ga K "_law_content")) := T.fund (d := d__law_content) 90 (by kernel_rfl)
theorem Txt.k__law_content (T : Txt K mg) : PySem.W.keepIn K (.ref (ga K "_law_content")) = true := T.F__law_content.kp
theorem Txt.b__law_content (T : Txt K mg) : Binds K (fdAt K (ga K "_law_content")) ["_law_numbers_here", "_law_at", "_law_before"] [] := FunD.bindsN T.F__law_content fun _ _ _ _ _ _ us hl => by
  obtain ⟨a, b, c, rfl⟩ := ex3 hl
  kernel_rfl
abbrev N__law_units : List Str := ["_law_numbers_here", "_law_at", "_law_many", "_law_units_here", "_law_time", "_law_before", "_law_k", "_law_place_here", "_law_span", "_law_content_here", "_law_leans"]
theorem sc__law_units : FnScope N__law_units ["_law_numbers_here", "_law_at", "_law_many"] (defScope s__law_units) := ⟨rfl, rfl, rfl, by decide +kernel, rfl, by decide +kernel, by decide +kernel⟩
theorem Txt.F__law_units (T : Txt K mg) : FunD K "_law_units" "_law_units" (defArgs s__law_units) (defBody s__law_units) (defScope s__law_units) [] [] (ga K "_law_units") (fdAt K (ga K "_law_units")) := T.fund (d := d__law_units) 91 (by kernel_rfl)
theorem Txt.k__law_units (T : Txt K mg) : PySem.W.keepIn K (.ref (ga K "_law_units")) = true := T.F__law_units.kp
theorem Txt.b__law_units (T : Txt K mg) : Binds K (fdAt K (ga K "_law_units")) ["_law_numbers_here", "_law_at", "_law_many"] [] := FunD.bindsN T.F__law_units fun _ _ _ _ _ _ us hl => by
  obtain ⟨a, b, c, rfl⟩ := ex3 hl
  kernel_rfl
abbrev N__law_presentation : List Str := ["_law_numbers_here", "_law_at", "_law_names", "_law_skip", "_law_tracks", "_law_k", "_law_many", "_law_tags"]
theorem sc__law_presentation : FnScope N__law_presentation ["_law_numbers_here", "_law_at", "_law_names", "_law_skip"] (defScope s__law_presentation) := ⟨rfl, rfl, rfl, by decide +kernel, rfl, by decide +kernel, by decide +kernel⟩
theorem Txt.F__law_presentation (T : Txt K mg) : FunD K "_law_presentation" "_law_presentation" (defArgs s__law_presentation) (defBody s__law_presentation) (defScope s__law_presentation) [] [] (ga K "_law_presentation") (fdAt K (ga K "_law_presentation")) := T.fund (d := d__law_presentation) 92 (by kernel_rfl)
theorem Txt.k__law_presentation (T : Txt K mg) : PySem.W.keepIn K (.ref (ga K "_law_presentation")) = true := T.F__law_presentation.kp
theorem Txt.b__law_presentation (T : Txt K mg) : Binds K (fdAt K (ga K "_law_presentation")) ["_law_numbers_here", "_law_at", "_law_names", "_law_skip"] [] := FunD.bindsN T.F__law_presentation fun _ _ _ _ _ _ us hl => by
  obtain ⟨a, b, c, d, rfl⟩ := ex4 hl
  kernel_rfl
abbrev N__law_pieces : List Str := ["_law_file", "_law_pieces_here", "_law_piece", "_law_value"]
theorem sc__law_pieces : FnScope N__law_pieces ["_law_file"] (defScope s__law_pieces) := ⟨rfl, rfl, rfl, by decide +kernel, rfl, by decide +kernel, by decide +kernel⟩
theorem Txt.F__law_pieces (T : Txt K mg) : FunD K "_law_pieces" "_law_pieces" (defArgs s__law_pieces) (defBody s__law_pieces) (defScope s__law_pieces) [] [] (ga K "_law_pieces") (fdAt K (ga K "_law_pieces")) := T.fund (d := d__law_pieces) 93 (by kernel_rfl)
theorem Txt.k__law_pieces (T : Txt K mg) : PySem.W.keepIn K (.ref (ga K "_law_pieces")) = true := T.F__law_pieces.kp
theorem Txt.b__law_pieces (T : Txt K mg) : Binds K (fdAt K (ga K "_law_pieces")) ["_law_file"] [] := FunD.bindsN T.F__law_pieces fun _ _ _ _ _ _ us hl => by
  obtain ⟨a, rfl⟩ := ex1 hl
  kernel_rfl
abbrev N__law_mixed : List Str := ["_law_pieces_here", "_law_numbers_here", "_law_at", "_law_left", "_law_row", "_law_k", "_law_place_here"]
theorem sc__law_mixed : FnScope N__law_mixed ["_law_pieces_here", "_law_numbers_here", "_law_at"] (defScope s__law_mixed) := ⟨rfl, rfl, rfl, by decide +kernel, rfl, by decide +kernel, by decide +kernel⟩
theorem Txt.F__law_mixed (T : Txt K mg) : FunD K "_law_mixed" "_law_mixed" (defArgs s__law_mixed) (defBody s__law_mixed) (defScope s__law_mixed) [] [] (ga K "_law_mixed") (fdAt K (ga K "_law_mixed")) := T.fund (d := d__law_mixed) 94 (by kernel_rfl)
theorem Txt.k__law_mixed (T : Txt K mg) : PySem.W.keepIn K (.ref (ga K "_law_mixed")) = true := T.F__law_mixed.kp
theorem Txt.b__law_mixed (T : Txt K mg) : Binds K (fdAt K (ga K "_law_mixed")) ["_law_pieces_here", "_law_numbers_here", "_law_at"] [] := FunD.bindsN T.F__law_mixed fun _ _ _ _ _ _ us hl => by
  obtain ⟨a, b, c, rfl⟩ := ex3 hl
  kernel_rfl
abbrev N__law_absent : List Str := ["_law_row", "_law_finds", "_law_stamp", "error"]
theorem sc__law_absent : FnScope N__law_absent ["_law_row", "_law_finds", "_law_stamp"] (defScope s__law_absent) := ⟨rfl, rfl, rfl, by decide +kernel, rfl, by decide +kernel, by decide +kernel⟩
theorem Txt.F__law_absent (T : Txt K mg) : FunD K "_law_absent" "_law_absent" (defArgs s__law_absent) (defBody s__law_absent) (defScope s__law_absent) [] [] (ga K "_law_absent") (fdAt K (ga K "_law_absent")) := T.fund (d := d__law_absent) 95 (by kernel_rfl)
theorem Txt.k__law_absent (T : Txt K mg) : PySem.W.keepIn K (.ref (ga K "_law_absent")) = true := T.F__law_absent.kp
theorem Txt.b__law_absent (T : Txt K mg) : Binds K (fdAt K (ga K "_law_absent")) ["_law_row", "_law_finds", "_law_stamp"] [] := FunD.bindsN T.F__law_absent fun _ _ _ _ _ _ us hl => by
  obtain ⟨a, b, c, rfl⟩ := ex3 hl
  kernel_rfl
abbrev N_law : List Str := ["_law_script", "_law_numbers_here", "_law_first", "_law_second", "_law_stamp", "_law_other", "_law_files", "_law_row", "_law_finds", "_law_absent_here", "_law_k", "_law_again", "_law_mark", "_law_presentation_here", "_law_file", "_law_leaves", "_law_leaf", "_law_built"]
theorem sc_law : FnScope N_law ["_law_script"] (defScope s_law) := ⟨rfl, rfl, rfl, by decide +kernel, rfl, by decide +kernel, by decide +kernel⟩
theorem Txt.F_law (T : Txt K mg) : FunD K "law" "law" (defArgs s_law) (defBody s_law) (defScope s_law) [] [] (ga K "law") (fdAt K (ga K "law")) := T.fund (d := d_law) 96 (by kernel_rfl)
theorem Txt.k_law (T : Txt K mg) : PySem.W.keepIn K (.ref (ga K "law")) = true := T.F_law.kp
theorem Txt.b_law (T : Txt K mg) : Binds K (fdAt K (ga K "law")) ["_law_script"] [] := FunD.bindsN T.F_law fun _ _ _ _ _ _ us hl => by
  obtain ⟨a, rfl⟩ := ex1 hl
  kernel_rfl
abbrev N_SpoolboxError_init : List Str := ["self", "at"]
theorem sc_SpoolboxError_init : FnScope N_SpoolboxError_init ["self", "at"] (defScope s_SpoolboxError_init) := ⟨rfl, rfl, rfl, by decide +kernel, rfl, by decide +kernel, by decide +kernel⟩
theorem Txt.F_SpoolboxError_init (T : Txt K mg) : FunD K "__init__" "SpoolboxError.__init__" (defArgs s_SpoolboxError_init) (defBody s_SpoolboxError_init) (defScope s_SpoolboxError_init) [] [] (ma K (ga K "SpoolboxError") "__init__") (fdAt K (ma K (ga K "SpoolboxError") "__init__")) := T.fund (d := d_SpoolboxError_init) 97 (by kernel_rfl)
theorem Txt.k_SpoolboxError_init (T : Txt K mg) : PySem.W.keepIn K (.ref (ma K (ga K "SpoolboxError") "__init__")) = true := T.F_SpoolboxError_init.kp
theorem Txt.b_SpoolboxError_init (T : Txt K mg) : Binds K (fdAt K (ma K (ga K "SpoolboxError") "__init__")) ["self", "at"] [] := FunD.bindsN T.F_SpoolboxError_init fun _ _ _ _ _ _ us hl => by
  obtain ⟨a, b, rfl⟩ := ex2 hl
  kernel_rfl
theorem Txt.t_MOST (T : Txt K mg) (H : Hp) : SqT K H (ga K "MOST") [.int 4, .int 4294967295, .int 4294967295, .int 15, .int 16777215, .int 1099511627775, .int 16777215, .int 1] := by
  have e := T.exB
  simp only [Sp.exB, Bool.and_eq_true] at e
  exact He.tupB_ok e.2.2.2.2.2.2.2.2 H
end
end Sp
namespace Sp
open PySem PySem.Spec PyProof.Rows L2
theorem boot_ord : bootBuiltins "ord" = some (.builtin "ord") := by decide +kernel
theorem boot_abs : bootBuiltins "abs" = some (.builtin "abs") := by decide +kernel
theorem boot_int : bootBuiltins "int" = some (.type "int") := by decide +kernel
theorem boot_list : bootBuiltins "list" = some (.type "list") := by decide +kernel
theorem boot_tuple : bootBuiltins "tuple" = some (.type "tuple") := by decide +kernel
theorem boot_min : bootBuiltins "min" = some (.builtin "min") := by decide +kernel
theorem boot_max : bootBuiltins "max" = some (.builtin "max") := by decide +kernel
theorem boot_sorted : bootBuiltins "sorted" = some (.builtin "sorted") := by decide +kernel
theorem boot_all : bootBuiltins "all" = some (.builtin "all") := by decide +kernel
theorem boot_isinstance : bootBuiltins "isinstance" = some (.builtin "isinstance") := by decide +kernel
section
variable {X : Cx}
theorem pe_gint {x : Str} {i : Int} {pos : Pos} (h : ∃ t, X.mg x = some (.int i t)) (hg : Gl X x := by rfl) (hd : (x == ("__debug__" : Str)) = false := by decide) : PE X (.Name x pos) (tC (.int i)) := by
  obtain ⟨t, e⟩ := h
  exact pe_glob hg e ⟨t, rfl⟩ hd
theorem pe_gstr {x z : Str} {pos : Pos} (h : ∃ t, X.mg x = some (.str z t)) (hg : Gl X x := by rfl) (hd : (x == ("__debug__" : Str)) = false := by decide) : PE X (.Name x pos) (tC (.str z)) := by
  obtain ⟨t, e⟩ := h
  exact pe_glob hg e ⟨t, rfl⟩ hd
end
section
variable {P : Program} {w : World} {K : PySem.W.Frag} {mg : Str → Option Value} {base : Heap} {x qual : Str} {params : Arguments} {body : List Stmt} {scope : Scope} {dvs : List V} {kws : List (Str × V)} {f : Addr} {fd : FuncData}
/-- a def that lets nothing out -/
theorem okD {N ps : List Str} {k : Nat} {sp : Sp} (F : FunD K x qual params body scope dvs kws f fd) (S : FnScope N ps scope) (len : ∀ vs H Q E, sp vs H Q E → vs.length = ps.length)
    (hbody : ∀ (cdv : Value) (A : Around) (outer : List Env) (s : Shared) (H : Hp) (vs : List V) (Q : VK) (E : XK), Room k (A.deeper (envOfC qual scope s.heap.objs.size f cdv)) → sp vs H Q E →
      ∃ t, PSs (cxOf CX0 P w K mg base N qual scope f cdv A outer s H E).nox body t ∧ t { nx := fun _ H' => Q .non H', rt := Q } (start N vs) H) : FnOk P w K mg base CX0 (k + 1) f fd ps sp :=
  F.ok S len fun cdv A outer s H vs Q E hr hsp => by
    obtain ⟨t, h, q⟩ := hbody cdv A outer s H vs Q E hr hsp
    exact ⟨t, h.nox, q⟩
end
/-- not e, by cases -/
def tNotC (t : TT) : TT := fun σ H Q => t σ H fun c H1 => if c = true then Q false H1 else Q true H1
theorem pt_notC {X : Cx} {a : Expr} {pos : Pos} {tA : TT} (ha : PT X a tA) : PT X (.UnaryOp .Not a pos) (tNotC tA) := by
  refine ⟨fun pins s σ H Q I h => ?_⟩
  refine isTrue_not (thn (ha.run pins s σ H _ I h) fun c s1 hh => ?_)
  obtain ⟨H1, I1, q⟩ := hh
  cases c with
  | true => exact ⟨H1, I1, q⟩
  | false => exact ⟨H1, I1, q⟩
section
variable {X : Cx} {K : PySem.W.Frag}
theorem ixL_ (K : PySem.W.Frag) (h : X.K = K) : IxR X (rIxL K) := by subst h; exact ix_list
theorem ixT_ (K : PySem.W.Frag) (h : X.K = K) : IxR X (rIxT K) := by subst h; exact ix_tup
theorem lenS_ (K : PySem.W.Frag) (h : X.K = K) : CallR X (.builtin "len") (Evl.rLenS K) := by subst h; exact call_len_seq
theorem listOf_ (K : PySem.W.Frag) (h : X.K = K) : CallR X (.type "list") (Evl.rListS K) := by subst h; exact call_list_of
theorem inS_ (K : PySem.W.Frag) (h : X.K = K) : OpR X (compareOp .In) (rIn K false) := by subst h; exact op_in_seq
theorem pg_tup_ (K : PySem.W.Frag) (hK : X.K = K) {es : List Expr} {k : Nat} {pos : Pos} {t : TGs} {n : Nat} (hc : X.calm = true) (h : PGs X es t)
    (hn : (assignEach es X.env).length = n := by rfl) (hst : (assignEach es X.env).findIdx? (·.1) = none := by rfl) : PG X (.Tuple es k pos) (gTup K n t) := by subst hK; exact pg_tup hc h hn hst
end
theorem upd_keep {H : Hp} {a q : Addr} {o x : HO} (h : H a = some x) (hq : H q = none) : upd H q o a = some x := by
  rw [upd_ne (ne_of_none h hq)]
  exact h
theorem _root_.L2.Same.new {H : Hp} {q : Addr} {o : HO} (hq : H q = none) : Same H (upd H q o) := fun _ _ h => upd_keep h hq
theorem _root_.L2.Same.mut {H H' : Hp} {q : Addr} {o : HO} (s : Same H H') (hq : H q = none) : Same H (upd H' q o) := fun a u h => by
  rw [upd_ne (ne_of_none h hq)]
  exact s a u h
theorem _root_.L2.Same.add {H H' : Hp} {q : Addr} {o : HO} (s : Same H H') (hq : H' q = none) : Same H (upd H' q o) := s.mut (s.free hq)
/-- a list of ints -/
def Li (H : Hp) (a : Addr) (xs : List Int) : Prop := H a = some (.lst (xs.map V.int))
theorem Li.sq {K : PySem.W.Frag} {H : Hp} {a : Addr} {xs : List Int} (h : Li H a xs) : SqL K H a (xs.map V.int) := .inl (.inl h)
theorem Li.at {xs : List Int} {i : Nat} {z : Int} (h : xs[i]? = some z) : atI (xs.map V.int) (i : Int) = some (V.int z) := atI_nat (by rw [List.getElem?_map, h]; rfl)
end Sp
namespace Sp
open PySem PySem.Spec PyProof.Rows L2
theorem Li.mono {H H' : Hp} {a : Addr} {xs : List Int} (s : Same H H') (h : Li H a xs) : Li H' a xs := s _ _ h
theorem pget {α β : Type} {F : α → β → Prop} : ∀ {l₁ : List α} {l₂ : List β} {i : Nat} {y : β}, Paired F l₁ l₂ → l₂[i]? = some y → ∃ x, l₁[i]? = some x ∧ F x y
  | _, _, _, _, .nil, h => by simp at h
  | _, _, 0, _, .cons r _, h => ⟨_, rfl, by cases h; exact r⟩
  | _, _, i + 1, _, .cons _ t, h => pget (i := i) t h
theorem pgetl {α β : Type} {F : α → β → Prop} : ∀ {l₁ : List α} {l₂ : List β} {i : Nat} {x : α}, Paired F l₁ l₂ → l₁[i]? = some x → ∃ y, l₂[i]? = some y ∧ F x y
  | _, _, _, _, .nil, h => by simp at h
  | _, _, 0, _, .cons r _, h => ⟨_, rfl, by cases h; exact r⟩
  | _, _, i + 1, _, .cons _ t, h => pgetl (i := i) t h
theorem pmap {α β : Type} {F G : α → β → Prop} : ∀ {l₁ : List α} {l₂ : List β}, Paired F l₁ l₂ → (∀ a b, F a b → G a b) → Paired G l₁ l₂
  | _, _, .nil, _ => .nil
  | _, _, .cons r t, f => .cons (f _ _ r) (pmap t f)
theorem pnil {α β : Type} {F : α → β → Prop} {l : List α} (h : Paired F l []) : l = [] := by cases h; rfl
theorem papp {α β : Type} {F : α → β → Prop} : ∀ {a b : List α} {c d : List β}, Paired F a c → Paired F b d → Paired F (a ++ b) (c ++ d)
  | _, _, _, _, .nil, h => h
  | _, _, _, _, .cons r t, h => .cons r (papp t h)
theorem ptake {α β : Type} {F : α → β → Prop} : ∀ {a : List α} {c : List β} (n : Nat), Paired F a c → Paired F (a.take n) (c.take n)
  | _, _, 0, _ => by simp; exact .nil
  | _, _, n + 1, .nil => .nil
  | _, _, n + 1, .cons r t => .cons r (ptake n t)
theorem pdrop {α β : Type} {F : α → β → Prop} : ∀ {a : List α} {c : List β} (n : Nat), Paired F a c → Paired F (a.drop n) (c.drop n)
  | _, _, 0, h => h
  | _, _, n + 1, .nil => .nil
  | _, _, n + 1, .cons r t => pdrop n t
/-- how data lie in the heap: by relation, as data of the library, kept by what keeps the tracked -/
structure Cd (α : Type) where
  R : Hp → V → α → Prop
  d : α → PyData
  ok : α → Prop
  n : Nat
  mono : ∀ {H H' : Hp} {v : V} {x : α}, Same H H' → R H v x → R H' v x
  dp : ∀ {K : PySem.W.Frag} {H : Hp} {v : V} {x : α}, R H v x → Dp K H v (d x)
  lay : ∀ {x : α}, ok x → (d x).canLay0 = true
  dep : ∀ x : α, (d x).depth ≤ n
def cI : Cd Int := ⟨fun _ v i => v = .int i, .int, fun _ => True, 0, fun _ h => h, fun h => h ▸ .int _, fun _ => rfl, fun _ => Nat.le_refl _⟩
def cB : Cd Bool := ⟨fun _ v i => v = .bl i, .bool, fun _ => True, 0, fun _ h => h, fun h => h ▸ .bl _, fun _ => rfl, fun _ => Nat.le_refl _⟩
def cS : Cd Str := ⟨fun _ v i => v = .str i, .str, fun x => PySem.PyData.strOk x = true, 0, fun _ h => h, fun h => h ▸ .str _, fun h => by rw [PyData.canLay0]; exact h, fun _ => Nat.le_refl _⟩
theorem lay_list {α : Type} {d : α → PyData} : ∀ {xs : List α}, (∀ x ∈ xs, (d x).canLay0 = true) → PyData.canLayAll0 (xs.map d) = true
  | [], _ => rfl
  | x :: xs, h => by
    rw [List.map_cons, PyData.canLayAll0, h x (by simp), lay_list (xs := xs) fun y hy => h y (by simp [hy])]
    rfl
theorem dep_list {α : Type} {d : α → PyData} {n : Nat} (h : ∀ x, (d x).depth ≤ n) : ∀ xs : List α, PyData.depthAll (xs.map d) ≤ n
  | [] => Nat.zero_le _
  | x :: xs => by
    rw [List.map_cons, PyData.depthAll]
    exact Nat.max_le.mpr ⟨h x, dep_list h xs⟩
theorem dp_list {α : Type} {c : Cd α} {K : PySem.W.Frag} {H : Hp} : ∀ {vs : List V} {xs : List α}, Paired (c.R H) vs xs → DpAll K H vs (xs.map c.d)
  | _, _, .nil => .nil
  | _, _, .cons r t => .cons (c.dp r) (dp_list t)
def cL {α : Type} (c : Cd α) : Cd (List α) where
  R := fun H v xs => ∃ a vs, v = .ref a ∧ H a = some (.lst vs) ∧ Paired (c.R H) vs xs
  d := fun xs => .list (xs.map c.d)
  ok := fun xs => ∀ x ∈ xs, c.ok x
  n := c.n + 1
  mono := fun s ⟨a, vs, e, h, p⟩ => ⟨a, vs, e, s _ _ h, pmap p fun _ _ r => c.mono s r⟩
  dp := fun ⟨a, vs, e, h, p⟩ => by subst e; exact .lst (SqL.of h) (dp_list p)
  lay := fun h => by rw [PyData.canLay0]; exact lay_list fun x hx => c.lay (h x hx)
  dep := fun xs => by rw [PyData.depth]; exact Nat.succ_le_succ (dep_list c.dep xs)
theorem ints_dp {K : PySem.W.Frag} {H : Hp} : ∀ xs : List Int, DpAll K H (xs.map V.int) (xs.map PyData.int)
  | [] => .nil
  | x :: xs => .cons (.int x) (ints_dp xs)
def cLi : Cd (List Int) where
  R := fun H v xs => ∃ a, v = .ref a ∧ Li H a xs
  d := fun xs => .list (xs.map PyData.int)
  ok := fun _ => True
  n := 1
  mono := fun s ⟨a, e, h⟩ => ⟨a, e, h.mono s⟩
  dp := fun ⟨a, e, h⟩ => by subst e; exact .lst h.sq (ints_dp _)
  lay := fun _ => by rw [PyData.canLay0]; exact lay_list fun x _ => rfl
  dep := fun xs => by rw [PyData.depth]; exact Nat.succ_le_succ (dep_list (n := 0) (fun _ => Nat.le_refl _) xs)
def c2 {α β : Type} (a : Cd α) (b : Cd β) : Cd (α × β) where
  R := fun H v p => ∃ t x y, v = .ref t ∧ H t = some (.tup [x, y]) ∧ a.R H x p.1 ∧ b.R H y p.2
  d := fun p => .tuple [a.d p.1, b.d p.2]
  ok := fun p => a.ok p.1 ∧ b.ok p.2
  n := max a.n b.n + 1
  mono := fun s ⟨t, x, y, e, h, p, q⟩ => ⟨t, x, y, e, s _ _ h, a.mono s p, b.mono s q⟩
  dp := fun ⟨t, x, y, e, h, p, q⟩ => by subst e; exact .tup (SqT.of h) (.cons (a.dp p) (.cons (b.dp q) .nil))
  lay := fun h => by simp only [PyData.canLay0, PyData.canLayAll0, a.lay h.1, b.lay h.2, Bool.and_self]
  dep := fun p => by
    have := a.dep p.1; have := b.dep p.2
    simp only [PyData.depth, PyData.depthAll]; omega
def c3 {α β γ : Type} (a : Cd α) (b : Cd β) (c : Cd γ) : Cd (α × β × γ) where
  R := fun H v p => ∃ t x y z, v = .ref t ∧ H t = some (.tup [x, y, z]) ∧ a.R H x p.1 ∧ b.R H y p.2.1 ∧ c.R H z p.2.2
  d := fun p => .tuple [a.d p.1, b.d p.2.1, c.d p.2.2]
  ok := fun p => a.ok p.1 ∧ b.ok p.2.1 ∧ c.ok p.2.2
  n := max a.n (max b.n c.n) + 1
  mono := fun s ⟨t, x, y, z, e, h, p, q, r⟩ => ⟨t, x, y, z, e, s _ _ h, a.mono s p, b.mono s q, c.mono s r⟩
  dp := fun ⟨t, x, y, z, e, h, p, q, r⟩ => by subst e; exact .tup (SqT.of h) (.cons (a.dp p) (.cons (b.dp q) (.cons (c.dp r) .nil)))
  lay := fun h => by simp only [PyData.canLay0, PyData.canLayAll0, a.lay h.1, b.lay h.2.1, c.lay h.2.2, Bool.and_self]
  dep := fun p => by
    have := a.dep p.1; have := b.dep p.2.1; have := c.dep p.2.2
    simp only [PyData.depth, PyData.depthAll]; omega
def c4 {α β γ δ : Type} (a : Cd α) (b : Cd β) (c : Cd γ) (e : Cd δ) : Cd (α × β × γ × δ) where
  R := fun H v p => ∃ t x y z u, v = .ref t ∧ H t = some (.tup [x, y, z, u]) ∧ a.R H x p.1 ∧ b.R H y p.2.1 ∧ c.R H z p.2.2.1 ∧ e.R H u p.2.2.2
  d := fun p => .tuple [a.d p.1, b.d p.2.1, c.d p.2.2.1, e.d p.2.2.2]
  ok := fun p => a.ok p.1 ∧ b.ok p.2.1 ∧ c.ok p.2.2.1 ∧ e.ok p.2.2.2
  n := max a.n (max b.n (max c.n e.n)) + 1
  mono := fun s ⟨t, x, y, z, u, e', h, p, q, r, k⟩ => ⟨t, x, y, z, u, e', s _ _ h, a.mono s p, b.mono s q, c.mono s r, e.mono s k⟩
  dp := fun ⟨t, x, y, z, u, e', h, p, q, r, k⟩ => by subst e'; exact .tup (SqT.of h) (.cons (a.dp p) (.cons (b.dp q) (.cons (c.dp r) (.cons (e.dp k) .nil))))
  lay := fun h => by simp only [PyData.canLay0, PyData.canLayAll0, a.lay h.1, b.lay h.2.1, c.lay h.2.2.1, e.lay h.2.2.2, Bool.and_self]
  dep := fun p => by
    have := a.dep p.1; have := b.dep p.2.1; have := c.dep p.2.2.1; have := e.dep p.2.2.2
    simp only [PyData.depth, PyData.depthAll]; omega
/-- the records of a file -/
structure Leaf where
  kind : Int
  stamp : Int
  number : Int
  track : Int
  ordinal : Int
  time : Int
  span : Int
  key : Int
  body : List Int
abbrev Leaf.vs (l : Leaf) (b : Addr) : List V := [.int l.kind, .int l.stamp, .int l.number, .int l.track, .int l.ordinal, .int l.time, .int l.span, .int l.key, .ref b]
def cLeaf : Cd Leaf where
  R := fun H v l => ∃ t b, v = .ref t ∧ H t = some (.tup (l.vs b)) ∧ Li H b l.body
  d := fun l => .tuple [.int l.kind, .int l.stamp, .int l.number, .int l.track, .int l.ordinal, .int l.time, .int l.span, .int l.key, .list (l.body.map PyData.int)]
  ok := fun _ => True
  n := 2
  mono := fun s ⟨t, b, e, h, p⟩ => ⟨t, b, e, s _ _ h, p.mono s⟩
  dp := fun ⟨t, b, e, h, p⟩ => by
    subst e
    exact .tup (SqT.of h) (.cons (.int _) (.cons (.int _) (.cons (.int _) (.cons (.int _) (.cons (.int _) (.cons (.int _) (.cons (.int _) (.cons (.int _) (.cons (.lst p.sq (ints_dp _)) .nil)))))))))
  lay := fun {x} _ => by
    have e := cLi.lay (x := x.body) trivial
    simp only [cLi] at e
    simp only [PyData.canLay0, PyData.canLayAll0, Bool.true_and, Bool.and_true] at e ⊢
    exact e
  dep := fun l => by
    have e := cLi.dep l.body
    simp only [cLi] at e
    simp only [PyData.depth, PyData.depthAll] at e ⊢
    omega
/-- a unit; a track; a presentation; a unit with its body -/
abbrev Un' := Int × Int × List Int × Bool
abbrev Tr := Str × Str × List Un'
abbrev Pr := Int × Int × List Tr × List (Str × Str)
abbrev Bd := Int × Int × Int × List Int
abbrev Row3 := Str × Str × Int
abbrev HeadT := Int × Int × List Row3
abbrev Find := Int × Int × Leaf
def cUn : Cd Un' := c4 cI cI cLi cB
def cTr : Cd Tr := c3 cS cS (cL cUn)
def cTags : Cd (List (Str × Str)) := cL (c2 cS cS)
def cPr : Cd Pr := c4 cI cI (cL cTr) cTags
def cBd : Cd Bd := c4 cI cI cI cLi
def cRow3 : Cd Row3 := c3 cS cS cI
def cHead : Cd HeadT := c3 cI cI (cL cRow3)
def cFind : Cd Find := c3 cI cI cLeaf
def cPair : Cd (Int × Int) := c2 cI cI
def c3i : Cd (Int × Int × Int) := c3 cI cI cI
/-- two things of the same data are equal -/
theorem eqD_same {α : Type} {c : Cd α} {K : PySem.W.Frag} {H : Hp} {v u : V} {x : α} {Q : VK} (hv : c.R H v x) (hu : c.R H u x) (ok : c.ok x) (q : Q (.bl true) H) (hn : c.n ≤ 64 := by decide) : rEqD K v u H Q := by
  have s : SeqAt.shaped (c.d x) = true := by
    unfold SeqAt.shaped
    rw [c.lay ok, decide_eq_true (Nat.le_trans (c.dep x) hn)]
    rfl
  refine ⟨_, _, c.dp hv, c.dp hu, s, s, ?_⟩
  rw [SeqAt.eqv_refl _ (c.lay ok)]
  exact q
theorem neD_same {α : Type} {c : Cd α} {K : PySem.W.Frag} {H : Hp} {v u : V} {x : α} {Q : VK} (hv : c.R H v x) (hu : c.R H u x) (ok : c.ok x) (q : Q (.bl false) H) (hn : c.n ≤ 64 := by decide) : rNeD K v u H Q := by
  have s : SeqAt.shaped (c.d x) = true := by
    unfold SeqAt.shaped
    rw [c.lay ok, decide_eq_true (Nat.le_trans (c.dep x) hn)]
    rfl
  refine ⟨_, _, c.dp hv, c.dp hu, s, s, ?_⟩
  rw [SeqAt.eqv_refl _ (c.lay ok)]
  exact q
def fresh' (H H' : Hp) : Hp := fun a => match H a with
  | none => H' a
  | some _ => none
theorem fresh_sub (H H' : Hp) : Same (fresh' H H') H' := fun a o h => by
  unfold fresh' at h
  split at h
  · exact h
  · cases h
theorem fresh_del {H H' : Hp} {x : Addr} {o : HO} (hx : H x = some o) : Same (fresh' H H') (del H' x) := fun a u h => by
  unfold fresh' at h
  split at h
  · rename_i e
    rw [del_ne (fun z => by rw [z, hx] at e; cases e)]
    exact h
  · cases h
theorem fresh_mono {H H' H1 : Hp} (s : Same H' H1) : Same (fresh' H H') (fresh' H H1) := fun a u h => by
  unfold fresh' at h ⊢
  split at h
  · rename_i e
    exact s _ _ h
  · cases h
theorem fresh_of {H H' : Hp} {a : Addr} {o : HO} (h : H' a = some o) (n : H a = none) : fresh' H H' a = some o := by
  unfold fresh'
  rw [n]
  exact h
theorem fresh_trans {H H1 H2 : Hp} (s : Same H H1) : Same (fresh' H1 H2) (fresh' H H2) := fun a u h => by
  unfold fresh' at h ⊢
  split at h
  · rename_i e
    rw [s.free e]
    exact h
  · cases h
theorem del_upd {H : Hp} {x : Addr} {o : HO} : del (upd H x o) x = del H x := by
  funext a
  by_cases e : a = x
  · subst e
    rw [del_same, del_same]
  · rw [del_ne e, del_ne e, upd_ne e]
theorem del_mono {H H' : Hp} {x : Addr} (s : Same H H') : Same (del H x) (del H' x) := fun a o h => by
  by_cases e : a = x
  · subst e
    rw [del_same] at h
    cases h
  · rw [del_ne e] at h ⊢
    exact s _ _ h
theorem del_sub (H : Hp) (x : Addr) : Same (del H x) H := fun a o h => by
  by_cases e : a = x
  · subst e
    rw [del_same] at h
    cases h
  · rw [del_ne e] at h
    exact h
theorem del_of {H H' : Hp} {x : Addr} (s : Same H H') (n : H x = none) : Same H (del H' x) := fun a o h => by
  rw [del_ne (ne_of_none h n)]
  exact s _ _ h
theorem del_same' {H H' : Hp} {x : Addr} (s : Same (del H x) H') (hx : H' x = none) : Same (del H x) H' := s
end Sp
namespace Sp
open PySem PySem.Spec PyProof.Rows L2
abbrev Bytes (l : List Int) : Prop := ∀ x ∈ l, 0 ≤ x ∧ x ≤ 255
def putS (n : Nat) : List Int := if h : 127 < n then (128 + ((n % 128 : Nat) : Int)) :: putS (n / 128) else [(n : Int)]
termination_by n
decreasing_by omega
theorem putS_big {n : Nat} (h : 127 < n) : putS n = (128 + ((n % 128 : Nat) : Int)) :: putS (n / 128) := by rw [putS, dif_pos h]
theorem putS_small {n : Nat} (h : ¬ 127 < n) : putS n = [(n : Int)] := by rw [putS, dif_neg h]
theorem putS_bytes : ∀ n : Nat, Bytes (putS n) := by
  intro n
  induction n using Nat.strongRecOn with
  | _ n ih =>
    by_cases h : 127 < n
    · rw [putS_big h]
      intro x hx
      rcases List.mem_cons.mp hx with rfl | hx
      · omega
      · exact ih _ (by omega) x hx
    · rw [putS_small h]
      intro x hx
      rw [List.mem_singleton] at hx
      omega
theorem putS_len : ∀ (k n : Nat), n < 128 ^ (k + 1) → (putS n).length ≤ k + 1
  | 0, n, h => by rw [putS_small (by omega)]; simp
  | k + 1, n, h => by
    by_cases c : 127 < n
    · rw [putS_big c, List.length_cons]
      have := putS_len k (n / 128) (by rw [Nat.pow_succ] at h; omega)
      omega
    · rw [putS_small c]
      simp
theorem putS_pos (n : Nat) : 0 < (putS n).length := by
  by_cases h : 127 < n
  · rw [putS_big h]; simp
  · rw [putS_small h]; simp
theorem putS_len6 {n : Nat} (h : n < 1099511627776) : (putS n).length ≤ 6 := putS_len 5 n (Nat.lt_trans h (by decide))
def four (n : Nat) : List Int := [((n % 256 : Nat) : Int), ((n / 256 % 256 : Nat) : Int), ((n / 65536 % 256 : Nat) : Int), ((n / 16777216 % 256 : Nat) : Int)]
theorem four_bytes' (n : Nat) : Bytes (four n) := by
  intro x hx
  simp only [four, List.mem_cons, List.not_mem_nil, or_false] at hx
  omega
theorem four_len (n : Nat) : (four n).length = 4 := rfl
def crcStep (r : Int) : Int := if Builtin.bitAnd r 1 ≠ 0 then Builtin.bitXor (r / 2 ^ 1) 3988292384 else r / 2 ^ 1
def crcIt : Nat → Int → Int
  | 0, r => r
  | n + 1, r => crcIt n (crcStep r)
theorem crcIt_succ : ∀ (n : Nat) (r : Int), crcIt (n + 1) r = crcStep (crcIt n r)
  | 0, _ => rfl
  | n + 1, r => crcIt_succ n (crcStep r)
def crcByte (r v : Int) : Int := crcIt 8 (Builtin.bitXor r v)
def crcF (row : List Int) : Int := row.foldl crcByte 4294967295
def crc (row : List Int) : Int := Builtin.bitXor (crcF row) 4294967295
def W32 (r : Int) : Prop := 0 ≤ r ∧ r < 4294967296
theorem xor32 {a b : Int} (ha : W32 a) (hb : W32 b) : W32 (Builtin.bitXor a b) := by
  obtain ⟨a0, a1⟩ := ha
  obtain ⟨b0, b1⟩ := hb
  rw [Bits.bitXor_pp a0 b0]
  have : a.toNat ^^^ b.toNat < 2 ^ 32 := Nat.xor_lt_two_pow (by omega) (by omega)
  unfold W32
  omega
theorem crcStep32 {r : Int} (h : W32 r) : W32 (crcStep r) := by
  have h2 : W32 (r / 2 ^ 1) := by unfold W32 at h ⊢; omega
  unfold crcStep
  split
  · exact xor32 h2 (by unfold W32; omega)
  · exact h2
theorem crcIt32 : ∀ (n : Nat) {r : Int}, W32 r → W32 (crcIt n r)
  | 0, _, h => h
  | n + 1, _, h => crcIt32 n (crcStep32 h)
theorem crcF32 : ∀ (row : List Int) (r : Int), W32 r → Bytes row → W32 (row.foldl crcByte r)
  | [], _, h, _ => h
  | v :: row, r, h, hb => crcF32 row _ (crcIt32 8 (xor32 h (by have := hb v (by simp); unfold W32; omega))) fun x hx => hb x (by simp [hx])
theorem crc32 {row : List Int} (h : Bytes row) : W32 (crc row) := xor32 (crcF32 row _ (by unfold W32; omega) h) (by unfold W32; omega)
def stuffGo (block : List Int) : List Int → List Int
  | [] => ((block.length : Int) + 1) :: block
  | x :: xs => if x = 0 then (((block.length : Int) + 1) :: block) ++ stuffGo [] xs
    else if (block ++ [x]).length + 1 = 255 then (255 :: (block ++ [x])) ++ stuffGo [] xs else stuffGo (block ++ [x]) xs
def stuff (row : List Int) : List Int := stuffGo [] row
theorem stuff_split : ∀ (rem block : List Int), (∀ x ∈ block, x ≠ 0) → block.length < 254 → ∃ blk, (∀ x ∈ blk, x ≠ 0 ∧ (x ∈ block ∨ x ∈ rem)) ∧
    ((block ++ rem = blk ∧ blk.length < 254 ∧ stuffGo block rem = ((blk.length : Int) + 1) :: blk) ∨
     (∃ rem', block ++ rem = blk ++ 0 :: rem' ∧ (∀ x ∈ rem', x ∈ rem) ∧ rem'.length < rem.length ∧ blk.length < 254 ∧ stuffGo block rem = (((blk.length : Int) + 1) :: blk) ++ stuff rem') ∨
     (∃ rem', block ++ rem = blk ++ rem' ∧ (∀ x ∈ rem', x ∈ rem) ∧ rem'.length < rem.length ∧ blk.length = 254 ∧ stuffGo block rem = (255 :: blk) ++ stuff rem'))
  | [], block, h, hl => ⟨block, fun x hx => ⟨h x hx, .inl hx⟩, .inl ⟨by simp, hl, rfl⟩⟩
  | x :: rem, block, h, hl => by
    unfold stuffGo
    by_cases hx : x = 0
    · rw [if_pos hx]
      subst hx
      exact ⟨block, fun y hy => ⟨h y hy, .inl hy⟩, .inr (.inl ⟨rem, rfl, fun y hy => by simp [hy], by simp, hl, rfl⟩)⟩
    · rw [if_neg hx]
      by_cases hc : (block ++ [x]).length + 1 = 255
      · rw [if_pos hc]
        refine ⟨block ++ [x], fun y hy => ?_, .inr (.inr ⟨rem, by simp, fun y hy => by simp [hy], by simp, by omega, rfl⟩)⟩
        rcases List.mem_append.mp hy with hy | hy
        · exact ⟨h y hy, .inl hy⟩
        · rw [List.mem_singleton] at hy
          subst hy
          exact ⟨hx, .inr (by simp)⟩
      · rw [if_neg hc]
        have hn : ∀ y ∈ block ++ [x], y ≠ 0 := fun y hy => by
          rcases List.mem_append.mp hy with hy | hy
          · exact h y hy
          · rw [List.mem_singleton] at hy
            subst hy
            exact hx
        have hlen : (block ++ [x]).length = block.length + 1 := by simp
        obtain ⟨blk, h1, h2⟩ := stuff_split rem (block ++ [x]) hn (by omega)
        refine ⟨blk, fun y hy => ⟨(h1 y hy).1, ?_⟩, ?_⟩
        · rcases (h1 y hy).2 with z | z
          · rcases List.mem_append.mp z with z | z
            · exact .inl z
            · rw [List.mem_singleton] at z
              subst z
              exact .inr (by simp)
          · exact .inr (by simp [z])
        · have e : block ++ x :: rem = (block ++ [x]) ++ rem := by simp
          rw [e]
          rcases h2 with ⟨a, b, c⟩ | ⟨r', a, b, b', c, d⟩ | ⟨r', a, b, b', c, d⟩
          · exact .inl ⟨a, b, c⟩
          · exact .inr (.inl ⟨r', a, fun y hy => by simp [b y hy], by rw [List.length_cons]; omega, c, d⟩)
          · exact .inr (.inr ⟨r', a, fun y hy => by simp [b y hy], by rw [List.length_cons]; omega, c, d⟩)
theorem stuff_cases (rem : List Int) : ∃ blk, (∀ x ∈ blk, x ≠ 0 ∧ x ∈ rem) ∧
    ((rem = blk ∧ blk.length < 254 ∧ stuff rem = ((blk.length : Int) + 1) :: blk) ∨
     (∃ rem', rem = blk ++ 0 :: rem' ∧ (∀ x ∈ rem', x ∈ rem) ∧ rem'.length < rem.length ∧ blk.length < 254 ∧ stuff rem = (((blk.length : Int) + 1) :: blk) ++ stuff rem') ∨
     (∃ rem', rem = blk ++ rem' ∧ (∀ x ∈ rem', x ∈ rem) ∧ rem'.length < rem.length ∧ blk.length = 254 ∧ stuff rem = (255 :: blk) ++ stuff rem')) := by
  obtain ⟨blk, h1, h2⟩ := stuff_split rem [] (fun _ h => by cases h) (by decide)
  exact ⟨blk, fun x hx => ⟨(h1 x hx).1, (h1 x hx).2.resolve_left (fun z => by cases z)⟩, by simpa [stuff] using h2⟩
theorem stuff_facts : ∀ (n : Nat) (row : List Int), row.length ≤ n → Bytes row → (∀ x ∈ stuff row, 1 ≤ x ∧ x ≤ 255) ∧ 0 < (stuff row).length ∧ (stuff row).length ≤ 2 * row.length + 1 := by
  intro n
  induction n with
  | zero =>
    intro row h _
    have : row = [] := List.length_eq_zero_iff.mp (by omega)
    subst this
    exact ⟨fun x hx => by simp [stuff, stuffGo] at hx; omega, by simp [stuff, stuffGo], by simp [stuff, stuffGo]⟩
  | succ n ih =>
    intro row h hb
    obtain ⟨blk, h1, h2⟩ := stuff_cases row
    have hblk : ∀ x ∈ blk, 1 ≤ x ∧ x ≤ 255 := fun x hx => by
      have a := h1 x hx
      have b := hb x a.2
      omega
    rcases h2 with ⟨e, hl, hs⟩ | ⟨r, e, hm, hlen, hl, hs⟩ | ⟨r, e, hm, hlen, hl, hs⟩
    · rw [hs]
      refine ⟨fun x hx => ?_, by simp, by rw [e]; simp; omega⟩
      rcases List.mem_cons.mp hx with rfl | hx
      · omega
      · exact hblk x hx
    · obtain ⟨a, b, c⟩ := ih r (by omega) fun x hx => hb x (hm x hx)
      rw [hs]
      refine ⟨fun x hx => ?_, by simp, by rw [e]; simp; omega⟩
      rcases List.mem_append.mp hx with hx | hx
      · rcases List.mem_cons.mp hx with rfl | hx
        · omega
        · exact hblk x hx
      · exact a x hx
    · obtain ⟨a, b, c⟩ := ih r (by omega) fun x hx => hb x (hm x hx)
      rw [hs]
      refine ⟨fun x hx => ?_, by simp, by rw [e]; simp; omega⟩
      rcases List.mem_append.mp hx with hx | hx
      · rcases List.mem_cons.mp hx with rfl | hx
        · omega
        · exact hblk x hx
      · exact a x hx
structure Leaf.Wf (l : Leaf) : Prop where
  kind : 0 ≤ l.kind ∧ l.kind ≤ 4
  stamp : 0 ≤ l.stamp ∧ l.stamp ≤ 4294967295
  number : 0 ≤ l.number ∧ l.number ≤ 4294967295
  track : 0 ≤ l.track ∧ l.track ≤ 15
  ordinal : 0 ≤ l.ordinal ∧ l.ordinal ≤ 16777215
  time : 0 ≤ l.time ∧ l.time ≤ 1099511627775
  span : 0 ≤ l.span ∧ l.span ≤ 16777215
  key : 0 ≤ l.key ∧ l.key ≤ 1
  len : l.body.length ≤ 1024
  bytes : Bytes l.body
def hdr (l : Leaf) : List Int := [l.kind] ++ four l.stamp.toNat ++ four l.number.toNat ++ putS l.track.toNat ++ putS l.ordinal.toNat ++ putS l.time.toNat ++ putS l.span.toNat ++ [l.key] ++ putS l.body.length ++ l.body
def wr (l : Leaf) : List Int := hdr l ++ four (crc (hdr l)).toNat
theorem bytes_app {a b : List Int} (ha : Bytes a) (hb : Bytes b) : Bytes (a ++ b) := fun x hx => (List.mem_append.mp hx).elim (ha x) (hb x)
theorem hdr_bytes {l : Leaf} (h : l.Wf) : Bytes (hdr l) := by
  have one : ∀ z : Int, 0 ≤ z → z ≤ 255 → Bytes [z] := fun z h1 h2 x hx => by
    rw [List.mem_singleton] at hx
    subst hx
    exact ⟨h1, h2⟩
  have k := h.kind; have y := h.key
  exact bytes_app (bytes_app (bytes_app (bytes_app (bytes_app (bytes_app (bytes_app (bytes_app (bytes_app (one _ (by omega) (by omega)) (four_bytes' _)) (four_bytes' _)) (putS_bytes _)) (putS_bytes _)) (putS_bytes _)) (putS_bytes _)) (one _ (by omega) (by omega))) (putS_bytes _)) h.bytes
theorem wr_bytes {l : Leaf} (h : l.Wf) : Bytes (wr l) := bytes_app (hdr_bytes h) (four_bytes' _)
theorem hdr_len {l : Leaf} (h : l.Wf) : (hdr l).length ≤ 1064 := by
  have a := h.track; have b := h.ordinal; have c := h.time; have d := h.span; have e := h.len
  have p1 := putS_len6 (n := l.track.toNat) (by omega)
  have p2 := putS_len6 (n := l.ordinal.toNat) (by omega)
  have p3 := putS_len6 (n := l.time.toNat) (by omega)
  have p4 := putS_len6 (n := l.span.toNat) (by omega)
  have p5 := putS_len6 (n := l.body.length) (by omega)
  simp only [hdr, List.length_append, List.length_cons, List.length_nil, four_len]
  omega
theorem wr_len {l : Leaf} (h : l.Wf) : (wr l).length ≤ 1068 := by
  have := hdr_len h
  simp only [wr, List.length_append, four_len]
  omega
def piece (l : Leaf) : List Int := stuff (wr l)
theorem piece_in {l : Leaf} (h : l.Wf) : ∀ x ∈ piece l, 1 ≤ x ∧ x ≤ 255 := (stuff_facts _ _ (Nat.le_refl _) (wr_bytes h)).1
theorem piece_pos {l : Leaf} (h : l.Wf) : 0 < (piece l).length := (stuff_facts _ _ (Nat.le_refl _) (wr_bytes h)).2.1
theorem piece_len {l : Leaf} (h : l.Wf) : (piece l).length ≤ 2137 := by
  have a := (stuff_facts _ _ (Nat.le_refl _) (wr_bytes h)).2.2
  have b := wr_len h
  show (stuff (wr l)).length ≤ _
  omega
/-- a row of segments without zeros, a zero ahead and behind each -/
def segs (ss : List (List Int)) : List Int := 0 :: ss.flatMap fun s => s ++ [0]
def encF (ls : List Leaf) : List Int := segs (ls.map piece)
theorem segs_snoc (ss : List (List Int)) (s : List Int) : segs (ss ++ [s]) = segs ss ++ (s ++ [0]) := by simp [segs]
theorem segs_cat (a b : List (List Int)) : segs a ++ segs b = segs (a ++ [[]] ++ b) := by simp [segs]
theorem encF_snoc (ls : List Leaf) (l : Leaf) : encF (ls ++ [l]) = encF ls ++ (piece l ++ [0]) := by
  unfold encF
  rw [List.map_append, List.map_cons, List.map_nil, segs_snoc]
end Sp
namespace Sp
open PySem PySem.Spec PyProof.Rows L2
/-- with how many items two lists begin alike, at most n -/
def alike : List Int → List Int → Nat → Nat
  | x :: xs, y :: ys, n + 1 => if x = y then alike xs ys n + 1 else 0
  | _, _, _ => 0
theorem alike_step {xs ys : List Int} {i n : Nat} {x y : Int} (hi : i < n) (hx : xs[i]? = some x) (hy : ys[i]? = some y) :
    alike (xs.drop i) (ys.drop i) (n - i) = if x = y then alike (xs.drop (i + 1)) (ys.drop (i + 1)) (n - (i + 1)) + 1 else 0 := by
  obtain ⟨h1, e1⟩ := List.getElem?_eq_some_iff.mp hx
  obtain ⟨h2, e2⟩ := List.getElem?_eq_some_iff.mp hy
  rw [List.drop_eq_getElem_cons h1, List.drop_eq_getElem_cons h2, e1, e2, show n - i = (n - (i + 1)) + 1 by omega]
  rfl
def spAlike : Sp := fun vs H Q _ => ∃ (a b : Addr) (xs ys : List Int) (n : Nat), vs = [.ref a, .ref b, .int n] ∧ Li H a xs ∧ Li H b ys ∧ n ≤ xs.length ∧ n ≤ ys.length ∧ Q (.int (alike xs ys n : Nat)) H
section
variable {P : Program} {w : World} {K : PySem.W.Frag} {mg : Str → Option Value} {base : Heap}
theorem ok_alike (T : Txt K mg) : FnOk P w K mg base CX0 1 (ga K "alike") (fdAt K (ga K "alike")) ["old", "new", "most"] spAlike := by
  refine okD T.F_alike sc_alike (fun vs H Q E h => ?_) (fun cdv A outer s H vs Q E hr h => ?_)
  · obtain ⟨a, b, xs, ys, n, rfl, _⟩ := h
    rfl
  obtain ⟨a, b, xs, ys, n, rfl, ha, hb, h1, h2, k⟩ := h
  have nd := sc_alike.nd
  refine ⟨_, (pss_cons (ps_set (i := 3) nd rfl (Or.inl rfl) pe_int)
      (pss_cons (ps_while PassesOwn.never (PW.pt (pw_and (pt_cmpR op_lt (pv 3) (pv 2) (nomark _)) (pw_and1 (pt_cmpR op_eq (pe_ix ix_list (pv 0) (pv 3) (fun _ _ => rfl)) (pe_ix ix_list (pv 1) (pv 3) (fun _ _ => rfl)) (nomark _))))) (pss_one (ps_set (i := 3) nd rfl (Or.inl rfl) (pe_op op_add (pv 3) pe_int))))
      (pss_one (ps_ret (pv 3))))), ?_⟩
  refine ⟨fun m σ H' => H' = H ∧ ∃ i : Nat, m = n - i ∧ i ≤ n ∧ alike xs ys n = i + alike (xs.drop i) (ys.drop i) (n - i) ∧ σ = [some (.ref a), some (.ref b), some (.int n), some (.int i)], ⟨_, rfl, 0, rfl, Nat.zero_le _, by simp, rfl⟩, ?_⟩
  rintro m σ H' ⟨rfl, i, rfl, hi, e, rfl⟩
  refine ⟨_, rfl, _, rfl, _, _, rfl, rfl, _, rfl, ?_⟩
  by_cases c : i < n
  · rw [decide_eq_true (show (i : Int) < n by omega)]
    obtain ⟨x, hx⟩ : ∃ x, xs[i]? = some x := ⟨_, List.getElem?_eq_getElem (by omega)⟩
    obtain ⟨y, hy⟩ : ∃ y, ys[i]? = some y := ⟨_, List.getElem?_eq_getElem (by omega)⟩
    rw [alike_step c hx hy] at e
    refine iteT ⟨_, rfl, _, rfl, _, _, _, _, rfl, rfl, ha.sq, Li.at hx, _, rfl, _, rfl, _, _, _, _, rfl, rfl, hb.sq, Li.at hy, rfl, _, rfl, ?_⟩
    by_cases d : x = y
    · subst d
      rw [if_pos rfl] at e
      rw [decide_eq_true rfl]
      refine iteT ⟨_, fun _ _ h => h, ?_⟩
      refine ⟨_, rfl, _, _, rfl, rfl, n - (i + 1), by omega, rfl, i + 1, rfl, c, by omega, rfl⟩
    · rw [if_neg d] at e
      rw [decide_eq_false (fun z => d (V.int.inj z))]
      refine iteF ⟨_, rfl, ?_⟩
      rw [e] at k
      exact k
  · rw [decide_eq_false (show ¬ (i : Int) < n by omega)]
    refine iteF (iteF ⟨_, rfl, ?_⟩)
    obtain rfl : i = n := by omega
    rw [e] at k
    simpa [alike] using k
end
end Sp
namespace Sp
open PySem PySem.Spec PyProof.Rows L2
theorem ifT {c : Bool} {A B : Prop} (h : c = true) (a : A) : if c = true then A else B := by rw [if_pos h]; exact a
theorem ifF {c : Bool} {A B : Prop} (h : c = false) (b : B) : if c = true then A else B := by rw [h, if_neg Bool.false_ne_true]; exact b
theorem yT {p : Prop} {i : Decidable p} {A B : Prop} (h : p) (a : A) : if @decide p i = true then A else B := by rw [if_pos (decide_eq_true h)]; exact a
theorem yF {p : Prop} {i : Decidable p} {A B : Prop} (h : ¬ p) (b : B) : if @decide p i = true then A else B := by rw [decide_eq_false h, if_neg Bool.false_ne_true]; exact b
theorem nT {p : Prop} {i : Decidable p} {A B : Prop} (h : ¬ p) (a : A) : if (!@decide p i) = true then A else B := by rw [decide_eq_false h]; exact a
theorem nF {p : Prop} {i : Decidable p} {A B : Prop} (h : p) (b : B) : if (!@decide p i) = true then A else B := by rw [decide_eq_true h]; exact b
theorem nt {A B : Prop} (b : B) : if (!true) = true then A else B := b
theorem bl_t {p : Prop} {i : Decidable p} (h : p) : @decide p i = true := decide_eq_true h
theorem bl_f {p : Prop} {i : Decidable p} (h : ¬ p) : @decide p i = false := decide_eq_false h
theorem nb_t {p : Prop} {i : Decidable p} (h : ¬ p) : (!@decide p i) = true := by rw [decide_eq_false h]; rfl
theorem nb_f {p : Prop} {i : Decidable p} (h : p) : (!@decide p i) = false := by rw [decide_eq_true h]; rfl
/-- a new list of ints is handed back -/
abbrev RL (H : Hp) (Q : VK) (xs : List Int) : Prop := ∀ (p : Addr) (H' : Hp), Same H H' → H p = none → Li H' p xs → Q (.ref p) H'
theorem and127 (n : Nat) : Builtin.bitAnd (n : Int) 127 = ((n % 128 : Nat) : Int) := by
  have := Bits.bitAnd_mask (x := (n : Int)) 7 (by omega)
  rw [show (2 : Int) ^ 7 - 1 = 127 by decide] at this
  rw [this]
  omega
theorem shr7 (n : Nat) : (n : Int) / 2 ^ (7 : Int).toNat = ((n / 128 : Nat) : Int) := by
  show (n : Int) / 2 ^ 7 = _
  omega
theorem lsz {n : Nat} (h : n ≤ 1000000) : n ≤ sizeLine := by rw [sizeLine_eq]; omega
theorem lsz' {n : Nat} (h : n ≤ 1000000) : n < sizeLine := by rw [sizeLine_eq]; omega
theorem mapsnoc (xs : List Int) (x : Int) : xs.map V.int ++ [V.int x] = (xs ++ [x]).map V.int := by simp
def spPut : Sp := fun vs H Q _ => ∃ n : Nat, vs = [.int n] ∧ n < 1099511627776 ∧ RL H Q (putS n)
section
variable {P : Program} {w : World} {K : PySem.W.Frag} {mg : Str → Option Value} {base : Heap}
theorem ok_put_steps (T : Txt K mg) : FnOk P w K mg base CX0 1 (ga K "put_steps") (fdAt K (ga K "put_steps")) ["number"] spPut := by
  refine okD T.F_put_steps sc_put_steps (fun vs H Q E h => ?_) (fun cdv A outer s H vs Q E hr h => ?_)
  · obtain ⟨n, rfl, _⟩ := h
    rfl
  obtain ⟨n, rfl, hn, k⟩ := h
  have nd := sc_put_steps.nd
  refine ⟨_, ((pss_cons (ps_if (pt_notC (pt_chain op_le op_lt pe_int (pv 0) (pe_gint T.i_BOUND))) (pss_one ps_never) pss_nil)
      (pss_cons (ps_set (i := 1) nd rfl (Or.inl rfl) (pe_lst pa_nil))
      (pss_cons (ps_while PassesOwn.never (pt_cmpR op_gt (pv 0) pe_int (nomark _)) (pss_cons (ps_expr (pe_bm PySem.F.plainAttrs_list PySem.F.slot_list_append PySem.F.type_list_append mt_append (pv 1) (pa_cons (pe_op op_add pe_int (pe_op op_and (pv 0) pe_int)) pa_nil)))
        (pss_one (ps_set (i := 0) nd rfl (Or.inl rfl) (pe_op op_shr (pv 0) pe_int)))))
      (pss_cons (ps_expr (pe_bm PySem.F.plainAttrs_list PySem.F.slot_list_append PySem.F.type_list_append mt_append (pv 1) (pa_cons (pv 0) pa_nil)))
      (pss_one (ps_ret (pv 1)))))))), ?_⟩
  refine ⟨_, rfl, _, _, rfl, rfl, _, rfl, yT (by omega) ⟨_, _, rfl, rfl, _, rfl, ?_⟩⟩
  have hh : (n : Int) < 1099511627776 := by omega
  refine yT ?_ ?_
  · exact hh
  refine iteF ⟨Nat.zero_le _, fun p hp => ?_⟩
  refine ⟨fun m σ H' => ∃ (r : Nat) (acc : List Int), m = r + 1 ∧ σ = [some (.int r), some (.ref p)] ∧ acc ++ putS r = putS n ∧ H' = upd H p (.lst (acc.map V.int)), ⟨_, n, [], rfl, rfl, rfl, rfl⟩, ?_⟩
  rintro m σ H' ⟨r, acc, rfl, rfl, e, rfl⟩
  have hl : acc.length ≤ 6 := by
    have := putS_len6 hn
    rw [← e, List.length_append] at this
    omega
  refine ⟨_, rfl, _, _, rfl, rfl, _, rfl, ?_⟩
  by_cases c : 127 < r
  · refine yT (by omega) ⟨_, fun _ _ h => h, ?_⟩
    rw [putS_big c] at e
    refine ⟨_, rfl, .inl ⟨rfl, _, SqL.of upd_same⟩, _, rfl, _, _, rfl, rfl, _, _, rfl, rfl, p, _, _, rfl, rfl, upd_same, lsz' (by simp; omega), ?_⟩
    refine ⟨_, rfl, _, _, rfl, rfl, (by show (0 : Int) ≤ 7; decide), r / 128 + 1, by omega, r / 128, acc ++ [128 + ((r % 128 : Nat) : Int)], rfl, ?_, by simpa using e, ?_⟩
    · show [some (V.int ((r : Int) / 2 ^ (7 : Int).toNat)), some (V.ref p)] = _
      rw [shr7]
    · rw [upd_upd, and127, mapsnoc]
  · refine yF (by omega) ?_
    rw [putS_small c] at e
    refine ⟨_, rfl, .inl ⟨rfl, _, SqL.of upd_same⟩, _, rfl, p, _, _, rfl, rfl, upd_same, lsz' (by simp; omega), _, rfl, ?_⟩
    refine k p _ ?_ hp ?_
    · rw [upd_upd]
      exact Same.new hp
    · rw [mapsnoc, e]
      exact upd_same
theorem take_snoc {α : Type} {l : List α} {i : Nat} {x : α} (h : l[i]? = some x) : l.take (i + 1) = l.take i ++ [x] := by
  rw [List.take_add_one, h]
  rfl
theorem int_at {xs : List Int} {i : Nat} {y : V} (h : (xs.map V.int)[i]? = some y) : ∃ z, xs[i]? = some z ∧ y = V.int z := by
  rw [List.getElem?_map] at h
  cases e : xs[i]? with
  | none => rw [e] at h; cases h
  | some z => rw [e] at h; exact ⟨z, rfl, (Option.some.inj h).symm⟩
theorem lt_of_at {α : Type} {xs : List α} {i : Nat} {z : α} (h : xs[i]? = some z) : i < xs.length := (List.getElem?_eq_some_iff.mp h).1
def spCrc : Sp := fun vs H Q _ => ∃ (a : Addr) (xs : List Int), vs = [.ref a] ∧ Li H a xs ∧ Q (.int (crc xs)) H
theorem ok_checksum (T : Txt K mg) : FnOk P w K mg base CX0 1 (ga K "checksum") (fdAt K (ga K "checksum")) ["row"] spCrc := by
  refine okD T.F_checksum sc_checksum (fun vs H Q E h => ?_) (fun cdv A outer s H vs Q E hr h => ?_)
  · obtain ⟨a, xs, rfl, _⟩ := h
    rfl
  obtain ⟨a, xs, rfl, ha, k⟩ := h
  have nd := sc_checksum.nd
  refine ⟨_, ((pss_cons (ps_set (i := 1) nd rfl (Or.inl rfl) (pe_gint T.i_FULL))
      (pss_cons (ps_for PassesOwn.never rfl (pi_list (pv 0)) (pg_name (i := 2) nd rfl (Or.inl rfl)) (pss_cons (ps_set (i := 1) nd rfl (Or.inl rfl) (pe_op op_xor (pv 1) (pv 2)))
        (pss_one (ps_for PassesOwn.never rfl (pi_range1 rfl T.n_range (pa_cons pe_int pa_nil)) (pg_name (i := 3) nd rfl (Or.inl rfl)) (pss_one (ps_if (pt_truth (pe_op op_and (pv 1) pe_int) (by intro _; rfl)) (pss_one (ps_set (i := 1) nd rfl (Or.inl rfl) (pe_op op_xor (pe_op op_shr (pv 1) pe_int) (pe_gint T.i_POLYNOMIAL)))) (pss_one (ps_set (i := 1) nd rfl (Or.inl rfl) (pe_op op_shr (pv 1) pe_int)))))))))
      (pss_one (ps_ret (pe_op op_xor (pv 1) (pe_gint T.i_FULL))))))), ?_⟩
  refine ⟨_, rfl, a, rfl, ⟨_, ha.sq⟩, for_list (K := K) (a := a) (xs := xs.map V.int) (fun i σ H' => ∃ v u : Option V, H' = H ∧ σ = [some (.ref a), some (.int ((xs.take i).foldl crcByte 4294967295)), v, u])
    ⟨none, none, rfl, rfl⟩ (fun i σ H' _ ⟨_, _, e, _⟩ => by rw [e]; exact ha.sq) ?_ ?_⟩
  · rintro i y σ H' hi ⟨v, u, rfl, rfl⟩
    obtain ⟨z, hz, rfl⟩ := int_at hi
    refine ⟨_, rfl, _, rfl, _, _, rfl, rfl, 8, rfl, by decide, by decide, for_range (n := 8) (fun j σ H'' => ∃ u : Option V, H'' = H' ∧ σ = [some (.ref a), some (.int (crcIt j (Builtin.bitXor ((xs.take i).foldl crcByte 4294967295) z))), some (.int z), u]) ⟨u, rfl, rfl⟩ ?_ ?_⟩
    · rintro j σ H'' hj ⟨u, rfl, rfl⟩
      refine ⟨_, rfl, _, _, rfl, rfl, _, rfl, ?_⟩
      generalize hr : crcIt j (Builtin.bitXor ((xs.take i).foldl crcByte 4294967295) z) = r
      by_cases c : Builtin.bitAnd r 1 = 0
      · refine ifF (by rw [c] <;> rfl) ⟨_, rfl, _, _, rfl, rfl, (by show (0 : Int) ≤ 1; decide), some (.int (0 + (j : Int))), rfl, ?_⟩
        rw [crcIt_succ, hr, crcStep, if_neg (by simpa using c)]
        rfl
      · refine ifT (bne_iff_ne.mpr c) ⟨_, rfl, _, _, rfl, rfl, (by show (0 : Int) ≤ 1; decide), _, _, rfl, rfl, some (.int (0 + (j : Int))), rfl, ?_⟩
        rw [crcIt_succ, hr, crcStep, if_pos c]
        rfl
    · rintro σ H'' ⟨u, rfl, rfl⟩
      refine ⟨some (.int z), u, rfl, ?_⟩
      rw [take_snoc hz, List.foldl_append]
      rfl
  · rintro σ H' ⟨v, u, rfl, rfl⟩
    rw [List.length_map, List.take_length]
    exact ⟨_, rfl, _, _, rfl, rfl, k⟩
theorem four_at (n i : Nat) : Builtin.bitAnd ((n : Int) / 2 ^ (8 * (0 + (i : Int))).toNat) 255 = ((n / 256 ^ i % 256 : Nat) : Int) := by
  have e : (8 * (0 + (i : Int))).toNat = 8 * i := by omega
  have e2 : (2 : Int) ^ (8 * i) = ((256 ^ i : Nat) : Int) := by
    rw [Int.pow_mul]
    norm_cast
  have := Bits.bitAnd_mask (x := (n : Int) / ((256 ^ i : Nat) : Int)) 8 (Int.ediv_nonneg (by omega) (Int.natCast_nonneg _))
  rw [show (2 : Int) ^ 8 - 1 = 255 by decide] at this
  rw [e, e2, this, ← Int.natCast_ediv]
  omega
def spFour : Sp := fun vs H Q _ => ∃ n : Nat, vs = [.int n] ∧ RL H Q (four n)
theorem ok_four_bytes (T : Txt K mg) : FnOk P w K mg base CX0 1 (ga K "four_bytes") (fdAt K (ga K "four_bytes")) ["number"] spFour := by
  refine okD T.F_four_bytes sc_four_bytes (fun vs H Q E h => ?_) (fun cdv A outer s H vs Q E hr h => ?_)
  · obtain ⟨n, rfl, _⟩ := h
    rfl
  obtain ⟨n, rfl, k⟩ := h
  have nd := sc_four_bytes.nd
  refine ⟨_, ((pss_one (ps_ret (pe_lc (own := [("k", 1)]) rfl nd (pi_range1 rfl T.n_range (pa_cons pe_int pa_nil)) (blkOk_by (N := N_four_bytes) (sc := defScope s_four_bytes) (by decide +kernel)) (fun _ _ _ _ _ => (pg_name (i := 1) nd rfl (Or.inl rfl))) (fun _ _ _ _ _ => pts_nil) (fun _ _ _ _ _ => (pe_op op_and (pe_op op_shr (pv 0) (pe_op op_mul pe_int (pv 1))) pe_int)))))), ?_⟩
  refine ⟨4, rfl, by decide, by decide, fun D hD => lc_range (lo := 0) (n := 4) (fun i H' => H' = upd H D (.lst (((List.range i).map fun j => ((n / 256 ^ j % 256 : Nat) : Int)).map V.int))) rfl ?_ ?_⟩
  · rintro i H' hi rfl
    refine ⟨rfl, _, rfl, _, rfl, _, _, rfl, rfl, .inl ⟨by decide, by decide⟩, _, _, rfl, rfl, by omega, _, _, rfl, rfl, _, upd_same, lsz' (by simp; omega), ?_⟩
    rw [upd_upd]
    dsimp only
    rw [four_at, List.range_succ, List.map_append, List.map_append]
    rfl
  · rintro H' rfl
    refine k D _ (Same.new hD) hD ?_
    have : (List.range 4).map (fun j => ((n / 256 ^ j % 256 : Nat) : Int)) = four n := by simp [List.range_succ, four]
    rw [this]
    exact upd_same
def spNum : Sp := fun vs H Q _ => ∃ (a : Addr) (n : Nat), vs = [.ref a] ∧ n < 4294967296 ∧ Li H a (four n) ∧ Q (.int n) H
theorem ok_number_of (T : Txt K mg) : FnOk P w K mg base CX0 1 (ga K "number_of") (fdAt K (ga K "number_of")) ["row"] spNum := by
  refine okD T.F_number_of sc_number_of (fun vs H Q E h => ?_) (fun cdv A outer s H vs Q E hr h => ?_)
  · obtain ⟨a, n, rfl, _⟩ := h
    rfl
  obtain ⟨a, n, rfl, hn, ha, k⟩ := h
  have nd := sc_number_of.nd
  refine ⟨_, ((pss_one (ps_ret (pe_op op_add (pe_op op_add (pe_op op_add (pe_ix (ixL_ K rfl) (pv 0) pe_int (fun _ _ => rfl)) (pe_op op_shl (pe_ix (ixL_ K rfl) (pv 0) pe_int (fun _ _ => rfl)) pe_int)) (pe_op op_shl (pe_ix (ixL_ K rfl) (pv 0) pe_int (fun _ _ => rfl)) pe_int)) (pe_op op_shl (pe_ix (ixL_ K rfl) (pv 0) pe_int (fun _ _ => rfl)) pe_int))))), ?_⟩
  have p8 : CPow ((n / 256 % 256 : Nat) : Int) 8 := ⟨by decide, by decide, by omega⟩
  have p16 : CPow ((n / 65536 % 256 : Nat) : Int) 16 := ⟨by decide, by decide, by omega⟩
  have p24 : CPow ((n / 16777216 % 256 : Nat) : Int) 24 := ⟨by decide, by decide, by omega⟩
  refine ⟨_, rfl, _, _, _, _, rfl, rfl, ha.sq, Li.at (i := 0) rfl, _, rfl, _, _, _, _, rfl, rfl, ha.sq, Li.at (i := 1) rfl, _, _, rfl, rfl, p8, _, _, rfl, rfl,
    _, rfl, _, _, _, _, rfl, rfl, ha.sq, Li.at (i := 2) rfl, _, _, rfl, rfl, p16, _, _, rfl, rfl, _, rfl, _, _, _, _, rfl, rfl, ha.sq, Li.at (i := 3) rfl, _, _, rfl, rfl, p24, _, _, rfl, rfl, ?_⟩
  have e : ((n % 256 : Nat) : Int) + ((n / 256 % 256 : Nat) : Int) * 2 ^ (8 : Int).toNat + ((n / 65536 % 256 : Nat) : Int) * 2 ^ (16 : Int).toNat + ((n / 16777216 % 256 : Nat) : Int) * 2 ^ (24 : Int).toNat = (n : Int) := by
    show ((n % 256 : Nat) : Int) + ((n / 256 % 256 : Nat) : Int) * 2 ^ 8 + ((n / 65536 % 256 : Nat) : Int) * 2 ^ 16 + ((n / 16777216 % 256 : Nat) : Int) * 2 ^ 24 = (n : Int)
    omega
  show Q (.int _) H
  rw [e]
  exact k
end
end Sp
namespace Sp
open PySem PySem.Spec PyProof.Rows L2
section
variable {P : Program} {w : World} {K : PySem.W.Frag} {mg : Str → Option Value} {base : Heap}
def spStuff : Sp := fun vs H Q _ => ∃ (a : Addr) (xs : List Int), vs = [.ref a] ∧ Li H a xs ∧ Bytes xs ∧ xs.length ≤ 100000 ∧ RL H Q (stuff xs)
theorem stuffGo_len : ∀ (xs b : List Int), b.length ≤ (stuffGo b xs).length
  | [], b => by simp [stuffGo]
  | x :: xs, b => by
    unfold stuffGo
    split
    · simp; omega
    · split
      · simp; omega
      · have := stuffGo_len xs (b ++ [x])
        simp at this
        omega
theorem ok_stuff (T : Txt K mg) : FnOk P w K mg base CX0 1 (ga K "stuff") (fdAt K (ga K "stuff")) ["row"] spStuff := by
  refine okD T.F_stuff sc_stuff (fun vs H Q E h => ?_) (fun cdv A outer s H vs Q E hr h => ?_)
  · obtain ⟨a, xs, rfl, _⟩ := h
    rfl
  obtain ⟨a, xs, rfl, ha, hb, hlen, k⟩ := h
  have nd := sc_stuff.nd
  have hs := (stuff_facts _ xs (Nat.le_refl _) hb).2.2
  refine ⟨_, ((pss_cons (ps_set (i := 1) nd rfl (Or.inl rfl) (pe_lst pa_nil))
      (pss_cons (ps_set (i := 2) nd rfl (Or.inl rfl) (pe_lst pa_nil))
      (pss_cons (ps_for PassesOwn.never rfl (pi_list (pv 0)) (pg_name (i := 3) nd rfl (Or.inl rfl)) (pss_one (ps_if (pt_cmpR op_eq (pv 3) pe_int (nomark _)) (pss_cons (ps_expr (pe_bm PySem.F.plainAttrs_list PySem.F.slot_list_extend PySem.F.type_list_extend mt_extend (pv 1) (pa_cons (pe_lst (pa_cons (pe_op op_add (pe_callB (lenS_ K rfl) rfl T.n_len boot_len (pa_cons (pv 2) pa_nil)) pe_int) (StX.pa_star (pv 2) pa_nil))) pa_nil)))
          (pss_one (ps_set (i := 2) nd rfl (Or.inl rfl) (pe_lst pa_nil)))) (pss_cons (ps_expr (pe_bm PySem.F.plainAttrs_list PySem.F.slot_list_append PySem.F.type_list_append mt_append (pv 2) (pa_cons (pv 3) pa_nil)))
          (pss_one (ps_if (pt_cmpR op_eq (pe_op op_add (pe_callB (lenS_ K rfl) rfl T.n_len boot_len (pa_cons (pv 2) pa_nil)) pe_int) (pe_gint T.i_FULL_BLOCK) (nomark _)) (pss_cons (ps_expr (pe_bm PySem.F.plainAttrs_list PySem.F.slot_list_extend PySem.F.type_list_extend mt_extend (pv 1) (pa_cons (pe_lst (pa_cons (pe_gint T.i_FULL_BLOCK) (StX.pa_star (pv 2) pa_nil))) pa_nil)))
            (pss_one (ps_set (i := 2) nd rfl (Or.inl rfl) (pe_lst pa_nil)))) pss_nil))))))
      (pss_one (ps_ret (pe_lst (StX.pa_star (pv 1) (pa_cons (pe_op op_add (pe_callB (lenS_ K rfl) rfl T.n_len boot_len (pa_cons (pv 2) pa_nil)) pe_int) (StX.pa_star (pv 2) pa_nil)))))))))), ?_⟩
  refine ⟨Nat.zero_le _, fun p hp => ⟨Nat.zero_le _, fun q hq => ?_⟩⟩
  have npq : p ≠ q := fun e => by rw [e, upd_same] at hq; cases hq; 
  refine ⟨_, rfl, a, rfl, ⟨_, SqL.of (upd_keep (upd_keep ha hp) hq)⟩, for_list (K := K) (a := a) (xs := xs.map V.int) (fun i σ H' => ∃ (q : Addr) (v : Option V) (out blk : List Int), σ = [some (.ref a), some (.ref p), some (.ref q), v] ∧ Same H H' ∧ H q = none ∧ p ≠ q ∧ Li H' p out ∧ Li H' q blk ∧ out ++ stuffGo blk (xs.drop i) = stuff xs ∧ blk.length < 254)
    ⟨q, none, [], [], rfl, (Same.new hp).add hq, (Same.new hp).free hq, npq, upd_keep upd_same hq, upd_same, rfl, by decide⟩ (fun i σ H' _ ⟨_, _, _, _, _, s, _⟩ => (ha.mono s).sq) ?_ ?_⟩
  · rintro i y σ H' hi ⟨q, v, out, blk, rfl, s, nq, npq, hP, hQ, e, hbl⟩
    obtain ⟨z, hz, rfl⟩ := int_at hi
    have hd : xs.drop i = z :: xs.drop (i + 1) := by
      obtain ⟨h1, h2⟩ := List.getElem?_eq_some_iff.mp hz
      rw [List.drop_eq_getElem_cons h1, h2]
    rw [hd, stuffGo] at e
    have ho : out.length ≤ 200001 := by
      have := congrArg List.length e
      rw [List.length_append] at this
      omega
    refine ⟨_, rfl, rfl, _, rfl, ?_⟩
    by_cases c : z = 0
    · subst c
      rw [if_pos rfl] at e
      refine ifT (bl_t rfl) ⟨_, rfl, .inl ⟨rfl, _, hP.sq⟩, _, rfl, _, _, rfl, .inl hQ.sq, _, _, rfl, rfl, _, rfl, _, _, rfl, .inr hQ.sq, lsz (by simp; omega), fun r hr => ?_⟩
      have npr : p ≠ r := ne_of_none hP hr
      refine ⟨p, r, _, _, rfl, rfl, upd_keep hP hr, upd_same, lsz (by simp; omega), Nat.zero_le _, fun q2 hq2 => ?_⟩
      have hq2' : q2 ≠ p := fun z => by rw [z, upd_same] at hq2; cases hq2
      refine ⟨q2, _, out ++ (((blk.length : Int) + 1) :: blk), [], rfl, ((s.add hr).mut hp).add hq2, ((s.add hr).mut hp).free hq2, hq2'.symm, ?_, upd_same, by rw [List.append_assoc]; exact e, by decide⟩
      show upd _ q2 _ p = _
      rw [upd_ne hq2'.symm, upd_same]
      simp
    · rw [if_neg c] at e
      refine ifF (bl_f (fun z => c (V.int.inj z))) ⟨_, rfl, .inl ⟨rfl, _, hQ.sq⟩, _, rfl, q, _, _, rfl, rfl, hQ, lsz' (by simp; omega), ?_⟩
      rw [mapsnoc]
      have hQ2 : Li (upd H' q (.lst ((blk ++ [z]).map V.int))) q (blk ++ [z]) := upd_same
      have hP2 : Li (upd H' q (.lst ((blk ++ [z]).map V.int))) p out := by show upd _ q _ p = _; rw [upd_ne npq]; exact hP
      have s2 : Same H (upd H' q (.lst ((blk ++ [z]).map V.int))) := s.mut nq
      have hlen2 : (blk ++ [z]).length = blk.length + 1 := by simp
      refine ⟨_, rfl, _, _, rfl, .inl hQ2.sq, _, _, rfl, rfl, rfl, _, rfl, ?_⟩
      by_cases d : (blk ++ [z]).length + 1 = 255
      · rw [if_pos d] at e
        have d' : (((blk ++ [z]).map V.int).length : Int) + 1 = 255 := by rw [List.length_map]; omega
        refine ifT (bl_t (congrArg V.int d')) ⟨_, rfl, .inl ⟨rfl, _, hP2.sq⟩, _, rfl, _, _, rfl, .inr hQ2.sq, lsz (by simp; omega), fun r hr => ?_⟩
        have npr : p ≠ r := ne_of_none hP2 hr
        refine ⟨p, r, _, _, rfl, rfl, upd_keep hP2 hr, upd_same, lsz (by simp; omega), Nat.zero_le _, fun q2 hq2 => ?_⟩
        have hq2' : q2 ≠ p := fun z => by rw [z, upd_same] at hq2; cases hq2
        refine ⟨q2, _, out ++ (255 :: (blk ++ [z])), [], rfl, ((s2.add hr).mut hp).add hq2, ((s2.add hr).mut hp).free hq2, hq2'.symm, ?_, upd_same, by rw [List.append_assoc]; exact e, by decide⟩
        show upd _ q2 _ p = _
        rw [upd_ne hq2'.symm, upd_same]
        simp
      · rw [if_neg d] at e
        refine ifF (bl_f fun zz => d ?_) ⟨q, _, out, blk ++ [z], rfl, s2, nq, npq, hP2, hQ2, e, by omega⟩
        have := V.int.inj zz
        simp at this
        omega
  · rintro σ H' ⟨q, v, out, blk, rfl, s, nq, npq, hP, hQ, e, hbl⟩
    have ed : xs.drop (xs.map V.int).length = [] := by simp
    rw [ed, stuffGo] at e
    have ho : out.length ≤ 200001 := by
      have := congrArg List.length e
      rw [List.length_append] at this
      omega
    refine ⟨_, rfl, _, _, rfl, .inr hP.sq, _, rfl, _, _, rfl, .inl hQ.sq, _, _, rfl, rfl, _, rfl, _, _, rfl, .inr hQ.sq, lsz (by simp; omega), fun r hr => ?_⟩
    refine k r _ (s.add hr) (s.free hr) ?_
    show upd _ r _ r = _
    rw [upd_same, ← e]
    simp
theorem flat_ints (xs : List Int) : (xs.map V.int).all flatV = true := by
  rw [List.all_eq_true]
  intro x hx
  obtain ⟨z, _, rfl⟩ := List.mem_map.mp hx
  rfl
theorem inV_ints (z : Int) : ∀ xs : List Int, inV (.int z) (xs.map V.int) = decide (z ∈ xs)
  | [] => rfl
  | x :: xs => by
    have ih := inV_ints z xs
    unfold inV at ih ⊢
    rw [List.map_cons, List.any_cons, ih]
    by_cases e : x = z
    · subst e
      simp [eqV]
    · have e2 : ¬ z = x := fun q => e q.symm
      simp [eqV, e, e2]
theorem cut_nat {xs : List Int} {i j : Nat} (hi : i ≤ j) (hj : j ≤ xs.length) (hi2 : i ≤ xs.length) : cutV (xs.map V.int) (some (i : Int)) (some (j : Int)) = ((xs.drop i).take (j - i)).map V.int := by
  unfold cutV
  rw [HT.sIx_nat, HT.sIx_nat, List.length_map, Nat.min_eq_left hi2, Nat.min_eq_left hj, List.map_take, List.map_drop]
def spUnstuff : Sp := fun vs H Q _ => ∃ (a : Addr) (xs : List Int), vs = [.ref a] ∧ Li H a (stuff xs) ∧ Bytes xs ∧ xs.length ≤ 100000 ∧ RL H Q xs
theorem ok_unstuff (T : Txt K mg) : FnOk P w K mg base CX0 1 (ga K "unstuff") (fdAt K (ga K "unstuff")) ["piece"] spUnstuff := by
  refine okD T.F_unstuff sc_unstuff (fun vs H Q E h => ?_) (fun cdv A outer s H vs Q E hr h => ?_)
  · obtain ⟨a, xs, rfl, _⟩ := h
    rfl
  obtain ⟨a, xs, rfl, ha, hb, hlen, k⟩ := h
  have nd := sc_unstuff.nd
  obtain ⟨f1, f2, f3⟩ := stuff_facts _ xs (Nat.le_refl _) hb
  refine ⟨_, ((pss_cons (ps_if (PW.pt (pw_or (pt_cmpR (inS_ K rfl) pe_int (pv 0) (by rfl)) (pw_or1 (pt_cmpR op_eq (pe_callB (lenS_ K rfl) rfl T.n_len boot_len (pa_cons (pv 0) pa_nil)) pe_int (nomark _))))) (pss_one ps_never) pss_nil)
      (pss_cons (ps_set (i := 1) nd rfl (Or.inl rfl) (pe_lst pa_nil))
      (pss_cons (ps_set (i := 2) nd rfl (Or.inl rfl) pe_int)
      (pss_cons (ps_set (i := 3) nd rfl (Or.inl rfl) (pe_gint T.i_FULL_BLOCK))
      (pss_cons (ps_while PassesOwn.never (pt_cmpR op_lt (pv 2) (pe_callB (lenS_ K rfl) rfl T.n_len boot_len (pa_cons (pv 0) pa_nil)) (nomark _)) (pss_cons (ps_set (i := 3) nd rfl (Or.inl rfl) (pe_ix (ixL_ K rfl) (pv 0) (pv 2) (fun _ _ => rfl)))
        (pss_cons (ps_if (pt_cmpR op_gt (pe_op op_add (pv 2) (pv 3)) (pe_callB (lenS_ K rfl) rfl T.n_len boot_len (pa_cons (pv 0) pa_nil)) (nomark _)) (pss_one ps_never) pss_nil)
        (pss_cons (ps_expr (pe_bm PySem.F.plainAttrs_list PySem.F.slot_list_extend PySem.F.type_list_extend mt_extend (pv 1) (pa_cons (pe_slice sl_list (pv 0) (po_some (pe_op op_add (pv 2) pe_int)) (po_some (pe_op op_add (pv 2) (pv 3)))) pa_nil)))
        (pss_cons (ps_if (pt_cmpR op_lt (pv 3) (pe_gint T.i_FULL_BLOCK) (nomark _)) (pss_one (ps_expr (pe_bm PySem.F.plainAttrs_list PySem.F.slot_list_append PySem.F.type_list_append mt_append (pv 1) (pa_cons pe_int pa_nil)))) pss_nil)
        (pss_one (ps_aug (i := 2) nd rfl (Or.inl rfl) (pv 3) ip_add)))))))
      (pss_cons (ps_if (pt_cmpR op_eq (pv 3) (pe_gint T.i_FULL_BLOCK) (nomark _)) (pss_one ps_never) pss_nil)
      (pss_cons (ps_expr (pe_bm0 PySem.F.plainAttrs_list PySem.F.slot_list_pop PySem.F.type_list_pop mt_pop (pv 1)))
      (pss_one (ps_ret (pv 1))))))))))), ?_⟩
  refine ⟨_, rfl, _, _, rfl, .inl ha.sq, rfl, flat_ints _, _, rfl, ifF ?_ ⟨_, rfl, _, _, rfl, .inl ha.sq, rfl, _, rfl, ?_⟩⟩
  · show (if false = true then _ else inV _ _) = false
    rw [if_neg Bool.false_ne_true, inV_ints]
    exact decide_eq_false fun z => by have := (f1 0 z).1; omega
  refine ifF (bl_f fun z => ?_) ⟨Nat.zero_le _, fun p hp => ?_⟩
  · have := V.int.inj z
    simp at this
    rw [this] at f2
    exact absurd f2 (by simp)
  -- while at < len(piece): rem is what the blocks from at on stand for
  refine ⟨fun m σ H' => ∃ (at_ : Nat) (out : List Int) (size : Int), m = (stuff xs).length - at_ ∧ σ = [some (.ref a), some (.ref p), some (.int at_), some (.int size)] ∧ Same H H' ∧ Li H' p out ∧
    ((∃ rem, (stuff xs).drop at_ = stuff rem ∧ out ++ rem = xs ∧ (∀ x ∈ rem, x ∈ xs)) ∨ (at_ = (stuff xs).length ∧ size < 255 ∧ out = xs ++ [0])), ⟨_, 0, [], 255, rfl, rfl, Same.new hp, upd_same, .inl ⟨xs, rfl, rfl, fun _ h => h⟩⟩, ?_⟩
  rintro m σ H' ⟨at_, out, size, rfl, rfl, s1, hP, hc⟩
  have hA := ha.mono s1
  refine ⟨_, rfl, _, rfl, _, _, rfl, .inl hA.sq, _, _, rfl, rfl, _, rfl, ?_⟩
  rcases hc with ⟨rem, e1, e2, e3⟩ | ⟨e1, e2, e3⟩
  · have hbr : Bytes rem := fun x hx => hb x (e3 x hx)
    have g := (stuff_facts _ rem (Nat.le_refl _) hbr)
    have hlt : at_ < (stuff xs).length := by
      have := congrArg List.length e1
      rw [List.length_drop] at this
      omega
    have e2' := congrArg List.length e2
    rw [List.length_append] at e2'
    refine ifT (bl_t (by rw [List.length_map]; omega)) ⟨_, fun _ _ h => h, ?_⟩
    obtain ⟨blk, h1, h2⟩ := stuff_cases rem
    -- the block: its size, its bytes, what is behind it
    obtain ⟨sz, rest, hsz, hst, hszb⟩ : ∃ (sz : Int) (rest : List Int), sz = (blk.length : Int) + 1 ∧ stuff rem = (sz :: blk) ++ rest ∧ blk.length ≤ 254 := by
      rcases h2 with ⟨_, b, c⟩ | ⟨r, _, _, _, b, c⟩ | ⟨r, _, _, _, b, c⟩
      · exact ⟨_, [], rfl, by simpa using c, by omega⟩
      · exact ⟨_, stuff r, rfl, c, by omega⟩
      · exact ⟨255, stuff r, by omega, c, by omega⟩
    have hx0 : (stuff xs)[at_]? = some sz := by
      have := congrArg (fun l => l[0]?) (e1.trans hst)
      simpa using this
    have hdl : (stuff xs).length - at_ = 1 + blk.length + rest.length := by
      have := congrArg List.length (e1.trans hst)
      rw [List.length_drop] at this
      simp at this
      omega
    refine ⟨_, rfl, _, rfl, _, _, _, _, rfl, rfl, hA.sq, Li.at hx0, _, rfl, _, rfl, _, _, rfl, rfl, _, rfl, _, _, rfl, .inl hA.sq, _, _, rfl, rfl, _, rfl, ifF (bl_f (by rw [List.length_map]; omega)) ?_⟩
    refine ⟨_, rfl, .inl ⟨rfl, _, hP.sq⟩, _, rfl, _, rfl, _, _, rfl, rfl, _, rfl, _, rfl, _, rfl, _, _, rfl, rfl, _, rfl, _, _, rfl, hA.sq, fun r hr => ?_⟩
    have hcut : cutV ((stuff xs).map V.int) (some ((at_ : Int) + 1)) (some ((at_ : Int) + sz)) = blk.map V.int := by
      rw [show (at_ : Int) + 1 = ((at_ + 1 : Nat) : Int) by omega, show (at_ : Int) + sz = ((at_ + 1 + blk.length : Nat) : Int) by omega, cut_nat (by omega) (by omega) (by omega)]
      have : (stuff xs).drop (at_ + 1) = blk ++ rest := by
        rw [← List.drop_drop, e1, hst]
        rfl
      rw [this, show at_ + 1 + blk.length - (at_ + 1) = blk.length by omega, List.take_left']
      rfl
    rw [hcut]
    have npr : p ≠ r := ne_of_none hP hr
    refine ⟨p, r, _, _, rfl, rfl, upd_keep hP hr, upd_same, lsz (by simp; omega), ?_⟩
    rw [← List.map_append]
    have s2 : Same H (upd (upd H' r (.lst (blk.map V.int))) p (.lst ((out ++ blk).map V.int))) := (s1.add hr).mut hp
    have hP2 : Li (upd (upd H' r (.lst (blk.map V.int))) p (.lst ((out ++ blk).map V.int))) p (out ++ blk) := upd_same
    refine ⟨_, rfl, _, _, rfl, rfl, _, rfl, ?_⟩
    have e1' : (stuff xs).drop (at_ + 1 + blk.length) = rest := by
      rw [show at_ + 1 + blk.length = at_ + (1 + blk.length) by omega, ← List.drop_drop, e1, hst]
      simp [Nat.add_comm 1]
    by_cases c : sz < 255
    · refine ifT (bl_t c) ⟨_, rfl, .inl ⟨rfl, _, hP2.sq⟩, p, _, _, rfl, rfl, hP2, lsz' (by simp; omega), _, rfl, _, rfl, _, _, rfl, rfl, (stuff xs).length - (at_ + 1 + blk.length), by omega, at_ + 1 + blk.length, out ++ blk ++ [0], sz, rfl, ?_, s2.mut hp, ?_, ?_⟩
      · show [some (V.ref a), some (V.ref p), some (V.int ((at_ : Int) + sz)), some (V.int sz)] = _
        rw [show (at_ : Int) + sz = ((at_ + 1 + blk.length : Nat) : Int) by omega]
      · rw [mapsnoc]
        exact upd_same
      · rcases h2 with ⟨a1, b1, c1⟩ | ⟨r1, a1, m1, l1, b1, c1⟩ | ⟨r1, a1, m1, l1, b1, c1⟩
        · refine .inr ⟨?_, c, by rw [← e2, a1]⟩
          have := congrArg List.length (hst.symm.trans c1)
          simp at this
          have : rest.length = 0 := by simp [this]
          omega
        · refine .inl ⟨r1, ?_, by rw [← e2, a1]; simp, fun x hx => e3 x (m1 x hx)⟩
          have := hst.symm.trans c1
          rw [hsz] at this
          rw [e1']
          exact List.append_cancel_left this
        · omega
    · refine ifF (bl_f c) ⟨_, rfl, _, rfl, _, _, rfl, rfl, (stuff xs).length - (at_ + 1 + blk.length), by omega, at_ + 1 + blk.length, out ++ blk, sz, rfl, ?_, s2, hP2, ?_⟩
      · show [some (V.ref a), some (V.ref p), some (V.int ((at_ : Int) + sz)), some (V.int sz)] = _
        rw [show (at_ : Int) + sz = ((at_ + 1 + blk.length : Nat) : Int) by omega]
      · rcases h2 with ⟨a1, b1, c1⟩ | ⟨r1, a1, m1, l1, b1, c1⟩ | ⟨r1, a1, m1, l1, b1, c1⟩
        · omega
        · omega
        · refine .inl ⟨r1, ?_, by rw [← e2, a1]; simp, fun x hx => e3 x (m1 x hx)⟩
          have := hst.symm.trans c1
          rw [show sz = 255 by omega] at this
          rw [e1']
          exact List.append_cancel_left this
  · refine ifF (bl_f (by rw [List.length_map]; omega)) ?_
    refine ⟨_, rfl, rfl, _, rfl, ifF (bl_f fun z => by have := V.int.inj z; omega) ⟨_, rfl, .inl ⟨rfl, _, hP.sq⟩, p, _, (.int 0), rfl, rfl, hP, by simp [e3], _, rfl, ?_⟩⟩
    refine k p _ (s1.mut hp) hp ?_
    show upd _ p _ p = _
    rw [upd_same, e3]
    simp
end
end Sp
namespace Sp
open PySem PySem.Spec PyProof.Rows L2
section
variable {P : Program} {w : World} {K : PySem.W.Frag} {mg : Str → Option Value} {base : Heap}
/-- a step number stands at a place -/
def spGet : Sp := fun vs H Q _ => ∃ (a : Addr) (row : List Int) (at_ n : Nat) (B : List Int), vs = [.ref a, .int at_] ∧ Li H a row ∧ row.length ≤ 1000000 ∧ n < 1099511627776 ∧ row.drop at_ = putS n ++ B ∧ at_ ≤ row.length ∧
  ∀ p, H p = none → Q (.ref p) (upd H p (.tup [.int n, .int ((at_ + (putS n).length : Nat) : Int)]))
theorem head_at {row : List Int} {i : Nat} {x : Int} {r : List Int} (h : row.drop i = x :: r) : row[i]? = some x := by
  have := congrArg (fun l => l[0]?) h
  simpa using this
theorem pow128 (k : Nat) : (2 : Int) ^ (7 * (0 + (k : Int))).toNat = ((128 ^ k : Nat) : Int) := by
  rw [show (7 * (0 + (k : Int))).toNat = 7 * k by omega, Int.pow_mul]
  norm_cast
theorem num_step (num rem q : Nat) : num + rem % 128 * q + rem / 128 * (q * 128) = num + rem * q := by
  have e := Nat.div_add_mod rem 128
  have : rem * q = (128 * (rem / 128) + rem % 128) * q := by rw [e]
  rw [this, Nat.add_mul, Nat.mul_assoc 128, Nat.mul_comm 128, Nat.mul_assoc (rem / 128)]
  omega
theorem ok_get_steps (T : Txt K mg) : FnOk P w K mg base CX0 1 (ga K "get_steps") (fdAt K (ga K "get_steps")) ["row", "at"] spGet := by
  refine okD T.F_get_steps sc_get_steps (fun vs H Q E h => ?_) (fun cdv A outer s H vs Q E hr h => ?_)
  · obtain ⟨a, row, at_, n, B, rfl, _⟩ := h
    rfl
  obtain ⟨a, row, at_, n, B, rfl, ha, hlen, hn, hd, hat, k⟩ := h
  have nd := sc_get_steps.nd
  have l6 := putS_len6 hn
  refine ⟨_, ((pss_cons (ps_set (i := 2) nd rfl (Or.inl rfl) pe_int)
      (pss_cons (ps_for PassesOwn.never rfl (pi_range1 rfl T.n_range (pa_cons (pe_gint T.i_MOST_BYTES) pa_nil)) (pg_name (i := 3) nd rfl (Or.inl rfl)) (pss_cons (ps_if (pt_cmpR op_ge (pe_op op_add (pv 1) (pv 3)) (pe_callB (lenS_ K rfl) rfl T.n_len boot_len (pa_cons (pv 0) pa_nil)) (nomark _)) (pss_one ps_never) pss_nil)
        (pss_cons (ps_set (i := 4) nd rfl (Or.inl rfl) (pe_ix (ixL_ K rfl) (pv 0) (pe_op op_add (pv 1) (pv 3)) (fun _ _ => rfl)))
        (pss_cons (ps_aug (i := 2) nd rfl (Or.inl rfl) (pe_op op_shl (pe_op op_and (pv 4) pe_int) (pe_op op_mul pe_int (pv 3))) ip_add)
        (pss_one (ps_if (pt_cmpR op_lt (pv 4) pe_int (nomark _)) (pss_cons (ps_if (pt_cmpR op_ge (pv 2) (pe_gint T.i_BOUND) (nomark _)) (pss_one ps_never) pss_nil)
          (pss_cons (ps_if (PW.pt (pw_and (pt_cmpR op_eq (pv 4) pe_int (nomark _)) (pw_and1 (pt_cmpR op_gt (pv 3) pe_int (nomark _))))) (pss_one ps_never) pss_nil)
          (pss_one (ps_ret (pe_tup (pa_cons (pv 2) (pa_cons (pe_op op_add (pe_op op_add (pv 1) (pv 3)) pe_int) pa_nil))))))) pss_nil))))))
      (pss_one ps_never)))), ?_⟩
  refine ⟨6, rfl, by decide, by decide, for_range (n := 6) (fun i σ H' => H' = H ∧ ∃ (num rem : Nat) (u v : Option V), σ = [some (.ref a), some (.int at_), some (.int num), u, v] ∧ row.drop (at_ + i) = putS rem ++ B ∧ num + rem * 128 ^ i = n ∧ i + (putS rem).length = (putS n).length ∧ (0 < i → 0 < rem))
    ⟨rfl, 0, n, none, none, rfl, hd, by simp, by simp, fun h => absurd h (by decide)⟩ ?_ ?_⟩
  · rintro i σ H' hi ⟨rfl, num, rem, u, v, rfl, e1, e2, e3, e4⟩
    have hp := putS_pos rem
    have hlt : at_ + i < row.length := by
      have := congrArg List.length e1
      rw [List.length_drop, List.length_append] at this
      omega
    refine ⟨_, rfl, _, rfl, _, _, rfl, rfl, _, rfl, _, _, rfl, .inl ha.sq, _, _, rfl, rfl, _, rfl, yF (by simp; omega) ?_⟩
    by_cases c : 127 < rem
    · rw [putS_big c] at e1
      have hx := head_at e1
      have hx' : atI (row.map V.int) ((at_ : Int) + (0 + (i : Int))) = some (.int (128 + ((rem % 128 : Nat) : Int))) := by
        rw [show (at_ : Int) + (0 + (i : Int)) = ((at_ + i : Nat) : Int) by omega]
        exact Li.at hx
      refine ⟨_, rfl, _, rfl, _, rfl, _, _, rfl, rfl, _, _, _, _, rfl, rfl, ha.sq, hx', ?_⟩
      have ha : Builtin.bitAnd (128 + ((rem % 128 : Nat) : Int)) 127 = ((rem % 128 : Nat) : Int) := by
        rw [show (128 : Int) + ((rem % 128 : Nat) : Int) = ((128 + rem % 128 : Nat) : Int) by omega, and127]
        omega
      refine ⟨_, rfl, _, rfl, _, _, rfl, rfl, _, rfl, _, _, rfl, rfl, .inl ⟨by decide, by decide⟩, _, _, rfl, rfl, ⟨by omega, by omega, ?_⟩, _, _, rfl, rfl, ?_⟩
      · rw [ha]; omega
      refine ⟨_, rfl, _, _, rfl, rfl, _, rfl, yF (by omega) ?_⟩
      refine ⟨rfl, num + rem % 128 * 128 ^ i, rem / 128, some (.int (0 + (i : Int))), some (.int (128 + ((rem % 128 : Nat) : Int))), ?_, ?_, ?_, ?_, fun _ => by omega⟩
      · show [some (V.ref a), some (V.int (at_ : Int)), some (V.int ((num : Int) + Builtin.bitAnd (128 + ((rem % 128 : Nat) : Int)) 127 * 2 ^ (7 * (0 + (i : Int))).toNat)), some (V.int (0 + (i : Int))), some (V.int (128 + ((rem % 128 : Nat) : Int)))] = _
        rw [ha, pow128]
        norm_cast
      · rw [show at_ + (i + 1) = (at_ + i) + 1 by omega, ← List.drop_drop, e1]
        rfl
      · rw [Nat.pow_succ, num_step]
        exact e2
      · rw [putS_big c, List.length_cons] at e3
        omega
    · rw [putS_small c] at e1 e3
      have hx := head_at e1
      have hx' : atI (row.map V.int) ((at_ : Int) + (0 + (i : Int))) = some (.int (rem : Int)) := by
        rw [show (at_ : Int) + (0 + (i : Int)) = ((at_ + i : Nat) : Int) by omega]
        exact Li.at hx
      refine ⟨_, rfl, _, rfl, _, rfl, _, _, rfl, rfl, _, _, _, _, rfl, rfl, ha.sq, hx', ?_⟩
      have hb : Builtin.bitAnd (rem : Int) 127 = (rem : Int) := by
        rw [and127]
        omega
      refine ⟨_, rfl, _, rfl, _, _, rfl, rfl, _, rfl, _, _, rfl, rfl, .inl ⟨by decide, by decide⟩, _, _, rfl, rfl, ⟨by omega, by omega, ?_⟩, _, _, rfl, rfl, ?_⟩
      · rw [hb]; omega
      refine ⟨_, rfl, _, _, rfl, rfl, _, rfl, yT (by omega) ?_⟩
      have hv : (num : Int) + Builtin.bitAnd (rem : Int) 127 * 2 ^ (7 * (0 + (i : Int))).toNat = (n : Int) := by
        rw [hb, pow128, ← e2]
        norm_cast
      refine ⟨_, rfl, _, _, rfl, rfl, _, rfl, ?_⟩
      dsimp only
      simp only [hv]
      rw [decide_eq_false (show ¬ (1099511627776 : Int) ≤ (n : Int) by omega)]
      refine iteF ⟨_, rfl, rfl, _, rfl, ?_⟩
      have fin : ∀ p, H' p = none → Q (.ref p) (upd H' p (.tup [.int n, .int ((at_ : Int) + (0 + (i : Int)) + 1)])) := fun p hp => by
        have := k p hp
        rw [show ((at_ + (putS n).length : Nat) : Int) = (at_ : Int) + (0 + (i : Int)) + 1 by simp at e3; omega] at this
        exact this
      by_cases z : rem = 0
      · have i0 : i = 0 := by
          by_cases hi0 : 0 < i
          · have := e4 hi0; omega
          · omega
        refine ifT (bl_t (by rw [z] <;> rfl)) ⟨_, rfl, _, _, rfl, rfl, _, rfl, yF (by omega) ⟨_, rfl, _, rfl, _, rfl, _, _, rfl, rfl, _, _, rfl, rfl, lsz (by simp), fun p hp => fin p hp⟩⟩
      · refine ifF (bl_f fun q => z (by have := V.int.inj q; omega)) (iteF ⟨_, rfl, _, rfl, _, rfl, _, _, rfl, rfl, _, _, rfl, rfl, lsz (by simp), fun p hp => fin p hp⟩)
  · rintro σ H' ⟨rfl, num, rem, u, v, rfl, e1, e2, e3, e4⟩
    have hp := putS_pos rem
    omega
end
end Sp
namespace Sp
open PySem PySem.Spec PyProof.Rows L2
section
variable {P : Program} {w : World} {K : PySem.W.Frag} {mg : Str → Option Value} {base : Heap}
abbrev mostV : List V := [.int 4, .int 4294967295, .int 4294967295, .int 15, .int 16777215, .int 1099511627775, .int 16777215, .int 1]
theorem wf_at {l : Leaf} (h : l.Wf) (b : Addr) {i : Nat} (hi : i < 8) : ∃ f m : Int, (l.vs b)[i]? = some (.int f) ∧ mostV[i]? = some (.int m) ∧ 0 ≤ f ∧ f ≤ m := by
  match i, hi with
  | 0, _ => exact ⟨_, _, rfl, rfl, h.kind⟩
  | 1, _ => exact ⟨_, _, rfl, rfl, h.stamp⟩
  | 2, _ => exact ⟨_, _, rfl, rfl, h.number⟩
  | 3, _ => exact ⟨_, _, rfl, rfl, h.track⟩
  | 4, _ => exact ⟨_, _, rfl, rfl, h.ordinal⟩
  | 5, _ => exact ⟨_, _, rfl, rfl, h.time⟩
  | 6, _ => exact ⟨_, _, rfl, rfl, h.span⟩
  | 7, _ => exact ⟨_, _, rfl, rfl, h.key⟩
theorem toN {z : Int} (h : 0 ≤ z) : (V.int z) = V.int ((z.toNat : Nat) : Int) := by rw [Int.toNat_of_nonneg h]
theorem at0 {xs : List V} {i : Nat} {z : Int} {v : V} (e : z = (i : Int)) (h : xs[i]? = some v) : atI xs z = some v := by rw [e]; exact atI_nat h
def spWr : Sp := fun vs H Q _ => ∃ (v : V) (l : Leaf), vs = [v] ∧ cLeaf.R H v l ∧ l.Wf ∧ RL H Q (wr l)
theorem ok_write_leaf (T : Txt K mg) : FnOk P w K mg base CX0 2 (ga K "write_leaf") (fdAt K (ga K "write_leaf")) ["leaf"] spWr := by
  refine okD T.F_write_leaf sc_write_leaf (fun vs H Q E h => ?_) (fun cdv A outer s H vs Q E hr h => ?_)
  · obtain ⟨v, l, rfl, _⟩ := h
    rfl
  obtain ⟨_, l, rfl, ⟨t, b, rfl, ht, hb⟩, wf, k⟩ := h
  have nd := sc_write_leaf.nd
  have MT : ∀ H, SqT K H (ga K "MOST") mostV := fun H => T.t_MOST H
  have hlen := hdr_len wf
  refine ⟨_, ((pss_cons (ps_for PassesOwn.never rfl (pi_range1 rfl T.n_range (pa_cons (pe_callB (lenS_ K rfl) rfl T.n_len boot_len (pa_cons (pe_glob (v := .ref _) rfl T.g_MOST rfl) pa_nil)) pa_nil)) (pg_name (i := 1) nd rfl (Or.inl rfl)) (pss_one (ps_if (pt_notC (pt_chain op_le op_le pe_int (pe_ix (ixT_ K rfl) (pv 0) (pv 1) (fun _ _ => rfl)) (pe_ix (ixT_ K rfl) (pe_glob (v := .ref _) rfl T.g_MOST rfl) (pv 1) (fun _ _ => rfl)))) (pss_one ps_never) pss_nil)))
      (pss_cons (ps_asg (pv 0) (pg_tup_ K rfl rfl (n := 9) (pgs_cons (pg_name (i := 2) nd rfl (Or.inl rfl)) (pgs_cons (pg_name (i := 3) nd rfl (Or.inl rfl)) (pgs_cons (pg_name (i := 4) nd rfl (Or.inl rfl)) (pgs_cons (pg_name (i := 5) nd rfl (Or.inl rfl)) (pgs_cons (pg_name (i := 6) nd rfl (Or.inl rfl)) (pgs_cons (pg_name (i := 7) nd rfl (Or.inl rfl)) (pgs_cons (pg_name (i := 8) nd rfl (Or.inl rfl)) (pgs_cons (pg_name (i := 9) nd rfl (Or.inl rfl)) (pgs_cons (pg_name (i := 10) nd rfl (Or.inl rfl)) pgs_nil)))))))))))
      (pss_cons (ps_if (pt_cmpR op_gt (pe_callB (lenS_ K rfl) rfl T.n_len boot_len (pa_cons (pv 10) pa_nil)) (pe_gint T.i_MOST_BODY_leaves) (nomark _)) (pss_one ps_never) pss_nil)
      (pss_cons (ps_set (i := 11) nd rfl (Or.inl rfl) (pe_op op_cat (pe_op op_cat (pe_lst (pa_cons (pv 2) pa_nil)) (pe_call (ok_four_bytes T) (hr.mono (by decide)) rfl T.g_four_bytes T.k_four_bytes T.b_four_bytes .nil pass0 (pa_cons (pv 3) pa_nil))) (pe_call (ok_four_bytes T) (hr.mono (by decide)) rfl T.g_four_bytes T.k_four_bytes T.b_four_bytes .nil pass0 (pa_cons (pv 4) pa_nil))))
      (pss_cons (ps_for PassesOwn.never rfl (pi_tup (pe_tup (pa_cons (pv 5) (pa_cons (pv 6) (pa_cons (pv 7) (pa_cons (pv 8) pa_nil)))))) (pg_name (i := 12) nd rfl (Or.inl rfl)) (pss_one (ps_expr (pe_bm PySem.F.plainAttrs_list PySem.F.slot_list_extend PySem.F.type_list_extend mt_extend (pv 11) (pa_cons (pe_call (ok_put_steps T) (hr.mono (by decide)) rfl T.g_put_steps T.k_put_steps T.b_put_steps .nil pass0 (pa_cons (pv 12) pa_nil)) pa_nil)))))
      (pss_cons (ps_expr (pe_bm PySem.F.plainAttrs_list PySem.F.slot_list_append PySem.F.type_list_append mt_append (pv 11) (pa_cons (pv 9) pa_nil)))
      (pss_cons (ps_expr (pe_bm PySem.F.plainAttrs_list PySem.F.slot_list_extend PySem.F.type_list_extend mt_extend (pv 11) (pa_cons (pe_call (ok_put_steps T) (hr.mono (by decide)) rfl T.g_put_steps T.k_put_steps T.b_put_steps .nil pass0 (pa_cons (pe_callB (lenS_ K rfl) rfl T.n_len boot_len (pa_cons (pv 10) pa_nil)) pa_nil)) pa_nil)))
      (pss_cons (ps_expr (pe_bm PySem.F.plainAttrs_list PySem.F.slot_list_extend PySem.F.type_list_extend mt_extend (pv 11) (pa_cons (pv 10) pa_nil)))
      (pss_one (ps_ret (pe_op op_cat (pv 11) (pe_call (ok_four_bytes T) (hr.mono (by decide)) rfl T.g_four_bytes T.k_four_bytes T.b_four_bytes .nil pass0 (pa_cons (pe_call (ok_checksum T) (hr.mono (by decide)) rfl T.g_checksum T.k_checksum T.b_checksum .nil pass0 (pa_cons (pv 11) pa_nil)) pa_nil)))))))))))))), ?_⟩
  refine ⟨_, _, rfl, .inr (MT H), 8, rfl, by decide, by decide, for_range (n := 8) (fun i σ H' => H' = H ∧ ∃ u : Option V, σ = [some (.ref t), u, none, none, none, none, none, none, none, none, none, none, none]) ⟨rfl, none, rfl⟩ ?_ ?_⟩
  · rintro i σ H' hi ⟨rfl, u, rfl⟩
    obtain ⟨f, m, h1, h2, h3, h4⟩ := wf_at wf b hi
    refine ⟨_, rfl, _, rfl, _, _, _, _, rfl, rfl, SqT.of ht, at0 (by omega) h1, _, _, rfl, rfl, _, rfl, yT h3 ⟨_, rfl, _, _, _, _, rfl, rfl, MT _, at0 (by omega) h2, _, _, rfl, rfl, _, rfl, yT h4 (iteF ⟨rfl, _, rfl⟩)⟩⟩
  rintro σ H' ⟨rfl, u, rfl⟩
  refine ⟨_, rfl, _, _, rfl, SqT.of ht, rfl, _, _, rfl, _, _, rfl, _, _, rfl, _, _, rfl, _, _, rfl, _, _, rfl, _, _, rfl, _, _, rfl, _, _, rfl, rfl, ?_⟩
  refine ⟨_, rfl, _, _, rfl, .inl hb.sq, _, _, rfl, rfl, _, rfl, yF (by have := wf.len; simp; omega) ?_⟩
  -- out = [kind] + four_bytes(stamp) + four_bytes(number)
  refine ⟨_, rfl, lsz (by simp), fun p1 n1 => ⟨_, rfl, l.stamp.toNat, congrArg (fun z => [z]) (toN wf.stamp.1), fun p2 H2 s2 n2 h2 => ?_⟩⟩
  have h1 : Li H2 p1 [l.kind] := s2 _ _ upd_same
  refine ⟨p1, p2, _, _, rfl, rfl, h1, h2, lsz (by simp [four]), fun p3 n3 => ⟨_, rfl, l.number.toNat, congrArg (fun z => [z]) (toN wf.number.1), fun p4 H4 s4 n4 h4 => ?_⟩⟩
  have h3 : Li H4 p3 ([l.kind] ++ four l.stamp.toNat) := s4 _ _ (by rw [List.map_append]; exact upd_same)
  refine ⟨p3, p4, _, _, rfl, rfl, h3, h4, lsz (by simp [four]), fun o no => ?_⟩
  rw [← List.map_append]
  have s0 : Same H' H4 := ((Same.new n1).trans s2 |>.add n3).trans s4
  have nO : H' o = none := s0.free no
  have hO : Li (upd H4 o (.lst ((([l.kind] ++ four l.stamp.toNat) ++ four l.number.toNat).map V.int))) o (([l.kind] ++ four l.stamp.toNat) ++ four l.number.toNat) := upd_same
  -- for field in (track, ordinal, time, span)
  refine ⟨_, rfl, _, rfl, _, rfl, _, rfl, lsz (by simp), fun q nq => ?_⟩
  have s1 : Same H' (upd (upd H4 o (.lst ((([l.kind] ++ four l.stamp.toNat) ++ four l.number.toNat).map V.int))) q (.tup [.int l.track, .int l.ordinal, .int l.time, .int l.span])) := (s0.add no).add nq
  have nQ : H' q = none := (s0.add no).free nq
  have noq : o ≠ q := ne_of_none hO nq
  generalize hG : upd (upd H4 o (.lst ((([l.kind] ++ four l.stamp.toNat) ++ four l.number.toNat).map V.int))) q (.tup [.int l.track, .int l.ordinal, .int l.time, .int l.span]) = G at s1
  have gO : Li G o (([l.kind] ++ four l.stamp.toNat) ++ four l.number.toNat) := by rw [← hG]; exact upd_keep hO nq
  have gQ : G q = some (.tup [.int l.track, .int l.ordinal, .int l.time, .int l.span]) := by rw [← hG]; exact upd_same
  let fs : List Nat := [l.track.toNat, l.ordinal.toNat, l.time.toNat, l.span.toNat]
  let b0 : List Int := ([l.kind] ++ four l.stamp.toNat) ++ four l.number.toNat
  have hb0 : b0.length = 9 := rfl
  have bnd : ∀ n ∈ fs, n < 1099511627776 := by
    have := wf.track; have := wf.ordinal; have := wf.time; have := wf.span
    intro n hn
    simp only [fs, List.mem_cons, List.not_mem_nil, or_false] at hn
    omega
  refine ⟨q, rfl, ⟨_, SqT.of gQ⟩, for_tup (K := K) (a := q) (xs := [.int l.track, .int l.ordinal, .int l.time, .int l.span]) (fun i σ H'' => ∃ u2 : Option V, σ = [some (.ref t), u, some (.int l.kind), some (.int l.stamp), some (.int l.number), some (.int l.track), some (.int l.ordinal), some (.int l.time), some (.int l.span), some (.int l.key), some (.ref b), some (.ref o), u2] ∧
      Same H' H'' ∧ H'' q = some (.tup [.int l.track, .int l.ordinal, .int l.time, .int l.span]) ∧ Li H'' o (b0 ++ (fs.take i).flatMap putS)) ⟨none, rfl, s1, gQ, by show Li G o (b0 ++ []); rw [List.append_nil]; exact gO⟩ (fun i σ H'' _ ⟨_, _, _, h, _⟩ => SqT.of h) ?_ ?_⟩
  · rintro i x σ H'' hi ⟨u2, rfl, s5, g5, h5⟩
    obtain ⟨n, hn, rfl⟩ : ∃ n : Nat, fs[i]? = some n ∧ x = .int n := by
      match i, hi with
      | 0, hi => exact ⟨_, rfl, by cases hi; exact toN wf.track.1⟩
      | 1, hi => exact ⟨_, rfl, by cases hi; exact toN wf.ordinal.1⟩
      | 2, hi => exact ⟨_, rfl, by cases hi; exact toN wf.time.1⟩
      | 3, hi => exact ⟨_, rfl, by cases hi; exact toN wf.span.1⟩
      | n + 4, hi => simp at hi
    have hl5 : ((fs.take i).flatMap putS).length ≤ 6 * 4 := by
      have a := putS_len6 (bnd l.track.toNat (by simp [fs])); have b := putS_len6 (bnd l.ordinal.toNat (by simp [fs])); have c := putS_len6 (bnd l.time.toNat (by simp [fs])); have d := putS_len6 (bnd l.span.toNat (by simp [fs]))
      match i with
      | 0 => simp
      | 1 => simp [fs]; omega
      | 2 => simp [fs]; omega
      | 3 => simp [fs]; omega
      | i + 4 => simp [fs]; omega
    have hpn := putS_len6 (bnd n (List.mem_of_getElem? hn))
    refine ⟨_, rfl, .inl ⟨rfl, _, h5.sq⟩, _, rfl, n, rfl, bnd n (List.mem_of_getElem? hn), fun p H6 s6 n6 h6 => ?_⟩
    refine ⟨o, p, _, _, rfl, rfl, s6 _ _ h5, h6, lsz (by simp only [List.length_map, List.length_append]; omega), some (.int n), rfl, (s5.trans s6).mut nO, ?_, ?_⟩
    · rw [upd_ne noq.symm]
      exact s6 _ _ g5
    · rw [← List.map_append, take_snoc hn, List.flatMap_append, ← List.append_assoc]
      have : ([n] : List Nat).flatMap putS = putS n := by simp
      rw [this]
      exact upd_same
  rintro σ H'' ⟨u2, rfl, s5, g5, h5⟩
  have e5 : b0 ++ (fs.take [V.int l.track, V.int l.ordinal, V.int l.time, V.int l.span].length).flatMap putS = [l.kind] ++ four l.stamp.toNat ++ four l.number.toNat ++ putS l.track.toNat ++ putS l.ordinal.toNat ++ putS l.time.toNat ++ putS l.span.toNat := by simp [b0, fs]
  rw [e5] at h5
  generalize hB : [l.kind] ++ four l.stamp.toNat ++ four l.number.toNat ++ putS l.track.toNat ++ putS l.ordinal.toNat ++ putS l.time.toNat ++ putS l.span.toNat = B at h5
  have hH : hdr l = B ++ [l.key] ++ putS l.body.length ++ l.body := by rw [← hB]; rfl
  have hBl : B.length + 1 + (putS l.body.length).length + l.body.length ≤ 1064 := by
    rw [hH] at hlen
    simp only [List.length_append, List.length_cons, List.length_nil] at hlen
    omega
  -- out.append(key); out.extend(put_steps(len(body))); out.extend(body)
  refine ⟨_, rfl, .inl ⟨rfl, _, h5.sq⟩, _, rfl, o, _, _, rfl, rfl, h5, lsz' (by simp; omega), ?_⟩
  rw [mapsnoc]
  have s7 : Same H' (upd H'' o (.lst ((B ++ [l.key]).map V.int))) := s5.mut nO
  have h7 : Li (upd H'' o (.lst ((B ++ [l.key]).map V.int))) o (B ++ [l.key]) := upd_same
  refine ⟨_, rfl, .inl ⟨rfl, _, h7.sq⟩, _, rfl, _, _, rfl, .inl (hb.mono s7).sq, l.body.length, by simp, by have := wf.len; omega, fun p8 H8 s8 n8 h8 => ?_⟩
  refine ⟨o, p8, _, _, rfl, rfl, s8 _ _ h7, h8, lsz (by simp; omega), ?_⟩
  rw [← List.map_append]
  have s9 : Same H' (upd H8 o (.lst ((B ++ [l.key] ++ putS l.body.length).map V.int))) := (s7.trans s8).mut nO
  have h9 : Li (upd H8 o (.lst ((B ++ [l.key] ++ putS l.body.length).map V.int))) o (B ++ [l.key] ++ putS l.body.length) := upd_same
  refine ⟨_, rfl, .inl ⟨rfl, _, h9.sq⟩, _, rfl, o, b, _, _, rfl, rfl, h9, hb.mono s9, lsz (by simp; omega), ?_⟩
  rw [← List.map_append, ← hH]
  generalize hF : upd (upd H8 o (.lst ((B ++ [l.key] ++ putS l.body.length).map V.int))) o (.lst ((hdr l).map V.int)) = F
  have s10 : Same H' F := by rw [← hF]; exact s9.mut nO
  have h10 : Li F o (hdr l) := by rw [← hF]; exact upd_same
  have c32 := crc32 (hdr_bytes wf)
  -- return out + four_bytes(checksum(out))
  refine ⟨_, rfl, _, rfl, o, _, rfl, h10, (crc (hdr l)).toNat, congrArg (fun z => [z]) (toN c32.1), fun p11 H11 s11 n11 h11 => ?_⟩
  refine ⟨o, p11, _, _, rfl, rfl, s11 _ _ h10, h11, lsz (by simp [four]; omega), fun r nr => ?_⟩
  rw [← List.map_append]
  exact k r _ ((s10.trans s11).add nr) ((s10.trans s11).free nr) upd_same
def spWrs : Sp := fun vs H Q _ => ∃ (v : V) (ls : List Leaf), vs = [v] ∧ (cL cLeaf).R H v ls ∧ (∀ l ∈ ls, l.Wf) ∧ ls.length ≤ 100 ∧ RL H Q (encF ls)
theorem encF_len {ls : List Leaf} (h : ∀ l ∈ ls, l.Wf) : (encF ls).length ≤ 1 + 2138 * ls.length := by
  induction ls with
  | nil => simp [encF, segs]
  | cons l ls ih =>
    have a := ih fun x hx => h x (by simp [hx])
    have b := piece_len (h l (by simp))
    simp [encF, segs] at a ⊢
    omega
theorem ok_write_leaves (T : Txt K mg) : FnOk P w K mg base CX0 3 (ga K "write_leaves") (fdAt K (ga K "write_leaves")) ["leaves"] spWrs := by
  refine okD T.F_write_leaves sc_write_leaves (fun vs H Q E h => ?_) (fun cdv A outer s H vs Q E hr h => ?_)
  · obtain ⟨v, l, rfl, _⟩ := h
    rfl
  obtain ⟨_, ls, rfl, ⟨a, vs, rfl, ha, hp⟩, wf, hn, k⟩ := h
  have nd := sc_write_leaves.nd
  refine ⟨_, ((pss_cons (ps_set (i := 1) nd rfl (Or.inl rfl) (pe_lst (pa_cons pe_int pa_nil)))
      (pss_cons (ps_for PassesOwn.never rfl (pi_list (pv 0)) (pg_name (i := 2) nd rfl (Or.inl rfl)) (pss_cons (ps_expr (pe_bm PySem.F.plainAttrs_list PySem.F.slot_list_extend PySem.F.type_list_extend mt_extend (pv 1) (pa_cons (pe_call (ok_stuff T) (hr.mono (by decide)) rfl T.g_stuff T.k_stuff T.b_stuff .nil pass0 (pa_cons (pe_call (ok_write_leaf T) (hr.mono (by decide)) rfl T.g_write_leaf T.k_write_leaf T.b_write_leaf .nil pass0 (pa_cons (pv 2) pa_nil)) pa_nil)) pa_nil)))
        (pss_one (ps_expr (pe_bm PySem.F.plainAttrs_list PySem.F.slot_list_append PySem.F.type_list_append mt_append (pv 1) (pa_cons pe_int pa_nil))))))
      (pss_one (ps_ret (pv 1)))))), ?_⟩
  refine ⟨lsz (by simp), fun o no => ?_⟩
  have hO : Li (upd H o (.lst [.int 0])) o [0] := upd_same
  refine ⟨_, rfl, a, rfl, ⟨_, SqL.of (upd_keep ha no)⟩, for_list (K := K) (a := a) (xs := vs) (fun i σ H' => ∃ u : Option V, σ = [some (.ref a), some (.ref o), u] ∧ Same H H' ∧ Li H' o (encF (ls.take i))) ⟨none, rfl, Same.new no, hO⟩ (fun i σ H' _ ⟨_, _, s, _⟩ => SqL.of (s _ _ ha)) ?_ ?_⟩
  · rintro i x σ H' hi ⟨u, rfl, s, h1⟩
    obtain ⟨l, hl, hr⟩ := pgetl hp hi
    have wl := wf l (List.mem_of_getElem? hl)
    have hle := encF_len (ls := ls.take i) fun x hx => wf x (List.mem_of_mem_take hx)
    have htl : (ls.take i).length ≤ 100 := by rw [List.length_take]; omega
    refine ⟨_, rfl, .inl ⟨rfl, _, h1.sq⟩, _, rfl, _, l, rfl, cLeaf.mono s hr, wl, fun p2 H2 s2 n2 h2 => ?_⟩
    refine ⟨p2, wr l, rfl, h2, wr_bytes wl, by have := wr_len wl; omega, fun p3 H3 s3 n3 h3 => ?_⟩
    have hpl := piece_len wl
    refine ⟨o, p3, _, _, rfl, rfl, s3 _ _ (s2 _ _ h1), h3, lsz (by simp only [List.length_map]; show _ + (piece l).length ≤ _; omega), ?_⟩
    rw [← List.map_append]
    have h4 : Li (upd H3 o (.lst ((encF (ls.take i) ++ stuff (wr l)).map V.int))) o (encF (ls.take i) ++ stuff (wr l)) := upd_same
    refine ⟨_, rfl, .inl ⟨rfl, _, h4.sq⟩, o, _, _, rfl, rfl, h4, lsz' (by simp only [List.length_map, List.length_append]; show _ + (piece l).length ≤ _; omega), some x, rfl, (((s.trans s2).trans s3).mut no).mut no, ?_⟩
    rw [mapsnoc, take_snoc hl, encF_snoc, ← List.append_assoc]
    exact upd_same
  · rintro σ H' ⟨u, rfl, s, h1⟩
    rw [show vs.length = ls.length from hp.length, List.take_length] at h1
    exact ⟨_, rfl, k o H' s no h1⟩
end
end Sp
namespace Sp
open PySem PySem.Spec PyProof.Rows L2
/-- a loop over zip of two lists, the second one not longer -/
theorem for_zipS {K : PySem.W.Frag} {a b : Addr} {xs ys : List V} {g : TG} {tb : TS} {D : Ends} {σ : L2.St} {H : Hp} (hl : ys.length ≤ xs.length) (Pv : Nat → L2.St → Hp → Prop) (h0 : Pv 0 σ H) (hq : ∀ i σ H, Pv i σ H → SqL K H a xs ∧ SqL K H b ys)
    (hs : ∀ (i : Nat) (x y : V) (T : Addr) (σ : L2.St) (H : Hp), xs[i]? = some x → ys[i]? = some y → Pv i σ H → H T = none → g (.ref T) σ (upd H T (.tup [x, y])) fun σ2 H2 => tb { D with nx := Pv (i + 1), ct := Pv (i + 1), bk := D.nx } σ2 H2) (hd : ∀ σ H, Pv ys.length σ H → D.nx σ H) :
    ∃ W : Nat → Nat → L2.St → Hp → Prop, (∃ m, W 0 m σ H) ∧ ∀ i m σ H, W i m σ H →
      ((Itz K a b).stop i H ∧ D.nx σ H) ∨ ((Itz K a b).go i H ∧ ∃ N : L2.St → Hp → Prop, (∀ σ' H', N σ' H' → ∃ m', m' < m ∧ W (i + 1) m' σ' H') ∧ ∀ v H', (Itz K a b).yld i H v H' → g v σ H' fun σ2 H2 => tb { D with nx := N, ct := N, bk := D.nx } σ2 H2) := by
  refine ⟨fun i m σ H => m = ys.length - i ∧ i ≤ ys.length ∧ Pv i σ H, ⟨_, rfl, Nat.zero_le _, h0⟩, ?_⟩
  rintro i m σ H ⟨rfl, hi, p⟩
  obtain ⟨qx, qy⟩ := hq i σ H p
  by_cases hlt : i < ys.length
  · refine .inr ⟨⟨xs, ys, _, _, qx, qy, List.getElem?_eq_getElem (Nat.lt_of_lt_of_le hlt hl), List.getElem?_eq_getElem hlt⟩, Pv (i + 1), fun σ' H' p' => ⟨ys.length - (i + 1), by omega, rfl, hlt, p'⟩, fun v H' y => ?_⟩
    obtain ⟨t, x', y', rfl, hT, rfl, f1, f2⟩ := y
    exact hs i x' y' t σ H (f1 xs qx) (f2 ys qy) p hT
  · obtain rfl : i = ys.length := by omega
    exact .inl ⟨⟨xs, ys, qx, qy, Or.inr (Nat.le_refl _)⟩, hd σ H p⟩
section
variable {P : Program} {w : World} {K : PySem.W.Frag} {mg : Str → Option Value} {base : Heap}
def spByte : Sp := fun vs H Q _ => ∃ (a : Addr) (row : List Int) (i f : Nat) (b m : Int), vs = [.ref a, .int i, .int f] ∧ Li H a row ∧ row[i]? = some b ∧ mostV[f]? = some (.int m) ∧ b ≤ m ∧ Q (.int b) H
theorem ok_small_byte (T : Txt K mg) : FnOk P w K mg base CX0 1 (ga K "small_byte") (fdAt K (ga K "small_byte")) ["row", "at", "field"] spByte := by
  refine okD T.F_small_byte sc_small_byte (fun vs H Q E h => ?_) (fun cdv A outer s H vs Q E hr h => ?_)
  · obtain ⟨a, row, i, f, b, m, rfl, _⟩ := h
    rfl
  obtain ⟨a, row, i, f, b, m, rfl, ha, hi, hf, hm, k⟩ := h
  have nd := sc_small_byte.nd
  refine ⟨_, ((pss_cons (ps_if (PW.pt (pw_or (pt_cmpR op_ge (pv 1) (pe_callB (lenS_ K rfl) rfl T.n_len boot_len (pa_cons (pv 0) pa_nil)) (nomark _)) (pw_or1 (pt_cmpR op_gt (pe_ix (ixL_ K rfl) (pv 0) (pv 1) (fun _ _ => rfl)) (pe_ix (ixT_ K rfl) (pe_glob (v := .ref _) rfl T.g_MOST rfl) (pv 2) (fun _ _ => rfl)) (nomark _))))) (pss_one ps_never) pss_nil)
      (pss_one (ps_ret (pe_ix (ixL_ K rfl) (pv 0) (pv 1) (fun _ _ => rfl)))))), ?_⟩
  have hl := lt_of_at hi
  refine ⟨_, rfl, _, rfl, _, _, rfl, .inl ha.sq, _, _, rfl, rfl, _, rfl, yF (by simp; omega) ?_⟩
  refine ⟨_, rfl, _, rfl, _, _, _, _, rfl, rfl, ha.sq, Li.at hi, _, rfl, _, _, _, _, rfl, rfl, T.t_MOST _, atI_nat hf, _, _, rfl, rfl, _, rfl, yF (by omega) ⟨_, rfl, _, rfl, _, _, _, _, rfl, rfl, ha.sq, Li.at hi, k⟩⟩
def spWord : Sp := fun vs H Q _ => ∃ (a : Addr) (row : List Int) (i n : Nat) (x : Int) (B : List Int), vs = [.ref a, .int i, .int x] ∧ Li H a row ∧ row.length ≤ 1000000 ∧ n < 4294967296 ∧ row.drop i = four n ++ B ∧ i ≤ row.length ∧ ∀ H', Same H H' → Q (.int n) H'
theorem ok_word_at (T : Txt K mg) : FnOk P w K mg base CX0 2 (ga K "word_at") (fdAt K (ga K "word_at")) ["row", "at", "field"] spWord := by
  refine okD T.F_word_at sc_word_at (fun vs H Q E h => ?_) (fun cdv A outer s H vs Q E hr h => ?_)
  · obtain ⟨a, row, i, n, x, B, rfl, _⟩ := h
    rfl
  obtain ⟨a, row, i, n, x, B, rfl, ha, hl, hn, hd, hi, k⟩ := h
  have nd := sc_word_at.nd
  refine ⟨_, ((pss_cons (ps_if (pt_cmpR op_gt (pe_op op_add (pv 1) pe_int) (pe_callB (lenS_ K rfl) rfl T.n_len boot_len (pa_cons (pv 0) pa_nil)) (nomark _)) (pss_one ps_never) pss_nil)
      (pss_one (ps_ret (pe_call (ok_number_of T) (hr.mono (by decide)) rfl T.g_number_of T.k_number_of T.b_number_of .nil pass0 (pa_cons (pe_slice sl_list (pv 0) (po_some (pv 1)) (po_some (pe_op op_add (pv 1) pe_int))) pa_nil)))))), ?_⟩
  have hlen : row.length = i + 4 + B.length := by
    have := congrArg List.length hd
    rw [List.length_drop, List.length_append, four_len] at this
    omega
  refine ⟨_, rfl, _, _, rfl, rfl, _, rfl, _, _, rfl, .inl ha.sq, _, _, rfl, rfl, _, rfl, yF (by simp; omega) ?_⟩
  refine ⟨_, rfl, _, rfl, _, rfl, _, rfl, _, _, rfl, rfl, _, rfl, _, _, rfl, ha.sq, fun p np => ?_⟩
  have e : cutV (row.map V.int) (some (i : Int)) (some ((i : Int) + 4)) = (four n).map V.int := by
    rw [show (i : Int) + 4 = ((i + 4 : Nat) : Int) by omega, cut_nat (by omega) (by omega) (by omega), hd, show i + 4 - i = (four n).length by rw [four_len]; omega, List.take_left]
  rw [e]
  exact ⟨p, n, rfl, hn, upd_same, k _ (Same.new np)⟩
def spStep : Sp := fun vs H Q _ => ∃ (a : Addr) (row : List Int) (at_ n : Nat) (m f : Int) (B : List Int), vs = [.ref a, .int at_, .int m, .int f] ∧ Li H a row ∧ row.length ≤ 1000000 ∧ n < 1099511627776 ∧ (n : Int) ≤ m ∧ row.drop at_ = putS n ++ B ∧ at_ ≤ row.length ∧
  ∀ p H', Same H H' → H p = none → H' p = some (.tup [.int n, .int ((at_ + (putS n).length : Nat) : Int)]) → Q (.ref p) H'
theorem ok_steps_at (T : Txt K mg) : FnOk P w K mg base CX0 2 (ga K "steps_at") (fdAt K (ga K "steps_at")) ["row", "at", "most", "field"] spStep := by
  refine okD T.F_steps_at sc_steps_at (fun vs H Q E h => ?_) (fun cdv A outer s H vs Q E hr h => ?_)
  · obtain ⟨a, row, at_, n, m, f, B, rfl, _⟩ := h
    rfl
  obtain ⟨a, row, at_, n, m, f, B, rfl, ha, hl, hn, hm, hd, hi, k⟩ := h
  have nd := sc_steps_at.nd
  refine ⟨_, ((pss_cons (ps_try_thru0 (pss_one (ps_asg (pe_call (ok_get_steps T) (hr.mono (by decide)) rfl T.g_get_steps T.k_get_steps T.b_get_steps .nil pass0 (pa_cons (pv 0) (pa_cons (pv 1) pa_nil))) (pg_tup_ K rfl rfl (n := 2) (pgs_cons (pg_name (i := 4) nd rfl (Or.inl rfl)) (pgs_cons (pg_name (i := 5) nd rfl (Or.inl rfl)) pgs_nil))))))
      (pss_cons (ps_if (pt_cmpR op_gt (pv 4) (pv 2) (nomark _)) (pss_one ps_never) pss_nil)
      (pss_one (ps_ret (pe_tup (pa_cons (pv 4) (pa_cons (pv 5) pa_nil)))))))), ?_⟩
  refine ⟨_, rfl, _, rfl, a, row, at_, n, B, rfl, ha, hl, hn, hd, hi, fun p np => ?_⟩
  refine ⟨p, _, rfl, SqT.of upd_same, rfl, _, _, rfl, _, _, rfl, rfl, ?_⟩
  refine ⟨_, rfl, _, rfl, _, _, rfl, rfl, _, rfl, yF (by omega) ⟨_, rfl, _, rfl, lsz (by simp), fun q nq => ?_⟩⟩
  exact k q _ ((Same.new np).add nq) ((Same.new np).free nq) upd_same
def spRd : Sp := fun vs H Q _ => ∃ (a : Addr) (l : Leaf), vs = [.ref a] ∧ Li H a (wr l) ∧ l.Wf ∧ ∀ H' v, Same H H' → cLeaf.R (fresh' H H') v l → Q v H'
/-- where the fields stand in a writing -/
theorem wr_parts (l : Leaf) : wr l = [l.kind] ++ (four l.stamp.toNat ++ (four l.number.toNat ++ ([l.track.toNat, l.ordinal.toNat, l.time.toNat, l.span.toNat].flatMap putS ++ ([l.key] ++ (putS l.body.length ++ (l.body ++ four (crc (hdr l)).toNat)))))) := by
  simp [wr, hdr]
theorem cut_from {xs : List Int} {i : Nat} (hi : i ≤ xs.length) : cutV (xs.map V.int) (some (i : Int)) none = (xs.drop i).map V.int := by
  unfold cutV
  rw [HT.sIx_nat, List.length_map, Nat.min_eq_left hi]
  show List.take (xs.length - i) _ = _
  rw [← List.map_drop, List.take_of_length_le (by simp)]
theorem cut_to {xs : List Int} {j : Nat} (hj : j ≤ xs.length) : cutV (xs.map V.int) none (some (j : Int)) = (xs.take j).map V.int := by
  unfold cutV
  rw [HT.sIx_nat, List.length_map, Nat.min_eq_left hj]
  show List.take (j - 0) (List.drop 0 _) = _
  rw [List.drop_zero, Nat.sub_zero, List.map_take]
theorem ok_read_leaf (T : Txt K mg) : FnOk P w K mg base CX0 3 (ga K "read_leaf") (fdAt K (ga K "read_leaf")) ["writing"] spRd := by
  refine okD T.F_read_leaf sc_read_leaf (fun vs H Q E h => ?_) (fun cdv A outer s H vs Q E hr h => ?_)
  · obtain ⟨a, l, rfl, _⟩ := h
    rfl
  obtain ⟨a, l, rfl, ha, wf, k⟩ := h
  have nd := sc_read_leaf.nd
  have wl := wr_len wf
  have hp := wr_parts l
  have c32 := crc32 (hdr_bytes wf)
  refine ⟨_, ((pss_cons (ps_set (i := 1) nd rfl (Or.inl rfl) (pe_lst (pa_cons (pe_call (ok_small_byte T) (hr.mono (by decide)) rfl T.g_small_byte T.k_small_byte T.b_small_byte .nil pass0 (pa_cons (pv 0) (pa_cons pe_int (pa_cons pe_int pa_nil)))) (pa_cons (pe_call (ok_word_at T) (hr.mono (by decide)) rfl T.g_word_at T.k_word_at T.b_word_at .nil pass0 (pa_cons (pv 0) (pa_cons pe_int (pa_cons pe_int pa_nil)))) (pa_cons (pe_call (ok_word_at T) (hr.mono (by decide)) rfl T.g_word_at T.k_word_at T.b_word_at .nil pass0 (pa_cons (pv 0) (pa_cons pe_int (pa_cons pe_int pa_nil)))) pa_nil)))))
      (pss_cons (ps_set (i := 2) nd rfl (Or.inl rfl) pe_int)
      (pss_cons (ps_for PassesOwn.never rfl (pi_range2 rfl T.n_range (pa_cons pe_int (pa_cons pe_int pa_nil))) (pg_name (i := 3) nd rfl (Or.inl rfl)) (pss_cons (ps_asg (pe_call (ok_steps_at T) (hr.mono (by decide)) rfl T.g_steps_at T.k_steps_at T.b_steps_at .nil pass0 (pa_cons (pv 0) (pa_cons (pv 2) (pa_cons (pe_ix (ixT_ K rfl) (pe_glob (v := .ref _) rfl T.g_MOST rfl) (pv 3) (fun _ _ => rfl)) (pa_cons (pv 3) pa_nil))))) (pg_tup_ K rfl rfl (n := 2) (pgs_cons (pg_name (i := 4) nd rfl (Or.inl rfl)) (pgs_cons (pg_name (i := 2) nd rfl (Or.inl rfl)) pgs_nil))))
        (pss_one (ps_expr (pe_bm PySem.F.plainAttrs_list PySem.F.slot_list_append PySem.F.type_list_append mt_append (pv 1) (pa_cons (pv 4) pa_nil))))))
      (pss_cons (ps_expr (pe_bm PySem.F.plainAttrs_list PySem.F.slot_list_append PySem.F.type_list_append mt_append (pv 1) (pa_cons (pe_call (ok_small_byte T) (hr.mono (by decide)) rfl T.g_small_byte T.k_small_byte T.b_small_byte .nil pass0 (pa_cons (pv 0) (pa_cons (pv 2) (pa_cons pe_int pa_nil)))) pa_nil)))
      (pss_cons (ps_asg (pe_call (ok_steps_at T) (hr.mono (by decide)) rfl T.g_steps_at T.k_steps_at T.b_steps_at .nil pass0 (pa_cons (pv 0) (pa_cons (pe_op op_add (pv 2) pe_int) (pa_cons (pe_gint T.i_MOST_BODY_leaves) (pa_cons pe_int pa_nil))))) (pg_tup_ K rfl rfl (n := 2) (pgs_cons (pg_name (i := 5) nd rfl (Or.inl rfl)) (pgs_cons (pg_name (i := 6) nd rfl (Or.inl rfl)) pgs_nil))))
      (pss_cons (ps_set (i := 7) nd rfl (Or.inl rfl) (pe_op op_add (pv 6) (pv 5)))
      (pss_cons (ps_if (pt_cmpR op_gt (pv 7) (pe_callB (lenS_ K rfl) rfl T.n_len boot_len (pa_cons (pv 0) pa_nil)) (nomark _)) (pss_one ps_never) pss_nil)
      (pss_cons (ps_if (PW.pt (pw_or (pt_cmpR op_ne (pe_callB (lenS_ K rfl) rfl T.n_len boot_len (pa_cons (pv 0) pa_nil)) (pe_op op_add (pv 7) pe_int) (nomark _)) (pw_or1 (pt_cmpR op_ne (pe_call (ok_number_of T) (hr.mono (by decide)) rfl T.g_number_of T.k_number_of T.b_number_of .nil pass0 (pa_cons (pe_slice sl_list (pv 0) (po_some (pv 7)) po_none) pa_nil)) (pe_call (ok_checksum T) (hr.mono (by decide)) rfl T.g_checksum T.k_checksum T.b_checksum .nil pass0 (pa_cons (pe_slice sl_list (pv 0) po_none (po_some (pv 7))) pa_nil)) (nomark _))))) (pss_one ps_never) pss_nil)
      (pss_cons (ps_expr (pe_bm PySem.F.plainAttrs_list PySem.F.slot_list_append PySem.F.type_list_append mt_append (pv 1) (pa_cons (pe_slice sl_list (pv 0) (po_some (pv 6)) (po_some (pv 7))) pa_nil)))
      (pss_one (ps_ret (pe_callTy call_tuple_of rfl T.n_tuple boot_tuple (pa_cons (pv 1) pa_nil)))))))))))))), ?_⟩
  generalize hW : wr l = W at *
  have w0 : W[0]? = some l.kind := by rw [hp]; rfl
  have d1 : W.drop 1 = four l.stamp.toNat ++ (W.drop 5) := by rw [hp]; rfl
  have d5 : W.drop 5 = four l.number.toNat ++ (W.drop 9) := by rw [hp]; rfl
  have hsz : 13 ≤ W.length := by
    rw [hp]
    simp only [List.length_append, four_len, List.length_cons, List.length_nil]
    have := putS_pos l.track.toNat
    simp
    omega
  let fs : List Nat := [l.track.toNat, l.ordinal.toNat, l.time.toNat, l.span.toNat]
  let tl : List Int := [l.key] ++ (putS l.body.length ++ (l.body ++ four (crc (hdr l)).toNat))
  have d9 : W.drop 9 = fs.flatMap putS ++ tl := by rw [hp]; rfl
  let ms : List Int := [15, 16777215, 1099511627775, 16777215]
  have bnd : ∀ (i n : Nat), fs[i]? = some n → n < 1099511627776 ∧ ∃ m, mostV[3 + i]? = some (.int m) ∧ (n : Int) ≤ m := by
    have := wf.track; have := wf.ordinal; have := wf.time; have := wf.span
    intro i n hn
    match i, hn with
    | 0, hn => cases hn; exact ⟨by omega, _, rfl, by omega⟩
    | 1, hn => cases hn; exact ⟨by omega, _, rfl, by omega⟩
    | 2, hn => cases hn; exact ⟨by omega, _, rfl, by omega⟩
    | 3, hn => cases hn; exact ⟨by omega, _, rfl, by omega⟩
    | i + 4, hn => simp [fs] at hn
  have st := wf.stamp; have nu := wf.number; have ki := wf.kind; have ke := wf.key
  -- fields = [small_byte(..), word_at(..), word_at(..)]
  refine ⟨_, rfl, a, W, 0, 0, l.kind, 4, rfl, ha, w0, rfl, ki.2, _, rfl, a, W, 1, l.stamp.toNat, 1, _, rfl, ha, by omega, by omega, d1, by omega, fun H1 s1 => ?_⟩
  refine ⟨_, rfl, a, W, 5, l.number.toNat, 2, _, rfl, ha.mono s1, by omega, by omega, d5, by omega, fun H2 s2 => ?_⟩
  refine ⟨lsz (by simp), fun f nf => ?_⟩
  have s02 := s1.trans s2
  have nF : H f = none := s02.free nf
  rw [Int.toNat_of_nonneg st.1, Int.toNat_of_nonneg nu.1]
  let v0 : List V := [.int l.kind, .int l.stamp, .int l.number]
  let vf : List V := fs.map fun (n : Nat) => V.int (n : Int)
  refine ⟨3, 7, rfl, by decide, for_range (lo := 3) (n := 4) (fun i σ H' => ∃ (u v : Option V) (at_ : Nat), σ = [some (.ref a), some (.ref f), some (.int at_), u, v, none, none, none] ∧ Same H H' ∧ H' f = some (.lst (v0 ++ vf.take i)) ∧ W.drop at_ = (fs.drop i).flatMap putS ++ tl ∧ at_ ≤ W.length)
    ⟨none, none, 9, rfl, s02.add nf, upd_same, d9, by omega⟩ ?_ ?_⟩
  · rintro i σ H' hi ⟨u, v, at_, rfl, s, hf, hd, hat⟩
    obtain ⟨n, hn⟩ : ∃ n, fs[i]? = some n := ⟨_, List.getElem?_eq_getElem (by simpa [fs] using hi)⟩
    obtain ⟨b1, m, hm, b2⟩ := bnd i n hn
    have hdr' : fs.drop i = n :: fs.drop (i + 1) := by
      obtain ⟨q1, q2⟩ := List.getElem?_eq_some_iff.mp hn
      rw [List.drop_eq_getElem_cons q1, q2]
    rw [hdr', List.flatMap_cons, List.append_assoc] at hd
    refine ⟨_, rfl, _, rfl, _, rfl, _, _, _, _, rfl, rfl, T.t_MOST _, at0 (i := 3 + i) (by omega) hm, _, rfl, a, W, at_, n, m, _, _, rfl, ha.mono s, by omega, b1, b2, hd, hat, fun p H3 s3 n3 h3 => ?_⟩
    refine ⟨p, _, rfl, SqT.of h3, rfl, _, _, rfl, _, _, rfl, rfl, ?_⟩
    refine ⟨_, rfl, .inl ⟨rfl, _, SqL.of (s3 _ _ hf)⟩, _, rfl, f, _, _, rfl, rfl, s3 _ _ hf, lsz' (by simp [v0, vf]; omega), _, _, at_ + (putS n).length, rfl, (s.trans s3).mut nF, ?_, ?_, ?_⟩
    · rw [upd_same, List.append_assoc, take_snoc (l := vf) (by show (fs.map _)[i]? = _; rw [List.getElem?_map, hn]; rfl)]
    · rw [← List.drop_drop, hd, List.drop_left]
    · have := congrArg List.length hd
      rw [List.length_drop, List.length_append] at this
      omega
  rintro σ H3 ⟨u, v, at_, rfl, s3, hf, hd, hat⟩
  have hd : W.drop at_ = tl := hd
  have htl : tl.length = 1 + (putS l.body.length).length + l.body.length + 4 := by simp [tl, four_len]; omega
  have hWl : W.length = at_ + tl.length := by
    have := congrArg List.length hd
    rw [List.length_drop] at this
    omega
  have hf : H3 f = some (.lst (v0 ++ vf)) := hf
  have dk : W.drop (at_ + 1) = putS l.body.length ++ (l.body ++ four (crc (hdr l)).toNat) := by
    rw [← List.drop_drop, hd]
    rfl
  have hbl := wf.len
  have w1 : W[at_]? = some l.key := head_at hd
  refine ⟨_, rfl, .inl ⟨rfl, _, SqL.of hf⟩, _, rfl, _, rfl, a, W, at_, 7, l.key, 1, rfl, ha.mono s3, w1, rfl, ke.2, ?_⟩
  refine ⟨f, _, _, rfl, rfl, hf, lsz' (by simp [v0, vf, fs]), ?_⟩
  have s4 : Same H (upd H3 f (.lst (v0 ++ vf ++ [.int l.key]))) := s3.mut nF
  have hf4 : upd H3 f (.lst (v0 ++ vf ++ [.int l.key])) f = some (.lst (v0 ++ vf ++ [.int l.key])) := upd_same
  generalize upd H3 f (.lst (v0 ++ vf ++ [.int l.key])) = H4 at s4 hf4
  refine ⟨_, rfl, _, rfl, _, _, rfl, rfl, a, W, at_ + 1, l.body.length, 1024, 8, _, by simp, ha.mono s4, by omega, by omega, by omega, dk, by omega, fun p H5 s5 n5 h5 => ?_⟩
  refine ⟨p, _, rfl, SqT.of h5, rfl, _, _, rfl, _, _, rfl, rfl, ?_⟩
  have s45 := s4.trans s5
  have hf5 := s5 _ _ hf4
  generalize hstart : at_ + 1 + (putS l.body.length).length = start at *
  refine ⟨_, rfl, _, rfl, _, _, rfl, rfl, _, rfl, _, rfl, _, _, rfl, .inl (ha.mono s45).sq, _, _, rfl, rfl, _, rfl, yF (by simp; omega) ?_⟩
  have dstart : W.drop start = l.body ++ four (crc (hdr l)).toNat := by
    rw [← hstart, ← List.drop_drop, dk, List.drop_left]
  have dstop : W.drop (start + l.body.length) = four (crc (hdr l)).toNat := by
    rw [← List.drop_drop, dstart, List.drop_left]
  have tstop : W.take (start + l.body.length) = hdr l := by
    have e : W = hdr l ++ four (crc (hdr l)).toNat := by rw [← hW]; rfl
    have el : (hdr l).length = start + l.body.length := by
      have := congrArg List.length e
      rw [List.length_append, four_len] at this
      omega
    rw [e, ← el, List.take_left]
  refine ⟨_, rfl, _, _, rfl, .inl (ha.mono s45).sq, _, rfl, _, _, rfl, rfl, rfl, _, rfl, ifF (nb_f ?_) ?_⟩
  · congr 1
    simp
    omega
  refine ⟨_, rfl, _, rfl, _, rfl, _, _, rfl, (ha.mono s45).sq, fun p6 n6 => ?_⟩
  have ec0 : cutV (W.map V.int) (some ((start : Int) + (l.body.length : Int))) none = (four (crc (hdr l)).toNat).map V.int := by
    rw [show (start : Int) + (l.body.length : Int) = ((start + l.body.length : Nat) : Int) by omega, cut_from (by omega), dstop]
  rw [ec0]
  refine ⟨p6, (crc (hdr l)).toNat, rfl, by unfold W32 at c32; omega, upd_same, ?_⟩
  have s6 : Same H (upd H5 p6 (.lst ((four (crc (hdr l)).toNat).map V.int))) := s45.add n6
  have hf6 := upd_keep (o := .lst ((four (crc (hdr l)).toNat).map V.int)) hf5 n6
  refine ⟨_, rfl, _, rfl, _, rfl, _, _, rfl, (ha.mono s6).sq, fun p7 n7 => ?_⟩
  have ec : cutV (W.map V.int) none (some ((start : Int) + (l.body.length : Int))) = (hdr l).map V.int := by
    rw [show (start : Int) + (l.body.length : Int) = ((start + l.body.length : Nat) : Int) by omega, cut_to (by omega), tstop]
  rw [ec]
  refine ⟨p7, _, rfl, upd_same, rfl, _, rfl, ifF (nb_f ?_) ?_⟩
  · rw [Int.toNat_of_nonneg c32.1]
  have s7 := s6.add (o := .lst ((hdr l).map V.int)) n7
  have hf7 := upd_keep (o := .lst ((hdr l).map V.int)) hf6 n7
  refine ⟨_, rfl, .inl ⟨rfl, _, SqL.of hf7⟩, _, rfl, _, rfl, _, rfl, _, rfl, _, rfl, _, _, rfl, (ha.mono s7).sq, fun p8 n8 => ?_⟩
  have ec2 : cutV (W.map V.int) (some (start : Int)) (some ((start : Int) + (l.body.length : Int))) = l.body.map V.int := by
    rw [show (start : Int) + (l.body.length : Int) = ((start + l.body.length : Nat) : Int) by omega, cut_nat (by omega) (by omega) (by omega), dstart, show start + l.body.length - start = l.body.length by omega, List.take_left]
  rw [ec2]
  have s8 := s7.add (o := .lst (l.body.map V.int)) n8
  have hf8 := upd_keep (o := .lst (l.body.map V.int)) hf7 n8
  refine ⟨f, _, _, rfl, rfl, hf8, lsz' (by simp [v0, vf, fs]), ?_⟩
  refine ⟨_, rfl, f, _, rfl, .inl ⟨SqL.of upd_same, fun t nt => ?_⟩⟩
  have npf : p8 ≠ f := (ne_of_none hf7 n8).symm
  refine k _ (.ref t) ((s8.mut nF).add nt) ⟨t, p8, rfl, fresh_of ?_ ((s8.mut nF).free nt), fresh_of ?_ (s7.free n8)⟩
  · rw [upd_same]
    simp only [v0, vf, fs, List.map_cons, List.map_nil, List.cons_append, List.nil_append, Int.toNat_of_nonneg wf.track.1, Int.toNat_of_nonneg wf.ordinal.1, Int.toNat_of_nonneg wf.time.1, Int.toNat_of_nonneg wf.span.1]
  · exact upd_keep (by rw [upd_ne npf]; exact upd_same) nt
end
end Sp
namespace Sp
open PySem PySem.Spec PyProof.Rows L2
theorem Li.keep {H : Hp} {a q : Addr} {xs : List Int} {o : HO} (h : Li H a xs) (hq : H q = none) : Li (upd H q o) a xs := upd_keep h hq
/-- f is a new list that grows; its items are new, apart from f -/
def Acc {α : Type} (c : Cd α) (H H' : Hp) (f : Addr) (vs : List V) (xs : List α) : Prop := H f = none ∧ H' f = some (.lst vs) ∧ Paired (c.R (del (fresh' H H') f)) vs xs
theorem df_upd {H H' : Hp} {f : Addr} {o : HO} : del (fresh' H (upd H' f o)) f = del (fresh' H H') f := by
  funext a
  by_cases e : a = f
  · subst e
    rw [del_same, del_same]
  · rw [del_ne e, del_ne e]
    unfold fresh'
    rw [upd_ne e]
theorem df_at {H H' : Hp} {f a : Addr} {o : HO} (h : H' a = some o) (n : H a = none) (ne : a ≠ f) : del (fresh' H H') f a = some o := by
  rw [del_ne ne]
  exact fresh_of h n
theorem df_mono {H H' H'' : Hp} {f : Addr} (s : Same H' H'') : Same (del (fresh' H H') f) (del (fresh' H H'') f) := del_mono (fresh_mono s)
/-- what a call made anew, f being there ahead of it -/
theorem df_call {H H1 H2 : Hp} {f : Addr} {o : HO} (s : Same H H1) (hf : H1 f = some o) : Same (fresh' H1 H2) (del (fresh' H H2) f) := fun a u h => by
  unfold fresh' at h
  split at h
  · rename_i e
    exact df_at h (s.free e) (fun z => by rw [z, hf] at e; cases e)
  · cases h
section
variable {α : Type} {c : Cd α} {H H' H'' : Hp} {f : Addr} {vs : List V} {xs : List α}
theorem Acc.nil (n : H f = none) (h : H' f = some (.lst [])) : Acc c H H' f [] [] := ⟨n, h, .nil⟩
theorem Acc.mono (A : Acc c H H' f vs xs) (s : Same H' H'') : Acc c H H'' f vs xs := ⟨A.1, s _ _ A.2.1, pmap A.2.2 fun _ _ r => c.mono (df_mono s) r⟩
theorem Acc.new (A : Acc c H H' f vs xs) {q : Addr} {o : HO} (n : H' q = none) : Acc c H (upd H' q o) f vs xs := A.mono (Same.new n)
theorem Acc.push (A : Acc c H H' f vs xs) {v : V} {x : α} (h : c.R (del (fresh' H H') f) v x) : Acc c H (upd H' f (.lst (vs ++ [v]))) f (vs ++ [v]) (xs ++ [x]) := by
  refine ⟨A.1, upd_same, ?_⟩
  rw [df_upd]
  exact papp A.2.2 (.cons h .nil)
theorem Acc.len (A : Acc c H H' f vs xs) : vs.length = xs.length := A.2.2.length
theorem Acc.done (A : Acc c H H' f vs xs) : (cL c).R (fresh' H H') (.ref f) xs := ⟨f, vs, rfl, fresh_of A.2.1 A.1, pmap A.2.2 fun _ _ r => c.mono (del_sub _ _) r⟩
theorem Acc.done' (A : Acc c H H' f vs xs) : (cL c).R H' (.ref f) xs := (cL c).mono (fresh_sub _ _) A.done
/-- the list is changed elsewhere, at m, an object that no item knows -/
theorem Acc.at (A : Acc c H H' f vs xs) : H' f = some (.lst vs) := A.2.1
theorem Acc.free (A : Acc c H H' f vs xs) : H f = none := A.1
theorem Acc.ne (A : Acc c H H' f vs xs) {q : Addr} (n : H' q = none) : q ≠ f := (ne_of_none A.2.1 n).symm
end
end Sp
namespace Sp
open PySem PySem.Spec PyProof.Rows L2
/-- the places of the zeros -/
def zerosFrom (z : Nat) : List Int → List Int
  | [] => []
  | x :: xs => (if x = 0 then [(z : Int)] else []) ++ zerosFrom (z + 1) xs
theorem zerosFrom_app : ∀ (a b : List Int) (z : Nat), zerosFrom z (a ++ b) = zerosFrom z a ++ zerosFrom (z + a.length) b
  | [], b, z => by simp [zerosFrom]
  | x :: a, b, z => by
    rw [List.cons_append, zerosFrom, zerosFrom, zerosFrom_app a b (z + 1), List.append_assoc, List.length_cons, show z + 1 + a.length = z + (a.length + 1) by omega]
theorem zerosFrom_none : ∀ (a : List Int) (z : Nat), (∀ x ∈ a, x ≠ 0) → zerosFrom z a = []
  | [], _, _ => rfl
  | x :: a, z, h => by rw [zerosFrom, if_neg (h x (by simp)), zerosFrom_none a (z + 1) fun y hy => h y (by simp [hy])]; rfl
def zpos (z : Nat) : List (List Int) → List Int
  | [] => [(z : Int)]
  | s :: r => (z : Int) :: zpos (z + 1 + s.length) r
theorem segs_cons (s : List Int) (r : List (List Int)) : segs (s :: r) = [0] ++ (s ++ segs r) := by simp [segs]
theorem zeros_segs : ∀ (ss : List (List Int)) (z : Nat), (∀ s ∈ ss, ∀ x ∈ s, x ≠ 0) → zerosFrom z (segs ss) = zpos z ss
  | [], z, _ => by simp [segs, zerosFrom, zpos]
  | s :: r, z, h => by
    rw [segs_cons, zerosFrom_app, zerosFrom_app, zerosFrom_none s _ (h s (by simp)), zeros_segs r _ fun t ht => h t (by simp [ht])]
    simp [zerosFrom, zpos]
/-- the places of the pieces, with the pieces -/
def placesS (z : Nat) : List (List Int) → List (Int × Int × List Int)
  | [] => []
  | s :: r => (if s = [] then [] else [((z : Int) + 1, (z : Int) + 1 + (s.length : Int), s)]) ++ placesS (z + 1 + s.length) r
def placesOf (ss : List (List Int)) : List (Int × Int) := (placesS 0 ss).map fun t => (t.1, t.2.1)
theorem placesS_map : ∀ (ss : List (List Int)) (z : Nat), (placesS z ss).map (fun t => t.2.2) = ss.filter (fun s => decide (s ≠ []))
  | [], _ => rfl
  | s :: r, z => by
    rw [placesS, List.map_append, placesS_map r, List.filter_cons]
    by_cases h : s = []
    · subst h; simp
    · simp [h]
theorem placesS_cut : ∀ (ss : List (List Int)) (z : Nat) (pre : List Int), pre.length = z → ∀ t ∈ placesS z ss, ∃ i j : Nat, t.1 = i ∧ t.2.1 = j ∧ i ≤ j ∧ j ≤ (pre ++ segs ss).length ∧ ((pre ++ segs ss).drop i).take (j - i) = t.2.2
  | [], _, _, _, t, ht => by simp [placesS] at ht
  | s :: r, z, pre, hz, t, ht => by
    rw [placesS] at ht
    rcases List.mem_append.mp ht with ht | ht
    · by_cases hs : s = []
      · rw [if_pos hs] at ht; cases ht
      · rw [if_neg hs, List.mem_singleton] at ht
        subst ht
        refine ⟨z + 1, z + 1 + s.length, by simp, by simp, by omega, by rw [segs_cons]; simp; omega, ?_⟩
        rw [segs_cons, ← List.append_assoc, show z + 1 = (pre ++ [0]).length by simp; omega, List.drop_left, Nat.add_sub_cancel_left, List.take_left]
    · have := placesS_cut r (z + 1 + s.length) (pre ++ ([0] ++ s)) (by simp; omega) t ht
      rw [segs_cons]
      simpa [List.append_assoc] using this
section
variable {P : Program} {w : World} {K : PySem.W.Frag} {mg : Str → Option Value} {base : Heap}
def spPlaces : Sp := fun vs H Q _ => ∃ (a : Addr) (ss : List (List Int)), vs = [.ref a] ∧ Li H a (segs ss) ∧ (segs ss).length ≤ 1000000 ∧ (∀ s ∈ ss, ∀ x ∈ s, x ≠ 0) ∧ ∀ H' v, Same H H' → (cL cPair).R (fresh' H H') v (placesOf ss) → Q v H'
theorem zpos_len : ∀ (ss : List (List Int)) (z : Nat), (zpos z ss).length = ss.length + 1
  | [], _ => rfl
  | s :: r, z => by rw [zpos, List.length_cons, zpos_len r, List.length_cons]
theorem segs_len (ss : List (List Int)) : ss.length + 1 ≤ (segs ss).length := by
  induction ss with
  | nil => simp [segs]
  | cons s r ih => rw [segs_cons]; simp; omega
/-- what the loop over the zeros has made behind i turns -/
def plTake (i : Nat) (ss : List (List Int)) : List (Int × Int) := placesOf (ss.take i)
theorem plStep : ∀ (ss : List (List Int)) (z i : Nat) (s : List Int), ss[i]? = some s → ∃ zi : Nat, (zpos z ss)[i]? = some (zi : Int) ∧ (zpos z ss)[i + 1]? = some ((zi + 1 + s.length : Nat) : Int) ∧
    placesS z (ss.take (i + 1)) = placesS z (ss.take i) ++ (if s = [] then [] else [((zi : Int) + 1, (zi : Int) + 1 + (s.length : Int), s)])
  | [], _, i, s, h => by simp at h
  | t :: r, z, 0, s, h => by
    cases h
    refine ⟨z, rfl, ?_, by simp [placesS]⟩
    cases r <;> rfl
  | t :: r, z, i + 1, s, h => by
    obtain ⟨zi, a, b, c⟩ := plStep r (z + 1 + t.length) i s h
    refine ⟨zi, a, b, ?_⟩
    rw [List.take_succ_cons, List.take_succ_cons, placesS, placesS, c, List.append_assoc]
theorem ok_places (T : Txt K mg) : FnOk P w K mg base CX0 1 (ga K "places") (fdAt K (ga K "places")) ["row"] spPlaces := by
  refine okD T.F_places sc_places (fun vs H Q E h => ?_) (fun cdv A outer s H vs Q E hr h => ?_)
  · obtain ⟨a, ss, rfl, _⟩ := h
    rfl
  obtain ⟨a, ss, rfl, ha, hlen, hz, k⟩ := h
  have nd := sc_places.nd
  refine ⟨_, ((pss_cons (ps_setLc (i := 1) (own := [("k", 2)]) rfl nd rfl rfl (sw_true rfl rfl rfl (by decide +kernel)) (pi_range1 rfl T.n_range (pa_cons (pe_callB (lenS_ K rfl) rfl T.n_len boot_len (pa_cons (pv 0) pa_nil)) pa_nil)) (blkOk_by (N := N_places) (sc := defScope s_places) (by decide +kernel)) (fun _ _ _ _ _ => (pg_name (i := 2) nd rfl (Or.inl rfl))) (fun _ _ _ _ _ => (pts_one (pt_cmpR op_eq (pe_ix (ixL_ K rfl) (pv 0) (pv 2) (fun _ _ => rfl)) pe_int (nomark _)))) (fun _ _ _ _ _ => (pv 2)))
      (pss_cons (ps_set (i := 3) nd rfl (Or.inl rfl) (pe_lst pa_nil))
      (pss_cons (ps_for PassesOwn.never rfl (pi_zip rfl T.n_zip (pa_cons (pv 1) (pa_cons (pe_slice sl_list (pv 1) (po_some pe_int) po_none) pa_nil))) (pg_tup_ K rfl rfl (n := 2) (pgs_cons (pg_name (i := 4) nd rfl (Or.inl rfl)) (pgs_cons (pg_name (i := 5) nd rfl (Or.inl rfl)) pgs_nil))) (pss_one (ps_if (pt_cmpR op_lt (pe_op op_add (pv 4) pe_int) (pv 5) (nomark _)) (pss_one (ps_expr (pe_bm PySem.F.plainAttrs_list PySem.F.slot_list_append PySem.F.type_list_append mt_append (pv 3) (pa_cons (pe_tup (pa_cons (pe_op op_add (pv 4) pe_int) (pa_cons (pv 5) pa_nil))) pa_nil)))) pss_nil)))
      (pss_one (ps_ret (pv 3))))))), ?_⟩
  have hsl := segs_len ss
  refine ⟨_, rfl, _, _, rfl, .inl ha.sq, _, rfl, by omega, by simp; omega, fun D hD => lc_range (lo := 0) (n := ((segs ss).map V.int).length) (fun i H' => H' = upd H D (.lst ((zerosFrom 0 ((segs ss).take i)).map V.int))) rfl ?_ ?_⟩
  · rintro i H' hi rfl
    rw [List.length_map] at hi
    have hx : (segs ss)[i]? = some (segs ss)[i] := List.getElem?_eq_getElem hi
    have hzl : ∀ l : List Int, ∀ z, (zerosFrom z l).length ≤ l.length := by
      intro l
      induction l with
      | nil => intro z; simp [zerosFrom]
      | cons x l ih => intro z; rw [zerosFrom]; have := ih (z + 1); split <;> simp <;> omega
    have hzi := hzl ((segs ss).take i) 0
    rw [List.length_take, Nat.min_eq_left (by omega)] at hzi
    refine ⟨rfl, _, rfl, _, rfl, _, _, _, _, rfl, rfl, (ha.keep hD).sq, at0 (i := i) (by omega) (by rw [List.getElem?_map, hx]; rfl), rfl, _, rfl, ?_⟩
    rw [take_snoc hx, zerosFrom_app, List.length_take, Nat.min_eq_left (by omega)]
    by_cases c : (segs ss)[i] = 0
    · refine ifT (bl_t (congrArg V.int c)) ⟨_, rfl, _, upd_same, lsz' (by simp; omega), ?_⟩
      rw [upd_upd, zerosFrom, if_pos c]
      simp [zerosFrom]
    · refine ifF (bl_f fun q => c (V.int.inj q)) ?_
      rw [zerosFrom, if_neg c]
      simp [zerosFrom]
  rintro H' rfl
  rw [List.length_map, List.take_length, zeros_segs ss 0 hz]
  have hD' : Li (upd H D (.lst ((zpos 0 ss).map V.int))) D (zpos 0 ss) := upd_same
  have sD : Same H (upd H D (.lst ((zpos 0 ss).map V.int))) := Same.new hD
  generalize upd H D (.lst ((zpos 0 ss).map V.int)) = H1 at hD' sD
  -- found = []; for start, stop in zip(zeros, zeros[1:])
  refine ⟨Nat.zero_le _, fun f nf => ⟨_, rfl, _, rfl, _, rfl, _, _, rfl, (hD'.keep nf).sq, fun y ny => ?_⟩⟩
  have hzl := zpos_len ss 0
  rw [show (1 : Int) = ((1 : Nat) : Int) by rfl, cut_from (by omega)]
  have nF : H f = none := sD.free nf
  have nfy : f ≠ y := ne_of_none upd_same ny
  have nY : H y = none := (sD.add nf).free ny
  have hF : upd (upd H1 f (.lst [])) y (.lst (((zpos 0 ss).drop 1).map V.int)) f = some (.lst []) := upd_keep upd_same ny
  have hY : Li (upd (upd H1 f (.lst [])) y (.lst (((zpos 0 ss).drop 1).map V.int))) y ((zpos 0 ss).drop 1) := upd_same
  have hD2 : Li (upd (upd H1 f (.lst [])) y (.lst (((zpos 0 ss).drop 1).map V.int))) D (zpos 0 ss) := upd_keep (upd_keep hD' nf) ny
  have s2 : Same H1 (upd (upd H1 f (.lst [])) y (.lst (((zpos 0 ss).drop 1).map V.int))) := (Same.new nf).add ny
  generalize upd (upd H1 f (.lst [])) y (.lst (((zpos 0 ss).drop 1).map V.int)) = H2 at hF hY hD2 s2
  have nDf : D ≠ f := ne_of_none hD' nf
  refine ⟨D, y, _, _, rfl, hD2.sq, hY.sq, for_zipS (K := K) (a := D) (b := y) (xs := (zpos 0 ss).map V.int) (ys := ((zpos 0 ss).drop 1).map V.int) (by simp) (fun i σ H' => ∃ (u v : Option V) (zz : Option V) (vs : List V), σ = [some (.ref a), some (.ref D), zz, some (.ref f), u, v] ∧ Same H H' ∧ Li H' D (zpos 0 ss) ∧ Li H' y ((zpos 0 ss).drop 1) ∧ H' f = some (.lst vs) ∧ Paired (cPair.R (del (fresh' H H') f)) vs (plTake i ss))
    ⟨none, none, none, [], rfl, sD.trans s2, hD2, hY, hF, .nil⟩ (fun i σ H' ⟨_, _, _, _, _, _, h1, h2, _⟩ => ⟨h1.sq, h2.sq⟩) ?_ ?_⟩
  · rintro i x y' t σ H' hx hy ⟨u, v, zz, vs, rfl, s, h1, h2, h3, h4⟩ nt
    have hi : i < ss.length := by have := lt_of_at hy; simp at this; omega
    obtain ⟨zi, e1, e2, e3⟩ := plStep ss 0 i ss[i] (List.getElem?_eq_getElem hi)
    have hx' : x = .int zi := by rw [List.getElem?_map, e1] at hx; exact (Option.some.inj hx).symm
    have hy' : y' = .int ((zi + 1 + ss[i].length : Nat) : Int) := by
      rw [List.getElem?_map, List.getElem?_drop, Nat.add_comm 1 i, e2] at hy
      exact (Option.some.inj hy).symm
    subst hx' hy'
    have s' := s.add (o := .tup [.int zi, .int ((zi + 1 + ss[i].length : Nat) : Int)]) nt
    have k3 := upd_keep (o := .tup [.int zi, .int ((zi + 1 + ss[i].length : Nat) : Int)]) h3 nt
    have hvl : vs.length ≤ ss.length := by
      rw [h4.length, plTake, placesOf, List.length_map, ← List.length_map (f := fun t => t.2.2), placesS_map]
      exact Nat.le_trans (List.length_filter_le _ _) (by rw [List.length_take]; omega)
    have m4 : Paired (cPair.R (del (fresh' H (upd H' t (.tup [.int zi, .int ((zi + 1 + ss[i].length : Nat) : Int)]))) f)) vs (plTake i ss) := pmap h4 fun _ _ r => cPair.mono (del_mono (fresh_mono (Same.new nt))) r
    refine ⟨t, _, rfl, SqT.of upd_same, rfl, _, _, rfl, _, _, rfl, rfl, ?_⟩
    refine ⟨_, rfl, _, _, rfl, rfl, _, rfl, _, _, rfl, rfl, _, rfl, ?_⟩
    by_cases c : ss[i] = []
    · refine yF (by rw [c]; simp) ⟨_, _, _, vs, rfl, s', upd_keep h1 nt, upd_keep h2 nt, k3, ?_⟩
      rw [plTake, placesOf, e3, if_pos c, List.append_nil]
      exact m4
    · have hl : 0 < ss[i].length := List.length_pos_iff.mpr c
      refine yT (by omega) ⟨_, rfl, .inl ⟨rfl, _, SqL.of k3⟩, _, rfl, _, _, rfl, rfl, _, rfl, lsz (by simp), fun q nq => ?_⟩
      have k4 := upd_keep (o := .tup [.int ((zi : Int) + 1), .int ((zi + 1 + ss[i].length : Nat) : Int)]) k3 nq
      have s4 := s'.add (o := .tup [.int ((zi : Int) + 1), .int ((zi + 1 + ss[i].length : Nat) : Int)]) nq
      have nfq : q ≠ f := (ne_of_none k3 nq).symm
      refine ⟨f, _, _, rfl, rfl, k4, lsz' (by omega), _, _, _, _, rfl, s4.mut nF, ?_, ?_, upd_same, ?_⟩
      · show upd _ f _ D = _
        rw [upd_ne nDf]
        exact upd_keep (upd_keep h1 nt) nq
      · show upd _ f _ y = _
        rw [upd_ne nfy.symm]
        exact upd_keep (upd_keep h2 nt) nq
      · rw [plTake, placesOf, e3, if_neg c, List.map_append]
        refine (papp (pmap m4 fun _ _ r => cPair.mono ?_ r) (.cons ⟨q, .int ((zi : Int) + 1), .int ((zi + 1 + ss[i].length : Nat) : Int), rfl, ?_, rfl, ?_⟩ .nil))
        · intro b o hb
          have nb : b ≠ f := fun z => by rw [z, del_same] at hb; cases hb
          rw [del_ne nb] at hb ⊢
          refine fresh_of ?_ ?_
          · rw [upd_ne nb]
            exact upd_keep (fresh_sub _ _ _ _ hb) nq
          · unfold fresh' at hb
            split at hb
            · assumption
            · cases hb
        · rw [del_ne nfq]
          refine fresh_of ?_ (s'.free nq)
          rw [upd_ne nfq]
          exact upd_same
        · show V.int _ = V.int _
          congr 1
  · rintro σ H' ⟨u, v, zz, vs, rfl, s, h1, h2, h3, h4⟩
    have e : ss.take (((zpos 0 ss).drop 1).map V.int).length = ss := by
      rw [List.length_map, List.length_drop, hzl]
      simp
    rw [plTake, e] at h4
    refine ⟨_, rfl, k H' (.ref f) s ⟨f, vs, rfl, fresh_of h3 nF, pmap h4 fun _ _ r => cPair.mono (del_sub _ _) r⟩⟩
end
end Sp
namespace Sp
open PySem PySem.Spec PyProof.Rows L2
section
variable {P : Program} {w : World} {K : PySem.W.Frag} {mg : Str → Option Value} {base : Heap}
theorem fresh_none {H H' : Hp} {x : Addr} {o : HO} (h : H x = some o) : fresh' H H' x = none := by
  unfold fresh'
  rw [h]
def spLeafAt : Sp := fun vs H Q _ => ∃ (a : Addr) (row : List Int) (i j : Nat) (l : Leaf), vs = [.ref a, .int i, .int j] ∧ Li H a row ∧ i ≤ j ∧ j ≤ row.length ∧ (row.drop i).take (j - i) = piece l ∧ l.Wf ∧ ∀ H' v, Same H H' → cLeaf.R (fresh' H H') v l → Q v H'
theorem ok_leaf_at (T : Txt K mg) : FnOk P w K mg base CX0 4 (ga K "leaf_at") (fdAt K (ga K "leaf_at")) ["row", "start", "stop"] spLeafAt := by
  refine okD T.F_leaf_at sc_leaf_at (fun vs H Q E h => ?_) (fun cdv A outer s H vs Q E hr h => ?_)
  · obtain ⟨a, row, i, j, l, rfl, _⟩ := h
    rfl
  obtain ⟨a, row, i, j, l, rfl, ha, h1, h2, h3, wf, k⟩ := h
  have nd := sc_leaf_at.nd
  refine ⟨_, ((pss_one (ps_try_thru0 (pss_one (ps_ret (pe_call (ok_read_leaf T) (hr.mono (by decide)) rfl T.g_read_leaf T.k_read_leaf T.b_read_leaf .nil pass0 (pa_cons (pe_call (ok_unstuff T) (hr.mono (by decide)) rfl T.g_unstuff T.k_unstuff T.b_unstuff .nil pass0 (pa_cons (pe_slice sl_list (pv 0) (po_some (pv 1)) (po_some (pv 2))) pa_nil)) pa_nil))))))), ?_⟩
  refine ⟨_, rfl, _, rfl, _, rfl, _, rfl, _, rfl, _, _, rfl, ha.sq, fun p np => ?_⟩
  rw [cut_nat h1 h2 (by omega), h3]
  have hb := wr_bytes wf
  refine ⟨p, wr l, rfl, upd_same, hb, by have := wr_len wf; omega, fun p2 H2 s2 n2 h2' => ?_⟩
  refine ⟨p2, l, rfl, h2', wf, fun H3 v s3 r => ?_⟩
  exact k H3 v (((Same.new np).trans s2).trans s3) (cLeaf.mono (fresh_trans ((Same.new np).trans s2)) r)
def spSalvage : Sp := fun vs H Q _ => ∃ (a : Addr) (ss : List (List Int)) (ls : List Leaf), vs = [.ref a] ∧ Li H a (segs ss) ∧ (segs ss).length ≤ 1000000 ∧ ss.filter (fun s => decide (s ≠ [])) = ls.map piece ∧ (∀ l ∈ ls, l.Wf) ∧
  ∀ H' v finds, Same H H' → finds.map (fun t => t.2.2) = ls → (cL cFind).R (fresh' H H') v finds → Q v H'
theorem ok_salvage (T : Txt K mg) : FnOk P w K mg base CX0 5 (ga K "salvage") (fdAt K (ga K "salvage")) ["row"] spSalvage := by
  refine okD T.F_salvage sc_salvage (fun vs H Q E h => ?_) (fun cdv A outer s H vs Q E hr h => ?_)
  · obtain ⟨a, ss, ls, rfl, _⟩ := h
    rfl
  obtain ⟨a, ss, ls, rfl, ha, hlen, hf, wf, k⟩ := h
  have nd := sc_salvage.nd
  have hz : ∀ s ∈ ss, ∀ x ∈ s, x ≠ 0 := fun s hs x hx => by
    have : s ∈ ss.filter (fun s => decide (s ≠ [])) := List.mem_filter.mpr ⟨hs, decide_eq_true (List.ne_nil_of_mem hx)⟩
    rw [hf] at this
    obtain ⟨l, hl, rfl⟩ := List.mem_map.mp this
    have := piece_in (wf l hl) x hx
    omega
  have hpl : (placesS 0 ss).map (fun t => t.2.2) = ls.map piece := (placesS_map ss 0).trans hf
  refine ⟨_, ((pss_cons (ps_set (i := 1) nd rfl (Or.inl rfl) (pe_lst pa_nil))
      (pss_cons (ps_for PassesOwn.never rfl (pi_list (pe_call (ok_places T) (hr.mono (by decide)) rfl T.g_places T.k_places T.b_places .nil pass0 (pa_cons (pv 0) pa_nil))) (pg_tup_ K rfl rfl (n := 2) (pgs_cons (pg_name (i := 2) nd rfl (Or.inl rfl)) (pgs_cons (pg_name (i := 3) nd rfl (Or.inl rfl)) pgs_nil))) (pss_cons (ps_set (i := 4) nd rfl (Or.inl rfl) (pe_call (ok_leaf_at T) (hr.mono (by decide)) rfl T.g_leaf_at T.k_leaf_at T.b_leaf_at .nil pass0 (pa_cons (pv 0) (pa_cons (pv 2) (pa_cons (pv 3) pa_nil)))))
        (pss_one (ps_if (pt_cmpR op_notN (pv 4) pe_non (nomark _)) (pss_one (ps_expr (pe_bm PySem.F.plainAttrs_list PySem.F.slot_list_append PySem.F.type_list_append mt_append (pv 1) (pa_cons (pe_tup (pa_cons (pv 2) (pa_cons (pv 3) (pa_cons (pv 4) pa_nil)))) pa_nil)))) pss_nil))))
      (pss_one (ps_ret (pv 1)))))), ?_⟩
  refine ⟨Nat.zero_le _, fun f nf => ⟨_, rfl, a, ss, rfl, ha.keep nf, hlen, hz, fun H1 v s1 hv => ?_⟩⟩
  have sG1 : Same (fresh' (upd H f (.lst [])) H1) H1 := fresh_sub _ _
  have gf : fresh' (upd H f (.lst [])) H1 f = none := fresh_none upd_same
  generalize fresh' (upd H f (.lst [])) H1 = G at hv sG1 gf
  obtain ⟨q, vs, rfl, hq, hp⟩ := hv
  have A0 : Acc cFind H H1 f [] [] := (Acc.nil (c := cFind) nf upd_same : Acc cFind H (upd H f (.lst [])) f [] []).mono s1
  have sq1 : Same H H1 := (Same.new nf).trans s1
  have hn : ls.length ≤ (segs ss).length - 1 := by
    have h1 : ls.length = (placesS 0 ss).length := by rw [← List.length_map (f := piece), ← hpl, List.length_map]
    have h2 : (placesS 0 ss).length ≤ ss.length := by
      rw [← List.length_map (f := fun t : Int × Int × List Int => t.2.2), placesS_map]
      exact List.length_filter_le _ _
    have := segs_len ss
    omega
  refine ⟨q, rfl, ⟨_, SqL.of (sG1 _ _ hq)⟩, for_list (K := K) (a := q) (xs := vs) (fun i σ H' => ∃ (u v z : Option V) (us : List V) (finds : List Find), σ = [some (.ref a), some (.ref f), u, v, z] ∧ Same H H' ∧ Same G H' ∧ Acc cFind H H' f us finds ∧ finds.map (fun t => t.2.2) = ls.take i)
    ⟨none, none, none, [], [], rfl, sq1, sG1, A0, rfl⟩ (fun i σ H' _ ⟨_, _, _, _, _, _, _, s, _⟩ => SqL.of (s _ _ hq)) ?_ ?_⟩
  · rintro i x σ H' hi ⟨u, v, z, us, finds, rfl, s, sG, A, e⟩
    obtain ⟨pr, hpr, t, x1, x2, rfl, ht, rfl, rfl⟩ := pgetl hp hi
    have hil : i < (placesS 0 ss).length := by have := lt_of_at hpr; simpa [placesOf] using this
    have hi2 : (placesS 0 ss)[i]? = some ((placesS 0 ss)[i]'hil) := List.getElem?_eq_getElem hil
    generalize (placesS 0 ss)[i]'hil = tr at hi2
    have epr : pr = (tr.1, tr.2.1) := by
      rw [placesOf, List.getElem?_map, hi2] at hpr
      exact (Option.some.inj hpr).symm
    obtain ⟨i0, j0, c1, c2, c3, c4, c5⟩ := placesS_cut ss 0 [] rfl tr (List.mem_of_getElem? hi2)
    have hls : ∃ l, ls[i]? = some l ∧ tr.2.2 = piece l := by
      have := congrArg (fun l => l[i]?) hpl
      simp only [List.getElem?_map, hi2, Option.map_some] at this
      cases el : ls[i]? with
      | none => rw [el] at this; cases this
      | some l => rw [el] at this; exact ⟨l, rfl, Option.some.inj this⟩
    obtain ⟨l, hl, hpc⟩ := hls
    subst epr
    have ht' := sG _ _ ht
    refine ⟨t, _, rfl, SqT.of ht', rfl, _, _, rfl, _, _, rfl, rfl, ?_⟩
    refine ⟨_, rfl, _, rfl, _, rfl, a, segs ss, i0, j0, l, by show [V.ref a, V.int tr.1, V.int tr.2.1] = _; rw [c1, c2], ha.mono s, c3, by simpa using c4, by rw [← hpc]; simpa using c5, wf l (List.mem_of_getElem? hl), fun H2 lv s2 r2 => ?_⟩
    obtain ⟨lt, lb, rfl, hlt, hlb⟩ := id r2
    refine ⟨_, rfl, rfl, _, rfl, ifT rfl ⟨_, rfl, .inl ⟨rfl, _, SqL.of (s2 _ _ A.at)⟩, _, rfl, _, rfl, _, rfl, lsz (by simp), fun q2 nq2 => ?_⟩⟩
    have A2 := (A.mono s2).new (o := .tup [.int tr.1, .int tr.2.1, .ref lt]) nq2
    have hul : us.length < 1000000 := by
      have h1 := lt_of_at hl
      rw [A.len, ← List.length_map (f := fun t : Find => t.2.2), e, List.length_take]
      omega
    refine ⟨f, _, _, rfl, rfl, A2.at, lsz' (by omega), _, _, _, _, finds ++ [(tr.1, tr.2.1, l)], rfl, ((s.trans s2).add nq2).mut nf, ((sG.trans s2).add nq2).mut gf, A2.push ⟨q2, .int tr.1, .int tr.2.1, .ref lt, rfl, ?_, rfl, rfl, ?_⟩, ?_⟩
    · exact df_at upd_same ((s.trans s2).free nq2) ((A.mono s2).ne nq2)
    · exact cLeaf.mono ((df_call s A.at).trans (df_mono (Same.new nq2))) r2
    · rw [List.map_append, e, take_snoc hl]
      rfl
  · rintro σ H' ⟨u, v, z, us, finds, rfl, s, sG, A, e⟩
    have hvl : vs.length = ls.length := by rw [hp.length, placesOf, List.length_map, ← List.length_map (f := fun t : Int × Int × List Int => t.2.2), hpl, List.length_map]
    rw [hvl, List.take_length] at e
    exact ⟨_, rfl, k H' _ finds s e A.done⟩
def spFresh : Sp := fun vs H Q _ => ∃ (v : V) (l : Leaf), vs = [v] ∧ cLeaf.R H v l ∧ ∀ H' u, Same H H' → cLeaf.R (fresh' H H') u l → Q u H'
theorem ok_fresh (T : Txt K mg) : FnOk P w K mg base CX0 1 (ga K "fresh") (fdAt K (ga K "fresh")) ["leaf"] spFresh := by
  refine okD T.F_fresh sc_fresh (fun vs H Q E h => ?_) (fun cdv A outer s H vs Q E hr h => ?_)
  · obtain ⟨v, l, rfl, _⟩ := h
    rfl
  obtain ⟨_, l, rfl, ⟨t, b, rfl, ht, hb⟩, k⟩ := h
  have nd := sc_fresh.nd
  refine ⟨_, ((pss_one (ps_ret (pe_op op_catT (pe_slice sl_tup (pv 0) po_none (po_some pe_int)) (pe_tup (pa_cons (pe_callTy (listOf_ K rfl) rfl T.n_list boot_list (pa_cons (pe_ix (ixT_ K rfl) (pv 0) pe_int (fun _ _ => rfl)) pa_nil)) pa_nil)))))), ?_⟩
  refine ⟨_, rfl, _, rfl, t, _, rfl, SqT.of ht, by simp [Leaf.vs, HT.sIx], fun p np => ?_⟩
  refine ⟨_, rfl, _, _, _, _, rfl, rfl, SqT.of (upd_keep ht np), atI_nat (j := 8) rfl, b, _, rfl, .inl (hb.keep np).sq, fun q nq => ⟨lsz (by simp), fun r nr => ?_⟩⟩
  refine ⟨p, r, _, _, rfl, rfl, SqT.of (upd_keep (upd_keep upd_same nq) nr), SqT.of upd_same, by simp [cutV, Leaf.vs, HT.sIx], lsz (by simp [cutV, Leaf.vs, HT.sIx]), fun z => by simp at z, fun _ x nx => ?_⟩
  have s := (((Same.new np).add (o := .lst (l.body.map V.int)) nq).add (o := .tup [.ref q]) nr)
  refine k _ (.ref x) (s.add nx) ⟨x, q, rfl, fresh_of ?_ (s.free nx), fresh_of (upd_keep (upd_keep upd_same nr) nx) ((Same.new np).free nq)⟩
  rw [upd_same]
  rfl
def spGaps : Sp := fun vs H Q _ => ∃ (v : V) (F : List Leaf), vs = [v] ∧ (cL cLeaf).R H v F ∧ F.length ≤ 1000 ∧ (∀ (i : Nat) (l : Leaf), F[i]? = some l → l.number = i) ∧ (∀ l, F.getLast? = some l → l.kind = 4) ∧
  ∀ p H', Same H H' → H p = none → H' p = some (.lst []) → Q (.ref p) H'
theorem ok_gaps (T : Txt K mg) : FnOk P w K mg base CX0 1 (ga K "gaps") (fdAt K (ga K "gaps")) ["leaves"] spGaps := by
  refine okD T.F_gaps sc_gaps (fun vs H Q E h => ?_) (fun cdv A outer s H vs Q E hr h => ?_)
  · obtain ⟨v, F, rfl, _⟩ := h
    rfl
  obtain ⟨_, F, rfl, ⟨a, vs, rfl, ha, hp⟩, hl, hn, hk, k⟩ := h
  have nd := sc_gaps.nd
  refine ⟨_, ((pss_cons (ps_set (i := 1) nd rfl (Or.inl rfl) (pe_lst pa_nil))
      (pss_cons (ps_set (i := 2) nd rfl (Or.inl rfl) pe_int)
      (pss_cons (ps_for PassesOwn.never rfl (pi_list (pv 0)) (pg_name (i := 3) nd rfl (Or.inl rfl)) (pss_cons (ps_if (pt_cmpR op_gt (pe_ix (ixT_ K rfl) (pv 3) pe_int (fun _ _ => rfl)) (pv 2) (nomark _)) (pss_one (ps_expr (pe_bm PySem.F.plainAttrs_list PySem.F.slot_list_append PySem.F.type_list_append mt_append (pv 1) (pa_cons (pe_tup (pa_cons (pv 2) (pa_cons (pe_ix (ixT_ K rfl) (pv 3) pe_int (fun _ _ => rfl)) pa_nil))) pa_nil)))) pss_nil)
        (pss_one (ps_set (i := 2) nd rfl (Or.inl rfl) (pe_op op_add (pe_ix (ixT_ K rfl) (pv 3) pe_int (fun _ _ => rfl)) pe_int)))))
      (pss_cons (ps_if (PW.pt (pw_and (pt_cmpR op_gt (pe_callB (lenS_ K rfl) rfl T.n_len boot_len (pa_cons (pv 0) pa_nil)) pe_int (nomark _)) (pw_and1 (pt_cmpR op_ne (pe_ix (ixT_ K rfl) (pe_ix (ixL_ K rfl) (pv 0) (pe_un un_neg pe_int) (fun _ _ => rfl)) pe_int (fun _ _ => rfl)) (pe_gint T.i_END) (nomark _))))) (pss_one (ps_expr (pe_bm PySem.F.plainAttrs_list PySem.F.slot_list_append PySem.F.type_list_append mt_append (pv 1) (pa_cons (pe_tup (pa_cons (pv 2) (pa_cons (pe_un un_neg pe_int) pa_nil))) pa_nil)))) pss_nil)
      (pss_one (ps_ret (pv 1)))))))), ?_⟩
  refine ⟨Nat.zero_le _, fun f nf => ⟨_, rfl, a, rfl, ⟨_, SqL.of (upd_keep ha nf)⟩, for_list (K := K) (a := a) (xs := vs) (fun i σ H' => H' = upd H f (.lst []) ∧ ∃ u : Option V, σ = [some (.ref a), some (.ref f), some (.int i), u])
    ⟨rfl, none, rfl⟩ (fun i σ H' _ ⟨e, _⟩ => by rw [e]; exact SqL.of (upd_keep ha nf)) ?_ ?_⟩⟩
  · rintro i x σ H' hi ⟨rfl, u, rfl⟩
    obtain ⟨l, hl', t, b, rfl, ht, hb⟩ := pgetl hp hi
    have e := hn i l hl'
    have ht' := upd_keep (o := .lst []) ht nf
    refine ⟨_, rfl, _, _, _, _, rfl, rfl, SqT.of ht', atI_nat (j := 2) rfl, _, rfl, _, _, rfl, rfl, _, rfl, yF (by omega) ⟨_, rfl, _, _, _, _, rfl, rfl, SqT.of ht', atI_nat (j := 2) rfl, _, _, rfl, rfl, rfl, some (.ref t), ?_⟩⟩
    show [some (V.ref a), some (V.ref f), some (V.int (l.number + 1)), some (V.ref t)] = _
    rw [e]
    rfl
  · rintro σ H' ⟨rfl, u, rfl⟩
    have ha' := upd_keep (o := .lst []) ha nf
    refine ⟨_, rfl, _, _, rfl, .inl (SqL.of ha'), _, _, rfl, rfl, _, rfl, ?_⟩
    by_cases c : 0 < vs.length
    · have hF : 0 < F.length := by rw [← hp.length]; exact c
      obtain ⟨l, hlast⟩ : ∃ l, F[F.length - 1]? = some l := ⟨_, List.getElem?_eq_getElem (by omega)⟩
      obtain ⟨x, hx, t, b, rfl, ht, hb⟩ := pget hp hlast
      have hk4 := hk l (by rw [List.getLast?_eq_getElem?]; exact hlast)
      have hm1 : atI vs (-1) = some (V.ref t) := by
        unfold atI ixN
        rw [if_neg (by decide), if_pos (by omega)]
        show vs[((-1 : Int) + (vs.length : Int)).toNat]? = _
        rw [show ((-1 : Int) + (vs.length : Int)).toNat = F.length - 1 by rw [hp.length]; omega]
        exact hx
      refine yT (by omega) ⟨_, rfl, _, rfl, _, _, _, _, rfl, rfl, SqL.of ha', hm1, _, _, _, _, rfl, rfl, SqT.of (upd_keep (o := .lst []) ht nf), atI_nat (j := 0) rfl, rfl, _, rfl, ifF (nb_f (congrArg V.int hk4)) ⟨_, rfl, ?_⟩⟩
      exact k f _ (Same.new nf) nf upd_same
    · refine yF (by omega) (iteF ⟨_, rfl, ?_⟩)
      exact k f _ (Same.new nf) nf upd_same
end
end Sp
namespace Sp
open PySem PySem.Spec PyProof.Rows L2
section
variable {P : Program} {w : World} {K : PySem.W.Frag} {mg : Str → Option Value} {base : Heap}
def spStamps : Sp := fun vs H Q _ => ∃ (v : V) (finds : List Find), vs = [v] ∧ (cL cFind).R H v finds ∧ finds.length ≤ 100000 ∧
  ∀ p H' ys, Same H H' → H p = none → Li H' p ys → ys.Pairwise (· ≤ ·) → ys.Nodup → (∀ x, x ∈ ys ↔ ∃ t ∈ finds, t.2.2.stamp = x) → Q (.ref p) H'
theorem ok_stamps (T : Txt K mg) : FnOk P w K mg base CX0 1 (ga K "stamps") (fdAt K (ga K "stamps")) ["finds"] spStamps := by
  refine okD T.F_stamps sc_stamps (fun vs H Q E h => ?_) (fun cdv A outer s H vs Q E hr h => ?_)
  · obtain ⟨v, finds, rfl, _⟩ := h
    rfl
  obtain ⟨_, finds, rfl, ⟨a, vs, rfl, ha, hp⟩, hlen, k⟩ := h
  have nd := sc_stamps.nd
  refine ⟨_, ((pss_cons (ps_set (i := 1) nd rfl (Or.inl rfl) (pe_lst pa_nil))
      (pss_cons (ps_for PassesOwn.never rfl (pi_list (pv 0)) (pg_tup_ K rfl rfl (n := 3) (pgs_cons (pg_name (i := 2) nd rfl (Or.inl rfl)) (pgs_cons (pg_name (i := 2) nd rfl (Or.inl rfl)) (pgs_cons (pg_name (i := 3) nd rfl (Or.inl rfl)) pgs_nil)))) (pss_one (ps_if (pt_cmpR op_notIn_seq (pe_ix (ixT_ K rfl) (pv 3) pe_int (fun _ _ => rfl)) (pv 1) (by rfl)) (pss_one (ps_expr (pe_bm PySem.F.plainAttrs_list PySem.F.slot_list_append PySem.F.type_list_append mt_append (pv 1) (pa_cons (pe_ix (ixT_ K rfl) (pv 3) pe_int (fun _ _ => rfl)) pa_nil)))) pss_nil)))
      (pss_one (ps_ret (pe_callB cr_sortedI rfl T.n_sorted boot_sorted (pa_cons (pv 1) pa_nil))))))), ?_⟩
  refine ⟨Nat.zero_le _, fun f nf => ⟨_, rfl, a, rfl, ⟨_, SqL.of (upd_keep ha nf)⟩, for_list (K := K) (a := a) (xs := vs) (fun i σ H' => ∃ (u v : Option V) (ns : List Int), σ = [some (.ref a), some (.ref f), u, v] ∧ Same H H' ∧ Li H' f ns ∧ ns.Nodup ∧ ns.length ≤ i ∧ ∀ x, x ∈ ns ↔ ∃ t ∈ finds.take i, t.2.2.stamp = x)
    ⟨none, none, [], rfl, Same.new nf, upd_same, List.nodup_nil, Nat.le_refl _, fun x => by simp⟩ (fun i σ H' _ ⟨_, _, _, _, s, _⟩ => SqL.of (s _ _ ha)) ?_ ?_⟩⟩
  · rintro i x σ H' hi ⟨u, v, ns, rfl, s, hF, hnd, hni, hmem⟩
    obtain ⟨tr, htr, t, x1, x2, x3, rfl, ht, rfl, rfl, lt, lb, rfl, hlt, hlb⟩ := pgetl hp hi
    have hlt' := s _ _ hlt
    have him := lt_of_at htr
    have hmem' : ∀ z, (z ∈ ns ∨ z = tr.2.2.stamp) ↔ ∃ t ∈ finds.take (i + 1), t.2.2.stamp = z := fun z => by
      rw [take_snoc htr, hmem]
      simp only [List.mem_append, List.mem_singleton]
      constructor
      · rintro (⟨t, h1, h2⟩ | rfl)
        · exact ⟨t, .inl h1, h2⟩
        · exact ⟨tr, .inr rfl, rfl⟩
      · rintro ⟨t, h1 | rfl, h2⟩
        · exact .inl ⟨t, h1, h2⟩
        · exact .inr h2.symm
    refine ⟨t, _, rfl, SqT.of (s _ _ ht), rfl, _, _, rfl, _, _, rfl, _, _, rfl, rfl, ?_⟩
    refine ⟨_, rfl, _, _, _, _, rfl, rfl, SqT.of hlt', atI_nat (j := 1) rfl, _, rfl, _, _, rfl, .inl hF.sq, rfl, flat_ints _, _, rfl, ?_⟩
    by_cases c : tr.2.2.stamp ∈ ns
    · refine ifF ?_ ⟨_, _, ns, rfl, s, hF, hnd, by omega, fun z => by rw [← hmem']; constructor; exact .inl; rintro (h | rfl); exact h; exact c⟩
      show (if true = true then !inV _ _ else _) = false
      rw [if_pos rfl, inV_ints, decide_eq_true c]
      rfl
    · refine ifT ?_ ⟨_, rfl, .inl ⟨rfl, _, hF.sq⟩, _, rfl, _, _, _, _, rfl, rfl, SqT.of hlt', atI_nat (j := 1) rfl, f, _, _, rfl, rfl, hF, lsz' (by simp; omega), _, _, ns ++ [tr.2.2.stamp], rfl, s.mut nf, ?_, ?_, by simp; omega, fun z => by rw [← hmem']; simp⟩
      · show (if true = true then !inV _ _ else _) = true
        rw [if_pos rfl, inV_ints, decide_eq_false c]
        rfl
      · show upd _ f _ f = _
        rw [upd_same, mapsnoc]
      · rw [List.nodup_append]
        refine ⟨hnd, by simp, fun y hy z hz e => ?_⟩
        rw [List.mem_singleton] at hz
        subst e hz
        exact c hy
  · rintro σ H' ⟨u, v, ns, rfl, s, hF, hnd, hni, hmem⟩
    refine ⟨_, rfl, f, ns, rfl, hF.sq, fun ys p hperm hle np => ?_⟩
    refine k p _ ys (s.add np) (s.free np) upd_same hle (hperm.nodup_iff.mpr hnd) fun z => ?_
    rw [hperm.mem_iff, hmem, hp.length, List.take_length]
/-- a rising list without doubles that has just the numbers below n -/
theorem rising_range : ∀ (ys : List Int) (z : Int) (n : Nat), ys.Pairwise (· ≤ ·) → ys.Nodup → (∀ x, x ∈ ys ↔ z ≤ x ∧ x < z + n) → ys = (List.range n).map fun (i : Nat) => z + (i : Int)
  | [], z, n, _, _, h => by
    cases n with
    | zero => rfl
    | succ n => have := (h z).mpr ⟨by omega, by omega⟩; cases this
  | y :: ys, z, n, h1, h2, h => by
    obtain ⟨p1, p2⟩ := List.pairwise_cons.mp h1
    obtain ⟨d1, d2⟩ := List.nodup_cons.mp h2
    have hy := (h y).mp (by simp)
    cases n with
    | zero => omega
    | succ n =>
      have hz : y = z := by
        have : z ∈ y :: ys := (h z).mpr ⟨by omega, by omega⟩
        rcases List.mem_cons.mp this with e | e
        · exact e.symm
        · have := p1 z e; omega
      subst hz
      have ih := rising_range ys (y + 1) n p2 d2 fun x => by
        constructor
        · intro hx
          have a := (h x).mp (by simp [hx])
          have b := p1 x hx
          have : x ≠ y := fun e => d1 (e ▸ hx)
          omega
        · intro hx
          have := (h x).mpr (by omega)
          rcases List.mem_cons.mp this with e | e
          · omega
          · exact e
      rw [ih, List.range_succ_eq_map, List.map_cons, List.map_map]
      congr 1
      · simp
      · refine List.map_congr_left fun a _ => ?_
        show y + 1 + (a : Int) = y + ((a + 1 : Nat) : Int)
        omega
theorem nodup_len : ∀ (n : Nat) (l : List Nat), l.Nodup → (∀ x ∈ l, x < n) → l.length ≤ n
  | 0, l, _, h => by
    cases l with
    | nil => simp
    | cons x l => have := h x (by simp); omega
  | n + 1, l, hd, h => by
    have ih := nodup_len n (l.erase n) (hd.erase n) fun x hx => by
      have a := (hd.mem_erase_iff.mp hx)
      have b := h x a.2
      have c := a.1
      omega
    rw [List.length_erase] at ih
    split at ih <;> omega
def spRoll : Sp := fun vs H Q _ => ∃ (v : V) (s : Int) (finds : List Find) (F : List Leaf), vs = [v, .int s] ∧ (cL cFind).R H v finds ∧ F.length < 64 ∧
  (∀ t ∈ finds, t.2.2.stamp = s → ∃ i : Nat, F[i]? = some t.2.2 ∧ t.2.2.number = i) ∧ (∀ (i : Nat) (l : Leaf), F[i]? = some l → ∃ t ∈ finds, t.2.2 = l ∧ l.stamp = s ∧ l.number = i) ∧
  ∀ H' v, Same H H' → (cL cLeaf).R (fresh' H H') v F → Q v H'
theorem ok_roll (T : Txt K mg) : FnOk P w K mg base CX0 2 (ga K "roll") (fdAt K (ga K "roll")) ["finds", "stamp"] spRoll := by
  refine okD T.F_roll sc_roll (fun vs H Q E h => ?_) (fun cdv A outer s H vs Q E hr h => ?_)
  · obtain ⟨v, s, finds, F, rfl, _⟩ := h
    rfl
  obtain ⟨_, s, finds, F, rfl, ⟨a, vs, rfl, ha, hp⟩, hF64, hin, hout, k⟩ := h
  have nd := sc_roll.nd
  refine ⟨_, ((pss_cons (ps_set (i := 2) nd rfl (Or.inr rfl) pe_dnewK)
      (pss_cons (ps_for PassesOwn.never rfl (pi_list (pv 0)) (pg_tup_ K rfl rfl (n := 3) (pgs_cons (pg_name (i := 3) nd rfl (Or.inl rfl)) (pgs_cons (pg_name (i := 3) nd rfl (Or.inl rfl)) (pgs_cons (pg_name (i := 4) nd rfl (Or.inl rfl)) pgs_nil)))) (pss_one (ps_if (PW.pt (pw_and (pt_cmpR op_eq (pe_ix (ixT_ K rfl) (pv 4) pe_int (fun _ _ => rfl)) (pv 1) (nomark _)) (pw_and1 (pt_cmp (pc_dnotin (hu_of hr) (pe_ix (ixT_ K rfl) (pv 4) pe_int (fun _ _ => rfl)) (pv 2)))))) (pss_one (ps_dput (hu_of hr) (pv 2) (pe_ix (ixT_ K rfl) (pv 4) pe_int (fun _ _ => rfl)) (pe_call (ok_fresh T) (hr.mono (by decide)) rfl T.g_fresh T.k_fresh T.b_fresh .nil pass0 (pa_cons (pv 4) pa_nil)) rfl)) pss_nil)))
      (pss_one (ps_ret (pe_lc (own := [("number", 5)]) rfl nd (pi_list (pe_callB (call_sortedDI rfl) rfl T.n_sorted boot_sorted (pa_cons (pv 2) pa_nil))) (blkOk_by (N := N_roll) (sc := defScope s_roll) (by decide +kernel)) (fun _ _ _ _ _ => (pg_name (i := 5) nd rfl (Or.inl rfl))) (fun _ _ _ _ _ => pts_nil) (fun _ _ _ _ _ => (pe_dget (hu_of hr) (pv 2) (pv 5) (fun _ _ => rfl))))))))), ?_⟩
  refine fun d nd' => ⟨_, rfl, a, rfl, ⟨_, SqL.of (upd_keep ha nd')⟩, for_list (K := K) (a := a) (xs := vs) (fun i σ H' => ∃ (u v : Option V) (ks : List Nat) (kvs : List (Key × V)), σ = [some (.ref a), some (.int s), some (.ref d), u, v, none] ∧ Same H H' ∧ H' d = some (.dK kvs) ∧
      kvs.map (·.1) = ks.map (fun (n : Nat) => (Sum.inl (n : Int) : Key)) ∧ ks.Nodup ∧ (∀ n ∈ ks, n < F.length) ∧ (∀ n l, n ∈ ks → F[n]? = some l → ∃ v, valV kvs (Sum.inl (n : Int)) = some v ∧ cLeaf.R (del (fresh' H H') d) v l) ∧
      (∀ t ∈ finds.take i, t.2.2.stamp = s → ∃ n ∈ ks, t.2.2.number = (n : Int)))
    ⟨none, none, [], [], rfl, Same.new nd', upd_same, rfl, List.nodup_nil, fun _ h => by simp at h, fun _ _ h => by simp at h, fun _ h => by simp at h⟩ (fun i σ H' _ ⟨_, _, _, _, _, s, _⟩ => SqL.of (s _ _ ha)) ?_ ?_⟩
  · rintro i x σ H' hi ⟨u, v, ks, kvs, rfl, sH, hd, hk, hnd, hlt, hv, hdone⟩
    obtain ⟨tr, htr, t, x1, x2, x3, rfl, ht, rfl, rfl, lt, lb, rfl, hlt', hlb⟩ := pgetl hp hi
    have hT := sH _ _ hlt'
    refine ⟨t, _, rfl, SqT.of (sH _ _ ht), rfl, _, _, rfl, _, _, rfl, _, _, rfl, rfl, ?_⟩
    refine ⟨_, rfl, _, _, _, _, rfl, rfl, SqT.of hT, atI_nat (j := 1) rfl, _, rfl, rfl, _, rfl, ?_⟩
    by_cases c : tr.2.2.stamp = s
    · obtain ⟨n, hn1, hn2⟩ := hin tr (List.mem_of_getElem? htr) c
      have hnl := lt_of_at hn1
      refine ifT (bl_t (congrArg V.int c)) ⟨_, rfl, _, _, _, _, rfl, rfl, SqT.of hT, atI_nat (j := 2) rfl, _, rfl, d, _, rfl, DGet.k (k := Sum.inl tr.2.2.number) hd, _, rfl, ?_⟩
      by_cases m : n ∈ ks
      · obtain ⟨v1, hv1, _⟩ := hv n _ m hn1
        refine ifF (by rw [hn2, hv1] <;> rfl) ⟨_, _, ks, kvs, rfl, sH, hd, hk, hnd, hlt, hv, fun t2 h1 h2 => ?_⟩
        rw [take_snoc htr] at h1
        rcases List.mem_append.mp h1 with h1 | h1
        · exact hdone t2 h1 h2
        · rw [List.mem_singleton] at h1
          subst h1
          exact ⟨n, m, hn2⟩
      · have hnone : valV kvs (Sum.inl tr.2.2.number : Key) = none := by
          cases e : valV kvs (Sum.inl tr.2.2.number : Key) with
          | none => rfl
          | some z =>
            have := valV_in e
            rw [hk] at this
            obtain ⟨n2, h1, h2⟩ := List.mem_map.mp this
            have : n2 = n := by have := Sum.inl.inj h2; omega
            exact absurd (this ▸ h1) m
        have hkl : kvs.length ≤ F.length := by
          have e1 : kvs.length = ks.length := by have := congrArg List.length hk; simpa using this
          have e2 := nodup_len F.length ks hnd hlt
          omega
        refine ifT (by rw [hnone] <;> rfl) ⟨_, rfl, _, tr.2.2, rfl, ⟨lt, lb, rfl, hT, hlb.mono sH⟩, fun H2 v2 s2 r2 => ?_⟩
        refine ⟨_, rfl, _, rfl, _, _, _, _, rfl, rfl, SqT.of (s2 _ _ hT), atI_nat (j := 2) rfl, d, _, rfl, DPut.k (k := Sum.inl tr.2.2.number) (s2 _ _ hd) (lsz' (by omega)), _, _, ks ++ [n], _, rfl, (sH.trans s2).mut nd', upd_same, ?_, ?_, ?_, ?_, ?_⟩
        · rw [putK_new _ hnone, List.map_append, List.map_append, hk, hn2]
          rfl
        · rw [List.nodup_append]
          refine ⟨hnd, by simp, fun y hy z hz e => ?_⟩
          rw [List.mem_singleton] at hz
          subst e hz
          exact m hy
        · intro y hy
          rcases List.mem_append.mp hy with hy | hy
          · exact hlt y hy
          · rw [List.mem_singleton] at hy
            omega
        · intro y l hy hl
          rw [df_upd, hn2]
          rcases List.mem_append.mp hy with hy | hy
          · obtain ⟨v1, e1, r1⟩ := hv y l hy hl
            refine ⟨v1, ?_, cLeaf.mono (df_mono s2) r1⟩
            rw [valV_put, if_neg (fun e => m (by have e1 := Sum.inl.inj e; have e2 : y = n := (by omega); exact e2 ▸ hy))]
            exact e1
          · rw [List.mem_singleton] at hy
            subst hy
            rw [hn1] at hl
            cases hl
            exact ⟨v2, by rw [valV_put, if_pos rfl], cLeaf.mono (df_call sH hd) r2⟩
        · intro t2 h1 h2
          rw [take_snoc htr] at h1
          rcases List.mem_append.mp h1 with h1 | h1
          · obtain ⟨n3, q1, q2⟩ := hdone t2 h1 h2
            exact ⟨n3, by simp [q1], q2⟩
          · rw [List.mem_singleton] at h1
            subst h1
            exact ⟨n, by simp, hn2⟩
    · refine ifF (bl_f fun q => c (V.int.inj q)) (iteF ⟨_, _, ks, kvs, rfl, sH, hd, hk, hnd, hlt, hv, fun t2 h1 h2 => ?_⟩)
      rw [take_snoc htr] at h1
      rcases List.mem_append.mp h1 with h1 | h1
      · exact hdone t2 h1 h2
      · rw [List.mem_singleton] at h1
        subst h1
        exact absurd h2 c
  · rintro σ H' ⟨u, v, ks, kvs, rfl, sH, hd, hk, hnd, hlt, hv, hdone⟩
    rw [hp.length, List.take_length] at hdone
    have hall : ∀ n, n < F.length → n ∈ ks := fun n hn => by
      obtain ⟨t, h1, h2, h3, h4⟩ := hout n F[n] (List.getElem?_eq_getElem hn)
      obtain ⟨m, h5, h6⟩ := hdone t h1 (h2 ▸ h3)
      have : n = m := by rw [h2] at h6; omega
      exact this ▸ h5
    have hksl : ks.length < 64 := by
      have e2 := nodup_len F.length ks hnd hlt
      omega
    refine ⟨_, rfl, d, kvs, ks.map fun (n : Nat) => (n : Int), rfl, .inl hd, by rw [hk, List.map_map]; rfl, by simpa using hksl, fun ys p hperm hle np => ?_⟩
    have hys : ys = (List.range F.length).map fun (i : Nat) => (0 : Int) + (i : Int) := by
      refine rising_range ys 0 F.length hle (hperm.nodup_iff.mpr ?_) fun x => ?_
      · exact List.Pairwise.map _ (fun a b (h : a ≠ b) => by omega) hnd
      · rw [hperm.mem_iff, List.mem_map]
        constructor
        · rintro ⟨n, h1, rfl⟩
          have := hlt n h1
          omega
        · rintro ⟨h1, h2⟩
          exact ⟨x.toNat, hall _ (by omega), by omega⟩
    subst hys
    have hP : Li (upd H' p (.lst (((List.range F.length).map fun (i : Nat) => (0 : Int) + (i : Int)).map V.int))) p ((List.range F.length).map fun (i : Nat) => (0 : Int) + (i : Int)) := upd_same
    have s2 := sH.add (o := .lst (((List.range F.length).map fun (i : Nat) => (0 : Int) + (i : Int)).map V.int)) np
    have hd2 := upd_keep (o := .lst (((List.range F.length).map fun (i : Nat) => (0 : Int) + (i : Int)).map V.int)) hd np
    have sdf : Same (del (fresh' H H') d) (fresh' H (upd H' p (.lst (((List.range F.length).map fun (i : Nat) => (0 : Int) + (i : Int)).map V.int)))) := (del_sub _ _).trans (fresh_mono (Same.new np))
    generalize upd H' p (.lst (((List.range F.length).map fun (i : Nat) => (0 : Int) + (i : Int)).map V.int)) = H3 at hP s2 hd2 sdf
    refine ⟨p, rfl, ⟨_, hP.sq⟩, fun D hD => lc_list (K := K) (a := p) (xs := ((List.range F.length).map fun (i : Nat) => (0 : Int) + (i : Int)).map V.int) (fun i H4 => ∃ us, H4 = upd H3 D (.lst us) ∧ Paired (cLeaf.R (fresh' H H3)) us (F.take i)) ⟨[], rfl, .nil⟩ (fun i H4 _ ⟨us, e, _⟩ => by rw [e]; exact (hP.keep hD).sq) ?_ ?_⟩
    · rintro i x H4 hi ⟨us, rfl, hu⟩
      have hi2 : i < F.length := by have := lt_of_at hi; simpa using this
      have hx : x = V.int (i : Int) := by
        rw [List.getElem?_map, List.getElem?_map, List.getElem?_range hi2] at hi
        have := Option.some.inj hi
        rw [← this]
        show V.int (0 + (i : Int)) = _
        congr 1
        omega
      subst hx
      obtain ⟨v1, e1, r1⟩ := hv i F[i] (hall i hi2) (List.getElem?_eq_getElem hi2)
      refine ⟨rfl, _, rfl, _, rfl, d, v1, rfl, ?_, us, upd_same, lsz' (by rw [hu.length, List.length_take]; omega), us ++ [v1], by rw [upd_upd], ?_⟩
      · have := DGet.k (k := Sum.inl (i : Int)) (upd_keep (o := .lst us) hd2 hD)
        rw [e1] at this
        exact this
      · rw [take_snoc (List.getElem?_eq_getElem hi2)]
        exact papp hu (.cons (cLeaf.mono sdf r1) .nil)
    · rintro H4 ⟨us, rfl, hu⟩
      rw [List.length_map, List.length_map, List.length_range, List.take_length] at hu
      exact k _ (.ref D) (s2.add hD) ⟨D, us, rfl, fresh_of upd_same (s2.free hD), pmap hu fun _ _ r => cLeaf.mono (fresh_mono (Same.new hD)) r⟩
end
end Sp
namespace Sp
open PySem PySem.Spec PyProof.Rows L2
theorem alike_le : ∀ (xs ys : List Int) (n : Nat), alike xs ys n ≤ n ∧ alike xs ys n ≤ xs.length ∧ alike xs ys n ≤ ys.length ∧ xs.take (alike xs ys n) = ys.take (alike xs ys n)
  | [], ys, n => by simp [alike]
  | x :: xs, [], n => by simp [alike]
  | x :: xs, y :: ys, 0 => by simp [alike]
  | x :: xs, y :: ys, n + 1 => by
    unfold alike
    by_cases e : x = y
    · subst e
      obtain ⟨a, b, c, d⟩ := alike_le xs ys n
      rw [if_pos rfl]
      refine ⟨by omega, by simp; omega, by simp; omega, ?_⟩
      rw [List.take_succ_cons, List.take_succ_cons, d]
    · rw [if_neg e]
      simp
def chF (old new : List Int) : Nat := alike old new (min old.length new.length)
def chB (old new : List Int) : Nat := alike old.reverse new.reverse (min old.length new.length - chF old new)
def chM (old new : List Int) : List Int := (new.drop (chF old new)).take (new.length - chB old new - chF old new)
theorem ch_le (old new : List Int) : chF old new + chB old new ≤ old.length ∧ chF old new + chB old new ≤ new.length := by
  have a := (alike_le old new (min old.length new.length)).1
  have b := (alike_le old.reverse new.reverse (min old.length new.length - chF old new)).1
  unfold chB
  unfold chF at *
  omega
theorem ch_new (old new : List Int) : old.take (chF old new) ++ chM old new ++ old.drop (old.length - chB old new) = new := by
  have h := ch_le old new
  have a := (alike_le old new (min old.length new.length)).2.2.2
  have b := (alike_le old.reverse new.reverse (min old.length new.length - chF old new)).2.2.2
  have a' : old.take (chF old new) = new.take (chF old new) := a
  have b' : old.reverse.take (chB old new) = new.reverse.take (chB old new) := b
  rw [List.take_reverse, List.take_reverse] at b'
  have b2 := List.reverse_inj.mp b'
  rw [a', b2]
  unfold chM
  rw [← List.take_add, show chF old new + (new.length - chB old new - chF old new) = new.length - chB old new by omega, List.take_append_drop]
section
variable {P : Program} {w : World} {K : PySem.W.Frag} {mg : Str → Option Value} {base : Heap}
def cCh : Cd (Int × Int × List Int) := c3 cI cI cLi
def chg (old new : List Int) : Int × Int × List Int := ((chF old new : Nat), (chB old new : Nat), chM old new)
def spChange : Sp := fun vs H Q _ => ∃ (a b : Addr) (old new : List Int), vs = [.ref a, .ref b] ∧ Li H a old ∧ Li H b new ∧ ∀ H' v, Same H H' → cCh.R (fresh' H H') v (chg old new) → Q v H'
theorem ok_change (T : Txt K mg) : FnOk P w K mg base CX0 2 (ga K "change") (fdAt K (ga K "change")) ["old", "new"] spChange := by
  refine okD T.F_change sc_change (fun vs H Q E h => ?_) (fun cdv A outer s H vs Q E hr h => ?_)
  · obtain ⟨a, b, old, new, rfl, _⟩ := h
    rfl
  obtain ⟨a, b, old, new, rfl, ha, hb, k⟩ := h
  have nd := sc_change.nd
  have hle := ch_le old new
  refine ⟨_, ((pss_cons (ps_set (i := 2) nd rfl (Or.inl rfl) (pe_callB (call_min2 rfl) rfl T.n_min boot_min (pa_cons (pe_callB (lenS_ K rfl) rfl T.n_len boot_len (pa_cons (pv 0) pa_nil)) (pa_cons (pe_callB (lenS_ K rfl) rfl T.n_len boot_len (pa_cons (pv 1) pa_nil)) pa_nil))))
      (pss_cons (ps_set (i := 3) nd rfl (Or.inl rfl) (pe_call (ok_alike T) (hr.mono (by decide)) rfl T.g_alike T.k_alike T.b_alike .nil pass0 (pa_cons (pv 0) (pa_cons (pv 1) (pa_cons (pv 2) pa_nil)))))
      (pss_cons (ps_set (i := 4) nd rfl (Or.inl rfl) (pe_call (ok_alike T) (hr.mono (by decide)) rfl T.g_alike T.k_alike T.b_alike .nil pass0 (pa_cons (pe_revL (pv 0)) (pa_cons (pe_revL (pv 1)) (pa_cons (pe_op op_sub (pv 2) (pv 3)) pa_nil)))))
      (pss_one (ps_ret (pe_tup (pa_cons (pv 3) (pa_cons (pv 4) (pa_cons (pe_slice sl_list (pv 1) (po_some (pv 3)) (po_some (pe_op op_sub (pe_callB (lenS_ K rfl) rfl T.n_len boot_len (pa_cons (pv 1) pa_nil)) (pv 4)))) pa_nil)))))))))), ?_⟩
  refine ⟨_, rfl, _, _, rfl, .inl ha.sq, _, rfl, _, _, rfl, .inl hb.sq, _, _, rfl, ?_⟩
  have hm : (if (((new.map V.int).length : Nat) : Int) < (((old.map V.int).length : Nat) : Int) then (((new.map V.int).length : Nat) : Int) else (((old.map V.int).length : Nat) : Int)) = ((min old.length new.length : Nat) : Int) := by
    rw [List.length_map, List.length_map]
    split <;> omega
  rw [hm]
  refine ⟨_, rfl, _, rfl, _, rfl, a, b, old, new, _, rfl, ha, hb, by omega, by omega, ?_⟩
  refine ⟨_, rfl, _, _, rfl, ha.sq, fun p np => ⟨_, rfl, _, _, rfl, (hb.keep np).sq, fun q nq => ⟨_, rfl, _, rfl, _, _, rfl, rfl, ?_⟩⟩⟩
  rw [← List.map_reverse, ← List.map_reverse] at *
  have hp : Li (upd (upd H p (.lst (old.reverse.map V.int))) q (.lst (new.reverse.map V.int))) p old.reverse := upd_keep upd_same nq
  have hq : Li (upd (upd H p (.lst (old.reverse.map V.int))) q (.lst (new.reverse.map V.int))) q new.reverse := upd_same
  have s : Same H (upd (upd H p (.lst (old.reverse.map V.int))) q (.lst (new.reverse.map V.int))) := (Same.new np).add nq
  generalize upd (upd H p (.lst (old.reverse.map V.int))) q (.lst (new.reverse.map V.int)) = H2 at hp hq s
  refine ⟨p, q, old.reverse, new.reverse, min old.length new.length - chF old new, ?_, hp, hq, by simp; omega, by simp; omega, ?_⟩
  · have : chF old new ≤ min old.length new.length := (alike_le _ _ _).1
    show [V.ref p, V.ref q, V.int (((min old.length new.length : Nat) : Int) - ((chF old new : Nat) : Int))] = _
    rw [show ((min old.length new.length : Nat) : Int) - ((chF old new : Nat) : Int) = ((min old.length new.length - chF old new : Nat) : Int) by omega]
  refine ⟨_, rfl, _, rfl, _, rfl, _, rfl, _, rfl, _, rfl, _, _, rfl, .inl (hb.mono s).sq, _, rfl, _, _, rfl, rfl, _, rfl, _, _, rfl, (hb.mono s).sq, fun r nr => ?_⟩
  have hcut : cutV (new.map V.int) (some ((chF old new : Nat) : Int)) (some ((((new.map V.int).length : Nat) : Int) - ((chB old new : Nat) : Int))) = (chM old new).map V.int := by
    rw [List.length_map, show ((new.length : Nat) : Int) - ((chB old new : Nat) : Int) = ((new.length - chB old new : Nat) : Int) by omega, cut_nat (by omega) (by omega) (by omega)]
    rfl
  refine ⟨lsz (by simp), fun t nt => ?_⟩
  have s2 := (s.add (o := .lst (cutV (new.map V.int) (some ((chF old new : Nat) : Int)) (some ((((new.map V.int).length : Nat) : Int) - ((chB old new : Nat) : Int))))) nr)
  refine k _ (.ref t) (s2.add nt) ⟨t, .int ((chF old new : Nat) : Int), .int ((chB old new : Nat) : Int), .ref r, rfl, fresh_of upd_same (s2.free nt), rfl, rfl, r, rfl, fresh_of ?_ (s.free nr)⟩
  exact upd_keep (upd_same.trans (congrArg (fun l => some (HO.lst l)) hcut)) nt
def spChanged : Sp := fun vs H Q _ => ∃ (a : Addr) (u : V) (old new : List Int), vs = [.ref a, u] ∧ Li H a old ∧ cCh.R H u (chg old new) ∧ old.length ≤ 100000 ∧ new.length ≤ 100000 ∧ RL H Q new
theorem ok_changed (T : Txt K mg) : FnOk P w K mg base CX0 3 (ga K "changed") (fdAt K (ga K "changed")) ["old", "parts"] spChanged := by
  refine okD T.F_changed sc_changed (fun vs H Q E h => ?_) (fun cdv A outer s H vs Q E hr h => ?_)
  · obtain ⟨a, u, old, new, rfl, _⟩ := h
    rfl
  obtain ⟨a, _, old, new, rfl, ha, ⟨t, x, y, z, rfl, ht, rfl, rfl, m, rfl, hm⟩, hl1, hl2, k⟩ := h
  have nd := sc_changed.nd
  have hle := ch_le old new
  have hM : (chM old new).length ≤ new.length := by unfold chM; simp; omega
  refine ⟨_, ((pss_cons (ps_asg (pv 1) (pg_tup_ K rfl rfl (n := 3) (pgs_cons (pg_name (i := 2) nd rfl (Or.inl rfl)) (pgs_cons (pg_name (i := 3) nd rfl (Or.inl rfl)) (pgs_cons (pg_name (i := 4) nd rfl (Or.inl rfl)) pgs_nil)))))
      (pss_cons (ps_if (pt_cmpR op_gt (pe_op op_add (pv 2) (pv 3)) (pe_callB (lenS_ K rfl) rfl T.n_len boot_len (pa_cons (pv 0) pa_nil)) (nomark _)) (pss_one ps_never) pss_nil)
      (pss_cons (ps_set (i := 5) nd rfl (Or.inl rfl) (pe_op op_cat (pe_op op_cat (pe_slice sl_list (pv 0) po_none (po_some (pv 2))) (pv 4)) (pe_slice sl_list (pv 0) (po_some (pe_op op_sub (pe_callB (lenS_ K rfl) rfl T.n_len boot_len (pa_cons (pv 0) pa_nil)) (pv 3))) po_none)))
      (pss_cons (ps_if (pt_cmpR (op_neD hr.units) (pe_call (ok_change T) (hr.mono (by decide)) rfl T.g_change T.k_change T.b_change .nil pass0 (pa_cons (pv 0) (pa_cons (pv 5) pa_nil))) (pe_tup (pa_cons (pv 2) (pa_cons (pv 3) (pa_cons (pv 4) pa_nil)))) (nomark _)) (pss_one ps_never) pss_nil)
      (pss_one (ps_ret (pv 5)))))))), ?_⟩
  refine ⟨_, rfl, _, _, rfl, SqT.of ht, rfl, _, _, rfl, _, _, rfl, _, _, rfl, rfl, ?_⟩
  refine ⟨_, rfl, _, rfl, _, _, rfl, rfl, _, rfl, _, _, rfl, .inl ha.sq, _, _, rfl, rfl, _, rfl, yF (by simp [chg]; omega) ?_⟩
  refine ⟨_, rfl, _, rfl, _, rfl, _, _, rfl, ha.sq, fun p np => ⟨_, rfl, ?_⟩⟩
  have c1 : cutV (old.map V.int) none (some ((chF old new : Nat) : Int)) = (old.take (chF old new)).map V.int := cut_to (by omega)
  have hp : Li (upd H p (.lst (cutV (old.map V.int) none (some ((chF old new : Nat) : Int))))) p (old.take (chF old new)) := by show upd _ p _ p = _; rw [upd_same, c1]
  have s1 := Same.new (o := .lst (cutV (old.map V.int) none (some ((chF old new : Nat) : Int)))) np
  refine ⟨p, m, _, _, rfl, rfl, hp, hm.mono s1, lsz (by simp [chg]; omega), fun q nq => ?_⟩
  rw [← List.map_append]
  have hq : Li (upd (upd H p (.lst (cutV (old.map V.int) none (some ((chF old new : Nat) : Int))))) q (.lst ((old.take (chF old new) ++ chM old new).map V.int))) q (old.take (chF old new) ++ chM old new) := upd_same
  have s2 := s1.add (o := .lst ((old.take (chF old new) ++ chM old new).map V.int)) nq
  refine ⟨_, rfl, _, rfl, _, _, rfl, .inl (ha.mono s2).sq, _, rfl, _, _, rfl, rfl, _, rfl, _, _, rfl, (ha.mono s2).sq, fun r nr => ?_⟩
  have c2 : cutV (old.map V.int) (some ((((old.map V.int).length : Nat) : Int) - ((chB old new : Nat) : Int))) none = (old.drop (old.length - chB old new)).map V.int := by
    rw [List.length_map, show ((old.length : Nat) : Int) - ((chB old new : Nat) : Int) = ((old.length - chB old new : Nat) : Int) by omega, cut_from (by omega)]
  have hr' : ∀ (G : Hp), Li (upd G r (.lst (cutV (old.map V.int) (some ((((old.map V.int).length : Nat) : Int) - ((chB old new : Nat) : Int))) none))) r (old.drop (old.length - chB old new)) := fun G => by show upd _ r _ r = _; rw [upd_same, c2]
  refine ⟨q, r, _, _, rfl, rfl, hq.keep nr, hr' _, lsz (by simp; omega), fun n nn => ?_⟩
  rw [← List.map_append, ch_new]
  have s3 := s2.add (o := .lst (cutV (old.map V.int) (some ((((old.map V.int).length : Nat) : Int) - ((chB old new : Nat) : Int))) none)) nr
  have s4 := s3.add (o := .lst (new.map V.int)) nn
  have hn := s3.free nn
  have hN : ∀ (G : Hp), Li (upd G n (.lst (new.map V.int))) n new := fun G => upd_same
  refine ⟨_, rfl, _, rfl, a, n, old, new, rfl, ha.mono s4, hN _, fun H5 u5 s5 r5 => ?_⟩
  refine ⟨_, rfl, _, rfl, _, rfl, lsz (by simp), fun t2 nt2 => ?_⟩
  have s6 := s5.add (o := .tup [.int ((chF old new : Nat) : Int), .int ((chB old new : Nat) : Int), .ref m]) nt2
  refine neD_same (c := cCh) (x := chg old new) (cCh.mono ((fresh_sub _ _).trans (Same.new nt2)) r5) ⟨t2, _, _, _, rfl, upd_same, rfl, rfl, m, rfl, hm.mono (s4.trans s6)⟩ ⟨trivial, trivial, trivial⟩ ⟨_, rfl, iteF ⟨_, rfl, ?_⟩⟩
  exact k n _ (s4.trans s6) hn ((s6 _ _ (hN _) : Li _ n new))
end
end Sp
namespace Sp
open PySem PySem.Spec PyProof.Rows L2
abbrev chs (s : Str) : List Nat := s.cps.toList
theorem chs_len (s : Str) : (chs s).length = s.length := Array.length_toList
def OkText (s : Str) (n : Nat) : Prop := s.length ≤ n ∧ ∀ c ∈ chs s, 32 ≤ c ∧ c ≤ 126 ∧ c ≠ 37
def OkWord (s : Str) : Prop := 1 ≤ s.length ∧ s.length ≤ 16 ∧ ∀ c ∈ chs s, 97 ≤ c ∧ c ≤ 122
def OkUs (least : Int) : List Un' → Prop
  | [] => True
  | u :: r => least ≤ u.1 ∧ u.1 < 1000000 ∧ 1 ≤ u.2.1 ∧ u.2.1 < 1000 ∧ u.2.2.1.length ≤ 200 ∧ Bytes u.2.2.1 ∧ OkUs (u.1 + u.2.1) r
def OkUnits (us : List Un') : Prop := us.length ≤ 5 ∧ OkUs 0 us ∧ ∀ u, us[0]? = some u → u.2.2.2 = false
def txt (s : Str) : List Int := (chs s).map fun (c : Nat) => (c : Int)
def tb (s : Str) : List Int := putS s.length ++ txt s
def tagsBody (tags : List (Str × Str)) : List Int := putS tags.length ++ tags.flatMap fun t => tb t.1 ++ tb t.2
structure OkTags (tags : List (Str × Str)) : Prop where
  len : tags.length ≤ 2
  key : ∀ t ∈ tags, OkWord t.1
  val : ∀ t ∈ tags, OkText t.2 100
  asc : ∀ (i : Nat) (s t : Str × Str), tags[i]? = some s → tags[i + 1]? = some t → chs s.1 < chs t.1
structure OkTr (t : Tr) : Prop where
  name : OkText t.1 32
  kind : OkWord t.2.1
  units : OkUnits t.2.2
structure OkPr (p : Pr) : Prop where
  ticks : 1 ≤ p.1 ∧ p.1 ≤ 90000
  skip : 0 ≤ p.2.1 ∧ p.2.1 ≤ 1000
  len : p.2.2.1.length ≤ 3
  tracks : ∀ t ∈ p.2.2.1, OkTr t
  tags : OkTags p.2.2.2
theorem lt1 {a b : Nat} : ¬ (([a] : List Nat) < [b]) ↔ b ≤ a := by
  constructor
  · intro h
    by_cases c : a < b
    · exact absurd (List.Lex.rel c) h
    · omega
  · intro h z
    cases z with
    | rel q => omega
    | cons q => cases q
theorem tb_len {s : Str} {n : Nat} (h : s.length ≤ n) : (tb s).length = (putS s.length).length + s.length := by simp only [tb, txt, List.length_append, List.length_map, chs_len]
section
variable {P : Program} {w : World} {K : PySem.W.Frag} {mg : Str → Option Value} {base : Heap}
theorem all_true {H : Hp} {p : Addr} {n : Nat} {Q : VK} (hp : H p = some (.lst ((List.replicate n true).map V.bl))) (q : Q (.bl true) H) : rAll K [.ref p] H Q := by
  refine ⟨p, _, rfl, SqL.of hp, ?_⟩
  have e : (List.replicate n true).all id = true := by rw [List.all_eq_true]; intro x hx; exact List.eq_of_mem_replicate hx
  rw [e]
  exact q
theorem rep_snoc (n : Nat) : (List.replicate n true).map V.bl ++ [V.bl true] = (List.replicate (n + 1) true).map V.bl := by
  rw [List.replicate_succ', List.map_append]; rfl
theorem str1 (c : Nat) : (⟨#[c]⟩ : Str).cps.toList = [c] := rfl
def spLine : Sp := fun vs H Q _ => ∃ (s : Str) (n : Nat), vs = [.str s, .int n] ∧ OkText s n ∧ s.length ≤ 1000 ∧ ∀ H', Same H H' → Q (.bl true) H'
theorem ok_is_line (T : Txt K mg) : FnOk P w K mg base CX0 1 (ga K "is_line") (fdAt K (ga K "is_line")) ["text", "most"] spLine := by
  refine okD T.F_is_line sc_is_line (fun vs H Q E h => ?_) (fun cdv A outer s H vs Q E hr h => ?_)
  · obtain ⟨s, n, rfl, _⟩ := h
    rfl
  obtain ⟨s, n, rfl, ⟨h1, h2⟩, hl, k⟩ := h
  have nd := sc_is_line.nd
  refine ⟨_, ((pss_one (ps_ret (pe_and (pe_cmpR op_le (pe_callB call_len_str rfl T.n_len boot_len (pa_cons (pv 0) pa_nil)) (pv 1) (nomark _)) (pe_one (pe_callB (cr_all rfl) rfl T.n_all boot_all (pa_cons (pe_lc (own := [("char", 2)]) rfl nd (pi_str (pv 0)) (blkOk_by (N := N_is_line) (sc := defScope s_is_line) (by decide +kernel)) (fun _ _ _ _ _ => (pg_name (i := 2) nd rfl (Or.inl rfl))) (fun _ _ _ _ _ => pts_nil) (fun _ _ _ _ _ => (pe_and (pe_chain op_le_str op_le_str pe_str (pv 2) pe_str) (pe_one (pe_cmpR op_ne (pe_callB call_ord rfl T.n_ord boot_ord (pa_cons (pv 2) pa_nil)) pe_int (nomark _)))))) pa_nil))))))), ?_⟩
  refine ⟨_, rfl, _, rfl, lsz (by omega), _, rfl, _, _, rfl, rfl, _, rfl, yT (by omega) ⟨_, rfl, s, rfl, fun D hD => lc_it walk_str (fun i H' => H' = upd H D (.lst ((List.replicate i true).map V.bl))) rfl (fun _ _ _ _ => trivial) ?_ ?_⟩⟩
  · rintro i x H' H'' hi rfl ⟨rfl, c, hc, rfl⟩
    have hm : c ∈ chs s := by
      have : s.cps.toList[i]? = some c := by rw [Array.getElem?_toList]; exact hc
      exact List.mem_of_getElem? this
    obtain ⟨a1, a2, a3⟩ := h2 c hm
    refine ⟨rfl, _, rfl, _, _, rfl, rfl, _, rfl, ?_⟩
    have e1 : decide ((⟨#[c]⟩ : Str).cps.toList < (" " : Str).cps.toList) = false := decide_eq_false (by rw [str1]; exact lt1.mpr a1)
    have e2 : decide (("~" : Str).cps.toList < (⟨#[c]⟩ : Str).cps.toList) = false := decide_eq_false (by rw [str1]; exact lt1.mpr a2)
    rw [e1]
    refine ⟨_, _, rfl, rfl, ?_⟩
    rw [e2]
    refine ⟨_, rfl, _, rfl, _, rfl, rfl, rfl, _, upd_same, lsz' (by simp; have : i < s.length := hi; omega), ?_⟩
    have e3 : (!decide (V.int ((c : Nat) : Int) = V.int 37)) = true := by
      rw [decide_eq_false]
      rfl
      intro z
      have := V.int.inj z
      omega
    show upd _ D (.lst (_ ++ [V.bl (!decide (V.int ((c : Nat) : Int) = V.int 37))])) = _
    rw [e3, rep_snoc, upd_upd]
  · rintro H' rfl
    exact all_true upd_same (k _ (Same.new hD))
def spWord' : Sp := fun vs H Q _ => ∃ (s : Str), vs = [.str s] ∧ OkWord s ∧ ∀ H', Same H H' → Q (.bl true) H'
theorem ok_is_word (T : Txt K mg) : FnOk P w K mg base CX0 1 (ga K "is_word") (fdAt K (ga K "is_word")) ["text"] spWord' := by
  refine okD T.F_is_word sc_is_word (fun vs H Q E h => ?_) (fun cdv A outer s H vs Q E hr h => ?_)
  · obtain ⟨s, rfl, _⟩ := h
    rfl
  obtain ⟨s, rfl, ⟨h0, h1, h2⟩, k⟩ := h
  have nd := sc_is_word.nd
  refine ⟨_, ((pss_one (ps_ret (pe_and (pe_chain op_le op_le pe_int (pe_callB call_len_str rfl T.n_len boot_len (pa_cons (pv 0) pa_nil)) (pe_gint T.i_MOST_WORD)) (pe_one (pe_callB (cr_all rfl) rfl T.n_all boot_all (pa_cons (pe_lc (own := [("char", 1)]) rfl nd (pi_str (pv 0)) (blkOk_by (N := N_is_word) (sc := defScope s_is_word) (by decide +kernel)) (fun _ _ _ _ _ => (pg_name (i := 1) nd rfl (Or.inl rfl))) (fun _ _ _ _ _ => pts_nil) (fun _ _ _ _ _ => (pe_chain op_le_str op_le_str pe_str (pv 1) pe_str))) pa_nil))))))), ?_⟩
  refine ⟨_, rfl, _, rfl, lsz (by omega), _, _, rfl, rfl, _, rfl, yT (by omega) ⟨_, _, rfl, rfl, _, rfl, yT (by omega) ⟨_, rfl, s, rfl, fun D hD => lc_it walk_str (fun i H' => H' = upd H D (.lst ((List.replicate i true).map V.bl))) rfl (fun _ _ _ _ => trivial) ?_ ?_⟩⟩⟩
  · rintro i x H' H'' hi rfl ⟨rfl, c, hc, rfl⟩
    have hm : c ∈ chs s := by
      have : s.cps.toList[i]? = some c := by rw [Array.getElem?_toList]; exact hc
      exact List.mem_of_getElem? this
    obtain ⟨a1, a2⟩ := h2 c hm
    refine ⟨rfl, _, rfl, _, _, rfl, rfl, _, rfl, ?_⟩
    have e1 : decide ((⟨#[c]⟩ : Str).cps.toList < ("a" : Str).cps.toList) = false := decide_eq_false (by rw [str1]; exact lt1.mpr a1)
    have e2 : decide (("z" : Str).cps.toList < (⟨#[c]⟩ : Str).cps.toList) = false := decide_eq_false (by rw [str1]; exact lt1.mpr a2)
    rw [e1]
    refine ⟨_, _, rfl, rfl, ?_⟩
    rw [e2]
    refine ⟨_, upd_same, lsz' (by simp; have : i < s.length := hi; omega), ?_⟩
    rw [upd_upd]
    exact congrArg (fun l => upd H D (.lst l)) (rep_snoc i)
  · rintro H' rfl
    exact all_true upd_same (k _ (Same.new hD))
def spRow : Sp := fun vs H Q _ => ∃ (a : Addr) (xs : List Int) (n : Nat), vs = [.ref a, .int n] ∧ Li H a xs ∧ xs.length ≤ n ∧ xs.length ≤ 1000 ∧ Bytes xs ∧ ∀ H', Same H H' → Q (.bl true) H'
theorem ok_is_row (T : Txt K mg) : FnOk P w K mg base CX0 1 (ga K "is_row") (fdAt K (ga K "is_row")) ["row", "most"] spRow := by
  refine okD T.F_is_row sc_is_row (fun vs H Q E h => ?_) (fun cdv A outer s H vs Q E hr h => ?_)
  · obtain ⟨a, xs, n, rfl, _⟩ := h
    rfl
  obtain ⟨a, xs, n, rfl, ha, h1, hl, hb, k⟩ := h
  have nd := sc_is_row.nd
  refine ⟨_, ((pss_one (ps_ret (pe_and (pe_cmpR op_le (pe_callB (lenS_ K rfl) rfl T.n_len boot_len (pa_cons (pv 0) pa_nil)) (pv 1) (nomark _)) (pe_one (pe_callB (cr_all rfl) rfl T.n_all boot_all (pa_cons (pe_lc (own := [("byte", 2)]) rfl nd (pi_list (pv 0)) (blkOk_by (N := N_is_row) (sc := defScope s_is_row) (by decide +kernel)) (fun _ _ _ _ _ => (pg_name (i := 2) nd rfl (Or.inl rfl))) (fun _ _ _ _ _ => pts_nil) (fun _ _ _ _ _ => (pe_chain op_le op_le pe_int (pv 2) pe_int))) pa_nil))))))), ?_⟩
  refine ⟨_, rfl, _, _, rfl, .inl ha.sq, _, rfl, _, _, rfl, rfl, _, rfl, yT (by simp; omega) ⟨_, rfl, a, rfl, ⟨_, ha.sq⟩, fun D hD => lc_list (K := K) (a := a) (xs := xs.map V.int) (fun i H' => H' = upd H D (.lst ((List.replicate i true).map V.bl))) rfl (fun _ _ _ e => by rw [e]; exact (ha.keep hD).sq) ?_ ?_⟩⟩
  · rintro i x H' hi rfl
    obtain ⟨z, hz, rfl⟩ := int_at hi
    obtain ⟨b1, b2⟩ := hb z (List.mem_of_getElem? hz)
    have := lt_of_at hz
    refine ⟨rfl, _, rfl, _, _, rfl, rfl, _, rfl, yT b1 ⟨_, _, rfl, rfl, _, upd_same, lsz' (by simp; omega), ?_⟩⟩
    show upd _ D (.lst (_ ++ [V.bl (decide (z ≤ 255))])) = _
    rw [decide_eq_true b2, rep_snoc, upd_upd]
  · rintro H' rfl
    exact all_true upd_same (k _ (Same.new hD))
theorem OkUs.at : ∀ {us : List Un'} {least : Int} {i : Nat} {u : Un'}, OkUs least us → us[i]? = some u → OkUs u.1 [u] ∧ OkUs (u.1 + u.2.1) (us.drop (i + 1))
  | [], _, _, _, _, e => by simp at e
  | v :: r, least, 0, u, h, e => by
    cases e
    obtain ⟨a, b, c, d, e, f, g⟩ := h
    exact ⟨⟨Int.le_refl _, b, c, d, e, f, trivial⟩, g⟩
  | v :: r, least, i + 1, u, h, e => by
    obtain ⟨a, b, c, d, _, f, g⟩ := h
    exact OkUs.at (us := r) (i := i) g e
def spUnits : Sp := fun vs H Q _ => ∃ (v : V) (us : List Un'), vs = [v] ∧ (cL cUn).R H v us ∧ OkUnits us ∧ ∀ H', Same H H' → Q (.bl true) H'
theorem ok_are_units (T : Txt K mg) : FnOk P w K mg base CX0 2 (ga K "are_units") (fdAt K (ga K "are_units")) ["units"] spUnits := by
  refine okD T.F_are_units sc_are_units (fun vs H Q E h => ?_) (fun cdv A outer s H vs Q E hr h => ?_)
  · obtain ⟨v, us, rfl, _⟩ := h
    rfl
  obtain ⟨_, us, rfl, ⟨a, vs, rfl, ha, hp⟩, ⟨hl, hu, hf⟩, k⟩ := h
  have nd := sc_are_units.nd
  have hvl := hp.length
  refine ⟨_, ((pss_cons (ps_if (pt_cmpR op_gt (pe_callB (lenS_ K rfl) rfl T.n_len boot_len (pa_cons (pv 0) pa_nil)) (pe_gint T.i_MOST_UNITS_presentation) (nomark _)) (pss_one (ps_ret pe_bl)) pss_nil)
      (pss_cons (ps_set (i := 1) nd rfl (Or.inl rfl) pe_int)
      (pss_cons (ps_for PassesOwn.never rfl (pi_range1 rfl T.n_range (pa_cons (pe_callB (lenS_ K rfl) rfl T.n_len boot_len (pa_cons (pv 0) pa_nil)) pa_nil)) (pg_name (i := 2) nd rfl (Or.inl rfl)) (pss_cons (ps_asg (pe_ix (ixL_ K rfl) (pv 0) (pv 2) (fun _ _ => rfl)) (pg_tup_ K rfl rfl (n := 4) (pgs_cons (pg_name (i := 3) nd rfl (Or.inl rfl)) (pgs_cons (pg_name (i := 4) nd rfl (Or.inl rfl)) (pgs_cons (pg_name (i := 5) nd rfl (Or.inl rfl)) (pgs_cons (pg_name (i := 6) nd rfl (Or.inl rfl)) pgs_nil))))))
        (pss_cons (ps_if (PW.pt (pw_or (pt_notC (pt_chain op_le op_lt (pv 1) (pv 3) (pe_gint T.i_TIME_BOUND))) (pw_or1 (pt_notC (pt_chain op_le op_lt pe_int (pv 4) (pe_gint T.i_SPAN_BOUND)))))) (pss_one (ps_ret pe_bl)) pss_nil)
        (pss_cons (ps_if (PW.pt (pw_or (pt_notC (pt_val (pe_call (ok_is_row T) (hr.mono (by decide)) rfl T.g_is_row T.k_is_row T.b_is_row .nil pass0 (pa_cons (pv 5) (pa_cons (pe_gint T.i_MOST_CONTENT) pa_nil))))) (pw_or1 (PW.pt (pw_and (pt_val (pv 6)) (pw_and1 (pt_cmpR op_eq (pv 2) pe_int (nomark _)))))))) (pss_one (ps_ret pe_bl)) pss_nil)
        (pss_one (ps_set (i := 1) nd rfl (Or.inl rfl) (pe_op op_add (pv 3) (pv 4))))))))
      (pss_one (ps_ret pe_bl)))))), ?_⟩
  refine ⟨_, rfl, _, _, rfl, .inl (SqL.of ha), _, _, rfl, rfl, _, rfl, yF (by omega) ⟨_, rfl, _, _, rfl, .inl (SqL.of ha), _, rfl, by omega, by omega, for_range (n := ((vs.length : Nat) : Int).toNat) (fun i σ H' => ∃ (least : Int) (u v x y z : Option V), σ = [some (.ref a), some (.int least), u, v, x, y, z] ∧ Same H H' ∧ OkUs least (us.drop i) ∧ i ≤ us.length)
    ⟨0, none, none, none, none, none, rfl, Same.refl _, hu, Nat.zero_le _⟩ ?_ ?_⟩⟩
  · rintro i σ H' hi ⟨least, u, v, x, y, z, rfl, s, ho, hi'⟩
    have hi2 : i < us.length := by omega
    have hus : us[i]? = some us[i] := List.getElem?_eq_getElem hi2
    obtain ⟨x0, hx0, t, x1, x2, x3, x4, rfl, ht, rfl, rfl, ⟨c, rfl, hc⟩, rfl⟩ := pget hp hus
    rw [List.drop_eq_getElem_cons hi2] at ho
    generalize us[i] = un at *
    obtain ⟨o1, o2, o3, o4, o5, o6, o7⟩ := ho
    have ht' := s _ _ ht
    refine ⟨_, rfl, _, rfl, _, _, _, _, rfl, rfl, SqL.of (s _ _ ha), at0 (i := i) (by omega) hx0, t, _, rfl, SqT.of ht', rfl, _, _, rfl, _, _, rfl, _, _, rfl, _, _, rfl, rfl, ?_⟩
    refine ⟨_, rfl, _, rfl, _, _, rfl, rfl, _, rfl, yT o1 ⟨_, _, rfl, rfl, _, rfl, ?_⟩⟩
    have hh : un.1 < 1099511627776 := by omega
    refine yT ?_ ?_
    · exact hh
    refine ⟨_, rfl, _, _, rfl, rfl, _, rfl, yT o3 ⟨_, _, rfl, rfl, _, rfl, ?_⟩⟩
    have hh2 : un.2.1 < 16777216 := by omega
    refine yT ?_ ?_
    · exact hh2
    refine ⟨_, rfl, c, un.2.2.1, 200, rfl, hc.mono s, by omega, by omega, o6, fun H2 s2 => ⟨_, rfl, _, rfl, _, rfl, ?_⟩⟩
    have nxt : ∃ (least : Int) (u v x y z : Option V), (([some (V.ref a), some (.int least), some (.int (0 + (i : Int))), some (.int un.1), some (.int un.2.1), some (.ref c), some (.bl un.2.2.2)] : List (Option V)).set 1 (some (.int (un.1 + un.2.1)))) = [some (.ref a), some (.int least), u, v, x, y, z] ∧ Same H H2 ∧ OkUs least (us.drop (i + 1)) ∧ i + 1 ≤ us.length :=
      ⟨un.1 + un.2.1, _, _, _, _, _, rfl, s.trans s2, o7, hi2⟩
    by_cases e : un.2.2.2 = true
    · have hne : i ≠ 0 := fun z => by
        subst z
        have := hf _ hus
        rw [e] at this
        cases this
      refine ifT e ⟨_, rfl, rfl, _, rfl, ifF (bl_f fun z => hne (by have := V.int.inj z; omega)) ⟨_, rfl, _, rfl, _, _, rfl, rfl, nxt⟩⟩
    · refine ifF (by simpa using e) ⟨_, rfl, _, rfl, _, _, rfl, rfl, nxt⟩
  · rintro σ H' ⟨least, u, v, x, y, z, rfl, s, ho, hi'⟩
    exact k H' s
end
end Sp
namespace Sp
open PySem PySem.Spec PyProof.Rows L2
section
variable {P : Program} {w : World} {K : PySem.W.Frag} {mg : Str → Option Value} {base : Heap}
def spSize : Sp := fun vs H Q _ => ∃ n : Nat, vs = [.int n] ∧ Q (.int ((putS n).length : Nat)) H
theorem ok_step_size (T : Txt K mg) : FnOk P w K mg base CX0 1 (ga K "step_size") (fdAt K (ga K "step_size")) ["number"] spSize := by
  refine okD T.F_step_size sc_step_size (fun vs H Q E h => ?_) (fun cdv A outer s H vs Q E hr h => ?_)
  · obtain ⟨n, rfl, _⟩ := h
    rfl
  obtain ⟨n, rfl, k⟩ := h
  have nd := sc_step_size.nd
  refine ⟨_, ((pss_cons (ps_set (i := 1) nd rfl (Or.inl rfl) pe_int)
      (pss_cons (ps_while PassesOwn.never (pt_cmpR op_ge (pv 0) pe_int (nomark _)) (pss_cons (ps_set (i := 0) nd rfl (Or.inl rfl) (pe_op op_shr (pv 0) pe_int))
        (pss_one (ps_set (i := 1) nd rfl (Or.inl rfl) (pe_op op_add (pv 1) pe_int)))))
      (pss_one (ps_ret (pv 1)))))), ?_⟩
  refine ⟨fun m σ H' => H' = H ∧ ∃ r j : Nat, m = r + 1 ∧ σ = [some (.int r), some (.int j)] ∧ j + (putS r).length = (putS n).length + 1, ⟨_, rfl, n, 1, rfl, rfl, by omega⟩, ?_⟩
  rintro m σ H' ⟨rfl, r, j, rfl, rfl, e⟩
  refine ⟨_, rfl, _, _, rfl, rfl, _, rfl, ?_⟩
  by_cases c : 127 < r
  · rw [putS_big c, List.length_cons] at e
    refine yT (by omega) ⟨_, fun _ _ h => h, _, rfl, _, _, rfl, rfl, (by show (0 : Int) ≤ 7; decide), _, rfl, _, _, rfl, rfl, r / 128 + 1, by omega, rfl, r / 128, j + 1, rfl, ?_, by omega⟩
    show [some (V.int ((r : Int) / 2 ^ (7 : Int).toNat)), some (V.int ((j : Int) + 1))] = _
    rw [shr7]
    rfl
  · rw [putS_small c] at e
    refine yF (by omega) ⟨_, rfl, ?_⟩
    simp at e
    rw [e]
    exact k
def tsz (tags : List (Str × Str)) : Nat := (tags.map fun t => (tb t.1).length + (tb t.2).length).sum
theorem tsz_snoc (a : List (Str × Str)) (t : Str × Str) : tsz (a ++ [t]) = tsz a + ((tb t.1).length + (tb t.2).length) := by simp [tsz]
theorem tsz_le {tags : List (Str × Str)} (h : OkTags tags) : tsz tags ≤ 128 * tags.length := by
  have : ∀ l : List (Str × Str), (∀ t ∈ l, t ∈ tags) → tsz l ≤ 128 * l.length := by
    intro l
    induction l with
    | nil => intro _; simp [tsz]
    | cons t r ih =>
      intro hl
      have a := ih fun x hx => hl x (by simp [hx])
      have k := h.key t (hl t (by simp))
      have v := h.val t (hl t (by simp))
      have k1 := putS_len6 (n := t.1.length) (by have := k.2.1; omega)
      have v1 := putS_len6 (n := t.2.length) (by have := v.1; omega)
      have k2 := tb_len k.2.1
      have v2 := tb_len v.1
      have := k.2.1; have := v.1
      simp only [tsz, List.map_cons, List.sum_cons, List.length_cons] at a ⊢
      omega
  exact this tags fun _ h => h
def spTags : Sp := fun vs H Q _ => ∃ (v : V) (tags : List (Str × Str)), vs = [v] ∧ cTags.R H v tags ∧ OkTags tags ∧ ∀ H', Same H H' → Q (.bl true) H'
theorem ok_are_tags (T : Txt K mg) : FnOk P w K mg base CX0 2 (ga K "are_tags") (fdAt K (ga K "are_tags")) ["tags"] spTags := by
  refine okD T.F_are_tags sc_are_tags (fun vs H Q E h => ?_) (fun cdv A outer s H vs Q E hr h => ?_)
  · obtain ⟨v, tags, rfl, _⟩ := h
    rfl
  obtain ⟨_, tags, rfl, ⟨a, vs, rfl, ha, hp⟩, ok, k⟩ := h
  have nd := sc_are_tags.nd
  have hvl := hp.length
  have hl := ok.len
  have hsz := tsz_le ok
  refine ⟨_, ((pss_cons (ps_set (i := 1) nd rfl (Or.inl rfl) (pe_call (ok_step_size T) (hr.mono (by decide)) rfl T.g_step_size T.k_step_size T.b_step_size .nil pass0 (pa_cons (pe_callB (lenS_ K rfl) rfl T.n_len boot_len (pa_cons (pv 0) pa_nil)) pa_nil)))
      (pss_cons (ps_for PassesOwn.never rfl (pi_range1 rfl T.n_range (pa_cons (pe_callB (lenS_ K rfl) rfl T.n_len boot_len (pa_cons (pv 0) pa_nil)) pa_nil)) (pg_name (i := 2) nd rfl (Or.inl rfl)) (pss_cons (ps_asg (pe_ix (ixL_ K rfl) (pv 0) (pv 2) (fun _ _ => rfl)) (pg_tup_ K rfl rfl (n := 2) (pgs_cons (pg_name (i := 3) nd rfl (Or.inl rfl)) (pgs_cons (pg_name (i := 4) nd rfl (Or.inl rfl)) pgs_nil))))
        (pss_cons (ps_if (PW.pt (pw_or (pt_notC (pt_val (pe_call (ok_is_word T) (hr.mono (by decide)) rfl T.g_is_word T.k_is_word T.b_is_word .nil pass0 (pa_cons (pv 3) pa_nil)))) (pw_or (pt_notC (pt_val (pe_call (ok_is_line T) (hr.mono (by decide)) rfl T.g_is_line T.k_is_line T.b_is_line .nil pass0 (pa_cons (pv 4) (pa_cons (pe_gint T.i_MOST_VALUE) pa_nil))))) (pw_or1 (PW.pt (pw_and (pt_cmpR op_gt (pv 2) pe_int (nomark _)) (pw_and1 (pt_cmpR op_le_str (pv 3) (pe_ix (ixT_ K rfl) (pe_ix (ixL_ K rfl) (pv 0) (pe_op op_sub (pv 2) pe_int) (fun _ _ => rfl)) pe_int (fun _ _ => rfl)) (nomark _))))))))) (pss_one (ps_ret pe_bl)) pss_nil)
        (pss_one (ps_set (i := 1) nd rfl (Or.inl rfl) (pe_op op_add (pe_op op_add (pe_op op_add (pe_op op_add (pv 1) (pe_call (ok_step_size T) (hr.mono (by decide)) rfl T.g_step_size T.k_step_size T.b_step_size .nil pass0 (pa_cons (pe_callB call_len_str rfl T.n_len boot_len (pa_cons (pv 3) pa_nil)) pa_nil))) (pe_callB call_len_str rfl T.n_len boot_len (pa_cons (pv 3) pa_nil))) (pe_call (ok_step_size T) (hr.mono (by decide)) rfl T.g_step_size T.k_step_size T.b_step_size .nil pass0 (pa_cons (pe_callB call_len_str rfl T.n_len boot_len (pa_cons (pv 4) pa_nil)) pa_nil))) (pe_callB call_len_str rfl T.n_len boot_len (pa_cons (pv 4) pa_nil))))))))
      (pss_one (ps_ret (pe_cmpR op_le (pv 1) (pe_gint T.i_MOST_BODY_presentation) (nomark _))))))), ?_⟩
  refine ⟨_, rfl, _, _, rfl, .inl (SqL.of ha), vs.length, rfl, _, rfl, _, _, rfl, .inl (SqL.of ha), _, rfl, by omega, by omega, for_range (n := ((vs.length : Nat) : Int).toNat) (fun i σ H' => ∃ (u v x : Option V), σ = [some (.ref a), some (.int (((putS vs.length).length + tsz (tags.take i) : Nat) : Int)), u, v, x] ∧ Same H H' ∧ i ≤ tags.length)
    ⟨none, none, none, by simp [tsz]; rfl, Same.refl _, Nat.zero_le _⟩ ?_ ?_⟩
  · rintro i σ H' hi ⟨u, v, x, rfl, s, hi'⟩
    have hi2 : i < tags.length := by omega
    have htg : tags[i]? = some tags[i] := List.getElem?_eq_getElem hi2
    obtain ⟨x0, hx0, t, x1, x2, rfl, ht, rfl, rfl⟩ := pget hp htg
    have hmem := List.mem_of_getElem? htg
    have ok1 := ok.key _ hmem
    have ok2 := ok.val _ hmem
    refine ⟨_, rfl, _, rfl, _, _, _, _, rfl, rfl, SqL.of (s _ _ ha), at0 (i := i) (by omega) hx0, t, _, rfl, SqT.of (s _ _ ht), rfl, _, _, rfl, _, _, rfl, rfl, ?_⟩
    refine ⟨_, rfl, tags[i].1, rfl, ok1, fun H2 s2 => ⟨_, rfl, _, rfl, tags[i].2, 100, rfl, ok2, by have := ok2.1; omega, fun H3 s3 => ⟨_, rfl, _, rfl, _, _, rfl, rfl, _, rfl, ?_⟩⟩⟩
    have s03 := (s.trans s2).trans s3
    have fin : ∀ H4, Same H H4 → ∃ (u v x : Option V), (([some (V.ref a), some (.int (((putS vs.length).length + tsz (tags.take i) : Nat) : Int)), some (.int (0 + (i : Int))), some (.str tags[i].1), some (.str tags[i].2)] : List (Option V)).set 1 (some (.int ((((((putS vs.length).length + tsz (tags.take i) : Nat) : Int) + (((putS tags[i].1.length).length : Nat) : Int)) + (tags[i].1.length : Int)) + (((putS tags[i].2.length).length : Nat) : Int) + (tags[i].2.length : Int))))) = [some (.ref a), some (.int (((putS vs.length).length + tsz (tags.take (i + 1)) : Nat) : Int)), u, v, x] ∧ Same H H4 ∧ i + 1 ≤ tags.length := fun H4 s4 => by
      have e : ((((((putS vs.length).length + tsz (tags.take i) : Nat) : Int) + (((putS tags[i].1.length).length : Nat) : Int)) + (tags[i].1.length : Int)) + (((putS tags[i].2.length).length : Nat) : Int) + (tags[i].2.length : Int)) = (((putS vs.length).length + tsz (tags.take (i + 1)) : Nat) : Int) := by
        rw [take_snoc htg, tsz_snoc, tb_len ok1.2.1, tb_len ok2.1]
        omega
      rw [e]
      exact ⟨_, _, _, rfl, s4, hi2⟩
    by_cases c : 0 < i
    · have hpr : tags[i - 1]? = some tags[i - 1] := List.getElem?_eq_getElem (by omega)
      obtain ⟨y0, hy0, t2, y1, y2, rfl, ht2, rfl, rfl⟩ := pget hp hpr
      have hasc := ok.asc (i - 1) _ _ hpr (by rw [show i - 1 + 1 = i by omega]; exact htg)
      refine yT (by omega) ⟨_, rfl, _, rfl, _, rfl, _, _, rfl, rfl, _, _, _, _, rfl, rfl, SqL.of (s03 _ _ ha), at0 (i := i - 1) (by omega) hy0, _, _, _, _, rfl, rfl, SqT.of (s03 _ _ ht2), atI_nat (j := 0) rfl, _, _, rfl, rfl, _, rfl, ifF (nb_f hasc) ?_⟩
      refine ⟨_, rfl, _, rfl, _, rfl, lsz (by have := ok1.2.1; omega), tags[i].1.length, rfl, _, _, rfl, rfl, _, rfl, _, rfl, lsz (by have := ok1.2.1; omega), _, _, rfl, rfl, _, rfl, _, rfl, lsz (by have := ok2.1; omega), tags[i].2.length, rfl, _, _, rfl, rfl, _, rfl, _, rfl, lsz (by have := ok2.1; omega), _, _, rfl, rfl, fin _ s03⟩
    · refine yF (by omega) ?_
      refine ⟨_, rfl, _, rfl, _, rfl, lsz (by have := ok1.2.1; omega), tags[i].1.length, rfl, _, _, rfl, rfl, _, rfl, _, rfl, lsz (by have := ok1.2.1; omega), _, _, rfl, rfl, _, rfl, _, rfl, lsz (by have := ok2.1; omega), tags[i].2.length, rfl, _, _, rfl, rfl, _, rfl, _, rfl, lsz (by have := ok2.1; omega), _, _, rfl, rfl, fin _ s03⟩
  · rintro σ H' ⟨u, v, x, rfl, s, hi'⟩
    refine ⟨_, rfl, _, _, rfl, rfl, ?_⟩
    have hp6 := putS_len6 (n := vs.length) (by omega)
    have e : tags.take ((vs.length : Nat) : Int).toNat = tags := by rw [show ((vs.length : Nat) : Int).toNat = tags.length by omega, List.take_length]
    rw [e]
    dsimp only
    rw [decide_eq_true (show (((putS vs.length).length + tsz tags : Nat) : Int) ≤ 1024 by omega)]
    exact k H' s
def spPres : Sp := fun vs H Q _ => ∃ (v : V) (p : Pr), vs = [v] ∧ cPr.R H v p ∧ OkPr p ∧ ∀ H', Same H H' → Q (.bl true) H'
theorem ok_is_presentation (T : Txt K mg) : FnOk P w K mg base CX0 3 (ga K "is_presentation") (fdAt K (ga K "is_presentation")) ["value"] spPres := by
  refine okD T.F_is_presentation sc_is_presentation (fun vs H Q E h => ?_) (fun cdv A outer s H vs Q E hr h => ?_)
  · obtain ⟨v, p, rfl, _⟩ := h
    rfl
  obtain ⟨_, p, rfl, ⟨t, x1, x2, x3, x4, rfl, ht, rfl, rfl, ⟨a, vs, rfl, ha, hp⟩, htg⟩, ok, k⟩ := h
  have nd := sc_is_presentation.nd
  have hvl := hp.length
  obtain ⟨o1, o2⟩ := ok.ticks
  obtain ⟨o3, o4⟩ := ok.skip
  have o5 := ok.len
  refine ⟨_, ((pss_cons (ps_asg (pv 0) (pg_tup_ K rfl rfl (n := 4) (pgs_cons (pg_name (i := 1) nd rfl (Or.inl rfl)) (pgs_cons (pg_name (i := 2) nd rfl (Or.inl rfl)) (pgs_cons (pg_name (i := 3) nd rfl (Or.inl rfl)) (pgs_cons (pg_name (i := 4) nd rfl (Or.inl rfl)) pgs_nil))))))
      (pss_cons (ps_if (PW.pt (pw_or (pt_notC (pt_chain op_le op_le pe_int (pv 1) (pe_gint T.i_MOST_TICKS))) (pw_or (pt_notC (pt_chain op_le op_lt pe_int (pv 2) (pe_gint T.i_TIME_BOUND))) (pw_or1 (pt_cmpR op_gt (pe_callB (lenS_ K rfl) rfl T.n_len boot_len (pa_cons (pv 3) pa_nil)) (pe_gint T.i_MOST_TRACKS) (nomark _)))))) (pss_one (ps_ret pe_bl)) pss_nil)
      (pss_cons (ps_for PassesOwn.never rfl (pi_list (pv 3)) (pg_tup_ K rfl rfl (n := 3) (pgs_cons (pg_name (i := 5) nd rfl (Or.inl rfl)) (pgs_cons (pg_name (i := 6) nd rfl (Or.inl rfl)) (pgs_cons (pg_name (i := 7) nd rfl (Or.inl rfl)) pgs_nil)))) (pss_one (ps_if (PW.pt (pw_or (pt_notC (pt_val (pe_call (ok_is_line T) (hr.mono (by decide)) rfl T.g_is_line T.k_is_line T.b_is_line .nil pass0 (pa_cons (pv 5) (pa_cons (pe_gint T.i_MOST_NAME) pa_nil))))) (pw_or (pt_notC (pt_val (pe_call (ok_is_word T) (hr.mono (by decide)) rfl T.g_is_word T.k_is_word T.b_is_word .nil pass0 (pa_cons (pv 6) pa_nil)))) (pw_or1 (pt_notC (pt_val (pe_call (ok_are_units T) (hr.mono (by decide)) rfl T.g_are_units T.k_are_units T.b_are_units .nil pass0 (pa_cons (pv 7) pa_nil)))))))) (pss_one (ps_ret pe_bl)) pss_nil)))
      (pss_one (ps_ret (pe_call (ok_are_tags T) (hr.mono (by decide)) rfl T.g_are_tags T.k_are_tags T.b_are_tags .nil pass0 (pa_cons (pv 4) pa_nil)))))))), ?_⟩
  refine ⟨_, rfl, t, _, rfl, SqT.of ht, rfl, _, _, rfl, _, _, rfl, _, _, rfl, _, _, rfl, rfl, ?_⟩
  refine ⟨_, rfl, _, _, rfl, rfl, _, rfl, yT o1 ⟨_, _, rfl, rfl, _, rfl, yT o2 ⟨_, rfl, _, _, rfl, rfl, _, rfl, yT o3 ⟨_, _, rfl, rfl, _, rfl, ?_⟩⟩⟩⟩
  have hh : p.2.1 < 1099511627776 := by omega
  refine yT ?_ ?_
  · exact hh
  refine ⟨_, rfl, _, _, rfl, .inl (SqL.of ha), _, _, rfl, rfl, _, rfl, yF (by omega) ?_⟩
  refine ⟨_, rfl, a, rfl, ⟨_, SqL.of ha⟩, for_list (K := K) (a := a) (xs := vs) (fun i σ H' => ∃ (u v x : Option V), σ = [some (.ref t), some (.int p.1), some (.int p.2.1), some (.ref a), some x4, u, v, x] ∧ Same H H') ⟨none, none, none, rfl, Same.refl _⟩ (fun i σ H' _ ⟨_, _, _, _, s⟩ => SqL.of (s _ _ ha)) ?_ ?_⟩
  · rintro i x σ H' hi ⟨u, v, z, rfl, s⟩
    obtain ⟨tr, htr, q, y1, y2, y3, rfl, hq, rfl, rfl, hu⟩ := pgetl hp hi
    have okt := ok.tracks tr (List.mem_of_getElem? htr)
    refine ⟨q, _, rfl, SqT.of (s _ _ hq), rfl, _, _, rfl, _, _, rfl, _, _, rfl, rfl, ?_⟩
    refine ⟨_, rfl, tr.1, 32, rfl, okt.name, by have := okt.name.1; omega, fun H2 s2 => ⟨_, rfl, _, rfl, tr.2.1, rfl, okt.kind, fun H3 s3 => ⟨_, rfl, _, rfl, y3, tr.2.2, rfl, (cL cUn).mono ((s.trans s2).trans s3) hu, okt.units, fun H4 s4 => ⟨_, rfl, _, _, _, rfl, ((s.trans s2).trans s3).trans s4⟩⟩⟩⟩
  · rintro σ H' ⟨u, v, z, rfl, s⟩
    refine ⟨_, rfl, x4, p.2.2.2, rfl, cTags.mono s htg, ok.tags, fun H2 s2 => k H2 (s.trans s2)⟩
end
end Sp
namespace Sp
open PySem PySem.Spec PyProof.Rows L2
def rb (r : Row3) : List Int := tb r.1 ++ tb r.2.1 ++ putS r.2.2.toNat
def headB (ticks skip : Int) (rows : List Row3) : List Int := txt "spool" ++ putS 1 ++ putS ticks.toNat ++ putS skip.toNat ++ putS rows.length ++ rows.flatMap rb
def ib (e : Int × Int × Int) : List Int := putS e.1.toNat ++ putS e.2.1.toNat ++ putS e.2.2.toNat
def idxB (es : List (Int × Int × Int)) : List Int := putS es.length ++ es.flatMap ib
def endB (count total : Nat) : List Int := putS count ++ four total
def unitB (u : Un') (before : List Int) : List Int := if u.2.2.2 = true then putS (chF before u.2.2.1) ++ putS (chB before u.2.2.1) ++ chM before u.2.2.1 else u.2.2.1
section
variable {P : Program} {w : World} {K : PySem.W.Frag} {mg : Str → Option Value} {base : Heap}
def spBytes : Sp := fun vs H Q _ => ∃ (s : Str), vs = [.str s] ∧ s.length ≤ 1000 ∧ RL H Q (txt s)
theorem ok_bytes_of (T : Txt K mg) : FnOk P w K mg base CX0 1 (ga K "bytes_of") (fdAt K (ga K "bytes_of")) ["text"] spBytes := by
  refine okD T.F_bytes_of sc_bytes_of (fun vs H Q E h => ?_) (fun cdv A outer s H vs Q E hr h => ?_)
  · obtain ⟨s, rfl, _⟩ := h
    rfl
  obtain ⟨s, rfl, hl, k⟩ := h
  have nd := sc_bytes_of.nd
  refine ⟨_, ((pss_one (ps_ret (pe_lc (own := [("char", 1)]) rfl nd (pi_str (pv 0)) (blkOk_by (N := N_bytes_of) (sc := defScope s_bytes_of) (by decide +kernel)) (fun _ _ _ _ _ => (pg_name (i := 1) nd rfl (Or.inl rfl))) (fun _ _ _ _ _ => pts_nil) (fun _ _ _ _ _ => (pe_callB call_ord rfl T.n_ord boot_ord (pa_cons (pv 1) pa_nil))))))), ?_⟩
  refine ⟨_, rfl, s, rfl, fun D hD => lc_it walk_str (fun i H' => H' = upd H D (.lst (((txt s).take i).map V.int))) rfl (fun _ _ _ _ => trivial) ?_ ?_⟩
  · rintro i x H' H'' hi rfl ⟨rfl, c, hc, rfl⟩
    have hm : (txt s)[i]? = some (c : Int) := by
      rw [txt, List.getElem?_map]
      have : s.cps.toList[i]? = some c := by rw [Array.getElem?_toList]; exact hc
      rw [this]
      rfl
    have : i < s.length := hi
    refine ⟨rfl, _, rfl, _, rfl, rfl, _, upd_same, lsz' (by simp; omega), ?_⟩
    rw [take_snoc hm, List.map_append, upd_upd]
    rfl
  · rintro H' rfl
    have e : (txt s).take s.cps.size = txt s := List.take_of_length_le (by rw [txt, List.length_map]; exact Nat.le_of_eq (chs_len s))
    rw [e]
    exact k D _ (Same.new hD) hD upd_same
def spTb : Sp := fun vs H Q _ => ∃ (s : Str), vs = [.str s] ∧ s.length ≤ 1000 ∧ RL H Q (tb s)
theorem ok_text_bytes (T : Txt K mg) : FnOk P w K mg base CX0 2 (ga K "text_bytes") (fdAt K (ga K "text_bytes")) ["text"] spTb := by
  refine okD T.F_text_bytes sc_text_bytes (fun vs H Q E h => ?_) (fun cdv A outer s H vs Q E hr h => ?_)
  · obtain ⟨s, rfl, _⟩ := h
    rfl
  obtain ⟨s, rfl, hl, k⟩ := h
  have nd := sc_text_bytes.nd
  refine ⟨_, ((pss_one (ps_ret (pe_op op_cat (pe_call (ok_put_steps T) (hr.mono (by decide)) rfl T.g_put_steps T.k_put_steps T.b_put_steps .nil pass0 (pa_cons (pe_callB call_len_str rfl T.n_len boot_len (pa_cons (pv 0) pa_nil)) pa_nil)) (pe_call (ok_bytes_of T) (hr.mono (by decide)) rfl T.g_bytes_of T.k_bytes_of T.b_bytes_of .nil pass0 (pa_cons (pv 0) pa_nil)))))), ?_⟩
  have l6 := putS_len6 (n := s.length) (by omega)
  have lt : (txt s).length = s.length := by rw [txt, List.length_map, chs_len]
  refine ⟨_, rfl, _, rfl, lsz (by omega), s.length, rfl, by omega, fun p H1 s1 n1 h1 => ⟨_, rfl, s, rfl, hl, fun q H2 s2 n2 h2 => ⟨p, q, _, _, rfl, rfl, s2 _ _ h1, h2, lsz (by simp; omega), fun r nr => ?_⟩⟩⟩
  rw [← List.map_append]
  exact k r _ ((s1.trans s2).add nr) ((s1.trans s2).free nr) upd_same
theorem tb_le {s : Str} {n : Nat} (h : s.length ≤ n) (hn : n ≤ 1000) : (tb s).length ≤ 6 + n := by
  have := putS_len6 (n := s.length) (by omega)
  have := tb_len h
  omega
def OkRow (r : Row3) : Prop := r.1.length ≤ 100 ∧ r.2.1.length ≤ 100 ∧ 0 ≤ r.2.2 ∧ r.2.2 ≤ 1000
theorem rb_le {r : Row3} (h : OkRow r) : (rb r).length ≤ 218 := by
  have a := tb_le h.1 (by decide)
  have b := tb_le h.2.1 (by decide)
  have := h.2.2
  have c := putS_len6 (n := r.2.2.toNat) (by omega)
  simp only [rb, List.length_append]
  omega
theorem flat_le {α : Type} {f : α → List Int} {n : Nat} : ∀ {l : List α}, (∀ x ∈ l, (f x).length ≤ n) → (l.flatMap f).length ≤ n * l.length
  | [], _ => by simp
  | x :: l, h => by
    have a := h x (by simp)
    have b := flat_le (l := l) fun y hy => h y (by simp [hy])
    rw [List.flatMap_cons, List.length_append, List.length_cons, Nat.mul_add]
    omega
def spHead : Sp := fun vs H Q _ => ∃ (ticks skip : Int) (v : V) (rows : List Row3), vs = [.int ticks, .int skip, v] ∧ 0 ≤ ticks ∧ ticks ≤ 1000000 ∧ 0 ≤ skip ∧ skip ≤ 1000000 ∧ (cL cRow3).R H v rows ∧ rows.length ≤ 100 ∧ (∀ r ∈ rows, OkRow r) ∧ RL H Q (headB ticks skip rows)
theorem ok_head_of_rows (T : Txt K mg) : FnOk P w K mg base CX0 3 (ga K "head_of_rows") (fdAt K (ga K "head_of_rows")) ["ticks", "skip", "rows"] spHead := by
  refine okD T.F_head_of_rows sc_head_of_rows (fun vs H Q E h => ?_) (fun cdv A outer s H vs Q E hr h => ?_)
  · obtain ⟨_, _, _, _, rfl, _⟩ := h
    rfl
  obtain ⟨ticks, skip, _, rows, rfl, t0, t1, s0, s1, ⟨a, vs, rfl, ha, hp⟩, hl, ok, k⟩ := h
  have nd := sc_head_of_rows.nd
  have hvl := hp.length
  refine ⟨_, ((pss_cons (ps_set (i := 3) nd rfl (Or.inl rfl) (pe_op op_cat (pe_op op_cat (pe_op op_cat (pe_op op_cat (pe_call (ok_bytes_of T) (hr.mono (by decide)) rfl T.g_bytes_of T.k_bytes_of T.b_bytes_of .nil pass0 (pa_cons (pe_gstr T.s_LETTERS) pa_nil)) (pe_call (ok_put_steps T) (hr.mono (by decide)) rfl T.g_put_steps T.k_put_steps T.b_put_steps .nil pass0 (pa_cons (pe_gint T.i_VERSION) pa_nil))) (pe_call (ok_put_steps T) (hr.mono (by decide)) rfl T.g_put_steps T.k_put_steps T.b_put_steps .nil pass0 (pa_cons (pv 0) pa_nil))) (pe_call (ok_put_steps T) (hr.mono (by decide)) rfl T.g_put_steps T.k_put_steps T.b_put_steps .nil pass0 (pa_cons (pv 1) pa_nil))) (pe_call (ok_put_steps T) (hr.mono (by decide)) rfl T.g_put_steps T.k_put_steps T.b_put_steps .nil pass0 (pa_cons (pe_callB (lenS_ K rfl) rfl T.n_len boot_len (pa_cons (pv 2) pa_nil)) pa_nil))))
      (pss_cons (ps_for PassesOwn.never rfl (pi_list (pv 2)) (pg_tup_ K rfl rfl (n := 3) (pgs_cons (pg_name (i := 4) nd rfl (Or.inl rfl)) (pgs_cons (pg_name (i := 5) nd rfl (Or.inl rfl)) (pgs_cons (pg_name (i := 6) nd rfl (Or.inl rfl)) pgs_nil)))) (pss_one (ps_expr (pe_bm PySem.F.plainAttrs_list PySem.F.slot_list_extend PySem.F.type_list_extend mt_extend (pv 3) (pa_cons (pe_op op_cat (pe_op op_cat (pe_call (ok_text_bytes T) (hr.mono (by decide)) rfl T.g_text_bytes T.k_text_bytes T.b_text_bytes .nil pass0 (pa_cons (pv 4) pa_nil)) (pe_call (ok_text_bytes T) (hr.mono (by decide)) rfl T.g_text_bytes T.k_text_bytes T.b_text_bytes .nil pass0 (pa_cons (pv 5) pa_nil))) (pe_call (ok_put_steps T) (hr.mono (by decide)) rfl T.g_put_steps T.k_put_steps T.b_put_steps .nil pass0 (pa_cons (pv 6) pa_nil))) pa_nil)))))
      (pss_one (ps_ret (pv 3)))))), ?_⟩
  have l1 := putS_len6 (n := 1) (by decide)
  have l2 := putS_len6 (n := ticks.toNat) (by omega)
  have l3 := putS_len6 (n := skip.toNat) (by omega)
  have l4 := putS_len6 (n := rows.length) (by omega)
  have l0 : (txt "spool").length = 5 := rfl
  refine ⟨"spool", rfl, by decide, fun p1 H1 q1 n1 h1 => ⟨1, rfl, by decide, fun p2 H2 q2 n2 h2 => ⟨p1, p2, _, _, rfl, rfl, q2 _ _ h1, h2, lsz (by simp only [List.length_map]; omega), fun r1 m1 => ?_⟩⟩⟩
  rw [← List.map_append]
  have s1' : Same H (upd H2 r1 (.lst ((txt "spool" ++ putS 1).map V.int))) := (q1.trans q2).add m1
  have g1 : Li (upd H2 r1 (.lst ((txt "spool" ++ putS 1).map V.int))) r1 (txt "spool" ++ putS 1) := upd_same
  generalize upd H2 r1 (.lst ((txt "spool" ++ putS 1).map V.int)) = G1 at s1' g1
  refine ⟨_, rfl, ticks.toNat, congrArg (fun z => [z]) (toN t0), by omega, fun p3 H3 q3 n3 h3 => ⟨r1, p3, _, _, rfl, rfl, q3 _ _ g1, h3, lsz (by simp only [List.length_map, List.length_append]; omega), fun r2 m2 => ?_⟩⟩
  rw [← List.map_append]
  have s2' := (s1'.trans q3).add (o := .lst ((txt "spool" ++ putS 1 ++ putS ticks.toNat).map V.int)) m2
  have g2 : Li (upd H3 r2 (.lst ((txt "spool" ++ putS 1 ++ putS ticks.toNat).map V.int))) r2 _ := upd_same
  generalize upd H3 r2 (.lst ((txt "spool" ++ putS 1 ++ putS ticks.toNat).map V.int)) = G2 at s2' g2
  refine ⟨_, rfl, skip.toNat, congrArg (fun z => [z]) (toN s0), by omega, fun p4 H4 q4 n4 h4 => ⟨r2, p4, _, _, rfl, rfl, q4 _ _ g2, h4, lsz (by simp only [List.length_map, List.length_append]; omega), fun r3 m3 => ?_⟩⟩
  rw [← List.map_append]
  have s3' := (s2'.trans q4).add (o := .lst ((txt "spool" ++ putS 1 ++ putS ticks.toNat ++ putS skip.toNat).map V.int)) m3
  have g3 : Li (upd H4 r3 (.lst ((txt "spool" ++ putS 1 ++ putS ticks.toNat ++ putS skip.toNat).map V.int))) r3 _ := upd_same
  generalize upd H4 r3 (.lst ((txt "spool" ++ putS 1 ++ putS ticks.toNat ++ putS skip.toNat).map V.int)) = G3 at s3' g3
  refine ⟨_, rfl, _, _, rfl, .inl (SqL.of (s3' _ _ ha)), vs.length, rfl, by omega, fun p5 H5 q5 n5 h5 => ⟨r3, p5, _, _, rfl, rfl, q5 _ _ g3, h5, lsz (by rw [hvl]; simp only [List.length_map, List.length_append]; omega), fun o no => ?_⟩⟩
  rw [← List.map_append, hvl]
  have s5 := (s3'.trans q5)
  have hO : H o = none := s5.free no
  generalize hB : txt "spool" ++ putS 1 ++ putS ticks.toNat ++ putS skip.toNat ++ putS rows.length = B
  have hBl : B.length ≤ 50 := by rw [← hB]; simp only [List.length_append]; omega
  refine ⟨_, rfl, a, rfl, ⟨_, SqL.of (upd_keep (s5 _ _ ha) no)⟩, for_list (K := K) (a := a) (xs := vs) (fun i σ H' => ∃ (u v x : Option V), σ = [some (.int ticks), some (.int skip), some (.ref a), some (.ref o), u, v, x] ∧ Same H H' ∧ Li H' o (B ++ (rows.take i).flatMap rb))
    ⟨none, none, none, rfl, s5.add no, by simp; exact upd_same⟩ (fun i σ H' _ ⟨_, _, _, _, s, _⟩ => SqL.of (s _ _ ha)) ?_ ?_⟩
  · rintro i x σ H' hi ⟨u, v, z, rfl, s, hB'⟩
    obtain ⟨r, hr', q, y1, y2, y3, rfl, hq, rfl, rfl, rfl⟩ := pgetl hp hi
    have okr := ok r (List.mem_of_getElem? hr')
    have hfl := flat_le (f := rb) (n := 218) (l := rows.take i) fun x hx => rb_le (ok x (List.mem_of_mem_take hx))
    have htl : (rows.take i).length ≤ 100 := by rw [List.length_take]; omega
    have a1 := tb_le okr.1 (by decide)
    have a2 := tb_le okr.2.1 (by decide)
    have a3 := putS_len6 (n := r.2.2.toNat) (by have := okr.2.2; omega)
    refine ⟨q, _, rfl, SqT.of (s _ _ hq), rfl, _, _, rfl, _, _, rfl, _, _, rfl, rfl, ?_⟩
    refine ⟨_, rfl, .inl ⟨rfl, _, hB'.sq⟩, _, rfl, r.1, rfl, by have := okr.1; omega, fun p6 H6 q6 n6 h6 => ⟨_, rfl, r.2.1, rfl, by have := okr.2.1; omega, fun p7 H7 q7 n7 h7 => ⟨p6, p7, _, _, rfl, rfl, q7 _ _ h6, h7, lsz (by simp only [List.length_map]; omega), fun p8 n8 => ?_⟩⟩⟩
    rw [← List.map_append]
    have h8 : Li (upd H7 p8 (.lst ((tb r.1 ++ tb r.2.1).map V.int))) p8 _ := upd_same
    have s8 := ((s.trans q6).trans q7).add (o := .lst ((tb r.1 ++ tb r.2.1).map V.int)) n8
    have b8 := ((hB'.mono q6).mono q7).keep (o := .lst ((tb r.1 ++ tb r.2.1).map V.int)) n8
    refine ⟨_, rfl, r.2.2.toNat, congrArg (fun z => [z]) (toN okr.2.2.1), by have := okr.2.2; omega, fun p9 H9 q9 n9 h9 => ⟨p8, p9, _, _, rfl, rfl, q9 _ _ h8, h9, lsz (by simp only [List.length_map, List.length_append]; omega), fun p10 n10 => ?_⟩⟩
    rw [← List.map_append]
    have b10 := (b8.mono q9).keep (o := .lst ((tb r.1 ++ tb r.2.1 ++ putS r.2.2.toNat).map V.int)) n10
    refine ⟨o, p10, _, _, rfl, rfl, b10, upd_same, lsz (by simp only [List.length_map, List.length_append]; omega), _, _, _, rfl, ((s8.trans q9).add n10).mut hO, ?_⟩
    have e : B ++ (rows.take (i + 1)).flatMap rb = B ++ (rows.take i).flatMap rb ++ (tb r.1 ++ tb r.2.1 ++ putS r.2.2.toNat) := by
      rw [take_snoc hr', List.flatMap_append]
      simp [rb]
    rw [← List.map_append, e]
    exact upd_same
  · rintro σ H' ⟨u, v, z, rfl, s, hB'⟩
    rw [hvl, List.take_length] at hB'
    refine ⟨_, rfl, k o H' s hO ?_⟩
    rw [headB, hB]
    exact hB'
def spTagB : Sp := fun vs H Q _ => ∃ (v : V) (tags : List (Str × Str)), vs = [v] ∧ cTags.R H v tags ∧ OkTags tags ∧ RL H Q (tagsBody tags)
theorem ok_tags_body (T : Txt K mg) : FnOk P w K mg base CX0 3 (ga K "tags_body") (fdAt K (ga K "tags_body")) ["tags"] spTagB := by
  refine okD T.F_tags_body sc_tags_body (fun vs H Q E h => ?_) (fun cdv A outer s H vs Q E hr h => ?_)
  · obtain ⟨_, _, rfl, _⟩ := h
    rfl
  obtain ⟨_, tags, rfl, ⟨a, vs, rfl, ha, hp⟩, ok, k⟩ := h
  have nd := sc_tags_body.nd
  have hvl := hp.length
  have hl := ok.len
  refine ⟨_, ((pss_cons (ps_set (i := 1) nd rfl (Or.inl rfl) (pe_call (ok_put_steps T) (hr.mono (by decide)) rfl T.g_put_steps T.k_put_steps T.b_put_steps .nil pass0 (pa_cons (pe_callB (lenS_ K rfl) rfl T.n_len boot_len (pa_cons (pv 0) pa_nil)) pa_nil)))
      (pss_cons (ps_for PassesOwn.never rfl (pi_list (pv 0)) (pg_tup_ K rfl rfl (n := 2) (pgs_cons (pg_name (i := 2) nd rfl (Or.inl rfl)) (pgs_cons (pg_name (i := 3) nd rfl (Or.inl rfl)) pgs_nil))) (pss_one (ps_expr (pe_bm PySem.F.plainAttrs_list PySem.F.slot_list_extend PySem.F.type_list_extend mt_extend (pv 1) (pa_cons (pe_op op_cat (pe_call (ok_text_bytes T) (hr.mono (by decide)) rfl T.g_text_bytes T.k_text_bytes T.b_text_bytes .nil pass0 (pa_cons (pv 2) pa_nil)) (pe_call (ok_text_bytes T) (hr.mono (by decide)) rfl T.g_text_bytes T.k_text_bytes T.b_text_bytes .nil pass0 (pa_cons (pv 3) pa_nil))) pa_nil)))))
      (pss_one (ps_ret (pv 1)))))), ?_⟩
  have l4 := putS_len6 (n := tags.length) (by omega)
  refine ⟨_, rfl, _, _, rfl, .inl (SqL.of ha), vs.length, rfl, by omega, fun o H1 s1 hO h1 => ?_⟩
  rw [hvl] at h1
  have tl : ∀ t ∈ tags, (tb t.1 ++ tb t.2).length ≤ 128 := fun t ht => by
    have a1 := tb_le (ok.key t ht).2.1 (by decide)
    have a2 := tb_le (ok.val t ht).1 (by decide)
    rw [List.length_append]
    omega
  refine ⟨_, rfl, a, rfl, ⟨_, SqL.of (s1 _ _ ha)⟩, for_list (K := K) (a := a) (xs := vs) (fun i σ H' => ∃ (u v : Option V), σ = [some (.ref a), some (.ref o), u, v] ∧ Same H H' ∧ Li H' o (putS tags.length ++ (tags.take i).flatMap fun t => tb t.1 ++ tb t.2))
    ⟨none, none, rfl, s1, by simp; exact h1⟩ (fun i σ H' _ ⟨_, _, _, s, _⟩ => SqL.of (s _ _ ha)) ?_ ?_⟩
  · rintro i x σ H' hi ⟨u, v, rfl, s, hB'⟩
    obtain ⟨r, hr', q, y1, y2, rfl, hq, rfl, rfl⟩ := pgetl hp hi
    have hm := List.mem_of_getElem? hr'
    have hfl := flat_le (f := fun t : Str × Str => tb t.1 ++ tb t.2) (n := 128) (l := tags.take i) fun x hx => tl x (List.mem_of_mem_take hx)
    have htl : (tags.take i).length ≤ 2 := by rw [List.length_take]; omega
    have a1 := tb_le (ok.key r hm).2.1 (by decide)
    have a2 := tb_le (ok.val r hm).1 (by decide)
    refine ⟨q, _, rfl, SqT.of (s _ _ hq), rfl, _, _, rfl, _, _, rfl, rfl, ?_⟩
    refine ⟨_, rfl, .inl ⟨rfl, _, hB'.sq⟩, _, rfl, r.1, rfl, by have := (ok.key r hm).2.1; omega, fun p6 H6 q6 n6 h6 => ⟨_, rfl, r.2, rfl, by have := (ok.val r hm).1; omega, fun p7 H7 q7 n7 h7 => ⟨p6, p7, _, _, rfl, rfl, q7 _ _ h6, h7, lsz (by simp only [List.length_map]; omega), fun p8 n8 => ?_⟩⟩⟩
    rw [← List.map_append]
    have b8 := ((hB'.mono q6).mono q7).keep (o := .lst ((tb r.1 ++ tb r.2).map V.int)) n8
    refine ⟨o, p8, _, _, rfl, rfl, b8, upd_same, lsz (by simp only [List.length_map, List.length_append]; omega), _, _, rfl, (((s.trans q6).trans q7).add n8).mut hO, ?_⟩
    have e : putS tags.length ++ (tags.take (i + 1)).flatMap (fun t => tb t.1 ++ tb t.2) = putS tags.length ++ (tags.take i).flatMap (fun t => tb t.1 ++ tb t.2) ++ (tb r.1 ++ tb r.2) := by
      rw [take_snoc hr', List.flatMap_append]
      simp
    rw [← List.map_append, e]
    exact upd_same
  · rintro σ H' ⟨u, v, rfl, s, hB'⟩
    rw [hvl, List.take_length] at hB'
    exact ⟨_, rfl, k o H' s hO hB'⟩
def OkEnt (e : Int × Int × Int) : Prop := (0 ≤ e.1 ∧ e.1 ≤ 15) ∧ (0 ≤ e.2.1 ∧ e.2.1 ≤ 1000000) ∧ 0 ≤ e.2.2 ∧ e.2.2 ≤ 1000000
theorem ib_le {e : Int × Int × Int} (h : OkEnt e) : (ib e).length ≤ 18 := by
  obtain ⟨a, b, c⟩ := h
  have a1 := putS_len6 (n := e.1.toNat) (by omega)
  have a2 := putS_len6 (n := e.2.1.toNat) (by omega)
  have a3 := putS_len6 (n := e.2.2.toNat) (by omega)
  simp only [ib, List.length_append]
  omega
def spIdxB : Sp := fun vs H Q _ => ∃ (v : V) (es : List (Int × Int × Int)), vs = [v] ∧ (cL c3i).R H v es ∧ es.length ≤ 50 ∧ (∀ e ∈ es, OkEnt e) ∧ RL H Q (idxB es)
theorem ok_index_body (T : Txt K mg) : FnOk P w K mg base CX0 2 (ga K "index_body") (fdAt K (ga K "index_body")) ["entries"] spIdxB := by
  refine okD T.F_index_body sc_index_body (fun vs H Q E h => ?_) (fun cdv A outer s H vs Q E hr h => ?_)
  · obtain ⟨_, _, rfl, _⟩ := h
    rfl
  obtain ⟨_, es, rfl, ⟨a, vs, rfl, ha, hp⟩, hl, ok, k⟩ := h
  have nd := sc_index_body.nd
  have hvl := hp.length
  refine ⟨_, ((pss_cons (ps_set (i := 1) nd rfl (Or.inl rfl) (pe_call (ok_put_steps T) (hr.mono (by decide)) rfl T.g_put_steps T.k_put_steps T.b_put_steps .nil pass0 (pa_cons (pe_callB (lenS_ K rfl) rfl T.n_len boot_len (pa_cons (pv 0) pa_nil)) pa_nil)))
      (pss_cons (ps_for PassesOwn.never rfl (pi_list (pv 0)) (pg_tup_ K rfl rfl (n := 3) (pgs_cons (pg_name (i := 2) nd rfl (Or.inl rfl)) (pgs_cons (pg_name (i := 3) nd rfl (Or.inl rfl)) (pgs_cons (pg_name (i := 4) nd rfl (Or.inl rfl)) pgs_nil)))) (pss_one (ps_expr (pe_bm PySem.F.plainAttrs_list PySem.F.slot_list_extend PySem.F.type_list_extend mt_extend (pv 1) (pa_cons (pe_op op_cat (pe_op op_cat (pe_call (ok_put_steps T) (hr.mono (by decide)) rfl T.g_put_steps T.k_put_steps T.b_put_steps .nil pass0 (pa_cons (pv 2) pa_nil)) (pe_call (ok_put_steps T) (hr.mono (by decide)) rfl T.g_put_steps T.k_put_steps T.b_put_steps .nil pass0 (pa_cons (pv 3) pa_nil))) (pe_call (ok_put_steps T) (hr.mono (by decide)) rfl T.g_put_steps T.k_put_steps T.b_put_steps .nil pass0 (pa_cons (pv 4) pa_nil))) pa_nil)))))
      (pss_one (ps_ret (pv 1)))))), ?_⟩
  have l4 := putS_len6 (n := es.length) (by omega)
  refine ⟨_, rfl, _, _, rfl, .inl (SqL.of ha), vs.length, rfl, by omega, fun o H1 s1 hO h1 => ?_⟩
  rw [hvl] at h1
  refine ⟨_, rfl, a, rfl, ⟨_, SqL.of (s1 _ _ ha)⟩, for_list (K := K) (a := a) (xs := vs) (fun i σ H' => ∃ (u v x : Option V), σ = [some (.ref a), some (.ref o), u, v, x] ∧ Same H H' ∧ Li H' o (putS es.length ++ (es.take i).flatMap ib))
    ⟨none, none, none, rfl, s1, by simp; exact h1⟩ (fun i σ H' _ ⟨_, _, _, _, s, _⟩ => SqL.of (s _ _ ha)) ?_ ?_⟩
  · rintro i x σ H' hi ⟨u, v, z, rfl, s, hB'⟩
    obtain ⟨r, hr', q, y1, y2, y3, rfl, hq, rfl, rfl, rfl⟩ := pgetl hp hi
    have hm := List.mem_of_getElem? hr'
    have hfl := flat_le (f := ib) (n := 18) (l := es.take i) fun x hx => ib_le (ok x (List.mem_of_mem_take hx))
    have htl : (es.take i).length ≤ 50 := by rw [List.length_take]; omega
    obtain ⟨b1, b2, b3⟩ := ok r hm
    have a1 := putS_len6 (n := r.1.toNat) (by omega)
    have a2 := putS_len6 (n := r.2.1.toNat) (by omega)
    have a3 := putS_len6 (n := r.2.2.toNat) (by omega)
    refine ⟨q, _, rfl, SqT.of (s _ _ hq), rfl, _, _, rfl, _, _, rfl, _, _, rfl, rfl, ?_⟩
    refine ⟨_, rfl, .inl ⟨rfl, _, hB'.sq⟩, _, rfl, r.1.toNat, congrArg (fun z => [z]) (toN b1.1), by omega, fun p6 H6 q6 n6 h6 => ⟨_, rfl, r.2.1.toNat, congrArg (fun z => [z]) (toN b2.1), by omega, fun p7 H7 q7 n7 h7 => ⟨p6, p7, _, _, rfl, rfl, q7 _ _ h6, h7, lsz (by simp only [List.length_map]; omega), fun p8 n8 => ?_⟩⟩⟩
    rw [← List.map_append]
    have h8 : Li (upd H7 p8 (.lst ((putS r.1.toNat ++ putS r.2.1.toNat).map V.int))) p8 _ := upd_same
    have s8 := ((s.trans q6).trans q7).add (o := .lst ((putS r.1.toNat ++ putS r.2.1.toNat).map V.int)) n8
    have b8 := ((hB'.mono q6).mono q7).keep (o := .lst ((putS r.1.toNat ++ putS r.2.1.toNat).map V.int)) n8
    refine ⟨_, rfl, r.2.2.toNat, congrArg (fun z => [z]) (toN b3.1), by omega, fun p9 H9 q9 n9 h9 => ⟨p8, p9, _, _, rfl, rfl, q9 _ _ h8, h9, lsz (by simp only [List.length_map, List.length_append]; omega), fun p10 n10 => ?_⟩⟩
    rw [← List.map_append]
    have b10 := (b8.mono q9).keep (o := .lst ((putS r.1.toNat ++ putS r.2.1.toNat ++ putS r.2.2.toNat).map V.int)) n10
    refine ⟨o, p10, _, _, rfl, rfl, b10, upd_same, lsz (by simp only [List.length_map, List.length_append]; omega), _, _, _, rfl, ((s8.trans q9).add n10).mut hO, ?_⟩
    have e : putS es.length ++ (es.take (i + 1)).flatMap ib = putS es.length ++ (es.take i).flatMap ib ++ (putS r.1.toNat ++ putS r.2.1.toNat ++ putS r.2.2.toNat) := by
      rw [take_snoc hr', List.flatMap_append]
      simp [ib]
    rw [← List.map_append, e]
    exact upd_same
  · rintro σ H' ⟨u, v, z, rfl, s, hB'⟩
    rw [hvl, List.take_length] at hB'
    exact ⟨_, rfl, k o H' s hO hB'⟩
def spEndB : Sp := fun vs H Q _ => ∃ (n m : Nat), vs = [.int n, .int m] ∧ n ≤ 1000000 ∧ RL H Q (endB n m)
theorem ok_end_body (T : Txt K mg) : FnOk P w K mg base CX0 2 (ga K "end_body") (fdAt K (ga K "end_body")) ["count", "total"] spEndB := by
  refine okD T.F_end_body sc_end_body (fun vs H Q E h => ?_) (fun cdv A outer s H vs Q E hr h => ?_)
  · obtain ⟨_, _, rfl, _⟩ := h
    rfl
  obtain ⟨n, m, rfl, hn, k⟩ := h
  have nd := sc_end_body.nd
  refine ⟨_, ((pss_one (ps_ret (pe_op op_cat (pe_call (ok_put_steps T) (hr.mono (by decide)) rfl T.g_put_steps T.k_put_steps T.b_put_steps .nil pass0 (pa_cons (pv 0) pa_nil)) (pe_call (ok_four_bytes T) (hr.mono (by decide)) rfl T.g_four_bytes T.k_four_bytes T.b_four_bytes .nil pass0 (pa_cons (pv 1) pa_nil)))))), ?_⟩
  have l4 := putS_len6 (n := n) (by omega)
  refine ⟨_, rfl, n, rfl, by omega, fun p6 H6 q6 n6 h6 => ⟨_, rfl, m, rfl, fun p7 H7 q7 n7 h7 => ⟨p6, p7, _, _, rfl, rfl, q7 _ _ h6, h7, lsz (by simp [four]; omega), fun p8 n8 => ?_⟩⟩⟩
  rw [← List.map_append]
  exact k p8 _ ((q6.trans q7).add n8) ((q6.trans q7).free n8) upd_same
def spUnitB : Sp := fun vs H Q _ => ∃ (v z : V) (u : Un') (before : List Int), vs = [v, z] ∧ cUn.R H v u ∧ (u.2.2.2 = true → ∃ b, z = .ref b ∧ Li H b before) ∧ before.length ≤ 1000 ∧ u.2.2.1.length ≤ 1000 ∧ RL H Q (unitB u before)
theorem ok_unit_body (T : Txt K mg) : FnOk P w K mg base CX0 3 (ga K "unit_body") (fdAt K (ga K "unit_body")) ["unit", "before"] spUnitB := by
  refine okD T.F_unit_body sc_unit_body (fun vs H Q E h => ?_) (fun cdv A outer s H vs Q E hr h => ?_)
  · obtain ⟨_, _, _, _, rfl, _⟩ := h
    rfl
  obtain ⟨_, z, u, before, rfl, ⟨t, x1, x2, x3, x4, rfl, ht, rfl, rfl, ⟨c, rfl, hc⟩, rfl⟩, hz, l1, l2, k⟩ := h
  have nd := sc_unit_body.nd
  refine ⟨_, ((pss_cons (ps_asg (pv 0) (pg_tup_ K rfl rfl (n := 4) (pgs_cons (pg_name (i := 2) nd rfl (Or.inl rfl)) (pgs_cons (pg_name (i := 2) nd rfl (Or.inl rfl)) (pgs_cons (pg_name (i := 3) nd rfl (Or.inl rfl)) (pgs_cons (pg_name (i := 4) nd rfl (Or.inl rfl)) pgs_nil))))))
      (pss_cons (ps_if (pt_notC (pt_val (pv 4))) (pss_one (ps_ret (pe_callTy (listOf_ K rfl) rfl T.n_list boot_list (pa_cons (pv 3) pa_nil)))) pss_nil)
      (pss_cons (ps_asg (pe_call (ok_change T) (hr.mono (by decide)) rfl T.g_change T.k_change T.b_change .nil pass0 (pa_cons (pv 1) (pa_cons (pv 3) pa_nil))) (pg_tup_ K rfl rfl (n := 3) (pgs_cons (pg_name (i := 5) nd rfl (Or.inl rfl)) (pgs_cons (pg_name (i := 6) nd rfl (Or.inl rfl)) (pgs_cons (pg_name (i := 7) nd rfl (Or.inl rfl)) pgs_nil)))))
      (pss_one (ps_ret (pe_op op_cat (pe_op op_cat (pe_call (ok_put_steps T) (hr.mono (by decide)) rfl T.g_put_steps T.k_put_steps T.b_put_steps .nil pass0 (pa_cons (pv 5) pa_nil)) (pe_call (ok_put_steps T) (hr.mono (by decide)) rfl T.g_put_steps T.k_put_steps T.b_put_steps .nil pass0 (pa_cons (pv 6) pa_nil))) (pv 7)))))))), ?_⟩
  refine ⟨_, rfl, t, _, rfl, SqT.of ht, rfl, _, _, rfl, _, _, rfl, _, _, rfl, _, _, rfl, rfl, ?_⟩
  refine ⟨_, rfl, _, rfl, ?_⟩
  by_cases e : u.2.2.2 = true
  · obtain ⟨b, rfl, hb⟩ := hz e
    rw [unitB, if_pos e] at k
    refine ifT e ⟨_, rfl, _, rfl, b, c, before, u.2.2.1, rfl, hb, hc, fun H2 v2 s2 r2 => ?_⟩
    obtain ⟨q, y1, y2, y3, rfl, hq, rfl, rfl, ⟨m, rfl, hm⟩⟩ := cCh.mono (fresh_sub _ _) r2
    have hle := ch_le before u.2.2.1
    have hM : (chM before u.2.2.1).length ≤ u.2.2.1.length := by unfold chM; simp; omega
    have p1 := putS_len6 (n := chF before u.2.2.1) (by omega)
    have p2 := putS_len6 (n := chB before u.2.2.1) (by omega)
    refine ⟨q, _, rfl, SqT.of hq, rfl, _, _, rfl, _, _, rfl, _, _, rfl, rfl, ?_⟩
    refine ⟨_, rfl, chF before u.2.2.1, rfl, by omega, fun p6 H6 q6 n6 h6 => ⟨_, rfl, chB before u.2.2.1, rfl, by omega, fun p7 H7 q7 n7 h7 => ⟨p6, p7, _, _, rfl, rfl, q7 _ _ h6, h7, lsz (by simp only [List.length_map]; omega), fun p8 n8 => ?_⟩⟩⟩
    rw [← List.map_append]
    have h8 : Li (upd H7 p8 (.lst ((putS (chF before u.2.2.1) ++ putS (chB before u.2.2.1)).map V.int))) p8 _ := upd_same
    have s8 := ((s2.trans q6).trans q7).add (o := .lst ((putS (chF before u.2.2.1) ++ putS (chB before u.2.2.1)).map V.int)) n8
    refine ⟨_, rfl, p8, m, _, _, rfl, rfl, h8, (((hm.mono q6).mono q7).keep n8), lsz (by simp only [List.length_map, List.length_append]; show _ + (chM before u.2.2.1).length ≤ _; omega), fun p9 n9 => ?_⟩
    rw [← List.map_append]
    exact k p9 _ (s8.add n9) (s8.free n9) upd_same
  · rw [unitB, if_neg e] at k
    refine ifF (by simpa using e) ⟨_, rfl, c, _, rfl, .inl hc.sq, fun p np => k p _ (Same.new np) np upd_same⟩
end
end Sp
namespace Sp
open PySem PySem.Spec PyProof.Rows L2
def lastN (bs : List Bool) : Nat → Nat → Option Nat
  | _, 0 => none
  | l, n + 1 => if bs[l]? = some true then some l else lastN bs (l - 1) n
theorem lastN_some {bs : List Bool} : ∀ {n l p : Nat}, n ≤ l → lastN bs l n = some p → bs[p]? = some true ∧ l < p + n ∧ p ≤ l
  | 0, l, p, _, h => by cases h
  | n + 1, l, p, hl, h => by
    unfold lastN at h
    split at h
    · rename_i e
      cases h
      exact ⟨e, by omega, by omega⟩
    · obtain ⟨a, b, c⟩ := lastN_some (by omega) h
      exact ⟨a, by omega, by omega⟩
def greedyN (bs : List Bool) (w : Nat) : Nat → Nat → Option (List Nat)
  | 0, _ => some []
  | n + 1, s => if s + w < bs.length then (match lastN bs (s + w) w with
    | none => none
    | some p => (greedyN bs w n p).map (p :: ·)) else some []
def greedyM (bs : List Bool) (w : Nat) : Option (List Nat) := greedyN bs w bs.length 0
theorem greedyN_ok {bs : List Bool} {w : Nat} (hw : 1 ≤ w) : ∀ {n s : Nat} {ps : List Nat}, greedyN bs w n s = some ps → ps.length ≤ n ∧ ∀ p ∈ ps, s < p ∧ bs[p]? = some true
  | 0, s, ps, h => by cases h; simp
  | n + 1, s, ps, h => by
    unfold greedyN at h
    split at h
    · cases e : lastN bs (s + w) w with
      | none => rw [e] at h; cases h
      | some p =>
        rw [e] at h
        obtain ⟨qs, h1, rfl⟩ := Option.map_eq_some_iff.mp h
        obtain ⟨a, b, c⟩ := lastN_some (by omega) e
        obtain ⟨l1, l2⟩ := greedyN_ok hw h1
        refine ⟨by rw [List.length_cons]; omega, fun q hq => ?_⟩
        rcases List.mem_cons.mp hq with rfl | hq
        · exact ⟨by omega, a⟩
        · exact ⟨by have := (l2 q hq).1; omega, (l2 q hq).2⟩
    · cases h
      simp
def prs (k : Nat) (ps : List Nat) : List (Int × Int) := ps.map fun (p : Nat) => ((k : Int) + 1, (p : Int))
def gi (w : Nat) : Nat → List (List Bool) → Option (List (Int × Int))
  | _, [] => some []
  | k, row :: r => match greedyM row w with
    | none => none
    | some ps => (gi w (k + 1) r).map (prs k ps ++ ·)
def GoodE (keys : List (List Bool)) (e : Int × Int) : Prop := ∃ (t p : Nat) (row : List Bool), e = ((t : Int) + 1, (p : Int)) ∧ 1 ≤ p ∧ keys[t]? = some row ∧ row[p]? = some true
theorem gi_ok {w : Nat} (hw : 1 ≤ w) {keys : List (List Bool)} : ∀ {r : List (List Bool)} {k : Nat} {idx : List (Int × Int)}, keys.drop k = r → gi w k r = some idx → ∀ e ∈ idx, GoodE keys e
  | [], k, idx, _, h => by cases h; simp
  | row :: r, k, idx, hk, h => by
    unfold gi at h
    cases e : greedyM row w with
    | none => rw [e] at h; cases h
    | some ps =>
      rw [e] at h
      obtain ⟨idx', h1, rfl⟩ := Option.map_eq_some_iff.mp h
      intro x hx
      rcases List.mem_append.mp hx with hx | hx
      · obtain ⟨p, hp, rfl⟩ := List.mem_map.mp hx
        obtain ⟨a, b⟩ := (greedyN_ok hw e).2 p hp
        have : keys[k]? = some row := by have := congrArg (fun l => l[0]?) hk; simpa using this
        exact ⟨k, p, row, rfl, by omega, this, b⟩
      · exact gi_ok hw (by rw [← List.drop_drop, hk]; rfl) h1 x hx
theorem gi_big {w : Nat} : ∀ {r : List (List Bool)} {k : Nat}, (∀ row ∈ r, row.length ≤ w) → gi w k r = some []
  | [], _, _ => rfl
  | row :: r, k, h => by
    have e : greedyM row w = some [] := by
      unfold greedyM
      cases hl : row.length with
      | zero => rfl
      | succ n =>
        unfold greedyN
        rw [if_neg]
        have := h row (by simp)
        omega
    unfold gi
    rw [e]
    show (gi w (k + 1) r).map _ = _
    rw [gi_big fun x hx => h x (by simp [hx])]
    rfl
theorem Acc.ext {α : Type} {c : Cd α} {H H' : Hp} {f : Addr} {vs us : List V} {xs ys : List α} (A : Acc c H H' f vs xs) (h : Paired (c.R (del (fresh' H H') f)) us ys) : Acc c H (upd H' f (.lst (vs ++ us))) f (vs ++ us) (xs ++ ys) := by
  refine ⟨A.1, upd_same, ?_⟩
  rw [df_upd]
  exact papp A.2.2 h
theorem pbl {H : Hp} : ∀ {vs : List V} {bs : List Bool}, Paired (cB.R H) vs bs → vs = bs.map V.bl
  | _, _, .nil => rfl
  | _, _, .cons r t => by
    rw [pbl t, List.map_cons]
    exact congrArg (· :: _) r
theorem bl_at {bs : List Bool} {i : Nat} {b : Bool} (h : bs[i]? = some b) : (bs.map V.bl)[i]? = some (V.bl b) := by rw [List.getElem?_map, h]; rfl
section
variable {P : Program} {w : World} {K : PySem.W.Frag} {mg : Str → Option Value} {base : Heap}
def spLast : Sp := fun vs H Q _ => ∃ (a : Addr) (bs : List Bool) (l n : Nat) (f : Int), vs = [.ref a, .int f, .int l] ∧ f = (l : Int) - n + 1 ∧ n ≤ l ∧ l < bs.length ∧ bs.length ≤ 1000 ∧ H a = some (.lst (bs.map V.bl)) ∧ (match lastN bs l n with | none => Q .non H | some p => Q (.int p) H)
theorem ok_last_key (T : Txt K mg) : FnOk P w K mg base CX0 1 (ga K "last_key") (fdAt K (ga K "last_key")) ["row", "first", "last"] spLast := by
  refine okD T.F_last_key sc_last_key (fun vs H Q E h => ?_) (fun cdv A outer s H vs Q E hr h => ?_)
  · obtain ⟨_, _, _, _, _, rfl, _⟩ := h
    rfl
  obtain ⟨a, bs, l, n, f, rfl, hf, hn, hl, hb, ha, k⟩ := h
  have nd := sc_last_key.nd
  refine ⟨_, ((pss_cons (ps_for PassesOwn.never rfl (pi_range3 rfl T.n_range (pa_cons (pv 2) (pa_cons (pe_op op_sub (pv 1) pe_int) (pa_cons (pe_un un_neg pe_int) pa_nil)))) (pg_name (i := 3) nd rfl (Or.inl rfl)) (pss_one (ps_if (pt_val (pe_ix (ixL_ K rfl) (pv 0) (pv 3) (fun _ _ => rfl))) (pss_one (ps_ret (pv 3))) pss_nil)))
      (pss_one (ps_ret pe_non)))), ?_⟩
  have hN : ((l : Int) - (f - 1)).toNat = n := by omega
  refine ⟨_, rfl, _, rfl, _, _, rfl, rfl, 1, rfl, _, _, -1, n, rfl, by have := RgC.neg (i := (l : Int)) (j := f - 1) (by omega) (by omega) (by omega) (by omega); rw [hN] at this; exact this, for_rangeC (lo := (l : Int)) (c := -1) (n := n) (fun i σ H' => H' = H ∧ (∃ u : Option V, σ = [some (.ref a), some (.int f), some (.int l), u]) ∧ lastN bs l n = lastN bs (l - i) (n - i)) ⟨rfl, ⟨none, rfl⟩, rfl⟩ ?_ ?_⟩
  · rintro i σ H' hi ⟨rfl, ⟨u, rfl⟩, e⟩
    have hb2 : bs[l - i]? = some bs[l - i] := List.getElem?_eq_getElem (by omega)
    refine ⟨_, rfl, _, rfl, _, _, _, _, rfl, rfl, SqL.of ha, at0 (i := l - i) (by omega) (bl_at hb2), _, rfl, ?_⟩
    rw [show n - i = (n - (i + 1)) + 1 by omega, lastN, hb2] at e
    by_cases c : bs[l - i] = true
    · rw [c, if_pos rfl] at e
      rw [e] at k
      refine ifT c ⟨_, rfl, ?_⟩
      rw [show (l : Int) + ((i : Nat) : Int) * -1 = ((l - i : Nat) : Int) by omega]
      exact k
    · rw [if_neg (fun z => c (Option.some.inj z))] at e
      exact ifF (by simpa using c) ⟨rfl, ⟨_, rfl⟩, e⟩
  · rintro σ H' ⟨rfl, ⟨u, rfl⟩, e⟩
    rw [Nat.sub_self] at e
    rw [e] at k
    exact k
def spGreedy : Sp := fun vs H Q _ => ∃ (a : Addr) (bs : List Bool) (w : Nat), vs = [.ref a, .int w] ∧ 1 ≤ w ∧ bs.length ≤ 1000 ∧ H a = some (.lst (bs.map V.bl)) ∧ (match greedyM bs w with | none => ∀ H', Same H H' → Q .non H' | some ps => RL H Q (ps.map fun (p : Nat) => (p : Int)))
theorem ok_greedy (T : Txt K mg) : FnOk P w K mg base CX0 2 (ga K "greedy") (fdAt K (ga K "greedy")) ["row", "w"] spGreedy := by
  refine okD T.F_greedy sc_greedy (fun vs H Q E h => ?_) (fun cdv A outer s H vs Q E hr h => ?_)
  · obtain ⟨_, _, _, rfl, _⟩ := h
    rfl
  obtain ⟨a, bs, w, rfl, hw, hb, ha, k⟩ := h
  have nd := sc_greedy.nd
  refine ⟨_, ((pss_cons (ps_set (i := 2) nd rfl (Or.inl rfl) (pe_lst pa_nil))
      (pss_cons (ps_set (i := 3) nd rfl (Or.inl rfl) pe_int)
      (pss_cons (ps_while PassesOwn.never (pt_cmpR op_lt (pe_op op_add (pv 3) (pv 1)) (pe_callB (lenS_ K rfl) rfl T.n_len boot_len (pa_cons (pv 0) pa_nil)) (nomark _)) (pss_cons (ps_set (i := 3) nd rfl (Or.inl rfl) (pe_call (ok_last_key T) (hr.mono (by decide)) rfl T.g_last_key T.k_last_key T.b_last_key .nil pass0 (pa_cons (pv 0) (pa_cons (pe_op op_add (pv 3) pe_int) (pa_cons (pe_op op_add (pv 3) (pv 1)) pa_nil)))))
        (pss_cons (ps_if (pt_cmpR op_isN (pv 3) pe_non (nomark _)) (pss_one (ps_ret pe_non)) pss_nil)
        (pss_one (ps_expr (pe_bm PySem.F.plainAttrs_list PySem.F.slot_list_append PySem.F.type_list_append mt_append (pv 2) (pa_cons (pv 3) pa_nil)))))))
      (pss_one (ps_ret (pv 2))))))), ?_⟩
  refine ⟨Nat.zero_le _, fun f nf => ?_⟩
  refine ⟨fun m σ H' => ∃ (n s : Nat) (acc : List Nat), m = bs.length - s ∧ σ = [some (.ref a), some (.int w), some (.ref f), some (.int s)] ∧ Same H H' ∧ Li H' f (acc.map fun (p : Nat) => (p : Int)) ∧ acc.length ≤ s ∧ bs.length ≤ n + s ∧ (greedyN bs w n s).map (acc ++ ·) = greedyM bs w,
    ⟨_, bs.length, 0, [], rfl, rfl, Same.new nf, upd_same, Nat.le_refl _, by omega, by unfold greedyM; cases greedyN bs w bs.length 0 <;> rfl⟩, ?_⟩
  rintro m σ H' ⟨n, s, acc, rfl, rfl, sH, hF, hacc, hn, e⟩
  refine ⟨_, rfl, _, rfl, _, _, rfl, rfl, _, rfl, _, _, rfl, .inl (SqL.of (sH _ _ ha)), _, _, rfl, rfl, _, rfl, ?_⟩
  by_cases c : s + w < bs.length
  · obtain ⟨n', rfl⟩ : ∃ n', n = n' + 1 := ⟨n - 1, by omega⟩
    rw [greedyN, if_pos c] at e
    refine yT (by simp; omega) ⟨_, fun _ _ h => h, _, rfl, _, rfl, _, _, rfl, rfl, _, rfl, _, rfl, _, _, rfl, rfl, a, bs, s + w, w, _, rfl, by omega, by omega, c, hb, sH _ _ ha, ?_⟩
    cases el : lastN bs (s + w) w with
    | none =>
      rw [el] at e
      rw [← show none = greedyM bs w from e] at k
      exact ⟨_, rfl, rfl, _, rfl, k _ sH⟩
    | some p =>
      rw [el] at e
      obtain ⟨h1, h2, h3⟩ := lastN_some (by omega) el
      refine ⟨_, rfl, rfl, _, rfl, _, rfl, .inl ⟨rfl, _, hF.sq⟩, _, rfl, f, _, _, rfl, rfl, hF, lsz' (by simp; omega), bs.length - p, by omega, n', p, acc ++ [p], rfl, rfl, sH.mut nf, ?_, by simp; omega, by omega, ?_⟩
      · show upd H' f (.lst ((acc.map fun (p : Nat) => (p : Int)).map V.int ++ [V.int (p : Int)])) f = _
        exact upd_same.trans (by simp)
      · rw [← e]
        show _ = ((greedyN bs w n' p).map (p :: ·)).map (acc ++ ·)
        rw [Option.map_map]
        congr 1
        funext l
        simp
  · have e2 : greedyN bs w n s = some [] := by
      cases n with
      | zero => rfl
      | succ n => rw [greedyN, if_neg c]
    rw [e2] at e
    rw [← show some (acc ++ []) = greedyM bs w from e, List.append_nil] at k
    exact yF (by simp; omega) ⟨_, rfl, k f H' sH nf hF⟩
theorem gi_len {w : Nat} (hw : 1 ≤ w) : ∀ {r : List (List Bool)} {k : Nat} {idx : List (Int × Int)}, (∀ row ∈ r, row.length ≤ 1000) → gi w k r = some idx → idx.length ≤ 1000 * r.length
  | [], k, idx, _, h => by cases h; simp
  | row :: r, k, idx, hb, h => by
    unfold gi at h
    cases e : greedyM row w with
    | none => rw [e] at h; cases h
    | some ps =>
      rw [e] at h
      obtain ⟨idx', h1, rfl⟩ := Option.map_eq_some_iff.mp h
      have a := gi_len hw (fun x hx => hb x (by simp [hx])) h1
      have b := (greedyN_ok hw e).1
      have c := hb row (by simp)
      simp only [List.length_append, prs, List.length_map, List.length_cons]
      omega
def spGi : Sp := fun vs H Q _ => ∃ (v : V) (keys : List (List Bool)) (w : Nat), vs = [v, .int w] ∧ 1 ≤ w ∧ keys.length ≤ 100 ∧ (∀ row ∈ keys, row.length ≤ 1000) ∧ (cL (cL cB)).R H v keys ∧ (match gi w 0 keys with | none => ∀ H', Same H H' → Q .non H' | some idx => ∀ H' u, Same H H' → (cL cPair).R (fresh' H H') u idx → Q u H')
theorem ok_greedy_index (T : Txt K mg) : FnOk P w K mg base CX0 3 (ga K "greedy_index") (fdAt K (ga K "greedy_index")) ["keys", "w"] spGi := by
  refine okD T.F_greedy_index sc_greedy_index (fun vs H Q E h => ?_) (fun cdv A outer s H vs Q E hr h => ?_)
  · obtain ⟨_, _, _, rfl, _⟩ := h
    rfl
  obtain ⟨_, keys, w, rfl, hw, hkl, hrl, ⟨a, vs, rfl, ha, hp⟩, k⟩ := h
  have nd := sc_greedy_index.nd
  have hvl := hp.length
  refine ⟨_, ((pss_cons (ps_set (i := 2) nd rfl (Or.inl rfl) (pe_lst pa_nil))
      (pss_cons (ps_for PassesOwn.never rfl (pi_range1 rfl T.n_range (pa_cons (pe_callB (lenS_ K rfl) rfl T.n_len boot_len (pa_cons (pv 0) pa_nil)) pa_nil)) (pg_name (i := 3) nd rfl (Or.inr rfl)) (pss_cons (ps_set (i := 4) nd rfl (Or.inl rfl) (pe_call (ok_greedy T) (hr.mono (by decide)) rfl T.g_greedy T.k_greedy T.b_greedy .nil pass0 (pa_cons (pe_ix (ixL_ K rfl) (pv 0) (pv 3) (fun _ _ => rfl)) (pa_cons (pv 1) pa_nil))))
        (pss_cons (ps_if (pt_cmpR op_isN (pv 4) pe_non (nomark _)) (pss_one (ps_ret pe_non)) pss_nil)
        (pss_one (ps_expr (pe_bm PySem.F.plainAttrs_list PySem.F.slot_list_extend PySem.F.type_list_extend mt_extend (pv 2) (pa_cons (pe_lc (own := [("place", 5)]) rfl nd (pi_list (pv 4)) (blkOk_by (N := N_greedy_index) (sc := defScope s_greedy_index) (by decide +kernel)) (fun _ _ _ _ _ => (pg_name (i := 5) nd rfl (Or.inl rfl))) (fun _ _ _ _ _ => pts_nil) (fun _ _ _ _ _ => (pe_tup (pa_cons (pe_op op_add (pv 3) pe_int) (pa_cons (pv 5) pa_nil))))) pa_nil)))))))
      (pss_one (ps_ret (pv 2)))))), ?_⟩
  refine ⟨Nat.zero_le _, fun f nf => ⟨_, rfl, _, _, rfl, .inl (SqL.of (upd_keep ha nf)), _, rfl, by omega, by omega, for_range (n := ((vs.length : Nat) : Int).toNat) (fun i σ H' => ∃ (u v : Option V) (us : List V) (acc : List (Int × Int)), σ = [some (.ref a), some (.int w), some (.ref f), u, v, none] ∧ Same H H' ∧ Acc cPair H H' f us acc ∧ acc.length ≤ 1000 * i ∧ (gi w i (keys.drop i)).map (acc ++ ·) = gi w 0 keys)
    ⟨none, none, [], [], rfl, Same.new nf, Acc.nil nf upd_same, by simp, by show (gi w 0 keys).map _ = _; cases gi w 0 keys <;> rfl⟩ ?_ ?_⟩⟩
  · rintro i σ H' hi ⟨u, v, us, acc, rfl, s, A, hac, e⟩
    have hi2 : i < keys.length := by omega
    have hk : keys[i]? = some keys[i] := List.getElem?_eq_getElem hi2
    obtain ⟨x, hx, b, bv, rfl, hb, hbp⟩ := pget hp hk
    rw [pbl hbp] at hb
    rw [List.drop_eq_getElem_cons hi2, gi] at e
    have hrow := hrl _ (List.mem_of_getElem? hk)
    generalize keys[i] = row at *
    refine ⟨_, rfl, _, rfl, _, _, _, _, rfl, rfl, SqL.of (s _ _ ha), at0 (i := i) (by omega) hx, _, rfl, b, row, w, rfl, hw, hrow, s _ _ hb, ?_⟩
    cases eg : greedyM row w with
    | none =>
      rw [eg] at e
      rw [← show none = gi w 0 keys from e] at k
      exact fun H2 s2 => ⟨_, rfl, rfl, _, rfl, k _ (s.trans s2)⟩
    | some ps =>
      rw [eg] at e
      intro q H2 s2 nq hq
      have hpl := (greedyN_ok hw eg).1
      have A2 := A.mono s2
      refine ⟨_, rfl, rfl, _, rfl, _, rfl, .inl ⟨rfl, _, SqL.of A2.at⟩, _, rfl, q, rfl, ⟨_, hq.sq⟩, fun D hD => lc_list (K := K) (a := q) (xs := (ps.map fun (p : Nat) => (p : Int)).map V.int) (fun j H3 => ∃ zs, Same H2 (del H3 D) ∧ H3 D = some (.lst zs) ∧ H2 D = none ∧ Paired (cPair.R (fresh' H2 (del H3 D))) zs ((prs i ps).take j))
        ⟨[], by rw [del_upd]; exact del_of (Same.refl _) hD, upd_same, hD, .nil⟩ (fun j H3 _ ⟨zs, h1, _⟩ => (hq.mono (h1.trans (del_sub _ _))).sq) ?_ ?_⟩
      · rintro j x H3 hj ⟨zs, h1, h2, h3, h4⟩
        obtain ⟨z, hz, rfl⟩ := int_at hj
        rw [List.getElem?_map] at hz
        obtain ⟨p, hp', rfl⟩ := Option.map_eq_some_iff.mp hz
        have hpp : (prs i ps)[j]? = some ((i : Int) + 1, (p : Int)) := by rw [prs, List.getElem?_map, hp']; rfl
        have hjl := lt_of_at hp'
        refine ⟨rfl, _, rfl, _, _, rfl, rfl, _, rfl, lsz (by simp), fun t nt => ⟨zs, upd_keep h2 nt, lsz' (by rw [h4.length, List.length_take]; omega), zs ++ [.ref t], ?_, upd_same, h3, ?_⟩⟩
        · rw [del_upd]
          exact h1.trans (del_mono (Same.new nt))
        · rw [del_upd, take_snoc hpp]
          have m : Same (del H3 D) (del (upd H3 t (.tup [.int (0 + (i : Int) + 1), .int (p : Int)])) D) := del_mono (Same.new nt)
          refine papp (pmap h4 fun _ _ r => cPair.mono (fresh_mono m) r) (.cons ⟨t, .int ((i : Int) + 1), .int (p : Int), rfl, fresh_of ?_ ?_, rfl, rfl⟩ .nil)
          · rw [del_ne (ne_of_none h2 nt).symm]
            show upd H3 t (.tup [.int (0 + (i : Int) + 1), .int (p : Int)]) t = _
            rw [upd_same, Int.zero_add]
          · exact (h1.trans (del_sub _ _)).free nt
      · rintro H3 ⟨zs, h1, h2, h3, h4⟩
        rw [List.length_map, List.length_map, show ps.length = (prs i ps).length by simp [prs], List.take_length] at h4
        have s23 : Same H2 H3 := h1.trans (del_sub _ _)
        have A3 := A2.mono s23
        refine ⟨f, D, us, zs, rfl, rfl, A3.at, h2, lsz (by rw [A3.len, h4.length]; simp [prs]; omega), _, _, us ++ zs, acc ++ prs i ps, rfl, ((s.trans s2).trans s23).mut nf, A3.ext (pmap h4 fun _ _ r => cPair.mono ?_ r), by rw [List.length_append]; simp [prs]; omega, ?_⟩
        · exact (fresh_mono (del_sub _ _)).trans (df_call (s.trans s2) A2.at)
        · rw [← e]
          show (gi w (i + 1) (keys.drop (i + 1))).map (acc ++ prs i ps ++ ·) = ((gi w (i + 1) (keys.drop (i + 1))).map (prs i ps ++ ·)).map (acc ++ ·)
          rw [Option.map_map]
          congr 1
          funext l
          simp
  · rintro σ H' ⟨u, v, us, acc, rfl, s, A, hac, e⟩
    rw [show keys.drop ((vs.length : Nat) : Int).toNat = [] by rw [show ((vs.length : Nat) : Int).toNat = keys.length by omega, List.drop_length]] at e
    rw [← show some (acc ++ []) = gi w 0 keys from e, List.append_nil] at k
    exact ⟨_, rfl, k H' _ s A.done⟩
def cIdx : Cd (List (Int × Int) × Int) := c2 (cL cPair) cI
def spBest : Sp := fun vs H Q _ => ∃ (v : V) (keys : List (List Bool)) (n : Int), vs = [v, .int n] ∧ keys.length ≤ 100 ∧ (∀ row ∈ keys, row.length ≤ 1000) ∧ (cL (cL cB)).R H v keys ∧ ∀ H' u idx, Same H H' → cIdx.R (fresh' H H') u idx → (∀ e ∈ idx.1, GoodE keys e) → idx.1.length ≤ 100000 → Q u H'
theorem ok_best_index (T : Txt K mg) : FnOk P w K mg base CX0 4 (ga K "best_index") (fdAt K (ga K "best_index")) ["keys", "count"] spBest := by
  refine okD T.F_best_index sc_best_index (fun vs H Q E h => ?_) (fun cdv A outer s H vs Q E hr h => ?_)
  · obtain ⟨_, _, _, rfl, _⟩ := h
    rfl
  obtain ⟨_, keys, n, rfl, hkl, hrl, ⟨a, vs, rfl, ha, hp⟩, k⟩ := h
  have nd := sc_best_index.nd
  have hvl := hp.length
  refine ⟨_, ((pss_cons (ps_set (i := 2) nd rfl (Or.inl rfl) pe_int)
      (pss_cons (ps_set (i := 3) nd rfl (Or.inl rfl) (pe_callB (cr_max rfl) rfl T.n_max boot_max (pa_cons (pe_op op_cat (pe_lc (own := [("row", 4)]) rfl nd (pi_list (pv 0)) (blkOk_by (N := N_best_index) (sc := defScope s_best_index) (by decide +kernel)) (fun _ _ _ _ _ => (pg_name (i := 4) nd rfl (Or.inl rfl))) (fun _ _ _ _ _ => pts_nil) (fun _ _ _ _ _ => (pe_callB (lenS_ K rfl) rfl T.n_len boot_len (pa_cons (pv 4) pa_nil)))) (pe_lst (pa_cons pe_int pa_nil))) pa_nil)))
      (pss_cons (ps_if (pt_cmpR op_eq (pv 3) pe_int (nomark _)) (pss_one (ps_ret (pe_tup (pa_cons (pe_lst pa_nil) (pa_cons pe_int pa_nil))))) pss_nil)
      (pss_cons (ps_while PassesOwn.never (pt_cmpR op_lt (pv 2) (pv 3) (nomark _)) (pss_cons (ps_set (i := 5) nd rfl (Or.inl rfl) (pe_op op_fdiv (pe_op op_add (pv 2) (pv 3)) pe_int))
        (pss_cons (ps_set (i := 6) nd rfl (Or.inl rfl) (pe_call (ok_greedy_index T) (hr.mono (by decide)) rfl T.g_greedy_index T.k_greedy_index T.b_greedy_index .nil pass0 (pa_cons (pv 0) (pa_cons (pv 5) pa_nil))))
        (pss_one (ps_if (PW.pt (pw_or (pt_cmpR op_isN (pv 6) pe_non (nomark _)) (pw_or1 (pt_cmpR op_gt (pe_callB (lenS_ K rfl) rfl T.n_len boot_len (pa_cons (pv 6) pa_nil)) (pv 1) (nomark _))))) (pss_one (ps_set (i := 2) nd rfl (Or.inl rfl) (pe_op op_add (pv 5) pe_int))) (pss_one (ps_set (i := 3) nd rfl (Or.inl rfl) (pv 5))))))))
      (pss_one (ps_ret (pe_tup (pa_cons (pe_call (ok_greedy_index T) (hr.mono (by decide)) rfl T.g_greedy_index T.k_greedy_index T.b_greedy_index .nil pass0 (pa_cons (pv 0) (pa_cons (pv 2) pa_nil))) (pa_cons (pv 2) pa_nil)))))))))), ?_⟩
  refine ⟨_, rfl, a, rfl, ⟨_, SqL.of ha⟩, fun D hD => lc_list (K := K) (a := a) (xs := vs) (fun i H' => H' = upd H D (.lst (((keys.take i).map fun row => (row.length : Int)).map V.int))) rfl (fun i H' _ e => by rw [e]; exact SqL.of (upd_keep ha hD)) ?_ ?_⟩
  · rintro i x H' hi rfl
    obtain ⟨row, hr', b, bv, rfl, hb, hbp⟩ := pgetl hp hi
    have := lt_of_at hr'
    refine ⟨rfl, _, rfl, b, bv, rfl, .inl (SqL.of (upd_keep hb hD)), _, upd_same, lsz' (by simp; omega), ?_⟩
    rw [take_snoc hr', upd_upd, hbp.length, List.map_append, List.map_append]
    rfl
  rintro H1 rfl
  rw [hvl, List.take_length]
  have s1 : Same H (upd H D (.lst ((keys.map fun row => (row.length : Int)).map V.int))) := Same.new hD
  have hD1 : Li (upd H D (.lst ((keys.map fun row => (row.length : Int)).map V.int))) D (keys.map fun row => (row.length : Int)) := upd_same
  generalize upd H D (.lst ((keys.map fun row => (row.length : Int)).map V.int)) = H1 at s1 hD1
  refine ⟨lsz (by simp), fun z nz => ⟨D, z, _, [.int 0], rfl, rfl, hD1.keep nz, upd_same, lsz (by simp; omega), fun m nm => ?_⟩⟩
  have s2 := (s1.add (o := .lst [.int 0]) nz).add (o := .lst ((keys.map fun row => (row.length : Int)).map V.int ++ [.int 0])) nm
  have hM : Li (upd (upd H1 z (.lst [.int 0])) m (.lst ((keys.map fun row => (row.length : Int)).map V.int ++ [.int 0]))) m ((keys.map fun row => (row.length : Int)) ++ [0]) := by
    show upd _ m _ m = _
    rw [upd_same, List.map_append]
    rfl
  generalize upd (upd H1 z (.lst [.int 0])) m (.lst ((keys.map fun row => (row.length : Int)).map V.int ++ [.int 0])) = H2 at s2 hM
  refine ⟨m, _, rfl, hM.sq, by simp, fun hi hmem hge => ?_⟩
  have h0 : 0 ≤ hi := hge 0 (by simp)
  have hbig : ∀ row ∈ keys, row.length ≤ hi.toNat := fun row hr' => by
    have := hge (row.length : Int) (by simp; exact .inl ⟨row, hr', rfl⟩)
    omega
  have hhi : hi ≤ 1000 := by
    rcases List.mem_append.mp hmem with h | h
    · obtain ⟨row, h1, rfl⟩ := List.mem_map.mp h
      have := hrl row h1
      omega
    · simp at h; omega
  refine ⟨_, rfl, rfl, _, rfl, ?_⟩
  by_cases c : hi = 0
  · refine ifT (bl_t (congrArg V.int c)) ⟨Nat.zero_le _, fun l nl => ⟨lsz (by simp), fun t nt => ?_⟩⟩
    refine k _ (.ref t) ([], 0) ((s2.add nl).add nt) ⟨t, .ref l, .int 0, rfl, fresh_of upd_same ((s2.add nl).free nt), ⟨l, [], rfl, fresh_of (upd_keep upd_same nt) (s2.free nl), .nil⟩, rfl⟩ (fun _ h => by cases h) (by simp)
  refine ifF (bl_f fun z => c (V.int.inj z)) ?_
  have hgood : ∀ (w : Nat) idx, 1 ≤ w → gi w 0 keys = some idx → (∀ e ∈ idx, GoodE keys e) ∧ idx.length ≤ 100000 := fun w idx hw he => ⟨gi_ok hw rfl he, by have := gi_len hw hrl he; omega⟩
  refine ⟨fun mm σ H' => ∃ (lo up : Nat) (u v x : Option V), mm = up - lo ∧ σ = [some (.ref a), some (.int n), some (.int lo), some (.int up), u, v, x] ∧ Same H H' ∧ 1 ≤ lo ∧ lo ≤ up ∧ up ≤ 1000 ∧ gi up 0 keys ≠ none, ⟨_, 1, hi.toNat, none, none, none, rfl, ?_, s2, Nat.le_refl _, by omega, by omega, by rw [gi_big hbig]; simp⟩, ?_⟩
  · rw [Int.toNat_of_nonneg h0]
    rfl
  rintro mm σ H' ⟨lo, up, u, v, x, rfl, rfl, s, l1, l2, l3, hne⟩
  refine ⟨_, rfl, _, rfl, _, _, rfl, rfl, _, rfl, ?_⟩
  by_cases cc : lo < up
  · refine yT (by omega) ⟨_, fun _ _ h => h, ?_⟩
    refine ⟨_, rfl, _, rfl, _, _, rfl, rfl, _, _, rfl, rfl, ⟨by decide, by decide⟩, _, rfl, _, rfl, .ref a, keys, (lo + up) / 2, ?_, by omega, hkl, hrl, ⟨a, vs, rfl, s _ _ ha, pmap hp fun _ _ r => (cL cB).mono s r⟩, ?_⟩
    · show [V.ref a, V.int (((lo : Int) + (up : Int)) / 2)] = _
      rw [show ((lo : Int) + (up : Int)) / 2 = (((lo + up) / 2 : Nat) : Int) by omega]
    have em : V.int (((lo : Int) + (up : Int)) / 2) = V.int (((lo + up) / 2 : Nat) : Int) := congrArg V.int (by omega)
    cases eg : gi ((lo + up) / 2) 0 keys with
    | none =>
      intro H3 s3
      refine ⟨_, rfl, rfl, _, rfl, _, rfl, _, _, rfl, rfl, up - ((lo + up) / 2 + 1), by omega, (lo + up) / 2 + 1, up, u, some (.int (((lo + up) / 2 : Nat) : Int)), some .non, rfl, ?_, s.trans s3, by omega, by omega, l3, hne⟩
      show [some (V.ref a), some (.int n), some (.int (((lo : Int) + (up : Int)) / 2 + 1)), some (.int up), u, some (.int (((lo : Int) + (up : Int)) / 2)), some .non] = _
      rw [em, show ((lo : Int) + (up : Int)) / 2 + 1 = (((lo + up) / 2 + 1 : Nat) : Int) by omega]
    | some idx =>
      intro H3 iv s3 r3
      obtain ⟨ia, us, rfl, hia, hip⟩ := (cL cPair).mono (fresh_sub _ _) r3
      refine ⟨_, rfl, rfl, _, rfl, _, rfl, ia, us, rfl, .inl (SqL.of hia), _, rfl, _, _, rfl, rfl, _, rfl, ?_⟩
      by_cases cd : n < (us.length : Int)
      · refine yT cd ⟨_, rfl, _, _, rfl, rfl, up - ((lo + up) / 2 + 1), by omega, (lo + up) / 2 + 1, up, u, some (.int (((lo + up) / 2 : Nat) : Int)), some (.ref ia), rfl, ?_, s.trans s3, by omega, by omega, l3, hne⟩
        show [some (V.ref a), some (.int n), some (.int (((lo : Int) + (up : Int)) / 2 + 1)), some (.int up), u, some (.int (((lo : Int) + (up : Int)) / 2)), some (.ref ia)] = _
        rw [em, show ((lo : Int) + (up : Int)) / 2 + 1 = (((lo + up) / 2 + 1 : Nat) : Int) by omega]
      · refine yF cd ⟨_, rfl, (lo + up) / 2 - lo, by omega, lo, (lo + up) / 2, u, some (.int (((lo + up) / 2 : Nat) : Int)), some (.ref ia), rfl, ?_, s.trans s3, l1, by omega, by omega, by rw [eg]; simp⟩
        show [some (V.ref a), some (.int n), some (.int lo), some (.int (((lo : Int) + (up : Int)) / 2)), u, some (.int (((lo : Int) + (up : Int)) / 2)), some (.ref ia)] = _
        rw [em]
  · obtain rfl : lo = up := by omega
    refine yF (by omega) ⟨_, rfl, _, rfl, .ref a, keys, lo, rfl, l1, hkl, hrl, ⟨a, vs, rfl, s _ _ ha, pmap hp fun _ _ r => (cL cB).mono s r⟩, ?_⟩
    cases eg : gi lo 0 keys with
    | none => exact absurd eg hne
    | some idx =>
      intro H3 iv s3 r3
      obtain ⟨g1, g2⟩ := hgood lo idx l1 eg
      refine ⟨_, rfl, lsz (by simp), fun t nt => ?_⟩
      have s4 := (s.trans s3).add (o := .tup [iv, .int lo]) nt
      exact k _ (.ref t) (idx, (lo : Int)) s4 ⟨t, iv, .int lo, rfl, fresh_of upd_same ((s.trans s3).free nt), (cL cPair).mono ((fresh_trans s).trans (fresh_mono (Same.new nt))) r3, rfl⟩ g1 g2
end
end Sp
namespace Sp
open PySem PySem.Spec PyProof.Rows L2
abbrev flBR (v0 v1 : V) : List (Str × V) := [("body", v0), ("at", v1)]
theorem gBR_body (v0 v1 : V) : (flBR v0 v1).lookup ("body" : Str) = some v0 := by kernel_rfl
theorem pBR_body {v0 v1 y : V} : putF "body" y (flBR v0 v1) = flBR y v1 := by kernel_rfl
theorem gBR_at (v0 v1 : V) : (flBR v0 v1).lookup ("at" : Str) = some v1 := by kernel_rfl
theorem pBR_at {v0 v1 y : V} : putF "at" y (flBR v0 v1) = flBR v0 y := by kernel_rfl
theorem nBR_number (v0 v1 : V) : (flBR v0 v1).lookup ("number" : Str) = none := by kernel_rfl
theorem nBR_take (v0 v1 : V) : (flBR v0 v1).lookup ("take" : Str) = none := by kernel_rfl
theorem nBR_text (v0 v1 : V) : (flBR v0 v1).lookup ("text" : Str) = none := by kernel_rfl
theorem nBR_word (v0 v1 : V) : (flBR v0 v1).lookup ("word" : Str) = none := by kernel_rfl
theorem nBR_close (v0 v1 : V) : (flBR v0 v1).lookup ("close" : Str) = none := by kernel_rfl
theorem iBR {v0 v1 : V} : putF "at" v1 (putF "body" v0 (([] : List (Str × V)))) = flBR v0 v1 := by kernel_rfl
abbrev flLW (v0 v1 v2 : V) : List (Str × V) := [("stamp", v0), ("leaves", v1), ("data", v2)]
theorem gLW_stamp (v0 v1 v2 : V) : (flLW v0 v1 v2).lookup ("stamp" : Str) = some v0 := by kernel_rfl
theorem pLW_stamp {v0 v1 v2 y : V} : putF "stamp" y (flLW v0 v1 v2) = flLW y v1 v2 := by kernel_rfl
theorem gLW_leaves (v0 v1 v2 : V) : (flLW v0 v1 v2).lookup ("leaves" : Str) = some v1 := by kernel_rfl
theorem pLW_leaves {v0 v1 v2 y : V} : putF "leaves" y (flLW v0 v1 v2) = flLW v0 y v2 := by kernel_rfl
theorem gLW_data (v0 v1 v2 : V) : (flLW v0 v1 v2).lookup ("data" : Str) = some v2 := by kernel_rfl
theorem pLW_data {v0 v1 v2 y : V} : putF "data" y (flLW v0 v1 v2) = flLW v0 v1 y := by kernel_rfl
theorem nLW_add (v0 v1 v2 : V) : (flLW v0 v1 v2).lookup ("add" : Str) = none := by kernel_rfl
theorem nLW_add_plain (v0 v1 v2 : V) : (flLW v0 v1 v2).lookup ("add_plain" : Str) = none := by kernel_rfl
theorem iLW {v0 v1 v2 : V} : putF "data" v2 (putF "leaves" v1 (putF "stamp" v0 (([] : List (Str × V))))) = flLW v0 v1 v2 := by kernel_rfl
abbrev flLR (v0 v1 v2 v3 v4 v5 v6 v7 v8 v9 v10 : V) : List (Str × V) := [("data", v0), ("at", v1), ("scan", v2), ("count", v3), ("stamp", v4), ("last", v5), ("head", v6), ("tags", v7), ("entries", v8), ("units", v9), ("places", v10)]
theorem gLR_data (v0 v1 v2 v3 v4 v5 v6 v7 v8 v9 v10 : V) : (flLR v0 v1 v2 v3 v4 v5 v6 v7 v8 v9 v10).lookup ("data" : Str) = some v0 := by kernel_rfl
theorem pLR_data {v0 v1 v2 v3 v4 v5 v6 v7 v8 v9 v10 y : V} : putF "data" y (flLR v0 v1 v2 v3 v4 v5 v6 v7 v8 v9 v10) = flLR y v1 v2 v3 v4 v5 v6 v7 v8 v9 v10 := by kernel_rfl
theorem gLR_at (v0 v1 v2 v3 v4 v5 v6 v7 v8 v9 v10 : V) : (flLR v0 v1 v2 v3 v4 v5 v6 v7 v8 v9 v10).lookup ("at" : Str) = some v1 := by kernel_rfl
theorem pLR_at {v0 v1 v2 v3 v4 v5 v6 v7 v8 v9 v10 y : V} : putF "at" y (flLR v0 v1 v2 v3 v4 v5 v6 v7 v8 v9 v10) = flLR v0 y v2 v3 v4 v5 v6 v7 v8 v9 v10 := by kernel_rfl
theorem gLR_scan (v0 v1 v2 v3 v4 v5 v6 v7 v8 v9 v10 : V) : (flLR v0 v1 v2 v3 v4 v5 v6 v7 v8 v9 v10).lookup ("scan" : Str) = some v2 := by kernel_rfl
theorem pLR_scan {v0 v1 v2 v3 v4 v5 v6 v7 v8 v9 v10 y : V} : putF "scan" y (flLR v0 v1 v2 v3 v4 v5 v6 v7 v8 v9 v10) = flLR v0 v1 y v3 v4 v5 v6 v7 v8 v9 v10 := by kernel_rfl
theorem gLR_count (v0 v1 v2 v3 v4 v5 v6 v7 v8 v9 v10 : V) : (flLR v0 v1 v2 v3 v4 v5 v6 v7 v8 v9 v10).lookup ("count" : Str) = some v3 := by kernel_rfl
theorem pLR_count {v0 v1 v2 v3 v4 v5 v6 v7 v8 v9 v10 y : V} : putF "count" y (flLR v0 v1 v2 v3 v4 v5 v6 v7 v8 v9 v10) = flLR v0 v1 v2 y v4 v5 v6 v7 v8 v9 v10 := by kernel_rfl
theorem gLR_stamp (v0 v1 v2 v3 v4 v5 v6 v7 v8 v9 v10 : V) : (flLR v0 v1 v2 v3 v4 v5 v6 v7 v8 v9 v10).lookup ("stamp" : Str) = some v4 := by kernel_rfl
theorem pLR_stamp {v0 v1 v2 v3 v4 v5 v6 v7 v8 v9 v10 y : V} : putF "stamp" y (flLR v0 v1 v2 v3 v4 v5 v6 v7 v8 v9 v10) = flLR v0 v1 v2 v3 y v5 v6 v7 v8 v9 v10 := by kernel_rfl
theorem gLR_last (v0 v1 v2 v3 v4 v5 v6 v7 v8 v9 v10 : V) : (flLR v0 v1 v2 v3 v4 v5 v6 v7 v8 v9 v10).lookup ("last" : Str) = some v5 := by kernel_rfl
theorem pLR_last {v0 v1 v2 v3 v4 v5 v6 v7 v8 v9 v10 y : V} : putF "last" y (flLR v0 v1 v2 v3 v4 v5 v6 v7 v8 v9 v10) = flLR v0 v1 v2 v3 v4 y v6 v7 v8 v9 v10 := by kernel_rfl
theorem gLR_head (v0 v1 v2 v3 v4 v5 v6 v7 v8 v9 v10 : V) : (flLR v0 v1 v2 v3 v4 v5 v6 v7 v8 v9 v10).lookup ("head" : Str) = some v6 := by kernel_rfl
theorem pLR_head {v0 v1 v2 v3 v4 v5 v6 v7 v8 v9 v10 y : V} : putF "head" y (flLR v0 v1 v2 v3 v4 v5 v6 v7 v8 v9 v10) = flLR v0 v1 v2 v3 v4 v5 y v7 v8 v9 v10 := by kernel_rfl
theorem gLR_tags (v0 v1 v2 v3 v4 v5 v6 v7 v8 v9 v10 : V) : (flLR v0 v1 v2 v3 v4 v5 v6 v7 v8 v9 v10).lookup ("tags" : Str) = some v7 := by kernel_rfl
theorem pLR_tags {v0 v1 v2 v3 v4 v5 v6 v7 v8 v9 v10 y : V} : putF "tags" y (flLR v0 v1 v2 v3 v4 v5 v6 v7 v8 v9 v10) = flLR v0 v1 v2 v3 v4 v5 v6 y v8 v9 v10 := by kernel_rfl
theorem gLR_entries (v0 v1 v2 v3 v4 v5 v6 v7 v8 v9 v10 : V) : (flLR v0 v1 v2 v3 v4 v5 v6 v7 v8 v9 v10).lookup ("entries" : Str) = some v8 := by kernel_rfl
theorem pLR_entries {v0 v1 v2 v3 v4 v5 v6 v7 v8 v9 v10 y : V} : putF "entries" y (flLR v0 v1 v2 v3 v4 v5 v6 v7 v8 v9 v10) = flLR v0 v1 v2 v3 v4 v5 v6 v7 y v9 v10 := by kernel_rfl
theorem gLR_units (v0 v1 v2 v3 v4 v5 v6 v7 v8 v9 v10 : V) : (flLR v0 v1 v2 v3 v4 v5 v6 v7 v8 v9 v10).lookup ("units" : Str) = some v9 := by kernel_rfl
theorem pLR_units {v0 v1 v2 v3 v4 v5 v6 v7 v8 v9 v10 y : V} : putF "units" y (flLR v0 v1 v2 v3 v4 v5 v6 v7 v8 v9 v10) = flLR v0 v1 v2 v3 v4 v5 v6 v7 v8 y v10 := by kernel_rfl
theorem gLR_places (v0 v1 v2 v3 v4 v5 v6 v7 v8 v9 v10 : V) : (flLR v0 v1 v2 v3 v4 v5 v6 v7 v8 v9 v10).lookup ("places" : Str) = some v10 := by kernel_rfl
theorem pLR_places {v0 v1 v2 v3 v4 v5 v6 v7 v8 v9 v10 y : V} : putF "places" y (flLR v0 v1 v2 v3 v4 v5 v6 v7 v8 v9 v10) = flLR v0 v1 v2 v3 v4 v5 v6 v7 v8 v9 y := by kernel_rfl
theorem nLR_extend (v0 v1 v2 v3 v4 v5 v6 v7 v8 v9 v10 : V) : (flLR v0 v1 v2 v3 v4 v5 v6 v7 v8 v9 v10).lookup ("extend" : Str) = none := by kernel_rfl
theorem nLR_next_leaf (v0 v1 v2 v3 v4 v5 v6 v7 v8 v9 v10 : V) : (flLR v0 v1 v2 v3 v4 v5 v6 v7 v8 v9 v10).lookup ("next_leaf" : Str) = none := by kernel_rfl
theorem nLR_finish (v0 v1 v2 v3 v4 v5 v6 v7 v8 v9 v10 : V) : (flLR v0 v1 v2 v3 v4 v5 v6 v7 v8 v9 v10).lookup ("finish" : Str) = none := by kernel_rfl
theorem nLR_check_leaf (v0 v1 v2 v3 v4 v5 v6 v7 v8 v9 v10 : V) : (flLR v0 v1 v2 v3 v4 v5 v6 v7 v8 v9 v10).lookup ("check_leaf" : Str) = none := by kernel_rfl
theorem nLR_is_in_order (v0 v1 v2 v3 v4 v5 v6 v7 v8 v9 v10 : V) : (flLR v0 v1 v2 v3 v4 v5 v6 v7 v8 v9 v10).lookup ("is_in_order" : Str) = none := by kernel_rfl
theorem nLR_check_body (v0 v1 v2 v3 v4 v5 v6 v7 v8 v9 v10 : V) : (flLR v0 v1 v2 v3 v4 v5 v6 v7 v8 v9 v10).lookup ("check_body" : Str) = none := by kernel_rfl
theorem nLR_check_unit (v0 v1 v2 v3 v4 v5 v6 v7 v8 v9 v10 : V) : (flLR v0 v1 v2 v3 v4 v5 v6 v7 v8 v9 v10).lookup ("check_unit" : Str) = none := by kernel_rfl
theorem nLR_check_entries (v0 v1 v2 v3 v4 v5 v6 v7 v8 v9 v10 : V) : (flLR v0 v1 v2 v3 v4 v5 v6 v7 v8 v9 v10).lookup ("check_entries" : Str) = none := by kernel_rfl
theorem nLR_check_end (v0 v1 v2 v3 v4 v5 v6 v7 v8 v9 v10 : V) : (flLR v0 v1 v2 v3 v4 v5 v6 v7 v8 v9 v10).lookup ("check_end" : Str) = none := by kernel_rfl
theorem iLR {v0 v1 v2 v3 v4 v5 v6 v7 v8 v9 v10 : V} : putF "places" v10 (putF "units" v9 (putF "entries" v8 (putF "tags" v7 (putF "head" v6 (putF "last" v5 (putF "stamp" v4 (putF "count" v3 (putF "scan" v2 (putF "at" v1 (putF "data" v0 (([] : List (Str × V))))))))))))) = flLR v0 v1 v2 v3 v4 v5 v6 v7 v8 v9 v10 := by kernel_rfl
abbrev flRD (v0 v1 v2 v3 : V) : List (Str × V) := [("_leaves", v0), ("_units", v1), ("_given", v2), ("_bad", v3)]
theorem gRD_leaves (v0 v1 v2 v3 : V) : (flRD v0 v1 v2 v3).lookup ("_leaves" : Str) = some v0 := by kernel_rfl
theorem pRD_leaves {v0 v1 v2 v3 y : V} : putF "_leaves" y (flRD v0 v1 v2 v3) = flRD y v1 v2 v3 := by kernel_rfl
theorem gRD_units (v0 v1 v2 v3 : V) : (flRD v0 v1 v2 v3).lookup ("_units" : Str) = some v1 := by kernel_rfl
theorem pRD_units {v0 v1 v2 v3 y : V} : putF "_units" y (flRD v0 v1 v2 v3) = flRD v0 y v2 v3 := by kernel_rfl
theorem gRD_given (v0 v1 v2 v3 : V) : (flRD v0 v1 v2 v3).lookup ("_given" : Str) = some v2 := by kernel_rfl
theorem pRD_given {v0 v1 v2 v3 y : V} : putF "_given" y (flRD v0 v1 v2 v3) = flRD v0 v1 y v3 := by kernel_rfl
theorem gRD_bad (v0 v1 v2 v3 : V) : (flRD v0 v1 v2 v3).lookup ("_bad" : Str) = some v3 := by kernel_rfl
theorem pRD_bad {v0 v1 v2 v3 y : V} : putF "_bad" y (flRD v0 v1 v2 v3) = flRD v0 v1 v2 y := by kernel_rfl
theorem nRD_feed (v0 v1 v2 v3 : V) : (flRD v0 v1 v2 v3).lookup ("feed" : Str) = none := by kernel_rfl
theorem nRD_later_unit (v0 v1 v2 v3 : V) : (flRD v0 v1 v2 v3).lookup ("_later_unit" : Str) = none := by kernel_rfl
theorem nRD_next_unit (v0 v1 v2 v3 : V) : (flRD v0 v1 v2 v3).lookup ("_next_unit" : Str) = none := by kernel_rfl
theorem nRD_close (v0 v1 v2 v3 : V) : (flRD v0 v1 v2 v3).lookup ("close" : Str) = none := by kernel_rfl
theorem iRD {v0 v1 v2 v3 : V} : putF "_bad" v3 (putF "_given" v2 (putF "_units" v1 (putF "_leaves" v0 (([] : List (Str × V)))))) = flRD v0 v1 v2 v3 := by kernel_rfl
end Sp
namespace Sp
open PySem PySem.Spec PyProof.Rows L2
/-- a writer at p: its leaves, its file -/
structure LWr (C : Addr) (H : Hp) (p dx lv dt : Addr) (stamp : Int) (ls : List Leaf) : Prop where
  ob : H p = some (.ins C dx (flLW (.int stamp) (.ref lv) (.ref dt)))
  hl : ∃ us, H lv = some (.lst us) ∧ us.length = ls.length
  hd : Li H dt (encF ls)
  ne : lv ≠ dt
theorem LWr.mono {C : Addr} {H H' : Hp} {p dx lv dt : Addr} {stamp : Int} {ls : List Leaf} (s : Same H H') (W : LWr C H p dx lv dt stamp ls) : LWr C H' p dx lv dt stamp ls := by
  obtain ⟨a, ⟨us, b, c⟩, d, e⟩ := W
  exact ⟨s _ _ a, ⟨us, s _ _ b, c⟩, d.mono s, e⟩
/-- all but the writer's two lists stands -/
def But2 (H H' : Hp) (x y : Addr) : Prop := ∀ a o, H a = some o → a ≠ x → a ≠ y → H' a = some o
section
variable {P : Program} {w : World} {K : PySem.W.Frag} {mg : Str → Option Value} {base : Heap}
def spLWi (K : PySem.W.Frag) : Sp := fun vs H Q _ => ∃ (p dx : Addr) (stamp : Int), vs = [.ref p, .int stamp] ∧ H p = some (.ins (ga K "LeafWriter") dx []) ∧
  ∀ H' lv dt, (∀ a o, H a = some o → a ≠ p → H' a = some o) → H lv = none → H dt = none → LWr (ga K "LeafWriter") H' p dx lv dt stamp [] → Q .non H'
theorem ok_LeafWriter_init (T : Txt K mg) : FnOk P w K mg base CX0 4 (ma K (ga K "LeafWriter") "__init__") (fdAt K (ma K (ga K "LeafWriter") "__init__")) ["self", "stamp"] (spLWi K) := by
  refine okD T.F_LeafWriter_init sc_LeafWriter_init (fun vs H Q E h => ?_) (fun cdv A outer s H vs Q E hr h => ?_)
  · obtain ⟨_, _, _, rfl, _⟩ := h
    rfl
  obtain ⟨p, dx, stamp, rfl, hp, k⟩ := h
  have nd := sc_LeafWriter_init.nd
  refine ⟨_, ((pss_cons (ps_fld (pv 0) (pv 1) rfl)
      (pss_cons (ps_fld (pv 0) (pe_lst pa_nil) rfl)
      (pss_one (ps_fld (pv 0) (pe_call (ok_write_leaves T) (hr.mono (by decide)) rfl T.g_write_leaves T.k_write_leaves T.b_write_leaves .nil pass0 (pa_cons (pe_lst pa_nil) pa_nil)) rfl))))), ?_⟩
  refine ⟨_, rfl, _, rfl, p, _, dx, _, rfl, hp, T.c_LeafWriter, T.a_LeafWriter_stamp, by decide, ?_⟩
  refine ⟨Nat.zero_le _, fun lv nlv => ⟨_, rfl, p, _, dx, _, rfl, upd_keep upd_same nlv, T.c_LeafWriter, T.a_LeafWriter_leaves, by show 1 < 1000; decide, ?_⟩⟩
  have npl : lv ≠ p := fun z => by rw [z, upd_same] at nlv; cases nlv
  refine ⟨Nat.zero_le _, fun e ne => ⟨_, [], rfl, ⟨e, [], rfl, upd_same, .nil⟩, fun _ h => by (cases h), by simp, fun dt H2 s2 ndt hdt => ?_⟩⟩
  have nep : e ≠ p := fun z => by rw [z, upd_same] at ne; cases ne
  refine ⟨_, rfl, p, _, dx, _, rfl, s2 _ _ (upd_keep upd_same ne), T.c_LeafWriter, T.a_LeafWriter_data, by show 2 < 1000; decide, ?_⟩
  have hlv : upd (upd (upd (upd H p _) lv (.lst [])) p _) e (.lst []) lv = some (.lst []) := upd_keep (by rw [upd_ne npl]; exact upd_same) ne
  have ndp : dt ≠ p := fun z => by
    rw [z, upd_ne nep.symm, upd_same] at ndt; cases ndt
  have ndt0 : H dt = none := by
    have h1 : dt ≠ lv := (ne_of_none hlv ndt).symm
    have h2 : dt ≠ e := (ne_of_none (upd_same (o := .lst [])) ndt).symm
    rw [upd_ne h2, upd_ne ndp, upd_ne h1, upd_ne ndp] at ndt
    exact ndt
  refine k _ lv dt (fun a o ha hap => ?_) (by rw [upd_ne npl] at nlv; exact nlv) ndt0 ⟨by rw [upd_same, iLW], ⟨[], by rw [upd_ne npl]; exact s2 _ _ hlv, rfl⟩, by show upd _ p _ dt = _; rw [upd_ne ndp]; exact hdt, (ne_of_none hlv ndt)⟩
  rw [upd_ne hap]
  refine s2 _ _ (upd_keep ?_ ne)
  rw [upd_ne hap]
  exact upd_keep (by rw [upd_ne hap]; exact ha) nlv
def spLWa (K : PySem.W.Frag) : Sp := fun vs H Q _ => ∃ (p dx lv dt b : Addr) (stamp kind track ordinal time span key : Int) (body : List Int) (ls : List Leaf), vs = [.ref p, .int kind, .int track, .int ordinal, .int time, .int span, .int key, .ref b] ∧ LWr (ga K "LeafWriter") H p dx lv dt stamp ls ∧ Li H b body ∧ b ≠ lv ∧ b ≠ dt ∧
  ls.length ≤ 60 ∧ (∀ l ∈ ls, l.Wf) ∧ (⟨kind, stamp, ls.length, track, ordinal, time, span, key, body⟩ : Leaf).Wf ∧
  ∀ H', But2 H H' lv dt → LWr (ga K "LeafWriter") H' p dx lv dt stamp (ls ++ [⟨kind, stamp, ls.length, track, ordinal, time, span, key, body⟩]) → Q .non H'
theorem ok_LeafWriter_add (T : Txt K mg) : FnOk P w K mg base CX0 4 (ma K (ga K "LeafWriter") "add") (fdAt K (ma K (ga K "LeafWriter") "add")) ["self", "kind", "track", "ordinal", "time", "span", "key", "body"] (spLWa K) := by
  refine okD T.F_LeafWriter_add sc_LeafWriter_add (fun vs H Q E h => ?_) (fun cdv A outer s H vs Q E hr h => ?_)
  · obtain ⟨_, _, _, _, _, _, _, _, _, _, _, _, _, _, rfl, _⟩ := h
    rfl
  obtain ⟨p, dx, lv, dt, b, stamp, kind, track, ordinal, time, span, key, body, ls, rfl, W, hb, bl, bd, hl, hwf, wf, k⟩ := h
  obtain ⟨ob, ⟨us, hlv, hul⟩, hdt, nld⟩ := id W
  have nd := sc_LeafWriter_add.nd
  refine ⟨_, ((pss_cons (ps_set (i := 8) nd rfl (Or.inl rfl) (pe_tup (pa_cons (pv 1) (pa_cons (pe_fld (pv 0) rfl) (pa_cons (pe_callB (lenS_ K rfl) rfl T.n_len boot_len (pa_cons (pe_fld (pv 0) rfl) pa_nil)) (pa_cons (pv 2) (pa_cons (pv 3) (pa_cons (pv 4) (pa_cons (pv 5) (pa_cons (pv 6) (pa_cons (pv 7) pa_nil)))))))))))
      (pss_cons (ps_expr (pe_bm PySem.F.plainAttrs_list PySem.F.slot_list_append PySem.F.type_list_append mt_append (pe_fld (pv 0) rfl) (pa_cons (pv 8) pa_nil)))
      (pss_one (ps_expr (pe_bm PySem.F.plainAttrs_list PySem.F.slot_list_extend PySem.F.type_list_extend mt_extend (pe_fld (pv 0) rfl) (pa_cons (pe_slice sl_list (pe_call (ok_write_leaves T) (hr.mono (by decide)) rfl T.g_write_leaves T.k_write_leaves T.b_write_leaves .nil pass0 (pa_cons (pe_lst (pa_cons (pv 8) pa_nil)) pa_nil)) (po_some pe_int) po_none) pa_nil))))))), ?_⟩
  refine ⟨_, rfl, _, rfl, p, _, dx, _, _, rfl, ob, T.c_LeafWriter, T.a_LeafWriter_stamp, gLW_stamp _ _ _, _, rfl, p, _, dx, _, _, rfl, ob, T.c_LeafWriter, T.a_LeafWriter_leaves, gLW_leaves _ _ _, _, _, rfl, .inl (SqL.of hlv), _, rfl, _, rfl, _, rfl, _, rfl, _, rfl, _, rfl, lsz (by simp), fun t nt => ?_⟩
  rw [hul]
  have W1 := W.mono (Same.new (o := .tup [.int kind, .int stamp, .int (ls.length : Int), .int track, .int ordinal, .int time, .int span, .int key, .ref b]) nt)
  have hb1 := hb.keep (o := .tup [.int kind, .int stamp, .int (ls.length : Int), .int track, .int ordinal, .int time, .int span, .int key, .ref b]) nt
  have ht1 : upd H t (.tup [.int kind, .int stamp, .int (ls.length : Int), .int track, .int ordinal, .int time, .int span, .int key, .ref b]) t = _ := upd_same
  have B1 : Same H (upd H t (.tup [.int kind, .int stamp, .int (ls.length : Int), .int track, .int ordinal, .int time, .int span, .int key, .ref b])) := Same.new nt
  have hlv1 := B1 _ _ hlv
  generalize upd H t (.tup [.int kind, .int stamp, .int (ls.length : Int), .int track, .int ordinal, .int time, .int span, .int key, .ref b]) = H1 at W1 hb1 ht1 B1 hlv1
  refine ⟨_, rfl, p, _, dx, _, _, rfl, W1.ob, T.c_LeafWriter, T.a_LeafWriter_leaves, gLW_leaves _ _ _, .inl ⟨rfl, _, SqL.of hlv1⟩, _, rfl, lv, _, _, rfl, rfl, hlv1, lsz' (by omega), ?_⟩
  have nlt : t ≠ lv := fun z => by rw [z, hlv] at nt; cases nt
  have ndt : t ≠ dt := fun z => by
    have h0 : H dt = _ := hdt
    rw [z, h0] at nt; cases nt
  have W2 : H1 p = _ := W1.ob
  have npl : p ≠ lv := fun z => by rw [z, hlv1] at W2; cases W2
  have hdt1 : Li (upd H1 lv (.lst (us ++ [V.ref t]))) dt (encF ls) := by
    show upd _ _ _ _ = _
    rw [upd_ne nld.symm]
    exact W1.hd
  have hb2 : Li (upd H1 lv (.lst (us ++ [V.ref t]))) b body := by
    show upd _ _ _ _ = _
    rw [upd_ne bl]
    exact hb1
  have ht2 : upd H1 lv (.lst (us ++ [V.ref t])) t = _ := (upd_ne nlt).trans ht1
  have hp2 : upd H1 lv (.lst (us ++ [V.ref t])) p = _ := (upd_ne npl).trans W2
  have hv2 : upd H1 lv (.lst (us ++ [V.ref t])) lv = _ := upd_same
  have B2 : ∀ a o, H a = some o → a ≠ lv → upd H1 lv (.lst (us ++ [V.ref t])) a = some o := fun a o h n => (upd_ne n).trans (B1 _ _ h)
  generalize upd H1 lv (.lst (us ++ [V.ref t])) = H2 at hdt1 hb2 ht2 hp2 hv2 B2
  refine ⟨_, rfl, p, _, dx, _, _, rfl, hp2, T.c_LeafWriter, T.a_LeafWriter_data, gLW_data _ _ _, .inl ⟨rfl, _, hdt1.sq⟩, ?_⟩
  refine ⟨_, rfl, lsz (by simp), fun q nq => ⟨_, [⟨kind, stamp, ls.length, track, ordinal, time, span, key, body⟩], rfl, ⟨q, _, rfl, upd_same, .cons ⟨t, b, rfl, upd_keep ht2 nq, hb2.keep nq⟩ .nil⟩, fun l hl => by rw [List.mem_singleton] at hl; subst hl; exact wf, by simp, fun e H3 s3 n3 h3 => ?_⟩⟩
  have s3' : Same H2 H3 := (Same.new nq).trans s3
  refine ⟨_, rfl, _, _, rfl, h3.sq, fun e2 n2 => ?_⟩
  rw [show (1 : Int) = ((1 : Nat) : Int) by rfl, cut_from (by simp [encF, segs])]
  have hcut : (encF [⟨kind, stamp, ls.length, track, ordinal, time, span, key, body⟩]).drop 1 = piece ⟨kind, stamp, ls.length, track, ordinal, time, span, key, body⟩ ++ [0] := by simp [encF, segs]
  rw [hcut]
  have hpl := piece_len wf
  have hle := encF_len hwf
  have h4 : Li (upd H3 e2 (.lst ((piece ⟨kind, stamp, ls.length, track, ordinal, time, span, key, body⟩ ++ [0]).map V.int))) e2 _ := upd_same
  have s4 : Same H2 (upd H3 e2 (.lst ((piece ⟨kind, stamp, ls.length, track, ordinal, time, span, key, body⟩ ++ [0]).map V.int))) := s3'.add n2
  generalize upd H3 e2 (.lst ((piece ⟨kind, stamp, ls.length, track, ordinal, time, span, key, body⟩ ++ [0]).map V.int)) = H4 at h4 s4
  refine ⟨dt, e2, _, _, rfl, rfl, s4 _ _ hdt1, h4, lsz (by simp only [List.length_map, List.length_append, List.length_cons, List.length_nil]; omega), ?_⟩
  have npd : p ≠ dt := fun z => by
    have h0 : H2 dt = _ := hdt1
    rw [z, h0] at hp2; cases hp2
  refine k _ (fun a o h n1 n2 => ?_) ⟨?_, ⟨_, (upd_ne nld).trans (s4 _ _ hv2), by simp [hul]⟩, ?_, nld⟩
  · rw [upd_ne n2]
    exact s4 _ _ (B2 a o h n1)
  · rw [upd_ne npd]
    exact s4 _ _ hp2
  · exact upd_same.trans (by rw [encF_snoc, List.map_append (l₁ := encF ls)])
def spLWp (K : PySem.W.Frag) : Sp := fun vs H Q _ => ∃ (p dx lv dt b : Addr) (stamp kind : Int) (body : List Int) (ls : List Leaf), vs = [.ref p, .int kind, .ref b] ∧ LWr (ga K "LeafWriter") H p dx lv dt stamp ls ∧ Li H b body ∧ b ≠ lv ∧ b ≠ dt ∧
  ls.length ≤ 60 ∧ (∀ l ∈ ls, l.Wf) ∧ (⟨kind, stamp, ls.length, 0, 0, 0, 0, 0, body⟩ : Leaf).Wf ∧
  ∀ H', But2 H H' lv dt → LWr (ga K "LeafWriter") H' p dx lv dt stamp (ls ++ [⟨kind, stamp, ls.length, 0, 0, 0, 0, 0, body⟩]) → Q .non H'
theorem ok_LeafWriter_add_plain (T : Txt K mg) : FnOk P w K mg base CX0 5 (ma K (ga K "LeafWriter") "add_plain") (fdAt K (ma K (ga K "LeafWriter") "add_plain")) ["self", "kind", "body"] (spLWp K) := by
  refine okD T.F_LeafWriter_add_plain sc_LeafWriter_add_plain (fun vs H Q E h => ?_) (fun cdv A outer s H vs Q E hr h => ?_)
  · obtain ⟨_, _, _, _, _, _, _, _, _, rfl, _⟩ := h
    rfl
  obtain ⟨p, dx, lv, dt, b, stamp, kind, body, ls, rfl, W, hb, bl, bd, hl, hwf, wf, k⟩ := h
  have nd := sc_LeafWriter_add_plain.nd
  refine ⟨_, ((pss_one (ps_expr (pe_meth (pv 0) T.c_LeafWriter T.m_LeafWriter_add (ok_LeafWriter_add T) (hr.mono (by decide)) T.b_LeafWriter_add .nil pass0 (pa_cons (pv 1) (pa_cons pe_int (pa_cons pe_int (pa_cons pe_int (pa_cons pe_int (pa_cons pe_int (pa_cons (pv 2) pa_nil))))))))))), ?_⟩
  refine ⟨_, rfl, p, dx, _, rfl, W.ob, nLW_add _ _ _, _, rfl, _, rfl, p, dx, lv, dt, b, stamp, kind, 0, 0, 0, 0, 0, body, ls, rfl, W, hb, bl, bd, hl, hwf, wf, k⟩
end
end Sp
namespace Sp
open PySem PySem.Spec PyProof.Rows L2
theorem pperm {α β : Type} {F : α → β → Prop} {ys vs : List α} (h : ys.Perm vs) : ∀ {xs : List β}, Paired F vs xs → ∃ zs, zs.Perm xs ∧ Paired F ys zs := by
  induction h with
  | nil => exact fun p => ⟨_, .refl _, p⟩
  | cons x _ ih => intro xs p; cases p with | cons r t => obtain ⟨zs, h1, h2⟩ := ih t; exact ⟨_, .cons _ h1, .cons r h2⟩
  | swap x y l => intro xs p; cases p with | cons r t => cases t with | cons r2 t => exact ⟨_, .swap _ _ _, .cons r2 (.cons r t)⟩
  | trans _ _ i1 i2 => intro xs p; obtain ⟨zs, h1, h2⟩ := i2 p; obtain ⟨ws, h3, h4⟩ := i1 h2; exact ⟨ws, h3.trans h1, h4⟩
abbrev R3 := Int × Int × Int
def rj (us : List Bd) (k n : Nat) : List R3 := (List.range n).map fun (j : Nat) => ((us[j]?.getD (0, 0, 0, [])).1, (k : Int) + 1, (j : Int))
def rk (tss : List (List Bd)) (n : Nat) : List R3 := (List.range n).flatMap fun k => rj (tss[k]?.getD []) k (tss[k]?.getD []).length
def OkBds (us : List Bd) : Prop := us.length ≤ 5 ∧ us.Pairwise (fun a b => a.1 < b.1) ∧ ∀ b ∈ us, 0 ≤ b.1 ∧ b.1 < 1000000
structure Order (ns : List Nat) (od : List (Int × Int)) : Prop where
  each : ∀ k : Nat, (od.filter fun e => decide (e.1 = (k : Int) + 1)).map (·.2) = (List.range (ns[k]?.getD 0)).map fun (j : Nat) => (j : Int)
  ins : ∀ e ∈ od, ∃ k : Nat, k < ns.length ∧ e.1 = (k : Int) + 1
  len : od.length ≤ 15
theorem rj_snoc (us : List Bd) (k n : Nat) {b : Bd} (h : us[n]? = some b) : rj us k (n + 1) = rj us k n ++ [(b.1, (k : Int) + 1, (n : Int))] := by
  simp [rj, List.range_succ, h]
theorem rk_snoc (tss : List (List Bd)) (n : Nat) : rk tss (n + 1) = rk tss n ++ rj (tss[n]?.getD []) n (tss[n]?.getD []).length := by
  simp [rk, List.range_succ]
theorem rj_len (us : List Bd) (k n : Nat) : (rj us k n).length = n := by simp [rj]
theorem rk_len {tss : List (List Bd)} (h : ∀ us ∈ tss, us.length ≤ 5) : ∀ n, (rk tss n).length ≤ 5 * n
  | 0 => by simp [rk]
  | n + 1 => by
    rw [rk_snoc, List.length_append, rj_len]
    have := rk_len h n
    cases e : tss[n]? with
    | none => simp; omega
    | some us => have := h us (List.mem_of_getElem? e); simp; omega
theorem rk_filter (tss : List (List Bd)) (k : Nat) : ∀ n, (rk tss n).filter (fun e => decide (e.2.1 = (k : Int) + 1)) = if k < n then rj (tss[k]?.getD []) k (tss[k]?.getD []).length else []
  | 0 => by simp [rk]
  | n + 1 => by
    rw [rk_snoc, List.filter_append, rk_filter tss k n]
    have he : ∀ m, (rj (tss[n]?.getD []) n m).filter (fun e => decide (e.2.1 = (k : Int) + 1)) = if n = k then rj (tss[n]?.getD []) n m else [] := fun m => by
      by_cases c : n = k
      · subst c
        rw [if_pos rfl, List.filter_eq_self]
        intro x hx
        obtain ⟨j, _, rfl⟩ := List.mem_map.mp hx
        simp
      · rw [if_neg c, List.filter_eq_nil_iff]
        intro x hx
        obtain ⟨j, _, rfl⟩ := List.mem_map.mp hx
        simp
        omega
    rw [he]
    by_cases c : n = k
    · subst c
      rw [if_neg (by omega), if_pos rfl, if_pos (by omega), List.nil_append]
    · rw [if_neg c, List.append_nil]
      by_cases d : k < n
      · rw [if_pos d, if_pos (by omega)]
      · rw [if_neg d, if_neg (by omega)]
def rcode (e : R3) : Int := TS.code 1099511627776 [e.1, e.2.1, e.2.2]
theorem rcode_first {a b : R3} (ha : TS.Bd 1099511627776 [a.1, a.2.1, a.2.2]) (hb : TS.Bd 1099511627776 [b.1, b.2.1, b.2.2]) (h : rcode a ≤ rcode b) : a.1 ≤ b.1 := by
  by_cases z : a.1 ≤ b.1
  · exact z
  · have q : rcode b < rcode a := TS.code_lt rfl hb.tail ha.tail (by omega)
    omega
theorem rk_bd {tss : List (List Bd)} (hl : tss.length ≤ 3) (h : ∀ us ∈ tss, OkBds us) {n : Nat} (hn : n ≤ tss.length) : ∀ e ∈ rk tss n, TS.Bd 1099511627776 [e.1, e.2.1, e.2.2] ∧ ∃ k : Nat, k < tss.length ∧ e.2.1 = (k : Int) + 1 := by
  intro e he
  obtain ⟨k, hk, hj⟩ := List.mem_flatMap.mp he
  obtain ⟨j, hj', rfl⟩ := List.mem_map.mp hj
  replace hj := hj'
  clear he
  rw [List.mem_range] at hk hj
  have hk2 : k < tss.length := by omega
  have hus : tss[k]? = some tss[k] := List.getElem?_eq_getElem hk2
  have o := h _ (List.mem_of_getElem? hus)
  rw [hus] at hj ⊢
  simp only [Option.getD_some] at hj ⊢
  generalize tss[k] = us at *
  have hb : us[j]? = some us[j] := List.getElem?_eq_getElem hj
  have ob := o.2.2 _ (List.mem_of_getElem? hb)
  have ol := o.1
  rw [hb]
  simp only [Option.getD_some]
  refine ⟨fun m hm => ?_, k, hk2, rfl⟩
  simp only [List.mem_cons, List.not_mem_nil, or_false] at hm
  rcases hm with rfl | rfl | rfl <;> omega
theorem order_of {tss : List (List Bd)} (hl : tss.length ≤ 3) (h : ∀ us ∈ tss, OkBds us) {zs : List R3} (hp : zs.Perm (rk tss tss.length)) (hs : zs.Pairwise fun a b => rcode a ≤ rcode b) : Order (tss.map (·.length)) (zs.map (·.2)) := by
  refine ⟨fun k => ?_, fun e he => ?_, ?_⟩
  · have e1 : (zs.map (·.2)).filter (fun e => decide (e.1 = (k : Int) + 1)) = (zs.filter fun e => decide (e.2.1 = (k : Int) + 1)).map (·.2) := by
      rw [List.filter_map]
      rfl
    have p2 := hp.filter fun e => decide (e.2.1 = (k : Int) + 1)
    rw [rk_filter] at p2
    have s2 := hs.filter fun e => decide (e.2.1 = (k : Int) + 1)
    rw [e1]
    have hmem : ∀ a ∈ zs.filter (fun e => decide (e.2.1 = (k : Int) + 1)), TS.Bd 1099511627776 [a.1, a.2.1, a.2.2] := fun a ha => (rk_bd hl h (Nat.le_refl _) a (hp.mem_iff.mp (List.mem_filter.mp ha).1)).1
    have s3 : (zs.filter fun e => decide (e.2.1 = (k : Int) + 1)).Pairwise (fun a b => a.1 ≤ b.1) := List.Pairwise.imp_of_mem (fun {x y} hx hy c => rcode_first (hmem x hx) (hmem y hy) c) s2
    generalize zs.filter (fun e => decide (e.2.1 = (k : Int) + 1)) = fs at p2 s3 ⊢
    by_cases c : k < tss.length
    · rw [if_pos c] at p2
      have hus : tss[k]? = some tss[k] := List.getElem?_eq_getElem c
      have o := h _ (List.mem_of_getElem? hus)
      rw [List.getElem?_map]
      rw [hus] at p2 ⊢
      simp only [Option.getD_some, Option.map_some] at p2 ⊢
      generalize tss[k] = us at *
      have rise : ∀ i j : Nat, i < j → j < us.length → (us[i]?.getD (0, 0, 0, [])).1 < (us[j]?.getD (0, 0, 0, [])).1 := fun i j hij hj => by
        have := List.pairwise_iff_getElem.mp o.2.1 i j (by omega) hj hij
        rw [List.getElem?_eq_getElem (show i < us.length by omega), List.getElem?_eq_getElem hj]
        exact this
      have hf : fs = rj us k us.length := by
        refine List.Perm.eq_of_pairwise (le := fun a b => a.1 ≤ b.1) (fun a b ha hb h1 h2 => ?_) s3 ?_ p2
        · obtain ⟨i, hi, rfl⟩ := List.mem_map.mp (p2.mem_iff.mp ha)
          obtain ⟨j, hj, rfl⟩ := List.mem_map.mp hb
          rw [List.mem_range] at hi hj
          have : i = j := by
            rcases Nat.lt_trichotomy i j with z | z | z
            · have := rise i j z hj
              simp only at h1 h2
              omega
            · exact z
            · have := rise j i z hi
              simp only at h1 h2
              omega
          rw [this]
        · unfold rj
          rw [List.pairwise_map, List.pairwise_iff_getElem]
          intro i j hi hj hij
          rw [List.length_range] at hi hj
          rw [List.getElem_range, List.getElem_range]
          exact Int.le_of_lt (rise i j hij hj)
      rw [hf, rj, List.map_map, List.map_map]
      exact List.map_congr_left fun a _ => rfl
    · rw [if_neg c] at p2
      rw [p2.eq_nil, List.getElem?_eq_none (by rw [List.length_map]; omega)]
      rfl
  · obtain ⟨z, hz, rfl⟩ := List.mem_map.mp he
    obtain ⟨k, a, b⟩ := (rk_bd hl h (Nat.le_refl _) z (hp.mem_iff.mp hz)).2
    exact ⟨k, by rwa [List.length_map], b⟩
  · rw [List.length_map, hp.length_eq]
    have := rk_len (fun us hu => (h us hu).1) tss.length
    omega
section
variable {P : Program} {w : World} {K : PySem.W.Frag} {mg : Str → Option Value} {base : Heap}
def spTimes : Sp := fun vs H Q _ => ∃ (v : V) (tss : List (List Bd)), vs = [v] ∧ (cL (cL cBd)).R H v tss ∧ tss.length ≤ 3 ∧ (∀ us ∈ tss, OkBds us) ∧ ∀ H' u od, Same H H' → (cL cPair).R (fresh' H H') u od → Order (tss.map (·.length)) od → Q u H'
theorem ok_in_times (T : Txt K mg) : FnOk P w K mg base CX0 1 (ga K "in_times") (fdAt K (ga K "in_times")) ["tracks"] spTimes := by
  refine okD T.F_in_times sc_in_times (fun vs H Q E h => ?_) (fun cdv A outer s H vs Q E hr h => ?_)
  · obtain ⟨_, _, rfl, _⟩ := h
    rfl
  obtain ⟨_, tss, rfl, ⟨a, vs, rfl, ha, hp⟩, hl, ho, k⟩ := h
  have nd := sc_in_times.nd
  have hvl := hp.length
  refine ⟨_, ((pss_cons (ps_set (i := 1) nd rfl (Or.inl rfl) (pe_lst pa_nil))
      (pss_cons (ps_for PassesOwn.never rfl (pi_range1 rfl T.n_range (pa_cons (pe_callB (lenS_ K rfl) rfl T.n_len boot_len (pa_cons (pv 0) pa_nil)) pa_nil)) (pg_name (i := 2) nd rfl (Or.inl rfl)) (pss_one (ps_for PassesOwn.never rfl (pi_range1 rfl T.n_range (pa_cons (pe_callB (lenS_ K rfl) rfl T.n_len boot_len (pa_cons (pe_ix (ixL_ K rfl) (pv 0) (pv 2) (fun _ _ => rfl)) pa_nil)) pa_nil)) (pg_name (i := 3) nd rfl (Or.inl rfl)) (pss_one (ps_expr (pe_bm PySem.F.plainAttrs_list PySem.F.slot_list_append PySem.F.type_list_append mt_append (pv 1) (pa_cons (pe_tup (pa_cons (pe_ix (ixT_ K rfl) (pe_ix (ixL_ K rfl) (pe_ix (ixL_ K rfl) (pv 0) (pv 2) (fun _ _ => rfl)) (pv 3) (fun _ _ => rfl)) pe_int (fun _ _ => rfl)) (pa_cons (pe_op op_add (pv 2) pe_int) (pa_cons (pv 3) pa_nil)))) pa_nil)))))))
      (pss_one (ps_ret (pe_lc (own := [("_", 4), ("track", 5), ("ordinal", 6)]) rfl nd (pi_list (pe_callB (cr_sortT (d := 3) (B := 1099511627776) (by decide)) rfl T.n_sorted boot_sorted (pa_cons (pv 1) pa_nil))) (blkOk_by (N := N_in_times) (sc := defScope s_in_times) (by decide +kernel)) (fun _ _ _ _ _ => (pg_tup_ K rfl rfl (n := 3) (pgs_cons (pg_name (i := 4) nd rfl (Or.inl rfl)) (pgs_cons (pg_name (i := 5) nd rfl (Or.inl rfl)) (pgs_cons (pg_name (i := 6) nd rfl (Or.inl rfl)) pgs_nil))))) (fun _ _ _ _ _ => pts_nil) (fun _ _ _ _ _ => (pe_tup (pa_cons (pv 5) (pa_cons (pv 6) pa_nil)))))))))), ?_⟩
  refine ⟨Nat.zero_le _, fun f nf => ⟨_, rfl, _, _, rfl, .inl (SqL.of (upd_keep ha nf)), _, rfl, by omega, by omega, for_range (n := ((vs.length : Nat) : Int).toNat) (fun i σ H' => ∃ (u v : Option V) (us : List V), σ = [some (.ref a), some (.ref f), u, v, none, none, none] ∧ Same H H' ∧ Acc c3i H H' f us (rk tss i))
    ⟨none, none, [], rfl, Same.new nf, Acc.nil nf upd_same⟩ ?_ ?_⟩⟩
  · rintro i σ H' hi ⟨u, v, us, rfl, s, A⟩
    have hi2 : i < tss.length := by omega
    have hk : tss[i]? = some tss[i] := List.getElem?_eq_getElem hi2
    obtain ⟨x, hx, b, bv, rfl, hb, hbp⟩ := pget hp hk
    have hbl := hbp.length
    have ob := (ho _ (List.mem_of_getElem? hk)).1
    have hrk := rk_snoc tss i
    rw [hk] at hrk
    simp only [Option.getD_some] at hrk
    have hrl := rk_len (fun us hu => (ho us hu).1) i
    generalize tss[i] = row at *
    refine ⟨_, rfl, _, rfl, _, _, _, _, rfl, rfl, SqL.of (s _ _ ha), at0 (i := i) (by omega) hx, _, _, rfl, .inl (SqL.of (s _ _ hb)), _, rfl, by omega, by omega, for_range (n := ((bv.length : Nat) : Int).toNat) (fun j σ H2 => ∃ (v : Option V) (us : List V), σ = [some (.ref a), some (.ref f), some (.int (0 + (i : Int))), v, none, none, none] ∧ Same H H2 ∧ Acc c3i H H2 f us (rk tss i ++ rj row i j))
      ⟨v, us, rfl, s, by simp only [rj, List.range_zero, List.map_nil, List.append_nil]; exact A⟩ ?_ ?_⟩
    · rintro j σ H2 hj ⟨v, us, rfl, s2, A2⟩
      have hj2 : j < row.length := by omega
      have hkj : row[j]? = some row[j] := List.getElem?_eq_getElem hj2
      obtain ⟨x2, hx2, t, y1, y2, y3, y4, rfl, ht, rfl, rfl, rfl, hy4⟩ := pget hbp hkj
      have hrj := rj_snoc row i j hkj
      generalize row[j] = bd at *
      refine ⟨_, rfl, .inl ⟨rfl, _, SqL.of A2.at⟩, ?_⟩
      refine ⟨_, rfl, _, rfl, _, _, _, _, rfl, rfl, SqL.of (s2 _ _ ha), at0 (i := i) (by omega) hx, _, rfl, _, _, _, _, rfl, rfl, SqL.of (s2 _ _ hb), at0 (i := j) (by omega) hx2, _, _, _, _, rfl, rfl, SqT.of (s2 _ _ ht), atI_nat (j := 0) rfl, ?_⟩
      refine ⟨_, rfl, _, _, rfl, rfl, _, rfl, lsz (by simp), fun q nq => ?_⟩
      have A3 := A2.new (o := .tup [.int bd.1, .int (0 + (i : Int) + 1), .int (0 + (j : Int))]) nq
      refine ⟨f, _, _, rfl, rfl, A3.at, lsz' (by rw [A3.len, List.length_append, rj_len]; omega), _, us ++ [.ref q], rfl, (s2.add nq).mut nf, ?_⟩
      rw [hrj, ← List.append_assoc]
      refine A3.push ⟨q, _, _, _, rfl, df_at upd_same ((s2.free nq)) (A2.ne nq), rfl, congrArg (fun z => V.int (z + 1)) (Int.zero_add _), congrArg V.int (Int.zero_add _)⟩
    · rintro σ H2 ⟨v, us, rfl, s2, A2⟩
      rw [show ((bv.length : Nat) : Int).toNat = row.length by omega, ← hrk] at A2
      exact ⟨_, _, _, rfl, s2, A2⟩
  · rintro σ H' ⟨u, v, us, rfl, s, A⟩
    rw [show ((vs.length : Nat) : Int).toNat = tss.length by omega] at A
    have hrl := rk_len (fun us hu => (ho us hu).1) tss.length
    have hB := rk_bd hl ho (Nat.le_refl _)
    have hT : ∀ x ∈ us, ∃ e ∈ rk tss tss.length, ∃ t, x = .ref t ∧ H' t = some (.tup [.int e.1, .int e.2.1, .int e.2.2]) := fun x hx => by
      obtain ⟨i, hi⟩ := List.mem_iff_getElem?.mp hx
      obtain ⟨e, he, t, y1, y2, y3, rfl, ht, rfl, rfl, rfl⟩ := pgetl A.2.2 hi
      exact ⟨e, List.mem_of_getElem? he, t, rfl, (del_sub _ _).trans (fresh_sub _ _) _ _ ht⟩
    refine ⟨_, rfl, f, us, rfl, SqL.of A.at, by rw [A.len]; omega, fun x hx => ?_, fun ys p hperm hpw np => ?_⟩
    · obtain ⟨e, he, t, rfl, ht⟩ := hT x hx
      exact ⟨[e.1, e.2.1, e.2.2], ⟨t, rfl, SqT.of ht⟩, rfl, (hB e he).1⟩
    obtain ⟨zs, hz, hq⟩ := pperm hperm A.2.2
    have hpair : zs.Pairwise fun a b => rcode a ≤ rcode b := by
      rw [List.pairwise_iff_getElem]
      intro i j hi hj hij
      obtain ⟨x, hx, t, y1, y2, y3, rfl, ht, h1, h2, h3⟩ := pget hq (List.getElem?_eq_getElem hi)
      obtain ⟨x', hx', t', y1', y2', y3', rfl, ht', h1', h2', h3'⟩ := pget hq (List.getElem?_eq_getElem hj)
      generalize zs[i] = e at *
      generalize zs[j] = e' at *
      obtain rfl : y1 = _ := h1
      obtain rfl : y2 = _ := h2
      obtain rfl : y3 = _ := h3
      obtain rfl : y1' = _ := h1'
      obtain rfl : y2' = _ := h2'
      obtain rfl : y3' = _ := h3'
      obtain ⟨b1, e1⟩ := List.getElem?_eq_some_iff.mp hx
      obtain ⟨b2, e2⟩ := List.getElem?_eq_some_iff.mp hx'
      have := List.pairwise_iff_getElem.mp hpw i j b1 b2 hij
      rw [e1, e2] at this
      exact this [e.1, e.2.1, e.2.2] [e'.1, e'.2.1, e'.2.2] ⟨t, rfl, SqT.of ((del_sub _ _).trans (fresh_sub _ _) _ _ ht)⟩ ⟨t', rfl, SqT.of ((del_sub _ _).trans (fresh_sub _ _) _ _ ht')⟩
    have hord := order_of hl ho hz hpair
    have hzl : zs.length ≤ 15 := by rw [hz.length_eq]; omega
    have hP : upd H' p (.lst ys) p = some (.lst ys) := upd_same
    have sP : Same H' (upd H' p (.lst ys)) := Same.new np
    have hq2 : Paired (c3i.R (upd H' p (.lst ys))) ys zs := pmap hq fun _ _ r => c3i.mono (((del_sub _ _).trans (fresh_sub _ _)).trans sP) r
    generalize upd H' p (.lst ys) = H1 at hP sP hq2
    refine ⟨p, rfl, ⟨_, SqL.of hP⟩, fun D hD => lc_list (K := K) (a := p) (xs := ys) (fun j H3 => ∃ ws, Same H1 H3 ∧ Acc cPair H1 H3 D ws ((zs.map (·.2)).take j))
      ⟨[], Same.new hD, Acc.nil hD upd_same⟩ (fun j H3 _ ⟨ws, h1, _⟩ => SqL.of (h1 _ _ hP)) ?_ ?_⟩
    · rintro j x H3 hj ⟨ws, s3, A3⟩
      obtain ⟨e, he, t, y1, y2, y3, rfl, ht, rfl, rfl, rfl⟩ := pgetl hq2 hj
      have hj15 := lt_of_at he
      have he2 : (zs.map (·.2))[j]? = some e.2 := by rw [List.getElem?_map, he]; rfl
      refine ⟨t, _, rfl, SqT.of (s3 _ _ ht), rfl, _, _, rfl, _, _, rfl, _, _, rfl, rfl, rfl, _, rfl, _, rfl, lsz (by simp), fun q nq => ?_⟩
      have A4 := A3.new (o := .tup [.int e.2.1, .int e.2.2]) nq
      refine ⟨ws, A4.at, lsz' (by rw [A4.len, List.length_take, List.length_map]; omega), ws ++ [.ref q], (s3.add nq).mut hD, ?_⟩
      rw [take_snoc he2]
      exact A4.push ⟨q, _, _, rfl, df_at upd_same (s3.free nq) (A3.ne nq), rfl, rfl⟩
    · rintro H3 ⟨ws, s3, A3⟩
      rw [List.take_of_length_le (by rw [List.length_map, hq2.length]; exact Nat.le_refl _)] at A3
      exact k _ _ _ ((s.trans sP).trans s3) ((cL cPair).mono (fresh_trans (s.trans sP)) A3.done) hord
end
end Sp
namespace Sp
open PySem PySem.Spec PyProof.Rows L2
def bodiesOf (before : List Int) : List Un' → List Bd
  | [] => []
  | u :: r => (u.1, u.2.1, (if u.2.2.2 = true then 0 else 1), unitB u before) :: bodiesOf u.2.2.1 r
def rowsOf (ts : List Tr) : List Row3 := ts.map fun t => (t.1, t.2.1, (t.2.2.length : Int))
def bodsOf (ts : List Tr) : List (List Bd) := ts.map fun t => bodiesOf [] t.2.2
def cWb : Cd (HeadT × List (List Bd)) := c2 cHead (cL (cL cBd))
theorem OkUs.mem : ∀ {us : List Un'} {l : Int}, OkUs l us → ∀ u ∈ us, l ≤ u.1 ∧ u.1 < 1000000 ∧ 1 ≤ u.2.1 ∧ u.2.1 < 1000 ∧ u.2.2.1.length ≤ 200 ∧ Bytes u.2.2.1
  | [], _, _, _, h => by cases h
  | v :: r, l, ⟨a, b, c, d, e, f, g⟩, u, h => by
    rcases List.mem_cons.mp h with rfl | h
    · exact ⟨a, b, c, d, e, f⟩
    · have := OkUs.mem g u h
      exact ⟨by omega, this.2⟩
section
variable {P : Program} {w : World} {K : PySem.W.Frag} {mg : Str → Option Value} {base : Heap}
def spWb : Sp := fun vs H Q _ => ∃ (v : V) (p : Pr), vs = [v] ∧ cPr.R H v p ∧ OkPr p ∧ ∀ H' u, Same H H' → cWb.R (fresh' H H') u ((p.1, p.2.1, rowsOf p.2.2.1), bodsOf p.2.2.1) → Q u H'
theorem ok_with_bodies (T : Txt K mg) : FnOk P w K mg base CX0 4 (ga K "with_bodies") (fdAt K (ga K "with_bodies")) ["presentation"] spWb := by
  refine okD T.F_with_bodies sc_with_bodies (fun vs H Q E h => ?_) (fun cdv A outer s H vs Q E hr h => ?_)
  · obtain ⟨_, _, rfl, _⟩ := h
    rfl
  obtain ⟨_, p, rfl, ⟨t0, x1, x2, x3, x4, rfl, h0, rfl, rfl, ⟨a, vs, rfl, ha, hp⟩, hx4⟩, ok, k⟩ := h
  have nd := sc_with_bodies.nd
  have hvl := hp.length
  have htl := ok.len
  refine ⟨_, ((pss_cons (ps_asg (pv 0) (pg_tup_ K rfl rfl (n := 4) (pgs_cons (pg_name (i := 1) nd rfl (Or.inl rfl)) (pgs_cons (pg_name (i := 2) nd rfl (Or.inl rfl)) (pgs_cons (pg_name (i := 3) nd rfl (Or.inl rfl)) (pgs_cons (pg_name (i := 4) nd rfl (Or.inl rfl)) pgs_nil))))))
      (pss_cons (ps_setLc (i := 5) (own := [("name", 6), ("kind", 7), ("units", 8)]) rfl nd rfl rfl (sw_true rfl rfl rfl (by decide +kernel)) (pi_list (pv 3)) (blkOk_by (N := N_with_bodies) (sc := defScope s_with_bodies) (by decide +kernel)) (fun _ _ _ _ _ => (pg_tup_ K rfl rfl (n := 3) (pgs_cons (pg_name (i := 6) nd rfl (Or.inl rfl)) (pgs_cons (pg_name (i := 7) nd rfl (Or.inl rfl)) (pgs_cons (pg_name (i := 8) nd rfl (Or.inl rfl)) pgs_nil))))) (fun _ _ _ _ _ => pts_nil) (fun _ _ _ _ _ => (pe_tup (pa_cons (pv 6) (pa_cons (pv 7) (pa_cons (pe_callB (lenS_ K rfl) rfl T.n_len boot_len (pa_cons (pv 8) pa_nil)) pa_nil))))))
      (pss_cons (ps_set (i := 9) nd rfl (Or.inl rfl) (pe_lst pa_nil))
      (pss_cons (ps_for PassesOwn.never rfl (pi_list (pv 3)) (pg_tup_ K rfl rfl (n := 3) (pgs_cons (pg_name (i := 4) nd rfl (Or.inl rfl)) (pgs_cons (pg_name (i := 4) nd rfl (Or.inl rfl)) (pgs_cons (pg_name (i := 8) nd rfl (Or.inl rfl)) pgs_nil)))) (pss_cons (ps_set (i := 10) nd rfl (Or.inl rfl) pe_non)
        (pss_cons (ps_set (i := 11) nd rfl (Or.inl rfl) (pe_lst pa_nil))
        (pss_cons (ps_for PassesOwn.never rfl (pi_list (pv 8)) (pg_name (i := 12) nd rfl (Or.inl rfl)) (pss_cons (ps_expr (pe_bm PySem.F.plainAttrs_list PySem.F.slot_list_append PySem.F.type_list_append mt_append (pv 11) (pa_cons (pe_tup (pa_cons (pe_ix (ixT_ K rfl) (pv 12) pe_int (fun _ _ => rfl)) (pa_cons (pe_ix (ixT_ K rfl) (pv 12) pe_int (fun _ _ => rfl)) (pa_cons (pe_callTy call_int1 rfl T.n_int boot_int (pa_cons (pe_not (pe_ix (ixT_ K rfl) (pv 12) pe_int (fun _ _ => rfl))) pa_nil)) (pa_cons (pe_call (ok_unit_body T) (hr.mono (by decide)) rfl T.g_unit_body T.k_unit_body T.b_unit_body .nil pass0 (pa_cons (pv 12) (pa_cons (pv 10) pa_nil))) pa_nil))))) pa_nil)))
          (pss_one (ps_set (i := 10) nd rfl (Or.inl rfl) (pe_ix (ixT_ K rfl) (pv 12) pe_int (fun _ _ => rfl))))))
        (pss_one (ps_expr (pe_bm PySem.F.plainAttrs_list PySem.F.slot_list_append PySem.F.type_list_append mt_append (pv 9) (pa_cons (pv 11) pa_nil))))))))
      (pss_one (ps_ret (pe_tup (pa_cons (pe_tup (pa_cons (pv 1) (pa_cons (pv 2) (pa_cons (pv 5) pa_nil)))) (pa_cons (pv 9) pa_nil)))))))))), ?_⟩
  refine ⟨_, rfl, t0, _, rfl, SqT.of h0, rfl, _, _, rfl, _, _, rfl, _, _, rfl, _, _, rfl, rfl, ?_⟩
  refine ⟨_, rfl, a, rfl, ⟨_, SqL.of ha⟩, fun D hD => lc_list (K := K) (a := a) (xs := vs) (fun j H3 => ∃ ws, Same H H3 ∧ Acc cRow3 H H3 D ws ((rowsOf p.2.2.1).take j))
      ⟨[], Same.new hD, Acc.nil hD upd_same⟩ (fun j H3 _ ⟨ws, h1, _⟩ => SqL.of (h1 _ _ ha)) ?_ ?_⟩
  · rintro j x H3 hj ⟨ws, s3, A3⟩
    obtain ⟨e, he, t, y1, y2, y3, rfl, ht, rfl, rfl, ⟨b, bv, rfl, hb, hbp⟩⟩ := pgetl hp hj
    have he2 : (rowsOf p.2.2.1)[j]? = some (e.1, e.2.1, (e.2.2.length : Int)) := by rw [rowsOf, List.getElem?_map, he]; rfl
    have := lt_of_at he
    refine ⟨t, _, rfl, SqT.of (s3 _ _ ht), rfl, _, _, rfl, _, _, rfl, _, _, rfl, rfl, rfl, _, rfl, _, rfl, ?_⟩
    refine ⟨_, rfl, _, _, rfl, .inl (SqL.of (s3 _ _ hb)), lsz (by simp), fun q nq => ?_⟩
    rw [hbp.length]
    have A4 := A3.new (o := .tup [.str e.1, .str e.2.1, .int (e.2.2.length : Int)]) nq
    refine ⟨ws, A4.at, lsz' (by rw [A4.len, List.length_take, rowsOf, List.length_map]; omega), ws ++ [.ref q], (s3.add nq).mut hD, ?_⟩
    rw [take_snoc he2]
    exact A4.push ⟨q, _, _, _, rfl, df_at upd_same (s3.free nq) (A3.ne nq), rfl, rfl, rfl⟩
  rintro H1 ⟨ws, s1, A1⟩
  rw [List.take_of_length_le (by rw [rowsOf, List.length_map, hvl]; exact Nat.le_refl _)] at A1
  have R1 := A1.done
  clear A1
  refine ⟨Nat.zero_le _, fun f nf => ?_⟩
  have nfH := s1.free nf
  refine ⟨_, rfl, a, rfl, ⟨_, SqL.of (upd_keep (s1 _ _ ha) nf)⟩, for_list (K := K) (a := a) (xs := vs) (fun i σ H' => ∃ (u0 u1 u2 u3 u4 : Option V) (us : List V), σ = [some (.ref t0), some (.int p.1), some (.int p.2.1), some (.ref a), u0, some (.ref D), none, none, u1, some (.ref f), u2, u3, u4] ∧ Same H H' ∧ Same H1 H' ∧ Acc (cL cBd) H1 H' f us ((bodsOf p.2.2.1).take i))
    ⟨_, _, _, _, _, [], rfl, s1.add nf, Same.new nf, Acc.nil nf upd_same⟩ (fun i σ H' _ ⟨_, _, _, _, _, _, _, s, _⟩ => SqL.of (s _ _ ha)) ?_ ?_⟩
  · rintro i x σ H' hi ⟨u0, u1, u2, u3, u4, us, rfl, s, s2, A⟩
    obtain ⟨e, he, t, y1, y2, y3, rfl, ht, rfl, rfl, ⟨b, bv, rfl, hb, hbp⟩⟩ := pgetl hp hi
    have oke := ok.tracks e (List.mem_of_getElem? he)
    have he2 : (bodsOf p.2.2.1)[i]? = some (bodiesOf [] e.2.2) := by rw [bodsOf, List.getElem?_map, he]; rfl
    have hbl := hbp.length
    have := lt_of_at he
    refine ⟨t, _, rfl, SqT.of (s _ _ ht), rfl, _, _, rfl, _, _, rfl, _, _, rfl, rfl, ?_⟩
    refine ⟨Nat.zero_le _, fun g ng => ?_⟩
    have A2 := A.new (o := .lst []) ng
    have ngH := s.free ng
    have s4 : Same H (upd H' g (.lst [])) := s.add ng
    have s5 : Same H' (upd H' g (.lst [])) := Same.new ng
    have hG : Acc cBd H' (upd H' g (.lst [])) g [] [] := Acc.nil ng upd_same
    refine ⟨_, rfl, b, rfl, ⟨_, SqL.of (s4 _ _ hb)⟩, for_list (K := K) (a := b) (xs := bv) (fun j σ H2 => ∃ (u4 : Option V) (z : V) (bf : List Int) (gs : List V) (acc : List Bd), σ = [some (.ref t0), some (.int p.1), some (.int p.2.1), some (.ref a), some (.str e.2.1), some (.ref D), none, none, some (.ref b), some (.ref f), some z, some (.ref g), u4] ∧ Same H' H2 ∧
        Acc cBd H' H2 g gs acc ∧ acc.length = j ∧ acc ++ bodiesOf bf (e.2.2.drop j) = bodiesOf [] e.2.2 ∧ bf.length ≤ 200 ∧ (0 < j → ∃ q, z = .ref q ∧ Li H2 q bf))
      ⟨_, .non, [], [], [], rfl, s5, hG, rfl, rfl, by simp, fun h => absurd h (by omega)⟩ (fun i σ H2 _ ⟨_, _, _, _, _, _, s6, _⟩ => SqL.of ((s.trans s6) _ _ hb)) ?_ ?_⟩
    · rintro j x σ H2 hj ⟨u4, z, bf, gs, acc, rfl, s6, G, hal, hbo, hbf, hz⟩
      obtain ⟨un, hun, t2, z1, z2, z3, z4, rfl, ht2, rfl, rfl, ⟨c, rfl, hc⟩, rfl⟩ := pgetl hbp hj
      have ou := oke.units.2.1.mem un (List.mem_of_getElem? hun)
      have hjl := lt_of_at hun
      have hul := oke.units.1
      have s7 := s.trans s6
      have hT2 := s7 _ _ ht2
      refine ⟨_, rfl, .inl ⟨rfl, _, SqL.of G.at⟩, ?_⟩
      refine ⟨_, rfl, _, _, _, _, rfl, rfl, SqT.of hT2, atI_nat (j := 0) rfl, _, rfl, _, _, _, _, rfl, rfl, SqT.of hT2, atI_nat (j := 1) rfl, ?_⟩
      refine ⟨_, rfl, _, _, _, _, rfl, rfl, SqT.of hT2, atI_nat (j := 3) rfl, _, rfl, .inr ⟨_, rfl, ?_⟩⟩
      have hzz : un.2.2.2 = true → ∃ q, z = .ref q ∧ Li H2 q bf := fun hh => by
        refine hz ?_
        rcases Nat.eq_zero_or_pos j with h0 | h0
        · subst h0
          have := oke.units.2.2 un hun
          rw [hh] at this
          cases this
        · exact h0
      refine ⟨_, rfl, _, rfl, _, z, un, bf, rfl, ⟨t2, _, _, _, _, rfl, hT2, rfl, rfl, ⟨c, rfl, hc.mono s7⟩, rfl⟩, hzz, by omega, by omega, fun q H3 s8 nq hq => ⟨lsz (by simp), fun r nr => ?_⟩⟩
      have G2 := G.mono s8
      have hb1 : (if (!un.2.2.2) = true then (1 : Int) else 0) = (if un.2.2.2 = true then 0 else 1) := by cases un.2.2.2 <;> rfl
      rw [hb1]
      have G3 := G2.new (o := .tup [.int un.1, .int un.2.1, .int (if un.2.2.2 = true then 0 else 1), .ref q]) nr
      have nqg : q ≠ g := G.ne nq
      have hT3 : upd (upd H3 r (.tup [.int un.1, .int un.2.1, .int (if un.2.2.2 = true then 0 else 1), .ref q])) g (.lst (gs ++ [.ref r])) t2 = some (.tup [.int un.1, .int un.2.1, .ref c, .bl un.2.2.2]) := (upd_ne (ne_of_none ht2 ngH)).trans (upd_keep (s8 _ _ hT2) nr)
      have hc3 : Li (upd (upd H3 r (.tup [.int un.1, .int un.2.1, .int (if un.2.2.2 = true then 0 else 1), .ref q])) g (.lst (gs ++ [.ref r]))) c un.2.2.1 := (upd_ne (ne_of_none hc ngH)).trans (upd_keep ((hc.mono s7).mono s8) nr)
      refine ⟨g, _, _, rfl, rfl, G3.at, lsz' (by rw [G3.len, hal]; omega), _, rfl, _, _, _, _, rfl, rfl, SqT.of hT3, atI_nat (j := 2) rfl, some (.ref t2), .ref c, un.2.2.1, gs ++ [.ref r], acc ++ [(un.1, un.2.1, (if un.2.2.2 = true then 0 else 1), unitB un bf)], rfl, ((s6.trans s8).add nr).mut ng, ?_, by rw [List.length_append, hal]; rfl, ?_, ou.2.2.2.2.1, fun _ => ⟨c, rfl, hc3⟩⟩
      · exact G3.push ⟨r, _, _, _, _, rfl, df_at upd_same ((s6.trans s8).free nr) (G2.ne nr), rfl, rfl, rfl, ⟨q, rfl, df_at (upd_keep hq nr) (s6.free nq) nqg⟩⟩
      · rw [List.drop_eq_getElem_cons hjl, (List.getElem?_eq_some_iff.mp hun).2] at hbo
        rw [← hbo, List.append_assoc]
        rfl
    · rintro σ H2 ⟨u4, z, bf, gs, acc, rfl, s6, G, hal, hbo, hbf, hz⟩
      rw [List.drop_of_length_le (by rw [hbp.length]; exact Nat.le_refl _)] at hbo
      have hae : acc = bodiesOf [] e.2.2 := (List.append_nil acc).symm.trans hbo
      subst hae
      have A4 := (A.mono s6)
      refine ⟨_, rfl, .inl ⟨rfl, _, SqL.of A4.at⟩, _, rfl, f, _, _, rfl, rfl, A4.at, lsz' (by rw [A4.len, List.length_take, bodsOf, List.length_map]; omega), _, _, _, _, _, us ++ [.ref g], rfl, (s.trans s6).mut nfH, (s2.trans s6).mut nf, ?_⟩
      rw [take_snoc he2]
      exact A4.push ((cL cBd).mono (df_call s2 A.at) G.done)
  · rintro σ H' ⟨u0, u1, u2, u3, u4, us, rfl, s, s2, A⟩
    rw [List.take_of_length_le (by rw [bodsOf, List.length_map, hvl]; exact Nat.le_refl _)] at A
    refine ⟨_, rfl, _, rfl, _, rfl, lsz (by simp), fun q nq => ⟨_, rfl, lsz (by simp), fun r nr => ?_⟩⟩
    have s7 := (s.add (o := .tup [.int p.1, .int p.2.1, .ref D]) nq).add (o := .tup [.ref q, .ref f]) nr
    have s8 : Same H1 _ := (s2.add (o := .tup [.int p.1, .int p.2.1, .ref D]) nq).add (o := .tup [.ref q, .ref f]) nr
    refine k _ _ s7 ⟨r, _, _, rfl, fresh_of upd_same ((s.add nq).free nr), ⟨q, _, _, _, rfl, fresh_of (upd_keep upd_same nr) (s.free nq), rfl, rfl, (cL cRow3).mono (fresh_mono s8) R1⟩, (cL (cL cBd)).mono (fresh_trans s1) ((A.new nq).new nr).done⟩
end
end Sp
namespace Sp
open PySem PySem.Spec PyProof.Rows L2
def getBd (tss : List (List Bd)) (e : Int × Int) : Bd := ((tss[(e.1 - 1).toNat]?.getD [])[e.2.toNat]?).getD (0, 0, 0, [])
def uLeaf (stamp : Int) (n : Nat) (e : Int × Int) (b : Bd) : Leaf := ⟨2, stamp, n, e.1, e.2, b.1, b.2.1, b.2.2.1, b.2.2.2⟩
def pLeaf (stamp kind : Int) (n : Nat) (body : List Int) : Leaf := ⟨kind, stamp, n, 0, 0, 0, 0, 0, body⟩
def preL (stamp : Int) (p : Pr) : List Leaf := pLeaf stamp 0 0 (headB p.1 p.2.1 (rowsOf p.2.2.1)) :: (if 0 < p.2.2.2.length then [pLeaf stamp 1 1 (tagsBody p.2.2.2)] else [])
def usL (stamp : Int) (tss : List (List Bd)) : Nat → List (Int × Int) → List Leaf
  | _, [] => []
  | n, e :: r => uLeaf stamp n e (getBd tss e) :: usL stamp tss (n + 1) r
def fnd (stamp : Int) (tss : List (List Bd)) (inE : Int × Int → Bool) : List Leaf → List (Int × Int) → List R3
  | _, [] => []
  | L, e :: r => (if inE e = true then [(e.1, (getBd tss e).1, ((encF L).length : Int))] else []) ++ fnd stamp tss inE (L ++ [uLeaf stamp L.length e (getBd tss e)]) r
theorem usL_snoc (stamp : Int) (tss : List (List Bd)) (e : Int × Int) : ∀ (r : List (Int × Int)) (n : Nat), usL stamp tss n (r ++ [e]) = usL stamp tss n r ++ [uLeaf stamp (n + r.length) e (getBd tss e)]
  | [], n => rfl
  | x :: r, n => by
    rw [List.cons_append, usL, usL_snoc stamp tss e r, usL, List.length_cons, List.cons_append]
    rw [show n + 1 + r.length = n + (r.length + 1) by omega]
theorem usL_len (stamp : Int) (tss : List (List Bd)) : ∀ (r : List (Int × Int)) (n : Nat), (usL stamp tss n r).length = r.length
  | [], _ => rfl
  | x :: r, n => by rw [usL, List.length_cons, usL_len stamp tss r, List.length_cons]
theorem fnd_snoc (stamp : Int) (tss : List (List Bd)) (inE : Int × Int → Bool) (e : Int × Int) : ∀ (r : List (Int × Int)) (L : List Leaf), fnd stamp tss inE L (r ++ [e]) = fnd stamp tss inE L r ++
    (if inE e = true then [(e.1, (getBd tss e).1, ((encF (L ++ usL stamp tss L.length r)).length : Int))] else [])
  | [], L => by simp [fnd, usL]
  | x :: r, L => by
    rw [List.cons_append, fnd, fnd_snoc stamp tss inE e r, fnd, usL, List.append_assoc, List.length_append, List.length_singleton, List.append_assoc]
    rfl
theorem fnd_len (stamp : Int) (tss : List (List Bd)) (inE : Int × Int → Bool) : ∀ (r : List (Int × Int)) (L : List Leaf), (fnd stamp tss inE L r).length ≤ r.length
  | [], _ => Nat.le_refl _
  | x :: r, L => by
    have := fnd_len stamp tss inE r (L ++ [uLeaf stamp L.length x (getBd tss x)])
    rw [fnd, List.length_append, List.length_cons]
    split <;> simp <;> omega
def mainL (stamp : Int) (p : Pr) (od : List (Int × Int)) : List Leaf := preL stamp p ++ usL stamp (bodsOf p.2.2.1) (preL stamp p).length od
def fndL (stamp : Int) (p : Pr) (inE : Int × Int → Bool) (od : List (Int × Int)) : List R3 := fnd stamp (bodsOf p.2.2.1) inE (preL stamp p) od
def idxL (stamp : Int) (p : Pr) (inE : Int × Int → Bool) (od : List (Int × Int)) : List Leaf := mainL stamp p od ++ [pLeaf stamp 3 (mainL stamp p od).length (idxB (fndL stamp p inE od))]
def fileL (stamp : Int) (p : Pr) (inE : Int × Int → Bool) (od : List (Int × Int)) : List Leaf := idxL stamp p inE od ++ [pLeaf stamp 4 (idxL stamp p inE od).length (endB ((idxL stamp p inE od).length + 1) (crc (encF (idxL stamp p inE od))).toNat)]
def keysOf (ts : List Tr) : List (List Bool) := (bodsOf ts).map fun r => r.map fun b => decide (b.2.2.1 = 1)
abbrev lensOf (ts : List Tr) : List Nat := (bodsOf ts).map (·.length)
structure FileOf (stamp : Int) (p : Pr) (ls : List Leaf) : Prop where
  is : ∃ od inE, Order (lensOf p.2.2.1) od ∧ (∀ e, inE e = true → GoodE (keysOf p.2.2.1) e) ∧ ls = fileL stamp p inE od
structure BdOk (b : Bd) : Prop where
  time : 0 ≤ b.1 ∧ b.1 < 1000000
  span : 1 ≤ b.2.1 ∧ b.2.1 < 1000
  key : b.2.2.1 = 0 ∨ b.2.2.1 = 1
  len : b.2.2.2.length ≤ 212
  bytes : Bytes b.2.2.2
theorem bytes_txt {s : Str} (h : ∀ c ∈ chs s, c ≤ 255) : Bytes (txt s) := fun x hx => by
  obtain ⟨c, hc, rfl⟩ := List.mem_map.mp hx
  have := h c hc
  omega
theorem bytes_tb {s : Str} (h : ∀ c ∈ chs s, c ≤ 255) : Bytes (tb s) := bytes_app (putS_bytes _) (bytes_txt h)
theorem bytes_flat {α : Type} {f : α → List Int} {l : List α} (h : ∀ x ∈ l, Bytes (f x)) : Bytes (l.flatMap f) := fun x hx => by
  obtain ⟨a, ha, hxa⟩ := List.mem_flatMap.mp hx
  exact h a ha x hxa
theorem OkText.le {s : Str} {n : Nat} (h : OkText s n) : ∀ c ∈ chs s, c ≤ 255 := fun c hc => by have := h.2 c hc; omega
theorem OkWord.le {s : Str} (h : OkWord s) : ∀ c ∈ chs s, c ≤ 255 := fun c hc => by have := h.2.2 c hc; omega
theorem unitB_len {u : Un'} {b : List Int} (hu : u.2.2.1.length ≤ 200) (hb : b.length ≤ 200) : (unitB u b).length ≤ 212 := by
  unfold unitB
  have := ch_le b u.2.2.1
  have p1 := putS_len6 (n := chF b u.2.2.1) (by omega)
  have p2 := putS_len6 (n := chB b u.2.2.1) (by omega)
  split
  · simp only [List.length_append, chM, List.length_take, List.length_drop]
    omega
  · omega
theorem unitB_bytes {u : Un'} {b : List Int} (hu : Bytes u.2.2.1) : Bytes (unitB u b) := by
  unfold unitB
  split
  · exact bytes_app (bytes_app (putS_bytes _) (putS_bytes _)) fun x hx => hu x (List.mem_of_mem_drop (List.mem_of_mem_take hx))
  · exact hu
theorem bodiesOf_ok : ∀ {us : List Un'} {l : Int} {b : List Int}, 0 ≤ l → OkUs l us → b.length ≤ 200 → ∀ x ∈ bodiesOf b us, BdOk x ∧ l ≤ x.1
  | [], _, _, _, _, _, _, h => by cases h
  | u :: r, l, b, hl, ⟨a1, a2, a3, a4, a5, a6, a7⟩, hb, x, h => by
    rcases List.mem_cons.mp h with rfl | h
    · refine ⟨⟨⟨by show 0 ≤ u.1; omega, a2⟩, ⟨a3, a4⟩, ?_, unitB_len a5 hb, unitB_bytes a6⟩, a1⟩
      show (if u.2.2.2 = true then (0 : Int) else 1) = 0 ∨ (if u.2.2.2 = true then (0 : Int) else 1) = 1
      split
      · exact .inl rfl
      · exact .inr rfl
    · have := bodiesOf_ok (by omega) a7 a5 x h
      exact ⟨this.1, by omega⟩
theorem bodiesOf_len : ∀ (us : List Un') (b : List Int), (bodiesOf b us).length = us.length
  | [], _ => rfl
  | u :: r, b => by rw [bodiesOf, List.length_cons, bodiesOf_len r, List.length_cons]
theorem bodiesOf_rise : ∀ {us : List Un'} {l : Int} {b : List Int}, 0 ≤ l → OkUs l us → b.length ≤ 200 → (bodiesOf b us).Pairwise fun a b => a.1 < b.1
  | [], _, _, _, _, _ => .nil
  | u :: r, l, b, hl, ⟨a1, a2, a3, a4, a5, a6, a7⟩, hb => by
    refine List.pairwise_cons.mpr ⟨fun x hx => ?_, bodiesOf_rise (by omega) a7 a5⟩
    have := (bodiesOf_ok (by omega) a7 a5 x hx).2
    show u.1 < x.1
    omega
theorem bods_ok {p : Pr} (ok : OkPr p) : ∀ us ∈ bodsOf p.2.2.1, OkBds us ∧ ∀ x ∈ us, BdOk x := fun us hus => by
  obtain ⟨t, ht, rfl⟩ := List.mem_map.mp hus
  have o := (ok.tracks t ht).units
  have all : ∀ x ∈ bodiesOf [] t.2.2, BdOk x := fun x hx => (bodiesOf_ok (Int.le_refl 0) o.2.1 (by simp) x hx).1
  exact ⟨⟨by rw [bodiesOf_len]; exact o.1, bodiesOf_rise (Int.le_refl 0) o.2.1 (by simp), fun b hb => (all b hb).time⟩, all⟩
theorem bods_len {p : Pr} : (bodsOf p.2.2.1).length = p.2.2.1.length := by rw [bodsOf, List.length_map]
/-- a unit of the order lies in the tracks -/
theorem Order.get {tss : List (List Bd)} {od : List (Int × Int)} (O : Order (tss.map (·.length)) od) {e : Int × Int} (h : e ∈ od) :
    ∃ (k j : Nat) (us : List Bd) (b : Bd), e = ((k : Int) + 1, (j : Int)) ∧ tss[k]? = some us ∧ us[j]? = some b ∧ getBd tss e = b := by
  obtain ⟨k, hk, he⟩ := O.ins e h
  rw [List.length_map] at hk
  have hus : tss[k]? = some tss[k] := List.getElem?_eq_getElem hk
  have hm : e.2 ∈ (od.filter fun e => decide (e.1 = (k : Int) + 1)).map (·.2) := List.mem_map.mpr ⟨e, List.mem_filter.mpr ⟨h, by simp [he]⟩, rfl⟩
  rw [O.each k, List.getElem?_map, hus] at hm
  obtain ⟨j, hj, hj2⟩ := List.mem_map.mp hm
  rw [List.mem_range] at hj
  have hj3 : j < tss[k].length := hj
  refine ⟨k, j, tss[k], tss[k][j], Prod.ext he hj2.symm, hus, List.getElem?_eq_getElem hj3, ?_⟩
  unfold getBd
  rw [he, ← hj2, show ((k : Int) + 1 - 1).toNat = k by omega, hus]
  show (tss[k][((j : Nat) : Int).toNat]?).getD _ = _
  rw [show ((j : Nat) : Int).toNat = j by omega, List.getElem?_eq_getElem hj3]
  rfl
theorem uLeaf_wf {p : Pr} (ok : OkPr p) {od : List (Int × Int)} (O : Order (lensOf p.2.2.1) od) {e : Int × Int} (h : e ∈ od) {stamp : Int} (hs : 0 ≤ stamp ∧ stamp ≤ 4294967295) {n : Nat} (hn : n ≤ 100) : (uLeaf stamp n e (getBd (bodsOf p.2.2.1) e)).Wf := by
  obtain ⟨k, j, us, b, rfl, h1, h2, h3⟩ := O.get h
  rw [h3]
  have o := bods_ok ok us (List.mem_of_getElem? h1)
  have B := o.2 b (List.mem_of_getElem? h2)
  have hk := lt_of_at h1
  have hj := lt_of_at h2
  have := ok.len
  have := o.1.1
  rw [bods_len] at hk
  obtain ⟨⟨t1, t2⟩, ⟨s1, s2⟩, ky, bl, bb⟩ := B
  exact ⟨⟨by show (0 : Int) ≤ 2; decide, by show (2 : Int) ≤ 4; decide⟩, hs, by show 0 ≤ (n : Int) ∧ (n : Int) ≤ _; omega, by show 0 ≤ (k : Int) + 1 ∧ (k : Int) + 1 ≤ 15; omega, by show 0 ≤ (j : Int) ∧ (j : Int) ≤ _; omega, by show 0 ≤ b.1 ∧ b.1 ≤ _; omega, by show 0 ≤ b.2.1 ∧ b.2.1 ≤ _; omega, by show 0 ≤ b.2.2.1 ∧ b.2.2.1 ≤ 1; omega, by show b.2.2.2.length ≤ _; omega, bb⟩
theorem pLeaf_wf {stamp kind : Int} (hs : 0 ≤ stamp ∧ stamp ≤ 4294967295) (hk : 0 ≤ kind ∧ kind ≤ 4) {n : Nat} (hn : n ≤ 100) {body : List Int} (hl : body.length ≤ 1024) (hb : Bytes body) : (pLeaf stamp kind n body).Wf := by
  have z : ∀ m : Int, 0 ≤ m → (0 : Int) ≤ 0 ∧ (0 : Int) ≤ m := fun m h => ⟨Int.le_refl _, h⟩
  exact ⟨hk, hs, by show 0 ≤ (n : Int) ∧ (n : Int) ≤ _; omega, z _ (by decide), z _ (by decide), z _ (by decide), z _ (by decide), z _ (by decide), hl, hb⟩
theorem eqv_pair {a b c d : Int} (h : PyData.eqv (.tuple [.int a, .int b]) (.tuple [.int c, .int d]) = true) : a = c ∧ b = d := by
  simpa [PyData.eqv, PyData.eqvAll] using h
/-- e is in entries, as the program finds it -/
def inIdx (idx : List (Int × Int)) (e : Int × Int) : Bool := (idx.map cPair.d).any fun z => PyData.eqv z (cPair.d e)
theorem inIdx_mem {idx : List (Int × Int)} {e : Int × Int} (h : inIdx idx e = true) : e ∈ idx := by
  obtain ⟨z, hz, he⟩ := List.any_eq_true.mp h
  obtain ⟨y, hy, rfl⟩ := List.mem_map.mp hz
  obtain ⟨a, b⟩ := eqv_pair he
  rwa [show e = y from Prod.ext a.symm b.symm]
theorem rows_ok {p : Pr} (ok : OkPr p) : (rowsOf p.2.2.1).length ≤ 3 ∧ ∀ r ∈ rowsOf p.2.2.1, OkRow r ∧ (∀ c ∈ chs r.1, c ≤ 255) ∧ (∀ c ∈ chs r.2.1, c ≤ 255) := by
  refine ⟨by rw [rowsOf, List.length_map]; exact ok.len, fun r hr => ?_⟩
  obtain ⟨t, ht, rfl⟩ := List.mem_map.mp hr
  have o := ok.tracks t ht
  have o1 := o.name.1
  have o2 := o.kind.2.1
  have o3 := o.units.1
  exact ⟨⟨by show t.1.length ≤ 100; omega, by show t.2.1.length ≤ 100; omega, by show 0 ≤ ((t.2.2.length : Nat) : Int); omega, by show ((t.2.2.length : Nat) : Int) ≤ 1000; omega⟩, o.name.le, o.kind.le⟩
theorem headB_ok {p : Pr} (ok : OkPr p) : (headB p.1 p.2.1 (rowsOf p.2.2.1)).length ≤ 1024 ∧ Bytes (headB p.1 p.2.1 (rowsOf p.2.2.1)) := by
  obtain ⟨h1, h2⟩ := rows_ok ok
  have a := ok.ticks
  have b := ok.skip
  have p1 := putS_len6 (n := p.1.toNat) (by omega)
  have p2 := putS_len6 (n := p.2.1.toNat) (by omega)
  have p3 := putS_len6 (n := (rowsOf p.2.2.1).length) (by omega)
  have f := flat_le (l := rowsOf p.2.2.1) (f := rb) (n := 218) fun r hr => rb_le (h2 r hr).1
  have t1 : (txt "spool").length = 5 := by decide
  have t2 : (putS 1).length = 1 := by rw [putS_small (by decide)]; rfl
  constructor
  · simp only [headB, List.length_append, t1, t2]
    omega
  · refine bytes_app (bytes_app (bytes_app (bytes_app (bytes_app (bytes_txt (by decide)) (putS_bytes _)) (putS_bytes _)) (putS_bytes _)) (putS_bytes _)) (bytes_flat fun r hr => ?_)
    obtain ⟨_, o2, o3⟩ := h2 r hr
    exact bytes_app (bytes_app (bytes_tb o2) (bytes_tb o3)) (putS_bytes _)
theorem tagsB_ok {p : Pr} (ok : OkPr p) : (tagsBody p.2.2.2).length ≤ 1024 ∧ Bytes (tagsBody p.2.2.2) := by
  have o := ok.tags
  have l := o.len
  have p3 := putS_len6 (n := p.2.2.2.length) (by omega)
  have f := flat_le (l := p.2.2.2) (f := fun t => tb t.1 ++ tb t.2) (n := 128) fun r hr => by
    have := tb_le (o.key r hr).2.1 (by decide)
    have := tb_le (o.val r hr).1 (by decide)
    rw [List.length_append]
    omega
  constructor
  · simp only [tagsBody, List.length_append]
    omega
  · exact bytes_app (putS_bytes _) (bytes_flat fun r hr => bytes_app (bytes_tb (o.key r hr).le) (bytes_tb (o.val r hr).le))
theorem preL_len (stamp : Int) (p : Pr) : 1 ≤ (preL stamp p).length ∧ (preL stamp p).length ≤ 2 := by
  unfold preL
  split <;> simp
theorem preL_wf {p : Pr} (ok : OkPr p) {stamp : Int} (hs : 0 ≤ stamp ∧ stamp ≤ 4294967295) : ∀ l ∈ preL stamp p, l.Wf := fun l hl => by
  unfold preL at hl
  rcases List.mem_cons.mp hl with rfl | hl
  · exact pLeaf_wf hs (by decide) (by decide) (headB_ok ok).1 (headB_ok ok).2
  · split at hl
    · rw [List.mem_singleton] at hl
      subst hl
      exact pLeaf_wf hs (by decide) (by decide) (tagsB_ok ok).1 (tagsB_ok ok).2
    · cases hl
theorem usL_wf {p : Pr} (ok : OkPr p) {od : List (Int × Int)} (O : Order (lensOf p.2.2.1) od) {stamp : Int} (hs : 0 ≤ stamp ∧ stamp ≤ 4294967295) : ∀ {r : List (Int × Int)} {n : Nat}, (∀ e ∈ r, e ∈ od) → n + r.length ≤ 100 → ∀ l ∈ usL stamp (bodsOf p.2.2.1) n r, l.Wf
  | [], _, _, _, _, h => by cases h
  | e :: r, n, hr, hn, l, h => by
    rw [List.length_cons] at hn
    rcases List.mem_cons.mp h with rfl | h
    · exact uLeaf_wf ok O (hr e (by simp)) hs (by omega)
    · exact usL_wf ok O hs (fun x hx => hr x (by simp [hx])) (by omega) l h
theorem mainL_len {stamp : Int} {p : Pr} {od : List (Int × Int)} : (mainL stamp p od).length = (preL stamp p).length + od.length := by rw [mainL, List.length_append, usL_len]
theorem mainL_wf {p : Pr} (ok : OkPr p) {od : List (Int × Int)} (O : Order (lensOf p.2.2.1) od) {stamp : Int} (hs : 0 ≤ stamp ∧ stamp ≤ 4294967295) {r : List (Int × Int)} (hr : ∀ e ∈ r, e ∈ od) (hl : r.length ≤ 15) : ∀ l ∈ mainL stamp p r, l.Wf := fun l h => by
  have := preL_len stamp p
  rcases List.mem_append.mp h with h | h
  · exact preL_wf ok hs l h
  · exact usL_wf ok O hs hr (by omega) l h
theorem mainL_snoc (stamp : Int) (p : Pr) (r : List (Int × Int)) (e : Int × Int) : mainL stamp p (r ++ [e]) = mainL stamp p r ++ [uLeaf stamp (mainL stamp p r).length e (getBd (bodsOf p.2.2.1) e)] := by
  rw [mainL_len, mainL, usL_snoc, ← List.append_assoc]
  rfl
theorem fndL_snoc (stamp : Int) (p : Pr) (inE : Int × Int → Bool) (r : List (Int × Int)) (e : Int × Int) : fndL stamp p inE (r ++ [e]) = fndL stamp p inE r ++ (if inE e = true then [(e.1, (getBd (bodsOf p.2.2.1) e).1, ((encF (mainL stamp p r)).length : Int))] else []) := by
  rw [fndL, fnd_snoc]
  rfl
theorem fndL_ok {p : Pr} (ok : OkPr p) {od : List (Int × Int)} (O : Order (lensOf p.2.2.1) od) {stamp : Int} (hs : 0 ≤ stamp ∧ stamp ≤ 4294967295) (inE : Int × Int → Bool) : ∀ (n : Nat), ∀ x ∈ fndL stamp p inE (od.take n), OkEnt x
  | 0, x, h => by cases h
  | n + 1, x, h => by
    cases he : od[n]? with
    | none =>
      have hl := List.getElem?_eq_none_iff.mp he
      rw [List.take_of_length_le (by omega), ← List.take_of_length_le hl] at h
      exact fndL_ok ok O hs inE n x h
    | some e =>
      rw [take_snoc he, fndL_snoc] at h
      rcases List.mem_append.mp h with h | h
      · exact fndL_ok ok O hs inE n x h
      · split at h
        · rw [List.mem_singleton] at h
          subst h
          have hm := List.mem_of_getElem? he
          obtain ⟨k, j, us, b, rfl, h1, h2, h3⟩ := O.get hm
          have B := (bods_ok ok us (List.mem_of_getElem? h1)).2 b (List.mem_of_getElem? h2)
          have hk := lt_of_at h1
          rw [bods_len] at hk
          have hl3 := ok.len
          have hw := mainL_wf ok O hs (r := od.take n) (fun e he => List.mem_of_mem_take he) (by rw [List.length_take]; have := O.len; omega)
          have hle := encF_len hw
          rw [mainL_len, List.length_take] at hle
          have := preL_len stamp p
          have := O.len
          have hB := B.time
          rw [h3]
          exact ⟨by show 0 ≤ (k : Int) + 1 ∧ (k : Int) + 1 ≤ 15; omega, by show 0 ≤ b.1 ∧ b.1 ≤ _; omega, by show 0 ≤ (((encF (mainL stamp p (od.take n))).length : Nat) : Int) ∧ (((encF (mainL stamp p (od.take n))).length : Nat) : Int) ≤ 1000000; omega⟩
        · cases h
theorem fndL_len {stamp : Int} {p : Pr} {inE : Int × Int → Bool} {od : List (Int × Int)} : (fndL stamp p inE od).length ≤ od.length := fnd_len ..
theorem idxB_ok {es : List R3} (h : ∀ e ∈ es, OkEnt e) (hl : es.length ≤ 15) : (idxB es).length ≤ 1024 ∧ Bytes (idxB es) := by
  have p3 := putS_len6 (n := es.length) (by omega)
  have f := flat_le (l := es) (f := ib) (n := 18) fun r hr => ib_le (h r hr)
  constructor
  · simp only [idxB, List.length_append]
    omega
  · exact bytes_app (putS_bytes _) (bytes_flat fun r hr => bytes_app (bytes_app (putS_bytes _) (putS_bytes _)) (putS_bytes _))
theorem endB_ok {n m : Nat} (h : n ≤ 1000) : (endB n m).length ≤ 1024 ∧ Bytes (endB n m) := by
  have p3 := putS_len6 (n := n) (by omega)
  exact ⟨by simp only [endB, List.length_append, four_len]; omega, bytes_app (putS_bytes _) (four_bytes' _)⟩
theorem idxL_wf {p : Pr} (ok : OkPr p) {od : List (Int × Int)} (O : Order (lensOf p.2.2.1) od) {stamp : Int} (hs : 0 ≤ stamp ∧ stamp ≤ 4294967295) (inE : Int × Int → Bool) : ∀ l ∈ idxL stamp p inE od, l.Wf := fun l h => by
  have hol := O.len
  rcases List.mem_append.mp h with h | h
  · exact mainL_wf ok O hs (fun e he => he) hol l h
  · rw [List.mem_singleton] at h
    subst h
    have := preL_len stamp p
    have f := fndL_ok ok O hs inE od.length
    rw [List.take_length] at f
    have i := idxB_ok f (by have := fndL_len (stamp := stamp) (p := p) (inE := inE) (od := od); omega)
    exact pLeaf_wf hs (by decide) (by rw [mainL_len]; omega) i.1 i.2
theorem idxL_len {stamp : Int} {p : Pr} {inE : Int × Int → Bool} {od : List (Int × Int)} : (idxL stamp p inE od).length = (preL stamp p).length + od.length + 1 := by rw [idxL, List.length_append, mainL_len]; rfl
theorem fileL_wf {p : Pr} (ok : OkPr p) {od : List (Int × Int)} (O : Order (lensOf p.2.2.1) od) {stamp : Int} (hs : 0 ≤ stamp ∧ stamp ≤ 4294967295) (inE : Int × Int → Bool) : ∀ l ∈ fileL stamp p inE od, l.Wf := fun l h => by
  have hol := O.len
  rcases List.mem_append.mp h with h | h
  · exact idxL_wf ok O hs inE l h
  · rw [List.mem_singleton] at h
    subst h
    have := preL_len stamp p
    have e := endB_ok (n := (idxL stamp p inE od).length + 1) (m := (crc (encF (idxL stamp p inE od))).toNat) (by rw [idxL_len]; omega)
    exact pLeaf_wf hs (by decide) (by rw [idxL_len]; omega) e.1 e.2
end Sp
namespace Sp
open PySem PySem.Spec PyProof.Rows L2
/-- a middle fact between two parts -/
theorem seq_mid {t u : TS} {D : Ends} {σ : L2.St} {H : Hp} (I : L2.St → Hp → Prop) (h1 : ∀ nx, (∀ σ' H', I σ' H' → nx σ' H') → t { D with nx := nx } σ H) (h2 : ∀ σ' H', I σ' H' → u D σ' H') : tSeq t u D σ H := h1 _ h2
theorem But2.frz {G H H' : Hp} {x y : Addr} (s : Same G H) (b : But2 H H' x y) (hx : G x = none) (hy : G y = none) : Same G H' := fun a o h => b a o (s _ _ h) (ne_of_none h hx) (ne_of_none h hy)
theorem inD_pairs {K : PySem.W.Frag} {H : Hp} {v u : V} {idx : List (Int × Int)} {e : Int × Int} {Q : VK} (hv : cPair.R H v e) (hu : (cL cPair).R H u idx) (q : Q (.bl (inIdx idx e)) H) : rInD K v u H Q := by
  refine ⟨_, _, cPair.dp hv, (cL cPair).dp hu, ?_, ?_, q⟩
  · unfold SeqAt.shaped
    rw [cPair.lay ⟨trivial, trivial⟩, decide_eq_true (Nat.le_trans (cPair.dep e) (by decide))]
    rfl
  · have l := (cL cPair).lay (x := idx) fun _ _ => ⟨trivial, trivial⟩
    have d := (cL cPair).dep idx
    unfold SeqAt.shaped
    rw [show PyData.canLay0 (.list (idx.map cPair.d)) = true from l, decide_eq_true (show (PyData.list (idx.map cPair.d)).depth ≤ 64 from Nat.le_trans d (show 2 ≤ 64 by decide))]
    rfl
theorem LWr.nl {C : Addr} {H : Hp} {p dx lv dt x : Addr} {stamp : Int} {ls : List Leaf} (W : LWr C H p dx lv dt stamp ls) (h : H x = none) : x ≠ lv := by
  obtain ⟨us, a, _⟩ := W.hl
  exact (ne_of_none a h).symm
theorem LWr.nd {C : Addr} {H : Hp} {p dx lv dt x : Addr} {stamp : Int} {ls : List Leaf} (W : LWr C H p dx lv dt stamp ls) (h : H x = none) : x ≠ dt := (ne_of_none W.hd h).symm
theorem LWr.upd {C : Addr} {H : Hp} {p dx lv dt x : Addr} {o : HO} {stamp : Int} {ls : List Leaf} (W : LWr C H p dx lv dt stamp ls) (h1 : x ≠ p) (h2 : x ≠ lv) (h3 : x ≠ dt) : LWr C (upd H x o) p dx lv dt stamp ls := by
  obtain ⟨a, ⟨us, b, c⟩, d, e⟩ := W
  exact ⟨(upd_ne h1.symm).trans a, ⟨us, (upd_ne h2.symm).trans b, c⟩, (upd_ne h3.symm).trans d, e⟩
theorem Same.both {G H : Hp} (s : Same G H) (r : Addr) (o : HO) : Same (upd G r o) (upd H r o) := fun a u h => by
  by_cases e : a = r
  · subst e
    rw [upd_same] at h ⊢
    exact h
  · rw [upd_ne e] at h ⊢
    exact s _ _ h
theorem encF_bytes {ls : List Leaf} (h : ∀ l ∈ ls, l.Wf) : Bytes (encF ls) := fun x hx => by
  simp only [encF, segs, List.mem_cons, List.mem_flatMap, List.mem_map] at hx
  rcases hx with rfl | ⟨s, ⟨l, hl, rfl⟩, hx⟩
  · exact ⟨Int.le_refl 0, by decide⟩
  · rcases List.mem_append.mp hx with hx | hx
    · have := piece_in (h l hl) x hx
      omega
    · rw [List.mem_singleton] at hx
      subst hx
      exact ⟨Int.le_refl 0, by decide⟩
section
variable {P : Program} {w : World} {K : PySem.W.Frag} {mg : Str → Option Value} {base : Heap}
def spWritten (K : PySem.W.Frag) : Sp := fun vs H Q _ => ∃ (hv tv kv ov ev : V) (stamp : Int) (p : Pr) (od idx : List (Int × Int)), vs = [hv, tv, kv, .int stamp, ov, ev] ∧ cHead.R H hv (p.1, p.2.1, rowsOf p.2.2.1) ∧ cTags.R H tv p.2.2.2 ∧ (cL (cL cBd)).R H kv (bodsOf p.2.2.1) ∧
  (cL cPair).R H ov od ∧ (cL cPair).R H ev idx ∧ OkPr p ∧ (0 ≤ stamp ∧ stamp ≤ 4294967295) ∧ Order (lensOf p.2.2.1) od ∧
  ∀ H' q dx lv dt, Same H H' → H dt = none → LWr (ga K "LeafWriter") H' q dx lv dt stamp (fileL stamp p (inIdx idx) od) → Q (.ref q) H'
theorem ok_written (T : Txt K mg) : FnOk P w K mg base CX0 6 (ga K "written") (fdAt K (ga K "written")) ["head", "tags", "tracks", "stamp", "order", "entries"] (spWritten K) := by
  refine okD T.F_written sc_written (fun vs H Q E h => ?_) (fun cdv A outer s H vs Q E hr h => ?_)
  · obtain ⟨_, _, _, _, _, _, _, _, _, rfl, _⟩ := h
    rfl
  obtain ⟨_, _, _, _, ev, stamp, p, od, idx, rfl, ⟨t0, x1, x2, x3, rfl, h0, rfl, rfl, ⟨ra, rvs, rfl, hra, hrp⟩⟩, ⟨ta, tvs, rfl, hta, htp⟩, ⟨ka, kvs, rfl, hka, hkp⟩, ⟨oa, ovs, rfl, hoa, hop⟩, hev, ok, hs, O, k⟩ := h
  have nd := sc_written.nd
  have hrl := rows_ok ok
  have hkl := bods_len (p := p)
  have htl := ok.len
  have hrn : rvs.length = p.2.2.1.length := by rw [hrp.length, rowsOf, List.length_map]
  have hkn : kvs.length = p.2.2.1.length := by rw [hkp.length, hkl]
  refine ⟨_, ((pss_cons (ps_set (i := 6) nd rfl (Or.inl rfl) (pe_make T.mk_LeafWriter (ok_LeafWriter_init T) (hr.mono (by decide)) rfl T.g_LeafWriter T.b_LeafWriter_init .nil pass0 (pa_cons (pv 3) pa_nil)))
      (pss_cons (ps_asg (pv 0) (pg_tup_ K rfl rfl (n := 3) (pgs_cons (pg_name (i := 7) nd rfl (Or.inl rfl)) (pgs_cons (pg_name (i := 8) nd rfl (Or.inl rfl)) (pgs_cons (pg_name (i := 9) nd rfl (Or.inr rfl)) pgs_nil)))))
      (pss_cons (ps_set (i := 9) nd rfl (Or.inr rfl) (pe_lc (own := [("k", 10)]) rfl nd (pi_range1 rfl T.n_range (pa_cons (pe_callB (lenS_ K rfl) rfl T.n_len boot_len (pa_cons (pv 9) pa_nil)) pa_nil)) (blkOk_by (N := N_written) (sc := defScope s_written) (by decide +kernel)) (fun _ _ _ _ _ => (pg_name (i := 10) nd rfl (Or.inl rfl))) (fun _ _ _ _ _ => pts_nil) (fun _ _ _ _ _ => (pe_tup (pa_cons (pe_ix (ixT_ K rfl) (pe_ix (ixL_ K rfl) (pv 9) (pv 10) (fun _ _ => rfl)) pe_int (fun _ _ => rfl)) (pa_cons (pe_ix (ixT_ K rfl) (pe_ix (ixL_ K rfl) (pv 9) (pv 10) (fun _ _ => rfl)) pe_int (fun _ _ => rfl)) (pa_cons (pe_callB (lenS_ K rfl) rfl T.n_len boot_len (pa_cons (pe_ix (ixL_ K rfl) (pv 2) (pv 10) (fun _ _ => rfl)) pa_nil)) pa_nil)))))))
      (pss_cons (ps_expr (pe_meth (pv 6) T.c_LeafWriter T.m_LeafWriter_add_plain (ok_LeafWriter_add_plain T) (hr.mono (by decide)) T.b_LeafWriter_add_plain .nil pass0 (pa_cons (pe_gint T.i_HEAD) (pa_cons (pe_call (ok_head_of_rows T) (hr.mono (by decide)) rfl T.g_head_of_rows T.k_head_of_rows T.b_head_of_rows .nil pass0 (pa_cons (pv 7) (pa_cons (pv 8) (pa_cons (pv 9) pa_nil)))) pa_nil))))
      (pss_cons (ps_if (pt_cmpR op_gt (pe_callB (lenS_ K rfl) rfl T.n_len boot_len (pa_cons (pv 1) pa_nil)) pe_int (nomark _)) (pss_one (ps_expr (pe_meth (pv 6) T.c_LeafWriter T.m_LeafWriter_add_plain (ok_LeafWriter_add_plain T) (hr.mono (by decide)) T.b_LeafWriter_add_plain .nil pass0 (pa_cons (pe_gint T.i_TAGS) (pa_cons (pe_call (ok_tags_body T) (hr.mono (by decide)) rfl T.g_tags_body T.k_tags_body T.b_tags_body .nil pass0 (pa_cons (pv 1) pa_nil)) pa_nil))))) pss_nil)
      (pss_cons (ps_set (i := 11) nd rfl (Or.inl rfl) (pe_lst pa_nil))
      (pss_cons (ps_for PassesOwn.never rfl (pi_list (pv 4)) (pg_tup_ K rfl rfl (n := 2) (pgs_cons (pg_name (i := 12) nd rfl (Or.inl rfl)) (pgs_cons (pg_name (i := 13) nd rfl (Or.inl rfl)) pgs_nil))) (pss_cons (ps_asg (pe_ix (ixL_ K rfl) (pe_ix (ixL_ K rfl) (pv 2) (pe_op op_sub (pv 12) pe_int) (fun _ _ => rfl)) (pv 13) (fun _ _ => rfl)) (pg_tup_ K rfl rfl (n := 4) (pgs_cons (pg_name (i := 14) nd rfl (Or.inl rfl)) (pgs_cons (pg_name (i := 15) nd rfl (Or.inl rfl)) (pgs_cons (pg_name (i := 16) nd rfl (Or.inl rfl)) (pgs_cons (pg_name (i := 17) nd rfl (Or.inl rfl)) pgs_nil))))))
        (pss_cons (ps_if (pt_cmpR (op_inD (by have := hr.un; show (A.deeper _).units + 65 < _; omega)) (pe_tup (pa_cons (pv 12) (pa_cons (pv 13) pa_nil))) (pv 5) (by rfl)) (pss_one (ps_expr (pe_bm PySem.F.plainAttrs_list PySem.F.slot_list_append PySem.F.type_list_append mt_append (pv 11) (pa_cons (pe_tup (pa_cons (pv 12) (pa_cons (pv 14) (pa_cons (pe_callB (lenS_ K rfl) rfl T.n_len boot_len (pa_cons (pe_fld (pv 6) rfl) pa_nil)) pa_nil)))) pa_nil)))) pss_nil)
        (pss_one (ps_expr (pe_meth (pv 6) T.c_LeafWriter T.m_LeafWriter_add (ok_LeafWriter_add T) (hr.mono (by decide)) T.b_LeafWriter_add .nil pass0 (pa_cons (pe_gint T.i_UNIT) (pa_cons (pv 12) (pa_cons (pv 13) (pa_cons (pv 14) (pa_cons (pv 15) (pa_cons (pv 16) (pa_cons (pv 17) pa_nil)))))))))))))
      (pss_cons (ps_expr (pe_meth (pv 6) T.c_LeafWriter T.m_LeafWriter_add_plain (ok_LeafWriter_add_plain T) (hr.mono (by decide)) T.b_LeafWriter_add_plain .nil pass0 (pa_cons (pe_gint T.i_INDEX) (pa_cons (pe_call (ok_index_body T) (hr.mono (by decide)) rfl T.g_index_body T.k_index_body T.b_index_body .nil pass0 (pa_cons (pv 11) pa_nil)) pa_nil))))
      (pss_cons (ps_expr (pe_meth (pv 6) T.c_LeafWriter T.m_LeafWriter_add_plain (ok_LeafWriter_add_plain T) (hr.mono (by decide)) T.b_LeafWriter_add_plain .nil pass0 (pa_cons (pe_gint T.i_END) (pa_cons (pe_call (ok_end_body T) (hr.mono (by decide)) rfl T.g_end_body T.k_end_body T.b_end_body .nil pass0 (pa_cons (pe_op op_add (pe_callB (lenS_ K rfl) rfl T.n_len boot_len (pa_cons (pe_fld (pv 6) rfl) pa_nil)) pe_int) (pa_cons (pe_call (ok_checksum T) (hr.mono (by decide)) rfl T.g_checksum T.k_checksum T.b_checksum .nil pass0 (pa_cons (pe_fld (pv 6) rfl) pa_nil)) pa_nil))) pa_nil))))
      (pss_one (ps_ret (pv 6))))))))))))), ?_⟩
  refine ⟨_, rfl, fun q dx nq ndx neq => ⟨q, dx, stamp, rfl, upd_same, fun H1 lv dt hk nlv ndt W => ⟨rfl, ?_⟩⟩⟩
  have s1 : Same H H1 := fun a o h => hk a o ((upd_ne (ne_of_none h nq)).trans ((upd_ne (ne_of_none h ndx)).trans h)) (ne_of_none h nq)
  have nlv0 : H lv = none := by
    have s : Same H (upd (upd H dx (.own q)) q (.ins (ga K "LeafWriter") dx [])) := fun a o h => (upd_ne (ne_of_none h nq)).trans ((upd_ne (ne_of_none h ndx)).trans h)
    exact s.free nlv
  have ndt0 : H dt = none := by
    have s : Same H (upd (upd H dx (.own q)) q (.ins (ga K "LeafWriter") dx [])) := fun a o h => (upd_ne (ne_of_none h nq)).trans ((upd_ne (ne_of_none h ndx)).trans h)
    exact s.free ndt
  clear hk nlv ndt
  refine ⟨_, rfl, t0, _, rfl, SqT.of (s1 _ _ h0), rfl, _, _, rfl, _, _, rfl, _, _, rfl, rfl, ?_⟩
  refine ⟨_, rfl, _, _, rfl, .inl (SqL.of (s1 _ _ hra)), _, rfl, by omega, by omega, fun D hD => lc_range (n := ((rvs.length : Nat) : Int).toNat) (fun j H3 => ∃ ws, Same H1 H3 ∧ Acc cRow3 H1 H3 D ws ((rowsOf p.2.2.1).take j))
      ⟨[], Same.new hD, Acc.nil hD upd_same⟩ ?_ ?_⟩
  · rintro j H3 hj ⟨ws, s3, A3⟩
    have hj2 : j < p.2.2.1.length := by omega
    have htr : p.2.2.1[j]? = some p.2.2.1[j] := List.getElem?_eq_getElem hj2
    generalize p.2.2.1[j] = tr at htr
    have hrow : (rowsOf p.2.2.1)[j]? = some (tr.1, tr.2.1, (tr.2.2.length : Int)) := by rw [rowsOf, List.getElem?_map, htr]; rfl
    have hbd : (bodsOf p.2.2.1)[j]? = some (bodiesOf [] tr.2.2) := by rw [bodsOf, List.getElem?_map, htr]; rfl
    obtain ⟨x, hx, t, y1, y2, y3, rfl, ht, rfl, rfl, rfl⟩ := pget hrp hrow
    obtain ⟨x', hx', b, bv, rfl, hb, hbp⟩ := pget hkp hbd
    have s4 := s1.trans s3
    refine ⟨rfl, _, rfl, _, rfl, _, _, _, _, rfl, rfl, SqL.of (s4 _ _ hra), at0 (i := j) (by omega) hx, _, _, _, _, rfl, rfl, SqT.of (s4 _ _ ht), atI_nat (j := 0) rfl, ?_⟩
    refine ⟨_, rfl, _, rfl, _, _, _, _, rfl, rfl, SqL.of (s4 _ _ hra), at0 (i := j) (by omega) hx, _, _, _, _, rfl, rfl, SqT.of (s4 _ _ ht), atI_nat (j := 1) rfl, ?_⟩
    refine ⟨_, rfl, _, rfl, _, _, _, _, rfl, rfl, SqL.of (s4 _ _ hka), at0 (i := j) (by omega) hx', _, _, rfl, .inl (SqL.of (s4 _ _ hb)), lsz (by simp), fun g ng => ?_⟩
    rw [hbp.length, bodiesOf_len]
    have A4 := A3.new (o := .tup [.str tr.1, .str tr.2.1, .int (tr.2.2.length : Int)]) ng
    refine ⟨ws, A4.at, lsz' (by rw [A4.len, List.length_take, rowsOf, List.length_map]; omega), ws ++ [.ref g], (s3.add ng).mut hD, ?_⟩
    rw [take_snoc hrow]
    exact A4.push ⟨g, _, _, _, rfl, df_at upd_same (s3.free ng) (A3.ne ng), rfl, rfl, rfl⟩
  rintro H2 ⟨ws, s2, A2⟩
  rw [List.take_of_length_le (by rw [rowsOf, List.length_map]; omega)] at A2
  have R2 := A2.done'
  have W2 := W.mono s2
  have S2 := s1.trans s2
  clear A2
  have hB := headB_ok ok
  have htk := ok.ticks
  have hsk := ok.skip
  refine ⟨_, rfl, q, dx, _, rfl, W2.ob, nLW_add_plain _ _ _, ?_⟩
  refine ⟨_, rfl, _, rfl, _, rfl, p.1, p.2.1, _, rowsOf p.2.2.1, rfl, by omega, by omega, by omega, by omega, R2, by omega, fun r hr => (hrl.2 r hr).1, fun b H3 s3 nb hb => ?_⟩
  refine ⟨q, dx, lv, dt, b, stamp, 0, _, [], rfl, W2.mono s3, hb, W2.nl nb, W2.nd nb, by simp, fun l hl => by (cases hl), pLeaf_wf hs (by decide) (n := 0) (by decide) hB.1 hB.2, fun H4 bt W4 => ?_⟩
  have S4 : Same H H4 := bt.frz (S2.trans s3) nlv0 ndt0
  clear bt hb nb s3 W2 R2 S2 s2 W s1
  dsimp only
  refine seq_mid (t := tIfS _ _ _) (fun σ' H' => σ' = [some (.ref t0), some (.ref ta), some (.ref ka), some (.int stamp), some (.ref oa), some ev, some (.ref q), some (.int p.1), some (.int p.2.1), some (.ref D), none, none, none, none, none, none, none, none] ∧ Same H H' ∧ LWr (ga K "LeafWriter") H' q dx lv dt stamp (preL stamp p)) (fun nx hnx => ?_) ?_
  · have htn := htp.length
    refine ⟨_, rfl, _, _, rfl, .inl (SqL.of (S4 _ _ hta)), _, _, rfl, rfl, _, rfl, ?_⟩
    by_cases c : 0 < p.2.2.2.length
    · have hT := tagsB_ok ok
      refine yT (by omega) ⟨_, rfl, q, dx, _, rfl, W4.ob, nLW_add_plain _ _ _, _, rfl, _, p.2.2.2, rfl, ⟨ta, tvs, rfl, S4 _ _ hta, pmap htp fun _ _ r => (c2 cS cS).mono S4 r⟩, ok.tags, fun b H5 s5 nb hb => ?_⟩
      refine ⟨q, dx, lv, dt, b, stamp, 1, _, _, rfl, W4.mono s5, hb, W4.nl nb, W4.nd nb, by simp, fun l hl => ?_, pLeaf_wf hs (by decide) (n := 1) (by decide) hT.1 hT.2, fun H6 bt W6 => hnx _ _ ⟨rfl, bt.frz (S4.trans s5) nlv0 ndt0, ?_⟩⟩
      · rw [List.nil_append, List.mem_singleton] at hl
        subst hl
        exact pLeaf_wf hs (by decide) (n := 0) (by decide) hB.1 hB.2
      · rw [preL, if_pos c]
        exact W6
    · refine yF (by omega) (hnx _ _ ⟨rfl, S4, ?_⟩)
      rw [preL, if_neg c]
      exact W4
  rintro _ H5 ⟨rfl, S5, W5⟩
  clear W4 S4
  refine ⟨Nat.zero_le _, fun f nf => ?_⟩
  have nfH := S5.free nf
  have nfl := W5.nl nf
  have nfd := W5.nd nf
  have nfq : f ≠ q := (ne_of_none W5.ob nf).symm
  have W6 := W5.mono (Same.new (o := .lst []) nf)
  have S6 : Same H (upd H5 f (.lst [])) := S5.add nf
  have hf6 : upd H5 f (.lst []) f = some (.lst []) := upd_same
  generalize upd H5 f (.lst []) = H6 at W6 S6 hf6
  clear W5 S5 nf
  have hol := O.len
  refine ⟨_, rfl, oa, rfl, ⟨_, SqL.of (S6 _ _ hoa)⟩, for_list (K := K) (a := oa) (xs := ovs) (fun i σ H' => ∃ (u1 u2 u3 u4 u5 u6 : Option V) (G : Hp) (us : List V), σ = [some (.ref t0), some (.ref ta), some (.ref ka), some (.int stamp), some (.ref oa), some ev, some (.ref q), some (.int p.1), some (.int p.2.1), some (.ref D), none, some (.ref f), u1, u2, u3, u4, u5, u6] ∧
      Same H G ∧ Same G H' ∧ G f = none ∧ G lv = none ∧ G dt = none ∧ LWr (ga K "LeafWriter") H' q dx lv dt stamp (mainL stamp p (od.take i)) ∧ H' f = some (.lst us) ∧ Paired (c3i.R G) us (fndL stamp p (inIdx idx) (od.take i)))
    ⟨none, none, none, none, none, none, H, [], rfl, Same.refl _, S6, nfH, nlv0, ndt0, by rw [mainL]; simp only [List.take_zero, usL, List.append_nil]; exact W6, hf6, .nil⟩ (fun i σ H' _ ⟨_, _, _, _, _, _, _, _, _, s, s', _⟩ => SqL.of (s' _ _ (s _ _ hoa))) ?_ ?_⟩
  · rintro i x σ H' hi ⟨u1, u2, u3, u4, u5, u6, G, us, rfl, sG, sH, fG, lG, dG, W, hf, hpu⟩
    obtain ⟨e, he, t, y1, y2, rfl, ht, rfl, rfl⟩ := pgetl hop hi
    obtain ⟨kk, j, bs, bd, rfl, hbs, hbd, hget⟩ := O.get (List.mem_of_getElem? he)
    obtain ⟨x1, hx1, b1, bv, rfl, hb1, hbp⟩ := pget hkp hbs
    obtain ⟨x2, hx2, t2, z1, z2, z3, z4, rfl, ht2, rfl, rfl, rfl, ⟨c, rfl, hc⟩⟩ := pget hbp hbd
    have s := sG.trans sH
    have hi15 := lt_of_at he
    refine ⟨t, _, rfl, SqT.of (s _ _ ht), rfl, _, _, rfl, _, _, rfl, rfl, ?_⟩
    refine ⟨_, rfl, _, rfl, _, _, rfl, rfl, _, _, _, _, rfl, rfl, SqL.of (s _ _ hka), at0 (i := kk) (by omega) hx1, _, rfl, _, _, _, _, rfl, rfl, SqL.of (s _ _ hb1), at0 (i := j) (by omega) hx2, ?_⟩
    refine ⟨t2, _, rfl, SqT.of (s _ _ ht2), rfl, _, _, rfl, _, _, rfl, _, _, rfl, _, _, rfl, rfl, ?_⟩
    dsimp only
    have hfs := fndL_snoc stamp p (inIdx idx) (od.take i) ((kk : Int) + 1, (j : Int))
    rw [← take_snoc he, hget] at hfs
    refine seq_mid (t := tIfS _ _ _) (fun σ' H2 => σ' = [some (.ref t0), some (.ref ta), some (.ref ka), some (.int stamp), some (.ref oa), some ev, some (.ref q), some (.int p.1), some (.int p.2.1), some (.ref D), none, some (.ref f), some (.int ((kk : Int) + 1)), some (.int j), some (.int bd.1), some (.int bd.2.1), some (.int bd.2.2.1), some (.ref c)] ∧
      ∃ (G : Hp) (us : List V), Same H G ∧ Same G H2 ∧ G f = none ∧ G lv = none ∧ G dt = none ∧ LWr (ga K "LeafWriter") H2 q dx lv dt stamp (mainL stamp p (od.take i)) ∧ H2 f = some (.lst us) ∧ Paired (c3i.R G) us (fndL stamp p (inIdx idx) (od.take (i + 1)))) (fun nx hnx => ?_) ?_
    · refine ⟨_, rfl, _, rfl, lsz (by simp), fun g ng => ⟨_, rfl, inD_pairs (e := ((kk : Int) + 1, (j : Int))) ⟨g, _, _, rfl, upd_same, rfl, rfl⟩ ((cL cPair).mono (s.add ng) hev) ?_⟩⟩
      have W1 := W.mono (Same.new (o := .tup [.int ((kk : Int) + 1), .int (j : Int)]) ng)
      have hf1 : upd H' g (.tup [.int ((kk : Int) + 1), .int (j : Int)]) f = some (.lst us) := upd_keep hf ng
      have sH1 : Same G (upd H' g (.tup [.int ((kk : Int) + 1), .int (j : Int)])) := sH.add ng
      generalize upd H' g (.tup [.int ((kk : Int) + 1), .int (j : Int)]) = H1 at W1 hf1 sH1
      have hpl := hpu.length
      have hfl := fndL_len (stamp := stamp) (p := p) (inE := inIdx idx) (od := od.take i)
      rw [List.length_take] at hfl
      cases hc : inIdx idx ((kk : Int) + 1, (j : Int)) with
      | false =>
        rw [hc] at hfs
        refine ⟨_, rfl, hnx _ _ ⟨rfl, G, us, sG, sH1, fG, lG, dG, W1, hf1, ?_⟩⟩
        rw [hfs]
        simpa using hpu
      | true =>
        rw [hc] at hfs
        refine ⟨_, rfl, ?_⟩
        refine ⟨_, rfl, .inl ⟨rfl, _, SqL.of hf1⟩, _, rfl, _, rfl, _, rfl, q, _, dx, _, _, rfl, W1.ob, T.c_LeafWriter, T.a_LeafWriter_data, gLW_data _ _ _, _, _, rfl, .inl W1.hd.sq, lsz (by simp), fun r nr => ?_⟩
        rw [List.length_map]
        have nrG := sH1.free nr
        have nrf : f ≠ r := ne_of_none hf1 nr
        refine ⟨f, _, _, rfl, rfl, upd_keep hf1 nr, lsz' (by omega), hnx _ _ ⟨rfl, upd G r (.tup [.int ((kk : Int) + 1), .int bd.1, .int ((encF (mainL stamp p (od.take i))).length : Int)]), us ++ [.ref r], sG.add nrG, ?_, ?_, ?_, ?_, ?_, upd_same, ?_⟩⟩
        · exact (Same.both sH1 r _).mut ((upd_ne nrf).trans fG)
        · exact (upd_ne nrf).trans fG
        · exact (upd_ne (W1.nl nr).symm).trans lG
        · exact (upd_ne (W1.nd nr).symm).trans dG
        · have W2 := W1.mono (Same.new (o := .tup [.int ((kk : Int) + 1), .int bd.1, .int ((encF (mainL stamp p (od.take i))).length : Int)]) nr)
          exact W2.upd nfq nfl nfd
        · rw [hfs]
          exact papp (pmap hpu fun _ _ r' => c3i.mono (Same.new nrG) r') (.cons ⟨r, _, _, _, rfl, upd_same, rfl, rfl, rfl⟩ .nil)
    rintro _ H2 ⟨rfl, G, us, sG, sH, fG, lG, dG, W, hf, hpu⟩
    have s2 := sG.trans sH
    have hml := mainL_len (stamp := stamp) (p := p) (od := od.take i)
    have hpl := preL_len stamp p
    rw [List.length_take] at hml
    refine ⟨_, rfl, q, dx, _, rfl, W.ob, nLW_add _ _ _, ?_⟩
    refine ⟨_, rfl, _, rfl, _, rfl, _, rfl, _, rfl, _, rfl, q, dx, lv, dt, c, stamp, 2, _, _, _, _, _, bd.2.2.2, _, rfl, W, hc.mono s2, ne_of_none hc nlv0, ne_of_none hc ndt0, by omega, mainL_wf ok O hs (fun e he => List.mem_of_mem_take he) (by rw [List.length_take]; omega), ?_, fun H3 bt W3 => ?_⟩
    · have := uLeaf_wf ok O (List.mem_of_getElem? he) hs (n := (mainL stamp p (od.take i)).length) (by omega)
      rw [hget] at this
      exact this
    · refine ⟨_, _, _, _, _, _, G, us, rfl, sG, bt.frz sH lG dG, fG, lG, dG, ?_, ?_, hpu⟩
      · rw [take_snoc he, mainL_snoc, hget]
        exact W3
      · exact bt f _ hf nfl nfd
  · rintro σ H' ⟨u1, u2, u3, u4, u5, u6, G, us, rfl, sG, sH, fG, lG, dG, W, hf, hpu⟩
    rw [List.take_of_length_le (by rw [hop.length]; exact Nat.le_refl _)] at W hpu
    have hml := mainL_len (stamp := stamp) (p := p) (od := od)
    have hpl := preL_len stamp p
    have hwf := mainL_wf ok O hs (r := od) (fun e he => he) hol
    have hfo := fndL_ok ok O hs (inIdx idx) od.length
    rw [List.take_length] at hfo
    have hfn := fndL_len (stamp := stamp) (p := p) (inE := inIdx idx) (od := od)
    have hB := idxB_ok hfo (by omega)
    refine ⟨_, rfl, q, dx, _, rfl, W.ob, nLW_add_plain _ _ _, _, rfl, _, _, rfl, ⟨f, us, rfl, hf, pmap hpu fun _ _ r' => c3i.mono sH r'⟩, by omega, hfo, fun b H2 s2 nb hb => ?_⟩
    refine ⟨q, dx, lv, dt, b, stamp, 3, _, _, rfl, W.mono s2, hb, W.nl nb, W.nd nb, by omega, hwf, pLeaf_wf hs (by decide) (n := (mainL stamp p od).length) (by omega) hB.1 hB.2, fun H3 bt W3 => ?_⟩
    have sH3 : Same G H3 := bt.frz (sH.trans s2) lG dG
    have hil := idxL_len (stamp := stamp) (p := p) (inE := inIdx idx) (od := od)
    have hiw := idxL_wf ok O hs (inIdx idx)
    have W4 : LWr (ga K "LeafWriter") H3 q dx lv dt stamp (idxL stamp p (inIdx idx) od) := W3
    clear W3
    obtain ⟨us4, hl4, hn4⟩ := W4.hl
    have hB4 := endB_ok (n := (idxL stamp p (inIdx idx) od).length + 1) (m := (crc (encF (idxL stamp p (inIdx idx) od))).toNat) (by omega)
    have hby : Bytes (encF (idxL stamp p (inIdx idx) od)) := encF_bytes hiw
    have h32 := crc32 hby
    refine ⟨_, rfl, q, dx, _, rfl, W4.ob, nLW_add_plain _ _ _, ?_⟩
    refine ⟨_, rfl, q, _, dx, _, _, rfl, W4.ob, T.c_LeafWriter, T.a_LeafWriter_leaves, gLW_leaves _ _ _, _, _, rfl, .inl (SqL.of hl4), ?_⟩
    refine ⟨_, _, rfl, rfl, _, rfl, q, _, dx, _, _, rfl, W4.ob, T.c_LeafWriter, T.a_LeafWriter_data, gLW_data _ _ _, dt, _, rfl, W4.hd, (idxL stamp p (inIdx idx) od).length + 1, (crc (encF (idxL stamp p (inIdx idx) od))).toNat, ?_, by omega, fun b5 H5 s5 nb5 hb5 => ?_⟩
    · rw [hn4]
      unfold W32 at h32
      rw [show (((crc (encF (idxL stamp p (inIdx idx) od))).toNat : Nat) : Int) = crc (encF (idxL stamp p (inIdx idx) od)) by omega]
      rfl
    refine ⟨q, dx, lv, dt, b5, stamp, 4, _, _, rfl, W4.mono s5, hb5, W4.nl nb5, W4.nd nb5, by omega, hiw, pLeaf_wf hs (by decide) (n := (idxL stamp p (inIdx idx) od).length) (by omega) hB4.1 hB4.2, fun H6 bt6 W6 => ?_⟩
    exact ⟨_, rfl, k _ q dx lv dt (sG.trans (bt6.frz (sH3.trans s5) lG dG)) ndt0 W6⟩
end
end Sp
namespace Sp
open PySem PySem.Spec PyProof.Rows L2
def scU : Scope := { kind := .function, names := [(PySem.Str.ofString ".0", .local), (PySem.Str.ofString "units", .local)], isGenerator := false, isCoroutine := false, more := [] }
theorem pi_list_ (K : PySem.W.Frag) {X : Cx} (hK : X.K = K) {tg l : Expr} {tl : TE} (hl : PE X l tl) : PI X tg l (iList K tl) := by
  subst hK
  exact pi_list hl
def bk (b : Bd) : Bool := decide (b.2.2.1 = 1)
section
variable {P : Program} {w : World} {K : PySem.W.Frag} {mg : Str → Option Value} {base : Heap}
def spFf : Sp := fun vs H Q _ => ∃ (hv tv kv : V) (n stamp : Int) (p : Pr), vs = [hv, tv, kv, .int n, .int stamp] ∧ cHead.R H hv (p.1, p.2.1, rowsOf p.2.2.1) ∧ cTags.R H tv p.2.2.2 ∧ (cL (cL cBd)).R H kv (bodsOf p.2.2.1) ∧ OkPr p ∧ (0 ≤ stamp ∧ stamp ≤ 4294967295) ∧
  ∀ ls, FileOf stamp p ls → RL H Q (encF ls)
theorem ok_file_from (T : Txt K mg) : FnOk P w K mg base CX0 7 (ga K "file_from") (fdAt K (ga K "file_from")) ["head", "tags", "tracks", "count", "stamp"] spFf := by
  refine okD T.F_file_from sc_file_from (fun vs H Q E h => ?_) (fun cdv A outer s H vs Q E hr h => ?_)
  · obtain ⟨_, _, _, _, _, _, rfl, _⟩ := h
    rfl
  obtain ⟨_, _, _, n, stamp, p, rfl, hh, htg, ⟨ka, kvs, rfl, hka, hkp⟩, ok, hs, k⟩ := h
  have nd := sc_file_from.nd
  have hkl := bods_len (p := p)
  have htl := ok.len
  have hkn : kvs.length = p.2.2.1.length := by rw [hkp.length, hkl]
  have hb := bods_ok ok
  refine ⟨_, ((pss_cons (ps_setLc (i := 5) (own := [("units", 7)]) rfl nd rfl rfl (sw_true rfl rfl rfl (by decide +kernel)) (pi_list (pv 2)) (blkOk_by (N := N_file_from) (sc := defScope s_file_from) (by decide +kernel)) (fun _ _ _ _ _ => (pg_name (i := 7) nd rfl (Or.inl rfl))) (fun _ _ _ _ _ => pts_nil) (fun _ _ _ _ _ => (pe_lc (own := [("unit", 6)]) rfl nd (pi_list_ K rfl (pv 7)) (blkOk_by (N := N_file_from) (sc := scU) (by decide +kernel)) (fun _ _ _ _ _ => (pg_name (i := 6) nd rfl (Or.inl rfl))) (fun _ _ _ _ _ => pts_nil) (fun _ _ _ _ _ => (pe_cmpR op_eq (pe_ix (ixT_ K rfl) (pv 6) pe_int (fun _ _ => rfl)) pe_int (nomark _))))))
      (pss_cons (ps_set (i := 8) nd rfl (Or.inl rfl) (pe_ix (ixT_ K rfl) (pe_call (ok_best_index T) (hr.mono (by decide)) rfl T.g_best_index T.k_best_index T.b_best_index .nil pass0 (pa_cons (pv 5) (pa_cons (pv 3) pa_nil))) pe_int (fun _ _ => rfl)))
      (pss_one (ps_ret (pe_fld (pe_call (ok_written T) (hr.mono (by decide)) rfl T.g_written T.k_written T.b_written .nil pass0 (pa_cons (pv 0) (pa_cons (pv 1) (pa_cons (pv 2) (pa_cons (pv 4) (pa_cons (pe_call (ok_in_times T) (hr.mono (by decide)) rfl T.g_in_times T.k_in_times T.b_in_times .nil pass0 (pa_cons (pv 2) pa_nil)) (pa_cons (pv 8) pa_nil))))))) rfl)))))), ?_⟩
  refine ⟨_, rfl, ka, rfl, ⟨_, SqL.of hka⟩, fun D hD => lc_list (K := K) (a := ka) (xs := kvs) (fun j H3 => ∃ ws, Same H H3 ∧ Acc (cL cB) H H3 D ws ((keysOf p.2.2.1).take j))
      ⟨[], Same.new hD, Acc.nil hD upd_same⟩ (fun j H3 _ ⟨ws, h1, _⟩ => SqL.of (h1 _ _ hka)) ?_ ?_⟩
  · rintro j x H3 hj ⟨ws, s3, A3⟩
    obtain ⟨us, hus, b, bv, rfl, hb1, hbp⟩ := pgetl hkp hj
    have hk2 : (keysOf p.2.2.1)[j]? = some (us.map bk) := by rw [keysOf, List.getElem?_map, hus]; rfl
    have hjl := lt_of_at hus
    have ou := (hb us (List.mem_of_getElem? hus)).1.1
    refine ⟨rfl, ?_⟩
    refine ⟨_, rfl, b, rfl, ⟨_, SqL.of (s3 _ _ hb1)⟩, fun D2 hD2 => lc_list (K := K) (a := b) (xs := bv) (fun i H4 => ∃ zs, Same H3 H4 ∧ Acc cB H3 H4 D2 zs ((us.map bk).take i))
      ⟨[], Same.new hD2, Acc.nil hD2 upd_same⟩ (fun i H4 _ ⟨zs, h1, _⟩ => SqL.of ((s3.trans h1) _ _ hb1)) ?_ ?_⟩
    · rintro i x H4 hi ⟨zs, s4, A4⟩
      obtain ⟨bd, hbd, t, y1, y2, y3, y4, rfl, ht, rfl, rfl, rfl, hy4⟩ := pgetl hbp hi
      have hk3 : (us.map bk)[i]? = some (bk bd) := by rw [List.getElem?_map, hbd]; rfl
      have hil := lt_of_at hbd
      refine ⟨rfl, _, rfl, _, _, _, _, rfl, rfl, SqT.of ((s3.trans s4) _ _ ht), atI_nat (j := 2) rfl, rfl, zs, A4.at, lsz' (by rw [A4.len, List.length_take, List.length_map]; omega), zs ++ [.bl (bk bd)], ?_, ?_⟩
      · rw [show decide (V.int bd.2.2.1 = V.int 1) = bk bd from decide_eq_decide.mpr ⟨fun h => V.int.inj h, fun h => congrArg V.int h⟩]
        exact s4.mut hD2
      · rw [show decide (V.int bd.2.2.1 = V.int 1) = bk bd from decide_eq_decide.mpr ⟨fun h => V.int.inj h, fun h => congrArg V.int h⟩, take_snoc hk3]
        exact A4.push rfl
    · rintro H4 ⟨zs, s4, A4⟩
      rw [List.take_of_length_le (by rw [List.length_map, hbp.length]; exact Nat.le_refl _)] at A4
      have A5 := A3.mono s4
      refine ⟨ws, A5.at, lsz' (by rw [A5.len, List.length_take, keysOf, List.length_map]; omega), ws ++ [.ref D2], (s3.trans s4).mut hD, ?_⟩
      rw [take_snoc hk2]
      exact A5.push ((cL cB).mono (df_call s3 A3.at) A4.done)
  rintro H1 ⟨ws, s1, A1⟩
  rw [List.take_of_length_le (by rw [keysOf, List.length_map]; omega)] at A1
  have R1 := A1.done'
  clear A1
  refine ⟨_, rfl, _, rfl, _, keysOf p.2.2.1, n, rfl, by rw [keysOf, List.length_map]; omega, fun row hr => ?_, R1, fun H2 u idx s2 hu hgood hlen => ?_⟩
  · obtain ⟨us, hus, rfl⟩ := List.mem_map.mp hr
    have := (hb us hus).1.1
    rw [List.length_map]
    omega
  obtain ⟨t, i1, i2, rfl, ht, hi1, rfl⟩ := cIdx.mono (fresh_sub _ _) hu
  have S2 := s1.trans s2
  refine ⟨_, _, _, _, rfl, rfl, SqT.of ht, atI_nat (j := 0) rfl, ?_⟩
  refine ⟨_, rfl, _, rfl, _, rfl, _, rfl, _, rfl, _, bodsOf p.2.2.1, rfl, ⟨ka, kvs, rfl, S2 _ _ hka, pmap hkp fun _ _ r => (cL cBd).mono S2 r⟩, by omega, fun us hu => (hb us hu).1, fun H3 ov od s3 hod O => ⟨_, rfl, ?_⟩⟩
  have S3 := S2.trans s3
  refine ⟨_, _, _, _, _, stamp, p, od, idx.1, rfl, cHead.mono S3 hh, cTags.mono S3 htg, ⟨ka, kvs, rfl, S3 _ _ hka, pmap hkp fun _ _ r => (cL cBd).mono S3 r⟩, (cL cPair).mono (fresh_sub _ _) hod, (cL cPair).mono s3 hi1, ok, hs, O, fun H4 q dx lv dt s4 ndt W => ?_⟩
  refine ⟨q, _, dx, _, _, rfl, W.ob, T.c_LeafWriter, T.a_LeafWriter_data, gLW_data _ _ _, ?_⟩
  exact k _ ⟨⟨od, inIdx idx.1, O, fun e he => hgood e (inIdx_mem he), rfl⟩⟩ dt H4 (S3.trans s4) (S3.free ndt) W.hd
def spWrite : Sp := fun vs H Q _ => ∃ (v : V) (n stamp : Int) (p : Pr), vs = [v, .int stamp, .int n] ∧ cPr.R H v p ∧ OkPr p ∧ (0 ≤ stamp ∧ stamp ≤ 4294967295) ∧ (0 ≤ n ∧ n ≤ 100) ∧ ∀ ls, FileOf stamp p ls → RL H Q (encF ls)
theorem ok_write (T : Txt K mg) : FnOk P w K mg base CX0 8 (ga K "write") (fdAt K (ga K "write")) ["presentation", "stamp", "most"] spWrite := by
  refine okD T.F_write sc_write (fun vs H Q E h => ?_) (fun cdv A outer s H vs Q E hr h => ?_)
  · obtain ⟨_, _, _, _, rfl, _⟩ := h
    rfl
  obtain ⟨_, n, stamp, p, rfl, hp, ok, hs, hn, k⟩ := h
  have nd := sc_write.nd
  refine ⟨_, ((pss_cons (ps_if (pt_notC (pt_val (pe_call (ok_is_presentation T) (hr.mono (by decide)) rfl T.g_is_presentation T.k_is_presentation T.b_is_presentation .nil pass0 (pa_cons (pv 0) pa_nil)))) (pss_one ps_never) pss_nil)
      (pss_cons (ps_if (PW.pt (pw_or (pt_cmpR op_lt (pv 1) pe_int (nomark _)) (pw_or1 (pt_cmpR op_gt (pv 1) (pe_gint T.i_MOST_LEAVES) (nomark _))))) (pss_one ps_never) pss_nil)
      (pss_cons (ps_if (PW.pt (pw_or (pt_cmpR op_lt (pv 2) pe_int (nomark _)) (pw_or1 (pt_cmpR op_gt (pv 2) (pe_gint T.i_MOST_ENTRIES) (nomark _))))) (pss_one ps_never) pss_nil)
      (pss_cons (ps_asg (pe_call (ok_with_bodies T) (hr.mono (by decide)) rfl T.g_with_bodies T.k_with_bodies T.b_with_bodies .nil pass0 (pa_cons (pv 0) pa_nil)) (pg_tup_ K rfl rfl (n := 2) (pgs_cons (pg_name (i := 3) nd rfl (Or.inl rfl)) (pgs_cons (pg_name (i := 4) nd rfl (Or.inl rfl)) pgs_nil))))
      (pss_one (ps_ret (pe_call (ok_file_from T) (hr.mono (by decide)) rfl T.g_file_from T.k_file_from T.b_file_from .nil pass0 (pa_cons (pv 3) (pa_cons (pe_ix (ixT_ K rfl) (pv 0) pe_int (fun _ _ => rfl)) (pa_cons (pv 4) (pa_cons (pv 2) (pa_cons (pv 1) pa_nil))))))))))))), ?_⟩
  refine ⟨_, rfl, _, p, rfl, hp, ok, fun H1 s1 => ⟨_, rfl, ?_⟩⟩
  refine ⟨_, rfl, _, _, rfl, rfl, _, rfl, yF (by omega) ⟨_, rfl, _, _, rfl, rfl, _, rfl, ?_⟩⟩
  have hh : ¬ (4294967295 : Int) < stamp := by omega
  refine yF ?_ ?_
  · exact hh
  refine ⟨_, rfl, _, _, rfl, rfl, _, rfl, yF (by omega) ⟨_, rfl, _, _, rfl, rfl, _, rfl, yF (by omega) ?_⟩⟩
  refine ⟨_, rfl, _, p, rfl, cPr.mono s1 hp, ok, fun H2 u s2 hu => ?_⟩
  obtain ⟨t, y1, y2, rfl, ht, hy1, hy2⟩ := cWb.mono (fresh_sub _ _) hu
  obtain ⟨t0, x1, x2, x3, x4, rfl, h0, rfl, rfl, hx3, hx4⟩ := cPr.mono (s1.trans s2) hp
  refine ⟨t, _, rfl, SqT.of ht, rfl, _, _, rfl, _, _, rfl, rfl, ?_⟩
  refine ⟨_, rfl, _, rfl, _, _, _, _, rfl, rfl, SqT.of h0, atI_nat (j := 3) rfl, _, rfl, _, rfl, _, rfl, _, _, _, n, stamp, p, rfl, hy1, hx4, hy2, ok, hs, fun ls hls q H3 s3 nq hq => ?_⟩
  exact k ls hls q H3 ((s1.trans s2).trans s3) ((s1.trans s2).free nq) hq
end
end Sp
namespace Sp
open PySem PySem.Spec PyProof.Rows L2
/-- a reader at q over a body, with what is left -/
def Rd (C : Addr) (H : Hp) (q dx b : Addr) (body rest : List Int) : Prop := ∃ at_ : Nat, H q = some (.ins C dx (flBR (.ref b) (.int at_))) ∧ Li H b body ∧ at_ ≤ body.length ∧ body.drop at_ = rest ∧ body.length ≤ 100000
theorem Rd.mono {C : Addr} {H H' : Hp} {q dx b : Addr} {body rest : List Int} (s : Same H H') (R : Rd C H q dx b body rest) : Rd C H' q dx b body rest := by
  obtain ⟨n, a, c, d, e, f⟩ := R
  exact ⟨n, s _ _ a, c.mono s, d, e, f⟩
theorem Rd.nq {C : Addr} {H : Hp} {q dx b x : Addr} {body rest : List Int} (R : Rd C H q dx b body rest) (h : H x = none) : x ≠ q := by
  obtain ⟨n, a, _⟩ := R
  exact (ne_of_none a h).symm
theorem Rd.upd {C : Addr} {H : Hp} {q dx b x : Addr} {o : HO} {body rest : List Int} (R : Rd C H q dx b body rest) (h1 : x ≠ q) (h2 : x ≠ b) : Rd C (upd H x o) q dx b body rest := by
  obtain ⟨n, a, c, d, e, f⟩ := R
  exact ⟨n, (upd_ne h1.symm).trans a, (upd_ne h2.symm).trans c, d, e, f⟩
def But1 (H H' : Hp) (x : Addr) : Prop := ∀ a o, H a = some o → a ≠ x → H' a = some o
theorem But1.frz {G H H' : Hp} {x : Addr} (s : Same G H) (b : But1 H H' x) (hx : G x = none) : Same G H' := fun a o h => b a o (s _ _ h) (ne_of_none h hx)
theorem But1.of {H H' : Hp} {x : Addr} {o : HO} (s : Same H H') : But1 H (upd H' x o) x := fun a u h n => (upd_ne n).trans (s _ _ h)
section
variable {P : Program} {w : World} {K : PySem.W.Frag} {mg : Str → Option Value} {base : Heap}
def spRi (K : PySem.W.Frag) : Sp := fun vs H Q _ => ∃ (q dx b : Addr) (body : List Int), vs = [.ref q, .ref b] ∧ H q = some (.ins (ga K "BodyReader") dx []) ∧ Li H b body ∧ b ≠ q ∧ body.length ≤ 100000 ∧
  ∀ H', But1 H H' q → Rd (ga K "BodyReader") H' q dx b body body → Q .non H'
theorem ok_BodyReader_init (T : Txt K mg) : FnOk P w K mg base CX0 1 (ma K (ga K "BodyReader") "__init__") (fdAt K (ma K (ga K "BodyReader") "__init__")) ["self", "body"] (spRi K) := by
  refine okD T.F_BodyReader_init sc_BodyReader_init (fun vs H Q E h => ?_) (fun cdv A outer s H vs Q E hr h => ?_)
  · obtain ⟨_, _, _, _, rfl, _⟩ := h
    rfl
  obtain ⟨q, dx, b, body, rfl, hq, hb, ne, hl, k⟩ := h
  have nd := sc_BodyReader_init.nd
  refine ⟨_, ((pss_cons (ps_fld (pv 0) (pv 1) rfl)
      (pss_one (ps_fld (pv 0) pe_int rfl)))), ?_⟩
  refine ⟨_, rfl, _, rfl, q, _, dx, _, rfl, hq, T.c_BodyReader, T.a_BodyReader_body, by decide, ?_⟩
  refine ⟨_, rfl, q, _, dx, _, rfl, upd_same, T.c_BodyReader, T.a_BodyReader_at, by show 1 < 1000; decide, ?_⟩
  refine k _ (fun a o h n => (upd_ne n).trans ((upd_ne n).trans h)) ⟨0, by rw [upd_same, iBR]; rfl, ?_, by omega, rfl, hl⟩
  show upd _ _ _ _ = _
  rw [upd_ne ne, upd_ne ne]
  exact hb
def spRn (K : PySem.W.Frag) : Sp := fun vs H Q _ => ∃ (q dx b : Addr) (body rest : List Int) (lo hi : Int) (n : Nat), vs = [.ref q, .int lo, .int hi] ∧ Rd (ga K "BodyReader") H q dx b body (putS n ++ rest) ∧ n < 1099511627776 ∧ lo ≤ n ∧ n ≤ hi ∧
  ∀ H', But1 H H' q → Rd (ga K "BodyReader") H' q dx b body rest → Q (.int n) H'
theorem ok_BodyReader_number (T : Txt K mg) : FnOk P w K mg base CX0 2 (ma K (ga K "BodyReader") "number") (fdAt K (ma K (ga K "BodyReader") "number")) ["self", "least", "most"] (spRn K) := by
  refine okD T.F_BodyReader_number sc_BodyReader_number (fun vs H Q E h => ?_) (fun cdv A outer s H vs Q E hr h => ?_)
  · obtain ⟨_, _, _, _, _, _, _, _, rfl, _⟩ := h
    rfl
  obtain ⟨q, dx, b, body, rest, lo, hi, n, rfl, R, hn, h1, h2, k⟩ := h
  obtain ⟨at_, ob, hb, hat, hd, hl⟩ := id R
  have nd := sc_BodyReader_number.nd
  refine ⟨_, ((pss_cons (ps_try_thru0 (pss_one (ps_asg (pe_call (ok_get_steps T) (hr.mono (by decide)) rfl T.g_get_steps T.k_get_steps T.b_get_steps .nil pass0 (pa_cons (pe_fld (pv 0) rfl) (pa_cons (pe_fld (pv 0) rfl) pa_nil))) (pg_tup_ K rfl rfl (n := 2) (pgs_cons (pg_name (i := 3) nd rfl (Or.inl rfl)) (pgs_cons (pg_name (i := 4) nd rfl (Or.inl rfl)) pgs_nil))))))
      (pss_cons (ps_if (pt_notC (pt_chain op_le op_le (pv 1) (pv 3) (pv 2))) (pss_one ps_never) pss_nil)
      (pss_cons (ps_fld (pv 0) (pv 4) rfl)
      (pss_one (ps_ret (pv 3))))))), ?_⟩
  refine ⟨_, rfl, q, _, dx, _, _, rfl, ob, T.c_BodyReader, T.a_BodyReader_body, gBR_body _ _, _, rfl, q, _, dx, _, _, rfl, ob, T.c_BodyReader, T.a_BodyReader_at, gBR_at _ _, b, body, at_, n, rest, rfl, hb, by omega, hn, hd, hat, fun p np => ?_⟩
  refine ⟨p, _, rfl, SqT.of upd_same, rfl, _, _, rfl, _, _, rfl, rfl, ?_⟩
  refine ⟨_, rfl, _, rfl, _, _, rfl, rfl, _, rfl, yT h1 ⟨_, rfl, _, _, rfl, rfl, _, rfl, yT h2 ?_⟩⟩
  refine ⟨_, rfl, _, rfl, q, _, dx, _, rfl, upd_keep ob np, T.c_BodyReader, T.a_BodyReader_at, by show 2 < 1000; decide, ?_⟩
  refine ⟨_, rfl, k _ (But1.of (Same.new np)) ⟨at_ + (putS n).length, by rw [upd_same, pBR_at], ?_, ?_, ?_, hl⟩⟩
  · show upd _ _ _ _ = _
    rw [upd_ne (fun z => by rw [z] at hb; exact absurd (hb.symm.trans ob) (by simp))]
    exact hb.keep np
  · have := congrArg List.length hd
    rw [List.length_drop, List.length_append] at this
    omega
  · rw [← List.drop_drop, hd, List.drop_left]
def spRt (K : PySem.W.Frag) : Sp := fun vs H Q _ => ∃ (q dx b : Addr) (body xs rest : List Int), vs = [.ref q, .int xs.length] ∧ Rd (ga K "BodyReader") H q dx b body (xs ++ rest) ∧
  ∀ H' v, But1 H H' q → H v = none → Li H' v xs → Rd (ga K "BodyReader") H' q dx b body rest → Q (.ref v) H'
theorem ok_BodyReader_take (T : Txt K mg) : FnOk P w K mg base CX0 1 (ma K (ga K "BodyReader") "take") (fdAt K (ma K (ga K "BodyReader") "take")) ["self", "size"] (spRt K) := by
  refine okD T.F_BodyReader_take sc_BodyReader_take (fun vs H Q E h => ?_) (fun cdv A outer s H vs Q E hr h => ?_)
  · obtain ⟨_, _, _, _, _, _, rfl, _⟩ := h
    rfl
  obtain ⟨q, dx, b, body, xs, rest, rfl, R, k⟩ := h
  obtain ⟨at_, ob, hb, hat, hd, hl⟩ := id R
  have nd := sc_BodyReader_take.nd
  have hle : at_ + xs.length ≤ body.length := by
    have := congrArg List.length hd
    rw [List.length_drop, List.length_append] at this
    omega
  refine ⟨_, ((pss_cons (ps_if (pt_cmpR op_gt (pe_op op_add (pe_fld (pv 0) rfl) (pv 1)) (pe_callB (lenS_ K rfl) rfl T.n_len boot_len (pa_cons (pe_fld (pv 0) rfl) pa_nil)) (nomark _)) (pss_one ps_never) pss_nil)
      (pss_cons (ps_fld (pv 0) (pe_op op_add (pe_fld (pv 0) rfl) (pv 1)) rfl)
      (pss_one (ps_ret (pe_slice sl_list (pe_fld (pv 0) rfl) (po_some (pe_op op_sub (pe_fld (pv 0) rfl) (pv 1))) (po_some (pe_fld (pv 0) rfl)))))))), ?_⟩
  refine ⟨_, rfl, q, _, dx, _, _, rfl, ob, T.c_BodyReader, T.a_BodyReader_at, gBR_at _ _, _, rfl, _, _, rfl, rfl, _, rfl, q, _, dx, _, _, rfl, ob, T.c_BodyReader, T.a_BodyReader_body, gBR_body _ _, _, _, rfl, .inl hb.sq, ?_⟩
  have nbq : b ≠ q := fun z => by rw [z] at hb; exact absurd (hb.symm.trans ob) (by simp)
  rw [List.length_map]
  refine ⟨_, _, rfl, rfl, _, rfl, yF (by omega) ?_⟩
  refine ⟨_, rfl, q, _, dx, _, _, rfl, ob, T.c_BodyReader, T.a_BodyReader_at, gBR_at _ _, _, rfl, _, _, rfl, rfl, _, rfl, q, _, dx, _, rfl, ob, T.c_BodyReader, T.a_BodyReader_at, by show 2 < 1000; decide, ?_⟩
  rw [pBR_at]
  have ob2 : upd H q (.ins (ga K "BodyReader") dx (flBR (.ref b) (.int ((at_ : Int) + (xs.length : Int))))) q = some (.ins (ga K "BodyReader") dx (flBR (.ref b) (.int ((at_ : Int) + (xs.length : Int))))) := upd_same
  have hb2 : Li (upd H q (.ins (ga K "BodyReader") dx (flBR (.ref b) (.int ((at_ : Int) + (xs.length : Int)))))) b body := (upd_ne nbq).trans hb
  have B2 : But1 H (upd H q (.ins (ga K "BodyReader") dx (flBR (.ref b) (.int ((at_ : Int) + (xs.length : Int)))))) q := But1.of (Same.refl _)
  generalize upd H q (.ins (ga K "BodyReader") dx (flBR (.ref b) (.int ((at_ : Int) + (xs.length : Int))))) = H2 at ob2 hb2 B2
  refine ⟨_, rfl, q, _, dx, _, _, rfl, ob2, T.c_BodyReader, T.a_BodyReader_body, gBR_body _ _, ?_⟩
  refine ⟨_, rfl, q, _, dx, _, _, rfl, ob2, T.c_BodyReader, T.a_BodyReader_at, gBR_at _ _, _, rfl, _, _, rfl, rfl, _, rfl, _, rfl, q, _, dx, _, _, rfl, ob2, T.c_BodyReader, T.a_BodyReader_at, gBR_at _ _, _, rfl, _, _, rfl, hb2.sq, fun v nv => ?_⟩
  have hcut : cutV (body.map V.int) (some ((at_ : Int) + (xs.length : Int) - (xs.length : Int))) (some ((at_ : Int) + (xs.length : Int))) = xs.map V.int := by
    rw [show (at_ : Int) + (xs.length : Int) - (xs.length : Int) = ((at_ : Nat) : Int) by omega, show (at_ : Int) + (xs.length : Int) = ((at_ + xs.length : Nat) : Int) by omega, cut_nat (by omega) (by omega) (by omega), hd, show at_ + xs.length - at_ = xs.length by omega, List.take_left]
  rw [hcut]
  have nvH : H v = none := by
    cases e : H v with
    | none => rfl
    | some u =>
      by_cases z : v = q
      · subst z; rw [ob2] at nv; cases nv
      · rw [B2 v u e z] at nv; cases nv
  refine k _ v (fun a o h n => upd_keep (B2 a o h n) nv) nvH upd_same ⟨at_ + xs.length, upd_keep (by rw [ob2]; rfl) nv, hb2.keep nv, by omega, ?_, hl⟩
  rw [← List.drop_drop, hd, List.drop_left]
def spRc (K : PySem.W.Frag) : Sp := fun vs H Q _ => ∃ (q dx b : Addr) (body : List Int), vs = [.ref q] ∧ Rd (ga K "BodyReader") H q dx b body [] ∧ Q .non H
theorem ok_BodyReader_close (T : Txt K mg) : FnOk P w K mg base CX0 1 (ma K (ga K "BodyReader") "close") (fdAt K (ma K (ga K "BodyReader") "close")) ["self"] (spRc K) := by
  refine okD T.F_BodyReader_close sc_BodyReader_close (fun vs H Q E h => ?_) (fun cdv A outer s H vs Q E hr h => ?_)
  · obtain ⟨_, _, _, _, rfl, _⟩ := h
    rfl
  obtain ⟨q, dx, b, body, rfl, R, k⟩ := h
  obtain ⟨at_, ob, hb, hat, hd, hl⟩ := id R
  have nd := sc_BodyReader_close.nd
  have hle : body.length ≤ at_ := by
    have := congrArg List.length hd
    rw [List.length_drop] at this
    simp at this
    omega
  refine ⟨_, ((pss_one (ps_if (pt_cmpR op_lt (pe_fld (pv 0) rfl) (pe_callB (lenS_ K rfl) rfl T.n_len boot_len (pa_cons (pe_fld (pv 0) rfl) pa_nil)) (nomark _)) (pss_one ps_never) pss_nil))), ?_⟩
  refine ⟨_, rfl, q, _, dx, _, _, rfl, ob, T.c_BodyReader, T.a_BodyReader_at, gBR_at _ _, _, rfl, q, _, dx, _, _, rfl, ob, T.c_BodyReader, T.a_BodyReader_body, gBR_body _ _, _, _, rfl, .inl hb.sq, ?_⟩
  rw [List.length_map]
  exact ⟨_, _, rfl, rfl, _, rfl, yF (by omega) k⟩
def spCh : Sp := fun vs H Q _ => ∃ c : Nat, vs = [.int c] ∧ 32 ≤ c ∧ c ≤ 126 ∧ c ≠ 37 ∧ Q (.str ⟨#[c]⟩) H
theorem ok_char_of (T : Txt K mg) : FnOk P w K mg base CX0 1 (ga K "char_of") (fdAt K (ga K "char_of")) ["byte"] spCh := by
  refine okD T.F_char_of sc_char_of (fun vs H Q E h => ?_) (fun cdv A outer s H vs Q E hr h => ?_)
  · obtain ⟨_, rfl, _⟩ := h
    rfl
  obtain ⟨c, rfl, h1, h2, h3, k⟩ := h
  have nd := sc_char_of.nd
  refine ⟨_, ((pss_cons (ps_if (PW.pt (pw_or (pt_cmpR op_lt (pv 0) pe_int (nomark _)) (pw_or (pt_cmpR op_gt (pv 0) pe_int (nomark _)) (pw_or1 (pt_cmpR op_eq (pv 0) pe_int (nomark _)))))) (pss_one ps_never) pss_nil)
      (pss_one (ps_ret (pe_ix ix_str (pe_gstr T.s_CHARS) (pe_op op_sub (pe_op op_sub (pv 0) pe_int) (pe_callTy call_int1 rfl T.n_int boot_int (pa_cons (pe_cmpR op_gt (pv 0) pe_int (nomark _)) pa_nil))) (fun _ _ => rfl)))))), ?_⟩
  refine ⟨_, rfl, _, _, rfl, rfl, _, rfl, yF (by omega) ⟨_, rfl, _, _, rfl, rfl, _, rfl, yF (by omega) ⟨_, rfl, rfl, _, rfl, ifF (bl_f fun z => h3 (by have := V.int.inj z; omega)) ?_⟩⟩⟩
  refine ⟨_, rfl, _, _, rfl, rfl, _, rfl, _, _, rfl, rfl, .inr ⟨_, rfl, _, _, rfl, rfl, _, _, _, rfl, rfl, by decide, ?_, k⟩⟩
  have hall : ∀ c : Nat, c < 127 → 32 ≤ c → c ≠ 37 → atI (PySem.Str.cps " !\"#$&'()*+,-./0123456789:;<=>?@ABCDEFGHIJKLMNOPQRSTUVWXYZ[\\]^_`abcdefghijklmnopqrstuvwxyz{|}~").toList ((c : Int) - 32 - (if decide ((37 : Int) < (c : Int)) = true then 1 else 0)) = some c := by decide
  exact hall c (by omega) h1 h3
theorem one_chars (l : List Nat) : TL.joinL [] (l.map fun c => [c]) = l := by
  induction l with
  | nil => rfl
  | cons x l ih =>
    cases l with
    | nil => rfl
    | cons y l =>
      rw [List.map_cons, List.map_cons] at *
      show [x] ++ [] ++ TL.joinL [] ([y] :: l.map fun c => [c]) = _
      rw [ih]
      rfl
theorem join_one (s : Str) : Txt.join "" ((chs s).map fun c => (⟨#[c]⟩ : Str)) = s := by
  have e := SX.join_S [] ((chs s).map fun c => [c])
  rw [one_chars, List.map_map] at e
  exact e
theorem one_sum : ∀ l : List Nat, ((l.map fun c => (⟨#[c]⟩ : Str)).map (·.length)).sum = l.length
  | [] => rfl
  | x :: l => by
    rw [List.map_cons, List.map_cons, List.sum_cons, one_sum l, List.length_cons, Nat.add_comm]
    rfl
def spRx (K : PySem.W.Frag) : Sp := fun vs H Q _ => ∃ (q dx b : Addr) (body rest : List Int) (s : Str) (n : Nat), vs = [.ref q, .int n] ∧ Rd (ga K "BodyReader") H q dx b body (tb s ++ rest) ∧ OkText s n ∧ n ≤ 1000 ∧
  ∀ H', But1 H H' q → Rd (ga K "BodyReader") H' q dx b body rest → Q (.str s) H'
theorem ok_BodyReader_text (T : Txt K mg) : FnOk P w K mg base CX0 3 (ma K (ga K "BodyReader") "text") (fdAt K (ma K (ga K "BodyReader") "text")) ["self", "most"] (spRx K) := by
  refine okD T.F_BodyReader_text sc_BodyReader_text (fun vs H Q E h => ?_) (fun cdv A outer s H vs Q E hr h => ?_)
  · obtain ⟨_, _, _, _, _, _, _, rfl, _⟩ := h
    rfl
  obtain ⟨q, dx, b, body, rest, s, n, rfl, R, ⟨hl, hc⟩, hn, k⟩ := h
  have nd := sc_BodyReader_text.nd
  have hcl := chs_len s
  have htl : (txt s).length = s.length := by rw [txt, List.length_map, hcl]
  rw [tb, List.append_assoc] at R
  obtain ⟨a0, ob, _⟩ := id R
  refine ⟨_, ((pss_one (ps_ret (pe_join pe_str (pe_lc (own := [("byte", 2)]) rfl nd (pi_list (pe_meth (pv 0) T.c_BodyReader T.m_BodyReader_take (ok_BodyReader_take T) (hr.mono (by decide)) T.b_BodyReader_take .nil pass0 (pa_cons (pe_meth (pv 0) T.c_BodyReader T.m_BodyReader_number (ok_BodyReader_number T) (hr.mono (by decide)) T.b_BodyReader_number .nil pass0 (pa_cons pe_int (pa_cons (pv 1) pa_nil))) pa_nil))) (blkOk_by (N := N_BodyReader_text) (sc := defScope s_BodyReader_text) (by decide +kernel)) (fun _ _ _ _ _ => (pg_name (i := 2) nd rfl (Or.inl rfl))) (fun _ _ _ _ _ => pts_nil) (fun _ _ _ _ _ => (pe_call (ok_char_of T) (hr.mono (by decide)) rfl T.g_char_of T.k_char_of T.b_char_of .nil pass0 (pa_cons (pv 2) pa_nil)))))))), ?_⟩
  refine ⟨⟨_, rfl⟩, _, rfl, q, dx, _, rfl, ob, nBR_take _ _, _, rfl, q, dx, _, rfl, ob, nBR_number _ _, _, rfl, q, dx, b, body, txt s ++ rest, 0, n, s.length, rfl, R, by omega, by omega, by omega, fun H1 b1 R1 => ?_⟩
  refine ⟨q, dx, b, body, txt s, rest, by rw [htl]; rfl, R1, fun H2 v b2 nv hv R2 => ?_⟩
  refine ⟨v, rfl, ⟨_, hv.sq⟩, fun D hD => lc_list (K := K) (a := v) (xs := (txt s).map V.int) (fun j H3 => H3 = upd H2 D (.lst ((((chs s).map fun c => (⟨#[c]⟩ : Str)).take j).map V.str)))
      rfl (fun j H3 _ e => by rw [e]; exact (hv.keep hD).sq) ?_ ?_⟩
  · rintro j x H3 hj rfl
    obtain ⟨z, hz, rfl⟩ := int_at hj
    rw [txt, List.getElem?_map] at hz
    obtain ⟨c, hc2, rfl⟩ := Option.map_eq_some_iff.mp hz
    have hcc := hc c (List.mem_of_getElem? hc2)
    have hjl := lt_of_at hc2
    have h2 : ((chs s).map fun c => (⟨#[c]⟩ : Str))[j]? = some ⟨#[c]⟩ := by rw [List.getElem?_map, hc2]; rfl
    refine ⟨rfl, _, rfl, c, rfl, hcc.1, hcc.2.1, hcc.2.2, _, upd_same, lsz' (by simp; omega), ?_⟩
    rw [take_snoc h2, upd_upd, List.map_append]
    rfl
  · rintro H3 rfl
    rw [List.take_of_length_le (by simp [htl, hcl])]
    refine ⟨_, D, (chs s).map fun c => (⟨#[c]⟩ : Str), rfl, rfl, .inl (SqL.of (by rw [upd_same])), ?_, ?_⟩
    · rw [one_sum, show PySem.Str.length "" = 0 by decide, Nat.mul_zero]
      omega
    · show Q (.str (Txt.join "" ((chs s).map fun c => (⟨#[c]⟩ : Str)))) _
      rw [join_one]
      refine k _ (fun a o h ne => upd_keep (b2 _ _ (b1 _ _ h ne) ne) hD) (R2.mono (Same.new hD))
def spRw (K : PySem.W.Frag) : Sp := fun vs H Q _ => ∃ (q dx b : Addr) (body rest : List Int) (s : Str), vs = [.ref q] ∧ Rd (ga K "BodyReader") H q dx b body (tb s ++ rest) ∧ OkWord s ∧
  ∀ H', But1 H H' q → Rd (ga K "BodyReader") H' q dx b body rest → Q (.str s) H'
theorem ok_BodyReader_word (T : Txt K mg) : FnOk P w K mg base CX0 4 (ma K (ga K "BodyReader") "word") (fdAt K (ma K (ga K "BodyReader") "word")) ["self"] (spRw K) := by
  refine okD T.F_BodyReader_word sc_BodyReader_word (fun vs H Q E h => ?_) (fun cdv A outer s H vs Q E hr h => ?_)
  · obtain ⟨_, _, _, _, _, _, rfl, _⟩ := h
    rfl
  obtain ⟨q, dx, b, body, rest, s, rfl, R, hw, k⟩ := h
  have nd := sc_BodyReader_word.nd
  obtain ⟨a0, ob, _⟩ := id R
  obtain ⟨w1, w2, w3⟩ := id hw
  refine ⟨_, ((pss_cons (ps_set (i := 1) nd rfl (Or.inl rfl) (pe_meth (pv 0) T.c_BodyReader T.m_BodyReader_text (ok_BodyReader_text T) (hr.mono (by decide)) T.b_BodyReader_text .nil pass0 (pa_cons (pe_gint T.i_MOST_WORD) pa_nil)))
      (pss_cons (ps_if (pt_notC (pt_val (pe_call (ok_is_word T) (hr.mono (by decide)) rfl T.g_is_word T.k_is_word T.b_is_word .nil pass0 (pa_cons (pv 1) pa_nil)))) (pss_one ps_never) pss_nil)
      (pss_one (ps_ret (pv 1)))))), ?_⟩
  refine ⟨_, rfl, q, dx, _, rfl, ob, nBR_text _ _, q, dx, b, body, rest, s, 16, rfl, R, ⟨w2, fun c hc => by have := w3 c hc; omega⟩, by omega, fun H1 b1 R1 => ?_⟩
  refine ⟨_, rfl, s, rfl, hw, fun H2 s2 => ⟨_, rfl, _, rfl, k _ (fun a o h ne => s2 _ _ (b1 _ _ h ne)) (R1.mono s2)⟩⟩
end
end Sp
namespace Sp
open PySem PySem.Spec PyProof.Rows L2
section
variable {P : Program} {w : World} {K : PySem.W.Frag} {mg : Str → Option Value} {base : Heap}
def spRe : Sp := fun vs H Q _ => ∃ (b : Addr) (n m : Nat), vs = [.ref b] ∧ Li H b (endB n m) ∧ n ≤ 1000000 ∧ m < 4294967296 ∧
  ∀ H' v, Same H H' → cPair.R (fresh' H H') v ((n : Int), (m : Int)) → Q v H'
theorem ok_read_end (T : Txt K mg) : FnOk P w K mg base CX0 3 (ga K "read_end") (fdAt K (ga K "read_end")) ["body"] spRe := by
  refine okD T.F_read_end sc_read_end (fun vs H Q E h => ?_) (fun cdv A outer s H vs Q E hr h => ?_)
  · obtain ⟨_, _, _, rfl, _⟩ := h
    rfl
  obtain ⟨b, n, m, rfl, hb, hn, hm, k⟩ := h
  have nd := sc_read_end.nd
  have hl := (endB_ok (n := n) (m := m))
  have p3 := putS_len6 (n := n) (by omega)
  have hbl : (endB n m).length ≤ 10 := by simp only [endB, List.length_append, four_len]; omega
  refine ⟨_, ((pss_cons (ps_set (i := 1) nd rfl (Or.inl rfl) (pe_make T.mk_BodyReader (ok_BodyReader_init T) (hr.mono (by decide)) rfl T.g_BodyReader T.b_BodyReader_init .nil pass0 (pa_cons (pv 0) pa_nil)))
      (pss_cons (ps_set (i := 2) nd rfl (Or.inl rfl) (pe_meth (pv 1) T.c_BodyReader T.m_BodyReader_number (ok_BodyReader_number T) (hr.mono (by decide)) T.b_BodyReader_number .nil pass0 (pa_cons pe_int (pa_cons (pe_gint T.i_MOST_LEAVES) pa_nil))))
      (pss_cons (ps_set (i := 3) nd rfl (Or.inl rfl) (pe_call (ok_number_of T) (hr.mono (by decide)) rfl T.g_number_of T.k_number_of T.b_number_of .nil pass0 (pa_cons (pe_meth (pv 1) T.c_BodyReader T.m_BodyReader_take (ok_BodyReader_take T) (hr.mono (by decide)) T.b_BodyReader_take .nil pass0 (pa_cons pe_int pa_nil)) pa_nil)))
      (pss_cons (ps_expr (pe_meth0 (pv 1) T.c_BodyReader T.m_BodyReader_close (ok_BodyReader_close T) (hr.mono (by decide)) T.b_BodyReader_close .nil pass0))
      (pss_one (ps_ret (pe_tup (pa_cons (pv 2) (pa_cons (pv 3) pa_nil)))))))))), ?_⟩
  refine ⟨_, rfl, fun q dx nq ndx neq => ?_⟩
  have s0 : Same H (upd (upd H dx (.own q)) q (.ins (ga K "BodyReader") dx [])) := fun a o h => (upd_ne (ne_of_none h nq)).trans ((upd_ne (ne_of_none h ndx)).trans h)
  refine ⟨q, dx, b, _, rfl, upd_same, hb.mono s0, ne_of_none hb nq, by omega, fun H1 b1 R1 => ⟨rfl, ?_⟩⟩
  have s1 : Same H H1 := b1.frz s0 nq
  obtain ⟨a1, o1, _⟩ := id R1
  have hh : (n : Int) ≤ 4294967295 := by omega
  refine ⟨_, rfl, q, dx, _, rfl, o1, nBR_number _ _, q, dx, b, _, four m, 0, _, n, rfl, R1, by omega, by omega, ?_, fun H2 b2 R2 => ?_⟩
  · exact hh
  have s2 := b2.frz s1 nq
  obtain ⟨a2, o2, _⟩ := id R2
  have R2' : Rd (ga K "BodyReader") H2 q dx b (endB n m) (four m ++ []) := by rw [List.append_nil]; exact R2
  refine ⟨_, rfl, q, dx, _, rfl, o2, nBR_take _ _, q, dx, b, _, four m, [], rfl, R2', fun H3 v b3 nv hv R3 => ?_⟩
  have s3 := b3.frz s2 nq
  obtain ⟨a3, o3, _⟩ := id R3
  refine ⟨v, m, rfl, hm, hv, ?_⟩
  refine ⟨_, rfl, q, dx, _, rfl, o3, nBR_close _ _, q, dx, b, _, rfl, R3, ?_⟩
  refine ⟨_, rfl, _, rfl, lsz (by simp), fun t nt => ?_⟩
  exact k _ _ (s3.add nt) ⟨t, _, _, rfl, fresh_of upd_same (s3.free nt), rfl, rfl⟩
def spRdi : Sp := fun vs H Q _ => ∃ (b : Addr) (es : List (Int × Int × Int)), vs = [.ref b] ∧ Li H b (idxB es) ∧ es.length ≤ 50 ∧ (∀ e ∈ es, OkEnt e) ∧
  ∀ H' v, Same H H' → (cL c3i).R (fresh' H H') v es → Q v H'
theorem ok_read_index (T : Txt K mg) : FnOk P w K mg base CX0 3 (ga K "read_index") (fdAt K (ga K "read_index")) ["body"] spRdi := by
  refine okD T.F_read_index sc_read_index (fun vs H Q E h => ?_) (fun cdv A outer s H vs Q E hr h => ?_)
  · obtain ⟨_, _, rfl, _⟩ := h
    rfl
  obtain ⟨b, es, rfl, hb, hn, hok, k⟩ := h
  have nd := sc_read_index.nd
  have p3 := putS_len6 (n := es.length) (by omega)
  have fl := flat_le (l := es) (f := ib) (n := 18) fun r hr => ib_le (hok r hr)
  have hbl : (idxB es).length ≤ 906 := by simp only [idxB, List.length_append]; omega
  refine ⟨_, ((pss_cons (ps_set (i := 1) nd rfl (Or.inl rfl) (pe_make T.mk_BodyReader (ok_BodyReader_init T) (hr.mono (by decide)) rfl T.g_BodyReader T.b_BodyReader_init .nil pass0 (pa_cons (pv 0) pa_nil)))
      (pss_cons (ps_set (i := 2) nd rfl (Or.inl rfl) (pe_lst pa_nil))
      (pss_cons (ps_for PassesOwn.never rfl (pi_range1 rfl T.n_range (pa_cons (pe_meth (pv 1) T.c_BodyReader T.m_BodyReader_number (ok_BodyReader_number T) (hr.mono (by decide)) T.b_BodyReader_number .nil pass0 (pa_cons pe_int (pa_cons (pe_gint T.i_MOST_ENTRIES) pa_nil))) pa_nil)) (pg_name (i := 3) nd rfl (Or.inl rfl)) (pss_cons (ps_set (i := 4) nd rfl (Or.inl rfl) (pe_meth (pv 1) T.c_BodyReader T.m_BodyReader_number (ok_BodyReader_number T) (hr.mono (by decide)) T.b_BodyReader_number .nil pass0 (pa_cons pe_int (pa_cons (pe_gint T.i_MOST_TRACKS) pa_nil))))
        (pss_cons (ps_set (i := 5) nd rfl (Or.inl rfl) (pe_meth (pv 1) T.c_BodyReader T.m_BodyReader_number (ok_BodyReader_number T) (hr.mono (by decide)) T.b_BodyReader_number .nil pass0 (pa_cons pe_int (pa_cons (pe_op op_sub (pe_gint T.i_TIME_BOUND) pe_int) pa_nil))))
        (pss_one (ps_expr (pe_bm PySem.F.plainAttrs_list PySem.F.slot_list_append PySem.F.type_list_append mt_append (pv 2) (pa_cons (pe_tup (pa_cons (pv 4) (pa_cons (pv 5) (pa_cons (pe_meth (pv 1) T.c_BodyReader T.m_BodyReader_number (ok_BodyReader_number T) (hr.mono (by decide)) T.b_BodyReader_number .nil pass0 (pa_cons pe_int (pa_cons (pe_op op_sub (pe_gint T.i_TIME_BOUND) pe_int) pa_nil))) pa_nil)))) pa_nil)))))))
      (pss_cons (ps_expr (pe_meth0 (pv 1) T.c_BodyReader T.m_BodyReader_close (ok_BodyReader_close T) (hr.mono (by decide)) T.b_BodyReader_close .nil pass0))
      (pss_one (ps_ret (pv 2)))))))), ?_⟩
  refine ⟨_, rfl, fun q dx nq ndx neq => ?_⟩
  have s0 : Same H (upd (upd H dx (.own q)) q (.ins (ga K "BodyReader") dx [])) := fun a o h => (upd_ne (ne_of_none h nq)).trans ((upd_ne (ne_of_none h ndx)).trans h)
  refine ⟨q, dx, b, _, rfl, upd_same, hb.mono s0, ne_of_none hb nq, by omega, fun H1 b1 R1 => ⟨rfl, ?_⟩⟩
  have s1 : Same H H1 := b1.frz s0 nq
  refine ⟨Nat.zero_le _, fun f nf => ?_⟩
  have nfH := s1.free nf
  have nfq := R1.nq nf
  have R1' := R1.mono (Same.new (o := .lst []) nf)
  have s1' : Same H (upd H1 f (.lst [])) := s1.add nf
  have hf : upd H1 f (.lst []) f = some (.lst []) := upd_same
  generalize upd H1 f (.lst []) = H1' at R1' s1' hf
  obtain ⟨a1, o1, _⟩ := id R1'
  refine ⟨_, rfl, q, dx, _, rfl, o1, nBR_number _ _, q, dx, b, _, es.flatMap ib, 0, _, es.length, rfl, R1', by omega, by omega, by omega, fun H2 b2 R2 => ?_⟩
  have s2 := b2.frz s1' nq
  have hf2 := b2 _ _ hf nfq
  refine ⟨_, rfl, by omega, by omega, for_range (n := ((es.length : Nat) : Int).toNat) (fun i σ H' => ∃ (u v z : Option V) (G : Hp) (us : List V), σ = [some (.ref b), some (.ref q), some (.ref f), u, v, z] ∧ Same H G ∧ Same G H' ∧ G f = none ∧ G q = none ∧
      Rd (ga K "BodyReader") H' q dx b (idxB es) ((es.drop i).flatMap ib) ∧ H' f = some (.lst us) ∧ Paired (c3i.R (fresh' H G)) us (es.take i))
    ⟨none, none, none, H, [], rfl, Same.refl _, s2, nfH, nq, R2, hf2, .nil⟩ ?_ ?_⟩
  · rintro i σ H' hi ⟨u, v, z, G, us, rfl, sG, sH, fG, qG, R, hf, hp⟩
    have hi2 : i < es.length := by omega
    have he : es[i]? = some es[i] := List.getElem?_eq_getElem hi2
    rw [List.drop_eq_getElem_cons hi2, List.flatMap_cons, ib, List.append_assoc, List.append_assoc] at R
    generalize es[i] = e at *
    obtain ⟨⟨t1, t2⟩, ⟨m1, m2⟩, f1, f2⟩ := hok e (List.mem_of_getElem? he)
    obtain ⟨a1, o1, _⟩ := id R
    refine ⟨_, rfl, q, dx, _, rfl, o1, nBR_number _ _, q, dx, b, _, _, 0, _, e.1.toNat, rfl, R, by omega, by omega, by omega, fun H3 b3 R3 => ?_⟩
    obtain ⟨a3, o3, _⟩ := id R3
    have hh : ((e.2.1.toNat : Nat) : Int) ≤ 1099511627776 - 1 := by omega
    have hh2 : ((e.2.2.toNat : Nat) : Int) ≤ 1099511627776 - 1 := by omega
    refine ⟨_, rfl, q, dx, _, rfl, o3, nBR_number _ _, _, _, rfl, rfl, q, dx, b, _, _, 0, _, e.2.1.toNat, rfl, R3, by omega, by omega, ?_, fun H4 b4 R4 => ?_⟩
    · exact hh
    have s4 := b4.frz (b3.frz sH qG) qG
    have hf4 := b4 _ _ (b3 _ _ hf nfq) nfq
    obtain ⟨a4, o4, _⟩ := id R4
    refine ⟨_, rfl, .inl ⟨rfl, _, SqL.of hf4⟩, _, rfl, _, rfl, _, rfl, q, dx, _, rfl, o4, nBR_number _ _, _, _, rfl, rfl, q, dx, b, _, _, 0, _, e.2.2.toNat, rfl, R4, by omega, by omega, ?_, fun H5 b5 R5 => ?_⟩
    · exact hh2
    have s5 := b5.frz s4 qG
    have hf5 := b5 _ _ hf4 nfq
    refine ⟨lsz (by simp), fun t nt => ?_⟩
    have ntG := s5.free nt
    have nft : f ≠ t := ne_of_none hf5 nt
    have nfb : f ≠ b := fun z => by rw [z] at fG; exact absurd ((sG _ _ hb).symm.trans fG) (by simp)
    refine ⟨f, _, _, rfl, rfl, upd_keep hf5 nt, lsz' (by rw [hp.length, List.length_take]; omega), _, _, _, upd G t (.tup [.int e.1.toNat, .int e.2.1.toNat, .int e.2.2.toNat]), us ++ [.ref t], rfl, sG.add ntG, (Same.both s5 t _).mut ((upd_ne nft).trans fG), (upd_ne nft).trans fG, (upd_ne (R5.nq nt).symm).trans qG, (R5.mono (Same.new nt)).upd nfq nfb, upd_same, ?_⟩
    rw [take_snoc he]
    refine papp (pmap hp fun _ _ r => c3i.mono (fresh_mono (Same.new ntG)) r) (.cons ⟨t, _, _, _, rfl, fresh_of upd_same (sG.free ntG), ?_, ?_, ?_⟩ .nil)
    · exact congrArg V.int (Int.toNat_of_nonneg t1)
    · exact congrArg V.int (Int.toNat_of_nonneg m1)
    · exact congrArg V.int (Int.toNat_of_nonneg f1)
  · rintro σ H' ⟨u, v, z, G, us, rfl, sG, sH, fG, qG, R, hf, hp⟩
    rw [List.drop_of_length_le (by omega)] at R
    rw [List.take_of_length_le (by omega)] at hp
    obtain ⟨a1, o1, _⟩ := id R
    refine ⟨_, rfl, q, dx, _, rfl, o1, nBR_close _ _, q, dx, b, _, rfl, R, ⟨_, rfl, ?_⟩⟩
    exact k _ _ (sG.trans sH) ⟨f, us, rfl, fresh_of hf nfH, pmap hp fun _ _ r => c3i.mono (fresh_mono sH) r⟩
end
end Sp
namespace Sp
open PySem PySem.Spec PyProof.Rows L2
theorem atI_last {vs : List V} {x : V} (h : vs[vs.length - 1]? = some x) (hl : 0 < vs.length) : atI vs (-1) = some x := by
  unfold atI ixN
  rw [if_neg (by decide), if_pos (by omega)]
  show vs[((-1 : Int) + (vs.length : Int)).toNat]? = _
  rw [show ((-1 : Int) + (vs.length : Int)).toNat = vs.length - 1 by omega]
  exact h
section
variable {P : Program} {w : World} {K : PySem.W.Frag} {mg : Str → Option Value} {base : Heap}
def spRdt : Sp := fun vs H Q _ => ∃ (b : Addr) (tags : List (Str × Str)), vs = [.ref b] ∧ Li H b (tagsBody tags) ∧ OkTags tags ∧ 0 < tags.length ∧
  ∀ H' v, Same H H' → cTags.R (fresh' H H') v tags → Q v H'
theorem ok_read_tags (T : Txt K mg) : FnOk P w K mg base CX0 5 (ga K "read_tags") (fdAt K (ga K "read_tags")) ["body"] spRdt := by
  refine okD T.F_read_tags sc_read_tags (fun vs H Q E h => ?_) (fun cdv A outer s H vs Q E hr h => ?_)
  · obtain ⟨_, _, rfl, _⟩ := h
    rfl
  obtain ⟨b, tags, rfl, hb, ok, hpos, k⟩ := h
  have nd := sc_read_tags.nd
  have hn := ok.len
  have p3 := putS_len6 (n := tags.length) (by omega)
  have p1 := putS_pos tags.length
  have fl := flat_le (l := tags) (f := fun t => tb t.1 ++ tb t.2) (n := 128) fun r hr => by
    have := tb_le (ok.key r hr).2.1 (by decide)
    have := tb_le (ok.val r hr).1 (by decide)
    rw [List.length_append]
    omega
  have fg : ∀ l : List (Str × Str), 2 * l.length ≤ (l.flatMap fun t => tb t.1 ++ tb t.2).length := fun l => by
    induction l with
    | nil => simp
    | cons t r ih =>
      have a1 := putS_pos t.1.length
      have a2 := putS_pos t.2.length
      rw [List.flatMap_cons, List.length_append, List.length_append, List.length_cons, tb, tb, List.length_append, List.length_append]
      omega
  have fg := fg tags
  have hbl : (tagsBody tags).length ≤ 262 := by simp only [tagsBody, List.length_append]; omega
  have hbl2 : tags.length ≤ (tagsBody tags).length := by simp only [tagsBody, List.length_append]; omega
  refine ⟨_, ((pss_cons (ps_set (i := 1) nd rfl (Or.inl rfl) (pe_make T.mk_BodyReader (ok_BodyReader_init T) (hr.mono (by decide)) rfl T.g_BodyReader T.b_BodyReader_init .nil pass0 (pa_cons (pv 0) pa_nil)))
      (pss_cons (ps_set (i := 2) nd rfl (Or.inl rfl) (pe_lst pa_nil))
      (pss_cons (ps_for PassesOwn.never rfl (pi_range1 rfl T.n_range (pa_cons (pe_meth (pv 1) T.c_BodyReader T.m_BodyReader_number (ok_BodyReader_number T) (hr.mono (by decide)) T.b_BodyReader_number .nil pass0 (pa_cons pe_int (pa_cons (pe_callB (lenS_ K rfl) rfl T.n_len boot_len (pa_cons (pv 0) pa_nil)) pa_nil))) pa_nil)) (pg_name (i := 3) nd rfl (Or.inl rfl)) (pss_cons (ps_set (i := 4) nd rfl (Or.inl rfl) (pe_meth0 (pv 1) T.c_BodyReader T.m_BodyReader_word (ok_BodyReader_word T) (hr.mono (by decide)) T.b_BodyReader_word .nil pass0))
        (pss_cons (ps_if (PW.pt (pw_and (pt_cmpR op_gt (pe_callB (lenS_ K rfl) rfl T.n_len boot_len (pa_cons (pv 2) pa_nil)) pe_int (nomark _)) (pw_and1 (pt_cmpR op_le_str (pv 4) (pe_ix (ixT_ K rfl) (pe_ix (ixL_ K rfl) (pv 2) (pe_un un_neg pe_int) (fun _ _ => rfl)) pe_int (fun _ _ => rfl)) (nomark _))))) (pss_one ps_never) pss_nil)
        (pss_one (ps_expr (pe_bm PySem.F.plainAttrs_list PySem.F.slot_list_append PySem.F.type_list_append mt_append (pv 2) (pa_cons (pe_tup (pa_cons (pv 4) (pa_cons (pe_meth (pv 1) T.c_BodyReader T.m_BodyReader_text (ok_BodyReader_text T) (hr.mono (by decide)) T.b_BodyReader_text .nil pass0 (pa_cons (pe_gint T.i_MOST_VALUE) pa_nil)) pa_nil))) pa_nil)))))))
      (pss_cons (ps_expr (pe_meth0 (pv 1) T.c_BodyReader T.m_BodyReader_close (ok_BodyReader_close T) (hr.mono (by decide)) T.b_BodyReader_close .nil pass0))
      (pss_cons (ps_if (pt_cmpR op_gt (pe_callB (lenS_ K rfl) rfl T.n_len boot_len (pa_cons (pv 0) pa_nil)) (pe_gint T.i_MOST_BODY_presentation) (nomark _)) (pss_one ps_never) pss_nil)
      (pss_one (ps_ret (pv 2))))))))), ?_⟩
  refine ⟨_, rfl, fun q dx nq ndx neq => ?_⟩
  have s0 : Same H (upd (upd H dx (.own q)) q (.ins (ga K "BodyReader") dx [])) := fun a o h => (upd_ne (ne_of_none h nq)).trans ((upd_ne (ne_of_none h ndx)).trans h)
  refine ⟨q, dx, b, _, rfl, upd_same, hb.mono s0, ne_of_none hb nq, by omega, fun H1 b1 R1 => ⟨rfl, ?_⟩⟩
  have s1 : Same H H1 := b1.frz s0 nq
  refine ⟨Nat.zero_le _, fun f nf => ?_⟩
  have nfH := s1.free nf
  have nfq := R1.nq nf
  have R1' := R1.mono (Same.new (o := .lst []) nf)
  have s1' : Same H (upd H1 f (.lst [])) := s1.add nf
  have hf : upd H1 f (.lst []) f = some (.lst []) := upd_same
  generalize upd H1 f (.lst []) = H1' at R1' s1' hf
  obtain ⟨a1, o1, _⟩ := id R1'
  refine ⟨_, rfl, q, dx, _, rfl, o1, nBR_number _ _, _, rfl, _, _, rfl, .inl (hb.mono s1').sq, q, dx, b, _, tags.flatMap (fun t => tb t.1 ++ tb t.2), 1, _, tags.length, rfl, R1', by omega, by omega, by rw [List.length_map]; omega, fun H2 b2 R2 => ?_⟩
  have s2 := b2.frz s1' nq
  have hf2 := b2 _ _ hf nfq
  refine ⟨_, rfl, by omega, by omega, for_range (n := ((tags.length : Nat) : Int).toNat) (fun i σ H' => ∃ (u v : Option V) (G : Hp) (us : List V), σ = [some (.ref b), some (.ref q), some (.ref f), u, v] ∧ Same H G ∧ Same G H' ∧ G f = none ∧ G q = none ∧
      Rd (ga K "BodyReader") H' q dx b (tagsBody tags) ((tags.drop i).flatMap fun (t : Str × Str) => tb t.1 ++ tb t.2) ∧ H' f = some (.lst us) ∧ Paired ((c2 cS cS).R (fresh' H G)) us (tags.take i))
    ⟨none, none, H, [], rfl, Same.refl _, s2, nfH, nq, R2, hf2, .nil⟩ ?_ ?_⟩
  · rintro i σ H' hi ⟨u, v, G, us, rfl, sG, sH, fG, qG, R, hf, hp⟩
    have hi2 : i < tags.length := by omega
    have he : tags[i]? = some tags[i] := List.getElem?_eq_getElem hi2
    rw [List.drop_eq_getElem_cons hi2, List.flatMap_cons, List.append_assoc] at R
    generalize tags[i] = e at *
    have hm := List.mem_of_getElem? he
    have hus : us.length = i := by rw [hp.length, List.length_take]; omega
    obtain ⟨a1, o1, _⟩ := id R
    refine ⟨_, rfl, q, dx, _, rfl, o1, nBR_word _ _, q, dx, b, _, _, e.1, rfl, R, ok.key e hm, fun H3 b3 R3 => ?_⟩
    have s3 := b3.frz sH qG
    have hf3 := b3 _ _ hf nfq
    obtain ⟨a3, o3, _⟩ := id R3
    dsimp only [gName]
    refine seq_mid (t := tIfS _ _ _) (fun σ' H' => σ' = [some (.ref b), some (.ref q), some (.ref f), some (.int (0 + (i : Int))), some (.str e.1)] ∧ H' = H3) (fun nx hnx => ?_) ?_
    · refine ⟨_, rfl, _, _, rfl, .inl (SqL.of hf3), _, _, rfl, rfl, _, rfl, ?_⟩
      by_cases c : 0 < i
      · have hpr : tags[i - 1]? = some tags[i - 1] := List.getElem?_eq_getElem (by omega)
        have hpr2 : (tags.take i)[i - 1]? = some tags[i - 1] := by rw [List.getElem?_take, if_pos (by omega)]; exact hpr
        obtain ⟨y0, hy0, t2, y1, y2, rfl, ht2, rfl, rfl⟩ := pget hp hpr2
        have hasc := ok.asc (i - 1) _ _ hpr (by rw [show i - 1 + 1 = i by omega]; exact he)
        refine yT (by omega) ⟨_, rfl, _, rfl, _, rfl, _, _, _, _, rfl, rfl, SqL.of hf3, atI_last (by rw [hus]; exact hy0) (by omega), _, _, _, _, rfl, rfl, SqT.of (s3 _ _ (fresh_sub _ _ _ _ ht2)), atI_nat (j := 0) rfl, _, _, rfl, rfl, _, rfl, ifF (nb_f hasc) (hnx _ _ ⟨rfl, rfl⟩)⟩
      · exact yF (by omega) (iteF (hnx _ _ ⟨rfl, rfl⟩))
    rintro _ _ ⟨rfl, rfl⟩
    refine ⟨_, rfl, .inl ⟨rfl, _, SqL.of hf3⟩, _, rfl, _, rfl, q, dx, _, rfl, o3, nBR_text _ _, q, dx, b, _, _, e.2, 100, rfl, R3, ok.val e hm, by omega, fun H5 b5 R5 => ?_⟩
    have s5 := b5.frz s3 qG
    have hf5 := b5 _ _ hf3 nfq
    refine ⟨lsz (by simp), fun t nt => ?_⟩
    have ntG := s5.free nt
    have nft : f ≠ t := ne_of_none hf5 nt
    have nfb : f ≠ b := fun z => by rw [z] at fG; exact absurd ((sG _ _ hb).symm.trans fG) (by simp)
    refine ⟨f, _, _, rfl, rfl, upd_keep hf5 nt, lsz' (by omega), _, _, upd G t (.tup [.str e.1, .str e.2]), us ++ [.ref t], rfl, sG.add ntG, (Same.both s5 t _).mut ((upd_ne nft).trans fG), (upd_ne nft).trans fG, (upd_ne (R5.nq nt).symm).trans qG, (R5.mono (Same.new nt)).upd nfq nfb, upd_same, ?_⟩
    rw [take_snoc he]
    exact papp (pmap hp fun _ _ r => (c2 cS cS).mono (fresh_mono (Same.new ntG)) r) (.cons ⟨t, _, _, rfl, fresh_of upd_same (sG.free ntG), rfl, rfl⟩ .nil)
  · rintro σ H' ⟨u, v, G, us, rfl, sG, sH, fG, qG, R, hf, hp⟩
    rw [List.drop_of_length_le (by omega)] at R
    rw [List.take_of_length_le (by omega)] at hp
    obtain ⟨a1, o1, _⟩ := id R
    refine ⟨_, rfl, q, dx, _, rfl, o1, nBR_close _ _, q, dx, b, _, rfl, R, ?_⟩
    refine ⟨_, rfl, _, _, rfl, .inl ((hb.mono sG).mono sH).sq, _, _, rfl, rfl, _, rfl, ?_⟩
    rw [List.length_map]
    refine yF (by omega) ⟨_, rfl, ?_⟩
    exact k _ _ (sG.trans sH) ⟨f, us, rfl, fresh_of hf nfH, pmap hp fun _ _ r => (c2 cS cS).mono (fresh_mono sH) r⟩
def spRdh : Sp := fun vs H Q _ => ∃ (b : Addr) (ticks skip : Int) (rows : List Row3), vs = [.ref b] ∧ Li H b (headB ticks skip rows) ∧ (1 ≤ ticks ∧ ticks ≤ 90000) ∧ (0 ≤ skip ∧ skip ≤ 1000) ∧ rows.length ≤ 15 ∧ (∀ r ∈ rows, OkText r.1 32 ∧ OkWord r.2.1 ∧ 0 ≤ r.2.2 ∧ r.2.2 ≤ 300) ∧
  ∀ H' v, Same H H' → cHead.R (fresh' H H') v (ticks, skip, rows) → Q v H'
theorem ok_read_head (T : Txt K mg) : FnOk P w K mg base CX0 5 (ga K "read_head") (fdAt K (ga K "read_head")) ["body"] spRdh := by
  refine okD T.F_read_head sc_read_head (fun vs H Q E h => ?_) (fun cdv A outer s H vs Q E hr h => ?_)
  · obtain ⟨_, _, _, _, rfl, _⟩ := h
    rfl
  obtain ⟨b, ticks, skip, rows, rfl, hb, htk, hsk, hrn, hok, k⟩ := h
  have nd := sc_read_head.nd
  have t1 : (txt "spool").length = 5 := by decide
  have hbl : (headB ticks skip rows).length ≤ 100000 := by
    have p1 := putS_len6 (n := ticks.toNat) (by omega)
    have p2 := putS_len6 (n := skip.toNat) (by omega)
    have p3 := putS_len6 (n := rows.length) (by omega)
    have f := flat_le (l := rows) (f := rb) (n := 218) fun r hr => by
      obtain ⟨o1, o2, o3⟩ := hok r hr
      exact rb_le ⟨by have := o1.1; omega, by have := o2.2.1; omega, by omega, by omega⟩
    have t2 : (putS 1).length = 1 := by rw [putS_small (by decide)]; rfl
    simp only [headB, List.length_append, t1, t2]
    omega
  refine ⟨_, ((pss_cons (ps_set (i := 1) nd rfl (Or.inl rfl) (pe_make T.mk_BodyReader (ok_BodyReader_init T) (hr.mono (by decide)) rfl T.g_BodyReader T.b_BodyReader_init .nil pass0 (pa_cons (pv 0) pa_nil)))
      (pss_cons (ps_if (pt_cmpR (op_neD hr.units) (pe_meth (pv 1) T.c_BodyReader T.m_BodyReader_take (ok_BodyReader_take T) (hr.mono (by decide)) T.b_BodyReader_take .nil pass0 (pa_cons (pe_callB call_len_str rfl T.n_len boot_len (pa_cons (pe_gstr T.s_LETTERS) pa_nil)) pa_nil)) (pe_call (ok_bytes_of T) (hr.mono (by decide)) rfl T.g_bytes_of T.k_bytes_of T.b_bytes_of .nil pass0 (pa_cons (pe_gstr T.s_LETTERS) pa_nil)) (nomark _)) (pss_one ps_never) pss_nil)
      (pss_cons (ps_expr (pe_meth (pv 1) T.c_BodyReader T.m_BodyReader_number (ok_BodyReader_number T) (hr.mono (by decide)) T.b_BodyReader_number .nil pass0 (pa_cons (pe_gint T.i_VERSION) (pa_cons (pe_gint T.i_VERSION) pa_nil))))
      (pss_cons (ps_set (i := 2) nd rfl (Or.inl rfl) (pe_meth (pv 1) T.c_BodyReader T.m_BodyReader_number (ok_BodyReader_number T) (hr.mono (by decide)) T.b_BodyReader_number .nil pass0 (pa_cons pe_int (pa_cons (pe_gint T.i_MOST_TICKS) pa_nil))))
      (pss_cons (ps_set (i := 3) nd rfl (Or.inl rfl) (pe_meth (pv 1) T.c_BodyReader T.m_BodyReader_number (ok_BodyReader_number T) (hr.mono (by decide)) T.b_BodyReader_number .nil pass0 (pa_cons pe_int (pa_cons (pe_op op_sub (pe_gint T.i_TIME_BOUND) pe_int) pa_nil))))
      (pss_cons (ps_set (i := 4) nd rfl (Or.inl rfl) (pe_lst pa_nil))
      (pss_cons (ps_for PassesOwn.never rfl (pi_range1 rfl T.n_range (pa_cons (pe_meth (pv 1) T.c_BodyReader T.m_BodyReader_number (ok_BodyReader_number T) (hr.mono (by decide)) T.b_BodyReader_number .nil pass0 (pa_cons pe_int (pa_cons (pe_gint T.i_MOST_TRACKS) pa_nil))) pa_nil)) (pg_name (i := 5) nd rfl (Or.inl rfl)) (pss_cons (ps_set (i := 6) nd rfl (Or.inl rfl) (pe_meth (pv 1) T.c_BodyReader T.m_BodyReader_text (ok_BodyReader_text T) (hr.mono (by decide)) T.b_BodyReader_text .nil pass0 (pa_cons (pe_gint T.i_MOST_NAME) pa_nil)))
        (pss_cons (ps_set (i := 7) nd rfl (Or.inl rfl) (pe_meth0 (pv 1) T.c_BodyReader T.m_BodyReader_word (ok_BodyReader_word T) (hr.mono (by decide)) T.b_BodyReader_word .nil pass0))
        (pss_one (ps_expr (pe_bm PySem.F.plainAttrs_list PySem.F.slot_list_append PySem.F.type_list_append mt_append (pv 4) (pa_cons (pe_tup (pa_cons (pv 6) (pa_cons (pv 7) (pa_cons (pe_meth (pv 1) T.c_BodyReader T.m_BodyReader_number (ok_BodyReader_number T) (hr.mono (by decide)) T.b_BodyReader_number .nil pass0 (pa_cons pe_int (pa_cons (pe_gint T.i_MOST_UNITS_presentation) pa_nil))) pa_nil)))) pa_nil)))))))
      (pss_cons (ps_expr (pe_meth0 (pv 1) T.c_BodyReader T.m_BodyReader_close (ok_BodyReader_close T) (hr.mono (by decide)) T.b_BodyReader_close .nil pass0))
      (pss_one (ps_ret (pe_tup (pa_cons (pv 2) (pa_cons (pv 3) (pa_cons (pv 4) pa_nil))))))))))))))), ?_⟩
  refine ⟨_, rfl, fun q dx nq ndx neq => ?_⟩
  have s0 : Same H (upd (upd H dx (.own q)) q (.ins (ga K "BodyReader") dx [])) := fun a o h => (upd_ne (ne_of_none h nq)).trans ((upd_ne (ne_of_none h ndx)).trans h)
  refine ⟨q, dx, b, _, rfl, upd_same, hb.mono s0, ne_of_none hb nq, by omega, fun H1 b1 R1 => ⟨rfl, ?_⟩⟩
  have s1 : Same H H1 := b1.frz s0 nq
  obtain ⟨a1, o1, _⟩ := id R1
  have eh : headB ticks skip rows = txt "spool" ++ (putS 1 ++ (putS ticks.toNat ++ (putS skip.toNat ++ (putS rows.length ++ rows.flatMap rb)))) := by simp only [headB, List.append_assoc]
  have R1' : Rd (ga K "BodyReader") H1 q dx b (headB ticks skip rows) (txt "spool" ++ (putS 1 ++ (putS ticks.toNat ++ (putS skip.toNat ++ (putS rows.length ++ rows.flatMap rb))))) := by
    obtain ⟨n, x1, x2, x3, x4, x5⟩ := R1
    exact ⟨n, x1, x2, x3, x4.trans eh, x5⟩
  have t0 : PySem.Str.length "spool" = 5 := by decide
  refine ⟨_, rfl, q, dx, _, rfl, o1, nBR_take _ _, _, rfl, by decide, q, dx, b, _, txt "spool", _, by rw [t0, t1]; rfl, R1', fun H2 v b2 nv hv R2 => ?_⟩
  have s2 := b2.frz s1 nq
  refine ⟨"spool", rfl, by decide, fun v2 H3 s3 nv2 hv2 => neD_same (c := cLi) ⟨v, rfl, hv.mono s3⟩ ⟨v2, rfl, hv2⟩ trivial ⟨_, rfl, ?_⟩⟩
  have R3 := R2.mono s3
  have s3' := s2.trans s3
  obtain ⟨a3, o3, _⟩ := id R3
  refine ⟨_, rfl, q, dx, _, rfl, o3, nBR_number _ _, q, dx, b, _, _, 1, 1, 1, rfl, R3, by omega, by omega, by omega, fun H4 b4 R4 => ?_⟩
  have s4 := b4.frz s3' nq
  obtain ⟨a4, o4, _⟩ := id R4
  refine ⟨_, rfl, q, dx, _, rfl, o4, nBR_number _ _, q, dx, b, _, _, 1, _, ticks.toNat, rfl, R4, by omega, by omega, by omega, fun H5 b5 R5 => ?_⟩
  have s5 := b5.frz s4 nq
  obtain ⟨a5, o5, _⟩ := id R5
  have hh : ((skip.toNat : Nat) : Int) ≤ 1099511627776 - 1 := by omega
  refine ⟨_, rfl, q, dx, _, rfl, o5, nBR_number _ _, _, _, rfl, rfl, q, dx, b, _, _, 0, _, skip.toNat, rfl, R5, by omega, by omega, ?_, fun H6 b6 R6 => ?_⟩
  · exact hh
  have s6 := b6.frz s5 nq
  rw [Int.toNat_of_nonneg (show 0 ≤ ticks by omega), Int.toNat_of_nonneg hsk.1]
  refine ⟨Nat.zero_le _, fun f nf => ?_⟩
  have nfH := s6.free nf
  have nfq := R6.nq nf
  have R7 := R6.mono (Same.new (o := .lst []) nf)
  have s7 : Same H (upd H6 f (.lst [])) := s6.add nf
  have hf : upd H6 f (.lst []) f = some (.lst []) := upd_same
  generalize upd H6 f (.lst []) = H7 at R7 s7 hf
  obtain ⟨a7, o7, _⟩ := id R7
  clear R1' R1 R2 R3 R4 R5 R6
  refine ⟨_, rfl, q, dx, _, rfl, o7, nBR_number _ _, q, dx, b, _, _, 0, _, rows.length, rfl, R7, by omega, by omega, by omega, fun H8 b8 R8 => ?_⟩
  have s8 := b8.frz s7 nq
  have hf8 := b8 _ _ hf nfq
  refine ⟨_, rfl, by omega, by omega, for_range (n := ((rows.length : Nat) : Int).toNat) (fun i σ H' => ∃ (u v z : Option V) (G : Hp) (us : List V), σ = [some (.ref b), some (.ref q), some (.int ticks), some (.int skip), some (.ref f), u, v, z] ∧ Same H G ∧ Same G H' ∧ G f = none ∧ G q = none ∧
      Rd (ga K "BodyReader") H' q dx b (headB ticks skip rows) ((rows.drop i).flatMap rb) ∧ H' f = some (.lst us) ∧ Paired (cRow3.R (fresh' H G)) us (rows.take i))
    ⟨none, none, none, H, [], rfl, Same.refl _, s8, nfH, nq, R8, hf8, .nil⟩ ?_ ?_⟩
  · rintro i σ H' hi ⟨u, v, z, G, us, rfl, sG, sH, fG, qG, R, hf, hp⟩
    have hi2 : i < rows.length := by omega
    have he : rows[i]? = some rows[i] := List.getElem?_eq_getElem hi2
    rw [List.drop_eq_getElem_cons hi2, List.flatMap_cons, rb, List.append_assoc, List.append_assoc] at R
    generalize rows[i] = e at *
    obtain ⟨ok1, ok2, ok3, ok4⟩ := hok e (List.mem_of_getElem? he)
    have hus : us.length = i := by rw [hp.length, List.length_take]; omega
    obtain ⟨a1, o1, _⟩ := id R
    refine ⟨_, rfl, q, dx, _, rfl, o1, nBR_text _ _, q, dx, b, _, _, e.1, 32, rfl, R, ok1, by omega, fun H3 b3 R3 => ?_⟩
    have s3 := b3.frz sH qG
    have hf3 := b3 _ _ hf nfq
    obtain ⟨a3, o3, _⟩ := id R3
    refine ⟨_, rfl, q, dx, _, rfl, o3, nBR_word _ _, q, dx, b, _, _, e.2.1, rfl, R3, ok2, fun H4 b4 R4 => ?_⟩
    have s4 := b4.frz s3 qG
    have hf4 := b4 _ _ hf3 nfq
    obtain ⟨a4, o4, _⟩ := id R4
    refine ⟨_, rfl, .inl ⟨rfl, _, SqL.of hf4⟩, _, rfl, _, rfl, _, rfl, q, dx, _, rfl, o4, nBR_number _ _, q, dx, b, _, _, 0, _, e.2.2.toNat, rfl, R4, by omega, by omega, by omega, fun H5 b5 R5 => ?_⟩
    have s5 := b5.frz s4 qG
    have hf5 := b5 _ _ hf4 nfq
    rw [Int.toNat_of_nonneg ok3]
    refine ⟨lsz (by simp), fun t nt => ?_⟩
    have ntG := s5.free nt
    have nft : f ≠ t := ne_of_none hf5 nt
    have nfb : f ≠ b := fun z => by rw [z] at fG; exact absurd ((sG _ _ hb).symm.trans fG) (by simp)
    refine ⟨f, _, _, rfl, rfl, upd_keep hf5 nt, lsz' (by omega), _, _, _, upd G t (.tup [.str e.1, .str e.2.1, .int e.2.2]), us ++ [.ref t], rfl, sG.add ntG, (Same.both s5 t _).mut ((upd_ne nft).trans fG), (upd_ne nft).trans fG, (upd_ne (R5.nq nt).symm).trans qG, (R5.mono (Same.new nt)).upd nfq nfb, upd_same, ?_⟩
    rw [take_snoc he]
    exact papp (pmap hp fun _ _ r => cRow3.mono (fresh_mono (Same.new ntG)) r) (.cons ⟨t, _, _, _, rfl, fresh_of upd_same (sG.free ntG), rfl, rfl, rfl⟩ .nil)
  · rintro σ H' ⟨u, v, z, G, us, rfl, sG, sH, fG, qG, R, hf, hp⟩
    rw [List.drop_of_length_le (by omega)] at R
    rw [List.take_of_length_le (by omega)] at hp
    obtain ⟨a1, o1, _⟩ := id R
    refine ⟨_, rfl, q, dx, _, rfl, o1, nBR_close _ _, q, dx, b, _, rfl, R, ?_⟩
    refine ⟨_, rfl, _, rfl, _, rfl, lsz (by simp), fun t nt => ?_⟩
    exact k _ _ ((sG.trans sH).add nt) ⟨t, _, _, _, rfl, fresh_of upd_same ((sG.trans sH).free nt), rfl, rfl, ⟨f, us, rfl, fresh_of (upd_keep hf nt) nfH, pmap hp fun _ _ r => cRow3.mono (fresh_mono (sH.add nt)) r⟩⟩
end
end Sp
namespace Sp
open PySem PySem.Spec PyProof.Rows L2
section
variable {P : Program} {w : World} {K : PySem.W.Frag} {mg : Str → Option Value} {base : Heap}
def spRcn : Sp := fun vs H Q _ => ∃ (b : Addr) (z : V) (u : Un') (before : List Int), vs = [.ref b, z] ∧ Li H b (unitB u before) ∧ (u.2.2.2 = true → ∃ a, z = .ref a ∧ Li H a before) ∧ (u.2.2.2 = false → z = .non) ∧ before.length ≤ 200 ∧ u.2.2.1.length ≤ 200 ∧ RL H Q u.2.2.1
theorem ok_read_content (T : Txt K mg) : FnOk P w K mg base CX0 4 (ga K "read_content") (fdAt K (ga K "read_content")) ["body", "before"] spRcn := by
  refine okD T.F_read_content sc_read_content (fun vs H Q E h => ?_) (fun cdv A outer s H vs Q E hr h => ?_)
  · obtain ⟨_, _, _, _, rfl, _⟩ := h
    rfl
  obtain ⟨b, z, u, before, rfl, hb, hz1, hz2, l1, l2, k⟩ := h
  have nd := sc_read_content.nd
  have hul := unitB_len (u := u) (b := before) l2 l1
  refine ⟨_, ((pss_cons (ps_set (i := 2) nd rfl (Or.inl rfl) (pe_callTy (listOf_ K rfl) rfl T.n_list boot_list (pa_cons (pv 0) pa_nil)))
      (pss_cons (ps_if (pt_cmpR op_notN (pv 1) pe_non (nomark _)) (pss_cons (ps_set (i := 3) nd rfl (Or.inl rfl) (pe_make T.mk_BodyReader (ok_BodyReader_init T) (hr.mono (by decide)) rfl T.g_BodyReader T.b_BodyReader_init .nil pass0 (pa_cons (pv 0) pa_nil)))
        (pss_cons (ps_set (i := 4) nd rfl (Or.inl rfl) (pe_meth (pv 3) T.c_BodyReader T.m_BodyReader_number (ok_BodyReader_number T) (hr.mono (by decide)) T.b_BodyReader_number .nil pass0 (pa_cons pe_int (pa_cons (pe_gint T.i_MOST_CONTENT) pa_nil))))
        (pss_cons (ps_set (i := 5) nd rfl (Or.inl rfl) (pe_meth (pv 3) T.c_BodyReader T.m_BodyReader_number (ok_BodyReader_number T) (hr.mono (by decide)) T.b_BodyReader_number .nil pass0 (pa_cons pe_int (pa_cons (pe_gint T.i_MOST_CONTENT) pa_nil))))
        (pss_one (ps_try_thru0 (pss_one (ps_set (i := 2) nd rfl (Or.inl rfl) (pe_call (ok_changed T) (hr.mono (by decide)) rfl T.g_changed T.k_changed T.b_changed .nil pass0 (pa_cons (pv 1) (pa_cons (pe_tup (pa_cons (pv 4) (pa_cons (pv 5) (pa_cons (pe_slice sl_list (pv 0) (po_some (pe_fld (pv 3) rfl)) po_none) pa_nil)))) pa_nil)))))))))) pss_nil)
      (pss_cons (ps_if (pt_cmpR op_gt (pe_callB (lenS_ K rfl) rfl T.n_len boot_len (pa_cons (pv 2) pa_nil)) (pe_gint T.i_MOST_CONTENT) (nomark _)) (pss_one ps_never) pss_nil)
      (pss_one (ps_ret (pv 2))))))), ?_⟩
  refine ⟨_, rfl, b, _, rfl, .inl hb.sq, fun c nc => ?_⟩
  have s1 : Same H (upd H c (.lst ((unitB u before).map V.int))) := Same.new nc
  have hc : Li (upd H c (.lst ((unitB u before).map V.int))) c (unitB u before) := upd_same
  have ncH := nc
  generalize upd H c (.lst ((unitB u before).map V.int)) = H1 at s1 hc
  by_cases e : u.2.2.2 = true
  · obtain ⟨a, rfl, ha⟩ := hz1 e
    have hch := ch_le before u.2.2.1
    have hB : unitB u before = putS (chF before u.2.2.1) ++ (putS (chB before u.2.2.1) ++ chM before u.2.2.1) := by rw [unitB, if_pos e, List.append_assoc]
    refine ⟨_, rfl, rfl, _, rfl, ifT (nb_t (fun z => by cases z)) ?_⟩
    refine ⟨_, rfl, fun q dx nq ndx neq => ?_⟩
    have s0 : Same H1 (upd (upd H1 dx (.own q)) q (.ins (ga K "BodyReader") dx [])) := fun a o h => (upd_ne (ne_of_none h nq)).trans ((upd_ne (ne_of_none h ndx)).trans h)
    refine ⟨q, dx, b, _, rfl, upd_same, (hb.mono s1).mono s0, ne_of_none (hb.mono s1) nq, by omega, fun H2 b2 R2 => ⟨rfl, ?_⟩⟩
    have nqH := s1.free nq
    have s2 : Same H H2 := b2.frz (s1.trans s0) nqH
    have R2' : Rd (ga K "BodyReader") H2 q dx b (unitB u before) (putS (chF before u.2.2.1) ++ (putS (chB before u.2.2.1) ++ chM before u.2.2.1)) := by
      obtain ⟨n, x1, x2, x3, x4, x5⟩ := R2
      exact ⟨n, x1, x2, x3, x4.trans hB, x5⟩
    obtain ⟨a2, o2, _⟩ := id R2'
    refine ⟨_, rfl, q, dx, _, rfl, o2, nBR_number _ _, q, dx, b, _, _, 0, _, chF before u.2.2.1, rfl, R2', by omega, by omega, by omega, fun H3 b3 R3 => ?_⟩
    have s3 := b3.frz s2 nqH
    obtain ⟨a3, o3, _⟩ := id R3
    refine ⟨_, rfl, q, dx, _, rfl, o3, nBR_number _ _, q, dx, b, _, _, 0, _, chB before u.2.2.1, rfl, R3, by omega, by omega, by omega, fun H4 b4 R4 => ?_⟩
    have s4 := b4.frz s3 nqH
    obtain ⟨a4, o4, hb4, hat, hd, _⟩ := id R4
    refine ⟨_, rfl, _, rfl, _, rfl, _, rfl, _, rfl, q, _, dx, _, _, rfl, o4, T.c_BodyReader, T.a_BodyReader_at, gBR_at _ _, _, rfl, _, _, rfl, hb4.sq, fun m nm => ?_⟩
    rw [cut_from hat, hd]
    have hm : Li (upd H4 m (.lst ((chM before u.2.2.1).map V.int))) m (chM before u.2.2.1) := upd_same
    have s5 : Same H (upd H4 m (.lst ((chM before u.2.2.1).map V.int))) := s4.add nm
    generalize upd H4 m (.lst ((chM before u.2.2.1).map V.int)) = H5 at hm s5
    refine ⟨lsz (by simp), fun t nt => ?_⟩
    refine ⟨a, .ref t, before, u.2.2.1, rfl, (ha.mono s5).keep nt, ⟨t, _, _, _, rfl, upd_same, rfl, rfl, ⟨m, rfl, hm.keep nt⟩⟩, by omega, by omega, fun r H6 s6 nr hr => ?_⟩
    refine ⟨_, rfl, _, _, rfl, .inl hr.sq, _, _, rfl, rfl, _, rfl, ?_⟩
    rw [List.length_map]
    exact yF (by omega) ⟨_, rfl, k r H6 ((s5.add nt).trans s6) ((s5.add nt).free nr) hr⟩
  · have e' : u.2.2.2 = false := by simpa using e
    obtain rfl := hz2 e'
    have hB : unitB u before = u.2.2.1 := by rw [unitB, if_neg e]
    rw [hB] at hc
    refine ⟨_, rfl, rfl, _, rfl, ifF (nb_f rfl) ⟨_, rfl, _, _, rfl, .inl hc.sq, _, _, rfl, rfl, _, rfl, ?_⟩⟩
    rw [List.length_map]
    exact yF (by omega) ⟨_, rfl, k c H1 s1 ncH hc⟩
end
end Sp
namespace Sp
open PySem PySem.Spec PyProof.Rows L2
theorem eachIs_of {α β : Type} {R : α → β → Prop} : ∀ {as : List α} {bs : List β}, Paired R as bs → PySem.W.EachIs R as bs
  | _, _, .nil => .nil
  | _, _, .cons r t => .cons r (eachIs_of t)
theorem vals_out {β : Type} {F : V → β → Prop} : ∀ {out : List Value} {bs : List β}, PySem.W.EachIs (fun v b => ∃ x, RelV x v ∧ F x b) out bs → ∃ ys, Vals ys out ∧ Paired F ys bs
  | _, _, .nil => ⟨[], .nil, .nil⟩
  | _, _, .cons ⟨x, r, f⟩ t => by
    obtain ⟨ys, h1, h2⟩ := vals_out t
    exact ⟨x :: ys, .cons r h1, .cons f h2⟩
theorem vals_in {β : Type} {F : V → β → Prop} : ∀ {xs : List V} {its : List Value} {bs : List β}, Vals xs its → Paired F xs bs → Paired (fun v b => ∃ x, RelV x v ∧ F x b) its bs
  | _, _, _, .nil, .nil => .nil
  | _, _, _, .cons r rs, .cons f fs => .cons ⟨_, r, f⟩ (vals_in rs fs)
def rSortD (K : PySem.W.Frag) : List V → Hp → VK → Prop := fun vs H Q => ∃ (a : Addr) (xs : List V) (β : Type) (bs : List β) (enc : β → PyData) (F : V → β → Prop), vs = [V.ref a] ∧ SqL K H a xs ∧ Paired F xs bs ∧ (∀ x b, F x b → Dp K H x (enc b)) ∧
  PySem.W.AllAlike (bs.map enc) ∧ PySem.W.Sortable (bs.map enc) ∧ bs.length ≤ 1000 ∧ (∀ b ∈ bs, (enc b).depth ≤ 60) ∧
  ∀ (ys : List V) (p : Addr), Paired F ys (bs.mergeSort (PySem.W.dataLe false enc)) → H p = none → Q (.ref p) (upd H p (.lst ys))
theorem cr_sortD {X : Cx} (hu : X.A.units + 65 < cLine) : CallR X (.builtin "sorted") (rSortD X.K) := by
  intro pins s σ H vs us Q I r h
  obtain ⟨a, xs, β, bs, enc, F, rfl, hs, hp, hd, hal, hso, hl, hdep, q⟩ := h
  obtain ⟨its, rv, hli, hz⟩ := I.list hs
  rw [Vals.ref1 r]
  have e0 := vals_in rv hp
  have e := eachIs_of e0
  refine PySem.W.sorted_data (R := fun v b => ∃ x, RelV x v ∧ F x b) (enc := enc) hli.isList e (eachIs_of (pmap e0 fun v b ⟨x, r1, f⟩ => Dp.reads I (enc b) x v (hd x b f) r1)) hal hso (by rw [sizeLine_eq]; omega) (fun b hb => by have := hdep b hb; omega) fun out hlen ho => ?_
  obtain ⟨ys, ry, hy⟩ := vals_out ho
  obtain ⟨ep, he'⟩ := PyProof.Rows.sortedAll_at s.heap its (List.toArray out)
  have hlen2 : ys.length ≤ sizeLine := by rw [ry.length, hlen, sizeLine_eq]; omega
  exact ⟨.ref _, upd H (s.heap.objs.size + 1) (.lst ys), I.laid (t' := s.toks) (fun _ _ => PyProof.Rows.sortedAll_old) (Nat.le_succ _) ⟨hlen2, out, ep, ry, he'⟩, rfl, q ys _ hy (I.hok.fresh (Nat.le_succ _))⟩
theorem zip_in : ∀ L : List (Addr × List Int), Paired (fun (v : Value) (q : Addr × List Int) => v = Value.ref q.1) (L.map fun q => Value.ref q.1) L
  | [] => .nil
  | _ :: L => .cons rfl (zip_in L)
theorem zip_out : ∀ {o : List Value} {L : List (Addr × List Int)}, Paired (fun (v : Value) (q : Addr × List Int) => v = Value.ref q.1) o L → o = L.map fun q => Value.ref q.1
  | _, _, .nil => rfl
  | _, _, .cons r t => by rw [r, zip_out t, List.map_cons]
theorem zip_vals : ∀ L : List (Addr × List Int), Vals (L.map fun q => V.ref q.1) (L.map fun q => Value.ref q.1)
  | [] => .nil
  | _ :: L => .cons rfl (zip_vals L)
def rSortDT (K : PySem.W.Frag) : List V → Hp → VK → Prop := fun vs H Q => ∃ (a : Addr) (kvs : List (List Key × V)) (nss : List (List Int)) (d : Nat) (B : Int), vs = [V.ref a] ∧ L2.Rd H a (.dT kvs) ∧ kvs.map (·.1) = nss.map (List.map Sum.inl) ∧ nss.length < 64 ∧ 1 ≤ d ∧ (∀ ns ∈ nss, ns.length = d ∧ TS.Bd B ns) ∧
  ∀ (L : List (Addr × List Int)) (p : Addr), (L.map (·.2)).Perm nss → (∀ q ∈ L, H q.1 = some (.tup (q.2.map V.int))) → L.Pairwise (fun q r => TS.code B q.2 ≤ TS.code B r.2) → H p = none → Q (.ref p) (upd H p (.lst (L.map fun q => V.ref q.1)))
theorem kV_inl (ns : List Int) : (ns.map Sum.inl).map kV = ns.map V.int := by
  rw [List.map_map]
  exact List.map_congr_left fun a _ => rfl
theorem keys_zip {H : Hp} : ∀ {kvs : List (List Key × V)} {bs : List Addr} {nss : List (List Int)}, IsKeys H kvs bs → kvs.map (·.1) = nss.map (List.map Sum.inl) → ∃ L : List (Addr × List Int), L.map (·.1) = bs ∧ L.map (·.2) = nss ∧ ∀ q ∈ L, H q.1 = some (.tup (q.2.map V.int))
  | [], [], [], _, _ => ⟨[], rfl, rfl, fun _ h => by cases h⟩
  | (k, v) :: kvs, b :: bs, ns :: nss, .cons h t, e => by
    rw [List.map_cons, List.map_cons] at e
    obtain ⟨e1, e2⟩ := List.cons.inj e
    obtain ⟨L, h1, h2, h3⟩ := keys_zip t e2
    refine ⟨(b, ns) :: L, by rw [List.map_cons, h1], by rw [List.map_cons, h2], fun q hq => ?_⟩
    rcases List.mem_cons.mp hq with rfl | hq
    · have e3 : k = ns.map Sum.inl := e1
      rw [e3, kV_inl] at h
      exact h
    · exact h3 q hq
  | [], [], _ :: _, _, e => by simp at e
  | _ :: _, _ :: _, [], _, e => by simp at e
theorem cr_sortDT {X : Cx} (hc : X.calm = true) : CallR X (.builtin "sorted") (rSortDT X.K) := by
  intro pins s σ H xs us Q I r h
  obtain ⟨a, kvs, nss, d, B, rfl, hd, hks, h64, hd1, hB, q⟩ := h
  rw [Vals.ref1 r]
  obtain ⟨z, hs, ks, pr, o, es, ep, ho, hx, hdt, he, hn⟩ := (show ObjOk X.prog X.w H s.heap a (.dT kvs) from hd.ok I.hok)
  have l1 : es.size = ks.length := size_of_entries he
  have l2 : kvs.length = ks.length := Paired.length pr
  have l3 : kvs.length = nss.length := by simpa using congrArg List.length hks
  refine Calls.call_function_entry PyProof.Rows.kind_sorted PyProof.Rows.plain_sorted PyProof.Rows.entry_sorted (PyProof.Rows.args_sorted1 _) ?_
  unfold Builtin.«sorted»
  refine wpAny_bind (m := checkCount "sorted" 1 1 _) (wpAny_pure ?_)
  refine wpAny_bind (PySem.W.kdu_collect (A := X.A.in1) (kdl_raw hs hx hdt) (I.ok.hd hc) ho (by omega) fun h' tk acc hk it => ?_)
  have ea : acc.toList = (ks.map fun x => x.2.1).map Value.ref := by
    have hl : acc.toList.length = ks.length := by rw [Array.length_toList, it.1]; exact l1
    apply List.ext_getElem?
    intro j
    rw [List.map_map, List.getElem?_map]
    cases hj : acc.toList[j]? with
    | none =>
      have h1 := List.getElem?_eq_none_iff.mp hj
      rw [List.getElem?_eq_none (by omega)]
      all_goals rfl
    | some v =>
      obtain ⟨en, hen, hv⟩ := it.2 j v (by rw [← Array.getElem?_toList]; exact hj)
      have qe := entry_at he j
      rw [hen] at qe
      cases hb : ks[j]? with
      | none =>
        rw [hb] at qe
        exact nomatch (show some en = none from qe)
      | some b =>
        rw [hb] at qe
        have e2 : en = entryOfKey (tupleKind (mixKind X.prog X.w)) b := Option.some.inj qe
        rw [hv, e2]
        all_goals rfl
  obtain ⟨L0, hL1, hL2, hL3⟩ := keys_zip (isKeys_of pr) hks
  have ea2 : acc.toList = L0.map fun q => Value.ref q.1 := by
    rw [ea, ← hL1, List.map_map]
    rfl
  have hal : acc.toList.length < 64 := by
    rw [ea2, List.length_map]
    have := congrArg List.length hL2
    rw [List.length_map] at this
    omega
  have I1 : Inv X pins σ H { s with heap := h', toks := tk } := I.kept hk
  refine wpAny_bind (wpAny_newList ?_ (by rw [sizeLine_eq]; omega))
  have hoL : (h'.push (seqObj "list" acc.toList.toArray 0)).get? h'.objs.size = some (seqObj "list" acc.toList.toArray 0) := Heap.get?_push_size _ rfl
  show wpAny _ _ _ _ _ { s with heap := h'.push (seqObj "list" acc.toList.toArray 0), toks := tk }
  have tk1 : ∀ q ∈ L0, TS.TupInts (h'.push (seqObj "list" acc.toList.toArray 0)) (.ref q.1) q.2 := fun q hq =>
    TS.TupInts.keeps (tupI_raw I1 (SqT.of (hL3 q hq))) fun b o e _ => Heap.get?_push_of_some _ e
  have x : TS.TupsOk (h'.push (seqObj "list" acc.toList.toArray 0)) d B acc.toList := fun v hv => by
    rw [ea2] at hv
    obtain ⟨p, hp, rfl⟩ := List.mem_map.mp hv
    have hm : p.2 ∈ nss := by rw [← hL2]; exact List.mem_map.mpr ⟨p, hp, rfl⟩
    exact ⟨p.2, tk1 p hp, (hB _ hm).1, (hB _ hm).2⟩
  refine wpAny_bind (wpAny_holding (TS.call_sort_tups (s := { s with heap := h'.push (seqObj "list" acc.toList.toArray 0), toks := tk }) hoL hal hd1 x fun out a1 a2 => ?_))
  obtain ⟨c, hcO⟩ := sortedHeap_at (vs := acc.toList) (out := out) hoL
  have hpr : Paired (fun (v : Value) (q : Addr × List Int) => v = Value.ref q.1) acc.toList L0 := by
    rw [ea2]
    exact zip_in L0
  obtain ⟨L, pL, hLo⟩ := pperm a1 hpr
  have hL : ∀ q ∈ L, q ∈ L0 := fun q hq => pL.mem_iff.mp hq
  have eo : out.toList = L.map fun q => Value.ref q.1 := zip_out hLo
  have pw : L.Pairwise (fun q r => TS.code B q.2 ≤ TS.code B r.2) := by
    rw [eo] at a2
    refine List.Pairwise.imp_of_mem (fun {q r} hq hr hle => ?_) (List.pairwise_map.mp a2)
    have f1 : TS.intsOf (h'.push (seqObj "list" acc.toList.toArray 0)) (.ref q.1) = q.2 := (tk1 q (hL q hq)).ints
    have f2 : TS.intsOf (h'.push (seqObj "list" acc.toList.toArray 0)) (.ref r.1) = r.2 := (tk1 r (hL r hr)).ints
    rw [← f1, ← f2]
    exact hle
  have rv : Vals (L.map fun q => V.ref q.1) out.toList := by
    rw [eo]
    exact zip_vals L
  have hlen : (L.map fun q => V.ref q.1).length ≤ sizeLine := by
    rw [List.length_map, pL.length_eq, sizeLine_eq]
    have := congrArg List.length hL2
    rw [List.length_map] at this
    omega
  refine wpAny_pure ⟨_, rfl, .ref h'.objs.size, upd H h'.objs.size (.lst (L.map fun q => V.ref q.1)), I1.laid (t' := tk) (fun b u e => ?_) (Nat.le_refl _) ⟨hlen, out.toList, c, rv, by rw [Array.toArray_toList]; exact hcO⟩, rfl, ?_⟩
  · have hlt := Heap.lt_size e
    show (sortedHeap (h'.push (seqObj "list" acc.toList.toArray 0)) h'.objs.size acc.toList out).get? b = some u
    rw [sortedHeap_old (Nat.ne_of_lt hlt) (by rw [size_push']; exact Nat.lt_succ_of_lt hlt)]
    exact Heap.get?_push_of_some _ e
  · refine q L _ ((pL.map _).trans (by rw [hL2])) (fun p hp => hL3 p (hL p hp)) pw (I1.hok.fresh (Nat.le_refl _))
end Sp
namespace Sp
open PySem PySem.Spec PyProof.Rows L2
def plc (l : Leaf) : Int × Int := (l.track, l.ordinal)
def isU (l : Leaf) : Bool := decide (l.kind = 2)
structure FF (stamp : Int) (p : Pr) (od : List (Int × Int)) (ls : List Leaf) : Prop where
  O : Order (lensOf p.2.2.1) od
  len : ls.length < 64 ∧ 3 ≤ ls.length
  wf : ∀ l ∈ ls, l.Wf
  st : ∀ l ∈ ls, l.stamp = stamp
  num : ∀ (i : Nat) (l : Leaf), ls[i]? = some l → l.number = i
  head : ls[0]? = some (pLeaf stamp 0 0 (headB p.1 p.2.1 (rowsOf p.2.2.1)))
  tags1 : 0 < p.2.2.2.length → ls[1]? = some (pLeaf stamp 1 1 (tagsBody p.2.2.2))
  tags0 : ¬ 0 < p.2.2.2.length → ∀ l ∈ ls, l.kind ≠ 1
  last : ∀ l, ls.getLast? = some l → l.kind = 4
  unit : ∀ l ∈ ls, l.kind = 2 → plc l ∈ od ∧ l.time = (getBd (bodsOf p.2.2.1) (plc l)).1 ∧ l.span = (getBd (bodsOf p.2.2.1) (plc l)).2.1 ∧ l.key = (getBd (bodsOf p.2.2.1) (plc l)).2.2.1 ∧ l.body = (getBd (bodsOf p.2.2.1) (plc l)).2.2.2
  places : (ls.filter isU).map plc = od
theorem usL_places (stamp : Int) (tss : List (List Bd)) : ∀ (r : List (Int × Int)) (n : Nat), ((usL stamp tss n r).filter isU).map plc = r
  | [], _ => rfl
  | e :: r, n => by
    rw [usL, List.filter_cons, if_pos (show isU (uLeaf stamp n e (getBd tss e)) = true from rfl), List.map_cons, usL_places stamp tss r]
    rfl
theorem usL_num (stamp : Int) (tss : List (List Bd)) : ∀ (r : List (Int × Int)) (n i : Nat) (l : Leaf), (usL stamp tss n r)[i]? = some l → ∃ e ∈ r, l = uLeaf stamp (n + i) e (getBd tss e)
  | [], _, _, _, h => by simp [usL] at h
  | e :: r, n, 0, l, h => by
    simp [usL] at h
    exact ⟨e, by simp, h.symm⟩
  | e :: r, n, i + 1, l, h => by
    rw [usL, List.getElem?_cons_succ] at h
    obtain ⟨e', h1, h2⟩ := usL_num stamp tss r (n + 1) i l h
    exact ⟨e', by simp [h1], by rw [h2, show n + 1 + i = n + (i + 1) by omega]⟩
theorem preL_num (stamp : Int) (p : Pr) : ∀ (i : Nat) (l : Leaf), (preL stamp p)[i]? = some l → (i = 0 ∧ l = pLeaf stamp 0 0 (headB p.1 p.2.1 (rowsOf p.2.2.1))) ∨ (i = 1 ∧ 0 < p.2.2.2.length ∧ l = pLeaf stamp 1 1 (tagsBody p.2.2.2)) := by
  intro i l h
  unfold preL at h
  match i, h with
  | 0, h => exact .inl ⟨rfl, (Option.some.inj h).symm⟩
  | 1, h =>
    rw [List.getElem?_cons_succ] at h
    split at h
    · rename_i c
      exact .inr ⟨rfl, c, (Option.some.inj h).symm⟩
    · cases h
  | i + 2, h =>
    rw [List.getElem?_cons_succ] at h
    split at h <;> simp at h
/-- every leaf of a file, by its place -/
theorem fileL_get {stamp : Int} {p : Pr} {inE : Int × Int → Bool} {od : List (Int × Int)} {i : Nat} {l : Leaf} (h : (fileL stamp p inE od)[i]? = some l) :
    (i < (preL stamp p).length ∧ (preL stamp p)[i]? = some l) ∨
    (∃ j e, od[j]? = some e ∧ i = (preL stamp p).length + j ∧ l = uLeaf stamp i e (getBd (bodsOf p.2.2.1) e)) ∨
    (i = (mainL stamp p od).length ∧ l = pLeaf stamp 3 i (idxB (fndL stamp p inE od))) ∨
    (i = (idxL stamp p inE od).length ∧ l = pLeaf stamp 4 i (endB (i + 1) (crc (encF (idxL stamp p inE od))).toNat)) := by
  have hml := mainL_len (stamp := stamp) (p := p) (od := od)
  have hil := idxL_len (stamp := stamp) (p := p) (inE := inE) (od := od)
  by_cases c1 : i < (idxL stamp p inE od).length
  · rw [fileL, List.getElem?_append_left c1] at h
    by_cases c2 : i < (mainL stamp p od).length
    · rw [idxL, List.getElem?_append_left c2] at h
      by_cases c3 : i < (preL stamp p).length
      · rw [mainL, List.getElem?_append_left c3] at h
        exact .inl ⟨c3, h⟩
      · rw [mainL, List.getElem?_append_right (by omega)] at h
        obtain ⟨j, rfl⟩ : ∃ j, i = (preL stamp p).length + j := ⟨i - (preL stamp p).length, by omega⟩
        rw [show (preL stamp p).length + j - (preL stamp p).length = j by omega] at h
        have hj : j < od.length := by omega
        refine .inr (.inl ⟨j, od[j], List.getElem?_eq_getElem hj, rfl, ?_⟩)
        have : ∀ (r : List (Int × Int)) (n j : Nat) (hj : j < r.length), (usL stamp (bodsOf p.2.2.1) n r)[j]? = some (uLeaf stamp (n + j) r[j] (getBd (bodsOf p.2.2.1) r[j])) := by
          intro r
          induction r with
          | nil => intro n j hj; simp at hj
          | cons e r ih =>
            intro n j hj
            cases j with
            | zero => rfl
            | succ j =>
              rw [usL, List.getElem?_cons_succ, ih (n + 1) j (by simpa using hj)]
              rw [show n + 1 + j = n + (j + 1) by omega]
              rfl
        rw [this od _ j hj] at h
        exact (Option.some.inj h).symm
    · have e : i = (mainL stamp p od).length := by omega
      subst e
      rw [idxL, List.getElem?_append_right (Nat.le_refl _), Nat.sub_self] at h
      exact .inr (.inr (.inl ⟨rfl, (Option.some.inj h).symm⟩))
  · rw [fileL, List.getElem?_append_right (by omega)] at h
    have e : i = (idxL stamp p inE od).length := by
      have := lt_of_at h
      simp at this
      omega
    subst e
    rw [Nat.sub_self] at h
    exact .inr (.inr (.inr ⟨rfl, (Option.some.inj h).symm⟩))
theorem fileL_len {stamp : Int} {p : Pr} {inE : Int × Int → Bool} {od : List (Int × Int)} : (fileL stamp p inE od).length = (preL stamp p).length + od.length + 2 := by
  rw [fileL, List.length_append, idxL_len]; rfl
theorem fileL_ff {p : Pr} (ok : OkPr p) {od : List (Int × Int)} (O : Order (lensOf p.2.2.1) od) {stamp : Int} (hs : 0 ≤ stamp ∧ stamp ≤ 4294967295) (inE : Int × Int → Bool) : FF stamp p od (fileL stamp p inE od) := by
  have hpl := preL_len stamp p
  have hol := O.len
  have hfl := fileL_len (stamp := stamp) (p := p) (inE := inE) (od := od)
  have kinds : ∀ (i : Nat) (l : Leaf), (fileL stamp p inE od)[i]? = some l → l.stamp = stamp ∧ l.number = i ∧ (l.kind = 1 → 0 < p.2.2.2.length) ∧ (l.kind = 2 → ∃ e ∈ od, l = uLeaf stamp i e (getBd (bodsOf p.2.2.1) e)) := fun i l h => by
    rcases fileL_get h with ⟨c, h⟩ | ⟨j, e, he, rfl, rfl⟩ | ⟨e, rfl⟩ | ⟨e, rfl⟩
    · rcases preL_num stamp p i l h with ⟨rfl, rfl⟩ | ⟨rfl, c, rfl⟩
      · exact ⟨rfl, rfl, fun z => absurd z (by show ¬ (0 : Int) = 1; decide), fun z => absurd z (by show ¬ (0 : Int) = 2; decide)⟩
      · exact ⟨rfl, rfl, fun z => c, fun z => absurd z (by show ¬ (1 : Int) = 2; decide)⟩
    · exact ⟨rfl, rfl, fun z => absurd z (by show ¬ (2 : Int) = 1; decide), fun _ => ⟨e, List.mem_of_getElem? he, rfl⟩⟩
    · exact ⟨rfl, rfl, fun z => absurd z (by show ¬ (3 : Int) = 1; decide), fun z => absurd z (by show ¬ (3 : Int) = 2; decide)⟩
    · exact ⟨rfl, rfl, fun z => absurd z (by show ¬ (4 : Int) = 1; decide), fun z => absurd z (by show ¬ (4 : Int) = 2; decide)⟩
  have mem : ∀ l ∈ fileL stamp p inE od, ∃ i : Nat, (fileL stamp p inE od)[i]? = some l := fun l h => List.mem_iff_getElem?.mp h
  have at0 : (fileL stamp p inE od)[0]? = some (pLeaf stamp 0 0 (headB p.1 p.2.1 (rowsOf p.2.2.1))) := by
    rw [fileL, idxL, mainL, preL]
    rfl
  refine ⟨O, by omega, fileL_wf ok O hs inE, fun l h => ?_, fun i l h => (kinds i l h).2.1, at0, fun c => ?_, fun c l h z => ?_, fun l h => ?_, fun l h z => ?_, ?_⟩
  · obtain ⟨i, hi⟩ := mem l h
    exact (kinds i l hi).1
  · rw [fileL, idxL, mainL, preL, if_pos c]
    rfl
  · obtain ⟨i, hi⟩ := mem l h
    exact c ((kinds i l hi).2.2.1 z)
  · rw [fileL, List.getLast?_concat] at h
    cases h
    rfl
  · obtain ⟨i, hi⟩ := mem l h
    obtain ⟨e, he, rfl⟩ := (kinds i l hi).2.2.2 z
    exact ⟨he, rfl, rfl, rfl, rfl⟩
  · have hp : (preL stamp p).filter isU = [] := by
      rw [List.filter_eq_nil_iff]
      intro l hl
      obtain ⟨i, hi⟩ := List.mem_iff_getElem?.mp hl
      rcases preL_num stamp p i l hi with ⟨rfl, rfl⟩ | ⟨rfl, c, rfl⟩ <;> exact Bool.false_ne_true
    rw [fileL, idxL, mainL, List.filter_append, List.filter_append, List.filter_append, hp, List.nil_append, List.map_append, List.map_append, usL_places]
    simp [isU, pLeaf]
theorem Order.nodup {ns : List Nat} {od : List (Int × Int)} (O : Order ns od) : od.Nodup := by
  rw [List.nodup_iff_count]
  intro a
  by_cases h : a ∈ od
  · obtain ⟨k, _, hk⟩ := O.ins a h
    have e := O.each k
    have n1 : ((od.filter fun e => decide (e.1 = (k : Int) + 1)).map (·.2)).Nodup := by
      rw [e]
      exact List.Pairwise.map _ (fun a b (h : a ≠ b) => by omega) List.nodup_range
    have n2 : (od.filter fun e => decide (e.1 = (k : Int) + 1)).Nodup := List.Pairwise.of_map _ (fun a b h z => h (by rw [z])) n1
    rw [← List.count_filter (p := fun e => decide (e.1 = (k : Int) + 1)) (by simp [hk])]
    exact List.nodup_iff_count.mp n2 a
  · rw [List.count_eq_zero_of_not_mem h]
    omega
end Sp
namespace Sp
open PySem PySem.Spec PyProof.Rows L2
def kk (e : Int × Int) : List Key := [.inl e.1, .inl e.2]
theorem kk_inj {a b : Int × Int} (h : kk a = kk b) : a = b := by
  simp only [kk, List.cons.injEq, Sum.inl.injEq] at h
  exact Prod.ext h.1 h.2.1
/-- at d a dict with the keys es, the value of e known by f e -/
def DTd {α : Type} (c : Cd α) (H Hv : Hp) (d : Addr) (es : List (Int × Int)) (f : Int × Int → α) : Prop := ∃ kvs, H d = some (.dT kvs) ∧ kvs.map (·.1) = es.map kk ∧ ∀ e ∈ es, ∃ v, valV kvs (kk e) = some v ∧ c.R Hv v (f e)
theorem DTd.none {α : Type} {kvs : List (List Key × V)} {es : List (Int × Int)} (h : kvs.map (·.1) = es.map kk) {e : Int × Int} (he : e ∉ es) : valV kvs (kk e) = none := by
  cases q : valV kvs (kk e) with
  | none => rfl
  | some v =>
    have := valV_in q
    rw [h] at this
    obtain ⟨x, hx, hk⟩ := List.mem_map.mp this
    exact absurd (kk_inj hk ▸ hx) he
section
variable {P : Program} {w : World} {K : PySem.W.Frag} {mg : Str → Option Value} {base : Heap}
def spFl : Sp := fun vs H Q _ => ∃ (v : V) (stamp : Int) (p : Pr) (od : List (Int × Int)) (ls : List Leaf), vs = [v] ∧ (cL cLeaf).R H v ls ∧ FF stamp p od ls ∧
  ∀ H' d (f : Int × Int → Leaf), Same H H' → H d = none → DTd cLeaf H' H d od f → (∀ e ∈ od, f e ∈ ls ∧ (f e).kind = 2 ∧ plc (f e) = e) → Q (.ref d) H'
theorem ok_first_leaves (T : Txt K mg) : FnOk P w K mg base CX0 1 (ga K "first_leaves") (fdAt K (ga K "first_leaves")) ["leaves"] spFl := by
  refine okD T.F_first_leaves sc_first_leaves (fun vs H Q E h => ?_) (fun cdv A outer s H vs Q E hr h => ?_)
  · obtain ⟨_, _, _, _, _, rfl, _⟩ := h
    rfl
  obtain ⟨_, stamp, p, od, ls, rfl, ⟨a, vs, rfl, ha, hp⟩, F, k⟩ := h
  have nd := sc_first_leaves.nd
  have hnd := F.O.nodup
  rw [← F.places] at hnd
  have hl64 := F.len.1
  refine ⟨_, ((pss_cons (ps_set (i := 1) nd rfl (Or.inl rfl) pe_dnewT)
      (pss_cons (ps_for PassesOwn.never rfl (pi_list (pv 0)) (pg_name (i := 2) nd rfl (Or.inl rfl)) (pss_one (ps_if (PW.pt (pw_and (pt_cmpR op_eq (pe_ix (ixT_ K rfl) (pv 2) pe_int (fun _ _ => rfl)) (pe_gint T.i_UNIT) (nomark _)) (pw_and1 (pt_cmp (pc_dnotin (hu_of hr) (pe_tup (pa_cons (pe_ix (ixT_ K rfl) (pv 2) pe_int (fun _ _ => rfl)) (pa_cons (pe_ix (ixT_ K rfl) (pv 2) pe_int (fun _ _ => rfl)) pa_nil))) (pv 1)))))) (pss_one (ps_dput (hu_of hr) (pv 1) (pe_tup (pa_cons (pe_ix (ixT_ K rfl) (pv 2) pe_int (fun _ _ => rfl)) (pa_cons (pe_ix (ixT_ K rfl) (pv 2) pe_int (fun _ _ => rfl)) pa_nil))) (pv 2) rfl)) pss_nil)))
      (pss_one (ps_ret (pv 1)))))), ?_⟩
  refine fun d nd' => ⟨_, rfl, a, rfl, ⟨_, SqL.of (upd_keep ha nd')⟩, for_list (K := K) (a := a) (xs := vs) (fun i σ H' => ∃ (u : Option V) (kvs : List (List Key × V)), σ = [some (.ref a), some (.ref d), u] ∧ Same H H' ∧ H' d = some (.dT kvs) ∧
      kvs.map (·.1) = ((ls.take i).filter isU).map (fun l => kk (plc l)) ∧ ∀ l ∈ (ls.take i).filter isU, ∃ v, valV kvs (kk (plc l)) = some v ∧ cLeaf.R H v l)
    ⟨none, [], rfl, Same.new nd', upd_same, rfl, fun l h => by simp at h⟩ (fun i σ H' _ ⟨_, _, _, s, _⟩ => SqL.of (s _ _ ha)) ?_ ?_⟩
  · rintro i x σ H' hi ⟨u, kvs, rfl, sH, hd, hk, hv⟩
    obtain ⟨l, hl, hr⟩ := pgetl hp hi
    obtain ⟨lt, lb, rfl, hlt, hlb⟩ := id hr
    have hT := sH _ _ hlt
    have hil := lt_of_at hl
    refine ⟨_, rfl, _, _, _, _, rfl, rfl, SqT.of hT, atI_nat (j := 0) rfl, rfl, _, rfl, ?_⟩
    by_cases c : l.kind = 2
    · have hu : isU l = true := by simp [isU, c]
      have hns : ((ls.take (i + 1)).filter isU).map plc = ((ls.take i).filter isU).map plc ++ [plc l] := by
        rw [take_snoc hl, List.filter_append, List.map_append]
        simp [List.filter, hu]
      have hnd2 : (((ls.take i).filter isU).map plc ++ [plc l]).Nodup := by
        rw [← hns]
        exact hnd.sublist (((List.take_sublist _ _).filter _).map _)
      have hno : plc l ∉ ((ls.take i).filter isU).map plc := fun h => by
        have := (List.nodup_append.mp hnd2).2.2 _ h (plc l) (by simp)
        exact this rfl
      have hnone : valV kvs (kk (plc l)) = none := DTd.none (α := Leaf) (es := ((ls.take i).filter isU).map plc) (by rw [hk, List.map_map]; rfl) hno
      have hkl : kvs.length < 64 := by
        have e1 := congrArg List.length hk
        rw [List.length_map, List.length_map] at e1
        have e2 := List.length_filter_le isU (ls.take i)
        rw [List.length_take] at e2
        omega
      refine ifT (bl_t (congrArg V.int c)) ?_
      refine ⟨_, rfl, _, _, _, _, rfl, rfl, SqT.of hT, atI_nat (j := 3) rfl, _, rfl, _, _, _, _, rfl, rfl, SqT.of hT, atI_nat (j := 4) rfl, lsz (by simp), fun t nt => ?_⟩
      have hd1 := upd_keep (o := .tup [.int l.track, .int l.ordinal]) hd nt
      have hlt1 := upd_keep (o := .tup [.int l.track, .int l.ordinal]) hT nt
      have s1 := sH.add (o := .tup [.int l.track, .int l.ordinal]) nt
      have ht1 : upd H' t (.tup [.int l.track, .int l.ordinal]) t = some (.tup ((kk (plc l)).map kV)) := upd_same
      generalize upd H' t (.tup [.int l.track, .int l.ordinal]) = H1 at hd1 hlt1 s1 ht1
      have hg := DGet.t hd1 ht1
      rw [hnone] at hg
      refine ⟨_, rfl, d, _, rfl, hg, _, rfl, ?_⟩
      refine ⟨_, rfl, _, rfl, _, rfl, _, _, _, _, rfl, rfl, SqT.of hlt1, atI_nat (j := 3) rfl, _, rfl, _, _, _, _, rfl, rfl, SqT.of hlt1, atI_nat (j := 4) rfl, lsz (by simp), fun t2 nt2 => ?_⟩
      have hd2 := upd_keep (o := .tup [.int l.track, .int l.ordinal]) hd1 nt2
      have s2 := s1.add (o := .tup [.int l.track, .int l.ordinal]) nt2
      have ht2 : upd H1 t2 (.tup [.int l.track, .int l.ordinal]) t2 = some (.tup ((kk (plc l)).map kV)) := upd_same
      generalize upd H1 t2 (.tup [.int l.track, .int l.ordinal]) = H2 at hd2 s2 ht2
      refine ⟨d, _, rfl, DPut.t hd2 ht2 (lsz' (by omega)), _, _, rfl, s2.mut nd', upd_same, ?_, fun l2 h2 => ?_⟩
      · rw [putK_new _ hnone, List.map_append, hk, take_snoc hl, List.filter_append, List.map_append]
        simp [List.filter, hu]
      · rw [take_snoc hl, List.filter_append] at h2
        rw [valV_put]
        rcases List.mem_append.mp h2 with h2 | h2
        · rw [if_neg (fun e => hno (List.mem_map.mpr ⟨l2, h2, kk_inj e⟩))]
          exact hv l2 h2
        · have : l2 = l := by simpa [List.filter, hu] using h2
          subst this
          rw [if_pos rfl]
          exact ⟨_, rfl, hr⟩
    · have hu : isU l = false := by simp [isU, c]
      have hfe : (ls.take (i + 1)).filter isU = (ls.take i).filter isU := by
        rw [take_snoc hl, List.filter_append]
        simp [List.filter, hu]
      refine ifF (bl_f fun q => c (V.int.inj q)) (iteF ⟨_, kvs, rfl, sH, hd, ?_, fun l2 h => ?_⟩)
      · rw [hfe, hk]
      · rw [hfe] at h
        exact hv l2 h
  · rintro σ H' ⟨u, kvs, rfl, sH, hd, hk, hv⟩
    rw [hp.length, List.take_length] at hk hv
    have hex : ∀ e : Int × Int, ∃ l : Leaf, e ∈ od → l ∈ ls.filter isU ∧ plc l = e := fun e => by
      by_cases h : e ∈ od
      · rw [← F.places] at h
        obtain ⟨l, h1, h2⟩ := List.mem_map.mp h
        exact ⟨l, fun _ => ⟨h1, h2⟩⟩
      · exact ⟨⟨0, 0, 0, 0, 0, 0, 0, 0, []⟩, fun z => absurd z h⟩
    refine ⟨_, rfl, k H' d (fun e => (hex e).choose) sH nd' ⟨kvs, hd, ?_, fun e he => ?_⟩ fun e he => ?_⟩
    · rw [hk, ← F.places, List.map_map]
      rfl
    · obtain ⟨h1, h2⟩ := (hex e).choose_spec he
      have := hv _ h1
      rw [h2] at this
      exact this
    · obtain ⟨h1, h2⟩ := (hex e).choose_spec he
      obtain ⟨h3, h4⟩ := List.mem_filter.mp h1
      exact ⟨h3, of_decide_eq_true h4, h2⟩
end
end Sp
namespace Sp
open PySem PySem.Spec PyProof.Rows L2
def getUn (ts : List Tr) (e : Int × Int) : Un' := (((ts[(e.1 - 1).toNat]?.map (·.2.2)).getD [])[e.2.toNat]?).getD (0, 0, [], false)
def ctOf (ts : List Tr) (e : Int × Int) : List Int := (getUn ts e).2.2.1
def bfOf (ts : List Tr) (e : Int × Int) : List Int := if e.2 = 0 then [] else ctOf ts (e.1, e.2 - 1)
theorem bodiesOf_get : ∀ (us : List Un') (b : List Int) (j : Nat) (u : Un'), us[j]? = some u → (bodiesOf b us)[j]? = some (u.1, u.2.1, (if u.2.2.2 = true then 0 else 1), unitB u (if j = 0 then b else ((us[j - 1]?.map (·.2.2.1)).getD [])))
  | [], _, _, _, h => by simp at h
  | x :: r, b, 0, u, h => by
    have : x = u := by simpa using h
    subst this
    rfl
  | x :: r, b, j + 1, u, h => by
    rw [List.getElem?_cons_succ] at h
    rw [bodiesOf, List.getElem?_cons_succ, bodiesOf_get r _ j u h, if_neg (show ¬ (j + 1 = 0) by omega)]
    cases j with
    | zero => rfl
    | succ j => rw [if_neg (show ¬ (j + 1 = 0) by omega)]; rfl
theorem pmapl {α β : Type} (g : β → α) : ∀ l : List β, Paired (fun a e => a = g e) (l.map g) l
  | [] => .nil
  | _ :: l => .cons rfl (pmapl g l)
/-- what stands at a place of the order -/
structure At (ts : List Tr) (e : Int × Int) (k j : Nat) (t : Tr) (u : Un') : Prop where
  he : e = ((k : Int) + 1, (j : Int))
  ht : ts[k]? = some t
  hu : t.2.2[j]? = some u
  un : getUn ts e = u
  bd : getBd (bodsOf ts) e = (u.1, u.2.1, (if u.2.2.2 = true then 0 else 1), unitB u (bfOf ts e))
theorem at_of {ts : List Tr} {k j : Nat} {t : Tr} {u : Un'} (ht : ts[k]? = some t) (hu : t.2.2[j]? = some u) : At ts ((k : Int) + 1, (j : Int)) k j t u := by
  have un : ∀ (j : Nat) (u : Un'), t.2.2[j]? = some u → getUn ts ((k : Int) + 1, (j : Int)) = u := fun j u hu => by
    unfold getUn
    rw [show ((((k : Int) + 1, (j : Int)) : Int × Int).1 - 1).toNat = k by show ((k : Int) + 1 - 1).toNat = k; omega, ht]
    show (t.2.2[((j : Nat) : Int).toNat]?).getD _ = _
    rw [show ((j : Nat) : Int).toNat = j by omega, hu]
    rfl
  refine ⟨rfl, ht, hu, un j u hu, ?_⟩
  unfold getBd
  have hb : (bodsOf ts)[k]? = some (bodiesOf [] t.2.2) := by rw [bodsOf, List.getElem?_map, ht]; rfl
  rw [show ((((k : Int) + 1, (j : Int)) : Int × Int).1 - 1).toNat = k by show ((k : Int) + 1 - 1).toNat = k; omega, hb]
  show ((bodiesOf [] t.2.2)[((j : Nat) : Int).toNat]?).getD _ = _
  rw [show ((j : Nat) : Int).toNat = j by omega, bodiesOf_get _ _ _ _ hu]
  have : (if j = 0 then [] else ((t.2.2[j - 1]?.map (·.2.2.1)).getD [])) = bfOf ts ((k : Int) + 1, (j : Int)) := by
    unfold bfOf
    by_cases c : j = 0
    · subst c
      rw [if_pos rfl, if_pos (show (((k : Int) + 1, ((0 : Nat) : Int)) : Int × Int).2 = 0 from rfl)]
    · have hl := lt_of_at hu
      have h1 : t.2.2[j - 1]? = some t.2.2[j - 1] := List.getElem?_eq_getElem (by omega)
      rw [if_neg c, if_neg (by show ¬ (j : Int) = 0; omega), h1]
      have e2 : ((((k : Int) + 1, (j : Int)) : Int × Int).1, (((k : Int) + 1, (j : Int)) : Int × Int).2 - 1) = ((k : Int) + 1, ((j - 1 : Nat) : Int)) := by
        refine Prod.ext rfl ?_
        show (j : Int) - 1 = ((j - 1 : Nat) : Int)
        omega
      rw [ctOf, e2, un (j - 1) _ h1]
      rfl
  rw [this]
  rfl
theorem Order.at {p : Pr} {od : List (Int × Int)} (O : Order (lensOf p.2.2.1) od) {e : Int × Int} (h : e ∈ od) : ∃ k j t u, At p.2.2.1 e k j t u := by
  obtain ⟨k, j, us, b, rfl, h1, h2, h3⟩ := O.get h
  rw [bodsOf, List.getElem?_map] at h1
  obtain ⟨t, ht, rfl⟩ := Option.map_eq_some_iff.mp h1
  have hl := lt_of_at h2
  rw [bodiesOf_len] at hl
  exact ⟨k, j, t, _, at_of ht (List.getElem?_eq_getElem hl)⟩
theorem Order.has {p : Pr} {od : List (Int × Int)} (O : Order (lensOf p.2.2.1) od) {k j : Nat} {t : Tr} (ht : p.2.2.1[k]? = some t) (hj : j < t.2.2.length) : ((k : Int) + 1, (j : Int)) ∈ od := by
  have e := O.each k
  have hn : (lensOf p.2.2.1)[k]?.getD 0 = t.2.2.length := by
    rw [lensOf, List.getElem?_map, bodsOf, List.getElem?_map, ht]
    exact bodiesOf_len _ _
  rw [hn] at e
  have : (j : Int) ∈ (od.filter fun e => decide (e.1 = (k : Int) + 1)).map (·.2) := by
    rw [e]
    exact List.mem_map.mpr ⟨j, List.mem_range.mpr hj, rfl⟩
  obtain ⟨x, hx, h2⟩ := List.mem_map.mp this
  obtain ⟨h3, h4⟩ := List.mem_filter.mp hx
  have h5 : x.1 = (k : Int) + 1 := of_decide_eq_true h4
  rwa [show ((k : Int) + 1, (j : Int)) = x from Prod.ext h5.symm h2.symm]
theorem At.ok {p : Pr} (ok : OkPr p) {e : Int × Int} {k j : Nat} {t : Tr} {u : Un'} (A : At p.2.2.1 e k j t u) : k < 3 ∧ j < 5 ∧ (0 ≤ u.1 ∧ u.1 < 1000000) ∧ (1 ≤ u.2.1 ∧ u.2.1 < 1000) ∧ u.2.2.1.length ≤ 200 ∧ (j = 0 → u.2.2.2 = false) := by
  have o := (ok.tracks t (List.mem_of_getElem? A.ht)).units
  have m := o.2.1.mem u (List.mem_of_getElem? A.hu)
  have h1 := lt_of_at A.ht
  have h2 := lt_of_at A.hu
  have h3 := ok.len
  have h4 := o.1
  exact ⟨by omega, by omega, ⟨m.1, m.2.1⟩, ⟨m.2.2.1, m.2.2.2.1⟩, m.2.2.2.2.1, fun z => o.2.2 u (by rw [← z]; exact A.hu)⟩
theorem ct_len {p : Pr} (ok : OkPr p) {od : List (Int × Int)} (O : Order (lensOf p.2.2.1) od) {e : Int × Int} (h : e ∈ od) : (ctOf p.2.2.1 e).length ≤ 200 := by
  obtain ⟨k, j, t, u, A⟩ := O.at h
  rw [ctOf, A.un]
  exact (A.ok ok).2.2.2.2.1
theorem bf_len {p : Pr} (ok : OkPr p) {od : List (Int × Int)} (O : Order (lensOf p.2.2.1) od) {e : Int × Int} (h : e ∈ od) : (bfOf p.2.2.1 e).length ≤ 200 := by
  obtain ⟨k, j, t, u, A⟩ := O.at h
  unfold bfOf
  by_cases c : e.2 = 0
  · rw [if_pos c]; simp
  · rw [if_neg c]
    refine ct_len ok O ?_
    have e1 := A.he
    subst e1
    have hl := lt_of_at A.hu
    have := O.has A.ht (j := j - 1) (by omega)
    have e2 : (((k : Int) + 1, (j : Int)) : Int × Int).2 - 1 = ((j - 1 : Nat) : Int) := by
      have : ¬ (j : Int) = 0 := c
      show (j : Int) - 1 = _
      omega
    rw [e2]
    exact this
section
variable {P : Program} {w : World} {K : PySem.W.Frag} {mg : Str → Option Value} {base : Heap}
def spCo : Sp := fun vs H Q _ => ∃ (v z : V) (l : Leaf) (u : Un') (before : List Int), vs = [v, z] ∧ cLeaf.R H v l ∧ l.body = unitB u before ∧ (u.2.2.2 = true → ∃ a, z = .ref a ∧ Li H a before) ∧ (u.2.2.2 = false → z = .non) ∧ before.length ≤ 200 ∧ u.2.2.1.length ≤ 200 ∧ RL H Q u.2.2.1
theorem ok_content_of (T : Txt K mg) : FnOk P w K mg base CX0 5 (ga K "content_of") (fdAt K (ga K "content_of")) ["leaf", "before"] spCo := by
  refine okD T.F_content_of sc_content_of (fun vs H Q E h => ?_) (fun cdv A outer s H vs Q E hr h => ?_)
  · obtain ⟨_, _, _, _, _, rfl, _⟩ := h
    rfl
  obtain ⟨_, z, l, u, before, rfl, ⟨t, b, rfl, ht, hb⟩, hbd, hz1, hz2, l1, l2, k⟩ := h
  have nd := sc_content_of.nd
  rw [hbd] at hb
  refine ⟨_, ((pss_one (ps_try_thru0 (pss_one (ps_ret (pe_call (ok_read_content T) (hr.mono (by decide)) rfl T.g_read_content T.k_read_content T.b_read_content .nil pass0 (pa_cons (pe_ix (ixT_ K rfl) (pv 0) pe_int (fun _ _ => rfl)) (pa_cons (pv 1) pa_nil)))))))), ?_⟩
  refine ⟨_, rfl, _, _, _, _, rfl, rfl, SqT.of ht, atI_nat (j := 8) rfl, _, rfl, b, z, u, before, rfl, hb, hz1, hz2, l1, l2, k⟩
def spSc : Sp := fun vs H Q _ => ∃ (d : Addr) (stamp : Int) (p : Pr) (od : List (Int × Int)) (ls : List Leaf) (f : Int × Int → Leaf), vs = [.ref d] ∧ DTd cLeaf H H d od f ∧ FF stamp p od ls ∧ OkPr p ∧ (∀ e ∈ od, f e ∈ ls ∧ (f e).kind = 2 ∧ plc (f e) = e) ∧
  ∀ H' d' es, Same H H' → H d' = none → es.Perm od → DTd cLi H' (fresh' H H') d' es (ctOf p.2.2.1) → Q (.ref d') H'
theorem ok_sound_contents (T : Txt K mg) : FnOk P w K mg base CX0 6 (ga K "sound_contents") (fdAt K (ga K "sound_contents")) ["first"] spSc := by
  refine okD T.F_sound_contents sc_sound_contents (fun vs H Q E h => ?_) (fun cdv A outer s H vs Q E hr h => ?_)
  · obtain ⟨_, _, _, _, _, _, rfl, _⟩ := h
    rfl
  obtain ⟨d, stamp, p, od, ls, f, rfl, ⟨kvs0, hd0, hk0, hv0⟩, F, ok, hf, k⟩ := h
  have nd := sc_sound_contents.nd
  have O := F.O
  have hol := O.len
  refine ⟨_, ((pss_cons (ps_set (i := 1) nd rfl (Or.inl rfl) pe_dnewT)
      (pss_cons (ps_for PassesOwn.never rfl (pi_list (pe_callB (cr_sortDT rfl) rfl T.n_sorted boot_sorted (pa_cons (pv 0) pa_nil))) (pg_name (i := 2) nd rfl (Or.inl rfl)) (pss_cons (ps_set (i := 3) nd rfl (Or.inl rfl) (pe_dget (hu_of hr) (pv 0) (pv 2) (fun _ _ => rfl)))
        (pss_cons (ps_set (i := 4) nd rfl (Or.inl rfl) pe_non)
        (pss_cons (ps_if (pt_cmpR op_eq (pe_ix (ixT_ K rfl) (pv 3) pe_int (fun _ _ => rfl)) pe_int (nomark _)) (pss_one (ps_set (i := 4) nd rfl (Or.inl rfl) (pe_dget1 (hu_of hr) (pv 1) (pe_tup (pa_cons (pe_ix (ixT_ K rfl) (pv 2) pe_int (fun _ _ => rfl)) (pa_cons (pe_op op_sub (pe_ix (ixT_ K rfl) (pv 2) pe_int (fun _ _ => rfl)) pe_int) pa_nil))) ⟨rfl, rfl, rfl, rfl⟩))) pss_nil)
        (pss_one (ps_if (PW.pt (pw_or (pt_cmpR op_eq (pe_ix (ixT_ K rfl) (pv 3) pe_int (fun _ _ => rfl)) pe_int (nomark _)) (pw_or1 (pt_cmpR op_notN (pv 4) pe_non (nomark _))))) (pss_cons (ps_set (i := 5) nd rfl (Or.inl rfl) (pe_call (ok_content_of T) (hr.mono (by decide)) rfl T.g_content_of T.k_content_of T.b_content_of .nil pass0 (pa_cons (pv 3) (pa_cons (pv 4) pa_nil))))
          (pss_one (ps_if (pt_cmpR op_notN (pv 5) pe_non (nomark _)) (pss_one (ps_dput (hu_of hr) (pv 1) (pv 2) (pv 5) rfl)) pss_nil))) pss_nil))))))
      (pss_one (ps_ret (pv 1)))))), ?_⟩
  refine fun c nc => ?_
  have hc1 : upd H c (.dT []) c = some (.dT []) := upd_same
  have s1 : Same H (upd H c (.dT [])) := Same.new nc
  generalize upd H c (.dT []) = H1 at hc1 s1
  refine ⟨_, rfl, d, kvs0, od.map (fun e => [e.1, e.2]), 2, 1000, rfl, .inl (s1 _ _ hd0), by rw [hk0, List.map_map]; rfl, by rw [List.length_map]; omega, by decide, fun ns hns => ?_, fun L q hperm hL hpw nq => ?_⟩
  · obtain ⟨e, he, rfl⟩ := List.mem_map.mp hns
    obtain ⟨kk, j, t, u, A⟩ := O.at he
    have := A.ok ok
    rw [A.he]
    refine ⟨rfl, fun m hm => ?_⟩
    simp only [List.mem_cons, List.not_mem_nil, or_false] at hm
    rcases hm with rfl | rfl <;> omega
  obtain ⟨es, hes, hpr⟩ := pperm (F := fun (a : List Int) (e : Int × Int) => a = [e.1, e.2]) hperm (pmapl (fun e : Int × Int => [e.1, e.2]) od)
  have hLl : L.length = es.length := by
    have := hpr.length
    rwa [List.length_map] at this
  have hLe : ∀ (i : Nat) (e : Int × Int), es[i]? = some e → ∃ q : Addr, L[i]? = some (q, [e.1, e.2]) := fun i e he => by
    obtain ⟨a, h1, h2⟩ := pget hpr he
    rw [List.getElem?_map] at h1
    obtain ⟨x, h3, rfl⟩ := Option.map_eq_some_iff.mp h1
    exact ⟨x.1, by rw [h3, ← h2]⟩
  have hmem : ∀ e, e ∈ es ↔ e ∈ od := fun e => hes.mem_iff
  have hnd : es.Nodup := hes.nodup_iff.mpr O.nodup
  have hprev : ∀ (i : Nat) (e e' : Int × Int), es[i]? = some e → e' ∈ od → e'.1 = e.1 → e'.2 = e.2 - 1 → e' ∈ es.take i := fun i e e' he he' h1 h2 => by
    obtain ⟨i', hi'⟩ := List.mem_iff_getElem?.mp ((hmem e').mpr he')
    have hlt : i' < i := by
      rcases Nat.lt_trichotomy i' i with z | z | z
      · exact z
      · subst z
        rw [he] at hi'
        have := Option.some.inj hi'
        subst this
        omega
      · obtain ⟨q1, g1⟩ := hLe i e he
        obtain ⟨q2, g2⟩ := hLe i' e' hi'
        obtain ⟨b1, c1⟩ := List.getElem?_eq_some_iff.mp g1
        obtain ⟨b2, c2⟩ := List.getElem?_eq_some_iff.mp g2
        have := List.pairwise_iff_getElem.mp hpw i i' b1 b2 z
        rw [c1, c2] at this
        simp only [TS.code, List.length_cons, List.length_nil] at this
        omega
    have := List.getElem?_take (l := es) (i := i) (j := i')
    rw [if_pos hlt, hi'] at this
    exact List.mem_of_getElem? this
  have hq2 : upd H1 q (.lst (L.map fun q => V.ref q.1)) q = some (.lst (L.map fun q => V.ref q.1)) := upd_same
  have s2 := s1.add (o := .lst (L.map fun q => V.ref q.1)) nq
  have hc2 := upd_keep (o := .lst (L.map fun q => V.ref q.1)) hc1 nq
  have hL2 : ∀ x ∈ L, upd H1 q (.lst (L.map fun q => V.ref q.1)) x.1 = some (.tup (x.2.map V.int)) := fun x hx => upd_keep (hL x hx) nq
  have ncq : c ≠ q := ne_of_none hc1 nq
  generalize upd H1 q (.lst (L.map fun q => V.ref q.1)) = H2 at hq2 s2 hc2 hL2
  have hg0 : Same H (del H2 c) := del_of s2 nc
  refine ⟨q, rfl, ⟨_, SqL.of hq2⟩, for_list (K := K) (a := q) (xs := L.map fun q => V.ref q.1) (fun i σ H' => ∃ (u1 u2 u3 u4 : Option V) (G : Hp) (kvs : List (List Key × V)), σ = [some (.ref d), some (.ref c), u1, u2, u3, u4] ∧ Same (del H2 c) G ∧ Same G H' ∧ G c = none ∧ H' c = some (.dT kvs) ∧
      kvs.map (·.1) = (es.take i).map kk ∧ ∀ e ∈ es.take i, ∃ v, valV kvs (kk e) = some v ∧ cLi.R (fresh' H G) v (ctOf p.2.2.1 e))
    ⟨none, none, none, none, del H2 c, [], rfl, Same.refl _, del_sub _ _, del_same, hc2, rfl, fun e h => by simp at h⟩ (fun i σ H' _ ⟨_, _, _, _, _, _, _, g1, g2, _⟩ => SqL.of (g2 _ _ (g1 _ _ ((del_ne ncq.symm).trans hq2)))) ?_ ?_⟩
  · rintro i x σ H' hi ⟨u1, u2, u3, u4, G, kvs, rfl, g1, g2, gc, hc, hk, hv⟩
    rw [List.getElem?_map] at hi
    obtain ⟨x', hx', rfl⟩ := Option.map_eq_some_iff.mp hi
    have hil := lt_of_at hx'
    obtain ⟨e, he⟩ : ∃ e, es[i]? = some e := ⟨_, List.getElem?_eq_getElem (by omega)⟩
    obtain ⟨pl, hpl⟩ := hLe i e he
    have hxe : x' = (pl, [e.1, e.2]) := Option.some.inj (hx'.symm.trans hpl)
    subst hxe
    have heo := (hmem e).mp (List.mem_of_getElem? he)
    have sG : Same H G := hg0.trans g1
    have sH := sG.trans g2
    have hpl2 : H2 pl = some (.tup ((kk e).map kV)) := hL2 _ (List.mem_of_getElem? hx')
    have npc : pl ≠ c := fun z => by rw [z, hc2] at hpl2; cases hpl2
    have hplH' := g2 _ _ (g1 _ _ ((del_ne npc).trans hpl2))
    obtain ⟨k1, j, tr, u, A⟩ := O.at heo
    obtain ⟨a1, a2, a3, a4, a5, a6⟩ := A.ok ok
    obtain ⟨v0, hv0e, hr0⟩ := hv0 e heo
    obtain ⟨f1, f2, f3⟩ := hf e heo
    obtain ⟨m1, m2, m3, m4, m5⟩ := F.unit _ f1 f2
    rw [f3, A.bd] at m4 m5
    have hg := DGet.t (sH _ _ hd0) hplH'
    rw [hv0e] at hg
    obtain ⟨lt, lb, rfl, hlt, hlb⟩ := id hr0
    have hlt' := sH _ _ hlt
    have hno : e ∉ es.take i := fun h => by
      have hh : (es.take (i + 1)).Nodup := hnd.sublist (List.take_sublist _ _)
      rw [take_snoc he] at hh
      exact (List.nodup_append.mp hh).2.2 _ h e (by simp) rfl
    have hnone : valV kvs (kk e) = none := DTd.none (α := Int) hk hno
    have hkl : kvs.length ≤ i := by
      have e1 := congrArg List.length hk
      rw [List.length_map, List.length_map, List.length_take] at e1
      omega
    have hesl : es.length ≤ 15 := by rw [hes.length_eq]; exact hol
    -- the tail, when the content is there
    have fin : ∀ (G2 H3 : Hp) (v3 : V) (r : Addr), Same G G2 → Same G2 H3 → G2 c = none → H3 c = some (.dT kvs) → cLi.R (fresh' H G2) (.ref r) (ctOf p.2.2.1 e) →
        ∃ (u1 u2 u3 u4 : Option V) (G : Hp) (kvs' : List (List Key × V)), [some (V.ref d), some (V.ref c), some (V.ref pl), some (V.ref lt), some v3, some (V.ref r)] = [some (V.ref d), some (V.ref c), u1, u2, u3, u4] ∧ Same (del H2 c) G ∧ Same G (upd H3 c (.dT (putK kvs (kk e) (.ref r)))) ∧ G c = none ∧
          upd H3 c (.dT (putK kvs (kk e) (.ref r))) c = some (.dT kvs') ∧ kvs'.map (·.1) = (es.take (i + 1)).map kk ∧ ∀ e ∈ es.take (i + 1), ∃ v, valV kvs' (kk e) = some v ∧ cLi.R (fresh' H G) v (ctOf p.2.2.1 e) := fun G2 H3 v3 r q1 q2 q3 q4 q5 => by
      refine ⟨_, _, _, _, G2, _, rfl, g1.trans q1, q2.mut q3, q3, upd_same, ?_, fun e2 h2 => ?_⟩
      · rw [putK_new _ hnone, List.map_append, hk, take_snoc he, List.map_append]
        rfl
      · rw [take_snoc he] at h2
        rw [valV_put]
        rcases List.mem_append.mp h2 with h2 | h2
        · rw [if_neg (fun z => hno (by rw [← kk_inj z]; exact h2))]
          obtain ⟨v, w1, w2⟩ := hv e2 h2
          exact ⟨v, w1, cLi.mono (fresh_mono q1) w2⟩
        · rw [List.mem_singleton] at h2
          subst h2
          rw [if_pos rfl]
          exact ⟨_, rfl, q5⟩
    refine ⟨_, rfl, _, rfl, d, _, rfl, hg, ?_⟩
    refine ⟨_, rfl, _, _, _, _, rfl, rfl, SqT.of hlt', atI_nat (j := 7) rfl, rfl, _, rfl, ?_⟩
    by_cases hle : u.2.2.2 = true
    · have hj : j ≠ 0 := fun z => by
        have := a6 z
        rw [hle] at this
        cases this
      have hk0 : (f e).key = 0 := by rw [m4, if_pos hle]
      have he1 : e.1 = (k1 : Int) + 1 := by rw [A.he]
      have he2 : e.2 = (j : Int) := by rw [A.he]
      have hpo : (e.1, e.2 - 1) ∈ od := by
        have := O.has A.ht (j := j - 1) (by have := lt_of_at A.hu; omega)
        rwa [show (e.1, e.2 - 1) = ((k1 : Int) + 1, ((j - 1 : Nat) : Int)) from Prod.ext he1 (by show e.2 - 1 = _; omega)]
      obtain ⟨v1, hv1, b1, rfl, hb1⟩ := hv _ (hprev i e (e.1, e.2 - 1) he hpo rfl rfl)
      have hbf : bfOf p.2.2.1 e = ctOf p.2.2.1 (e.1, e.2 - 1) := by rw [bfOf, if_neg (by omega)]
      refine ifT (bl_t (congrArg V.int hk0)) ?_
      refine ⟨_, rfl, c, rfl, .inr ⟨kvs, .inl hc⟩, _, rfl, _, _, _, _, rfl, rfl, SqT.of (show H' pl = some (.tup [.int e.1, .int e.2]) from hplH'), atI_nat (j := 0) rfl, ?_⟩
      refine ⟨_, rfl, _, _, _, _, rfl, rfl, SqT.of (show H' pl = some (.tup [.int e.1, .int e.2]) from hplH'), atI_nat (j := 1) rfl, _, _, rfl, rfl, lsz (by simp), fun t nt => ?_⟩
      dsimp only
      have ht3 : upd H' t (.tup [.int e.1, .int (e.2 - 1)]) t = some (.tup ((kk (e.1, e.2 - 1)).map kV)) := upd_same
      have hc3 := upd_keep (o := .tup [.int e.1, .int (e.2 - 1)]) hc nt
      have s3 : Same G (upd H' t (.tup [.int e.1, .int (e.2 - 1)])) := g2.add nt
      have hlt3 := upd_keep (o := .tup [.int e.1, .int (e.2 - 1)]) hlt' nt
      generalize upd H' t (.tup [.int e.1, .int (e.2 - 1)]) = H3 at ht3 hc3 s3 hlt3
      have hg3 := DGet.t hc3 ht3
      rw [hv1] at hg3
      have hpl3 := s3 _ _ (g1 _ _ ((del_ne npc).trans hpl2))
      refine ⟨_, hg3, _, rfl, _, _, _, _, rfl, rfl, SqT.of hlt3, atI_nat (j := 7) rfl, rfl, _, rfl, ifF (bl_f fun z => by have := V.int.inj z; omega) ⟨_, rfl, rfl, _, rfl, ifT (nb_t (fun z => by cases z)) ?_⟩⟩
      refine ⟨_, rfl, _, rfl, _, .ref b1, f e, u, bfOf p.2.2.1 e, rfl, cLeaf.mono (sG.trans s3) hr0, m5, fun _ => ⟨b1, rfl, by rw [hbf]; exact (hb1.mono (fresh_sub _ _)).mono s3⟩, fun z => by (rw [hle] at z; cases z), bf_len ok O heo, a5, fun r H4 s4 nr hr => ?_⟩
      refine ⟨_, rfl, rfl, _, rfl, ifT (nb_t (fun z => by cases z)) ?_⟩
      have hu : u.2.2.1 = ctOf p.2.2.1 e := by rw [ctOf, A.un]
      rw [hu] at hr
      have hrG : G r = none := (s3.free nr)
      refine ⟨_, rfl, _, rfl, _, rfl, c, _, rfl, DPut.t (s4 _ _ hc3) (s4 _ _ hpl3) (lsz' (by omega)), ?_⟩
      have nrc : c ≠ r := ne_of_none hc3 nr
      exact fin (upd G r (.lst ((ctOf p.2.2.1 e).map V.int))) H4 (.ref b1) r (Same.new hrG) (fun a o h => by
        by_cases z : a = r
        · rw [z] at h ⊢
          rw [upd_same] at h
          rw [← h]
          exact hr
        · rw [upd_ne z] at h
          exact s4 _ _ (s3 _ _ h)) ((upd_ne nrc).trans gc) (s4 _ _ hc3) ⟨r, rfl, fresh_of upd_same (sG.free hrG)⟩
    · have hk1 : (f e).key = 1 := by rw [m4, if_neg hle]
      have hj0 : u.2.2.2 = false := by simpa using hle
      refine ifF (bl_f fun z => by have := V.int.inj z; omega) ?_
      refine ⟨_, rfl, _, _, _, _, rfl, rfl, SqT.of hlt', atI_nat (j := 7) rfl, rfl, _, rfl, ifT (bl_t (congrArg V.int hk1)) ?_⟩
      refine ⟨_, rfl, _, rfl, _, .non, f e, u, bfOf p.2.2.1 e, rfl, cLeaf.mono sH hr0, m5, fun z => absurd z hle, fun _ => rfl, bf_len ok O heo, a5, fun r H3 s3 nr hr => ?_⟩
      refine ⟨_, rfl, rfl, _, rfl, ifT (nb_t (fun z => by cases z)) ?_⟩
      have hu : u.2.2.1 = ctOf p.2.2.1 e := by rw [ctOf, A.un]
      rw [hu] at hr
      have hrG : G r = none := (g2.free nr)
      have nrc : c ≠ r := ne_of_none hc nr
      refine ⟨_, rfl, _, rfl, _, rfl, c, _, rfl, DPut.t (s3 _ _ hc) (s3 _ _ hplH') (lsz' (by omega)), ?_⟩
      exact fin (upd G r (.lst ((ctOf p.2.2.1 e).map V.int))) H3 .non r (Same.new hrG) (fun a o h => by
        by_cases z : a = r
        · rw [z] at h ⊢
          rw [upd_same] at h
          rw [← h]
          exact hr
        · rw [upd_ne z] at h
          exact s3 _ _ (g2 _ _ h)) ((upd_ne nrc).trans gc) (s3 _ _ hc) ⟨r, rfl, fresh_of upd_same (sG.free hrG)⟩
  · rintro σ H' ⟨u1, u2, u3, u4, G, kvs, rfl, g1, g2, gc, hc, hk, hv⟩
    rw [List.take_of_length_le (by rw [List.length_map]; omega)] at hk hv
    exact ⟨_, rfl, k H' c es ((hg0.trans g1).trans g2) nc hes ⟨kvs, hc, hk, fun e he => by
      obtain ⟨v, w1, w2⟩ := hv e he
      exact ⟨v, w1, cLi.mono (fresh_mono g2) w2⟩⟩⟩
end
end Sp
namespace Sp
open PySem PySem.Spec PyProof.Rows L2
theorem inj_map {α β : Type} {f : α → β} : ∀ {l : List α}, (l.map f).Nodup → ∀ {a b : α}, a ∈ l → b ∈ l → f a = f b → a = b
  | [], _, _, _, h, _, _ => by cases h
  | x :: l, hn, a, b, ha, hb, e => by
    rw [List.map_cons, List.nodup_cons] at hn
    rcases List.mem_cons.mp ha with ha1 | ha1 <;> rcases List.mem_cons.mp hb with hb1 | hb1
    · rw [ha1, hb1]
    · exact absurd (List.mem_map.mpr ⟨b, hb1, by rw [← e, ha1]⟩) hn.1
    · exact absurd (List.mem_map.mpr ⟨a, ha1, by rw [e, hb1]⟩) hn.1
    · exact inj_map hn.2 ha1 hb1 e
def cLc : Cd (Leaf × List Int) := c2 cLeaf cLi
def pairsOf' (ts : List Tr) (ls : List Leaf) : List (Leaf × List Int) := (ls.filter isU).map fun l => (l, ctOf ts (plc l))
section
variable {P : Program} {w : World} {K : PySem.W.Frag} {mg : Str → Option Value} {base : Heap}
def spSo : Sp := fun vs H Q _ => ∃ (v : V) (stamp : Int) (p : Pr) (od : List (Int × Int)) (ls : List Leaf), vs = [v] ∧ (cL cLeaf).R H v ls ∧ FF stamp p od ls ∧ OkPr p ∧
  ∀ H' u, Same H H' → (cL cLc).R (fresh' H H') u (pairsOf' p.2.2.1 ls) → Q u H'
theorem ok_sound (T : Txt K mg) : FnOk P w K mg base CX0 7 (ga K "sound") (fdAt K (ga K "sound")) ["leaves"] spSo := by
  refine okD T.F_sound sc_sound (fun vs H Q E h => ?_) (fun cdv A outer s H vs Q E hr h => ?_)
  · obtain ⟨_, _, _, _, _, rfl, _⟩ := h
    rfl
  obtain ⟨_, stamp, p, od, ls, rfl, ⟨a, vs, rfl, ha, hp⟩, F, ok, k⟩ := h
  have nd := sc_sound.nd
  have hnd := F.O.nodup
  rw [← F.places] at hnd
  have hl64 := F.len.1
  refine ⟨_, ((pss_cons (ps_set (i := 1) nd rfl (Or.inl rfl) (pe_call (ok_first_leaves T) (hr.mono (by decide)) rfl T.g_first_leaves T.k_first_leaves T.b_first_leaves .nil pass0 (pa_cons (pv 0) pa_nil)))
      (pss_cons (ps_set (i := 2) nd rfl (Or.inl rfl) (pe_call (ok_sound_contents T) (hr.mono (by decide)) rfl T.g_sound_contents T.k_sound_contents T.b_sound_contents .nil pass0 (pa_cons (pv 1) pa_nil)))
      (pss_cons (ps_set (i := 3) nd rfl (Or.inl rfl) (pe_lst pa_nil))
      (pss_cons (ps_for PassesOwn.never rfl (pi_list (pv 0)) (pg_name (i := 4) nd rfl (Or.inl rfl)) (pss_cons (ps_set (i := 5) nd rfl (Or.inl rfl) (pe_tup (pa_cons (pe_ix (ixT_ K rfl) (pv 4) pe_int (fun _ _ => rfl)) (pa_cons (pe_ix (ixT_ K rfl) (pv 4) pe_int (fun _ _ => rfl)) pa_nil))))
        (pss_one (ps_if (PW.pt (pw_and (pt_cmpR op_eq (pe_ix (ixT_ K rfl) (pv 4) pe_int (fun _ _ => rfl)) (pe_gint T.i_UNIT) (nomark _)) (pw_and (pt_cmp (pc_din (hu_of hr) (pv 5) (pv 2))) (pw_and1 (pt_cmpR (op_eqD hr.units) (pe_dget (hu_of hr) (pv 1) (pv 5) (fun _ _ => rfl)) (pv 4) (nomark _)))))) (pss_one (ps_expr (pe_bm PySem.F.plainAttrs_list PySem.F.slot_list_append PySem.F.type_list_append mt_append (pv 3) (pa_cons (pe_tup (pa_cons (pe_call (ok_fresh T) (hr.mono (by decide)) rfl T.g_fresh T.k_fresh T.b_fresh .nil pass0 (pa_cons (pv 4) pa_nil)) (pa_cons (pe_callTy (listOf_ K rfl) rfl T.n_list boot_list (pa_cons (pe_dget (hu_of hr) (pv 2) (pv 5) (fun _ _ => rfl)) pa_nil)) pa_nil))) pa_nil)))) pss_nil))))
      (pss_one (ps_ret (pv 3)))))))), ?_⟩
  refine ⟨_, rfl, _, stamp, p, od, ls, rfl, ⟨a, vs, rfl, ha, hp⟩, F, fun H1 d f s1 nd1 hd hf => ?_⟩
  have hd' := hd
  refine ⟨_, rfl, d, stamp, p, od, ls, f, rfl, ?_, F, ok, hf, fun H2 c es s2 nc hes hc => ?_⟩
  · obtain ⟨kvs, w1, w2, w3⟩ := hd
    exact ⟨kvs, w1, w2, fun e he => by
      obtain ⟨v, w4, w5⟩ := w3 e he
      exact ⟨v, w4, cLeaf.mono s1 w5⟩⟩
  obtain ⟨kvs, w1, w2, w3⟩ := hd
  obtain ⟨kvc, c1, c2', c3'⟩ := hc
  refine ⟨Nat.zero_le _, fun g ng => ?_⟩
  have hS2 := s1.trans s2
  have hg : upd H2 g (.lst []) g = some (.lst []) := upd_same
  have s3 : Same H2 (upd H2 g (.lst [])) := Same.new ng
  have A0 : Acc cLc H2 (upd H2 g (.lst [])) g [] [] := Acc.nil ng upd_same
  refine ⟨_, rfl, a, rfl, ⟨_, SqL.of (s3 _ _ (hS2 _ _ ha))⟩, for_list (K := K) (a := a) (xs := vs) (fun i σ H' => ∃ (u1 u2 : Option V) (us : List V), σ = [some (.ref a), some (.ref d), some (.ref c), some (.ref g), u1, u2] ∧ Same H2 H' ∧ Acc cLc H2 H' g us (pairsOf' p.2.2.1 (ls.take i)))
    ⟨none, none, [], rfl, s3, A0⟩ (fun i σ H' _ ⟨_, _, _, _, s, _⟩ => SqL.of (s _ _ (hS2 _ _ ha))) ?_ ?_⟩
  · rintro i x σ H' hi ⟨u1, u2, us, rfl, s, A⟩
    obtain ⟨l, hl, hr⟩ := pgetl hp hi
    obtain ⟨lt, lb, rfl, hlt, hlb⟩ := id hr
    have sH := hS2.trans s
    have hT := sH _ _ hlt
    have hil := lt_of_at hl
    have hus : us.length ≤ i := by
      rw [A.len, pairsOf', List.length_map]
      have := List.length_filter_le isU (ls.take i)
      rw [List.length_take] at this
      omega
    refine ⟨_, rfl, _, _, _, _, rfl, rfl, SqT.of hT, atI_nat (j := 3) rfl, _, rfl, _, _, _, _, rfl, rfl, SqT.of hT, atI_nat (j := 4) rfl, lsz (by simp), fun t nt => ?_⟩
    have A1 := A.new (o := .tup [.int l.track, .int l.ordinal]) nt
    have ht1 : upd H' t (.tup [.int l.track, .int l.ordinal]) t = some (.tup ((kk (plc l)).map kV)) := upd_same
    have hT1 := upd_keep (o := .tup [.int l.track, .int l.ordinal]) hT nt
    have sH1 := sH.add (o := .tup [.int l.track, .int l.ordinal]) nt
    have s1' := s.add (o := .tup [.int l.track, .int l.ordinal]) nt
    generalize upd H' t (.tup [.int l.track, .int l.ordinal]) = H3 at A1 ht1 hT1 sH1 s1'
    refine ⟨_, rfl, _, _, _, _, rfl, rfl, SqT.of hT1, atI_nat (j := 0) rfl, rfl, _, rfl, ?_⟩
    by_cases q : l.kind = 2
    · have hu : isU l = true := by simp [isU, q]
      have hps : pairsOf' p.2.2.1 (ls.take (i + 1)) = pairsOf' p.2.2.1 (ls.take i) ++ [(l, ctOf p.2.2.1 (plc l))] := by
        rw [pairsOf', take_snoc hl, List.filter_append, List.map_append]
        simp [List.filter, hu, pairsOf']
      have hlm := List.mem_of_getElem? hl
      have hpo := (F.unit l hlm q).1
      obtain ⟨f1, f2, f3⟩ := hf _ hpo
      have hfl : f (plc l) = l := inj_map hnd (List.mem_filter.mpr ⟨f1, by simp [isU, f2]⟩) (List.mem_filter.mpr ⟨hlm, hu⟩) f3
      obtain ⟨v1, w4, w5⟩ := w3 _ hpo
      obtain ⟨v2, c4', r2, rfl, c5⟩ := c3' _ (hes.mem_iff.mpr hpo)
      rw [hfl] at w5
      have hgc := DGet.t (s1' _ _ c1) ht1
      rw [c4'] at hgc
      have hgd := DGet.t (s1' _ _ (s2 _ _ w1)) ht1
      rw [w4] at hgd
      refine ifT (bl_t (congrArg V.int q)) ?_
      refine ⟨_, rfl, _, rfl, c, _, rfl, hgc, _, rfl, ?_⟩
      refine ⟨_, rfl, _, rfl, d, _, rfl, hgd, _, rfl, eqD_same (c := cLeaf) (cLeaf.mono sH1 w5) (cLeaf.mono sH1 hr) trivial ⟨_, rfl, ?_⟩⟩
      refine ⟨_, rfl, .inl ⟨rfl, _, SqL.of A1.at⟩, ?_⟩
      refine ⟨_, rfl, _, l, rfl, cLeaf.mono sH1 hr, fun H4 v4 s4 r4 => ?_⟩
      have hgc4 := DGet.t (s4 _ _ (s1' _ _ c1)) (s4 _ _ ht1)
      rw [c4'] at hgc4
      have A4 := A1.mono s4
      have hr4 : cLeaf.R (del (fresh' H2 H4) g) v4 l := cLeaf.mono (df_call s1' A1.at) r4
      have hc5 : Li H4 r2 (ctOf p.2.2.1 (plc l)) := s4 _ _ (s1' _ _ (fresh_sub _ _ _ _ c5))
      refine ⟨_, rfl, _, rfl, c, _, rfl, hgc4, r2, _, rfl, .inl hc5.sq, fun y ny => ⟨lsz (by simp), fun z nz => ?_⟩⟩
      have s5 := (s1'.trans s4)
      have A5 := (A4.new (o := .lst ((ctOf p.2.2.1 (plc l)).map V.int)) ny).new (o := .tup [v4, .ref y]) nz
      have nzg : z ≠ g := (A4.new (o := .lst ((ctOf p.2.2.1 (plc l)).map V.int)) ny).ne nz
      have s6 := (s5.add (o := .lst ((ctOf p.2.2.1 (plc l)).map V.int)) ny)
      refine ⟨g, _, _, rfl, rfl, A5.at, lsz' (by omega), _, _, us ++ [.ref z], rfl, (s6.add nz).mut ng, ?_⟩
      rw [hps]
      refine A5.push ⟨z, _, _, rfl, df_at upd_same (s6.free nz) nzg, cLeaf.mono (df_mono ((Same.new ny).add nz)) hr4, ⟨y, rfl, df_at (upd_keep upd_same nz) (s5.free ny) (A4.ne ny)⟩⟩
    · have hu : isU l = false := by simp [isU, q]
      have hps : pairsOf' p.2.2.1 (ls.take (i + 1)) = pairsOf' p.2.2.1 (ls.take i) := by
        rw [pairsOf', take_snoc hl, List.filter_append]
        simp [List.filter, hu, pairsOf']
      refine ifF (bl_f fun z => q (V.int.inj z)) (iteF ⟨_, _, us, rfl, s1', ?_⟩)
      rw [hps]
      exact A1
  · rintro σ H' ⟨u1, u2, us, rfl, s, A⟩
    rw [List.take_of_length_le (by rw [hp.length]; exact Nat.le_refl _)] at A
    exact ⟨_, rfl, k H' _ (hS2.trans s) ((cL cLc).mono (fresh_trans hS2) A.done)⟩
end
end Sp
namespace Sp
open PySem PySem.Spec PyProof.Rows L2
section
variable {P : Program} {w : World} {K : PySem.W.Frag} {mg : Str → Option Value} {base : Heap}
def spFh : Sp := fun vs H Q _ => ∃ (v : V) (stamp : Int) (p : Pr) (od : List (Int × Int)) (ls : List Leaf), vs = [v] ∧ (cL cLeaf).R H v ls ∧ FF stamp p od ls ∧ OkPr p ∧
  ∀ H' u, Same H H' → cHead.R (fresh' H H') u (p.1, p.2.1, rowsOf p.2.2.1) → Q u H'
theorem ok_found_head (T : Txt K mg) : FnOk P w K mg base CX0 6 (ga K "found_head") (fdAt K (ga K "found_head")) ["leaves"] spFh := by
  refine okD T.F_found_head sc_found_head (fun vs H Q E h => ?_) (fun cdv A outer s H vs Q E hr h => ?_)
  · obtain ⟨_, _, _, _, _, rfl, _⟩ := h
    rfl
  obtain ⟨_, stamp, p, od, ls, rfl, ⟨a, vs, rfl, ha, hp⟩, F, ok, k⟩ := h
  have nd := sc_found_head.nd
  have hl := F.len
  have hvl := hp.length
  refine ⟨_, ((pss_cons (ps_for PassesOwn.never rfl (pi_list (pv 0)) (pg_name (i := 1) nd rfl (Or.inl rfl)) (pss_one (ps_if (PW.pt (pw_and (pt_cmpR op_eq (pe_ix (ixT_ K rfl) (pv 1) pe_int (fun _ _ => rfl)) (pe_gint T.i_HEAD) (nomark _)) (pw_and1 (pt_cmpR op_eq (pe_ix (ixT_ K rfl) (pv 1) pe_int (fun _ _ => rfl)) pe_int (nomark _))))) (pss_one (ps_try_thru0 (pss_one (ps_ret (pe_call (ok_read_head T) (hr.mono (by decide)) rfl T.g_read_head T.k_read_head T.b_read_head .nil pass0 (pa_cons (pe_ix (ixT_ K rfl) (pv 1) pe_int (fun _ _ => rfl)) pa_nil)))))) pss_nil)))
      (pss_one ps_never))), ?_⟩
  refine ⟨_, rfl, a, rfl, ⟨_, SqL.of ha⟩, for_list (K := K) (a := a) (xs := vs) (fun i σ H' => i = 0 ∧ H' = H ∧ ∃ u : Option V, σ = [some (.ref a), u])
    ⟨rfl, rfl, _, rfl⟩ (fun i σ H' _ ⟨_, e, _⟩ => by rw [e]; exact SqL.of ha) ?_ ?_⟩
  · rintro i x σ H' hi ⟨rfl, rfl, u, rfl⟩
    obtain ⟨l, hl0, t, b, rfl, ht, hb⟩ := pgetl hp hi
    have e : l = _ := Option.some.inj (hl0.symm.trans F.head)
    subst e
    have hr := rows_ok ok
    refine ⟨_, rfl, _, _, _, _, rfl, rfl, SqT.of ht, atI_nat (j := 0) rfl, rfl, _, rfl, ifT (bl_t rfl) ⟨_, rfl, _, _, _, _, rfl, rfl, SqT.of ht, atI_nat (j := 2) rfl, rfl, _, rfl, ifT (bl_t rfl) ?_⟩⟩
    refine ⟨_, rfl, _, _, _, _, rfl, rfl, SqT.of ht, atI_nat (j := 8) rfl, b, p.1, p.2.1, rowsOf p.2.2.1, rfl, hb, ok.ticks, ok.skip, by omega, fun r hr => ?_, k⟩
    obtain ⟨tr, htr, rfl⟩ := List.mem_map.mp hr
    have o := ok.tracks tr htr
    have := o.units.1
    exact ⟨o.name, o.kind, by show 0 ≤ ((tr.2.2.length : Nat) : Int); omega, by show ((tr.2.2.length : Nat) : Int) ≤ 300; omega⟩
  · rintro σ H' ⟨h0, _⟩
    omega
def spFt : Sp := fun vs H Q _ => ∃ (v : V) (stamp : Int) (p : Pr) (od : List (Int × Int)) (ls : List Leaf), vs = [v] ∧ (cL cLeaf).R H v ls ∧ FF stamp p od ls ∧ OkPr p ∧
  ∀ H' u, Same H H' → cTags.R (fresh' H H') u p.2.2.2 → Q u H'
theorem ok_found_tags (T : Txt K mg) : FnOk P w K mg base CX0 6 (ga K "found_tags") (fdAt K (ga K "found_tags")) ["leaves"] spFt := by
  refine okD T.F_found_tags sc_found_tags (fun vs H Q E h => ?_) (fun cdv A outer s H vs Q E hr h => ?_)
  · obtain ⟨_, _, _, _, _, rfl, _⟩ := h
    rfl
  obtain ⟨_, stamp, p, od, ls, rfl, ⟨a, vs, rfl, ha, hp⟩, F, ok, k⟩ := h
  have nd := sc_found_tags.nd
  have hl := F.len
  have hvl := hp.length
  refine ⟨_, ((pss_cons (ps_for PassesOwn.never rfl (pi_list (pv 0)) (pg_name (i := 1) nd rfl (Or.inl rfl)) (pss_one (ps_if (pt_cmpR op_eq (pe_ix (ixT_ K rfl) (pv 1) pe_int (fun _ _ => rfl)) (pe_gint T.i_TAGS) (nomark _)) (pss_one (ps_try_thru0 (pss_one (ps_ret (pe_call (ok_read_tags T) (hr.mono (by decide)) rfl T.g_read_tags T.k_read_tags T.b_read_tags .nil pass0 (pa_cons (pe_ix (ixT_ K rfl) (pv 1) pe_int (fun _ _ => rfl)) pa_nil)))))) pss_nil)))
      (pss_one (ps_ret (pe_lst pa_nil))))), ?_⟩
  refine ⟨_, rfl, a, rfl, ⟨_, SqL.of ha⟩, for_list (K := K) (a := a) (xs := vs) (fun i σ H' => (0 < p.2.2.2.length → i ≤ 1) ∧ H' = H ∧ ∃ u : Option V, σ = [some (.ref a), u])
    ⟨fun _ => Nat.zero_le _, rfl, _, rfl⟩ (fun i σ H' _ ⟨_, e, _⟩ => by rw [e]; exact SqL.of ha) ?_ ?_⟩
  · rintro i x σ H' hi ⟨hi1, rfl, u, rfl⟩
    obtain ⟨l, hl0, t, b, rfl, ht, hb⟩ := pgetl hp hi
    refine ⟨_, rfl, _, _, _, _, rfl, rfl, SqT.of ht, atI_nat (j := 0) rfl, rfl, _, rfl, ?_⟩
    by_cases c : l.kind = 1
    · have hpos : 0 < p.2.2.2.length := by
        by_cases z : 0 < p.2.2.2.length
        · exact z
        · exact absurd c (F.tags0 z l (List.mem_of_getElem? hl0))
      have hi2 : i = 1 := by
        rcases Nat.lt_or_ge i 1 with z | z
        · have : i = 0 := by omega
          subst this
          have e : l = _ := Option.some.inj (hl0.symm.trans F.head)
          rw [e] at c
          exact absurd c (by show ¬ (0 : Int) = 1; decide)
        · have := hi1 hpos
          omega
      subst hi2
      have e : l = _ := Option.some.inj (hl0.symm.trans (F.tags1 hpos))
      subst e
      exact ifT (bl_t rfl) ⟨_, rfl, _, _, _, _, rfl, rfl, SqT.of ht, atI_nat (j := 8) rfl, b, p.2.2.2, rfl, hb, ok.tags, hpos, k⟩
    · refine ifF (bl_f fun z => c (V.int.inj z)) ⟨fun hpos => ?_, rfl, _, rfl⟩
      rcases Nat.lt_or_ge i 1 with z | z
      · omega
      · have h1 := hi1 hpos
        have hi2 : i = 1 := by omega
        subst hi2
        have e : l = _ := Option.some.inj (hl0.symm.trans (F.tags1 hpos))
        rw [e] at c
        exact absurd rfl c
  · rintro σ H' ⟨h0, rfl, u, rfl⟩
    have hz : p.2.2.2 = [] := by
      cases e : p.2.2.2 with
      | nil => rfl
      | cons x r =>
        have := h0 (by rw [e]; simp)
        omega
    refine ⟨Nat.zero_le _, fun q nq => k _ _ (Same.new nq) ?_⟩
    rw [hz]
    exact ⟨q, [], rfl, fresh_of upd_same nq, .nil⟩
end
end Sp
namespace Sp
open PySem PySem.Spec PyProof.Rows L2
abbrev T5 := Int × Int × Int × List Int × Int
def enc5 (x : T5) : PyData := .tuple [.int x.1, .int x.2.1, .int x.2.2.1, .list (x.2.2.2.1.map PyData.int), .int x.2.2.2.2]
def c5 : Cd T5 where
  R := fun H v x => ∃ t b, v = .ref t ∧ H t = some (.tup [.int x.1, .int x.2.1, .int x.2.2.1, .ref b, .int x.2.2.2.2]) ∧ Li H b x.2.2.2.1
  d := enc5
  ok := fun _ => True
  n := 2
  mono := fun s ⟨t, b, e, h, p⟩ => ⟨t, b, e, s _ _ h, p.mono s⟩
  dp := fun ⟨t, b, e, h, p⟩ => by
    subst e
    exact .tup (SqT.of h) (.cons (.int _) (.cons (.int _) (.cons (.int _) (.cons (.lst p.sq (ints_dp _)) (.cons (.int _) .nil)))))
  lay := fun {x} _ => by
    have e := cLi.lay (x := x.2.2.2.1) trivial
    simp only [cLi] at e
    simp only [enc5, PyData.canLay0, PyData.canLayAll0, Bool.true_and, Bool.and_true] at e ⊢
    exact e
  dep := fun x => by
    have e := cLi.dep x.2.2.2.1
    simp only [cLi] at e
    simp only [enc5, PyData.depth, PyData.depthAll] at e ⊢
    omega
theorem alike5 (x y : T5) : PySem.W.alike (enc5 x) (enc5 y) = true := by simp [enc5, PySem.W.alike, PySem.W.alikeAll, PySem.W.alike_ints]
theorem le5 {x y : T5} (h : x.1 < y.1) : PySem.W.dataLe false enc5 x y = true := by
  rw [PySem.W.dataLe_eq]
  show (!PySem.W.dataLt (enc5 y) (enc5 x)) = true
  have : PySem.W.dataLt (enc5 y) (enc5 x) = false := by
    unfold enc5
    rw [PySem.W.dataLt_tuple, PySem.W.dataLt_cons (by simp [PySem.W.alike]), if_neg (by simp [PyData.eqv]; omega), PySem.W.dataLt_int]
    simp
    omega
  rw [this]
  rfl
def row5 (ts : List Tr) (l : Leaf) : T5 := (l.ordinal, l.time, l.span, ctOf ts (plc l), l.key)
def trk (k : Nat) (l : Leaf) : Bool := decide (l.track = (k : Int) + 1)
def mineL (ts : List Tr) (k : Nat) (F0 : List Leaf) : List T5 := (F0.filter (trk k)).map (row5 ts)
def rowU (j : Nat) (u : Un') : T5 := ((j : Int), u.1, u.2.1, u.2.2.1, (if u.2.2.2 = true then 0 else 1))
theorem mine_get {stamp : Int} {p : Pr} {od : List (Int × Int)} {ls : List Leaf} (F : FF stamp p od ls) {k : Nat} {tr : Tr} (ht : p.2.2.1[k]? = some tr) :
    (mineL p.2.2.1 k (ls.filter isU)).length = tr.2.2.length ∧ ∀ (j : Nat) (u : Un'), tr.2.2[j]? = some u → (mineL p.2.2.1 k (ls.filter isU))[j]? = some (rowU j u) := by
  have e := F.O.each k
  rw [← F.places, List.filter_map, List.map_map] at e
  have hn : (lensOf p.2.2.1)[k]?.getD 0 = tr.2.2.length := by
    rw [lensOf, List.getElem?_map, bodsOf, List.getElem?_map, ht]
    exact bodiesOf_len _ _
  rw [hn] at e
  have ef : (ls.filter isU).filter ((fun e => decide (e.1 = (k : Int) + 1)) ∘ plc) = (ls.filter isU).filter (trk k) := rfl
  rw [ef] at e
  have hlen : ((ls.filter isU).filter (trk k)).length = tr.2.2.length := by
    have := congrArg List.length e
    simpa using this
  refine ⟨by rw [mineL, List.length_map, hlen], fun j u hu => ?_⟩
  have hj := lt_of_at hu
  have h1 : ((ls.filter isU).filter (trk k))[j]? = some ((ls.filter isU).filter (trk k))[j] := List.getElem?_eq_getElem (by omega)
  have hmem := List.getElem_mem (l := (ls.filter isU).filter (trk k)) (n := j) (by omega)
  have hord := congrArg (fun l => l[j]?) e
  simp only [List.getElem?_map, h1, List.getElem?_range hj, Option.map_some] at hord
  rw [mineL, List.getElem?_map, h1]
  generalize ((ls.filter isU).filter (trk k))[j] = l at *
  obtain ⟨m1, m2⟩ := List.mem_filter.mp hmem
  obtain ⟨m3, m4⟩ := List.mem_filter.mp m1
  have hk2 : l.kind = 2 := of_decide_eq_true m4
  have hpl : plc l = ((k : Int) + 1, (j : Int)) := Prod.ext (of_decide_eq_true m2) (Option.some.inj hord)
  obtain ⟨u1, u2, u3, u4, u5⟩ := F.unit l m3 hk2
  have A := at_of ht hu
  rw [hpl, A.bd] at u2 u3 u4
  have hct : ctOf p.2.2.1 (plc l) = u.2.2.1 := by rw [ctOf, hpl, A.un]
  show some (row5 p.2.2.1 l) = _
  rw [row5, hct, u2, u3, u4, show l.ordinal = (j : Int) from congrArg Prod.snd hpl]
  rfl
theorem OkUs.next : ∀ {us : List Un'} {l : Int} {i : Nat} {a b : Un'}, OkUs l us → us[i]? = some a → us[i + 1]? = some b → a.1 + a.2.1 ≤ b.1
  | [], _, _, _, _, _, h, _ => by simp at h
  | x :: r, l, 0, a, b, h, h1, h2 => by
    have : x = a := by simpa using h1
    subst this
    cases r with
    | nil => simp at h2
    | cons y r =>
      have : y = b := by simpa using h2
      subst this
      exact h.2.2.2.2.2.2.1
  | x :: r, l, i + 1, a, b, h, h1, h2 => OkUs.next (i := i) h.2.2.2.2.2.2 (by simpa using h1) (by simpa using h2)
theorem seq_asg {v : V} {i : Nat} {u : TS} {D : Ends} {σ : L2.St} {H : Hp} (h : u D (σ.set i (some v)) H) : tSeq (tAsg (tC v) (gName i)) u D σ H := h
section
variable {P : Program} {w : World} {K : PySem.W.Frag} {mg : Str → Option Value} {base : Heap}
def spUo : Sp := fun vs H Q _ => ∃ (v : V) (k : Nat) (stamp : Int) (p : Pr) (od : List (Int × Int)) (ls : List Leaf) (tr : Tr), vs = [v, .int ((k : Int) + 1)] ∧ (cL cLc).R H v (pairsOf' p.2.2.1 ls) ∧ FF stamp p od ls ∧ OkPr p ∧ p.2.2.1[k]? = some tr ∧
  ∀ H' u, Same H H' → (cL cUn).R (fresh' H H') u tr.2.2 → Q u H'
theorem ok_units_of (T : Txt K mg) : FnOk P w K mg base CX0 1 (ga K "units_of") (fdAt K (ga K "units_of")) ["pairs", "track"] spUo := by
  refine okD T.F_units_of sc_units_of (fun vs H Q E h => ?_) (fun cdv A outer s H vs Q E hr h => ?_)
  · obtain ⟨_, _, _, _, _, _, _, rfl, _⟩ := h
    rfl
  obtain ⟨_, kt, stamp, p, od, ls, tr, rfl, ⟨a, vs, rfl, ha, hp⟩, F, ok, htr, k⟩ := h
  have nd := sc_units_of.nd
  have hl := F.len
  have hvl := hp.length
  have oks := (ok.tracks tr (List.mem_of_getElem? htr)).units
  have hul := oks.1
  obtain ⟨hml, hmg⟩ := mine_get F htr
  have hF0 : (ls.filter isU).length < 64 := by have := List.length_filter_le isU ls; omega
  have hpl : (pairsOf' p.2.2.1 ls).length = (ls.filter isU).length := by rw [pairsOf', List.length_map]
  refine ⟨_, ((pss_cons (ps_set (i := 2) nd rfl (Or.inl rfl) (pe_lst pa_nil))
      (pss_cons (ps_set (i := 3) nd rfl (Or.inl rfl) pe_non)
      (pss_cons (ps_set (i := 4) nd rfl (Or.inl rfl) (pe_callB (cr_sortD (by have := hr.un; show (A.deeper _).units + 65 < _; omega)) rfl T.n_sorted boot_sorted (pa_cons (pe_lc (own := [("leaf", 5), ("content", 6)]) rfl nd (pi_list (pv 0)) (blkOk_by (N := N_units_of) (sc := defScope s_units_of) (by decide +kernel)) (fun _ _ _ _ _ => (pg_tup_ K rfl rfl (n := 2) (pgs_cons (pg_name (i := 5) nd rfl (Or.inl rfl)) (pgs_cons (pg_name (i := 6) nd rfl (Or.inl rfl)) pgs_nil)))) (fun _ _ _ _ _ => (pts_one (pt_cmpR op_eq (pe_ix (ixT_ K rfl) (pv 5) pe_int (fun _ _ => rfl)) (pv 1) (nomark _)))) (fun _ _ _ _ _ => (pe_tup (pa_cons (pe_ix (ixT_ K rfl) (pv 5) pe_int (fun _ _ => rfl)) (pa_cons (pe_ix (ixT_ K rfl) (pv 5) pe_int (fun _ _ => rfl)) (pa_cons (pe_ix (ixT_ K rfl) (pv 5) pe_int (fun _ _ => rfl)) (pa_cons (pv 6) (pa_cons (pe_ix (ixT_ K rfl) (pv 5) pe_int (fun _ _ => rfl)) pa_nil)))))))) pa_nil)))
      (pss_cons (ps_for PassesOwn.never rfl (pi_list (pv 4)) (pg_tup_ K rfl rfl (n := 5) (pgs_cons (pg_name (i := 7) nd rfl (Or.inl rfl)) (pgs_cons (pg_name (i := 8) nd rfl (Or.inl rfl)) (pgs_cons (pg_name (i := 9) nd rfl (Or.inl rfl)) (pgs_cons (pg_name (i := 6) nd rfl (Or.inl rfl)) (pgs_cons (pg_name (i := 10) nd rfl (Or.inl rfl)) pgs_nil)))))) (pss_cons (ps_set (i := 11) nd rfl (Or.inl rfl) pe_int)
        (pss_cons (ps_if (pt_cmpR op_gt (pe_callB (lenS_ K rfl) rfl T.n_len boot_len (pa_cons (pv 2) pa_nil)) pe_int (nomark _)) (pss_one (ps_set (i := 11) nd rfl (Or.inl rfl) (pe_op op_add (pe_ix (ixT_ K rfl) (pe_ix (ixL_ K rfl) (pv 2) (pe_un un_neg pe_int) (fun _ _ => rfl)) pe_int (fun _ _ => rfl)) (pe_ix (ixT_ K rfl) (pe_ix (ixL_ K rfl) (pv 2) (pe_un un_neg pe_int) (fun _ _ => rfl)) pe_int (fun _ _ => rfl))))) pss_nil)
        (pss_one (ps_if (PW.pt (pw_and (pt_cmpR op_gt (pv 9) pe_int (nomark _)) (pw_and (pt_cmpR op_ge (pv 8) (pv 11) (nomark _)) (pw_and1 (pt_cmpR op_lt (pe_callB (lenS_ K rfl) rfl T.n_len boot_len (pa_cons (pv 2) pa_nil)) (pe_gint T.i_MOST_UNITS_rebuild) (nomark _)))))) (pss_cons (ps_set (i := 12) nd rfl (Or.inl rfl) (pe_and (pe_cmpR op_eq (pv 10) pe_int (nomark _)) (pe_one (pe_cmpR op_eq (pv 3) (pe_op op_sub (pv 7) pe_int) (nomark _)))))
          (pss_cons (ps_expr (pe_bm PySem.F.plainAttrs_list PySem.F.slot_list_append PySem.F.type_list_append mt_append (pv 2) (pa_cons (pe_tup (pa_cons (pv 8) (pa_cons (pv 9) (pa_cons (pe_callTy (listOf_ K rfl) rfl T.n_list boot_list (pa_cons (pv 6) pa_nil)) (pa_cons (pv 12) pa_nil))))) pa_nil)))
          (pss_one (ps_set (i := 3) nd rfl (Or.inl rfl) (pv 7))))) pss_nil)))))
      (pss_one (ps_ret (pv 2)))))))), ?_⟩
  refine ⟨Nat.zero_le _, fun f nf => ?_⟩
  have hf1 : upd H f (.lst []) f = some (.lst []) := upd_same
  have s1 : Same H (upd H f (.lst [])) := Same.new nf
  generalize upd H f (.lst []) = H1 at hf1 s1
  refine ⟨_, rfl, a, rfl, ⟨_, SqL.of (s1 _ _ ha)⟩, fun D hD => lc_list (K := K) (a := a) (xs := vs) (fun j H3 => ∃ ws, Same H1 H3 ∧ H3 D = some (.lst ws) ∧ Paired (c5.R (del (del H3 D) f)) ws (mineL p.2.2.1 kt ((ls.filter isU).take j)))
      ⟨[], Same.new hD, upd_same, .nil⟩ (fun j H3 _ ⟨ws, h1, _⟩ => SqL.of (h1 _ _ (s1 _ _ ha))) ?_ ?_⟩
  · rintro j x H3 hj ⟨ws, s3, hD3, hw⟩
    obtain ⟨e, he, t, y1, y2, rfl, ht, ⟨lt, lb, rfl, hlt, hlb⟩, ⟨cb, rfl, hcb⟩⟩ := pgetl hp hj
    rw [pairsOf', List.getElem?_map] at he
    obtain ⟨l, hl0, rfl⟩ := Option.map_eq_some_iff.mp he
    have s := s1.trans s3
    have hT := s _ _ hlt
    have hjl := lt_of_at hl0
    have hwl : ws.length ≤ j := by
      rw [hw.length, mineL, List.length_map]
      have := List.length_filter_le (trk kt) ((ls.filter isU).take j)
      rw [List.length_take] at this
      omega
    refine ⟨t, _, rfl, SqT.of (s _ _ ht), rfl, _, _, rfl, _, _, rfl, rfl, rfl, ?_⟩
    refine ⟨_, rfl, _, _, _, _, rfl, rfl, SqT.of hT, atI_nat (j := 3) rfl, _, rfl, rfl, _, rfl, ?_⟩
    by_cases c : l.track = (kt : Int) + 1
    · have hm : mineL p.2.2.1 kt ((ls.filter isU).take (j + 1)) = mineL p.2.2.1 kt ((ls.filter isU).take j) ++ [row5 p.2.2.1 l] := by
        rw [mineL, take_snoc hl0, List.filter_append, List.map_append]
        simp [List.filter, trk, c, mineL]
      refine ifT (bl_t (congrArg V.int c)) ?_
      refine ⟨_, rfl, _, _, _, _, rfl, rfl, SqT.of hT, atI_nat (j := 4) rfl, _, rfl, _, _, _, _, rfl, rfl, SqT.of hT, atI_nat (j := 5) rfl, _, rfl, _, _, _, _, rfl, rfl, SqT.of hT, atI_nat (j := 6) rfl, _, rfl, _, rfl, _, _, _, _, rfl, rfl, SqT.of hT, atI_nat (j := 7) rfl, lsz (by simp), fun z nz => ?_⟩
      have nzD : z ≠ D := (ne_of_none hD3 nz).symm
      have ncD : cb ≠ D := fun q => by
        have h1 : H1 cb = _ := s1 _ _ hcb
        rw [q, hD] at h1
        cases h1
      refine ⟨ws, upd_keep hD3 nz, lsz' (by omega), ws ++ [.ref z], (s3.add nz).mut hD, upd_same, ?_⟩
      rw [hm, del_upd]
      refine papp (pmap hw fun _ _ r => c5.mono (del_mono (del_mono (Same.new nz))) r) (.cons ⟨z, cb, rfl, (del_ne (ne_of_none (s3 _ _ hf1) nz).symm).trans ((del_ne nzD).trans upd_same), ?_⟩ .nil)
      exact (del_ne (ne_of_none hcb nf)).trans ((del_ne ncD).trans (upd_keep (s _ _ hcb) nz))
    · have hm : mineL p.2.2.1 kt ((ls.filter isU).take (j + 1)) = mineL p.2.2.1 kt ((ls.filter isU).take j) := by
        rw [mineL, take_snoc hl0, List.filter_append]
        simp [List.filter, trk, c, mineL]
      refine ifF (bl_f fun z => c (V.int.inj z)) ⟨ws, s3, hD3, ?_⟩
      rw [hm]
      exact hw
  rintro H2 ⟨ws, s2, hD2, hw⟩
  rw [List.take_of_length_le (by omega)] at hw
  have hw2 : Paired (c5.R (del H2 f)) ws (mineL p.2.2.1 kt (ls.filter isU)) := pmap hw fun _ _ r => c5.mono (del_mono (del_sub _ _)) r
  have hsorted : (mineL p.2.2.1 kt (ls.filter isU)).mergeSort (PySem.W.dataLe false enc5) = mineL p.2.2.1 kt (ls.filter isU) := by
    refine List.mergeSort_of_pairwise ?_
    rw [List.pairwise_iff_getElem]
    intro i j hi hj hij
    have g1 := hmg i tr.2.2[i] (List.getElem?_eq_getElem (by omega))
    have g2 := hmg j tr.2.2[j] (List.getElem?_eq_getElem (by omega))
    rw [(List.getElem?_eq_some_iff.mp g1).2, (List.getElem?_eq_some_iff.mp g2).2]
    exact le5 (show (i : Int) < (j : Int) by omega)
  refine ⟨D, ws, T5, _, enc5, c5.R (del H2 f), rfl, SqL.of hD2, hw2, fun x b r => c5.dp (c5.mono (del_sub _ _) r), PySem.W.AllAlike.of alike5, PySem.W.Sortable.tuples (fun b => ⟨_, _, rfl⟩), by omega, fun b hb => Nat.le_trans (c5.dep b) (show 2 ≤ 60 by decide), fun ys q hys nq => ?_⟩
  rw [hsorted] at hys
  have S2 := s1.trans s2
  have hf2 := s2 _ _ hf1
  have hq3 : upd H2 q (.lst ys) q = some (.lst ys) := upd_same
  have hf3 := upd_keep (o := .lst ys) hf2 nq
  have s3 : Same H2 (upd H2 q (.lst ys)) := Same.new nq
  have hy3 : Paired (c5.R (del (upd H2 q (.lst ys)) f)) ys (mineL p.2.2.1 kt (ls.filter isU)) := pmap hys fun _ _ r => c5.mono (del_mono s3) r
  have S3 := S2.trans s3
  clear hys hw hw2 hD2
  have nfq : f ≠ q := ne_of_none hf2 nq
  generalize upd H2 q (.lst ys) = H3 at hq3 hf3 s3 hy3 S3
  have hyl := hy3.length
  -- the units, one after another
  have hqf : del H3 f q = some (.lst ys) := (del_ne nfq.symm).trans hq3
  refine ⟨_, rfl, q, rfl, ⟨_, SqL.of hq3⟩, for_list (K := K) (a := q) (xs := ys) (fun i σ H' => ∃ (u1 u2 u3 u4 u5 u6 u7 u8 : Option V) (us : List V), σ = [some (.ref a), some (.int ((kt : Int) + 1)), some (.ref f), some (if i = 0 then V.non else V.int ((i : Int) - 1)), some (.ref q), u1, u2, u3, u4, u5, u6, u7, u8] ∧ Same (del H3 f) H' ∧ Same H H' ∧ Acc cUn H H' f us (tr.2.2.take i))
    ⟨none, none, none, none, none, none, none, none, [], rfl, del_sub _ _, S3, Acc.nil nf hf3⟩ (fun i σ H' _ ⟨_, _, _, _, _, _, _, _, _, _, s, _⟩ => SqL.of (s _ _ hqf)) ?_ ?_⟩
  · rintro i x σ H' hi ⟨u1, u2, u3, u4, u5, u6, u7, u8, us, rfl, sd, s, A⟩
    obtain ⟨e, he, hr⟩ := pgetl hy3 hi
    have hil := lt_of_at he
    rw [hml] at hil
    have hu : tr.2.2[i]? = some tr.2.2[i] := List.getElem?_eq_getElem hil
    generalize tr.2.2[i] = un at hu
    have hee : e = rowU i un := Option.some.inj (he.symm.trans (hmg i un hu))
    subst hee
    obtain ⟨t, b, rfl, ht, hb⟩ := hr
    have hum := oks.2.1.mem un (List.mem_of_getElem? hu)
    have hus : us.length = i := by rw [A.len, List.length_take]; omega
    have ht' := sd _ _ ht
    have hb' : Li H' b un.2.2.1 := sd _ _ hb
    refine ⟨t, _, rfl, SqT.of ht', rfl, _, _, rfl, _, _, rfl, _, _, rfl, _, _, rfl, _, _, rfl, rfl, ?_⟩
    dsimp only
    refine seq_asg ?_
    refine seq_mid (t := tIfS _ _ _) (fun σ' H2 => H' = H2 ∧ ∃ due : Int, due ≤ un.1 ∧ σ' = [some (.ref a), some (.int ((kt : Int) + 1)), some (.ref f), some (if i = 0 then V.non else V.int ((i : Int) - 1)), some (.ref q), u1, some (.ref b), some (.int i), some (.int un.1), some (.int un.2.1), some (.int (if un.2.2.2 = true then 0 else 1)), some (.int due), u8]) (fun nx hnx => ?_) ?_
    · refine ⟨_, rfl, _, _, rfl, .inl (SqL.of A.at), _, _, rfl, rfl, _, rfl, ?_⟩
      by_cases c : 0 < i
      · have hpr : tr.2.2[i - 1]? = some tr.2.2[i - 1] := List.getElem?_eq_getElem (by omega)
        generalize tr.2.2[i - 1] = pv at hpr
        have hpr2 : (tr.2.2.take i)[i - 1]? = some pv := by rw [List.getElem?_take, if_pos (by omega)]; exact hpr
        obtain ⟨y0, hy0, t2, z1, z2, z3, z4, rfl, ht2, rfl, rfl, _, _⟩ := pget A.2.2 hpr2
        have hT2 : H' t2 = _ := fresh_sub _ _ _ _ (del_sub _ _ _ _ ht2)
        have hnx2 := oks.2.1.next (i := i - 1) hpr (by rw [show i - 1 + 1 = i by omega]; exact hu)
        have hlast := atI_last (vs := us) (x := V.ref t2) (by rw [hus]; exact hy0) (by omega)
        refine yT (by omega) ⟨_, rfl, _, rfl, _, _, _, _, rfl, rfl, SqL.of A.at, hlast, _, _, _, _, rfl, rfl, SqT.of hT2, atI_nat (j := 0) rfl, ?_⟩
        refine ⟨_, rfl, _, rfl, _, _, _, _, rfl, rfl, SqL.of A.at, hlast, _, _, _, _, rfl, rfl, SqT.of hT2, atI_nat (j := 1) rfl, _, _, rfl, rfl, hnx _ _ ⟨rfl, pv.1 + pv.2.1, hnx2, rfl⟩⟩
      · exact yF (by omega) (hnx _ _ ⟨rfl, 0, hum.1, rfl⟩)
    rintro _ _ ⟨rfl, due, hdue, rfl⟩
    refine ⟨_, rfl, _, _, rfl, rfl, _, rfl, yT (by omega) ⟨_, rfl, _, rfl, _, _, rfl, rfl, _, rfl, yT (by omega) ⟨_, rfl, _, _, rfl, .inl (SqL.of A.at), _, _, rfl, rfl, _, rfl, yT (by omega) ?_⟩⟩⟩
    refine seq_mid (t := tAsg _ _) (fun σ' H2 => H' = H2 ∧ σ' = [some (.ref a), some (.int ((kt : Int) + 1)), some (.ref f), some (if i = 0 then V.non else V.int ((i : Int) - 1)), some (.ref q), u1, some (.ref b), some (.int i), some (.int un.1), some (.int un.2.1), some (.int (if un.2.2.2 = true then 0 else 1)), some (.int due), some (.bl un.2.2.2)]) (fun nx hnx => ?_) ?_
    · refine ⟨_, rfl, rfl, _, rfl, ?_⟩
      by_cases hle : un.2.2.2 = true
      · have hi0 : i ≠ 0 := fun z => by
          subst z
          have := oks.2.2 un hu
          rw [hle] at this
          cases this
        rw [hle, if_neg hi0] at hnx ⊢
        refine ifT (bl_t rfl) ⟨_, rfl, _, rfl, _, _, rfl, rfl, rfl, ?_⟩
        dsimp only [gName]
        rw [decide_eq_true rfl]
        exact hnx _ _ ⟨rfl, rfl⟩
      · have hl2 : un.2.2.2 = false := by simpa using hle
        rw [hl2] at hnx ⊢
        exact ifF (bl_f fun z => by cases z) (hnx _ _ ⟨rfl, rfl⟩)
    rintro _ _ ⟨rfl, rfl⟩
    refine ⟨_, rfl, .inl ⟨rfl, _, SqL.of A.at⟩, _, rfl, _, rfl, _, rfl, b, _, rfl, .inl hb'.sq, fun y ny => ⟨_, rfl, lsz (by simp), fun z nz => ?_⟩⟩
    have A1 := A.new (o := .lst (un.2.2.1.map V.int)) ny
    have A2 := A1.new (o := .tup [.int un.1, .int un.2.1, .ref y, .bl un.2.2.2]) nz
    have s1 := (s.add (o := .lst (un.2.2.1.map V.int)) ny)
    refine ⟨f, _, _, rfl, rfl, A2.at, lsz' (by omega), _, rfl, u1, some (.ref b), some (.int i), some (.int un.1), some (.int un.2.1), some (.int (if un.2.2.2 = true then 0 else 1)), some (.int due), some (.bl un.2.2.2), us ++ [.ref z], ?_, ?_, (s1.add nz).mut nf, ?_⟩
    · rw [if_neg (show ¬ i + 1 = 0 by omega), show (((i + 1 : Nat) : Int) - 1) = (i : Int) by omega]
      rfl
    · exact ((sd.add ny).add nz).mut del_same
    · rw [take_snoc hu]
      exact A2.push ⟨z, _, _, _, _, rfl, df_at upd_same (s1.free nz) (A1.ne nz), rfl, rfl, ⟨y, rfl, df_at (upd_keep upd_same nz) (s.free ny) (A.ne ny)⟩, rfl⟩
  · rintro σ H' ⟨u1, u2, u3, u4, u5, u6, u7, u8, us, rfl, sd, s, A⟩
    rw [List.take_of_length_le (by omega)] at A
    exact ⟨_, rfl, k H' _ s A.done⟩
end
end Sp
namespace Sp
open PySem PySem.Spec PyProof.Rows L2
section
variable {P : Program} {w : World} {K : PySem.W.Frag} {mg : Str → Option Value} {base : Heap}
def spRebuilt : Sp := fun vs H Q _ => ∃ (v : V) (stamp : Int) (p : Pr) (od : List (Int × Int)) (ls : List Leaf), vs = [v] ∧ (cL cLeaf).R H v ls ∧ FF stamp p od ls ∧ OkPr p ∧
  ∀ H' u, Same H H' → cPr.R (fresh' H H') u p → Q u H'
theorem ok_rebuilt (T : Txt K mg) : FnOk P w K mg base CX0 8 (ga K "rebuilt") (fdAt K (ga K "rebuilt")) ["leaves"] spRebuilt := by
  refine okD T.F_rebuilt sc_rebuilt (fun vs H Q E h => ?_) (fun cdv A outer s H vs Q E hr h => ?_)
  · obtain ⟨_, _, _, _, _, rfl, _⟩ := h
    rfl
  obtain ⟨v, stamp, p, od, ls, rfl, hv, F, ok, k⟩ := h
  have nd := sc_rebuilt.nd
  have htl := ok.len
  refine ⟨_, ((pss_cons (ps_asg (pe_call (ok_found_head T) (hr.mono (by decide)) rfl T.g_found_head T.k_found_head T.b_found_head .nil pass0 (pa_cons (pv 0) pa_nil)) (pg_tup_ K rfl rfl (n := 3) (pgs_cons (pg_name (i := 1) nd rfl (Or.inl rfl)) (pgs_cons (pg_name (i := 2) nd rfl (Or.inl rfl)) (pgs_cons (pg_name (i := 3) nd rfl (Or.inl rfl)) pgs_nil)))))
      (pss_cons (ps_set (i := 4) nd rfl (Or.inl rfl) (pe_call (ok_sound T) (hr.mono (by decide)) rfl T.g_sound T.k_sound T.b_sound .nil pass0 (pa_cons (pv 0) pa_nil)))
      (pss_cons (ps_set (i := 5) nd rfl (Or.inl rfl) (pe_lst pa_nil))
      (pss_cons (ps_for PassesOwn.never rfl (pi_range1 rfl T.n_range (pa_cons (pe_callB (lenS_ K rfl) rfl T.n_len boot_len (pa_cons (pv 3) pa_nil)) pa_nil)) (pg_name (i := 6) nd rfl (Or.inl rfl)) (pss_one (ps_expr (pe_bm PySem.F.plainAttrs_list PySem.F.slot_list_append PySem.F.type_list_append mt_append (pv 5) (pa_cons (pe_tup (pa_cons (pe_ix (ixT_ K rfl) (pe_ix (ixL_ K rfl) (pv 3) (pv 6) (fun _ _ => rfl)) pe_int (fun _ _ => rfl)) (pa_cons (pe_ix (ixT_ K rfl) (pe_ix (ixL_ K rfl) (pv 3) (pv 6) (fun _ _ => rfl)) pe_int (fun _ _ => rfl)) (pa_cons (pe_call (ok_units_of T) (hr.mono (by decide)) rfl T.g_units_of T.k_units_of T.b_units_of .nil pass0 (pa_cons (pv 4) (pa_cons (pe_op op_add (pv 6) pe_int) pa_nil))) pa_nil)))) pa_nil)))))
      (pss_one (ps_ret (pe_tup (pa_cons (pv 1) (pa_cons (pv 2) (pa_cons (pv 5) (pa_cons (pe_call (ok_found_tags T) (hr.mono (by decide)) rfl T.g_found_tags T.k_found_tags T.b_found_tags .nil pass0 (pa_cons (pv 0) pa_nil)) pa_nil)))))))))))), ?_⟩
  refine ⟨_, rfl, _, stamp, p, od, ls, rfl, hv, F, ok, fun H1 u1 s1 hu => ?_⟩
  obtain ⟨t0, x1, x2, x3, rfl, h0, rfl, rfl, ⟨ra, rvs, rfl, hra, hrp⟩⟩ := cHead.mono (fresh_sub _ _) hu
  have hrl : rvs.length = p.2.2.1.length := by rw [hrp.length, rowsOf, List.length_map]
  refine ⟨t0, _, rfl, SqT.of h0, rfl, _, _, rfl, _, _, rfl, _, _, rfl, rfl, ?_⟩
  refine ⟨_, rfl, _, stamp, p, od, ls, rfl, (cL cLeaf).mono s1 hv, F, ok, fun H2 u2 s2 hpr => ?_⟩
  have hpr2 := (cL cLc).mono (fresh_sub _ _) hpr
  have S2 := s1.trans s2
  refine ⟨Nat.zero_le _, fun f nf => ?_⟩
  have s3 : Same H2 (upd H2 f (.lst [])) := Same.new nf
  refine ⟨_, rfl, _, _, rfl, .inl (SqL.of (s3 _ _ (s2 _ _ hra))), _, rfl, by omega, by omega, for_range (n := ((rvs.length : Nat) : Int).toNat) (fun i σ H' => ∃ (u1 : Option V) (us : List V), σ = [some v, some (.int p.1), some (.int p.2.1), some (.ref ra), some u2, some (.ref f), u1] ∧ Same H2 H' ∧ Acc cTr H2 H' f us (p.2.2.1.take i))
    ⟨none, [], rfl, s3, Acc.nil nf upd_same⟩ ?_ ?_⟩
  · rintro i σ H' hi ⟨u1, us, rfl, s, A⟩
    have hi2 : i < p.2.2.1.length := by omega
    have htr : p.2.2.1[i]? = some p.2.2.1[i] := List.getElem?_eq_getElem hi2
    generalize p.2.2.1[i] = tr at htr
    have hrow : (rowsOf p.2.2.1)[i]? = some (tr.1, tr.2.1, (tr.2.2.length : Int)) := by rw [rowsOf, List.getElem?_map, htr]; rfl
    obtain ⟨x, hx, t, y1, y2, y3, rfl, ht, rfl, rfl, rfl⟩ := pget hrp hrow
    have hra' := s _ _ (s2 _ _ hra)
    have ht' := s _ _ (s2 _ _ ht)
    have hus : us.length = i := by rw [A.len, List.length_take]; omega
    refine ⟨_, rfl, .inl ⟨rfl, _, SqL.of A.at⟩, ?_⟩
    refine ⟨_, rfl, _, rfl, _, _, _, _, rfl, rfl, SqL.of hra', at0 (i := i) (by omega) hx, _, _, _, _, rfl, rfl, SqT.of ht', atI_nat (j := 0) rfl, ?_⟩
    refine ⟨_, rfl, _, rfl, _, _, _, _, rfl, rfl, SqL.of hra', at0 (i := i) (by omega) hx, _, _, _, _, rfl, rfl, SqT.of ht', atI_nat (j := 1) rfl, ?_⟩
    refine ⟨_, rfl, _, rfl, _, _, rfl, rfl, u2, i, stamp, p, od, ls, tr, by rw [Int.zero_add]; rfl, (cL cLc).mono s hpr2, F, ok, htr, fun H3 u3 s4 hu3 => ⟨lsz (by simp), fun z nz => ?_⟩⟩
    have A3 := A.mono s4
    have A4 := A3.new (o := .tup [.str tr.1, .str tr.2.1, u3]) nz
    refine ⟨f, _, _, rfl, rfl, A4.at, lsz' (by omega), _, us ++ [.ref z], rfl, ((s.trans s4).add nz).mut nf, ?_⟩
    rw [take_snoc htr]
    refine A4.push ⟨z, _, _, _, rfl, df_at upd_same ((s.trans s4).free nz) (A3.ne nz), rfl, rfl, ?_⟩
    exact (cL cUn).mono ((df_call s A.at).trans (df_mono (Same.new nz))) hu3
  · rintro σ H' ⟨u1, us, rfl, s, A⟩
    rw [List.take_of_length_le (by omega)] at A
    have S3 := S2.trans s
    refine ⟨_, rfl, _, rfl, _, rfl, _, rfl, _, stamp, p, od, ls, rfl, (cL cLeaf).mono S3 hv, F, ok, fun H4 u4 s4 hu4 => ⟨lsz (by simp), fun z nz => ?_⟩⟩
    have A2 := (A.mono s4).new (o := .tup [.int p.1, .int p.2.1, .ref f, u4]) nz
    refine k _ _ ((S3.trans s4).add nz) ⟨z, _, _, _, _, rfl, fresh_of upd_same ((S3.trans s4).free nz), rfl, rfl, (cL cTr).mono (fresh_trans S2) A2.done, ?_⟩
    exact cTags.mono ((fresh_trans S3).trans (fresh_mono (Same.new nz))) hu4
/-- a row that has all of a file's pieces, and what else it has belongs to another stamp -/
structure HasF (stamp : Int) (F : List Leaf) (pool : List Leaf) : Prop where
  ins : ∀ l ∈ pool, l.stamp = stamp → ∃ i : Nat, F[i]? = some l ∧ l.number = i
  all : ∀ (i : Nat) (l : Leaf), F[i]? = some l → l ∈ pool ∧ l.stamp = stamp ∧ l.number = i
theorem HasF.fin {stamp : Int} {F pool : List Leaf} (h : HasF stamp F pool) {finds : List Find} (e : finds.map (fun t => t.2.2) = pool) :
    (∀ t ∈ finds, t.2.2.stamp = stamp → ∃ i : Nat, F[i]? = some t.2.2 ∧ t.2.2.number = i) ∧ (∀ (i : Nat) (l : Leaf), F[i]? = some l → ∃ t ∈ finds, t.2.2 = l ∧ l.stamp = stamp ∧ l.number = i) := by
  subst e
  refine ⟨fun t ht hs => h.ins _ (List.mem_map.mpr ⟨t, ht, rfl⟩) hs, fun i l hl => ?_⟩
  obtain ⟨h1, h2, h3⟩ := h.all i l hl
  obtain ⟨t, ht, rfl⟩ := List.mem_map.mp h1
  exact ⟨t, ht, rfl, h2, h3⟩
def spRebuild : Sp := fun vs H Q _ => ∃ (a : Addr) (n stamp : Int) (ss : List (List Int)) (pool F : List Leaf) (p : Pr) (od : List (Int × Int)), vs = [.ref a, .int stamp, .int n] ∧ Li H a (segs ss) ∧ (segs ss).length ≤ 1000000 ∧ ss.filter (fun s => decide (s ≠ [])) = pool.map piece ∧ (∀ l ∈ pool, l.Wf) ∧
  HasF stamp F pool ∧ FF stamp p od F ∧ OkPr p ∧ (0 ≤ stamp ∧ stamp ≤ 4294967295) ∧ (0 ≤ n ∧ n ≤ 100) ∧ ∀ ls, FileOf stamp p ls → RL H Q (encF ls)
theorem ok_rebuild (T : Txt K mg) : FnOk P w K mg base CX0 9 (ga K "rebuild") (fdAt K (ga K "rebuild")) ["row", "stamp", "count"] spRebuild := by
  refine okD T.F_rebuild sc_rebuild (fun vs H Q E h => ?_) (fun cdv A outer s H vs Q E hr h => ?_)
  · obtain ⟨_, _, _, _, _, _, _, _, rfl, _⟩ := h
    rfl
  obtain ⟨a, n, stamp, ss, pool, F, p, od, rfl, ha, hsz, hss, hwf, hF, hff, ok, hs, hn, k⟩ := h
  have nd := sc_rebuild.nd
  refine ⟨_, ((pss_one (ps_ret (pe_call (ok_write T) (hr.mono (by decide)) rfl T.g_write T.k_write T.b_write .nil pass0 (pa_cons (pe_call (ok_rebuilt T) (hr.mono (by decide)) rfl T.g_rebuilt T.k_rebuilt T.b_rebuilt .nil pass0 (pa_cons (pe_call (ok_roll T) (hr.mono (by decide)) rfl T.g_roll T.k_roll T.b_roll .nil pass0 (pa_cons (pe_call (ok_salvage T) (hr.mono (by decide)) rfl T.g_salvage T.k_salvage T.b_salvage .nil pass0 (pa_cons (pv 0) pa_nil)) (pa_cons (pv 1) pa_nil))) pa_nil)) (pa_cons (pv 1) (pa_cons (pv 2) pa_nil))))))), ?_⟩
  refine ⟨_, rfl, a, ss, pool, rfl, ha, hsz, hss, hwf, fun H1 v finds s1 hfd hv => ?_⟩
  obtain ⟨q1, q2⟩ := hF.fin hfd
  refine ⟨_, rfl, v, stamp, finds, F, rfl, (cL cFind).mono (fresh_sub _ _) hv, hff.len.1, q1, q2, fun H2 v2 s2 hv2 => ?_⟩
  refine ⟨v2, stamp, p, od, F, rfl, (cL cLeaf).mono (fresh_sub _ _) hv2, hff, ok, fun H3 v3 s3 hv3 => ?_⟩
  refine ⟨_, rfl, _, rfl, v3, n, stamp, p, rfl, cPr.mono (fresh_sub _ _) hv3, ok, hs, hn, fun ls hls q H4 s4 nq hq => ?_⟩
  exact k ls hls q H4 (((s1.trans s2).trans s3).trans s4) (((s1.trans s2).trans s3).free nq) hq
end
end Sp
namespace Sp
open PySem PySem.Spec PyProof.Rows L2
def tailF (ls : List Leaf) : List Int := ls.flatMap fun l => piece l ++ [0]
theorem encF_app (a b : List Leaf) : encF (a ++ b) = encF a ++ tailF b := by
  simp only [encF, segs, tailF, List.map_append, List.flatMap_append, List.flatMap_map, List.cons_append]
theorem split_at {α : Type} {ls : List α} {k : Nat} {l : α} (h : ls[k]? = some l) : ls = ls.take k ++ l :: ls.drop (k + 1) := by
  obtain ⟨hk, e⟩ := List.getElem?_eq_some_iff.mp h
  rw [← e, ← List.drop_eq_getElem_cons hk, List.take_append_drop]
theorem encF_at {ls : List Leaf} {k : Nat} {l : Leaf} (h : ls[k]? = some l) : encF ls = encF (ls.take k) ++ (piece l ++ 0 :: tailF (ls.drop (k + 1))) := by
  have e := congrArg encF (split_at h)
  rw [encF_app] at e
  rw [e]
  simp [tailF]
theorem encF_next {ls : List Leaf} {k : Nat} {l : Leaf} (h : ls[k]? = some l) : (encF (ls.take (k + 1))).length = (encF (ls.take k)).length + ((piece l).length + 1) := by
  rw [take_snoc h, encF_snoc, List.length_append, List.length_append]
  rfl
theorem encF_mono {ls : List Leaf} : ∀ {i j : Nat}, i < j → j ≤ ls.length → (encF (ls.take i)).length < (encF (ls.take j)).length
  | i, 0, h, _ => by omega
  | i, j + 1, h, hj => by
    have hl : ls[j]? = some ls[j] := List.getElem?_eq_getElem (by omega)
    rw [encF_next hl]
    by_cases c : i = j
    · subst c; omega
    · have := encF_mono (ls := ls) (i := i) (j := j) (by omega) (by omega)
      omega
theorem encF_pos (ls : List Leaf) : 0 < (encF ls).length := by simp [encF, segs]
theorem encF_head (ls : List Leaf) : (encF ls)[0]? = some 0 := rfl
/-- the kinds by place -/
theorem kind_at {stamp : Int} {p : Pr} {inE : Int × Int → Bool} {od : List (Int × Int)} {k : Nat} {l : Leaf} (h : (fileL stamp p inE od)[k]? = some l) :
    (l.kind = 0 ↔ k = 0) ∧ (l.kind = 1 ↔ (k = 1 ∧ 0 < p.2.2.2.length)) ∧ (l.kind = 3 ↔ k + 2 = (fileL stamp p inE od).length) ∧ (l.kind = 4 ↔ k + 1 = (fileL stamp p inE od).length) := by
  have hpl := preL_len stamp p
  have hfl := fileL_len (stamp := stamp) (p := p) (inE := inE) (od := od)
  have hml := mainL_len (stamp := stamp) (p := p) (od := od)
  have hil := idxL_len (stamp := stamp) (p := p) (inE := inE) (od := od)
  have h2 : (preL stamp p).length = if 0 < p.2.2.2.length then 2 else 1 := by
    unfold preL
    split <;> rfl
  rcases fileL_get h with ⟨c, h⟩ | ⟨j, e, he, hk, rfl⟩ | ⟨e, rfl⟩ | ⟨e, rfl⟩
  · rcases preL_num stamp p k l h with ⟨rfl, rfl⟩ | ⟨rfl, c, rfl⟩
    · show ((0 : Int) = 0 ↔ _) ∧ ((0 : Int) = 1 ↔ _) ∧ ((0 : Int) = 3 ↔ _) ∧ ((0 : Int) = 4 ↔ _)
      omega
    · show ((1 : Int) = 0 ↔ _) ∧ ((1 : Int) = 1 ↔ _) ∧ ((1 : Int) = 3 ↔ _) ∧ ((1 : Int) = 4 ↔ _)
      rw [if_pos c] at h2
      refine ⟨by omega, by simp [c], by omega, by omega⟩
  · have hj := lt_of_at he
    show ((2 : Int) = 0 ↔ _) ∧ ((2 : Int) = 1 ↔ _) ∧ ((2 : Int) = 3 ↔ _) ∧ ((2 : Int) = 4 ↔ _)
    refine ⟨by omega, ⟨by omega, fun ⟨z, q⟩ => ?_⟩, by omega, by omega⟩
    rw [if_pos q] at h2
    omega
  · show ((3 : Int) = 0 ↔ _) ∧ ((3 : Int) = 1 ↔ _) ∧ ((3 : Int) = 3 ↔ _) ∧ ((3 : Int) = 4 ↔ _)
    refine ⟨by omega, ⟨by omega, fun ⟨z, q⟩ => ?_⟩, by omega, by omega⟩
    rw [if_pos q] at h2
    omega
  · show ((4 : Int) = 0 ↔ _) ∧ ((4 : Int) = 1 ↔ _) ∧ ((4 : Int) = 3 ↔ _) ∧ ((4 : Int) = 4 ↔ _)
    refine ⟨by omega, ⟨by omega, fun ⟨z, q⟩ => ?_⟩, by omega, by omega⟩
    rw [if_pos q] at h2
    omega
/-- the units of track j among the leaves -/
def mineK (j : Nat) (ls : List Leaf) : List Leaf := (ls.filter isU).filter (trk j)
theorem mineK_app (j : Nat) (a b : List Leaf) : mineK j (a ++ b) = mineK j a ++ mineK j b := by simp only [mineK, List.filter_append]
theorem mineK_snoc_yes {j : Nat} {ls : List Leaf} {l : Leaf} (h1 : l.kind = 2) (h2 : l.track = (j : Int) + 1) : mineK j (ls ++ [l]) = mineK j ls ++ [l] := by
  simp [mineK, List.filter_append, List.filter, isU, trk, h1, h2]
theorem mineK_snoc_kind {j : Nat} {ls : List Leaf} {l : Leaf} (h1 : l.kind ≠ 2) : mineK j (ls ++ [l]) = mineK j ls := by
  simp [mineK, List.filter_append, List.filter, isU, h1]
theorem mineK_snoc_trk {j : Nat} {ls : List Leaf} {l : Leaf} (h2 : l.track ≠ (j : Int) + 1) : mineK j (ls ++ [l]) = mineK j ls := by
  by_cases h : isU l = true
  · simp [mineK, List.filter_append, List.filter, trk, h, h2]
  · simp [mineK, List.filter_append, List.filter, h]
/-- the unit at k: its track, its number in the track, what stands before it -/
structure UAt (p : Pr) (ls : List Leaf) (k : Nat) (l : Leaf) (j m : Nat) (t : Tr) (u : Un') : Prop where
  track : l.track = (j : Int) + 1
  ord : l.ordinal = (m : Int)
  ht : p.2.2.1[j]? = some t
  hu : t.2.2[m]? = some u
  time : l.time = u.1
  span : l.span = u.2.1
  key : l.key = if u.2.2.2 = true then 0 else 1
  body : l.body = unitB u (if m = 0 then [] else ((t.2.2[m - 1]?.map (·.2.2.1)).getD []))
  prev : (mineK j (ls.take k)).length = m
theorem mine_ord {stamp : Int} {p : Pr} {od : List (Int × Int)} {ls : List Leaf} (F : FF stamp p od ls) {j : Nat} {t : Tr} (ht : p.2.2.1[j]? = some t) : (mineK j ls).map (·.ordinal) = (List.range t.2.2.length).map fun (i : Nat) => (i : Int) := by
  have e := F.O.each j
  rw [← F.places, List.filter_map, List.map_map] at e
  have hn : (lensOf p.2.2.1)[j]?.getD 0 = t.2.2.length := by
    rw [lensOf, List.getElem?_map, bodsOf, List.getElem?_map, ht]
    exact bodiesOf_len _ _
  rw [hn] at e
  exact e
theorem uat_of {stamp : Int} {p : Pr} {od : List (Int × Int)} {ls : List Leaf} (F : FF stamp p od ls) {k : Nat} {l : Leaf} (h : ls[k]? = some l) (hk : l.kind = 2) : ∃ j m t u, UAt p ls k l j m t u := by
  obtain ⟨u1, u2, u3, u4, u5⟩ := F.unit l (List.mem_of_getElem? h) hk
  obtain ⟨j, m, t, u, A⟩ := F.O.at u1
  have htr : l.track = (j : Int) + 1 := congrArg Prod.fst A.he
  have hor : l.ordinal = (m : Int) := congrArg Prod.snd A.he
  have hbf : bfOf p.2.2.1 (plc l) = (if m = 0 then [] else ((t.2.2[m - 1]?.map (·.2.2.1)).getD [])) := by
    unfold bfOf
    rw [A.he]
    by_cases c : m = 0
    · subst c
      rfl
    · have hl := lt_of_at A.hu
      have h1 : t.2.2[m - 1]? = some t.2.2[m - 1] := List.getElem?_eq_getElem (by omega)
      rw [if_neg (show ¬ (((j : Int) + 1, (m : Int)) : Int × Int).2 = 0 by show ¬ (m : Int) = 0; omega), if_neg c, h1, ctOf]
      have e2 : ((((j : Int) + 1, (m : Int)) : Int × Int).1, (((j : Int) + 1, (m : Int)) : Int × Int).2 - 1) = ((j : Int) + 1, ((m - 1 : Nat) : Int)) := by
        refine Prod.ext rfl ?_
        show (m : Int) - 1 = ((m - 1 : Nat) : Int)
        omega
      rw [e2, (at_of A.ht h1).un]
      rfl
  rw [A.bd] at u2 u3 u4 u5
  refine ⟨j, m, t, u, htr, hor, A.ht, A.hu, u2, u3, u4, by rw [← hbf]; exact u5, ?_⟩
  have e := mine_ord F A.ht
  rw [split_at h] at e
  have e3 : mineK j (ls.take k ++ l :: ls.drop (k + 1)) = mineK j (ls.take k) ++ l :: mineK j (ls.drop (k + 1)) := by
    have hu : isU l = true := by simp [isU, hk]
    have ht2 : trk j l = true := by simp [trk, htr]
    simp [mineK, List.filter_append, List.filter, hu, ht2]
  rw [e3] at e
  have e4 := congrArg (fun x => x[(mineK j (ls.take k)).length]?) e
  simp only [List.map_append, List.map_cons] at e4
  rw [List.getElem?_append_right (by rw [List.length_map]; exact Nat.le_refl _), List.length_map, Nat.sub_self, List.getElem?_map] at e4
  cases hq : (List.range t.2.2.length)[(mineK j (ls.take k)).length]? with
  | none => rw [hq] at e4; simp at e4
  | some z =>
    rw [hq] at e4
    have hz : z = (mineK j (ls.take k)).length := by
      have hzl := lt_of_at hq
      rw [List.getElem?_range (by simpa using hzl)] at hq
      exact (Option.some.inj hq).symm
    have : l.ordinal = (z : Int) := by simpa using e4
    omega
/-- the units of a track are met in their order -/
theorem mine_nth {stamp : Int} {p : Pr} {od : List (Int × Int)} {ls : List Leaf} (F : FF stamp p od ls) {k j i : Nat} {l : Leaf} {t : Tr} (ht : p.2.2.1[j]? = some t) (h : (mineK j (ls.take k))[i]? = some l) : ∃ u, t.2.2[i]? = some u ∧ l.time = u.1 ∧ l.span = u.2.1 := by
  have hm := List.mem_of_getElem? h
  obtain ⟨h1, h2⟩ := List.mem_filter.mp hm
  obtain ⟨h3, h4⟩ := List.mem_filter.mp h1
  have hml : l ∈ ls := List.mem_of_mem_take h3
  have hk2 : l.kind = 2 := of_decide_eq_true h4
  obtain ⟨u1, u2, u3, u4, u5⟩ := F.unit l hml hk2
  have e := mine_ord F ht
  have e0 : mineK j ls = mineK j (ls.take k) ++ mineK j (ls.drop k) := by rw [← mineK_app, List.take_append_drop]
  rw [e0, List.map_append] at e
  have e4 := congrArg (fun x => x[i]?) e
  have hil := lt_of_at h
  rw [List.getElem?_append_left (by rw [List.length_map]; exact hil), List.getElem?_map, h] at e4
  have hi2 : i < t.2.2.length := by
    have := congrArg List.length e
    rw [List.length_append, List.length_map, List.length_map, List.length_map, List.length_range] at this
    omega
  rw [List.getElem?_map, List.getElem?_range hi2] at e4
  have hor : l.ordinal = (i : Int) := by simpa using e4
  have htr : l.track = (j : Int) + 1 := of_decide_eq_true h2
  have hu : t.2.2[i]? = some t.2.2[i] := List.getElem?_eq_getElem hi2
  have A := at_of ht hu
  have hp : plc l = ((j : Int) + 1, (i : Int)) := Prod.ext htr hor
  rw [hp, A.bd] at u2 u3
  exact ⟨_, hu, u2, u3⟩
theorem mine_all {stamp : Int} {p : Pr} {od : List (Int × Int)} {ls : List Leaf} (F : FF stamp p od ls) {j : Nat} {t : Tr} (ht : p.2.2.1[j]? = some t) {k : Nat} (hk : ∀ i l, k ≤ i → ls[i]? = some l → l.kind ≠ 2) : (mineK j (ls.take k)).length = t.2.2.length := by
  have e := mine_ord F ht
  have e0 : mineK j ls = mineK j (ls.take k) ++ mineK j (ls.drop k) := by rw [← mineK_app, List.take_append_drop]
  have e1 : mineK j (ls.drop k) = [] := by
    rw [mineK, List.filter_eq_nil_iff]
    intro l hl
    obtain ⟨h3, h4⟩ := List.mem_filter.mp hl
    obtain ⟨i, hi⟩ := List.mem_iff_getElem?.mp h3
    rw [List.getElem?_drop] at hi
    exact absurd (of_decide_eq_true h4) (hk (k + i) l (by omega) hi)
  rw [e0, e1, List.append_nil] at e
  have := congrArg List.length e
  simpa using this
end Sp
namespace Sp
open PySem PySem.Spec PyProof.Rows L2
open Classical in
noncomputable def out (Z : Addr → Prop) (H : Hp) : Hp := fun a => if Z a then none else H a
theorem out_of {Z : Addr → Prop} {H : Hp} {a : Addr} {o : HO} (h : H a = some o) (n : ¬ Z a) : out Z H a = some o := by
  unfold out
  rw [if_neg n]
  exact h
theorem out_ne {Z : Addr → Prop} {H : Hp} {a : Addr} {o : HO} (h : out Z H a = some o) : ¬ Z a := fun z => by
  unfold out at h
  rw [if_pos z] at h
  cases h
theorem out_sub (Z : Addr → Prop) (H : Hp) : Same (out Z H) H := fun a o h => by
  have n := out_ne h
  unfold out at h
  rw [if_neg n] at h
  exact h
theorem out_mono {Z : Addr → Prop} {H H' : Hp} (s : Same H H') : Same (out Z H) (out Z H') := fun a o h => out_of (s _ _ (out_sub _ _ _ _ h)) (out_ne h)
theorem out_upd {Z : Addr → Prop} {H : Hp} {x : Addr} {o : HO} (h : Z x) : out Z (upd H x o) = out Z H := by
  funext a
  unfold out
  by_cases c : Z a
  · rw [if_pos c, if_pos c]
  · rw [if_neg c, if_neg c, upd_ne (fun e => c (by rw [e]; exact h))]
abbrev Un2 (M X : Addr → Prop) : Addr → Prop := fun a => M a ∨ X a
/-- from H to H': what lies outside of M stays; M' has new things besides M -/
structure Fr (H : Hp) (M : Addr → Prop) (H' : Hp) (M' : Addr → Prop) : Prop where
  keep : ∀ a o, H a = some o → ¬ M a → H' a = some o
  grow : ∀ a, M' a → M a ∨ H a = none
theorem Fr.same {H H' : Hp} {M M' X : Addr → Prop} (f : Fr H M H' M') : Same (out (Un2 M X) H) (out (Un2 M' X) H') := fun a o h => by
  have n := out_ne h
  have h1 := out_sub _ _ _ _ h
  refine out_of (f.keep a o h1 fun z => n (.inl z)) fun z => ?_
  rcases z with z | z
  · rcases f.grow a z with q | q
    · exact n (.inl q)
    · rw [q] at h1; cases h1
  · exact n (.inr z)
theorem Fr.refl (H : Hp) (M : Addr → Prop) : Fr H M H M := ⟨fun _ _ h _ => h, fun _ h => .inl h⟩
theorem Fr.trans {H H' H'' : Hp} {M M' M'' : Addr → Prop} (f : Fr H M H' M') (g : Fr H' M' H'' M'') : Fr H M H'' M'' := by
  refine ⟨fun a o h n => g.keep a o (f.keep a o h n) fun z => ?_, fun a h => ?_⟩
  · rcases f.grow a z with q | q
    · exact n q
    · rw [q] at h; cases h
  · rcases g.grow a h with q | q
    · exact f.grow a q
    · cases e : H a with
      | none => exact .inr rfl
      | some o =>
        by_cases c : M a
        · exact .inl c
        · rw [f.keep a o e c] at q; cases q
theorem Fr.of {H H' : Hp} {M : Addr → Prop} (s : Same H H') : Fr H M H' M := ⟨fun a o h _ => s _ _ h, fun _ h => .inl h⟩
theorem Fr.upd {H H' : Hp} {M M' : Addr → Prop} (f : Fr H M H' M') {x : Addr} {o : HO} (hx : M' x) : Fr H M (upd H' x o) M' := by
  refine f.trans ⟨fun a u h n => (upd_ne (fun e => n (by rw [e]; exact hx))).trans h, fun _ h => .inl h⟩
theorem Fr.add {H H' H'' : Hp} {M M' : Addr → Prop} (f : Fr H M H' M') (s : Same H' H'') : Fr H M H'' M' := f.trans (Fr.of s)
def lastK (ls : List Leaf) (k : Nat) : Int := if k = 0 then -1 else (ls[k - 1]?.map (·.kind)).getD 0
theorem lastK_succ {ls : List Leaf} {k : Nat} {l : Leaf} (h : ls[k]? = some l) : lastK ls (k + 1) = l.kind := by
  unfold lastK
  rw [if_neg (by omega), Nat.add_sub_cancel, h]
  rfl
structure LD where
  dx : Addr
  da : Addr
  pl : Addr
  hv : V
  tv : V
  ev : V
  uv : V
  uls : List Addr
  kvs : List (Key × V)
abbrev LD.fl (d : LD) (ls : List Leaf) (k : Nat) (sc st : Int) : List (Str × V) := flLR (.ref d.da) (.int (encF (ls.take k)).length) (.int sc) (.int k) (.int st) (.int (lastK ls k)) d.hv d.tv d.ev d.uv (.ref d.pl)
structure LR (C : Addr) (p : Pr) (ls : List Leaf) (H : Hp) (M X : Addr → Prop) (r : Addr) (k k' : Nat) (sc st : Int) (d : LD) : Prop where
  ob : H r = some (.ins C d.dx (d.fl ls k sc st))
  mr : M r
  xd : ∀ a, X a → ¬ M a ∧ H a ≠ none
  md : ∀ a, M a → H a ≠ none
  data : Li (out (Un2 M X) H) d.da (encF ls)
  mp : M d.pl
  pl : H d.pl = some (.dK d.kvs)
  pln : d.kvs.length ≤ k'
  plok : ∀ (i : Nat) (l : Leaf), i < k' → ls[i]? = some l → l.kind = 2 → l.key = 1 → 0 < l.ordinal → ∃ v, valV d.kvs (.inl ((encF (ls.take i)).length : Int)) = some v ∧ cPair.R (out (Un2 M X) H) v (l.track, l.time)
  tags : cTags.R (out (Un2 M X) H) d.tv (if 1 < k' then p.2.2.2 else [])
  head : 0 < k' → cHead.R (out (Un2 M X) H) d.hv (p.1, p.2.1, rowsOf p.2.2.1)
  units : 0 < k' → ∃ ua, d.uv = .ref ua ∧ out (Un2 M X) H ua = some (.lst (d.uls.map V.ref)) ∧ d.uls.Nodup ∧ d.uls.length = p.2.2.1.length ∧
    ∀ j u, d.uls[j]? = some u → M u ∧ ∃ ws, H u = some (.lst ws) ∧ Paired (cLeaf.R (out (Un2 M X) H)) ws (mineK j (ls.take k'))
section
variable {C : Addr} {p : Pr} {ls : List Leaf} {H H' : Hp} {M X : Addr → Prop} {r : Addr} {k k' : Nat} {sc st : Int} {d : LD}
theorem LR.same (L : LR C p ls H M X r k k' sc st d) (s : Same H H') : LR C p ls H' M X r k k' sc st d := by
  have so := out_mono (Z := Un2 M X) s
  refine ⟨s _ _ L.ob, L.mr, fun a h => ⟨(L.xd a h).1, fun z => (L.xd a h).2 (s.free z)⟩, fun a h z => L.md a h (s.free z), L.data.mono so, L.mp, s _ _ L.pl, L.pln, fun i l h1 h2 h3 h4 h5 => ?_, cTags.mono so L.tags, fun h => cHead.mono so (L.head h), fun h => ?_⟩
  · obtain ⟨v, a, b⟩ := L.plok i l h1 h2 h3 h4 h5
    exact ⟨v, a, cPair.mono so b⟩
  · obtain ⟨ua, a, b, c, e, f⟩ := L.units h
    refine ⟨ua, a, so _ _ b, c, e, fun j u hj => ?_⟩
    obtain ⟨g, ws, h1, h2⟩ := f j u hj
    exact ⟨g, ws, s _ _ h1, pmap h2 fun _ _ q => cLeaf.mono so q⟩
theorem LR.nz (L : LR C p ls H M X r k k' sc st d) {a : Addr} (h : H a = none) : ¬ Un2 M X a := fun z => by
  rcases z with z | z
  · exact L.md a z h
  · exact (L.xd a z).2 h
/-- the reader's own fields change -/
theorem LR.setr (L : LR C p ls H M X r k k' sc st d) (k2 : Nat) (sc2 st2 : Int) : LR C p ls (upd H r (.ins C d.dx (d.fl ls k2 sc2 st2))) M X r k2 k' sc2 st2 d := by
  have eo : out (Un2 M X) (upd H r (.ins C d.dx (d.fl ls k2 sc2 st2))) = out (Un2 M X) H := out_upd (.inl L.mr)
  have npl : d.pl ≠ r := fun z => by
    have := L.pl
    rw [z, L.ob] at this
    cases this
  refine ⟨upd_same, L.mr, fun a h => ⟨(L.xd a h).1, ?_⟩, fun a h => ?_, by rw [eo]; exact L.data, L.mp, (upd_ne npl).trans L.pl, L.pln, by rw [eo]; exact L.plok, by rw [eo]; exact L.tags, by rw [eo]; exact L.head, fun h => ?_⟩
  · rw [upd_ne (fun z => (L.xd a h).1 (by rw [z]; exact L.mr))]
    exact (L.xd a h).2
  · by_cases e : a = r
    · rw [e, upd_same]; simp
    · rw [upd_ne e]; exact L.md a h
  · rw [eo]
    obtain ⟨ua, a, b, c, e, f⟩ := L.units h
    refine ⟨ua, a, b, c, e, fun j u hj => ?_⟩
    obtain ⟨g, ws, h1, h2⟩ := f j u hj
    refine ⟨g, ws, (upd_ne fun z => ?_).trans h1, h2⟩
    rw [z, L.ob] at h1
    cases h1
end
section
variable {P : Program} {w : World} {K : PySem.W.Frag} {mg : Str → Option Value} {base : Heap}
def spUst : Sp := fun vs H Q _ => ∃ (a : Addr) (xs : List Int) (n : V), vs = [.ref a, n] ∧ Li H a (stuff xs) ∧ Bytes xs ∧ xs.length ≤ 100000 ∧ RL H Q xs
theorem ok_unstuffed (T : Txt K mg) : FnOk P w K mg base CX0 2 (ga K "unstuffed") (fdAt K (ga K "unstuffed")) ["piece", "number"] spUst := by
  refine okD T.F_unstuffed sc_unstuffed (fun vs H Q E h => ?_) (fun cdv A outer s H vs Q E hr h => ?_)
  · obtain ⟨_, _, _, rfl, _⟩ := h
    rfl
  obtain ⟨a, xs, n, rfl, ha, hb, hl, k⟩ := h
  have nd := sc_unstuffed.nd
  refine ⟨_, ((pss_one (ps_try_thru0 (pss_one (ps_ret (pe_call (ok_unstuff T) (hr.mono (by decide)) rfl T.g_unstuff T.k_unstuff T.b_unstuff .nil pass0 (pa_cons (pv 0) pa_nil))))))), ?_⟩
  refine ⟨_, rfl, a, xs, rfl, ha, hb, hl, k⟩
def spLo : Sp := fun vs H Q _ => ∃ (a : Addr) (l : Leaf) (n : V), vs = [.ref a, n] ∧ Li H a (wr l) ∧ l.Wf ∧ ∀ H' v, Same H H' → cLeaf.R (fresh' H H') v l → Q v H'
theorem ok_leaf_of (T : Txt K mg) : FnOk P w K mg base CX0 4 (ga K "leaf_of") (fdAt K (ga K "leaf_of")) ["writing", "number"] spLo := by
  refine okD T.F_leaf_of sc_leaf_of (fun vs H Q E h => ?_) (fun cdv A outer s H vs Q E hr h => ?_)
  · obtain ⟨_, _, _, rfl, _⟩ := h
    rfl
  obtain ⟨a, l, n, rfl, ha, wf, k⟩ := h
  have nd := sc_leaf_of.nd
  refine ⟨_, ((pss_one (ps_try_thru0 (pss_one (ps_ret (pe_call (ok_read_leaf T) (hr.mono (by decide)) rfl T.g_read_leaf T.k_read_leaf T.b_read_leaf .nil pass0 (pa_cons (pv 0) pa_nil))))))), ?_⟩
  refine ⟨_, rfl, a, l, rfl, ha, wf, k⟩
theorem q_t {p : Prop} [Decidable p] {Q : VK} {H : Hp} (h : p) (k : Q (.bl true) H) : Q (.bl (decide p)) H := by rw [decide_eq_true h]; exact k
theorem q_n {p : Prop} [Decidable p] {Q : VK} {H : Hp} (h : ¬ p) (k : Q (.bl true) H) : Q (.bl (!decide p)) H := by rw [decide_eq_false h]; exact k
/-- is_in_order at the leaf that is due -/
def spIo (K : PySem.W.Frag) : Sp := fun vs H Q _ => ∃ (stamp : Int) (p : Pr) (od : List (Int × Int)) (inE : Int × Int → Bool) (M X : Addr → Prop) (r : Addr) (k k' : Nat) (sc st : Int) (d : LD) (l : Leaf), vs = [.ref r, .int l.kind] ∧ LR (ga K "LeafReader") p (fileL stamp p inE od) H M X r k k' sc st d ∧ (fileL stamp p inE od)[k]? = some l ∧ Q (.bl true) H
theorem ok_LeafReader_is_in_order (T : Txt K mg) : FnOk P w K mg base CX0 1 (ma K (ga K "LeafReader") "is_in_order") (fdAt K (ma K (ga K "LeafReader") "is_in_order")) ["self", "kind"] (spIo K) := by
  refine okD T.F_LeafReader_is_in_order sc_LeafReader_is_in_order (fun vs H Q E h => ?_) (fun cdv A outer s H vs Q E hr h => ?_)
  · obtain ⟨_, _, _, _, _, _, _, _, _, _, _, _, _, rfl, _⟩ := h
    rfl
  obtain ⟨stamp, p, od, inE, M, X, r, n, n', sc, st, d, l, rfl, L, hl, k⟩ := h
  have nd := sc_LeafReader_is_in_order.nd
  obtain ⟨k0, k1, k3, k4⟩ := kind_at hl
  have hlt := lt_of_at hl
  have hfl := fileL_len (stamp := stamp) (p := p) (inE := inE) (od := od)
  have hpl := preL_len stamp p
  refine ⟨_, ((pss_cons (ps_if (PW.pt (pw_or (pt_cmpR op_eq (pe_fld (pv 0) rfl) pe_int (nomark _)) (pw_or1 (pt_cmpR op_eq (pv 1) (pe_gint T.i_HEAD) (nomark _))))) (pss_one (ps_ret (pe_and (pe_cmpR op_eq (pe_fld (pv 0) rfl) pe_int (nomark _)) (pe_one (pe_cmpR op_eq (pv 1) (pe_gint T.i_HEAD) (nomark _)))))) pss_nil)
      (pss_cons (ps_if (pt_cmpR op_eq (pv 1) (pe_gint T.i_TAGS) (nomark _)) (pss_one (ps_ret (pe_cmpR op_eq (pe_fld (pv 0) rfl) pe_int (nomark _)))) pss_nil)
      (pss_cons (ps_if (pt_cmpR op_eq (pv 1) (pe_gint T.i_END) (nomark _)) (pss_one (ps_ret (pe_cmpR op_eq (pe_fld (pv 0) rfl) (pe_gint T.i_INDEX) (nomark _)))) pss_nil)
      (pss_one (ps_ret (pe_cmpR op_ne (pe_fld (pv 0) rfl) (pe_gint T.i_INDEX) (nomark _)))))))), ?_⟩
  have ob := L.ob
  refine ⟨_, rfl, r, _, d.dx, _, _, rfl, ob, T.c_LeafReader, T.a_LeafReader_count, gLR_count _ _ _ _ _ _ _ _ _ _ _, rfl, _, rfl, ?_⟩
  by_cases c : n = 0
  · have hk : l.kind = 0 := k0.mpr c
    have hn : ((n : Nat) : Int) = 0 := by omega
    refine ifT (bl_t (congrArg V.int hn)) ⟨_, rfl, r, _, d.dx, _, _, rfl, ob, T.c_LeafReader, T.a_LeafReader_count, gLR_count _ _ _ _ _ _ _ _ _ _ _, rfl, _, rfl, ifT (bl_t (congrArg V.int hn)) ⟨_, rfl, rfl, q_t (congrArg V.int hk) k⟩⟩
  · have hk : l.kind ≠ 0 := fun z => c (k0.mp z)
    have hn : ¬ ((n : Nat) : Int) = 0 := by omega
    refine ifF (bl_f fun z => hn (V.int.inj z)) ⟨_, rfl, rfl, _, rfl, ifF (bl_f fun z => hk (V.int.inj z)) ?_⟩
    refine ⟨_, rfl, rfl, _, rfl, ?_⟩
    by_cases c1 : l.kind = 1
    · have hn1 : ((n : Nat) : Int) = 1 := by have := (k1.mp c1).1; omega
      exact ifT (bl_t (congrArg V.int c1)) ⟨_, rfl, r, _, d.dx, _, _, rfl, ob, T.c_LeafReader, T.a_LeafReader_count, gLR_count _ _ _ _ _ _ _ _ _ _ _, rfl, q_t (congrArg V.int hn1) k⟩
    refine ifF (bl_f fun z => c1 (V.int.inj z)) ⟨_, rfl, rfl, _, rfl, ?_⟩
    have hprev : (fileL stamp p inE od)[n - 1]? = some (fileL stamp p inE od)[n - 1] := List.getElem?_eq_getElem (by omega)
    obtain ⟨_, _, j3, _⟩ := kind_at hprev
    have hlast := lastK_succ hprev
    rw [show n - 1 + 1 = n by omega] at hlast
    by_cases c4 : l.kind = 4
    · have h3 : lastK (fileL stamp p inE od) n = 3 := by rw [hlast]; exact j3.mpr (by have := k4.mp c4; omega)
      exact ifT (bl_t (congrArg V.int c4)) ⟨_, rfl, r, _, d.dx, _, _, rfl, ob, T.c_LeafReader, T.a_LeafReader_last, gLR_last _ _ _ _ _ _ _ _ _ _ _, rfl, q_t (congrArg V.int h3) k⟩
    · have h3 : lastK (fileL stamp p inE od) n ≠ 3 := fun z => by
        rw [hlast] at z
        have := j3.mp z
        exact c4 (k4.mpr (by omega))
      exact ifF (bl_f fun z => c4 (V.int.inj z)) ⟨_, rfl, r, _, d.dx, _, _, rfl, ob, T.c_LeafReader, T.a_LeafReader_last, gLR_last _ _ _ _ _ _ _ _ _ _ _, rfl, q_n (fun z => h3 (V.int.inj z)) k⟩
end
end Sp
namespace Sp
open PySem PySem.Spec PyProof.Rows L2
section
variable {P : Program} {w : World} {K : PySem.W.Frag} {mg : Str → Option Value} {base : Heap}
def spLri (K : PySem.W.Frag) : Sp := fun vs H Q _ => ∃ (r dx : Addr), vs = [.ref r] ∧ H r = some (.ins (ga K "LeafReader") dx []) ∧
  ∀ H' da pl ta hv ev uv, But1 H H' r → H' r = some (.ins (ga K "LeafReader") dx (flLR (.ref da) (.int 1) (.int 1) (.int 0) (.int 0) (.int (-1)) hv (.ref ta) ev uv (.ref pl))) → H da = none → H pl = none → H ta = none → H' da = some (.lst []) → H' pl = some (.dK []) → H' ta = some (.lst []) → da ≠ ta → Q .non H'
theorem ok_LeafReader_init (T : Txt K mg) : FnOk P w K mg base CX0 1 (ma K (ga K "LeafReader") "__init__") (fdAt K (ma K (ga K "LeafReader") "__init__")) ["self"] (spLri K) := by
  refine okD T.F_LeafReader_init sc_LeafReader_init (fun vs H Q E h => ?_) (fun cdv A outer s H vs Q E hr h => ?_)
  · obtain ⟨_, _, rfl, _⟩ := h
    rfl
  obtain ⟨r, dx, rfl, hr0, k⟩ := h
  have nd := sc_LeafReader_init.nd
  refine ⟨_, ((pss_cons (ps_fld (pv 0) (pe_lst pa_nil) rfl)
      (pss_cons (ps_fld (pv 0) pe_int rfl)
      (pss_cons (ps_fld (pv 0) pe_int rfl)
      (pss_cons (ps_fld (pv 0) pe_int rfl)
      (pss_cons (ps_fld (pv 0) pe_int rfl)
      (pss_cons (ps_fld (pv 0) (pe_un un_neg pe_int) rfl)
      (pss_cons (ps_fld (pv 0) (pe_tup (pa_cons pe_int (pa_cons pe_int (pa_cons (pe_lst pa_nil) pa_nil)))) rfl)
      (pss_cons (ps_fld (pv 0) (pe_lst pa_nil) rfl)
      (pss_cons (ps_fld (pv 0) (pe_lst pa_nil) rfl)
      (pss_cons (ps_fld (pv 0) (pe_lst pa_nil) rfl)
      (pss_one (ps_fld (pv 0) pe_dnewK rfl))))))))))))), ?_⟩
  -- each step: the object at r known, all else kept
  have step : ∀ {H1 : Hp} {o o2 : HO}, But1 H H1 r → H1 r = some o → But1 H (upd H1 r o2) r := fun b _ a u h n => (upd_ne n).trans (b a u h n)
  have fresh1 : ∀ {H1 : Hp} {q : Addr}, But1 H H1 r → H1 r ≠ none → H1 q = none → H q = none ∧ q ≠ r := fun {H1 q} b h n => by
    have hq : q ≠ r := fun z => h (z ▸ n)
    refine ⟨?_, hq⟩
    cases e : H q with
    | none => rfl
    | some o => rw [b q o e hq] at n; cases n
  refine ⟨Nat.zero_le _, fun da nda => ⟨_, rfl, r, _, dx, _, rfl, upd_keep hr0 nda, T.c_LeafReader, T.a_LeafReader_data, by decide, ?_⟩⟩
  refine ⟨_, rfl, r, _, dx, _, rfl, upd_same, T.c_LeafReader, T.a_LeafReader_at, by show 1 < 1000; decide, ?_⟩
  refine ⟨_, rfl, r, _, dx, _, rfl, upd_same, T.c_LeafReader, T.a_LeafReader_scan, by show 2 < 1000; decide, ?_⟩
  refine ⟨_, rfl, r, _, dx, _, rfl, upd_same, T.c_LeafReader, T.a_LeafReader_count, by show 3 < 1000; decide, ?_⟩
  refine ⟨_, rfl, r, _, dx, _, rfl, upd_same, T.c_LeafReader, T.a_LeafReader_stamp, by show 4 < 1000; decide, ?_⟩
  refine ⟨_, rfl, _, rfl, r, _, dx, _, rfl, upd_same, T.c_LeafReader, T.a_LeafReader_last, by show 5 < 1000; decide, ?_⟩
  rw [upd_upd, upd_upd, upd_upd, upd_upd, upd_upd]
  have ndr : da ≠ r := fun z => by rw [z, hr0] at nda; cases nda
  have hb : But1 H (upd (upd H da (.lst [])) r (.ins (ga K "LeafReader") dx (putF "last" (.int (-1)) (putF "stamp" (.int 0) (putF "count" (.int 0) (putF "scan" (.int 1) (putF "at" (.int 1) (putF "data" (.ref da) [])))))))) r := fun a o h n => (upd_ne n).trans (upd_keep h nda)
  have ho : upd (upd H da (.lst [])) r (.ins (ga K "LeafReader") dx (putF "last" (.int (-1)) (putF "stamp" (.int 0) (putF "count" (.int 0) (putF "scan" (.int 1) (putF "at" (.int 1) (putF "data" (.ref da) []))))))) r = _ := upd_same
  have hda : upd (upd H da (.lst [])) r (.ins (ga K "LeafReader") dx (putF "last" (.int (-1)) (putF "stamp" (.int 0) (putF "count" (.int 0) (putF "scan" (.int 1) (putF "at" (.int 1) (putF "data" (.ref da) []))))))) da = some (.lst []) := (upd_ne ndr).trans upd_same
  refine ⟨Nat.zero_le _, fun a1 n1 => ⟨lsz (by simp), fun a2 n2 => ?_⟩⟩
  generalize upd (upd H da (.lst [])) r (.ins (ga K "LeafReader") dx (putF "last" (.int (-1)) (putF "stamp" (.int 0) (putF "count" (.int 0) (putF "scan" (.int 1) (putF "at" (.int 1) (putF "data" (.ref da) []))))))) = H1 at hb ho hda n1 n2
  refine ⟨_, rfl, r, _, dx, _, rfl, upd_keep (upd_keep ho n1) n2, T.c_LeafReader, T.a_LeafReader_head, by show 6 < 1000; decide, ?_⟩
  have hb2 : But1 H (upd (upd (upd H1 a1 (.lst [])) a2 (.tup [.int 1, .int 0, .ref a1])) r (.ins (ga K "LeafReader") dx (putF "head" (.ref a2) (putF "last" (.int (-1)) (putF "stamp" (.int 0) (putF "count" (.int 0) (putF "scan" (.int 1) (putF "at" (.int 1) (putF "data" (.ref da) []))))))))) r := fun a o h n => (upd_ne n).trans (upd_keep (upd_keep (hb a o h n) n1) n2)
  have ho2 : upd (upd (upd H1 a1 (.lst [])) a2 (.tup [.int 1, .int 0, .ref a1])) r (.ins (ga K "LeafReader") dx (putF "head" (.ref a2) (putF "last" (.int (-1)) (putF "stamp" (.int 0) (putF "count" (.int 0) (putF "scan" (.int 1) (putF "at" (.int 1) (putF "data" (.ref da) [])))))))) r = _ := upd_same
  have hda2 : upd (upd (upd H1 a1 (.lst [])) a2 (.tup [.int 1, .int 0, .ref a1])) r (.ins (ga K "LeafReader") dx (putF "head" (.ref a2) (putF "last" (.int (-1)) (putF "stamp" (.int 0) (putF "count" (.int 0) (putF "scan" (.int 1) (putF "at" (.int 1) (putF "data" (.ref da) [])))))))) da = some (.lst []) := (upd_ne ndr).trans (upd_keep (upd_keep hda n1) n2)
  generalize upd (upd (upd H1 a1 (.lst [])) a2 (.tup [.int 1, .int 0, .ref a1])) r (.ins (ga K "LeafReader") dx (putF "head" (.ref a2) (putF "last" (.int (-1)) (putF "stamp" (.int 0) (putF "count" (.int 0) (putF "scan" (.int 1) (putF "at" (.int 1) (putF "data" (.ref da) [])))))))) = H2 at hb2 ho2 hda2
  refine ⟨Nat.zero_le _, fun ta nta => ⟨_, rfl, r, _, dx, _, rfl, upd_keep ho2 nta, T.c_LeafReader, T.a_LeafReader_tags, by show 7 < 1000; decide, ?_⟩⟩
  obtain ⟨nta0, ntar⟩ := fresh1 hb2 (by rw [ho2]; simp) nta
  have ndt : da ≠ ta := ne_of_none hda2 nta
  refine ⟨Nat.zero_le _, fun ea nea => ⟨_, rfl, r, _, dx, _, rfl, upd_keep upd_same nea, T.c_LeafReader, T.a_LeafReader_entries, by show 8 < 1000; decide, ?_⟩⟩
  refine ⟨Nat.zero_le _, fun ua nua => ⟨_, rfl, r, _, dx, _, rfl, upd_keep upd_same nua, T.c_LeafReader, T.a_LeafReader_units, by show 9 < 1000; decide, ?_⟩⟩
  refine fun pl npl => ⟨_, rfl, r, _, dx, _, rfl, upd_keep upd_same npl, T.c_LeafReader, T.a_LeafReader_places, by show 10 < 1000; decide, ?_⟩
  have kp : ∀ {X : Hp} {a q : Addr} {u o o2 : HO}, X a = some u → X q = none → a ≠ r → upd (upd X q o) r o2 a = some u := fun h hq n => (upd_ne n).trans (upd_keep h hq)
  have nplr : pl ≠ r := fun z => by rw [z, upd_same] at npl; cases npl
  have npl0 : H pl = none := by
    cases e : H pl with
    | none => rfl
    | some o => exact absurd ((kp (kp (kp (hb2 pl o e nplr) nta nplr) nea nplr) nua nplr).symm.trans npl) (by simp)
  refine k _ da pl ta (.ref a2) (.ref ea) (.ref ua) (fun a o h n => kp (kp (kp (kp (hb2 a o h n) nta n) nea n) nua n) npl n) (by rw [upd_same, iLR]) nda npl0 nta0 (kp (kp (kp (kp hda2 nta ndr) nea ndr) nua ndr) npl ndr) ((upd_ne nplr).trans upd_same) (kp (kp (kp ((upd_ne ntar).trans upd_same) nea ntar) nua ntar) npl ntar) ndt
def spLre (K : PySem.W.Frag) : Sp := fun vs H Q _ => ∃ (r dx da b : Addr) (xs : List Int) (v1 v2 v3 v4 v5 v6 v7 v8 v9 v10 : V), vs = [.ref r, .ref b] ∧ H r = some (.ins (ga K "LeafReader") dx (flLR (.ref da) v1 v2 v3 v4 v5 v6 v7 v8 v9 v10)) ∧ H da = some (.lst []) ∧ Li H b xs ∧ xs.length ≤ 1000000 ∧ Q .non (upd H da (.lst (xs.map V.int)))
theorem ok_LeafReader_extend (T : Txt K mg) : FnOk P w K mg base CX0 1 (ma K (ga K "LeafReader") "extend") (fdAt K (ma K (ga K "LeafReader") "extend")) ["self", "part"] (spLre K) := by
  refine okD T.F_LeafReader_extend sc_LeafReader_extend (fun vs H Q E h => ?_) (fun cdv A outer s H vs Q E hr h => ?_)
  · obtain ⟨_, _, _, _, _, _, _, _, _, _, _, _, _, _, _, rfl, _⟩ := h
    rfl
  obtain ⟨r, dx, da, b, xs, v1, v2, v3, v4, v5, v6, v7, v8, v9, v10, rfl, ob, hda, hb, hl, k⟩ := h
  have nd := sc_LeafReader_extend.nd
  refine ⟨_, ((pss_one (ps_expr (pe_bm PySem.F.plainAttrs_list PySem.F.slot_list_extend PySem.F.type_list_extend mt_extend (pe_fld (pv 0) rfl) (pa_cons (pv 1) pa_nil))))), ?_⟩
  refine ⟨_, rfl, r, _, dx, _, _, rfl, ob, T.c_LeafReader, T.a_LeafReader_data, gLR_data _ _ _ _ _ _ _ _ _ _ _, .inl ⟨rfl, _, SqL.of hda⟩, _, rfl, da, b, [], _, rfl, rfl, hda, hb, lsz (by simp; omega), k⟩
def spLrf (K : PySem.W.Frag) : Sp := fun vs H Q _ => ∃ (r dx da : Addr) (xs : List Int) (v1 v2 v3 v4 v6 v7 v8 v9 v10 : V), vs = [.ref r] ∧ H r = some (.ins (ga K "LeafReader") dx (flLR (.ref da) v1 v2 v3 v4 (.int 4) v6 v7 v8 v9 v10)) ∧ Li H da xs ∧ 0 < xs.length ∧ Q .non H
theorem ok_LeafReader_finish (T : Txt K mg) : FnOk P w K mg base CX0 1 (ma K (ga K "LeafReader") "finish") (fdAt K (ma K (ga K "LeafReader") "finish")) ["self"] (spLrf K) := by
  refine okD T.F_LeafReader_finish sc_LeafReader_finish (fun vs H Q E h => ?_) (fun cdv A outer s H vs Q E hr h => ?_)
  · obtain ⟨_, _, _, _, _, _, _, _, _, _, _, _, _, rfl, _⟩ := h
    rfl
  obtain ⟨r, dx, da, xs, v1, v2, v3, v4, v6, v7, v8, v9, v10, rfl, ob, hda, hl, k⟩ := h
  have nd := sc_LeafReader_finish.nd
  refine ⟨_, ((pss_cons (ps_if (pt_cmpR op_eq (pe_callB (lenS_ K rfl) rfl T.n_len boot_len (pa_cons (pe_fld (pv 0) rfl) pa_nil)) pe_int (nomark _)) (pss_one ps_never) pss_nil)
      (pss_cons (ps_if (pt_cmpR op_eq (pe_fld (pv 0) rfl) (pe_gint T.i_END) (nomark _)) (pss_one ps_retN) pss_nil)
      (pss_cons (ps_if (pt_cmpR op_lt (pe_fld (pv 0) rfl) (pe_callB (lenS_ K rfl) rfl T.n_len boot_len (pa_cons (pe_fld (pv 0) rfl) pa_nil)) (nomark _)) (pss_one ps_never) pss_nil)
      (pss_one ps_never))))), ?_⟩
  refine ⟨_, rfl, r, _, dx, _, _, rfl, ob, T.c_LeafReader, T.a_LeafReader_data, gLR_data _ _ _ _ _ _ _ _ _ _ _, _, _, rfl, .inl hda.sq, rfl, _, rfl, ifF (bl_f fun z => by have := V.int.inj z; rw [List.length_map] at this; omega) ?_⟩
  refine ⟨_, rfl, r, _, dx, _, _, rfl, ob, T.c_LeafReader, T.a_LeafReader_last, gLR_last _ _ _ _ _ _ _ _ _ _ _, rfl, _, rfl, ifT (bl_t rfl) k⟩
end
end Sp
namespace Sp
open PySem PySem.Spec PyProof.Rows L2
theorem usL_app (stamp : Int) (tss : List (List Bd)) : ∀ (a b : List (Int × Int)) (n : Nat), usL stamp tss n (a ++ b) = usL stamp tss n a ++ usL stamp tss (n + a.length) b
  | [], b, n => rfl
  | x :: a, b, n => by
    rw [List.cons_append, usL, usL_app stamp tss a b, usL, List.cons_append, List.length_cons, show n + 1 + a.length = n + (a.length + 1) by omega]
theorem main_take {stamp : Int} {p : Pr} {inE : Int × Int → Bool} {od : List (Int × Int)} {i : Nat} (hi : i ≤ od.length) : mainL stamp p (od.take i) = (fileL stamp p inE od).take ((preL stamp p).length + i) := by
  have e : ∃ rest, fileL stamp p inE od = mainL stamp p (od.take i) ++ rest := by
    have em : mainL stamp p od = mainL stamp p (od.take i) ++ usL stamp (bodsOf p.2.2.1) ((preL stamp p).length + (od.take i).length) (od.drop i) := by
      have h := usL_app stamp (bodsOf p.2.2.1) (od.take i) (od.drop i) (preL stamp p).length
      rw [List.take_append_drop] at h
      rw [mainL, h, mainL, List.append_assoc]
    have e2 : fileL stamp p inE od = mainL stamp p od ++ ([pLeaf stamp 3 (mainL stamp p od).length (idxB (fndL stamp p inE od))] ++ [pLeaf stamp 4 (idxL stamp p inE od).length (endB ((idxL stamp p inE od).length + 1) (crc (encF (idxL stamp p inE od))).toNat)]) := by
      rw [fileL]
      conv => lhs; arg 1; rw [idxL]
      rw [List.append_assoc]
    refine ⟨usL stamp (bodsOf p.2.2.1) ((preL stamp p).length + (od.take i).length) (od.drop i) ++ ([pLeaf stamp 3 (mainL stamp p od).length (idxB (fndL stamp p inE od))] ++ [pLeaf stamp 4 (idxL stamp p inE od).length (endB ((idxL stamp p inE od).length + 1) (crc (encF (idxL stamp p inE od))).toNat)]), ?_⟩
    rw [← List.append_assoc, ← em]
    exact e2
  obtain ⟨rest, e⟩ := e
  have hl : (mainL stamp p (od.take i)).length = (preL stamp p).length + i := by rw [mainL_len, List.length_take, Nat.min_eq_left hi]
  rw [e, ← hl, List.take_left]
structure EntOk (ls : List Leaf) (k : Nat) (es : List R3) : Prop where
  each : ∀ x ∈ es, ∃ (i : Nat) (l : Leaf), i < k ∧ ls[i]? = some l ∧ l.kind = 2 ∧ l.key = 1 ∧ 0 < l.ordinal ∧ x = (l.track, l.time, ((encF (ls.take i)).length : Int))
  rise : es.Pairwise fun a b => a.2.2 < b.2.2
theorem fndL_ent {p : Pr} {od : List (Int × Int)} (O : Order (lensOf p.2.2.1) od) {stamp : Int} {inE : Int × Int → Bool} (hg : ∀ e, inE e = true → GoodE (keysOf p.2.2.1) e) : EntOk (fileL stamp p inE od) (mainL stamp p od).length (fndL stamp p inE od) := by
  have key : ∀ n, n ≤ od.length → (∀ x ∈ fndL stamp p inE (od.take n), ∃ (i : Nat) (e : Int × Int), i < n ∧ od[i]? = some e ∧ inE e = true ∧ x = (e.1, (getBd (bodsOf p.2.2.1) e).1, ((encF (mainL stamp p (od.take i))).length : Int))) ∧
      (fndL stamp p inE (od.take n)).Pairwise fun a b => a.2.2 < b.2.2 := by
    intro n
    induction n with
    | zero => intro _; exact ⟨fun x h => by (cases h), .nil⟩
    | succ n ih =>
      intro hn
      obtain ⟨h1, h2⟩ := ih (by omega)
      have he : od[n]? = some od[n] := List.getElem?_eq_getElem (by omega)
      rw [take_snoc he, fndL_snoc]
      generalize od[n] = e at he
      by_cases c : inE e = true
      · rw [if_pos c]
        refine ⟨fun x hx => ?_, ?_⟩
        · rcases List.mem_append.mp hx with hx | hx
          · obtain ⟨i, e', q1, q2⟩ := h1 x hx
            exact ⟨i, e', by omega, q2⟩
          · rw [List.mem_singleton] at hx
            exact ⟨n, e, by omega, he, c, hx⟩
        · rw [List.pairwise_append]
          refine ⟨h2, List.pairwise_singleton _ _, fun a ha b hb => ?_⟩
          rw [List.mem_singleton] at hb
          subst hb
          obtain ⟨i, e', q1, q2, q3, rfl⟩ := h1 a ha
          show (((encF (mainL stamp p (od.take i))).length : Nat) : Int) < (((encF (mainL stamp p (od.take n))).length : Nat) : Int)
          rw [main_take (inE := inE) (by omega), main_take (inE := inE) (by omega)]
          have := encF_mono (ls := fileL stamp p inE od) (i := (preL stamp p).length + i) (j := (preL stamp p).length + n) (by omega) (by rw [fileL_len]; omega)
          omega
      · rw [if_neg c, List.append_nil]
        exact ⟨fun x hx => by
          obtain ⟨i, e', q1, q2⟩ := h1 x hx
          exact ⟨i, e', by omega, q2⟩, h2⟩
  obtain ⟨h1, h2⟩ := key od.length (Nat.le_refl _)
  rw [List.take_length] at h1 h2
  refine ⟨fun x hx => ?_, h2⟩
  obtain ⟨i, e, q1, q2, q3, rfl⟩ := h1 x hx
  obtain ⟨k, j, us, b, he, w1, w2, w3⟩ := O.get (List.mem_of_getElem? q2)
  obtain ⟨t, pp, row, g1, g2, g3, g4⟩ := hg e q3
  have hkt : k = t ∧ j = pp := by
    rw [he] at g1
    have a := congrArg Prod.fst g1
    have b := congrArg Prod.snd g1
    simp only at a b
    omega
  obtain ⟨rfl, rfl⟩ := hkt
  rw [keysOf, List.getElem?_map, w1] at g3
  have g5 := Option.some.inj g3
  rw [← g5, List.getElem?_map, w2] at g4
  have hkey : b.2.2.1 = 1 := of_decide_eq_true (Option.some.inj g4)
  have hlk : (fileL stamp p inE od)[(preL stamp p).length + i]? = some (uLeaf stamp ((preL stamp p).length + i) e (getBd (bodsOf p.2.2.1) e)) := by
    have hlt : (preL stamp p).length + i < (fileL stamp p inE od).length := by rw [fileL_len]; omega
    have := List.getElem?_eq_getElem hlt
    rw [this]
    rcases fileL_get this with ⟨c, _⟩ | ⟨j', e', he', hk, hl⟩ | ⟨c, _⟩ | ⟨c, _⟩
    · omega
    · have : j' = i := by omega
      subst this
      rw [q2] at he'
      cases he'
      rw [hl]
    · rw [mainL_len] at c; omega
    · rw [idxL_len] at c; omega
  refine ⟨(preL stamp p).length + i, _, by rw [mainL_len]; omega, hlk, rfl, ?_, ?_, ?_⟩
  · show (getBd (bodsOf p.2.2.1) e).2.2.1 = 1
    rw [w3]
    exact hkey
  · show 0 < e.2
    rw [he]
    show 0 < (j : Int)
    omega
  · rw [main_take (inE := inE) (by omega)]
    rfl
section
variable {P : Program} {w : World} {K : PySem.W.Frag} {mg : Str → Option Value} {base : Heap}
def spCe (K : PySem.W.Frag) : Sp := fun vs H Q _ => ∃ (p : Pr) (ls : List Leaf) (M X : Addr → Prop) (r : Addr) (k k' : Nat) (sc st : Int) (d : LD) (es : List R3), vs = [.ref r] ∧ LR (ga K "LeafReader") p ls H M X r k k' sc st d ∧ (cL c3i).R (out (Un2 M X) H) d.ev es ∧ EntOk ls k' es ∧ k' ≤ ls.length ∧ ∀ H', Same H H' → Q .non H'
theorem ok_LeafReader_check_entries (T : Txt K mg) : FnOk P w K mg base CX0 1 (ma K (ga K "LeafReader") "check_entries") (fdAt K (ma K (ga K "LeafReader") "check_entries")) ["self"] (spCe K) := by
  refine okD T.F_LeafReader_check_entries sc_LeafReader_check_entries (fun vs H Q E h => ?_) (fun cdv A outer s H vs Q E hr h => ?_)
  · obtain ⟨_, _, _, _, _, _, _, _, _, _, _, rfl, _⟩ := h
    rfl
  obtain ⟨p, ls, M, X, r, n, n', sc, st, d, es, rfl, L, ⟨ea, evs, hev, hea, hep⟩, ⟨e1, e2⟩, hk', k⟩ := h
  have nd := sc_LeafReader_check_entries.nd
  refine ⟨_, ((pss_cons (ps_set (i := 1) nd rfl (Or.inl rfl) pe_int)
      (pss_one (ps_for PassesOwn.never rfl (pi_list (pe_fld (pv 0) rfl)) (pg_tup_ K rfl rfl (n := 3) (pgs_cons (pg_name (i := 2) nd rfl (Or.inl rfl)) (pgs_cons (pg_name (i := 3) nd rfl (Or.inl rfl)) (pgs_cons (pg_name (i := 4) nd rfl (Or.inl rfl)) pgs_nil)))) (pss_cons (ps_if (PW.pt (pw_or (pt_cmpR op_le (pv 4) (pv 1) (nomark _)) (pw_or1 (pt_cmpR (op_neD hr.units) (pe_dget1 (hu_of hr) (pe_fld (pv 0) rfl) (pv 4) ⟨rfl, rfl, rfl, rfl⟩) (pe_tup (pa_cons (pv 2) (pa_cons (pv 3) pa_nil))) (nomark _))))) (pss_one ps_never) pss_nil)
        (pss_one (ps_set (i := 1) nd rfl (Or.inl rfl) (pv 4)))))))), ?_⟩
  have ob := L.ob
  have hea' := out_sub _ _ _ _ hea
  unfold LD.fl at ob
  rw [hev] at ob
  refine ⟨_, rfl, r, _, d.dx, _, _, rfl, ob, T.c_LeafReader, T.a_LeafReader_entries, gLR_entries _ _ _ _ _ _ _ _ _ _ _, ea, rfl, ⟨_, SqL.of hea'⟩, for_list (K := K) (a := ea) (xs := evs) (fun i σ H' => ∃ (bf : Int) (u1 u2 u3 : Option V), σ = [some (.ref r), some (.int bf), u1, u2, u3] ∧ Same H H' ∧ (i = 0 → bf = 0) ∧ (∀ x, 0 < i → es[i - 1]? = some x → bf = x.2.2))
    ⟨0, none, none, none, rfl, Same.refl _, fun _ => rfl, fun _ h => absurd h (by omega)⟩ (fun i σ H' _ ⟨_, _, _, _, _, s, _⟩ => SqL.of (s _ _ hea')) ?_ ?_⟩
  · rintro i x σ H' hi ⟨bf, u1, u2, u3, rfl, s, hb0, hb1⟩
    obtain ⟨e, he, t, y1, y2, y3, rfl, ht, rfl, rfl, rfl⟩ := pgetl hep hi
    have ht' := s _ _ (out_sub _ _ _ _ ht)
    obtain ⟨i2, l, q1, q2, q3, q4, q5, q6⟩ := e1 e (List.mem_of_getElem? he)
    obtain ⟨v, v1, v2⟩ := L.plok i2 l q1 q2 q3 q4 q5
    have hoff : e.2.2 = ((encF (ls.take i2)).length : Int) := congrArg (fun z => z.2.2) q6
    have htr : e.1 = l.track := congrArg (fun z => z.1) q6
    have htm : e.2.1 = l.time := congrArg (fun z => z.2.1) q6
    have hpos := encF_pos (ls.take i2)
    have hlt : bf < e.2.2 := by
      rcases Nat.eq_zero_or_pos i with z | z
      · rw [hb0 z, hoff]; omega
      · have hil := lt_of_at he
        have hpr : es[i - 1]? = some es[i - 1] := List.getElem?_eq_getElem (by omega)
        rw [hb1 _ z hpr]
        obtain ⟨b1, c1⟩ := List.getElem?_eq_some_iff.mp hpr
        obtain ⟨b2, c2⟩ := List.getElem?_eq_some_iff.mp he
        have := List.pairwise_iff_getElem.mp e2 (i - 1) i b1 b2 (by omega)
        rw [c2] at this
        exact this
    refine ⟨t, _, rfl, SqT.of ht', rfl, _, _, rfl, _, _, rfl, _, _, rfl, rfl, ?_⟩
    refine ⟨_, rfl, _, rfl, _, _, rfl, rfl, _, rfl, yF (by omega) ?_⟩
    have hg := DGet.k (k := Sum.inl e.2.2) (s _ _ L.pl)
    rw [hoff, v1] at hg
    rw [← hoff] at hg
    refine ⟨_, rfl, r, _, d.dx, _, _, rfl, s _ _ L.ob, T.c_LeafReader, T.a_LeafReader_places, gLR_places _ _ _ _ _ _ _ _ _ _ _, d.pl, rfl, .inl ⟨d.kvs, .inl (s _ _ L.pl)⟩, _, rfl, _, hg, ?_⟩
    refine ⟨_, rfl, _, rfl, lsz (by simp), fun z nz => neD_same (c := cPair) (x := (l.track, l.time)) (cPair.mono ((out_sub _ _).trans (s.add nz)) v2) ⟨z, _, _, rfl, upd_same, ?_, ?_⟩ ⟨trivial, trivial⟩ ⟨_, rfl, ?_⟩⟩
    · exact congrArg V.int htr
    · exact congrArg V.int htm
    · exact ⟨_, rfl, e.2.2, _, _, _, rfl, s.add nz, fun z => absurd z (by omega), fun x _ hx => by
        rw [show i + 1 - 1 = i by omega, he] at hx
        cases hx
        rfl⟩
  · rintro σ H' ⟨bf, u1, u2, u3, rfl, s, _⟩
    exact k H' s
end
end Sp
namespace Sp
open PySem PySem.Spec PyProof.Rows L2
theorem encF_take_data (ls : List Leaf) (k : Nat) : (encF ls).take (encF (ls.take k)).length = encF (ls.take k) ∧ (encF (ls.take k)).length ≤ (encF ls).length := by
  have e : encF ls = encF (ls.take k) ++ tailF (ls.drop k) := by rw [← encF_app, List.take_append_drop]
  rw [e]
  exact ⟨List.take_left, by rw [List.length_append]; omega⟩
section
variable {P : Program} {w : World} {K : PySem.W.Frag} {mg : Str → Option Value} {base : Heap}
def spCn (K : PySem.W.Frag) : Sp := fun vs H Q _ => ∃ (p : Pr) (ls : List Leaf) (M X : Addr → Prop) (r : Addr) (k k' : Nat) (sc st : Int) (d : LD) (tot : Int), vs = [.ref r, .int ((k : Int) + 1), .int tot] ∧ LR (ga K "LeafReader") p ls H M X r k k' sc st d ∧ OkPr p ∧ 0 < k' ∧ tot = crc (encF (ls.take k)) ∧
  (∀ j t, p.2.2.1[j]? = some t → (mineK j (ls.take k')).length = t.2.2.length) ∧ ∀ H', Same H H' → Q .non H'
theorem ok_LeafReader_check_end (T : Txt K mg) : FnOk P w K mg base CX0 2 (ma K (ga K "LeafReader") "check_end") (fdAt K (ma K (ga K "LeafReader") "check_end")) ["self", "count", "total"] (spCn K) := by
  refine okD T.F_LeafReader_check_end sc_LeafReader_check_end (fun vs H Q E h => ?_) (fun cdv A outer s H vs Q E hr h => ?_)
  · obtain ⟨_, _, _, _, _, _, _, _, _, _, _, rfl, _⟩ := h
    rfl
  obtain ⟨p, ls, M, X, r, n, n', sc, st, d, tot, rfl, L, ok, hn', htot, hall, k⟩ := h
  have nd := sc_LeafReader_check_end.nd
  refine ⟨_, ((pss_cons (ps_if (pt_cmpR op_ne (pv 1) (pe_op op_add (pe_fld (pv 0) rfl) pe_int) (nomark _)) (pss_one ps_never) pss_nil)
      (pss_cons (ps_if (pt_cmpR op_ne (pv 2) (pe_call (ok_checksum T) (hr.mono (by decide)) rfl T.g_checksum T.k_checksum T.b_checksum .nil pass0 (pa_cons (pe_slice sl_list (pe_fld (pv 0) rfl) po_none (po_some (pe_fld (pv 0) rfl))) pa_nil)) (nomark _)) (pss_one ps_never) pss_nil)
      (pss_one (ps_for PassesOwn.never rfl (pi_range1 rfl T.n_range (pa_cons (pe_callB (lenS_ K rfl) rfl T.n_len boot_len (pa_cons (pe_fld (pv 0) rfl) pa_nil)) pa_nil)) (pg_name (i := 3) nd rfl (Or.inl rfl)) (pss_one (ps_if (pt_cmpR op_lt (pe_callB (lenS_ K rfl) rfl T.n_len boot_len (pa_cons (pe_ix (ixL_ K rfl) (pe_fld (pv 0) rfl) (pv 3) (fun _ _ => rfl)) pa_nil)) (pe_ix (ixT_ K rfl) (pe_ix (ixL_ K rfl) (pe_ix (ixT_ K rfl) (pe_fld (pv 0) rfl) pe_int (fun _ _ => rfl)) (pv 3) (fun _ _ => rfl)) pe_int (fun _ _ => rfl)) (nomark _)) (pss_one ps_never) pss_nil))))))), ?_⟩
  have ob := L.ob
  have hda := L.data.mono (out_sub _ _)
  obtain ⟨ht1, ht2⟩ := encF_take_data ls n
  have htl := ok.len
  refine ⟨_, rfl, _, rfl, r, _, d.dx, _, _, rfl, ob, T.c_LeafReader, T.a_LeafReader_count, gLR_count _ _ _ _ _ _ _ _ _ _ _, _, _, rfl, rfl, rfl, _, rfl, ifF (nb_f rfl) ?_⟩
  refine ⟨_, rfl, _, rfl, r, _, d.dx, _, _, rfl, ob, T.c_LeafReader, T.a_LeafReader_data, gLR_data _ _ _ _ _ _ _ _ _ _ _, _, rfl, r, _, d.dx, _, _, rfl, ob, T.c_LeafReader, T.a_LeafReader_at, gLR_at _ _ _ _ _ _ _ _ _ _ _, _, rfl, _, _, rfl, hda.sq, fun z nz => ?_⟩
  rw [cut_to ht2, ht1]
  have hz : Li (upd H z (.lst ((encF (ls.take n)).map V.int))) z (encF (ls.take n)) := upd_same
  have s1 : Same H (upd H z (.lst ((encF (ls.take n)).map V.int))) := Same.new nz
  generalize upd H z (.lst ((encF (ls.take n)).map V.int)) = H1 at hz s1
  refine ⟨z, _, rfl, hz, rfl, _, rfl, ifF (nb_f (congrArg V.int htot)) ?_⟩
  have L1 := L.same s1
  obtain ⟨ua, hua, hul, hnd, hlen, hus⟩ := L1.units hn'
  obtain ⟨t0, x1, x2, x3, hh, h0, hx1, hx2, ⟨ra, rvs, rfl, hra, hrp⟩⟩ := L1.head hn'
  have hul' := out_sub _ _ _ _ hul
  have h0' := out_sub _ _ _ _ h0
  have hra' := out_sub _ _ _ _ hra
  have ob1 := L1.ob
  unfold LD.fl at ob1
  rw [hua, hh] at ob1
  refine ⟨_, rfl, r, _, d.dx, _, _, rfl, ob1, T.c_LeafReader, T.a_LeafReader_units, gLR_units _ _ _ _ _ _ _ _ _ _ _, _, _, rfl, .inl (SqL.of hul'), _, rfl, by omega, by rw [List.length_map]; omega, for_range (n := (((d.uls.map V.ref).length : Nat) : Int).toNat) (fun i σ H' => ∃ (u : Option V), σ = [some (.ref r), some (.int ((n : Int) + 1)), some (.int tot), u] ∧ H' = H1)
    ⟨none, rfl, rfl⟩ ?_ ?_⟩
  · rintro i σ H' hi ⟨u, rfl, rfl⟩
    rw [List.length_map] at hi
    have hi2 : i < d.uls.length := by omega
    have hu : d.uls[i]? = some d.uls[i] := List.getElem?_eq_getElem hi2
    have htr : p.2.2.1[i]? = some (p.2.2.1[i]'(by omega)) := List.getElem?_eq_getElem (by omega)
    generalize p.2.2.1[i]'(by omega) = tr at htr
    generalize d.uls[i] = ul at hu
    obtain ⟨_, ws, hws, hwp⟩ := hus i ul hu
    have hwl := hwp.length
    rw [hall i tr htr] at hwl
    have hrow : (rowsOf p.2.2.1)[i]? = some (tr.1, tr.2.1, (tr.2.2.length : Int)) := by rw [rowsOf, List.getElem?_map, htr]; rfl
    obtain ⟨x, hx, t, y1, y2, y3, rfl, ht, rfl, rfl, rfl⟩ := pget hrp hrow
    have hulx : (d.uls.map V.ref)[i]? = some (V.ref ul) := by rw [List.getElem?_map, hu]; rfl
    refine ⟨_, rfl, r, _, d.dx, _, _, rfl, ob1, T.c_LeafReader, T.a_LeafReader_units, gLR_units _ _ _ _ _ _ _ _ _ _ _, _, rfl, _, _, _, _, rfl, rfl, SqL.of hul', at0 (i := i) (by omega) hulx, _, _, rfl, .inl (SqL.of hws), ?_⟩
    refine ⟨_, rfl, r, _, d.dx, _, _, rfl, ob1, T.c_LeafReader, T.a_LeafReader_head, gLR_head _ _ _ _ _ _ _ _ _ _ _, _, _, _, _, rfl, rfl, SqT.of h0', atI_nat (j := 2) rfl, _, rfl, _, _, _, _, rfl, rfl, SqL.of hra', at0 (i := i) (by omega) hx, _, _, _, _, rfl, rfl, SqT.of (out_sub _ _ _ _ ht), atI_nat (j := 2) rfl, _, _, rfl, rfl, _, rfl, ?_⟩
    have hlt : ¬ ((ws.length : Nat) : Int) < ((tr.2.2.length : Nat) : Int) := by omega
    refine yF ?_ ⟨_, rfl, rfl⟩
    exact hlt
  · rintro σ H' ⟨u, rfl, rfl⟩
    exact k _ s1
end
end Sp
namespace Sp
open PySem PySem.Spec PyProof.Rows L2
theorem putK_le {κ : Type} [DecidableEq κ] (c : List (κ × V)) (k : κ) (x : V) : (putK c k x).length ≤ c.length + 1 := by
  unfold putK
  split
  · rw [List.length_map]; omega
  · rw [List.length_append]; simp
theorem nodup_idx {α : Type} {l : List α} (h : l.Nodup) {i j : Nat} {x : α} (hi : l[i]? = some x) (hj : l[j]? = some x) : i = j := by
  obtain ⟨b1, e1⟩ := List.getElem?_eq_some_iff.mp hi
  obtain ⟨b2, e2⟩ := List.getElem?_eq_some_iff.mp hj
  rcases Nat.lt_trichotomy i j with z | z | z
  · exact absurd (e1.trans e2.symm) (List.pairwise_iff_getElem.mp h i j b1 b2 z)
  · exact z
  · exact absurd (e2.trans e1.symm) (List.pairwise_iff_getElem.mp h j i b2 b1 z)
theorem nx_mid {D : Ends} {σ : L2.St} {H : Hp} (h : D.nx σ H) : tNext D σ H := h
section
variable {P : Program} {w : World} {K : PySem.W.Frag} {mg : Str → Option Value} {base : Heap}
def spCu (K : PySem.W.Frag) : Sp := fun vs H Q _ => ∃ (stamp : Int) (p : Pr) (od : List (Int × Int)) (ls : List Leaf) (M X : Addr → Prop) (r : Addr) (k : Nat) (sc st : Int) (d : LD) (v : V) (l : Leaf) (j m : Nat) (t : Tr) (u : Un'), vs = [.ref r, v] ∧ LR (ga K "LeafReader") p ls H M X r k k sc st d ∧ FF stamp p od ls ∧ OkPr p ∧ 0 < k ∧ cLeaf.R (out (Un2 M X) H) v l ∧ ls[k]? = some l ∧ l.kind = 2 ∧ UAt p ls k l j m t u ∧
  ∀ H' d', Fr H M H' M → LR (ga K "LeafReader") p ls H' M X r k (k + 1) sc st d' → Q .non H'
theorem ok_LeafReader_check_unit (T : Txt K mg) : FnOk P w K mg base CX0 1 (ma K (ga K "LeafReader") "check_unit") (fdAt K (ma K (ga K "LeafReader") "check_unit")) ["self", "leaf"] (spCu K) := by
  refine okD T.F_LeafReader_check_unit sc_LeafReader_check_unit (fun vs H Q E h => ?_) (fun cdv A outer s H vs Q E hr h => ?_)
  · obtain ⟨_, _, _, _, _, _, _, _, _, _, _, _, _, _, _, _, _, rfl, _⟩ := h
    rfl
  obtain ⟨stamp, p, od, ls, M, X, r, n, sc, st, d, v, l, j, m, t, u, rfl, L, F, ok, hn, hv, hl, hk2, U, k⟩ := h
  have nd := sc_LeafReader_check_unit.nd
  refine ⟨_, ((pss_cons (ps_asg (pv 1) (pg_tup_ K rfl rfl (n := 9) (pgs_cons (pg_name (i := 2) nd rfl (Or.inl rfl)) (pgs_cons (pg_name (i := 2) nd rfl (Or.inl rfl)) (pgs_cons (pg_name (i := 2) nd rfl (Or.inl rfl)) (pgs_cons (pg_name (i := 3) nd rfl (Or.inl rfl)) (pgs_cons (pg_name (i := 4) nd rfl (Or.inl rfl)) (pgs_cons (pg_name (i := 5) nd rfl (Or.inl rfl)) (pgs_cons (pg_name (i := 6) nd rfl (Or.inl rfl)) (pgs_cons (pg_name (i := 7) nd rfl (Or.inl rfl)) (pgs_cons (pg_name (i := 2) nd rfl (Or.inl rfl)) pgs_nil)))))))))))
      (pss_cons (ps_if (PW.pt (pw_or (pt_cmpR op_eq (pv 3) pe_int (nomark _)) (pw_or1 (pt_cmpR op_gt (pv 3) (pe_callB (lenS_ K rfl) rfl T.n_len boot_len (pa_cons (pe_fld (pv 0) rfl) pa_nil)) (nomark _))))) (pss_one ps_never) pss_nil)
      (pss_cons (ps_set (i := 8) nd rfl (Or.inl rfl) (pe_ix (ixL_ K rfl) (pe_fld (pv 0) rfl) (pe_op op_sub (pv 3) pe_int) (fun _ _ => rfl)))
      (pss_cons (ps_if (pt_cmpR op_eq (pe_callB (lenS_ K rfl) rfl T.n_len boot_len (pa_cons (pv 8) pa_nil)) (pe_ix (ixT_ K rfl) (pe_ix (ixL_ K rfl) (pe_ix (ixT_ K rfl) (pe_fld (pv 0) rfl) pe_int (fun _ _ => rfl)) (pe_op op_sub (pv 3) pe_int) (fun _ _ => rfl)) pe_int (fun _ _ => rfl)) (nomark _)) (pss_one ps_never) pss_nil)
      (pss_cons (ps_if (pt_cmpR op_ne (pv 4) (pe_callB (lenS_ K rfl) rfl T.n_len boot_len (pa_cons (pv 8) pa_nil)) (nomark _)) (pss_one ps_never) pss_nil)
      (pss_cons (ps_if (PW.pt (pw_or (pt_cmpR op_eq (pv 6) pe_int (nomark _)) (pw_or1 (PW.pt (pw_and (pt_cmpR op_gt (pe_callB (lenS_ K rfl) rfl T.n_len boot_len (pa_cons (pv 8) pa_nil)) pe_int (nomark _)) (pw_and1 (pt_cmpR op_lt (pv 5) (pe_op op_add (pe_ix (ixT_ K rfl) (pe_ix (ixL_ K rfl) (pv 8) (pe_un un_neg pe_int) (fun _ _ => rfl)) pe_int (fun _ _ => rfl)) (pe_ix (ixT_ K rfl) (pe_ix (ixL_ K rfl) (pv 8) (pe_un un_neg pe_int) (fun _ _ => rfl)) pe_int (fun _ _ => rfl))) (nomark _)))))))) (pss_one ps_never) pss_nil)
      (pss_cons (ps_if (PW.pt (pw_and (pt_cmpR op_eq (pv 7) pe_int (nomark _)) (pw_and1 (pt_cmpR op_eq (pe_callB (lenS_ K rfl) rfl T.n_len boot_len (pa_cons (pv 8) pa_nil)) pe_int (nomark _))))) (pss_one ps_never) pss_nil)
      (pss_cons (ps_if (PW.pt (pw_and (pt_cmpR op_eq (pv 7) pe_int (nomark _)) (pw_and1 (pt_cmpR op_gt (pe_callB (lenS_ K rfl) rfl T.n_len boot_len (pa_cons (pv 8) pa_nil)) pe_int (nomark _))))) (pss_one (ps_dput (hu_of hr) (pe_fld (pv 0) rfl) (pe_fld (pv 0) rfl) (pe_tup (pa_cons (pv 3) (pa_cons (pv 5) pa_nil))) rfl)) pss_nil)
      (pss_one (ps_expr (pe_bm PySem.F.plainAttrs_list PySem.F.slot_list_append PySem.F.type_list_append mt_append (pv 8) (pa_cons (pv 1) pa_nil))))))))))))), ?_⟩
  have ob := L.ob
  obtain ⟨lt, lb, rfl, hlt, hlb⟩ := id hv
  have hlt' := out_sub _ _ _ _ hlt
  have hll := lt_of_at hl
  have hl64 := F.len.1
  obtain ⟨ua, hua, hul, hnd, hlen, hus⟩ := L.units hn
  obtain ⟨t0, x1, x2, x3, hh, h0, hx1, hx2, ⟨ra, rvs, rfl, hra, hrp⟩⟩ := L.head hn
  have hul' := out_sub _ _ _ _ hul
  have h0' := out_sub _ _ _ _ h0
  have hra' := out_sub _ _ _ _ hra
  unfold LD.fl at ob
  rw [hua, hh] at ob
  have htl := ok.len
  have hjl := lt_of_at U.ht
  have hml := lt_of_at U.hu
  have oks := (ok.tracks t (List.mem_of_getElem? U.ht)).units
  have hum := oks.2.1.mem u (List.mem_of_getElem? U.hu)
  have hu5 := oks.1
  have hju : d.uls[j]? = some (d.uls[j]'(by omega)) := List.getElem?_eq_getElem (by omega)
  generalize d.uls[j]'(by omega) = ul at hju
  obtain ⟨hMul, ws, hws, hwp⟩ := hus j ul hju
  have hwl : ws.length = m := by rw [hwp.length, U.prev]
  have hrow : (rowsOf p.2.2.1)[j]? = some (t.1, t.2.1, (t.2.2.length : Int)) := by rw [rowsOf, List.getElem?_map, U.ht]; rfl
  obtain ⟨xr, hxr, tr, z1, z2, z3, rfl, htr, rfl, rfl, rfl⟩ := pget hrp hrow
  have hulx : (d.uls.map V.ref)[j]? = some (V.ref ul) := by rw [List.getElem?_map, hju]; rfl
  have hT := U.track
  have hO := U.ord
  have hTi := U.time
  have hS := U.span
  have hKy := U.key
  have hj1 : l.track - 1 = (j : Int) := by omega
  refine ⟨_, rfl, lt, _, rfl, SqT.of hlt', rfl, _, _, rfl, _, _, rfl, _, _, rfl, _, _, rfl, _, _, rfl, _, _, rfl, _, _, rfl, _, _, rfl, _, _, rfl, rfl, ?_⟩
  refine ⟨_, rfl, rfl, _, rfl, ifF (bl_f fun z => by have := V.int.inj z; omega) ⟨_, rfl, _, rfl, r, _, d.dx, _, _, rfl, ob, T.c_LeafReader, T.a_LeafReader_units, gLR_units _ _ _ _ _ _ _ _ _ _ _, _, _, rfl, .inl (SqL.of hul'), _, _, rfl, rfl, _, rfl, yF (by rw [List.length_map]; omega) ?_⟩⟩
  refine ⟨_, rfl, r, _, d.dx, _, _, rfl, ob, T.c_LeafReader, T.a_LeafReader_units, gLR_units _ _ _ _ _ _ _ _ _ _ _, _, rfl, _, _, rfl, rfl, _, _, _, _, rfl, rfl, SqL.of hul', at0 (i := j) (by omega) hulx, ?_⟩
  refine ⟨_, rfl, _, _, rfl, .inl (SqL.of hws), _, rfl, r, _, d.dx, _, _, rfl, ob, T.c_LeafReader, T.a_LeafReader_head, gLR_head _ _ _ _ _ _ _ _ _ _ _, _, _, _, _, rfl, rfl, SqT.of h0', atI_nat (j := 2) rfl, _, rfl, _, _, rfl, rfl, _, _, _, _, rfl, rfl, SqL.of hra', at0 (i := j) (by omega) hxr, _, _, _, _, rfl, rfl, SqT.of (out_sub _ _ _ _ htr), atI_nat (j := 2) rfl, rfl, _, rfl, ?_⟩
  have hne1 : ¬ ((ws.length : Nat) : Int) = ((t.2.2.length : Nat) : Int) := by omega
  refine ifF (bl_f fun z => hne1 (V.int.inj z)) ?_
  refine ⟨_, rfl, _, rfl, _, _, rfl, .inl (SqL.of hws), rfl, _, rfl, ifF (nb_f (congrArg V.int (by omega))) (nx_mid ?_)⟩
  dsimp only
  refine seq_mid (t := tIfS _ _ _) (fun σ' H' => σ' = [some (.ref r), some (.ref lt), some (.ref lb), some (.int l.track), some (.int l.ordinal), some (.int l.time), some (.int l.span), some (.int l.key), some (.ref ul)] ∧ H = H') (fun nx hnx => ?_) ?_
  · refine ⟨_, rfl, rfl, _, rfl, ifF (bl_f fun z => by have := V.int.inj z; omega) ⟨_, rfl, _, _, rfl, .inl (SqL.of hws), _, _, rfl, rfl, _, rfl, ?_⟩⟩
    by_cases c : 0 < m
    · obtain ⟨y, hy⟩ : ∃ y, ws[m - 1]? = some y := ⟨_, List.getElem?_eq_getElem (by omega)⟩
      obtain ⟨lp, hlp, tp, bp, rfl, htp, hbp⟩ := pgetl hwp hy
      have htp' := out_sub _ _ _ _ htp
      obtain ⟨up, hup, hpt, hps⟩ := mine_nth F U.ht hlp
      have hnx2 := oks.2.1.next (i := m - 1) hup (by rw [show m - 1 + 1 = m by omega]; exact U.hu)
      have hlast := atI_last (vs := ws) (x := V.ref tp) (by rw [hwl]; exact hy) (by omega)
      refine yT (by omega) ⟨_, rfl, _, rfl, _, rfl, _, _, _, _, rfl, rfl, SqL.of hws, hlast, _, _, _, _, rfl, rfl, SqT.of htp', atI_nat (j := 5) rfl, ?_⟩
      refine ⟨_, rfl, _, rfl, _, _, _, _, rfl, rfl, SqL.of hws, hlast, _, _, _, _, rfl, rfl, SqT.of htp', atI_nat (j := 6) rfl, _, _, rfl, rfl, _, _, rfl, rfl, _, rfl, yF (by omega) (hnx _ _ ⟨rfl, rfl⟩)⟩
    · exact yF (by omega) (hnx _ _ ⟨rfl, rfl⟩)
  rintro _ _ ⟨rfl, rfl⟩
  refine seq_mid (t := tIfS _ _ _) (fun σ' H' => σ' = [some (.ref r), some (.ref lt), some (.ref lb), some (.int l.track), some (.int l.ordinal), some (.int l.time), some (.int l.span), some (.int l.key), some (.ref ul)] ∧ H = H') (fun nx hnx => ?_) ?_
  · refine ⟨_, rfl, rfl, _, rfl, ?_⟩
    by_cases c : l.key = 0
    · have hm0 : ¬ m = 0 := fun z => by
        subst z
        have := oks.2.2 u U.hu
        rw [this] at hKy
        simp at hKy
        omega
      exact ifT (bl_t (congrArg V.int c)) ⟨_, rfl, _, _, rfl, .inl (SqL.of hws), rfl, _, rfl, ifF (bl_f fun z => by have := V.int.inj z; omega) (hnx _ _ ⟨rfl, rfl⟩)⟩
    · exact ifF (bl_f fun z => c (V.int.inj z)) (iteF (hnx _ _ ⟨rfl, rfl⟩))
  rintro _ _ ⟨rfl, rfl⟩
  have mrp : r ≠ d.pl := fun z => by
    have := L.ob
    rw [z, L.pl] at this
    cases this
  have mru : ul ≠ r := fun z => by
    rw [z, L.ob] at hws; cases hws
  have mpu : ul ≠ d.pl := fun z => by
    rw [z, L.pl] at hws; cases hws
  refine seq_mid (t := tIfS _ _ _) (fun σ' H' => σ' = [some (.ref r), some (.ref lt), some (.ref lb), some (.int l.track), some (.int l.ordinal), some (.int l.time), some (.int l.span), some (.int l.key), some (.ref ul)] ∧ ∃ kvs, Same (out (Un2 M X) H) (out (Un2 M X) H') ∧ (∀ a o, H a = some o → a ≠ d.pl → H' a = some o) ∧ H' d.pl = some (.dK kvs) ∧ kvs.length ≤ n + 1 ∧
    ∀ (i : Nat) (l : Leaf), i < n + 1 → ls[i]? = some l → l.kind = 2 → l.key = 1 → 0 < l.ordinal → ∃ v, valV kvs (.inl ((encF (ls.take i)).length : Int)) = some v ∧ cPair.R (out (Un2 M X) H') v (l.track, l.time)) (fun nx hnx => ?_) ?_
  · have nopair : ¬ (l.key = 1 ∧ 0 < m) → nx [some (.ref r), some (.ref lt), some (.ref lb), some (.int l.track), some (.int l.ordinal), some (.int l.time), some (.int l.span), some (.int l.key), some (.ref ul)] H := fun hno =>
      hnx _ _ ⟨rfl, d.kvs, Same.refl _, fun a o h _ => h, L.pl, by have := L.pln; omega, fun i l2 h1 h2 h3 h4 h5 => by
        by_cases c : i < n
        · exact L.plok i l2 c h2 h3 h4 h5
        · have : i = n := by omega
          subst this
          rw [hl] at h2
          cases h2
          exact absurd ⟨h4, by omega⟩ hno⟩
    refine ⟨_, rfl, rfl, _, rfl, ?_⟩
    by_cases c : l.key = 1
    · refine ifT (bl_t (congrArg V.int c)) ⟨_, rfl, _, _, rfl, .inl (SqL.of hws), _, _, rfl, rfl, _, rfl, ?_⟩
      by_cases c2 : 0 < m
      · refine yT (by omega) ?_
        refine ⟨_, rfl, _, rfl, lsz (by simp), fun z nz => ?_⟩
        have ho1 := upd_keep (o := .tup [.int l.track, .int l.time]) L.ob nz
        have hp1 := upd_keep (o := .tup [.int l.track, .int l.time]) L.pl nz
        have so : Same (out (Un2 M X) H) (out (Un2 M X) (upd (upd H z (.tup [.int l.track, .int l.time])) d.pl (.dK (putK d.kvs (.inl ((encF (ls.take n)).length : Int)) (.ref z))))) := by
          rw [out_upd (.inl L.mp)]
          exact out_mono (Same.new nz)
        have npz : d.pl ≠ z := ne_of_none L.pl nz
        refine ⟨_, rfl, r, _, d.dx, _, _, rfl, ho1, T.c_LeafReader, T.a_LeafReader_places, gLR_places _ _ _ _ _ _ _ _ _ _ _, _, rfl, r, _, d.dx, _, _, rfl, ho1, T.c_LeafReader, T.a_LeafReader_at, gLR_at _ _ _ _ _ _ _ _ _ _ _, d.pl, _, rfl, DPut.k (k := Sum.inl ((encF (ls.take n)).length : Int)) hp1 (lsz' (by have := L.pln; omega)), hnx _ _ ⟨rfl, _, so, fun a o h ne => (upd_ne ne).trans (upd_keep h nz), upd_same, by have := putK_le d.kvs (Sum.inl ((encF (ls.take n)).length : Int)) (V.ref z); have := L.pln; omega, fun i l2 h1 h2 h3 h4 h5 => ?_⟩⟩
        rw [valV_put]
        by_cases ci : i < n
        · have := encF_mono (ls := ls) ci (by omega)
          rw [if_neg (fun e => by have := Sum.inl.inj e; omega)]
          obtain ⟨v, w1, w2⟩ := L.plok i l2 ci h2 h3 h4 h5
          exact ⟨v, w1, cPair.mono so w2⟩
        · have : i = n := by omega
          subst this
          rw [hl] at h2
          cases h2
          rw [if_pos rfl]
          refine ⟨_, rfl, z, _, _, rfl, out_of ((upd_ne npz.symm).trans upd_same) (L.nz nz), rfl, rfl⟩
      · exact yF (by omega) (nopair fun z => c2 z.2)
    · exact ifF (bl_f fun z => c (V.int.inj z)) (iteF (nopair fun z => c z.1))
  rintro _ H2 ⟨rfl, kvs, so, hk, hp2, hkl, hpo⟩
  refine ⟨_, rfl, .inl ⟨rfl, _, SqL.of (hk _ _ hws mpu)⟩, _, rfl, ul, _, _, rfl, rfl, hk _ _ hws mpu, lsz' (by omega), ?_⟩
  have eo : out (Un2 M X) (upd H2 ul (.lst (ws ++ [.ref lt]))) = out (Un2 M X) H2 := out_upd (.inl hMul)
  refine k _ { d with kvs := kvs } ⟨fun a o h nM => (upd_ne fun z => nM (by rw [z]; exact hMul)).trans (hk a o h fun z => nM (by rw [z]; exact L.mp)), fun a h => .inl h⟩ ⟨(upd_ne mru.symm).trans (hk _ _ L.ob mrp), L.mr, fun a h => ⟨(L.xd a h).1, ?_⟩, fun a h => ?_, by rw [eo]; exact L.data.mono so, L.mp, (upd_ne mpu.symm).trans hp2, hkl, by rw [eo]; exact hpo, ?_, fun _ => by rw [eo]; exact cHead.mono so (L.head hn), fun _ => ?_⟩
  · obtain ⟨q1, q2⟩ := L.xd a h
    rw [upd_ne (fun z => q1 (by rw [z]; exact hMul))]
    cases e : H a with
    | none => exact absurd e q2
    | some o => rw [hk a o e fun z => q1 (by rw [z]; exact L.mp)]; simp
  · by_cases e1 : a = ul
    · rw [e1, upd_same]; simp
    · rw [upd_ne e1]
      by_cases e2 : a = d.pl
      · rw [e2, hp2]; simp
      · cases e : H a with
        | none => exact absurd e (L.md a h)
        | some o => rw [hk a o e e2]; simp
  · rw [eo]
    have ht := cTags.mono so L.tags
    by_cases c : 1 < n
    · rw [if_pos c] at ht
      rw [if_pos (by omega)]
      exact ht
    · rw [if_neg c] at ht
      have hn1 : n = 1 := by omega
      have hz : p.2.2.2 = [] := by
        cases e : p.2.2.2 with
        | nil => rfl
        | cons a b =>
          have := F.tags1 (by rw [e]; simp)
          rw [← hn1, hl] at this
          have := congrArg Leaf.kind (Option.some.inj this)
          rw [hk2] at this
          exact absurd this (by show ¬ (2 : Int) = 1; decide)
      rw [if_pos (by omega), hz]
      exact ht
  · rw [eo]
    refine ⟨ua, hua, so _ _ hul, hnd, hlen, fun j2 u2 hj2 => ?_⟩
    obtain ⟨m1, ws2, m2, m3⟩ := hus j2 u2 hj2
    refine ⟨m1, ?_⟩
    rw [take_snoc hl]
    by_cases c : j2 = j
    · subst c
      rw [hju] at hj2
      cases hj2
      rw [hws] at m2
      cases m2
      rw [mineK_snoc_yes hk2 hT]
      exact ⟨_, upd_same, papp (pmap m3 fun _ _ q => cLeaf.mono so q) (.cons (cLeaf.mono so hv) .nil)⟩
    · have nu : u2 ≠ ul := fun e => by
        subst e
        exact c (nodup_idx hnd hj2 hju)
      have np : u2 ≠ d.pl := fun z => by
        rw [z, L.pl] at m2; cases m2
      rw [mineK_snoc_trk (by rw [hT]; omega)]
      exact ⟨ws2, (upd_ne nu).trans (hk _ _ m2 np), pmap m3 fun _ _ q => cLeaf.mono so q⟩
end
end Sp
namespace Sp
open PySem PySem.Spec PyProof.Rows L2
theorem upd_self {H : Hp} {x : Addr} {o : HO} (h : H x = some o) : upd H x o = H := by
  funext a
  by_cases e : a = x
  · rw [e, upd_same, h]
  · rw [upd_ne e]
section
variable {C : Addr} {p : Pr} {ls : List Leaf} {H H' : Hp} {M X : Addr → Prop} {r : Addr} {k k' : Nat} {sc st : Int} {d : LD}
theorem LR.fresh (L : LR C p ls H M X r k k' sc st d) (H1 : Hp) : Same (fresh' H H1) (out (Un2 M X) H1) := fun a o h => by
  unfold fresh' at h
  split at h
  · rename_i e
    exact out_of h (L.nz e)
  · cases h
/-- a leaf that is no unit has been checked -/
theorem LR.leaf (L : LR C p ls H M X r k k' sc st d) (hk : 0 < k') {l : Leaf} (hl : ls[k']? = some l) (h2 : l.kind ≠ 2) (tv ev : V) (ht : cTags.R (out (Un2 M X) H) tv (if 1 < k' + 1 then p.2.2.2 else [])) :
    LR C p ls (upd H r (.ins C d.dx ({ d with tv := tv, ev := ev }.fl ls k sc st))) M X r k (k' + 1) sc st { d with tv := tv, ev := ev } := by
  have eo : out (Un2 M X) (upd H r (.ins C d.dx ({ d with tv := tv, ev := ev }.fl ls k sc st))) = out (Un2 M X) H := out_upd (.inl L.mr)
  have npl : d.pl ≠ r := fun z => by
    have := L.pl
    rw [z, L.ob] at this
    cases this
  refine ⟨upd_same, L.mr, fun a h => ⟨(L.xd a h).1, ?_⟩, fun a h => ?_, by rw [eo]; exact L.data, L.mp, (upd_ne npl).trans L.pl, by have := L.pln; show d.kvs.length ≤ _; omega, fun i l2 h1 g2 g3 g4 g5 => ?_, by rw [eo]; exact ht, fun _ => by rw [eo]; exact L.head hk, fun _ => ?_⟩
  · rw [upd_ne (fun z => (L.xd a h).1 (by rw [z]; exact L.mr))]
    exact (L.xd a h).2
  · by_cases e : a = r
    · rw [e, upd_same]; simp
    · rw [upd_ne e]; exact L.md a h
  · rw [eo]
    by_cases c : i < k'
    · exact L.plok i l2 c g2 g3 g4 g5
    · have : i = k' := by omega
      subst this
      rw [hl] at g2
      cases g2
      exact absurd g3 h2
  · rw [eo]
    obtain ⟨ua, a, b, c, e, f⟩ := L.units hk
    refine ⟨ua, a, b, c, e, fun j u hj => ?_⟩
    obtain ⟨g, ws, h1, h3⟩ := f j u hj
    refine ⟨g, ws, (upd_ne fun z => ?_).trans h1, ?_⟩
    · rw [z, L.ob] at h1
      cases h1
    · rw [take_snoc hl, mineK_snoc_kind h2]
      exact h3
end
section
variable {P : Program} {w : World} {K : PySem.W.Frag} {mg : Str → Option Value} {base : Heap}
def spCb (K : PySem.W.Frag) : Sp := fun vs H Q _ => ∃ (stamp : Int) (p : Pr) (od : List (Int × Int)) (inE : Int × Int → Bool) (M X : Addr → Prop) (r : Addr) (k : Nat) (sc st : Int) (d : LD) (b : Addr) (l : Leaf), vs = [.ref r, .int l.kind, .ref b] ∧ LR (ga K "LeafReader") p (fileL stamp p inE od) H M X r k k sc st d ∧
  OkPr p ∧ Order (lensOf p.2.2.1) od ∧ (∀ e, inE e = true → GoodE (keysOf p.2.2.1) e) ∧ (0 ≤ stamp ∧ stamp ≤ 4294967295) ∧ Li (out (Un2 M X) H) b l.body ∧ (fileL stamp p inE od)[k]? = some l ∧ l.kind ≠ 2 ∧
  ∀ H' M' d', Fr H M H' M' → LR (ga K "LeafReader") p (fileL stamp p inE od) H' M' X r k (k + 1) sc st d' → Q .non H'
theorem ok_LeafReader_check_body (T : Txt K mg) : FnOk P w K mg base CX0 6 (ma K (ga K "LeafReader") "check_body") (fdAt K (ma K (ga K "LeafReader") "check_body")) ["self", "kind", "body"] (spCb K) := by
  refine okD T.F_LeafReader_check_body sc_LeafReader_check_body (fun vs H Q E h => ?_) (fun cdv A outer s H vs Q E hr h => ?_)
  · obtain ⟨_, _, _, _, _, _, _, _, _, _, _, _, _, rfl, _⟩ := h
    rfl
  obtain ⟨stamp, p, od, inE, M, X, r, n, sc, st, d, b, l, rfl, L, ok, O, hg, hs, hb, hl, hk2, k⟩ := h
  have nd := sc_LeafReader_check_body.nd
  obtain ⟨k0, k1, k3, k4⟩ := kind_at hl
  have F := fileL_ff ok O hs inE
  have hfl := fileL_len (stamp := stamp) (p := p) (inE := inE) (od := od)
  have hll := lt_of_at hl
  have hb' := hb.mono (out_sub _ _)
  have htl := ok.len
  refine ⟨_, ((pss_cons (ps_try_thru0 (pss_one (ps_if (pt_cmpR op_eq (pv 1) (pe_gint T.i_HEAD) (nomark _)) (pss_cons (ps_fld (pv 0) (pe_call (ok_read_head T) (hr.mono (by decide)) rfl T.g_read_head T.k_read_head T.b_read_head .nil pass0 (pa_cons (pv 2) pa_nil)) rfl)
          (pss_one (ps_fld (pv 0) (pe_lc (own := [("_", 3)]) rfl nd (pi_list (pe_ix (ixT_ K rfl) (pe_fld (pv 0) rfl) pe_int (fun _ _ => rfl))) (blkOk_by (N := N_LeafReader_check_body) (sc := defScope s_LeafReader_check_body) (by decide +kernel)) (fun _ _ _ _ _ => (pg_name (i := 3) nd rfl (Or.inl rfl))) (fun _ _ _ _ _ => pts_nil) (fun _ _ _ _ _ => (pe_lst pa_nil))) rfl))) (pss_one (ps_if (pt_cmpR op_eq (pv 1) (pe_gint T.i_TAGS) (nomark _)) (pss_one (ps_fld (pv 0) (pe_call (ok_read_tags T) (hr.mono (by decide)) rfl T.g_read_tags T.k_read_tags T.b_read_tags .nil pass0 (pa_cons (pv 2) pa_nil)) rfl)) (pss_one (ps_if (pt_cmpR op_eq (pv 1) (pe_gint T.i_INDEX) (nomark _)) (pss_one (ps_fld (pv 0) (pe_call (ok_read_index T) (hr.mono (by decide)) rfl T.g_read_index T.k_read_index T.b_read_index .nil pass0 (pa_cons (pv 2) pa_nil)) rfl)) (pss_one (ps_asg (pe_call (ok_read_end T) (hr.mono (by decide)) rfl T.g_read_end T.k_read_end T.b_read_end .nil pass0 (pa_cons (pv 2) pa_nil)) (pg_tup_ K rfl rfl (n := 2) (pgs_cons (pg_name (i := 4) nd rfl (Or.inl rfl)) (pgs_cons (pg_name (i := 5) nd rfl (Or.inl rfl)) pgs_nil))))))))))))
      (pss_one (ps_if (pt_cmpR op_eq (pv 1) (pe_gint T.i_INDEX) (nomark _)) (pss_one (ps_expr (pe_meth0 (pv 0) T.c_LeafReader T.m_LeafReader_check_entries (ok_LeafReader_check_entries T) (hr.mono (by decide)) T.b_LeafReader_check_entries .nil pass0))) (pss_one (ps_if (pt_cmpR op_eq (pv 1) (pe_gint T.i_END) (nomark _)) (pss_one (ps_expr (pe_meth (pv 0) T.c_LeafReader T.m_LeafReader_check_end (ok_LeafReader_check_end T) (hr.mono (by decide)) T.b_LeafReader_check_end .nil pass0 (pa_cons (pv 4) (pa_cons (pv 5) pa_nil))))) pss_nil)))))), ?_⟩
  -- the tags' list behind this leaf, where it is no tags' leaf
  have htags : 0 < n → l.kind ≠ 1 → cTags.R (out (Un2 M X) H) d.tv (if 1 < n + 1 then p.2.2.2 else []) := fun hn h1 => by
    have ht := L.tags
    rw [if_pos (by omega)]
    by_cases c : 1 < n
    · rw [if_pos c] at ht
      exact ht
    · rw [if_neg c] at ht
      have hn1 : n = 1 := by omega
      have hz : p.2.2.2 = [] := by
        cases e : p.2.2.2 with
        | nil => rfl
        | cons a b => exact absurd (k1.mpr ⟨hn1, by rw [e]; simp⟩) h1
      rw [hz]
      exact ht
  refine ⟨_, rfl, rfl, _, rfl, ?_⟩
  by_cases c0 : l.kind = 0
  · have hn0 := k0.mp c0
    subst hn0
    have hlb : l.body = headB p.1 p.2.1 (rowsOf p.2.2.1) := by
      have h1 := F.head
      rw [hl] at h1
      rw [Option.some.inj h1]
      rfl
    have hrl := rows_ok ok
    rw [hlb] at hb'
    refine ifT (bl_t (congrArg V.int c0)) ?_
    refine ⟨_, rfl, b, p.1, p.2.1, rowsOf p.2.2.1, rfl, hb', ok.ticks, ok.skip, by omega, fun r hr => ?_, fun H1 v s1 hv => ?_⟩
    · obtain ⟨tr, htr, rfl⟩ := List.mem_map.mp hr
      have o := ok.tracks tr htr
      have := o.units.1
      exact ⟨o.name, o.kind, by show 0 ≤ ((tr.2.2.length : Nat) : Int); omega, by show ((tr.2.2.length : Nat) : Int) ≤ 300; omega⟩
    refine ⟨_, rfl, r, _, d.dx, _, rfl, s1 _ _ L.ob, T.c_LeafReader, T.a_LeafReader_head, by show 11 < 1000; decide, ?_⟩
    unfold LD.fl
    rw [pLR_head]
    obtain ⟨t0, x1, x2, x3, rfl, h0, rfl, rfl, ⟨ra, rvs, rfl, hra, hrp⟩⟩ := id hv
    -- what the call made stands apart from the reader
    have hrr : H r = _ := L.ob
    have old2 : ∀ a o, H a = some o → a ≠ r → upd H1 r (.ins (ga K "LeafReader") d.dx (flLR (.ref d.da) (.int (encF (List.take 0 (fileL stamp p inE od))).length) (.int sc) (.int ((0 : Nat) : Int)) (.int st) (.int (lastK (fileL stamp p inE od) 0)) (.ref t0) d.tv d.ev d.uv (.ref d.pl))) a = some o := fun a o h ne => (upd_ne ne).trans (s1 _ _ h)
    have new2 : ∀ a o, fresh' H H1 a = some o → H a = none ∧ upd H1 r (.ins (ga K "LeafReader") d.dx (flLR (.ref d.da) (.int (encF (List.take 0 (fileL stamp p inE od))).length) (.int sc) (.int ((0 : Nat) : Int)) (.int st) (.int (lastK (fileL stamp p inE od) 0)) (.ref t0) d.tv d.ev d.uv (.ref d.pl))) a = some o := fun a o h => by
      unfold fresh' at h
      split at h
      · rename_i e
        exact ⟨e, (upd_ne fun z => by rw [z, hrr] at e; cases e).trans h⟩
      · cases h
    have ob2 : upd H1 r (.ins (ga K "LeafReader") d.dx (flLR (.ref d.da) (.int (encF (List.take 0 (fileL stamp p inE od))).length) (.int sc) (.int ((0 : Nat) : Int)) (.int st) (.int (lastK (fileL stamp p inE od) 0)) (.ref t0) d.tv d.ev d.uv (.ref d.pl))) r = some (.ins (ga K "LeafReader") d.dx (flLR (.ref d.da) (.int (encF (List.take 0 (fileL stamp p inE od))).length) (.int sc) (.int ((0 : Nat) : Int)) (.int st) (.int (lastK (fileL stamp p inE od) 0)) (.ref t0) d.tv d.ev d.uv (.ref d.pl))) := upd_same
    generalize upd H1 r (.ins (ga K "LeafReader") d.dx (flLR (.ref d.da) (.int (encF (List.take 0 (fileL stamp p inE od))).length) (.int sc) (.int ((0 : Nat) : Int)) (.int st) (.int (lastK (fileL stamp p inE od) 0)) (.ref t0) d.tv d.ev d.uv (.ref d.pl))) = H2 at old2 new2 ob2
    have ht2 := (new2 _ _ h0).2
    have hra2 := (new2 _ _ hra).2
    have hrvl : rvs.length = p.2.2.1.length := by rw [hrp.length, rowsOf, List.length_map]
    refine ⟨_, rfl, r, _, d.dx, _, _, rfl, ob2, T.c_LeafReader, T.a_LeafReader_head, gLR_head _ _ _ _ _ _ _ _ _ _ _, _, _, _, _, rfl, rfl, SqT.of ht2, atI_nat (j := 2) rfl, ra, rfl, ⟨_, SqL.of hra2⟩, fun D hD => lc_list (K := K) (a := ra) (xs := rvs) (fun j H3 => ∃ uls : List Addr, Same H2 H3 ∧ H3 D = some (.lst (uls.map V.ref)) ∧ uls.length = j ∧ uls.Nodup ∧ ∀ u ∈ uls, H2 u = none ∧ u ≠ D ∧ H3 u = some (.lst []))
      ⟨[], Same.new hD, upd_same, rfl, List.nodup_nil, fun u h => by (cases h)⟩ (fun j H3 _ ⟨uls, s3, _⟩ => SqL.of (s3 _ _ hra2)) ?_ ?_⟩
    · rintro j x H3 hj ⟨uls, s3, hD3, hul, hnd, hall⟩
      have hjl := lt_of_at hj
      refine ⟨rfl, Nat.zero_le _, fun u nu => ⟨_, upd_keep hD3 nu, lsz' (by rw [List.length_map]; omega), uls ++ [u], (s3.add nu).mut hD, ?_, by simp [hul], ?_, fun a ha => ?_⟩⟩
      · rw [upd_same, List.map_append]
        rfl
      · rw [List.nodup_append]
        refine ⟨hnd, by simp, fun a ha b hb e => ?_⟩
        rw [List.mem_singleton] at hb
        subst e hb
        have := (hall _ ha).2.2
        rw [nu] at this
        cases this
      · rcases List.mem_append.mp ha with ha | ha
        · obtain ⟨q1, q2, q3⟩ := hall a ha
          exact ⟨q1, q2, (upd_ne q2).trans (upd_keep q3 nu)⟩
        · rw [List.mem_singleton] at ha
          subst ha
          have nD : a ≠ D := (ne_of_none hD3 nu).symm
          exact ⟨s3.free nu, nD, (upd_ne nD).trans upd_same⟩
    rintro H3 ⟨uls, s3, hD3, hul, hnd, hall⟩
    refine ⟨_, rfl, r, _, d.dx, _, rfl, s3 _ _ ob2, T.c_LeafReader, T.a_LeafReader_units, by show 11 < 1000; decide, ?_⟩
    rw [pLR_units]
    refine ⟨_, rfl, rfl, _, rfl, ifF (bl_f fun z => by have := V.int.inj z; omega) ⟨_, rfl, rfl, _, rfl, ifF (bl_f fun z => by have := V.int.inj z; omega) ?_⟩⟩
    have hf2 : ∀ a, H2 a = none → H a = none := fun a h => by
      cases e : H a with
      | none => rfl
      | some o =>
        by_cases z : a = r
        · rw [z, ob2] at h; cases h
        · rw [old2 a o e z] at h; cases h
    have nDr : D ≠ r := fun z => by rw [z, ob2] at hD; cases hD
    have nur : ∀ u ∈ uls, u ≠ r := fun u hu z => by
      have := (hall u hu).1
      rw [z, ob2] at this; cases this
    have fr : Fr H M (upd H3 r (.ins (ga K "LeafReader") d.dx (({ d with hv := .ref t0, uv := .ref D, uls := uls } : LD).fl (fileL stamp p inE od) 0 sc st))) (fun a => M a ∨ a ∈ uls) := by
      refine ⟨fun a o h nM => ?_, fun a h => ?_⟩
      · have ne : a ≠ r := fun z => nM (by rw [z]; exact L.mr)
        exact (upd_ne ne).trans (s3 _ _ (old2 a o h ne))
      · rcases h with h | h
        · exact .inl h
        · exact .inr (hf2 a (hall a h).1)
    have nZ : ∀ a, H a = none → a ∉ uls → ¬ Un2 (fun a => M a ∨ a ∈ uls) X a := fun a h1 h2 z => by
      rcases z with (z | z) | z
      · exact L.md a z h1
      · exact h2 z
      · exact (L.xd a z).2 h1
    have sn : Same (fresh' H H1) (out (Un2 (fun a => M a ∨ a ∈ uls) X) (upd H3 r (.ins (ga K "LeafReader") d.dx (({ d with hv := .ref t0, uv := .ref D, uls := uls } : LD).fl (fileL stamp p inE od) 0 sc st)))) := fun a o h => by
      obtain ⟨q1, q2⟩ := new2 a o h
      have ne : a ≠ r := fun z => by rw [z, hrr] at q1; cases q1
      refine out_of ((upd_ne ne).trans (s3 _ _ q2)) (nZ a q1 fun z => ?_)
      rw [(hall a z).1] at q2; cases q2
    have npl : d.pl ≠ r := fun z => by
      have := L.pl
      rw [z, L.ob] at this
      cases this
    refine k _ (fun a => M a ∨ a ∈ uls) { d with hv := .ref t0, uv := .ref D, uls := uls } fr ⟨upd_same, .inl L.mr, fun a h => ?_, fun a h => ?_, L.data.mono fr.same, .inl L.mp, (upd_ne npl).trans (s3 _ _ (old2 _ _ L.pl npl)), by have := L.pln; show d.kvs.length ≤ 1; omega, fun i l2 h1 g2 g3 g4 g5 => ?_, ?_, fun _ => cHead.mono sn hv, fun _ => ?_⟩
    · obtain ⟨q1, q2⟩ := L.xd a h
      have ne : a ≠ r := fun z => q1 (by rw [z]; exact L.mr)
      cases e : H a with
      | none => exact absurd e q2
      | some o =>
        refine ⟨fun z => ?_, ?_⟩
        · rcases z with z | z
          · exact q1 z
          · exact q2 (hf2 a (hall a z).1)
        · rw [upd_ne ne, s3 _ _ (old2 a o e ne)]; simp
    · by_cases e1 : a = r
      · rw [e1, upd_same]; simp
      · rw [upd_ne e1]
        rcases h with h | h
        · cases e : H a with
          | none => exact absurd e (L.md a h)
          | some o => rw [s3 _ _ (old2 a o e e1)]; simp
        · rw [(hall a h).2.2]; simp
    · have : i = 0 := by omega
      subst this
      rw [hl] at g2
      cases g2
      exact absurd g3 hk2
    · exact cTags.mono fr.same L.tags
    · refine ⟨D, rfl, out_of ((upd_ne nDr).trans hD3) (nZ D (hf2 D hD) fun z => (hall D z).2.1 rfl), hnd, by show uls.length = _; rw [hul, hrvl], fun j u hj => ?_⟩
      have hu := List.mem_of_getElem? hj
      refine ⟨.inr hu, [], (upd_ne (nur u hu)).trans (hall u hu).2.2, ?_⟩
      have e1 : (fileL stamp p inE od).take (0 + 1) = [] ++ [l] := by rw [take_snoc hl]; rfl
      rw [e1, mineK_snoc_kind hk2]
      exact .nil
  refine ifF (bl_f fun z => c0 (V.int.inj z)) ?_
  have hn : 0 < n := by
    rcases Nat.eq_zero_or_pos n with z | z
    · exact absurd (k0.mpr z) c0
    · exact z
  refine ⟨_, rfl, rfl, _, rfl, ?_⟩
  by_cases c1 : l.kind = 1
  · refine ifT (bl_t (congrArg V.int c1)) ?_
    obtain ⟨hn1, hpos⟩ := k1.mp c1
    have hlb : l.body = tagsBody p.2.2.2 := by
      have h1 := F.tags1 hpos
      rw [← hn1, hl] at h1
      rw [Option.some.inj h1]
      rfl
    rw [hlb] at hb'
    refine ⟨_, rfl, b, p.2.2.2, rfl, hb', ok.tags, hpos, fun H1 v s1 hv => ?_⟩
    refine ⟨_, rfl, r, _, d.dx, _, rfl, s1 _ _ L.ob, T.c_LeafReader, T.a_LeafReader_tags, by show 11 < 1000; decide, ?_⟩
    unfold LD.fl
    rw [pLR_tags]
    refine ⟨_, rfl, rfl, _, rfl, ifF (bl_f fun z => by have := V.int.inj z; omega) ⟨_, rfl, rfl, _, rfl, ifF (bl_f fun z => by have := V.int.inj z; omega) ?_⟩⟩
    exact k _ M { d with tv := v, ev := d.ev } ((Fr.of s1).upd L.mr) ((L.same s1).leaf hn hl hk2 v d.ev (by rw [if_pos (by omega)]; exact cTags.mono (L.fresh H1) hv))
  refine ifF (bl_f fun z => c1 (V.int.inj z)) ?_
  refine ⟨_, rfl, rfl, _, rfl, ?_⟩
  have hpl := preL_len stamp p
  have hml := mainL_len (stamp := stamp) (p := p) (od := od)
  have hil := idxL_len (stamp := stamp) (p := p) (inE := inE) (od := od)
  by_cases c3 : l.kind = 3
  · refine ifT (bl_t (congrArg V.int c3)) ?_
    have hln := k3.mp c3
    have hlb : l.body = idxB (fndL stamp p inE od) := by
      rcases fileL_get hl with ⟨q, _⟩ | ⟨j, e, he, hk, _⟩ | ⟨_, e⟩ | ⟨q, _⟩
      · omega
      · have := lt_of_at he
        omega
      · rw [e]; rfl
      · omega
    have hE := fndL_ent O (stamp := stamp) hg
    have hfo := fndL_ok ok O hs inE od.length
    rw [List.take_length] at hfo
    have hfn := fndL_len (stamp := stamp) (p := p) (inE := inE) (od := od)
    have hol := O.len
    rw [hlb] at hb'
    refine ⟨_, rfl, b, fndL stamp p inE od, rfl, hb', by omega, hfo, fun H1 v s1 hv => ?_⟩
    refine ⟨_, rfl, r, _, d.dx, _, rfl, s1 _ _ L.ob, T.c_LeafReader, T.a_LeafReader_entries, by show 11 < 1000; decide, ?_⟩
    unfold LD.fl
    rw [pLR_entries]
    refine ⟨_, rfl, rfl, _, rfl, ifT (bl_t (congrArg V.int c3)) ?_⟩
    have L2 := (L.same s1).leaf hn hl hk2 d.tv v (cTags.mono (out_mono s1) (htags hn c1))
    have hv2 : (cL c3i).R (out (Un2 M X) (upd H1 r (.ins (ga K "LeafReader") d.dx ({ d with tv := d.tv, ev := v }.fl (fileL stamp p inE od) n sc st)))) v (fndL stamp p inE od) := by
      rw [out_upd (.inl L.mr)]
      exact (cL c3i).mono (L.fresh H1) hv
    refine ⟨_, rfl, r, d.dx, _, rfl, L2.ob, nLR_check_entries _ _ _ _ _ _ _ _ _ _ _, p, _, M, X, r, n, n + 1, sc, st, _, _, rfl, L2, hv2, ⟨fun x hx => ?_, hE.rise⟩, by omega, fun H3 s3 => ?_⟩
    · obtain ⟨i, l2, q1, q2⟩ := hE.each x hx
      exact ⟨i, l2, by omega, q2⟩
    · exact k _ M { d with tv := d.tv, ev := v } (((Fr.of s1).upd L.mr).add s3) (L2.same s3)
  · have c4 : l.kind = 4 := by
      have hw := F.wf l (List.mem_of_getElem? hl)
      have := hw.kind
      omega
    refine ifF (bl_f fun z => c3 (V.int.inj z)) ?_
    have hln := k4.mp c4
    have hni : n = (idxL stamp p inE od).length := by omega
    have hlb : l.body = endB (n + 1) (crc (encF (idxL stamp p inE od))).toNat := by
      rcases fileL_get hl with ⟨q, _⟩ | ⟨j, e, he, hk, _⟩ | ⟨q, _⟩ | ⟨_, e⟩
      · omega
      · have := lt_of_at he
        omega
      · omega
      · rw [e]; rfl
    have htk : (fileL stamp p inE od).take n = idxL stamp p inE od := by rw [fileL, hni, List.take_left]
    have h32 := crc32 (encF_bytes (idxL_wf ok O hs inE))
    unfold W32 at h32
    rw [hlb] at hb'
    refine ⟨_, rfl, b, n + 1, (crc (encF (idxL stamp p inE od))).toNat, rfl, hb', by have := F.len; omega, by omega, fun H1 v s1 hv => ?_⟩
    obtain ⟨t, y1, y2, rfl, ht, rfl, rfl⟩ := cPair.mono (fresh_sub _ _) hv
    have L1 := L.same s1
    refine ⟨t, _, rfl, SqT.of ht, rfl, _, _, rfl, _, _, rfl, rfl, ?_⟩
    refine ⟨_, rfl, rfl, _, rfl, ifF (bl_f fun z => c3 (V.int.inj z)) ⟨_, rfl, rfl, _, rfl, ifT (bl_t (congrArg V.int c4)) ?_⟩⟩
    refine ⟨_, rfl, r, d.dx, _, rfl, L1.ob, nLR_check_end _ _ _ _ _ _ _ _ _ _ _, _, rfl, _, rfl, p, _, M, X, r, n, n, sc, st, d, _, rfl, L1, ok, hn, ?_, fun j t ht => mine_all F ht fun i l2 hi hl2 => ?_, fun H3 s3 => ?_⟩
    · rw [htk]
      show (((crc (encF (idxL stamp p inE od))).toNat : Nat) : Int) = _
      omega
    · have hi2 := lt_of_at hl2
      have : i = n := by omega
      subst this
      rw [hl] at hl2
      cases hl2
      exact hk2
    · have L3 := (L1.same s3).leaf hn hl hk2 d.tv d.ev (cTags.mono (out_mono (s1.trans s3)) (htags hn c1))
      rw [upd_self (L1.same s3).ob] at L3
      exact k _ M d ((Fr.of s1).add s3) L3
end
end Sp
namespace Sp
open PySem PySem.Spec PyProof.Rows L2
def c5i : Cd (Int × Int × Int × Int × Int) where
  R := fun H v x => ∃ t, v = .ref t ∧ H t = some (.tup [.int x.1, .int x.2.1, .int x.2.2.1, .int x.2.2.2.1, .int x.2.2.2.2])
  d := fun x => .tuple [.int x.1, .int x.2.1, .int x.2.2.1, .int x.2.2.2.1, .int x.2.2.2.2]
  ok := fun _ => True
  n := 1
  mono := fun s ⟨t, e, h⟩ => ⟨t, e, s _ _ h⟩
  dp := fun ⟨t, e, h⟩ => by
    subst e
    exact .tup (SqT.of h) (.cons (.int _) (.cons (.int _) (.cons (.int _) (.cons (.int _) (.cons (.int _) .nil)))))
  lay := fun _ => rfl
  dep := fun x => by simp [PyData.depth, PyData.depthAll]
theorem plain_fields {stamp : Int} {p : Pr} {inE : Int × Int → Bool} {od : List (Int × Int)} {k : Nat} {l : Leaf} (h : (fileL stamp p inE od)[k]? = some l) (h2 : l.kind ≠ 2) : l.track = 0 ∧ l.ordinal = 0 ∧ l.time = 0 ∧ l.span = 0 ∧ l.key = 0 := by
  rcases fileL_get h with ⟨c, h⟩ | ⟨j, e, he, rfl, rfl⟩ | ⟨e, rfl⟩ | ⟨e, rfl⟩
  · rcases preL_num stamp p k l h with ⟨rfl, rfl⟩ | ⟨rfl, c, rfl⟩ <;> exact ⟨rfl, rfl, rfl, rfl, rfl⟩
  · exact absurd rfl h2
  · exact ⟨rfl, rfl, rfl, rfl, rfl⟩
  · exact ⟨rfl, rfl, rfl, rfl, rfl⟩
def stK (stamp : Int) (k : Nat) : Int := if k = 0 then 0 else stamp
section
variable {P : Program} {w : World} {K : PySem.W.Frag} {mg : Str → Option Value} {base : Heap}
def spCl (K : PySem.W.Frag) : Sp := fun vs H Q _ => ∃ (stamp : Int) (p : Pr) (od : List (Int × Int)) (inE : Int × Int → Bool) (M X : Addr → Prop) (r : Addr) (k : Nat) (sc : Int) (d : LD) (v : V) (l : Leaf), vs = [.ref r, v] ∧ LR (ga K "LeafReader") p (fileL stamp p inE od) H M X r k k sc (stK stamp k) d ∧
  OkPr p ∧ Order (lensOf p.2.2.1) od ∧ (∀ e, inE e = true → GoodE (keysOf p.2.2.1) e) ∧ (0 ≤ stamp ∧ stamp ≤ 4294967295) ∧ cLeaf.R (out (Un2 M X) H) v l ∧ (fileL stamp p inE od)[k]? = some l ∧
  ∀ H' M' d', Fr H M H' M' → LR (ga K "LeafReader") p (fileL stamp p inE od) H' M' X r k (k + 1) sc stamp d' → Q .non H'
theorem ok_LeafReader_check_leaf (T : Txt K mg) : FnOk P w K mg base CX0 7 (ma K (ga K "LeafReader") "check_leaf") (fdAt K (ma K (ga K "LeafReader") "check_leaf")) ["self", "leaf"] (spCl K) := by
  refine okD T.F_LeafReader_check_leaf sc_LeafReader_check_leaf (fun vs H Q E h => ?_) (fun cdv A outer s H vs Q E hr h => ?_)
  · obtain ⟨_, _, _, _, _, _, _, _, _, _, _, _, rfl, _⟩ := h
    rfl
  obtain ⟨stamp, p, od, inE, M, X, r, n, sc, d, v, l, rfl, L, ok, O, hg, hs, hv, hl, k⟩ := h
  have nd := sc_LeafReader_check_leaf.nd
  obtain ⟨k0, k1, k3, k4⟩ := kind_at hl
  have F := fileL_ff ok O hs inE
  have hlm := List.mem_of_getElem? hl
  have hst := F.st l hlm
  have hnum := F.num n l hl
  obtain ⟨lt, lb, rfl, hlt, hlb⟩ := id hv
  have hlt' := out_sub _ _ _ _ hlt
  refine ⟨_, ((pss_cons (ps_asg (pv 1) (pg_tup_ K rfl rfl (n := 9) (pgs_cons (pg_name (i := 2) nd rfl (Or.inl rfl)) (pgs_cons (pg_name (i := 3) nd rfl (Or.inl rfl)) (pgs_cons (pg_name (i := 4) nd rfl (Or.inl rfl)) (pgs_cons (pg_name (i := 5) nd rfl (Or.inl rfl)) (pgs_cons (pg_name (i := 6) nd rfl (Or.inl rfl)) (pgs_cons (pg_name (i := 7) nd rfl (Or.inl rfl)) (pgs_cons (pg_name (i := 8) nd rfl (Or.inl rfl)) (pgs_cons (pg_name (i := 9) nd rfl (Or.inl rfl)) (pgs_cons (pg_name (i := 10) nd rfl (Or.inl rfl)) pgs_nil)))))))))))
      (pss_cons (ps_if (pt_cmpR op_eq (pe_fld (pv 0) rfl) pe_int (nomark _)) (pss_one (ps_fld (pv 0) (pv 3) rfl)) pss_nil)
      (pss_cons (ps_if (pt_cmpR op_ne (pv 3) (pe_fld (pv 0) rfl) (nomark _)) (pss_one ps_never) pss_nil)
      (pss_cons (ps_if (pt_cmpR op_ne (pv 4) (pe_fld (pv 0) rfl) (nomark _)) (pss_one ps_never) pss_nil)
      (pss_cons (ps_if (pt_notC (pt_val (pe_meth (pv 0) T.c_LeafReader T.m_LeafReader_is_in_order (ok_LeafReader_is_in_order T) (hr.mono (by decide)) T.b_LeafReader_is_in_order .nil pass0 (pa_cons (pv 2) pa_nil)))) (pss_one ps_never) pss_nil)
      (pss_one (ps_if (pt_cmpR op_eq (pv 2) (pe_gint T.i_UNIT) (nomark _)) (pss_one (ps_expr (pe_meth (pv 0) T.c_LeafReader T.m_LeafReader_check_unit (ok_LeafReader_check_unit T) (hr.mono (by decide)) T.b_LeafReader_check_unit .nil pass0 (pa_cons (pv 1) pa_nil)))) (pss_cons (ps_if (pt_cmpR (op_neD hr.units) (pe_tup (pa_cons (pv 5) (pa_cons (pv 6) (pa_cons (pv 7) (pa_cons (pv 8) (pa_cons (pv 9) pa_nil)))))) (pe_tup (pa_cons pe_int (pa_cons pe_int (pa_cons pe_int (pa_cons pe_int (pa_cons pe_int pa_nil)))))) (nomark _)) (pss_one ps_never) pss_nil)
        (pss_one (ps_expr (pe_meth (pv 0) T.c_LeafReader T.m_LeafReader_check_body (ok_LeafReader_check_body T) (hr.mono (by decide)) T.b_LeafReader_check_body .nil pass0 (pa_cons (pv 2) (pa_cons (pv 10) pa_nil)))))))))))))), ?_⟩
  refine ⟨_, rfl, lt, _, rfl, SqT.of hlt', rfl, _, _, rfl, _, _, rfl, _, _, rfl, _, _, rfl, _, _, rfl, _, _, rfl, _, _, rfl, _, _, rfl, _, _, rfl, rfl, ?_⟩
  dsimp only
  refine seq_mid (t := tIfS _ _ _) (fun σ' H' => σ' = [some (.ref r), some (.ref lt), some (.int l.kind), some (.int l.stamp), some (.int l.number), some (.int l.track), some (.int l.ordinal), some (.int l.time), some (.int l.span), some (.int l.key), some (.ref lb)] ∧ LR (ga K "LeafReader") p (fileL stamp p inE od) H' M X r n n sc stamp d ∧ Fr H M H' M) (fun nx hnx => ?_) ?_
  · have ob := L.ob
    refine ⟨_, rfl, r, _, d.dx, _, _, rfl, ob, T.c_LeafReader, T.a_LeafReader_count, gLR_count _ _ _ _ _ _ _ _ _ _ _, rfl, _, rfl, ?_⟩
    by_cases c : n = 0
    · refine ifT (bl_t (congrArg V.int (by omega))) ⟨_, rfl, _, rfl, r, _, d.dx, _, rfl, ob, T.c_LeafReader, T.a_LeafReader_stamp, by show 11 < 1000; decide, ?_⟩
      unfold LD.fl
      rw [pLR_stamp, hst]
      exact hnx _ _ ⟨by rw [← hst]; rfl, L.setr n sc stamp, (Fr.refl H M).upd L.mr⟩
    · refine ifF (bl_f fun z => by have := V.int.inj z; omega) (hnx _ _ ⟨rfl, ?_, Fr.refl H M⟩)
      rw [stK, if_neg c] at L
      exact L
  rintro _ H1 ⟨rfl, L1, fr1⟩
  have hv1 := cLeaf.mono (fr1.same (X := X)) hv
  have ob1 := L1.ob
  refine ⟨_, rfl, _, rfl, r, _, d.dx, _, _, rfl, ob1, T.c_LeafReader, T.a_LeafReader_stamp, gLR_stamp _ _ _ _ _ _ _ _ _ _ _, rfl, _, rfl, ifF (nb_f (congrArg V.int hst)) ?_⟩
  refine ⟨_, rfl, _, rfl, r, _, d.dx, _, _, rfl, ob1, T.c_LeafReader, T.a_LeafReader_count, gLR_count _ _ _ _ _ _ _ _ _ _ _, rfl, _, rfl, ifF (nb_f (congrArg V.int hnum)) ?_⟩
  refine ⟨_, rfl, r, d.dx, _, rfl, ob1, nLR_is_in_order _ _ _ _ _ _ _ _ _ _ _, _, rfl, stamp, p, od, inE, M, X, r, n, n, sc, stamp, d, l, rfl, L1, hl, _, rfl, ?_⟩
  refine ⟨_, rfl, rfl, _, rfl, ?_⟩
  by_cases c2 : l.kind = 2
  · have hn : 0 < n := by
      rcases Nat.eq_zero_or_pos n with z | z
      · have := k0.mpr z
        omega
      · exact z
    obtain ⟨j, m, t, u, U⟩ := uat_of F hl c2
    refine ifT (bl_t (congrArg V.int c2)) ?_
    refine ⟨_, rfl, r, d.dx, _, rfl, ob1, nLR_check_unit _ _ _ _ _ _ _ _ _ _ _, _, rfl, stamp, p, od, _, M, X, r, n, sc, stamp, d, _, l, j, m, t, u, rfl, L1, F, ok, hn, hv1, hl, c2, U, fun H2 d2 fr2 L2 => ?_⟩
    exact k H2 M d2 (fr1.trans fr2) L2
  · obtain ⟨z1, z2, z3, z4, z5⟩ := plain_fields hl c2
    refine ifF (bl_f fun z => c2 (V.int.inj z)) ?_
    refine ⟨_, rfl, _, rfl, _, rfl, _, rfl, _, rfl, lsz (by simp), fun y ny => ⟨lsz (by simp), fun z nz => ?_⟩⟩
    refine neD_same (c := c5i) (x := (0, 0, 0, 0, 0)) ⟨y, rfl, ?_⟩ ⟨z, rfl, upd_same⟩ trivial ⟨_, rfl, ?_⟩
    · have e : HO.tup [.int l.track, .int l.ordinal, .int l.time, .int l.span, .int l.key] = HO.tup [.int 0, .int 0, .int 0, .int 0, .int 0] := by rw [z1, z2, z3, z4, z5]
      exact (upd_keep upd_same nz).trans (congrArg some e)
    have s2 : Same H1 _ := (Same.new (o := .tup [.int l.track, .int l.ordinal, .int l.time, .int l.span, .int l.key]) ny).add (o := .tup [.int 0, .int 0, .int 0, .int 0, .int 0]) nz
    have L2 := L1.same s2
    have hlb2 : Li (out (Un2 M X) _) lb l.body := (hlb.mono (fr1.same (X := X))).mono (out_mono s2)
    refine ⟨_, rfl, r, d.dx, _, rfl, L2.ob, nLR_check_body _ _ _ _ _ _ _ _ _ _ _, _, rfl, _, rfl, stamp, p, od, inE, M, X, r, n, sc, stamp, d, lb, l, rfl, L2, ok, O, hg, hs, hlb2, hl, c2, fun H3 M3 d3 fr3 L3 => ?_⟩
    exact k H3 M3 d3 ((fr1.add s2).trans fr3) L3
end
end Sp
namespace Sp
open PySem PySem.Spec PyProof.Rows L2
theorem data_at {ls : List Leaf} {k : Nat} {l : Leaf} (h : ls[k]? = some l) : (∀ j x, (piece l)[j]? = some x → (encF ls)[(encF (ls.take k)).length + j]? = some x) ∧ (encF ls)[(encF (ls.take k)).length + (piece l).length]? = some 0 ∧
    ((encF ls).drop (encF (ls.take k)).length).take (piece l).length = piece l ∧ (encF (ls.take k)).length + (piece l).length < (encF ls).length := by
  have e := encF_at h
  refine ⟨fun j x hx => ?_, ?_, ?_, ?_⟩
  · rw [e, List.getElem?_append_right (by omega), Nat.add_sub_cancel_left, List.getElem?_append_left (lt_of_at hx)]
    exact hx
  · rw [e, List.getElem?_append_right (by omega), Nat.add_sub_cancel_left, List.getElem?_append_right (Nat.le_refl _), Nat.sub_self]
    rfl
  · rw [e, List.drop_left, List.take_left]
  · have := congrArg List.length e
    rw [List.length_append, List.length_append, List.length_cons] at this
    omega
section
variable {P : Program} {w : World} {K : PySem.W.Frag} {mg : Str → Option Value} {base : Heap}
def spNl (K : PySem.W.Frag) : Sp := fun vs H Q _ => ∃ (stamp : Int) (p : Pr) (od : List (Int × Int)) (inE : Int × Int → Bool) (M X : Addr → Prop) (r : Addr) (k : Nat) (d : LD), vs = [.ref r] ∧ LR (ga K "LeafReader") p (fileL stamp p inE od) H M X r k k ((encF ((fileL stamp p inE od).take k)).length : Int) (stK stamp k) d ∧
  OkPr p ∧ Order (lensOf p.2.2.1) od ∧ (∀ e, inE e = true → GoodE (keysOf p.2.2.1) e) ∧ (0 ≤ stamp ∧ stamp ≤ 4294967295) ∧ k ≤ (fileL stamp p inE od).length ∧
  (k = (fileL stamp p inE od).length → Q .non H) ∧
  ∀ H' M' d' v l, Fr H M H' M' → (fileL stamp p inE od)[k]? = some l → LR (ga K "LeafReader") p (fileL stamp p inE od) H' M' X r (k + 1) (k + 1) ((encF ((fileL stamp p inE od).take (k + 1))).length : Int) (stK stamp (k + 1)) d' → cLeaf.R (out (Un2 M' X) H') v l → Q v H'
theorem ok_LeafReader_next_leaf (T : Txt K mg) : FnOk P w K mg base CX0 8 (ma K (ga K "LeafReader") "next_leaf") (fdAt K (ma K (ga K "LeafReader") "next_leaf")) ["self"] (spNl K) := by
  refine okD T.F_LeafReader_next_leaf sc_LeafReader_next_leaf (fun vs H Q E h => ?_) (fun cdv A outer s H vs Q E hr h => ?_)
  · obtain ⟨_, _, _, _, _, _, _, _, _, rfl, _⟩ := h
    rfl
  obtain ⟨stamp, p, od, inE, M, X, r, n, d, rfl, L, ok, O, hg, hs, hn, kend, k⟩ := h
  have nd := sc_LeafReader_next_leaf.nd
  have F := fileL_ff ok O hs inE
  have hda := L.data.mono (out_sub _ _)
  have hpos := encF_pos (fileL stamp p inE od)
  refine ⟨_, ((pss_cons (ps_if (PW.pt (pw_and (pt_cmpR op_gt (pe_callB (lenS_ K rfl) rfl T.n_len boot_len (pa_cons (pe_fld (pv 0) rfl) pa_nil)) pe_int (nomark _)) (pw_and1 (pt_cmpR op_ne (pe_ix (ixL_ K rfl) (pe_fld (pv 0) rfl) pe_int (fun _ _ => rfl)) pe_int (nomark _))))) (pss_one ps_never) pss_nil)
      (pss_cons (ps_if (pt_cmpR op_eq (pe_fld (pv 0) rfl) (pe_gint T.i_END) (nomark _)) (pss_cons (ps_if (pt_cmpR op_gt (pe_callB (lenS_ K rfl) rfl T.n_len boot_len (pa_cons (pe_fld (pv 0) rfl) pa_nil)) (pe_fld (pv 0) rfl) (nomark _)) (pss_one ps_never) pss_nil)
        (pss_one (ps_ret pe_non))) pss_nil)
      (pss_cons (ps_while PassesOwn.never (PW.pt (pw_and (pt_cmpR op_lt (pe_fld (pv 0) rfl) (pe_callB (lenS_ K rfl) rfl T.n_len boot_len (pa_cons (pe_fld (pv 0) rfl) pa_nil)) (nomark _)) (pw_and1 (pt_cmpR op_ne (pe_ix (ixL_ K rfl) (pe_fld (pv 0) rfl) (pe_fld (pv 0) rfl) (fun _ _ => rfl)) pe_int (nomark _))))) (pss_one (ps_fld (pv 0) (pe_op op_add (pe_fld (pv 0) rfl) pe_int) rfl)))
      (pss_cons (ps_if (pt_cmpR op_ge (pe_fld (pv 0) rfl) (pe_callB (lenS_ K rfl) rfl T.n_len boot_len (pa_cons (pe_fld (pv 0) rfl) pa_nil)) (nomark _)) (pss_one (ps_ret pe_non)) pss_nil)
      (pss_cons (ps_if (pt_cmpR op_eq (pe_fld (pv 0) rfl) (pe_fld (pv 0) rfl) (nomark _)) (pss_one ps_never) pss_nil)
      (pss_cons (ps_set (i := 1) nd rfl (Or.inl rfl) (pe_call (ok_leaf_of T) (hr.mono (by decide)) rfl T.g_leaf_of T.k_leaf_of T.b_leaf_of .nil pass0 (pa_cons (pe_call (ok_unstuffed T) (hr.mono (by decide)) rfl T.g_unstuffed T.k_unstuffed T.b_unstuffed .nil pass0 (pa_cons (pe_slice sl_list (pe_fld (pv 0) rfl) (po_some (pe_fld (pv 0) rfl)) (po_some (pe_fld (pv 0) rfl))) (pa_cons (pe_fld (pv 0) rfl) pa_nil))) (pa_cons (pe_fld (pv 0) rfl) pa_nil))))
      (pss_cons (ps_expr (pe_meth (pv 0) T.c_LeafReader T.m_LeafReader_check_leaf (ok_LeafReader_check_leaf T) (hr.mono (by decide)) T.b_LeafReader_check_leaf .nil pass0 (pa_cons (pv 1) pa_nil)))
      (pss_cons (ps_fld (pv 0) (pe_ix (ixT_ K rfl) (pv 1) pe_int (fun _ _ => rfl)) rfl)
      (pss_cons (ps_fld (pv 0) (pe_op op_add (pe_fld (pv 0) rfl) pe_int) rfl)
      (pss_cons (ps_fld (pv 0) (pe_op op_add (pe_fld (pv 0) rfl) pe_int) rfl)
      (pss_cons (ps_fld (pv 0) (pe_fld (pv 0) rfl) rfl)
      (pss_one (ps_ret (pv 1))))))))))))))), ?_⟩
  have ob := L.ob
  refine ⟨_, rfl, r, _, d.dx, _, _, rfl, ob, T.c_LeafReader, T.a_LeafReader_data, gLR_data _ _ _ _ _ _ _ _ _ _ _, _, _, rfl, .inl hda.sq, _, _, rfl, rfl, _, rfl, yT (by rw [List.length_map]; omega) ?_⟩
  refine ⟨_, rfl, r, _, d.dx, _, _, rfl, ob, T.c_LeafReader, T.a_LeafReader_data, gLR_data _ _ _ _ _ _ _ _ _ _ _, _, _, _, _, rfl, rfl, hda.sq, Li.at (i := 0) (encF_head _), rfl, _, rfl, ifF (nb_f rfl) (nx_mid ?_)⟩
  refine ⟨_, rfl, r, _, d.dx, _, _, rfl, ob, T.c_LeafReader, T.a_LeafReader_last, gLR_last _ _ _ _ _ _ _ _ _ _ _, rfl, _, rfl, ?_⟩
  by_cases hend : n = (fileL stamp p inE od).length
  · have hlen := F.len.2
    obtain ⟨l, hl⟩ : ∃ l, (fileL stamp p inE od)[n - 1]? = some l := ⟨_, List.getElem?_eq_getElem (by omega)⟩
    have h4 : lastK (fileL stamp p inE od) n = 4 := by
      have := lastK_succ hl
      rw [show n - 1 + 1 = n by omega] at this
      rw [this]
      exact (kind_at hl).2.2.2.mpr (by omega)
    refine ifT (bl_t (congrArg V.int h4)) ?_
    refine ⟨_, rfl, r, _, d.dx, _, _, rfl, ob, T.c_LeafReader, T.a_LeafReader_data, gLR_data _ _ _ _ _ _ _ _ _ _ _, _, _, rfl, .inl hda.sq, _, rfl, r, _, d.dx, _, _, rfl, ob, T.c_LeafReader, T.a_LeafReader_at, gLR_at _ _ _ _ _ _ _ _ _ _ _, _, _, rfl, rfl, _, rfl, ?_⟩
    have hnot : ¬ (((encF ((fileL stamp p inE od).take n)).length : Nat) : Int) < ((((encF (fileL stamp p inE od)).map V.int).length : Nat) : Int) := by
      rw [List.take_of_length_le (by omega), List.length_map]
      omega
    refine yF ?_ ?_
    · exact hnot
    exact kend hend
  · have hlt : n < (fileL stamp p inE od).length := by omega
    have hl : (fileL stamp p inE od)[n]? = some (fileL stamp p inE od)[n] := List.getElem?_eq_getElem hlt
    generalize (fileL stamp p inE od)[n] = l at hl
    have wf := F.wf l (List.mem_of_getElem? hl)
    have hpp := piece_pos wf
    have hpi := piece_in wf
    obtain ⟨dd1, dd2, dd3, dd4⟩ := data_at hl
    have h4 : lastK (fileL stamp p inE od) n ≠ 4 := fun z => by
      rcases Nat.eq_zero_or_pos n with q | q
      · rw [lastK, if_pos q] at z
        omega
      · obtain ⟨l2, hl2⟩ : ∃ l2, (fileL stamp p inE od)[n - 1]? = some l2 := ⟨_, List.getElem?_eq_getElem (by omega)⟩
        have := lastK_succ hl2
        rw [show n - 1 + 1 = n by omega, z] at this
        have := (kind_at hl2).2.2.2.mp this.symm
        omega
    refine ifF (bl_f fun z => h4 (V.int.inj z)) (nx_mid ?_)
    have hdax : ∀ a xs, Li H a xs → a ≠ r := fun a xs h z => by
      have h' : H a = _ := h
      rw [z, L.ob] at h'; cases h'
    refine ⟨fun m σ H' => ∃ j : Nat, m = (piece l).length - j ∧ j ≤ (piece l).length ∧ σ = [some (.ref r), none] ∧ H' = upd H r (.ins (ga K "LeafReader") d.dx (d.fl (fileL stamp p inE od) n (((encF ((fileL stamp p inE od).take n)).length : Int) + (j : Int)) (stK stamp n))), ⟨_, 0, rfl, Nat.zero_le _, rfl, ?_⟩, ?_⟩
    · have := L.ob
      rw [show (((encF ((fileL stamp p inE od).take n)).length : Int) + ((0 : Nat) : Int)) = ((encF ((fileL stamp p inE od).take n)).length : Int) by omega]
      exact (upd_self this).symm
    rintro m σ H' ⟨j, rfl, hj, rfl, rfl⟩
    have Lj := L.setr n (((encF ((fileL stamp p inE od).take n)).length : Int) + (j : Int)) (stK stamp n)
    have obj := Lj.ob
    have hdj := Lj.data.mono (out_sub _ _)
    refine ⟨_, rfl, r, _, d.dx, _, _, rfl, obj, T.c_LeafReader, T.a_LeafReader_scan, gLR_scan _ _ _ _ _ _ _ _ _ _ _, _, rfl, r, _, d.dx, _, _, rfl, obj, T.c_LeafReader, T.a_LeafReader_data, gLR_data _ _ _ _ _ _ _ _ _ _ _, _, _, rfl, .inl hdj.sq, _, _, rfl, rfl, _, rfl, ?_⟩
    have hlt2 : (((encF ((fileL stamp p inE od).take n)).length : Int) + (j : Int)) < ((((encF (fileL stamp p inE od)).map V.int).length : Nat) : Int) := by rw [List.length_map]; omega
    refine yT ?_ ?_
    · exact hlt2
    by_cases c : j < (piece l).length
    · have hx : (piece l)[j]? = some (piece l)[j] := List.getElem?_eq_getElem c
      have hx2 := dd1 j _ hx
      have hx1 := hpi _ (List.mem_of_getElem? hx)
      generalize (piece l)[j] = x at hx hx2 hx1
      refine ⟨_, rfl, r, _, d.dx, _, _, rfl, obj, T.c_LeafReader, T.a_LeafReader_data, gLR_data _ _ _ _ _ _ _ _ _ _ _, _, rfl, r, _, d.dx, _, _, rfl, obj, T.c_LeafReader, T.a_LeafReader_scan, gLR_scan _ _ _ _ _ _ _ _ _ _ _, _, _, _, _, rfl, rfl, hdj.sq, at0 (i := (encF ((fileL stamp p inE od).take n)).length + j) (by omega) (by rw [List.getElem?_map, hx2]; rfl), rfl, _, rfl, ifT (nb_t fun z => by have := V.int.inj z; omega) ?_⟩
      refine ⟨_, fun _ _ h => h, ?_⟩
      refine ⟨_, rfl, r, _, d.dx, _, _, rfl, obj, T.c_LeafReader, T.a_LeafReader_scan, gLR_scan _ _ _ _ _ _ _ _ _ _ _, _, _, rfl, rfl, _, rfl, r, _, d.dx, _, rfl, obj, T.c_LeafReader, T.a_LeafReader_scan, by show 11 < 1000; decide, ?_⟩
      unfold LD.fl
      rw [pLR_scan, upd_upd]
      refine ⟨(piece l).length - (j + 1), by omega, j + 1, rfl, c, rfl, ?_⟩
      rw [show (((encF ((fileL stamp p inE od).take n)).length : Int) + ((j + 1 : Nat) : Int)) = ((encF ((fileL stamp p inE od).take n)).length : Int) + (j : Int) + 1 by omega]
    · have hjl : j = (piece l).length := by omega
      subst hjl
      refine ⟨_, rfl, r, _, d.dx, _, _, rfl, obj, T.c_LeafReader, T.a_LeafReader_data, gLR_data _ _ _ _ _ _ _ _ _ _ _, _, rfl, r, _, d.dx, _, _, rfl, obj, T.c_LeafReader, T.a_LeafReader_scan, gLR_scan _ _ _ _ _ _ _ _ _ _ _, _, _, _, _, rfl, rfl, hdj.sq, at0 (i := (encF ((fileL stamp p inE od).take n)).length + (piece l).length) (by omega) (by rw [List.getElem?_map, dd2]; rfl), rfl, _, rfl, ifF (nb_f rfl) ?_⟩
      generalize hHj : upd H r (.ins (ga K "LeafReader") d.dx (d.fl (fileL stamp p inE od) n (((encF ((fileL stamp p inE od).take n)).length : Int) + ((piece l).length : Int)) (stK stamp n))) = Hj at Lj obj hdj
      have frj : Fr H M Hj M := by rw [← hHj]; exact (Fr.refl H M).upd L.mr
      refine ⟨_, rfl, r, _, d.dx, _, _, rfl, obj, T.c_LeafReader, T.a_LeafReader_scan, gLR_scan _ _ _ _ _ _ _ _ _ _ _, _, rfl, r, _, d.dx, _, _, rfl, obj, T.c_LeafReader, T.a_LeafReader_data, gLR_data _ _ _ _ _ _ _ _ _ _ _, _, _, rfl, .inl hdj.sq, _, _, rfl, rfl, _, rfl, ?_⟩
      refine yF ?_ (nx_mid ?_)
      · rw [List.length_map]; omega
      refine ⟨_, rfl, r, _, d.dx, _, _, rfl, obj, T.c_LeafReader, T.a_LeafReader_scan, gLR_scan _ _ _ _ _ _ _ _ _ _ _, _, rfl, r, _, d.dx, _, _, rfl, obj, T.c_LeafReader, T.a_LeafReader_at, gLR_at _ _ _ _ _ _ _ _ _ _ _, rfl, _, rfl, ifF (bl_f fun z => by have := V.int.inj z; omega) (nx_mid ?_)⟩
      refine ⟨_, rfl, r, _, d.dx, _, _, rfl, obj, T.c_LeafReader, T.a_LeafReader_data, gLR_data _ _ _ _ _ _ _ _ _ _ _, ?_⟩
      refine ⟨_, rfl, r, _, d.dx, _, _, rfl, obj, T.c_LeafReader, T.a_LeafReader_at, gLR_at _ _ _ _ _ _ _ _ _ _ _, _, rfl, _, rfl, r, _, d.dx, _, _, rfl, obj, T.c_LeafReader, T.a_LeafReader_scan, gLR_scan _ _ _ _ _ _ _ _ _ _ _, _, rfl, _, _, rfl, hdj.sq, fun z nz => ?_⟩
      have hcut : cutV ((encF (fileL stamp p inE od)).map V.int) (some ((encF ((fileL stamp p inE od).take n)).length : Int)) (some (((encF ((fileL stamp p inE od).take n)).length : Int) + ((piece l).length : Int))) = (piece l).map V.int := by
        rw [show ((encF ((fileL stamp p inE od).take n)).length : Int) + ((piece l).length : Int) = (((encF ((fileL stamp p inE od).take n)).length + (piece l).length : Nat) : Int) by omega, cut_nat (by omega) (by omega) (by omega), Nat.add_sub_cancel_left, dd3]
      rw [hcut]
      have hz : Li (upd Hj z (.lst ((piece l).map V.int))) z (stuff (wr l)) := upd_same
      have s1 : Same Hj (upd Hj z (.lst ((piece l).map V.int))) := Same.new nz
      generalize upd Hj z (.lst ((piece l).map V.int)) = H1 at hz s1
      refine ⟨_, rfl, r, _, d.dx, _, _, rfl, s1 _ _ obj, T.c_LeafReader, T.a_LeafReader_count, gLR_count _ _ _ _ _ _ _ _ _ _ _, z, wr l, _, rfl, hz, wr_bytes wf, by have := wr_len wf; omega, fun y H2 s2 ny hy => ?_⟩
      refine ⟨_, rfl, r, _, d.dx, _, _, rfl, s2 _ _ (s1 _ _ obj), T.c_LeafReader, T.a_LeafReader_count, gLR_count _ _ _ _ _ _ _ _ _ _ _, y, l, _, rfl, hy, wf, fun H3 v s3 hv => ?_⟩
      have S3 := (s1.trans s2).trans s3
      have L3 := Lj.same S3
      have hv3 : cLeaf.R (out (Un2 M X) H3) v l := cLeaf.mono ((fresh_trans (s1.trans s2)).trans (Lj.fresh H3)) hv
      refine ⟨_, rfl, r, d.dx, _, rfl, L3.ob, nLR_check_leaf _ _ _ _ _ _ _ _ _ _ _, _, rfl, stamp, p, od, inE, M, X, r, n, _, d, v, l, rfl, L3, ok, O, hg, hs, hv3, hl, fun H4 M4 d4 fr4 L4 => ?_⟩
      have hv4 := cLeaf.mono (fr4.same (X := X)) hv3
      obtain ⟨lt, lb, rfl, hlt4, hlb4⟩ := id hv4
      have hlt4' := out_sub _ _ _ _ hlt4
      have nlr : lt ≠ r := fun z => out_ne hlt4 (.inl (by rw [z]; exact L4.mr))
      have ob4 := L4.ob
      refine ⟨_, rfl, _, _, _, _, rfl, rfl, SqT.of hlt4', atI_nat (j := 0) rfl, _, rfl, r, _, d4.dx, _, rfl, ob4, T.c_LeafReader, T.a_LeafReader_last, by show 11 < 1000; decide, ?_⟩
      unfold LD.fl
      rw [pLR_last]
      refine ⟨_, rfl, r, _, d4.dx, _, _, rfl, upd_same, T.c_LeafReader, T.a_LeafReader_count, gLR_count _ _ _ _ _ _ _ _ _ _ _, _, _, rfl, rfl, _, rfl, r, _, d4.dx, _, rfl, upd_same, T.c_LeafReader, T.a_LeafReader_count, by show 11 < 1000; decide, ?_⟩
      rw [pLR_count, upd_upd]
      refine ⟨_, rfl, r, _, d4.dx, _, _, rfl, upd_same, T.c_LeafReader, T.a_LeafReader_scan, gLR_scan _ _ _ _ _ _ _ _ _ _ _, _, _, rfl, rfl, _, rfl, r, _, d4.dx, _, rfl, upd_same, T.c_LeafReader, T.a_LeafReader_scan, by show 11 < 1000; decide, ?_⟩
      rw [pLR_scan, upd_upd]
      refine ⟨_, rfl, r, _, d4.dx, _, _, rfl, upd_same, T.c_LeafReader, T.a_LeafReader_scan, gLR_scan _ _ _ _ _ _ _ _ _ _ _, _, rfl, r, _, d4.dx, _, rfl, upd_same, T.c_LeafReader, T.a_LeafReader_at, by show 11 < 1000; decide, ?_⟩
      rw [pLR_at, upd_upd]
      have hnx := encF_next hl
      have e1 : ((encF ((fileL stamp p inE od).take n)).length : Int) + ((piece l).length : Int) + 1 = ((encF ((fileL stamp p inE od).take (n + 1))).length : Int) := by omega
      have L5 : LR (ga K "LeafReader") p (fileL stamp p inE od) (upd H4 r (.ins (ga K "LeafReader") d4.dx (d4.fl (fileL stamp p inE od) (n + 1) ((encF ((fileL stamp p inE od).take (n + 1))).length : Int) stamp))) M4 X r (n + 1) (n + 1) ((encF ((fileL stamp p inE od).take (n + 1))).length : Int) stamp d4 := L4.setr (n + 1) ((encF ((fileL stamp p inE od).take (n + 1))).length : Int) stamp
      have eob : HO.ins (ga K "LeafReader") d4.dx (flLR (.ref d4.da) (.int (((encF ((fileL stamp p inE od).take n)).length : Int) + ((piece l).length : Int) + 1)) (.int (((encF ((fileL stamp p inE od).take n)).length : Int) + ((piece l).length : Int) + 1)) (.int ((n : Int) + 1)) (.int stamp) (.int l.kind) d4.hv d4.tv d4.ev d4.uv (.ref d4.pl)) = HO.ins (ga K "LeafReader") d4.dx (d4.fl (fileL stamp p inE od) (n + 1) ((encF ((fileL stamp p inE od).take (n + 1))).length : Int) stamp) := by
        unfold LD.fl
        rw [e1, lastK_succ hl]
        rfl
      rw [← eob] at L5
      have hst : stK stamp (n + 1) = stamp := if_neg (by omega)
      refine ⟨_, rfl, k _ M4 d4 (.ref lt) l (((frj.add S3).trans fr4).upd L4.mr) hl (by rw [hst]; exact L5) (by rw [out_upd (.inl L4.mr)]; exact hv4)⟩
end
end Sp
namespace Sp
open PySem PySem.Spec PyProof.Rows L2
section
variable {C : Addr} {p : Pr} {ls : List Leaf} {H H' : Hp} {M X : Addr → Prop} {r : Addr} {k k' : Nat} {sc st : Int} {d : LD}
/-- one heap for another: what the reader needs stands -/
theorem LR.move {X' : Addr → Prop} (L : LR C p ls H M X r k k' sc st d) (so : Same (out (Un2 M X) H) (out (Un2 M X') H')) (hM : ∀ a o, M a → H a = some o → H' a = some o) (hx : ∀ a, X' a → ¬ M a ∧ H' a ≠ none) : LR C p ls H' M X' r k k' sc st d := by
  refine ⟨hM _ _ L.mr L.ob, L.mr, hx, fun a h => ?_, L.data.mono so, L.mp, hM _ _ L.mp L.pl, L.pln, fun i l h1 h2 h3 h4 h5 => ?_, cTags.mono so L.tags, fun h => cHead.mono so (L.head h), fun h => ?_⟩
  · cases e : H a with
    | none => exact absurd e (L.md a h)
    | some o => rw [hM a o h e]; simp
  · obtain ⟨v, a, b⟩ := L.plok i l h1 h2 h3 h4 h5
    exact ⟨v, a, cPair.mono so b⟩
  · obtain ⟨ua, a, b, c, e, f⟩ := L.units h
    refine ⟨ua, a, so _ _ b, c, e, fun j u hj => ?_⟩
    obtain ⟨g, ws, h1, h2⟩ := f j u hj
    exact ⟨g, ws, hM _ _ g h1, pmap h2 fun _ _ q => cLeaf.mono so q⟩
/-- a thing of the caller changes -/
theorem LR.updX (L : LR C p ls H M X r k k' sc st d) {x : Addr} {o : HO} (hx : X x) : LR C p ls (upd H x o) M X r k k' sc st d := by
  have n := L.xd x hx
  refine L.move (by rw [out_upd (.inr hx)]; exact Same.refl _) (fun a u h e => (upd_ne fun z => n.1 (by rw [← z]; exact h)).trans e) fun a h => ⟨(L.xd a h).1, ?_⟩
  by_cases e : a = x
  · rw [e, upd_same]; simp
  · rw [upd_ne e]; exact (L.xd a h).2
/-- a new thing of the caller -/
theorem LR.addX (L : LR C p ls H M X r k k' sc st d) {z : Addr} {o : HO} (hz : H z = none) : LR C p ls (upd H z o) M (fun a => X a ∨ a = z) r k k' sc st d := by
  refine L.move (fun a u h => ?_) (fun a u h e => upd_keep e hz) fun a h => ?_
  · have n := out_ne h
    have h1 := out_sub _ _ _ _ h
    refine out_of (upd_keep h1 hz) fun q => ?_
    rcases q with q | q | q
    · exact n (.inl q)
    · exact n (.inr q)
    · rw [q, hz] at h1; cases h1
  · rcases h with h | rfl
    · refine ⟨(L.xd a h).1, ?_⟩
      cases e : H a with
      | none => exact absurd e (L.xd a h).2
      | some u => rw [upd_keep e hz]; simp
    · exact ⟨fun q => L.md _ q hz, by rw [upd_same]; simp⟩
end
abbrev cnt (ls : List Leaf) (k j : Nat) : Nat := (mineK j (ls.take k)).length
/-- the units that a reader has of each track -/
structure Has (p : Pr) (ls : List Leaf) (H : Hp) (Z N : Addr → Prop) (ud : Addr) (us : Nat → Addr) (kvs : List (Key × V)) (k : Nat) : Prop where
  hd : H ud = some (.dK kvs)
  nud : N ud
  len : kvs.length ≤ k
  inj : ∀ i j, 0 < cnt ls k i → 0 < cnt ls k j → us i = us j → i = j
  hnone : ∀ j t, p.2.2.1[j]? = some t → cnt ls k j = 0 → valV kvs (.inl ((j : Int) + 1)) = none
  hsome : ∀ j t, p.2.2.1[j]? = some t → 0 < cnt ls k j → valV kvs (.inl ((j : Int) + 1)) = some (.ref (us j)) ∧ N (us j) ∧ ∃ ws, H (us j) = some (.lst ws) ∧ Paired (cUn.R (out Z H)) ws (t.2.2.take (cnt ls k j))
structure RS (CL CR : Addr) (stamp : Int) (p : Pr) (ls : List Leaf) (H : Hp) (M N X : Addr → Prop) (q : Addr) (k : Nat) (r dx ud : Addr) (giv : V) (d : LD) (us : Nat → Addr) (kvs : List (Key × V)) : Prop where
  ob : H q = some (.ins CR dx (flRD (.ref r) (.ref ud) giv (.int (-1))))
  nq : N q
  lr : LR CL p ls H M (Un2 N X) r k k ((encF (ls.take k)).length : Int) (stK stamp k) d
  has : Has p ls H (Un2 M (Un2 N X)) N ud us kvs k
  xn : ∀ a, X a → ¬ N a
theorem cnt_kind {ls : List Leaf} {k j : Nat} {l : Leaf} (hl : ls[k]? = some l) (h : l.kind ≠ 2) : cnt ls (k + 1) j = cnt ls k j := by
  unfold cnt
  rw [take_snoc hl, mineK_snoc_kind h]
/-- a leaf that is no unit: the units stand -/
theorem Has.skip {p : Pr} {ls : List Leaf} {H H' : Hp} {Z Z' N : Addr → Prop} {ud : Addr} {us : Nat → Addr} {kvs : List (Key × V)} {k : Nat} {l : Leaf} (h : Has p ls H Z N ud us kvs k) (hl : ls[k]? = some l) (hk : l.kind ≠ 2) (so : Same (out Z H) (out Z' H')) (hN : ∀ a o, N a → H a = some o → H' a = some o) : Has p ls H' Z' N ud us kvs (k + 1) := by
  refine ⟨hN _ _ h.nud h.hd, h.nud, by have := h.len; omega, fun i j h1 h2 => ?_, fun j t ht hc => ?_, fun j t ht hc => ?_⟩
  · rw [cnt_kind hl hk] at h1 h2
    exact h.inj i j h1 h2
  · rw [cnt_kind hl hk] at hc
    exact h.hnone j t ht hc
  · rw [cnt_kind hl hk] at hc ⊢
    obtain ⟨a, b, ws, c, e⟩ := h.hsome j t ht hc
    exact ⟨a, b, ws, hN _ _ b c, pmap e fun _ _ q => cUn.mono so q⟩
theorem Has.move {p : Pr} {ls : List Leaf} {H H' : Hp} {Z Z' N : Addr → Prop} {ud : Addr} {us : Nat → Addr} {kvs : List (Key × V)} {k : Nat} (h : Has p ls H Z N ud us kvs k) (so : Same (out Z H) (out Z' H')) (hN : ∀ a o, N a → H a = some o → H' a = some o) : Has p ls H' Z' N ud us kvs k := by
  refine ⟨hN _ _ h.nud h.hd, h.nud, h.len, h.inj, h.hnone, fun j t ht hc => ?_⟩
  obtain ⟨a, b, ws, c, e⟩ := h.hsome j t ht hc
  exact ⟨a, b, ws, hN _ _ b c, pmap e fun _ _ q => cUn.mono so q⟩
end Sp
namespace Sp
open PySem PySem.Spec PyProof.Rows L2
section
variable {P : Program} {w : World} {K : PySem.W.Frag} {mg : Str → Option Value} {base : Heap}
theorem un2_assoc {M N X : Addr → Prop} : Un2 M (Un2 N X) = Un2 (Un2 M N) X := by
  funext a
  exact propext ⟨fun h => h.elim (fun h => .inl (.inl h)) fun h => h.elim (fun h => .inl (.inr h)) .inr, fun h => h.elim (fun h => h.elim .inl fun h => .inr (.inl h)) fun h => .inr (.inr h)⟩
/-- the next leaf, seen from a reader: its own things stand -/
theorem Fr.own {H H' : Hp} {M M' Y : Addr → Prop} (f : Fr H M H' M') (hy : ∀ a, Y a → ¬ M a) : ∀ a o, Y a → H a = some o → H' a = some o := fun a o y h => f.keep a o h (hy a y)
theorem Fr.wide {H H' : Hp} {M M' N : Addr → Prop} (f : Fr H M H' M') : Fr H (Un2 M N) H' (Un2 M' N) := ⟨fun a o h n => f.keep a o h fun z => n (.inl z), fun a h => h.elim (fun h => (f.grow a h).elim (fun h => .inl (.inl h)) .inr) fun h => .inl (.inr h)⟩
/-- the units, the list of track j being there -/
structure Op (p : Pr) (ls : List Leaf) (H : Hp) (Z N : Addr → Prop) (ud : Addr) (us : Nat → Addr) (kvs : List (Key × V)) (k j : Nat) : Prop where
  hd : H ud = some (.dK kvs)
  nud : N ud
  len : kvs.length ≤ k + 1
  inj : ∀ a b, (a = j ∨ 0 < cnt ls k a) → (b = j ∨ 0 < cnt ls k b) → us a = us b → a = b
  hnone : ∀ i t, p.2.2.1[i]? = some t → ¬ (i = j ∨ 0 < cnt ls k i) → valV kvs (.inl ((i : Int) + 1)) = none
  hsome : ∀ i t, p.2.2.1[i]? = some t → (i = j ∨ 0 < cnt ls k i) → valV kvs (.inl ((i : Int) + 1)) = some (.ref (us i)) ∧ N (us i) ∧ ∃ ws, H (us i) = some (.lst ws) ∧ Paired (cUn.R (out Z H)) ws (t.2.2.take (cnt ls k i))
/-- the due leaf: none is left, or one that stands at k - 1 -/
def Due (p : Pr) (ls : List Leaf) (H : Hp) (Z : Addr → Prop) (k0 k : Nat) (v : V) : Prop := (v = .non ∧ k = ls.length) ∨ ∃ l, k0 < k ∧ ls[k - 1]? = some l ∧ cLeaf.R (out Z H) v l
def spNu (K : PySem.W.Frag) : Sp := fun vs H Q _ => ∃ (stamp : Int) (p : Pr) (od : List (Int × Int)) (inE : Int × Int → Bool) (M N X : Addr → Prop) (q : Addr) (k : Nat) (r dx ud : Addr) (giv : V) (d : LD) (us : Nat → Addr) (kvs : List (Key × V)), vs = [.ref q] ∧
  RS (ga K "LeafReader") (ga K "Reader") stamp p (fileL stamp p inE od) H M N X q k r dx ud giv d us kvs ∧ OkPr p ∧ Order (lensOf p.2.2.1) od ∧ (∀ e, inE e = true → GoodE (keysOf p.2.2.1) e) ∧ (0 ≤ stamp ∧ stamp ≤ 4294967295) ∧ k ≤ (fileL stamp p inE od).length ∧
  ∀ H' M' N' k' d' us' kvs' v, Fr H (Un2 M N) H' (Un2 M' N') → RS (ga K "LeafReader") (ga K "Reader") stamp p (fileL stamp p inE od) H' M' N' X q k' r dx ud giv d' us' kvs' → k' ≤ (fileL stamp p inE od).length → ((v = .non ∧ k' = (fileL stamp p inE od).length) ∨ (k < k' ∧ ∃ a, v = .ref a)) → Q v H'
theorem ok_Reader__next_unit (T : Txt K mg) : FnOk P w K mg base CX0 9 (ma K (ga K "Reader") "_next_unit") (fdAt K (ma K (ga K "Reader") "_next_unit")) ["self"] (spNu K) := by
  refine okD T.F_Reader__next_unit sc_Reader__next_unit (fun vs H Q E h => ?_) (fun cdv A outer s H vs Q E hr h => ?_)
  · obtain ⟨_, _, _, _, _, _, _, _, _, _, _, _, _, _, _, _, rfl, _⟩ := h
    rfl
  obtain ⟨stamp, p, od, inE, M, N, X, q, n, r, dx, ud, giv, d, us, kvs, rfl, R, ok, O, hg, hs, hn, k⟩ := h
  have nd := sc_Reader__next_unit.nd
  have F := fileL_ff ok O hs inE
  have hl64 := F.len.1
  refine ⟨_, ((pss_cons (ps_if (pt_cmpR op_ge (pe_fld (pv 0) rfl) pe_int (nomark _)) (pss_one ps_never) pss_nil)
      (pss_cons (ps_set (i := 1) nd rfl (Or.inl rfl) (pe_meth0 (pe_fld (pv 0) rfl) T.c_LeafReader T.m_LeafReader_next_leaf (ok_LeafReader_next_leaf T) (hr.mono (by decide)) T.b_LeafReader_next_leaf .nil pass0))
      (pss_cons (ps_while PassesOwn.never (PW.pt (pw_and (pt_cmpR op_notN (pv 1) pe_non (nomark _)) (pw_and1 (pt_cmpR op_ne (pe_ix (ixT_ K rfl) (pv 1) pe_int (fun _ _ => rfl)) (pe_gint T.i_UNIT) (nomark _))))) (pss_one (ps_set (i := 1) nd rfl (Or.inl rfl) (pe_meth0 (pe_fld (pv 0) rfl) T.c_LeafReader T.m_LeafReader_next_leaf (ok_LeafReader_next_leaf T) (hr.mono (by decide)) T.b_LeafReader_next_leaf .nil pass0))))
      (pss_cons (ps_if (pt_cmpR op_isN (pv 1) pe_non (nomark _)) (pss_one (ps_ret pe_non)) pss_nil)
      (pss_cons (ps_asg (pv 1) (pg_tup_ K rfl rfl (n := 9) (pgs_cons (pg_name (i := 2) nd rfl (Or.inl rfl)) (pgs_cons (pg_name (i := 2) nd rfl (Or.inl rfl)) (pgs_cons (pg_name (i := 3) nd rfl (Or.inl rfl)) (pgs_cons (pg_name (i := 4) nd rfl (Or.inl rfl)) (pgs_cons (pg_name (i := 2) nd rfl (Or.inl rfl)) (pgs_cons (pg_name (i := 5) nd rfl (Or.inl rfl)) (pgs_cons (pg_name (i := 6) nd rfl (Or.inl rfl)) (pgs_cons (pg_name (i := 7) nd rfl (Or.inl rfl)) (pgs_cons (pg_name (i := 8) nd rfl (Or.inl rfl)) pgs_nil)))))))))))
      (pss_cons (ps_set (i := 9) nd rfl (Or.inl rfl) (pe_dsetd (pe_fld (pv 0) rfl) (pv 4) (pe_lst pa_nil) ⟨rfl, rfl, rfl, rfl⟩))
      (pss_cons (ps_set (i := 10) nd rfl (Or.inl rfl) pe_non)
      (pss_cons (ps_if (pt_cmpR op_eq (pv 7) pe_int (nomark _)) (pss_one (ps_set (i := 10) nd rfl (Or.inl rfl) (pe_ix (ixT_ K rfl) (pe_ix (ixL_ K rfl) (pv 9) (pe_un un_neg pe_int) (fun _ _ => rfl)) pe_int (fun _ _ => rfl)))) pss_nil)
      (pss_cons (ps_try_thru0 (pss_one (ps_set (i := 11) nd rfl (Or.inl rfl) (pe_call (ok_read_content T) (hr.mono (by decide)) rfl T.g_read_content T.k_read_content T.b_read_content .nil pass0 (pa_cons (pv 8) (pa_cons (pv 10) pa_nil))))))
      (pss_cons (ps_expr (pe_bm PySem.F.plainAttrs_list PySem.F.slot_list_append PySem.F.type_list_append mt_append (pv 9) (pa_cons (pe_tup (pa_cons (pv 5) (pa_cons (pv 6) (pa_cons (pv 11) (pa_cons (pe_cmpR op_eq (pv 7) pe_int (nomark _)) pa_nil))))) pa_nil)))
      (pss_one (ps_ret (pe_tup (pa_cons (pv 4) (pa_cons (pe_tup (pa_cons (pv 5) (pa_cons (pv 6) (pa_cons (pe_callTy (listOf_ K rfl) rfl T.n_list boot_list (pa_cons (pv 11) pa_nil)) (pa_cons (pe_cmpR op_eq (pv 7) pe_int (nomark _)) pa_nil))))) pa_nil)))))))))))))))), ?_⟩
  have L := R.lr
  -- the state behind next_leaf
  let I : Nat → V → Hp → Prop := fun k1 v H' => ∃ (M' : Addr → Prop) (d' : LD) (k' : Nat), Fr H (Un2 M N) H' (Un2 M' N) ∧ H' q = some (.ins (ga K "Reader") dx (flRD (.ref r) (.ref ud) giv (.int (-1)))) ∧ LR (ga K "LeafReader") p (fileL stamp p inE od) H' M' (Un2 N X) r k' k' ((encF ((fileL stamp p inE od).take k')).length : Int) (stK stamp k') d' ∧
    k' ≤ (fileL stamp p inE od).length ∧ n ≤ k' ∧ ((v = .non ∧ k' = (fileL stamp p inE od).length ∧ Has p (fileL stamp p inE od) H' (Un2 M' (Un2 N X)) N ud us kvs k') ∨
      ∃ l, k1 < k' ∧ (fileL stamp p inE od)[k' - 1]? = some l ∧ cLeaf.R (out (Un2 M' (Un2 N X)) H') v l ∧ Has p (fileL stamp p inE od) H' (Un2 M' (Un2 N X)) N ud us kvs (k' - 1))
  have nxt : ∀ (H1 : Hp) (M1 : Addr → Prop) (k1 : Nat) (d1 : LD), Fr H (Un2 M N) H1 (Un2 M1 N) → H1 q = some (.ins (ga K "Reader") dx (flRD (.ref r) (.ref ud) giv (.int (-1)))) → LR (ga K "LeafReader") p (fileL stamp p inE od) H1 M1 (Un2 N X) r k1 k1 ((encF ((fileL stamp p inE od).take k1)).length : Int) (stK stamp k1) d1 →
      k1 ≤ (fileL stamp p inE od).length → n ≤ k1 → Has p (fileL stamp p inE od) H1 (Un2 M1 (Un2 N X)) N ud us kvs k1 → ∀ Qv : VK, (∀ v H', I k1 v H' → Qv v H') → spNl K [.ref r] H1 Qv E0 := fun H1 M1 k1 d1 fr1 oq L1 hk1 hnk h1 Qv hQ => by
    refine ⟨stamp, p, od, inE, M1, Un2 N X, r, k1, d1, rfl, L1, ok, O, hg, hs, hk1, fun e => hQ _ _ ⟨M1, d1, k1, fr1, oq, L1, hk1, hnk, .inl ⟨rfl, e, h1⟩⟩, fun H2 M2 d2 v l fr2 hl L2 hv => hQ _ _ ⟨M2, d2, k1 + 1, fr1.trans fr2.wide, ?_, L2, by have := lt_of_at hl; omega, by omega, .inr ⟨l, by omega, by rw [Nat.add_sub_cancel]; exact hl, hv, ?_⟩⟩⟩
    · exact fr2.keep _ _ oq (L1.xd q (.inl R.nq)).1
    · rw [Nat.add_sub_cancel]
      exact h1.move fr2.same fun a o ha ho => fr2.keep a o ho (L1.xd a (.inl ha)).1
  refine ⟨_, rfl, q, _, dx, _, _, rfl, R.ob, T.c_Reader, T.a_Reader__bad, gRD_bad _ _ _ _, _, _, rfl, rfl, _, rfl, yF (by omega) (nx_mid ?_)⟩
  refine ⟨_, rfl, q, _, dx, _, _, rfl, R.ob, T.c_Reader, T.a_Reader__leaves, gRD_leaves _ _ _ _, r, d.dx, _, rfl, R.lr.ob, nLR_next_leaf _ _ _ _ _ _ _ _ _ _ _, ?_⟩
  dsimp only [tNil]
  refine nxt H M n d (Fr.refl _ _) R.ob R.lr hn (Nat.le_refl _) R.has _ fun v H1 hI => ?_
  refine ⟨fun m σ H' => ∃ (v : V) (k1 : Nat), I k1 v H' ∧ n ≤ k1 ∧ σ = [some (.ref q), some v, none, none, none, none, none, none, none, none, none, none] ∧ (v = .non → m = 0) ∧ (v ≠ .non → m = (fileL stamp p inE od).length + 1 - k1), ?_, ?_⟩
  · by_cases hv : v = .non
    · exact ⟨0, v, n, hI, Nat.le_refl _, rfl, fun _ => rfl, fun h => absurd hv h⟩
    · exact ⟨_, v, n, hI, Nat.le_refl _, rfl, fun h => absurd h hv, fun _ => rfl⟩
  rintro m σ H2 ⟨v, k1, hI2, hn1, rfl, hm0, hm1⟩
  clear hI
  obtain ⟨M2, d2, k2, fr2, oq2, L2, hk2, hnk2, hcase⟩ := hI2
  refine ⟨_, rfl, rfl, _, rfl, ?_⟩
  rcases hcase with ⟨rfl, hk2e, hH⟩ | ⟨l, hk12, hl, hv, hH⟩
  · refine ifF (nb_f rfl) (iteF ?_)
    refine ⟨_, rfl, rfl, _, rfl, ifT (bl_t rfl) ?_⟩
    exact k H2 M2 N k2 d2 us kvs .non fr2 ⟨oq2, R.nq, L2, hH, R.xn⟩ hk2 (.inl ⟨rfl, hk2e⟩)
  obtain ⟨lt, lb, rfl, hlt, hlb⟩ := id hv
  have hlt' := out_sub _ _ _ _ hlt
  refine ifT (nb_t fun z => by cases z) ⟨_, rfl, _, _, _, _, rfl, rfl, SqT.of hlt', atI_nat (j := 0) rfl, rfl, _, rfl, ?_⟩
  have hk2s : k2 - 1 + 1 = k2 := by omega
  by_cases c : l.kind = 2
  · refine ifF (nb_f (congrArg V.int c)) ?_
    refine ⟨_, rfl, rfl, _, rfl, ifF (bl_f fun z => by cases z) (nx_mid ?_)⟩
    obtain ⟨j, m2, t, u, U⟩ := uat_of F hl c
    have hT := U.track
    have oks := (ok.tracks t (List.mem_of_getElem? U.ht)).units
    have hum := oks.2.1.mem u (List.mem_of_getElem? U.hu)
    have hm5 := lt_of_at U.hu
    have hu5 := oks.1
    have hKy := U.key
    have hprev : cnt (fileL stamp p inE od) (k2 - 1) j = m2 := U.prev
    refine ⟨_, rfl, lt, _, rfl, SqT.of hlt', rfl, _, _, rfl, _, _, rfl, _, _, rfl, _, _, rfl, _, _, rfl, _, _, rfl, _, _, rfl, _, _, rfl, _, _, rfl, rfl, ?_⟩
    dsimp only
    have nzz : ∀ {z : Addr}, H2 z = none → ¬ Un2 M2 (Un2 N X) z := fun h => L2.nz h
    refine seq_mid (t := tAsg _ _) (fun σ' H3 => ∃ (N3 : Addr → Prop) (us3 : Nat → Addr) (kvs3 : List (Key × V)), σ' = [some (.ref q), some (.ref lt), some (.int l.ordinal), some (.int l.number), some (.int l.track), some (.int l.time), some (.int l.span), some (.int l.key), some (.ref lb), some (.ref (us3 j)), none, none] ∧
      Fr H (Un2 M N) H3 (Un2 M2 N3) ∧ H3 q = some (.ins (ga K "Reader") dx (flRD (.ref r) (.ref ud) giv (.int (-1)))) ∧ N3 q ∧ LR (ga K "LeafReader") p (fileL stamp p inE od) H3 M2 (Un2 N3 X) r k2 k2 ((encF ((fileL stamp p inE od).take k2)).length : Int) (stK stamp k2) d2 ∧
      (∀ a, X a → ¬ N3 a) ∧ Same (out (Un2 M2 (Un2 N X)) H2) (out (Un2 M2 (Un2 N3 X)) H3) ∧ Op p (fileL stamp p inE od) H3 (Un2 M2 (Un2 N3 X)) N3 ud us3 kvs3 (k2 - 1) j) (fun nx hnx => ?_) ?_
    · refine ⟨_, rfl, q, _, dx, _, _, rfl, oq2, T.c_Reader, T.a_Reader__units, gRD_units _ _ _ _, ud, rfl, .inl ⟨kvs, .inl hH.hd⟩, _, rfl, Nat.zero_le _, fun z nz => ?_⟩
      have sz : Same H2 (upd H2 z (.lst [])) := Same.new nz
      refine ⟨kvs, .inl ((j : Int) + 1), upd_keep hH.hd nz, by rw [hT]; rfl, lsz' (by have := hH.len; omega), fun v4 hv4 => ?_, fun hnone => ?_⟩
      · have hpos : 0 < cnt (fileL stamp p inE od) (k2 - 1) j := by
          rcases Nat.eq_zero_or_pos (cnt (fileL stamp p inE od) (k2 - 1) j) with e | e
          · rw [hH.hnone j t U.ht e] at hv4; cases hv4
          · exact e
        obtain ⟨w1, w2, w3⟩ := hH.hsome j t U.ht hpos
        rw [w1] at hv4
        cases hv4
        have hps : ∀ i, (i = j ∨ 0 < cnt (fileL stamp p inE od) (k2 - 1) i) → 0 < cnt (fileL stamp p inE od) (k2 - 1) i := fun i h => h.elim (fun e => by rw [e]; exact hpos) fun e => e
        have hz := hH.move (Z' := Un2 M2 (Un2 N X)) (out_mono sz) fun a o _ h => sz _ _ h
        exact hnx _ _ ⟨N, us, kvs, rfl, fr2.add sz, sz _ _ oq2, R.nq, L2.same sz, R.xn, out_mono sz, ⟨hz.hd, hz.nud, by have := hz.len; omega, fun a b ha hb => hz.inj a b (hps a ha) (hps b hb), fun i t' ht' hn' => hz.hnone i t' ht' (by have : ¬ 0 < cnt (fileL stamp p inE od) (k2 - 1) i := fun q => hn' (.inr q); omega), fun i t' ht' hp' => hz.hsome i t' ht' (hps i hp')⟩⟩
      · have hc0 : cnt (fileL stamp p inE od) (k2 - 1) j = 0 := by
          rcases Nat.eq_zero_or_pos (cnt (fileL stamp p inE od) (k2 - 1) j) with e | e
          · exact e
          · rw [(hH.hsome j t U.ht e).1] at hnone; cases hnone
        have nud : ud ≠ z := ne_of_none hH.hd nz
        have nqz : q ≠ z := ne_of_none oq2 nz
        have nqu : q ≠ ud := fun e => by
          have := hH.hd
          rw [← e, oq2] at this; cases this
        have uz : ∀ i, 0 < cnt (fileL stamp p inE od) (k2 - 1) i → ∀ t', p.2.2.1[i]? = some t' → us i ≠ z ∧ us i ≠ ud := fun i hi t' ht' => by
          obtain ⟨_, _, ws, w3, _⟩ := hH.hsome i t' ht' hi
          exact ⟨ne_of_none w3 nz, fun e => by rw [e, hH.hd] at w3; cases w3⟩
        have inT : ∀ i, 0 < cnt (fileL stamp p inE od) (k2 - 1) i → ∃ t', p.2.2.1[i]? = some t' := fun i hi => by
          obtain ⟨l2, hl2⟩ : ∃ l2, (mineK i ((fileL stamp p inE od).take (k2 - 1)))[0]? = some l2 := ⟨_, List.getElem?_eq_getElem hi⟩
          have hm := List.mem_of_getElem? hl2
          obtain ⟨h1, h2⟩ := List.mem_filter.mp hm
          obtain ⟨h3, h4⟩ := List.mem_filter.mp h1
          obtain ⟨kk, jj, tt, uu, A⟩ := F.O.at (F.unit l2 (List.mem_of_mem_take h3) (of_decide_eq_true h4)).1
          have e1 : l2.track = (kk : Int) + 1 := congrArg Prod.fst A.he
          have e2 : l2.track = (i : Int) + 1 := of_decide_eq_true h2
          have : kk = i := by omega
          exact ⟨tt, this ▸ A.ht⟩
        let N3 : Addr → Prop := fun a => N a ∨ a = z
        let H3 : Hp := upd (upd H2 z (.lst [])) ud (.dK (putK kvs (Sum.inl ((j : Int) + 1)) (V.ref z)))
        have old : ∀ a o, H2 a = some o → a ≠ ud → H3 a = some o := fun a o h ne => (upd_ne ne).trans (upd_keep h nz)
        have so3 : Same (out (Un2 M2 (Un2 N X)) H2) (out (Un2 M2 (Un2 N3 X)) H3) := fun a o h => by
          have n1 := out_ne h
          have h1 := out_sub _ _ _ _ h
          refine out_of (old a o h1 fun e => n1 (.inr (.inl (by rw [e]; exact hH.nud)))) fun e => ?_
          rcases e with e | (e | e) | e
          · exact n1 (.inl e)
          · exact n1 (.inr (.inl e))
          · rw [e, nz] at h1; cases h1
          · exact n1 (.inr (.inr e))
        have L3 : LR (ga K "LeafReader") p (fileL stamp p inE od) H3 M2 (Un2 N3 X) r k2 k2 ((encF ((fileL stamp p inE od).take k2)).length : Int) (stK stamp k2) d2 := by
          refine L2.move so3 (fun a o ha ho => old a o ho fun e => (L2.xd ud (.inl hH.nud)).1 (by rw [← e]; exact ha)) fun a ha => ?_
          have gen : ∀ a, Un2 N X a → ¬ M2 a ∧ H3 a ≠ none := fun a h => by
            refine ⟨(L2.xd a h).1, ?_⟩
            by_cases e : a = ud
            · rw [e]
              show upd _ _ _ _ ≠ _
              rw [upd_same]; simp
            · cases e2 : H2 a with
              | none => exact absurd e2 (L2.xd a h).2
              | some o => rw [old a o e2 e]; simp
          rcases ha with (ha | ha) | ha
          · exact gen a (.inl ha)
          · refine ⟨fun e => L2.md a e (by rw [ha]; exact nz), ?_⟩
            rw [ha]
            show upd _ _ _ _ ≠ _
            rw [upd_ne nud.symm, upd_same]; simp
          · exact gen a (.inr ha)
        have hz3 : H3 z = some (.lst []) := (upd_ne nud.symm).trans upd_same
        have fr3 : Fr H (Un2 M N) H3 (Un2 M2 N3) := by
          refine ⟨fun a o h nMN => ?_, fun a h => ?_⟩
          · have n2 : ¬ Un2 M2 N a := fun e => by
              rcases fr2.grow a e with q1 | q1
              · exact nMN q1
              · rw [q1] at h; cases h
            exact old a o (fr2.keep a o h nMN) fun e => n2 (.inr (by rw [e]; exact hH.nud))
          · rcases h with h | h | h
            · exact fr2.grow a (.inl h)
            · exact fr2.grow a (.inr h)
            · cases e : H a with
              | none => exact .inr rfl
              | some o =>
                by_cases c1 : Un2 M N a
                · exact .inl c1
                · have := fr2.keep a o e c1
                  rw [h, nz] at this; cases this
        refine hnx _ _ ⟨N3, fun i => if i = j then z else us i, putK kvs (Sum.inl ((j : Int) + 1)) (V.ref z), by dsimp only; rw [if_pos rfl]; rfl, fr3, old _ _ oq2 nqu, .inl R.nq, L3, fun a ha e => ?_, so3, ⟨upd_same, .inl hH.nud, by have := putK_le kvs (Sum.inl ((j : Int) + 1)) (V.ref z); have := hH.len; omega, fun a b ha hb e => ?_, fun i t' ht' hn' => ?_, fun i t' ht' hp' => ?_⟩⟩
        · rcases e with e | e
          · exact R.xn a ha e
          · exact (L2.xd a (.inr ha)).2 (by rw [e]; exact nz)
        · by_cases ca : a = j <;> by_cases cb : b = j
          · rw [ca, cb]
          · simp only [ca, cb, if_true, if_false] at e
            have hb' := hb.resolve_left cb
            obtain ⟨t', ht'⟩ := inT b hb'
            exact absurd e.symm (uz b hb' t' ht').1
          · simp only [ca, cb, if_true, if_false] at e
            have ha' := ha.resolve_left ca
            obtain ⟨t', ht'⟩ := inT a ha'
            exact absurd e (uz a ha' t' ht').1
          · simp only [ca, cb, if_false] at e
            exact hH.inj a b (ha.resolve_left ca) (hb.resolve_left cb) e
        · have h1 : i ≠ j := fun e => hn' (.inl e)
          have h2 : cnt (fileL stamp p inE od) (k2 - 1) i = 0 := by have : ¬ 0 < cnt (fileL stamp p inE od) (k2 - 1) i := fun q => hn' (.inr q); omega
          rw [valV_put, if_neg (fun e => h1 (by have := Sum.inl.inj e; omega))]
          exact hH.hnone i t' ht' h2
        · by_cases c1 : i = j
          · subst c1
            have ett : t' = t := Option.some.inj (ht'.symm.trans U.ht)
            subst ett
            refine ⟨by rw [valV_put, if_pos rfl, if_pos rfl], by rw [if_pos rfl]; exact .inr rfl, [], by rw [if_pos rfl]; exact hz3, ?_⟩
            rw [hc0]
            exact .nil
          · have hp2 := hp'.resolve_left c1
            obtain ⟨w1, w2, ws, w3, w4⟩ := hH.hsome i t' ht' hp2
            refine ⟨?_, ?_, ws, ?_, pmap w4 fun _ _ x => cUn.mono so3 x⟩
            · rw [valV_put, if_neg (fun e => c1 (by have := Sum.inl.inj e; omega)), if_neg c1]
              exact w1
            · rw [if_neg c1]
              exact .inl w2
            · rw [if_neg c1]
              exact old _ _ w3 (uz i hp2 t' ht').2
    rintro _ H3 ⟨N3, us3, kvs3, rfl, fr3, oq3, nq3, L3, xn3, so3, hO⟩
    obtain ⟨w1, w2, ws, hws, hwp⟩ := hO.hsome j t U.ht (.inl rfl)
    rw [hprev] at hwp
    have hwl : ws.length = m2 := by rw [hwp.length, List.length_take]; omega
    have hlb3 : Li H3 lb l.body := (hlb.mono so3).mono (out_sub _ _)
    rw [U.body] at hlb3
    have hbl : (if m2 = 0 then [] else ((t.2.2[m2 - 1]?.map (·.2.2.1)).getD []) : List Int).length ≤ 200 := by
      by_cases c0 : m2 = 0
      · rw [if_pos c0]; simp
      · rw [if_neg c0, List.getElem?_eq_getElem (show m2 - 1 < t.2.2.length by omega)]
        exact (oks.2.1.mem _ (List.getElem_mem (by omega))).2.2.2.2.1
    refine seq_asg ?_
    refine seq_mid (t := tIfS _ _ _) (fun σ' H' => H3 = H' ∧ ∃ zv : V, σ' = [some (.ref q), some (.ref lt), some (.int l.ordinal), some (.int l.number), some (.int l.track), some (.int l.time), some (.int l.span), some (.int l.key), some (.ref lb), some (.ref (us3 j)), some zv, none] ∧
      (u.2.2.2 = true → ∃ a, zv = .ref a ∧ Li H3 a (if m2 = 0 then [] else ((t.2.2[m2 - 1]?.map (·.2.2.1)).getD []))) ∧ (u.2.2.2 = false → zv = .non)) (fun nx hnx => ?_) ?_
    · refine ⟨_, rfl, rfl, _, rfl, ?_⟩
      by_cases hle : u.2.2.2 = true
      · have hm0 : m2 ≠ 0 := fun e => by
          subst e
          have := oks.2.2 u U.hu
          rw [hle] at this; cases this
        have hk0 : l.key = 0 := by rw [hKy, if_pos hle]
        have hpv : t.2.2[m2 - 1]? = some (t.2.2[m2 - 1]'(by omega)) := List.getElem?_eq_getElem (by omega)
        have hpv2 : (t.2.2.take m2)[m2 - 1]? = some (t.2.2[m2 - 1]'(by omega)) := by rw [List.getElem?_take, if_pos (by omega)]; exact hpv
        rw [if_neg hm0, hpv] at hnx
        generalize t.2.2[m2 - 1]'(by omega) = pv at hpv hpv2 hnx
        obtain ⟨y0, hy0, t2, z1, z2, z3, z4, rfl, ht2, rfl, rfl, ⟨cb, rfl, hcb⟩, rfl⟩ := pget hwp hpv2
        have hlast := atI_last (vs := ws) (x := V.ref t2) (by rw [hwl]; exact hy0) (by omega)
        exact ifT (bl_t (congrArg V.int hk0)) ⟨_, rfl, _, rfl, _, _, _, _, rfl, rfl, SqL.of hws, hlast, _, _, _, _, rfl, rfl, SqT.of (out_sub _ _ _ _ ht2), atI_nat (j := 2) rfl, hnx _ _ ⟨rfl, .ref cb, rfl, fun _ => ⟨cb, rfl, hcb.mono (out_sub _ _)⟩, fun e => by (rw [hle] at e; cases e)⟩⟩
      · have hl2 : u.2.2.2 = false := by simpa using hle
        have hk1 : ¬ l.key = 0 := by rw [hKy, if_neg hle]; decide
        exact ifF (bl_f fun e => hk1 (V.int.inj e)) (hnx _ _ ⟨rfl, .non, rfl, fun e => absurd e hle, fun _ => rfl⟩)
    rintro _ _ ⟨rfl, zv, rfl, hz1, hz2⟩
    refine ⟨_, rfl, _, rfl, lb, zv, u, _, rfl, hlb3, hz1, hz2, hbl, hum.2.2.2.2.1, fun cq H4 s4 ncq hcq => ?_⟩
    refine ⟨_, rfl, .inl ⟨rfl, _, SqL.of (s4 _ _ hws)⟩, _, rfl, _, rfl, _, rfl, _, rfl, rfl, lsz (by simp), fun t1 nt1 => ?_⟩
    have hkb : decide (V.int l.key = V.int 0) = u.2.2.2 := by
      rw [hKy]
      cases u.2.2.2 <;> rfl
    rw [hkb]
    have s5 := s4.add (o := .tup [.int l.time, .int l.span, .ref cq, .bl u.2.2.2]) nt1
    have ht1 : upd H4 t1 (.tup [.int l.time, .int l.span, .ref cq, .bl u.2.2.2]) t1 = some (.tup [.int l.time, .int l.span, .ref cq, .bl u.2.2.2]) := upd_same
    have hcq5 : Li (upd H4 t1 (.tup [.int l.time, .int l.span, .ref cq, .bl u.2.2.2])) cq u.2.2.1 := hcq.keep nt1
    have nt1H : H3 t1 = none := s4.free nt1
    generalize upd H4 t1 (.tup [.int l.time, .int l.span, .ref cq, .bl u.2.2.2]) = H5 at s5 ht1 hcq5
    refine ⟨us3 j, _, _, rfl, rfl, s5 _ _ hws, lsz' (by omega), ?_⟩
    have ncu : cq ≠ us3 j := fun e => by rw [e, hws] at ncq; cases ncq
    have hcq6 : Li (upd H5 (us3 j) (.lst (ws ++ [.ref t1]))) cq u.2.2.1 := (upd_ne ncu).trans hcq5
    refine ⟨_, rfl, _, rfl, _, rfl, _, rfl, cq, _, rfl, .inl hcq6.sq, fun y ny => ⟨_, rfl, rfl, lsz (by simp), fun t2 nt2 => ⟨lsz (by simp), fun t3 nt3 => ?_⟩⟩⟩
    have s69 := ((Same.new (o := .lst (u.2.2.1.map V.int)) ny).add (o := .tup [.int l.time, .int l.span, .ref y, .bl (decide (V.int l.key = V.int 0))]) nt2).add (o := .tup [.int l.track, .ref t2]) nt3
    generalize upd (upd (upd (upd H5 (us3 j) (.lst (ws ++ [.ref t1]))) y (.lst (u.2.2.1.map V.int))) t2 (.tup [.int l.time, .int l.span, .ref y, .bl (decide (V.int l.key = V.int 0))])) t3 (.tup [.int l.track, .ref t2]) = H9 at s69
    have nqu : q ≠ us3 j := fun e => by
      rw [← e, oq3] at hws; cases hws
    have nuu : ud ≠ us3 j := fun e => by
      have := hO.hd
      rw [e, hws] at this; cases this
    have L9 := ((L3.same s5).updX (o := .lst (ws ++ [.ref t1])) (x := us3 j) (.inl w2)).same s69
    have fr9 := ((fr3.add s5).upd (o := .lst (ws ++ [.ref t1])) (x := us3 j) (.inr w2)).add s69
    have so9 : Same (out (Un2 M2 (Un2 N3 X)) H3) (out (Un2 M2 (Un2 N3 X)) H9) := by
      have e1 := out_upd (Z := Un2 M2 (Un2 N3 X)) (H := H5) (x := us3 j) (o := .lst (ws ++ [.ref t1])) (.inr (.inl w2))
      have e2 := out_mono (Z := Un2 M2 (Un2 N3 X)) s69
      rw [e1] at e2
      exact (out_mono s5).trans e2
    have k39 : ∀ a o, H3 a = some o → a ≠ us3 j → H9 a = some o := fun a o h ne => s69 _ _ ((upd_ne ne).trans (s5 _ _ h))
    have hck : ∀ i, cnt (fileL stamp p inE od) k2 i = if i = j then m2 + 1 else cnt (fileL stamp p inE od) (k2 - 1) i := fun i => by
      unfold cnt
      conv => lhs; rw [← hk2s, take_snoc hl]
      by_cases ci : i = j
      · subst ci
        rw [if_pos rfl, mineK_snoc_yes c hT, List.length_append, List.length_singleton]
        have : (mineK i ((fileL stamp p inE od).take (k2 - 1))).length = m2 := U.prev
        omega
      · rw [if_neg ci, mineK_snoc_trk (by rw [hT]; omega)]
    have hps : ∀ i, 0 < cnt (fileL stamp p inE od) k2 i → (i = j ∨ 0 < cnt (fileL stamp p inE od) (k2 - 1) i) := fun i h => by
      rw [hck] at h
      by_cases ci : i = j
      · exact .inl ci
      · rw [if_neg ci] at h; exact .inr h
    refine k H9 M2 N3 k2 d2 us3 kvs3 (.ref t3) fr9 ⟨k39 _ _ oq3 nqu, nq3, L9, ⟨k39 _ _ hO.hd nuu, hO.nud, by have := hO.len; omega, fun a b ha hb e => hO.inj a b (hps a ha) (hps b hb) e, fun i t' ht' hc => ?_, fun i t' ht' hc => ?_⟩, xn3⟩ hk2 (.inr ⟨by omega, _, rfl⟩)
    · refine hO.hnone i t' ht' fun e => ?_
      rw [hck] at hc
      rcases e with e | e
      · rw [if_pos e] at hc; omega
      · by_cases ci : i = j
        · rw [if_pos ci] at hc; omega
        · rw [if_neg ci] at hc; omega
    · obtain ⟨v1, v2, ws2, v3, v4⟩ := hO.hsome i t' ht' (hps i hc)
      refine ⟨v1, v2, ?_⟩
      rw [hck]
      by_cases ci : i = j
      · subst ci
        have ett : t' = t := Option.some.inj (ht'.symm.trans U.ht)
        subst ett
        rw [hws] at v3
        cases v3
        rw [if_pos rfl, take_snoc U.hu]
        refine ⟨ws ++ [.ref t1], s69 _ _ upd_same, papp (pmap hwp fun _ _ x => cUn.mono so9 x) (.cons ⟨t1, _, _, _, _, rfl, out_of (s69 _ _ ((upd_ne fun e => ?_).trans ht1)) (L3.nz nt1H), congrArg V.int U.time, congrArg V.int U.span, ⟨cq, rfl, out_of (s69 _ _ hcq6) (L3.nz ncq)⟩, rfl⟩ .nil)⟩
        rw [e, hws] at nt1H; cases nt1H
      · rw [if_neg ci]
        refine ⟨ws2, k39 _ _ v3 fun e => ci (hO.inj i j (hps i hc) (.inl rfl) e), pmap v4 fun _ _ x => cUn.mono so9 x⟩
  · have hH2 := hH.skip hl c (Same.refl _) (fun a o _ h => h)
    rw [hk2s] at hH2
    refine ifT (nb_t fun z => c (V.int.inj z)) ⟨_, fun _ _ h => h, ?_⟩
    refine ⟨_, rfl, q, _, dx, _, _, rfl, oq2, T.c_Reader, T.a_Reader__leaves, gRD_leaves _ _ _ _, r, d2.dx, _, rfl, L2.ob, nLR_next_leaf _ _ _ _ _ _ _ _ _ _ _, ?_⟩
    dsimp only [tNil]
    refine nxt H2 M2 k2 d2 fr2 oq2 L2 hk2 hnk2 hH2 _ fun v3 H3 hI3 => ?_
    have hm := hm1 (by simp)
    by_cases hv3 : v3 = .non
    · exact ⟨0, by omega, v3, k2, hI3, hnk2, rfl, fun _ => rfl, fun h => absurd hv3 h⟩
    · exact ⟨(fileL stamp p inE od).length + 1 - k2, by omega, v3, k2, hI3, hnk2, rfl, fun h => absurd h hv3, fun _ => rfl⟩
end
end Sp
namespace Sp
open PySem PySem.Spec PyProof.Rows L2
section
variable {P : Program} {w : World} {K : PySem.W.Frag} {mg : Str → Option Value} {base : Heap}
theorem ok_Reader__later_unit (T : Txt K mg) : FnOk P w K mg base CX0 10 (ma K (ga K "Reader") "_later_unit") (fdAt K (ma K (ga K "Reader") "_later_unit")) ["self"] (spNu K) := by
  refine okD T.F_Reader__later_unit sc_Reader__later_unit (fun vs H Q E h => ?_) (fun cdv A outer s H vs Q E hr h => ?_)
  · obtain ⟨_, _, _, _, _, _, _, _, _, _, _, _, _, _, _, _, rfl, _⟩ := h
    rfl
  obtain ⟨stamp, p, od, inE, M, N, X, q, n, r, dx, ud, giv, d, us, kvs, rfl, R, ok, O, hg, hs, hn, k⟩ := h
  have nd := sc_Reader__later_unit.nd
  refine ⟨_, ((pss_one (ps_try_thru0 (pss_one (ps_ret (pe_meth0 (pv 0) T.c_Reader T.m_Reader__next_unit (ok_Reader__next_unit T) (hr.mono (by decide)) T.b_Reader__next_unit .nil pass0)))))), ?_⟩
  refine ⟨_, rfl, q, dx, _, rfl, R.ob, nRD_next_unit _ _ _ _, ?_⟩
  dsimp only [tNil]
  exact ⟨stamp, p, od, inE, M, N, X, q, n, r, dx, ud, giv, d, us, kvs, rfl, R, ok, O, hg, hs, hn, k⟩
def spCp : Sp := fun vs H Q _ => ∃ (v : V) (xs : List Un'), vs = [v] ∧ (cL cUn).R H v xs ∧ xs.length ≤ 1000 ∧ ∀ H' u, Same H H' → (cL cUn).R (fresh' H H') u xs → Q u H'
theorem ok_copied (T : Txt K mg) : FnOk P w K mg base CX0 1 (ga K "copied") (fdAt K (ga K "copied")) ["units"] spCp := by
  refine okD T.F_copied sc_copied (fun vs H Q E h => ?_) (fun cdv A outer s H vs Q E hr h => ?_)
  · obtain ⟨_, _, rfl, _⟩ := h
    rfl
  obtain ⟨_, xs, rfl, ⟨a, vs, rfl, ha, hp⟩, hl, k⟩ := h
  have nd := sc_copied.nd
  refine ⟨_, ((pss_one (ps_ret (pe_lc (own := [("time", 1), ("span", 2), ("content", 3), ("leans", 4)]) rfl nd (pi_list (pv 0)) (blkOk_by (N := N_copied) (sc := defScope s_copied) (by decide +kernel)) (fun _ _ _ _ _ => (pg_tup_ K rfl rfl (n := 4) (pgs_cons (pg_name (i := 1) nd rfl (Or.inl rfl)) (pgs_cons (pg_name (i := 2) nd rfl (Or.inl rfl)) (pgs_cons (pg_name (i := 3) nd rfl (Or.inl rfl)) (pgs_cons (pg_name (i := 4) nd rfl (Or.inl rfl)) pgs_nil)))))) (fun _ _ _ _ _ => pts_nil) (fun _ _ _ _ _ => (pe_tup (pa_cons (pv 1) (pa_cons (pv 2) (pa_cons (pe_callTy (listOf_ K rfl) rfl T.n_list boot_list (pa_cons (pv 3) pa_nil)) (pa_cons (pv 4) pa_nil)))))))))), ?_⟩
  refine ⟨_, rfl, a, rfl, ⟨_, SqL.of ha⟩, fun D hD => lc_list (K := K) (a := a) (xs := vs) (fun j H3 => ∃ ws, Same H H3 ∧ Acc cUn H H3 D ws (xs.take j))
      ⟨[], Same.new hD, Acc.nil hD upd_same⟩ (fun j H3 _ ⟨ws, h1, _⟩ => SqL.of (h1 _ _ ha)) ?_ ?_⟩
  · rintro j x H3 hj ⟨ws, s3, A3⟩
    obtain ⟨e, he, t, y1, y2, y3, y4, rfl, ht, rfl, rfl, ⟨c, rfl, hc⟩, rfl⟩ := pgetl hp hj
    have := lt_of_at he
    refine ⟨t, _, rfl, SqT.of (s3 _ _ ht), rfl, _, _, rfl, _, _, rfl, _, _, rfl, _, _, rfl, rfl, rfl, ?_⟩
    refine ⟨_, rfl, _, rfl, _, rfl, c, _, rfl, .inl (hc.mono s3).sq, fun y ny => ⟨_, rfl, lsz (by simp), fun z nz => ?_⟩⟩
    have A4 := A3.new (o := .lst (e.2.2.1.map V.int)) ny
    have A5 := A4.new (o := .tup [.int e.1, .int e.2.1, .ref y, .bl e.2.2.2]) nz
    have s4 := s3.add (o := .lst (e.2.2.1.map V.int)) ny
    refine ⟨ws, A5.at, lsz' (by rw [A5.len, List.length_take]; omega), ws ++ [.ref z], (s4.add nz).mut hD, ?_⟩
    rw [take_snoc he]
    exact A5.push ⟨z, _, _, _, _, rfl, df_at upd_same (s4.free nz) (A4.ne nz), rfl, rfl, ⟨y, rfl, df_at (upd_keep upd_same nz) (s3.free ny) (A3.ne ny)⟩, rfl⟩
  · rintro H3 ⟨ws, s3, A3⟩
    rw [List.take_of_length_le (by rw [hp.length]; exact Nat.le_refl _)] at A3
    exact k _ _ s3 A3.done
def spRdI (K : PySem.W.Frag) : Sp := fun vs H Q _ => ∃ (q dx : Addr), vs = [.ref q] ∧ H q = some (.ins (ga K "Reader") dx []) ∧
  ∀ H' r rdx da pl ta ud hv ev uv, But1 H H' q → H' q = some (.ins (ga K "Reader") dx (flRD (.ref r) (.ref ud) (.int 0) (.int (-1)))) → H r = none → r ≠ q → H' r = some (.ins (ga K "LeafReader") rdx (flLR (.ref da) (.int 1) (.int 1) (.int 0) (.int 0) (.int (-1)) hv (.ref ta) ev uv (.ref pl))) → H da = none → H pl = none → H ta = none → H ud = none → H' da = some (.lst []) → H' pl = some (.dK []) → H' ta = some (.lst []) → H' ud = some (.dK []) → da ≠ ta → ud ≠ pl → Q .non H'
theorem ok_Reader_init (T : Txt K mg) : FnOk P w K mg base CX0 3 (ma K (ga K "Reader") "__init__") (fdAt K (ma K (ga K "Reader") "__init__")) ["self"] (spRdI K) := by
  refine okD T.F_Reader_init sc_Reader_init (fun vs H Q E h => ?_) (fun cdv A outer s H vs Q E hr h => ?_)
  · obtain ⟨_, _, rfl, _⟩ := h
    rfl
  obtain ⟨q, dx, rfl, hq0, k⟩ := h
  have nd := sc_Reader_init.nd
  refine ⟨_, ((pss_cons (ps_fld (pv 0) (pe_make0 T.mk_LeafReader (ok_LeafReader_init T) (hr.mono (by decide)) rfl T.g_LeafReader T.b_LeafReader_init .nil pass0) rfl)
      (pss_cons (ps_fld (pv 0) pe_dnewK rfl)
      (pss_cons (ps_fld (pv 0) pe_int rfl)
      (pss_one (ps_fld (pv 0) (pe_un un_neg pe_int) rfl)))))), ?_⟩
  refine fun r rdx nr nrdx ner => ?_
  have s0 : Same H (upd (upd H rdx (.own r)) r (.ins (ga K "LeafReader") rdx [])) := fun a o h => (upd_ne (ne_of_none h nr)).trans ((upd_ne (ne_of_none h nrdx)).trans h)
  refine ⟨r, rdx, rfl, upd_same, fun H1 da pl ta hv ev uv b1 ob1 nda npl nta hda hpl hta ndt => ⟨rfl, ?_⟩⟩
  have s1 : Same H H1 := b1.frz s0 nr
  have nrq : r ≠ q := (ne_of_none hq0 nr).symm
  have fda := s0.free nda
  have fpl := s0.free npl
  have fta := s0.free nta
  refine ⟨_, rfl, q, _, dx, _, rfl, s1 _ _ hq0, T.c_Reader, T.a_Reader__leaves, by decide, ?_⟩
  refine fun ud nud => ⟨_, rfl, q, _, dx, _, rfl, upd_keep upd_same nud, T.c_Reader, T.a_Reader__units, by show 1 < 1000; decide, ?_⟩
  refine ⟨_, rfl, q, _, dx, _, rfl, upd_same, T.c_Reader, T.a_Reader__given, by show 2 < 1000; decide, ?_⟩
  refine ⟨_, rfl, _, rfl, q, _, dx, _, rfl, upd_same, T.c_Reader, T.a_Reader__bad, by show 3 < 1000; decide, ?_⟩
  rw [upd_upd, upd_upd]
  have nuq : ud ≠ q := fun z => by rw [z, upd_same] at nud; cases nud
  have nud1 : H1 ud = none := by rw [upd_ne nuq] at nud; exact nud
  have kp : ∀ {a : Addr} {o o2 : HO}, H1 a = some o → a ≠ q → upd (upd (upd H1 q (.ins (ga K "Reader") dx (putF "_leaves" (.ref r) []))) ud (.dK [])) q o2 a = some o := fun h ne => (upd_ne ne).trans (upd_keep ((upd_ne ne).trans h) nud)
  have npq : pl ≠ q := (ne_of_none hq0 fpl).symm
  refine k _ r rdx da pl ta ud hv ev uv (fun a o h ne => kp (s1 _ _ h) ne) (by rw [upd_same, iRD]) nr nrq (kp ob1 nrq) fda fpl fta (s1.free nud1) (kp hda (ne_of_none hq0 fda).symm) (kp hpl npq) (kp hta (ne_of_none hq0 fta).symm) ((upd_ne nuq).trans upd_same) ndt (ne_of_none hpl nud1).symm
end
end Sp
namespace Sp
open PySem PySem.Spec PyProof.Rows L2
section
variable {CL CR : Addr} {stamp : Int} {p : Pr} {ls : List Leaf} {H H' : Hp} {M N X : Addr → Prop} {q : Addr} {k : Nat} {r dx ud : Addr} {giv : V} {d : LD} {us : Nat → Addr} {kvs : List (Key × V)}
/-- a thing of the caller changes -/
theorem RS.updX (R : RS CL CR stamp p ls H M N X q k r dx ud giv d us kvs) {x : Addr} {o : HO} (hx : X x) : RS CL CR stamp p ls (upd H x o) M N X q k r dx ud giv d us kvs := by
  have hn : ∀ a, N a → a ≠ x := fun a h e => R.xn x hx (by rw [← e]; exact h)
  exact ⟨(upd_ne (hn _ R.nq)).trans R.ob, R.nq, R.lr.updX (.inr hx), R.has.move (by rw [out_upd (.inr (.inr hx))]; exact Same.refl _) fun a u h e => (upd_ne (hn a h)).trans e, R.xn⟩
theorem RS.same (R : RS CL CR stamp p ls H M N X q k r dx ud giv d us kvs) (s : Same H H') : RS CL CR stamp p ls H' M N X q k r dx ud giv d us kvs :=
  ⟨s _ _ R.ob, R.nq, R.lr.same s, R.has.move (out_mono s) fun a u _ e => s _ _ e, R.xn⟩
theorem RS.give (R : RS CL CR stamp p ls H M N X q k r dx ud giv d us kvs) (g2 : V) : RS CL CR stamp p ls (upd H q (.ins CR dx (flRD (.ref r) (.ref ud) g2 (.int (-1))))) M N X q k r dx ud g2 d us kvs := by
  have eo : out (Un2 M (Un2 N X)) (upd H q (.ins CR dx (flRD (.ref r) (.ref ud) g2 (.int (-1))))) = out (Un2 M (Un2 N X)) H := out_upd (.inr (.inl R.nq))
  have nud : ud ≠ q := fun e => by
    have := R.has.hd
    rw [e, R.ob] at this; cases this
  refine ⟨upd_same, R.nq, R.lr.updX (.inl R.nq), ⟨(upd_ne nud).trans R.has.hd, R.has.nud, R.has.len, R.has.inj, R.has.hnone, fun j t ht hc => ?_⟩, R.xn⟩
  obtain ⟨a, b, ws, c, e⟩ := R.has.hsome j t ht hc
  refine ⟨a, b, ws, (upd_ne fun z => ?_).trans c, by rw [eo]; exact e⟩
  rw [z, R.ob] at c; cases c
end
section
variable {P : Program} {w : World} {K : PySem.W.Frag} {mg : Str → Option Value} {base : Heap}
def spFd (K : PySem.W.Frag) : Sp := fun vs H Q _ => ∃ (stamp : Int) (p : Pr) (od : List (Int × Int)) (inE : Int × Int → Bool) (q dx r rdx da pl ta ud b : Addr) (hv ev uv : V), vs = [.ref q, .ref b] ∧ H q = some (.ins (ga K "Reader") dx (flRD (.ref r) (.ref ud) (.int 0) (.int (-1)))) ∧
  H r = some (.ins (ga K "LeafReader") rdx (flLR (.ref da) (.int 1) (.int 1) (.int 0) (.int 0) (.int (-1)) hv (.ref ta) ev uv (.ref pl))) ∧ H da = some (.lst []) ∧ H pl = some (.dK []) ∧ H ta = some (.lst []) ∧ H ud = some (.dK []) ∧ da ≠ ta ∧ ud ≠ pl ∧ r ≠ q ∧ Li H b (encF (fileL stamp p inE od)) ∧
  OkPr p ∧ Order (lensOf p.2.2.1) od ∧ (∀ e, inE e = true → GoodE (keysOf p.2.2.1) e) ∧ (0 ≤ stamp ∧ stamp ≤ 4294967295) ∧
  ∀ H' M' N' X' giv d' us' kvs' v, (∀ a o, H a = some o → a ≠ q → a ≠ r → a ≠ da → a ≠ pl → a ≠ ud → H' a = some o) → (∀ a, Un2 M' N' a → H a = none ∨ a = q ∨ a = r ∨ a = pl ∨ a = ud) → RS (ga K "LeafReader") (ga K "Reader") stamp p (fileL stamp p inE od) H' M' N' X' q (fileL stamp p inE od).length r dx ud giv d' us' kvs' → Q v H'
theorem ok_Reader_feed (T : Txt K mg) : FnOk P w K mg base CX0 11 (ma K (ga K "Reader") "feed") (fdAt K (ma K (ga K "Reader") "feed")) ["self", "part"] (spFd K) := by
  refine okD T.F_Reader_feed sc_Reader_feed (fun vs H Q E h => ?_) (fun cdv A outer s H vs Q E hr h => ?_)
  · obtain ⟨_, _, _, _, _, _, _, _, _, _, _, _, _, _, _, _, rfl, _⟩ := h
    rfl
  obtain ⟨stamp, p, od, inE, q, dx, r, rdx, da, pl, ta, ud, b, hv, ev, uv, rfl, hq, hr', hda, hpl, hta, hud, ndt, nup, nrq, hb, ok, O, hg, hs, k⟩ := h
  have nd := sc_Reader_feed.nd
  have F := fileL_ff ok O hs inE
  have hle := encF_len F.wf
  have hl64 := F.len.1
  refine ⟨_, ((pss_cons (ps_expr (pe_meth (pe_fld (pv 0) rfl) T.c_LeafReader T.m_LeafReader_extend (ok_LeafReader_extend T) (hr.mono (by decide)) T.b_LeafReader_extend .nil pass0 (pa_cons (pv 1) pa_nil)))
      (pss_cons (ps_set (i := 2) nd rfl (Or.inl rfl) (pe_lst pa_nil))
      (pss_cons (ps_set (i := 3) nd rfl (Or.inl rfl) (pe_meth0 (pv 0) T.c_Reader T.m_Reader__next_unit (ok_Reader__next_unit T) (hr.mono (by decide)) T.b_Reader__next_unit .nil pass0))
      (pss_cons (ps_while PassesOwn.never (pt_cmpR op_notN (pv 3) pe_non (nomark _)) (pss_cons (ps_expr (pe_bm PySem.F.plainAttrs_list PySem.F.slot_list_append PySem.F.type_list_append mt_append (pv 2) (pa_cons (pv 3) pa_nil)))
        (pss_one (ps_set (i := 3) nd rfl (Or.inl rfl) (pe_meth0 (pv 0) T.c_Reader T.m_Reader__later_unit (ok_Reader__later_unit T) (hr.mono (by decide)) T.b_Reader__later_unit .nil pass0)))))
      (pss_cons (ps_fld (pv 0) (pe_op op_add (pe_fld (pv 0) rfl) (pe_callB (lenS_ K rfl) rfl T.n_len boot_len (pa_cons (pv 2) pa_nil))) rfl)
      (pss_one (ps_ret (pv 2))))))))), ?_⟩
  refine ⟨_, rfl, q, _, dx, _, _, rfl, hq, T.c_Reader, T.a_Reader__leaves, gRD_leaves _ _ _ _, r, rdx, _, rfl, hr', nLR_extend _ _ _ _ _ _ _ _ _ _ _, _, rfl, r, rdx, da, b, _, _, _, _, _, _, _, _, _, _, _, rfl, hr', hda, hb, by omega, ?_⟩
  refine ⟨Nat.zero_le _, fun f nf => ?_⟩
  have ne_rda : r ≠ da := fun e => by rw [e, hda] at hr'; cases hr'
  have ne_qda : q ≠ da := fun e => by rw [e, hda] at hq; cases hq
  have ne_plda : pl ≠ da := fun e => by rw [e, hda] at hpl; cases hpl
  have ne_udda : ud ≠ da := fun e => by rw [e, hda] at hud; cases hud
  have ne_qpl : q ≠ pl := fun e => by rw [e, hpl] at hq; cases hq
  have ne_rpl : r ≠ pl := fun e => by rw [e, hpl] at hr'; cases hr'
  have ne_qud : q ≠ ud := fun e => by rw [e, hud] at hq; cases hq
  have ne_rud : r ≠ ud := fun e => by rw [e, hud] at hr'; cases hr'
  have ne_tar : ta ≠ r := fun e => by rw [e, hr'] at hta; cases hta
  have ne_taq : ta ≠ q := fun e => by rw [e, hq] at hta; cases hta
  have ne_tapl : ta ≠ pl := fun e => by rw [e, hpl] at hta; cases hta
  have ne_taud : ta ≠ ud := fun e => by rw [e, hud] at hta; cases hta
  have old : ∀ a o, H a = some o → a ≠ da → upd (upd H da (.lst ((encF (fileL stamp p inE od)).map V.int))) f (.lst []) a = some o := fun a o h ne => upd_keep ((upd_ne ne).trans h) nf
  have hda2 : upd (upd H da (.lst ((encF (fileL stamp p inE od)).map V.int))) f (.lst []) da = some (.lst ((encF (fileL stamp p inE od)).map V.int)) := upd_keep upd_same nf
  have hf2 : upd (upd H da (.lst ((encF (fileL stamp p inE od)).map V.int))) f (.lst []) f = some (.lst []) := upd_same
  have nfo : ∀ a o, H a = some o → a ≠ f := fun a o h e => by
    by_cases c : a = da
    · rw [← e, c, upd_same] at nf; cases nf
    · rw [← e, upd_ne c, h] at nf; cases nf
  generalize upd (upd H da (.lst ((encF (fileL stamp p inE od)).map V.int))) f (.lst []) = H2 at old hda2 hf2
  let M : Addr → Prop := fun a => a = r ∨ a = pl
  let N : Addr → Prop := fun a => a = q ∨ a = ud
  let X : Addr → Prop := fun a => a = f
  let d0 : LD := ⟨rdx, da, pl, hv, .ref ta, ev, uv, [], []⟩
  have nZ : ∀ a, a ≠ r → a ≠ pl → a ≠ q → a ≠ ud → a ≠ f → ¬ Un2 M (Un2 N X) a := fun a h1 h2 h3 h4 h5 e => by
    rcases e with (e | e) | (e | e) | e
    · exact h1 e
    · exact h2 e
    · exact h3 e
    · exact h4 e
    · exact h5 e
  have R0 : RS (ga K "LeafReader") (ga K "Reader") stamp p (fileL stamp p inE od) H2 M N X q 0 r dx ud (.int 0) d0 (fun _ => f) [] := by
    refine ⟨old _ _ hq ne_qda, .inl rfl, ⟨old _ _ hr' ne_rda, .inl rfl, fun a h => ?_, fun a h => ?_, out_of hda2 (nZ da ne_rda.symm ne_plda.symm ne_qda.symm ne_udda.symm (nfo _ _ hda)), .inr rfl, old _ _ hpl ne_plda, Nat.zero_le _, fun i l h1 _ _ _ _ => absurd h1 (by omega), ⟨ta, [], rfl, out_of (old _ _ hta ndt.symm) (nZ ta ne_tar ne_tapl ne_taq ne_taud (nfo _ _ hta)), .nil⟩, fun h => absurd h (by omega), fun h => absurd h (by omega)⟩, ⟨old _ _ hud ne_udda, .inr rfl, Nat.zero_le _, fun i j h => ?_, fun j t ht hc => rfl, fun j t ht hc => ?_⟩, fun a h e => ?_⟩
    · rcases h with (h | h) | h
      · exact ⟨fun e => e.elim (fun e => nrq (by rw [← e, h])) fun e => ne_qpl (by rw [← e, h]), by rw [h, old _ _ hq ne_qda]; simp⟩
      · exact ⟨fun e => e.elim (fun e => ne_rud (by rw [← e, h])) fun e => nup (by rw [← e, h]), by rw [h, old _ _ hud ne_udda]; simp⟩
      · exact ⟨fun e => e.elim (fun e => nfo _ _ hr' (by rw [← e]; exact h)) fun e => nfo _ _ hpl (by rw [← e]; exact h), by rw [show a = f from h, hf2]; simp⟩
    · rcases h with h | h
      · rw [h, old _ _ hr' ne_rda]; simp
      · rw [h, old _ _ hpl ne_plda]; simp
    · simp [cnt, mineK] at h
    · simp [cnt, mineK] at hc
    · rcases e with e | e
      · exact nfo _ _ hq (by rw [← e]; exact h)
      · exact nfo _ _ hud (by rw [← e]; exact h)
  refine ⟨_, rfl, q, dx, _, rfl, R0.ob, nRD_next_unit _ _ _ _, ?_⟩
  dsimp only [tNil]
  refine ⟨stamp, p, od, inE, M, N, X, q, 0, r, dx, ud, .int 0, d0, _, _, rfl, R0, ok, O, hg, hs, Nat.zero_le _, fun H3 M3 N3 k3 d3 us3 kvs3 v3 fr3 R3 hk3 hv3 => ?_⟩
  have keepf : ∀ {Ha Hb : Hp} {Ma Na Mb Nb : Addr → Prop} {ka : Nat} {da' : LD} {usa kva} {g : V} {o : HO}, RS (ga K "LeafReader") (ga K "Reader") stamp p (fileL stamp p inE od) Ha Ma Na X q ka r dx ud g da' usa kva → Fr Ha (Un2 Ma Na) Hb (Un2 Mb Nb) → Ha f = some o → Hb f = some o := fun Ra fr h => fr.keep _ _ h fun e => e.elim (fun e => (Ra.lr.xd f (.inr rfl)).1 e) fun e => Ra.xn f rfl e
  refine ⟨fun m σ H' => ∃ (M' N' : Addr → Prop) (k' : Nat) (d' : LD) (us' : Nat → Addr) (kvs' : List (Key × V)) (v : V) (fs : List V), σ = [some (.ref q), some (.ref b), some (.ref f), some v] ∧ Fr H2 (Un2 (Un2 M N) X) H' (Un2 (Un2 M' N') X) ∧
      RS (ga K "LeafReader") (ga K "Reader") stamp p (fileL stamp p inE od) H' M' N' X q k' r dx ud (.int 0) d' us' kvs' ∧ k' ≤ (fileL stamp p inE od).length ∧ H' f = some (.lst fs) ∧ fs.length ≤ k' ∧
      ((v = .non ∧ k' = (fileL stamp p inE od).length) ∨ ((∃ a, v = .ref a) ∧ m = (fileL stamp p inE od).length + 1 - k' ∧ fs.length < k')), ?_, ?_⟩
  · refine ⟨(fileL stamp p inE od).length + 1 - k3, M3, N3, k3, d3, us3, kvs3, v3, [], rfl, fr3.wide, R3, hk3, keepf R0 fr3 hf2, Nat.zero_le _, ?_⟩
    rcases hv3 with h | ⟨h1, h2⟩
    · exact .inl h
    · exact .inr ⟨h2, rfl, h1⟩
  rintro m σ H4 ⟨M4, N4, k4, d4, us4, kvs4, v4, fs, rfl, fr4, R4, hk4, hf4, hfl, hc⟩
  refine ⟨_, rfl, rfl, _, rfl, ?_⟩
  rcases hc with ⟨rfl, hke⟩ | ⟨⟨a, rfl⟩, hm, hlt⟩
  · subst hke
    refine ifF (nb_f rfl) ?_
    refine ⟨_, rfl, q, _, dx, _, _, rfl, R4.ob, T.c_Reader, T.a_Reader__given, gRD_given _ _ _ _, _, rfl, _, _, rfl, .inl (SqL.of hf4), _, _, rfl, rfl, _, rfl, q, _, dx, _, rfl, R4.ob, T.c_Reader, T.a_Reader__given, by show 4 < 1000; decide, ?_⟩
    rw [pRD_given]
    refine ⟨_, rfl, k _ M4 N4 X _ d4 us4 kvs4 _ (fun a o h n1 n2 n3 n4 n5 => ?_) (fun a ha => ?_) (R4.give _)⟩
    rotate_left
    · cases e : H a with
      | none => exact .inl rfl
      | some o =>
        rcases fr4.grow a (.inl ha) with ((h | h) | h) | h
        · rcases h with h | h
          · exact .inr (.inr (.inl h))
          · exact .inr (.inr (.inr (.inl h)))
        · rcases h with h | h
          · exact .inr (.inl h)
          · exact .inr (.inr (.inr (.inr h)))
        · exact absurd h (nfo a o e)
        · by_cases c : a = da
          · rw [c, hda2] at h; cases h
          · rw [old a o e c] at h; cases h
    refine (upd_ne n1).trans (fr4.keep a o (old a o h n3) fun e => ?_)
    rcases e with ((e | e) | (e | e)) | e
    · exact n2 e
    · exact n4 e
    · exact n1 e
    · exact n5 e
    · exact nfo _ _ h e
  · refine ifT (nb_t fun z => by cases z) ⟨_, fun _ _ h => h, ?_⟩
    refine ⟨_, rfl, .inl ⟨rfl, _, SqL.of hf4⟩, _, rfl, f, _, _, rfl, rfl, hf4, lsz' (by omega), ?_⟩
    have R5 := R4.updX (x := f) (o := .lst (fs ++ [.ref a])) rfl
    have hf5 : upd H4 f (.lst (fs ++ [.ref a])) f = some (.lst (fs ++ [.ref a])) := upd_same
    have fr5 := fr4.upd (x := f) (o := .lst (fs ++ [.ref a])) (.inr rfl)
    refine ⟨_, rfl, q, dx, _, rfl, R5.ob, nRD_later_unit _ _ _ _, ?_⟩
    dsimp only [tNil]
    refine ⟨stamp, p, od, inE, M4, N4, X, q, k4, r, dx, ud, .int 0, d4, _, _, rfl, R5, ok, O, hg, hs, hk4, fun H6 M6 N6 k6 d6 us6 kvs6 v6 fr6 R6 hk6 hv6 => ?_⟩
    have hf6 := keepf R5 fr6 hf5
    rcases hv6 with ⟨h1, h2⟩ | ⟨h1, h2⟩
    · exact ⟨0, by omega, M6, N6, k6, d6, us6, kvs6, v6, _, rfl, fr5.trans fr6.wide, R6, hk6, hf6, by rw [List.length_append, List.length_singleton]; omega, .inl ⟨h1, h2⟩⟩
    · exact ⟨(fileL stamp p inE od).length + 1 - k6, by omega, M6, N6, k6, d6, us6, kvs6, v6, _, rfl, fr5.trans fr6.wide, R6, hk6, hf6, by rw [List.length_append, List.length_singleton]; omega, .inr ⟨h2, rfl, by rw [List.length_append, List.length_singleton]; omega⟩⟩
end
end Sp
namespace Sp
open PySem PySem.Spec PyProof.Rows L2
section
variable {P : Program} {w : World} {K : PySem.W.Frag} {mg : Str → Option Value} {base : Heap}
def spCz (K : PySem.W.Frag) : Sp := fun vs H Q _ => ∃ (stamp : Int) (p : Pr) (od : List (Int × Int)) (inE : Int × Int → Bool) (M N X : Addr → Prop) (q r dx ud : Addr) (giv : V) (d : LD) (us : Nat → Addr) (kvs : List (Key × V)), vs = [.ref q] ∧
  RS (ga K "LeafReader") (ga K "Reader") stamp p (fileL stamp p inE od) H M N X q (fileL stamp p inE od).length r dx ud giv d us kvs ∧ OkPr p ∧ Order (lensOf p.2.2.1) od ∧ (∀ e, inE e = true → GoodE (keysOf p.2.2.1) e) ∧ (0 ≤ stamp ∧ stamp ≤ 4294967295) ∧
  ∀ H' u, (∀ a o, H a = some o → ¬ Un2 M N a → H' a = some o) → cPr.R H' u p → Q u H'
theorem ok_Reader_close (T : Txt K mg) : FnOk P w K mg base CX0 10 (ma K (ga K "Reader") "close") (fdAt K (ma K (ga K "Reader") "close")) ["self"] (spCz K) := by
  refine okD T.F_Reader_close sc_Reader_close (fun vs H Q E h => ?_) (fun cdv A outer s H vs Q E hr h => ?_)
  · obtain ⟨_, _, _, _, _, _, _, _, _, _, _, _, _, _, _, rfl, _⟩ := h
    rfl
  obtain ⟨stamp, p, od, inE, M, N, X, q, r, dx, ud, giv, d, us, kvs, rfl, R, ok, O, hg, hs, k⟩ := h
  have nd := sc_Reader_close.nd
  have F := fileL_ff ok O hs inE
  have hlen := F.len.2
  have htl := ok.len
  refine ⟨_, ((pss_cons (ps_expr (pe_meth0 (pv 0) T.c_Reader T.m_Reader__next_unit (ok_Reader__next_unit T) (hr.mono (by decide)) T.b_Reader__next_unit .nil pass0))
      (pss_cons (ps_expr (pe_meth0 (pe_fld (pv 0) rfl) T.c_LeafReader T.m_LeafReader_finish (ok_LeafReader_finish T) (hr.mono (by decide)) T.b_LeafReader_finish .nil pass0))
      (pss_cons (ps_asg (pe_fld (pe_fld (pv 0) rfl) rfl) (pg_tup_ K rfl rfl (n := 3) (pgs_cons (pg_name (i := 1) nd rfl (Or.inl rfl)) (pgs_cons (pg_name (i := 2) nd rfl (Or.inl rfl)) (pgs_cons (pg_name (i := 3) nd rfl (Or.inl rfl)) pgs_nil)))))
      (pss_cons (ps_set (i := 4) nd rfl (Or.inl rfl) (pe_lst pa_nil))
      (pss_cons (ps_for PassesOwn.never rfl (pi_range1 rfl T.n_range (pa_cons (pe_callB (lenS_ K rfl) rfl T.n_len boot_len (pa_cons (pv 3) pa_nil)) pa_nil)) (pg_name (i := 5) nd rfl (Or.inl rfl)) (pss_cons (ps_asg (pe_ix (ixL_ K rfl) (pv 3) (pv 5) (fun _ _ => rfl)) (pg_tup_ K rfl rfl (n := 3) (pgs_cons (pg_name (i := 6) nd rfl (Or.inl rfl)) (pgs_cons (pg_name (i := 7) nd rfl (Or.inl rfl)) (pgs_cons (pg_name (i := 8) nd rfl (Or.inl rfl)) pgs_nil)))))
        (pss_one (ps_expr (pe_bm PySem.F.plainAttrs_list PySem.F.slot_list_append PySem.F.type_list_append mt_append (pv 4) (pa_cons (pe_tup (pa_cons (pv 6) (pa_cons (pv 7) (pa_cons (pe_call (ok_copied T) (hr.mono (by decide)) rfl T.g_copied T.k_copied T.b_copied .nil pass0 (pa_cons (pe_dget2 (hu_of hr) (pe_fld (pv 0) rfl) (pe_op op_add (pv 5) pe_int) (pe_lst pa_nil) ⟨rfl, rfl, rfl, rfl⟩) pa_nil)) pa_nil)))) pa_nil))))))
      (pss_one (ps_ret (pe_tup (pa_cons (pv 1) (pa_cons (pv 2) (pa_cons (pv 4) (pa_cons (pe_callTy (listOf_ K rfl) rfl T.n_list boot_list (pa_cons (pe_fld (pe_fld (pv 0) rfl) rfl) pa_nil)) pa_nil))))))))))))), ?_⟩
  refine ⟨_, rfl, q, dx, _, rfl, R.ob, nRD_next_unit _ _ _ _, ?_⟩
  dsimp only [tNil]
  refine ⟨stamp, p, od, inE, M, N, X, q, _, r, dx, ud, giv, d, _, _, rfl, R, ok, O, hg, hs, Nat.le_refl _, fun H1 M1 N1 k1 d1 us1 kvs1 v1 fr1 R1 hk1 hv1 => ?_⟩
  have hke : k1 = (fileL stamp p inE od).length := by
    rcases hv1 with ⟨_, h⟩ | ⟨h, _⟩
    · exact h
    · omega
  subst hke
  obtain ⟨l, hl⟩ : ∃ l, (fileL stamp p inE od)[(fileL stamp p inE od).length - 1]? = some l := ⟨_, List.getElem?_eq_getElem (by omega)⟩
  have h4 : lastK (fileL stamp p inE od) (fileL stamp p inE od).length = 4 := by
    have := lastK_succ hl
    rw [show (fileL stamp p inE od).length - 1 + 1 = (fileL stamp p inE od).length by omega] at this
    rw [this]
    exact (kind_at hl).2.2.2.mpr (by omega)
  have obl := R1.lr.ob
  unfold LD.fl at obl
  rw [h4] at obl
  have L1 := R1.lr
  refine ⟨_, rfl, q, _, dx, _, _, rfl, R1.ob, T.c_Reader, T.a_Reader__leaves, gRD_leaves _ _ _ _, r, d1.dx, _, rfl, obl, nLR_finish _ _ _ _ _ _ _ _ _ _ _, ?_⟩
  dsimp only [tNil]
  refine ⟨r, d1.dx, d1.da, _, _, _, _, _, _, _, _, _, _, rfl, obl, L1.data.mono (out_sub _ _), encF_pos _, ?_⟩
  obtain ⟨t0, x1, x2, x3, hh, h0, rfl, rfl, ⟨ra, rvs, rfl, hra, hrp⟩⟩ := L1.head (by omega)
  have htg := L1.tags
  rw [if_pos (by omega)] at htg
  obtain ⟨ta, tvs, htv, hta, htp⟩ := id htg
  rw [hh, htv] at obl
  have h0' := out_sub _ _ _ _ h0
  have hra' := out_sub _ _ _ _ hra
  have hrl : rvs.length = p.2.2.1.length := by rw [hrp.length, rowsOf, List.length_map]
  refine ⟨_, rfl, q, _, dx, _, _, rfl, R1.ob, T.c_Reader, T.a_Reader__leaves, gRD_leaves _ _ _ _, r, _, d1.dx, _, _, rfl, obl, T.c_LeafReader, T.a_LeafReader_head, gLR_head _ _ _ _ _ _ _ _ _ _ _, t0, _, rfl, SqT.of h0', rfl, _, _, rfl, _, _, rfl, _, _, rfl, rfl, ?_⟩
  refine ⟨Nat.zero_le _, fun f nf => ?_⟩
  have s1 : Same H1 (upd H1 f (.lst [])) := Same.new nf
  refine ⟨_, rfl, _, _, rfl, .inl (SqL.of (s1 _ _ hra')), _, rfl, by omega, by omega, for_range (n := ((rvs.length : Nat) : Int).toNat) (fun i σ H' => ∃ (u1 u2 u3 u4 : Option V) (ws : List V), σ = [some (.ref q), some (.int p.1), some (.int p.2.1), some (.ref ra), some (.ref f), u1, u2, u3, u4] ∧ Same H1 H' ∧ Acc cTr H1 H' f ws (p.2.2.1.take i))
    ⟨none, none, none, none, [], rfl, s1, Acc.nil nf upd_same⟩ ?_ ?_⟩
  · rintro i σ H' hi ⟨u1, u2, u3, u4, ws, rfl, s, A⟩
    have hi2 : i < p.2.2.1.length := by omega
    have htr : p.2.2.1[i]? = some p.2.2.1[i] := List.getElem?_eq_getElem hi2
    generalize p.2.2.1[i] = tr at htr
    have hrow : (rowsOf p.2.2.1)[i]? = some (tr.1, tr.2.1, (tr.2.2.length : Int)) := by rw [rowsOf, List.getElem?_map, htr]; rfl
    obtain ⟨x, hx, t, y1, y2, y3, rfl, ht, rfl, rfl, rfl⟩ := pget hrp hrow
    have hws : ws.length = i := by rw [A.len, List.length_take]; omega
    have hall : cnt (fileL stamp p inE od) (fileL stamp p inE od).length i = tr.2.2.length := mine_all F htr fun j l2 hj hl2 => absurd (lt_of_at hl2) (by omega)
    have hu5 := (ok.tracks tr (List.mem_of_getElem? htr)).units.1
    refine ⟨_, rfl, _, rfl, _, _, _, _, rfl, rfl, SqL.of (s _ _ hra'), at0 (i := i) (by omega) hx, t, _, rfl, SqT.of (s _ _ (out_sub _ _ _ _ ht)), rfl, _, _, rfl, _, _, rfl, _, _, rfl, rfl, ?_⟩
    refine ⟨_, rfl, .inl ⟨rfl, _, SqL.of A.at⟩, _, rfl, _, rfl, ?_⟩
    refine ⟨_, rfl, q, _, dx, _, _, rfl, s _ _ R1.ob, T.c_Reader, T.a_Reader__units, gRD_units _ _ _ _, ud, rfl, .inl ⟨kvs1, .inl (s _ _ R1.has.hd)⟩, _, rfl, _, _, rfl, rfl, Nat.zero_le _, fun z nz => ?_⟩
    have sz : Same H1 (upd H' z (.lst [])) := s.add nz
    have hz : upd H' z (.lst []) z = some (.lst []) := upd_same
    have Az := A.new (o := .lst []) nz
    have hg0 := DGet.k (k := Sum.inl ((i : Int) + 1)) (sz _ _ R1.has.hd)
    have hv : ∃ o, valV kvs1 (Sum.inl ((i : Int) + 1)) = o ∧ (cL cUn).R (upd H' z (.lst [])) (o.getD (.ref z)) tr.2.2 := by
      rcases Nat.eq_zero_or_pos tr.2.2.length with e | e
      · have hn := R1.has.hnone i tr htr (by rw [hall]; exact e)
        refine ⟨none, hn, z, [], rfl, hz, ?_⟩
        rw [List.length_eq_zero_iff.mp e]
        exact .nil
      · obtain ⟨q1, q2, ws2, q3, q4⟩ := R1.has.hsome i tr htr (by rw [hall]; exact e)
        refine ⟨_, q1, us1 i, ws2, rfl, sz _ _ q3, ?_⟩
        rw [hall, List.take_length] at q4
        exact pmap q4 fun _ _ x => cUn.mono ((out_sub _ _).trans sz) x
    obtain ⟨o, ho, hR⟩ := hv
    rw [ho] at hg0
    generalize upd H' z (.lst []) = H2 at sz Az hg0 hR
    refine ⟨o, by rw [Int.zero_add]; exact hg0, ?_⟩
    refine ⟨_, tr.2.2, rfl, hR, by omega, fun H3 u3' s3 hu3 => ⟨lsz (by simp), fun y ny => ?_⟩⟩
    have A3 := Az.mono s3
    have A4 := A3.new (o := .tup [.str tr.1, .str tr.2.1, u3']) ny
    refine ⟨f, _, _, rfl, rfl, A4.at, lsz' (by omega), _, _, _, _, ws ++ [.ref y], rfl, ((sz.trans s3).add ny).mut nf, ?_⟩
    rw [take_snoc htr]
    refine A4.push ⟨y, _, _, _, rfl, df_at upd_same ((sz.trans s3).free ny) (A3.ne ny), rfl, rfl, ?_⟩
    exact (cL cUn).mono ((df_call sz Az.at).trans (df_mono (Same.new ny))) hu3
  · rintro σ H' ⟨u1, u2, u3, u4, ws, rfl, s, A⟩
    rw [List.take_of_length_le (by omega)] at A
    have hta' := s _ _ (out_sub _ _ _ _ hta)
    refine ⟨_, rfl, _, rfl, _, rfl, ?_⟩
    refine ⟨_, rfl, q, _, dx, _, _, rfl, s _ _ R1.ob, T.c_Reader, T.a_Reader__leaves, gRD_leaves _ _ _ _, r, _, d1.dx, _, _, rfl, s _ _ obl, T.c_LeafReader, T.a_LeafReader_tags, gLR_tags _ _ _ _ _ _ _ _ _ _ _, ta, _, rfl, .inl (SqL.of hta'), fun y ny => ⟨lsz (by simp), fun z nz => ?_⟩⟩
    have s2 := (s.add (o := .lst tvs) ny)
    have A2 := (A.new (o := .lst tvs) ny).new (o := .tup [.int p.1, .int p.2.1, .ref f, .ref y]) nz
    refine k _ _ (fun a o h n1 => (s2.add nz) _ _ (fr1.keep a o h n1)) ⟨z, _, _, _, _, rfl, upd_same, rfl, rfl, A2.done', ⟨y, tvs, rfl, upd_keep upd_same nz, pmap htp fun _ _ x => (c2 cS cS).mono ((out_sub _ _).trans (s2.add nz)) x⟩⟩
end
end Sp
namespace Sp
open PySem PySem.Spec PyProof.Rows L2
section
variable {P : Program} {w : World} {K : PySem.W.Frag} {mg : Str → Option Value} {base : Heap}
def spRead : Sp := fun vs H Q _ => ∃ (stamp : Int) (p : Pr) (ls : List Leaf) (b : Addr), vs = [.ref b] ∧ Li H b (encF ls) ∧ FileOf stamp p ls ∧ OkPr p ∧ (0 ≤ stamp ∧ stamp ≤ 4294967295) ∧ ∀ H' u, Same H H' → cPr.R H' u p → Q u H'
theorem ok_read (T : Txt K mg) : FnOk P w K mg base CX0 12 (ga K "read") (fdAt K (ga K "read")) ["data"] spRead := by
  refine okD T.F_read sc_read (fun vs H Q E h => ?_) (fun cdv A outer s H vs Q E hr h => ?_)
  · obtain ⟨_, _, _, _, rfl, _⟩ := h
    rfl
  obtain ⟨stamp, p, ls, b, rfl, hb, ⟨od, inE, O, hg, rfl⟩, ok, hs, k⟩ := h
  have nd := sc_read.nd
  refine ⟨_, ((pss_cons (ps_set (i := 1) nd rfl (Or.inl rfl) (pe_make0 T.mk_Reader (ok_Reader_init T) (hr.mono (by decide)) rfl T.g_Reader T.b_Reader_init .nil pass0))
      (pss_cons (ps_expr (pe_meth (pv 1) T.c_Reader T.m_Reader_feed (ok_Reader_feed T) (hr.mono (by decide)) T.b_Reader_feed .nil pass0 (pa_cons (pv 0) pa_nil)))
      (pss_one (ps_ret (pe_meth0 (pv 1) T.c_Reader T.m_Reader_close (ok_Reader_close T) (hr.mono (by decide)) T.b_Reader_close .nil pass0)))))), ?_⟩
  refine fun q dx nq ndx neq => ?_
  have s0 : Same H (upd (upd H dx (.own q)) q (.ins (ga K "Reader") dx [])) := fun a o h => (upd_ne (ne_of_none h nq)).trans ((upd_ne (ne_of_none h ndx)).trans h)
  refine ⟨q, dx, rfl, upd_same, fun H1 r rdx da pl ta ud hv ev uv b1 obq nr nrq obr nda npl nta nud hda hpl hta hud ndt nup => ⟨rfl, ?_⟩⟩
  have s1 : Same H H1 := b1.frz s0 nq
  have fr := s0.free nr
  have fda := s0.free nda
  have fpl := s0.free npl
  have fud := s0.free nud
  refine ⟨_, rfl, q, dx, _, rfl, obq, nRD_feed _ _ _ _, _, rfl, stamp, p, od, inE, q, dx, r, rdx, da, pl, ta, ud, b, hv, ev, uv, rfl, obq, obr, hda, hpl, hta, hud, ndt, nup, nrq, hb.mono s1, ok, O, hg, hs, fun H2 M N X giv d us kvs v2 k2 g2 R => ?_⟩
  refine ⟨_, rfl, q, dx, _, rfl, R.ob, nRD_close _ _ _ _, ?_⟩
  dsimp only [tNil]
  refine ⟨stamp, p, od, inE, M, N, _, q, r, dx, ud, giv, d, us, kvs, rfl, R, ok, O, hg, hs, fun H3 u k3 hu => k H3 u (fun a o h => ?_) hu⟩
  have e1 := ne_of_none h nq
  have e2 := ne_of_none h fr
  have e3 := ne_of_none h fpl
  have e4 := ne_of_none h fud
  refine k3 a o (k2 a o (s1 _ _ h) e1 e2 (ne_of_none h fda) e3 e4) fun z => ?_
  rcases g2 a z with z | z | z | z | z
  · rw [s1 _ _ h] at z; cases z
  · exact e1 z
  · exact e2 z
  · exact e3 z
  · exact e4 z
end
end Sp
namespace Sp
open PySem PySem.Spec PyProof.Rows L2
section
variable {P : Program} {w : World} {K : PySem.W.Frag} {mg : Str → Option Value} {base : Heap} {x qual : Str} {params : Arguments} {body : List Stmt} {scope : Scope} {dvs : List V} {kws : List (Str × V)} {f : Addr} {fd : FuncData}
/-- a def that may raise -/
theorem okX {N ps : List Str} {k : Nat} {sp : Sp} (F : FunD K x qual params body scope dvs kws f fd) (S : FnScope N ps scope) (len : ∀ vs H Q E, sp vs H Q E → vs.length = ps.length)
    (hbody : ∀ (cdv : Value) (A : Around) (outer : List Env) (s : Shared) (H : Hp) (vs : List V) (Q : VK) (E : XK), Room k (A.deeper (envOfC qual scope s.heap.objs.size f cdv)) → sp vs H Q E →
      ∃ t, PSs (cxOf (L2.CX P w) P w K mg base N qual scope f cdv A outer s H E) body t ∧ t { nx := fun _ H' => Q .non H', rt := Q } (start N vs) H) : FnOk P w K mg base (L2.CX P w) (k + 1) f fd ps sp :=
  F.ok S len fun cdv A outer s H vs Q E hr hsp => hbody cdv A outer s H vs Q E hr hsp
end
theorem oexC_of {K : PySem.W.Frag} {C : Addr} (h : oexB K C = true) : OexC K C := by
  unfold oexB at h
  simp only [Bool.and_eq_true, decide_eq_true_eq] at h
  obtain ⟨h1, h2, h3, h4, h5⟩ := h
  refine ⟨?_, h2, h3, h4, h5⟩
  split at h1
  · rename_i t dd cd sl e
    split at h1
    · rename_i C' bm s0 s1 s2 s3 n s5 em es
      simp only [Bool.and_eq_true, decide_eq_true_eq, Bool.not_eq_true'] at h1
      obtain ⟨q1, q2, q3, q4, q5, q6⟩ := h1
      subst q1 q2 q3
      obtain ⟨nm, bs, mro, ns, qn, hd, sn, sb, ab, col, de⟩ := cd
      dsimp only at em q5 q6
      subst em q5 q6
      obtain ⟨sl⟩ := sl
      have es' : sl = [s0, s1, s2, s3, some (.builtin "ValueError.__new__"), s5] := es
      subst es'
      exact ⟨nm, qn, ns, bs, bm, sn, sb, ab, col, dd, s0, s1, s2, s3, s5, e, q4⟩
    · cases h1
  · cases h1
structure NhC (K : PySem.W.Frag) : Prop where
  oex : OexC K (ga K "NoHead")
  xf : XfC K (ga K "NoHead")
  noat : PySem.W.findIn K (.ref (ga K "NoHead")) "at" = some none
  ini : PySem.W.findIn K (.ref (ga K "NoHead")) "__init__" = some (some (.ref (ma K (ga K "SpoolboxError") "__init__")))
  ity : PySem.W.typeIn K (.ref (ma K (ga K "SpoolboxError") "__init__")) = some (.type "function")
  exm : PySem.W.exmOne K (.ref (ga K "NoHead")) (.ref (ga K "SpoolboxError")) = some true
  ve : PySem.W.findCls K (.type "ValueError") (.type "type") "__init__" = some (.val (.builtin "ValueError.__init__"))
theorem Txt.nh {K : PySem.W.Frag} {mg : Str → Option Value} (T : Txt K mg) : NhC K := by
  have e := T.exB
  simp only [Sp.exB, excB, Bool.and_eq_true, decide_eq_true_eq] at e
  obtain ⟨h1, ⟨g1, g2, g3, g4, g5⟩, h3, h4, h5, h6, h7, h8, h9⟩ := e
  refine ⟨oexC_of h1, ⟨g1, g2, g3, g4⟩, h3, h4, h5, h6, ?_⟩
  split at h8
  · rename_i n q
    rw [q, of_decide_eq_true h8]
  · cases h8
/-- isinstance(e, c), e the exception that the suite holds, c its own class -/
theorem isE_same {X : Cx} {a C : Addr} {cls : Value} {oe : Obj} {d : Option Addr} {pn : List (Addr × Obj)} (hz : Zc cls d oe) :
    CallR (X.suite a ((a, oe) :: pn)) (.builtin "isinstance") (fun xs H Q => cls = .ref C ∧ xs = [.ref a, .ref C] ∧ Q (.bl true) H) := by
  intro pins s σ H xs us Q I r h
  obtain ⟨rfl, rfl, q⟩ := h
  obtain ⟨hget, _⟩ := I.pin (a, oe) (List.mem_append.mpr (.inl List.mem_cons_self))
  cases r with
  | cons rx rr => cases rr with
    | cons rt rr =>
      cases rr
      cases rx
      cases rt
      refine call_isinstance (S := fun _ R s => s.heap.get? a = some oe ∧ R (.ok (.ret (.bool true))) s) (fun prog w A R s hs => isinstance_outer ?_ (fun z => nomatch z)) ⟨hget, ⟨.bl true, H, I, rfl, q⟩⟩
      have LT : PySem.W.Looks (model prog w) s.heap (typeOf (.ref a)) (.ref C) := hz.1 ▸ (PySem.W.Looks.ld hs.1).andThen .now
      unfold Builtin.«isinstance.nested»
      refine wpAny_bind (LT.at ?_)
      rw [if_pos (beq_self_eq_true _)]
      first
        | ((repeat lk); exact hs.2)
        | exact wpAny_bind (wpAny_pure (wpAny_pure hs.2))
        | exact wpAny_pure hs.2
section
variable {P : Program} {w : World} {K : PySem.W.Frag} {mg : Str → Option Value} {base : Heap}
def spSe (K : PySem.W.Frag) : Sp := fun vs H Q _ => ∃ (a C : Addr) (z : Int), vs = [.ref a, .int z] ∧ OexC K C ∧ PySem.W.findIn K (.ref C) "at" = some none ∧ H a = some (exo a C none) ∧
  ∀ dx, H dx = none → dx ≠ a → Q .non (upd (upd H dx (exd dx [("at", .int z)])) a (exo a C (some dx)))
theorem ok_Se (T : Txt K mg) : FnOk P w K mg base CX0 1 (ma K (ga K "SpoolboxError") "__init__") (fdAt K (ma K (ga K "SpoolboxError") "__init__")) ["self", "at"] (spSe K) := by
  refine okD T.F_SpoolboxError_init sc_SpoolboxError_init (fun vs H Q E h => ?_) (fun cdv A outer s H vs Q E hr h => ?_)
  · obtain ⟨_, _, _, rfl, _⟩ := h
    rfl
  obtain ⟨a, C, z, rfl, hC, hno, ha, k⟩ := h
  refine ⟨_, (pss_cons (ps_expr (pe_veinit rfl T.n_ValueError T.nh.ve (pa_cons (pv 0) (pa_cons pe_str pa_nil)))) (pss_one (ps_ost (pv 0) (pv 1)))), ?_⟩
  refine ⟨_, rfl, a, C, _, rfl, by simp, hC, ha, _, rfl, _, rfl, a, C, rfl, hC, hno, .inl ⟨ha, fun dx hd ne => k dx hd ne⟩⟩
def NhE (K : PySem.W.Frag) (H : Hp) (E : XK) : Prop := ∀ (H' : Hp) (d : Addr), Same H H' → H' d = some (.xd [("at", .int 0)]) → E (.ref (ga K "NoHead")) (some d) H'
theorem NhE.mono {H H1 : Hp} {E : XK} (h : NhE K H E) (s : Same H H1) : NhE K H1 E := fun H' d s' e => h H' d (s.trans s') e
def spFhX (K : PySem.W.Frag) : Sp := fun vs H _ E => ∃ v : V, vs = [v] ∧ (cL cLeaf).R H v [] ∧ NhE K H E
theorem okx_found_head (T : Txt K mg) : FnOk P w K mg base (L2.CX P w) 6 (ga K "found_head") (fdAt K (ga K "found_head")) ["leaves"] (spFhX K) := by
  refine okX T.F_found_head sc_found_head (fun vs H Q E h => ?_) (fun cdv A outer s H vs Q E hr h => ?_)
  · obtain ⟨_, rfl, _⟩ := h
    rfl
  obtain ⟨_, rfl, ⟨a, vs, rfl, ha, hp⟩, k⟩ := h
  cases hp
  have nd := sc_found_head.nd
  refine ⟨_, (pss_cons (ps_for (passes_of rfl) rfl (pi_list (pv 0)) (pg_name (i := 1) nd rfl (Or.inl rfl)) (pss_one (ps_if (PW.pt (pw_and (pt_cmpR op_eq (pe_ix (ixT_ K rfl) (pv 1) pe_int (fun _ _ => rfl)) (pe_gint T.i_HEAD) (nomark _)) (pw_and1 (pt_cmpR op_eq (pe_ix (ixT_ K rfl) (pv 1) pe_int (fun _ _ => rfl)) pe_int (nomark _))))) (pss_one (ps_try_thru0 (pss_one (ps_ret (pe_call (ok_read_head T) (hr.mono (by decide)) rfl T.g_read_head T.k_read_head T.b_read_head .nil pass0 (pa_cons (pe_ix (ixT_ K rfl) (pv 1) pe_int (fun _ _ => rfl)) pa_nil)))))) pss_nil)))
      (pss_one (ps_raise rfl (takes_of rfl rfl rfl rfl) (pmk_oex T.nh.oex T.nh.ini T.nh.ity (ok_Se T) (hr.mono (by decide)) T.b_SpoolboxError_init .nil pass0 rfl T.g_NoHead (pa_cons pe_int pa_nil))))), ?_⟩
  refine ⟨_, rfl, a, rfl, ⟨_, SqL.of ha⟩, for_list (K := K) (a := a) (xs := []) (fun i σ H' => H' = H) rfl (fun i σ H' _ e => by rw [e]; exact SqL.of ha) (fun i x σ H' hi _ => by simp at hi) ?_⟩
  rintro σ _ rfl
  refine ⟨by decide, fun e ne => ⟨e, ga K "NoHead", 0, rfl, T.nh.oex, T.nh.noat, upd_same, fun dx hd nde => ⟨rfl, dx, _, upd_same, ?_, ?_, k _ dx ?_ upd_same⟩⟩⟩
  · rw [upd_ne nde, upd_same]
  · rw [upd_ne nde] at hd
    exact hd
  · intro b o hb
    have nb : b ≠ e := ne_of_none hb ne
    rw [upd_ne nde] at hd
    rw [upd_ne (ne_of_none hb hd), del_ne nb, upd_ne nb, upd_ne (ne_of_none hb hd), upd_ne nb]
    exact hb
theorem okx_rebuilt (T : Txt K mg) : FnOk P w K mg base (L2.CX P w) 8 (ga K "rebuilt") (fdAt K (ga K "rebuilt")) ["leaves"] (spFhX K) := by
  refine okX T.F_rebuilt sc_rebuilt (fun vs H Q E h => ?_) (fun cdv A outer s H vs Q E hr h => ?_)
  · obtain ⟨_, rfl, _⟩ := h
    rfl
  obtain ⟨v, rfl, hv, k⟩ := h
  have nd := sc_rebuilt.nd
  refine ⟨_, ((pss_cons (ps_asg (pe_call (E := E) (okx_found_head T) (hr.mono (by decide)) rfl T.g_found_head T.k_found_head T.b_found_head .nil (passes_call (takes_of rfl rfl rfl rfl) (fun _ _ _ _ h => h)) (pa_cons (pv 0) pa_nil)) (pg_tup_ K rfl rfl (n := 3) (pgs_cons (pg_name (i := 1) nd rfl (Or.inl rfl)) (pgs_cons (pg_name (i := 2) nd rfl (Or.inl rfl)) (pgs_cons (pg_name (i := 3) nd rfl (Or.inl rfl)) pgs_nil)))))
      (pss_cons (ps_set (i := 4) nd rfl (Or.inl rfl) (pe_call (ok_sound T) (hr.mono (by decide)) rfl T.g_sound T.k_sound T.b_sound .nil pass0 (pa_cons (pv 0) pa_nil)))
      (pss_cons (ps_set (i := 5) nd rfl (Or.inl rfl) (pe_lst pa_nil))
      (pss_cons (ps_for (passes_of rfl) rfl (pi_range1 rfl T.n_range (pa_cons (pe_callB (lenS_ K rfl) rfl T.n_len boot_len (pa_cons (pv 3) pa_nil)) pa_nil)) (pg_name (i := 6) nd rfl (Or.inl rfl)) (pss_one (ps_expr (pe_bm PySem.F.plainAttrs_list PySem.F.slot_list_append PySem.F.type_list_append mt_append (pv 5) (pa_cons (pe_tup (pa_cons (pe_ix (ixT_ K rfl) (pe_ix (ixL_ K rfl) (pv 3) (pv 6) (fun _ _ => rfl)) pe_int (fun _ _ => rfl)) (pa_cons (pe_ix (ixT_ K rfl) (pe_ix (ixL_ K rfl) (pv 3) (pv 6) (fun _ _ => rfl)) pe_int (fun _ _ => rfl)) (pa_cons (pe_call (ok_units_of T) (hr.mono (by decide)) rfl T.g_units_of T.k_units_of T.b_units_of .nil pass0 (pa_cons (pv 4) (pa_cons (pe_op op_add (pv 6) pe_int) pa_nil))) pa_nil)))) pa_nil)))))
      (pss_one (ps_ret (pe_tup (pa_cons (pv 1) (pa_cons (pv 2) (pa_cons (pv 5) (pa_cons (pe_call (ok_found_tags T) (hr.mono (by decide)) rfl T.g_found_tags T.k_found_tags T.b_found_tags .nil pass0 (pa_cons (pv 0) pa_nil)) pa_nil)))))))))))), ?_⟩
  exact ⟨_, rfl, v, rfl, hv, k⟩
def spRebuildX (K : PySem.W.Frag) : Sp := fun vs H _ E => ∃ (a : Addr) (n stamp : Int) (ss : List (List Int)) (pool : List Leaf), vs = [.ref a, .int stamp, .int n] ∧ Li H a (segs ss) ∧ (segs ss).length ≤ 1000000 ∧ ss.filter (fun s => decide (s ≠ [])) = pool.map piece ∧ (∀ l ∈ pool, l.Wf) ∧
  (∀ l ∈ pool, l.stamp ≠ stamp) ∧ NhE K H E
theorem no_fin {stamp : Int} {pool : List Leaf} (h : ∀ l ∈ pool, l.stamp ≠ stamp) {finds : List Find} (e : finds.map (fun t => t.2.2) = pool) :
    (∀ t ∈ finds, t.2.2.stamp = stamp → ∃ i : Nat, ([] : List Leaf)[i]? = some t.2.2 ∧ t.2.2.number = i) ∧ (∀ (i : Nat) (l : Leaf), ([] : List Leaf)[i]? = some l → ∃ t ∈ finds, t.2.2 = l ∧ l.stamp = stamp ∧ l.number = i) := by
  subst e
  exact ⟨fun t ht hs => absurd hs (h _ (List.mem_map.mpr ⟨t, ht, rfl⟩)), fun i l hl => by simp at hl⟩
theorem okx_rebuild (T : Txt K mg) : FnOk P w K mg base (L2.CX P w) 9 (ga K "rebuild") (fdAt K (ga K "rebuild")) ["row", "stamp", "count"] (spRebuildX K) := by
  refine okX T.F_rebuild sc_rebuild (fun vs H Q E h => ?_) (fun cdv A outer s H vs Q E hr h => ?_)
  · obtain ⟨_, _, _, _, _, rfl, _⟩ := h
    rfl
  obtain ⟨a, n, stamp, ss, pool, rfl, ha, hsz, hss, hwf, hno, k⟩ := h
  have nd := sc_rebuild.nd
  refine ⟨_, ((pss_one (ps_ret (pe_call (ok_write T) (hr.mono (by decide)) rfl T.g_write T.k_write T.b_write .nil pass0 (pa_cons (pe_call (E := E) (okx_rebuilt T) (hr.mono (by decide)) rfl T.g_rebuilt T.k_rebuilt T.b_rebuilt .nil (passes_call (takes_of rfl rfl rfl rfl) (fun _ _ _ _ h => h)) (pa_cons (pe_call (ok_roll T) (hr.mono (by decide)) rfl T.g_roll T.k_roll T.b_roll .nil pass0 (pa_cons (pe_call (ok_salvage T) (hr.mono (by decide)) rfl T.g_salvage T.k_salvage T.b_salvage .nil pass0 (pa_cons (pv 0) pa_nil)) (pa_cons (pv 1) pa_nil))) pa_nil)) (pa_cons (pv 1) (pa_cons (pv 2) pa_nil))))))), ?_⟩
  refine ⟨_, rfl, a, ss, pool, rfl, ha, hsz, hss, hwf, fun H1 v finds s1 hfd hv => ?_⟩
  obtain ⟨q1, q2⟩ := no_fin hno hfd
  refine ⟨_, rfl, v, stamp, finds, [], rfl, (cL cFind).mono (fresh_sub _ _) hv, by decide, q1, q2, fun H2 v2 s2 hv2 => ?_⟩
  exact ⟨v2, rfl, (cL cLeaf).mono (fresh_sub _ _) hv2, k.mono (s1.trans s2)⟩
def spAbsent : Sp := fun vs H Q _ => ∃ (a : Addr) (v : V) (stamp : Int) (finds : List Find) (ss : List (List Int)) (pool : List Leaf), vs = [.ref a, v, .int stamp] ∧ (cL cFind).R H v finds ∧ finds.map (fun t => t.2.2) = pool ∧
  Li H a (segs ss) ∧ (segs ss).length ≤ 1000000 ∧ ss.filter (fun s => decide (s ≠ [])) = pool.map piece ∧ (∀ l ∈ pool, l.Wf) ∧ (∀ l ∈ pool, l.stamp ≠ stamp) ∧ ∀ H', Same H H' → Q (.bl true) H'
theorem ok__law_absent (T : Txt K mg) : FnOk P w K mg base CX0 10 (ga K "_law_absent") (fdAt K (ga K "_law_absent")) ["_law_row", "_law_finds", "_law_stamp"] spAbsent := by
  refine okD T.F__law_absent sc__law_absent (fun vs H Q E h => ?_) (fun cdv A outer s H vs Q E hr h => ?_)
  · obtain ⟨_, _, _, _, _, _, rfl, _⟩ := h
    rfl
  obtain ⟨a, v, stamp, finds, ss, pool, rfl, hv, hfd, ha, hsz, hss, hwf, hno, k⟩ := h
  have nd := sc__law_absent.nd
  have hr1 : Room 9 _ := hr.mono (by decide)
  refine ⟨_, (pss_cons (ps_if (PW.pt (pw_or (pt_cmpR (op_neD hr.units) (pe_call (ok_roll T) (hr.mono (by decide)) rfl T.g_roll T.k_roll T.b_roll .nil pass0 (pa_cons (pv 1) (pa_cons (pv 2) pa_nil))) (pe_lst pa_nil) (nomark _)) (pw_or1 (pt_cmpR (op_neD hr.units) (pe_call (ok_gaps T) (hr.mono (by decide)) rfl T.g_gaps T.k_gaps T.b_gaps .nil pass0 (pa_cons (pe_lst pa_nil) pa_nil)) (pe_lst pa_nil) (nomark _))))) (pss_one (ps_ret pe_bl)) pss_nil)
      (pss_cons (ps_try_as (i := 3) (tb := fun W => _) (ts := fun a cls d => _) (Wout := fun _ _ _ _ => False) rfl rfl nd rfl rfl ⟨rfl, by decide, Or.inl T.g_SpoolboxError⟩ takes0
          (fun W pn xe tk _ => pss_one (ps_expr (pe_callS (okx_rebuild T) hr1 rfl T.g_rebuild T.k_rebuild T.b_rebuild (fun σ => passAt tk σ) (pa_cons (pv 0) (pa_cons (pv 2) (pa_cons pe_int pa_nil))))))
          (fun a oe cls d pn hz hf => pss_one (ps_ret (pe_and (pe_callB (isE_same (C := ga K "NoHead") hz) rfl T.n_isinstance boot_isinstance (pa_cons (pv 3) (pa_cons (pe_glob (v := .ref _) rfl T.g_NoHead rfl) pa_nil))) (pe_one (pe_cmpR op_eq (pe_xf T.nh.xf T.nh.noat hz hf (pv 3)) pe_int (nomark _)))))))
      (pss_one (ps_ret pe_bl)))), ?_⟩
  obtain ⟨q1, q2⟩ := no_fin hno hfd
  refine ⟨_, rfl, _, rfl, v, stamp, finds, [], rfl, hv, by decide, q1, q2, fun H1 v1 s1 hv1 => ⟨Nat.zero_le _, fun z1 nz1 => neD_same (c := cL cLeaf) (x := []) ((cL cLeaf).mono ((fresh_sub _ _).trans (Same.new nz1)) hv1) ⟨z1, [], rfl, upd_same, .nil⟩ (fun x hx => by cases hx) ⟨_, rfl, iteF ?_⟩⟩⟩
  have S1 := s1.add (o := .lst []) nz1
  generalize upd H1 z1 (.lst []) = H2 at S1
  refine ⟨Nat.zero_le _, fun z2 nz2 => ⟨.ref z2, [], rfl, ⟨z2, [], rfl, upd_same, .nil⟩, by decide, fun i l hl => by simp at hl, fun l hl => by simp at hl, fun p H3 s3 np hp => ⟨Nat.zero_le _, fun z3 nz3 => neD_same (c := cL cLeaf) (x := []) ⟨p, [], rfl, upd_keep hp nz3, .nil⟩ ⟨z3, [], rfl, upd_same, .nil⟩ (fun x hx => by cases hx) ⟨_, rfl, iteF ?_⟩⟩⟩⟩
  have S3 := ((S1.add nz2).trans s3).add (o := .lst []) nz3
  generalize upd H3 z3 (.lst []) = H4 at S3
  refine ⟨_, rfl, _, rfl, a, 2, stamp, ss, pool, rfl, ha.mono S3, hsz, hss, hwf, hno, fun H5 d s5 hd => ⟨true, T.nh.exm, fun _ a0 na0 => ?_, fun q => nomatch q⟩⟩
  refine ⟨_, rfl, rfl, rfl, _, rfl, ifT rfl ⟨_, rfl, rfl, rfl, d, _, _, rfl, hd, rfl, rfl, ?_⟩⟩
  show Q (.bl (decide (V.int 0 = V.int 0))) H5
  rw [decide_eq_true rfl]
  exact k H5 (S3.trans s5)
end
end Sp
namespace Sp
open PySem PySem.Spec PyProof.Rows L2
/-- numbers below 2^16 -/
def Num (ns : List Int) : Prop := ∀ n ∈ ns, 0 ≤ n ∧ n < 65536
theorem Num.get {ns : List Int} (h : Num ns) {i : Nat} {z : Int} (e : ns[i]? = some z) : 0 ≤ z ∧ z < 65536 := h z (List.mem_of_getElem? e)
theorem at_some {ns : List Int} {i : Nat} (h : i < ns.length) : ∃ z, ns[i]? = some z := ⟨_, List.getElem?_eq_getElem h⟩
theorem Li.at' {xs : List Int} {i : Nat} {j z : Int} (e : j = (i : Int)) (h : xs[i]? = some z) : atI (xs.map V.int) j = some (V.int z) := by rw [e]; exact Li.at h
theorem sql_mono {K : PySem.W.Frag} {H H' : Hp} {a : Addr} {xs : List V} (h : SqL K H a xs) (s : Same H H') : SqL K H' a xs := by
  rcases h with (h | ⟨o, h⟩) | h
  · exact .inl (.inl (s _ _ h))
  · exact .inl (.inr ⟨o, s _ _ h⟩)
  · exact .inr h
theorem cut_to' (xs : List Int) (j : Nat) : cutV (xs.map V.int) none (some (j : Int)) = (xs.take j).map V.int := by
  unfold cutV
  rw [HT.sIx_nat, List.length_map]
  show List.take (min j xs.length - 0) (List.drop 0 _) = _
  rw [List.drop_zero, Nat.sub_zero, List.map_take]
  rcases Nat.le_total j xs.length with h | h
  · rw [Nat.min_eq_left h]
  · rw [Nat.min_eq_right h, List.take_of_length_le (by simp), List.take_of_length_le (by simp; omega)]
theorem cut_last (xs : List Int) : cutV (xs.map V.int) none (some (-1)) = (xs.take (xs.length - 1)).map V.int := by
  have e : HT.sIx (xs.map V.int).length (xs.map V.int).length (some (-1)) = xs.length - 1 := by
    show (if (-1 : Int) < 0 then ((-1 : Int) + ((xs.map V.int).length : Int)).toNat else min (-1 : Int).toNat (xs.map V.int).length) = _
    rw [if_pos (by decide), List.length_map]
    omega
  unfold cutV
  rw [e]
  show List.take (xs.length - 1 - 0) (List.drop 0 _) = _
  rw [List.drop_zero, Nat.sub_zero, List.map_take]
/-- cuts of any list of values -/
theorem cutL_to (vs : List V) (j : Nat) : cutV vs none (some (j : Int)) = vs.take j := by
  unfold cutV
  rw [HT.sIx_nat]
  show List.take (min j vs.length - 0) (List.drop 0 _) = _
  rw [List.drop_zero, Nat.sub_zero]
  rcases Nat.le_total j vs.length with h | h
  · rw [Nat.min_eq_left h]
  · rw [Nat.min_eq_right h, List.take_of_length_le (Nat.le_refl _), List.take_of_length_le h]
theorem cutL_from {vs : List V} {j : Nat} (h : j ≤ vs.length) : cutV vs (some (j : Int)) none = vs.drop j := by
  unfold cutV
  rw [HT.sIx_nat, Nat.min_eq_left h]
  show List.take (vs.length - j) _ = _
  rw [List.take_of_length_le (by simp)]
end Sp
namespace Sp
open PySem PySem.Spec PyProof.Rows L2
def absI (i : Int) : Int := if i < 0 then -i else i
section
variable {P : Program} {w : World} {K : PySem.W.Frag} {mg : Str → Option Value} {base : Heap}
def spNumbers (K : PySem.W.Frag) : Sp := fun vs H Q _ => ∃ (a : Addr) (xs : List Int) (c : Nat), vs = [.ref a, .int c] ∧ SqL K H a (xs.map V.int) ∧ c ≤ 400 ∧ ∀ H' p ns, Same H H' → H p = none → Li H' p ns → ns.length = c → Num ns → Q (.ref p) H'
theorem ok__law_numbers (T : Txt K mg) : FnOk P w K mg base CX0 1 (ga K "_law_numbers") (fdAt K (ga K "_law_numbers")) ["_law_script", "_law_count"] (spNumbers K) := by
  refine okD T.F__law_numbers sc__law_numbers (fun vs H Q E h => ?_) (fun cdv A outer s H vs Q E hr h => ?_)
  · obtain ⟨_, _, _, rfl, _⟩ := h
    rfl
  obtain ⟨a, xs, c, rfl, ha, hc, k⟩ := h
  have nd := sc__law_numbers.nd
  refine ⟨_, ((pss_cons (ps_set (i := 2) nd rfl (Or.inl rfl) (pe_op op_cat (pe_lc (own := [("_law_cell", 3)]) rfl nd (pi_list (pe_slice sl_list (pv 0) po_none (po_some pe_int))) (blkOk_by (N := N__law_numbers) (sc := defScope s__law_numbers) (by decide +kernel)) (fun _ _ _ _ _ => (pg_name (i := 3) nd rfl (Or.inl rfl))) (fun _ _ _ _ _ => pts_nil) (fun _ _ _ _ _ => (pe_callB call_abs rfl T.n_abs boot_abs (pa_cons (pv 3) pa_nil)))) (pe_lst (pa_cons pe_int pa_nil))))
      (pss_cons (ps_if (pt_cmpR op_gt (pe_callB (lenS_ K rfl) rfl T.n_len boot_len (pa_cons (pv 0) pa_nil)) pe_int (nomark _)) (pss_one (ps_set (i := 2) nd rfl (Or.inl rfl) (pe_slice sl_list (pv 2) po_none (po_some (pe_un un_neg pe_int))))) pss_nil)
      (pss_cons (ps_setLc (i := 4) (own := [("_law_cell", 3)]) rfl nd rfl rfl (sw_true rfl rfl rfl (by decide +kernel)) (pi_list (pv 2)) (blkOk_by (N := N__law_numbers) (sc := defScope s__law_numbers) (by decide +kernel)) (fun _ _ _ _ _ => (pg_name (i := 3) nd rfl (Or.inl rfl))) (fun _ _ _ _ _ => pts_nil) (fun _ _ _ _ _ => (pe_op op_mod (pe_callTy call_int1 rfl T.n_int boot_int (pa_cons (pe_op op_add (pe_op op_mul (pv 3) pe_int) pe_int) pa_nil)) pe_int)))
      (pss_cons (ps_set (i := 5) nd rfl (Or.inl rfl) (pe_lst pa_nil))
      (pss_cons (ps_for PassesOwn.never rfl (pi_range1 rfl T.n_range (pa_cons (pv 1) pa_nil)) (pg_name (i := 6) nd rfl (Or.inl rfl)) (pss_cons (ps_set (i := 7) nd rfl (Or.inl rfl) (pe_op op_mod (pe_callTy call_int1 rfl T.n_int boot_int (pa_cons (pv 6) pa_nil)) (pe_callB (lenS_ K rfl) rfl T.n_len boot_len (pa_cons (pv 2) pa_nil))))
        (pss_one (ps_if (pt_cmpR op_ge (pe_ix (ixL_ K rfl) (pv 2) (pv 7) (fun _ _ => rfl)) (pe_op op_pow pe_int pe_int) (nomark _)) (pss_cons (ps_expr (pe_bm PySem.F.plainAttrs_list PySem.F.slot_list_append PySem.F.type_list_append mt_append (pv 5) (pa_cons (pe_op op_mod (pe_callTy call_int1 rfl T.n_int boot_int (pa_cons (pe_ix (ixL_ K rfl) (pv 2) (pv 7) (fun _ _ => rfl)) pa_nil)) pe_int) pa_nil)))
          (pss_one (ps_asg (pe_op op_fdiv (pe_ix (ixL_ K rfl) (pv 2) (pv 7) (fun _ _ => rfl)) pe_int) (pg_sub (pv 2) (pv 7) set_list)))) (pss_cons (ps_asg (pe_op op_mod (pe_callTy call_int1 rfl T.n_int boot_int (pa_cons (pe_op op_add (pe_op op_add (pe_op op_mul (pe_ix (ixL_ K rfl) (pv 4) (pv 7) (fun _ _ => rfl)) pe_int) pe_int) (pe_op op_mul pe_int (pv 6))) pa_nil)) pe_int) (pg_sub (pv 4) (pv 7) set_list))
          (pss_one (ps_expr (pe_bm PySem.F.plainAttrs_list PySem.F.slot_list_append PySem.F.type_list_append mt_append (pv 5) (pa_cons (pe_op op_mod (pe_callTy call_int1 rfl T.n_int boot_int (pa_cons (pe_op op_add (pe_ix (ixL_ K rfl) (pv 2) (pv 7) (fun _ _ => rfl)) (pe_op op_fdiv (pe_ix (ixL_ K rfl) (pv 4) (pv 7) (fun _ _ => rfl)) pe_int)) pa_nil)) pe_int) pa_nil)))))))))
      (pss_one (ps_ret (pv 5))))))))), ?_⟩
  refine ⟨_, rfl, _, rfl, _, _, rfl, ha, fun y ny => ?_⟩
  rw [show (63 : Int) = ((63 : Nat) : Int) from rfl, cut_to']
  have hy : Li (upd H y (.lst ((xs.take 63).map V.int))) y (xs.take 63) := upd_same
  have s1 : Same H (upd H y (.lst ((xs.take 63).map V.int))) := Same.new ny
  generalize upd H y (.lst ((xs.take 63).map V.int)) = H1 at hy s1
  have hxl : (xs.take 63).length ≤ 63 := by rw [List.length_take]; omega
  refine ⟨y, rfl, ⟨_, hy.sq⟩, fun D hD => lc_list (K := K) (a := y) (xs := (xs.take 63).map V.int) (fun i H' => H' = upd H1 D (.lst ((((xs.take 63).map absI).take i).map V.int))) rfl (fun i H' _ e => by rw [e]; exact (hy.keep hD).sq) ?_ ?_⟩
  · rintro i x H' hi rfl
    obtain ⟨z, hz, rfl⟩ := int_at hi
    have hz2 : ((xs.take 63).map absI)[i]? = some (absI z) := by rw [List.getElem?_map, hz]; rfl
    have hil := lt_of_at hz
    refine ⟨rfl, _, rfl, z, rfl, _, upd_same, lsz' (by simp; omega), ?_⟩
    rw [take_snoc hz2, upd_upd, List.map_append]
    rfl
  rintro H2 rfl
  rw [List.take_of_length_le (by simp)]
  have hD2 : Li (upd H1 D (.lst (((xs.take 63).map absI).map V.int))) D ((xs.take 63).map absI) := upd_same
  have s2 := s1.add (o := .lst (((xs.take 63).map absI).map V.int)) hD
  generalize upd H1 D (.lst (((xs.take 63).map absI).map V.int)) = H2 at hD2 s2
  refine ⟨lsz (by simp), fun z nz => ⟨D, z, _, [.int 0], rfl, rfl, hD2.keep nz, upd_same, lsz (by simp; omega), fun e ne => ?_⟩⟩
  have s3 := (s2.add (o := .lst [.int 0]) nz).add (o := .lst (((xs.take 63).map absI).map V.int ++ [.int 0])) ne
  have he : Li (upd (upd H2 z (.lst [.int 0])) e (.lst (((xs.take 63).map absI).map V.int ++ [.int 0]))) e ((xs.take 63).map absI ++ [0]) := by
    show upd _ _ _ _ = _
    rw [upd_same, List.map_append]
    rfl
  generalize upd (upd H2 z (.lst [.int 0])) e (.lst (((xs.take 63).map absI).map V.int ++ [.int 0])) = H3 at s3 he
  dsimp only [gName]
  refine seq_mid (t := tIfS _ _ _) (fun σ' H' => ∃ (e : Addr) (rs : List Int), σ' = [some (.ref a), some (.int c), some (.ref e), none, none, none, none, none] ∧ Same H H' ∧ H e = none ∧ Li H' e rs ∧ 1 ≤ rs.length ∧ rs.length ≤ 64) (fun nx hnx => ?_) ?_
  · have hel : ((xs.take 63).map absI ++ [0]).length = (xs.take 63).length + 1 := by simp
    refine ⟨_, rfl, _, _, rfl, .inl (sql_mono ha s3), _, _, rfl, rfl, _, rfl, ?_⟩
    rw [List.length_map]
    by_cases c0 : 0 < xs.length
    · refine yT (by omega) ⟨_, rfl, _, rfl, _, rfl, _, _, rfl, he.sq, fun p np => ?_⟩
      dsimp only [gName]
      rw [cut_last]
      have hxm : 1 ≤ (xs.take 63).length := by rw [List.length_take]; omega
      exact hnx _ _ ⟨p, _, rfl, s3.add np, s3.free np, upd_same, by rw [List.length_take, hel]; omega, by rw [List.length_take, hel]; omega⟩
    · exact yF (by omega) (hnx _ _ ⟨e, _, rfl, s3, (s2.add nz).free ne, he, by omega, by omega⟩)
  rintro _ H4 ⟨e4, rs, rfl, s4, ne4, he4, hr1, hr2⟩
  refine ⟨_, rfl, e4, rfl, ⟨_, he4.sq⟩, fun D4 hD4 => lc_list (K := K) (a := e4) (xs := rs.map V.int) (fun i H' => ∃ ms : List Int, ms.length = i ∧ H' = upd H4 D4 (.lst (ms.map V.int))) ⟨[], rfl, rfl⟩ (fun i H' _ ⟨_, _, e⟩ => by rw [e]; exact (he4.keep hD4).sq) ?_ ?_⟩
  · rintro i x H' hi ⟨ms, hms, rfl⟩
    obtain ⟨z, hz, rfl⟩ := int_at hi
    have hil := lt_of_at hz
    refine ⟨rfl, _, rfl, _, _, rfl, rfl, ?_⟩
    refine ⟨.inr ⟨by decide, by decide⟩, _, _, rfl, rfl, .inl ⟨_, rfl, ?_⟩⟩
    refine ⟨_, _, rfl, rfl, (by show (0 : Int) < 2147483647; decide), _, upd_same, lsz' (by simp; omega), ms ++ [(z * 48271 + 11) % 2147483647], by simp [hms], ?_⟩
    rw [upd_upd, List.map_append]
    rfl
  rintro H5 ⟨ms, hms, rfl⟩
  have hD5 : Li (upd H4 D4 (.lst (ms.map V.int))) D4 ms := upd_same
  have he5 := he4.keep (o := .lst (ms.map V.int)) hD4
  have s5 := s4.add (o := .lst (ms.map V.int)) hD4
  have nD4 : H D4 = none := s4.free hD4
  have ned : e4 ≠ D4 := ne_of_none he4 hD4
  generalize upd H4 D4 (.lst (ms.map V.int)) = H5 at hD5 he5 s5
  rw [List.length_map] at hms
  refine ⟨Nat.zero_le _, fun f nf => ?_⟩
  have nfH := s5.free nf
  have nef : e4 ≠ f := ne_of_none he5 nf
  have ndf : D4 ≠ f := ne_of_none hD5 nf
  refine ⟨_, rfl, _, rfl, by omega, by omega, for_range (n := ((c : Nat) : Int).toNat) (fun i σ H' => ∃ (u1 u2 : Option V) (rs ms ns : List Int), σ = [some (.ref a), some (.int c), some (.ref e4), none, some (.ref D4), some (.ref f), u1, u2] ∧ Same H H' ∧ Li H' e4 rs ∧ Li H' D4 ms ∧ Li H' f ns ∧ 1 ≤ rs.length ∧ rs.length ≤ 64 ∧ ms.length = rs.length ∧ ns.length = i ∧ Num ns)
    ⟨none, none, rs, ms, [], rfl, s5.add nf, he5.keep nf, hD5.keep nf, upd_same, hr1, hr2, hms, rfl, fun n h => by (cases h)⟩ ?_ ?_⟩
  · rintro i σ H' hi ⟨u1, u2, rs, ms, ns, rfl, s6, he6, hD6, hf6, hr1, hr2, hms, hns, hN⟩
    refine ⟨_, rfl, .inl ⟨_, rfl, _, rfl, _, _, rfl, .inl he6.sq, ?_⟩⟩
    rw [List.length_map]
    refine ⟨_, _, rfl, rfl, (by show (0 : Int) < (rs.length : Int); omega), ?_⟩
    obtain ⟨n, hn, hnl⟩ : ∃ n : Nat, (0 + (i : Int)) % (rs.length : Int) = (n : Int) ∧ n < rs.length := by
      have h1 := Int.emod_nonneg (0 + (i : Int)) (show (rs.length : Int) ≠ 0 by omega)
      have h2 := Int.emod_lt_of_pos (0 + (i : Int)) (show (0 : Int) < (rs.length : Int) by omega)
      exact ⟨((0 + (i : Int)) % (rs.length : Int)).toNat, by omega, by omega⟩
    dsimp only
    rw [hn]
    have hrn : rs[n]? = some rs[n] := List.getElem?_eq_getElem hnl
    have hmn : ms[n]? = some (ms[n]'(by omega)) := List.getElem?_eq_getElem (by omega)
    generalize rs[n] = rv at hrn
    generalize ms[n]'(by omega) = mv at hmn
    refine ⟨_, rfl, _, rfl, _, _, _, _, rfl, rfl, he6.sq, Li.at hrn, ?_⟩
    have upd2 : ∀ {x y : Addr} {zs : List Int} {o : HO}, Li H' x zs → x ≠ y → Li (upd H' y o) x zs := fun h ne => (upd_ne ne).trans h
    refine ⟨_, _, rfl, rfl, ⟨by decide, by decide, by decide⟩, _, _, rfl, rfl, _, rfl, ?_⟩
    have hixr : ixN (rs.map V.int).length (n : Int) = some n := Evl.ixN_nat (by rw [List.length_map]; exact hnl)
    have hixm : ixN (ms.map V.int).length (n : Int) = some n := Evl.ixN_nat (by rw [List.length_map]; omega)
    have hmod : ∀ z : Int, 0 ≤ z % 65536 ∧ z % 65536 < 65536 := fun z => by omega
    by_cases hbig : (10 : Int) ^ (18 : Int).toNat ≤ rv
    · refine yT hbig ?_
      refine ⟨_, rfl, .inl ⟨rfl, _, hf6.sq⟩, _, rfl, _, rfl, _, _, _, _, rfl, rfl, he6.sq, Li.at hrn, .inl ⟨_, rfl, _, _, rfl, rfl, (by show (0 : Int) < 65536; decide), ?_⟩⟩
      refine ⟨f, _, _, rfl, rfl, hf6, lsz' (by rw [List.length_map]; omega), ?_⟩
      have hf7 : Li (upd H' f (.lst (ns.map V.int ++ [.int (rv % 65536)]))) f (ns ++ [rv % 65536]) := upd_same.trans (by rw [List.map_append]; rfl)
      have he7 := upd2 (o := .lst (ns.map V.int ++ [.int (rv % 65536)])) he6 nef
      have hD7 := upd2 (o := .lst (ns.map V.int ++ [.int (rv % 65536)])) hD6 ndf
      have s7 := s6.mut (o := .lst (ns.map V.int ++ [.int (rv % 65536)])) nfH
      dsimp only
      generalize upd H' f (.lst (ns.map V.int ++ [.int (rv % 65536)])) = H7 at hf7 he7 hD7 s7
      refine ⟨_, rfl, _, rfl, _, _, _, _, rfl, rfl, he7.sq, Li.at hrn, _, _, rfl, rfl, ⟨by decide, by decide⟩, _, rfl, _, rfl, e4, _, _, n, rfl, rfl, he7, hixr, ?_⟩
      refine ⟨_, _, rs.set n (rv / 65536), ms, ns ++ [rv % 65536], rfl, s7.mut ne4, ?_, (upd_ne ned.symm).trans hD7, (upd_ne nef.symm).trans hf7, by rw [List.length_set]; exact hr1, by rw [List.length_set]; exact hr2, by rw [List.length_set]; exact hms, by simp [hns], fun y hy => ?_⟩
      · show upd _ _ _ _ = _
        rw [upd_same, List.map_set]
      · rcases List.mem_append.mp hy with hy | hy
        · exact hN y hy
        · rw [List.mem_singleton] at hy
          rw [hy]
          exact hmod rv
    · refine yF hbig ?_
      have upd3 : ∀ {x y : Addr} {zs : List Int} {o : HO} {h : Hp}, Li h x zs → x ≠ y → Li (upd h y o) x zs := fun h ne => (upd_ne ne).trans h
      refine ⟨_, rfl, _, rfl, _, _, _, _, rfl, rfl, hD6.sq, Li.at hmn, _, _, rfl, rfl, .inr ⟨by decide, by decide⟩, _, _, rfl, rfl, _, rfl, _, _, rfl, rfl, .inl ⟨by decide, by decide⟩, _, _, rfl, rfl, .inl ⟨_, rfl, _, _, rfl, rfl, (by show (0 : Int) < 2147483647; decide), _, rfl, _, rfl, D4, _, _, n, rfl, rfl, hD6, hixm, ?_⟩⟩
      dsimp only
      generalize (mv * 16807 + 12345 + 7919 * (0 + (i : Int))) % 2147483647 = mw
      have hD7 : Li (upd H' D4 (.lst ((ms.map V.int).set n (.int mw)))) D4 (ms.set n mw) := upd_same.trans (by rw [List.map_set])
      have he7 := upd2 (o := .lst ((ms.map V.int).set n (.int mw))) he6 ned
      have hf7 := upd2 (o := .lst ((ms.map V.int).set n (.int mw))) hf6 ndf.symm
      have s7 := s6.mut (o := .lst ((ms.map V.int).set n (.int mw))) nD4
      have hmn7 : (ms.set n mw)[n]? = some mw := by rw [List.getElem?_set_self (by omega)]
      generalize upd H' D4 (.lst ((ms.map V.int).set n (.int mw))) = H7 at hf7 he7 hD7 s7
      refine ⟨_, rfl, .inl ⟨rfl, _, hf7.sq⟩, _, rfl, _, rfl, _, _, _, _, rfl, rfl, he7.sq, Li.at hrn, _, rfl, _, rfl, _, _, _, _, rfl, rfl, hD7.sq, Li.at hmn7, _, _, rfl, rfl, ⟨by decide, by decide⟩, _, _, rfl, rfl, .inl ⟨_, rfl, _, _, rfl, rfl, (by show (0 : Int) < 65536; decide), f, _, _, rfl, rfl, hf7, lsz' (by rw [List.length_map]; omega), ?_⟩⟩
      refine ⟨_, _, rs, ms.set n mw, ns ++ [(rv + mw / 5) % 65536], rfl, s7.mut nfH, upd3 he7 nef, upd3 hD7 ndf, ?_, hr1, hr2, by rw [List.length_set]; exact hms, by simp [hns], fun y hy => ?_⟩
      · show upd _ _ _ _ = _
        rw [upd_same, List.map_append]
        rfl
      · rcases List.mem_append.mp hy with hy | hy
        · exact hN y hy
        · rw [List.mem_singleton] at hy
          rw [hy]
          exact hmod _
  · rintro σ H' ⟨u1, u2, rs, ms, ns, rfl, s6, he6, hD6, hf6, hr1, hr2, hms, hns, hN⟩
    exact ⟨_, rfl, k H' f ns s6 nfH hf6 (by omega) hN⟩
end
end Sp
namespace Sp
open PySem PySem.Spec PyProof.Rows L2
section
variable {P : Program} {w : World} {K : PySem.W.Frag} {mg : Str → Option Value} {base : Heap}
def spContent : Sp := fun vs H Q _ => ∃ (a b : Addr) (at_ : Nat) (ns bf : List Int), vs = [.ref a, .int at_, .ref b] ∧ Li H a ns ∧ Num ns ∧ at_ + 3 < ns.length ∧ Li H b bf ∧ Bytes bf ∧ bf.length ≤ 200 ∧
  ∀ H' p c, Same H H' → H p = none → Li H' p c → Bytes c → c.length ≤ 300 → Q (.ref p) H'
theorem ok__law_content (T : Txt K mg) : FnOk P w K mg base CX0 1 (ga K "_law_content") (fdAt K (ga K "_law_content")) ["_law_numbers_here", "_law_at", "_law_before"] spContent := by
  refine okD T.F__law_content sc__law_content (fun vs H Q E h => ?_) (fun cdv A outer s H vs Q E hr h => ?_)
  · obtain ⟨_, _, _, _, _, rfl, _⟩ := h
    rfl
  obtain ⟨a, b, at_, ns, bf, rfl, ha, hN, hat, hb, hB, hbl, k⟩ := h
  have nd := sc__law_content.nd
  obtain ⟨z0, h0⟩ := at_some (show at_ < ns.length by omega)
  obtain ⟨z1, h1⟩ := at_some (show at_ + 1 < ns.length by omega)
  obtain ⟨z2, h2⟩ := at_some (show at_ + 2 < ns.length by omega)
  obtain ⟨z3, h3⟩ := at_some (show at_ + 3 < ns.length by omega)
  have n0 := hN.get h0
  refine ⟨_, ((pss_cons (ps_set (i := 3) nd rfl (Or.inl rfl) (pe_op op_mod (pe_callTy call_int1 rfl T.n_int boot_int (pa_cons (pe_ix (ixL_ K rfl) (pv 0) (pv 1) (fun _ _ => rfl)) pa_nil)) pe_int))
      (pss_cons (ps_if (pt_cmpR op_eq (pe_op op_mod (pe_callTy call_int1 rfl T.n_int boot_int (pa_cons (pe_ix (ixL_ K rfl) (pv 0) (pv 1) (fun _ _ => rfl)) pa_nil)) pe_int) pe_int (nomark _)) (pss_one (ps_set (i := 3) nd rfl (Or.inl rfl) (pe_op op_add pe_int (pe_op op_mod (pe_callTy call_int1 rfl T.n_int boot_int (pa_cons (pe_ix (ixL_ K rfl) (pv 0) (pv 1) (fun _ _ => rfl)) pa_nil)) pe_int)))) pss_nil)
      (pss_cons (ps_if (PW.pt (pw_and (pt_cmpR op_eq (pe_op op_mod (pe_callTy call_int1 rfl T.n_int boot_int (pa_cons (pe_ix (ixL_ K rfl) (pv 0) (pe_op op_add (pv 1) pe_int) (fun _ _ => rfl)) pa_nil)) pe_int) pe_int (nomark _)) (pw_and1 (pt_cmpR op_gt (pe_callB (lenS_ K rfl) rfl T.n_len boot_len (pa_cons (pv 2) pa_nil)) pe_int (nomark _))))) (pss_cons (ps_set (i := 4) nd rfl (Or.inl rfl) (pe_op op_mod (pe_callTy call_int1 rfl T.n_int boot_int (pa_cons (pe_ix (ixL_ K rfl) (pv 0) (pe_op op_add (pv 1) pe_int) (fun _ _ => rfl)) pa_nil)) (pe_callB (lenS_ K rfl) rfl T.n_len boot_len (pa_cons (pv 2) pa_nil))))
        (pss_one (ps_ret (pe_op op_cat (pe_op op_cat (pe_slice sl_list (pv 2) po_none (po_some (pv 4))) (pe_op op_rep (pe_lst (pa_cons (pe_op op_mod (pe_callTy call_int1 rfl T.n_int boot_int (pa_cons (pe_ix (ixL_ K rfl) (pv 0) (pe_op op_add (pv 1) pe_int) (fun _ _ => rfl)) pa_nil)) pe_int) pa_nil)) (pe_op op_sub (pv 3) (pe_op op_mul pe_int (pe_op op_fdiv (pv 3) pe_int))))) (pe_slice sl_list (pv 2) (po_some (pe_op op_add (pv 4) pe_int)) po_none))))) pss_nil)
      (pss_one (ps_ret (pe_lc (own := [("_law_k", 5)]) rfl nd (pi_range1 rfl T.n_range (pa_cons (pv 3) pa_nil)) (blkOk_by (N := N__law_content) (sc := defScope s__law_content) (by decide +kernel)) (fun _ _ _ _ _ => (pg_name (i := 5) nd rfl (Or.inl rfl))) (fun _ _ _ _ _ => pts_nil) (fun _ _ _ _ _ => (pe_op op_mod (pe_callTy call_int1 rfl T.n_int boot_int (pa_cons (pe_op op_add (pe_ix (ixL_ K rfl) (pv 0) (pe_op op_add (pv 1) pe_int) (fun _ _ => rfl)) (pe_op op_mul (pv 5) (pe_ix (ixL_ K rfl) (pv 0) (pe_op op_add (pv 1) pe_int) (fun _ _ => rfl)))) pa_nil)) pe_int))))))))), ?_⟩
  refine ⟨_, rfl, _, rfl, _, _, _, _, rfl, rfl, ha.sq, Li.at h0, .inl ⟨_, rfl, _, _, rfl, rfl, (by show (0 : Int) < 9; decide), ?_⟩⟩
  dsimp only [gName]
  refine seq_mid (t := tIfS _ _ _) (fun σ' H' => H' = H ∧ ∃ s : Int, 0 ≤ s ∧ s ≤ 200 ∧ σ' = [some (.ref a), some (.int at_), some (.ref b), some (.int s), none, none]) (fun nx hnx => ?_) ?_
  · refine ⟨_, rfl, _, rfl, _, _, _, _, rfl, rfl, ha.sq, Li.at h0, .inl ⟨_, rfl, _, _, rfl, rfl, (by show (0 : Int) < 40; decide), rfl, _, rfl, ?_⟩⟩
    by_cases c : z0 % 40 = 7
    · refine ifT (bl_t (congrArg V.int c)) ⟨_, rfl, _, rfl, _, _, _, _, rfl, rfl, ha.sq, Li.at h0, .inl ⟨_, rfl, _, _, rfl, rfl, (by show (0 : Int) < 71; decide), _, _, rfl, rfl, hnx _ _ ⟨rfl, 130 + z0 % 71, by omega, by omega, rfl⟩⟩⟩
    · exact ifF (bl_f fun q => c (V.int.inj q)) (hnx _ _ ⟨rfl, z0 % 9, by omega, by omega, rfl⟩)
  rintro _ H1 ⟨rfl, s, hs1, hs2, rfl⟩
  refine seq_mid (t := tIfS _ _ _) (fun σ' H' => H' = H1 ∧ σ' = [some (.ref a), some (.int at_), some (.ref b), some (.int s), none, none]) (fun nx hnx => ?_) ?_
  · refine ⟨_, rfl, _, rfl, _, _, rfl, rfl, _, _, _, _, rfl, rfl, ha.sq, Li.at' (i := at_ + 1) rfl h1, .inl ⟨_, rfl, _, _, rfl, rfl, (by show (0 : Int) < 3; decide), rfl, _, rfl, ?_⟩⟩
    by_cases c1 : z1 % 3 = 0
    · refine ifT (bl_t (congrArg V.int c1)) ⟨_, rfl, _, _, rfl, .inl hb.sq, _, _, rfl, rfl, _, rfl, ?_⟩
      rw [List.length_map]
      by_cases c2 : 0 < bf.length
      · refine yT (by omega) ⟨_, rfl, _, rfl, _, _, rfl, rfl, _, _, _, _, rfl, rfl, ha.sq, Li.at' (i := at_ + 2) rfl h2, .inl ⟨_, rfl, _, rfl, _, _, rfl, .inl hb.sq, ?_⟩⟩
        rw [List.length_map]
        refine ⟨_, _, rfl, rfl, (by show (0 : Int) < (bf.length : Int); omega), ?_⟩
        obtain ⟨n, hn, hnl⟩ : ∃ n : Nat, z2 % (bf.length : Int) = (n : Int) ∧ n < bf.length := by
          have h1 := Int.emod_nonneg z2 (show (bf.length : Int) ≠ 0 by omega)
          have h2 := Int.emod_lt_of_pos z2 (show (0 : Int) < (bf.length : Int) by omega)
          exact ⟨(z2 % (bf.length : Int)).toNat, by omega, by omega⟩
        dsimp only [gName]
        rw [hn]
        refine ⟨_, rfl, _, rfl, _, rfl, _, _, rfl, hb.sq, fun y ny => ?_⟩
        rw [cut_to']
        refine ⟨_, rfl, _, rfl, _, _, rfl, rfl, _, _, _, _, rfl, rfl, (ha.keep ny).sq, Li.at' (i := at_ + 3) rfl h3, .inl ⟨_, rfl, _, _, rfl, rfl, (by show (0 : Int) < 256; decide), lsz (by simp), fun q nq => ?_⟩⟩
        have hk1 : 0 ≤ s - 8 * (s / 8) := by omega
        have hk2 : s - 8 * (s / 8) ≤ 7 := by omega
        refine ⟨_, rfl, _, rfl, _, _, rfl, rfl, ⟨by decide, by decide⟩, _, _, rfl, rfl, .inl ⟨by decide, by decide⟩, _, _, rfl, rfl, q, _, [.int (z3 % 256)], rfl, rfl, upd_same, by omega, by omega, lsz (by simp; omega), fun q2 nq2 => ?_⟩
        generalize s - 8 * (s / 8) = kk at hk1 hk2
        have hrep : (List.replicate kk.toNat [V.int (z3 % 256)]).flatten = (List.replicate kk.toNat (z3 % 256)).map V.int := by
          rw [List.flatten_replicate_singleton, List.map_replicate]
        rw [hrep]
        refine ⟨y, q2, _, _, rfl, rfl, upd_keep (upd_keep upd_same nq) nq2, upd_same, lsz (by rw [List.length_map, List.length_map, List.length_take, List.length_replicate]; omega), fun e ne => ?_⟩
        refine ⟨_, rfl, _, rfl, _, _, rfl, rfl, _, rfl, b, _, rfl, ((((hb.keep ny).keep nq).keep nq2).keep ne).sq, fun g ng => ?_⟩
        rw [show ((n : Int) + 1) = ((n + 1 : Nat) : Int) from rfl, cut_from (by omega)]
        refine ⟨e, g, _, _, rfl, rfl, upd_keep upd_same ng, upd_same, lsz (by simp; omega), fun r nr => ?_⟩
        refine k _ r (bf.take n ++ List.replicate kk.toNat (z3 % 256) ++ bf.drop (n + 1)) (((((Same.new ny).add nq).add nq2).add ne).add ng |>.add nr) (((((Same.new ny).add nq).add nq2).add ne).add ng |>.free nr) ?_ ?_ ?_
        · show upd _ _ _ _ = _
          rw [upd_same, List.map_append, List.map_append]
        · intro x hx
          rcases List.mem_append.mp hx with hx | hx
          · rcases List.mem_append.mp hx with hx | hx
            · exact hB x (List.mem_of_mem_take hx)
            · have := List.eq_of_mem_replicate hx
              omega
          · exact hB x (List.mem_of_mem_drop hx)
        · simp
          omega
      · exact yF (by omega) (hnx _ _ ⟨rfl, rfl⟩)
    · exact ifF (bl_f fun q => c1 (V.int.inj q)) (iteF (hnx _ _ ⟨rfl, rfl⟩))
  rintro _ H2 ⟨rfl, rfl⟩
  obtain ⟨m, rfl⟩ : ∃ m : Nat, s = (m : Int) := ⟨s.toNat, by omega⟩
  refine ⟨_, rfl, _, rfl, by omega, by omega, fun D hD => lc_range (lo := 0) (n := ((m : Nat) : Int).toNat) (fun i H' => ∃ ms : List Int, ms.length = i ∧ Bytes ms ∧ H' = upd H2 D (.lst (ms.map V.int))) ⟨[], rfl, fun x hx => (by cases hx), rfl⟩ ?_ ?_⟩
  · rintro i H' hi ⟨ms, hms, hBm, rfl⟩
    have haD := ha.keep (o := .lst (ms.map V.int)) hD
    refine ⟨rfl, _, rfl, _, rfl, _, _, rfl, rfl, _, _, _, _, rfl, rfl, haD.sq, Li.at' (i := at_ + 2) rfl h2, _, rfl, _, rfl, _, rfl, _, _, rfl, rfl, _, _, _, _, rfl, rfl, haD.sq, Li.at' (i := at_ + 3) rfl h3, _, _, rfl, rfl, .inl ⟨by omega, by omega⟩, _, _, rfl, rfl, .inl ⟨_, rfl, _, _, rfl, rfl, (by show (0 : Int) < 256; decide), ?_⟩⟩
    refine ⟨_, upd_same, lsz' (by rw [List.length_map]; omega), ms ++ [(z2 + (0 + (i : Int)) * z3) % 256], by simp [hms], fun x hx => ?_, ?_⟩
    · rcases List.mem_append.mp hx with hx | hx
      · exact hBm x hx
      · rw [List.mem_singleton] at hx
        omega
    · rw [upd_upd, List.map_append]
      rfl
  · rintro H' ⟨ms, hms, hBm, rfl⟩
    exact k _ D ms (Same.new hD) hD upd_same hBm (by omega)
end
end Sp
namespace Sp
open PySem PySem.Spec PyProof.Rows L2
/-- where the units end -/
def endT : Int → List Un' → Int
  | l, [] => l
  | _, u :: r => endT (u.1 + u.2.1) r
theorem endT_snoc (u : Un') : ∀ (us : List Un') (l : Int), endT l (us ++ [u]) = u.1 + u.2.1
  | [], _ => rfl
  | x :: r, l => endT_snoc u r _
theorem OkUs.snoc {u : Un'} (h1 : u.1 < 1000000) (h2 : 1 ≤ u.2.1) (h3 : u.2.1 < 1000) (h4 : u.2.2.1.length ≤ 200) (h5 : Bytes u.2.2.1) : ∀ {us : List Un'} {l : Int}, OkUs l us → endT l us ≤ u.1 → OkUs l (us ++ [u])
  | [], l, _, h => ⟨h, h1, h2, h3, h4, h5, trivial⟩
  | x :: r, l, ⟨a1, a2, a3, a4, a5, a6, a7⟩, h => ⟨a1, a2, a3, a4, a5, a6, OkUs.snoc h1 h2 h3 h4 h5 a7 h⟩
section
variable {P : Program} {w : World} {K : PySem.W.Frag} {mg : Str → Option Value} {base : Heap}
def spLUnits : Sp := fun vs H Q _ => ∃ (a : Addr) (at_ m : Nat) (ns : List Int), vs = [.ref a, .int at_, .int m] ∧ Li H a ns ∧ Num ns ∧ at_ + 6 * m + 1 < ns.length ∧ m ≤ 5 ∧
  ∀ H' v us, Same H H' → (cL cUn).R (fresh' H H') v us → OkUnits us → Q v H'
theorem ok__law_units (T : Txt K mg) : FnOk P w K mg base CX0 2 (ga K "_law_units") (fdAt K (ga K "_law_units")) ["_law_numbers_here", "_law_at", "_law_many"] spLUnits := by
  refine okD T.F__law_units sc__law_units (fun vs H Q E h => ?_) (fun cdv A outer s H vs Q E hr h => ?_)
  · obtain ⟨_, _, _, _, rfl, _⟩ := h
    rfl
  obtain ⟨a, at_, m, ns, rfl, ha, hN, hat, hm, k⟩ := h
  have nd := sc__law_units.nd
  obtain ⟨z0, h0⟩ := at_some (show at_ < ns.length by omega)
  refine ⟨_, ((pss_cons (ps_set (i := 3) nd rfl (Or.inl rfl) (pe_lst pa_nil))
      (pss_cons (ps_set (i := 4) nd rfl (Or.inl rfl) (pe_op op_mod (pe_callTy call_int1 rfl T.n_int boot_int (pa_cons (pe_ix (ixL_ K rfl) (pv 0) (pv 1) (fun _ _ => rfl)) pa_nil)) pe_int))
      (pss_cons (ps_set (i := 5) nd rfl (Or.inl rfl) (pe_lst pa_nil))
      (pss_cons (ps_for PassesOwn.never rfl (pi_range1 rfl T.n_range (pa_cons (pv 2) pa_nil)) (pg_name (i := 6) nd rfl (Or.inl rfl)) (pss_cons (ps_set (i := 7) nd rfl (Or.inl rfl) (pe_op op_add (pe_op op_add (pv 1) pe_int) (pe_op op_mul pe_int (pv 6))))
        (pss_cons (ps_set (i := 8) nd rfl (Or.inl rfl) (pe_op op_add pe_int (pe_op op_mod (pe_callTy call_int1 rfl T.n_int boot_int (pa_cons (pe_ix (ixL_ K rfl) (pv 0) (pv 7) (fun _ _ => rfl)) pa_nil)) pe_int)))
        (pss_cons (ps_set (i := 9) nd rfl (Or.inl rfl) (pe_slice sl_list (pe_call (ok__law_content T) (hr.mono (by decide)) rfl T.g__law_content T.k__law_content T.b__law_content .nil pass0 (pa_cons (pv 0) (pa_cons (pe_op op_add (pv 7) pe_int) (pa_cons (pv 5) pa_nil)))) po_none (po_some pe_int)))
        (pss_cons (ps_set (i := 10) nd rfl (Or.inl rfl) (pe_and (pe_cmpR op_gt (pv 6) pe_int (nomark _)) (pe_one (pe_cmpR op_gt (pe_op op_mod (pe_callTy call_int1 rfl T.n_int boot_int (pa_cons (pe_ix (ixL_ K rfl) (pv 0) (pe_op op_add (pv 7) pe_int) (fun _ _ => rfl)) pa_nil)) pe_int) pe_int (nomark _)))))
        (pss_cons (ps_expr (pe_bm PySem.F.plainAttrs_list PySem.F.slot_list_append PySem.F.type_list_append mt_append (pv 3) (pa_cons (pe_tup (pa_cons (pv 4) (pa_cons (pv 8) (pa_cons (pv 9) (pa_cons (pv 10) pa_nil))))) pa_nil)))
        (pss_cons (ps_set (i := 4) nd rfl (Or.inl rfl) (pe_op op_add (pe_op op_add (pv 4) (pv 8)) (pe_op op_mod (pe_callTy call_int1 rfl T.n_int boot_int (pa_cons (pe_op op_fdiv (pe_ix (ixL_ K rfl) (pv 0) (pe_op op_add (pv 7) pe_int) (fun _ _ => rfl)) pe_int) pa_nil)) pe_int)))
        (pss_one (ps_set (i := 5) nd rfl (Or.inl rfl) (pv 9))))))))))
      (pss_one (ps_ret (pv 3)))))))), ?_⟩
  refine ⟨Nat.zero_le _, fun f nf => ⟨_, rfl, _, rfl, _, _, _, _, rfl, rfl, (ha.keep nf).sq, Li.at h0, .inl ⟨_, rfl, _, _, rfl, rfl, (by show (0 : Int) < 7; decide), Nat.zero_le _, fun b nb => ?_⟩⟩⟩
  have A0 : Acc cUn H (upd (upd H f (.lst [])) b (.lst [])) f [] [] := (Acc.nil nf upd_same : Acc cUn H (upd H f (.lst [])) f [] []).new nb
  have s0 : Same H (upd (upd H f (.lst [])) b (.lst [])) := (Same.new nf).add nb
  have hb0 : Li (del (fresh' H (upd (upd H f (.lst [])) b (.lst []))) f) b [] := df_at upd_same ((Same.new nf).free nb) (ne_of_none upd_same nb).symm
  dsimp only [gName]
  generalize upd (upd H f (.lst [])) b (.lst []) = H1 at A0 s0 hb0
  refine ⟨_, rfl, _, rfl, by omega, by omega, for_range (n := ((m : Nat) : Int).toNat) (fun i σ H' => ∃ (u1 u2 u3 u4 u5 : Option V) (t : Int) (b : Addr) (bf : List Int) (us : List V) (xs : List Un'),
      σ = [some (.ref a), some (.int at_), some (.int m), some (.ref f), some (.int t), some (.ref b), u1, u2, u3, u4, u5] ∧ Same H H' ∧ Acc cUn H H' f us xs ∧ Li (del (fresh' H H') f) b bf ∧ Bytes bf ∧ bf.length ≤ 200 ∧ xs.length = i ∧ OkUs 0 xs ∧ endT 0 xs ≤ t ∧ t ≤ 6 + 8 * (i : Int) ∧ ∀ u, xs[0]? = some u → u.2.2.2 = false)
    ⟨none, none, none, none, none, z0 % 7, b, [], [], [], rfl, s0, A0, hb0, fun x hx => (by cases hx), Nat.zero_le _, rfl, trivial, Int.emod_nonneg _ (by decide), (by omega), fun u hu => by simp at hu⟩ ?_ ?_⟩
  · rintro i σ H' hi ⟨u1, u2, u3, u4, u5, t, b, bf, us, xs, rfl, s, A, hb, hB, hbl, hxl, hok, ht1, ht2, hfst⟩
    have hi2 : i < m := by omega
    obtain ⟨z1, h1⟩ := at_some (show at_ + 1 + 6 * i < ns.length by omega)
    obtain ⟨z2, h2⟩ := at_some (show at_ + 1 + 6 * i + 5 < ns.length by omega)
    have ha' := ha.mono s
    have hbH : Li H' b bf := hb.mono ((del_sub _ _).trans (fresh_sub _ _))
    have epl : (at_ : Int) + 1 + 6 * (0 + (i : Int)) = ((at_ + 1 + 6 * i : Nat) : Int) := by omega
    refine ⟨_, rfl, _, _, rfl, rfl, _, rfl, _, _, rfl, rfl, .inl ⟨by decide, by decide⟩, _, _, rfl, rfl, ?_⟩
    dsimp only [gName]
    rw [epl]
    have hpl : at_ + 1 + 6 * i + 5 < ns.length := by omega
    generalize at_ + 1 + 6 * i = pl at h1 h2 hpl
    refine ⟨_, rfl, _, rfl, _, _, _, _, rfl, rfl, ha'.sq, Li.at h1, .inl ⟨_, rfl, _, _, rfl, rfl, (by show (0 : Int) < 5; decide), _, _, rfl, rfl, ?_⟩⟩
    refine ⟨_, rfl, _, rfl, _, _, rfl, rfl, _, rfl, a, b, pl + 1, ns, bf, rfl, ha', hN, by omega, hbH, hB, hbl, fun H2 p c s2 np hp hBc hcl => ⟨_, rfl, _, _, rfl, hp.sq, fun q nq => ?_⟩⟩
    rw [show (200 : Int) = ((200 : Nat) : Int) from rfl, cut_to']
    have hq : Li (upd H2 q (.lst ((c.take 200).map V.int))) q (c.take 200) := upd_same
    have s3 : Same H' (upd H2 q (.lst ((c.take 200).map V.int))) := s2.add nq
    have nqH := s2.free nq
    have hBq : Bytes (c.take 200) := fun x hx => hBc x (List.mem_of_mem_take hx)
    have hql : (c.take 200).length ≤ 200 := by rw [List.length_take]; omega
    dsimp only [gName]
    generalize upd H2 q (.lst ((c.take 200).map V.int)) = H3 at hq s3
    generalize c.take 200 = cc at hq hBq hql
    have S3 := s.trans s3
    have ha3 := ha.mono S3
    refine seq_mid (t := tAsg _ _) (fun σ' H4 => H3 = H4 ∧ ∃ le : Bool, (i = 0 → le = false) ∧ σ' = [some (.ref a), some (.int at_), some (.int m), some (.ref f), some (.int t), some (.ref b), some (.int (0 + (i : Int))), some (.int pl), some (.int (1 + z1 % 5)), some (.ref q), some (.bl le)]) (fun nx hnx => ?_) ?_
    · refine ⟨_, rfl, _, _, rfl, rfl, _, rfl, ?_⟩
      by_cases c0 : 0 < i
      · refine yT (by omega) ⟨_, rfl, _, rfl, _, _, rfl, rfl, _, _, _, _, rfl, rfl, ha3.sq, Li.at' (i := pl + 5) (by omega) h2, .inl ⟨_, rfl, _, _, rfl, rfl, (by show (0 : Int) < 3; decide), _, _, rfl, rfl, hnx _ _ ⟨rfl, _, fun e => absurd e (by omega), rfl⟩⟩⟩
      · exact yF (by omega) (hnx _ _ ⟨rfl, false, fun _ => rfl, rfl⟩)
    rintro _ _ ⟨rfl, le, hle, rfl⟩
    have hz1 := hN.get h1
    have hz2 := hN.get h2
    have A3 := A.mono s3
    have hqf : q ≠ f := fun e => by
      rw [e] at nqH
      rw [A.at] at nqH
      cases nqH
    have hus : us.length = i := by rw [A.len, hxl]
    refine ⟨_, rfl, .inl ⟨rfl, _, SqL.of A3.at⟩, _, rfl, _, rfl, _, rfl, _, rfl, lsz (by simp), fun z nz => ⟨f, _, _, rfl, rfl, (A3.new nz).at, lsz' (by omega), ?_⟩⟩
    have A4 := A3.new (o := .tup [.int t, .int (1 + z1 % 5), .ref q, .bl le]) nz
    have s4 : Same H (upd (upd H3 z (.tup [.int t, .int (1 + z1 % 5), .ref q, .bl le])) f (.lst (us ++ [.ref z]))) := (S3.add nz).mut A.free
    have nzf : z ≠ f := A3.ne nz
    have hqd : Li (del (fresh' H (upd (upd H3 z (.tup [.int t, .int (1 + z1 % 5), .ref q, .bl le])) f (.lst (us ++ [.ref z])))) f) q cc := by
      rw [df_upd]
      exact df_at (upd_keep hq nz) (s.free nqH) hqf
    have A5 : Acc cUn H (upd (upd H3 z (.tup [.int t, .int (1 + z1 % 5), .ref q, .bl le])) f (.lst (us ++ [.ref z]))) f (us ++ [.ref z]) (xs ++ [(t, 1 + z1 % 5, cc, le)]) :=
      A4.push ⟨z, _, _, _, _, rfl, df_at upd_same (S3.free nz) nzf, rfl, rfl, ⟨q, rfl, df_at (upd_keep hq nz) (s.free nqH) hqf⟩, rfl⟩
    have ha4 := ha.mono s4
    dsimp only
    generalize upd (upd H3 z (.tup [.int t, .int (1 + z1 % 5), .ref q, .bl le])) f (.lst (us ++ [.ref z])) = H5 at s4 hqd A5 ha4
    refine ⟨_, rfl, _, rfl, _, _, rfl, rfl, _, rfl, _, rfl, _, _, rfl, rfl, _, _, _, _, rfl, rfl, ha4.sq, Li.at' (i := pl + 5) (by omega) h2, _, _, rfl, rfl, ⟨by decide, by decide⟩, .inl ⟨_, rfl, _, _, rfl, rfl, (by show (0 : Int) < 3; decide), _, _, rfl, rfl, ?_⟩⟩
    refine ⟨_, rfl, _, _, _, _, _, _, q, cc, us ++ [.ref z], xs ++ [(t, 1 + z1 % 5, cc, le)], rfl, s4, A5, hqd, hBq, hql, by simp [hxl], hok.snoc (by show t < 1000000; omega) (by show 1 ≤ 1 + z1 % 5; omega) (by show 1 + z1 % 5 < 1000; omega) hql hBq ht1, ?_, ?_, fun u hu => ?_⟩
    · rw [endT_snoc]
      show t + (1 + z1 % 5) ≤ _
      omega
    · omega
    · cases xs with
      | nil =>
        have e : (t, 1 + z1 % 5, cc, le) = u := by simpa using hu
        rw [← e]
        exact hle hxl.symm
      | cons x xs =>
        exact hfst u (by simpa using hu)
  · rintro σ H' ⟨u1, u2, u3, u4, u5, t, b, bf, us, xs, rfl, s, A, hb, hB, hbl, hxl, hok, ht1, ht2, hfst⟩
    exact ⟨_, rfl, k H' _ xs s A.done ⟨by omega, hok, hfst⟩⟩
end
end Sp
namespace Sp
open PySem PySem.Spec PyProof.Rows L2
/-- the pieces that are whole, and the one that is begun -/
def cutZ (l : List Int) : List (List Int) × List Int := l.foldl (fun s x => if x = 0 then (s.1 ++ [s.2], []) else (s.1, s.2 ++ [x])) ([], [])
theorem cutZ_snoc (l : List Int) (x : Int) : cutZ (l ++ [x]) = if x = 0 then ((cutZ l).1 ++ [(cutZ l).2], []) else ((cutZ l).1, (cutZ l).2 ++ [x]) := by simp [cutZ]
theorem cutZ_run (l : List Int) : ∀ (s : List Int), (∀ x ∈ s, x ≠ 0) → cutZ (l ++ s) = ((cutZ l).1, (cutZ l).2 ++ s) := by
  intro s
  induction s generalizing l with
  | nil => intro _; simp
  | cons x s ih =>
    intro h
    have e : l ++ x :: s = (l ++ [x]) ++ s := by simp
    rw [e, ih (l ++ [x]) fun y hy => h y (by simp [hy]), cutZ_snoc, if_neg (h x (by simp))]
    simp
theorem cutZ_flat (ss : List (List Int)) : (∀ s ∈ ss, ∀ x ∈ s, x ≠ 0) → ∀ l : List Int, (cutZ l).2 = [] → cutZ (l ++ ss.flatMap fun s => s ++ [0]) = ((cutZ l).1 ++ ss, []) := by
  induction ss with
  | nil => intro _ l h; rw [List.flatMap_nil, List.append_nil, List.append_nil, ← h]
  | cons s ss ih =>
    intro h l hl
    have e1 : cutZ (l ++ (s ++ [0])) = ((cutZ l).1 ++ [s], []) := by
      rw [← List.append_assoc, cutZ_snoc, if_pos rfl, cutZ_run l s (h s (by simp)), hl, List.nil_append]
    rw [List.flatMap_cons, ← List.append_assoc, ih (fun t ht => h t (by simp [ht])) _ (by rw [e1]), e1, List.append_assoc]
    rfl
theorem cutZ_le (l : List Int) : (cutZ l).1.length ≤ l.length ∧ (cutZ l).2.length ≤ l.length := by
  rw [show l = l.reverse.reverse by simp]
  generalize l.reverse = r
  induction r with
  | nil => simp [cutZ]
  | cons x r ih =>
    rw [List.reverse_cons, cutZ_snoc]
    split <;> simp only [List.length_append, List.length_singleton, List.length_nil] <;> omega
section
variable {P : Program} {w : World} {K : PySem.W.Frag} {mg : Str → Option Value} {base : Heap}
def spPieces : Sp := fun vs H Q _ => ∃ (a : Addr) (ss : List (List Int)), vs = [.ref a] ∧ Li H a (segs ss) ∧ (segs ss).length ≤ 1000000 ∧ (∀ s ∈ ss, ∀ x ∈ s, x ≠ 0) ∧ ∀ H' v, Same H H' → (cL cLi).R (fresh' H H') v ss → Q v H'
theorem ok__law_pieces (T : Txt K mg) : FnOk P w K mg base CX0 1 (ga K "_law_pieces") (fdAt K (ga K "_law_pieces")) ["_law_file"] spPieces := by
  refine okD T.F__law_pieces sc__law_pieces (fun vs H Q E h => ?_) (fun cdv A outer s H vs Q E hr h => ?_)
  · obtain ⟨_, _, rfl, _⟩ := h
    rfl
  obtain ⟨a, ss, rfl, ha, hsz, hz, k⟩ := h
  have nd := sc__law_pieces.nd
  refine ⟨_, ((pss_cons (ps_set (i := 1) nd rfl (Or.inl rfl) (pe_lst pa_nil))
      (pss_cons (ps_set (i := 2) nd rfl (Or.inl rfl) (pe_lst pa_nil))
      (pss_cons (ps_for PassesOwn.never rfl (pi_list (pe_slice sl_list (pv 0) (po_some pe_int) po_none)) (pg_name (i := 3) nd rfl (Or.inl rfl)) (pss_one (ps_if (pt_cmpR op_eq (pv 3) pe_int (nomark _)) (pss_cons (ps_expr (pe_bm PySem.F.plainAttrs_list PySem.F.slot_list_append PySem.F.type_list_append mt_append (pv 1) (pa_cons (pv 2) pa_nil)))
          (pss_one (ps_set (i := 2) nd rfl (Or.inl rfl) (pe_lst pa_nil)))) (pss_one (ps_set (i := 2) nd rfl (Or.inl rfl) (pe_op op_cat (pv 2) (pe_lst (pa_cons (pv 3) pa_nil))))))))
      (pss_one (ps_ret (pv 1))))))), ?_⟩
  refine ⟨Nat.zero_le _, fun f nf => ⟨Nat.zero_le _, fun b nb => ?_⟩⟩
  have A0 : Acc cLi H (upd (upd H f (.lst [])) b (.lst [])) f [] [] := (Acc.nil nf upd_same : Acc cLi H (upd H f (.lst [])) f [] []).new nb
  have s0 : Same H (upd (upd H f (.lst [])) b (.lst [])) := (Same.new nf).add nb
  have hb0 : Li (del (fresh' H (upd (upd H f (.lst [])) b (.lst []))) f) b [] := df_at upd_same ((Same.new nf).free nb) (ne_of_none upd_same nb).symm
  dsimp only [gName]
  generalize upd (upd H f (.lst [])) b (.lst []) = H1 at A0 s0 hb0
  refine ⟨_, rfl, _, rfl, a, _, rfl, (ha.mono s0).sq, fun q nq => ?_⟩
  rw [show (1 : Int) = ((1 : Nat) : Int) from rfl, cut_from (by simp [segs])]
  have hq : Li (upd H1 q (.lst (((segs ss).drop 1).map V.int))) q ((segs ss).drop 1) := upd_same
  have A1 := A0.new (o := .lst (((segs ss).drop 1).map V.int)) nq
  have s1 := s0.add (o := .lst (((segs ss).drop 1).map V.int)) nq
  have hb1 : Li (del (fresh' H (upd H1 q (.lst (((segs ss).drop 1).map V.int)))) f) b [] := hb0.mono (df_mono (Same.new nq))
  have hfl : (segs ss).drop 1 = ss.flatMap fun s => s ++ [0] := rfl
  have hlen : ((segs ss).drop 1).length ≤ 1000000 := by rw [List.length_drop]; omega
  generalize upd H1 q (.lst (((segs ss).drop 1).map V.int)) = H2 at hq A1 s1 hb1
  generalize hr : (segs ss).drop 1 = row at hq hfl hlen
  have nq0 := s0.free nq
  have nfq : f ≠ q := ne_of_none (A0.at) nq
  refine ⟨q, rfl, ⟨_, hq.sq⟩, for_list (K := K) (a := q) (xs := row.map V.int) (fun i σ H' => ∃ (u : Option V) (c : Addr) (us : List V), σ = [some (.ref a), some (.ref f), some (.ref c), u] ∧ Same H H' ∧ Li H' q row ∧ Acc cLi H H' f us (cutZ (row.take i)).1 ∧ Li (del (fresh' H H') f) c (cutZ (row.take i)).2)
    ⟨none, b, [], rfl, s1, hq, A1, hb1⟩ (fun i σ H' _ ⟨_, _, _, _, _, hq, _⟩ => hq.sq) ?_ ?_⟩
  · rintro i x σ H' hi ⟨u, c, us, rfl, s, hq', A, hc⟩
    obtain ⟨z, hz2, rfl⟩ := int_at hi
    have hil := lt_of_at hz2
    have hle := cutZ_le (row.take i)
    rw [List.length_take] at hle
    have hcz := cutZ_snoc (row.take i) z
    rw [← take_snoc hz2] at hcz
    have hcH : Li H' c (cutZ (row.take i)).2 := hc.mono ((del_sub _ _).trans (fresh_sub _ _))
    refine ⟨_, rfl, rfl, _, rfl, ?_⟩
    by_cases c0 : z = 0
    · rw [if_pos c0] at hcz
      refine ifT (bl_t (congrArg V.int c0)) ⟨_, rfl, .inl ⟨rfl, _, SqL.of A.at⟩, _, rfl, f, _, _, rfl, rfl, A.at, lsz' (by rw [A.len]; omega), Nat.zero_le _, fun c2 nc2 => ?_⟩
      have A2 := (A.push (v := .ref c) ⟨c, rfl, hc⟩).new (o := .lst []) nc2
      have s2 := (s.mut (q := f) (o := .lst (us ++ [.ref c])) A.free)
      have nf2 : c2 ≠ f := (ne_of_none upd_same nc2).symm
      refine ⟨_, c2, us ++ [.ref c], rfl, s2.add nc2, ?_, ?_, ?_⟩
      · exact Li.keep ((upd_ne nfq.symm).trans hq') nc2
      · rw [hcz]
        exact A2
      · rw [hcz]
        exact df_at upd_same (s2.free nc2) nf2
    · rw [if_neg c0] at hcz
      refine ifF (bl_f fun e => c0 (V.int.inj e)) ⟨_, rfl, _, rfl, lsz (by simp), fun e ne => ⟨c, e, _, [.int z], rfl, rfl, hcH.keep ne, upd_same, lsz (by rw [List.length_map]; simp; omega), fun g ng => ?_⟩⟩
      have A2 := (A.new (o := .lst [.int z]) ne).new (o := .lst ((cutZ (row.take i)).2.map V.int ++ [.int z])) ng
      have ngf : g ≠ f := (A.new (o := .lst [.int z]) ne).ne ng
      have s2 := s.add (o := .lst [.int z]) ne
      refine ⟨_, g, us, rfl, s2.add ng, (hq'.keep ne).keep ng, ?_, ?_⟩
      · rw [hcz]
        exact A2
      · rw [hcz]
        exact (df_at upd_same (s2.free ng) ngf).trans (by rw [List.map_append]; rfl)
  · rintro σ H' ⟨u, c, us, rfl, s, hq', A, hc⟩
    rw [List.length_map, List.take_length, hfl] at A
    have e := cutZ_flat ss hz [] rfl
    rw [List.nil_append] at e
    rw [e] at A
    exact ⟨_, rfl, k H' _ s A.done⟩
end
end Sp
namespace Sp
open PySem PySem.Spec PyProof.Rows L2
theorem segs_le {ss : List (List Int)} (h : ∀ s ∈ ss, s.length ≤ 2137) : (segs ss).length ≤ 1 + 2138 * ss.length := by
  have := flat_le (l := ss) (f := fun s => s ++ [0]) (n := 2138) fun s hs => by
    have := h s hs
    rw [List.length_append, List.length_singleton]
    omega
  unfold segs
  rw [List.length_cons]
  omega
theorem filt_snoc {ss : List (List Int)} {pool : List Leaf} {l : Leaf} (wf : l.Wf) (h : ss.filter (fun s => decide (s ≠ [])) = pool.map piece) : (ss ++ [piece l]).filter (fun s => decide (s ≠ [])) = (pool ++ [l]).map piece := by
  have := piece_pos wf
  have ne : piece l ≠ [] := fun e => by rw [e] at this; cases this
  rw [List.filter_append, List.map_append, h]
  simp [List.filter, ne]
theorem filt_nil {ss : List (List Int)} {pool : List Leaf} (h : ss.filter (fun s => decide (s ≠ [])) = pool.map piece) : (ss ++ [[]]).filter (fun s => decide (s ≠ [])) = pool.map piece := by
  rw [List.filter_append, h]
  simp
theorem mem_cut {α : Type} {xs : List α} {n : Nat} {y : α} (h : xs[n]? = some y) (x : α) : x ∈ xs ↔ x = y ∨ x ∈ xs.take n ++ xs.drop (n + 1) := by
  have e : xs = xs.take n ++ y :: xs.drop (n + 1) := by
    obtain ⟨hn, e⟩ := List.getElem?_eq_some_iff.mp h
    rw [← e, ← List.drop_eq_getElem_cons hn, List.take_append_drop]
  rw [show x ∈ xs ↔ x ∈ xs.take n ++ y :: xs.drop (n + 1) by rw [← e]]
  simp only [List.mem_append, List.mem_cons]
  constructor
  · rintro (a | a | a)
    · exact .inr (.inl a)
    · exact .inl a
    · exact .inr (.inr a)
  · rintro (a | a | a)
    · exact .inr (.inl a)
    · exact .inl a
    · exact .inr (.inr a)
section
variable {P : Program} {w : World} {K : PySem.W.Frag} {mg : Str → Option Value} {base : Heap}
def spMixed : Sp := fun vs H Q _ => ∃ (v : V) (b : Addr) (at_ : Nat) (ns : List Int) (L : List Leaf), vs = [v, .ref b, .int at_] ∧ (cL cLi).R H v (L.map piece) ∧ Li H b ns ∧ Num ns ∧ at_ + 60 ≤ ns.length ∧ L.length ≤ 140 ∧ (∀ l ∈ L, l.Wf) ∧
  ∀ (H' : Hp) (p : Addr) (ss : List (List Int)) (pool : List Leaf), Same H H' → H p = none → Li H' p (segs ss) → (segs ss).length ≤ 1000000 → ss.length ≤ 1000 → ss.filter (fun s => decide (s ≠ [])) = pool.map piece → (∀ l, l ∈ L ↔ l ∈ pool) → Q (.ref p) H'
theorem ok__law_mixed (T : Txt K mg) : FnOk P w K mg base CX0 1 (ga K "_law_mixed") (fdAt K (ga K "_law_mixed")) ["_law_pieces_here", "_law_numbers_here", "_law_at"] spMixed := by
  refine okD T.F__law_mixed sc__law_mixed (fun vs H Q E h => ?_) (fun cdv A outer s H vs Q E hr h => ?_)
  · obtain ⟨_, _, _, _, _, rfl, _⟩ := h
    rfl
  obtain ⟨_, b, at_, ns, L, rfl, ⟨a, vs, rfl, ha, hp⟩, hb, hN, hat, hLl, wf, k⟩ := h
  have nd := sc__law_mixed.nd
  have hvl : vs.length = L.length := by rw [hp.length, List.length_map]
  refine ⟨_, ((pss_cons (ps_set (i := 3) nd rfl (Or.inl rfl) (pe_callTy (listOf_ K rfl) rfl T.n_list boot_list (pa_cons (pv 0) pa_nil)))
      (pss_cons (ps_set (i := 4) nd rfl (Or.inl rfl) (pe_lst (pa_cons pe_int pa_nil)))
      (pss_cons (ps_for PassesOwn.never rfl (pi_range1 rfl T.n_range (pa_cons (pe_callB (lenS_ K rfl) rfl T.n_len boot_len (pa_cons (pv 0) pa_nil)) pa_nil)) (pg_name (i := 5) nd rfl (Or.inl rfl)) (pss_cons (ps_set (i := 6) nd rfl (Or.inl rfl) (pe_op op_mod (pe_callTy call_int1 rfl T.n_int boot_int (pa_cons (pe_ix (ixL_ K rfl) (pv 1) (pe_op op_add (pv 2) (pe_op op_mod (pe_callTy call_int1 rfl T.n_int boot_int (pa_cons (pv 5) pa_nil)) pe_int)) (fun _ _ => rfl)) pa_nil)) (pe_callB (lenS_ K rfl) rfl T.n_len boot_len (pa_cons (pv 3) pa_nil))))
        (pss_cons (ps_set (i := 4) nd rfl (Or.inl rfl) (pe_op op_cat (pe_op op_cat (pv 4) (pe_ix (ixL_ K rfl) (pv 3) (pv 6) (fun _ _ => rfl))) (pe_lst (pa_cons pe_int pa_nil))))
        (pss_cons (ps_if (pt_cmpR op_eq (pe_op op_mod (pe_callTy call_int1 rfl T.n_int boot_int (pa_cons (pe_ix (ixL_ K rfl) (pv 1) (pe_op op_add (pv 2) (pe_op op_mod (pe_callTy call_int1 rfl T.n_int boot_int (pa_cons (pv 5) pa_nil)) pe_int)) (fun _ _ => rfl)) pa_nil)) pe_int) pe_int (nomark _)) (pss_one (ps_set (i := 4) nd rfl (Or.inl rfl) (pe_op op_cat (pe_op op_cat (pe_op op_cat (pv 4) (pe_lst (pa_cons pe_int pa_nil))) (pe_ix (ixL_ K rfl) (pv 3) (pv 6) (fun _ _ => rfl))) (pe_lst (pa_cons pe_int pa_nil))))) pss_nil)
        (pss_one (ps_set (i := 3) nd rfl (Or.inl rfl) (pe_op op_cat (pe_slice sl_list (pv 3) po_none (po_some (pv 6))) (pe_slice sl_list (pv 3) (po_some (pe_op op_add (pv 6) pe_int)) po_none))))))))
      (pss_one (ps_ret (pv 4))))))), ?_⟩
  refine ⟨_, rfl, a, _, rfl, .inl (SqL.of ha), fun lf nlf => ⟨lsz (by simp), fun r nr => ?_⟩⟩
  have s0 : Same H (upd (upd H lf (.lst vs)) r (.lst [.int 0])) := (Same.new nlf).add nr
  have hlf : upd (upd H lf (.lst vs)) r (.lst [.int 0]) lf = some (.lst vs) := upd_keep upd_same nr
  have hr0 : Li (upd (upd H lf (.lst vs)) r (.lst [.int 0])) r (segs []) := upd_same
  have nrH := (Same.new (o := .lst vs) nlf).free nr
  dsimp only [gName]
  generalize upd (upd H lf (.lst vs)) r (.lst [.int 0]) = H1 at s0 hlf hr0
  refine ⟨_, rfl, _, _, rfl, .inl (SqL.of (s0 _ _ ha)), _, rfl, by omega, by omega, for_range (n := ((vs.length : Nat) : Int).toNat) (fun i σ H' => ∃ (u1 u2 : Option V) (lf r : Addr) (us : List V) (Lf : List Leaf) (ss : List (List Int)) (pool : List Leaf),
      σ = [some (.ref a), some (.ref b), some (.int at_), some (.ref lf), some (.ref r), u1, u2] ∧ Same H H' ∧ H' lf = some (.lst us) ∧ Paired (cLi.R H') us (Lf.map piece) ∧ Lf.length + i = L.length ∧ H r = none ∧ Li H' r (segs ss) ∧ ss.length ≤ 3 * i ∧ (∀ s ∈ ss, s.length ≤ 2137) ∧
      ss.filter (fun s => decide (s ≠ [])) = pool.map piece ∧ ∀ l, l ∈ L ↔ l ∈ pool ∨ l ∈ Lf)
    ⟨none, none, lf, r, vs, L, [], [], rfl, s0, hlf, pmap hp fun _ _ q => cLi.mono s0 q, rfl, nrH, hr0, Nat.le_refl _, fun s hs => by (cases hs), rfl, fun l => by simp⟩ ?_ ?_⟩
  · rintro i σ H' hi ⟨u1, u2, lf, r, us, Lf, ss, pool, rfl, s, hlf, hpu, hLi, nr, hr, hssl, hss, hfl, hmem⟩
    have hul : us.length = Lf.length := by rw [hpu.length, List.length_map]
    obtain ⟨z, hz⟩ := at_some (ns := ns) (i := at_ + i % 60) (by omega)
    have hb' := hb.mono s
    refine ⟨_, rfl, _, rfl, _, rfl, .inl ⟨_, rfl, _, _, rfl, rfl, (by show (0 : Int) < 60; decide), _, _, rfl, rfl, _, _, _, _, rfl, rfl, hb'.sq, Li.at' (i := at_ + i % 60) (by omega) hz, .inl ⟨_, rfl, _, rfl, _, _, rfl, .inl (SqL.of hlf), _, _, rfl, rfl, (by show (0 : Int) < (us.length : Int); omega), ?_⟩⟩⟩
    obtain ⟨n, hn, hnl⟩ : ∃ n : Nat, z % (us.length : Int) = (n : Int) ∧ n < us.length := by
      have h1 := Int.emod_nonneg z (show (us.length : Int) ≠ 0 by omega)
      have h2 := Int.emod_lt_of_pos z (show (0 : Int) < (us.length : Int) by omega)
      exact ⟨(z % (us.length : Int)).toNat, by omega, by omega⟩
    dsimp only [gName]
    rw [hn]
    have hl : Lf[n]? = some (Lf[n]'(by omega)) := List.getElem?_eq_getElem (by omega)
    generalize Lf[n]'(by omega) = l at hl
    have hlL : l ∈ L := (hmem l).mpr (.inr (List.mem_of_getElem? hl))
    have wl := wf l hlL
    have pll := piece_len wl
    obtain ⟨y, hy, pc, rfl, hpc⟩ := pget hpu (show (Lf.map piece)[n]? = some (piece l) by rw [List.getElem?_map, hl]; rfl)
    have hsl := segs_le hss
    -- the piece, once
    refine ⟨_, rfl, _, rfl, _, rfl, _, _, _, _, rfl, rfl, SqL.of hlf, atI_nat hy, r, pc, _, _, rfl, rfl, hr, hpc, lsz (by rw [List.length_map, List.length_map]; omega), fun e1 ne1 => ⟨lsz (by simp), fun z1 nz1 => ⟨e1, z1, _, [.int 0], rfl, rfl, upd_keep upd_same nz1, upd_same, lsz (by rw [List.length_append, List.length_map, List.length_map]; simp; omega), fun e2 ne2 => ?_⟩⟩⟩
    have s2 : Same H' (upd (upd (upd H' e1 (.lst ((segs ss).map V.int ++ (piece l).map V.int))) z1 (.lst [.int 0])) e2 (.lst ((segs ss).map V.int ++ (piece l).map V.int ++ [.int 0]))) := ((Same.new ne1).add nz1).add ne2
    have hr2 : Li (upd (upd (upd H' e1 (.lst ((segs ss).map V.int ++ (piece l).map V.int))) z1 (.lst [.int 0])) e2 (.lst ((segs ss).map V.int ++ (piece l).map V.int ++ [.int 0]))) e2 (segs (ss ++ [piece l])) := by
      show upd _ _ _ _ = _
      rw [upd_same, segs_snoc, List.map_append, List.map_append, List.append_assoc]
      rfl
    have ne2H : H e2 = none := ((s.add ne1).add nz1).free ne2
    dsimp only [gName]
    generalize upd (upd (upd H' e1 (.lst ((segs ss).map V.int ++ (piece l).map V.int))) z1 (.lst [.int 0])) e2 (.lst ((segs ss).map V.int ++ (piece l).map V.int ++ [.int 0])) = H2 at s2 hr2
    have S2 := s.trans s2
    have hf2 := filt_snoc wl hfl
    have hss2 : ∀ s ∈ ss ++ [piece l], s.length ≤ 2137 := fun s hs => by
      rcases List.mem_append.mp hs with hs | hs
      · exact hss s hs
      · rw [List.mem_singleton] at hs
        rw [hs]
        exact pll
    refine seq_mid (t := tIfS _ _ _) (fun σ' H3 => ∃ (r3 : Addr) (s3 : List (List Int)) (p3 : List Leaf), σ' = [some (.ref a), some (.ref b), some (.int at_), some (.ref lf), some (.ref r3), some (.int (0 + (i : Int))), some (.int n)] ∧ Same H2 H3 ∧ H r3 = none ∧ Li H3 r3 (segs s3) ∧ s3.length ≤ 3 * (i + 1) ∧ (∀ s ∈ s3, s.length ≤ 2137) ∧
      s3.filter (fun s => decide (s ≠ [])) = p3.map piece ∧ ∀ x, x ∈ p3 ↔ x ∈ pool ∨ x = l) (fun nx hnx => ?_) ?_
    · refine ⟨_, rfl, _, rfl, _, rfl, .inl ⟨_, rfl, _, _, rfl, rfl, (by show (0 : Int) < 60; decide), _, _, rfl, rfl, _, _, _, _, rfl, rfl, (hb.mono S2).sq, Li.at' (i := at_ + i % 60) (by omega) hz, .inl ⟨_, rfl, _, _, rfl, rfl, (by show (0 : Int) < 7; decide), rfl, _, rfl, ?_⟩⟩⟩
      by_cases c : z % 7 = 0
      · have hsl2 := segs_le hss2
        rw [List.length_append, List.length_singleton] at hsl2
        refine ifT (bl_t (congrArg V.int c)) ⟨_, rfl, lsz (by simp), fun z3 nz3 => ⟨e2, z3, _, [.int 0], rfl, rfl, hr2.keep nz3, upd_same, lsz (by rw [List.length_map]; simp; omega), fun e3 ne3 => ?_⟩⟩
        refine ⟨_, rfl, _, rfl, _, _, _, _, rfl, rfl, SqL.of (upd_keep (upd_keep (s2 _ _ hlf) nz3) ne3), atI_nat hy, e3, pc, _, _, rfl, rfl, upd_same, ((hpc.mono s2).keep nz3).keep ne3, lsz (by rw [List.length_append, List.length_map, List.length_map]; simp; omega), fun e4 ne4 => ⟨lsz (by simp), fun z5 nz5 => ⟨e4, z5, _, [.int 0], rfl, rfl, upd_keep upd_same nz5, upd_same, lsz (by simp; omega), fun e5 ne5 => ?_⟩⟩⟩
        refine hnx _ _ ⟨e5, ss ++ [piece l] ++ [[]] ++ [piece l], pool ++ [l] ++ [l], rfl, ((((Same.new nz3).add ne3).add ne4).add nz5).add ne5, ((((S2.add nz3).add ne3).add ne4).add nz5).free ne5, ?_, by simp; omega, fun s hs => ?_, filt_snoc wl (filt_nil hf2), fun x => by simp [or_assoc]⟩
        · show upd _ _ _ _ = _
          rw [upd_same, segs_snoc (ss ++ [piece l] ++ [[]]), segs_snoc (ss ++ [piece l]) []]
          simp
        · rcases List.mem_append.mp hs with hs | hs
          · rcases List.mem_append.mp hs with hs | hs
            · exact hss2 s hs
            · rw [List.mem_singleton] at hs
              rw [hs]
              exact Nat.zero_le _
          · rw [List.mem_singleton] at hs
            rw [hs]
            exact pll
      · exact ifF (bl_f fun e => c (V.int.inj e)) (hnx _ _ ⟨e2, ss ++ [piece l], pool ++ [l], rfl, fun _ _ e => e, ne2H, hr2, by simp; omega, hss2, hf2, fun x => by simp⟩)
    rintro _ H3 ⟨r3, ss3, p3, rfl, s3, nr3, hr3, hss3, hs3, hf3, hm3⟩
    have S3 := S2.trans s3
    have hlf3 := s3 _ _ (s2 _ _ hlf)
    refine ⟨_, rfl, _, rfl, _, rfl, _, _, rfl, SqL.of hlf3, fun y1 ny1 => ?_⟩
    rw [cutL_to]
    refine ⟨_, rfl, _, rfl, _, _, rfl, rfl, _, rfl, _, _, rfl, SqL.of (upd_keep hlf3 ny1), fun y2 ny2 => ?_⟩
    rw [show ((n : Int) + 1) = ((n + 1 : Nat) : Int) from rfl, cutL_from (by omega)]
    refine ⟨y1, y2, _, _, rfl, rfl, upd_keep upd_same ny2, upd_same, lsz (by rw [List.length_take, List.length_drop]; omega), fun y3 ny3 => ?_⟩
    have s4 := (((s2.trans s3).add (o := .lst (us.take n)) ny1).add (o := .lst (us.drop (n + 1))) ny2).add (o := .lst (us.take n ++ us.drop (n + 1))) ny3
    refine ⟨_, _, y3, r3, us.take n ++ us.drop (n + 1), Lf.take n ++ Lf.drop (n + 1), ss3, p3, rfl, s.trans s4, upd_same, ?_, ?_, nr3, ((hr3.keep ny1).keep ny2).keep ny3, hss3, hs3, hf3, fun x => ?_⟩
    · rw [List.map_append, List.map_take, List.map_drop]
      exact pmap (papp (ptake n hpu) (pdrop (n + 1) hpu)) fun _ _ q => cLi.mono s4 q
    · rw [List.length_append, List.length_take, List.length_drop]
      omega
    · rw [hmem x, mem_cut hl x, hm3 x, or_assoc]
  · rintro σ H' ⟨u1, u2, lf, r, us, Lf, ss, pool, rfl, s, hlf, hpu, hLi, nr, hr, hssl, hss, hfl, hmem⟩
    have hL0 : Lf = [] := List.eq_nil_of_length_eq_zero (by omega)
    subst hL0
    have hsl := segs_le hss
    exact ⟨_, rfl, k H' r ss pool s nr hr (by omega) (by omega) hfl fun l => by rw [hmem l]; simp⟩
end
end Sp
namespace Sp
open PySem PySem.Spec PyProof.Rows L2
def trNm : List (Str × Str) := [("sound", "audio"), ("", "text"), ("long name 1", "x")]
def tgAll : List (Str × Str) := [("a", "some words"), ("zz", "")]
theorem trNm_ok : ∀ x ∈ trNm, (OkText x.1 32 ∧ cS.ok x.1) ∧ OkWord x.2 ∧ cS.ok x.2 := by
  unfold trNm OkText OkWord cS
  decide +kernel
theorem tg_ok {n : Nat} (h : n = 1 ∨ n = 2) : OkTags (tgAll.take n) ∧ cTags.ok (tgAll.take n) := by
  have e : ∀ x ∈ tgAll, (OkWord x.1 ∧ cS.ok x.1) ∧ OkText x.2 100 ∧ cS.ok x.2 := by
    unfold tgAll OkText OkWord cS
    decide +kernel
  refine ⟨⟨by rw [List.length_take]; exact Nat.min_le_right _ _, fun t ht => (e t (List.mem_of_mem_take ht)).1.1, fun t ht => (e t (List.mem_of_mem_take ht)).2.1, fun i s t h1 h2 => ?_⟩, fun t ht => ⟨(e t (List.mem_of_mem_take ht)).1.2, (e t (List.mem_of_mem_take ht)).2.2⟩⟩
  have h3 := lt_of_at h2
  have h4 : (tgAll.take n).length ≤ 2 := by rw [List.length_take]; exact Nat.min_le_right _ _
  have h5 : i = 0 := by omega
  subst h5
  rcases h with rfl | rfl
  · cases h2
  · cases h1
    cases h2
    show chs ("a" : Str) < chs ("zz" : Str)
    decide +kernel
theorem tg_nil : OkTags [] ∧ cTags.ok [] := ⟨⟨Nat.zero_le _, fun t h => (by cases h), fun t h => (by cases h), fun i s t h => (by simp at h)⟩, fun t h => (by cases h)⟩
section
variable {P : Program} {w : World} {K : PySem.W.Frag} {mg : Str → Option Value} {base : Heap}
def spLPr : Sp := fun vs H Q _ => ∃ (a : Addr) (at_ m : Nat) (sk : Int) (ns : List Int), vs = [.ref a, .int at_, .int m, .int sk] ∧ Li H a ns ∧ Num ns ∧ at_ + 130 ≤ ns.length ∧ m ≤ 3 ∧ (0 ≤ sk ∧ sk ≤ 1000) ∧
  ∀ H' v p, Same H H' → cPr.R (fresh' H H') v p → OkPr p → cPr.ok p → Q v H'
theorem ok__law_presentation (T : Txt K mg) : FnOk P w K mg base CX0 3 (ga K "_law_presentation") (fdAt K (ga K "_law_presentation")) ["_law_numbers_here", "_law_at", "_law_names", "_law_skip"] spLPr := by
  refine okD T.F__law_presentation sc__law_presentation (fun vs H Q E h => ?_) (fun cdv A outer s H vs Q E hr h => ?_)
  · obtain ⟨_, _, _, _, _, rfl, _⟩ := h
    rfl
  obtain ⟨a, at_, m, sk, ns, rfl, ha, hN, hat, hm, hsk, k⟩ := h
  have nd := sc__law_presentation.nd
  refine ⟨_, ((pss_cons (ps_set (i := 4) nd rfl (Or.inl rfl) (pe_lst pa_nil))
      (pss_cons (ps_for PassesOwn.never rfl (pi_range1 rfl T.n_range (pa_cons (pv 2) pa_nil)) (pg_name (i := 5) nd rfl (Or.inl rfl)) (pss_cons (ps_set (i := 6) nd rfl (Or.inl rfl) (pe_op op_mod (pe_callTy call_int1 rfl T.n_int boot_int (pa_cons (pe_ix (ixL_ K rfl) (pv 0) (pe_op op_add (pv 1) (pv 5)) (fun _ _ => rfl)) pa_nil)) pe_int))
        (pss_one (ps_expr (pe_bm PySem.F.plainAttrs_list PySem.F.slot_list_append PySem.F.type_list_append mt_append (pv 4) (pa_cons (pe_tup (pa_cons (pe_ix (ixL_ K rfl) (pe_lst (pa_cons pe_str (pa_cons pe_str (pa_cons pe_str pa_nil)))) (pv 5) (fun _ _ => rfl)) (pa_cons (pe_ix (ixL_ K rfl) (pe_lst (pa_cons pe_str (pa_cons pe_str (pa_cons pe_str pa_nil)))) (pv 5) (fun _ _ => rfl)) (pa_cons (pe_call (ok__law_units T) (hr.mono (by decide)) rfl T.g__law_units T.k__law_units T.b__law_units .nil pass0 (pa_cons (pv 0) (pa_cons (pe_op op_add (pe_op op_add (pv 1) pe_int) (pe_op op_mul pe_int (pv 5))) (pa_cons (pv 6) pa_nil)))) pa_nil)))) pa_nil))))))
      (pss_cons (ps_set (i := 7) nd rfl (Or.inl rfl) (pe_lst pa_nil))
      (pss_cons (ps_if (pt_cmpR op_eq (pe_op op_mod (pe_callTy call_int1 rfl T.n_int boot_int (pa_cons (pe_ix (ixL_ K rfl) (pv 0) (pe_op op_add (pv 1) pe_int) (fun _ _ => rfl)) pa_nil)) pe_int) pe_int (nomark _)) (pss_one (ps_set (i := 7) nd rfl (Or.inl rfl) (pe_slice sl_list (pe_lst (pa_cons (pe_tup (pa_cons pe_str (pa_cons pe_str pa_nil))) (pa_cons (pe_tup (pa_cons pe_str (pa_cons pe_str pa_nil))) pa_nil))) po_none (po_some (pe_op op_add pe_int (pe_op op_mod (pe_callTy call_int1 rfl T.n_int boot_int (pa_cons (pe_op op_fdiv (pe_ix (ixL_ K rfl) (pv 0) (pe_op op_add (pv 1) pe_int) (fun _ _ => rfl)) pe_int) pa_nil)) pe_int)))))) pss_nil)
      (pss_one (ps_ret (pe_tup (pa_cons (pe_op op_add pe_int (pe_op op_mod (pe_callTy call_int1 rfl T.n_int boot_int (pa_cons (pe_ix (ixL_ K rfl) (pv 0) (pe_op op_add (pv 1) pe_int) (fun _ _ => rfl)) pa_nil)) pe_int)) (pa_cons (pv 3) (pa_cons (pv 4) (pa_cons (pv 7) pa_nil)))))))))))), ?_⟩
  refine ⟨Nat.zero_le _, fun f nf => ?_⟩
  dsimp only [gName]
  refine ⟨_, rfl, _, rfl, by omega, by omega, for_range (n := ((m : Nat) : Int).toNat) (fun i σ H' => ∃ (u1 u2 : Option V) (us : List V) (ts : List Tr),
      σ = [some (.ref a), some (.int at_), some (.int m), some (.int sk), some (.ref f), u1, u2, none] ∧ Same H H' ∧ Acc cTr H H' f us ts ∧ ts.length = i ∧ ∀ t ∈ ts, OkTr t ∧ cTr.ok t)
    ⟨none, none, [], [], rfl, Same.new nf, Acc.nil nf upd_same, rfl, fun t ht => (by cases ht)⟩ ?_ ?_⟩
  · rintro i σ H' hi ⟨u1, u2, us, ts, rfl, s, A, htl, hts⟩
    have hi3 : i < 3 := by omega
    obtain ⟨z1, h1⟩ := at_some (show at_ + i < ns.length by omega)
    obtain ⟨x, hx⟩ : ∃ x, trNm[i]? = some x := ⟨_, List.getElem?_eq_getElem hi3⟩
    have ox := trNm_ok x (List.mem_of_getElem? hx)
    have x1 : atI [V.str "sound", V.str "", V.str "long name 1"] (0 + (i : Int)) = some (.str x.1) := at0 (i := i) (by omega) (by
      have := congrArg (fun o => o.map fun y : Str × Str => V.str y.1) hx
      simpa [trNm, ← List.getElem?_map] using this)
    have x2 : atI [V.str "audio", V.str "text", V.str "x"] (0 + (i : Int)) = some (.str x.2) := at0 (i := i) (by omega) (by
      have := congrArg (fun o => o.map fun y : Str × Str => V.str y.2) hx
      simpa [trNm, ← List.getElem?_map] using this)
    have ha' := ha.mono s
    have hus : us.length = i := by rw [A.len, htl]
    refine ⟨_, rfl, _, rfl, _, rfl, _, _, rfl, rfl, _, _, _, _, rfl, rfl, ha'.sq, Li.at' (i := at_ + i) (by omega) h1, .inl ⟨_, rfl, _, _, rfl, rfl, (by show (0 : Int) < 6; decide), ?_⟩⟩
    obtain ⟨mm, hmm, hm5⟩ : ∃ mm : Nat, z1 % 6 = (mm : Int) ∧ mm ≤ 5 := ⟨(z1 % 6).toNat, by omega, by omega⟩
    dsimp only [gName]
    rw [hmm]
    refine ⟨_, rfl, .inl ⟨rfl, _, SqL.of A.at⟩, lsz (by simp), fun q nq => ⟨_, rfl, _, _, _, _, rfl, rfl, SqL.of upd_same, x1, lsz (by simp), fun q2 nq2 => ⟨_, rfl, _, _, _, _, rfl, rfl, SqL.of upd_same, x2, ?_⟩⟩⟩
    have s2 : Same H' (upd (upd H' q (.lst [V.str "sound", V.str "", V.str "long name 1"])) q2 (.lst [V.str "audio", V.str "text", V.str "x"])) := (Same.new nq).add nq2
    generalize upd (upd H' q (.lst [V.str "sound", V.str "", V.str "long name 1"])) q2 (.lst [V.str "audio", V.str "text", V.str "x"]) = H2 at s2
    refine ⟨_, rfl, _, rfl, _, _, rfl, rfl, _, rfl, _, _, rfl, rfl, .inl ⟨by decide, by decide⟩, _, _, rfl, rfl, _, rfl, a, at_ + 4 + 40 * i, mm, ns, ?_, ha'.mono s2, hN, by omega, hm5, fun H3 v us3 s3 hv hok => ⟨lsz (by simp), fun z nz => ?_⟩⟩
    · show [V.ref a, V.int ((at_ : Int) + 4 + 40 * (0 + (i : Int))), V.int mm] = _
      rw [show (at_ : Int) + 4 + 40 * (0 + (i : Int)) = ((at_ + 4 + 40 * i : Nat) : Int) by omega]
    have A3 := A.mono (s2.trans s3)
    have S3 := (s.trans s2).trans s3
    refine ⟨f, _, _, rfl, rfl, (A3.new nz).at, lsz' (by omega), _, _, us ++ [.ref z], ts ++ [(x.1, x.2, us3)], rfl, (S3.add nz).mut nf, (A3.new nz).push (x := (x.1, x.2, us3)) ⟨z, _, _, _, rfl, df_at upd_same (S3.free nz) (A3.ne nz), rfl, rfl, ?_⟩, by simp [htl], fun t ht => ?_⟩
    · exact (cL cUn).mono ((df_call (s.trans s2) (A.mono s2).at).trans (df_mono (Same.new nz))) hv
    · rcases List.mem_append.mp ht with ht | ht
      · exact hts t ht
      · rw [List.mem_singleton] at ht
        subst ht
        exact ⟨⟨ox.1.1, ox.2.1, hok⟩, ox.1.2, ox.2.2, fun u _ => ⟨trivial, trivial, trivial, trivial⟩⟩
  · rintro σ H' ⟨u1, u2, us, ts, rfl, s, A, htl, hts⟩
    obtain ⟨z2, h2⟩ := at_some (show at_ + 2 < ns.length by omega)
    obtain ⟨z3, h3⟩ := at_some (show at_ + 3 < ns.length by omega)
    refine ⟨Nat.zero_le _, fun g ng => ?_⟩
    have A1 := A.new (o := .lst []) ng
    have s1 := s.add (o := .lst []) ng
    have hg1 : cTags.R (fresh' H (upd H' g (.lst []))) (.ref g) [] := ⟨g, [], rfl, fresh_of upd_same (s.free ng), .nil⟩
    dsimp only [gName]
    generalize upd H' g (.lst []) = H1 at A1 s1 hg1
    have ha1 := ha.mono s1
    refine seq_mid (t := tIfS _ _ _) (fun σ' H2 => Same H1 H2 ∧ ∃ (g : Addr) (tg : List (Str × Str)), σ' = [some (.ref a), some (.int at_), some (.int m), some (.int sk), some (.ref f), u1, u2, some (.ref g)] ∧ cTags.R (fresh' H H2) (.ref g) tg ∧ OkTags tg ∧ cTags.ok tg) (fun nx hnx => ?_) ?_
    · refine ⟨_, rfl, _, rfl, _, _, rfl, rfl, _, _, _, _, rfl, rfl, ha1.sq, Li.at' (i := at_ + 3) rfl h3, .inl ⟨_, rfl, _, _, rfl, rfl, (by show (0 : Int) < 2; decide), rfl, _, rfl, ?_⟩⟩
      by_cases c : z3 % 2 = 0
      · refine ifT (bl_t (congrArg V.int c)) ⟨lsz (by simp), fun t1 nt1 => ⟨lsz (by simp), fun t2 nt2 => ⟨lsz (by simp), fun l nl => ?_⟩⟩⟩
        have f2 : H t1 = none := s1.free nt1
        have f3 : H t2 = none := (s1.add nt1).free nt2
        have e1 : upd (upd (upd H1 t1 (.tup [V.str "a", V.str "some words"])) t2 (.tup [V.str "zz", V.str ""])) l (.lst [V.ref t1, V.ref t2]) t1 = some (.tup [V.str "a", V.str "some words"]) := upd_keep (upd_keep upd_same nt2) nl
        have e2 : upd (upd (upd H1 t1 (.tup [V.str "a", V.str "some words"])) t2 (.tup [V.str "zz", V.str ""])) l (.lst [V.ref t1, V.ref t2]) t2 = some (.tup [V.str "zz", V.str ""]) := upd_keep upd_same nl
        have e3 : upd (upd (upd H1 t1 (.tup [V.str "a", V.str "some words"])) t2 (.tup [V.str "zz", V.str ""])) l (.lst [V.ref t1, V.ref t2]) l = some (.lst [V.ref t1, V.ref t2]) := upd_same
        have s2 : Same H1 (upd (upd (upd H1 t1 (.tup [V.str "a", V.str "some words"])) t2 (.tup [V.str "zz", V.str ""])) l (.lst [V.ref t1, V.ref t2])) := ((Same.new nt1).add nt2).add nl
        generalize upd (upd (upd H1 t1 (.tup [V.str "a", V.str "some words"])) t2 (.tup [V.str "zz", V.str ""])) l (.lst [V.ref t1, V.ref t2]) = H2 at e1 e2 e3 s2
        refine ⟨_, rfl, _, rfl, _, _, rfl, rfl, _, _, _, _, rfl, rfl, (ha1.mono s2).sq, Li.at' (i := at_ + 3) rfl h3, _, _, rfl, rfl, ⟨by decide, by decide⟩, .inl ⟨_, rfl, _, _, rfl, rfl, (by show (0 : Int) < 2; decide), _, _, rfl, rfl, _, rfl, l, _, rfl, SqL.of e3, fun y ny => ?_⟩⟩
        obtain ⟨n, hn, hn2⟩ : ∃ n : Nat, 1 + z3 / 2 % 2 = (n : Int) ∧ (n = 1 ∨ n = 2) := ⟨(1 + z3 / 2 % 2).toNat, by omega, by omega⟩
        dsimp only
        rw [hn, cutL_to]
        refine hnx _ _ ⟨s2.add ny, y, tgAll.take n, rfl, ⟨y, _, rfl, fresh_of upd_same ((s1.trans s2).free ny), ptake n (.cons ⟨t1, _, _, rfl, ?_, rfl, rfl⟩ (.cons ⟨t2, _, _, rfl, ?_, rfl, rfl⟩ .nil))⟩, (tg_ok hn2).1, (tg_ok hn2).2⟩
        · exact fresh_of (upd_keep e1 ny) f2
        · exact fresh_of (upd_keep e2 ny) f3
      · exact ifF (bl_f fun e => c (V.int.inj e)) (hnx _ _ ⟨fun _ _ e => e, g, [], rfl, hg1, tg_nil.1, tg_nil.2⟩)
    rintro _ H2 ⟨s2, g2, tg, rfl, hg2, ok1, ok2⟩
    have S2 := s1.trans s2
    have A2 := A1.mono s2
    refine ⟨_, rfl, _, rfl, _, _, rfl, rfl, _, _, _, _, rfl, rfl, (ha.mono S2).sq, Li.at' (i := at_ + 2) rfl h2, .inl ⟨_, rfl, _, _, rfl, rfl, (by show (0 : Int) < 90000; decide), _, _, rfl, rfl, _, rfl, _, rfl, _, rfl, lsz (by simp), fun r nr => ?_⟩⟩
    have hz2 := hN.get h2
    refine k _ (.ref r) (1 + z2 % 90000, sk, ts, tg) (S2.add nr) ⟨r, _, _, _, _, rfl, fresh_of upd_same (S2.free nr), rfl, rfl, (cL cTr).mono (fresh_mono (Same.new nr)) A2.done, cTags.mono (fresh_mono (Same.new nr)) hg2⟩
      ⟨by show 1 ≤ 1 + z2 % 90000 ∧ 1 + z2 % 90000 ≤ 90000; omega, hsk, by show ts.length ≤ 3; omega, fun t ht => (hts t ht).1, ok1⟩ ⟨trivial, trivial, fun t ht => (hts t ht).2, ok2⟩
end
end Sp
namespace Sp
open PySem PySem.Spec PyProof.Rows L2
/-- a stamp, changed in one of its four bytes, is another stamp -/
theorem xor_other {s d : Int} (hs : 0 ≤ s ∧ s ≤ 4294967295) (hd : 0 < d ∧ d ≤ 4294967295) : 0 ≤ Builtin.bitXor s d ∧ Builtin.bitXor s d ≤ 4294967295 ∧ Builtin.bitXor s d ≠ s := by
  have h := xor32 (a := s) (b := d) ⟨hs.1, by omega⟩ ⟨by omega, by omega⟩
  obtain ⟨h1, h2⟩ := h
  refine ⟨h1, by omega, fun e => ?_⟩
  rw [Bits.bitXor_pp hs.1 (by omega)] at e
  have e2 : s.toNat ^^^ d.toNat = s.toNat := by omega
  have e3 : d.toNat = 0 := by
    have := congrArg (fun z => s.toNat ^^^ z) e2
    simpa [← Nat.xor_assoc] using this
  omega
theorem FileOf.ff {stamp : Int} {p : Pr} {ls : List Leaf} (h : FileOf stamp p ls) (ok : OkPr p) (hs : 0 ≤ stamp ∧ stamp ≤ 4294967295) : ∃ od, FF stamp p od ls := by
  obtain ⟨od, inE, O, _, rfl⟩ := h
  exact ⟨od, fileL_ff ok O hs inE⟩
/-- the pieces of two files with different stamps, in any order -/
theorem two_has {s1 s2 : Int} {p1 p2 : Pr} {od1 od2 : List (Int × Int)} {F1 F2 pool : List Leaf} (f1 : FF s1 p1 od1 F1) (f2 : FF s2 p2 od2 F2) (ne : s2 ≠ s1) (hm : ∀ l, l ∈ F1 ++ F2 ↔ l ∈ pool) : HasF s1 F1 pool ∧ HasF s2 F2 pool := by
  refine ⟨⟨fun l hl hs => ?_, fun i l hl => ?_⟩, ⟨fun l hl hs => ?_, fun i l hl => ?_⟩⟩
  · rcases List.mem_append.mp ((hm l).mpr hl) with h | h
    · obtain ⟨i, hi⟩ := List.getElem?_of_mem h
      exact ⟨i, hi, f1.num i l hi⟩
    · exact absurd ((f2.st l h).symm.trans hs) ne
  · have h := List.mem_of_getElem? hl
    exact ⟨(hm l).mp (List.mem_append.mpr (.inl h)), f1.st l h, f1.num i l hl⟩
  · rcases List.mem_append.mp ((hm l).mpr hl) with h | h
    · exact absurd (hs.symm.trans (f1.st l h)) ne
    · obtain ⟨i, hi⟩ := List.getElem?_of_mem h
      exact ⟨i, hi, f2.num i l hi⟩
  · have h := List.mem_of_getElem? hl
    exact ⟨(hm l).mp (List.mem_append.mpr (.inr h)), f2.st l h, f2.num i l hl⟩
/-- rising lists without doubles and with the same members are one -/
theorem rise_eq : ∀ {xs ys : List Int}, xs.Pairwise (· < ·) → ys.Pairwise (· < ·) → (∀ z, z ∈ xs ↔ z ∈ ys) → xs = ys
  | [], [], _, _, _ => rfl
  | [], y :: ys, _, _, h => absurd ((h y).mpr (by simp)) (by simp)
  | x :: xs, [], _, _, h => absurd ((h x).mp (by simp)) (by simp)
  | x :: xs, y :: ys, h1, h2, h => by
    obtain ⟨a1, a2⟩ := List.pairwise_cons.mp h1
    obtain ⟨b1, b2⟩ := List.pairwise_cons.mp h2
    have e : x = y := by
      rcases List.mem_cons.mp ((h x).mp (by simp)) with q | q
      · exact q
      · rcases List.mem_cons.mp ((h y).mpr (by simp)) with q2 | q2
        · exact q2.symm
        · have := a1 y q2; have := b1 x q; omega
    subst e
    have := rise_eq a2 b2 fun z => by
      constructor
      · intro hz
        have := a1 z hz
        rcases List.mem_cons.mp ((h z).mp (by simp [hz])) with q | q
        · omega
        · exact q
      · intro hz
        have := b1 z hz
        rcases List.mem_cons.mp ((h z).mpr (by simp [hz])) with q | q
        · omega
        · exact q
    rw [this]
theorem rise_lt {xs : List Int} (h : xs.Pairwise (· ≤ ·)) (d : xs.Nodup) : xs.Pairwise (· < ·) := by
  have := List.Pairwise.and h d
  exact this.imp fun ⟨a, b⟩ => by omega
/-- the stamps are the two -/
theorem two_stamps {s1 s2 : Int} {p1 p2 : Pr} {od1 od2 : List (Int × Int)} {F1 F2 pool : List Leaf} (f1 : FF s1 p1 od1 F1) (f2 : FF s2 p2 od2 F2) (hm : ∀ l, l ∈ F1 ++ F2 ↔ l ∈ pool) (z : Int) : (∃ l ∈ pool, l.stamp = z) ↔ z = s1 ∨ z = s2 := by
  constructor
  · rintro ⟨l, hl, rfl⟩
    rcases List.mem_append.mp ((hm l).mpr hl) with h | h
    · exact .inl (f1.st l h)
    · exact .inr (f2.st l h)
  · rintro (rfl | rfl)
    · have h := List.mem_of_getElem? f1.head
      exact ⟨_, (hm _).mp (List.mem_append.mpr (.inl h)), f1.st _ h⟩
    · have h := List.mem_of_getElem? f2.head
      exact ⟨_, (hm _).mp (List.mem_append.mpr (.inr h)), f2.st _ h⟩
theorem sorted_two {s1 s2 : Int} (ne : s2 ≠ s1) {ys zs : List Int} (h1 : ys.Pairwise (· ≤ ·)) (h2 : ys.Nodup) (h3 : ∀ z, z ∈ ys ↔ z = s1 ∨ z = s2) (hp : zs.Perm [s1, s2]) (h4 : zs.Pairwise (· ≤ ·)) : ys = zs := by
  refine rise_eq (rise_lt h1 h2) (rise_lt h4 (hp.nodup_iff.mpr ?_)) fun z => ?_
  · simp [Ne.symm ne]
  · rw [h3, hp.mem_iff]
    simp
theorem both_filt {a b : List Leaf} (wa : ∀ l ∈ a, l.Wf) (wb : ∀ l ∈ b, l.Wf) : (a.map piece ++ [[]] ++ b.map piece).filter (fun s => decide (s ≠ [])) = (a ++ b).map piece := by
  have f : ∀ {c : List Leaf}, (∀ l ∈ c, l.Wf) → (c.map piece).filter (fun s => decide (s ≠ [])) = c.map piece := fun {c} wc => by
    refine List.filter_eq_self.mpr fun s hs => ?_
    obtain ⟨l, hl, rfl⟩ := List.mem_map.mp hs
    have := piece_pos (wc l hl)
    exact decide_eq_true fun e => by rw [e] at this; cases this
  rw [List.filter_append, List.filter_append, f wa, f wb, List.map_append]
  simp
end Sp
namespace Sp
open PySem PySem.Spec PyProof.Rows L2
theorem nat_of {z : Int} (b : Nat) (h : 0 ≤ z ∧ z ≤ b) : ∃ n : Nat, z = (n : Int) ∧ n ≤ b := ⟨z.toNat, by omega, by omega⟩
/-- the rebuilt files so far, one after the other -/
def Again (S O : Int) (p1 p2 : Pr) : Nat → List Int → Prop
  | 0, bs => bs = []
  | 1, bs => ∃ b1, FileOf S p1 b1 ∧ bs = encF b1
  | _, bs => ∃ b1 b2, FileOf S p1 b1 ∧ FileOf O p2 b2 ∧ bs = encF b1 ++ encF b2
def rngI (n : Nat) : List Int := (List.range n).map fun (j : Nat) => (j : Int)
theorem rngI_snoc (n : Nat) : (rngI (n + 1)).map V.int = (rngI n).map V.int ++ [V.int (n : Int)] := by simp [rngI, List.range_succ]
theorem rngI_len (n : Nat) : ((rngI n).map V.int).length = n := by simp [rngI]
section
variable {P : Program} {w : World} {K : PySem.W.Frag} {mg : Str → Option Value} {base : Heap}
def spLaw (K : PySem.W.Frag) : Sp := fun vs H Q _ => ∃ (a : Addr) (xs : List Int), vs = [.ref a] ∧ SqL K H a (xs.map V.int) ∧ ∀ H', Q (.bl true) H'
theorem ok_law (T : Txt K mg) : FnOk P w K mg base CX0 13 (ga K "law") (fdAt K (ga K "law")) ["_law_script"] (spLaw K) := by
  refine okD T.F_law sc_law (fun vs H Q E h => ?_) (fun cdv A outer s H vs Q E hr h => ?_)
  · obtain ⟨_, _, rfl, _⟩ := h
    rfl
  obtain ⟨a, xs, rfl, ha, k⟩ := h
  have nd := sc_law.nd
  refine ⟨_, ((pss_cons (ps_set (i := 1) nd rfl (Or.inl rfl) (pe_call (ok__law_numbers T) (hr.mono (by decide)) rfl T.g__law_numbers T.k__law_numbers T.b__law_numbers .nil pass0 (pa_cons (pv 0) (pa_cons pe_int pa_nil))))
      (pss_cons (ps_set (i := 2) nd rfl (Or.inl rfl) (pe_call (ok__law_presentation T) (hr.mono (by decide)) rfl T.g__law_presentation T.k__law_presentation T.b__law_presentation .nil pass0 (pa_cons (pv 1) (pa_cons pe_int (pa_cons (pe_op op_add pe_int (pe_op op_mod (pe_callTy call_int1 rfl T.n_int boot_int (pa_cons (pe_ix (ixL_ K rfl) (pv 1) pe_int (fun _ _ => rfl)) pa_nil)) pe_int)) (pa_cons (pe_op op_mod (pe_callTy call_int1 rfl T.n_int boot_int (pa_cons (pe_ix (ixL_ K rfl) (pv 1) pe_int (fun _ _ => rfl)) pa_nil)) pe_int) pa_nil))))))
      (pss_cons (ps_set (i := 3) nd rfl (Or.inl rfl) (pe_call (ok__law_presentation T) (hr.mono (by decide)) rfl T.g__law_presentation T.k__law_presentation T.b__law_presentation .nil pass0 (pa_cons (pv 1) (pa_cons pe_int (pa_cons (pe_op op_add pe_int (pe_op op_mod (pe_callTy call_int1 rfl T.n_int boot_int (pa_cons (pe_ix (ixL_ K rfl) (pv 1) pe_int (fun _ _ => rfl)) pa_nil)) pe_int)) (pa_cons (pe_op op_mod (pe_callTy call_int1 rfl T.n_int boot_int (pa_cons (pe_ix (ixL_ K rfl) (pv 1) pe_int (fun _ _ => rfl)) pa_nil)) pe_int) pa_nil))))))
      (pss_cons (ps_set (i := 4) nd rfl (Or.inr rfl) (pe_op op_add (pe_op op_mul pe_int (pe_ix (ixL_ K rfl) (pv 1) pe_int (fun _ _ => rfl))) (pe_ix (ixL_ K rfl) (pv 1) pe_int (fun _ _ => rfl))))
      (pss_cons (ps_set (i := 5) nd rfl (Or.inr rfl) (pe_op op_xor (pv 4) (pe_op op_shl (pe_op op_add pe_int (pe_op op_mod (pe_callTy call_int1 rfl T.n_int boot_int (pa_cons (pe_ix (ixL_ K rfl) (pv 1) pe_int (fun _ _ => rfl)) pa_nil)) pe_int)) (pe_op op_mul pe_int (pe_op op_mod (pe_callTy call_int1 rfl T.n_int boot_int (pa_cons (pe_ix (ixL_ K rfl) (pv 1) pe_int (fun _ _ => rfl)) pa_nil)) pe_int)))))
      (pss_cons (ps_set (i := 6) nd rfl (Or.inl rfl) (pe_lst (pa_cons (pe_call (ok_write T) (hr.mono (by decide)) rfl T.g_write T.k_write T.b_write .nil pass0 (pa_cons (pv 2) (pa_cons (pv 4) (pa_cons (pe_op op_mod (pe_callTy call_int1 rfl T.n_int boot_int (pa_cons (pe_ix (ixL_ K rfl) (pv 1) pe_int (fun _ _ => rfl)) pa_nil)) pe_int) pa_nil)))) (pa_cons (pe_call (ok_write T) (hr.mono (by decide)) rfl T.g_write T.k_write T.b_write .nil pass0 (pa_cons (pv 3) (pa_cons (pv 5) (pa_cons (pe_op op_mod (pe_callTy call_int1 rfl T.n_int boot_int (pa_cons (pe_ix (ixL_ K rfl) (pv 1) pe_int (fun _ _ => rfl)) pa_nil)) pe_int) pa_nil)))) pa_nil))))
      (pss_cons (ps_set (i := 7) nd rfl (Or.inl rfl) (pe_call (ok__law_mixed T) (hr.mono (by decide)) rfl T.g__law_mixed T.k__law_mixed T.b__law_mixed .nil pass0 (pa_cons (pe_op op_cat (pe_call (ok__law_pieces T) (hr.mono (by decide)) rfl T.g__law_pieces T.k__law_pieces T.b__law_pieces .nil pass0 (pa_cons (pe_ix (ixL_ K rfl) (pv 6) pe_int (fun _ _ => rfl)) pa_nil)) (pe_call (ok__law_pieces T) (hr.mono (by decide)) rfl T.g__law_pieces T.k__law_pieces T.b__law_pieces .nil pass0 (pa_cons (pe_ix (ixL_ K rfl) (pv 6) pe_int (fun _ _ => rfl)) pa_nil))) (pa_cons (pv 1) (pa_cons pe_int pa_nil)))))
      (pss_cons (ps_set (i := 8) nd rfl (Or.inl rfl) (pe_call (ok_salvage T) (hr.mono (by decide)) rfl T.g_salvage T.k_salvage T.b_salvage .nil pass0 (pa_cons (pv 7) pa_nil)))
      (pss_cons (ps_setLc (i := 9) (own := [("_law_k", 10)]) rfl nd rfl rfl (sw_true rfl rfl rfl (by decide +kernel)) (pi_range1 rfl T.n_range (pa_cons pe_int pa_nil)) (blkOk_by (N := N_law) (sc := defScope s_law) (by decide +kernel)) (fun _ _ _ _ _ => (pg_name (i := 10) nd rfl (Or.inl rfl))) (fun _ _ _ _ _ => (pts_one (pt_notC (pt_cmpR (inS_ K rfl) (pv 10) (pe_lst (pa_cons (pv 4) (pa_cons (pv 5) pa_nil))) (by rfl))))) (fun _ _ _ _ _ => (pv 10)))
      (pss_cons (ps_if (PW.pt (pw_or (pt_cmpR (op_neD hr.units) (pe_call (ok_stamps T) (hr.mono (by decide)) rfl T.g_stamps T.k_stamps T.b_stamps .nil pass0 (pa_cons (pv 8) pa_nil)) (pe_callB cr_sortedI rfl T.n_sorted boot_sorted (pa_cons (pe_lst (pa_cons (pv 4) (pa_cons (pv 5) pa_nil))) pa_nil)) (nomark _)) (pw_or1 (pt_notC (pt_val (pe_call (ok__law_absent T) (hr.mono (by decide)) rfl T.g__law_absent T.k__law_absent T.b__law_absent .nil pass0 (pa_cons (pv 7) (pa_cons (pv 8) (pa_cons (pe_ix (ixL_ K rfl) (pv 9) pe_int (fun _ _ => rfl)) pa_nil))))))))) (pss_one (ps_ret pe_bl)) pss_nil)
      (pss_cons (ps_set (i := 11) nd rfl (Or.inl rfl) (pe_lst pa_nil))
      (pss_cons (ps_for PassesOwn.never rfl (pi_list (pe_lst (pa_cons (pe_tup (pa_cons (pv 4) (pa_cons (pv 2) (pa_cons (pe_ix (ixL_ K rfl) (pv 6) pe_int (fun _ _ => rfl)) pa_nil)))) (pa_cons (pe_tup (pa_cons (pv 5) (pa_cons (pv 3) (pa_cons (pe_ix (ixL_ K rfl) (pv 6) pe_int (fun _ _ => rfl)) pa_nil)))) pa_nil)))) (pg_tup_ K rfl rfl (n := 3) (pgs_cons (pg_name (i := 12) nd rfl (Or.inl rfl)) (pgs_cons (pg_name (i := 13) nd rfl (Or.inl rfl)) (pgs_cons (pg_name (i := 14) nd rfl (Or.inl rfl)) pgs_nil)))) (pss_cons (ps_set (i := 15) nd rfl (Or.inl rfl) (pe_call (ok_roll T) (hr.mono (by decide)) rfl T.g_roll T.k_roll T.b_roll .nil pass0 (pa_cons (pv 8) (pa_cons (pv 12) pa_nil))))
        (pss_cons (ps_if (PW.pt (pw_or (pt_cmpR (op_neD hr.units) (pe_lc (own := [("_law_leaf", 16)]) rfl nd (pi_list (pv 15)) (blkOk_by (N := N_law) (sc := defScope s_law) (by decide +kernel)) (fun _ _ _ _ _ => (pg_name (i := 16) nd rfl (Or.inl rfl))) (fun _ _ _ _ _ => pts_nil) (fun _ _ _ _ _ => (pe_ix (ixT_ K rfl) (pv 16) pe_int (fun _ _ => rfl)))) (pe_lc (own := [("_law_k", 10)]) rfl nd (pi_range1 rfl T.n_range (pa_cons (pe_callB (lenS_ K rfl) rfl T.n_len boot_len (pa_cons (pe_call (ok__law_pieces T) (hr.mono (by decide)) rfl T.g__law_pieces T.k__law_pieces T.b__law_pieces .nil pass0 (pa_cons (pv 14) pa_nil)) pa_nil)) pa_nil)) (blkOk_by (N := N_law) (sc := defScope s_law) (by decide +kernel)) (fun _ _ _ _ _ => (pg_name (i := 10) nd rfl (Or.inl rfl))) (fun _ _ _ _ _ => pts_nil) (fun _ _ _ _ _ => (pv 10))) (nomark _)) (pw_or1 (pt_cmpR (op_neD hr.units) (pe_call (ok_gaps T) (hr.mono (by decide)) rfl T.g_gaps T.k_gaps T.b_gaps .nil pass0 (pa_cons (pv 15) pa_nil)) (pe_lst pa_nil) (nomark _))))) (pss_one (ps_ret pe_bl)) pss_nil)
        (pss_cons (ps_if (pt_cmpR (op_neD hr.units) (pe_call (ok_rebuilt T) (hr.mono (by decide)) rfl T.g_rebuilt T.k_rebuilt T.b_rebuilt .nil pass0 (pa_cons (pv 15) pa_nil)) (pv 13) (nomark _)) (pss_one (ps_ret pe_bl)) pss_nil)
        (pss_cons (ps_set (i := 17) nd rfl (Or.inl rfl) (pe_call (ok_rebuild T) (hr.mono (by decide)) rfl T.g_rebuild T.k_rebuild T.b_rebuild .nil pass0 (pa_cons (pv 7) (pa_cons (pv 12) (pa_cons (pe_op op_mod (pe_callTy call_int1 rfl T.n_int boot_int (pa_cons (pe_ix (ixL_ K rfl) (pv 1) pe_int (fun _ _ => rfl)) pa_nil)) pe_int) pa_nil)))))
        (pss_cons (ps_if (pt_cmpR (op_neD hr.units) (pe_call (ok_read T) (hr.mono (by decide)) rfl T.g_read T.k_read T.b_read .nil pass0 (pa_cons (pe_callTy (listOf_ K rfl) rfl T.n_list boot_list (pa_cons (pv 17) pa_nil)) pa_nil)) (pv 13) (nomark _)) (pss_one (ps_ret pe_bl)) pss_nil)
        (pss_one (ps_set (i := 11) nd rfl (Or.inl rfl) (pe_op op_cat (pv 11) (pv 17))))))))))
      (pss_cons (ps_set (i := 8) nd rfl (Or.inl rfl) (pe_call (ok_salvage T) (hr.mono (by decide)) rfl T.g_salvage T.k_salvage T.b_salvage .nil pass0 (pa_cons (pv 11) pa_nil)))
      (pss_one (ps_ret (pe_and (pe_cmpR (op_eqD hr.units) (pe_call (ok_rebuilt T) (hr.mono (by decide)) rfl T.g_rebuilt T.k_rebuilt T.b_rebuilt .nil pass0 (pa_cons (pe_call (ok_roll T) (hr.mono (by decide)) rfl T.g_roll T.k_roll T.b_roll .nil pass0 (pa_cons (pv 8) (pa_cons (pv 4) pa_nil))) pa_nil)) (pv 2) (nomark _)) (pe_one (pe_cmpR (op_eqD hr.units) (pe_call (ok_rebuilt T) (hr.mono (by decide)) rfl T.g_rebuilt T.k_rebuilt T.b_rebuilt .nil pass0 (pa_cons (pe_call (ok_roll T) (hr.mono (by decide)) rfl T.g_roll T.k_roll T.b_roll .nil pass0 (pa_cons (pv 8) (pa_cons (pv 5) pa_nil))) pa_nil)) (pv 3) (nomark _)))))))))))))))))))), ?_⟩
  refine ⟨_, rfl, a, xs, 400, rfl, ha, by decide, fun H1 pn ns s1 npn hn1 hl1 hN => ?_⟩
  clear ha
  obtain ⟨z0, e0⟩ := at_some (show 0 < ns.length by omega)
  obtain ⟨z1, e1⟩ := at_some (show 1 < ns.length by omega)
  obtain ⟨z2, e2⟩ := at_some (show 2 < ns.length by omega)
  obtain ⟨z3, e3⟩ := at_some (show 3 < ns.length by omega)
  obtain ⟨z4, e4⟩ := at_some (show 4 < ns.length by omega)
  obtain ⟨z5, e5⟩ := at_some (show 5 < ns.length by omega)
  obtain ⟨z6, e6⟩ := at_some (show 6 < ns.length by omega)
  obtain ⟨z7, e7⟩ := at_some (show 7 < ns.length by omega)
  obtain ⟨z8, e8⟩ := at_some (show 8 < ns.length by omega)
  obtain ⟨z9, e9⟩ := at_some (show 9 < ns.length by omega)
  obtain ⟨zr, er⟩ := at_some (show 370 < ns.length by omega)
  have b4 := hN.get e4
  have b5 := hN.get e5
  -- the first presentation
  obtain ⟨m1, hm1, lm1⟩ := nat_of (z := 1 + z0 % 2) 3 (by omega)
  refine ⟨_, rfl, _, rfl, _, _, _, _, rfl, rfl, hn1.sq, Li.at' (i := 0) rfl e0, .inl ⟨_, rfl, _, _, rfl, rfl, (by show (0 : Int) < 2; decide), _, _, rfl, rfl, _, rfl, _, _, _, _, rfl, rfl, hn1.sq, Li.at' (i := 1) rfl e1, .inl ⟨_, rfl, _, _, rfl, rfl, (by show (0 : Int) < 10; decide), pn, 10, m1, z1 % 10, ns, (by rw [← hm1]; rfl), hn1, hN, (by omega), lm1, ⟨by omega, by omega⟩, fun H2 v1 p1 s2 hp1 ok1 cok1 => ?_⟩⟩⟩
  have hn2 := hn1.mono s2
  have hp1 := cPr.mono (fresh_sub _ _) hp1
  clear hn1
  -- the second one
  obtain ⟨m2, hm2, lm2⟩ := nat_of (z := 1 + z2 % 3) 3 (by omega)
  refine ⟨_, rfl, _, rfl, _, _, _, _, rfl, rfl, hn2.sq, Li.at' (i := 2) rfl e2, .inl ⟨_, rfl, _, _, rfl, rfl, (by show (0 : Int) < 3; decide), _, _, rfl, rfl, _, rfl, _, _, _, _, rfl, rfl, hn2.sq, Li.at' (i := 3) rfl e3, .inl ⟨_, rfl, _, _, rfl, rfl, (by show (0 : Int) < 10; decide), pn, 150, m2, z3 % 10, ns, (by rw [← hm2]; rfl), hn2, hN, (by omega), lm2, ⟨by omega, by omega⟩, fun H3 v2 p2 s3 hp2 ok2 cok2 => ?_⟩⟩⟩
  have hn3 := hn2.mono s3
  have hp1 := cPr.mono s3 hp1
  have hp2 := cPr.mono (fresh_sub _ _) hp2
  clear hn2
  -- the stamps
  refine ⟨_, rfl, _, _, _, _, rfl, rfl, hn3.sq, Li.at' (i := 4) rfl e4, _, _, rfl, rfl, .inl ⟨by decide, by decide⟩, _, rfl, _, _, _, _, rfl, rfl, hn3.sq, Li.at' (i := 5) rfl e5, _, _, rfl, rfl, ?_⟩
  have hS : 0 ≤ 65536 * z4 + z5 ∧ 65536 * z4 + z5 ≤ 4294967295 := by omega
  dsimp only [gName]
  generalize 65536 * z4 + z5 = S at hS
  have h7 : (8 * (z7 % 4)).toNat = 0 ∨ (8 * (z7 % 4)).toNat = 8 ∨ (8 * (z7 % 4)).toNat = 16 ∨ (8 * (z7 % 4)).toNat = 24 := by omega
  have hd : 0 < (1 + z6 % 255) * 2 ^ (8 * (z7 % 4)).toNat ∧ (1 + z6 % 255) * 2 ^ (8 * (z7 % 4)).toNat ≤ 4294967295 := by
    rcases h7 with h | h | h | h <;> rw [h] <;> omega
  refine ⟨_, rfl, _, rfl, _, _, _, _, rfl, rfl, hn3.sq, Li.at' (i := 6) rfl e6, .inl ⟨_, rfl, _, _, rfl, rfl, (by show (0 : Int) < 255; decide), _, _, rfl, rfl, _, rfl, _, _, _, _, rfl, rfl, hn3.sq, Li.at' (i := 7) rfl e7, .inl ⟨_, rfl, _, _, rfl, rfl, (by show (0 : Int) < 4; decide), _, _, rfl, rfl, .inl ⟨by decide, by decide⟩, _, _, rfl, rfl, ⟨by omega, by omega, by omega⟩, _, _, rfl, rfl, ?_⟩⟩⟩
  have hO := xor_other hS hd
  dsimp only [gName]
  generalize Builtin.bitXor S ((1 + z6 % 255) * 2 ^ (8 * (z7 % 4)).toNat) = O at hO
  obtain ⟨hO1, hO2, hne⟩ := hO
  have hO : 0 ≤ O ∧ O ≤ 4294967295 := ⟨hO1, hO2⟩
  -- the files
  refine ⟨_, rfl, _, rfl, _, rfl, _, _, _, _, rfl, rfl, hn3.sq, Li.at' (i := 8) rfl e8, .inl ⟨_, rfl, _, _, rfl, rfl, (by show (0 : Int) < 5; decide), v1, z8 % 5, S, p1, rfl, hp1, ok1, hS, ⟨by omega, by omega⟩, fun F1 hF1 q1 H4 s4 nq1 hq1 => ?_⟩⟩
  have hn4 := hn3.mono s4
  have hp1 := cPr.mono s4 hp1
  have hp2 := cPr.mono s4 hp2
  refine ⟨_, rfl, _, rfl, _, rfl, _, _, _, _, rfl, rfl, hn4.sq, Li.at' (i := 9) rfl e9, .inl ⟨_, rfl, _, _, rfl, rfl, (by show (0 : Int) < 5; decide), v2, z9 % 5, O, p2, rfl, hp2, ok2, hO, ⟨by omega, by omega⟩, fun F2 hF2 q2 H5 s5 nq2 hq2 => ⟨lsz (by simp), fun fl nfl => ?_⟩⟩⟩
  have s6 : Same H4 (upd H5 fl (.lst [.ref q1, .ref q2])) := s5.add nfl
  have hn6 := hn4.mono s6
  have hp1 := cPr.mono s6 hp1
  have hp2 := cPr.mono s6 hp2
  have hq1 := hq1.mono s6
  have hq2 := hq2.keep (o := .lst [.ref q1, .ref q2]) nfl
  have hfl : upd H5 fl (.lst [.ref q1, .ref q2]) fl = some (.lst [.ref q1, .ref q2]) := upd_same
  dsimp only [gName]
  generalize upd H5 fl (.lst [.ref q1, .ref q2]) = H6 at hn6 hp1 hp2 hq1 hq2 hfl
  clear hn3 hn4 s4 s5 s6 s1 s2 s3 nq1 nq2 nfl
  obtain ⟨od1, f1⟩ := hF1.ff ok1 hS
  obtain ⟨od2, f2⟩ := hF2.ff ok2 hO
  have sz : ∀ {s : Int} {p : Pr} {od : List (Int × Int)} {F : List Leaf}, FF s p od F → (encF F).length ≤ 1000000 ∧ ∀ x ∈ F.map piece, ∀ y ∈ x, y ≠ 0 := fun f => ⟨by
    have h1 := encF_len f.wf
    have h2 := f.len.1
    omega, fun x hx y hy => by
      obtain ⟨l, hl, rfl⟩ := List.mem_map.mp hx
      have := piece_in (f.wf l hl) y hy
      omega⟩
  -- the mixed row
  refine ⟨_, rfl, _, _, _, _, rfl, rfl, SqL.of hfl, atI_nat (j := 0) rfl, q1, F1.map piece, rfl, hq1, (sz f1).1, (sz f1).2, fun H7 w1 s7 hw1 => ?_⟩
  refine ⟨_, rfl, _, _, _, _, rfl, rfl, SqL.of (s7 _ _ hfl), atI_nat (j := 1) rfl, q2, F2.map piece, rfl, hq2.mono s7, (sz f2).1, (sz f2).2, fun H8 w2 s8 hw2 => ?_⟩
  obtain ⟨c1, us1, rfl, hc1, hu1⟩ := (cL cLi).mono ((fresh_sub _ _).trans s8) hw1
  obtain ⟨c2, us2, rfl, hc2, hu2⟩ := (cL cLi).mono (fresh_sub _ _) hw2
  have l1 := hu1.length
  have l2 := hu2.length
  rw [List.length_map] at l1 l2
  have L1 := f1.len
  have L2 := f2.len
  refine ⟨c1, c2, _, _, rfl, rfl, hc1, hc2, lsz (by omega), fun c3 nc3 => ?_⟩
  have s9 : Same H6 (upd H8 c3 (.lst (us1 ++ us2))) := (s7.trans s8).add nc3
  have hwf : ∀ l ∈ F1 ++ F2, l.Wf := fun l hl => by
    rcases List.mem_append.mp hl with h | h
    · exact f1.wf l h
    · exact f2.wf l h
  refine ⟨_, rfl, _, pn, 300, ns, F1 ++ F2, rfl, ⟨c3, us1 ++ us2, rfl, upd_same, ?_⟩, hn6.mono s9, hN, by omega, by rw [List.length_append]; omega, hwf, fun H9 r ss pool s10 nr hr hsz hsl hft hmem => ?_⟩
  · rw [List.map_append]
    exact pmap (papp hu1 hu2) fun _ _ q => cLi.mono (Same.new nc3) q
  have S6 := s9.trans s10
  have hwfp : ∀ l ∈ pool, l.Wf := fun l hl => hwf l ((hmem l).mpr hl)
  have hn := hn6.mono S6
  have hp1 := cPr.mono S6 hp1
  have hp2 := cPr.mono S6 hp2
  have hq1 := hq1.mono S6
  have hq2 := hq2.mono S6
  have hfl := S6 _ _ hfl
  clear hn6 hc1 hc2 hu1 hu2 s7 s8 s9 s10 S6 l1 l2 hw1 hw2 nc3
  -- salvage
  refine ⟨_, rfl, r, ss, pool, rfl, hr, hsz, hft, hwfp, fun H10 fv finds s11 hfd hfv => ?_⟩
  have hfv := (cL cFind).mono (fresh_sub _ _) hfv
  have hn := hn.mono s11
  have hp1 := cPr.mono s11 hp1
  have hp2 := cPr.mono s11 hp2
  have hq1 := hq1.mono s11
  have hq2 := hq2.mono s11
  have hfl := s11 _ _ hfl
  have hr := hr.mono s11
  dsimp only [gName]
  -- a stamp that is not there
  refine ⟨3, rfl, by decide, by decide, fun D hD => lc_range (lo := 0) (n := (3 : Int).toNat) (fun i H' => ∃ ks : List Int, Same H10 H' ∧ Li H' D ks ∧ ks.length ≤ i ∧ (∀ x ∈ ks, x ≠ S ∧ x ≠ O) ∧ ∀ j : Nat, j < i → (j : Int) ∈ ks ∨ (j : Int) = S ∨ (j : Int) = O)
    ⟨[], Same.new hD, upd_same, Nat.le_refl _, fun x hx => (by cases hx), fun j hj => absurd hj (by omega)⟩ ?_ ?_⟩
  · rintro i H' hi ⟨ks, s12, hk, hkl, hk1, hk2⟩
    refine ⟨rfl, _, rfl, _, rfl, _, rfl, lsz (by simp), fun l nl => ?_⟩
    have hk' := hk.keep (o := .lst [.int S, .int O]) nl
    have s13 := s12.add (o := .lst [.int S, .int O]) nl
    refine ⟨l, _, rfl, .inl (SqL.of upd_same), rfl, rfl, _, rfl, ?_⟩
    have hin : inV (V.int (0 + (i : Int))) [V.int S, V.int O] = decide ((0 + (i : Int)) ∈ [S, O]) := inV_ints (0 + (i : Int)) [S, O]
    generalize upd H' l (.lst [.int S, .int O]) = H12 at hk' s13
    by_cases c : (0 + (i : Int)) ∈ [S, O]
    · refine ifT (hin.trans (decide_eq_true c)) (iteF ⟨ks, s13, hk', by omega, hk1, fun j hj => ?_⟩)
      by_cases e : j = i
      · rw [e]
        rw [Int.zero_add] at c
        rcases List.mem_cons.mp c with c | c
        · exact .inr (.inl c)
        · exact .inr (.inr (List.mem_singleton.mp c))
      · exact hk2 j (by omega)
    · refine ifF (hin.trans (decide_eq_false c)) (ifT rfl ⟨_, rfl, _, hk', lsz' (by rw [List.length_map]; omega), ks ++ [0 + (i : Int)], s13.mut hD, ?_, by simp; omega, fun x hx => ?_, fun j hj => ?_⟩)
      · show upd _ _ _ _ = _
        rw [upd_same, List.map_append]
        rfl
      · rcases List.mem_append.mp hx with hx | hx
        · exact hk1 x hx
        · rw [List.mem_singleton] at hx
          rw [hx]
          exact ⟨fun e => c (by rw [e]; simp), fun e => c (by rw [e]; simp)⟩
      · by_cases e : j = i
        · exact .inl (List.mem_append.mpr (.inr (by rw [e]; simp)))
        · rcases hk2 j (by omega) with q | q
          · exact .inl (List.mem_append.mpr (.inl q))
          · exact .inr q
  rintro H11 ⟨ks, s12, hk, hkl, hk1, hk2⟩
  obtain ⟨k0, hk0, hk0S, hk0O⟩ : ∃ k0, ks[0]? = some k0 ∧ k0 ≠ S ∧ k0 ≠ O := by
    cases ks with
    | nil =>
      have a0 := hk2 0 (by decide)
      have a1 := hk2 1 (by decide)
      have a2 := hk2 2 (by decide)
      simp at a0 a1 a2
      omega
    | cons x ks => exact ⟨x, rfl, hk1 x (by simp)⟩
  have hn := hn.mono s12
  have hp1 := cPr.mono s12 hp1
  have hp2 := cPr.mono s12 hp2
  have hq1 := hq1.mono s12
  have hq2 := hq2.mono s12
  have hfl := s12 _ _ hfl
  have hr := hr.mono s12
  have hfv := (cL cFind).mono s12 hfv
  clear hk1 hk2 hD s11 s12
  dsimp only [gName]
  obtain ⟨H1H, H2H⟩ := two_has f1 f2 hne hmem
  have hfl2 : finds.length ≤ 100000 := by
    have h1 := congrArg List.length hfd
    rw [List.length_map] at h1
    have h2 := congrArg List.length hft
    rw [List.length_map] at h2
    have h3 := List.length_filter_le (fun s => decide (s ≠ [])) ss
    omega
  -- the stamps are the two, the other one is absent
  refine ⟨_, rfl, fv, finds, rfl, hfv, hfl2, fun ps H12 ys s13 nps hys hle hnd hst => ⟨_, rfl, _, rfl, lsz (by simp), fun l nl => ⟨l, [S, O], rfl, SqL.of upd_same, fun zs pz hperm hlz npz => ?_⟩⟩⟩
  have hst2 : ∀ z, z ∈ ys ↔ z = S ∨ z = O := fun z => by
    rw [hst, ← two_stamps f1 f2 hmem z, ← hfd]
    constructor
    · rintro ⟨t, h1, h2⟩
      exact ⟨_, List.mem_map.mpr ⟨t, h1, rfl⟩, h2⟩
    · rintro ⟨t, h1, h2⟩
      obtain ⟨u, h3, rfl⟩ := List.mem_map.mp h1
      exact ⟨u, h3, h2⟩
  have eys := sorted_two hne hle hnd hst2 hperm hlz
  subst eys
  refine neD_same (c := cLi) (x := ys) ⟨ps, rfl, (hys.keep nl).keep npz⟩ ⟨pz, rfl, upd_same⟩ trivial ⟨_, rfl, iteF ?_⟩
  have s14 := ((s13.add (o := .lst [.int S, .int O]) nl).add (o := .lst (ys.map V.int)) npz)
  generalize upd (upd H12 l (.lst [.int S, .int O])) pz (.lst (ys.map V.int)) = H13 at s14
  refine ⟨_, rfl, _, rfl, _, rfl, _, _, _, _, rfl, rfl, (hk.mono s14).sq, Li.at' (i := 0) rfl hk0, r, fv, k0, finds, ss, pool, rfl, (cL cFind).mono s14 hfv, hfd, hr.mono s14, hsz, hft, hwfp, fun l hl e => ?_, fun H14 s15 => ⟨_, rfl, ?_⟩⟩
  · rcases (two_stamps f1 f2 hmem k0).mp ⟨l, hl, e⟩ with q | q
    · exact hk0S q
    · exact hk0O q
  refine ifT rfl (iteF ?_)
  have s15' := s14.trans s15
  have hn := hn.mono s15'
  have hp1 := cPr.mono s15' hp1
  have hp2 := cPr.mono s15' hp2
  have hq1 := hq1.mono s15'
  have hq2 := hq2.mono s15'
  have hfl := s15' _ _ hfl
  have hr := hr.mono s15'
  have hfv := (cL cFind).mono s15' hfv
  clear s15' s14 s15 s13 hys hk hst hst2 hperm hlz hle hnd npz nps nl
  -- both, one after the other
  refine ⟨Nat.zero_le _, fun g0 ng0 => ?_⟩
  have s1 := Same.new (o := .lst []) ng0
  have hg0 : Li (upd H14 g0 (.lst [])) g0 [] := upd_same
  dsimp only [gName]
  generalize upd H14 g0 (.lst []) = H15 at s1 hg0
  refine ⟨_, rfl, _, rfl, _, rfl, _, _, _, _, rfl, rfl, SqL.of (s1 _ _ hfl), atI_nat (j := 0) rfl, lsz (by simp), fun t1 nt1 => ⟨_, rfl, _, rfl, _, rfl, _, _, _, _, rfl, rfl, SqL.of (upd_keep (s1 _ _ hfl) nt1), atI_nat (j := 1) rfl, lsz (by simp), fun t2 nt2 => ⟨lsz (by simp), fun ll nll => ?_⟩⟩⟩
  have s2 := s1.trans (((Same.new (o := .tup [.int S, v1, .ref q1]) nt1).add (o := .tup [.int O, v2, .ref q2]) nt2).add (o := .lst [.ref t1, .ref t2]) nll)
  have hg := ((hg0.keep (o := .tup [.int S, v1, .ref q1]) nt1).keep (o := .tup [.int O, v2, .ref q2]) nt2).keep (o := .lst [.ref t1, .ref t2]) nll
  have ht1 : upd (upd (upd H15 t1 (.tup [.int S, v1, .ref q1])) t2 (.tup [.int O, v2, .ref q2])) ll (.lst [.ref t1, .ref t2]) t1 = some (.tup [.int S, v1, .ref q1]) := upd_keep (upd_keep upd_same nt2) nll
  have ht2 : upd (upd (upd H15 t1 (.tup [.int S, v1, .ref q1])) t2 (.tup [.int O, v2, .ref q2])) ll (.lst [.ref t1, .ref t2]) t2 = some (.tup [.int O, v2, .ref q2]) := upd_keep upd_same nll
  have hll : upd (upd (upd H15 t1 (.tup [.int S, v1, .ref q1])) t2 (.tup [.int O, v2, .ref q2])) ll (.lst [.ref t1, .ref t2]) ll = some (.lst [.ref t1, .ref t2]) := upd_same
  generalize upd (upd (upd H15 t1 (.tup [.int S, v1, .ref q1])) t2 (.tup [.int O, v2, .ref q2])) ll (.lst [.ref t1, .ref t2]) = H16 at s2 hg ht1 ht2 hll
  have hn := hn.mono s2
  have hp1 := cPr.mono s2 hp1
  have hp2 := cPr.mono s2 hp2
  have hq1 := hq1.mono s2
  have hq2 := hq2.mono s2
  have hr := hr.mono s2
  have hfv := (cL cFind).mono s2 hfv
  clear s1 s2 hfl hg0 nt1 nt2 nll ng0
  refine ⟨ll, rfl, ⟨_, SqL.of hll⟩, for_list (K := K) (a := ll) (xs := [.ref t1, .ref t2]) (fun i σ H' => ∃ (u10 u12 u13 u14 u15 u16 u17 : Option V) (g : Addr) (bs : List Int),
      σ = [some (.ref a), some (.ref pn), some v1, some v2, some (.int S), some (.int O), some (.ref fl), some (.ref r), some fv, some (.ref D), u10, some (.ref g), u12, u13, u14, u15, u16, u17] ∧ Same H16 H' ∧ Li H' g bs ∧ Again S O p1 p2 i bs)
    ⟨_, _, _, _, _, _, _, g0, [], rfl, fun _ _ e => e, hg, rfl⟩ (fun i σ H' _ ⟨_, _, _, _, _, _, _, _, _, _, s, _⟩ => SqL.of (s _ _ hll)) ?_ ?_⟩
  · rintro i x σ H' hi ⟨u10, u12, u13, u14, u15, u16, u17, g, bs, rfl, s, hg, hA⟩
    have part : ∃ (mk : Int) (pr : Pr) (F : List Leaf) (od : List (Int × Int)) (q : Addr) (vp : V) (t : Addr), x = V.ref t ∧ H16 t = some (.tup [.int mk, vp, .ref q]) ∧ Li H16 q (encF F) ∧ cPr.R H16 vp pr ∧ FF mk pr od F ∧ HasF mk F pool ∧ OkPr pr ∧ cPr.ok pr ∧ (0 ≤ mk ∧ mk ≤ 4294967295) ∧
        bs.length ≤ 1000000 ∧ ∀ b, FileOf mk pr b → Again S O p1 p2 (i + 1) (bs ++ encF b) := by
      match i, hi, hA with
      | 0, hi, hA =>
        have hA : bs = [] := hA
        subst hA
        exact ⟨S, p1, F1, od1, q1, v1, t1, (Option.some.inj hi).symm, ht1, hq1, hp1, f1, H1H, ok1, cok1, hS, Nat.zero_le _, fun b hb => ⟨b, hb, rfl⟩⟩
      | 1, hi, hA =>
        obtain ⟨b1, hb1, rfl⟩ := hA
        obtain ⟨_, ff1⟩ := hb1.ff ok1 hS
        exact ⟨O, p2, F2, od2, q2, v2, t2, (Option.some.inj hi).symm, ht2, hq2, hp2, f2, H2H, ok2, cok2, hO, (sz ff1).1, fun b hb => ⟨b1, b, hb1, hb, rfl⟩⟩
      | n + 2, hi, hA => cases hi
    obtain ⟨mk, pr, F, od, q, vp, t, rfl, ht, hq, hp, f, HF, okp, cokp, hmk, hbs, hnext⟩ := part
    have ht := s _ _ ht
    have hq := hq.mono s
    have hp := cPr.mono s hp
    have hn := hn.mono s
    have hr := hr.mono s
    have hfv := (cL cFind).mono s hfv
    obtain ⟨fin1, fin2⟩ := HF.fin hfd
    refine ⟨t, _, rfl, SqT.of ht, rfl, _, _, rfl, _, _, rfl, _, _, rfl, rfl, ?_⟩
    refine ⟨_, rfl, _, rfl, fv, mk, finds, F, rfl, hfv, f.len.1, fin1, fin2, fun Ha lv sa hlv => ?_⟩
    have hlv := (cL cLeaf).mono (fresh_sub _ _) hlv
    obtain ⟨la, lvs, rfl, hla, hlp⟩ := hlv
    have hll2 := hlp.length
    have hF64 := f.len.1
    dsimp only [gName]
    refine ⟨_, rfl, la, rfl, ⟨_, SqL.of hla⟩, fun D1 hD1 => lc_list (K := K) (a := la) (xs := lvs) (fun j H' => H' = upd Ha D1 (.lst ((rngI j).map V.int))) rfl (fun j H' _ e => by rw [e]; exact SqL.of (upd_keep hla hD1)) ?_ ?_⟩
    · rintro j y H' hj rfl
      obtain ⟨l, hl, t3, b3, rfl, ht3, hb3⟩ := pgetl hlp hj
      have hnum := f.num j l hl
      have hjl := lt_of_at hl
      refine ⟨rfl, _, rfl, _, _, _, _, rfl, rfl, SqT.of (upd_keep ht3 hD1), atI_nat (j := 2) rfl, _, upd_same, lsz' (by rw [rngI_len]; omega), ?_⟩
      rw [upd_upd, hnum, rngI_snoc]
    rintro Hb rfl
    rw [hll2]
    have sb := sa.add (o := .lst ((rngI F.length).map V.int)) hD1
    have hD1' : Li (upd Ha D1 (.lst ((rngI F.length).map V.int))) D1 (rngI F.length) := upd_same
    have hla' := upd_keep (o := .lst ((rngI F.length).map V.int)) hla hD1
    have hlp' := pmap hlp fun _ _ z => cLeaf.mono (Same.new (o := .lst ((rngI F.length).map V.int)) hD1) z
    generalize upd Ha D1 (.lst ((rngI F.length).map V.int)) = Hb at sb hD1' hla' hlp'
    clear sa hla hlp
    refine ⟨_, rfl, q, F.map piece, rfl, hq.mono sb, (sz f).1, (sz f).2, fun Hc wv sc hwv => ?_⟩
    obtain ⟨wc, ws, rfl, hwc, hwp⟩ := (cL cLi).mono (fresh_sub _ _) hwv
    have hwl := hwp.length
    rw [List.length_map] at hwl
    refine ⟨_, _, rfl, .inl (SqL.of hwc), _, rfl, by omega, by omega, fun D2 hD2 => lc_range (n := ((ws.length : Nat) : Int).toNat) (fun j H' => H' = upd Hc D2 (.lst ((rngI j).map V.int))) rfl ?_ ?_⟩
    · rintro j H' hj rfl
      refine ⟨rfl, _, rfl, _, upd_same, lsz' (by rw [rngI_len]; omega), ?_⟩
      rw [upd_upd, Int.zero_add, rngI_snoc]
    rintro Hd rfl
    rw [show ((ws.length : Nat) : Int).toNat = F.length by omega]
    have sd := (sb.trans sc).add (o := .lst ((rngI F.length).map V.int)) hD2
    refine neD_same (c := cLi) (x := rngI F.length) ⟨D1, rfl, (hD1'.mono sc).keep hD2⟩ ⟨D2, rfl, upd_same⟩ trivial ⟨_, rfl, iteF ?_⟩
    have hla := upd_keep (o := .lst ((rngI F.length).map V.int)) (sc _ _ hla') hD2
    have hlp := pmap hlp' fun _ _ z => cLeaf.mono (sc.add (o := .lst ((rngI F.length).map V.int)) hD2) z
    generalize upd Hc D2 (.lst ((rngI F.length).map V.int)) = Hd at sd hla hlp
    clear sb sc hla' hlp' hD1' hwc hwp hwv
    -- no gaps
    refine ⟨_, rfl, .ref la, F, rfl, ⟨la, lvs, rfl, hla, hlp⟩, by omega, f.num, f.last, fun p He se np hpe => ⟨Nat.zero_le _, fun z nz => neD_same (c := cL cLeaf) (x := []) ⟨p, [], rfl, upd_keep hpe nz, .nil⟩ ⟨z, [], rfl, upd_same, .nil⟩ (fun x hx => by cases hx) ⟨_, rfl, iteF ?_⟩⟩⟩
    have sf := (sd.trans se).add (o := .lst []) nz
    have hla2 := upd_keep (o := .lst []) (se _ _ hla) nz
    have hlp2 := pmap hlp fun _ _ z => cLeaf.mono (se.add (o := .lst []) nz) z
    generalize upd He z (.lst []) = Hf at sf hla2 hlp2
    clear sd hla hlp hpe
    -- what is rebuilt
    refine ⟨_, rfl, .ref la, mk, pr, od, F, rfl, ⟨la, lvs, rfl, hla2, hlp2⟩, f, okp, fun Hg u sg hu => ⟨_, rfl, neD_same (c := cPr) (cPr.mono (fresh_sub _ _) hu) (cPr.mono (sf.trans sg) hp) cokp ⟨_, rfl, iteF ?_⟩⟩⟩
    have sh := sf.trans sg
    clear sf sg hu hla2 hlp2
    -- its file, read again
    refine ⟨_, rfl, _, rfl, _, rfl, _, _, _, _, rfl, rfl, (hn.mono sh).sq, Li.at' (i := 370) rfl er, .inl ⟨_, rfl, _, _, rfl, rfl, (by show (0 : Int) < 5; decide), r, zr % 5, mk, ss, pool, F, pr, od, rfl, hr.mono sh, hsz, hft, hwfp, HF, f, okp, hmk, ⟨by omega, by omega⟩, fun b hb qb Hh si nqb hqb => ?_⟩⟩
    dsimp only [gName]
    have sj := sh.trans si
    obtain ⟨_, fb⟩ := hb.ff okp hmk
    have hbl := (sz fb).1
    refine ⟨_, rfl, qb, _, rfl, .inl hqb.sq, fun y ny => ⟨mk, pr, b, y, rfl, upd_same, hb, okp, hmk, fun Hi u sk hu => ⟨_, rfl, neD_same (c := cPr) hu (cPr.mono ((sj.add ny).trans sk) hp) cokp ⟨_, rfl, iteF ?_⟩⟩⟩⟩
    have sl := (sj.add (o := .lst ((encF b).map V.int)) ny).trans sk
    have hqb2 := (hqb.keep (o := .lst ((encF b).map V.int)) ny).mono sk
    have hg2 := hg.mono sl
    refine ⟨_, rfl, _, rfl, g, qb, _, _, rfl, rfl, hg2, hqb2, by rw [List.length_map, List.length_map, sizeLine_eq]; omega, fun g2 ng2 => ?_⟩
    refine ⟨_, _, _, _, _, _, _, g2, bs ++ encF b, rfl, (s.trans sl).add ng2, ?_, hnext b hb⟩
    show upd _ _ _ _ = _
    rw [upd_same, List.map_append]
  · rintro σ H' ⟨u10, u12, u13, u14, u15, u16, u17, g, bs, rfl, s, hg, hA⟩
    obtain ⟨b1, b2, hb1, hb2, rfl⟩ := hA
    obtain ⟨oe1, g1⟩ := hb1.ff ok1 hS
    obtain ⟨oe2, g2⟩ := hb2.ff ok2 hO
    have hg : Li H' g (segs (b1.map piece ++ [[]] ++ b2.map piece)) := by
      have e := segs_cat (b1.map piece) (b2.map piece)
      rw [← e]
      exact hg
    have hgl : (segs (b1.map piece ++ [[]] ++ b2.map piece)).length ≤ 1000000 := by
      rw [← segs_cat, List.length_append]
      have h1 := encF_len g1.wf
      have h2 := encF_len g2.wf
      have h3 := g1.len.1
      have h4 := g2.len.1
      unfold encF at h1 h2
      omega
    have hw : ∀ l ∈ b1 ++ b2, l.Wf := fun l hl => by
      rcases List.mem_append.mp hl with h | h
      · exact g1.wf l h
      · exact g2.wf l h
    obtain ⟨G1, G2⟩ := two_has g1 g2 hne (fun l => Iff.rfl)
    have hp1 := cPr.mono s hp1
    have hp2 := cPr.mono s hp2
    refine ⟨_, rfl, g, _, b1 ++ b2, rfl, hg, hgl, both_filt g1.wf g2.wf, hw, fun Ha fv2 fi sa hfd2 hfv2 => ?_⟩
    have hfv2 := (cL cFind).mono (fresh_sub _ _) hfv2
    obtain ⟨x1, x2⟩ := G1.fin hfd2
    obtain ⟨y1, y2⟩ := G2.fin hfd2
    dsimp only [gName]
    refine ⟨_, rfl, _, rfl, fv2, S, fi, b1, rfl, hfv2, g1.len.1, x1, x2, fun Hb v sb hv => ⟨v, S, p1, oe1, b1, rfl, (cL cLeaf).mono (fresh_sub _ _) hv, g1, ok1, fun Hc u sc hu => ?_⟩⟩
    have S3 := (sa.trans sb).trans sc
    refine ⟨_, rfl, eqD_same (c := cPr) (cPr.mono (fresh_sub _ _) hu) (cPr.mono S3 hp1) cok1 ⟨_, rfl, ifT rfl ?_⟩⟩
    refine ⟨_, rfl, _, rfl, fv2, O, fi, b2, rfl, (cL cFind).mono (sb.trans sc) hfv2, g2.len.1, y1, y2, fun Hd v sd hv => ⟨v, O, p2, oe2, b2, rfl, (cL cLeaf).mono (fresh_sub _ _) hv, g2, ok2, fun He u se hu => ?_⟩⟩
    refine ⟨_, rfl, eqD_same (c := cPr) (cPr.mono (fresh_sub _ _) hu) (cPr.mono ((S3.trans sd).trans se) hp2) cok2 ?_⟩
    exact k _
end
end Sp
namespace Sp
open PySem PySem.Spec PyProof.Rows L2
theorem facts {P : Program} {w : World} {K : PySem.W.Frag} {h : Heap} {mg : Str → Option Value} {f : Addr} (X : K.In h) (G : h.Ns mainGlobals mg) (hfa : mg ("law" : Str) = some (.ref f)) (c : obsL K = valL) :
    ∃ fd : FuncData, (∀ (s : Shared) (v : Value), BindsTo s fd ⟨[v], []⟩ [("_law_script", v)]) ∧ ∀ base : Heap, K.In base → base.Ns mainGlobals mg → FnOk P w K mg base CX0 13 f fd ["_law_script"] (spLaw K) := by
  have T : Txt K mg := ⟨h, X, G, c⟩
  have e := hfa.symm.trans T.g_law
  cases e
  have b := FunD.bindsA (ps := ["_law_script"]) T.F_law fun _ _ _ _ _ _ us hl => match us, hl with | [_], _ => rfl
  exact ⟨fdAt K (ga K "law"), fun s v => b s [v] rfl, fun base _ _ => ok_law T⟩
end Sp
open PySem PySem.W PySem.Calls PyProof.Rows
theorem PySem.Challenge.cw_spoolbox_k52_whole_mixed_files_holds : PySem.Challenge.rw_spoolbox_k52_whole_mixed_files.Holds := by
  w_on; o_law
  refine HandSHeadRun.head_any (r := OpenLaw.row PySem.Challenge.rw_spoolbox_k52_whole_mixed_files) (q := view (OpenLaw.row PySem.Challenge.rw_spoolbox_k52_whole_mixed_files).prog [166]) (H := Sp.hkL) (ob := Sp.ob) (M := 20000) (loose := Sp.loose) (d := HandSHeadRun.topDef (OpenLaw.row PySem.Challenge.rw_spoolbox_k52_whole_mixed_files).prog 166) (kwd := []) Sp.ob_eq
    (by kernel_rfl) (fun s => by kernel_rfl) Sp.run (by kernel_rfl) (by kernel_rfl) (by kernel_rfl) (by rfl) (by first | assumption | decide +kernel) (by decide +kernel) ⟨rfl, rfl, rfl, rfl, rfl, by decide +kernel⟩ ?hw ?hc
  case hw => w_witness2
  case hc =>
    refine L2.walk_ofE (l := PySem.Challenge.rw_spoolbox_k52_whole_mixed_files) (n := 63) (k := 13) (x := "_law_script") (CX := L2.CX0) rfl (by decide) (by kernel_rfl) ⟨by decide, by decide, by decide⟩ ?F (fun _ _ _ _ z => z)
    intro w mg fa h Y G hmg0
    obtain ⟨K, KX, c⟩ := Y
    have hmg : mg ("law" : PySem.Str) = some (.ref fa) := by
      have e : (HandSHeadRun.topDef (OpenLaw.row PySem.Challenge.rw_spoolbox_k52_whole_mixed_files).prog 166).name = ("law" : PySem.Str) := by kernel_rfl
      rw [← e]
      exact hmg0
    obtain ⟨fd, hb, hF⟩ := Sp.facts (P := (PySem.Challenge.rw_spoolbox_k52_whole_mixed_files).prog) (w := w) KX G hmg c
    exact ⟨K, fd, Sp.spLaw K, KX, hb, fun H a ns hl _ hS => ⟨a, ns, rfl, hS, fun _ => rfl⟩, hF⟩
