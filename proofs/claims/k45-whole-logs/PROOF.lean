import PyProof.Rows.All
import Wide.All
import OpenK.AllK
import Wide.FinOn
import KE.KStateDown
import HandS.ForMost
import HandS.ForExc
import HandS.More
import HandS.Conv
import HandS.Strs
import HandS.IsInst
import HandS.RaiseOp
import HandS.TryMany
import HandS.Replace
import HandS.Flow
import HandS.Defaults
import HandS.Head0
import HandS.Head1
import HandS.Head2
import HandS.HeadEnd
import HandS.HeadHook1
import HandS.HeadHook2
import PySem.Challenge.RW_quillrun_k45_whole_logs_at_any_cut
set_option Elab.async false
set_option linter.all false
set_option maxRecDepth 100000
set_option maxHeartbeats 4000000
namespace Q
open PySem PySem.Spec PyProof.Rows L2
def topS (i : Nat) : Stmt := PySem.Challenge.pw_quillrun_k45_whole_logs_at_any_cut.main.body.getD i (.Pass ⟨0, 0, 0, 0⟩)
abbrev s_write_number : Stmt := topS 4
abbrev s_write_integer : Stmt := topS 5
abbrev s_write_list : Stmt := topS 6
abbrev s_write_string : Stmt := topS 7
abbrev s_write_mark : Stmt := topS 8
abbrev s_write_deed : Stmt := topS 9
abbrev s_write_triples : Stmt := topS 10
abbrev s_write_value : Stmt := topS 11
abbrev s_write_outcome : Stmt := topS 12
abbrev s_write_kind : Stmt := topS 13
abbrev s_write_makers : Stmt := topS 14
abbrev s_write_shape : Stmt := topS 15
abbrev s_write_cell : Stmt := topS 16
abbrev s_write_cells : Stmt := topS 17
abbrev s_write_group : Stmt := topS 18
abbrev s_checksum : Stmt := topS 35
abbrev s_write_record : Stmt := topS 36
abbrev s_read_size : Stmt := topS 37
abbrev s_read_records : Stmt := topS 38
abbrev s_write_base : Stmt := topS 39
abbrev s_log_start : Stmt := topS 40
abbrev s_write_note : Stmt := topS 41
abbrev s_read_turn : Stmt := topS 42
abbrev s_read_base : Stmt := topS 43
abbrev s_after_note : Stmt := topS 44
abbrev s_read_log : Stmt := topS 45
abbrev s_law_mix : Stmt := topS 47
abbrev s_law_draws : Stmt := topS 48
abbrev s_law_at : Stmt := topS 49
abbrev s_law_is_integer : Stmt := topS 50
abbrev s_law_same : Stmt := topS 51
abbrev s_law_next : Stmt := topS 52
abbrev s_law_number : Stmt := topS 53
abbrev s_law_listed : Stmt := topS 54
abbrev s_law_string : Stmt := topS 55
abbrev s_law_mark_bytes : Stmt := topS 56
abbrev s_law_deed_bytes : Stmt := topS 57
abbrev s_law_triples_bytes : Stmt := topS 58
abbrev s_law_value_bytes : Stmt := topS 59
abbrev s_law_outcome_bytes : Stmt := topS 60
abbrev s_law_kind_bytes : Stmt := topS 61
abbrev s_law_cell_bytes : Stmt := topS 62
abbrev s_law_group_bytes : Stmt := topS 63
abbrev s_law_word : Stmt := topS 64
abbrev s_law_text_of : Stmt := topS 65
abbrev s_law_big : Stmt := topS 66
abbrev s_law_value : Stmt := topS 67
abbrev s_law_outcome : Stmt := topS 68
abbrev s_law_shape_kind : Stmt := topS 69
abbrev s_law_cell : Stmt := topS 70
abbrev s_law_any_deed : Stmt := topS 71
abbrev s_law_base_data : Stmt := topS 72
abbrev s_law_base_bytes : Stmt := topS 73
abbrev s_law_checksum : Stmt := topS 74
abbrev s_law_record : Stmt := topS 75
abbrev s_law_group : Stmt := topS 76
abbrev s_law_grown : Stmt := topS 77
abbrev s_law_some_base : Stmt := topS 78
abbrev s_law_told : Stmt := topS 79
abbrev s_law_wrong_note : Stmt := topS 80
abbrev s_law : Stmt := topS 81
abbrev s_Deeds_init : Stmt := inClass (topS 22) 0
abbrev s_Deeds_counts : Stmt := inClass (topS 22) 1
abbrev s_Deeds_add : Stmt := inClass (topS 22) 2
abbrev s_Deeds_copy : Stmt := inClass (topS 22) 3
abbrev s_Reader_init : Stmt := inClass (topS 31) 0
abbrev s_Reader_read_byte : Stmt := inClass (topS 31) 1
abbrev s_Reader_read_choice : Stmt := inClass (topS 31) 2
abbrev s_Reader_end : Stmt := inClass (topS 31) 3
abbrev s_Reader_read_number : Stmt := inClass (topS 31) 4
abbrev s_Reader_read_integer : Stmt := inClass (topS 31) 5
abbrev s_Reader_read_count : Stmt := inClass (topS 31) 6
abbrev s_Reader_read_character : Stmt := inClass (topS 31) 7
abbrev s_Reader_read_string : Stmt := inClass (topS 31) 8
abbrev s_Reader_read_mark : Stmt := inClass (topS 31) 9
abbrev s_Reader_read_deed : Stmt := inClass (topS 31) 10
abbrev s_Reader_read_deeds : Stmt := inClass (topS 31) 11
abbrev s_Reader_read_triple : Stmt := inClass (topS 31) 12
abbrev s_Reader_read_triples : Stmt := inClass (topS 31) 13
abbrev s_Reader_read_value : Stmt := inClass (topS 31) 15
abbrev s_Reader_read_value_at : Stmt := inClass (topS 31) 16
abbrev s_Reader_read_parts : Stmt := inClass (topS 31) 17
abbrev s_Reader_read_outcome : Stmt := inClass (topS 31) 18
abbrev s_Reader_read_kind : Stmt := inClass (topS 31) 19
abbrev s_Reader_read_maker : Stmt := inClass (topS 31) 20
abbrev s_Reader_read_makers : Stmt := inClass (topS 31) 21
abbrev s_Reader_read_shape : Stmt := inClass (topS 31) 22
abbrev s_Reader_read_cell : Stmt := inClass (topS 31) 23
abbrev s_Reader_read_cells : Stmt := inClass (topS 31) 24
abbrev s_Reader_read_group : Stmt := inClass (topS 31) 25
abbrev s_Base_init : Stmt := inClass (topS 34) 0
abbrev s_Base_copy : Stmt := inClass (topS 34) 1
abbrev s_Base_cells : Stmt := inClass (topS 34) 2
abbrev s_Base_data : Stmt := inClass (topS 34) 3
abbrev s_Base_grown : Stmt := inClass (topS 34) 4
def d_write_number : He.DefD := ⟨("write_number", none), "write_number", "write_number", defArgs s_write_number, defBody s_write_number, defScope s_write_number, [], []⟩
def d_write_integer : He.DefD := ⟨("write_integer", none), "write_integer", "write_integer", defArgs s_write_integer, defBody s_write_integer, defScope s_write_integer, [], []⟩
def d_write_list : He.DefD := ⟨("write_list", none), "write_list", "write_list", defArgs s_write_list, defBody s_write_list, defScope s_write_list, [], []⟩
def d_write_string : He.DefD := ⟨("write_string", none), "write_string", "write_string", defArgs s_write_string, defBody s_write_string, defScope s_write_string, [], []⟩
def d_write_mark : He.DefD := ⟨("write_mark", none), "write_mark", "write_mark", defArgs s_write_mark, defBody s_write_mark, defScope s_write_mark, [], []⟩
def d_write_deed : He.DefD := ⟨("write_deed", none), "write_deed", "write_deed", defArgs s_write_deed, defBody s_write_deed, defScope s_write_deed, [], []⟩
def d_write_triples : He.DefD := ⟨("write_triples", none), "write_triples", "write_triples", defArgs s_write_triples, defBody s_write_triples, defScope s_write_triples, [], []⟩
def d_write_value : He.DefD := ⟨("write_value", none), "write_value", "write_value", defArgs s_write_value, defBody s_write_value, defScope s_write_value, [], []⟩
def d_write_outcome : He.DefD := ⟨("write_outcome", none), "write_outcome", "write_outcome", defArgs s_write_outcome, defBody s_write_outcome, defScope s_write_outcome, [], []⟩
def d_write_kind : He.DefD := ⟨("write_kind", none), "write_kind", "write_kind", defArgs s_write_kind, defBody s_write_kind, defScope s_write_kind, [], []⟩
def d_write_makers : He.DefD := ⟨("write_makers", none), "write_makers", "write_makers", defArgs s_write_makers, defBody s_write_makers, defScope s_write_makers, [], []⟩
def d_write_shape : He.DefD := ⟨("write_shape", none), "write_shape", "write_shape", defArgs s_write_shape, defBody s_write_shape, defScope s_write_shape, [], []⟩
def d_write_cell : He.DefD := ⟨("write_cell", none), "write_cell", "write_cell", defArgs s_write_cell, defBody s_write_cell, defScope s_write_cell, [], []⟩
def d_write_cells : He.DefD := ⟨("write_cells", none), "write_cells", "write_cells", defArgs s_write_cells, defBody s_write_cells, defScope s_write_cells, [], []⟩
def d_write_group : He.DefD := ⟨("write_group", none), "write_group", "write_group", defArgs s_write_group, defBody s_write_group, defScope s_write_group, [], []⟩
def d_checksum : He.DefD := ⟨("checksum", none), "checksum", "checksum", defArgs s_checksum, defBody s_checksum, defScope s_checksum, [], []⟩
def d_write_record : He.DefD := ⟨("write_record", none), "write_record", "write_record", defArgs s_write_record, defBody s_write_record, defScope s_write_record, [], []⟩
def d_read_size : He.DefD := ⟨("_read_size", none), "_read_size", "_read_size", defArgs s_read_size, defBody s_read_size, defScope s_read_size, [], []⟩
def d_read_records : He.DefD := ⟨("read_records", none), "read_records", "read_records", defArgs s_read_records, defBody s_read_records, defScope s_read_records, [], []⟩
def d_write_base : He.DefD := ⟨("_write_base", none), "_write_base", "_write_base", defArgs s_write_base, defBody s_write_base, defScope s_write_base, [], []⟩
def d_log_start : He.DefD := ⟨("log_start", none), "log_start", "log_start", defArgs s_log_start, defBody s_log_start, defScope s_log_start, [], []⟩
def d_write_note : He.DefD := ⟨("write_note", none), "write_note", "write_note", defArgs s_write_note, defBody s_write_note, defScope s_write_note, [], []⟩
def d_read_turn : He.DefD := ⟨("_read_turn", none), "_read_turn", "_read_turn", defArgs s_read_turn, defBody s_read_turn, defScope s_read_turn, [], []⟩
def d_read_base : He.DefD := ⟨("_read_base", none), "_read_base", "_read_base", defArgs s_read_base, defBody s_read_base, defScope s_read_base, [], []⟩
def d_after_note : He.DefD := ⟨("_after_note", none), "_after_note", "_after_note", defArgs s_after_note, defBody s_after_note, defScope s_after_note, [], []⟩
def d_read_log : He.DefD := ⟨("read_log", none), "read_log", "read_log", defArgs s_read_log, defBody s_read_log, defScope s_read_log, [], []⟩
def d_law_mix : He.DefD := ⟨("_law_mix", none), "_law_mix", "_law_mix", defArgs s_law_mix, defBody s_law_mix, defScope s_law_mix, [], []⟩
def d_law_draws : He.DefD := ⟨("_law_draws", none), "_law_draws", "_law_draws", defArgs s_law_draws, defBody s_law_draws, defScope s_law_draws, [], []⟩
def d_law_at : He.DefD := ⟨("_law_at", none), "_law_at", "_law_at", defArgs s_law_at, defBody s_law_at, defScope s_law_at, [], []⟩
def d_law_is_integer : He.DefD := ⟨("_law_is_integer", none), "_law_is_integer", "_law_is_integer", defArgs s_law_is_integer, defBody s_law_is_integer, defScope s_law_is_integer, [], []⟩
def d_law_same : He.DefD := ⟨("_law_same", none), "_law_same", "_law_same", defArgs s_law_same, defBody s_law_same, defScope s_law_same, [], []⟩
def d_law_next : He.DefD := ⟨("_law_next", none), "_law_next", "_law_next", defArgs s_law_next, defBody s_law_next, defScope s_law_next, [], []⟩
def d_law_number : He.DefD := ⟨("_law_number", none), "_law_number", "_law_number", defArgs s_law_number, defBody s_law_number, defScope s_law_number, [], []⟩
def d_law_listed : He.DefD := ⟨("_law_listed", none), "_law_listed", "_law_listed", defArgs s_law_listed, defBody s_law_listed, defScope s_law_listed, [], []⟩
def d_law_string : He.DefD := ⟨("_law_string", none), "_law_string", "_law_string", defArgs s_law_string, defBody s_law_string, defScope s_law_string, [], []⟩
def d_law_mark_bytes : He.DefD := ⟨("_law_mark_bytes", none), "_law_mark_bytes", "_law_mark_bytes", defArgs s_law_mark_bytes, defBody s_law_mark_bytes, defScope s_law_mark_bytes, [], []⟩
def d_law_deed_bytes : He.DefD := ⟨("_law_deed_bytes", none), "_law_deed_bytes", "_law_deed_bytes", defArgs s_law_deed_bytes, defBody s_law_deed_bytes, defScope s_law_deed_bytes, [], []⟩
def d_law_triples_bytes : He.DefD := ⟨("_law_triples_bytes", none), "_law_triples_bytes", "_law_triples_bytes", defArgs s_law_triples_bytes, defBody s_law_triples_bytes, defScope s_law_triples_bytes, [], []⟩
def d_law_value_bytes : He.DefD := ⟨("_law_value_bytes", none), "_law_value_bytes", "_law_value_bytes", defArgs s_law_value_bytes, defBody s_law_value_bytes, defScope s_law_value_bytes, [], []⟩
def d_law_outcome_bytes : He.DefD := ⟨("_law_outcome_bytes", none), "_law_outcome_bytes", "_law_outcome_bytes", defArgs s_law_outcome_bytes, defBody s_law_outcome_bytes, defScope s_law_outcome_bytes, [], []⟩
def d_law_kind_bytes : He.DefD := ⟨("_law_kind_bytes", none), "_law_kind_bytes", "_law_kind_bytes", defArgs s_law_kind_bytes, defBody s_law_kind_bytes, defScope s_law_kind_bytes, [], []⟩
def d_law_cell_bytes : He.DefD := ⟨("_law_cell_bytes", none), "_law_cell_bytes", "_law_cell_bytes", defArgs s_law_cell_bytes, defBody s_law_cell_bytes, defScope s_law_cell_bytes, [], []⟩
def d_law_group_bytes : He.DefD := ⟨("_law_group_bytes", none), "_law_group_bytes", "_law_group_bytes", defArgs s_law_group_bytes, defBody s_law_group_bytes, defScope s_law_group_bytes, [], []⟩
def d_law_word : He.DefD := ⟨("_law_word", none), "_law_word", "_law_word", defArgs s_law_word, defBody s_law_word, defScope s_law_word, [], []⟩
def d_law_text_of : He.DefD := ⟨("_law_text_of", none), "_law_text_of", "_law_text_of", defArgs s_law_text_of, defBody s_law_text_of, defScope s_law_text_of, [], []⟩
def d_law_big : He.DefD := ⟨("_law_big", none), "_law_big", "_law_big", defArgs s_law_big, defBody s_law_big, defScope s_law_big, [], []⟩
def d_law_value : He.DefD := ⟨("_law_value", none), "_law_value", "_law_value", defArgs s_law_value, defBody s_law_value, defScope s_law_value, [], []⟩
def d_law_outcome : He.DefD := ⟨("_law_outcome", none), "_law_outcome", "_law_outcome", defArgs s_law_outcome, defBody s_law_outcome, defScope s_law_outcome, [], []⟩
def d_law_shape_kind : He.DefD := ⟨("_law_shape_kind", none), "_law_shape_kind", "_law_shape_kind", defArgs s_law_shape_kind, defBody s_law_shape_kind, defScope s_law_shape_kind, [], []⟩
def d_law_cell : He.DefD := ⟨("_law_cell", none), "_law_cell", "_law_cell", defArgs s_law_cell, defBody s_law_cell, defScope s_law_cell, [], []⟩
def d_law_any_deed : He.DefD := ⟨("_law_any_deed", none), "_law_any_deed", "_law_any_deed", defArgs s_law_any_deed, defBody s_law_any_deed, defScope s_law_any_deed, [], []⟩
def d_law_base_data : He.DefD := ⟨("_law_base_data", none), "_law_base_data", "_law_base_data", defArgs s_law_base_data, defBody s_law_base_data, defScope s_law_base_data, [], []⟩
def d_law_base_bytes : He.DefD := ⟨("_law_base_bytes", none), "_law_base_bytes", "_law_base_bytes", defArgs s_law_base_bytes, defBody s_law_base_bytes, defScope s_law_base_bytes, [], []⟩
def d_law_checksum : He.DefD := ⟨("_law_checksum", none), "_law_checksum", "_law_checksum", defArgs s_law_checksum, defBody s_law_checksum, defScope s_law_checksum, [], []⟩
def d_law_record : He.DefD := ⟨("_law_record", none), "_law_record", "_law_record", defArgs s_law_record, defBody s_law_record, defScope s_law_record, [], []⟩
def d_law_group : He.DefD := ⟨("_law_group", none), "_law_group", "_law_group", defArgs s_law_group, defBody s_law_group, defScope s_law_group, [], []⟩
def d_law_grown : He.DefD := ⟨("_law_grown", none), "_law_grown", "_law_grown", defArgs s_law_grown, defBody s_law_grown, defScope s_law_grown, [], []⟩
def d_law_some_base : He.DefD := ⟨("_law_some_base", none), "_law_some_base", "_law_some_base", defArgs s_law_some_base, defBody s_law_some_base, defScope s_law_some_base, [], []⟩
def d_law_told : He.DefD := ⟨("_law_told", none), "_law_told", "_law_told", defArgs s_law_told, defBody s_law_told, defScope s_law_told, [], []⟩
def d_law_wrong_note : He.DefD := ⟨("_law_wrong_note", none), "_law_wrong_note", "_law_wrong_note", defArgs s_law_wrong_note, defBody s_law_wrong_note, defScope s_law_wrong_note, [], []⟩
def d_law : He.DefD := ⟨("law", none), "law", "law", defArgs s_law, defBody s_law, defScope s_law, [], []⟩
def d_Deeds_init : He.DefD := ⟨("Deeds", some "__init__"), "__init__", "Deeds.__init__", defArgs s_Deeds_init, defBody s_Deeds_init, defScope s_Deeds_init, [], []⟩
def d_Deeds_counts : He.DefD := ⟨("Deeds", some "counts"), "counts", "Deeds.counts", defArgs s_Deeds_counts, defBody s_Deeds_counts, defScope s_Deeds_counts, [], []⟩
def d_Deeds_add : He.DefD := ⟨("Deeds", some "add"), "add", "Deeds.add", defArgs s_Deeds_add, defBody s_Deeds_add, defScope s_Deeds_add, [], []⟩
def d_Deeds_copy : He.DefD := ⟨("Deeds", some "copy"), "copy", "Deeds.copy", defArgs s_Deeds_copy, defBody s_Deeds_copy, defScope s_Deeds_copy, [], []⟩
def d_Reader_init : He.DefD := ⟨("Reader", some "__init__"), "__init__", "Reader.__init__", defArgs s_Reader_init, defBody s_Reader_init, defScope s_Reader_init, [], []⟩
def d_Reader_read_byte : He.DefD := ⟨("Reader", some "read_byte"), "read_byte", "Reader.read_byte", defArgs s_Reader_read_byte, defBody s_Reader_read_byte, defScope s_Reader_read_byte, [], []⟩
def d_Reader_read_choice : He.DefD := ⟨("Reader", some "read_choice"), "read_choice", "Reader.read_choice", defArgs s_Reader_read_choice, defBody s_Reader_read_choice, defScope s_Reader_read_choice, [], []⟩
def d_Reader_end : He.DefD := ⟨("Reader", some "end"), "end", "Reader.end", defArgs s_Reader_end, defBody s_Reader_end, defScope s_Reader_end, [], []⟩
def d_Reader_read_number : He.DefD := ⟨("Reader", some "read_number"), "read_number", "Reader.read_number", defArgs s_Reader_read_number, defBody s_Reader_read_number, defScope s_Reader_read_number, [], []⟩
def d_Reader_read_integer : He.DefD := ⟨("Reader", some "read_integer"), "read_integer", "Reader.read_integer", defArgs s_Reader_read_integer, defBody s_Reader_read_integer, defScope s_Reader_read_integer, [], []⟩
def d_Reader_read_count : He.DefD := ⟨("Reader", some "read_count"), "read_count", "Reader.read_count", defArgs s_Reader_read_count, defBody s_Reader_read_count, defScope s_Reader_read_count, [], []⟩
def d_Reader_read_character : He.DefD := ⟨("Reader", some "read_character"), "read_character", "Reader.read_character", defArgs s_Reader_read_character, defBody s_Reader_read_character, defScope s_Reader_read_character, [], []⟩
def d_Reader_read_string : He.DefD := ⟨("Reader", some "read_string"), "read_string", "Reader.read_string", defArgs s_Reader_read_string, defBody s_Reader_read_string, defScope s_Reader_read_string, [], []⟩
def d_Reader_read_mark : He.DefD := ⟨("Reader", some "read_mark"), "read_mark", "Reader.read_mark", defArgs s_Reader_read_mark, defBody s_Reader_read_mark, defScope s_Reader_read_mark, [], []⟩
def d_Reader_read_deed : He.DefD := ⟨("Reader", some "read_deed"), "read_deed", "Reader.read_deed", defArgs s_Reader_read_deed, defBody s_Reader_read_deed, defScope s_Reader_read_deed, [], []⟩
def d_Reader_read_deeds : He.DefD := ⟨("Reader", some "read_deeds"), "read_deeds", "Reader.read_deeds", defArgs s_Reader_read_deeds, defBody s_Reader_read_deeds, defScope s_Reader_read_deeds, [], []⟩
def d_Reader_read_triple : He.DefD := ⟨("Reader", some "read_triple"), "read_triple", "Reader.read_triple", defArgs s_Reader_read_triple, defBody s_Reader_read_triple, defScope s_Reader_read_triple, [], []⟩
def d_Reader_read_triples : He.DefD := ⟨("Reader", some "read_triples"), "read_triples", "Reader.read_triples", defArgs s_Reader_read_triples, defBody s_Reader_read_triples, defScope s_Reader_read_triples, [], []⟩
def d_Reader_read_value : He.DefD := ⟨("Reader", some "read_value"), "read_value", "Reader.read_value", defArgs s_Reader_read_value, defBody s_Reader_read_value, defScope s_Reader_read_value, [], []⟩
def d_Reader_read_value_at : He.DefD := ⟨("Reader", some "read_value_at"), "read_value_at", "Reader.read_value_at", defArgs s_Reader_read_value_at, defBody s_Reader_read_value_at, defScope s_Reader_read_value_at, [], []⟩
def d_Reader_read_parts : He.DefD := ⟨("Reader", some "read_parts"), "read_parts", "Reader.read_parts", defArgs s_Reader_read_parts, defBody s_Reader_read_parts, defScope s_Reader_read_parts, [], []⟩
def d_Reader_read_outcome : He.DefD := ⟨("Reader", some "read_outcome"), "read_outcome", "Reader.read_outcome", defArgs s_Reader_read_outcome, defBody s_Reader_read_outcome, defScope s_Reader_read_outcome, [], []⟩
def d_Reader_read_kind : He.DefD := ⟨("Reader", some "read_kind"), "read_kind", "Reader.read_kind", defArgs s_Reader_read_kind, defBody s_Reader_read_kind, defScope s_Reader_read_kind, [], []⟩
def d_Reader_read_maker : He.DefD := ⟨("Reader", some "read_maker"), "read_maker", "Reader.read_maker", defArgs s_Reader_read_maker, defBody s_Reader_read_maker, defScope s_Reader_read_maker, [], []⟩
def d_Reader_read_makers : He.DefD := ⟨("Reader", some "read_makers"), "read_makers", "Reader.read_makers", defArgs s_Reader_read_makers, defBody s_Reader_read_makers, defScope s_Reader_read_makers, [], []⟩
def d_Reader_read_shape : He.DefD := ⟨("Reader", some "read_shape"), "read_shape", "Reader.read_shape", defArgs s_Reader_read_shape, defBody s_Reader_read_shape, defScope s_Reader_read_shape, [], []⟩
def d_Reader_read_cell : He.DefD := ⟨("Reader", some "read_cell"), "read_cell", "Reader.read_cell", defArgs s_Reader_read_cell, defBody s_Reader_read_cell, defScope s_Reader_read_cell, [], []⟩
def d_Reader_read_cells : He.DefD := ⟨("Reader", some "read_cells"), "read_cells", "Reader.read_cells", defArgs s_Reader_read_cells, defBody s_Reader_read_cells, defScope s_Reader_read_cells, [], []⟩
def d_Reader_read_group : He.DefD := ⟨("Reader", some "read_group"), "read_group", "Reader.read_group", defArgs s_Reader_read_group, defBody s_Reader_read_group, defScope s_Reader_read_group, [], []⟩
def d_Base_init : He.DefD := ⟨("Base", some "__init__"), "__init__", "Base.__init__", defArgs s_Base_init, defBody s_Base_init, defScope s_Base_init, [], []⟩
def d_Base_copy : He.DefD := ⟨("Base", some "copy"), "copy", "Base.copy", defArgs s_Base_copy, defBody s_Base_copy, defScope s_Base_copy, [], []⟩
def d_Base_cells : He.DefD := ⟨("Base", some "cells"), "cells", "Base.cells", defArgs s_Base_cells, defBody s_Base_cells, defScope s_Base_cells, [], []⟩
def d_Base_data : He.DefD := ⟨("Base", some "data"), "data", "Base.data", defArgs s_Base_data, defBody s_Base_data, defScope s_Base_data, [], []⟩
def d_Base_grown : He.DefD := ⟨("Base", some "grown"), "grown", "Base.grown", defArgs s_Base_grown, defBody s_Base_grown, defScope s_Base_grown, [], []⟩
def fnL : List He.DefD := [d_write_number, d_write_integer, d_write_list, d_write_string, d_write_mark, d_write_deed, d_write_triples, d_write_value, d_write_outcome, d_write_kind, d_write_makers, d_write_shape, d_write_cell, d_write_cells, d_write_group, d_checksum, d_write_record, d_read_size, d_read_records, d_write_base, d_log_start, d_write_note, d_read_turn, d_read_base, d_after_note, d_read_log, d_law_mix, d_law_draws, d_law_at, d_law_is_integer, d_law_same, d_law_next, d_law_number, d_law_listed, d_law_string, d_law_mark_bytes, d_law_deed_bytes, d_law_triples_bytes, d_law_value_bytes, d_law_outcome_bytes, d_law_kind_bytes, d_law_cell_bytes, d_law_group_bytes, d_law_word, d_law_text_of, d_law_big, d_law_value, d_law_outcome, d_law_shape_kind, d_law_cell, d_law_any_deed, d_law_base_data, d_law_base_bytes, d_law_checksum, d_law_record, d_law_group, d_law_grown, d_law_some_base, d_law_told, d_law_wrong_note, d_law, d_Deeds_init, d_Deeds_counts, d_Deeds_add, d_Deeds_copy, d_Reader_init, d_Reader_read_byte, d_Reader_read_choice, d_Reader_end, d_Reader_read_number, d_Reader_read_integer, d_Reader_read_count, d_Reader_read_character, d_Reader_read_string, d_Reader_read_mark, d_Reader_read_deed, d_Reader_read_deeds, d_Reader_read_triple, d_Reader_read_triples, d_Reader_read_value, d_Reader_read_value_at, d_Reader_read_parts, d_Reader_read_outcome, d_Reader_read_kind, d_Reader_read_maker, d_Reader_read_makers, d_Reader_read_shape, d_Reader_read_cell, d_Reader_read_cells, d_Reader_read_group, d_Base_init, d_Base_copy, d_Base_cells, d_Base_data, d_Base_grown]
def faL : List He.Fa := [.free "len", .free "range", .free "isinstance", .free "int", .free "str", .free "bool", .free "list", .free "tuple", .free "dict", .free "ord", .free "abs", .free "min", .free "max", .free "sum", .free "sorted", .glo "write_number", .glo "write_integer", .glo "write_list", .glo "write_string", .glo "write_mark", .glo "write_deed", .glo "write_triples", .glo "write_value", .glo "write_outcome", .glo "write_kind", .glo "write_makers", .glo "write_shape", .glo "write_cell", .glo "write_cells", .glo "write_group", .glo "checksum", .glo "write_record", .glo "_read_size", .glo "read_records", .glo "_write_base", .glo "log_start", .glo "write_note", .glo "_read_turn", .glo "_read_base", .glo "_after_note", .glo "read_log", .glo "_law_mix", .glo "_law_draws", .glo "_law_at", .glo "_law_is_integer", .glo "_law_same", .glo "_law_next", .glo "_law_number", .glo "_law_listed", .glo "_law_string", .glo "_law_mark_bytes", .glo "_law_deed_bytes", .glo "_law_triples_bytes", .glo "_law_value_bytes", .glo "_law_outcome_bytes", .glo "_law_kind_bytes", .glo "_law_cell_bytes", .glo "_law_group_bytes", .glo "_law_word", .glo "_law_text_of", .glo "_law_big", .glo "_law_value", .glo "_law_outcome", .glo "_law_shape_kind", .glo "_law_cell", .glo "_law_any_deed", .glo "_law_base_data", .glo "_law_base_bytes", .glo "_law_checksum", .glo "_law_record", .glo "_law_group", .glo "_law_grown", .glo "_law_some_base", .glo "_law_told", .glo "_law_wrong_note", .glo "law", .glo "Deeds", .glo "Reader", .glo "Base", .glo "DamagedPacket", .glo "BASES", .glo "FAULTS", .int "REPLICAS" 8, .int "NUMBER_BYTES" 60, .int "DEEPEST" 40, .int "CHECKSUM_LIMIT" 4294967296, .str "BEFORE_PERCENT" " !\"#$", .str "AFTER_PERCENT" "&'()*+,-./0123456789:;<=>?@ABCDEFGHIJKLMNOPQRSTUVWXYZ[\\]^_`abcdefghijklmnopqrstuvwxyz{|}~", .cls "Deeds", .mkr "Deeds", .cls "Reader", .mkr "Reader", .cls "Base", .mkr "Base", .noat "Deeds" "rows", .noat "Reader" "data", .noat "Reader" "at", .noat "Base" "commits", .noat "Base" "deeds", .noat "Base" "held", .meth "Deeds" "counts", .meth "Deeds" "add", .meth "Deeds" "copy", .meth "Reader" "read_byte", .meth "Reader" "read_choice", .meth "Reader" "end", .meth "Reader" "read_number", .meth "Reader" "read_integer", .meth "Reader" "read_count", .meth "Reader" "read_character", .meth "Reader" "read_string", .meth "Reader" "read_mark", .meth "Reader" "read_deed", .meth "Reader" "read_deeds", .meth "Reader" "read_triple", .meth "Reader" "read_triples", .meth "Reader" "read_value", .meth "Reader" "read_value_at", .meth "Reader" "read_parts", .meth "Reader" "read_outcome", .meth "Reader" "read_kind", .meth "Reader" "read_maker", .meth "Reader" "read_makers", .meth "Reader" "read_shape", .meth "Reader" "read_cell", .meth "Reader" "read_cells", .meth "Reader" "read_group", .meth "Base" "copy", .meth "Base" "cells", .meth "Base" "data", .meth "Base" "grown", .exc "DamagedPacket", .exm "DamagedPacket" "DamagedPacket" true]
/-! ### data -/
inductive D where
  | non | bl (b : Bool) | int (i : Int) | str (s : Str) | tup (ds : List D)
inductive Val where
  | int (i : Int) | str (s : Str) | bl (b : Bool) | list (vs : List Val) | make (m : Str) (vs : List Val)
abbrev Mark := Nat × Nat
inductive Deed where
  | back (n : Nat)
  | change (m : Str) (rem : List Mark) (beh : Option Mark) (n : Nat) (t : Str)
inductive Out where
  | val (v : Val)
  | flt (i : Nat) (s : Str)
abbrev Kind := Nat × Str
abbrev Maker := Str × List Kind
abbrev DataT := Str × List Maker
abbrev Shape := Kind × List DataT
abbrev Cell := Str × Shape × Out
abbrev Trip := Nat × Nat × Deed
mutual
def Val.dep : Val → Nat
  | .int _ => 1
  | .str _ => 1
  | .bl _ => 1
  | .list vs => depL vs + 1
  | .make _ vs => depL vs + 1
def depL : List Val → Nat
  | [] => 0
  | v :: vs => max v.dep (depL vs)
end
theorem dep_mem : ∀ {vs : List Val} {v : Val}, v ∈ vs → v.dep ≤ depL vs
  | [], v, h => by simp at h
  | u :: vs, v, h => by
    rw [depL]
    rcases List.mem_cons.mp h with e | h
    · subst e
      exact Nat.le_max_left _ _
    · exact Nat.le_trans (dep_mem h) (Nat.le_max_right _ _)
theorem dep_pos (v : Val) : 0 < v.dep := by
  cases v with
  | list vs => rw [Val.dep]; exact Nat.succ_pos _
  | make m vs => rw [Val.dep]; exact Nat.succ_pos _
  | int i => rw [Val.dep]; exact Nat.one_pos
  | str i => rw [Val.dep]; exact Nat.one_pos
  | bl i => rw [Val.dep]; exact Nat.one_pos
/-! how they are written -/
def wNum (n : Nat) : List Nat := if h : n < 128 then [n] else (n % 128 + 128) :: wNum (n / 128)
decreasing_by omega
theorem wNum_lt {n : Nat} (h : n < 128) : wNum n = [n] := by rw [wNum, dif_pos h]
theorem wNum_ge {n : Nat} (h : ¬ n < 128) : wNum n = (n % 128 + 128) :: wNum (n / 128) := by rw [wNum, dif_neg h]
def wL {α : Type} (w : α → List Nat) (l : List α) : List Nat := wNum l.length ++ (l.map w).flatten
def wStr (s : Str) : List Nat := wL wNum s.cps.toList
def wMark (m : Mark) : List Nat := wNum m.1 ++ wNum m.2
def wOpt (m : Option Mark) : List Nat := match m with
  | none => [0]
  | some m => 1 :: wMark m
def wDeed : Deed → List Nat
  | .back n => 1 :: wNum n
  | .change m rem beh n t => (0 :: (wStr m ++ wL wMark rem)) ++ wOpt beh ++ (wNum n ++ wStr t)
def wTrip (t : Trip) : List Nat := wNum t.1 ++ (wNum t.2.1 ++ wDeed t.2.2)
mutual
def wVal : Val → List Nat
  | .int i => 0 :: (if i < 0 then 1 else 0) :: wNum i.natAbs
  | .str s => 1 :: wStr s
  | .bl b => [2, if b then 1 else 0]
  | .list vs => 3 :: (wNum vs.length ++ wVals vs)
  | .make m vs => (4 :: wStr m) ++ (wNum vs.length ++ wVals vs)
def wVals : List Val → List Nat
  | [] => []
  | v :: vs => wVal v ++ wVals vs
end
theorem wVals_eq : ∀ vs : List Val, wVals vs = (vs.map wVal).flatten
  | [] => rfl
  | v :: vs => by rw [wVals, wVals_eq vs]; rfl
def faults : List Str := ["division", "deep", "large", "missing", "stuck", "long"]
def bases : List Str := ["num", "text", "bool"]
def wOut : Out → List Nat
  | .val v => 0 :: wVal v
  | .flt i s => if i = 3 then [1, 3] ++ wStr s else [1, i]
def baseIx (s : Str) : Nat := if s = "num" then 0 else if s = "text" then 1 else if s = "bool" then 2 else 3
def wKind (k : Kind) : List Nat := if baseIx k.2 < 3 then wNum k.1 ++ [baseIx k.2] else wNum k.1 ++ 3 :: wStr k.2
def wMaker (m : Maker) : List Nat := wStr m.1 ++ wL wKind m.2
def wData (d : DataT) : List Nat := wStr d.1 ++ wL wMaker d.2
def wShape (s : Shape) : List Nat := wKind s.1 ++ wL wData s.2
def wCell (c : Cell) : List Nat := wStr c.1 ++ (wShape c.2.1 ++ wOut c.2.2)
def wGroup (ts : List Trip) (cs : List Cell) : List Nat := wL wTrip ts ++ wL wCell cs
/-! what is a good thing: its numbers are short, its texts are of the signs -/
def okCh (c : Nat) : Prop := c = 10 ∨ (32 ≤ c ∧ c ≤ 36) ∨ (38 ≤ c ∧ c ≤ 126)
instance (c : Nat) : Decidable (okCh c) := by unfold okCh; infer_instance
def okS (s : Str) : Prop := ∀ c ∈ s.cps.toList, okCh c
def okN (n : Nat) : Prop := (wNum n).length ≤ 60
def okMk (m : Mark) : Prop := okN m.1 ∧ okN m.2
def okD : Deed → Prop
  | .back n => okN n
  | .change m rem beh n t => okS m ∧ (∀ x ∈ rem, okMk x) ∧ (∀ x, beh = some x → okMk x) ∧ okN n ∧ okS t
def okT (t : Trip) : Prop := okN t.1 ∧ okN t.2.1 ∧ okD t.2.2
mutual
def okV : Val → Prop
  | .int i => okN i.natAbs
  | .str s => okS s
  | .bl _ => True
  | .list vs => okVs vs
  | .make m vs => okS m ∧ okVs vs
def okVs : List Val → Prop
  | [] => True
  | v :: vs => okV v ∧ okVs vs
end
theorem okVs_mem : ∀ {vs : List Val} {v : Val}, okVs vs → v ∈ vs → okV v
  | [], v, _, h => by simp at h
  | u :: vs, v, ok, h => by
    rw [okVs] at ok
    rcases List.mem_cons.mp h with e | h
    · subst e
      exact ok.1
    · exact okVs_mem ok.2 h
def okO : Out → Prop
  | .val v => v.dep ≤ 40 ∧ okV v
  | .flt i s => i < 6 ∧ okS s
def okK (k : Kind) : Prop := okN k.1 ∧ okS k.2
def okMa (m : Maker) : Prop := okS m.1 ∧ ∀ k ∈ m.2, okK k
def okDa (d : DataT) : Prop := okS d.1 ∧ ∀ m ∈ d.2, okMa m
def okSh (s : Shape) : Prop := okK s.1 ∧ ∀ d ∈ s.2, okDa d
def okC (c : Cell) : Prop := okS c.1 ∧ okSh c.2.1 ∧ okO c.2.2
/-! as data of Python -/
def dNum (n : Nat) : D := .int n
def dStr (s : Str) : D := .str s
def dMark (m : Mark) : D := .tup [.int m.1, .int m.2]
def dOpt : Option Mark → D
  | none => .non
  | some m => dMark m
def dDeed : Deed → D
  | .back n => .tup [.str "back", .int n]
  | .change m rem beh n t => .tup [.str "change", .str m, .tup (rem.map dMark), dOpt beh, .int n, .str t]
def dTrip (t : Trip) : D := .tup [.int t.1, .int t.2.1, dDeed t.2.2]
mutual
def dVal : Val → D
  | .int i => .int i
  | .str s => .str s
  | .bl b => .bl b
  | .list vs => .tup [.str "list", .tup (dVals vs)]
  | .make m vs => .tup [.str "make", .str m, .tup (dVals vs)]
def dVals : List Val → List D
  | [] => []
  | v :: vs => dVal v :: dVals vs
end
theorem dVals_eq : ∀ vs : List Val, dVals vs = vs.map dVal
  | [] => rfl
  | v :: vs => by rw [dVals, dVals_eq vs]; rfl
def dFlt (i : Nat) (s : Str) : D := if i = 3 then .tup [.str "missing", .str s] else .tup [.str (faults.getD i "")]
def dOut : Out → D
  | .val v => .tup [.str "value", dVal v]
  | .flt i s => .tup [.str "fault", dFlt i s]
def dKind (k : Kind) : D := .tup [.int k.1, .str k.2]
def dMaker (m : Maker) : D := .tup [.str m.1, .tup (m.2.map dKind)]
def dData (d : DataT) : D := .tup [.str d.1, .tup (d.2.map dMaker)]
def dShape (s : Shape) : D := .tup [dKind s.1, .tup (s.2.map dData)]
def dCell (c : Cell) : D := .tup [.str c.1, dShape c.2.1, dOut c.2.2]
/-! ### how data stand in the heap -/
mutual
def Rp (H : Hp) : D → V → Prop
  | .non, v => v = .non
  | .bl b, v => v = .bl b
  | .int i, v => v = .int i
  | .str s, v => v = .str s
  | .tup ds, v => ∃ p xs, v = .ref p ∧ H p = some (.tup xs) ∧ RpL H ds xs
def RpL (H : Hp) : List D → List V → Prop
  | [], xs => xs = []
  | d :: ds, xs => ∃ y ys, xs = y :: ys ∧ Rp H d y ∧ RpL H ds ys
end
/-- tuples stay -/
def Tst (H H' : Hp) : Prop := ∀ p xs, H p = some (.tup xs) → H' p = some (.tup xs)
/-- all but a is as it was -/
def Sx (a : Addr) (H H' : Hp) : Prop := ∀ b o, b ≠ a → H b = some o → H' b = some o
mutual
theorem Rp.ts {H H' : Hp} (t : Tst H H') : ∀ {d : D} {v : V}, Rp H d v → Rp H' d v
  | .non, _, h => h
  | .bl _, _, h => h
  | .int _, _, h => h
  | .str _, _, h => h
  | .tup ds, v, h => by
    obtain ⟨p, xs, e, hp, hl⟩ := h
    exact ⟨p, xs, e, t _ _ hp, RpL.ts t hl⟩
theorem RpL.ts {H H' : Hp} (t : Tst H H') : ∀ {ds : List D} {xs : List V}, RpL H ds xs → RpL H' ds xs
  | [], _, h => h
  | d :: ds, xs, h => by
    obtain ⟨y, ys, e, hy, hl⟩ := h
    exact ⟨y, ys, e, Rp.ts t hy, RpL.ts t hl⟩
end
theorem Tst.refl (H : Hp) : Tst H H := fun _ _ h => h
theorem Tst.trans {H H1 H2 : Hp} (a : Tst H H1) (b : Tst H1 H2) : Tst H H2 := fun p xs h => b p xs (a p xs h)
theorem Tst.same {H H' : Hp} (s : Same H H') : Tst H H' := fun p xs h => s p _ h
/-- an object is laid, or one that is no tuple is changed -/
theorem Tst.upd {H H' : Hp} {a : Addr} {o : HO} (t : Tst H H') (n : ∀ xs, H' a ≠ some (.tup xs)) : Tst H (upd H' a o) := fun p xs h => by
  have h2 := t p xs h
  rw [upd_ne (fun e => n xs (by rw [← e]; exact h2))]
  exact h2
theorem Tst.new {H : Hp} {a : Addr} {o : HO} (n : H a = none) : Tst H (L2.upd H a o) := (Tst.refl H).upd fun xs e => by rw [n] at e; cases e
theorem Tst.lst {H H' : Hp} {a : Addr} {ys : List V} {o : HO} (t : Tst H H') (n : H' a = some (.lst ys)) : Tst H (L2.upd H' a o) := t.upd fun xs e => by rw [n] at e; cases e
theorem Tst.ins {H H' : Hp} {a C dx : Addr} {fs : List (Str × V)} {o : HO} (t : Tst H H') (n : H' a = some (.ins C dx fs)) : Tst H (L2.upd H' a o) := t.upd fun xs e => by rw [n] at e; cases e
theorem Tst.dK {H H' : Hp} {a : Addr} {kvs : List (Key × V)} {o : HO} (t : Tst H H') (n : H' a = some (.dK kvs)) : Tst H (L2.upd H' a o) := t.upd fun xs e => by rw [n] at e; cases e
theorem same_new {H : Hp} {p : Addr} {o : HO} (h : H p = none) : Same H (upd H p o) := fun b x e => by
  rw [upd_ne (ne_of_none e h)]
  exact e
/-- an object that H does not know changes -/
theorem same_mut {H H' : Hp} {p : Addr} {o : HO} (s : Same H H') (h : H p = none) : Same H (upd H' p o) := fun b x e => by
  rw [upd_ne (ne_of_none e h)]
  exact s b x e
theorem Sx.refl (a : Addr) (H : Hp) : Sx a H H := fun _ _ _ h => h
theorem Sx.of {a : Addr} {H H' : Hp} (s : Same H H') : Sx a H H' := fun b o _ h => s b o h
theorem Sx.trans {a : Addr} {H H1 H2 : Hp} (s : Sx a H H1) (t : Sx a H1 H2) : Sx a H H2 := fun b o n h => t b o n (s b o n h)
theorem Sx.self {a : Addr} {H H' : Hp} {o : HO} (s : Sx a H H') : Sx a H (upd H' a o) := fun b x n h => by
  rw [upd_ne n]
  exact s b x n h
theorem Sx.new {a p : Addr} {H H' : Hp} {o : HO} (s : Sx a H H') (h : H p = none) : Sx a H (upd H' p o) := fun b x n e => by
  rw [upd_ne (ne_of_none e h)]
  exact s b x n e
theorem Sx.ts {a : Addr} {H H' : Hp} (s : Sx a H H') (n : ∀ xs, H a ≠ some (.tup xs)) : Tst H H' := fun p xs h => s p _ (fun e => n xs (by rw [← e]; exact h)) h
theorem Sx.tsL {a : Addr} {H H' : Hp} {ys : List V} (s : Sx a H H') (n : H a = some (.lst ys)) : Tst H H' := s.ts fun xs e => by rw [n] at e; cases e
theorem Sx.tsI {a C dx : Addr} {fs : List (Str × V)} {H H' : Hp} (s : Sx a H H') (n : H a = some (.ins C dx fs)) : Tst H H' := s.ts fun xs e => by rw [n] at e; cases e
/-- what is new behind was new ahead (but the one) -/
theorem Sx.free {a p : Addr} {H H' : Hp} (s : Sx a H H') (n : p ≠ a) (h : H' p = none) : H p = none := by
  cases e : H p with
  | none => rfl
  | some o =>
    rw [s p o n e] at h
    cases h
theorem free_upd {H : Hp} {p q : Addr} {o : HO} (h : upd H q o p = none) : H p = none ∧ p ≠ q := by
  by_cases e : p = q
  · subst e
    rw [upd_same] at h
    cases h
  · rw [upd_ne e] at h
    exact ⟨h, e⟩
/-! lists of data -/
theorem RpL.length {H : Hp} : ∀ {ds : List D} {xs : List V}, RpL H ds xs → xs.length = ds.length
  | [], xs, h => by
    have e : xs = [] := h
    rw [e] <;> rfl
  | d :: ds, xs, h => by
    obtain ⟨y, ys, rfl, hy, hl⟩ := h
    rw [List.length_cons, List.length_cons, RpL.length hl]
theorem RpL.get {H : Hp} : ∀ {ds : List D} {xs : List V} {i : Nat} {d : D}, RpL H ds xs → ds[i]? = some d → ∃ y, xs[i]? = some y ∧ Rp H d y
  | [], xs, i, d, h, e => by simp at e
  | d :: ds, xs, 0, d', h, e => by
    obtain ⟨y, ys, rfl, hy, hl⟩ := h
    have e2 : d = d' := Option.some.inj e
    subst e2
    exact ⟨y, rfl, hy⟩
  | d :: ds, xs, i + 1, d', h, e => by
    obtain ⟨y, ys, rfl, hy, hl⟩ := h
    exact RpL.get (ds := ds) (xs := ys) (i := i) hl (by simpa using e)
theorem RpL.at {H : Hp} : ∀ {ds : List D} {xs : List V} {i : Nat} {y : V}, RpL H ds xs → xs[i]? = some y → ∃ d, ds[i]? = some d ∧ Rp H d y
  | [], xs, i, y, h, e => by
    have z : xs = [] := h
    subst z
    simp at e
  | d :: ds, xs, 0, y, h, e => by
    obtain ⟨z, ys, rfl, hy, hl⟩ := h
    have e2 : z = y := Option.some.inj e
    subst e2
    exact ⟨d, rfl, hy⟩
  | d :: ds, xs, i + 1, y, h, e => by
    obtain ⟨z, ys, rfl, hy, hl⟩ := h
    exact RpL.at (ds := ds) (xs := ys) (i := i) hl (by simpa using e)
theorem RpL.snoc {H : Hp} {d : D} {y : V} (hy : Rp H d y) : ∀ {ds : List D} {xs : List V}, RpL H ds xs → RpL H (ds ++ [d]) (xs ++ [y])
  | [], xs, h => by
    have z : xs = [] := h
    subst z
    exact ⟨y, [], rfl, hy, rfl⟩
  | d :: ds, xs, h => by
    obtain ⟨z, ys, rfl, hz, hl⟩ := h
    exact ⟨z, ys ++ [_], rfl, hz, RpL.snoc hy hl⟩
theorem RpL.nil {H : Hp} : RpL H [] [] := rfl
theorem RpL.cons {H : Hp} {d : D} {ds : List D} {y : V} {ys : List V} (h : Rp H d y) (hl : RpL H ds ys) : RpL H (d :: ds) (y :: ys) := ⟨y, ys, rfl, h, hl⟩
theorem Rp.tupOf {H : Hp} {p : Addr} {ds : List D} {xs : List V} (h : H p = some (.tup xs)) (hl : RpL H ds xs) : Rp H (.tup ds) (.ref p) := ⟨p, xs, rfl, h, hl⟩
/-- the values of a list of bytes -/
def bV (n : Nat) : V := .int (n : Int)
def bL (bs : List Nat) : HO := .lst (bs.map bV)
theorem getElem_map_some {α β : Type} {f : α → β} {l : List α} {i : Nat} {y : β} (h : (l.map f)[i]? = some y) : ∃ x, l[i]? = some x ∧ y = f x := by
  rw [List.getElem?_map] at h
  cases e : l[i]? with
  | none =>
    rw [e] at h
    cases h
  | some x =>
    rw [e] at h
    exact ⟨x, rfl, (Option.some.inj h).symm⟩
/-- so long a list may be; well below sizeLine -/
abbrev cap : Nat := 8000000
theorem cap_line {n : Nat} (h : n ≤ cap) : n ≤ sizeLine := Nat.le_trans h (by decide)
theorem cap_lt {n : Nat} (h : n ≤ cap) : n < sizeLine := Nat.lt_of_le_of_lt h (by decide)
theorem cap_2 {n : Nat} (h : n ≤ cap + 1000) : n ≤ sizeLine := Nat.le_trans h (by decide)
/-! ### readings, from the left -/
section
variable {σ : L2.St} {H : Hp} {Q : VK} {D' : Ends} {ta tb te : TE} {K : PySem.W.Frag} {R : It → Hp → Prop} {i : Nat} {v x y : V} {t u : TT} {QB : Bool → Hp → Prop} {tr : TA} {QA : List V → Hp → Prop} {sp : Sp} {E : XK}
theorem r_var (h : σ[i]? = some (some v)) (q : Q v H) : tVar i σ H Q := ⟨v, h, q⟩
theorem r_c (q : Q v H) : tC v σ H Q := q
theorem r_op {r : R2} (h : ta σ H fun x H1 => tb σ H1 fun y H2 => r x y H2 Q) : tOp r ta tb σ H Q := h
theorem r_un {r : V → Hp → VK → Prop} (h : ta σ H fun x H1 => r x H1 Q) : tUn r ta σ H Q := h
theorem r_I0 {g : Int → Int → V} {a b : Int} (q : Q (g a b) H) : rI0 g (.int a) (.int b) H Q := ⟨a, b, rfl, rfl, q⟩
theorem r_I {C : Int → Int → Prop} {g : Int → Int → V} {a b : Int} (c : C a b) (q : Q (g a b) H) : rI C g (.int a) (.int b) H Q := ⟨a, b, rfl, rfl, c, q⟩
theorem r_U {g : Int → V} {a : Int} (q : Q (g a) H) : rU g (.int a) H Q := ⟨a, rfl, q⟩
theorem r_eq (s : scal x y = true) (q : Q (.bl (decide (x = y))) H) : rEq x y H Q := ⟨s, q⟩
theorem r_ne (s : scal x y = true) (q : Q (.bl (!decide (x = y))) H) : rNe x y H Q := ⟨s, q⟩
theorem r_test (h : te σ H fun x H' => ∃ k, x = .bl k ∧ QB k H') : tTest te σ H QB := h
theorem r_B (h : te σ H fun x H' => ∃ k, x = .bl k ∧ QB k H') : tB te σ H QB := h
theorem r_bl {k : Bool} {F : Bool → Prop} (q : F k) : ∃ k', V.bl k = .bl k' ∧ F k' := ⟨k, rfl, q⟩
theorem r_and (h : t σ H fun c H1 => if c = true then u σ H1 QB else QB false H1) : tAnd t u σ H QB := h
theorem r_or (h : t σ H fun c H1 => if c = true then QB true H1 else u σ H1 QB) : tOr t u σ H QB := h
theorem r_not (h : t σ H fun c H1 => QB (!c) H1) : tNot t σ H QB := h
theorem r_andV (h : ta σ H fun x H1 => ∃ c, x = .bl c ∧ if c = true then tb σ H1 Q else Q (.bl false) H1) : tAndV ta tb σ H Q := h
theorem r_orV (h : ta σ H fun x H1 => ∃ c, x = .bl c ∧ if c = true then Q (.bl true) H1 else tb σ H1 Q) : tOrV ta tb σ H Q := h
theorem r_notV (h : ta σ H fun x H1 => ∃ c, x = .bl c ∧ Q (.bl (!c)) H1) : tNotV ta σ H Q := h
theorem r_if (h : t σ H fun c H1 => if c = true then ta σ H1 Q else tb σ H1 Q) : L2.tIf t ta tb σ H Q := h
theorem r_cons (h : ta σ H fun x H1 => tr σ H1 fun xs H2 => QA (x :: xs) H2) : tCons ta tr σ H QA := h
theorem r_nil (q : QA [] H) : tNil σ H QA := q
theorem r_tup (h : tr σ H fun xs H1 => xs.length ≤ sizeLine ∧ ∀ p, H1 p = none → Q (.ref p) (upd H1 p (.tup xs))) : tTup tr σ H Q := h
theorem r_lst (h : tr σ H fun xs H1 => xs.length ≤ sizeLine ∧ ∀ p, H1 p = none → Q (.ref p) (upd H1 p (.lst xs))) : tLst tr σ H Q := h
theorem r_call {dvs : List V} (h : tr σ H fun vs H1 => sp (vs ++ dvs) H1 Q E) : tCall sp dvs E tr σ H Q := h
theorem r_CB {r : List V → Hp → VK → Prop} (h : tr σ H fun vs H1 => r vs H1 Q) : tCB r tr σ H Q := h
theorem r_make {C : Addr} {dvs : List V} (h : tr σ H fun vs H1 => ∀ x dx, H1 x = none → H1 dx = none → dx ≠ x → sp (.ref x :: (vs ++ dvs)) (upd (upd H1 dx (.own x)) x (.ins C dx [])) (fun v H2 => v = .non ∧ Q (.ref x) H2) E) : tMake C sp dvs E tr σ H Q := h
theorem r_meth {C : Addr} {m : Str} {dvs : List V} (h : ta σ H fun x H1 => ∃ a dx fs, x = .ref a ∧ H1 a = some (.ins C dx fs) ∧ fs.lookup m = none ∧ tr σ H1 fun vs H2 => sp (x :: (vs ++ dvs)) H2 Q E) : tMeth C m sp dvs E ta tr σ H Q := h
theorem r_fld {f : Str} (h : ta σ H fun x H1 => ∃ a C dx fs v, x = .ref a ∧ H1 a = some (.ins C dx fs) ∧ Cls K C ∧ NoAttr K C f ∧ fs.lookup f = some v ∧ Q v H1) : tFld K ta f σ H Q := h
theorem r_bm {T : String} {r : V → List V → Hp → VK → Prop} (h : ta σ H fun x H1 => tyV K T x H1 ∧ tr σ H1 fun xs H2 => r x xs H2 Q) : tBM K T r ta tr σ H Q := h
theorem r_sl {r : V → Option Int → Option Int → Hp → VK → Prop} {tl th : TO} (h : te σ H fun x H1 => tl σ H1 fun l H2 => th σ H2 fun u H3 => r x l u H3 Q) : L2.tSl r te tl th σ H Q := h
theorem r_part {QO : Option Int → Hp → Prop} (h : te σ H fun x H1 => ∃ i, x = .int i ∧ QO (some i) H1) : tPart te σ H QO := h
theorem r_parti {F : Int → Prop} {a : Int} (q : F a) : ∃ i, V.int a = .int i ∧ F i := ⟨a, rfl, q⟩
theorem r_nopart {QO : Option Int → Hp → Prop} (q : QO none H) : tNoPart σ H QO := q
theorem r_seq {t u : L2.TS} (h : t { D' with nx := u D' } σ H) : tSeq t u D' σ H := h
theorem r_next (q : D'.nx σ H) : tNext D' σ H := q
theorem r_drop (h : te σ H fun _ H1 => D'.nx σ H1) : tDrop te D' σ H := h
theorem r_asg {g : TG} (h : te σ H fun x H1 => g x σ H1 D'.nx) : tAsg te g D' σ H := h
theorem r_gn {Qs : L2.St → Hp → Prop} (q : Qs (σ.set i (some v)) H) : gName i v σ H Qs := q
theorem r_ret (h : te σ H D'.rt) : tRet te D' σ H := h
theorem r_retN (q : D'.rt .non H) : tRetN D' σ H := q
theorem r_ifS {tc : TT} {a b : L2.TS} (h : tc σ H fun c H1 => if c = true then a D' σ H1 else b D' σ H1) : tIfS tc a b D' σ H := h
theorem r_il (h : te σ H fun x H1 => ∃ a, x = .ref a ∧ (∃ xs, SqL K H1 a xs) ∧ R (Itl K a) H1) : iList K te σ H R := h
theorem r_it (h : te σ H fun x H1 => ∃ a, x = .ref a ∧ (∃ xs, SqT K H1 a xs) ∧ R (Itt K a) H1) : iTup K te σ H R := h
theorem r_ir (h : tr σ H fun vs H1 => ∃ j : Int, vs = [.int j] ∧ -(2 ^ 62) ≤ j ∧ j < 2 ^ 62 ∧ R (Itr 0 j.toNat) H1) : iRng1 tr σ H R := h
theorem r_is (h : te σ H fun v H1 => ∃ x, v = .str x ∧ R (Its x) H1) : iStr te σ H R := h
theorem iteD {p A B : Prop} [Decidable p] (h1 : p → A) (h2 : ¬ p → B) : if decide p = true then A else B := by
  by_cases h : p
  · rw [if_pos (decide_eq_true h)]
    exact h1 h
  · rw [if_neg (by simpa using h)]
    exact h2 h
theorem iteN {p A B : Prop} [Decidable p] (h1 : ¬ p → A) (h2 : p → B) : if (!decide p) = true then A else B := by
  by_cases h : p
  · rw [if_neg (by simpa using h)]
    exact h2 h
  · rw [if_pos (by simpa using h)]
    exact h1 h
theorem iteI {a b : Int} {A B : Prop} (h1 : a = b → A) (h2 : a ≠ b → B) : if decide (V.int a = V.int b) = true then A else B := iteD (fun e => h1 (by injection e)) fun n => h2 fun e => n (by rw [e])
theorem iteNI {a b : Int} {A B : Prop} (h1 : a ≠ b → A) (h2 : a = b → B) : if (!decide (V.int a = V.int b)) = true then A else B := iteN (fun n => h1 fun e => n (by rw [e])) fun e => h2 (by injection e)
theorem iteS {a b : Str} {A B : Prop} (h1 : a = b → A) (h2 : a ≠ b → B) : if decide (V.str a = V.str b) = true then A else B := iteD (fun e => h1 (by injection e)) fun n => h2 fun e => n (by rw [e])
theorem ite_t {c : Bool} {A B : Prop} (hc : c = true) (h : A) : if c = true then A else B := by rw [if_pos hc]; exact h
theorem ite_f {c : Bool} {A B : Prop} (hc : c = false) (h : B) : if c = true then A else B := by rw [hc, if_neg Bool.false_ne_true]; exact h
theorem r_ixT {a : Addr} {xs : List V} {j : Int} {H : Hp} {Q : VK} (h : H a = some (.tup xs)) (e : atI xs j = some v) (q : Q v H) : rIxT K (.ref a) (.int j) H Q := ⟨a, xs, j, v, rfl, rfl, SqT.of h, e, q⟩
theorem r_ixL {a : Addr} {xs : List V} {j : Int} {H : Hp} {Q : VK} (h : H a = some (.lst xs)) (e : atI xs j = some v) (q : Q v H) : rIxL K (.ref a) (.int j) H Q := ⟨a, xs, j, v, rfl, rfl, SqL.of h, e, q⟩
theorem r_gcons {t : TG} {u : TGs} {r : List V} {Qs : L2.St → Hp → Prop} (h : t v σ H fun σ' H' => u r σ' H' Qs) : gCons t u (v :: r) σ H Qs := ⟨v, r, rfl, h⟩
theorem r_gnil {Qs : L2.St → Hp → Prop} (q : Qs σ H) : gNil [] σ H Qs := ⟨rfl, q⟩
theorem r_gtup {a : Addr} {xs : List V} {n : Nat} {t : TGs} {Qs : L2.St → Hp → Prop} (h : H a = some (.tup xs)) (hl : xs.length = n) (q : t xs σ H Qs) : gTup K n t (.ref a) σ H Qs := ⟨a, xs, rfl, SqT.of h, hl, q⟩
theorem r_lc {wi : TI} {g : TG} {tt : TT} {vs : List Nat} (h : wi σ H fun J H1 => ∀ D, H1 D = none → ∃ W : Nat → Nat → Hp → Prop, (∃ m, W 0 m (upd H1 D (.lst []))) ∧ ∀ i m H, W i m H →
    (J.stop i H ∧ Q (.ref D) H) ∨ (J.go i H ∧ ∃ Nx : Hp → Prop, (∀ H', Nx H' → ∃ m', m' < m ∧ W (i + 1) m' H') ∧ ∀ x H', J.yld i H x H' → g x (wipe σ vs) H' fun σ2 H2 => wipe σ2 vs = wipe σ vs ∧ tt σ2 H2 fun b H3 =>
      if b = true then te σ2 H3 fun y H4 => ∃ acc, H4 D = some (.lst acc) ∧ acc.length < sizeLine ∧ Nx (upd H4 D (.lst (acc ++ [y]))) else Nx H3)) : tLc wi g tt te vs σ H Q := h
theorem r_m1 {r : V → List V → Hp → VK → Prop} (h : ta σ H fun x H1 => (∃ a, x = .str a) ∧ te σ H1 fun y H2 => r x [y] H2 Q) : tM1 r ta te σ H Q := h
theorem r_sfld {f : Str} (h : tb σ H fun y H1 => ta σ H1 fun x H2 => ∃ a C dx fs, x = .ref a ∧ H2 a = some (.ins C dx fs) ∧ Cls K C ∧ NoAttr K C f ∧ fs.length < 1000 ∧ D'.nx σ (upd H2 a (.ins C dx (putF f y fs)))) : sFld K ta tb f D' σ H := h
theorem r_sfa {f : Str} {rr : V → V → Hp → VK → Prop} (h : ta σ H fun x H1 => ∃ a C dx fs v, x = .ref a ∧ H1 a = some (.ins C dx fs) ∧ Cls K C ∧ NoAttr K C f ∧ fs.lookup f = some v ∧
  tb σ H1 fun y H2 => rr v y H2 fun z H3 => ∃ dx' fs', H3 a = some (.ins C dx' fs') ∧ fs'.length < 1000 ∧ D'.nx σ (upd H3 a (.ins C dx' (putF f z fs')))) : sFldAug K ta tb rr f D' σ H := h
theorem r_rAdd {a b : Int} (q : Q (.int (a + b)) H) : rAdd (.int a) (.int b) H Q := ⟨a, b, rfl, rfl, q⟩
theorem r_fldV {a C dx : Addr} {fs : List (Str × V)} {f : Str} (hσ : σ[i]? = some (some (.ref a))) (h : H a = some (.ins C dx fs)) (hc : Cls K C) (hn : NoAttr K C f) (hl : fs.lookup f = some v) (q : Q v H) : tFld K (tVar i) f σ H Q := ⟨.ref a, hσ, a, C, dx, fs, v, rfl, h, hc, hn, hl, q⟩
theorem lt_by {a b : Nat} (h : Nat.ble (a + 1) b = true) : a < b := Nat.le_of_ble_eq_true h
theorem le_line {α : Type} {xs : List α} (h : Nat.ble xs.length 1000 = true) : xs.length ≤ sizeLine := Nat.le_trans (Nat.le_of_ble_eq_true h) (by decide)
theorem r_aug {ti : TIp} (hσ : σ[i]? = some (some x)) (h : te σ H fun y H1 => ti x y H1 fun z H2 => D'.nx (σ.set i (some z)) H2) : tAug i te ti D' σ H := ⟨x, hσ, h⟩
theorem r_ip {f : Int → Int → Int} {a b : Int} (q : Q (.int (f a b)) H) : ipI f (.int a) (.int b) H Q := ⟨a, b, rfl, rfl, q⟩
theorem r_chain {r r' : R2} {tc : TE} (h : ta σ H fun x H1 => tb σ H1 fun y H2 => r x y H2 fun z H3 => ∃ k, z = .bl k ∧ (if k = true then tc σ H3 fun w' H4 => r' y w' H4 Q else Q (.bl false) H3)) : tChain r r' ta tb tc σ H Q := h
/-- a method of a list -/
theorem ty_l {H : Hp} {l : Addr} {xs : List V} (h : H l = some (.lst xs)) : tyV K "list" (.ref l) H := .inl ⟨rfl, _, SqL.of h⟩
end
/-! ### what is walked: a list of values -/
structure Wk (J : It) (I : Hp → Prop) (xs : List V) : Prop where
  go : ∀ i H, I H → i < xs.length → J.go i H
  yld : ∀ i H x H', I H → i < xs.length → J.yld i H x H' → H' = H ∧ xs[i]? = some x
  stop : ∀ H, I H → J.stop xs.length H
theorem Wk.lst {K : PySem.W.Frag} {a : Addr} {xs : List V} {I : Hp → Prop} (h : ∀ H, I H → H a = some (.lst xs)) : Wk (Itl K a) I xs :=
  ⟨fun i H q hi => ⟨xs, xs[i], SqL.of (h H q), by simp [hi]⟩, fun i H x H' q hi y => ⟨y.1, y.2 xs (SqL.of (h H q))⟩, fun H q => ⟨xs, SqL.of (h H q), Nat.le_refl _⟩⟩
theorem Wk.tup {K : PySem.W.Frag} {a : Addr} {xs : List V} {I : Hp → Prop} (h : ∀ H, I H → H a = some (.tup xs)) : Wk (Itt K a) I xs :=
  ⟨fun i H q hi => ⟨xs, xs[i], SqT.of (h H q), by simp [hi]⟩, fun i H x H' q hi y => ⟨y.1, y.2 xs (SqT.of (h H q))⟩, fun H q => ⟨xs, SqT.of (h H q), Nat.le_refl _⟩⟩
def signs (s : Str) : List V := s.cps.toList.map fun c => V.str ⟨#[c]⟩
theorem Wk.str {s : Str} {I : Hp → Prop} : Wk (Its s) I (signs s) :=
  ⟨fun i H q hi => by
      have e : (signs s).length = s.cps.size := by simp [signs]
      rw [e] at hi
      exact hi,
   fun i H x H' q hi y => ⟨y.1, by
      obtain ⟨c, hc, ex⟩ := y.2
      have e : s.cps.toList[i]? = some c := by rw [Array.getElem?_toList]; exact hc
      unfold signs
      rw [List.getElem?_map, e, ex]
      rfl⟩,
   fun H q => by
      have e : (signs s).length = s.cps.size := by simp [signs]
      show s.cps.size ≤ _
      rw [e]
      exact Nat.le_refl _⟩
def upto (n : Nat) : List V := (List.range n).map fun i => V.int (Int.ofNat i)
theorem upto_len (n : Nat) : (upto n).length = n := by simp [upto]
theorem Wk.rng {n : Nat} {I : Hp → Prop} : Wk (Itr 0 n) I (upto n) :=
  ⟨fun i H q hi => by
      rw [upto_len] at hi
      exact hi,
   fun i H x H' q hi y => ⟨y.1, by
      rw [upto_len] at hi
      have e := y.2
      unfold upto
      rw [List.getElem?_map, List.getElem?_range hi, e]
      show some (V.int (Int.ofNat i)) = some (V.int (0 + (i : Int)))
      rw [Int.zero_add] <;> rfl⟩,
   fun H q => by
      show n ≤ _
      rw [upto_len]
      exact Nat.le_refl _⟩
theorem for_any {J : It} {I : Hp → Prop} {xs : List V} {g : TG} {tb : L2.TS} {D : Ends} {σ : L2.St} {H : Hp} (hJ : Wk J I xs) (Pv : Nat → L2.St → Hp → Prop) (hP : ∀ i σ H, Pv i σ H → I H) (h0 : Pv 0 σ H)
    (hs : ∀ i x σ H, xs[i]? = some x → Pv i σ H → g x σ H fun σ2 H2 => tb { D with nx := Pv (i + 1), ct := Pv (i + 1), bk := D.nx } σ2 H2) (hd : ∀ σ H, Pv xs.length σ H → D.nx σ H) :
    ∃ W : Nat → Nat → L2.St → Hp → Prop, (∃ m, W 0 m σ H) ∧ ∀ i m σ H, W i m σ H →
      (J.stop i H ∧ D.nx σ H) ∨ (J.go i H ∧ ∃ N : L2.St → Hp → Prop, (∀ σ' H', N σ' H' → ∃ m', m' < m ∧ W (i + 1) m' σ' H') ∧ ∀ x H', J.yld i H x H' → g x σ H' fun σ2 H2 => tb { D with nx := N, ct := N, bk := D.nx } σ2 H2) := by
  refine ⟨fun i m σ H => m = xs.length - i ∧ i ≤ xs.length ∧ Pv i σ H, ⟨xs.length, by simp, Nat.zero_le _, h0⟩, ?_⟩
  rintro i m σ H ⟨rfl, hi, p⟩
  have q := hP i σ H p
  by_cases hlt : i < xs.length
  · refine .inr ⟨hJ.go i H q hlt, Pv (i + 1), fun σ' H' p' => ⟨xs.length - (i + 1), by omega, rfl, hlt, p'⟩, fun x H' y => ?_⟩
    obtain ⟨e, y2⟩ := hJ.yld i H x H' q hlt y
    subst e
    exact hs i x σ _ y2 p
  · have e : i = xs.length := by omega
    subst e
    exact .inl ⟨hJ.stop H q, hd σ H p⟩
theorem lc_any {J : It} {I : Hp → Prop} {xs : List V} {g : TG} {tt : TT} {te : TE} {vs : List Nat} {σ : L2.St} {H1 : Hp} {D : Addr} {Qd : Hp → Prop} (hJ : Wk J I xs) (Pv : Nat → Hp → Prop) (hP : ∀ i H, Pv i H → I H) (h0 : Pv 0 (upd H1 D (.lst [])))
    (hs : ∀ i x H, xs[i]? = some x → Pv i H → g x (wipe σ vs) H fun σ2 H2 => wipe σ2 vs = wipe σ vs ∧ tt σ2 H2 fun b H3 =>
      if b = true then te σ2 H3 fun y H4 => ∃ acc, H4 D = some (.lst acc) ∧ acc.length < sizeLine ∧ Pv (i + 1) (upd H4 D (.lst (acc ++ [y]))) else Pv (i + 1) H3) (hd : ∀ H, Pv xs.length H → Qd H) :
    ∃ W : Nat → Nat → Hp → Prop, (∃ m, W 0 m (upd H1 D (.lst []))) ∧ ∀ i m H, W i m H →
      (J.stop i H ∧ Qd H) ∨ (J.go i H ∧ ∃ Nx : Hp → Prop, (∀ H', Nx H' → ∃ m', m' < m ∧ W (i + 1) m' H') ∧ ∀ x H', J.yld i H x H' → g x (wipe σ vs) H' fun σ2 H2 => wipe σ2 vs = wipe σ vs ∧ tt σ2 H2 fun b H3 =>
        if b = true then te σ2 H3 fun y H4 => ∃ acc, H4 D = some (.lst acc) ∧ acc.length < sizeLine ∧ Nx (upd H4 D (.lst (acc ++ [y]))) else Nx H3) := by
  refine ⟨fun i m H => m = xs.length - i ∧ i ≤ xs.length ∧ Pv i H, ⟨xs.length, by simp, Nat.zero_le _, h0⟩, ?_⟩
  rintro i m H ⟨rfl, hi, p⟩
  have q := hP i H p
  by_cases hlt : i < xs.length
  · refine .inr ⟨hJ.go i H q hlt, Pv (i + 1), fun H' p' => ⟨xs.length - (i + 1), by omega, rfl, hlt, p'⟩, fun x H' y => ?_⟩
    obtain ⟨e, y2⟩ := hJ.yld i H x H' q hlt y
    subst e
    exact hs i x _ y2 p
  · have e : i = xs.length := by omega
    subst e
    exact .inl ⟨hJ.stop H q, hd H p⟩
theorem wipe1 {σ : L2.St} {i : Nat} {x : Option V} : wipe ((wipe σ [i]).set i x) [i] = wipe σ [i] := by
  show (((σ.set i none).set i x).set i none) = σ.set i none
  rw [List.set_set, List.set_set]
/-! ### what the top leaves -/
def noDict (K : PySem.W.Frag) (x : Str) : Bool := match K.lookup (He.ga K x) with
  | some ⟨.type "tuple", none, _, _⟩ => true
  | _ => false
def tabB (K : PySem.W.Frag) : Bool := He.tupB K "BASES" [.str "num", .str "text", .str "bool"] && (He.tupB K "FAULTS" [.str "division", .str "deep", .str "large", .str "missing", .str "stuck", .str "long"] && (noDict K "BASES" && noDict K "FAULTS"))
theorem noDict_ok {K : PySem.W.Frag} {x : Str} (h : noDict K x = true) : ∃ o, K.lookup (He.ga K x) = some o ∧ o.cls = .type "tuple" ∧ o.dict = none := by
  unfold noDict at h
  split at h
  · rename_i e
    exact ⟨_, e, rfl, rfl⟩
  · cases h
def obsQ (K : PySem.W.Frag) : He.AlD := (((faL.all fun f => f.ok K) && fnL.all fun d => d.ok K) && tabB K, fnL.map fun d => He.fnW K d.at_)
def valQ : He.AlD := (true, fnL.map He.DefD.val)
def SaysQ (K : PySem.W.Frag) : Prop := obsQ K = valQ
theorem SaysQ.all {K : PySem.W.Frag} (c : SaysQ K) : ((faL.all fun f => f.ok K) && fnL.all fun d => d.ok K) = true ∧ tabB K = true := He.ba (show (((faL.all fun f => f.ok K) && fnL.all fun d => d.ok K) && tabB K) = true from congrArg (fun z : He.AlD => z.1) c)
theorem SaysQ.fact {K : PySem.W.Frag} (c : SaysQ K) (i : Nat) {f : He.Fa} (h : faL[i]? = some f := by rfl) : f.ok K = true :=
  List.all_eq_true.mp (He.ba c.all.1).1 f (List.mem_of_getElem? h)
theorem SaysQ.def_ {K : PySem.W.Frag} (c : SaysQ K) (i : Nat) {d : He.DefD} (h : fnL[i]? = some d := by rfl) : ∃ fd, FunD K d.name d.qual d.params d.body d.scope (d.dvs K) (d.kws K) (He.fAd K d.at_) fd := by
  have c2 := (He.ba c.all.1).2
  have e : fnL.map (fun d => He.fnW K d.at_) = fnL.map He.DefD.val := congrArg (fun z : He.AlD => z.2) c
  have e2 : (fnL.map fun d => He.fnW K d.at_)[i]? = (fnL.map He.DefD.val)[i]? := by rw [e]
  rw [List.getElem?_map, List.getElem?_map, h] at e2
  exact He.DefD.funD (Option.some.inj e2) (List.all_eq_true.mp c2 d (List.mem_of_getElem? h))
/-- the function object of a def -/
def fdA (K : PySem.W.Frag) (p : Str × Option Str) : FuncData := match K.lookup (He.fAd K p) with
  | some ⟨_, _, .func fd, _⟩ => fd
  | _ => default
abbrev FnD (K : PySem.W.Frag) (d : He.DefD) : Prop := FunD K d.name d.qual d.params d.body d.scope [] [] (He.fAd K d.at_) (fdA K d.at_)
structure Txt (K : PySem.W.Frag) (mg : Str → Option Value) : Prop where
  says : SaysQ K
  mgs : ∃ h : Heap, K.In h ∧ h.Ns mainGlobals mg
theorem Txt.glo {K : PySem.W.Frag} {mg : Str → Option Value} (T : Txt K mg) {x : Str} (c : (He.Fa.glo x).ok K = true) : mg x = some (.ref (He.ga K x)) := by
  obtain ⟨h, X, G⟩ := T.mgs
  exact He.glo_ok X G c
theorem Txt.free {K : PySem.W.Frag} {mg : Str → Option Value} (T : Txt K mg) {x : Str} (c : (He.Fa.free x).ok K = true) : mg x = none := by
  obtain ⟨h, X, G⟩ := T.mgs
  exact He.free_ok X G c
theorem Txt.int {K : PySem.W.Frag} {mg : Str → Option Value} (T : Txt K mg) {x : Str} {i : Int} (c : (He.Fa.int x i).ok K = true) : ∃ t, mg x = some (.int i t) := by
  obtain ⟨h, X, G⟩ := T.mgs
  exact He.int_ok X G c
theorem Txt.str {K : PySem.W.Frag} {mg : Str → Option Value} (T : Txt K mg) {x z : Str} (c : (He.Fa.str x z).ok K = true) : ∃ t, mg x = some (.str z t) := by
  obtain ⟨h, X, G⟩ := T.mgs
  exact He.str_ok X G c
theorem fdA_eq {K : PySem.W.Frag} {d : He.DefD} {fd : FuncData} (F : FunD K d.name d.qual d.params d.body d.scope [] [] (He.fAd K d.at_) fd) : FnD K d := by
  obtain ⟨oc, od, dV, kV, doc, pm, an, cdv, ct, osl, e, lk, r⟩ := F.ex
  have z : fdA K d.at_ = fd := by
    unfold fdA
    rw [lk]
  show FunD K d.name d.qual d.params d.body d.scope [] [] (He.fAd K d.at_) (fdA K d.at_)
  rw [z]
  exact F
theorem SaysQ.fnD {K : PySem.W.Frag} (c : SaysQ K) (i : Nat) {d : He.DefD} (h : fnL[i]? = some d := by rfl) (h1 : d.dfl = [] := by rfl) (h2 : d.kwd = [] := by rfl) : FnD K d := by
  obtain ⟨fd, F⟩ := c.def_ i h
  have e1 : d.dvs K = [] := by
    unfold He.DefD.dvs
    rw [h1]
    rfl
  have e2 : d.kws K = [] := by
    unfold He.DefD.kws
    rw [h2]
    rfl
  rw [e1, e2] at F
  exact fdA_eq F
theorem tab_all {K : PySem.W.Frag} (c : SaysQ K) : He.tupB K "BASES" [.str "num", .str "text", .str "bool"] = true ∧ He.tupB K "FAULTS" [.str "division", .str "deep", .str "large", .str "missing", .str "stuck", .str "long"] = true ∧ noDict K "BASES" = true ∧ noDict K "FAULTS" = true := by
  obtain ⟨a, b⟩ := He.ba c.all.2
  obtain ⟨b, d⟩ := He.ba b
  exact ⟨a, b, He.ba d⟩
theorem tab_bases {K : PySem.W.Frag} (c : SaysQ K) (H : Hp) : SqT K H (He.ga K "BASES") (bases.map V.str) := He.tupB_ok (tab_all c).1 H
theorem tab_faults {K : PySem.W.Frag} (c : SaysQ K) (H : Hp) : SqT K H (He.ga K "FAULTS") (faults.map V.str) := He.tupB_ok (tab_all c).2.1 H
theorem ty_bases {K : PySem.W.Frag} (c : SaysQ K) (H : Hp) : tyV K "tuple" (.ref (He.ga K "BASES")) H := .inr (.inl ⟨rfl, noDict_ok (tab_all c).2.2.1⟩)
theorem ty_faults {K : PySem.W.Frag} (c : SaysQ K) (H : Hp) : tyV K "tuple" (.ref (He.ga K "FAULTS")) H := .inr (.inl ⟨rfl, noDict_ok (tab_all c).2.2.2⟩)
/-- a def of the module with its promise -/
structure Fc (P : Program) (w : World) (K : PySem.W.Frag) (mg : Str → Option Value) (base : Heap) (CX : CXT) (k : Nat) (x : Str) (ps : List Str) (sp : Sp) : Prop where
  ok : FnOk P w K mg base CX k (He.fAd K (x, none)) (fdA K (x, none)) ps sp
  gm : mg x = some (.ref (He.ga K x))
  kp : PySem.W.keepIn K (.ref (He.fAd K (x, none))) = true
  b : Binds K (fdA K (x, none)) ps []
/-- a method -/
structure Mc (P : Program) (w : World) (K : PySem.W.Frag) (mg : Str → Option Value) (base : Heap) (CX : CXT) (k : Nat) (C m : Str) (ps : List Str) (sp : Sp) : Prop where
  ok : FnOk P w K mg base CX k (He.fAd K (C, some m)) (fdA K (C, some m)) ps sp
  me : Meth K (He.ga K C) m (He.fAd K (C, some m))
  b : Binds K (fdA K (C, some m)) ps []
  cl : Cls K (He.ga K C)
/-- an __init__ -/
structure Ic (P : Program) (w : World) (K : PySem.W.Frag) (mg : Str → Option Value) (base : Heap) (CX : CXT) (k : Nat) (C : Str) (ps : List Str) (sp : Sp) : Prop where
  ok : FnOk P w K mg base CX k (He.fAd K (C, some "__init__")) (fdA K (C, some "__init__")) ps sp
  gm : mg C = some (.ref (He.ga K C))
  b : Binds K (fdA K (C, some "__init__")) ps []
  mkr : Mk K (He.ga K C) (He.fAd K (C, some "__init__"))
section
variable {X : Cx} {k : Nat} {x C m : Str} {ps : List Str} {sp : Sp} {e o : Expr} {es : List Expr} {p pos apos : Pos} {t : TA} {ta : TE}
theorem pe_f (c : Fc X.prog X.w X.K X.mg X.base CX0 k x ps sp) (hr : Room k X.A) (hg : Gl X x) (ha : PA X (e :: es) t) (hdb : (x == ("__debug__" : Str)) = false := by decide) (he : starEach (e :: es) X.env = (false, eval e X.env) :: starEach es X.env := by rfl) (hpl : (backTo pos (starEach es X.env)).any (·.1) = false := by rfl) :
    PE X (.Call (.Name x p) (e :: es) [] pos) (tCall sp [] E0 t) := pe_call c.ok hr hg c.gm c.kp c.b .nil pass0 ha hdb he hpl
theorem pe_f0 (c : Fc X.prog X.w X.K X.mg X.base CX0 k x ps sp) (hr : Room k X.A) (hg : Gl X x) (hdb : (x == ("__debug__" : Str)) = false := by decide) :
    PE X (.Call (.Name x p) [] [] pos) (tCall sp [] E0 tNil) := pe_call0 c.ok hr hg c.gm c.kp c.b .nil pass0 hdb
theorem pe_m {pl : Sem Bool} (c : Mc X.prog X.w X.K X.mg X.base CX0 k C m ps sp) (hr : Room k X.A) (ho : PE X o ta) (ha : PA X (e :: es) t) (hst : starEach (e :: es) X.env = (false, eval e X.env) :: starEach es X.env := by rfl) (hpl : (backTo pos (starEach es X.env)).any (·.1) = false := by rfl)
    (ht : eval (.Call (.Attribute o m apos) (e :: es) [] pos) X.env = (do
      let ov ← eval o X.env
      standAt apos.atName
      let (f, first) ← holding [ov] (getMethod ov m pl)
      callWith pos f first (backTo pos (starEach (e :: es) X.env)) (backToKw pos (keywordEach [] X.env))) := by rfl) :
    PE X (.Call (.Attribute o m apos) (e :: es) [] pos) (tMeth (He.ga X.K C) m sp [] E0 ta t) := pe_meth ho c.cl c.me c.ok hr c.b .nil pass0 ha hst hpl ht
theorem pe_m0 {pl : Sem Bool} (c : Mc X.prog X.w X.K X.mg X.base CX0 k C m ps sp) (hr : Room k X.A) (ho : PE X o ta)
    (ht : eval (.Call (.Attribute o m apos) [] [] pos) X.env = (do
      let ov ← eval o X.env
      standAt apos.atName
      let (f, first) ← holding [ov] (getMethod ov m pl)
      callWith pos f first (backTo pos (starEach [] X.env)) (backToKw pos (keywordEach [] X.env))) := by rfl) :
    PE X (.Call (.Attribute o m apos) [] [] pos) (tMeth (He.ga X.K C) m sp [] E0 ta tNil) := pe_meth0 ho c.cl c.me c.ok hr c.b .nil pass0 ht
theorem pe_i (c : Ic X.prog X.w X.K X.mg X.base CX0 k C ps sp) (hr : Room (k + 1) X.A) (hg : Gl X C) (ha : PA X (e :: es) t) (hdb : (C == ("__debug__" : Str)) = false := by decide) (he : starEach (e :: es) X.env = (false, eval e X.env) :: starEach es X.env := by rfl) (hpl : (backTo pos (starEach es X.env)).any (·.1) = false := by rfl) :
    PE X (.Call (.Name C p) (e :: es) [] pos) (tMake (He.ga X.K C) sp [] E0 t) := pe_make c.mkr c.ok hr hg c.gm c.b .nil pass0 ha hdb he hpl
theorem pe_i0 (c : Ic X.prog X.w X.K X.mg X.base CX0 k C ps sp) (hr : Room (k + 1) X.A) (hg : Gl X C) (hdb : (C == ("__debug__" : Str)) = false := by decide) :
    PE X (.Call (.Name C p) [] [] pos) (tMake (He.ga X.K C) sp [] E0 tNil) := pe_make0 c.mkr c.ok hr hg c.gm c.b .nil pass0 hdb
theorem pe_gi {i : Int} (hm : ∃ t, X.mg x = some (.int i t)) (hg : Gl X x) (hd : (x == ("__debug__" : Str)) = false := by decide) : PE X (.Name x pos) (tC (.int i)) := by
  obtain ⟨t, e⟩ := hm
  exact pe_glob hg e ⟨t, rfl⟩ hd
theorem pe_gs {z : Str} (hm : ∃ t, X.mg x = some (.str z t)) (hg : Gl X x) (hd : (x == ("__debug__" : Str)) = false := by decide) : PE X (.Name x pos) (tC (.str z)) := by
  obtain ⟨t, e⟩ := hm
  exact pe_glob hg e ⟨t, rfl⟩ hd
theorem pe_gr {a : Addr} (hm : X.mg x = some (.ref a)) (hg : Gl X x) (hd : (x == ("__debug__" : Str)) = false := by decide) : PE X (.Name x pos) (tC (.ref a)) := pe_glob hg hm rfl hd
end
theorem k_bool_bool : kitB "bool" "bool" = some true := by decide +kernel
theorem k_bool_int : kitB "bool" "int" = some true := by decide +kernel
theorem k_bool_str : kitB "bool" "str" = some false := by decide +kernel
theorem k_bool_tuple : kitB "bool" "tuple" = some false := by decide +kernel
theorem k_bool_list : kitB "bool" "list" = some false := by decide +kernel
theorem k_int_bool : kitB "int" "bool" = some false := by decide +kernel
theorem k_int_int : kitB "int" "int" = some true := by decide +kernel
theorem k_int_str : kitB "int" "str" = some false := by decide +kernel
theorem k_int_tuple : kitB "int" "tuple" = some false := by decide +kernel
theorem k_int_list : kitB "int" "list" = some false := by decide +kernel
theorem k_str_bool : kitB "str" "bool" = some false := by decide +kernel
theorem k_str_int : kitB "str" "int" = some false := by decide +kernel
theorem k_str_str : kitB "str" "str" = some true := by decide +kernel
theorem k_str_tuple : kitB "str" "tuple" = some false := by decide +kernel
theorem k_str_list : kitB "str" "list" = some false := by decide +kernel
theorem k_tuple_bool : kitB "tuple" "bool" = some false := by decide +kernel
theorem k_tuple_int : kitB "tuple" "int" = some false := by decide +kernel
theorem k_tuple_str : kitB "tuple" "str" = some false := by decide +kernel
theorem k_tuple_tuple : kitB "tuple" "tuple" = some true := by decide +kernel
theorem k_tuple_list : kitB "tuple" "list" = some false := by decide +kernel
theorem k_list_bool : kitB "list" "bool" = some false := by decide +kernel
theorem k_list_int : kitB "list" "int" = some false := by decide +kernel
theorem k_list_str : kitB "list" "str" = some false := by decide +kernel
theorem k_list_tuple : kitB "list" "tuple" = some false := by decide +kernel
theorem k_list_list : kitB "list" "list" = some true := by decide +kernel
theorem k_NoneType_bool : kitB "NoneType" "bool" = some false := by decide +kernel
theorem k_NoneType_int : kitB "NoneType" "int" = some false := by decide +kernel
theorem k_NoneType_str : kitB "NoneType" "str" = some false := by decide +kernel
theorem k_NoneType_tuple : kitB "NoneType" "tuple" = some false := by decide +kernel
theorem k_NoneType_list : kitB "NoneType" "list" = some false := by decide +kernel
section
variable {K : PySem.W.Frag} {H : Hp} {Q : VK}
theorem r_isi {x : V} {a b : String} {r : Bool} (ty : TyX K H x (.type a)) (k : kitB a b = some r) (q : Q (.bl r) H) : rIsi K [x, .ty b] H Q := ⟨x, .ty b, _, _, r, rfl, .ty b, ty, kit_ty k, q⟩
theorem tx_bl {b : Bool} : TyX K H (.bl b) (.type "bool") := .base (.bl b)
theorem tx_int {i : Int} : TyX K H (.int i) (.type "int") := .base (.int i)
theorem tx_str {s : Str} : TyX K H (.str s) (.type "str") := .base (.str s)
theorem tx_non : TyX K H .non (.type "NoneType") := .base .non
theorem tx_tup {a : Addr} {xs : List V} (h : H a = some (.tup xs)) : TyX K H (.ref a) (.type "tuple") := .base (.tup h)
theorem tx_lst {a : Addr} {xs : List V} (h : H a = some (.lst xs)) : TyX K H (.ref a) (.type "list") := .base (.lst h)
end
theorem fd_write_number {K : PySem.W.Frag} (c : SaysQ K) : FnD K d_write_number := c.fnD 0
theorem sc_write_number : FnScope ["number", "data"] ["number"] (defScope s_write_number) := ⟨rfl, rfl, rfl, by decide +kernel, rfl, by decide +kernel, by decide +kernel⟩
theorem fd_write_integer {K : PySem.W.Frag} (c : SaysQ K) : FnD K d_write_integer := c.fnD 1
theorem sc_write_integer : FnScope ["number"] ["number"] (defScope s_write_integer) := ⟨rfl, rfl, rfl, by decide +kernel, rfl, by decide +kernel, by decide +kernel⟩
theorem fd_write_list {K : PySem.W.Frag} (c : SaysQ K) : FnD K d_write_list := c.fnD 2
theorem sc_write_list : FnScope ["items", "data", "item"] ["items"] (defScope s_write_list) := ⟨rfl, rfl, rfl, by decide +kernel, rfl, by decide +kernel, by decide +kernel⟩
theorem fd_write_string {K : PySem.W.Frag} (c : SaysQ K) : FnD K d_write_string := c.fnD 3
theorem sc_write_string : FnScope ["text", "character"] ["text"] (defScope s_write_string) := ⟨rfl, rfl, rfl, by decide +kernel, rfl, by decide +kernel, by decide +kernel⟩
theorem fd_write_mark {K : PySem.W.Frag} (c : SaysQ K) : FnD K d_write_mark := c.fnD 4
theorem sc_write_mark : FnScope ["mark"] ["mark"] (defScope s_write_mark) := ⟨rfl, rfl, rfl, by decide +kernel, rfl, by decide +kernel, by decide +kernel⟩
theorem fd_write_deed {K : PySem.W.Frag} (c : SaysQ K) : FnD K d_write_deed := c.fnD 5
theorem sc_write_deed : FnScope ["deed", "_", "module", "removed", "behind", "number", "text", "data", "mark"] ["deed"] (defScope s_write_deed) := ⟨rfl, rfl, rfl, by decide +kernel, rfl, by decide +kernel, by decide +kernel⟩
theorem fd_write_triples {K : PySem.W.Frag} (c : SaysQ K) : FnD K d_write_triples := c.fnD 6
theorem sc_write_triples : FnScope ["triples", "written", "replica", "place", "deed"] ["triples"] (defScope s_write_triples) := ⟨rfl, rfl, rfl, by decide +kernel, rfl, by decide +kernel, by decide +kernel⟩
theorem fd_write_value {K : PySem.W.Frag} (c : SaysQ K) : FnD K d_write_value := c.fnD 7
theorem sc_write_value : FnScope ["value", "part", "item"] ["value"] (defScope s_write_value) := ⟨rfl, rfl, rfl, by decide +kernel, rfl, by decide +kernel, by decide +kernel⟩
theorem fd_write_outcome {K : PySem.W.Frag} (c : SaysQ K) : FnD K d_write_outcome := c.fnD 8
theorem sc_write_outcome : FnScope ["outcome", "form", "told", "data"] ["outcome"] (defScope s_write_outcome) := ⟨rfl, rfl, rfl, by decide +kernel, rfl, by decide +kernel, by decide +kernel⟩
theorem fd_write_kind {K : PySem.W.Frag} (c : SaysQ K) : FnD K d_write_kind := c.fnD 9
theorem sc_write_kind : FnScope ["kind", "levels", "base"] ["kind"] (defScope s_write_kind) := ⟨rfl, rfl, rfl, by decide +kernel, rfl, by decide +kernel, by decide +kernel⟩
theorem fd_write_makers {K : PySem.W.Frag} (c : SaysQ K) : FnD K d_write_makers := c.fnD 10
theorem sc_write_makers : FnScope ["makers", "written", "maker", "kinds", "kind"] ["makers"] (defScope s_write_makers) := ⟨rfl, rfl, rfl, by decide +kernel, rfl, by decide +kernel, by decide +kernel⟩
theorem fd_write_shape {K : PySem.W.Frag} (c : SaysQ K) : FnD K d_write_shape := c.fnD 11
theorem sc_write_shape : FnScope ["shape", "kind", "data", "name", "makers"] ["shape"] (defScope s_write_shape) := ⟨rfl, rfl, rfl, by decide +kernel, rfl, by decide +kernel, by decide +kernel⟩
theorem fd_write_cell {K : PySem.W.Frag} (c : SaysQ K) : FnD K d_write_cell := c.fnD 12
theorem sc_write_cell : FnScope ["name", "shape", "outcome"] ["name", "shape", "outcome"] (defScope s_write_cell) := ⟨rfl, rfl, rfl, by decide +kernel, rfl, by decide +kernel, by decide +kernel⟩
theorem fd_write_cells {K : PySem.W.Frag} (c : SaysQ K) : FnD K d_write_cells := c.fnD 13
theorem sc_write_cells : FnScope ["cells", "name", "shape", "outcome"] ["cells"] (defScope s_write_cells) := ⟨rfl, rfl, rfl, by decide +kernel, rfl, by decide +kernel, by decide +kernel⟩
theorem fd_write_group {K : PySem.W.Frag} (c : SaysQ K) : FnD K d_write_group := c.fnD 14
theorem sc_write_group : FnScope ["triples", "cells"] ["triples", "cells"] (defScope s_write_group) := ⟨rfl, rfl, rfl, by decide +kernel, rfl, by decide +kernel, by decide +kernel⟩
theorem fd_checksum {K : PySem.W.Frag} (c : SaysQ K) : FnD K d_checksum := c.fnD 15
theorem sc_checksum : FnScope ["data", "total", "byte"] ["data"] (defScope s_checksum) := ⟨rfl, rfl, rfl, by decide +kernel, rfl, by decide +kernel, by decide +kernel⟩
theorem fd_write_record {K : PySem.W.Frag} (c : SaysQ K) : FnD K d_write_record := c.fnD 16
theorem sc_write_record : FnScope ["data", "total", "tail"] ["data"] (defScope s_write_record) := ⟨rfl, rfl, rfl, by decide +kernel, rfl, by decide +kernel, by decide +kernel⟩
theorem fd_read_size {K : PySem.W.Frag} (c : SaysQ K) : FnD K d_read_size := c.fnD 17
theorem sc_read_size : FnScope ["data", "start", "reader", "size"] ["data", "start"] (defScope s_read_size) := ⟨rfl, rfl, rfl, by decide +kernel, rfl, by decide +kernel, by decide +kernel⟩
theorem fd_read_records {K : PySem.W.Frag} (c : SaysQ K) : FnD K d_read_records := c.fnD 18
theorem sc_read_records : FnScope ["data", "records", "start", "found", "begin", "size", "record", "end"] ["data"] (defScope s_read_records) := ⟨rfl, rfl, rfl, by decide +kernel, rfl, by decide +kernel, by decide +kernel⟩
theorem fd_write_base {K : PySem.W.Frag} (c : SaysQ K) : FnD K d_write_base := c.fnD 19
theorem sc_write_base : FnScope ["base", "data", "row", "deed"] ["base"] (defScope s_write_base) := ⟨rfl, rfl, rfl, by decide +kernel, rfl, by decide +kernel, by decide +kernel⟩
theorem fd_log_start {K : PySem.W.Frag} (c : SaysQ K) : FnD K d_log_start := c.fnD 20
theorem sc_log_start : FnScope ["turn", "base"] ["turn", "base"] (defScope s_log_start) := ⟨rfl, rfl, rfl, by decide +kernel, rfl, by decide +kernel, by decide +kernel⟩
theorem fd_write_note {K : PySem.W.Frag} (c : SaysQ K) : FnD K d_write_note := c.fnD 21
theorem sc_write_note : FnScope ["triples", "cells"] ["triples", "cells"] (defScope s_write_note) := ⟨rfl, rfl, rfl, by decide +kernel, rfl, by decide +kernel, by decide +kernel⟩
theorem fd_read_turn {K : PySem.W.Frag} (c : SaysQ K) : FnD K d_read_turn := c.fnD 22
theorem sc_read_turn : FnScope ["record", "reader", "turn"] ["record"] (defScope s_read_turn) := ⟨rfl, rfl, rfl, by decide +kernel, rfl, by decide +kernel, by decide +kernel⟩
theorem fd_read_base {K : PySem.W.Frag} (c : SaysQ K) : FnD K d_read_base := c.fnD 23
theorem sc_read_base : FnScope ["record", "reader", "base", "name", "shape", "outcome", "_"] ["record"] (defScope s_read_base) := ⟨rfl, rfl, rfl, by decide +kernel, rfl, by decide +kernel, by decide +kernel⟩
theorem fd_after_note {K : PySem.W.Frag} (c : SaysQ K) : FnD K d_after_note := c.fnD 24
theorem sc_after_note : FnScope ["base", "record", "reader", "triples", "cells", "counts", "replica", "place", "_"] ["base", "record"] (defScope s_after_note) := ⟨rfl, rfl, rfl, by decide +kernel, rfl, by decide +kernel, by decide +kernel⟩
theorem fd_read_log {K : PySem.W.Frag} (c : SaysQ K) : FnD K d_read_log := c.fnD 25
theorem sc_read_log : FnScope ["data", "records", "turn", "base", "record", "size"] ["data"] (defScope s_read_log) := ⟨rfl, rfl, rfl, by decide +kernel, rfl, by decide +kernel, by decide +kernel⟩
theorem fd_law_mix {K : PySem.W.Frag} (c : SaysQ K) : FnD K d_law_mix := c.fnD 26
theorem sc_law_mix : FnScope ["_law_cell_here", "_law_k", "_law_value_here"] ["_law_cell_here", "_law_k"] (defScope s_law_mix) := ⟨rfl, rfl, rfl, by decide +kernel, rfl, by decide +kernel, by decide +kernel⟩
theorem fd_law_draws {K : PySem.W.Frag} (c : SaysQ K) : FnD K d_law_draws := c.fnD 27
theorem sc_law_draws : FnScope ["_law_script", "_law_draws_here", "_law_k", "_law_cell_here", "_law_place"] ["_law_script"] (defScope s_law_draws) := ⟨rfl, rfl, rfl, by decide +kernel, rfl, by decide +kernel, by decide +kernel⟩
theorem fd_law_at {K : PySem.W.Frag} (c : SaysQ K) : FnD K d_law_at := c.fnD 28
theorem sc_law_at : FnScope ["_law_draws_here", "_law_index"] ["_law_draws_here", "_law_index"] (defScope s_law_at) := ⟨rfl, rfl, rfl, by decide +kernel, rfl, by decide +kernel, by decide +kernel⟩
theorem fd_law_is_integer {K : PySem.W.Frag} (c : SaysQ K) : FnD K d_law_is_integer := c.fnD 29
theorem sc_law_is_integer : FnScope ["_law_actual"] ["_law_actual"] (defScope s_law_is_integer) := ⟨rfl, rfl, rfl, by decide +kernel, rfl, by decide +kernel, by decide +kernel⟩
theorem fd_law_same {K : PySem.W.Frag} (c : SaysQ K) : FnD K d_law_same := c.fnD 30
theorem sc_law_same : FnScope ["_law_actual", "_law_expected", "_law_k"] ["_law_actual", "_law_expected"] (defScope s_law_same) := ⟨rfl, rfl, rfl, by decide +kernel, rfl, by decide +kernel, by decide +kernel⟩
theorem fd_law_next {K : PySem.W.Frag} (c : SaysQ K) : FnD K d_law_next := c.fnD 31
theorem sc_law_next : FnScope ["_law_state", "_law_limit"] ["_law_state", "_law_limit"] (defScope s_law_next) := ⟨rfl, rfl, rfl, by decide +kernel, rfl, by decide +kernel, by decide +kernel⟩
theorem fd_law_number {K : PySem.W.Frag} (c : SaysQ K) : FnD K d_law_number := c.fnD 32
theorem sc_law_number : FnScope ["_law_number_here", "_law_data"] ["_law_number_here"] (defScope s_law_number) := ⟨rfl, rfl, rfl, by decide +kernel, rfl, by decide +kernel, by decide +kernel⟩
theorem fd_law_listed {K : PySem.W.Frag} (c : SaysQ K) : FnD K d_law_listed := c.fnD 33
theorem sc_law_listed : FnScope ["_law_parts", "_law_data", "_law_part"] ["_law_parts"] (defScope s_law_listed) := ⟨rfl, rfl, rfl, by decide +kernel, rfl, by decide +kernel, by decide +kernel⟩
theorem fd_law_string {K : PySem.W.Frag} (c : SaysQ K) : FnD K d_law_string := c.fnD 34
theorem sc_law_string : FnScope ["_law_text", "_law_chars", "_law_codes", "_law_char", "_law_code"] ["_law_text"] (defScope s_law_string) := ⟨rfl, rfl, rfl, by decide +kernel, rfl, by decide +kernel, by decide +kernel⟩
theorem fd_law_mark_bytes {K : PySem.W.Frag} (c : SaysQ K) : FnD K d_law_mark_bytes := c.fnD 35
theorem sc_law_mark_bytes : FnScope ["_law_mark"] ["_law_mark"] (defScope s_law_mark_bytes) := ⟨rfl, rfl, rfl, by decide +kernel, rfl, by decide +kernel, by decide +kernel⟩
theorem fd_law_deed_bytes {K : PySem.W.Frag} (c : SaysQ K) : FnD K d_law_deed_bytes := c.fnD 36
theorem sc_law_deed_bytes : FnScope ["_law_deed", "_law_data", "_law_mark"] ["_law_deed"] (defScope s_law_deed_bytes) := ⟨rfl, rfl, rfl, by decide +kernel, rfl, by decide +kernel, by decide +kernel⟩
theorem fd_law_triples_bytes {K : PySem.W.Frag} (c : SaysQ K) : FnD K d_law_triples_bytes := c.fnD 37
theorem sc_law_triples_bytes : FnScope ["_law_triples", "_law_replica", "_law_place", "_law_deed"] ["_law_triples"] (defScope s_law_triples_bytes) := ⟨rfl, rfl, rfl, by decide +kernel, rfl, by decide +kernel, by decide +kernel⟩
theorem fd_law_value_bytes {K : PySem.W.Frag} (c : SaysQ K) : FnD K d_law_value_bytes := c.fnD 38
theorem sc_law_value_bytes : FnScope ["_law_value_here", "_law_item"] ["_law_value_here"] (defScope s_law_value_bytes) := ⟨rfl, rfl, rfl, by decide +kernel, rfl, by decide +kernel, by decide +kernel⟩
theorem fd_law_outcome_bytes {K : PySem.W.Frag} (c : SaysQ K) : FnD K d_law_outcome_bytes := c.fnD 39
theorem sc_law_outcome_bytes : FnScope ["_law_outcome_here", "_law_faults", "_law_data"] ["_law_outcome_here"] (defScope s_law_outcome_bytes) := ⟨rfl, rfl, rfl, by decide +kernel, rfl, by decide +kernel, by decide +kernel⟩
theorem fd_law_kind_bytes {K : PySem.W.Frag} (c : SaysQ K) : FnD K d_law_kind_bytes := c.fnD 40
theorem sc_law_kind_bytes : FnScope ["_law_kind"] ["_law_kind"] (defScope s_law_kind_bytes) := ⟨rfl, rfl, rfl, by decide +kernel, rfl, by decide +kernel, by decide +kernel⟩
theorem fd_law_cell_bytes {K : PySem.W.Frag} (c : SaysQ K) : FnD K d_law_cell_bytes := c.fnD 41
theorem sc_law_cell_bytes : FnScope ["_law_cell_here", "_law_name", "_law_shape", "_law_outcome_here", "_law_parts", "_law_data", "_law_makers", "_law_written", "_law_maker", "_law_kinds", "_law_kind"] ["_law_cell_here"] (defScope s_law_cell_bytes) := ⟨rfl, rfl, rfl, by decide +kernel, rfl, by decide +kernel, by decide +kernel⟩
theorem fd_law_group_bytes {K : PySem.W.Frag} (c : SaysQ K) : FnD K d_law_group_bytes := c.fnD 42
theorem sc_law_group_bytes : FnScope ["_law_triples", "_law_cells", "_law_cell_here"] ["_law_triples", "_law_cells"] (defScope s_law_group_bytes) := ⟨rfl, rfl, rfl, by decide +kernel, rfl, by decide +kernel, by decide +kernel⟩
theorem fd_law_word {K : PySem.W.Frag} (c : SaysQ K) : FnD K d_law_word := c.fnD 43
theorem sc_law_word : FnScope ["_law_state", "_law_words"] ["_law_state"] (defScope s_law_word) := ⟨rfl, rfl, rfl, by decide +kernel, rfl, by decide +kernel, by decide +kernel⟩
theorem fd_law_text_of {K : PySem.W.Frag} (c : SaysQ K) : FnD K d_law_text_of := c.fnD 44
theorem sc_law_text_of : FnScope ["_law_state", "_law_chars", "_law_count", "_law_start", "_law_k"] ["_law_state"] (defScope s_law_text_of) := ⟨rfl, rfl, rfl, by decide +kernel, rfl, by decide +kernel, by decide +kernel⟩
theorem fd_law_big {K : PySem.W.Frag} (c : SaysQ K) : FnD K d_law_big := c.fnD 45
theorem sc_law_big : FnScope ["_law_state", "_law_pick", "_law_number_here", "_law_k"] ["_law_state"] (defScope s_law_big) := ⟨rfl, rfl, rfl, by decide +kernel, rfl, by decide +kernel, by decide +kernel⟩
theorem fd_law_value {K : PySem.W.Frag} (c : SaysQ K) : FnD K d_law_value := c.fnD 46
theorem sc_law_value : FnScope ["_law_state", "_law_depth", "_law_pick", "_law_value_here", "_law_k", "_law_parts"] ["_law_state", "_law_depth"] (defScope s_law_value) := ⟨rfl, rfl, rfl, by decide +kernel, rfl, by decide +kernel, by decide +kernel⟩
theorem fd_law_outcome {K : PySem.W.Frag} (c : SaysQ K) : FnD K d_law_outcome := c.fnD 47
theorem sc_law_outcome : FnScope ["_law_state", "_law_pick"] ["_law_state"] (defScope s_law_outcome) := ⟨rfl, rfl, rfl, by decide +kernel, rfl, by decide +kernel, by decide +kernel⟩
theorem fd_law_shape_kind {K : PySem.W.Frag} (c : SaysQ K) : FnD K d_law_shape_kind := c.fnD 48
theorem sc_law_shape_kind : FnScope ["_law_state"] ["_law_state"] (defScope s_law_shape_kind) := ⟨rfl, rfl, rfl, by decide +kernel, rfl, by decide +kernel, by decide +kernel⟩
theorem fd_law_cell {K : PySem.W.Frag} (c : SaysQ K) : FnD K d_law_cell := c.fnD 49
theorem sc_law_cell : FnScope ["_law_state", "_law_name", "_law_data", "_law_k", "_law_makers", "_law_j", "_law_kinds", "_law_i"] ["_law_state", "_law_name"] (defScope s_law_cell) := ⟨rfl, rfl, rfl, by decide +kernel, rfl, by decide +kernel, by decide +kernel⟩
theorem fd_law_any_deed {K : PySem.W.Frag} (c : SaysQ K) : FnD K d_law_any_deed := c.fnD 50
theorem sc_law_any_deed : FnScope ["_law_state", "_law_removed", "_law_behind", "_law_k"] ["_law_state"] (defScope s_law_any_deed) := ⟨rfl, rfl, rfl, by decide +kernel, rfl, by decide +kernel, by decide +kernel⟩
theorem fd_law_base_data {K : PySem.W.Frag} (c : SaysQ K) : FnD K d_law_base_data := c.fnD 51
theorem sc_law_base_data : FnScope ["_law_rows", "_law_held", "_law_commits", "_law_cells", "_law_name", "_law_row"] ["_law_rows", "_law_held", "_law_commits"] (defScope s_law_base_data) := ⟨rfl, rfl, rfl, by decide +kernel, rfl, by decide +kernel, by decide +kernel⟩
theorem fd_law_base_bytes {K : PySem.W.Frag} (c : SaysQ K) : FnD K d_law_base_bytes := c.fnD 52
theorem sc_law_base_bytes : FnScope ["_law_rows", "_law_held", "_law_commits", "_law_data", "_law_row", "_law_name", "_law_deed"] ["_law_rows", "_law_held", "_law_commits"] (defScope s_law_base_bytes) := ⟨rfl, rfl, rfl, by decide +kernel, rfl, by decide +kernel, by decide +kernel⟩
theorem fd_law_checksum {K : PySem.W.Frag} (c : SaysQ K) : FnD K d_law_checksum := c.fnD 53
theorem sc_law_checksum : FnScope ["_law_data", "_law_total", "_law_byte"] ["_law_data"] (defScope s_law_checksum) := ⟨rfl, rfl, rfl, by decide +kernel, rfl, by decide +kernel, by decide +kernel⟩
theorem fd_law_record {K : PySem.W.Frag} (c : SaysQ K) : FnD K d_law_record := c.fnD 54
theorem sc_law_record : FnScope ["_law_data", "_law_total"] ["_law_data"] (defScope s_law_record) := ⟨rfl, rfl, rfl, by decide +kernel, rfl, by decide +kernel, by decide +kernel⟩
theorem fd_law_group {K : PySem.W.Frag} (c : SaysQ K) : FnD K d_law_group := c.fnD 55
theorem sc_law_group : FnScope ["_law_state", "_law_rows", "_law_counts", "_law_triples", "_law_k", "_law_replica", "_law_cells", "_law_row"] ["_law_state", "_law_rows"] (defScope s_law_group) := ⟨rfl, rfl, rfl, by decide +kernel, rfl, by decide +kernel, by decide +kernel⟩
theorem fd_law_grown {K : PySem.W.Frag} (c : SaysQ K) : FnD K d_law_grown := c.fnD 56
theorem sc_law_grown : FnScope ["_law_rows", "_law_held", "_law_group_here", "_law_more", "_law_replica", "_law_place", "_law_deed", "_law_holds", "_law_name", "_law_shape", "_law_outcome_here", "_law_row"] ["_law_rows", "_law_held", "_law_group_here"] (defScope s_law_grown) := ⟨rfl, rfl, rfl, by decide +kernel, rfl, by decide +kernel, by decide +kernel⟩
theorem fd_law_some_base {K : PySem.W.Frag} (c : SaysQ K) : FnD K d_law_some_base := c.fnD 57
theorem sc_law_some_base : FnScope ["_law_state", "_law_k", "_law_rows", "_law_held", "_law_base", "_law_commits", "_law_group_here"] ["_law_state"] (defScope s_law_some_base) := ⟨rfl, rfl, rfl, by decide +kernel, rfl, by decide +kernel, by decide +kernel⟩
theorem fd_law_told {K : PySem.W.Frag} (c : SaysQ K) : FnD K d_law_told := c.fnD 58
theorem sc_law_told : FnScope ["_law_found", "_law_turn", "_law_due", "_law_size"] ["_law_found", "_law_turn", "_law_due", "_law_size"] (defScope s_law_told) := ⟨rfl, rfl, rfl, by decide +kernel, rfl, by decide +kernel, by decide +kernel⟩
theorem fd_law_wrong_note {K : PySem.W.Frag} (c : SaysQ K) : FnD K d_law_wrong_note := c.fnD 59
theorem sc_law_wrong_note : FnScope ["_law_state", "_law_rows", "_law_triples", "_law_cells", "_law_good", "_law_pick", "_law_replica", "_law_place", "_law_written"] ["_law_state", "_law_rows"] (defScope s_law_wrong_note) := ⟨rfl, rfl, rfl, by decide +kernel, rfl, by decide +kernel, by decide +kernel⟩
theorem fd_law {K : PySem.W.Frag} (c : SaysQ K) : FnD K d_law := c.fnD 60
theorem sc_law : FnScope ["_law_script", "_law_state", "_law_rows", "_law_held", "_law_commits", "_law_base", "_law_turn", "_law_data", "_law_states", "_law_sizes", "_law_k", "_law_group_here", "_law_note", "_law_last", "_law_spoilt", "_law_end", "_law_passed", "_law_count", "_law_due", "_law_size"] ["_law_script"] (defScope s_law) := ⟨rfl, rfl, rfl, by decide +kernel, rfl, by decide +kernel, by decide +kernel⟩
theorem fd_Deeds_init {K : PySem.W.Frag} (c : SaysQ K) : FnD K d_Deeds_init := c.fnD 61
theorem sc_Deeds_init : FnScope ["self", "_"] ["self"] (defScope s_Deeds_init) := ⟨rfl, rfl, rfl, by decide +kernel, rfl, by decide +kernel, by decide +kernel⟩
theorem fd_Deeds_counts {K : PySem.W.Frag} (c : SaysQ K) : FnD K d_Deeds_counts := c.fnD 62
theorem sc_Deeds_counts : FnScope ["self", "row"] ["self"] (defScope s_Deeds_counts) := ⟨rfl, rfl, rfl, by decide +kernel, rfl, by decide +kernel, by decide +kernel⟩
theorem fd_Deeds_add {K : PySem.W.Frag} (c : SaysQ K) : FnD K d_Deeds_add := c.fnD 63
theorem sc_Deeds_add : FnScope ["self", "replica", "deed"] ["self", "replica", "deed"] (defScope s_Deeds_add) := ⟨rfl, rfl, rfl, by decide +kernel, rfl, by decide +kernel, by decide +kernel⟩
theorem fd_Deeds_copy {K : PySem.W.Frag} (c : SaysQ K) : FnD K d_Deeds_copy := c.fnD 64
theorem sc_Deeds_copy : FnScope ["self", "result", "row"] ["self"] (defScope s_Deeds_copy) := ⟨rfl, rfl, rfl, by decide +kernel, rfl, by decide +kernel, by decide +kernel⟩
theorem fd_Reader_init {K : PySem.W.Frag} (c : SaysQ K) : FnD K d_Reader_init := c.fnD 65
theorem sc_Reader_init : FnScope ["self", "data"] ["self", "data"] (defScope s_Reader_init) := ⟨rfl, rfl, rfl, by decide +kernel, rfl, by decide +kernel, by decide +kernel⟩
theorem fd_Reader_read_byte {K : PySem.W.Frag} (c : SaysQ K) : FnD K d_Reader_read_byte := c.fnD 66
theorem sc_Reader_read_byte : FnScope ["self"] ["self"] (defScope s_Reader_read_byte) := ⟨rfl, rfl, rfl, by decide +kernel, rfl, by decide +kernel, by decide +kernel⟩
theorem fd_Reader_read_choice {K : PySem.W.Frag} (c : SaysQ K) : FnD K d_Reader_read_choice := c.fnD 67
theorem sc_Reader_read_choice : FnScope ["self", "count", "byte"] ["self", "count"] (defScope s_Reader_read_choice) := ⟨rfl, rfl, rfl, by decide +kernel, rfl, by decide +kernel, by decide +kernel⟩
theorem fd_Reader_end {K : PySem.W.Frag} (c : SaysQ K) : FnD K d_Reader_end := c.fnD 68
theorem sc_Reader_end : FnScope ["self"] ["self"] (defScope s_Reader_end) := ⟨rfl, rfl, rfl, by decide +kernel, rfl, by decide +kernel, by decide +kernel⟩
theorem fd_Reader_read_number {K : PySem.W.Frag} (c : SaysQ K) : FnD K d_Reader_read_number := c.fnD 69
theorem sc_Reader_read_number : FnScope ["self", "total", "factor", "index", "byte"] ["self"] (defScope s_Reader_read_number) := ⟨rfl, rfl, rfl, by decide +kernel, rfl, by decide +kernel, by decide +kernel⟩
theorem fd_Reader_read_integer {K : PySem.W.Frag} (c : SaysQ K) : FnD K d_Reader_read_integer := c.fnD 70
theorem sc_Reader_read_integer : FnScope ["self", "is_negative", "number"] ["self"] (defScope s_Reader_read_integer) := ⟨rfl, rfl, rfl, by decide +kernel, rfl, by decide +kernel, by decide +kernel⟩
theorem fd_Reader_read_count {K : PySem.W.Frag} (c : SaysQ K) : FnD K d_Reader_read_count := c.fnD 71
theorem sc_Reader_read_count : FnScope ["self", "count"] ["self"] (defScope s_Reader_read_count) := ⟨rfl, rfl, rfl, by decide +kernel, rfl, by decide +kernel, by decide +kernel⟩
theorem fd_Reader_read_character {K : PySem.W.Frag} (c : SaysQ K) : FnD K d_Reader_read_character := c.fnD 72
theorem sc_Reader_read_character : FnScope ["self", "code"] ["self"] (defScope s_Reader_read_character) := ⟨rfl, rfl, rfl, by decide +kernel, rfl, by decide +kernel, by decide +kernel⟩
theorem fd_Reader_read_string {K : PySem.W.Frag} (c : SaysQ K) : FnD K d_Reader_read_string := c.fnD 73
theorem sc_Reader_read_string : FnScope ["self", "_"] ["self"] (defScope s_Reader_read_string) := ⟨rfl, rfl, rfl, by decide +kernel, rfl, by decide +kernel, by decide +kernel⟩
theorem fd_Reader_read_mark {K : PySem.W.Frag} (c : SaysQ K) : FnD K d_Reader_read_mark := c.fnD 74
theorem sc_Reader_read_mark : FnScope ["self", "number"] ["self"] (defScope s_Reader_read_mark) := ⟨rfl, rfl, rfl, by decide +kernel, rfl, by decide +kernel, by decide +kernel⟩
theorem fd_Reader_read_deed {K : PySem.W.Frag} (c : SaysQ K) : FnD K d_Reader_read_deed := c.fnD 75
theorem sc_Reader_read_deed : FnScope ["self", "module", "removed", "behind", "number", "_"] ["self"] (defScope s_Reader_read_deed) := ⟨rfl, rfl, rfl, by decide +kernel, rfl, by decide +kernel, by decide +kernel⟩
theorem fd_Reader_read_deeds {K : PySem.W.Frag} (c : SaysQ K) : FnD K d_Reader_read_deeds := c.fnD 76
theorem sc_Reader_read_deeds : FnScope ["self", "_"] ["self"] (defScope s_Reader_read_deeds) := ⟨rfl, rfl, rfl, by decide +kernel, rfl, by decide +kernel, by decide +kernel⟩
theorem fd_Reader_read_triple {K : PySem.W.Frag} (c : SaysQ K) : FnD K d_Reader_read_triple := c.fnD 77
theorem sc_Reader_read_triple : FnScope ["self", "replica", "place"] ["self"] (defScope s_Reader_read_triple) := ⟨rfl, rfl, rfl, by decide +kernel, rfl, by decide +kernel, by decide +kernel⟩
theorem fd_Reader_read_triples {K : PySem.W.Frag} (c : SaysQ K) : FnD K d_Reader_read_triples := c.fnD 78
theorem sc_Reader_read_triples : FnScope ["self", "_"] ["self"] (defScope s_Reader_read_triples) := ⟨rfl, rfl, rfl, by decide +kernel, rfl, by decide +kernel, by decide +kernel⟩
theorem fd_Reader_read_value {K : PySem.W.Frag} (c : SaysQ K) : FnD K d_Reader_read_value := c.fnD 79
theorem sc_Reader_read_value : FnScope ["self"] ["self"] (defScope s_Reader_read_value) := ⟨rfl, rfl, rfl, by decide +kernel, rfl, by decide +kernel, by decide +kernel⟩
theorem fd_Reader_read_value_at {K : PySem.W.Frag} (c : SaysQ K) : FnD K d_Reader_read_value_at := c.fnD 80
theorem sc_Reader_read_value_at : FnScope ["self", "depth", "form", "maker"] ["self", "depth"] (defScope s_Reader_read_value_at) := ⟨rfl, rfl, rfl, by decide +kernel, rfl, by decide +kernel, by decide +kernel⟩
theorem fd_Reader_read_parts {K : PySem.W.Frag} (c : SaysQ K) : FnD K d_Reader_read_parts := c.fnD 81
theorem sc_Reader_read_parts : FnScope ["self", "depth", "_"] ["self", "depth"] (defScope s_Reader_read_parts) := ⟨rfl, rfl, rfl, by decide +kernel, rfl, by decide +kernel, by decide +kernel⟩
theorem fd_Reader_read_outcome {K : PySem.W.Frag} (c : SaysQ K) : FnD K d_Reader_read_outcome := c.fnD 82
theorem sc_Reader_read_outcome : FnScope ["self", "fault"] ["self"] (defScope s_Reader_read_outcome) := ⟨rfl, rfl, rfl, by decide +kernel, rfl, by decide +kernel, by decide +kernel⟩
theorem fd_Reader_read_kind {K : PySem.W.Frag} (c : SaysQ K) : FnD K d_Reader_read_kind := c.fnD 83
theorem sc_Reader_read_kind : FnScope ["self", "levels", "base", "name"] ["self"] (defScope s_Reader_read_kind) := ⟨rfl, rfl, rfl, by decide +kernel, rfl, by decide +kernel, by decide +kernel⟩
theorem fd_Reader_read_maker {K : PySem.W.Frag} (c : SaysQ K) : FnD K d_Reader_read_maker := c.fnD 84
theorem sc_Reader_read_maker : FnScope ["self", "maker", "_"] ["self"] (defScope s_Reader_read_maker) := ⟨rfl, rfl, rfl, by decide +kernel, rfl, by decide +kernel, by decide +kernel⟩
theorem fd_Reader_read_makers {K : PySem.W.Frag} (c : SaysQ K) : FnD K d_Reader_read_makers := c.fnD 85
theorem sc_Reader_read_makers : FnScope ["self", "name", "_"] ["self"] (defScope s_Reader_read_makers) := ⟨rfl, rfl, rfl, by decide +kernel, rfl, by decide +kernel, by decide +kernel⟩
theorem fd_Reader_read_shape {K : PySem.W.Frag} (c : SaysQ K) : FnD K d_Reader_read_shape := c.fnD 86
theorem sc_Reader_read_shape : FnScope ["self", "kind", "_"] ["self"] (defScope s_Reader_read_shape) := ⟨rfl, rfl, rfl, by decide +kernel, rfl, by decide +kernel, by decide +kernel⟩
theorem fd_Reader_read_cell {K : PySem.W.Frag} (c : SaysQ K) : FnD K d_Reader_read_cell := c.fnD 87
theorem sc_Reader_read_cell : FnScope ["self", "name", "shape"] ["self"] (defScope s_Reader_read_cell) := ⟨rfl, rfl, rfl, by decide +kernel, rfl, by decide +kernel, by decide +kernel⟩
theorem fd_Reader_read_cells {K : PySem.W.Frag} (c : SaysQ K) : FnD K d_Reader_read_cells := c.fnD 88
theorem sc_Reader_read_cells : FnScope ["self", "_"] ["self"] (defScope s_Reader_read_cells) := ⟨rfl, rfl, rfl, by decide +kernel, rfl, by decide +kernel, by decide +kernel⟩
theorem fd_Reader_read_group {K : PySem.W.Frag} (c : SaysQ K) : FnD K d_Reader_read_group := c.fnD 89
theorem sc_Reader_read_group : FnScope ["self", "triples"] ["self"] (defScope s_Reader_read_group) := ⟨rfl, rfl, rfl, by decide +kernel, rfl, by decide +kernel, by decide +kernel⟩
theorem fd_Base_init {K : PySem.W.Frag} (c : SaysQ K) : FnD K d_Base_init := c.fnD 90
theorem sc_Base_init : FnScope ["self"] ["self"] (defScope s_Base_init) := ⟨rfl, rfl, rfl, by decide +kernel, rfl, by decide +kernel, by decide +kernel⟩
theorem fd_Base_copy {K : PySem.W.Frag} (c : SaysQ K) : FnD K d_Base_copy := c.fnD 91
theorem sc_Base_copy : FnScope ["self", "result"] ["self"] (defScope s_Base_copy) := ⟨rfl, rfl, rfl, by decide +kernel, rfl, by decide +kernel, by decide +kernel⟩
theorem fd_Base_cells {K : PySem.W.Frag} (c : SaysQ K) : FnD K d_Base_cells := c.fnD 92
theorem sc_Base_cells : FnScope ["self", "name"] ["self"] (defScope s_Base_cells) := ⟨rfl, rfl, rfl, by decide +kernel, rfl, by decide +kernel, by decide +kernel⟩
theorem fd_Base_data {K : PySem.W.Frag} (c : SaysQ K) : FnD K d_Base_data := c.fnD 93
theorem sc_Base_data : FnScope ["self", "row"] ["self"] (defScope s_Base_data) := ⟨rfl, rfl, rfl, by decide +kernel, rfl, by decide +kernel, by decide +kernel⟩
theorem fd_Base_grown {K : PySem.W.Frag} (c : SaysQ K) : FnD K d_Base_grown := c.fnD 94
theorem sc_Base_grown : FnScope ["self", "triples", "cells", "result", "replica", "_", "deed", "name", "shape", "outcome"] ["self", "triples", "cells"] (defScope s_Base_grown) := ⟨rfl, rfl, rfl, by decide +kernel, rfl, by decide +kernel, by decide +kernel⟩
theorem n_len {K : PySem.W.Frag} {mg : Str → Option Value} (T : Txt K mg) : mg "len" = none := T.free (T.says.fact 0)
theorem n_range {K : PySem.W.Frag} {mg : Str → Option Value} (T : Txt K mg) : mg "range" = none := T.free (T.says.fact 1)
theorem n_isinstance {K : PySem.W.Frag} {mg : Str → Option Value} (T : Txt K mg) : mg "isinstance" = none := T.free (T.says.fact 2)
theorem n_int {K : PySem.W.Frag} {mg : Str → Option Value} (T : Txt K mg) : mg "int" = none := T.free (T.says.fact 3)
theorem n_str {K : PySem.W.Frag} {mg : Str → Option Value} (T : Txt K mg) : mg "str" = none := T.free (T.says.fact 4)
theorem n_bool {K : PySem.W.Frag} {mg : Str → Option Value} (T : Txt K mg) : mg "bool" = none := T.free (T.says.fact 5)
theorem n_list {K : PySem.W.Frag} {mg : Str → Option Value} (T : Txt K mg) : mg "list" = none := T.free (T.says.fact 6)
theorem n_tuple {K : PySem.W.Frag} {mg : Str → Option Value} (T : Txt K mg) : mg "tuple" = none := T.free (T.says.fact 7)
theorem n_dict {K : PySem.W.Frag} {mg : Str → Option Value} (T : Txt K mg) : mg "dict" = none := T.free (T.says.fact 8)
theorem n_ord {K : PySem.W.Frag} {mg : Str → Option Value} (T : Txt K mg) : mg "ord" = none := T.free (T.says.fact 9)
theorem n_abs {K : PySem.W.Frag} {mg : Str → Option Value} (T : Txt K mg) : mg "abs" = none := T.free (T.says.fact 10)
theorem n_min {K : PySem.W.Frag} {mg : Str → Option Value} (T : Txt K mg) : mg "min" = none := T.free (T.says.fact 11)
theorem n_max {K : PySem.W.Frag} {mg : Str → Option Value} (T : Txt K mg) : mg "max" = none := T.free (T.says.fact 12)
theorem n_sum {K : PySem.W.Frag} {mg : Str → Option Value} (T : Txt K mg) : mg "sum" = none := T.free (T.says.fact 13)
theorem n_sorted {K : PySem.W.Frag} {mg : Str → Option Value} (T : Txt K mg) : mg "sorted" = none := T.free (T.says.fact 14)
theorem gm_write_number {K : PySem.W.Frag} {mg : Str → Option Value} (T : Txt K mg) : mg "write_number" = some (.ref (He.ga K "write_number")) := T.glo (T.says.fact 15)
theorem gm_write_integer {K : PySem.W.Frag} {mg : Str → Option Value} (T : Txt K mg) : mg "write_integer" = some (.ref (He.ga K "write_integer")) := T.glo (T.says.fact 16)
theorem gm_write_list {K : PySem.W.Frag} {mg : Str → Option Value} (T : Txt K mg) : mg "write_list" = some (.ref (He.ga K "write_list")) := T.glo (T.says.fact 17)
theorem gm_write_string {K : PySem.W.Frag} {mg : Str → Option Value} (T : Txt K mg) : mg "write_string" = some (.ref (He.ga K "write_string")) := T.glo (T.says.fact 18)
theorem gm_write_mark {K : PySem.W.Frag} {mg : Str → Option Value} (T : Txt K mg) : mg "write_mark" = some (.ref (He.ga K "write_mark")) := T.glo (T.says.fact 19)
theorem gm_write_deed {K : PySem.W.Frag} {mg : Str → Option Value} (T : Txt K mg) : mg "write_deed" = some (.ref (He.ga K "write_deed")) := T.glo (T.says.fact 20)
theorem gm_write_triples {K : PySem.W.Frag} {mg : Str → Option Value} (T : Txt K mg) : mg "write_triples" = some (.ref (He.ga K "write_triples")) := T.glo (T.says.fact 21)
theorem gm_write_value {K : PySem.W.Frag} {mg : Str → Option Value} (T : Txt K mg) : mg "write_value" = some (.ref (He.ga K "write_value")) := T.glo (T.says.fact 22)
theorem gm_write_outcome {K : PySem.W.Frag} {mg : Str → Option Value} (T : Txt K mg) : mg "write_outcome" = some (.ref (He.ga K "write_outcome")) := T.glo (T.says.fact 23)
theorem gm_write_kind {K : PySem.W.Frag} {mg : Str → Option Value} (T : Txt K mg) : mg "write_kind" = some (.ref (He.ga K "write_kind")) := T.glo (T.says.fact 24)
theorem gm_write_makers {K : PySem.W.Frag} {mg : Str → Option Value} (T : Txt K mg) : mg "write_makers" = some (.ref (He.ga K "write_makers")) := T.glo (T.says.fact 25)
theorem gm_write_shape {K : PySem.W.Frag} {mg : Str → Option Value} (T : Txt K mg) : mg "write_shape" = some (.ref (He.ga K "write_shape")) := T.glo (T.says.fact 26)
theorem gm_write_cell {K : PySem.W.Frag} {mg : Str → Option Value} (T : Txt K mg) : mg "write_cell" = some (.ref (He.ga K "write_cell")) := T.glo (T.says.fact 27)
theorem gm_write_cells {K : PySem.W.Frag} {mg : Str → Option Value} (T : Txt K mg) : mg "write_cells" = some (.ref (He.ga K "write_cells")) := T.glo (T.says.fact 28)
theorem gm_write_group {K : PySem.W.Frag} {mg : Str → Option Value} (T : Txt K mg) : mg "write_group" = some (.ref (He.ga K "write_group")) := T.glo (T.says.fact 29)
theorem gm_checksum {K : PySem.W.Frag} {mg : Str → Option Value} (T : Txt K mg) : mg "checksum" = some (.ref (He.ga K "checksum")) := T.glo (T.says.fact 30)
theorem gm_write_record {K : PySem.W.Frag} {mg : Str → Option Value} (T : Txt K mg) : mg "write_record" = some (.ref (He.ga K "write_record")) := T.glo (T.says.fact 31)
theorem gm_read_size {K : PySem.W.Frag} {mg : Str → Option Value} (T : Txt K mg) : mg "_read_size" = some (.ref (He.ga K "_read_size")) := T.glo (T.says.fact 32)
theorem gm_read_records {K : PySem.W.Frag} {mg : Str → Option Value} (T : Txt K mg) : mg "read_records" = some (.ref (He.ga K "read_records")) := T.glo (T.says.fact 33)
theorem gm_write_base {K : PySem.W.Frag} {mg : Str → Option Value} (T : Txt K mg) : mg "_write_base" = some (.ref (He.ga K "_write_base")) := T.glo (T.says.fact 34)
theorem gm_log_start {K : PySem.W.Frag} {mg : Str → Option Value} (T : Txt K mg) : mg "log_start" = some (.ref (He.ga K "log_start")) := T.glo (T.says.fact 35)
theorem gm_write_note {K : PySem.W.Frag} {mg : Str → Option Value} (T : Txt K mg) : mg "write_note" = some (.ref (He.ga K "write_note")) := T.glo (T.says.fact 36)
theorem gm_read_turn {K : PySem.W.Frag} {mg : Str → Option Value} (T : Txt K mg) : mg "_read_turn" = some (.ref (He.ga K "_read_turn")) := T.glo (T.says.fact 37)
theorem gm_read_base {K : PySem.W.Frag} {mg : Str → Option Value} (T : Txt K mg) : mg "_read_base" = some (.ref (He.ga K "_read_base")) := T.glo (T.says.fact 38)
theorem gm_after_note {K : PySem.W.Frag} {mg : Str → Option Value} (T : Txt K mg) : mg "_after_note" = some (.ref (He.ga K "_after_note")) := T.glo (T.says.fact 39)
theorem gm_read_log {K : PySem.W.Frag} {mg : Str → Option Value} (T : Txt K mg) : mg "read_log" = some (.ref (He.ga K "read_log")) := T.glo (T.says.fact 40)
theorem gm_law_mix {K : PySem.W.Frag} {mg : Str → Option Value} (T : Txt K mg) : mg "_law_mix" = some (.ref (He.ga K "_law_mix")) := T.glo (T.says.fact 41)
theorem gm_law_draws {K : PySem.W.Frag} {mg : Str → Option Value} (T : Txt K mg) : mg "_law_draws" = some (.ref (He.ga K "_law_draws")) := T.glo (T.says.fact 42)
theorem gm_law_at {K : PySem.W.Frag} {mg : Str → Option Value} (T : Txt K mg) : mg "_law_at" = some (.ref (He.ga K "_law_at")) := T.glo (T.says.fact 43)
theorem gm_law_is_integer {K : PySem.W.Frag} {mg : Str → Option Value} (T : Txt K mg) : mg "_law_is_integer" = some (.ref (He.ga K "_law_is_integer")) := T.glo (T.says.fact 44)
theorem gm_law_same {K : PySem.W.Frag} {mg : Str → Option Value} (T : Txt K mg) : mg "_law_same" = some (.ref (He.ga K "_law_same")) := T.glo (T.says.fact 45)
theorem gm_law_next {K : PySem.W.Frag} {mg : Str → Option Value} (T : Txt K mg) : mg "_law_next" = some (.ref (He.ga K "_law_next")) := T.glo (T.says.fact 46)
theorem gm_law_number {K : PySem.W.Frag} {mg : Str → Option Value} (T : Txt K mg) : mg "_law_number" = some (.ref (He.ga K "_law_number")) := T.glo (T.says.fact 47)
theorem gm_law_listed {K : PySem.W.Frag} {mg : Str → Option Value} (T : Txt K mg) : mg "_law_listed" = some (.ref (He.ga K "_law_listed")) := T.glo (T.says.fact 48)
theorem gm_law_string {K : PySem.W.Frag} {mg : Str → Option Value} (T : Txt K mg) : mg "_law_string" = some (.ref (He.ga K "_law_string")) := T.glo (T.says.fact 49)
theorem gm_law_mark_bytes {K : PySem.W.Frag} {mg : Str → Option Value} (T : Txt K mg) : mg "_law_mark_bytes" = some (.ref (He.ga K "_law_mark_bytes")) := T.glo (T.says.fact 50)
theorem gm_law_deed_bytes {K : PySem.W.Frag} {mg : Str → Option Value} (T : Txt K mg) : mg "_law_deed_bytes" = some (.ref (He.ga K "_law_deed_bytes")) := T.glo (T.says.fact 51)
theorem gm_law_triples_bytes {K : PySem.W.Frag} {mg : Str → Option Value} (T : Txt K mg) : mg "_law_triples_bytes" = some (.ref (He.ga K "_law_triples_bytes")) := T.glo (T.says.fact 52)
theorem gm_law_value_bytes {K : PySem.W.Frag} {mg : Str → Option Value} (T : Txt K mg) : mg "_law_value_bytes" = some (.ref (He.ga K "_law_value_bytes")) := T.glo (T.says.fact 53)
theorem gm_law_outcome_bytes {K : PySem.W.Frag} {mg : Str → Option Value} (T : Txt K mg) : mg "_law_outcome_bytes" = some (.ref (He.ga K "_law_outcome_bytes")) := T.glo (T.says.fact 54)
theorem gm_law_kind_bytes {K : PySem.W.Frag} {mg : Str → Option Value} (T : Txt K mg) : mg "_law_kind_bytes" = some (.ref (He.ga K "_law_kind_bytes")) := T.glo (T.says.fact 55)
theorem gm_law_cell_bytes {K : PySem.W.Frag} {mg : Str → Option Value} (T : Txt K mg) : mg "_law_cell_bytes" = some (.ref (He.ga K "_law_cell_bytes")) := T.glo (T.says.fact 56)
theorem gm_law_group_bytes {K : PySem.W.Frag} {mg : Str → Option Value} (T : Txt K mg) : mg "_law_group_bytes" = some (.ref (He.ga K "_law_group_bytes")) := T.glo (T.says.fact 57)
theorem gm_law_word {K : PySem.W.Frag} {mg : Str → Option Value} (T : Txt K mg) : mg "_law_word" = some (.ref (He.ga K "_law_word")) := T.glo (T.says.fact 58)
theorem gm_law_text_of {K : PySem.W.Frag} {mg : Str → Option Value} (T : Txt K mg) : mg "_law_text_of" = some (.ref (He.ga K "_law_text_of")) := T.glo (T.says.fact 59)
theorem gm_law_big {K : PySem.W.Frag} {mg : Str → Option Value} (T : Txt K mg) : mg "_law_big" = some (.ref (He.ga K "_law_big")) := T.glo (T.says.fact 60)
theorem gm_law_value {K : PySem.W.Frag} {mg : Str → Option Value} (T : Txt K mg) : mg "_law_value" = some (.ref (He.ga K "_law_value")) := T.glo (T.says.fact 61)
theorem gm_law_outcome {K : PySem.W.Frag} {mg : Str → Option Value} (T : Txt K mg) : mg "_law_outcome" = some (.ref (He.ga K "_law_outcome")) := T.glo (T.says.fact 62)
theorem gm_law_shape_kind {K : PySem.W.Frag} {mg : Str → Option Value} (T : Txt K mg) : mg "_law_shape_kind" = some (.ref (He.ga K "_law_shape_kind")) := T.glo (T.says.fact 63)
theorem gm_law_cell {K : PySem.W.Frag} {mg : Str → Option Value} (T : Txt K mg) : mg "_law_cell" = some (.ref (He.ga K "_law_cell")) := T.glo (T.says.fact 64)
theorem gm_law_any_deed {K : PySem.W.Frag} {mg : Str → Option Value} (T : Txt K mg) : mg "_law_any_deed" = some (.ref (He.ga K "_law_any_deed")) := T.glo (T.says.fact 65)
theorem gm_law_base_data {K : PySem.W.Frag} {mg : Str → Option Value} (T : Txt K mg) : mg "_law_base_data" = some (.ref (He.ga K "_law_base_data")) := T.glo (T.says.fact 66)
theorem gm_law_base_bytes {K : PySem.W.Frag} {mg : Str → Option Value} (T : Txt K mg) : mg "_law_base_bytes" = some (.ref (He.ga K "_law_base_bytes")) := T.glo (T.says.fact 67)
theorem gm_law_checksum {K : PySem.W.Frag} {mg : Str → Option Value} (T : Txt K mg) : mg "_law_checksum" = some (.ref (He.ga K "_law_checksum")) := T.glo (T.says.fact 68)
theorem gm_law_record {K : PySem.W.Frag} {mg : Str → Option Value} (T : Txt K mg) : mg "_law_record" = some (.ref (He.ga K "_law_record")) := T.glo (T.says.fact 69)
theorem gm_law_group {K : PySem.W.Frag} {mg : Str → Option Value} (T : Txt K mg) : mg "_law_group" = some (.ref (He.ga K "_law_group")) := T.glo (T.says.fact 70)
theorem gm_law_grown {K : PySem.W.Frag} {mg : Str → Option Value} (T : Txt K mg) : mg "_law_grown" = some (.ref (He.ga K "_law_grown")) := T.glo (T.says.fact 71)
theorem gm_law_some_base {K : PySem.W.Frag} {mg : Str → Option Value} (T : Txt K mg) : mg "_law_some_base" = some (.ref (He.ga K "_law_some_base")) := T.glo (T.says.fact 72)
theorem gm_law_told {K : PySem.W.Frag} {mg : Str → Option Value} (T : Txt K mg) : mg "_law_told" = some (.ref (He.ga K "_law_told")) := T.glo (T.says.fact 73)
theorem gm_law_wrong_note {K : PySem.W.Frag} {mg : Str → Option Value} (T : Txt K mg) : mg "_law_wrong_note" = some (.ref (He.ga K "_law_wrong_note")) := T.glo (T.says.fact 74)
theorem gm_law {K : PySem.W.Frag} {mg : Str → Option Value} (T : Txt K mg) : mg "law" = some (.ref (He.ga K "law")) := T.glo (T.says.fact 75)
theorem gm_Deeds {K : PySem.W.Frag} {mg : Str → Option Value} (T : Txt K mg) : mg "Deeds" = some (.ref (He.ga K "Deeds")) := T.glo (T.says.fact 76)
theorem gm_Reader {K : PySem.W.Frag} {mg : Str → Option Value} (T : Txt K mg) : mg "Reader" = some (.ref (He.ga K "Reader")) := T.glo (T.says.fact 77)
theorem gm_Base {K : PySem.W.Frag} {mg : Str → Option Value} (T : Txt K mg) : mg "Base" = some (.ref (He.ga K "Base")) := T.glo (T.says.fact 78)
theorem gm_DamagedPacket {K : PySem.W.Frag} {mg : Str → Option Value} (T : Txt K mg) : mg "DamagedPacket" = some (.ref (He.ga K "DamagedPacket")) := T.glo (T.says.fact 79)
theorem gm_BASES {K : PySem.W.Frag} {mg : Str → Option Value} (T : Txt K mg) : mg "BASES" = some (.ref (He.ga K "BASES")) := T.glo (T.says.fact 80)
theorem gm_FAULTS {K : PySem.W.Frag} {mg : Str → Option Value} (T : Txt K mg) : mg "FAULTS" = some (.ref (He.ga K "FAULTS")) := T.glo (T.says.fact 81)
theorem gi_REPLICAS {K : PySem.W.Frag} {mg : Str → Option Value} (T : Txt K mg) : ∃ t, mg "REPLICAS" = some (.int 8 t) := T.int (T.says.fact 82)
theorem gi_NUMBER_BYTES {K : PySem.W.Frag} {mg : Str → Option Value} (T : Txt K mg) : ∃ t, mg "NUMBER_BYTES" = some (.int 60 t) := T.int (T.says.fact 83)
theorem gi_DEEPEST {K : PySem.W.Frag} {mg : Str → Option Value} (T : Txt K mg) : ∃ t, mg "DEEPEST" = some (.int 40 t) := T.int (T.says.fact 84)
theorem gi_CHECKSUM_LIMIT {K : PySem.W.Frag} {mg : Str → Option Value} (T : Txt K mg) : ∃ t, mg "CHECKSUM_LIMIT" = some (.int 4294967296 t) := T.int (T.says.fact 85)
theorem gs_BEFORE_PERCENT {K : PySem.W.Frag} {mg : Str → Option Value} (T : Txt K mg) : ∃ t, mg "BEFORE_PERCENT" = some (.str " !\"#$" t) := T.str (T.says.fact 86)
theorem gs_AFTER_PERCENT {K : PySem.W.Frag} {mg : Str → Option Value} (T : Txt K mg) : ∃ t, mg "AFTER_PERCENT" = some (.str "&'()*+,-./0123456789:;<=>?@ABCDEFGHIJKLMNOPQRSTUVWXYZ[\\]^_`abcdefghijklmnopqrstuvwxyz{|}~" t) := T.str (T.says.fact 87)
theorem cl_Deeds {K : PySem.W.Frag} (c : SaysQ K) : Cls K (He.ga K "Deeds") := He.cls_ok (c.fact 88)
theorem mk_Deeds {K : PySem.W.Frag} (c : SaysQ K) : Mk K (He.ga K "Deeds") (He.fAd K ("Deeds", some "__init__")) := He.mkr_ok (c.fact 89)
theorem cl_Reader {K : PySem.W.Frag} (c : SaysQ K) : Cls K (He.ga K "Reader") := He.cls_ok (c.fact 90)
theorem mk_Reader {K : PySem.W.Frag} (c : SaysQ K) : Mk K (He.ga K "Reader") (He.fAd K ("Reader", some "__init__")) := He.mkr_ok (c.fact 91)
theorem cl_Base {K : PySem.W.Frag} (c : SaysQ K) : Cls K (He.ga K "Base") := He.cls_ok (c.fact 92)
theorem mk_Base {K : PySem.W.Frag} (c : SaysQ K) : Mk K (He.ga K "Base") (He.fAd K ("Base", some "__init__")) := He.mkr_ok (c.fact 93)
theorem na_Deeds_rows {K : PySem.W.Frag} (c : SaysQ K) : NoAttr K (He.ga K "Deeds") "rows" := He.noat_ok (c.fact 94)
theorem na_Reader_data {K : PySem.W.Frag} (c : SaysQ K) : NoAttr K (He.ga K "Reader") "data" := He.noat_ok (c.fact 95)
theorem na_Reader_at {K : PySem.W.Frag} (c : SaysQ K) : NoAttr K (He.ga K "Reader") "at" := He.noat_ok (c.fact 96)
theorem na_Base_commits {K : PySem.W.Frag} (c : SaysQ K) : NoAttr K (He.ga K "Base") "commits" := He.noat_ok (c.fact 97)
theorem na_Base_deeds {K : PySem.W.Frag} (c : SaysQ K) : NoAttr K (He.ga K "Base") "deeds" := He.noat_ok (c.fact 98)
theorem na_Base_held {K : PySem.W.Frag} (c : SaysQ K) : NoAttr K (He.ga K "Base") "held" := He.noat_ok (c.fact 99)
theorem me_Deeds_counts {K : PySem.W.Frag} (c : SaysQ K) : Meth K (He.ga K "Deeds") "counts" (He.fAd K ("Deeds", some "counts")) := He.meth_ok (c.fact 100)
theorem me_Deeds_add {K : PySem.W.Frag} (c : SaysQ K) : Meth K (He.ga K "Deeds") "add" (He.fAd K ("Deeds", some "add")) := He.meth_ok (c.fact 101)
theorem me_Deeds_copy {K : PySem.W.Frag} (c : SaysQ K) : Meth K (He.ga K "Deeds") "copy" (He.fAd K ("Deeds", some "copy")) := He.meth_ok (c.fact 102)
theorem me_Reader_read_byte {K : PySem.W.Frag} (c : SaysQ K) : Meth K (He.ga K "Reader") "read_byte" (He.fAd K ("Reader", some "read_byte")) := He.meth_ok (c.fact 103)
theorem me_Reader_read_choice {K : PySem.W.Frag} (c : SaysQ K) : Meth K (He.ga K "Reader") "read_choice" (He.fAd K ("Reader", some "read_choice")) := He.meth_ok (c.fact 104)
theorem me_Reader_end {K : PySem.W.Frag} (c : SaysQ K) : Meth K (He.ga K "Reader") "end" (He.fAd K ("Reader", some "end")) := He.meth_ok (c.fact 105)
theorem me_Reader_read_number {K : PySem.W.Frag} (c : SaysQ K) : Meth K (He.ga K "Reader") "read_number" (He.fAd K ("Reader", some "read_number")) := He.meth_ok (c.fact 106)
theorem me_Reader_read_integer {K : PySem.W.Frag} (c : SaysQ K) : Meth K (He.ga K "Reader") "read_integer" (He.fAd K ("Reader", some "read_integer")) := He.meth_ok (c.fact 107)
theorem me_Reader_read_count {K : PySem.W.Frag} (c : SaysQ K) : Meth K (He.ga K "Reader") "read_count" (He.fAd K ("Reader", some "read_count")) := He.meth_ok (c.fact 108)
theorem me_Reader_read_character {K : PySem.W.Frag} (c : SaysQ K) : Meth K (He.ga K "Reader") "read_character" (He.fAd K ("Reader", some "read_character")) := He.meth_ok (c.fact 109)
theorem me_Reader_read_string {K : PySem.W.Frag} (c : SaysQ K) : Meth K (He.ga K "Reader") "read_string" (He.fAd K ("Reader", some "read_string")) := He.meth_ok (c.fact 110)
theorem me_Reader_read_mark {K : PySem.W.Frag} (c : SaysQ K) : Meth K (He.ga K "Reader") "read_mark" (He.fAd K ("Reader", some "read_mark")) := He.meth_ok (c.fact 111)
theorem me_Reader_read_deed {K : PySem.W.Frag} (c : SaysQ K) : Meth K (He.ga K "Reader") "read_deed" (He.fAd K ("Reader", some "read_deed")) := He.meth_ok (c.fact 112)
theorem me_Reader_read_deeds {K : PySem.W.Frag} (c : SaysQ K) : Meth K (He.ga K "Reader") "read_deeds" (He.fAd K ("Reader", some "read_deeds")) := He.meth_ok (c.fact 113)
theorem me_Reader_read_triple {K : PySem.W.Frag} (c : SaysQ K) : Meth K (He.ga K "Reader") "read_triple" (He.fAd K ("Reader", some "read_triple")) := He.meth_ok (c.fact 114)
theorem me_Reader_read_triples {K : PySem.W.Frag} (c : SaysQ K) : Meth K (He.ga K "Reader") "read_triples" (He.fAd K ("Reader", some "read_triples")) := He.meth_ok (c.fact 115)
theorem me_Reader_read_value {K : PySem.W.Frag} (c : SaysQ K) : Meth K (He.ga K "Reader") "read_value" (He.fAd K ("Reader", some "read_value")) := He.meth_ok (c.fact 116)
theorem me_Reader_read_value_at {K : PySem.W.Frag} (c : SaysQ K) : Meth K (He.ga K "Reader") "read_value_at" (He.fAd K ("Reader", some "read_value_at")) := He.meth_ok (c.fact 117)
theorem me_Reader_read_parts {K : PySem.W.Frag} (c : SaysQ K) : Meth K (He.ga K "Reader") "read_parts" (He.fAd K ("Reader", some "read_parts")) := He.meth_ok (c.fact 118)
theorem me_Reader_read_outcome {K : PySem.W.Frag} (c : SaysQ K) : Meth K (He.ga K "Reader") "read_outcome" (He.fAd K ("Reader", some "read_outcome")) := He.meth_ok (c.fact 119)
theorem me_Reader_read_kind {K : PySem.W.Frag} (c : SaysQ K) : Meth K (He.ga K "Reader") "read_kind" (He.fAd K ("Reader", some "read_kind")) := He.meth_ok (c.fact 120)
theorem me_Reader_read_maker {K : PySem.W.Frag} (c : SaysQ K) : Meth K (He.ga K "Reader") "read_maker" (He.fAd K ("Reader", some "read_maker")) := He.meth_ok (c.fact 121)
theorem me_Reader_read_makers {K : PySem.W.Frag} (c : SaysQ K) : Meth K (He.ga K "Reader") "read_makers" (He.fAd K ("Reader", some "read_makers")) := He.meth_ok (c.fact 122)
theorem me_Reader_read_shape {K : PySem.W.Frag} (c : SaysQ K) : Meth K (He.ga K "Reader") "read_shape" (He.fAd K ("Reader", some "read_shape")) := He.meth_ok (c.fact 123)
theorem me_Reader_read_cell {K : PySem.W.Frag} (c : SaysQ K) : Meth K (He.ga K "Reader") "read_cell" (He.fAd K ("Reader", some "read_cell")) := He.meth_ok (c.fact 124)
theorem me_Reader_read_cells {K : PySem.W.Frag} (c : SaysQ K) : Meth K (He.ga K "Reader") "read_cells" (He.fAd K ("Reader", some "read_cells")) := He.meth_ok (c.fact 125)
theorem me_Reader_read_group {K : PySem.W.Frag} (c : SaysQ K) : Meth K (He.ga K "Reader") "read_group" (He.fAd K ("Reader", some "read_group")) := He.meth_ok (c.fact 126)
theorem me_Base_copy {K : PySem.W.Frag} (c : SaysQ K) : Meth K (He.ga K "Base") "copy" (He.fAd K ("Base", some "copy")) := He.meth_ok (c.fact 127)
theorem me_Base_cells {K : PySem.W.Frag} (c : SaysQ K) : Meth K (He.ga K "Base") "cells" (He.fAd K ("Base", some "cells")) := He.meth_ok (c.fact 128)
theorem me_Base_data {K : PySem.W.Frag} (c : SaysQ K) : Meth K (He.ga K "Base") "data" (He.fAd K ("Base", some "data")) := He.meth_ok (c.fact 129)
theorem me_Base_grown {K : PySem.W.Frag} (c : SaysQ K) : Meth K (He.ga K "Base") "grown" (He.fAd K ("Base", some "grown")) := He.meth_ok (c.fact 130)
theorem xc_DamagedPacket {K : PySem.W.Frag} (c : SaysQ K) : PySem.W.excIn K (He.ga K "DamagedPacket") He.veBase "ValueError.__new__" = true ∧ PySem.W.keepIn K (.ref (He.ga K "DamagedPacket")) = true ∧ PySem.W.subIn K (.ref (He.ga K "DamagedPacket")) (.type "BaseException") = some true ∧ PySem.W.typeIn K (.ref (He.ga K "DamagedPacket")) = some (.type "type") := He.exc_ok (c.fact 131)
theorem xm_DamagedPacket {K : PySem.W.Frag} (c : SaysQ K) : PySem.W.exmOne K (.ref (He.ga K "DamagedPacket")) (.ref (He.ga K "DamagedPacket")) = some true := He.exm_ok (c.fact 132)
end Q

/-! ## H1 -/
set_option Elab.async false
set_option linter.all false
set_option maxRecDepth 100000
set_option maxHeartbeats 0
namespace Q
open PySem PySem.Spec PyProof.Rows L2
def asX : List Addr := [3, 410, 409, 455, 454, 207, 206, 234, 233, 221, 220, 22, 23, 21, 20, 30, 29, 37, 36, 44, 43, 49, 48, 56, 55, 61, 60, 68, 67, 73, 72, 80, 79, 87, 86, 92, 91, 97, 96, 104, 103, 109, 108, 116, 115, 123, 122, 135, 134, 140, 139, 147, 146, 152, 151, 159, 158, 166, 165, 173, 172, 180, 179, 185, 184, 190, 189, 197, 196, 204, 203, 250, 249, 257, 256, 264, 263, 271, 270, 278, 277, 285, 284, 292, 291, 299, 298, 304, 303, 311, 310, 316, 315, 321, 320, 328, 327, 333, 332, 340, 339, 347, 346, 354, 353, 359, 358, 366, 365, 373, 372, 378, 377, 383, 382, 388, 387, 395, 394, 400, 399, 407, 406, 428, 427, 435, 434, 440, 439, 445, 444, 452, 451, 466, 465, 473, 472, 480, 479, 487, 486, 492, 491, 499, 498, 506, 505, 513, 512, 518, 517, 525, 524, 530, 529, 537, 536, 544, 543, 551, 550, 558, 557, 565, 564, 572, 571, 579, 578, 586, 585, 593, 592, 600, 599, 605, 604, 610, 609, 615, 614, 622, 621, 629, 628, 634, 633, 639, 638, 646, 645, 651, 650, 658, 657, 663, 662, 670, 669, 677, 676, 682, 681, 687, 686, 692, 691, 697, 696, 704, 703, 711, 710, 716, 715, 721, 720, 726, 725, 733, 732, 740, 739, 745, 744]
def forceK {β : Type} : PySem.W.Frag → (PySem.W.Frag → β) → β
  | [], k => k []
  | (a, o) :: r, k => forceK r fun r' => k ((a, o) :: r')
theorem forceK_eq {β : Type} : ∀ (K : PySem.W.Frag) (k : PySem.W.Frag → β), forceK K k = k K
  | [], _ => rfl
  | (_, _) :: r, k => by
    unfold forceK
    rw [forceK_eq r]
def obsQG (g : Addr → Option Obj) : He.AlD := forceK (He.frG g asX) obsQ
def hookQ : PySem.W.Hook where
  α := He.AlD
  obs := fun s => obsQG s.heap.get?
  val := fun _ => valQ
  says := fun _ h => ∃ K : PySem.W.Frag, K.In h ∧ SaysQ K
  of := fun _ s e => ⟨He.frG s.heap.get? asX, He.frG_in, (forceK_eq (He.frG s.heap.get? asX) obsQ).symm.trans e⟩
  keeps := fun _ _ _ ⟨K, hK, c⟩ k => ⟨K, PySem.W.Frag.In.keeps hK k, c⟩
abbrev R : PySem.W.OpenRow := PySem.W.OpenLaw.row PySem.Challenge.rw_quillrun_k45_whole_logs_at_any_cut
def ob (s : PySem.W.SharedT) : He.AlD := obsQG (HandSHeadRun.getT s)
theorem ob_eq (s : PySem.W.SharedT) : ob s = hookQ.obs s.abs := by
  have e : HandSHeadRun.getT s = s.abs.heap.get? := funext (HandSHeadRun.getT_eq s)
  show obsQG (HandSHeadRun.getT s) = obsQG s.abs.heap.get?
  rw [e]
def lo0 : List PySem.Str := ["_wall", "BASES", "FAULTS", "write_number", "write_integer", "write_list", "write_string", "write_mark", "write_deed", "write_triples", "write_value", "write_outcome", "write_kind", "write_makers", "write_shape", "write_cell", "write_cells", "write_group", "REPLICAS", "inserted"]
def lo1 : List PySem.Str := ["Deeds", "QuillrunError", "DamagedPacket", "BEFORE_PERCENT", "AFTER_PERCENT", "NUMBER_BYTES", "DEEPEST", "Reader", "CHECKSUM_LIMIT", "Base", "checksum", "write_record", "_read_size", "read_records", "_write_base", "log_start", "write_note", "_read_turn", "_read_base", "_after_note"]
def lo2 : List PySem.Str := ["read_log", "_law_mix", "_law_draws", "_law_at", "_law_is_integer", "_law_same", "_law_next", "_law_number", "_law_listed", "_law_string", "_law_mark_bytes", "_law_deed_bytes", "_law_triples_bytes", "_law_value_bytes", "_law_outcome_bytes", "_law_kind_bytes", "_law_cell_bytes", "_law_group_bytes", "_law_word", "_law_text_of"]
def lo3 : List PySem.Str := ["_law_big", "_law_value", "_law_outcome", "_law_shape_kind", "_law_cell", "_law_any_deed", "_law_base_data", "_law_base_bytes", "_law_checksum", "_law_record", "_law_group", "_law_grown", "_law_some_base", "_law_told", "_law_wrong_note"]
def names : List PySem.Str := lo0 ++ lo1 ++ lo2 ++ lo3
theorem run (w : World) : HandSHeadRun.RunEq R (PySem.W.view R.prog [81]) hookQ ob 6000 names w := by
  intro os
  kernel_rfl
end Q

/-! ## H2 -/
set_option Elab.async false
set_option linter.all false
set_option maxRecDepth 100000
set_option maxHeartbeats 0
namespace Q
open PySem PySem.Spec PyProof.Rows L2
/-- what the law's walk has to give -/
def LawF : Prop := ∀ (w : World) (mg : Str → Option Value) (fa : Addr) (h : Heap) (_ : hookQ.says w h) (_ : h.Ns mainGlobals mg) (_ : mg "law" = some (.ref fa)),
    ∃ (K : PySem.W.Frag) (fd : FuncData) (sp : L2.Sp), K.In h ∧ (∀ (s : Shared) (u : Value), BindsTo s fd ⟨[u], []⟩ [("_law_script", u)]) ∧
      (∀ (H : L2.Hp) (a : Addr) (ns : List Int), ns.length ≤ 63 → L2.Only H → L2.SqL K H a (ns.map L2.V.int) → sp [.ref a] H (fun v _ => v = .bl true) fun _ _ _ => False) ∧
      ∀ base : Heap, K.In base → base.Ns mainGlobals mg → L2.FnOk Q.R.prog w K mg base L2.CX0 124 fa fd ["_law_script"] sp
end Q
section
open PySem PySem.W PySem.Calls PyProof.Rows
/-- the law's row, from the law's walk -/
theorem Q.whole (HF : Q.LawF) : PySem.Challenge.rw_quillrun_k45_whole_logs_at_any_cut.Holds := by
  w_on; o_law
  refine HandSHeadRun.head_any (r := OpenLaw.row PySem.Challenge.rw_quillrun_k45_whole_logs_at_any_cut) (q := view (OpenLaw.row PySem.Challenge.rw_quillrun_k45_whole_logs_at_any_cut).prog [81]) (H := Q.hookQ) (ob := Q.ob) (M := 6000) (loose := Q.names) (d := HandSHeadRun.topDef (OpenLaw.row PySem.Challenge.rw_quillrun_k45_whole_logs_at_any_cut).prog 81) (kwd := []) Q.ob_eq
    (by kernel_rfl) (fun s => by kernel_rfl) Q.run (by kernel_rfl) (by kernel_rfl) (by kernel_rfl) (by rfl) (by first | assumption | decide +kernel) (by decide +kernel) ⟨rfl, rfl, rfl, rfl, rfl, by decide +kernel⟩ ?hw ?hc
  case hw => w_witness2
  case hc =>
    refine L2.walk_ofE (l := PySem.Challenge.rw_quillrun_k45_whole_logs_at_any_cut) (n := 63) (k := 124) (x := "_law_script") (CX := L2.CX0) rfl (by decide) (by kernel_rfl) ⟨rfl, by decide, by decide⟩ ?F (fun _ _ _ _ z => z)
    intro w mg fa h Y G hmg0
    have hmg : mg ("law" : PySem.Str) = some (.ref fa) := by
      have e : (HandSHeadRun.topDef (OpenLaw.row PySem.Challenge.rw_quillrun_k45_whole_logs_at_any_cut).prog 81).name = ("law" : PySem.Str) := by kernel_rfl
      rw [← e]
      exact hmg0
    exact HF w mg fa h Y G hmg
end

/-! ## W1 -/
set_option Elab.async false
set_option linter.all false
set_option maxRecDepth 100000
set_option maxHeartbeats 4000000
namespace Q
open PySem PySem.Spec PyProof.Rows L2
local macro_rules | `(tactic| walk_at "rd") => `(tactic| repeat (first
  | ((with_reducible apply r_var); focus exact rfl)
  | with_reducible refine r_c ?_
  | with_reducible refine r_chain ?_
  | ((with_reducible apply r_aug); focus exact rfl)
  | with_reducible refine r_ip ?_
  | with_reducible refine r_op ?_
  | with_reducible refine r_I0 ?_
  | with_reducible refine r_cons ?_
  | with_reducible refine r_nil ?_
  | with_reducible refine r_seq ?_
  | with_reducible refine r_asg ?_
  | with_reducible refine r_gn ?_
  | with_reducible refine r_gcons ?_
  | with_reducible refine r_gnil ?_
  | with_reducible refine r_lc ?_
  | with_reducible refine r_m1 ?_
  | with_reducible refine r_sfld ?_
  | with_reducible refine r_sfa ?_
  | with_reducible refine r_rAdd ?_
  | with_reducible refine r_ret ?_
  | with_reducible refine r_ifS ?_
  | with_reducible refine r_test ?_
  | with_reducible refine r_bl ?_
  | with_reducible refine r_B ?_
  | with_reducible refine r_drop ?_
  | with_reducible refine r_bm ?_
  | with_reducible refine r_CB ?_
  | with_reducible refine r_call ?_
  | with_reducible refine r_meth ?_
  | with_reducible refine r_make ?_
  | with_reducible refine r_tup ?_
  | with_reducible refine r_lst ?_
  | ((with_reducible refine r_I ?_ ?_); focus (first | decide | exact ⟨by decide, by decide⟩ | exact .inl ⟨by decide, by decide⟩ | exact .inr ⟨by decide, by decide⟩ | omega))
  | with_reducible refine r_U ?_
  | with_reducible refine r_un ?_
  | with_reducible refine r_and ?_
  | with_reducible refine r_or ?_
  | with_reducible refine r_not ?_
  | with_reducible refine r_andV ?_
  | with_reducible refine r_orV ?_
  | with_reducible refine r_notV ?_
  | with_reducible refine r_if ?_
  | with_reducible refine r_sl ?_
  | with_reducible refine r_part ?_
  | with_reducible refine r_parti ?_
  | with_reducible refine r_nopart ?_
  | with_reducible refine r_il ?_
  | with_reducible refine r_it ?_
  | with_reducible refine r_ir ?_
  | with_reducible refine r_is ?_
  | with_reducible refine r_next ?_
  | with_reducible refine r_retN ?_
  | ((with_reducible refine r_eq ?_ ?_); focus exact rfl)
  | ((with_reducible refine r_ne ?_ ?_); focus exact rfl)))
local macro_rules | `(tactic| walk_at "rx") => `(tactic| repeat (first
  | ((with_reducible apply r_var); focus exact rfl)
  | with_reducible refine r_c ?_
  | with_reducible refine r_chain ?_
  | ((with_reducible apply r_aug); focus exact rfl)
  | with_reducible refine r_ip ?_
  | with_reducible refine r_op ?_
  | with_reducible refine r_I0 ?_
  | with_reducible refine r_cons ?_
  | with_reducible refine r_nil ?_
  | with_reducible refine r_seq ?_
  | with_reducible refine r_asg ?_
  | with_reducible refine r_gn ?_
  | with_reducible refine r_gcons ?_
  | with_reducible refine r_gnil ?_
  | with_reducible refine r_m1 ?_
  | with_reducible refine r_sfld ?_
  | with_reducible refine r_sfa ?_
  | with_reducible refine r_rAdd ?_
  | with_reducible refine r_ret ?_
  | with_reducible refine r_ifS ?_
  | with_reducible refine r_test ?_
  | with_reducible refine r_bl ?_
  | with_reducible refine r_B ?_
  | with_reducible refine r_drop ?_
  | with_reducible refine r_bm ?_
  | with_reducible refine r_CB ?_
  | with_reducible refine r_call ?_
  | with_reducible refine r_make ?_
  | with_reducible refine r_tup ?_
  | with_reducible refine r_lst ?_
  | ((with_reducible refine r_I ?_ ?_); focus (first | decide | exact ⟨by decide, by decide⟩ | exact .inl ⟨by decide, by decide⟩ | exact .inr ⟨by decide, by decide⟩ | omega))
  | with_reducible refine r_U ?_
  | with_reducible refine r_un ?_
  | with_reducible refine r_and ?_
  | with_reducible refine r_or ?_
  | with_reducible refine r_not ?_
  | with_reducible refine r_andV ?_
  | with_reducible refine r_orV ?_
  | with_reducible refine r_notV ?_
  | with_reducible refine r_if ?_
  | with_reducible refine r_sl ?_
  | with_reducible refine r_part ?_
  | with_reducible refine r_parti ?_
  | with_reducible refine r_nopart ?_
  | with_reducible refine r_il ?_
  | with_reducible refine r_it ?_
  | with_reducible refine r_ir ?_
  | with_reducible refine r_is ?_
  | with_reducible refine r_next ?_
  | with_reducible refine r_retN ?_
  | ((with_reducible refine r_eq ?_ ?_); focus exact rfl)
  | ((with_reducible refine r_ne ?_ ?_); focus exact rfl)))
section
variable {P : Program} {w : World} {K : PySem.W.Frag} {mg : Str → Option Value} {base : Heap}
/-- a new list of bytes comes back, all else as it was -/
def RetB (H : Hp) (Q : VK) (bs : List Nat) : Prop := ∀ H' p, Same H H' → H p = none → H' p = some (bL bs) → Q (.ref p) H'
def spW {α : Type} (w : α → List Nat) (d : α → D) : Sp := fun vs H Q _ => ∃ v x, vs = [v] ∧ Rp H (d x) v ∧ (w x).length ≤ cap ∧ RetB H Q (w x)
theorem bL_snoc {H : Hp} {a : Addr} {bs : List Nat} {n : Nat} {i : Int} (e : i = n) : upd H a (.lst (bs.map bV ++ [.int i])) = upd H a (bL (bs ++ [n])) := by
  rw [e]
  unfold bL
  rw [List.map_append]
  rfl
theorem bL_app {H : Hp} {a : Addr} {bs cs : List Nat} : upd H a (.lst (bs.map bV ++ cs.map bV)) = upd H a (bL (bs ++ cs)) := by
  unfold bL
  rw [List.map_append]
theorem RetB.to {H H' : Hp} {Q : VK} {bs cs : List Nat} {p : Addr} (q : RetB H Q bs) (s : Same H H') (n : H p = none) (e : H' p = some (bL cs)) (h : cs = bs) : Q (.ref p) H' := by
  subst h
  exact q H' p s n e
theorem RetB.upd {H H' : Hp} {Q : VK} {bs cs : List Nat} {p : Addr} (q : RetB H Q bs) (s : Same H H') (n : H' p = none) (h : cs = bs) : Q (.ref p) (upd H' p (bL cs)) :=
  q.to (s.trans (same_new n)) (s.free n) upd_same h
/-- the sum of two lists of bytes; x.append(n), x.extend(y) -/
theorem r_cat {a b : Addr} {xs ys : List Nat} {H : Hp} {Q : VK} (ha : H a = some (bL xs)) (hb : H b = some (bL ys)) (hl : xs.length + ys.length ≤ cap + 1000) (q : ∀ p, H p = none → Q (.ref p) (upd H p (bL (xs ++ ys)))) : rCat (.ref a) (.ref b) H Q :=
  ⟨a, b, _, _, rfl, rfl, ha, hb, by rw [List.length_map, List.length_map]; exact cap_2 hl, fun p hp => by rw [bL_app]; exact q p hp⟩
theorem r_append {a : Addr} {xs : List Nat} {H : Hp} {Q : VK} {n : Nat} {i : Int} (ha : H a = some (bL xs)) (hl : xs.length ≤ cap) (e : i = n) (q : Q .non (L2.upd H a (bL (xs ++ [n])))) : rAppend (.ref a) [.int i] H Q :=
  ⟨a, _, _, rfl, rfl, ha, by rw [List.length_map]; exact cap_lt hl, by rw [bL_snoc e]; exact q⟩
theorem r_extend {a b : Addr} {xs ys : List Nat} {H : Hp} {Q : VK} (ha : H a = some (bL xs)) (hb : H b = some (bL ys)) (hl : xs.length + ys.length ≤ cap + 1000) (q : Q .non (L2.upd H a (bL (xs ++ ys)))) : rExtend (.ref a) [.ref b] H Q :=
  ⟨a, b, _, _, rfl, rfl, ha, hb, by rw [List.length_map, List.length_map]; exact cap_2 hl, by rw [bL_app]; exact q⟩
theorem bL1 {H : Hp} {p : Addr} {n : Nat} {i : Int} (e : i = n) : upd H p (.lst [.int i]) p = some (bL [n]) := by
  rw [e]
  exact upd_same
theorem wNum_pos (n : Nat) : 0 < (wNum n).length := by
  by_cases h : n < 128
  · rw [wNum_lt h]
    exact Nat.zero_lt_one
  · rw [wNum_ge h] <;> simp
theorem ok_write_number  (T : Txt K mg) : Fc P w K mg base CX0 (1) "write_number" ["number"] (spW wNum dNum) := by
  refine ⟨?_, gm_write_number T, (fd_write_number T.says).kp, (fd_write_number T.says).bindsN fun _ _ _ _ _ _ us hl => match us, hl with | [_], _ => rfl⟩
  refine (fd_write_number T.says).ok sc_write_number (fun vs H Q E h => by first | (obtain ⟨_, rfl, _⟩ := h; rfl) | (obtain ⟨_, _, rfl, _⟩ := h; rfl) | (obtain ⟨_, _, _, rfl, _⟩ := h; rfl) | (obtain ⟨_, _, _, _, rfl, _⟩ := h; rfl) | (obtain ⟨_, _, _, _, _, rfl, _⟩ := h; rfl) | (obtain ⟨_, _, _, _, _, _, rfl, _⟩ := h; rfl) | (obtain ⟨_, _, _, _, _, _, _, rfl, _⟩ := h; rfl) | (obtain ⟨_, _, _, _, _, _, _, _, rfl, _⟩ := h; rfl) | (obtain ⟨_, _, _, _, _, _, _, _, _, rfl, _⟩ := h; rfl)) (fun cdv A outer s H vs Q E hr h => ?_)
  obtain ⟨v, n, rfl, hv, hl, q⟩ := h
  obtain rfl : v = .int n := hv
  refine ⟨_, PSs.nox (pss_cons (ps_set (i := 1) sc_write_number.nd rfl (Or.inl rfl) (pe_lst pa_nil))
      (pss_cons (ps_while PassesOwn.never (pt_cmpR op_ge (pv 0) pe_int (nomark _)) (pss_cons (ps_expr (pe_bm PySem.F.plainAttrs_list PySem.F.slot_list_append PySem.F.type_list_append mt_append (pv 1) (pa_cons (pe_op op_add (pe_op op_mod (pv 0) pe_int) pe_int) pa_nil)))
      (pss_one (ps_set (i := 0) sc_write_number.nd rfl (Or.inl rfl) (pe_op op_fdiv (pv 0) pe_int)))))
      (pss_one (ps_ret (pe_op op_cat (pv 1) (pe_lst (pa_cons (pv 0) pa_nil))))))), ?_⟩
  walk_at "rd"
  refine ⟨Nat.zero_le _, fun a ha => ?_⟩
  walk_at "rd"
  refine ⟨fun m σ H' => ∃ pre, σ = [some (.int (m : Nat)), some (.ref a)] ∧ pre ++ wNum m = wNum n ∧ Same H H' ∧ H' a = some (bL pre), ⟨n, [], rfl, rfl, same_new ha, upd_same⟩, ?_⟩
  rintro m σ H' ⟨pre, rfl, e, s, ea⟩
  have hlen : pre.length ≤ cap := by
    rw [← e, List.length_append] at hl
    omega
  walk_at "rd"
  refine iteD (fun c => ?_) (fun c => ?_)
  · have hm : ¬ m < 128 := by omega
    refine ⟨fun σ' H' => ∃ pre, σ' = [some (.int (m / 128 : Nat)), some (.ref a)] ∧ pre ++ wNum (m / 128) = wNum n ∧ Same H H' ∧ H' a = some (bL pre), fun σ' H' h => ⟨m / 128, by omega, h⟩, ?_⟩
    walk_at "rd"
    refine ⟨ty_l ea, ?_⟩
    walk_at "rd"
    refine r_append (n := m % 128 + 128) ea hlen (by omega) ?_
    walk_at "rd"
    refine ⟨pre ++ [m % 128 + 128], rfl, ?_, same_mut s ha, upd_same⟩
    rw [← e, wNum_ge hm, List.append_assoc]
    rfl
  · walk_at "rd"
    refine ⟨le_line rfl, fun p hp => ?_⟩
    have nap : a ≠ p := ne_of_none ea hp
    refine r_cat (xs := pre) (ys := [m]) (by rw [upd_ne nap]; exact ea) upd_same (by show pre.length + 1 ≤ _; omega) fun r hr => ?_
    refine q.upd (s.trans (same_new hp)) hr ?_
    rw [← e, wNum_lt (show m < 128 by omega)]
def wInt (i : Int) : List Nat := (if i < 0 then 1 else 0) :: wNum i.natAbs
theorem ok_write_integer  (T : Txt K mg) : Fc P w K mg base CX0 (2) "write_integer" ["number"] (spW wInt D.int) := by
  refine ⟨?_, gm_write_integer T, (fd_write_integer T.says).kp, (fd_write_integer T.says).bindsN fun _ _ _ _ _ _ us hl => match us, hl with | [_], _ => rfl⟩
  refine (fd_write_integer T.says).ok sc_write_integer (fun vs H Q E h => by first | (obtain ⟨_, rfl, _⟩ := h; rfl) | (obtain ⟨_, _, rfl, _⟩ := h; rfl) | (obtain ⟨_, _, _, rfl, _⟩ := h; rfl) | (obtain ⟨_, _, _, _, rfl, _⟩ := h; rfl) | (obtain ⟨_, _, _, _, _, rfl, _⟩ := h; rfl) | (obtain ⟨_, _, _, _, _, _, rfl, _⟩ := h; rfl) | (obtain ⟨_, _, _, _, _, _, _, rfl, _⟩ := h; rfl) | (obtain ⟨_, _, _, _, _, _, _, _, rfl, _⟩ := h; rfl) | (obtain ⟨_, _, _, _, _, _, _, _, _, rfl, _⟩ := h; rfl)) (fun cdv A outer s H vs Q E hr h => ?_)
  obtain ⟨v, i, rfl, hv, hl, q⟩ := h
  obtain rfl : v = .int i := hv
  have hl2 : (wNum i.natAbs).length + 1 ≤ cap := hl
  refine ⟨_, PSs.nox (pss_one (ps_ret (pe_op op_cat (pe_lst (pa_cons (pe_callTy call_int1 (by rfl) (n_int T) (by decide +kernel) (pa_cons (pe_cmpR op_lt (pv 0) pe_int (nomark _)) pa_nil)) pa_nil)) (pe_f (ok_write_number T) (hr.mono (by omega)) (by rfl) (pa_cons (pe_callB call_abs (by rfl) (n_abs T) (by decide +kernel) (pa_cons (pv 0) pa_nil)) pa_nil))))), ?_⟩
  walk_at "rd"
  refine .inr ⟨_, rfl, ?_⟩
  walk_at "rd"
  refine ⟨le_line rfl, fun p hp => ?_⟩
  walk_at "rd"
  refine ⟨i, rfl, ?_⟩
  walk_at "rd"
  refine ⟨_, i.natAbs, rfl, ?_, by omega, fun H1 r s1 n1 e1 => ?_⟩
  · show V.int _ = V.int _
    congr 1
    by_cases c : i < 0
    · rw [if_pos c]; omega
    · rw [if_neg c]; omega
  · refine r_cat (xs := [if i < 0 then 1 else 0]) (ys := wNum i.natAbs) ?_ e1 (by show 1 + _ ≤ _; omega) fun z hz => ?_
    · refine s1 _ _ ?_
      rw [upd_same]
      by_cases c : i < 0
      · rw [if_pos c, if_pos (by simpa using c)]; rfl
      · rw [if_neg c, if_neg (by simpa using c)]; rfl
    · exact q.upd ((same_new hp).trans s1) hz rfl
/-- lists of bytes, by their addresses -/
structure BsL (H : Hp) (ps : List Addr) (bss : List (List Nat)) : Prop where
  len : ps.length = bss.length
  at_ : ∀ (i : Nat) (p : Addr) (bs : List Nat), ps[i]? = some p → bss[i]? = some bs → H p = some (bL bs)
theorem flatten_take {bss : List (List Nat)} {i : Nat} {bs : List Nat} (h : bss[i]? = some bs) : (bss.take (i + 1)).flatten = (bss.take i).flatten ++ bs := by
  rw [List.take_add_one, h, List.flatten_append]
  simp
theorem flatten_take_le (bss : List (List Nat)) (i : Nat) : ((bss.take i).flatten).length ≤ bss.flatten.length := by
  have e : bss.flatten = (bss.take i).flatten ++ (bss.drop i).flatten := by rw [← List.flatten_append, List.take_append_drop]
  rw [e, List.length_append]
  omega
theorem BsL.same {H H' : Hp} {ps : List Addr} {bss : List (List Nat)} (h : BsL H ps bss) (s : Same H H') : BsL H' ps bss := ⟨h.len, fun i p bs a b => s _ _ (h.at_ i p bs a b)⟩
def wBss (bss : List (List Nat)) : List Nat := wNum bss.length ++ bss.flatten
def spWL : Sp := fun vs H Q _ => ∃ l ps bss, vs = [.ref l] ∧ H l = some (.lst (ps.map V.ref)) ∧ BsL H ps bss ∧ (wBss bss).length ≤ cap ∧ RetB H Q (wBss bss)
theorem ok_write_list  (T : Txt K mg) : Fc P w K mg base CX0 (2) "write_list" ["items"] (spWL) := by
  refine ⟨?_, gm_write_list T, (fd_write_list T.says).kp, (fd_write_list T.says).bindsN fun _ _ _ _ _ _ us hl => match us, hl with | [_], _ => rfl⟩
  refine (fd_write_list T.says).ok sc_write_list (fun vs H Q E h => by first | (obtain ⟨_, rfl, _⟩ := h; rfl) | (obtain ⟨_, _, rfl, _⟩ := h; rfl) | (obtain ⟨_, _, _, rfl, _⟩ := h; rfl) | (obtain ⟨_, _, _, _, rfl, _⟩ := h; rfl) | (obtain ⟨_, _, _, _, _, rfl, _⟩ := h; rfl) | (obtain ⟨_, _, _, _, _, _, rfl, _⟩ := h; rfl) | (obtain ⟨_, _, _, _, _, _, _, rfl, _⟩ := h; rfl) | (obtain ⟨_, _, _, _, _, _, _, _, rfl, _⟩ := h; rfl) | (obtain ⟨_, _, _, _, _, _, _, _, _, rfl, _⟩ := h; rfl)) (fun cdv A outer s H vs Q E hr h => ?_)
  obtain ⟨l, ps, bss, rfl, hlst, hb, hl, q⟩ := h
  have hl2 : (wNum bss.length).length + bss.flatten.length ≤ cap := by
    rw [← List.length_append]
    exact hl
  refine ⟨_, PSs.nox (pss_cons (ps_set (i := 1) sc_write_list.nd rfl (Or.inl rfl) (pe_f (ok_write_number T) (hr.mono (by omega)) (by rfl) (pa_cons (pe_callB call_len_seq (by rfl) (n_len T) PySem.boot_len (pa_cons (pv 0) pa_nil)) pa_nil)))
      (pss_cons (ps_for PassesOwn.never rfl (pi_list (pv 0)) (pg_name (i := 2) sc_write_list.nd rfl (Or.inl rfl)) (pss_one (ps_expr (pe_bm PySem.F.plainAttrs_list PySem.F.slot_list_extend PySem.F.type_list_extend mt_extend (pv 1) (pa_cons (pv 2) pa_nil)))))
      (pss_one (ps_ret (pv 1))))), ?_⟩
  walk_at "rd"
  refine ⟨l, _, rfl, .inl (SqL.of hlst), ?_⟩
  walk_at "rd"
  refine ⟨_, bss.length, rfl, ?_, by omega, fun H1 a s1 n1 e1 => ?_⟩
  · show V.int _ = V.int _
    rw [List.length_map, hb.len]
  · walk_at "rd"
    refine ⟨.ref l, rfl, l, rfl, ⟨_, SqL.of (s1 _ _ hlst)⟩, for_list (K := K) (a := l) (xs := ps.map V.ref) (fun i σ H' => ∃ v, σ = [some (.ref l), some (.ref a), v] ∧ Same H H' ∧ H' a = some (bL (wNum bss.length ++ (bss.take i).flatten)))
      ⟨none, rfl, s1, by rw [e1]; simp⟩ (fun i σ H' _ ⟨_, _, s, _⟩ => SqL.of (s _ _ hlst)) ?_ ?_⟩
    · rintro i x σ H' hi ⟨v, rfl, s, ea⟩
      obtain ⟨p, hp, rfl⟩ := getElem_map_some hi
      have hlt : i < bss.length := by
        rw [← hb.len]
        exact (List.getElem?_eq_some_iff.mp hp).1
      have hbs : bss[i]? = some bss[i] := List.getElem?_eq_getElem hlt
      have ep := s _ _ (hb.at_ i p _ hp hbs)
      have hle := flatten_take_le bss (i + 1)
      rw [flatten_take hbs, List.length_append] at hle
      walk_at "rd"
      refine ⟨ty_l ea, ?_⟩
      walk_at "rd"
      refine r_extend ea ep (by rw [List.length_append]; omega) ?_
      walk_at "rd"
      refine ⟨_, rfl, same_mut s n1, ?_⟩
      rw [upd_same, flatten_take hbs, List.append_assoc]
    · rintro σ H' ⟨v, rfl, s, ea⟩
      walk_at "rd"
      refine q.to s n1 ea ?_
      rw [List.length_map, hb.len, List.take_length]
      rfl
end
end Q

/-! ## W2 -/
set_option Elab.async false
set_option linter.all false
set_option maxRecDepth 100000
set_option maxHeartbeats 4000000
namespace Q
open PySem PySem.Spec PyProof.Rows L2
local macro_rules | `(tactic| walk_at "rd") => `(tactic| repeat (first
  | ((with_reducible apply r_var); focus exact rfl)
  | with_reducible refine r_c ?_
  | with_reducible refine r_chain ?_
  | ((with_reducible apply r_aug); focus exact rfl)
  | with_reducible refine r_ip ?_
  | with_reducible refine r_op ?_
  | with_reducible refine r_I0 ?_
  | with_reducible refine r_cons ?_
  | with_reducible refine r_nil ?_
  | with_reducible refine r_seq ?_
  | with_reducible refine r_asg ?_
  | with_reducible refine r_gn ?_
  | with_reducible refine r_gcons ?_
  | with_reducible refine r_gnil ?_
  | with_reducible refine r_lc ?_
  | with_reducible refine r_m1 ?_
  | with_reducible refine r_sfld ?_
  | with_reducible refine r_sfa ?_
  | with_reducible refine r_rAdd ?_
  | with_reducible refine r_ret ?_
  | with_reducible refine r_ifS ?_
  | with_reducible refine r_test ?_
  | with_reducible refine r_bl ?_
  | with_reducible refine r_B ?_
  | with_reducible refine r_drop ?_
  | with_reducible refine r_bm ?_
  | with_reducible refine r_CB ?_
  | with_reducible refine r_call ?_
  | with_reducible refine r_meth ?_
  | with_reducible refine r_make ?_
  | with_reducible refine r_tup ?_
  | with_reducible refine r_lst ?_
  | ((with_reducible refine r_I ?_ ?_); focus (first | decide | exact ⟨by decide, by decide⟩ | exact .inl ⟨by decide, by decide⟩ | exact .inr ⟨by decide, by decide⟩ | omega))
  | with_reducible refine r_U ?_
  | with_reducible refine r_un ?_
  | with_reducible refine r_and ?_
  | with_reducible refine r_or ?_
  | with_reducible refine r_not ?_
  | with_reducible refine r_andV ?_
  | with_reducible refine r_orV ?_
  | with_reducible refine r_notV ?_
  | with_reducible refine r_if ?_
  | with_reducible refine r_sl ?_
  | with_reducible refine r_part ?_
  | with_reducible refine r_parti ?_
  | with_reducible refine r_nopart ?_
  | with_reducible refine r_il ?_
  | with_reducible refine r_it ?_
  | with_reducible refine r_ir ?_
  | with_reducible refine r_is ?_
  | with_reducible refine r_next ?_
  | with_reducible refine r_retN ?_
  | ((with_reducible refine r_eq ?_ ?_); focus exact rfl)
  | ((with_reducible refine r_ne ?_ ?_); focus exact rfl)))
local macro_rules | `(tactic| walk_at "rx") => `(tactic| repeat (first
  | ((with_reducible apply r_var); focus exact rfl)
  | with_reducible refine r_c ?_
  | with_reducible refine r_chain ?_
  | ((with_reducible apply r_aug); focus exact rfl)
  | with_reducible refine r_ip ?_
  | with_reducible refine r_op ?_
  | with_reducible refine r_I0 ?_
  | with_reducible refine r_cons ?_
  | with_reducible refine r_nil ?_
  | with_reducible refine r_seq ?_
  | with_reducible refine r_asg ?_
  | with_reducible refine r_gn ?_
  | with_reducible refine r_gcons ?_
  | with_reducible refine r_gnil ?_
  | with_reducible refine r_m1 ?_
  | with_reducible refine r_sfld ?_
  | with_reducible refine r_sfa ?_
  | with_reducible refine r_rAdd ?_
  | with_reducible refine r_ret ?_
  | with_reducible refine r_ifS ?_
  | with_reducible refine r_test ?_
  | with_reducible refine r_bl ?_
  | with_reducible refine r_B ?_
  | with_reducible refine r_drop ?_
  | with_reducible refine r_bm ?_
  | with_reducible refine r_CB ?_
  | with_reducible refine r_call ?_
  | with_reducible refine r_make ?_
  | with_reducible refine r_tup ?_
  | with_reducible refine r_lst ?_
  | ((with_reducible refine r_I ?_ ?_); focus (first | decide | exact ⟨by decide, by decide⟩ | exact .inl ⟨by decide, by decide⟩ | exact .inr ⟨by decide, by decide⟩ | omega))
  | with_reducible refine r_U ?_
  | with_reducible refine r_un ?_
  | with_reducible refine r_and ?_
  | with_reducible refine r_or ?_
  | with_reducible refine r_not ?_
  | with_reducible refine r_andV ?_
  | with_reducible refine r_orV ?_
  | with_reducible refine r_notV ?_
  | with_reducible refine r_if ?_
  | with_reducible refine r_sl ?_
  | with_reducible refine r_part ?_
  | with_reducible refine r_parti ?_
  | with_reducible refine r_nopart ?_
  | with_reducible refine r_il ?_
  | with_reducible refine r_it ?_
  | with_reducible refine r_ir ?_
  | with_reducible refine r_is ?_
  | with_reducible refine r_next ?_
  | with_reducible refine r_retN ?_
  | ((with_reducible refine r_eq ?_ ?_); focus exact rfl)
  | ((with_reducible refine r_ne ?_ ?_); focus exact rfl)))
section
variable {P : Program} {w : World} {K : PySem.W.Frag} {mg : Str → Option Value} {base : Heap}
theorem BsL.snoc {H H4 : Hp} {D : Addr} {ps : List Addr} {bss : List (List Nat)} {p : Addr} {bs : List Nat} {o : HO} (hb : BsL H ps bss) (hne : ∀ r ∈ ps, r ≠ D) (s4 : Same H H4) (e4 : H4 p = some (bL bs)) (npD : p ≠ D) :
    BsL (upd H4 D o) (ps ++ [p]) (bss ++ [bs]) ∧ ∀ r ∈ ps ++ [p], r ≠ D := by
  refine ⟨⟨?_, fun k r cs hr hk => ?_⟩, fun r hr => ?_⟩
  · rw [List.length_append, List.length_append, hb.len] <;> rfl
  · by_cases hk2 : k < ps.length
    · rw [List.getElem?_append_left hk2] at hr
      rw [List.getElem?_append_left (by rw [← hb.len]; exact hk2)] at hk
      rw [upd_ne (hne r (List.mem_of_getElem? hr))]
      exact s4 _ _ (hb.at_ k r cs hr hk)
    · have hkl : k = ps.length := by
        have := (List.getElem?_eq_some_iff.mp hr).1
        rw [List.length_append] at this
        simp at this
        omega
      subst hkl
      rw [List.getElem?_append_right (Nat.le_refl _)] at hr
      rw [List.getElem?_append_right (by rw [← hb.len]; exact Nat.le_refl _), ← hb.len] at hk
      simp at hr hk
      subst hr hk
      rw [upd_ne npD]
      exact e4
  · rcases List.mem_append.mp hr with h | h
    · exact hne r h
    · simp at h
      subst h
      exact npD
/-- a list of written things: [w(x) for x in xs], the reading -/
theorem lc_wG {J : It} {g : TG} {vs : List Nat} {D : Addr} {te : TE} {σ : L2.St} {H0 : Hp} {Qd : Hp → Prop} {xs : List V} {bss : List (List Nat)} (hJ : Wk J (Same H0) xs) (hlen : xs.length = bss.length) (hsz : bss.length ≤ cap) (hD : H0 D = none)
    (hte : ∀ (j : Nat) (x : V) (bs : List Nat) (H2 : Hp) (Qe : VK), xs[j]? = some x → bss[j]? = some bs → Same H0 H2 → RetB H2 Qe bs → g x (wipe σ vs) H2 fun σ2 H3 => wipe σ2 vs = wipe σ vs ∧ te σ2 H3 Qe)
    (hq : ∀ (H' : Hp) (ps : List Addr), Same H0 H' → H' D = some (.lst (ps.map V.ref)) → BsL H' ps bss → Qd H') :
    ∃ W : Nat → Nat → Hp → Prop, (∃ m, W 0 m (upd H0 D (.lst []))) ∧ ∀ k m H, W k m H →
      (J.stop k H ∧ Qd H) ∨ (J.go k H ∧ ∃ Nx : Hp → Prop, (∀ H', Nx H' → ∃ m', m' < m ∧ W (k + 1) m' H') ∧ ∀ x H', J.yld k H x H' → g x (wipe σ vs) H' fun σ2 H2 => wipe σ2 vs = wipe σ vs ∧ tYes σ2 H2 fun b H3 =>
        if b = true then te σ2 H3 fun y H4 => ∃ acc, H4 D = some (.lst acc) ∧ acc.length < sizeLine ∧ Nx (upd H4 D (.lst (acc ++ [y]))) else Nx H3) := by
  refine lc_any hJ (fun j H' => Same H0 H' ∧ ∃ ps, H' D = some (.lst (ps.map V.ref)) ∧ BsL H' ps (bss.take j) ∧ ∀ p ∈ ps, p ≠ D) (fun _ _ h => h.1) ?_ ?_ ?_
  · exact ⟨same_new hD, [], upd_same, ⟨rfl, fun i p bs h => by simp at h⟩, fun p h => by simp at h⟩
  · rintro j x H2 hx ⟨s, ps, hd, hb, hne⟩
    have hlt : j < bss.length := by
      rw [← hlen]
      exact (List.getElem?_eq_some_iff.mp hx).1
    have hbs : bss[j]? = some bss[j] := List.getElem?_eq_getElem hlt
    show g x (wipe σ vs) H2 fun σ2 H3 => wipe σ2 vs = wipe σ vs ∧ te σ2 H3 fun y H4 => _
    refine hte j x bss[j] H2 _ hx hbs s fun H4 p s4 n4 e4 => ?_
    have hlps : ps.length = j := by
      rw [hb.len, List.length_take]
      omega
    have npD : p ≠ D := fun e => by
      rw [e, hd] at n4
      cases n4
    obtain ⟨b2, n2⟩ := BsL.snoc (o := .lst (ps.map V.ref ++ [V.ref p])) hb hne s4 e4 npD
    refine ⟨ps.map V.ref, s4 _ _ hd, by rw [List.length_map, hlps]; exact cap_lt (by omega), same_mut (s.trans s4) hD, ps ++ [p], ?_, ?_, n2⟩
    · rw [upd_same, List.map_append] <;> rfl
    · rw [List.take_add_one, hbs]
      exact b2
  · rintro H2 ⟨s, ps, hd, hb, _⟩
    rw [hlen, List.take_length] at hb
    exact hq H2 ps s hd hb
theorem lc_w {J : It} {i : Nat} {D : Addr} {te : TE} {σ : L2.St} {H0 : Hp} {Qd : Hp → Prop} {xs : List V} {bss : List (List Nat)} (hJ : Wk J (Same H0) xs) (hlen : xs.length = bss.length) (hsz : bss.length ≤ cap) (hD : H0 D = none)
    (hte : ∀ (j : Nat) (x : V) (bs : List Nat) (H2 : Hp) (Qe : VK), xs[j]? = some x → bss[j]? = some bs → Same H0 H2 → RetB H2 Qe bs → te ((wipe σ [i]).set i (some x)) H2 Qe)
    (hq : ∀ (H' : Hp) (ps : List Addr), Same H0 H' → H' D = some (.lst (ps.map V.ref)) → BsL H' ps bss → Qd H') :
    ∃ W : Nat → Nat → Hp → Prop, (∃ m, W 0 m (upd H0 D (.lst []))) ∧ ∀ k m H, W k m H →
      (J.stop k H ∧ Qd H) ∨ (J.go k H ∧ ∃ Nx : Hp → Prop, (∀ H', Nx H' → ∃ m', m' < m ∧ W (k + 1) m' H') ∧ ∀ x H', J.yld k H x H' → gName i x (wipe σ [i]) H' fun σ2 H2 => wipe σ2 [i] = wipe σ [i] ∧ tYes σ2 H2 fun b H3 =>
        if b = true then te σ2 H3 fun y H4 => ∃ acc, H4 D = some (.lst acc) ∧ acc.length < sizeLine ∧ Nx (upd H4 D (.lst (acc ++ [y]))) else Nx H3) :=
  lc_wG hJ hlen hsz hD (fun j x bs H2 Qe h1 h2 h3 h4 => ⟨wipe1, hte j x bs H2 Qe h1 h2 h3 h4⟩) hq
theorem wL_len {α : Type} (w : α → List Nat) (l : List α) : wBss (l.map w) = wL w l := by
  unfold wBss wL
  rw [List.length_map]
theorem flat_ge {α : Type} {w : α → List Nat} {l : List α} (hw : ∀ x, 0 < (w x).length) : l.length ≤ ((l.map w).flatten).length := by
  induction l with
  | nil => exact Nat.le_refl _
  | cons x r ih =>
    rw [List.map_cons, List.flatten_cons, List.length_append, List.length_cons]
    have := hw x
    omega
theorem wL_ge {α : Type} {w : α → List Nat} {l : List α} (hw : ∀ x, 0 < (w x).length) : l.length ≤ (wL w l).length := by
  have := flat_ge (l := l) hw
  unfold wL
  rw [List.length_append]
  omega
theorem mem_le {bss : List (List Nat)} {i : Nat} {bs : List Nat} (h : bss[i]? = some bs) : bs.length ≤ bss.flatten.length := by
  have := flatten_take_le bss (i + 1)
  rw [flatten_take h, List.length_append] at this
  omega
theorem mem_wL {α : Type} {w : α → List Nat} {l : List α} {i : Nat} {bs : List Nat} (h : (l.map w)[i]? = some bs) : bs.length ≤ (wL w l).length := by
  have := mem_le h
  unfold wL
  rw [List.length_append]
  omega
/-- .. of the items of a list of data -/
theorem lc_wg {α : Type} {w : α → List Nat} {d : α → D} {l : List α} {sp : Sp} {J : It} {i : Nat} {D : Addr} {σ : L2.St} {H0 : Hp} {Qd : Hp → Prop} {xs : List V} (hsp : ∀ (v : V) (x : α) (H : Hp) (Q : VK) (E : XK), x ∈ l → Rp H (d x) v → (w x).length ≤ cap → RetB H Q (w x) → sp [v] H Q E)
    (hJ : Wk J (Same H0) xs) (hi : i < σ.length) (hr : RpL H0 (l.map d) xs) (hl : (wL w l).length ≤ cap) (hn : l.length ≤ cap) (hD : H0 D = none)
    (hq : ∀ (H' : Hp) (ps : List Addr), Same H0 H' → H' D = some (.lst (ps.map V.ref)) → BsL H' ps (l.map w) → Qd H') :
    ∃ W : Nat → Nat → Hp → Prop, (∃ m, W 0 m (upd H0 D (.lst []))) ∧ ∀ k m H, W k m H →
      (J.stop k H ∧ Qd H) ∨ (J.go k H ∧ ∃ Nx : Hp → Prop, (∀ H', Nx H' → ∃ m', m' < m ∧ W (k + 1) m' H') ∧ ∀ x H', J.yld k H x H' → gName i x (wipe σ [i]) H' fun σ2 H2 => wipe σ2 [i] = wipe σ [i] ∧ tYes σ2 H2 fun b H3 =>
        if b = true then tCall sp [] E0 (tCons (tVar i) tNil) σ2 H3 fun y H4 => ∃ acc, H4 D = some (.lst acc) ∧ acc.length < sizeLine ∧ Nx (upd H4 D (.lst (acc ++ [y]))) else Nx H3) := by
  refine lc_w (bss := l.map w) hJ (by rw [hr.length, List.length_map, List.length_map]) (by rw [List.length_map]; exact hn) hD (fun j x bs H2 Qe hx hbs s2 q2 => ?_) hq
  obtain ⟨d', hd, hx2⟩ := hr.at hx
  obtain ⟨x0, h0, rfl⟩ := getElem_map_some hd
  have hlb := mem_wL hbs
  rw [List.getElem?_map, h0] at hbs
  cases hbs
  refine ⟨x, ?_, hsp x x0 H2 Qe E0 (List.mem_of_getElem? h0) (hx2.ts (Tst.same s2)) (Nat.le_trans hlb hl) q2⟩
  show ((σ.set i none).set i (some x))[i]? = some (some x)
  rw [List.getElem?_set_self (by rw [List.length_set]; exact hi)]
theorem lc_wi {α : Type} {w : α → List Nat} {d : α → D} {l : List α} {J : It} {i : Nat} {D : Addr} {σ : L2.St} {H0 : Hp} {Qd : Hp → Prop} {xs : List V} (hJ : Wk J (Same H0) xs) (hi : i < σ.length) (hr : RpL H0 (l.map d) xs) (hl : (wL w l).length ≤ cap) (hn : l.length ≤ cap) (hD : H0 D = none)
    (hq : ∀ (H' : Hp) (ps : List Addr), Same H0 H' → H' D = some (.lst (ps.map V.ref)) → BsL H' ps (l.map w) → Qd H') :
    ∃ W : Nat → Nat → Hp → Prop, (∃ m, W 0 m (upd H0 D (.lst []))) ∧ ∀ k m H, W k m H →
      (J.stop k H ∧ Qd H) ∨ (J.go k H ∧ ∃ Nx : Hp → Prop, (∀ H', Nx H' → ∃ m', m' < m ∧ W (k + 1) m' H') ∧ ∀ x H', J.yld k H x H' → gName i x (wipe σ [i]) H' fun σ2 H2 => wipe σ2 [i] = wipe σ [i] ∧ tYes σ2 H2 fun b H3 =>
        if b = true then tCall (spW w d) [] E0 (tCons (tVar i) tNil) σ2 H3 fun y H4 => ∃ acc, H4 D = some (.lst acc) ∧ acc.length < sizeLine ∧ Nx (upd H4 D (.lst (acc ++ [y]))) else Nx H3) :=
  lc_wg (fun v x H Q E _ h1 h2 h3 => ⟨v, x, rfl, h1, h2, h3⟩) hJ hi hr hl hn hD hq
theorem wMark_pos (m : Mark) : 0 < (wMark m).length := by
  have := wNum_pos m.1
  unfold wMark
  rw [List.length_append]
  omega
theorem ok_write_string  (T : Txt K mg) : Fc P w K mg base CX0 (3) "write_string" ["text"] (spW wStr dStr) := by
  refine ⟨?_, gm_write_string T, (fd_write_string T.says).kp, (fd_write_string T.says).bindsN fun _ _ _ _ _ _ us hl => match us, hl with | [_], _ => rfl⟩
  refine (fd_write_string T.says).ok sc_write_string (fun vs H Q E h => by first | (obtain ⟨_, rfl, _⟩ := h; rfl) | (obtain ⟨_, _, rfl, _⟩ := h; rfl) | (obtain ⟨_, _, _, rfl, _⟩ := h; rfl) | (obtain ⟨_, _, _, _, rfl, _⟩ := h; rfl) | (obtain ⟨_, _, _, _, _, rfl, _⟩ := h; rfl) | (obtain ⟨_, _, _, _, _, _, rfl, _⟩ := h; rfl) | (obtain ⟨_, _, _, _, _, _, _, rfl, _⟩ := h; rfl) | (obtain ⟨_, _, _, _, _, _, _, _, rfl, _⟩ := h; rfl) | (obtain ⟨_, _, _, _, _, _, _, _, _, rfl, _⟩ := h; rfl)) (fun cdv A outer s H vs Q E hr h => ?_)
  obtain ⟨v, z, rfl, hv, hl, q⟩ := h
  obtain rfl : v = .str z := hv
  refine ⟨_, PSs.nox (pss_one (ps_ret (pe_f (ok_write_list T) (hr.mono (by omega)) (by rfl) (pa_cons (pe_lc (own := [("character", 1)]) (g := gName 1) (tt := tYes) rfl sc_write_string.nd (pi_str (pv 0)) (blkOk_by (N := ["text", "character"]) (sc := defScope s_write_string) (by decide +kernel)) (fun _ _ _ _ _ => (pg_name (i := 1) sc_write_string.nd rfl (Or.inl rfl))) (fun _ _ _ _ _ => pts_nil) (fun _ _ _ _ _ => (pe_f (ok_write_number T) (hr.mono (by omega)) (by rfl) (pa_cons (pe_callB call_ord (by rfl) (n_ord T) (by decide +kernel) (pa_cons (pv 1) pa_nil)) pa_nil)))) pa_nil)))), ?_⟩
  walk_at "rd"
  refine ⟨z, rfl, fun D hD => ?_⟩
  have hn : z.cps.toList.length ≤ cap := Nat.le_trans (wL_ge wNum_pos) hl
  refine lc_w (bss := z.cps.toList.map wNum) Wk.str (by simp [signs]) (by rw [List.length_map]; exact hn) hD (fun j x bs H2 Qe hx hbs s2 q2 => ?_) (fun H1 ps s1 e1 b1 => ?_)
  · obtain ⟨c, hc, rfl⟩ := getElem_map_some hx
    have hlb := mem_wL hbs
    rw [List.getElem?_map, hc] at hbs
    cases hbs
    walk_at "rd"
    refine ⟨_, rfl, rfl, ?_⟩
    walk_at "rd"
    exact ⟨_, c, rfl, rfl, Nat.le_trans hlb hl, q2⟩
  · walk_at "rd"
    refine ⟨D, ps, _, rfl, e1, b1, ?_, fun H2 p s2 n2 e2 => ?_⟩
    · rw [wL_len]
      exact hl
    · refine q.to (s1.trans s2) (s1.free n2) e2 ?_
      rw [wL_len]
      rfl
theorem ok_write_mark  (T : Txt K mg) : Fc P w K mg base CX0 (2) "write_mark" ["mark"] (spW wMark dMark) := by
  refine ⟨?_, gm_write_mark T, (fd_write_mark T.says).kp, (fd_write_mark T.says).bindsN fun _ _ _ _ _ _ us hl => match us, hl with | [_], _ => rfl⟩
  refine (fd_write_mark T.says).ok sc_write_mark (fun vs H Q E h => by first | (obtain ⟨_, rfl, _⟩ := h; rfl) | (obtain ⟨_, _, rfl, _⟩ := h; rfl) | (obtain ⟨_, _, _, rfl, _⟩ := h; rfl) | (obtain ⟨_, _, _, _, rfl, _⟩ := h; rfl) | (obtain ⟨_, _, _, _, _, rfl, _⟩ := h; rfl) | (obtain ⟨_, _, _, _, _, _, rfl, _⟩ := h; rfl) | (obtain ⟨_, _, _, _, _, _, _, rfl, _⟩ := h; rfl) | (obtain ⟨_, _, _, _, _, _, _, _, rfl, _⟩ := h; rfl) | (obtain ⟨_, _, _, _, _, _, _, _, _, rfl, _⟩ := h; rfl)) (fun cdv A outer s H vs Q E hr h => ?_)
  obtain ⟨v, m, rfl, hv, hl, q⟩ := h
  obtain ⟨a, xs, rfl, ha, x1, _, rfl, h1, x2, _, rfl, h2, rfl⟩ := hv
  obtain rfl : x1 = .int m.1 := h1
  obtain rfl : x2 = .int m.2 := h2
  have hl2 : (wNum m.1).length + (wNum m.2).length ≤ cap := by rw [← List.length_append]; exact hl
  refine ⟨_, PSs.nox (pss_one (ps_ret (pe_op op_cat (pe_f (ok_write_number T) (hr.mono (by omega)) (by rfl) (pa_cons (pe_ix ix_tup (pv 0) pe_int (fun _ _ => rfl)) pa_nil)) (pe_f (ok_write_number T) (hr.mono (by omega)) (by rfl) (pa_cons (pe_ix ix_tup (pv 0) pe_int (fun _ _ => rfl)) pa_nil))))), ?_⟩
  walk_at "rd"
  refine r_ixT ha rfl ?_
  walk_at "rd"
  refine ⟨_, m.1, rfl, rfl, by omega, fun H1 p s1 n1 e1 => ?_⟩
  walk_at "rd"
  refine r_ixT (s1 _ _ ha) rfl ?_
  walk_at "rd"
  refine ⟨_, m.2, rfl, rfl, by omega, fun H2 p2 s2 n2 e2 => ?_⟩
  exact r_cat (s2 _ _ e1) e2 (by omega) fun r hr => q.upd (s1.trans s2) hr rfl
theorem ok_write_deed  (T : Txt K mg) : Fc P w K mg base CX0 (4) "write_deed" ["deed"] (spW wDeed dDeed) := by
  refine ⟨?_, gm_write_deed T, (fd_write_deed T.says).kp, (fd_write_deed T.says).bindsN fun _ _ _ _ _ _ us hl => match us, hl with | [_], _ => rfl⟩
  refine (fd_write_deed T.says).ok sc_write_deed (fun vs H Q E h => by first | (obtain ⟨_, rfl, _⟩ := h; rfl) | (obtain ⟨_, _, rfl, _⟩ := h; rfl) | (obtain ⟨_, _, _, rfl, _⟩ := h; rfl) | (obtain ⟨_, _, _, _, rfl, _⟩ := h; rfl) | (obtain ⟨_, _, _, _, _, rfl, _⟩ := h; rfl) | (obtain ⟨_, _, _, _, _, _, rfl, _⟩ := h; rfl) | (obtain ⟨_, _, _, _, _, _, _, rfl, _⟩ := h; rfl) | (obtain ⟨_, _, _, _, _, _, _, _, rfl, _⟩ := h; rfl) | (obtain ⟨_, _, _, _, _, _, _, _, _, rfl, _⟩ := h; rfl)) (fun cdv A outer s H vs Q E hr h => ?_)
  obtain ⟨v, d, rfl, hv, hl, q⟩ := h
  refine ⟨_, PSs.nox (pss_cons (ps_if (pt_cmpR op_eq (pe_ix ix_tup (pv 0) pe_int (fun _ _ => rfl)) pe_str (nomark _)) (pss_one (ps_ret (pe_op op_cat (pe_lst (pa_cons pe_int pa_nil)) (pe_f (ok_write_number T) (hr.mono (by omega)) (by rfl) (pa_cons (pe_ix ix_tup (pv 0) pe_int (fun _ _ => rfl)) pa_nil))))) pss_nil)
      (pss_cons (ps_asg (pv 0) (pg_tup rfl (pgs_cons (pg_name (i := 1) sc_write_deed.nd rfl (Or.inl rfl)) (pgs_cons (pg_name (i := 2) sc_write_deed.nd rfl (Or.inl rfl)) (pgs_cons (pg_name (i := 3) sc_write_deed.nd rfl (Or.inl rfl)) (pgs_cons (pg_name (i := 4) sc_write_deed.nd rfl (Or.inl rfl)) (pgs_cons (pg_name (i := 5) sc_write_deed.nd rfl (Or.inl rfl)) (pgs_cons (pg_name (i := 6) sc_write_deed.nd rfl (Or.inl rfl)) pgs_nil))))))))
      (pss_cons (ps_set (i := 7) sc_write_deed.nd rfl (Or.inl rfl) (pe_op op_cat (pe_op op_cat (pe_lst (pa_cons pe_int pa_nil)) (pe_f (ok_write_string T) (hr.mono (by omega)) (by rfl) (pa_cons (pv 2) pa_nil))) (pe_f (ok_write_list T) (hr.mono (by omega)) (by rfl) (pa_cons (pe_lc (own := [("mark", 8)]) (g := gName 8) (tt := tYes) rfl sc_write_deed.nd (pi_tup (pv 3)) (blkOk_by (N := ["deed", "_", "module", "removed", "behind", "number", "text", "data", "mark"]) (sc := defScope s_write_deed) (by decide +kernel)) (fun _ _ _ _ _ => (pg_name (i := 8) sc_write_deed.nd rfl (Or.inl rfl))) (fun _ _ _ _ _ => pts_nil) (fun _ _ _ _ _ => (pe_f (ok_write_mark T) (hr.mono (by omega)) (by rfl) (pa_cons (pv 8) pa_nil)))) pa_nil))))
      (pss_cons (ps_expr (pe_bm PySem.F.plainAttrs_list PySem.F.slot_list_extend PySem.F.type_list_extend mt_extend (pv 7) (pa_cons (pe_ifExp (pt_cmpR op_isN (pv 4) pe_non (nomark _)) (pe_lst (pa_cons pe_int pa_nil)) (pe_op op_cat (pe_lst (pa_cons pe_int pa_nil)) (pe_f (ok_write_mark T) (hr.mono (by omega)) (by rfl) (pa_cons (pv 4) pa_nil)))) pa_nil)))
      (pss_one (ps_ret (pe_op op_cat (pe_op op_cat (pv 7) (pe_f (ok_write_number T) (hr.mono (by omega)) (by rfl) (pa_cons (pv 5) pa_nil))) (pe_f (ok_write_string T) (hr.mono (by omega)) (by rfl) (pa_cons (pv 6) pa_nil))))))))), ?_⟩
  cases d with
  | back n =>
    obtain ⟨a, xs, rfl, ha, x1, _, rfl, h1, x2, _, rfl, h2, rfl⟩ := hv
    obtain rfl : x1 = .str "back" := h1
    obtain rfl : x2 = .int n := h2
    have hl2 : (wNum n).length + 1 ≤ cap := hl
    walk_at "rd"
    refine r_ixT ha rfl ?_
    walk_at "rd"
    refine iteS (fun _ => ?_) (fun n => absurd rfl n)
    walk_at "rd"
    refine ⟨le_line rfl, fun p hp => ?_⟩
    walk_at "rd"
    have s1 := same_new (o := .lst [V.int 1]) hp
    refine r_ixT (s1 _ _ ha) rfl ?_
    walk_at "rd"
    refine ⟨_, n, rfl, rfl, by omega, fun H2 p2 s2 n2 e2 => ?_⟩
    exact r_cat (xs := [1]) (s2 _ _ upd_same) e2 (by show 1 + _ ≤ _; omega) fun r hr => q.upd (s1.trans s2) hr rfl
  | change m rem beh n t =>
    obtain ⟨a, xs, rfl, ha, x1, _, rfl, h1, x2, _, rfl, h2, x3, _, rfl, h3, x4, _, rfl, h4, x5, _, rfl, h5, x6, _, rfl, h6, rfl⟩ := hv
    obtain rfl : x1 = .str "change" := h1
    obtain rfl : x2 = .str m := h2
    obtain rfl : x5 = .int n := h5
    obtain rfl : x6 = .str t := h6
    obtain ⟨ar, rs, rfl, har, hrs⟩ := h3
    have hl2 : 1 + ((wStr m).length + (wL wMark rem).length) + (wOpt beh).length + ((wNum n).length + (wStr t).length) ≤ cap := by
      have z := hl
      simp only [wDeed, List.length_append, List.length_cons] at z
      omega
    walk_at "rd"
    refine r_ixT ha rfl ?_
    walk_at "rd"
    refine iteS (fun e => absurd e (by decide +kernel)) (fun _ => ?_)
    walk_at "rd"
    refine r_gtup ha rfl ?_
    walk_at "rd"
    refine ⟨le_line rfl, fun p hp => ?_⟩
    have s1 := same_new (o := .lst [V.int 0]) hp
    walk_at "rd"
    refine ⟨_, m, rfl, rfl, by omega, fun H2 p2 s2 n2 e2 => ?_⟩
    refine r_cat (xs := [0]) (s2 _ _ upd_same) e2 (by show 1 + _ ≤ _; omega) fun p3 n3 => ?_
    have s3 := (s1.trans s2).trans (same_new (o := bL ([0] ++ wStr m)) n3)
    walk_at "rd"
    refine ⟨ar, rfl, ⟨_, SqT.of (s3 _ _ har)⟩, fun D hD => ?_⟩
    refine lc_wi (Wk.tup fun H' s => s _ _ (s3 _ _ har)) (lt_by rfl) (hrs.ts (Tst.same s3)) (by omega) (Nat.le_trans (wL_ge wMark_pos) (by omega)) hD fun H4 ps s4 e4 b4 => ?_
    have s5 := s3.trans s4
    walk_at "rd"
    refine ⟨D, ps, _, rfl, e4, b4, by rw [wL_len]; omega, fun H6 p6 s6 n6 e6 => ?_⟩
    rw [wL_len] at e6
    refine r_cat ((s4.trans s6) _ _ upd_same) e6 (by rw [List.length_append]; show 1 + _ + _ ≤ _; omega) fun p7 n7 => ?_
    have s7 := s5.trans (s6.trans (same_new (o := bL (([0] ++ wStr m) ++ wL wMark rem)) n7))
    have f7 : H p7 = none := (s5.trans s6).free n7
    -- data.extend(..)
    walk_at "rd"
    refine ⟨ty_l upd_same, ?_⟩
    walk_at "rd"
    refine ⟨rfl, ?_⟩
    walk_at "rd"
    have fin : ∀ H8 p8, Same (upd H6 p7 (bL (([0] ++ wStr m) ++ wL wMark rem))) H8 → H8 p8 = some (bL (wOpt beh)) → rExtend (V.ref p7) [V.ref p8] H8 (fun x H9 => tRet (tOp rCat (tOp rCat (tVar 7) (tCall (spW wNum dNum) [] E0 (tCons (tVar 5) tNil))) (tCall (spW wStr dStr) [] E0 (tCons (tVar 6) tNil))) { nx := fun x H' => Q V.non H', rt := Q } [some (.ref a), some (.str "change"), some (.str m), some (.ref ar), some x4, some (.int n), some (.str t), some (.ref p7), none] H9) := by
      intro H8 p8 s8 e8
      refine r_extend (s8 _ _ upd_same) e8 (by rw [List.length_append, List.length_append]; show 1 + _ + _ + _ ≤ _; omega) ?_
      have s9 := same_mut (o := bL (([0] ++ wStr m) ++ wL wMark rem ++ wOpt beh)) (s7.trans s8) f7
      walk_at "rd"
      refine ⟨_, n, rfl, rfl, by omega, fun H10 p10 s10 n10 e10 => ?_⟩
      refine r_cat (s10 _ _ upd_same) e10 (by rw [List.length_append, List.length_append, List.length_append]; show 1 + _ + _ + _ + _ ≤ _; omega) fun p11 n11 => ?_
      walk_at "rd"
      refine ⟨_, t, rfl, rfl, by omega, fun H12 p12 s12 n12 e12 => ?_⟩
      refine r_cat (s12 _ _ upd_same) e12 (by simp only [List.length_append]; show 1 + _ + _ + _ + _ + _ ≤ _; omega) fun p13 n13 => ?_
      refine q.upd (((s9.trans s10).trans (same_new n11)).trans s12) n13 ?_
      simp [wDeed, List.append_assoc]
    cases beh with
    | none =>
      obtain rfl : x4 = .non := h4
      refine ite_t rfl ?_
      walk_at "rd"
      refine ⟨le_line rfl, fun p8 n8 => ?_⟩
      exact fin _ p8 (same_new n8) upd_same
    | some mk =>
      have h5 : x4 ≠ .non := by
        obtain ⟨_, _, e, _⟩ := h4
        rw [e]
        exact fun z => by cases z
      refine ite_f (by simpa using h5) ?_
      walk_at "rd"
      refine ⟨le_line rfl, fun p8 n8 => ?_⟩
      walk_at "rd"
      have hl3 : 1 + (wMark mk).length = (wOpt (some mk)).length := by simp [wOpt]; omega
      refine ⟨x4, mk, rfl, Rp.ts (Tst.same (s7.trans (same_new n8))) h4, by omega, fun H9 p9 s9 n9 e9 => ?_⟩
      refine r_cat (xs := [1]) (s9 _ _ upd_same) e9 (by show 1 + _ ≤ _; omega) fun p10 n10 => ?_
      exact fin _ p10 (((same_new n8).trans s9).trans (same_new n10)) upd_same
end
end Q

/-! ## W3 -/
set_option Elab.async false
set_option linter.all false
set_option maxRecDepth 100000
set_option maxHeartbeats 4000000
namespace Q
open PySem PySem.Spec PyProof.Rows L2
local macro_rules | `(tactic| walk_at "rd") => `(tactic| repeat (first
  | ((with_reducible apply r_var); focus exact rfl)
  | with_reducible refine r_c ?_
  | with_reducible refine r_chain ?_
  | ((with_reducible apply r_aug); focus exact rfl)
  | with_reducible refine r_ip ?_
  | with_reducible refine r_op ?_
  | with_reducible refine r_I0 ?_
  | with_reducible refine r_cons ?_
  | with_reducible refine r_nil ?_
  | with_reducible refine r_seq ?_
  | with_reducible refine r_asg ?_
  | with_reducible refine r_gn ?_
  | with_reducible refine r_gcons ?_
  | with_reducible refine r_gnil ?_
  | with_reducible refine r_lc ?_
  | with_reducible refine r_m1 ?_
  | with_reducible refine r_sfld ?_
  | with_reducible refine r_sfa ?_
  | with_reducible refine r_rAdd ?_
  | with_reducible refine r_ret ?_
  | with_reducible refine r_ifS ?_
  | with_reducible refine r_test ?_
  | with_reducible refine r_bl ?_
  | with_reducible refine r_B ?_
  | with_reducible refine r_drop ?_
  | with_reducible refine r_bm ?_
  | with_reducible refine r_CB ?_
  | with_reducible refine r_call ?_
  | with_reducible refine r_meth ?_
  | with_reducible refine r_make ?_
  | with_reducible refine r_tup ?_
  | with_reducible refine r_lst ?_
  | ((with_reducible refine r_I ?_ ?_); focus (first | decide | exact ⟨by decide, by decide⟩ | exact .inl ⟨by decide, by decide⟩ | exact .inr ⟨by decide, by decide⟩ | omega))
  | with_reducible refine r_U ?_
  | with_reducible refine r_un ?_
  | with_reducible refine r_and ?_
  | with_reducible refine r_or ?_
  | with_reducible refine r_not ?_
  | with_reducible refine r_andV ?_
  | with_reducible refine r_orV ?_
  | with_reducible refine r_notV ?_
  | with_reducible refine r_if ?_
  | with_reducible refine r_sl ?_
  | with_reducible refine r_part ?_
  | with_reducible refine r_parti ?_
  | with_reducible refine r_nopart ?_
  | with_reducible refine r_il ?_
  | with_reducible refine r_it ?_
  | with_reducible refine r_ir ?_
  | with_reducible refine r_is ?_
  | with_reducible refine r_next ?_
  | with_reducible refine r_retN ?_
  | ((with_reducible refine r_eq ?_ ?_); focus exact rfl)
  | ((with_reducible refine r_ne ?_ ?_); focus exact rfl)))
local macro_rules | `(tactic| walk_at "rx") => `(tactic| repeat (first
  | ((with_reducible apply r_var); focus exact rfl)
  | with_reducible refine r_c ?_
  | with_reducible refine r_chain ?_
  | ((with_reducible apply r_aug); focus exact rfl)
  | with_reducible refine r_ip ?_
  | with_reducible refine r_op ?_
  | with_reducible refine r_I0 ?_
  | with_reducible refine r_cons ?_
  | with_reducible refine r_nil ?_
  | with_reducible refine r_seq ?_
  | with_reducible refine r_asg ?_
  | with_reducible refine r_gn ?_
  | with_reducible refine r_gcons ?_
  | with_reducible refine r_gnil ?_
  | with_reducible refine r_m1 ?_
  | with_reducible refine r_sfld ?_
  | with_reducible refine r_sfa ?_
  | with_reducible refine r_rAdd ?_
  | with_reducible refine r_ret ?_
  | with_reducible refine r_ifS ?_
  | with_reducible refine r_test ?_
  | with_reducible refine r_bl ?_
  | with_reducible refine r_B ?_
  | with_reducible refine r_drop ?_
  | with_reducible refine r_bm ?_
  | with_reducible refine r_CB ?_
  | with_reducible refine r_call ?_
  | with_reducible refine r_make ?_
  | with_reducible refine r_tup ?_
  | with_reducible refine r_lst ?_
  | ((with_reducible refine r_I ?_ ?_); focus (first | decide | exact ⟨by decide, by decide⟩ | exact .inl ⟨by decide, by decide⟩ | exact .inr ⟨by decide, by decide⟩ | omega))
  | with_reducible refine r_U ?_
  | with_reducible refine r_un ?_
  | with_reducible refine r_and ?_
  | with_reducible refine r_or ?_
  | with_reducible refine r_not ?_
  | with_reducible refine r_andV ?_
  | with_reducible refine r_orV ?_
  | with_reducible refine r_notV ?_
  | with_reducible refine r_if ?_
  | with_reducible refine r_sl ?_
  | with_reducible refine r_part ?_
  | with_reducible refine r_parti ?_
  | with_reducible refine r_nopart ?_
  | with_reducible refine r_il ?_
  | with_reducible refine r_it ?_
  | with_reducible refine r_ir ?_
  | with_reducible refine r_is ?_
  | with_reducible refine r_next ?_
  | with_reducible refine r_retN ?_
  | ((with_reducible refine r_eq ?_ ?_); focus exact rfl)
  | ((with_reducible refine r_ne ?_ ?_); focus exact rfl)))
section
variable {P : Program} {w : World} {K : PySem.W.Frag} {mg : Str → Option Value} {base : Heap}
theorem wDeed_pos (d : Deed) : 0 < (wDeed d).length := by
  cases d <;> simp [wDeed]
theorem wTrip_pos (t : Trip) : 0 < (wTrip t).length := by
  have := wNum_pos t.1
  unfold wTrip
  rw [List.length_append]
  omega
theorem wVal_pos (v : Val) : 0 < (wVal v).length := by
  cases v <;> simp [wVal]
theorem wKind_pos (k : Kind) : 0 < (wKind k).length := by
  have := wNum_pos k.1
  unfold wKind
  split <;> (rw [List.length_append]; omega)
theorem wStr_pos (s : Str) : 0 < (wStr s).length := by
  have := wNum_pos s.cps.toList.length
  unfold wStr wL
  rw [List.length_append]
  omega
theorem wMaker_pos (s : Maker) : 0 < (wMaker s).length := by
  have := wStr_pos s.1
  unfold wMaker
  rw [List.length_append]
  omega
theorem wData_pos (s : DataT) : 0 < (wData s).length := by
  have := wStr_pos s.1
  unfold wData
  rw [List.length_append]
  omega
theorem wCell_pos (c : Cell) : 0 < (wCell c).length := by
  have := wStr_pos c.1
  unfold wCell
  rw [List.length_append]
  omega
/-- the argument a list of Python -/
def spWs {α : Type} (w : α → List Nat) (d : α → D) : Sp := fun vs H Q _ => ∃ l ys xs, vs = [.ref l] ∧ H l = some (.lst ys) ∧ RpL H (xs.map d) ys ∧ (wL w xs).length ≤ cap ∧ RetB H Q (wL w xs)
theorem wL_at {α : Type} {w : α → List Nat} {l : List α} {i : Nat} {x : α} (h : l[i]? = some x) : (w x).length ≤ (wL w l).length :=
  mem_wL (i := i) (by rw [List.getElem?_map, h]; rfl)
theorem ok_write_triples  (T : Txt K mg) : Fc P w K mg base CX0 (5) "write_triples" ["triples"] (spWs wTrip dTrip) := by
  refine ⟨?_, gm_write_triples T, (fd_write_triples T.says).kp, (fd_write_triples T.says).bindsN fun _ _ _ _ _ _ us hl => match us, hl with | [_], _ => rfl⟩
  refine (fd_write_triples T.says).ok sc_write_triples (fun vs H Q E h => by first | (obtain ⟨_, rfl, _⟩ := h; rfl) | (obtain ⟨_, _, rfl, _⟩ := h; rfl) | (obtain ⟨_, _, _, rfl, _⟩ := h; rfl) | (obtain ⟨_, _, _, _, rfl, _⟩ := h; rfl) | (obtain ⟨_, _, _, _, _, rfl, _⟩ := h; rfl) | (obtain ⟨_, _, _, _, _, _, rfl, _⟩ := h; rfl) | (obtain ⟨_, _, _, _, _, _, _, rfl, _⟩ := h; rfl) | (obtain ⟨_, _, _, _, _, _, _, _, rfl, _⟩ := h; rfl) | (obtain ⟨_, _, _, _, _, _, _, _, _, rfl, _⟩ := h; rfl)) (fun cdv A outer s H vs Q E hr h => ?_)
  obtain ⟨l, ys, ts, rfl, hlst, hys, hl, q⟩ := h
  refine ⟨_, PSs.nox (pss_cons (ps_set (i := 1) sc_write_triples.nd rfl (Or.inl rfl) (pe_lst pa_nil))
      (pss_cons (ps_for PassesOwn.never rfl (pi_list (pv 0)) (pg_tup rfl (pgs_cons (pg_name (i := 2) sc_write_triples.nd rfl (Or.inl rfl)) (pgs_cons (pg_name (i := 3) sc_write_triples.nd rfl (Or.inl rfl)) (pgs_cons (pg_name (i := 4) sc_write_triples.nd rfl (Or.inl rfl)) pgs_nil)))) (pss_one (ps_expr (pe_bm PySem.F.plainAttrs_list PySem.F.slot_list_append PySem.F.type_list_append mt_append (pv 1) (pa_cons (pe_op op_cat (pe_op op_cat (pe_f (ok_write_number T) (hr.mono (by omega)) (by rfl) (pa_cons (pv 2) pa_nil)) (pe_f (ok_write_number T) (hr.mono (by omega)) (by rfl) (pa_cons (pv 3) pa_nil))) (pe_f (ok_write_deed T) (hr.mono (by omega)) (by rfl) (pa_cons (pv 4) pa_nil))) pa_nil)))))
      (pss_one (ps_ret (pe_f (ok_write_list T) (hr.mono (by omega)) (by rfl) (pa_cons (pv 1) pa_nil)))))), ?_⟩
  walk_at "rd"
  refine ⟨le_line rfl, fun a ha => ?_⟩
  walk_at "rd"
  have sa := same_new (o := .lst []) ha
  refine ⟨.ref l, rfl, l, rfl, ⟨_, SqL.of (sa _ _ hlst)⟩, for_any (xs := ys) (Wk.lst (I := Same H) fun H' s => s _ _ hlst) (fun i σ H' => ∃ v2 v3 v4 ps, σ = [some (.ref l), some (.ref a), v2, v3, v4] ∧ Same H H' ∧ H' a = some (.lst (ps.map V.ref)) ∧ BsL H' ps ((ts.map wTrip).take i) ∧ ∀ r ∈ ps, r ≠ a) (fun i σ H' ⟨_, _, _, _, _, s, _⟩ => s)
    ⟨none, none, none, [], rfl, sa, upd_same, ⟨rfl, fun i p bs h => by simp at h⟩, fun p h => by simp at h⟩ ?_ ?_⟩
  · rintro i x σ H' hi ⟨v2, v3, v4, ps, rfl, s, ea, hb, hne⟩
    obtain ⟨d', hd, hx⟩ := hys.at hi
    obtain ⟨t, ht, rfl⟩ := getElem_map_some hd
    have hlt := wL_at (w := wTrip) ht
    obtain ⟨b, xs, rfl, hbt, x1, _, rfl, h1, x2, _, rfl, h2, x3, _, rfl, h3, rfl⟩ := hx
    obtain rfl : x1 = .int t.1 := h1
    obtain rfl : x2 = .int t.2.1 := h2
    have hl2 : (wNum t.1).length + ((wNum t.2.1).length + (wDeed t.2.2).length) ≤ cap := by
      rw [← List.length_append, ← List.length_append]
      exact Nat.le_trans hlt hl
    refine r_gtup (s _ _ hbt) rfl ?_
    walk_at "rd"
    refine ⟨ty_l ea, ?_⟩
    walk_at "rd"
    refine ⟨_, t.1, rfl, rfl, by omega, fun H2 p2 s2 n2 e2 => ?_⟩
    walk_at "rd"
    refine ⟨_, t.2.1, rfl, rfl, by omega, fun H4 p4 s4 n4 e4 => ?_⟩
    refine r_cat (s4 _ _ e2) e4 (by omega) fun p5 n5 => ?_
    walk_at "rd"
    have s5 := (s2.trans s4).trans (same_new (o := bL (wNum t.1 ++ wNum t.2.1)) n5)
    refine ⟨_, t.2.2, rfl, h3.ts (Tst.same (s.trans s5)), by omega, fun H6 p6 s6 n6 e6 => ?_⟩
    refine r_cat (s6 _ _ upd_same) e6 (by rw [List.length_append]; omega) fun p7 n7 => ?_
    have s7 := (s5.trans s6).trans (same_new (o := bL (wNum t.1 ++ wNum t.2.1 ++ wDeed t.2.2)) n7)
    have npa : p7 ≠ a := fun e => by
      rw [e, (s5.trans s6) _ _ ea] at n7
      cases n7
    obtain ⟨b2, ne2⟩ := BsL.snoc (o := .lst (ps.map V.ref ++ [V.ref p7])) hb hne s7 upd_same npa
    have hps : ps.length ≤ cap := by
      have h8 := hb.len
      rw [List.length_take] at h8
      have h9 := wL_ge (l := ts) wTrip_pos
      rw [List.length_map] at h8
      omega
    refine ⟨a, _, _, rfl, rfl, s7 _ _ ea, by rw [List.length_map]; exact cap_lt hps, ?_⟩
    refine ⟨_, _, _, ps ++ [p7], rfl, same_mut (s.trans s7) ha, ?_, ?_, ne2⟩
    · rw [upd_same, List.map_append] <;> rfl
    · rw [List.take_add_one, List.getElem?_map, ht, List.append_assoc] at *
      exact b2
  · rintro σ H' ⟨v2, v3, v4, ps, rfl, s, ea, hb, hne⟩
    have e : (ts.map wTrip).take ys.length = ts.map wTrip := List.take_of_length_le (by rw [hys.length, List.length_map, List.length_map]; exact Nat.le_refl _)
    rw [e] at hb
    walk_at "rd"
    refine ⟨a, ps, _, rfl, ea, hb, by rw [wL_len]; exact hl, fun H2 p2 s2 n2 e2 => ?_⟩
    rw [wL_len] at e2
    exact q.to (s.trans s2) (s.free n2) e2 rfl
end
end Q

/-! ## W4 -/
set_option Elab.async false
set_option linter.all false
set_option maxRecDepth 100000
set_option maxHeartbeats 4000000
namespace Q
open PySem PySem.Spec PyProof.Rows L2
local macro_rules | `(tactic| walk_at "rd") => `(tactic| repeat (first
  | ((with_reducible apply r_var); focus exact rfl)
  | with_reducible refine r_c ?_
  | with_reducible refine r_chain ?_
  | ((with_reducible apply r_aug); focus exact rfl)
  | with_reducible refine r_ip ?_
  | with_reducible refine r_op ?_
  | with_reducible refine r_I0 ?_
  | with_reducible refine r_cons ?_
  | with_reducible refine r_nil ?_
  | with_reducible refine r_seq ?_
  | with_reducible refine r_asg ?_
  | with_reducible refine r_gn ?_
  | with_reducible refine r_gcons ?_
  | with_reducible refine r_gnil ?_
  | with_reducible refine r_lc ?_
  | with_reducible refine r_m1 ?_
  | with_reducible refine r_sfld ?_
  | with_reducible refine r_sfa ?_
  | with_reducible refine r_rAdd ?_
  | with_reducible refine r_ret ?_
  | with_reducible refine r_ifS ?_
  | with_reducible refine r_test ?_
  | with_reducible refine r_bl ?_
  | with_reducible refine r_B ?_
  | with_reducible refine r_drop ?_
  | with_reducible refine r_bm ?_
  | with_reducible refine r_CB ?_
  | with_reducible refine r_call ?_
  | with_reducible refine r_meth ?_
  | with_reducible refine r_make ?_
  | with_reducible refine r_tup ?_
  | with_reducible refine r_lst ?_
  | ((with_reducible refine r_I ?_ ?_); focus (first | decide | exact ⟨by decide, by decide⟩ | exact .inl ⟨by decide, by decide⟩ | exact .inr ⟨by decide, by decide⟩ | omega))
  | with_reducible refine r_U ?_
  | with_reducible refine r_un ?_
  | with_reducible refine r_and ?_
  | with_reducible refine r_or ?_
  | with_reducible refine r_not ?_
  | with_reducible refine r_andV ?_
  | with_reducible refine r_orV ?_
  | with_reducible refine r_notV ?_
  | with_reducible refine r_if ?_
  | with_reducible refine r_sl ?_
  | with_reducible refine r_part ?_
  | with_reducible refine r_parti ?_
  | with_reducible refine r_nopart ?_
  | with_reducible refine r_il ?_
  | with_reducible refine r_it ?_
  | with_reducible refine r_ir ?_
  | with_reducible refine r_is ?_
  | with_reducible refine r_next ?_
  | with_reducible refine r_retN ?_
  | ((with_reducible refine r_eq ?_ ?_); focus exact rfl)
  | ((with_reducible refine r_ne ?_ ?_); focus exact rfl)))
local macro_rules | `(tactic| walk_at "rx") => `(tactic| repeat (first
  | ((with_reducible apply r_var); focus exact rfl)
  | with_reducible refine r_c ?_
  | with_reducible refine r_chain ?_
  | ((with_reducible apply r_aug); focus exact rfl)
  | with_reducible refine r_ip ?_
  | with_reducible refine r_op ?_
  | with_reducible refine r_I0 ?_
  | with_reducible refine r_cons ?_
  | with_reducible refine r_nil ?_
  | with_reducible refine r_seq ?_
  | with_reducible refine r_asg ?_
  | with_reducible refine r_gn ?_
  | with_reducible refine r_gcons ?_
  | with_reducible refine r_gnil ?_
  | with_reducible refine r_m1 ?_
  | with_reducible refine r_sfld ?_
  | with_reducible refine r_sfa ?_
  | with_reducible refine r_rAdd ?_
  | with_reducible refine r_ret ?_
  | with_reducible refine r_ifS ?_
  | with_reducible refine r_test ?_
  | with_reducible refine r_bl ?_
  | with_reducible refine r_B ?_
  | with_reducible refine r_drop ?_
  | with_reducible refine r_bm ?_
  | with_reducible refine r_CB ?_
  | with_reducible refine r_call ?_
  | with_reducible refine r_make ?_
  | with_reducible refine r_tup ?_
  | with_reducible refine r_lst ?_
  | ((with_reducible refine r_I ?_ ?_); focus (first | decide | exact ⟨by decide, by decide⟩ | exact .inl ⟨by decide, by decide⟩ | exact .inr ⟨by decide, by decide⟩ | omega))
  | with_reducible refine r_U ?_
  | with_reducible refine r_un ?_
  | with_reducible refine r_and ?_
  | with_reducible refine r_or ?_
  | with_reducible refine r_not ?_
  | with_reducible refine r_andV ?_
  | with_reducible refine r_orV ?_
  | with_reducible refine r_notV ?_
  | with_reducible refine r_if ?_
  | with_reducible refine r_sl ?_
  | with_reducible refine r_part ?_
  | with_reducible refine r_parti ?_
  | with_reducible refine r_nopart ?_
  | with_reducible refine r_il ?_
  | with_reducible refine r_it ?_
  | with_reducible refine r_ir ?_
  | with_reducible refine r_is ?_
  | with_reducible refine r_next ?_
  | with_reducible refine r_retN ?_
  | ((with_reducible refine r_eq ?_ ?_); focus exact rfl)
  | ((with_reducible refine r_ne ?_ ?_); focus exact rfl)))
section
variable {P : Program} {w : World} {K : PySem.W.Frag} {mg : Str → Option Value} {base : Heap}
/-! ### values, kinds, outcomes -/
theorem Fc.vac {k : Nat} {x : Str} {ps : List Str} {sp sp' : Sp} (c : Fc P w K mg base CX0 k x ps sp') (h : ∀ vs H Q E, ¬ sp vs H Q E) : Fc P w K mg base CX0 k x ps sp :=
  ⟨c.ok.imp fun vs H Q E z => (h vs H Q E z).elim, c.gm, c.kp, c.b⟩
def spV (n : Nat) : Sp := fun vs H Q _ => ∃ v x, vs = [v] ∧ Rp H (dVal x) v ∧ x.dep ≤ n ∧ (wVal x).length ≤ cap ∧ RetB H Q (wVal x)
theorem wVals_wL (vs : List Val) : wNum vs.length ++ wVals vs = wL wVal vs := by
  unfold wL
  rw [wVals_eq]
theorem spV_mem {n : Nat} {vs : List Val} (h : depL vs ≤ n) (v : V) (x : Val) (H : Hp) (Q : VK) (E : XK) (hm : x ∈ vs) (h1 : Rp H (dVal x) v) (h2 : (wVal x).length ≤ cap) (h3 : RetB H Q (wVal x)) : spV n [v] H Q E :=
  ⟨v, x, rfl, h1, Nat.le_trans (dep_mem hm) h, h2, h3⟩
theorem ok_write_value_s {n : Nat} (ih : Fc P w K mg base CX0 (n + 4) "write_value" ["value"] (spV n)) (T : Txt K mg) : Fc P w K mg base CX0 (n + 5) "write_value" ["value"] (spV (n + 1)) := by
  refine ⟨?_, gm_write_value T, (fd_write_value T.says).kp, (fd_write_value T.says).bindsN fun _ _ _ _ _ _ us hl => match us, hl with | [_], _ => rfl⟩
  refine (fd_write_value T.says).ok sc_write_value (fun vs H Q E h => by first | (obtain ⟨_, rfl, _⟩ := h; rfl) | (obtain ⟨_, _, rfl, _⟩ := h; rfl) | (obtain ⟨_, _, _, rfl, _⟩ := h; rfl) | (obtain ⟨_, _, _, _, rfl, _⟩ := h; rfl) | (obtain ⟨_, _, _, _, _, rfl, _⟩ := h; rfl) | (obtain ⟨_, _, _, _, _, _, rfl, _⟩ := h; rfl) | (obtain ⟨_, _, _, _, _, _, _, rfl, _⟩ := h; rfl) | (obtain ⟨_, _, _, _, _, _, _, _, rfl, _⟩ := h; rfl) | (obtain ⟨_, _, _, _, _, _, _, _, _, rfl, _⟩ := h; rfl)) (fun cdv A outer s H vs Q E hr h => ?_)
  obtain ⟨v, x, rfl, hv, hd, hl, q⟩ := h
  refine ⟨_, PSs.nox (pss_cons (ps_if (pt_val (pe_callB call_isi (by rfl) (n_isinstance T) (by decide +kernel) (pa_cons (pv 0) (pa_cons (pe_bltn (v := .ty "bool") (by rfl) (n_bool T) (by decide +kernel) rfl) pa_nil)))) (pss_one (ps_ret (pe_lst (pa_cons pe_int (pa_cons (pe_callTy call_int1 (by rfl) (n_int T) (by decide +kernel) (pa_cons (pv 0) pa_nil)) pa_nil))))) pss_nil)
      (pss_cons (ps_if (pt_val (pe_callB call_isi (by rfl) (n_isinstance T) (by decide +kernel) (pa_cons (pv 0) (pa_cons (pe_bltn (v := .ty "int") (by rfl) (n_int T) (by decide +kernel) rfl) pa_nil)))) (pss_one (ps_ret (pe_op op_cat (pe_lst (pa_cons pe_int pa_nil)) (pe_f (ok_write_integer T) (hr.mono (by omega)) (by rfl) (pa_cons (pv 0) pa_nil))))) pss_nil)
      (pss_cons (ps_if (pt_val (pe_callB call_isi (by rfl) (n_isinstance T) (by decide +kernel) (pa_cons (pv 0) (pa_cons (pe_bltn (v := .ty "str") (by rfl) (n_str T) (by decide +kernel) rfl) pa_nil)))) (pss_one (ps_ret (pe_op op_cat (pe_lst (pa_cons pe_int pa_nil)) (pe_f (ok_write_string T) (hr.mono (by omega)) (by rfl) (pa_cons (pv 0) pa_nil))))) pss_nil)
      (pss_cons (ps_if (pt_cmpR op_eq (pe_ix ix_tup (pv 0) pe_int (fun _ _ => rfl)) pe_str (nomark _)) (pss_one (ps_ret (pe_op op_cat (pe_lst (pa_cons pe_int pa_nil)) (pe_f (ok_write_list T) (hr.mono (by omega)) (by rfl) (pa_cons (pe_lc (own := [("item", 2)]) (g := gName 2) (tt := tYes) rfl sc_write_value.nd (pi_tup (pe_ix ix_tup (pv 0) pe_int (fun _ _ => rfl))) (blkOk_by (N := ["value", "part", "item"]) (sc := defScope s_write_value) (by decide +kernel)) (fun _ _ _ _ _ => (pg_name (i := 2) sc_write_value.nd rfl (Or.inl rfl))) (fun _ _ _ _ _ => pts_nil) (fun _ _ _ _ _ => (pe_f ih (hr.mono (by omega)) (by rfl) (pa_cons (pv 2) pa_nil)))) pa_nil))))) pss_nil)
      (pss_one (ps_ret (pe_op op_cat (pe_op op_cat (pe_lst (pa_cons pe_int pa_nil)) (pe_f (ok_write_string T) (hr.mono (by omega)) (by rfl) (pa_cons (pe_ix ix_tup (pv 0) pe_int (fun _ _ => rfl)) pa_nil))) (pe_f (ok_write_list T) (hr.mono (by omega)) (by rfl) (pa_cons (pe_lc (own := [("part", 1)]) (g := gName 1) (tt := tYes) rfl sc_write_value.nd (pi_tup (pe_ix ix_tup (pv 0) pe_int (fun _ _ => rfl))) (blkOk_by (N := ["value", "part", "item"]) (sc := defScope s_write_value) (by decide +kernel)) (fun _ _ _ _ _ => (pg_name (i := 1) sc_write_value.nd rfl (Or.inl rfl))) (fun _ _ _ _ _ => pts_nil) (fun _ _ _ _ _ => (pe_f ih (hr.mono (by omega)) (by rfl) (pa_cons (pv 1) pa_nil)))) pa_nil))))))))), ?_⟩
  cases x with
  | bl b =>
    obtain rfl : v = .bl b := hv
    walk_at "rd"
    refine r_isi tx_bl k_bool_bool ?_
    walk_at "rd"
    refine ite_t rfl ?_
    walk_at "rd"
    refine .inr ⟨b, rfl, ?_⟩
    walk_at "rd"
    refine ⟨le_line rfl, fun p hp => ?_⟩
    cases b with
    | true => exact q.to (cs := [2, 1]) (same_new hp) hp upd_same rfl
    | false => exact q.to (cs := [2, 0]) (same_new hp) hp upd_same rfl
  | int i =>
    obtain rfl : v = .int i := hv
    walk_at "rd"
    refine r_isi tx_int k_int_bool ?_
    walk_at "rd"
    refine ite_f rfl ?_
    walk_at "rd"
    refine r_isi tx_int k_int_int ?_
    walk_at "rd"
    refine ite_t rfl ?_
    walk_at "rd"
    refine ⟨le_line rfl, fun p hp => ?_⟩
    walk_at "rd"
    have e0 : wVal (.int i) = [0] ++ wInt i := by simp [wVal, wInt]
    rw [e0] at hl q
    rw [List.length_append] at hl
    have hl2 : 1 + (wInt i).length ≤ cap := hl
    refine ⟨_, i, rfl, rfl, by omega, fun H2 p2 s2 n2 e2 => ?_⟩
    exact r_cat (xs := [0]) (s2 _ _ upd_same) e2 (by show 1 + _ ≤ _; omega) fun r hr => q.upd ((same_new hp).trans s2) hr rfl
  | str z =>
    obtain rfl : v = .str z := hv
    have hl2 : (wStr z).length + 1 ≤ cap := by
      simp [wVal] at hl
      omega
    walk_at "rd"
    refine r_isi tx_str k_str_bool ?_
    walk_at "rd"
    refine ite_f rfl ?_
    walk_at "rd"
    refine r_isi tx_str k_str_int ?_
    walk_at "rd"
    refine ite_f rfl ?_
    walk_at "rd"
    refine r_isi tx_str k_str_str ?_
    walk_at "rd"
    refine ite_t rfl ?_
    walk_at "rd"
    refine ⟨le_line rfl, fun p hp => ?_⟩
    walk_at "rd"
    refine ⟨_, z, rfl, rfl, by omega, fun H2 p2 s2 n2 e2 => ?_⟩
    refine r_cat (xs := [1]) (s2 _ _ upd_same) e2 (by show 1 + _ ≤ _; omega) fun r hr => q.upd ((same_new hp).trans s2) hr ?_
    simp [wVal]
  | list vs =>
    obtain ⟨a, xs, rfl, ha, x1, _, rfl, h1, x2, _, rfl, h2, rfl⟩ := hv
    obtain rfl : x1 = .str "list" := h1
    obtain ⟨b, ys, rfl, hb, hys⟩ := h2
    rw [dVals_eq] at hys
    have e0 : wVal (.list vs) = [3] ++ wL wVal vs := by rw [← wVals_wL]; simp [wVal]
    rw [e0] at hl q
    rw [List.length_append] at hl
    have hl2 : 1 + (wL wVal vs).length ≤ cap := hl
    have hdl : depL vs ≤ n := by
      rw [Val.dep] at hd
      omega
    walk_at "rd"
    refine r_isi (tx_tup ha) k_tuple_bool ?_
    walk_at "rd"
    refine ite_f rfl ?_
    walk_at "rd"
    refine r_isi (tx_tup ha) k_tuple_int ?_
    walk_at "rd"
    refine ite_f rfl ?_
    walk_at "rd"
    refine r_isi (tx_tup ha) k_tuple_str ?_
    walk_at "rd"
    refine ite_f rfl ?_
    walk_at "rd"
    refine r_ixT ha rfl ?_
    walk_at "rd"
    refine iteS (fun _ => ?_) (fun z => absurd rfl z)
    walk_at "rd"
    refine ⟨le_line rfl, fun p hp => ?_⟩
    have s1 := same_new (o := .lst [V.int 3]) hp
    walk_at "rd"
    refine r_ixT (s1 _ _ ha) rfl ?_
    refine ⟨b, rfl, ⟨_, SqT.of (s1 _ _ hb)⟩, fun D hD => ?_⟩
    refine lc_wg (w := wVal) (d := dVal) (spV_mem hdl) (Wk.tup fun H' s => s _ _ (s1 _ _ hb)) (lt_by rfl) (hys.ts (Tst.same s1)) (by omega) (Nat.le_trans (wL_ge wVal_pos) (by omega)) hD fun H4 ps s4 e4 b4 => ?_
    walk_at "rd"
    refine ⟨D, ps, _, rfl, e4, b4, by rw [wL_len]; omega, fun H6 p6 s6 n6 e6 => ?_⟩
    rw [wL_len] at e6
    exact r_cat (xs := [3]) ((s4.trans s6) _ _ upd_same) e6 (by show 1 + _ ≤ _; omega) fun r hr => q.upd ((s1.trans s4).trans s6) hr rfl
  | make m vs =>
    obtain ⟨a, xs, rfl, ha, x1, _, rfl, h1, x3, _, rfl, h3, x2, _, rfl, h2, rfl⟩ := hv
    obtain rfl : x1 = .str "make" := h1
    obtain rfl : x3 = .str m := h3
    obtain ⟨b, ys, rfl, hb, hys⟩ := h2
    rw [dVals_eq] at hys
    have e0 : wVal (.make m vs) = [4] ++ wStr m ++ wL wVal vs := by rw [← wVals_wL]; simp [wVal]
    rw [e0] at hl q
    rw [List.length_append, List.length_append] at hl
    have hl2 : 1 + (wStr m).length + (wL wVal vs).length ≤ cap := hl
    have hdl : depL vs ≤ n := by
      rw [Val.dep] at hd
      omega
    walk_at "rd"
    refine r_isi (tx_tup ha) k_tuple_bool ?_
    walk_at "rd"
    refine ite_f rfl ?_
    walk_at "rd"
    refine r_isi (tx_tup ha) k_tuple_int ?_
    walk_at "rd"
    refine ite_f rfl ?_
    walk_at "rd"
    refine r_isi (tx_tup ha) k_tuple_str ?_
    walk_at "rd"
    refine ite_f rfl ?_
    walk_at "rd"
    refine r_ixT ha rfl ?_
    walk_at "rd"
    refine iteS (fun e => absurd e (by decide +kernel)) (fun _ => ?_)
    walk_at "rd"
    refine ⟨le_line rfl, fun p hp => ?_⟩
    have s1 := same_new (o := .lst [V.int 4]) hp
    walk_at "rd"
    refine r_ixT (s1 _ _ ha) rfl ?_
    walk_at "rd"
    refine ⟨_, m, rfl, rfl, by omega, fun H2 p2 s2 n2 e2 => ?_⟩
    refine r_cat (xs := [4]) (s2 _ _ upd_same) e2 (by show 1 + _ ≤ _; omega) fun p3 n3 => ?_
    have s3 := (s1.trans s2).trans (same_new (o := bL ([4] ++ wStr m)) n3)
    walk_at "rd"
    refine r_ixT (s3 _ _ ha) rfl ?_
    refine ⟨b, rfl, ⟨_, SqT.of (s3 _ _ hb)⟩, fun D hD => ?_⟩
    refine lc_wg (w := wVal) (d := dVal) (spV_mem hdl) (Wk.tup fun H' s => s _ _ (s3 _ _ hb)) (lt_by rfl) (hys.ts (Tst.same s3)) (by omega) (Nat.le_trans (wL_ge wVal_pos) (by omega)) hD fun H4 ps s4 e4 b4 => ?_
    walk_at "rd"
    refine ⟨D, ps, _, rfl, e4, b4, by rw [wL_len]; omega, fun H6 p6 s6 n6 e6 => ?_⟩
    rw [wL_len] at e6
    exact r_cat ((s4.trans s6) _ _ upd_same) e6 (by rw [List.length_append]; show 1 + _ + _ ≤ _; omega) fun r hr => q.upd ((s3.trans s4).trans s6) hr rfl
theorem ok_write_value (n : Nat) (T : Txt K mg) : Fc P w K mg base CX0 (n + 4) "write_value" ["value"] (spV n) := by
  induction n with
  | zero =>
    -- at depth 0 there is no value: any promise of the def will do
    have dummy : Fc P w K mg base CX0 (0 + 4) "write_value" ["value"] (fun _ _ _ _ => False) := by
      refine ⟨⟨fun vs H Q E h => h.elim, fun A outer s H args us vs Q E hr he hb hv hs => hs.elim⟩, gm_write_value T, (fd_write_value T.says).kp, (fd_write_value T.says).bindsN fun _ _ _ _ _ _ us hl => match us, hl with | [_], _ => rfl⟩
    refine dummy.vac fun vs H Q E h => ?_
    obtain ⟨v, x, _, _, hd, _⟩ := h
    have := dep_pos x
    omega
  | succ n ih => exact ok_write_value_s ih T
/-! ### kinds -/
theorem base_in (z : Str) : inV (.str z) (bases.map V.str) = decide (baseIx z < 3) := by
  show (bases.map V.str).any (fun y => eqV y (.str z)) = _
  unfold bases baseIx
  simp only [List.map_cons, List.map_nil, List.any_cons, List.any_nil, eqV, Bool.or_false]
  by_cases h1 : z = "num"
  · subst h1
    rfl
  · rw [if_neg h1]
    by_cases h2 : z = "text"
    · subst h2
      rfl
    · rw [if_neg h2]
      by_cases h3 : z = "bool"
      · subst h3
        rfl
      · rw [if_neg h3]
        have e1 : (("num" : Str) == z) = false := by simpa using fun e => h1 e.symm
        have e2 : (("text" : Str) == z) = false := by simpa using fun e => h2 e.symm
        have e3 : (("bool" : Str) == z) = false := by simpa using fun e => h3 e.symm
        rw [e1, e2, e3]
        rfl
theorem base_at {z : Str} (h : baseIx z < 3) : bases[baseIx z]? = some z ∧ ∀ m, m < baseIx z → bases[m]? ≠ some z := by
  unfold baseIx at h ⊢
  by_cases h1 : z = "num"
  · subst h1
    exact ⟨rfl, fun m hm => absurd hm (Nat.not_lt_zero m)⟩
  · rw [if_neg h1] at h ⊢
    by_cases h2 : z = "text"
    · subst h2
      refine ⟨rfl, fun m hm => ?_⟩
      match m, hm with
      | 0, _ => exact fun e => h1 (Option.some.inj e).symm
    · rw [if_neg h2] at h ⊢
      by_cases h3 : z = "bool"
      · subst h3
        refine ⟨rfl, fun m hm => ?_⟩
        match m, hm with
        | 0, _ => exact fun e => h1 (Option.some.inj e).symm
        | 1, _ => exact fun e => h2 (Option.some.inj e).symm
      · rw [if_neg h3] at h
        omega
theorem ok_write_kind  (T : Txt K mg) : Fc P w K mg base CX0 (4) "write_kind" ["kind"] (spW wKind dKind) := by
  refine ⟨?_, gm_write_kind T, (fd_write_kind T.says).kp, (fd_write_kind T.says).bindsN fun _ _ _ _ _ _ us hl => match us, hl with | [_], _ => rfl⟩
  refine (fd_write_kind T.says).ok sc_write_kind (fun vs H Q E h => by first | (obtain ⟨_, rfl, _⟩ := h; rfl) | (obtain ⟨_, _, rfl, _⟩ := h; rfl) | (obtain ⟨_, _, _, rfl, _⟩ := h; rfl) | (obtain ⟨_, _, _, _, rfl, _⟩ := h; rfl) | (obtain ⟨_, _, _, _, _, rfl, _⟩ := h; rfl) | (obtain ⟨_, _, _, _, _, _, rfl, _⟩ := h; rfl) | (obtain ⟨_, _, _, _, _, _, _, rfl, _⟩ := h; rfl) | (obtain ⟨_, _, _, _, _, _, _, _, rfl, _⟩ := h; rfl) | (obtain ⟨_, _, _, _, _, _, _, _, _, rfl, _⟩ := h; rfl)) (fun cdv A outer s H vs Q E hr h => ?_)
  obtain ⟨v, k, rfl, hv, hl, q⟩ := h
  obtain ⟨a, xs, rfl, ha, x1, _, rfl, h1, x2, _, rfl, h2, rfl⟩ := hv
  obtain rfl : x1 = .int k.1 := h1
  obtain rfl : x2 = .str k.2 := h2
  refine ⟨_, PSs.nox (pss_cons (ps_asg (pv 0) (pg_tup rfl (pgs_cons (pg_name (i := 1) sc_write_kind.nd rfl (Or.inl rfl)) (pgs_cons (pg_name (i := 2) sc_write_kind.nd rfl (Or.inl rfl)) pgs_nil))))
      (pss_cons (ps_if (pt_cmpR op_in_seq (pv 2) (pe_gr (gm_BASES T) (by rfl)) rfl) (pss_one (ps_ret (pe_op op_cat (pe_f (ok_write_number T) (hr.mono (by omega)) (by rfl) (pa_cons (pv 1) pa_nil)) (pe_lst (pa_cons (pe_bm PySem.F.plainAttrs_tuple PySem.F.slot_tuple_index PySem.F.type_tuple_index mt_tup_index (pe_gr (gm_BASES T) (by rfl)) (pa_cons (pv 2) pa_nil)) pa_nil))))) pss_nil)
      (pss_one (ps_ret (pe_op op_cat (pe_op op_cat (pe_f (ok_write_number T) (hr.mono (by omega)) (by rfl) (pa_cons (pv 1) pa_nil)) (pe_lst (pa_cons (pe_callB call_len_seq (by rfl) (n_len T) PySem.boot_len (pa_cons (pe_gr (gm_BASES T) (by rfl)) pa_nil)) pa_nil))) (pe_f (ok_write_string T) (hr.mono (by omega)) (by rfl) (pa_cons (pv 2) pa_nil))))))), ?_⟩
  walk_at "rd"
  refine r_gtup ha rfl ?_
  walk_at "rd"
  refine ⟨_, _, rfl, .inr (tab_bases T.says H), rfl, rfl, ?_⟩
  walk_at "rd"
  show if inV (.str k.2) (bases.map V.str) = true then _ else _
  rw [base_in]
  refine iteD (fun c => ?_) (fun c => ?_)
  · have e0 : wKind k = wNum k.1 ++ [baseIx k.2] := by unfold wKind; rw [if_pos c]
    rw [e0] at hl q
    rw [List.length_append] at hl
    obtain ⟨b1, b2⟩ := base_at c
    walk_at "rd"
    refine ⟨_, k.1, rfl, rfl, by omega, fun H2 p2 s2 n2 e2 => ?_⟩
    walk_at "rd"
    refine ⟨ty_bases T.says _, ?_⟩
    walk_at "rd"
    refine ⟨_, bases, k.2, baseIx k.2, rfl, rfl, tab_bases T.says _, b1, b2, ?_⟩
    walk_at "rd"
    refine ⟨le_line rfl, fun p hp => ?_⟩
    refine r_cat (ys := [baseIx k.2]) (same_new hp _ _ e2) upd_same (by show _ + 1 ≤ _; omega) fun r hr => q.upd (s2.trans (same_new hp)) hr rfl
  · have e0 : wKind k = wNum k.1 ++ [3] ++ wStr k.2 := by unfold wKind; rw [if_neg c]; simp
    rw [e0] at hl q
    rw [List.length_append, List.length_append] at hl
    walk_at "rd"
    refine ⟨_, k.1, rfl, rfl, by omega, fun H2 p2 s2 n2 e2 => ?_⟩
    walk_at "rd"
    refine ⟨_, _, rfl, .inr (tab_bases T.says _), ?_⟩
    walk_at "rd"
    refine ⟨le_line rfl, fun p hp => ?_⟩
    refine r_cat (ys := [3]) (same_new hp _ _ e2) upd_same (by show _ + 1 ≤ _; omega) fun p3 n3 => ?_
    have s3 := (s2.trans (same_new (o := bL [3]) hp)).trans (same_new (o := bL (wNum k.1 ++ [3])) n3)
    walk_at "rd"
    refine ⟨_, k.2, rfl, rfl, by omega, fun H6 p6 s6 n6 e6 => ?_⟩
    exact r_cat (s6 _ _ upd_same) e6 (by rw [List.length_append]; show _ + 1 + _ ≤ _; have : [3].length = 1 := rfl; omega) fun r hr => q.upd (s3.trans s6) hr rfl
end
end Q

/-! ## W5 -/
set_option Elab.async false
set_option linter.all false
set_option maxRecDepth 100000
set_option maxHeartbeats 4000000
namespace Q
open PySem PySem.Spec PyProof.Rows L2
local macro_rules | `(tactic| walk_at "rd") => `(tactic| repeat (first
  | ((with_reducible apply r_var); focus exact rfl)
  | with_reducible refine r_c ?_
  | with_reducible refine r_chain ?_
  | ((with_reducible apply r_aug); focus exact rfl)
  | with_reducible refine r_ip ?_
  | with_reducible refine r_op ?_
  | with_reducible refine r_I0 ?_
  | with_reducible refine r_cons ?_
  | with_reducible refine r_nil ?_
  | with_reducible refine r_seq ?_
  | with_reducible refine r_asg ?_
  | with_reducible refine r_gn ?_
  | with_reducible refine r_gcons ?_
  | with_reducible refine r_gnil ?_
  | with_reducible refine r_lc ?_
  | with_reducible refine r_m1 ?_
  | with_reducible refine r_sfld ?_
  | with_reducible refine r_sfa ?_
  | with_reducible refine r_rAdd ?_
  | with_reducible refine r_ret ?_
  | with_reducible refine r_ifS ?_
  | with_reducible refine r_test ?_
  | with_reducible refine r_bl ?_
  | with_reducible refine r_B ?_
  | with_reducible refine r_drop ?_
  | with_reducible refine r_bm ?_
  | with_reducible refine r_CB ?_
  | with_reducible refine r_call ?_
  | with_reducible refine r_meth ?_
  | with_reducible refine r_make ?_
  | with_reducible refine r_tup ?_
  | with_reducible refine r_lst ?_
  | ((with_reducible refine r_I ?_ ?_); focus (first | decide | exact ⟨by decide, by decide⟩ | exact .inl ⟨by decide, by decide⟩ | exact .inr ⟨by decide, by decide⟩ | omega))
  | with_reducible refine r_U ?_
  | with_reducible refine r_un ?_
  | with_reducible refine r_and ?_
  | with_reducible refine r_or ?_
  | with_reducible refine r_not ?_
  | with_reducible refine r_andV ?_
  | with_reducible refine r_orV ?_
  | with_reducible refine r_notV ?_
  | with_reducible refine r_if ?_
  | with_reducible refine r_sl ?_
  | with_reducible refine r_part ?_
  | with_reducible refine r_parti ?_
  | with_reducible refine r_nopart ?_
  | with_reducible refine r_il ?_
  | with_reducible refine r_it ?_
  | with_reducible refine r_ir ?_
  | with_reducible refine r_is ?_
  | with_reducible refine r_next ?_
  | with_reducible refine r_retN ?_
  | ((with_reducible refine r_eq ?_ ?_); focus exact rfl)
  | ((with_reducible refine r_ne ?_ ?_); focus exact rfl)))
local macro_rules | `(tactic| walk_at "rx") => `(tactic| repeat (first
  | ((with_reducible apply r_var); focus exact rfl)
  | with_reducible refine r_c ?_
  | with_reducible refine r_chain ?_
  | ((with_reducible apply r_aug); focus exact rfl)
  | with_reducible refine r_ip ?_
  | with_reducible refine r_op ?_
  | with_reducible refine r_I0 ?_
  | with_reducible refine r_cons ?_
  | with_reducible refine r_nil ?_
  | with_reducible refine r_seq ?_
  | with_reducible refine r_asg ?_
  | with_reducible refine r_gn ?_
  | with_reducible refine r_gcons ?_
  | with_reducible refine r_gnil ?_
  | with_reducible refine r_m1 ?_
  | with_reducible refine r_sfld ?_
  | with_reducible refine r_sfa ?_
  | with_reducible refine r_rAdd ?_
  | with_reducible refine r_ret ?_
  | with_reducible refine r_ifS ?_
  | with_reducible refine r_test ?_
  | with_reducible refine r_bl ?_
  | with_reducible refine r_B ?_
  | with_reducible refine r_drop ?_
  | with_reducible refine r_bm ?_
  | with_reducible refine r_CB ?_
  | with_reducible refine r_call ?_
  | with_reducible refine r_make ?_
  | with_reducible refine r_tup ?_
  | with_reducible refine r_lst ?_
  | ((with_reducible refine r_I ?_ ?_); focus (first | decide | exact ⟨by decide, by decide⟩ | exact .inl ⟨by decide, by decide⟩ | exact .inr ⟨by decide, by decide⟩ | omega))
  | with_reducible refine r_U ?_
  | with_reducible refine r_un ?_
  | with_reducible refine r_and ?_
  | with_reducible refine r_or ?_
  | with_reducible refine r_not ?_
  | with_reducible refine r_andV ?_
  | with_reducible refine r_orV ?_
  | with_reducible refine r_notV ?_
  | with_reducible refine r_if ?_
  | with_reducible refine r_sl ?_
  | with_reducible refine r_part ?_
  | with_reducible refine r_parti ?_
  | with_reducible refine r_nopart ?_
  | with_reducible refine r_il ?_
  | with_reducible refine r_it ?_
  | with_reducible refine r_ir ?_
  | with_reducible refine r_is ?_
  | with_reducible refine r_next ?_
  | with_reducible refine r_retN ?_
  | ((with_reducible refine r_eq ?_ ?_); focus exact rfl)
  | ((with_reducible refine r_ne ?_ ?_); focus exact rfl)))
section
variable {P : Program} {w : World} {K : PySem.W.Frag} {mg : Str → Option Value} {base : Heap}
def dMakers (ms : List Maker) : D := .tup (ms.map dMaker)
theorem ok_write_makers  (T : Txt K mg) : Fc P w K mg base CX0 (5) "write_makers" ["makers"] (spW (wL wMaker) dMakers) := by
  refine ⟨?_, gm_write_makers T, (fd_write_makers T.says).kp, (fd_write_makers T.says).bindsN fun _ _ _ _ _ _ us hl => match us, hl with | [_], _ => rfl⟩
  refine (fd_write_makers T.says).ok sc_write_makers (fun vs H Q E h => by first | (obtain ⟨_, rfl, _⟩ := h; rfl) | (obtain ⟨_, _, rfl, _⟩ := h; rfl) | (obtain ⟨_, _, _, rfl, _⟩ := h; rfl) | (obtain ⟨_, _, _, _, rfl, _⟩ := h; rfl) | (obtain ⟨_, _, _, _, _, rfl, _⟩ := h; rfl) | (obtain ⟨_, _, _, _, _, _, rfl, _⟩ := h; rfl) | (obtain ⟨_, _, _, _, _, _, _, rfl, _⟩ := h; rfl) | (obtain ⟨_, _, _, _, _, _, _, _, rfl, _⟩ := h; rfl) | (obtain ⟨_, _, _, _, _, _, _, _, _, rfl, _⟩ := h; rfl)) (fun cdv A outer s H vs Q E hr h => ?_)
  obtain ⟨v, ms, rfl, hv, hl, q⟩ := h
  obtain ⟨m0, ys, rfl, hm, hys⟩ := hv
  refine ⟨_, PSs.nox (pss_cons (ps_set (i := 1) sc_write_makers.nd rfl (Or.inl rfl) (pe_lst pa_nil))
      (pss_cons (ps_for PassesOwn.never rfl (pi_tup (pv 0)) (pg_tup rfl (pgs_cons (pg_name (i := 2) sc_write_makers.nd rfl (Or.inl rfl)) (pgs_cons (pg_name (i := 3) sc_write_makers.nd rfl (Or.inl rfl)) pgs_nil))) (pss_one (ps_expr (pe_bm PySem.F.plainAttrs_list PySem.F.slot_list_append PySem.F.type_list_append mt_append (pv 1) (pa_cons (pe_op op_cat (pe_f (ok_write_string T) (hr.mono (by omega)) (by rfl) (pa_cons (pv 2) pa_nil)) (pe_f (ok_write_list T) (hr.mono (by omega)) (by rfl) (pa_cons (pe_lc (own := [("kind", 4)]) (g := gName 4) (tt := tYes) rfl sc_write_makers.nd (pi_tup (pv 3)) (blkOk_by (N := ["makers", "written", "maker", "kinds", "kind"]) (sc := defScope s_write_makers) (by decide +kernel)) (fun _ _ _ _ _ => (pg_name (i := 4) sc_write_makers.nd rfl (Or.inl rfl))) (fun _ _ _ _ _ => pts_nil) (fun _ _ _ _ _ => (pe_f (ok_write_kind T) (hr.mono (by omega)) (by rfl) (pa_cons (pv 4) pa_nil)))) pa_nil))) pa_nil)))))
      (pss_one (ps_ret (pe_f (ok_write_list T) (hr.mono (by omega)) (by rfl) (pa_cons (pv 1) pa_nil)))))), ?_⟩
  walk_at "rd"
  refine ⟨le_line rfl, fun a ha => ?_⟩
  walk_at "rd"
  have sa := same_new (o := .lst []) ha
  refine ⟨.ref m0, rfl, m0, rfl, ⟨_, SqT.of (sa _ _ hm)⟩, for_any (xs := ys) (Wk.tup (I := Same H) fun H' s => s _ _ hm) (fun i σ H' => ∃ v2 v3 v4 ps, σ = [some (.ref m0), some (.ref a), v2, v3, v4] ∧ Same H H' ∧ H' a = some (.lst (ps.map V.ref)) ∧ BsL H' ps ((ms.map wMaker).take i) ∧ ∀ r ∈ ps, r ≠ a) (fun i σ H' ⟨_, _, _, _, _, s, _⟩ => s)
    ⟨none, none, none, [], rfl, sa, upd_same, ⟨rfl, fun i p bs h => by simp at h⟩, fun p h => by simp at h⟩ ?_ ?_⟩
  · rintro i x σ H' hi ⟨v2, v3, v4, ps, rfl, s, ea, hb, hne⟩
    obtain ⟨d', hd, hx⟩ := hys.at hi
    obtain ⟨t, ht, rfl⟩ := getElem_map_some hd
    have hlt := wL_at (w := wMaker) ht
    obtain ⟨b, xs, rfl, hbt, x1, _, rfl, h1, x2, _, rfl, h2, rfl⟩ := hx
    obtain rfl : x1 = .str t.1 := h1
    obtain ⟨kb, ks, rfl, hkb, hks⟩ := h2
    have hl2 : (wStr t.1).length + (wL wKind t.2).length ≤ cap := by
      rw [← List.length_append]
      exact Nat.le_trans hlt hl
    refine r_gtup (s _ _ hbt) rfl ?_
    walk_at "rd"
    refine ⟨ty_l ea, ?_⟩
    walk_at "rd"
    refine ⟨_, t.1, rfl, rfl, by omega, fun H2 p2 s2 n2 e2 => ?_⟩
    walk_at "rd"
    refine ⟨kb, rfl, ⟨_, SqT.of (s2 _ _ (s _ _ hkb))⟩, fun D hD => ?_⟩
    refine lc_wi (w := wKind) (d := dKind) (Wk.tup fun H' s' => s' _ _ (s2 _ _ (s _ _ hkb))) (lt_by rfl) (hks.ts (Tst.same (s.trans s2))) (by omega) (Nat.le_trans (wL_ge wKind_pos) (by omega)) hD fun H4 qs s4 e4 b4 => ?_
    walk_at "rd"
    refine ⟨D, qs, _, rfl, e4, b4, by rw [wL_len]; omega, fun H6 p6 s6 n6 e6 => ?_⟩
    rw [wL_len] at e6
    have s5 := s4.trans s6
    refine r_cat (s5 _ _ e2) e6 (by omega) fun p7 n7 => ?_
    have s7 := (s2.trans s5).trans (same_new (o := bL (wStr t.1 ++ wL wKind t.2)) n7)
    have npa : p7 ≠ a := fun e => by
      rw [e, (s2.trans s5) _ _ ea] at n7
      cases n7
    obtain ⟨b2, ne2⟩ := BsL.snoc (o := .lst (ps.map V.ref ++ [V.ref p7])) hb hne s7 upd_same npa
    have hps : ps.length ≤ cap := by
      have h8 := hb.len
      rw [List.length_take] at h8
      have h9 := wL_ge (l := ms) wMaker_pos
      rw [List.length_map] at h8
      omega
    refine ⟨a, _, _, rfl, rfl, s7 _ _ ea, by rw [List.length_map]; exact cap_lt hps, ?_⟩
    refine ⟨_, _, _, ps ++ [p7], rfl, same_mut (s.trans s7) ha, ?_, ?_, ne2⟩
    · rw [upd_same, List.map_append] <;> rfl
    · rw [List.take_add_one, List.getElem?_map, ht]
      exact b2
  · rintro σ H' ⟨v2, v3, v4, ps, rfl, s, ea, hb, hne⟩
    have e : (ms.map wMaker).take ys.length = ms.map wMaker := List.take_of_length_le (by rw [hys.length, List.length_map, List.length_map]; exact Nat.le_refl _)
    rw [e] at hb
    walk_at "rd"
    refine ⟨a, ps, _, rfl, ea, hb, by rw [wL_len]; exact hl, fun H2 p2 s2 n2 e2 => ?_⟩
    rw [wL_len] at e2
    exact q.to (s.trans s2) (s.free n2) e2 rfl
theorem ok_write_shape  (T : Txt K mg) : Fc P w K mg base CX0 (6) "write_shape" ["shape"] (spW wShape dShape) := by
  refine ⟨?_, gm_write_shape T, (fd_write_shape T.says).kp, (fd_write_shape T.says).bindsN fun _ _ _ _ _ _ us hl => match us, hl with | [_], _ => rfl⟩
  refine (fd_write_shape T.says).ok sc_write_shape (fun vs H Q E h => by first | (obtain ⟨_, rfl, _⟩ := h; rfl) | (obtain ⟨_, _, rfl, _⟩ := h; rfl) | (obtain ⟨_, _, _, rfl, _⟩ := h; rfl) | (obtain ⟨_, _, _, _, rfl, _⟩ := h; rfl) | (obtain ⟨_, _, _, _, _, rfl, _⟩ := h; rfl) | (obtain ⟨_, _, _, _, _, _, rfl, _⟩ := h; rfl) | (obtain ⟨_, _, _, _, _, _, _, rfl, _⟩ := h; rfl) | (obtain ⟨_, _, _, _, _, _, _, _, rfl, _⟩ := h; rfl) | (obtain ⟨_, _, _, _, _, _, _, _, _, rfl, _⟩ := h; rfl)) (fun cdv A outer s H vs Q E hr h => ?_)
  obtain ⟨v, s, rfl, hv, hl, q⟩ := h
  obtain ⟨a, xs, rfl, ha, x1, _, rfl, h1, x2, _, rfl, h2, rfl⟩ := hv
  obtain ⟨b, ys, rfl, hb, hys⟩ := h2
  have hl2 : (wKind s.1).length + (wL wData s.2).length ≤ cap := by
    rw [← List.length_append]
    exact hl
  refine ⟨_, PSs.nox (pss_cons (ps_asg (pv 0) (pg_tup rfl (pgs_cons (pg_name (i := 1) sc_write_shape.nd rfl (Or.inl rfl)) (pgs_cons (pg_name (i := 2) sc_write_shape.nd rfl (Or.inl rfl)) pgs_nil))))
      (pss_one (ps_ret (pe_op op_cat (pe_f (ok_write_kind T) (hr.mono (by omega)) (by rfl) (pa_cons (pv 1) pa_nil)) (pe_f (ok_write_list T) (hr.mono (by omega)) (by rfl) (pa_cons (pe_lc (own := [("name", 3), ("makers", 4)]) (g := gTup _ 2 (gCons (gName 3) (gCons (gName 4) gNil))) (tt := tYes) rfl sc_write_shape.nd (pi_tup (pv 2)) (blkOk_by (N := ["shape", "kind", "data", "name", "makers"]) (sc := defScope s_write_shape) (by decide +kernel)) (fun _ _ _ _ _ => (pg_tup rfl (pgs_cons (pg_name (i := 3) sc_write_shape.nd rfl (Or.inl rfl)) (pgs_cons (pg_name (i := 4) sc_write_shape.nd rfl (Or.inl rfl)) pgs_nil)))) (fun _ _ _ _ _ => pts_nil) (fun _ _ _ _ _ => (pe_op op_cat (pe_f (ok_write_string T) (hr.mono (by omega)) (by rfl) (pa_cons (pv 3) pa_nil)) (pe_f (ok_write_makers T) (hr.mono (by omega)) (by rfl) (pa_cons (pv 4) pa_nil))))) pa_nil)))))), ?_⟩
  walk_at "rd"
  refine r_gtup ha rfl ?_
  walk_at "rd"
  refine ⟨_, s.1, rfl, h1, by omega, fun H2 p2 s2 n2 e2 => ?_⟩
  walk_at "rd"
  refine ⟨b, rfl, ⟨_, SqT.of (s2 _ _ hb)⟩, fun D hD => ?_⟩
  refine lc_wG (bss := s.2.map wData) (Wk.tup fun H' s' => s' _ _ (s2 _ _ hb)) (by rw [hys.length, List.length_map, List.length_map]) (by rw [List.length_map]; exact Nat.le_trans (wL_ge wData_pos) (by omega)) hD (fun j x bs H4 Qe hx hbs s4 q4 => ?_) fun H4 qs s4 e4 b4 => ?_
  · obtain ⟨d', hd, hx2⟩ := hys.at hx
    obtain ⟨t, ht, rfl⟩ := getElem_map_some hd
    have hlb := mem_wL hbs
    rw [List.getElem?_map, ht] at hbs
    cases hbs
    obtain ⟨c, zs, rfl, hc, y1, _, rfl, g1, y2, _, rfl, g2, rfl⟩ := hx2
    obtain rfl : y1 = .str t.1 := g1
    have hlt : (wStr t.1).length + (wL wMaker t.2).length ≤ cap := by
      rw [← List.length_append]
      exact Nat.le_trans hlb (by omega)
    refine r_gtup ((s2.trans s4) _ _ hc) rfl ?_
    walk_at "rd"
    refine ⟨rfl, ?_⟩
    walk_at "rd"
    refine ⟨_, t.1, rfl, rfl, by omega, fun H6 p6 s6 n6 e6 => ?_⟩
    walk_at "rd"
    refine ⟨y2, t.2, rfl, g2.ts (Tst.same ((s2.trans s4).trans s6)), by omega, fun H8 p8 s8 n8 e8 => ?_⟩
    exact r_cat (s8 _ _ e6) e8 (by omega) fun r hr => q4.upd (s6.trans s8) hr rfl
  · walk_at "rd"
    refine ⟨D, qs, _, rfl, e4, b4, by rw [wL_len]; omega, fun H6 p6 s6 n6 e6 => ?_⟩
    rw [wL_len] at e6
    exact r_cat ((s4.trans s6) _ _ e2) e6 (by omega) fun r hr => q.upd (s2.trans (s4.trans s6)) hr rfl
/-! ### outcomes, cells, groups -/
theorem faults_at {i : Nat} (h : i < 6) : faults[i]? = some (faults.getD i "") ∧ ∀ m, m < i → faults[m]? ≠ some (faults.getD i "") := by
  match i, h with
  | 0, _ => exact ⟨rfl, fun m hm => absurd hm (Nat.not_lt_zero m)⟩
  | 1, _ => exact ⟨rfl, fun m hm => match m, hm with | 0, _ => by decide +kernel⟩
  | 2, _ => exact ⟨rfl, fun m hm => match m, hm with | 0, _ => by decide +kernel | 1, _ => by decide +kernel⟩
  | 3, _ => exact ⟨rfl, fun m hm => match m, hm with | 0, _ => by decide +kernel | 1, _ => by decide +kernel | 2, _ => by decide +kernel⟩
  | 4, _ => exact ⟨rfl, fun m hm => match m, hm with | 0, _ => by decide +kernel | 1, _ => by decide +kernel | 2, _ => by decide +kernel | 3, _ => by decide +kernel⟩
  | 5, _ => exact ⟨rfl, fun m hm => match m, hm with | 0, _ => by decide +kernel | 1, _ => by decide +kernel | 2, _ => by decide +kernel | 3, _ => by decide +kernel | 4, _ => by decide +kernel⟩
theorem faults_miss {i : Nat} (h : i < 6) : faults.getD i "" = "missing" ↔ i = 3 := by
  match i, h with
  | 0, _ => decide +kernel
  | 1, _ => decide +kernel
  | 2, _ => decide +kernel
  | 3, _ => decide +kernel
  | 4, _ => decide +kernel
  | 5, _ => decide +kernel
/-- what a fault tells: its word, and a name -/
theorem flt_inv {H : Hp} {i : Nat} {s : Str} {v : V} (h : Rp H (dFlt i s) v) : ∃ p xs, v = .ref p ∧ H p = some (.tup (.str (faults.getD i "") :: xs)) ∧ (i = 3 → xs = [.str s]) := by
  unfold dFlt at h
  by_cases c : i = 3
  · rw [if_pos c] at h
    obtain ⟨a, xs, rfl, ha, x1, _, rfl, h1, x2, _, rfl, h2, rfl⟩ := h
    obtain rfl : x1 = .str "missing" := h1
    obtain rfl : x2 = .str s := h2
    subst c
    exact ⟨a, _, rfl, ha, fun _ => rfl⟩
  · rw [if_neg c] at h
    obtain ⟨a, xs, rfl, ha, x1, _, rfl, h1, rfl⟩ := h
    obtain rfl : x1 = .str (faults.getD i "") := h1
    exact ⟨a, _, rfl, ha, fun e => absurd e c⟩
def spO : Sp := fun vs H Q _ => ∃ v x, vs = [v] ∧ Rp H (dOut x) v ∧ okO x ∧ (wOut x).length ≤ cap ∧ RetB H Q (wOut x)
theorem ok_write_outcome  (T : Txt K mg) : Fc P w K mg base CX0 (45) "write_outcome" ["outcome"] (spO) := by
  refine ⟨?_, gm_write_outcome T, (fd_write_outcome T.says).kp, (fd_write_outcome T.says).bindsN fun _ _ _ _ _ _ us hl => match us, hl with | [_], _ => rfl⟩
  refine (fd_write_outcome T.says).ok sc_write_outcome (fun vs H Q E h => by first | (obtain ⟨_, rfl, _⟩ := h; rfl) | (obtain ⟨_, _, rfl, _⟩ := h; rfl) | (obtain ⟨_, _, _, rfl, _⟩ := h; rfl) | (obtain ⟨_, _, _, _, rfl, _⟩ := h; rfl) | (obtain ⟨_, _, _, _, _, rfl, _⟩ := h; rfl) | (obtain ⟨_, _, _, _, _, _, rfl, _⟩ := h; rfl) | (obtain ⟨_, _, _, _, _, _, _, rfl, _⟩ := h; rfl) | (obtain ⟨_, _, _, _, _, _, _, _, rfl, _⟩ := h; rfl) | (obtain ⟨_, _, _, _, _, _, _, _, _, rfl, _⟩ := h; rfl)) (fun cdv A outer s H vs Q E hr h => ?_)
  obtain ⟨v, x, rfl, hv, ho, hl, q⟩ := h
  refine ⟨_, PSs.nox (pss_cons (ps_asg (pv 0) (pg_tup rfl (pgs_cons (pg_name (i := 1) sc_write_outcome.nd rfl (Or.inl rfl)) (pgs_cons (pg_name (i := 2) sc_write_outcome.nd rfl (Or.inl rfl)) pgs_nil))))
      (pss_cons (ps_if (pt_cmpR op_eq (pv 1) pe_str (nomark _)) (pss_one (ps_ret (pe_op op_cat (pe_lst (pa_cons pe_int pa_nil)) (pe_f (ok_write_value 40 T) (hr.mono (by omega)) (by rfl) (pa_cons (pv 2) pa_nil))))) pss_nil)
      (pss_cons (ps_set (i := 3) sc_write_outcome.nd rfl (Or.inl rfl) (pe_lst (pa_cons pe_int (pa_cons (pe_bm PySem.F.plainAttrs_tuple PySem.F.slot_tuple_index PySem.F.type_tuple_index mt_tup_index (pe_gr (gm_FAULTS T) (by rfl)) (pa_cons (pe_ix ix_tup (pv 2) pe_int (fun _ _ => rfl)) pa_nil)) pa_nil))))
      (pss_cons (ps_if (pt_cmpR op_eq (pe_ix ix_tup (pv 2) pe_int (fun _ _ => rfl)) pe_str (nomark _)) (pss_one (ps_expr (pe_bm PySem.F.plainAttrs_list PySem.F.slot_list_extend PySem.F.type_list_extend mt_extend (pv 3) (pa_cons (pe_f (ok_write_string T) (hr.mono (by omega)) (by rfl) (pa_cons (pe_ix ix_tup (pv 2) pe_int (fun _ _ => rfl)) pa_nil)) pa_nil)))) pss_nil)
      (pss_one (ps_ret (pv 3))))))), ?_⟩
  cases x with
  | val u =>
    obtain ⟨a, xs, rfl, ha, x1, _, rfl, h1, x2, _, rfl, h2, rfl⟩ := hv
    obtain rfl : x1 = .str "value" := h1
    have hl2 : (wVal u).length + 1 ≤ cap := hl
    walk_at "rd"
    refine r_gtup ha rfl ?_
    walk_at "rd"
    refine iteS (fun _ => ?_) (fun z => absurd rfl z)
    walk_at "rd"
    refine ⟨le_line rfl, fun p hp => ?_⟩
    walk_at "rd"
    refine ⟨x2, u, rfl, h2.ts (Tst.same (same_new hp)), ho.1, by omega, fun H2 p2 s2 n2 e2 => ?_⟩
    exact r_cat (xs := [0]) (s2 _ _ upd_same) e2 (by show 1 + _ ≤ _; omega) fun r hr => q.upd ((same_new hp).trans s2) hr rfl
  | flt i z =>
    obtain ⟨a, xs, rfl, ha, x1, _, rfl, h1, x2, _, rfl, h2, rfl⟩ := hv
    obtain rfl : x1 = .str "fault" := h1
    obtain ⟨b, ys, rfl, hb, h3⟩ := flt_inv h2
    obtain ⟨f1, f2⟩ := faults_at ho.1
    have hm := faults_miss ho.1
    walk_at "rd"
    refine r_gtup ha rfl ?_
    walk_at "rd"
    refine iteS (fun e => absurd e (by decide +kernel)) (fun _ => ?_)
    walk_at "rd"
    refine ⟨ty_faults T.says _, ?_⟩
    walk_at "rd"
    refine r_ixT hb (atI_nat (j := 0) rfl) ?_
    walk_at "rd"
    refine ⟨_, faults, _, i, rfl, rfl, tab_faults T.says _, f1, f2, ?_⟩
    walk_at "rd"
    refine ⟨le_line rfl, fun p hp => ?_⟩
    have s1 := same_new (o := .lst [V.int 1, V.int i]) hp
    walk_at "rd"
    refine r_ixT (s1 _ _ hb) (atI_nat (j := 0) rfl) ?_
    walk_at "rd"
    refine iteS (fun e => ?_) (fun e => ?_)
    · have hi := hm.mp e
      subst hi
      have e0 : wOut (.flt 3 z) = [1, 3] ++ wStr z := rfl
      rw [e0] at hl q
      rw [List.length_append] at hl
      have hl2 : 2 + (wStr z).length ≤ cap := hl
      obtain rfl := h3 rfl
      walk_at "rd"
      refine ⟨ty_l upd_same, ?_⟩
      walk_at "rd"
      refine r_ixT (s1 _ _ hb) rfl ?_
      walk_at "rd"
      refine ⟨_, z, rfl, rfl, by omega, fun H2 p2 s2 n2 e2 => ?_⟩
      walk_at "rd"
      refine r_extend (xs := [1, 3]) (s2 _ _ upd_same) e2 (by show 2 + _ ≤ _; omega) ?_
      walk_at "rd"
      exact q.to (same_mut (s1.trans s2) hp) hp upd_same rfl
    · have e0 : wOut (.flt i z) = [1, i] := by
        show (if i = 3 then _ else _) = _
        rw [if_neg (fun c => e (hm.mpr c))]
      rw [e0] at q
      walk_at "rd"
      exact q.to s1 hp (upd_same (o := bL [1, i])) rfl
def spCl : Sp := fun vs H Q _ => ∃ v1 v2 v3 c, vs = [v1, v2, v3] ∧ v1 = .str c.1 ∧ Rp H (dShape c.2.1) v2 ∧ Rp H (dOut c.2.2) v3 ∧ okO c.2.2 ∧ (wCell c).length ≤ cap ∧ RetB H Q (wCell c)
theorem ok_write_cell  (T : Txt K mg) : Fc P w K mg base CX0 (46) "write_cell" ["name", "shape", "outcome"] (spCl) := by
  refine ⟨?_, gm_write_cell T, (fd_write_cell T.says).kp, (fd_write_cell T.says).bindsN fun _ _ _ _ _ _ us hl => match us, hl with | [_, _, _], _ => rfl⟩
  refine (fd_write_cell T.says).ok sc_write_cell (fun vs H Q E h => by first | (obtain ⟨_, rfl, _⟩ := h; rfl) | (obtain ⟨_, _, rfl, _⟩ := h; rfl) | (obtain ⟨_, _, _, rfl, _⟩ := h; rfl) | (obtain ⟨_, _, _, _, rfl, _⟩ := h; rfl) | (obtain ⟨_, _, _, _, _, rfl, _⟩ := h; rfl) | (obtain ⟨_, _, _, _, _, _, rfl, _⟩ := h; rfl) | (obtain ⟨_, _, _, _, _, _, _, rfl, _⟩ := h; rfl) | (obtain ⟨_, _, _, _, _, _, _, _, rfl, _⟩ := h; rfl) | (obtain ⟨_, _, _, _, _, _, _, _, _, rfl, _⟩ := h; rfl)) (fun cdv A outer s H vs Q E hr h => ?_)
  obtain ⟨v1, v2, v3, c, rfl, rfl, h2, h3, ho, hl, q⟩ := h
  have hl2 : (wStr c.1).length + ((wShape c.2.1).length + (wOut c.2.2).length) ≤ cap := by
    rw [← List.length_append, ← List.length_append]
    exact hl
  refine ⟨_, PSs.nox (pss_one (ps_ret (pe_op op_cat (pe_op op_cat (pe_f (ok_write_string T) (hr.mono (by omega)) (by rfl) (pa_cons (pv 0) pa_nil)) (pe_f (ok_write_shape T) (hr.mono (by omega)) (by rfl) (pa_cons (pv 1) pa_nil))) (pe_f (ok_write_outcome T) (hr.mono (by omega)) (by rfl) (pa_cons (pv 2) pa_nil))))), ?_⟩
  walk_at "rd"
  refine ⟨_, c.1, rfl, rfl, by omega, fun H2 p2 s2 n2 e2 => ?_⟩
  walk_at "rd"
  refine ⟨_, c.2.1, rfl, h2.ts (Tst.same s2), by omega, fun H4 p4 s4 n4 e4 => ?_⟩
  refine r_cat (s4 _ _ e2) e4 (by omega) fun p5 n5 => ?_
  have s5 := (s2.trans s4).trans (same_new (o := bL (wStr c.1 ++ wShape c.2.1)) n5)
  walk_at "rd"
  refine ⟨_, c.2.2, rfl, h3.ts (Tst.same s5), ho, by omega, fun H6 p6 s6 n6 e6 => ?_⟩
  exact r_cat (s6 _ _ upd_same) e6 (by rw [List.length_append]; omega) fun r hr => q.upd (s5.trans s6) hr (by simp [wCell])
def spCs : Sp := fun vs H Q _ => ∃ l ys cs, vs = [.ref l] ∧ H l = some (.lst ys) ∧ RpL H (cs.map dCell) ys ∧ (∀ c ∈ cs, okO c.2.2) ∧ (wL wCell cs).length ≤ cap ∧ RetB H Q (wL wCell cs)
theorem ok_write_cells  (T : Txt K mg) : Fc P w K mg base CX0 (47) "write_cells" ["cells"] (spCs) := by
  refine ⟨?_, gm_write_cells T, (fd_write_cells T.says).kp, (fd_write_cells T.says).bindsN fun _ _ _ _ _ _ us hl => match us, hl with | [_], _ => rfl⟩
  refine (fd_write_cells T.says).ok sc_write_cells (fun vs H Q E h => by first | (obtain ⟨_, rfl, _⟩ := h; rfl) | (obtain ⟨_, _, rfl, _⟩ := h; rfl) | (obtain ⟨_, _, _, rfl, _⟩ := h; rfl) | (obtain ⟨_, _, _, _, rfl, _⟩ := h; rfl) | (obtain ⟨_, _, _, _, _, rfl, _⟩ := h; rfl) | (obtain ⟨_, _, _, _, _, _, rfl, _⟩ := h; rfl) | (obtain ⟨_, _, _, _, _, _, _, rfl, _⟩ := h; rfl) | (obtain ⟨_, _, _, _, _, _, _, _, rfl, _⟩ := h; rfl) | (obtain ⟨_, _, _, _, _, _, _, _, _, rfl, _⟩ := h; rfl)) (fun cdv A outer s H vs Q E hr h => ?_)
  obtain ⟨l, ys, cs, rfl, hb, hys, ho, hl, q⟩ := h
  refine ⟨_, PSs.nox (pss_one (ps_ret (pe_f (ok_write_list T) (hr.mono (by omega)) (by rfl) (pa_cons (pe_lc (own := [("name", 1), ("shape", 2), ("outcome", 3)]) (g := gTup _ 3 (gCons (gName 1) (gCons (gName 2) (gCons (gName 3) gNil)))) (tt := tYes) rfl sc_write_cells.nd (pi_list (pv 0)) (blkOk_by (N := ["cells", "name", "shape", "outcome"]) (sc := defScope s_write_cells) (by decide +kernel)) (fun _ _ _ _ _ => (pg_tup rfl (pgs_cons (pg_name (i := 1) sc_write_cells.nd rfl (Or.inl rfl)) (pgs_cons (pg_name (i := 2) sc_write_cells.nd rfl (Or.inl rfl)) (pgs_cons (pg_name (i := 3) sc_write_cells.nd rfl (Or.inl rfl)) pgs_nil))))) (fun _ _ _ _ _ => pts_nil) (fun _ _ _ _ _ => (pe_f (ok_write_cell T) (hr.mono (by omega)) (by rfl) (pa_cons (pv 1) (pa_cons (pv 2) (pa_cons (pv 3) pa_nil)))))) pa_nil)))), ?_⟩
  walk_at "rd"
  refine ⟨l, rfl, ⟨_, SqL.of hb⟩, fun D hD => ?_⟩
  refine lc_wG (bss := cs.map wCell) (Wk.lst fun H' s' => s' _ _ hb) (by rw [hys.length, List.length_map, List.length_map]) (by rw [List.length_map]; exact Nat.le_trans (wL_ge wCell_pos) (by omega)) hD (fun j x bs H4 Qe hx hbs s4 q4 => ?_) fun H4 qs s4 e4 b4 => ?_
  · obtain ⟨d', hd, hx2⟩ := hys.at hx
    obtain ⟨t, ht, rfl⟩ := getElem_map_some hd
    have hlb := mem_wL hbs
    rw [List.getElem?_map, ht] at hbs
    cases hbs
    obtain ⟨c, zs, rfl, hc, y1, _, rfl, g1, y2, _, rfl, g2, y3, _, rfl, g3, rfl⟩ := hx2
    obtain rfl : y1 = .str t.1 := g1
    refine r_gtup (s4 _ _ hc) rfl ?_
    walk_at "rd"
    refine ⟨rfl, ?_⟩
    walk_at "rd"
    exact ⟨_, y2, y3, t, rfl, rfl, g2.ts (Tst.same s4), g3.ts (Tst.same s4), ho t (List.mem_of_getElem? ht), Nat.le_trans hlb hl, q4⟩
  · walk_at "rd"
    refine ⟨D, qs, _, rfl, e4, b4, by rw [wL_len]; omega, fun H6 p6 s6 n6 e6 => ?_⟩
    rw [wL_len] at e6
    exact q.to (s4.trans s6) (s4.free n6) e6 rfl
def spGr : Sp := fun vs H Q _ => ∃ l1 l2 ys zs ts cs, vs = [.ref l1, .ref l2] ∧ H l1 = some (.lst ys) ∧ RpL H (ts.map dTrip) ys ∧ H l2 = some (.lst zs) ∧ RpL H (cs.map dCell) zs ∧ (∀ c ∈ cs, okO c.2.2) ∧ (wGroup ts cs).length ≤ cap ∧ RetB H Q (wGroup ts cs)
theorem ok_write_group  (T : Txt K mg) : Fc P w K mg base CX0 (48) "write_group" ["triples", "cells"] (spGr) := by
  refine ⟨?_, gm_write_group T, (fd_write_group T.says).kp, (fd_write_group T.says).bindsN fun _ _ _ _ _ _ us hl => match us, hl with | [_, _], _ => rfl⟩
  refine (fd_write_group T.says).ok sc_write_group (fun vs H Q E h => by first | (obtain ⟨_, rfl, _⟩ := h; rfl) | (obtain ⟨_, _, rfl, _⟩ := h; rfl) | (obtain ⟨_, _, _, rfl, _⟩ := h; rfl) | (obtain ⟨_, _, _, _, rfl, _⟩ := h; rfl) | (obtain ⟨_, _, _, _, _, rfl, _⟩ := h; rfl) | (obtain ⟨_, _, _, _, _, _, rfl, _⟩ := h; rfl) | (obtain ⟨_, _, _, _, _, _, _, rfl, _⟩ := h; rfl) | (obtain ⟨_, _, _, _, _, _, _, _, rfl, _⟩ := h; rfl) | (obtain ⟨_, _, _, _, _, _, _, _, _, rfl, _⟩ := h; rfl)) (fun cdv A outer s H vs Q E hr h => ?_)
  obtain ⟨l1, l2, ys, zs, ts, cs, rfl, h1, hy, h2, hz, ho, hl, q⟩ := h
  have hl2 : (wL wTrip ts).length + (wL wCell cs).length ≤ cap := by
    rw [← List.length_append]
    exact hl
  refine ⟨_, PSs.nox (pss_one (ps_ret (pe_op op_cat (pe_f (ok_write_triples T) (hr.mono (by omega)) (by rfl) (pa_cons (pv 0) pa_nil)) (pe_f (ok_write_cells T) (hr.mono (by omega)) (by rfl) (pa_cons (pv 1) pa_nil))))), ?_⟩
  walk_at "rd"
  refine ⟨l1, ys, ts, rfl, h1, hy, by omega, fun H2 p2 s2 n2 e2 => ?_⟩
  walk_at "rd"
  refine ⟨l2, zs, cs, rfl, s2 _ _ h2, hz.ts (Tst.same s2), ho, by omega, fun H4 p4 s4 n4 e4 => ?_⟩
  exact r_cat (s4 _ _ e2) e4 (by omega) fun r hr => q.upd (s2.trans s4) hr rfl
end
end Q

/-! ## C1 -/
set_option Elab.async false
set_option linter.all false
set_option maxRecDepth 100000
set_option maxHeartbeats 4000000
namespace Q
open PySem PySem.Spec PyProof.Rows L2
local macro_rules | `(tactic| walk_at "rd") => `(tactic| repeat (first
  | ((with_reducible apply r_var); focus exact rfl)
  | with_reducible refine r_c ?_
  | with_reducible refine r_chain ?_
  | ((with_reducible apply r_aug); focus exact rfl)
  | with_reducible refine r_ip ?_
  | with_reducible refine r_op ?_
  | with_reducible refine r_I0 ?_
  | with_reducible refine r_cons ?_
  | with_reducible refine r_nil ?_
  | with_reducible refine r_seq ?_
  | with_reducible refine r_asg ?_
  | with_reducible refine r_gn ?_
  | with_reducible refine r_gcons ?_
  | with_reducible refine r_gnil ?_
  | with_reducible refine r_lc ?_
  | with_reducible refine r_m1 ?_
  | with_reducible refine r_sfld ?_
  | with_reducible refine r_sfa ?_
  | with_reducible refine r_rAdd ?_
  | with_reducible refine r_ret ?_
  | with_reducible refine r_ifS ?_
  | with_reducible refine r_test ?_
  | with_reducible refine r_bl ?_
  | with_reducible refine r_B ?_
  | with_reducible refine r_drop ?_
  | with_reducible refine r_bm ?_
  | with_reducible refine r_CB ?_
  | with_reducible refine r_call ?_
  | with_reducible refine r_meth ?_
  | with_reducible refine r_make ?_
  | with_reducible refine r_tup ?_
  | with_reducible refine r_lst ?_
  | ((with_reducible refine r_I ?_ ?_); focus (first | decide | exact ⟨by decide, by decide⟩ | exact .inl ⟨by decide, by decide⟩ | exact .inr ⟨by decide, by decide⟩ | omega))
  | with_reducible refine r_U ?_
  | with_reducible refine r_un ?_
  | with_reducible refine r_and ?_
  | with_reducible refine r_or ?_
  | with_reducible refine r_not ?_
  | with_reducible refine r_andV ?_
  | with_reducible refine r_orV ?_
  | with_reducible refine r_notV ?_
  | with_reducible refine r_if ?_
  | with_reducible refine r_sl ?_
  | with_reducible refine r_part ?_
  | with_reducible refine r_parti ?_
  | with_reducible refine r_nopart ?_
  | with_reducible refine r_il ?_
  | with_reducible refine r_it ?_
  | with_reducible refine r_ir ?_
  | with_reducible refine r_is ?_
  | with_reducible refine r_next ?_
  | with_reducible refine r_retN ?_
  | ((with_reducible refine r_eq ?_ ?_); focus exact rfl)
  | ((with_reducible refine r_ne ?_ ?_); focus exact rfl)))
local macro_rules | `(tactic| walk_at "rx") => `(tactic| repeat (first
  | ((with_reducible apply r_var); focus exact rfl)
  | with_reducible refine r_c ?_
  | with_reducible refine r_chain ?_
  | ((with_reducible apply r_aug); focus exact rfl)
  | with_reducible refine r_ip ?_
  | with_reducible refine r_op ?_
  | with_reducible refine r_I0 ?_
  | with_reducible refine r_cons ?_
  | with_reducible refine r_nil ?_
  | with_reducible refine r_seq ?_
  | with_reducible refine r_asg ?_
  | with_reducible refine r_gn ?_
  | with_reducible refine r_gcons ?_
  | with_reducible refine r_gnil ?_
  | with_reducible refine r_m1 ?_
  | with_reducible refine r_sfld ?_
  | with_reducible refine r_sfa ?_
  | with_reducible refine r_rAdd ?_
  | with_reducible refine r_ret ?_
  | with_reducible refine r_ifS ?_
  | with_reducible refine r_test ?_
  | with_reducible refine r_bl ?_
  | with_reducible refine r_B ?_
  | with_reducible refine r_drop ?_
  | with_reducible refine r_bm ?_
  | with_reducible refine r_CB ?_
  | with_reducible refine r_call ?_
  | with_reducible refine r_make ?_
  | with_reducible refine r_tup ?_
  | with_reducible refine r_lst ?_
  | ((with_reducible refine r_I ?_ ?_); focus (first | decide | exact ⟨by decide, by decide⟩ | exact .inl ⟨by decide, by decide⟩ | exact .inr ⟨by decide, by decide⟩ | omega))
  | with_reducible refine r_U ?_
  | with_reducible refine r_un ?_
  | with_reducible refine r_and ?_
  | with_reducible refine r_or ?_
  | with_reducible refine r_not ?_
  | with_reducible refine r_andV ?_
  | with_reducible refine r_orV ?_
  | with_reducible refine r_notV ?_
  | with_reducible refine r_if ?_
  | with_reducible refine r_sl ?_
  | with_reducible refine r_part ?_
  | with_reducible refine r_parti ?_
  | with_reducible refine r_nopart ?_
  | with_reducible refine r_il ?_
  | with_reducible refine r_it ?_
  | with_reducible refine r_ir ?_
  | with_reducible refine r_is ?_
  | with_reducible refine r_next ?_
  | with_reducible refine r_retN ?_
  | ((with_reducible refine r_eq ?_ ?_); focus exact rfl)
  | ((with_reducible refine r_ne ?_ ?_); focus exact rfl)))
section
variable {P : Program} {w : World} {K : PySem.W.Frag} {mg : Str → Option Value} {base : Heap}
def lawChars : Str := " !\"#$&'()*+,-./0123456789:;<=>?@ABCDEFGHIJKLMNOPQRSTUVWXYZ[\\]^_`abcdefghijklmnopqrstuvwxyz{|}~"
def ixCh (c : Nat) : Nat := if c ≤ 36 then c - 32 else c - 33
theorem occ_all : ∀ c ∈ List.range 127, okCh c → c ≠ 10 → Builtin.Str.occurrences lawChars ⟨#[c]⟩ 0 lawChars.length 1 = [ixCh c] := by decide +kernel
theorem chr_all : ∀ c ∈ List.range 127, okCh c → decide (c ∈ lawChars.cps.toList) = decide (c ≠ 10) := by decide +kernel
theorem okCh_lt {c : Nat} (h : okCh c) : c ∈ List.range 127 := by
  rw [List.mem_range]
  unfold okCh at h
  omega
theorem wNum_ch {c : Nat} (h : okCh c) : wNum c = [c] := wNum_lt (by unfold okCh at h; omega)
end
end Q

/-! ## W6 -/
set_option Elab.async false
set_option linter.all false
set_option maxRecDepth 100000
set_option maxHeartbeats 4000000
namespace Q
open PySem PySem.Spec PyProof.Rows L2
local macro_rules | `(tactic| walk_at "rd") => `(tactic| repeat (first
  | ((with_reducible apply r_var); focus exact rfl)
  | with_reducible refine r_c ?_
  | with_reducible refine r_chain ?_
  | ((with_reducible apply r_aug); focus exact rfl)
  | with_reducible refine r_ip ?_
  | with_reducible refine r_op ?_
  | with_reducible refine r_I0 ?_
  | with_reducible refine r_cons ?_
  | with_reducible refine r_nil ?_
  | with_reducible refine r_seq ?_
  | with_reducible refine r_asg ?_
  | with_reducible refine r_gn ?_
  | with_reducible refine r_gcons ?_
  | with_reducible refine r_gnil ?_
  | with_reducible refine r_lc ?_
  | with_reducible refine r_m1 ?_
  | with_reducible refine r_sfld ?_
  | with_reducible refine r_sfa ?_
  | with_reducible refine r_rAdd ?_
  | with_reducible refine r_ret ?_
  | with_reducible refine r_ifS ?_
  | with_reducible refine r_test ?_
  | with_reducible refine r_bl ?_
  | with_reducible refine r_B ?_
  | with_reducible refine r_drop ?_
  | with_reducible refine r_bm ?_
  | with_reducible refine r_CB ?_
  | with_reducible refine r_call ?_
  | with_reducible refine r_meth ?_
  | with_reducible refine r_make ?_
  | with_reducible refine r_tup ?_
  | with_reducible refine r_lst ?_
  | ((with_reducible refine r_I ?_ ?_); focus (first | decide | exact ⟨by decide, by decide⟩ | exact .inl ⟨by decide, by decide⟩ | exact .inr ⟨by decide, by decide⟩ | omega))
  | with_reducible refine r_U ?_
  | with_reducible refine r_un ?_
  | with_reducible refine r_and ?_
  | with_reducible refine r_or ?_
  | with_reducible refine r_not ?_
  | with_reducible refine r_andV ?_
  | with_reducible refine r_orV ?_
  | with_reducible refine r_notV ?_
  | with_reducible refine r_if ?_
  | with_reducible refine r_sl ?_
  | with_reducible refine r_part ?_
  | with_reducible refine r_parti ?_
  | with_reducible refine r_nopart ?_
  | with_reducible refine r_il ?_
  | with_reducible refine r_it ?_
  | with_reducible refine r_ir ?_
  | with_reducible refine r_is ?_
  | with_reducible refine r_next ?_
  | with_reducible refine r_retN ?_
  | ((with_reducible refine r_eq ?_ ?_); focus exact rfl)
  | ((with_reducible refine r_ne ?_ ?_); focus exact rfl)))
local macro_rules | `(tactic| walk_at "rx") => `(tactic| repeat (first
  | ((with_reducible apply r_var); focus exact rfl)
  | with_reducible refine r_c ?_
  | with_reducible refine r_chain ?_
  | ((with_reducible apply r_aug); focus exact rfl)
  | with_reducible refine r_ip ?_
  | with_reducible refine r_op ?_
  | with_reducible refine r_I0 ?_
  | with_reducible refine r_cons ?_
  | with_reducible refine r_nil ?_
  | with_reducible refine r_seq ?_
  | with_reducible refine r_asg ?_
  | with_reducible refine r_gn ?_
  | with_reducible refine r_gcons ?_
  | with_reducible refine r_gnil ?_
  | with_reducible refine r_m1 ?_
  | with_reducible refine r_sfld ?_
  | with_reducible refine r_sfa ?_
  | with_reducible refine r_rAdd ?_
  | with_reducible refine r_ret ?_
  | with_reducible refine r_ifS ?_
  | with_reducible refine r_test ?_
  | with_reducible refine r_bl ?_
  | with_reducible refine r_B ?_
  | with_reducible refine r_drop ?_
  | with_reducible refine r_bm ?_
  | with_reducible refine r_CB ?_
  | with_reducible refine r_call ?_
  | with_reducible refine r_make ?_
  | with_reducible refine r_tup ?_
  | with_reducible refine r_lst ?_
  | ((with_reducible refine r_I ?_ ?_); focus (first | decide | exact ⟨by decide, by decide⟩ | exact .inl ⟨by decide, by decide⟩ | exact .inr ⟨by decide, by decide⟩ | omega))
  | with_reducible refine r_U ?_
  | with_reducible refine r_un ?_
  | with_reducible refine r_and ?_
  | with_reducible refine r_or ?_
  | with_reducible refine r_not ?_
  | with_reducible refine r_andV ?_
  | with_reducible refine r_orV ?_
  | with_reducible refine r_notV ?_
  | with_reducible refine r_if ?_
  | with_reducible refine r_sl ?_
  | with_reducible refine r_part ?_
  | with_reducible refine r_parti ?_
  | with_reducible refine r_nopart ?_
  | with_reducible refine r_il ?_
  | with_reducible refine r_it ?_
  | with_reducible refine r_ir ?_
  | with_reducible refine r_is ?_
  | with_reducible refine r_next ?_
  | with_reducible refine r_retN ?_
  | ((with_reducible refine r_eq ?_ ?_); focus exact rfl)
  | ((with_reducible refine r_ne ?_ ?_); focus exact rfl)))
section
variable {P : Program} {w : World} {K : PySem.W.Frag} {mg : Str → Option Value} {base : Heap}
/-- a writer that wants good data -/
def spWo {α : Type} (w : α → List Nat) (d : α → D) (ok : α → Prop) : Sp := fun vs H Q _ => ∃ v x, vs = [v] ∧ Rp H (d x) v ∧ ok x ∧ (w x).length ≤ cap ∧ RetB H Q (w x)
theorem ok_law_number  (T : Txt K mg) : Fc P w K mg base CX0 (1) "_law_number" ["_law_number_here"] (spW wNum dNum) := by
  refine ⟨?_, gm_law_number T, (fd_law_number T.says).kp, (fd_law_number T.says).bindsN fun _ _ _ _ _ _ us hl => match us, hl with | [_], _ => rfl⟩
  refine (fd_law_number T.says).ok sc_law_number (fun vs H Q E h => by first | (obtain ⟨_, rfl, _⟩ := h; rfl) | (obtain ⟨_, _, rfl, _⟩ := h; rfl) | (obtain ⟨_, _, _, rfl, _⟩ := h; rfl) | (obtain ⟨_, _, _, _, rfl, _⟩ := h; rfl) | (obtain ⟨_, _, _, _, _, rfl, _⟩ := h; rfl) | (obtain ⟨_, _, _, _, _, _, rfl, _⟩ := h; rfl) | (obtain ⟨_, _, _, _, _, _, _, rfl, _⟩ := h; rfl) | (obtain ⟨_, _, _, _, _, _, _, _, rfl, _⟩ := h; rfl) | (obtain ⟨_, _, _, _, _, _, _, _, _, rfl, _⟩ := h; rfl)) (fun cdv A outer s H vs Q E hr h => ?_)
  obtain ⟨v, n, rfl, hv, hl, q⟩ := h
  obtain rfl : v = .int n := hv
  refine ⟨_, PSs.nox (pss_cons (ps_set (i := 1) sc_law_number.nd rfl (Or.inl rfl) (pe_lst pa_nil))
      (pss_cons (ps_while PassesOwn.never (pt_cmpR op_gt (pv 0) pe_int (nomark _)) (pss_cons (ps_expr (pe_bm PySem.F.plainAttrs_list PySem.F.slot_list_append PySem.F.type_list_append mt_append (pv 1) (pa_cons (pe_op op_add pe_int (pe_op op_mod (pv 0) pe_int)) pa_nil)))
      (pss_one (ps_set (i := 0) sc_law_number.nd rfl (Or.inl rfl) (pe_op op_fdiv (pv 0) pe_int)))))
      (pss_one (ps_ret (pe_op op_cat (pv 1) (pe_lst (pa_cons (pv 0) pa_nil))))))), ?_⟩
  walk_at "rd"
  refine ⟨Nat.zero_le _, fun a ha => ?_⟩
  walk_at "rd"
  refine ⟨fun m σ H' => ∃ pre, σ = [some (.int (m : Nat)), some (.ref a)] ∧ pre ++ wNum m = wNum n ∧ Same H H' ∧ H' a = some (bL pre), ⟨n, [], rfl, rfl, same_new ha, upd_same⟩, ?_⟩
  rintro m σ H' ⟨pre, rfl, e, s, ea⟩
  have hlen : pre.length ≤ cap := by
    rw [← e, List.length_append] at hl
    omega
  walk_at "rd"
  refine iteD (fun c => ?_) (fun c => ?_)
  · have hm : ¬ m < 128 := by omega
    refine ⟨fun σ' H' => ∃ pre, σ' = [some (.int (m / 128 : Nat)), some (.ref a)] ∧ pre ++ wNum (m / 128) = wNum n ∧ Same H H' ∧ H' a = some (bL pre), fun σ' H' h => ⟨m / 128, by omega, h⟩, ?_⟩
    walk_at "rd"
    refine ⟨ty_l ea, ?_⟩
    walk_at "rd"
    refine r_append (n := m % 128 + 128) ea hlen (by omega) ?_
    walk_at "rd"
    refine ⟨pre ++ [m % 128 + 128], rfl, ?_, same_mut s ha, upd_same⟩
    rw [← e, wNum_ge hm, List.append_assoc]
    rfl
  · walk_at "rd"
    refine ⟨le_line rfl, fun p hp => ?_⟩
    have nap : a ≠ p := ne_of_none ea hp
    refine r_cat (xs := pre) (ys := [m]) (by rw [upd_ne nap]; exact ea) upd_same (by show pre.length + 1 ≤ _; omega) fun r hr => ?_
    refine q.upd (s.trans (same_new hp)) hr ?_
    rw [← e, wNum_lt (show m < 128 by omega)]
theorem ok_law_listed  (T : Txt K mg) : Fc P w K mg base CX0 (2) "_law_listed" ["_law_parts"] (spWL) := by
  refine ⟨?_, gm_law_listed T, (fd_law_listed T.says).kp, (fd_law_listed T.says).bindsN fun _ _ _ _ _ _ us hl => match us, hl with | [_], _ => rfl⟩
  refine (fd_law_listed T.says).ok sc_law_listed (fun vs H Q E h => by first | (obtain ⟨_, rfl, _⟩ := h; rfl) | (obtain ⟨_, _, rfl, _⟩ := h; rfl) | (obtain ⟨_, _, _, rfl, _⟩ := h; rfl) | (obtain ⟨_, _, _, _, rfl, _⟩ := h; rfl) | (obtain ⟨_, _, _, _, _, rfl, _⟩ := h; rfl) | (obtain ⟨_, _, _, _, _, _, rfl, _⟩ := h; rfl) | (obtain ⟨_, _, _, _, _, _, _, rfl, _⟩ := h; rfl) | (obtain ⟨_, _, _, _, _, _, _, _, rfl, _⟩ := h; rfl) | (obtain ⟨_, _, _, _, _, _, _, _, _, rfl, _⟩ := h; rfl)) (fun cdv A outer s H vs Q E hr h => ?_)
  obtain ⟨l, ps, bss, rfl, hlst, hb, hl, q⟩ := h
  have hl2 : (wNum bss.length).length + bss.flatten.length ≤ cap := by
    rw [← List.length_append]
    exact hl
  refine ⟨_, PSs.nox (pss_cons (ps_set (i := 1) sc_law_listed.nd rfl (Or.inl rfl) (pe_f (ok_law_number T) (hr.mono (by omega)) (by rfl) (pa_cons (pe_callB call_len_seq (by rfl) (n_len T) PySem.boot_len (pa_cons (pv 0) pa_nil)) pa_nil)))
      (pss_cons (ps_for PassesOwn.never rfl (pi_list (pv 0)) (pg_name (i := 2) sc_law_listed.nd rfl (Or.inl rfl)) (pss_one (ps_set (i := 1) sc_law_listed.nd rfl (Or.inl rfl) (pe_op op_cat (pv 1) (pv 2)))))
      (pss_one (ps_ret (pv 1))))), ?_⟩
  walk_at "rd"
  refine ⟨l, _, rfl, .inl (SqL.of hlst), ?_⟩
  walk_at "rd"
  refine ⟨_, bss.length, rfl, ?_, by omega, fun H1 a s1 n1 e1 => ?_⟩
  · show V.int _ = V.int _
    rw [List.length_map, hb.len]
  · walk_at "rd"
    refine ⟨.ref l, rfl, l, rfl, ⟨_, SqL.of (s1 _ _ hlst)⟩, for_list (K := K) (a := l) (xs := ps.map V.ref) (fun i σ H' => ∃ v a, σ = [some (.ref l), some (.ref a), v] ∧ Same H H' ∧ H a = none ∧ H' a = some (bL (wNum bss.length ++ (bss.take i).flatten)))
      ⟨none, a, rfl, s1, n1, by rw [e1]; simp⟩ (fun i σ H' _ ⟨_, _, _, s, _⟩ => SqL.of (s _ _ hlst)) ?_ ?_⟩
    · rintro i x σ H' hi ⟨v, a, rfl, s, na, ea⟩
      obtain ⟨p, hp, rfl⟩ := getElem_map_some hi
      have hlt : i < bss.length := by
        rw [← hb.len]
        exact (List.getElem?_eq_some_iff.mp hp).1
      have hbs : bss[i]? = some bss[i] := List.getElem?_eq_getElem hlt
      have ep := s _ _ (hb.at_ i p _ hp hbs)
      have hle := flatten_take_le bss (i + 1)
      rw [flatten_take hbs, List.length_append] at hle
      walk_at "rd"
      refine r_cat ea ep (by rw [List.length_append]; omega) fun r hr => ?_
      refine ⟨_, r, rfl, s.trans (same_new hr), s.free hr, ?_⟩
      rw [upd_same, flatten_take hbs, List.append_assoc]
    · rintro σ H' ⟨v, a, rfl, s, na, ea⟩
      walk_at "rd"
      refine q.to s na ea ?_
      rw [List.length_map, hb.len, List.take_length]
      rfl
theorem ok_law_string  (T : Txt K mg) : Fc P w K mg base CX0 (3) "_law_string" ["_law_text"] (spWo wStr dStr okS) := by
  refine ⟨?_, gm_law_string T, (fd_law_string T.says).kp, (fd_law_string T.says).bindsN fun _ _ _ _ _ _ us hl => match us, hl with | [_], _ => rfl⟩
  refine (fd_law_string T.says).ok sc_law_string (fun vs H Q E h => by first | (obtain ⟨_, rfl, _⟩ := h; rfl) | (obtain ⟨_, _, rfl, _⟩ := h; rfl) | (obtain ⟨_, _, _, rfl, _⟩ := h; rfl) | (obtain ⟨_, _, _, _, rfl, _⟩ := h; rfl) | (obtain ⟨_, _, _, _, _, rfl, _⟩ := h; rfl) | (obtain ⟨_, _, _, _, _, _, rfl, _⟩ := h; rfl) | (obtain ⟨_, _, _, _, _, _, _, rfl, _⟩ := h; rfl) | (obtain ⟨_, _, _, _, _, _, _, _, rfl, _⟩ := h; rfl) | (obtain ⟨_, _, _, _, _, _, _, _, _, rfl, _⟩ := h; rfl)) (fun cdv A outer s H vs Q E hr h => ?_)
  obtain ⟨v, z, rfl, hv, hok, hl, q⟩ := h
  obtain rfl : v = .str z := hv
  have hn : z.cps.toList.length ≤ cap := Nat.le_trans (wL_ge wNum_pos) hl
  refine ⟨_, PSs.nox (pss_cons (ps_set (i := 1) sc_law_string.nd rfl (Or.inl rfl) pe_str)
      (pss_cons (ps_set (i := 2) sc_law_string.nd rfl (Or.inl rfl) (pe_lst pa_nil))
      (pss_cons (ps_for PassesOwn.never rfl (pi_str (pv 0)) (pg_name (i := 3) sc_law_string.nd rfl (Or.inl rfl)) (pss_cons (ps_set (i := 4) sc_law_string.nd rfl (Or.inl rfl) pe_int)
      (pss_cons (ps_if (pt_cmpR op_in_sign (pv 3) (pv 1) rfl) (pss_one (ps_set (i := 4) sc_law_string.nd rfl (Or.inl rfl) (pe_op op_add (pe_op op_add pe_int (pe_bm PySem.F.plainAttrs_str PySem.F.slot_str_index PySem.F.type_str_index mt_sindex (pv 1) (pa_cons (pv 3) pa_nil))) (pe_callTy call_int1 (by rfl) (n_int T) (by decide +kernel) (pa_cons (pe_cmpR op_gt (pe_bm PySem.F.plainAttrs_str PySem.F.slot_str_index PySem.F.type_str_index mt_sindex (pv 1) (pa_cons (pv 3) pa_nil)) pe_int (nomark _)) pa_nil))))) pss_nil)
      (pss_one (ps_expr (pe_bm PySem.F.plainAttrs_list PySem.F.slot_list_append PySem.F.type_list_append mt_append (pv 2) (pa_cons (pe_lst (pa_cons (pv 4) pa_nil)) pa_nil)))))))
      (pss_one (ps_ret (pe_f (ok_law_listed T) (hr.mono (by omega)) (by rfl) (pa_cons (pv 2) pa_nil))))))), ?_⟩
  walk_at "rd"
  refine ⟨le_line rfl, fun a ha => ?_⟩
  walk_at "rd"
  refine ⟨.str z, rfl, z, rfl, for_any (xs := signs z) (Wk.str (I := Same H)) (fun i σ H' => ∃ v3 v4 ps, σ = [some (.str z), some (.str lawChars), some (.ref a), v3, v4] ∧ Same H H' ∧ H' a = some (.lst (ps.map V.ref)) ∧ BsL H' ps ((z.cps.toList.map wNum).take i) ∧ ∀ r ∈ ps, r ≠ a) (fun i σ H' ⟨_, _, _, _, s, _⟩ => s)
    ⟨none, none, [], rfl, same_new ha, upd_same, ⟨rfl, fun i p bs h => by simp at h⟩, fun p h => by simp at h⟩ ?_ ?_⟩
  · rintro i x σ H' hi ⟨v3, v4, ps, rfl, s, ea, hb, hne⟩
    obtain ⟨c, hc, rfl⟩ := getElem_map_some hi
    have hch : okCh c := hok c (List.mem_of_getElem? hc)
    have hps : ps.length ≤ cap := by
      have h8 := hb.len
      rw [List.length_take, List.length_map] at h8
      omega
    have fin : ∀ (p : Addr) (v3 v4 : Option V), H' p = none → rAppend (V.ref a) [V.ref p] (upd H' p (.lst [V.int c])) fun _ H1 => ∃ v3' v4' ps, ([some (V.str z), some (V.str lawChars), some (V.ref a), v3, v4] : L2.St) = [some (V.str z), some (V.str lawChars), some (V.ref a), v3', v4'] ∧ Same H H1 ∧ H1 a = some (.lst (ps.map V.ref)) ∧ BsL H1 ps ((z.cps.toList.map wNum).take (i + 1)) ∧ ∀ r ∈ ps, r ≠ a := by
      intro p v3 v4 hp
      have npa : p ≠ a := fun e => by
        rw [e, ea] at hp
        cases hp
      obtain ⟨b2, ne2⟩ := BsL.snoc (bs := [c]) (o := .lst (ps.map V.ref ++ [V.ref p])) hb hne (same_new hp) upd_same npa
      refine ⟨a, _, _, rfl, rfl, same_new hp _ _ ea, by rw [List.length_map]; exact cap_lt hps, ?_⟩
      refine ⟨_, _, ps ++ [p], rfl, same_mut (s.trans (same_new hp)) ha, ?_, ?_, ne2⟩
      · rw [upd_same, List.map_append] <;> rfl
      · rw [List.take_add_one, List.getElem?_map, hc]
        show BsL _ _ (_ ++ [wNum c])
        rw [wNum_ch hch]
        exact b2
    walk_at "rd"
    refine ⟨c, lawChars, rfl, rfl, ?_⟩
    walk_at "rd"
    rw [chr_all c (okCh_lt hch) hch]
    refine iteD (fun cn => ?_) (fun cn => ?_)
    · have ho := occ_all c (okCh_lt hch) hch cn
      walk_at "rd"
      refine ⟨rfl, ?_⟩
      walk_at "rd"
      refine ⟨lawChars, ⟨#[c]⟩, ixCh c, [], rfl, rfl, ho, ?_⟩
      walk_at "rd"
      refine ⟨rfl, ?_⟩
      walk_at "rd"
      refine ⟨lawChars, ⟨#[c]⟩, ixCh c, [], rfl, rfl, ho, ?_⟩
      walk_at "rd"
      refine .inr ⟨_, rfl, ?_⟩
      walk_at "rd"
      have e0 : (32 + (ixCh c : Int) + (if decide (4 < (ixCh c : Int)) = true then 1 else 0) : Int) = (c : Int) := by
        unfold okCh at hch
        unfold ixCh
        by_cases c4 : c ≤ 36
        · rw [if_pos c4, if_neg (by simp; omega)]
          omega
        · rw [if_neg c4, if_pos (by simp; omega)]
          omega
      rw [e0]
      refine ⟨ty_l ea, ?_⟩
      walk_at "rd"
      refine ⟨le_line rfl, fun p hp => ?_⟩
      walk_at "rd"
      exact fin p _ _ hp
    · have e0 : c = 10 := by omega
      subst e0
      walk_at "rd"
      refine ⟨ty_l ea, ?_⟩
      walk_at "rd"
      refine ⟨le_line rfl, fun p hp => ?_⟩
      walk_at "rd"
      exact fin p _ _ hp
  · rintro σ H' ⟨v3, v4, ps, rfl, s, ea, hb, hne⟩
    have e : (z.cps.toList.map wNum).take (signs z).length = z.cps.toList.map wNum := List.take_of_length_le (by simp [signs])
    rw [e] at hb
    walk_at "rd"
    refine ⟨a, ps, _, rfl, ea, hb, by rw [wL_len]; exact hl, fun H2 p2 s2 n2 e2 => ?_⟩
    rw [wL_len] at e2
    exact q.to (s.trans s2) (s.free n2) e2 rfl
end
end Q

/-! ## W7 -/
set_option Elab.async false
set_option linter.all false
set_option maxRecDepth 100000
set_option maxHeartbeats 4000000
namespace Q
open PySem PySem.Spec PyProof.Rows L2
local macro_rules | `(tactic| walk_at "rd") => `(tactic| repeat (first
  | ((with_reducible apply r_var); focus exact rfl)
  | with_reducible refine r_c ?_
  | with_reducible refine r_chain ?_
  | ((with_reducible apply r_aug); focus exact rfl)
  | with_reducible refine r_ip ?_
  | with_reducible refine r_op ?_
  | with_reducible refine r_I0 ?_
  | with_reducible refine r_cons ?_
  | with_reducible refine r_nil ?_
  | with_reducible refine r_seq ?_
  | with_reducible refine r_asg ?_
  | with_reducible refine r_gn ?_
  | with_reducible refine r_gcons ?_
  | with_reducible refine r_gnil ?_
  | with_reducible refine r_lc ?_
  | with_reducible refine r_m1 ?_
  | with_reducible refine r_sfld ?_
  | with_reducible refine r_sfa ?_
  | with_reducible refine r_rAdd ?_
  | with_reducible refine r_ret ?_
  | with_reducible refine r_ifS ?_
  | with_reducible refine r_test ?_
  | with_reducible refine r_bl ?_
  | with_reducible refine r_B ?_
  | with_reducible refine r_drop ?_
  | with_reducible refine r_bm ?_
  | with_reducible refine r_CB ?_
  | with_reducible refine r_call ?_
  | with_reducible refine r_meth ?_
  | with_reducible refine r_make ?_
  | with_reducible refine r_tup ?_
  | with_reducible refine r_lst ?_
  | ((with_reducible refine r_I ?_ ?_); focus (first | decide | exact ⟨by decide, by decide⟩ | exact .inl ⟨by decide, by decide⟩ | exact .inr ⟨by decide, by decide⟩ | omega))
  | with_reducible refine r_U ?_
  | with_reducible refine r_un ?_
  | with_reducible refine r_and ?_
  | with_reducible refine r_or ?_
  | with_reducible refine r_not ?_
  | with_reducible refine r_andV ?_
  | with_reducible refine r_orV ?_
  | with_reducible refine r_notV ?_
  | with_reducible refine r_if ?_
  | with_reducible refine r_sl ?_
  | with_reducible refine r_part ?_
  | with_reducible refine r_parti ?_
  | with_reducible refine r_nopart ?_
  | with_reducible refine r_il ?_
  | with_reducible refine r_it ?_
  | with_reducible refine r_ir ?_
  | with_reducible refine r_is ?_
  | with_reducible refine r_next ?_
  | with_reducible refine r_retN ?_
  | ((with_reducible refine r_eq ?_ ?_); focus exact rfl)
  | ((with_reducible refine r_ne ?_ ?_); focus exact rfl)))
local macro_rules | `(tactic| walk_at "rx") => `(tactic| repeat (first
  | ((with_reducible apply r_var); focus exact rfl)
  | with_reducible refine r_c ?_
  | with_reducible refine r_chain ?_
  | ((with_reducible apply r_aug); focus exact rfl)
  | with_reducible refine r_ip ?_
  | with_reducible refine r_op ?_
  | with_reducible refine r_I0 ?_
  | with_reducible refine r_cons ?_
  | with_reducible refine r_nil ?_
  | with_reducible refine r_seq ?_
  | with_reducible refine r_asg ?_
  | with_reducible refine r_gn ?_
  | with_reducible refine r_gcons ?_
  | with_reducible refine r_gnil ?_
  | with_reducible refine r_m1 ?_
  | with_reducible refine r_sfld ?_
  | with_reducible refine r_sfa ?_
  | with_reducible refine r_rAdd ?_
  | with_reducible refine r_ret ?_
  | with_reducible refine r_ifS ?_
  | with_reducible refine r_test ?_
  | with_reducible refine r_bl ?_
  | with_reducible refine r_B ?_
  | with_reducible refine r_drop ?_
  | with_reducible refine r_bm ?_
  | with_reducible refine r_CB ?_
  | with_reducible refine r_call ?_
  | with_reducible refine r_make ?_
  | with_reducible refine r_tup ?_
  | with_reducible refine r_lst ?_
  | ((with_reducible refine r_I ?_ ?_); focus (first | decide | exact ⟨by decide, by decide⟩ | exact .inl ⟨by decide, by decide⟩ | exact .inr ⟨by decide, by decide⟩ | omega))
  | with_reducible refine r_U ?_
  | with_reducible refine r_un ?_
  | with_reducible refine r_and ?_
  | with_reducible refine r_or ?_
  | with_reducible refine r_not ?_
  | with_reducible refine r_andV ?_
  | with_reducible refine r_orV ?_
  | with_reducible refine r_notV ?_
  | with_reducible refine r_if ?_
  | with_reducible refine r_sl ?_
  | with_reducible refine r_part ?_
  | with_reducible refine r_parti ?_
  | with_reducible refine r_nopart ?_
  | with_reducible refine r_il ?_
  | with_reducible refine r_it ?_
  | with_reducible refine r_ir ?_
  | with_reducible refine r_is ?_
  | with_reducible refine r_next ?_
  | with_reducible refine r_retN ?_
  | ((with_reducible refine r_eq ?_ ?_); focus exact rfl)
  | ((with_reducible refine r_ne ?_ ?_); focus exact rfl)))
section
variable {P : Program} {w : World} {K : PySem.W.Frag} {mg : Str → Option Value} {base : Heap}
theorem ok_law_mark_bytes  (T : Txt K mg) : Fc P w K mg base CX0 (2) "_law_mark_bytes" ["_law_mark"] (spW wMark dMark) := by
  refine ⟨?_, gm_law_mark_bytes T, (fd_law_mark_bytes T.says).kp, (fd_law_mark_bytes T.says).bindsN fun _ _ _ _ _ _ us hl => match us, hl with | [_], _ => rfl⟩
  refine (fd_law_mark_bytes T.says).ok sc_law_mark_bytes (fun vs H Q E h => by first | (obtain ⟨_, rfl, _⟩ := h; rfl) | (obtain ⟨_, _, rfl, _⟩ := h; rfl) | (obtain ⟨_, _, _, rfl, _⟩ := h; rfl) | (obtain ⟨_, _, _, _, rfl, _⟩ := h; rfl) | (obtain ⟨_, _, _, _, _, rfl, _⟩ := h; rfl) | (obtain ⟨_, _, _, _, _, _, rfl, _⟩ := h; rfl) | (obtain ⟨_, _, _, _, _, _, _, rfl, _⟩ := h; rfl) | (obtain ⟨_, _, _, _, _, _, _, _, rfl, _⟩ := h; rfl) | (obtain ⟨_, _, _, _, _, _, _, _, _, rfl, _⟩ := h; rfl)) (fun cdv A outer s H vs Q E hr h => ?_)
  obtain ⟨v, m, rfl, hv, hl, q⟩ := h
  obtain ⟨a, xs, rfl, ha, x1, _, rfl, h1, x2, _, rfl, h2, rfl⟩ := hv
  obtain rfl : x1 = .int m.1 := h1
  obtain rfl : x2 = .int m.2 := h2
  have hl2 : (wNum m.1).length + (wNum m.2).length ≤ cap := by rw [← List.length_append]; exact hl
  refine ⟨_, PSs.nox (pss_one (ps_ret (pe_op op_cat (pe_f (ok_law_number T) (hr.mono (by omega)) (by rfl) (pa_cons (pe_ix ix_tup (pv 0) pe_int (fun _ _ => rfl)) pa_nil)) (pe_f (ok_law_number T) (hr.mono (by omega)) (by rfl) (pa_cons (pe_ix ix_tup (pv 0) pe_int (fun _ _ => rfl)) pa_nil))))), ?_⟩
  walk_at "rd"
  refine r_ixT ha rfl ?_
  walk_at "rd"
  refine ⟨_, m.1, rfl, rfl, by omega, fun H1 p s1 n1 e1 => ?_⟩
  walk_at "rd"
  refine r_ixT (s1 _ _ ha) rfl ?_
  walk_at "rd"
  refine ⟨_, m.2, rfl, rfl, by omega, fun H2 p2 s2 n2 e2 => ?_⟩
  exact r_cat (s2 _ _ e1) e2 (by omega) fun r hr => q.upd (s1.trans s2) hr rfl
theorem ok_law_deed_bytes  (T : Txt K mg) : Fc P w K mg base CX0 (4) "_law_deed_bytes" ["_law_deed"] (spWo wDeed dDeed okD) := by
  refine ⟨?_, gm_law_deed_bytes T, (fd_law_deed_bytes T.says).kp, (fd_law_deed_bytes T.says).bindsN fun _ _ _ _ _ _ us hl => match us, hl with | [_], _ => rfl⟩
  refine (fd_law_deed_bytes T.says).ok sc_law_deed_bytes (fun vs H Q E h => by first | (obtain ⟨_, rfl, _⟩ := h; rfl) | (obtain ⟨_, _, rfl, _⟩ := h; rfl) | (obtain ⟨_, _, _, rfl, _⟩ := h; rfl) | (obtain ⟨_, _, _, _, rfl, _⟩ := h; rfl) | (obtain ⟨_, _, _, _, _, rfl, _⟩ := h; rfl) | (obtain ⟨_, _, _, _, _, _, rfl, _⟩ := h; rfl) | (obtain ⟨_, _, _, _, _, _, _, rfl, _⟩ := h; rfl) | (obtain ⟨_, _, _, _, _, _, _, _, rfl, _⟩ := h; rfl) | (obtain ⟨_, _, _, _, _, _, _, _, _, rfl, _⟩ := h; rfl)) (fun cdv A outer s H vs Q E hr h => ?_)
  obtain ⟨v, d, rfl, hv, hok, hl, q⟩ := h
  refine ⟨_, PSs.nox (pss_cons (ps_if (pt_cmpR op_eq (pe_ix ix_tup (pv 0) pe_int (fun _ _ => rfl)) pe_str (nomark _)) (pss_one (ps_ret (pe_op op_cat (pe_lst (pa_cons pe_int pa_nil)) (pe_f (ok_law_number T) (hr.mono (by omega)) (by rfl) (pa_cons (pe_ix ix_tup (pv 0) pe_int (fun _ _ => rfl)) pa_nil))))) pss_nil)
      (pss_cons (ps_set (i := 1) sc_law_deed_bytes.nd rfl (Or.inl rfl) (pe_op op_cat (pe_op op_cat (pe_lst (pa_cons pe_int pa_nil)) (pe_f (ok_law_string T) (hr.mono (by omega)) (by rfl) (pa_cons (pe_ix ix_tup (pv 0) pe_int (fun _ _ => rfl)) pa_nil))) (pe_f (ok_law_listed T) (hr.mono (by omega)) (by rfl) (pa_cons (pe_lc (own := [("_law_mark", 2)]) (g := gName 2) (tt := tYes) rfl sc_law_deed_bytes.nd (pi_tup (pe_ix ix_tup (pv 0) pe_int (fun _ _ => rfl))) (blkOk_by (N := ["_law_deed", "_law_data", "_law_mark"]) (sc := defScope s_law_deed_bytes) (by decide +kernel)) (fun _ _ _ _ _ => (pg_name (i := 2) sc_law_deed_bytes.nd rfl (Or.inl rfl))) (fun _ _ _ _ _ => pts_nil) (fun _ _ _ _ _ => (pe_f (ok_law_mark_bytes T) (hr.mono (by omega)) (by rfl) (pa_cons (pv 2) pa_nil)))) pa_nil))))
      (pss_cons (ps_if (pt_cmpR op_isN (pe_ix ix_tup (pv 0) pe_int (fun _ _ => rfl)) pe_non (nomark _)) (pss_one (ps_expr (pe_bm PySem.F.plainAttrs_list PySem.F.slot_list_append PySem.F.type_list_append mt_append (pv 1) (pa_cons pe_int pa_nil)))) (pss_one (ps_set (i := 1) sc_law_deed_bytes.nd rfl (Or.inl rfl) (pe_op op_cat (pe_op op_cat (pv 1) (pe_lst (pa_cons pe_int pa_nil))) (pe_f (ok_law_mark_bytes T) (hr.mono (by omega)) (by rfl) (pa_cons (pe_ix ix_tup (pv 0) pe_int (fun _ _ => rfl)) pa_nil))))))
      (pss_one (ps_ret (pe_op op_cat (pe_op op_cat (pv 1) (pe_f (ok_law_number T) (hr.mono (by omega)) (by rfl) (pa_cons (pe_ix ix_tup (pv 0) pe_int (fun _ _ => rfl)) pa_nil))) (pe_f (ok_law_string T) (hr.mono (by omega)) (by rfl) (pa_cons (pe_ix ix_tup (pv 0) pe_int (fun _ _ => rfl)) pa_nil)))))))), ?_⟩
  cases d with
  | back n =>
    obtain ⟨a, xs, rfl, ha, x1, _, rfl, h1, x2, _, rfl, h2, rfl⟩ := hv
    obtain rfl : x1 = .str "back" := h1
    obtain rfl : x2 = .int n := h2
    have hl2 : (wNum n).length + 1 ≤ cap := hl
    walk_at "rd"
    refine r_ixT ha rfl ?_
    walk_at "rd"
    refine iteS (fun _ => ?_) (fun n => absurd rfl n)
    walk_at "rd"
    refine ⟨le_line rfl, fun p hp => ?_⟩
    walk_at "rd"
    have s1 := same_new (o := .lst [V.int 1]) hp
    refine r_ixT (s1 _ _ ha) rfl ?_
    walk_at "rd"
    refine ⟨_, n, rfl, rfl, by omega, fun H2 p2 s2 n2 e2 => ?_⟩
    exact r_cat (xs := [1]) (s2 _ _ upd_same) e2 (by show 1 + _ ≤ _; omega) fun r hr => q.upd (s1.trans s2) hr rfl
  | change m rem beh n t =>
    obtain ⟨a, xs, rfl, ha, x1, _, rfl, h1, x2, _, rfl, h2, x3, _, rfl, h3, x4, _, rfl, h4, x5, _, rfl, h5, x6, _, rfl, h6, rfl⟩ := hv
    obtain rfl : x1 = .str "change" := h1
    obtain rfl : x2 = .str m := h2
    obtain rfl : x5 = .int n := h5
    obtain rfl : x6 = .str t := h6
    obtain ⟨ar, rs, rfl, har, hrs⟩ := h3
    obtain ⟨okm, _, _, _, okt⟩ := hok
    have hl2 : 1 + ((wStr m).length + (wL wMark rem).length) + (wOpt beh).length + ((wNum n).length + (wStr t).length) ≤ cap := by
      have z := hl
      simp only [wDeed, List.length_append, List.length_cons] at z
      omega
    walk_at "rd"
    refine r_ixT ha rfl ?_
    walk_at "rd"
    refine iteS (fun e => absurd e (by decide +kernel)) (fun _ => ?_)
    walk_at "rd"
    refine ⟨le_line rfl, fun p hp => ?_⟩
    have s1 := same_new (o := .lst [V.int 0]) hp
    walk_at "rd"
    refine r_ixT (s1 _ _ ha) rfl ?_
    walk_at "rd"
    refine ⟨_, m, rfl, rfl, okm, by omega, fun H2 p2 s2 n2 e2 => ?_⟩
    refine r_cat (xs := [0]) (s2 _ _ upd_same) e2 (by show 1 + _ ≤ _; omega) fun p3 n3 => ?_
    have s3 := (s1.trans s2).trans (same_new (o := bL ([0] ++ wStr m)) n3)
    walk_at "rd"
    refine r_ixT (s3 _ _ ha) rfl ?_
    refine ⟨ar, rfl, ⟨_, SqT.of (s3 _ _ har)⟩, fun D hD => ?_⟩
    refine lc_wi (w := wMark) (d := dMark) (Wk.tup fun H' s => s _ _ (s3 _ _ har)) (lt_by rfl) (hrs.ts (Tst.same s3)) (by omega) (Nat.le_trans (wL_ge wMark_pos) (by omega)) hD fun H4 ps s4 e4 b4 => ?_
    have s5 := s3.trans s4
    walk_at "rd"
    refine ⟨D, ps, _, rfl, e4, b4, by rw [wL_len]; omega, fun H6 p6 s6 n6 e6 => ?_⟩
    rw [wL_len] at e6
    refine r_cat ((s4.trans s6) _ _ upd_same) e6 (by rw [List.length_append]; show 1 + _ + _ ≤ _; omega) fun p7 n7 => ?_
    have s7 := s5.trans (s6.trans (same_new (o := bL (([0] ++ wStr m) ++ wL wMark rem)) n7))
    have f7 : H p7 = none := (s5.trans s6).free n7
    walk_at "rd"
    refine r_ixT (s7 _ _ ha) rfl ?_
    refine ⟨rfl, ?_⟩
    walk_at "rd"
    have fin : ∀ (H8 : Hp) (p8 : Addr), Same H H8 → H8 p8 = some (bL (([0] ++ wStr m) ++ wL wMark rem ++ wOpt beh)) → (tRet (tOp rCat (tOp rCat (tVar 1) (tCall (spW wNum dNum) [] E0 (tCons (tOp (rIxT K) (tVar 0) (tC (.int 4))) tNil))) (tCall (spWo wStr dStr okS) [] E0 (tCons (tOp (rIxT K) (tVar 0) (tC (.int 5))) tNil)))) { nx := fun x H' => Q V.non H', rt := Q } [some (.ref a), some (.ref p8), none] H8 := by
      intro H8 p8 s9 e8
      walk_at "rd"
      refine r_ixT (s9 _ _ ha) rfl ?_
      walk_at "rd"
      refine ⟨_, n, rfl, rfl, by omega, fun H10 p10 s10 n10 e10 => ?_⟩
      refine r_cat (s10 _ _ e8) e10 (by rw [List.length_append, List.length_append, List.length_append]; show 1 + _ + _ + _ + _ ≤ _; omega) fun p11 n11 => ?_
      walk_at "rd"
      have s11 := (s9.trans s10).trans (same_new (o := bL (([0] ++ wStr m) ++ wL wMark rem ++ wOpt beh ++ wNum n)) n11)
      refine r_ixT (s11 _ _ ha) rfl ?_
      walk_at "rd"
      refine ⟨_, t, rfl, rfl, okt, by omega, fun H12 p12 s12 n12 e12 => ?_⟩
      refine r_cat (s12 _ _ upd_same) e12 (by simp only [List.length_append]; show 1 + _ + _ + _ + _ + _ ≤ _; omega) fun p13 n13 => ?_
      refine q.upd (s11.trans s12) n13 ?_
      simp [wDeed, List.append_assoc]
    cases beh with
    | none =>
      obtain rfl : x4 = .non := h4
      refine ite_t rfl ?_
      walk_at "rd"
      refine ⟨ty_l upd_same, ?_⟩
      walk_at "rd"
      refine r_append (n := 0) upd_same (by rw [List.length_append, List.length_append]; show 1 + _ + _ ≤ _; omega) rfl ?_
      exact fin _ p7 (same_mut s7 f7) upd_same
    | some mk =>
      have h5 : x4 ≠ .non := by
        obtain ⟨_, _, e, _⟩ := h4
        rw [e]
        exact fun z => by cases z
      have hl3 : 1 + (wMark mk).length = (wOpt (some mk)).length := by simp [wOpt]; omega
      refine ite_f (by simpa using h5) ?_
      walk_at "rd"
      refine ⟨le_line rfl, fun p8 n8 => ?_⟩
      refine r_cat (ys := [1]) (same_new n8 _ _ upd_same) upd_same (by simp only [List.length_append]; show 1 + _ + _ + 1 ≤ _; omega) fun p9 n9 => ?_
      have s9 := (s7.trans (same_new (o := bL [1]) n8)).trans (same_new (o := bL (([0] ++ wStr m) ++ wL wMark rem ++ [1])) n9)
      walk_at "rd"
      refine r_ixT (s9 _ _ ha) rfl ?_
      walk_at "rd"
      refine ⟨x4, mk, rfl, Rp.ts (Tst.same s9) h4, by omega, fun H10 p10 s10 n10 e10 => ?_⟩
      refine r_cat (s10 _ _ upd_same) e10 (by simp only [List.length_append]; show 1 + _ + _ + 1 + _ ≤ _; omega) fun p11 n11 => ?_
      refine fin _ p11 ((s9.trans s10).trans (same_new n11)) ?_
      rw [upd_same]
      simp [wOpt]
/-- lists of triples: the argument a list of Python -/
def spWso {α : Type} (w : α → List Nat) (d : α → D) (ok : α → Prop) : Sp := fun vs H Q _ => ∃ l ys xs, vs = [.ref l] ∧ H l = some (.lst ys) ∧ RpL H (xs.map d) ys ∧ (∀ x ∈ xs, ok x) ∧ (wL w xs).length ≤ cap ∧ RetB H Q (wL w xs)
theorem ok_law_triples_bytes  (T : Txt K mg) : Fc P w K mg base CX0 (5) "_law_triples_bytes" ["_law_triples"] (spWso wTrip dTrip okT) := by
  refine ⟨?_, gm_law_triples_bytes T, (fd_law_triples_bytes T.says).kp, (fd_law_triples_bytes T.says).bindsN fun _ _ _ _ _ _ us hl => match us, hl with | [_], _ => rfl⟩
  refine (fd_law_triples_bytes T.says).ok sc_law_triples_bytes (fun vs H Q E h => by first | (obtain ⟨_, rfl, _⟩ := h; rfl) | (obtain ⟨_, _, rfl, _⟩ := h; rfl) | (obtain ⟨_, _, _, rfl, _⟩ := h; rfl) | (obtain ⟨_, _, _, _, rfl, _⟩ := h; rfl) | (obtain ⟨_, _, _, _, _, rfl, _⟩ := h; rfl) | (obtain ⟨_, _, _, _, _, _, rfl, _⟩ := h; rfl) | (obtain ⟨_, _, _, _, _, _, _, rfl, _⟩ := h; rfl) | (obtain ⟨_, _, _, _, _, _, _, _, rfl, _⟩ := h; rfl) | (obtain ⟨_, _, _, _, _, _, _, _, _, rfl, _⟩ := h; rfl)) (fun cdv A outer s H vs Q E hr h => ?_)
  obtain ⟨b, ys, ts, rfl, hb, hys, hok, hl, q⟩ := h
  refine ⟨_, PSs.nox (pss_one (ps_ret (pe_f (ok_law_listed T) (hr.mono (by omega)) (by rfl) (pa_cons (pe_lc (own := [("_law_replica", 1), ("_law_place", 2), ("_law_deed", 3)]) (g := gTup _ 3 (gCons (gName 1) (gCons (gName 2) (gCons (gName 3) gNil)))) (tt := tYes) rfl sc_law_triples_bytes.nd (pi_list (pv 0)) (blkOk_by (N := ["_law_triples", "_law_replica", "_law_place", "_law_deed"]) (sc := defScope s_law_triples_bytes) (by decide +kernel)) (fun _ _ _ _ _ => (pg_tup rfl (pgs_cons (pg_name (i := 1) sc_law_triples_bytes.nd rfl (Or.inl rfl)) (pgs_cons (pg_name (i := 2) sc_law_triples_bytes.nd rfl (Or.inl rfl)) (pgs_cons (pg_name (i := 3) sc_law_triples_bytes.nd rfl (Or.inl rfl)) pgs_nil))))) (fun _ _ _ _ _ => pts_nil) (fun _ _ _ _ _ => (pe_op op_cat (pe_op op_cat (pe_f (ok_law_number T) (hr.mono (by omega)) (by rfl) (pa_cons (pv 1) pa_nil)) (pe_f (ok_law_number T) (hr.mono (by omega)) (by rfl) (pa_cons (pv 2) pa_nil))) (pe_f (ok_law_deed_bytes T) (hr.mono (by omega)) (by rfl) (pa_cons (pv 3) pa_nil))))) pa_nil)))), ?_⟩
  walk_at "rd"
  refine ⟨b, rfl, ⟨_, SqL.of hb⟩, fun D hD => ?_⟩
  refine lc_wG (bss := ts.map wTrip) (Wk.lst fun H' s' => s' _ _ hb) (by rw [hys.length, List.length_map, List.length_map]) (by rw [List.length_map]; exact Nat.le_trans (wL_ge wTrip_pos) (by omega)) hD (fun j x bs H4 Qe hx hbs s4 q4 => ?_) fun H4 qs s4 e4 b4 => ?_
  · obtain ⟨d', hd, hx2⟩ := hys.at hx
    obtain ⟨t, ht, rfl⟩ := getElem_map_some hd
    have hlb := mem_wL hbs
    rw [List.getElem?_map, ht] at hbs
    cases hbs
    obtain ⟨c, zs, rfl, hc, y1, _, rfl, g1, y2, _, rfl, g2, y3, _, rfl, g3, rfl⟩ := hx2
    obtain rfl : y1 = .int t.1 := g1
    obtain rfl : y2 = .int t.2.1 := g2
    have hlt : (wNum t.1).length + ((wNum t.2.1).length + (wDeed t.2.2).length) ≤ cap := by
      rw [← List.length_append, ← List.length_append]
      exact Nat.le_trans hlb (by omega)
    refine r_gtup (s4 _ _ hc) rfl ?_
    walk_at "rd"
    refine ⟨rfl, ?_⟩
    walk_at "rd"
    refine ⟨_, t.1, rfl, rfl, by omega, fun H6 p6 s6 n6 e6 => ?_⟩
    walk_at "rd"
    refine ⟨_, t.2.1, rfl, rfl, by omega, fun H8 p8 s8 n8 e8 => ?_⟩
    refine r_cat (s8 _ _ e6) e8 (by omega) fun r hr => ?_
    have s9 := (s6.trans s8).trans (same_new (o := bL (wNum t.1 ++ wNum t.2.1)) hr)
    walk_at "rd"
    refine ⟨y3, t.2.2, rfl, g3.ts (Tst.same (s4.trans s9)), (hok t (List.mem_of_getElem? ht)).2.2, by omega, fun H10 p10 s10 n10 e10 => ?_⟩
    exact r_cat (s10 _ _ upd_same) e10 (by rw [List.length_append]; omega) fun r hr => q4.upd (s9.trans s10) hr (by simp [wTrip])
  · walk_at "rd"
    refine ⟨D, qs, _, rfl, e4, b4, by rw [wL_len]; omega, fun H6 p6 s6 n6 e6 => ?_⟩
    rw [wL_len] at e6
    exact q.to (s4.trans s6) (s4.free n6) e6 rfl
/-! ### values -/
def spVL (n : Nat) : Sp := fun vs H Q _ => ∃ v x, vs = [v] ∧ Rp H (dVal x) v ∧ (x.dep ≤ n ∧ okV x) ∧ (wVal x).length ≤ cap ∧ RetB H Q (wVal x)
theorem spVL_mem {n : Nat} {vs : List Val} (h : depL vs ≤ n) (ok : okVs vs) (v : V) (x : Val) (H : Hp) (Q : VK) (E : XK) (hm : x ∈ vs) (h1 : Rp H (dVal x) v) (h2 : (wVal x).length ≤ cap) (h3 : RetB H Q (wVal x)) : spVL n [v] H Q E :=
  ⟨v, x, rfl, h1, ⟨Nat.le_trans (dep_mem hm) h, okVs_mem ok hm⟩, h2, h3⟩
theorem ok_law_value_bytes_s {n : Nat} (ih : Fc P w K mg base CX0 (n + 4) "_law_value_bytes" ["_law_value_here"] (spVL n)) (T : Txt K mg) : Fc P w K mg base CX0 (n + 5) "_law_value_bytes" ["_law_value_here"] (spVL (n + 1)) := by
  refine ⟨?_, gm_law_value_bytes T, (fd_law_value_bytes T.says).kp, (fd_law_value_bytes T.says).bindsN fun _ _ _ _ _ _ us hl => match us, hl with | [_], _ => rfl⟩
  refine (fd_law_value_bytes T.says).ok sc_law_value_bytes (fun vs H Q E h => by first | (obtain ⟨_, rfl, _⟩ := h; rfl) | (obtain ⟨_, _, rfl, _⟩ := h; rfl) | (obtain ⟨_, _, _, rfl, _⟩ := h; rfl) | (obtain ⟨_, _, _, _, rfl, _⟩ := h; rfl) | (obtain ⟨_, _, _, _, _, rfl, _⟩ := h; rfl) | (obtain ⟨_, _, _, _, _, _, rfl, _⟩ := h; rfl) | (obtain ⟨_, _, _, _, _, _, _, rfl, _⟩ := h; rfl) | (obtain ⟨_, _, _, _, _, _, _, _, rfl, _⟩ := h; rfl) | (obtain ⟨_, _, _, _, _, _, _, _, _, rfl, _⟩ := h; rfl)) (fun cdv A outer s H vs Q E hr h => ?_)
  obtain ⟨v, x, rfl, hv, ⟨hd, hok⟩, hl, q⟩ := h
  refine ⟨_, PSs.nox (pss_cons (ps_if (pt_val (pe_callB call_isi (by rfl) (n_isinstance T) (by decide +kernel) (pa_cons (pv 0) (pa_cons (pe_bltn (v := .ty "bool") (by rfl) (n_bool T) (by decide +kernel) rfl) pa_nil)))) (pss_one (ps_ret (pe_lst (pa_cons pe_int (pa_cons (pe_callTy call_int1 (by rfl) (n_int T) (by decide +kernel) (pa_cons (pv 0) pa_nil)) pa_nil))))) pss_nil)
      (pss_cons (ps_if (pt_val (pe_callB call_isi (by rfl) (n_isinstance T) (by decide +kernel) (pa_cons (pv 0) (pa_cons (pe_bltn (v := .ty "int") (by rfl) (n_int T) (by decide +kernel) rfl) pa_nil)))) (pss_one (ps_ret (pe_op op_cat (pe_lst (pa_cons pe_int (pa_cons (pe_callTy call_int1 (by rfl) (n_int T) (by decide +kernel) (pa_cons (pe_cmpR op_lt (pv 0) pe_int (nomark _)) pa_nil)) pa_nil))) (pe_f (ok_law_number T) (hr.mono (by omega)) (by rfl) (pa_cons (pe_callB call_abs (by rfl) (n_abs T) (by decide +kernel) (pa_cons (pv 0) pa_nil)) pa_nil))))) pss_nil)
      (pss_cons (ps_if (pt_val (pe_callB call_isi (by rfl) (n_isinstance T) (by decide +kernel) (pa_cons (pv 0) (pa_cons (pe_bltn (v := .ty "str") (by rfl) (n_str T) (by decide +kernel) rfl) pa_nil)))) (pss_one (ps_ret (pe_op op_cat (pe_lst (pa_cons pe_int pa_nil)) (pe_f (ok_law_string T) (hr.mono (by omega)) (by rfl) (pa_cons (pv 0) pa_nil))))) pss_nil)
      (pss_cons (ps_if (pt_cmpR op_eq (pe_ix ix_tup (pv 0) pe_int (fun _ _ => rfl)) pe_str (nomark _)) (pss_one (ps_ret (pe_op op_cat (pe_lst (pa_cons pe_int pa_nil)) (pe_f (ok_law_listed T) (hr.mono (by omega)) (by rfl) (pa_cons (pe_lc (own := [("_law_item", 1)]) (g := gName 1) (tt := tYes) rfl sc_law_value_bytes.nd (pi_tup (pe_ix ix_tup (pv 0) pe_int (fun _ _ => rfl))) (blkOk_by (N := ["_law_value_here", "_law_item"]) (sc := defScope s_law_value_bytes) (by decide +kernel)) (fun _ _ _ _ _ => (pg_name (i := 1) sc_law_value_bytes.nd rfl (Or.inl rfl))) (fun _ _ _ _ _ => pts_nil) (fun _ _ _ _ _ => (pe_f ih (hr.mono (by omega)) (by rfl) (pa_cons (pv 1) pa_nil)))) pa_nil))))) pss_nil)
      (pss_one (ps_ret (pe_op op_cat (pe_op op_cat (pe_lst (pa_cons pe_int pa_nil)) (pe_f (ok_law_string T) (hr.mono (by omega)) (by rfl) (pa_cons (pe_ix ix_tup (pv 0) pe_int (fun _ _ => rfl)) pa_nil))) (pe_f (ok_law_listed T) (hr.mono (by omega)) (by rfl) (pa_cons (pe_lc (own := [("_law_item", 1)]) (g := gName 1) (tt := tYes) rfl sc_law_value_bytes.nd (pi_tup (pe_ix ix_tup (pv 0) pe_int (fun _ _ => rfl))) (blkOk_by (N := ["_law_value_here", "_law_item"]) (sc := defScope s_law_value_bytes) (by decide +kernel)) (fun _ _ _ _ _ => (pg_name (i := 1) sc_law_value_bytes.nd rfl (Or.inl rfl))) (fun _ _ _ _ _ => pts_nil) (fun _ _ _ _ _ => (pe_f ih (hr.mono (by omega)) (by rfl) (pa_cons (pv 1) pa_nil)))) pa_nil))))))))), ?_⟩
  cases x with
  | bl b =>
    obtain rfl : v = .bl b := hv
    walk_at "rd"
    refine r_isi tx_bl k_bool_bool ?_
    walk_at "rd"
    refine ite_t rfl ?_
    walk_at "rd"
    refine .inr ⟨b, rfl, ?_⟩
    walk_at "rd"
    refine ⟨le_line rfl, fun p hp => ?_⟩
    cases b with
    | true => exact q.to (cs := [2, 1]) (same_new hp) hp upd_same rfl
    | false => exact q.to (cs := [2, 0]) (same_new hp) hp upd_same rfl
  | int i =>
    obtain rfl : v = .int i := hv
    walk_at "rd"
    refine r_isi tx_int k_int_bool ?_
    walk_at "rd"
    refine ite_f rfl ?_
    walk_at "rd"
    refine r_isi tx_int k_int_int ?_
    walk_at "rd"
    refine ite_t rfl ?_
    walk_at "rd"
    refine .inr ⟨_, rfl, ?_⟩
    walk_at "rd"
    refine ⟨le_line rfl, fun p hp => ?_⟩
    walk_at "rd"
    refine ⟨i, rfl, ?_⟩
    walk_at "rd"
    have e0 : wVal (.int i) = [0, if i < 0 then 1 else 0] ++ wNum i.natAbs := by simp [wVal]
    rw [e0] at hl q
    rw [List.length_append] at hl
    have hl2 : 2 + (wNum i.natAbs).length ≤ cap := hl
    refine ⟨_, i.natAbs, rfl, ?_, by omega, fun H2 p2 s2 n2 e2 => ?_⟩
    · show V.int _ = V.int _
      congr 1
      by_cases c : i < 0
      · rw [if_pos c]; omega
      · rw [if_neg c]; omega
    · refine r_cat (xs := [0, if i < 0 then 1 else 0]) ?_ e2 (by show 2 + _ ≤ _; omega) fun r hr => q.upd ((same_new hp).trans s2) hr rfl
      refine s2 _ _ ?_
      rw [upd_same]
      by_cases c : i < 0
      · rw [if_pos c, if_pos (by simpa using c)]; rfl
      · rw [if_neg c, if_neg (by simpa using c)]; rfl
  | str z =>
    obtain rfl : v = .str z := hv
    have hl2 : (wStr z).length + 1 ≤ cap := by
      simp [wVal] at hl
      omega
    walk_at "rd"
    refine r_isi tx_str k_str_bool ?_
    walk_at "rd"
    refine ite_f rfl ?_
    walk_at "rd"
    refine r_isi tx_str k_str_int ?_
    walk_at "rd"
    refine ite_f rfl ?_
    walk_at "rd"
    refine r_isi tx_str k_str_str ?_
    walk_at "rd"
    refine ite_t rfl ?_
    walk_at "rd"
    refine ⟨le_line rfl, fun p hp => ?_⟩
    walk_at "rd"
    refine ⟨_, z, rfl, rfl, hok, by omega, fun H2 p2 s2 n2 e2 => ?_⟩
    refine r_cat (xs := [1]) (s2 _ _ upd_same) e2 (by show 1 + _ ≤ _; omega) fun r hr => q.upd ((same_new hp).trans s2) hr ?_
    simp [wVal]
  | list vs =>
    obtain ⟨a, xs, rfl, ha, x1, _, rfl, h1, x2, _, rfl, h2, rfl⟩ := hv
    obtain rfl : x1 = .str "list" := h1
    obtain ⟨b, ys, rfl, hb, hys⟩ := h2
    rw [dVals_eq] at hys
    have e0 : wVal (.list vs) = [3] ++ wL wVal vs := by rw [← wVals_wL]; simp [wVal]
    rw [e0] at hl q
    rw [List.length_append] at hl
    have hl2 : 1 + (wL wVal vs).length ≤ cap := hl
    have hdl : depL vs ≤ n := by
      rw [Val.dep] at hd
      omega
    walk_at "rd"
    refine r_isi (tx_tup ha) k_tuple_bool ?_
    walk_at "rd"
    refine ite_f rfl ?_
    walk_at "rd"
    refine r_isi (tx_tup ha) k_tuple_int ?_
    walk_at "rd"
    refine ite_f rfl ?_
    walk_at "rd"
    refine r_isi (tx_tup ha) k_tuple_str ?_
    walk_at "rd"
    refine ite_f rfl ?_
    walk_at "rd"
    refine r_ixT ha rfl ?_
    walk_at "rd"
    refine iteS (fun _ => ?_) (fun z => absurd rfl z)
    walk_at "rd"
    refine ⟨le_line rfl, fun p hp => ?_⟩
    have s1 := same_new (o := .lst [V.int 3]) hp
    walk_at "rd"
    refine r_ixT (s1 _ _ ha) rfl ?_
    refine ⟨b, rfl, ⟨_, SqT.of (s1 _ _ hb)⟩, fun D hD => ?_⟩
    refine lc_wg (w := wVal) (d := dVal) (spVL_mem hdl hok) (Wk.tup fun H' s => s _ _ (s1 _ _ hb)) (lt_by rfl) (hys.ts (Tst.same s1)) (by omega) (Nat.le_trans (wL_ge wVal_pos) (by omega)) hD fun H4 ps s4 e4 b4 => ?_
    walk_at "rd"
    refine ⟨D, ps, _, rfl, e4, b4, by rw [wL_len]; omega, fun H6 p6 s6 n6 e6 => ?_⟩
    rw [wL_len] at e6
    exact r_cat (xs := [3]) ((s4.trans s6) _ _ upd_same) e6 (by show 1 + _ ≤ _; omega) fun r hr => q.upd ((s1.trans s4).trans s6) hr rfl
  | make m vs =>
    obtain ⟨a, xs, rfl, ha, x1, _, rfl, h1, x3, _, rfl, h3, x2, _, rfl, h2, rfl⟩ := hv
    obtain rfl : x1 = .str "make" := h1
    obtain rfl : x3 = .str m := h3
    obtain ⟨b, ys, rfl, hb, hys⟩ := h2
    rw [dVals_eq] at hys
    have e0 : wVal (.make m vs) = [4] ++ wStr m ++ wL wVal vs := by rw [← wVals_wL]; simp [wVal]
    rw [e0] at hl q
    rw [List.length_append, List.length_append] at hl
    have hl2 : 1 + (wStr m).length + (wL wVal vs).length ≤ cap := hl
    have hdl : depL vs ≤ n := by
      rw [Val.dep] at hd
      omega
    walk_at "rd"
    refine r_isi (tx_tup ha) k_tuple_bool ?_
    walk_at "rd"
    refine ite_f rfl ?_
    walk_at "rd"
    refine r_isi (tx_tup ha) k_tuple_int ?_
    walk_at "rd"
    refine ite_f rfl ?_
    walk_at "rd"
    refine r_isi (tx_tup ha) k_tuple_str ?_
    walk_at "rd"
    refine ite_f rfl ?_
    walk_at "rd"
    refine r_ixT ha rfl ?_
    walk_at "rd"
    refine iteS (fun e => absurd e (by decide +kernel)) (fun _ => ?_)
    walk_at "rd"
    refine ⟨le_line rfl, fun p hp => ?_⟩
    have s1 := same_new (o := .lst [V.int 4]) hp
    walk_at "rd"
    refine r_ixT (s1 _ _ ha) rfl ?_
    walk_at "rd"
    refine ⟨_, m, rfl, rfl, hok.1, by omega, fun H2 p2 s2 n2 e2 => ?_⟩
    refine r_cat (xs := [4]) (s2 _ _ upd_same) e2 (by show 1 + _ ≤ _; omega) fun p3 n3 => ?_
    have s3 := (s1.trans s2).trans (same_new (o := bL ([4] ++ wStr m)) n3)
    walk_at "rd"
    refine r_ixT (s3 _ _ ha) rfl ?_
    refine ⟨b, rfl, ⟨_, SqT.of (s3 _ _ hb)⟩, fun D hD => ?_⟩
    refine lc_wg (w := wVal) (d := dVal) (spVL_mem hdl hok.2) (Wk.tup fun H' s => s _ _ (s3 _ _ hb)) (lt_by rfl) (hys.ts (Tst.same s3)) (by omega) (Nat.le_trans (wL_ge wVal_pos) (by omega)) hD fun H4 ps s4 e4 b4 => ?_
    walk_at "rd"
    refine ⟨D, ps, _, rfl, e4, b4, by rw [wL_len]; omega, fun H6 p6 s6 n6 e6 => ?_⟩
    rw [wL_len] at e6
    exact r_cat ((s4.trans s6) _ _ upd_same) e6 (by rw [List.length_append]; show 1 + _ + _ ≤ _; omega) fun r hr => q.upd ((s3.trans s4).trans s6) hr rfl
theorem ok_law_value_bytes (n : Nat) (T : Txt K mg) : Fc P w K mg base CX0 (n + 4) "_law_value_bytes" ["_law_value_here"] (spVL n) := by
  induction n with
  | zero =>
    have dummy : Fc P w K mg base CX0 (0 + 4) "_law_value_bytes" ["_law_value_here"] (fun _ _ _ _ => False) := by
      refine ⟨⟨fun vs H Q E h => h.elim, fun A outer s H args us vs Q E hr he hb hv hs => hs.elim⟩, gm_law_value_bytes T, (fd_law_value_bytes T.says).kp, (fd_law_value_bytes T.says).bindsN fun _ _ _ _ _ _ us hl => match us, hl with | [_], _ => rfl⟩
    refine dummy.vac fun vs H Q E h => ?_
    obtain ⟨v, x, _, _, ⟨hd, _⟩, _⟩ := h
    have := dep_pos x
    omega
  | succ n ih => exact ok_law_value_bytes_s ih T
end
end Q

/-! ## W8 -/
set_option Elab.async false
set_option linter.all false
set_option maxRecDepth 100000
set_option maxHeartbeats 4000000
namespace Q
open PySem PySem.Spec PyProof.Rows L2
local macro_rules | `(tactic| walk_at "rd") => `(tactic| repeat (first
  | ((with_reducible apply r_var); focus exact rfl)
  | with_reducible refine r_c ?_
  | with_reducible refine r_chain ?_
  | ((with_reducible apply r_aug); focus exact rfl)
  | with_reducible refine r_ip ?_
  | with_reducible refine r_op ?_
  | with_reducible refine r_I0 ?_
  | with_reducible refine r_cons ?_
  | with_reducible refine r_nil ?_
  | with_reducible refine r_seq ?_
  | with_reducible refine r_asg ?_
  | with_reducible refine r_gn ?_
  | with_reducible refine r_gcons ?_
  | with_reducible refine r_gnil ?_
  | with_reducible refine r_lc ?_
  | with_reducible refine r_m1 ?_
  | with_reducible refine r_sfld ?_
  | with_reducible refine r_sfa ?_
  | with_reducible refine r_rAdd ?_
  | with_reducible refine r_ret ?_
  | with_reducible refine r_ifS ?_
  | with_reducible refine r_test ?_
  | with_reducible refine r_bl ?_
  | with_reducible refine r_B ?_
  | with_reducible refine r_drop ?_
  | with_reducible refine r_bm ?_
  | with_reducible refine r_CB ?_
  | with_reducible refine r_call ?_
  | with_reducible refine r_meth ?_
  | with_reducible refine r_make ?_
  | with_reducible refine r_tup ?_
  | with_reducible refine r_lst ?_
  | ((with_reducible refine r_I ?_ ?_); focus (first | decide | exact ⟨by decide, by decide⟩ | exact .inl ⟨by decide, by decide⟩ | exact .inr ⟨by decide, by decide⟩ | omega))
  | with_reducible refine r_U ?_
  | with_reducible refine r_un ?_
  | with_reducible refine r_and ?_
  | with_reducible refine r_or ?_
  | with_reducible refine r_not ?_
  | with_reducible refine r_andV ?_
  | with_reducible refine r_orV ?_
  | with_reducible refine r_notV ?_
  | with_reducible refine r_if ?_
  | with_reducible refine r_sl ?_
  | with_reducible refine r_part ?_
  | with_reducible refine r_parti ?_
  | with_reducible refine r_nopart ?_
  | with_reducible refine r_il ?_
  | with_reducible refine r_it ?_
  | with_reducible refine r_ir ?_
  | with_reducible refine r_is ?_
  | with_reducible refine r_next ?_
  | with_reducible refine r_retN ?_
  | ((with_reducible refine r_eq ?_ ?_); focus exact rfl)
  | ((with_reducible refine r_ne ?_ ?_); focus exact rfl)))
local macro_rules | `(tactic| walk_at "rx") => `(tactic| repeat (first
  | ((with_reducible apply r_var); focus exact rfl)
  | with_reducible refine r_c ?_
  | with_reducible refine r_chain ?_
  | ((with_reducible apply r_aug); focus exact rfl)
  | with_reducible refine r_ip ?_
  | with_reducible refine r_op ?_
  | with_reducible refine r_I0 ?_
  | with_reducible refine r_cons ?_
  | with_reducible refine r_nil ?_
  | with_reducible refine r_seq ?_
  | with_reducible refine r_asg ?_
  | with_reducible refine r_gn ?_
  | with_reducible refine r_gcons ?_
  | with_reducible refine r_gnil ?_
  | with_reducible refine r_m1 ?_
  | with_reducible refine r_sfld ?_
  | with_reducible refine r_sfa ?_
  | with_reducible refine r_rAdd ?_
  | with_reducible refine r_ret ?_
  | with_reducible refine r_ifS ?_
  | with_reducible refine r_test ?_
  | with_reducible refine r_bl ?_
  | with_reducible refine r_B ?_
  | with_reducible refine r_drop ?_
  | with_reducible refine r_bm ?_
  | with_reducible refine r_CB ?_
  | with_reducible refine r_call ?_
  | with_reducible refine r_make ?_
  | with_reducible refine r_tup ?_
  | with_reducible refine r_lst ?_
  | ((with_reducible refine r_I ?_ ?_); focus (first | decide | exact ⟨by decide, by decide⟩ | exact .inl ⟨by decide, by decide⟩ | exact .inr ⟨by decide, by decide⟩ | omega))
  | with_reducible refine r_U ?_
  | with_reducible refine r_un ?_
  | with_reducible refine r_and ?_
  | with_reducible refine r_or ?_
  | with_reducible refine r_not ?_
  | with_reducible refine r_andV ?_
  | with_reducible refine r_orV ?_
  | with_reducible refine r_notV ?_
  | with_reducible refine r_if ?_
  | with_reducible refine r_sl ?_
  | with_reducible refine r_part ?_
  | with_reducible refine r_parti ?_
  | with_reducible refine r_nopart ?_
  | with_reducible refine r_il ?_
  | with_reducible refine r_it ?_
  | with_reducible refine r_ir ?_
  | with_reducible refine r_is ?_
  | with_reducible refine r_next ?_
  | with_reducible refine r_retN ?_
  | ((with_reducible refine r_eq ?_ ?_); focus exact rfl)
  | ((with_reducible refine r_ne ?_ ?_); focus exact rfl)))
section
variable {P : Program} {w : World} {K : PySem.W.Frag} {mg : Str → Option Value} {base : Heap}
/-- where a text stands first in a list of texts, as Python's list.index wants it -/
theorem ix_first {ss : List Str} {z : Str} {j : Nat} (h1 : ss[j]? = some z) (h2 : ∀ m, m < j → ss[m]? ≠ some z) :
    (ss.map V.str)[j]? = some (.str z) ∧ eqV (.str z) (.str z) = true ∧ ∀ (m : Nat) (z' : V), m < j → (ss.map V.str)[m]? = some z' → eqV z' (.str z) = false := by
  refine ⟨by rw [List.getElem?_map, h1] <;> rfl, beq_self_eq_true z, fun m z' hm e => ?_⟩
  obtain ⟨b, hb, rfl⟩ := getElem_map_some e
  show (b == z) = false
  have n : b ≠ z := fun q => h2 m hm (by rw [hb, q])
  simpa using n
theorem ok_law_kind_bytes  (T : Txt K mg) : Fc P w K mg base CX0 (4) "_law_kind_bytes" ["_law_kind"] (spWo wKind dKind okK) := by
  refine ⟨?_, gm_law_kind_bytes T, (fd_law_kind_bytes T.says).kp, (fd_law_kind_bytes T.says).bindsN fun _ _ _ _ _ _ us hl => match us, hl with | [_], _ => rfl⟩
  refine (fd_law_kind_bytes T.says).ok sc_law_kind_bytes (fun vs H Q E h => by first | (obtain ⟨_, rfl, _⟩ := h; rfl) | (obtain ⟨_, _, rfl, _⟩ := h; rfl) | (obtain ⟨_, _, _, rfl, _⟩ := h; rfl) | (obtain ⟨_, _, _, _, rfl, _⟩ := h; rfl) | (obtain ⟨_, _, _, _, _, rfl, _⟩ := h; rfl) | (obtain ⟨_, _, _, _, _, _, rfl, _⟩ := h; rfl) | (obtain ⟨_, _, _, _, _, _, _, rfl, _⟩ := h; rfl) | (obtain ⟨_, _, _, _, _, _, _, _, rfl, _⟩ := h; rfl) | (obtain ⟨_, _, _, _, _, _, _, _, _, rfl, _⟩ := h; rfl)) (fun cdv A outer s H vs Q E hr h => ?_)
  obtain ⟨v, k, rfl, hv, hok, hl, q⟩ := h
  obtain ⟨a, xs, rfl, ha, x1, _, rfl, h1, x2, _, rfl, h2, rfl⟩ := hv
  obtain rfl : x1 = .int k.1 := h1
  obtain rfl : x2 = .str k.2 := h2
  refine ⟨_, PSs.nox (pss_cons (ps_if (pt_cmpR op_in_seq (pe_ix ix_tup (pv 0) pe_int (fun _ _ => rfl)) (pe_lst (pa_cons pe_str (pa_cons pe_str (pa_cons pe_str pa_nil)))) rfl) (pss_one (ps_ret (pe_op op_cat (pe_f (ok_law_number T) (hr.mono (by omega)) (by rfl) (pa_cons (pe_ix ix_tup (pv 0) pe_int (fun _ _ => rfl)) pa_nil)) (pe_lst (pa_cons (pe_bm PySem.F.plainAttrs_list PySem.F.slot_list_index PySem.F.type_list_index mt_index (pe_lst (pa_cons pe_str (pa_cons pe_str (pa_cons pe_str pa_nil)))) (pa_cons (pe_ix ix_tup (pv 0) pe_int (fun _ _ => rfl)) pa_nil)) pa_nil))))) pss_nil)
      (pss_one (ps_ret (pe_op op_cat (pe_op op_cat (pe_f (ok_law_number T) (hr.mono (by omega)) (by rfl) (pa_cons (pe_ix ix_tup (pv 0) pe_int (fun _ _ => rfl)) pa_nil)) (pe_lst (pa_cons pe_int pa_nil))) (pe_f (ok_law_string T) (hr.mono (by omega)) (by rfl) (pa_cons (pe_ix ix_tup (pv 0) pe_int (fun _ _ => rfl)) pa_nil)))))), ?_⟩
  walk_at "rd"
  refine r_ixT ha rfl ?_
  walk_at "rd"
  refine ⟨le_line rfl, fun p hp => ?_⟩
  have s0 := same_new (o := .lst [V.str "num", V.str "text", V.str "bool"]) hp
  refine ⟨_, _, rfl, .inl (SqL.of upd_same), rfl, rfl, ?_⟩
  walk_at "rd"
  show if inV (.str k.2) (bases.map V.str) = true then _ else _
  rw [base_in]
  refine iteD (fun c => ?_) (fun c => ?_)
  · have e0 : wKind k = wNum k.1 ++ [baseIx k.2] := by unfold wKind; rw [if_pos c]
    rw [e0] at hl q
    rw [List.length_append] at hl
    obtain ⟨b1, b2⟩ := base_at c
    obtain ⟨i1, i2, i3⟩ := ix_first b1 b2
    walk_at "rd"
    refine r_ixT (s0 _ _ ha) rfl ?_
    walk_at "rd"
    refine ⟨_, k.1, rfl, rfl, by omega, fun H2 p2 s2 n2 e2 => ?_⟩
    walk_at "rd"
    refine ⟨le_line rfl, fun p3 n3 => ?_⟩
    have s3 := (s0.trans s2).trans (same_new (o := .lst [V.str "num", V.str "text", V.str "bool"]) n3)
    refine ⟨ty_l upd_same, ?_⟩
    walk_at "rd"
    refine r_ixT (s3 _ _ ha) rfl ?_
    walk_at "rd"
    refine ⟨p3, bases.map V.str, .str k.2, baseIx k.2, _, rfl, rfl, SqL.of upd_same, rfl, rfl, i1, i2, i3, ?_⟩
    walk_at "rd"
    refine ⟨le_line rfl, fun p4 n4 => ?_⟩
    refine r_cat (ys := [baseIx k.2]) (same_new n4 _ _ (same_new n3 _ _ e2)) upd_same (by show _ + 1 ≤ _; omega) fun r hr => q.upd (s3.trans (same_new n4)) hr rfl
  · have e0 : wKind k = wNum k.1 ++ [3] ++ wStr k.2 := by unfold wKind; rw [if_neg c]; simp
    rw [e0] at hl q
    rw [List.length_append, List.length_append] at hl
    walk_at "rd"
    refine r_ixT (s0 _ _ ha) rfl ?_
    walk_at "rd"
    refine ⟨_, k.1, rfl, rfl, by omega, fun H2 p2 s2 n2 e2 => ?_⟩
    walk_at "rd"
    refine ⟨le_line rfl, fun p hp => ?_⟩
    refine r_cat (ys := [3]) (same_new hp _ _ e2) upd_same (by show _ + 1 ≤ _; omega) fun p3 n3 => ?_
    have s3 := ((s0.trans s2).trans (same_new (o := bL [3]) hp)).trans (same_new (o := bL (wNum k.1 ++ [3])) n3)
    walk_at "rd"
    refine r_ixT (s3 _ _ ha) rfl ?_
    walk_at "rd"
    refine ⟨_, k.2, rfl, rfl, hok.2, by omega, fun H6 p6 s6 n6 e6 => ?_⟩
    exact r_cat (s6 _ _ upd_same) e6 (by rw [List.length_append]; show _ + 1 + _ ≤ _; have : [3].length = 1 := rfl; omega) fun r hr => q.upd (s3.trans s6) hr rfl
theorem ok_law_outcome_bytes  (T : Txt K mg) : Fc P w K mg base CX0 (45) "_law_outcome_bytes" ["_law_outcome_here"] (spWo wOut dOut okO) := by
  refine ⟨?_, gm_law_outcome_bytes T, (fd_law_outcome_bytes T.says).kp, (fd_law_outcome_bytes T.says).bindsN fun _ _ _ _ _ _ us hl => match us, hl with | [_], _ => rfl⟩
  refine (fd_law_outcome_bytes T.says).ok sc_law_outcome_bytes (fun vs H Q E h => by first | (obtain ⟨_, rfl, _⟩ := h; rfl) | (obtain ⟨_, _, rfl, _⟩ := h; rfl) | (obtain ⟨_, _, _, rfl, _⟩ := h; rfl) | (obtain ⟨_, _, _, _, rfl, _⟩ := h; rfl) | (obtain ⟨_, _, _, _, _, rfl, _⟩ := h; rfl) | (obtain ⟨_, _, _, _, _, _, rfl, _⟩ := h; rfl) | (obtain ⟨_, _, _, _, _, _, _, rfl, _⟩ := h; rfl) | (obtain ⟨_, _, _, _, _, _, _, _, rfl, _⟩ := h; rfl) | (obtain ⟨_, _, _, _, _, _, _, _, _, rfl, _⟩ := h; rfl)) (fun cdv A outer s H vs Q E hr h => ?_)
  obtain ⟨v, x, rfl, hv, ho, hl, q⟩ := h
  refine ⟨_, PSs.nox (pss_cons (ps_if (pt_cmpR op_eq (pe_ix ix_tup (pv 0) pe_int (fun _ _ => rfl)) pe_str (nomark _)) (pss_one (ps_ret (pe_op op_cat (pe_lst (pa_cons pe_int pa_nil)) (pe_f (ok_law_value_bytes 40 T) (hr.mono (by omega)) (by rfl) (pa_cons (pe_ix ix_tup (pv 0) pe_int (fun _ _ => rfl)) pa_nil))))) pss_nil)
      (pss_cons (ps_set (i := 1) sc_law_outcome_bytes.nd rfl (Or.inl rfl) (pe_lst (pa_cons pe_str (pa_cons pe_str (pa_cons pe_str (pa_cons pe_str (pa_cons pe_str (pa_cons pe_str pa_nil))))))))
      (pss_cons (ps_set (i := 2) sc_law_outcome_bytes.nd rfl (Or.inl rfl) (pe_lst (pa_cons pe_int (pa_cons (pe_bm PySem.F.plainAttrs_list PySem.F.slot_list_index PySem.F.type_list_index mt_index (pv 1) (pa_cons (pe_ix ix_tup (pe_ix ix_tup (pv 0) pe_int (fun _ _ => rfl)) pe_int (fun _ _ => rfl)) pa_nil)) pa_nil))))
      (pss_cons (ps_if (pt_cmpR op_eq (pe_ix ix_tup (pe_ix ix_tup (pv 0) pe_int (fun _ _ => rfl)) pe_int (fun _ _ => rfl)) pe_str (nomark _)) (pss_one (ps_set (i := 2) sc_law_outcome_bytes.nd rfl (Or.inl rfl) (pe_op op_cat (pv 2) (pe_f (ok_law_string T) (hr.mono (by omega)) (by rfl) (pa_cons (pe_ix ix_tup (pe_ix ix_tup (pv 0) pe_int (fun _ _ => rfl)) pe_int (fun _ _ => rfl)) pa_nil))))) pss_nil)
      (pss_one (ps_ret (pv 2))))))), ?_⟩
  cases x with
  | val u =>
    obtain ⟨a, xs, rfl, ha, x1, _, rfl, h1, x2, _, rfl, h2, rfl⟩ := hv
    obtain rfl : x1 = .str "value" := h1
    have hl2 : (wVal u).length + 1 ≤ cap := hl
    walk_at "rd"
    refine r_ixT ha rfl ?_
    walk_at "rd"
    refine iteS (fun _ => ?_) (fun z => absurd rfl z)
    walk_at "rd"
    refine ⟨le_line rfl, fun p hp => ?_⟩
    walk_at "rd"
    refine r_ixT (same_new hp _ _ ha) rfl ?_
    walk_at "rd"
    refine ⟨x2, u, rfl, h2.ts (Tst.same (same_new hp)), ho, by omega, fun H2 p2 s2 n2 e2 => ?_⟩
    exact r_cat (xs := [0]) (s2 _ _ upd_same) e2 (by show 1 + _ ≤ _; omega) fun r hr => q.upd ((same_new hp).trans s2) hr rfl
  | flt i z =>
    obtain ⟨a, xs, rfl, ha, x1, _, rfl, h1, x2, _, rfl, h2, rfl⟩ := hv
    obtain rfl : x1 = .str "fault" := h1
    obtain ⟨b, ys, rfl, hb, h3⟩ := flt_inv h2
    obtain ⟨f1, f2⟩ := faults_at ho.1
    obtain ⟨i1, i2, i3⟩ := ix_first f1 f2
    have hm := faults_miss ho.1
    walk_at "rd"
    refine r_ixT ha rfl ?_
    walk_at "rd"
    refine iteS (fun e => absurd e (by decide +kernel)) (fun _ => ?_)
    walk_at "rd"
    refine ⟨le_line rfl, fun p0 n0 => ?_⟩
    have s0 := same_new (o := .lst (faults.map V.str)) n0
    walk_at "rd"
    refine ⟨ty_l upd_same, ?_⟩
    walk_at "rd"
    refine r_ixT (s0 _ _ ha) rfl ?_
    walk_at "rd"
    refine r_ixT (s0 _ _ hb) (atI_nat (j := 0) rfl) ?_
    walk_at "rd"
    refine ⟨p0, faults.map V.str, .str (faults.getD i ""), i, _, rfl, rfl, SqL.of upd_same, rfl, rfl, i1, i2, i3, ?_⟩
    walk_at "rd"
    refine ⟨le_line rfl, fun p hp => ?_⟩
    have s1 := s0.trans (same_new (o := .lst [V.int 1, V.int i]) hp)
    have f1 : H p = none := s0.free hp
    walk_at "rd"
    refine r_ixT (s1 _ _ ha) rfl ?_
    walk_at "rd"
    refine r_ixT (s1 _ _ hb) (atI_nat (j := 0) rfl) ?_
    walk_at "rd"
    refine iteS (fun e => ?_) (fun e => ?_)
    · have hi := hm.mp e
      subst hi
      have e0 : wOut (.flt 3 z) = [1, 3] ++ wStr z := rfl
      rw [e0] at hl q
      rw [List.length_append] at hl
      have hl2 : 2 + (wStr z).length ≤ cap := hl
      obtain rfl := h3 rfl
      walk_at "rd"
      refine r_ixT (s1 _ _ ha) rfl ?_
      walk_at "rd"
      refine r_ixT (s1 _ _ hb) rfl ?_
      walk_at "rd"
      refine ⟨_, z, rfl, rfl, ho.2, by omega, fun H2 p2 s2 n2 e2 => ?_⟩
      refine r_cat (xs := [1, 3]) (s2 _ _ upd_same) e2 (by show 2 + _ ≤ _; omega) fun r hr => ?_
      walk_at "rd"
      exact q.upd (s1.trans s2) hr rfl
    · have e0 : wOut (.flt i z) = [1, i] := by
        show (if i = 3 then _ else _) = _
        rw [if_neg (fun c => e (hm.mpr c))]
      rw [e0] at q
      walk_at "rd"
      exact q.to s1 f1 (upd_same (o := bL [1, i])) rfl
theorem ok_law_cell_bytes  (T : Txt K mg) : Fc P w K mg base CX0 (46) "_law_cell_bytes" ["_law_cell_here"] (spWo wCell dCell okC) := by
  refine ⟨?_, gm_law_cell_bytes T, (fd_law_cell_bytes T.says).kp, (fd_law_cell_bytes T.says).bindsN fun _ _ _ _ _ _ us hl => match us, hl with | [_], _ => rfl⟩
  refine (fd_law_cell_bytes T.says).ok sc_law_cell_bytes (fun vs H Q E h => by first | (obtain ⟨_, rfl, _⟩ := h; rfl) | (obtain ⟨_, _, rfl, _⟩ := h; rfl) | (obtain ⟨_, _, _, rfl, _⟩ := h; rfl) | (obtain ⟨_, _, _, _, rfl, _⟩ := h; rfl) | (obtain ⟨_, _, _, _, _, rfl, _⟩ := h; rfl) | (obtain ⟨_, _, _, _, _, _, rfl, _⟩ := h; rfl) | (obtain ⟨_, _, _, _, _, _, _, rfl, _⟩ := h; rfl) | (obtain ⟨_, _, _, _, _, _, _, _, rfl, _⟩ := h; rfl) | (obtain ⟨_, _, _, _, _, _, _, _, _, rfl, _⟩ := h; rfl)) (fun cdv A outer s H vs Q E hr h => ?_)
  obtain ⟨v, c, rfl, hv, hok, hl, q⟩ := h
  obtain ⟨a, xs, rfl, ha, x1, _, rfl, h1, x2, _, rfl, h2, x3, _, rfl, h3, rfl⟩ := hv
  obtain rfl : x1 = .str c.1 := h1
  obtain ⟨b, ys, rfl, hb, y1, _, rfl, g1, y2, _, rfl, g2, rfl⟩ := h2
  obtain ⟨e, zs, rfl, he, hzs⟩ := g2
  obtain ⟨ok1, ⟨ok2, ok3⟩, ok4⟩ := hok
  have hl2 : (wStr c.1).length + ((wKind c.2.1.1).length + (wL wData c.2.1.2).length + (wOut c.2.2).length) ≤ cap := by
    have z := hl
    simp only [wCell, wShape, List.length_append] at z
    omega
  refine ⟨_, PSs.nox (pss_cons (ps_asg (pv 0) (pg_tup rfl (pgs_cons (pg_name (i := 1) sc_law_cell_bytes.nd rfl (Or.inl rfl)) (pgs_cons (pg_name (i := 2) sc_law_cell_bytes.nd rfl (Or.inl rfl)) (pgs_cons (pg_name (i := 3) sc_law_cell_bytes.nd rfl (Or.inl rfl)) pgs_nil)))))
      (pss_cons (ps_set (i := 4) sc_law_cell_bytes.nd rfl (Or.inl rfl) (pe_lst pa_nil))
      (pss_cons (ps_for PassesOwn.never rfl (pi_tup (pe_ix ix_tup (pv 2) pe_int (fun _ _ => rfl))) (pg_tup rfl (pgs_cons (pg_name (i := 5) sc_law_cell_bytes.nd rfl (Or.inl rfl)) (pgs_cons (pg_name (i := 6) sc_law_cell_bytes.nd rfl (Or.inl rfl)) pgs_nil))) (pss_cons (ps_set (i := 7) sc_law_cell_bytes.nd rfl (Or.inl rfl) (pe_lst pa_nil))
      (pss_cons (ps_for PassesOwn.never rfl (pi_tup (pv 6)) (pg_tup rfl (pgs_cons (pg_name (i := 8) sc_law_cell_bytes.nd rfl (Or.inl rfl)) (pgs_cons (pg_name (i := 9) sc_law_cell_bytes.nd rfl (Or.inl rfl)) pgs_nil))) (pss_one (ps_expr (pe_bm PySem.F.plainAttrs_list PySem.F.slot_list_append PySem.F.type_list_append mt_append (pv 7) (pa_cons (pe_op op_cat (pe_f (ok_law_string T) (hr.mono (by omega)) (by rfl) (pa_cons (pv 8) pa_nil)) (pe_f (ok_law_listed T) (hr.mono (by omega)) (by rfl) (pa_cons (pe_lc (own := [("_law_kind", 10)]) (g := gName 10) (tt := tYes) rfl sc_law_cell_bytes.nd (pi_tup (pv 9)) (blkOk_by (N := ["_law_cell_here", "_law_name", "_law_shape", "_law_outcome_here", "_law_parts", "_law_data", "_law_makers", "_law_written", "_law_maker", "_law_kinds", "_law_kind"]) (sc := defScope s_law_cell_bytes) (by decide +kernel)) (fun _ _ _ _ _ => (pg_name (i := 10) sc_law_cell_bytes.nd rfl (Or.inl rfl))) (fun _ _ _ _ _ => pts_nil) (fun _ _ _ _ _ => (pe_f (ok_law_kind_bytes T) (hr.mono (by omega)) (by rfl) (pa_cons (pv 10) pa_nil)))) pa_nil))) pa_nil)))))
      (pss_one (ps_expr (pe_bm PySem.F.plainAttrs_list PySem.F.slot_list_append PySem.F.type_list_append mt_append (pv 4) (pa_cons (pe_op op_cat (pe_f (ok_law_string T) (hr.mono (by omega)) (by rfl) (pa_cons (pv 5) pa_nil)) (pe_f (ok_law_listed T) (hr.mono (by omega)) (by rfl) (pa_cons (pv 7) pa_nil))) pa_nil)))))))
      (pss_one (ps_ret (pe_op op_cat (pe_op op_cat (pe_op op_cat (pe_f (ok_law_string T) (hr.mono (by omega)) (by rfl) (pa_cons (pv 1) pa_nil)) (pe_f (ok_law_kind_bytes T) (hr.mono (by omega)) (by rfl) (pa_cons (pe_ix ix_tup (pv 2) pe_int (fun _ _ => rfl)) pa_nil))) (pe_f (ok_law_listed T) (hr.mono (by omega)) (by rfl) (pa_cons (pv 4) pa_nil))) (pe_f (ok_law_outcome_bytes T) (hr.mono (by omega)) (by rfl) (pa_cons (pv 3) pa_nil)))))))), ?_⟩
  walk_at "rd"
  refine r_gtup ha rfl ?_
  walk_at "rd"
  refine ⟨le_line rfl, fun w0 hw => ?_⟩
  have s0 := same_new (o := .lst []) hw
  walk_at "rd"
  refine ⟨.ref b, rfl, ?_⟩
  walk_at "rd"
  refine r_ixT (s0 _ _ hb) rfl ?_
  refine ⟨e, rfl, ⟨_, SqT.of (s0 _ _ he)⟩, for_any (xs := zs) (Wk.tup (I := Same H) fun H' s => s _ _ he) (fun i σ H' => ∃ v5 v6 v7 v8 v9 v10 ps, σ = [some (.ref a), some (.str c.1), some (.ref b), some x3, some (.ref w0), v5, v6, v7, v8, v9, v10] ∧ Same H H' ∧ H' w0 = some (.lst (ps.map V.ref)) ∧ BsL H' ps ((c.2.1.2.map wData).take i) ∧ ∀ r ∈ ps, r ≠ w0) (fun i σ H' ⟨_, _, _, _, _, _, _, _, s, _⟩ => s)
    ⟨none, none, none, none, none, none, [], rfl, s0, upd_same, ⟨rfl, fun i p bs h => by simp at h⟩, fun p h => by simp at h⟩ ?_ ?_⟩
  · rintro i x σ H' hi ⟨v5, v6, v7, v8, v9, v10, ps, rfl, s, ea, hb2, hne⟩
    obtain ⟨d', hd, hx⟩ := hzs.at hi
    obtain ⟨t, ht, rfl⟩ := getElem_map_some hd
    have hlt := wL_at (w := wData) ht
    have okt := ok3 t (List.mem_of_getElem? ht)
    obtain ⟨f, fs, rfl, hf, u1, _, rfl, k1, u2, _, rfl, k2, rfl⟩ := hx
    obtain rfl : u1 = .str t.1 := k1
    obtain ⟨mb, ms, rfl, hmb, hms⟩ := k2
    have hl3 : (wStr t.1).length + (wL wMaker t.2).length ≤ cap := by
      rw [← List.length_append]
      exact Nat.le_trans hlt (by omega)
    refine r_gtup (s _ _ hf) rfl ?_
    walk_at "rd"
    refine ⟨le_line rfl, fun w1 hw1 => ?_⟩
    have s1 := same_new (o := .lst []) hw1
    walk_at "rd"
    refine ⟨.ref mb, rfl, ?_⟩
    refine ⟨mb, rfl, ⟨_, SqT.of (s1 _ _ (s _ _ hmb))⟩, for_any (xs := ms) (Wk.tup (I := Same H') fun H2 s2 => s2 _ _ (s _ _ hmb)) (fun i σ H2 => ∃ v8 v9 v10 qs, σ = [some (.ref a), some (.str c.1), some (.ref b), some x3, some (.ref w0), some (.str t.1), some (.ref mb), some (.ref w1), v8, v9, v10] ∧ Same H' H2 ∧ H2 w1 = some (.lst (qs.map V.ref)) ∧ BsL H2 qs ((t.2.map wMaker).take i) ∧ ∀ r ∈ qs, r ≠ w1) (fun i σ H' ⟨_, _, _, _, _, s, _⟩ => s)
      ⟨v8, v9, v10, [], rfl, s1, upd_same, ⟨rfl, fun i p bs h => by simp at h⟩, fun p h => by simp at h⟩ ?_ ?_⟩
    · rintro j y σ H2 hj ⟨v8, v9, v10, qs, rfl, s2, eb, hb3, hne2⟩
      obtain ⟨d2, hd2, hy⟩ := hms.at hj
      obtain ⟨mk, hmk, rfl⟩ := getElem_map_some hd2
      have hlm := wL_at (w := wMaker) hmk
      have okm := okt.2 mk (List.mem_of_getElem? hmk)
      obtain ⟨g, gs, rfl, hg, u1, _, rfl, k1, u2, _, rfl, k2, rfl⟩ := hy
      obtain rfl : u1 = .str mk.1 := k1
      obtain ⟨kb, ks, rfl, hkb, hks⟩ := k2
      have hl4 : (wStr mk.1).length + (wL wKind mk.2).length ≤ cap := by
        rw [← List.length_append]
        exact Nat.le_trans hlm (by omega)
      have s02 := s.trans s2
      refine r_gtup (s02 _ _ hg) rfl ?_
      walk_at "rd"
      refine ⟨ty_l eb, ?_⟩
      walk_at "rd"
      refine ⟨_, mk.1, rfl, rfl, okm.1, by omega, fun H4 p4 s4 n4 e4 => ?_⟩
      walk_at "rd"
      refine ⟨kb, rfl, ⟨_, SqT.of (s4 _ _ (s02 _ _ hkb))⟩, fun D hD => ?_⟩
      refine lc_wg (w := wKind) (d := dKind) (sp := spWo wKind dKind okK) (fun v x H Q E hm h1 h2 h3 => ⟨v, x, rfl, h1, okm.2 x hm, h2, h3⟩) (Wk.tup fun H' s' => s' _ _ (s4 _ _ (s02 _ _ hkb))) (lt_by rfl) (hks.ts (Tst.same (s02.trans s4))) (by omega) (Nat.le_trans (wL_ge wKind_pos) (by omega)) hD fun H5 rs s5 e5 b5 => ?_
      walk_at "rd"
      refine ⟨D, rs, _, rfl, e5, b5, by rw [wL_len]; omega, fun H6 p6 s6 n6 e6 => ?_⟩
      rw [wL_len] at e6
      have s56 := s5.trans s6
      refine r_cat (s56 _ _ e4) e6 (by omega) fun p7 n7 => ?_
      have s7 := (s4.trans s56).trans (same_new (o := bL (wStr mk.1 ++ wL wKind mk.2)) n7)
      have npa : p7 ≠ w1 := fun e => by
        rw [e, (s4.trans s56) _ _ eb] at n7
        cases n7
      obtain ⟨b2, ne2⟩ := BsL.snoc (o := .lst (qs.map V.ref ++ [V.ref p7])) hb3 hne2 s7 upd_same npa
      have hps : qs.length ≤ cap := by
        have h8 := hb3.len
        rw [List.length_take] at h8
        have h9 := wL_ge (l := t.2) wMaker_pos
        rw [List.length_map] at h8
        omega
      refine ⟨w1, _, _, rfl, rfl, s7 _ _ eb, by rw [List.length_map]; exact cap_lt hps, ?_⟩
      refine ⟨_, _, _, qs ++ [p7], rfl, same_mut (s2.trans s7) hw1, ?_, ?_, ne2⟩
      · rw [upd_same, List.map_append] <;> rfl
      · rw [List.take_add_one, List.getElem?_map, hmk]
        exact b2
    · rintro σ H2 ⟨v8, v9, v10, qs, rfl, s2, eb, hb3, hne2⟩
      have e8 : (t.2.map wMaker).take ms.length = t.2.map wMaker := List.take_of_length_le (by rw [hms.length, List.length_map, List.length_map]; exact Nat.le_refl _)
      rw [e8] at hb3
      walk_at "rd"
      refine ⟨ty_l (s2 _ _ ea), ?_⟩
      walk_at "rd"
      refine ⟨_, t.1, rfl, rfl, okt.1, by omega, fun H4 p4 s4 n4 e4 => ?_⟩
      walk_at "rd"
      refine ⟨w1, qs, _, rfl, s4 _ _ eb, hb3.same s4, by rw [wL_len]; omega, fun H6 p6 s6 n6 e6 => ?_⟩
      rw [wL_len] at e6
      refine r_cat (s6 _ _ e4) e6 (by omega) fun p7 n7 => ?_
      have s7 := ((s2.trans s4).trans s6).trans (same_new (o := bL (wStr t.1 ++ wL wMaker t.2)) n7)
      have npa : p7 ≠ w0 := fun e => by
        rw [e, ((s2.trans s4).trans s6) _ _ ea] at n7
        cases n7
      obtain ⟨b2, ne2⟩ := BsL.snoc (o := .lst (ps.map V.ref ++ [V.ref p7])) hb2 hne s7 upd_same npa
      have hps : ps.length ≤ cap := by
        have h8 := hb2.len
        rw [List.length_take] at h8
        have h9 := wL_ge (l := c.2.1.2) wData_pos
        rw [List.length_map] at h8
        omega
      refine ⟨w0, _, _, rfl, rfl, s7 _ _ ea, by rw [List.length_map]; exact cap_lt hps, ?_⟩
      refine ⟨_, _, _, _, _, _, ps ++ [p7], rfl, same_mut (s.trans s7) hw, ?_, ?_, ne2⟩
      · rw [upd_same, List.map_append] <;> rfl
      · rw [List.take_add_one, List.getElem?_map, ht]
        exact b2
  · rintro σ H' ⟨v5, v6, v7, v8, v9, v10, ps, rfl, s, ea, hb2, hne⟩
    have e8 : (c.2.1.2.map wData).take zs.length = c.2.1.2.map wData := List.take_of_length_le (by rw [hzs.length, List.length_map, List.length_map]; exact Nat.le_refl _)
    rw [e8] at hb2
    walk_at "rd"
    refine ⟨_, c.1, rfl, rfl, ok1, by omega, fun H2 p2 s2 n2 e2 => ?_⟩
    walk_at "rd"
    refine r_ixT ((s.trans s2) _ _ hb) rfl ?_
    walk_at "rd"
    refine ⟨_, c.2.1.1, rfl, g1.ts (Tst.same (s.trans s2)), ok2, by omega, fun H4 p4 s4 n4 e4 => ?_⟩
    refine r_cat (s4 _ _ e2) e4 (by omega) fun p5 n5 => ?_
    have s5 := (s2.trans s4).trans (same_new (o := bL (wStr c.1 ++ wKind c.2.1.1)) n5)
    walk_at "rd"
    refine ⟨w0, ps, _, rfl, s5 _ _ ea, hb2.same s5, by rw [wL_len]; omega, fun H6 p6 s6 n6 e6 => ?_⟩
    rw [wL_len] at e6
    refine r_cat (s6 _ _ upd_same) e6 (by rw [List.length_append]; omega) fun p7 n7 => ?_
    have s7 := (s5.trans s6).trans (same_new (o := bL (wStr c.1 ++ wKind c.2.1.1 ++ wL wData c.2.1.2)) n7)
    walk_at "rd"
    refine ⟨x3, c.2.2, rfl, h3.ts (Tst.same (s.trans s7)), ok4, by omega, fun H8 p8 s8 n8 e8 => ?_⟩
    exact r_cat (s8 _ _ upd_same) e8 (by rw [List.length_append, List.length_append]; omega) fun r hr => q.upd ((s.trans s7).trans s8) hr (by simp [wCell, wShape])
def spGrL : Sp := fun vs H Q _ => ∃ l1 l2 ys zs ts cs, vs = [.ref l1, .ref l2] ∧ H l1 = some (.lst ys) ∧ RpL H (ts.map dTrip) ys ∧ H l2 = some (.lst zs) ∧ RpL H (cs.map dCell) zs ∧ ((∀ t ∈ ts, okT t) ∧ ∀ c ∈ cs, okC c) ∧ (wGroup ts cs).length ≤ cap ∧ RetB H Q (wGroup ts cs)
theorem ok_law_group_bytes  (T : Txt K mg) : Fc P w K mg base CX0 (48) "_law_group_bytes" ["_law_triples", "_law_cells"] (spGrL) := by
  refine ⟨?_, gm_law_group_bytes T, (fd_law_group_bytes T.says).kp, (fd_law_group_bytes T.says).bindsN fun _ _ _ _ _ _ us hl => match us, hl with | [_, _], _ => rfl⟩
  refine (fd_law_group_bytes T.says).ok sc_law_group_bytes (fun vs H Q E h => by first | (obtain ⟨_, rfl, _⟩ := h; rfl) | (obtain ⟨_, _, rfl, _⟩ := h; rfl) | (obtain ⟨_, _, _, rfl, _⟩ := h; rfl) | (obtain ⟨_, _, _, _, rfl, _⟩ := h; rfl) | (obtain ⟨_, _, _, _, _, rfl, _⟩ := h; rfl) | (obtain ⟨_, _, _, _, _, _, rfl, _⟩ := h; rfl) | (obtain ⟨_, _, _, _, _, _, _, rfl, _⟩ := h; rfl) | (obtain ⟨_, _, _, _, _, _, _, _, rfl, _⟩ := h; rfl) | (obtain ⟨_, _, _, _, _, _, _, _, _, rfl, _⟩ := h; rfl)) (fun cdv A outer s H vs Q E hr h => ?_)
  obtain ⟨l1, l2, ys, zs, ts, cs, rfl, h1, hy, h2, hz, ho, hl, q⟩ := h
  have hl2 : (wL wTrip ts).length + (wL wCell cs).length ≤ cap := by
    rw [← List.length_append]
    exact hl
  refine ⟨_, PSs.nox (pss_one (ps_ret (pe_op op_cat (pe_f (ok_law_triples_bytes T) (hr.mono (by omega)) (by rfl) (pa_cons (pv 0) pa_nil)) (pe_f (ok_law_listed T) (hr.mono (by omega)) (by rfl) (pa_cons (pe_lc (own := [("_law_cell_here", 2)]) (g := gName 2) (tt := tYes) rfl sc_law_group_bytes.nd (pi_list (pv 1)) (blkOk_by (N := ["_law_triples", "_law_cells", "_law_cell_here"]) (sc := defScope s_law_group_bytes) (by decide +kernel)) (fun _ _ _ _ _ => (pg_name (i := 2) sc_law_group_bytes.nd rfl (Or.inl rfl))) (fun _ _ _ _ _ => pts_nil) (fun _ _ _ _ _ => (pe_f (ok_law_cell_bytes T) (hr.mono (by omega)) (by rfl) (pa_cons (pv 2) pa_nil)))) pa_nil))))), ?_⟩
  walk_at "rd"
  refine ⟨l1, ys, ts, rfl, h1, hy, ho.1, by omega, fun H2 p2 s2 n2 e2 => ?_⟩
  walk_at "rd"
  refine ⟨l2, rfl, ⟨_, SqL.of (s2 _ _ h2)⟩, fun D hD => ?_⟩
  refine lc_wg (w := wCell) (d := dCell) (sp := spWo wCell dCell okC) (fun v x H Q E hm h1 h2 h3 => ⟨v, x, rfl, h1, ho.2 x hm, h2, h3⟩) (Wk.lst fun H' s' => s' _ _ (s2 _ _ h2)) (lt_by rfl) (hz.ts (Tst.same s2)) (by omega) (Nat.le_trans (wL_ge wCell_pos) (by omega)) hD fun H5 rs s5 e5 b5 => ?_
  walk_at "rd"
  refine ⟨D, rs, _, rfl, e5, b5, by rw [wL_len]; omega, fun H6 p6 s6 n6 e6 => ?_⟩
  rw [wL_len] at e6
  exact r_cat ((s5.trans s6) _ _ e2) e6 (by omega) fun r hr => q.upd (s2.trans (s5.trans s6)) hr rfl
end
end Q

/-! ## W9 -/
set_option Elab.async false
set_option linter.all false
set_option maxRecDepth 100000
set_option maxHeartbeats 4000000
namespace Q
open PySem PySem.Spec PyProof.Rows L2
local macro_rules | `(tactic| walk_at "rd") => `(tactic| repeat (first
  | ((with_reducible apply r_var); focus exact rfl)
  | with_reducible refine r_c ?_
  | with_reducible refine r_chain ?_
  | ((with_reducible apply r_aug); focus exact rfl)
  | with_reducible refine r_ip ?_
  | with_reducible refine r_op ?_
  | with_reducible refine r_I0 ?_
  | with_reducible refine r_cons ?_
  | with_reducible refine r_nil ?_
  | with_reducible refine r_seq ?_
  | with_reducible refine r_asg ?_
  | with_reducible refine r_gn ?_
  | with_reducible refine r_gcons ?_
  | with_reducible refine r_gnil ?_
  | with_reducible refine r_lc ?_
  | with_reducible refine r_m1 ?_
  | with_reducible refine r_sfld ?_
  | with_reducible refine r_sfa ?_
  | with_reducible refine r_rAdd ?_
  | with_reducible refine r_ret ?_
  | with_reducible refine r_ifS ?_
  | with_reducible refine r_test ?_
  | with_reducible refine r_bl ?_
  | with_reducible refine r_B ?_
  | with_reducible refine r_drop ?_
  | with_reducible refine r_bm ?_
  | with_reducible refine r_CB ?_
  | with_reducible refine r_call ?_
  | with_reducible refine r_meth ?_
  | with_reducible refine r_make ?_
  | with_reducible refine r_tup ?_
  | with_reducible refine r_lst ?_
  | ((with_reducible refine r_I ?_ ?_); focus (first | decide | exact ⟨by decide, by decide⟩ | exact .inl ⟨by decide, by decide⟩ | exact .inr ⟨by decide, by decide⟩ | omega))
  | with_reducible refine r_U ?_
  | with_reducible refine r_un ?_
  | with_reducible refine r_and ?_
  | with_reducible refine r_or ?_
  | with_reducible refine r_not ?_
  | with_reducible refine r_andV ?_
  | with_reducible refine r_orV ?_
  | with_reducible refine r_notV ?_
  | with_reducible refine r_if ?_
  | with_reducible refine r_sl ?_
  | with_reducible refine r_part ?_
  | with_reducible refine r_parti ?_
  | with_reducible refine r_nopart ?_
  | with_reducible refine r_il ?_
  | with_reducible refine r_it ?_
  | with_reducible refine r_ir ?_
  | with_reducible refine r_is ?_
  | with_reducible refine r_next ?_
  | with_reducible refine r_retN ?_
  | ((with_reducible refine r_eq ?_ ?_); focus exact rfl)
  | ((with_reducible refine r_ne ?_ ?_); focus exact rfl)))
local macro_rules | `(tactic| walk_at "rx") => `(tactic| repeat (first
  | ((with_reducible apply r_var); focus exact rfl)
  | with_reducible refine r_c ?_
  | with_reducible refine r_chain ?_
  | ((with_reducible apply r_aug); focus exact rfl)
  | with_reducible refine r_ip ?_
  | with_reducible refine r_op ?_
  | with_reducible refine r_I0 ?_
  | with_reducible refine r_cons ?_
  | with_reducible refine r_nil ?_
  | with_reducible refine r_seq ?_
  | with_reducible refine r_asg ?_
  | with_reducible refine r_gn ?_
  | with_reducible refine r_gcons ?_
  | with_reducible refine r_gnil ?_
  | with_reducible refine r_m1 ?_
  | with_reducible refine r_sfld ?_
  | with_reducible refine r_sfa ?_
  | with_reducible refine r_rAdd ?_
  | with_reducible refine r_ret ?_
  | with_reducible refine r_ifS ?_
  | with_reducible refine r_test ?_
  | with_reducible refine r_bl ?_
  | with_reducible refine r_B ?_
  | with_reducible refine r_drop ?_
  | with_reducible refine r_bm ?_
  | with_reducible refine r_CB ?_
  | with_reducible refine r_call ?_
  | with_reducible refine r_make ?_
  | with_reducible refine r_tup ?_
  | with_reducible refine r_lst ?_
  | ((with_reducible refine r_I ?_ ?_); focus (first | decide | exact ⟨by decide, by decide⟩ | exact .inl ⟨by decide, by decide⟩ | exact .inr ⟨by decide, by decide⟩ | omega))
  | with_reducible refine r_U ?_
  | with_reducible refine r_un ?_
  | with_reducible refine r_and ?_
  | with_reducible refine r_or ?_
  | with_reducible refine r_not ?_
  | with_reducible refine r_andV ?_
  | with_reducible refine r_orV ?_
  | with_reducible refine r_notV ?_
  | with_reducible refine r_if ?_
  | with_reducible refine r_sl ?_
  | with_reducible refine r_part ?_
  | with_reducible refine r_parti ?_
  | with_reducible refine r_nopart ?_
  | with_reducible refine r_il ?_
  | with_reducible refine r_it ?_
  | with_reducible refine r_ir ?_
  | with_reducible refine r_is ?_
  | with_reducible refine r_next ?_
  | with_reducible refine r_retN ?_
  | ((with_reducible refine r_eq ?_ ?_); focus exact rfl)
  | ((with_reducible refine r_ne ?_ ?_); focus exact rfl)))
section
variable {P : Program} {w : World} {K : PySem.W.Frag} {mg : Str → Option Value} {base : Heap}
/-! ### records -/
def ckStep (t b : Nat) : Nat := (31 * t + b + 1) % 4294967296
def checkS (bs : List Nat) : Nat := bs.foldl ckStep 7
theorem checkS_take {bs : List Nat} {i b : Nat} (h : bs[i]? = some b) : checkS (bs.take (i + 1)) = ckStep (checkS (bs.take i)) b := by
  unfold checkS
  rw [List.take_add_one, h, List.foldl_append]
  rfl
def tailS (t : Nat) : List Nat := [t / 16777216, t / 65536 % 256, t / 256 % 256, t % 256]
def wRec (bs : List Nat) : List Nat := wNum bs.length ++ bs ++ tailS (checkS bs)
def spCk : Sp := fun vs H Q _ => ∃ l bs, vs = [.ref l] ∧ H l = some (bL bs) ∧ Q (.int (checkS bs)) H
theorem tail_bL (t : Nat) : (.lst [V.int ((t : Int) / 16777216), V.int ((t : Int) / 65536 % 256), V.int ((t : Int) / 256 % 256), V.int ((t : Int) % 256)] : HO) = bL (tailS t) := rfl
theorem ok_checksum  (T : Txt K mg) : Fc P w K mg base CX0 (1) "checksum" ["data"] (spCk) := by
  refine ⟨?_, gm_checksum T, (fd_checksum T.says).kp, (fd_checksum T.says).bindsN fun _ _ _ _ _ _ us hl => match us, hl with | [_], _ => rfl⟩
  refine (fd_checksum T.says).ok sc_checksum (fun vs H Q E h => by first | (obtain ⟨_, rfl, _⟩ := h; rfl) | (obtain ⟨_, _, rfl, _⟩ := h; rfl) | (obtain ⟨_, _, _, rfl, _⟩ := h; rfl) | (obtain ⟨_, _, _, _, rfl, _⟩ := h; rfl) | (obtain ⟨_, _, _, _, _, rfl, _⟩ := h; rfl) | (obtain ⟨_, _, _, _, _, _, rfl, _⟩ := h; rfl) | (obtain ⟨_, _, _, _, _, _, _, rfl, _⟩ := h; rfl) | (obtain ⟨_, _, _, _, _, _, _, _, rfl, _⟩ := h; rfl) | (obtain ⟨_, _, _, _, _, _, _, _, _, rfl, _⟩ := h; rfl)) (fun cdv A outer s H vs Q E hr h => ?_)
  obtain ⟨l, bs, rfl, hl, q⟩ := h
  refine ⟨_, PSs.nox (pss_cons (ps_set (i := 1) sc_checksum.nd rfl (Or.inl rfl) pe_int)
      (pss_cons (ps_for PassesOwn.never rfl (pi_list (pv 0)) (pg_name (i := 2) sc_checksum.nd rfl (Or.inl rfl)) (pss_one (ps_set (i := 1) sc_checksum.nd rfl (Or.inl rfl) (pe_op op_mod (pe_op op_add (pe_op op_add (pe_op op_mul pe_int (pv 1)) (pv 2)) pe_int) (pe_gi (gi_CHECKSUM_LIMIT T) (by rfl))))))
      (pss_one (ps_ret (pv 1))))), ?_⟩
  walk_at "rd"
  refine ⟨.ref l, rfl, l, rfl, ⟨_, SqL.of hl⟩, for_any (xs := bs.map bV) (Wk.lst (I := fun H' => H' = H) fun H' s => by rw [s]; exact hl) (fun i σ H' => ∃ v, σ = [some (.ref l), some (.int (checkS (bs.take i))), v] ∧ H' = H) (fun i σ H' ⟨_, _, s⟩ => s) ⟨none, rfl, rfl⟩ ?_ ?_⟩
  · rintro i x σ H' hi ⟨v, rfl, rfl⟩
    obtain ⟨b, hb, e⟩ := getElem_map_some hi
    obtain rfl : x = .int (b : Int) := e
    walk_at "rd"
    refine ⟨some (.int (b : Int)), ?_, rfl⟩
    show ([some (V.ref l), some (V.int ((31 * (checkS (bs.take i) : Int) + (b : Int) + 1) % 4294967296)), some (V.int b)] : L2.St) = _
    rw [checkS_take hb]
    rfl
  · rintro σ H' ⟨v, rfl, rfl⟩
    walk_at "rd"
    rw [List.length_map, List.take_length]
    exact q
theorem ok_law_checksum  (T : Txt K mg) : Fc P w K mg base CX0 (1) "_law_checksum" ["_law_data"] (spCk) := by
  refine ⟨?_, gm_law_checksum T, (fd_law_checksum T.says).kp, (fd_law_checksum T.says).bindsN fun _ _ _ _ _ _ us hl => match us, hl with | [_], _ => rfl⟩
  refine (fd_law_checksum T.says).ok sc_law_checksum (fun vs H Q E h => by first | (obtain ⟨_, rfl, _⟩ := h; rfl) | (obtain ⟨_, _, rfl, _⟩ := h; rfl) | (obtain ⟨_, _, _, rfl, _⟩ := h; rfl) | (obtain ⟨_, _, _, _, rfl, _⟩ := h; rfl) | (obtain ⟨_, _, _, _, _, rfl, _⟩ := h; rfl) | (obtain ⟨_, _, _, _, _, _, rfl, _⟩ := h; rfl) | (obtain ⟨_, _, _, _, _, _, _, rfl, _⟩ := h; rfl) | (obtain ⟨_, _, _, _, _, _, _, _, rfl, _⟩ := h; rfl) | (obtain ⟨_, _, _, _, _, _, _, _, _, rfl, _⟩ := h; rfl)) (fun cdv A outer s H vs Q E hr h => ?_)
  obtain ⟨l, bs, rfl, hl, q⟩ := h
  refine ⟨_, PSs.nox (pss_cons (ps_set (i := 1) sc_law_checksum.nd rfl (Or.inl rfl) pe_int)
      (pss_cons (ps_for PassesOwn.never rfl (pi_list (pv 0)) (pg_name (i := 2) sc_law_checksum.nd rfl (Or.inl rfl)) (pss_one (ps_set (i := 1) sc_law_checksum.nd rfl (Or.inl rfl) (pe_op op_mod (pe_op op_add (pe_op op_add (pe_op op_mul pe_int (pv 1)) (pv 2)) pe_int) pe_int))))
      (pss_one (ps_ret (pv 1))))), ?_⟩
  walk_at "rd"
  refine ⟨.ref l, rfl, l, rfl, ⟨_, SqL.of hl⟩, for_any (xs := bs.map bV) (Wk.lst (I := fun H' => H' = H) fun H' s => by rw [s]; exact hl) (fun i σ H' => ∃ v, σ = [some (.ref l), some (.int (checkS (bs.take i))), v] ∧ H' = H) (fun i σ H' ⟨_, _, s⟩ => s) ⟨none, rfl, rfl⟩ ?_ ?_⟩
  · rintro i x σ H' hi ⟨v, rfl, rfl⟩
    obtain ⟨b, hb, e⟩ := getElem_map_some hi
    obtain rfl : x = .int (b : Int) := e
    walk_at "rd"
    refine ⟨some (.int (b : Int)), ?_, rfl⟩
    show ([some (V.ref l), some (V.int ((31 * (checkS (bs.take i) : Int) + (b : Int) + 1) % 4294967296)), some (V.int b)] : L2.St) = _
    rw [checkS_take hb]
    rfl
  · rintro σ H' ⟨v, rfl, rfl⟩
    walk_at "rd"
    rw [List.length_map, List.take_length]
    exact q
def spRec : Sp := fun vs H Q _ => ∃ l bs, vs = [.ref l] ∧ H l = some (bL bs) ∧ (wRec bs).length ≤ cap ∧ RetB H Q (wRec bs)
theorem wRec_len (bs : List Nat) : (wRec bs).length = (wNum bs.length).length + bs.length + 4 := by
  simp only [wRec, tailS, List.length_append, List.length_cons, List.length_nil]
theorem ok_write_record  (T : Txt K mg) : Fc P w K mg base CX0 (2) "write_record" ["data"] (spRec) := by
  refine ⟨?_, gm_write_record T, (fd_write_record T.says).kp, (fd_write_record T.says).bindsN fun _ _ _ _ _ _ us hl => match us, hl with | [_], _ => rfl⟩
  refine (fd_write_record T.says).ok sc_write_record (fun vs H Q E h => by first | (obtain ⟨_, rfl, _⟩ := h; rfl) | (obtain ⟨_, _, rfl, _⟩ := h; rfl) | (obtain ⟨_, _, _, rfl, _⟩ := h; rfl) | (obtain ⟨_, _, _, _, rfl, _⟩ := h; rfl) | (obtain ⟨_, _, _, _, _, rfl, _⟩ := h; rfl) | (obtain ⟨_, _, _, _, _, _, rfl, _⟩ := h; rfl) | (obtain ⟨_, _, _, _, _, _, _, rfl, _⟩ := h; rfl) | (obtain ⟨_, _, _, _, _, _, _, _, rfl, _⟩ := h; rfl) | (obtain ⟨_, _, _, _, _, _, _, _, _, rfl, _⟩ := h; rfl)) (fun cdv A outer s H vs Q E hr h => ?_)
  obtain ⟨l, bs, rfl, hb, hl, q⟩ := h
  rw [wRec_len] at hl
  refine ⟨_, PSs.nox (pss_cons (ps_set (i := 1) sc_write_record.nd rfl (Or.inl rfl) (pe_f (ok_checksum T) (hr.mono (by omega)) (by rfl) (pa_cons (pv 0) pa_nil)))
      (pss_cons (ps_set (i := 2) sc_write_record.nd rfl (Or.inl rfl) (pe_lst (pa_cons (pe_op op_fdiv (pv 1) pe_int) (pa_cons (pe_op op_mod (pe_op op_fdiv (pv 1) pe_int) pe_int) (pa_cons (pe_op op_mod (pe_op op_fdiv (pv 1) pe_int) pe_int) (pa_cons (pe_op op_mod (pv 1) pe_int) pa_nil))))))
      (pss_one (ps_ret (pe_op op_cat (pe_op op_cat (pe_f (ok_write_number T) (hr.mono (by omega)) (by rfl) (pa_cons (pe_callB call_len_seq (by rfl) (n_len T) PySem.boot_len (pa_cons (pv 0) pa_nil)) pa_nil)) (pe_callTy call_list_of (by rfl) (n_list T) (by decide +kernel) (pa_cons (pv 0) pa_nil))) (pv 2)))))), ?_⟩
  walk_at "rd"
  refine ⟨l, bs, rfl, hb, ?_⟩
  walk_at "rd"
  refine ⟨le_line rfl, fun p hp => ?_⟩
  rw [tail_bL]
  have s0 := same_new (o := bL (tailS (checkS bs))) hp
  walk_at "rd"
  refine ⟨l, _, rfl, .inl (SqL.of (s0 _ _ hb)), ?_⟩
  walk_at "rd"
  refine ⟨_, bs.length, rfl, by rw [List.length_map] <;> rfl, by omega, fun H2 p2 s2 n2 e2 => ?_⟩
  have s02 := s0.trans s2
  walk_at "rd"
  refine ⟨l, _, rfl, .inl (SqL.of (s02 _ _ hb)), fun p3 n3 => ?_⟩
  refine r_cat (same_new n3 _ _ e2) upd_same (by omega) fun p4 n4 => ?_
  have s4 := (same_new (o := .lst (bs.map bV)) n3).trans (same_new (o := bL (wNum bs.length ++ bs)) n4)
  walk_at "rd"
  exact r_cat upd_same (s4 _ _ (s2 _ _ upd_same)) (by rw [List.length_append]; show _ + _ + 4 ≤ _; omega) fun r hr => q.upd (s02.trans s4) hr rfl
theorem ok_law_record  (T : Txt K mg) : Fc P w K mg base CX0 (2) "_law_record" ["_law_data"] (spRec) := by
  refine ⟨?_, gm_law_record T, (fd_law_record T.says).kp, (fd_law_record T.says).bindsN fun _ _ _ _ _ _ us hl => match us, hl with | [_], _ => rfl⟩
  refine (fd_law_record T.says).ok sc_law_record (fun vs H Q E h => by first | (obtain ⟨_, rfl, _⟩ := h; rfl) | (obtain ⟨_, _, rfl, _⟩ := h; rfl) | (obtain ⟨_, _, _, rfl, _⟩ := h; rfl) | (obtain ⟨_, _, _, _, rfl, _⟩ := h; rfl) | (obtain ⟨_, _, _, _, _, rfl, _⟩ := h; rfl) | (obtain ⟨_, _, _, _, _, _, rfl, _⟩ := h; rfl) | (obtain ⟨_, _, _, _, _, _, _, rfl, _⟩ := h; rfl) | (obtain ⟨_, _, _, _, _, _, _, _, rfl, _⟩ := h; rfl) | (obtain ⟨_, _, _, _, _, _, _, _, _, rfl, _⟩ := h; rfl)) (fun cdv A outer s H vs Q E hr h => ?_)
  obtain ⟨l, bs, rfl, hb, hl, q⟩ := h
  rw [wRec_len] at hl
  refine ⟨_, PSs.nox (pss_cons (ps_set (i := 1) sc_law_record.nd rfl (Or.inl rfl) (pe_f (ok_law_checksum T) (hr.mono (by omega)) (by rfl) (pa_cons (pv 0) pa_nil)))
      (pss_one (ps_ret (pe_op op_cat (pe_op op_cat (pe_f (ok_law_number T) (hr.mono (by omega)) (by rfl) (pa_cons (pe_callB call_len_seq (by rfl) (n_len T) PySem.boot_len (pa_cons (pv 0) pa_nil)) pa_nil)) (pv 0)) (pe_lst (pa_cons (pe_op op_fdiv (pv 1) pe_int) (pa_cons (pe_op op_mod (pe_op op_fdiv (pv 1) pe_int) pe_int) (pa_cons (pe_op op_mod (pe_op op_fdiv (pv 1) pe_int) pe_int) (pa_cons (pe_op op_mod (pv 1) pe_int) pa_nil))))))))), ?_⟩
  walk_at "rd"
  refine ⟨l, bs, rfl, hb, ?_⟩
  walk_at "rd"
  refine ⟨l, _, rfl, .inl (SqL.of hb), ?_⟩
  walk_at "rd"
  refine ⟨_, bs.length, rfl, by rw [List.length_map] <;> rfl, by omega, fun H2 p2 s2 n2 e2 => ?_⟩
  walk_at "rd"
  refine r_cat e2 (s2 _ _ hb) (by omega) fun p4 n4 => ?_
  have s4 := same_new (o := bL (wNum bs.length ++ bs)) n4
  walk_at "rd"
  refine ⟨le_line rfl, fun p hp => ?_⟩
  rw [tail_bL]
  exact r_cat (same_new hp _ _ upd_same) upd_same (by rw [List.length_append]; show _ + _ + 4 ≤ _; omega) fun r hr => q.upd ((s2.trans s4).trans (same_new hp)) hr rfl
end
end Q

/-! ## R1 -/
set_option Elab.async false
set_option linter.all false
set_option maxRecDepth 100000
set_option maxHeartbeats 4000000
namespace Q
open PySem PySem.Spec PyProof.Rows L2
local macro_rules | `(tactic| walk_at "rd") => `(tactic| repeat (first
  | ((with_reducible apply r_var); focus exact rfl)
  | with_reducible refine r_c ?_
  | with_reducible refine r_chain ?_
  | ((with_reducible apply r_aug); focus exact rfl)
  | with_reducible refine r_ip ?_
  | with_reducible refine r_op ?_
  | with_reducible refine r_I0 ?_
  | with_reducible refine r_cons ?_
  | with_reducible refine r_nil ?_
  | with_reducible refine r_seq ?_
  | with_reducible refine r_asg ?_
  | with_reducible refine r_gn ?_
  | with_reducible refine r_gcons ?_
  | with_reducible refine r_gnil ?_
  | with_reducible refine r_lc ?_
  | with_reducible refine r_m1 ?_
  | with_reducible refine r_sfld ?_
  | with_reducible refine r_sfa ?_
  | with_reducible refine r_rAdd ?_
  | with_reducible refine r_ret ?_
  | with_reducible refine r_ifS ?_
  | with_reducible refine r_test ?_
  | with_reducible refine r_bl ?_
  | with_reducible refine r_B ?_
  | with_reducible refine r_drop ?_
  | with_reducible refine r_bm ?_
  | with_reducible refine r_CB ?_
  | with_reducible refine r_call ?_
  | with_reducible refine r_meth ?_
  | with_reducible refine r_make ?_
  | with_reducible refine r_tup ?_
  | with_reducible refine r_lst ?_
  | ((with_reducible refine r_I ?_ ?_); focus (first | decide | exact ⟨by decide, by decide⟩ | exact .inl ⟨by decide, by decide⟩ | exact .inr ⟨by decide, by decide⟩ | omega))
  | with_reducible refine r_U ?_
  | with_reducible refine r_un ?_
  | with_reducible refine r_and ?_
  | with_reducible refine r_or ?_
  | with_reducible refine r_not ?_
  | with_reducible refine r_andV ?_
  | with_reducible refine r_orV ?_
  | with_reducible refine r_notV ?_
  | with_reducible refine r_if ?_
  | with_reducible refine r_sl ?_
  | with_reducible refine r_part ?_
  | with_reducible refine r_parti ?_
  | with_reducible refine r_nopart ?_
  | with_reducible refine r_il ?_
  | with_reducible refine r_it ?_
  | with_reducible refine r_ir ?_
  | with_reducible refine r_is ?_
  | with_reducible refine r_next ?_
  | with_reducible refine r_retN ?_
  | ((with_reducible refine r_eq ?_ ?_); focus exact rfl)
  | ((with_reducible refine r_ne ?_ ?_); focus exact rfl)))
local macro_rules | `(tactic| walk_at "rx") => `(tactic| repeat (first
  | ((with_reducible apply r_var); focus exact rfl)
  | with_reducible refine r_c ?_
  | with_reducible refine r_chain ?_
  | ((with_reducible apply r_aug); focus exact rfl)
  | with_reducible refine r_ip ?_
  | with_reducible refine r_op ?_
  | with_reducible refine r_I0 ?_
  | with_reducible refine r_cons ?_
  | with_reducible refine r_nil ?_
  | with_reducible refine r_seq ?_
  | with_reducible refine r_asg ?_
  | with_reducible refine r_gn ?_
  | with_reducible refine r_gcons ?_
  | with_reducible refine r_gnil ?_
  | with_reducible refine r_m1 ?_
  | with_reducible refine r_sfld ?_
  | with_reducible refine r_sfa ?_
  | with_reducible refine r_rAdd ?_
  | with_reducible refine r_ret ?_
  | with_reducible refine r_ifS ?_
  | with_reducible refine r_test ?_
  | with_reducible refine r_bl ?_
  | with_reducible refine r_B ?_
  | with_reducible refine r_drop ?_
  | with_reducible refine r_bm ?_
  | with_reducible refine r_CB ?_
  | with_reducible refine r_call ?_
  | with_reducible refine r_make ?_
  | with_reducible refine r_tup ?_
  | with_reducible refine r_lst ?_
  | ((with_reducible refine r_I ?_ ?_); focus (first | decide | exact ⟨by decide, by decide⟩ | exact .inl ⟨by decide, by decide⟩ | exact .inr ⟨by decide, by decide⟩ | omega))
  | with_reducible refine r_U ?_
  | with_reducible refine r_un ?_
  | with_reducible refine r_and ?_
  | with_reducible refine r_or ?_
  | with_reducible refine r_not ?_
  | with_reducible refine r_andV ?_
  | with_reducible refine r_orV ?_
  | with_reducible refine r_notV ?_
  | with_reducible refine r_if ?_
  | with_reducible refine r_sl ?_
  | with_reducible refine r_part ?_
  | with_reducible refine r_parti ?_
  | with_reducible refine r_nopart ?_
  | with_reducible refine r_il ?_
  | with_reducible refine r_it ?_
  | with_reducible refine r_ir ?_
  | with_reducible refine r_is ?_
  | with_reducible refine r_next ?_
  | with_reducible refine r_retN ?_
  | ((with_reducible refine r_eq ?_ ?_); focus exact rfl)
  | ((with_reducible refine r_ne ?_ ?_); focus exact rfl)))
section
variable {P : Program} {w : World} {K : PySem.W.Frag} {mg : Str → Option Value} {base : Heap}
/-! ### the reader -/
def rdF (L : Addr) (n : Nat) : List (Str × V) := [("data", .ref L), ("at", .int n)]
abbrev cR (K : PySem.W.Frag) : Addr := He.ga K "Reader"
abbrev cX (K : PySem.W.Frag) : Addr := He.ga K "DamagedPacket"
def RdAt (K : PySem.W.Frag) (H : Hp) (r L : Addr) (bs : List Nat) (n : Nat) : Prop := ∃ dx, H r = some (.ins (cR K) dx (rdF L n)) ∧ H L = some (bL bs)
theorem rdF_at (L : Addr) (n : Nat) : (rdF L n).lookup ("at" : Str) = some (.int n) := by
  have h : (("at" : Str) == "data") = false := by decide +kernel
  simp [rdF, List.lookup, h]
theorem rdF_data (L : Addr) (n : Nat) : (rdF L n).lookup ("data" : Str) = some (.ref L) := by
  simp [rdF, List.lookup]
theorem rdF_no {L : Addr} {n : Nat} {m : Str} (h1 : (m == "data") = false) (h2 : (m == "at") = false) : (rdF L n).lookup m = none := by
  simp [rdF, List.lookup, h1, h2]
theorem rdF_put (L : Addr) (n : Nat) (v : V) : putF "at" v (rdF L n) = ([("data", .ref L), ("at", v)] : List (Str × V)) := by
  have h : ¬ (("data" : Str) = "at") := by decide +kernel
  show (if ("data" : Str) = "at" then [(("data" : Str), v), ("at", V.int n)] else (("data" : Str), V.ref L) :: (if ("at" : Str) = "at" then [(("at" : Str), v)] else [(("at" : Str), V.int n), ("at", v)])) = ([("data", .ref L), ("at", v)] : List (Str × V))
  rw [if_neg h, if_pos rfl]
theorem RdAt.sx {H H' : Hp} {r L : Addr} {bs : List Nat} {n : Nat} (h : RdAt K H r L bs n) (s : Same H H') : RdAt K H' r L bs n := by
  obtain ⟨dx, h1, h2⟩ := h
  exact ⟨dx, s _ _ h1, s _ _ h2⟩
theorem RdAt.tst {H H' : Hp} {r L : Addr} {bs : List Nat} {n : Nat} (h : RdAt K H r L bs n) (s : Sx r H H') : Tst H H' := by
  obtain ⟨dx, h1, h2⟩ := h
  exact s.tsI h1
theorem RdAt.ne {H : Hp} {r D L : Addr} {xs : List V} {bs : List Nat} {n : Nat} (h : RdAt K H r L bs n) (e : H D = some (.lst xs)) : D ≠ r := by
  obtain ⟨dx, h1, h2⟩ := h
  exact ne_of e h1 (fun z => by cases z)
theorem RdAt.ne0 {H : Hp} {r D L : Addr} {bs : List Nat} {n : Nat} (h : RdAt K H r L bs n) (e : H D = none) : D ≠ r := by
  obtain ⟨dx, h1, h2⟩ := h
  exact (ne_of_none h1 e).symm
/-- the place moves -/
theorem RdAt.move {H : Hp} {r dx L : Addr} {bs : List Nat} {n m : Nat} (h1 : H r = some (.ins (cR K) dx (rdF L n))) (h2 : H L = some (bL bs)) : RdAt K (upd H r (.ins (cR K) dx (rdF L m))) r L bs m :=
  ⟨dx, upd_same, by rw [upd_ne (ne_of h2 h1 (fun z => by cases z))]; exact h2⟩
/-- a field of the reader, read -/
theorem r_fAt {H : Hp} {Q : VK} {σ : L2.St} {i : Nat} {r dx L : Addr} {n : Nat} (c : SaysQ K) (hσ : σ[i]? = some (some (.ref r))) (h : H r = some (.ins (cR K) dx (rdF L n))) (q : Q (.int n) H) : tFld K (tVar i) "at" σ H Q :=
  r_fldV hσ h (cl_Reader c) (na_Reader_at c) (rdF_at L n) q
theorem r_fData {H : Hp} {Q : VK} {σ : L2.St} {i : Nat} {r dx L : Addr} {n : Nat} (c : SaysQ K) (hσ : σ[i]? = some (some (.ref r))) (h : H r = some (.ins (cR K) dx (rdF L n))) (q : Q (.ref L) H) : tFld K (tVar i) "data" σ H Q :=
  r_fldV hσ h (cl_Reader c) (na_Reader_data c) (rdF_data L n) q
/-- Reader(data) -/
def spRI (K : PySem.W.Frag) : Sp := fun vs H Q _ => ∃ r l dx bs, vs = [.ref r, .ref l] ∧ H r = some (.ins (cR K) dx []) ∧ H l = some (bL bs) ∧ ∀ H' L, Sx r H H' → H L = none → RdAt K H' r L bs 0 → Q .non H'
theorem ok_Reader_init  (T : Txt K mg) : Ic P w K mg base CX0 (1) "Reader" ["self", "data"] (spRI K) := by
  refine ⟨?_, gm_Reader T, (fd_Reader_init T.says).bindsN fun _ _ _ _ _ _ us hl => match us, hl with | [_, _], _ => rfl, mk_Reader T.says⟩
  refine (fd_Reader_init T.says).ok sc_Reader_init (fun vs H Q E h => by first | (obtain ⟨_, rfl, _⟩ := h; rfl) | (obtain ⟨_, _, rfl, _⟩ := h; rfl) | (obtain ⟨_, _, _, rfl, _⟩ := h; rfl) | (obtain ⟨_, _, _, _, rfl, _⟩ := h; rfl) | (obtain ⟨_, _, _, _, _, rfl, _⟩ := h; rfl) | (obtain ⟨_, _, _, _, _, _, rfl, _⟩ := h; rfl) | (obtain ⟨_, _, _, _, _, _, _, rfl, _⟩ := h; rfl) | (obtain ⟨_, _, _, _, _, _, _, _, rfl, _⟩ := h; rfl) | (obtain ⟨_, _, _, _, _, _, _, _, _, rfl, _⟩ := h; rfl)) (fun cdv A outer s H vs Q E hr h => ?_)
  obtain ⟨r, l, dx, bs, rfl, hr1, hl, q⟩ := h
  refine ⟨_, PSs.nox (pss_cons (ps_fld (pv 0) (pe_callTy call_list_of (by rfl) (n_list T) (by decide +kernel) (pa_cons (pv 1) pa_nil)) rfl)
      (pss_one (ps_fld (pv 0) pe_int rfl))), ?_⟩
  walk_at "rd"
  refine ⟨l, _, rfl, .inl (SqL.of hl), fun L hL => ?_⟩
  have nrL : r ≠ L := ne_of_none hr1 hL
  have h1 : upd H L (.lst (bs.map bV)) r = some (.ins (cR K) dx []) := by rw [upd_ne nrL]; exact hr1
  walk_at "rd"
  refine ⟨r, _, dx, _, rfl, h1, cl_Reader T.says, na_Reader_data T.says, lt_by rfl, ?_⟩
  walk_at "rd"
  refine ⟨r, _, dx, _, rfl, upd_same, cl_Reader T.says, na_Reader_at T.says, lt_by rfl, ?_⟩
  walk_at "rd"
  have e0 : putF "at" (.int 0) (putF "data" (.ref L) []) = rdF L 0 := by
    show putF "at" (.int 0) [(("data" : Str), V.ref L)] = _
    have h : ¬ (("data" : Str) = "at") := by decide +kernel
    show (if ("data" : Str) = "at" then [(("data" : Str), V.int 0)] else (("data" : Str), V.ref L) :: [(("at" : Str), V.int 0)]) = rdF L 0
    rw [if_neg h]
    rfl
  rw [e0]
  refine q _ L (((Sx.of (same_new hL)).self).self) hL ⟨dx, upd_same, ?_⟩
  rw [upd_ne nrL.symm, upd_ne nrL.symm]
  exact upd_same
/-- the next byte -/
def spByte (K : PySem.W.Frag) : Sp := fun vs H Q _ => ∃ r L bs n b, vs = [.ref r] ∧ RdAt K H r L bs n ∧ bs[n]? = some b ∧ bs.length ≤ cap ∧ ∀ H', Sx r H H' → RdAt K H' r L bs (n + 1) → Q (.int (b : Nat)) H'
theorem ok_Reader_read_byte  (T : Txt K mg) : Mc P w K mg base CX0 (1) "Reader" "read_byte" ["self"] (spByte K) := by
  refine ⟨?_, me_Reader_read_byte T.says, (fd_Reader_read_byte T.says).bindsN fun _ _ _ _ _ _ us hl => match us, hl with | [_], _ => rfl, cl_Reader T.says⟩
  refine (fd_Reader_read_byte T.says).ok sc_Reader_read_byte (fun vs H Q E h => by first | (obtain ⟨_, rfl, _⟩ := h; rfl) | (obtain ⟨_, _, rfl, _⟩ := h; rfl) | (obtain ⟨_, _, _, rfl, _⟩ := h; rfl) | (obtain ⟨_, _, _, _, rfl, _⟩ := h; rfl) | (obtain ⟨_, _, _, _, _, rfl, _⟩ := h; rfl) | (obtain ⟨_, _, _, _, _, _, rfl, _⟩ := h; rfl) | (obtain ⟨_, _, _, _, _, _, _, rfl, _⟩ := h; rfl) | (obtain ⟨_, _, _, _, _, _, _, _, rfl, _⟩ := h; rfl) | (obtain ⟨_, _, _, _, _, _, _, _, _, rfl, _⟩ := h; rfl)) (fun cdv A outer s H vs Q E hr h => ?_)
  obtain ⟨r, L, bs, n, b, rfl, ⟨dx, hr1, hL⟩, hb, hl, q⟩ := h
  have hn : n < bs.length := (List.getElem?_eq_some_iff.mp hb).1
  refine ⟨_, PSs.nox (pss_cons (ps_if (pt_cmpR op_ge (pe_fld (pv 0) rfl) (pe_callB call_len_seq (by rfl) (n_len T) PySem.boot_len (pa_cons (pe_fld (pv 0) rfl) pa_nil)) (nomark _)) (pss_one ps_never) pss_nil)
      (pss_cons (ps_fldaug (pv 0) pe_int in_add)
      (pss_one (ps_ret (pe_ix ix_list (pe_fld (pv 0) rfl) (pe_op op_sub (pe_fld (pv 0) rfl) pe_int) (fun _ _ => rfl)))))), ?_⟩
  walk_at "rd"
  refine r_fAt T.says rfl hr1 ?_
  walk_at "rd"
  refine r_fData T.says rfl hr1 ?_
  walk_at "rd"
  refine ⟨L, _, rfl, .inl (SqL.of hL), ?_⟩
  walk_at "rd"
  rw [List.length_map]
  refine ite_f (by simpa using hn) ?_
  walk_at "rd"
  refine ⟨r, _, dx, _, _, rfl, hr1, cl_Reader T.says, na_Reader_at T.says, rdF_at L n, ?_⟩
  walk_at "rd"
  refine ⟨dx, _, hr1, lt_by rfl, ?_⟩
  rw [rdF_put]
  have hm := RdAt.move (m := n + 1) hr1 hL
  walk_at "rd"
  refine r_fData (n := n + 1) T.says rfl upd_same ?_
  walk_at "rd"
  refine r_fAt (n := n + 1) T.says rfl upd_same ?_
  walk_at "rd"
  have hL2 : upd H r (.ins (cR K) dx (rdF L (n + 1))) L = some (bL bs) := by
    rw [upd_ne (ne_of hL hr1 (fun z => by cases z))]
    exact hL
  have e1 : (((n + 1 : Nat) : Int) - 1) = (n : Int) := by omega
  rw [e1]
  refine r_ixL (v := bV b) hL2 (atI_nat (j := n) (by rw [List.getElem?_map, hb]; rfl)) ?_
  exact q _ (Sx.refl r H).self hm
/-- a byte below a bound -/
def spChoice (K : PySem.W.Frag) : Sp := fun vs H Q _ => ∃ r L bs n b m, vs = [.ref r, .int m] ∧ RdAt K H r L bs n ∧ bs[n]? = some b ∧ bs.length ≤ cap ∧ (b : Int) < m ∧ ∀ H', Sx r H H' → RdAt K H' r L bs (n + 1) → Q (.int (b : Nat)) H'
theorem no_m {L : Addr} {n : Nat} {m : Str} (h : ((m == "data") || (m == "at")) = false) : (rdF L n).lookup m = none := by
  rw [Bool.or_eq_false_iff] at h
  exact rdF_no h.1 h.2
theorem ok_Reader_read_choice  (T : Txt K mg) : Mc P w K mg base CX0 (2) "Reader" "read_choice" ["self", "count"] (spChoice K) := by
  refine ⟨?_, me_Reader_read_choice T.says, (fd_Reader_read_choice T.says).bindsN fun _ _ _ _ _ _ us hl => match us, hl with | [_, _], _ => rfl, cl_Reader T.says⟩
  refine (fd_Reader_read_choice T.says).ok sc_Reader_read_choice (fun vs H Q E h => by first | (obtain ⟨_, rfl, _⟩ := h; rfl) | (obtain ⟨_, _, rfl, _⟩ := h; rfl) | (obtain ⟨_, _, _, rfl, _⟩ := h; rfl) | (obtain ⟨_, _, _, _, rfl, _⟩ := h; rfl) | (obtain ⟨_, _, _, _, _, rfl, _⟩ := h; rfl) | (obtain ⟨_, _, _, _, _, _, rfl, _⟩ := h; rfl) | (obtain ⟨_, _, _, _, _, _, _, rfl, _⟩ := h; rfl) | (obtain ⟨_, _, _, _, _, _, _, _, rfl, _⟩ := h; rfl) | (obtain ⟨_, _, _, _, _, _, _, _, _, rfl, _⟩ := h; rfl)) (fun cdv A outer s H vs Q E hr h => ?_)
  obtain ⟨r, L, bs, n, b, m, rfl, hR, hb, hl, hm, q⟩ := h
  refine ⟨_, PSs.nox (pss_cons (ps_set (i := 2) sc_Reader_read_choice.nd rfl (Or.inl rfl) (pe_m0 (ok_Reader_read_byte T) (hr.mono (by omega)) (pv 0)))
      (pss_cons (ps_if (pt_cmpR op_ge (pv 2) (pv 1) (nomark _)) (pss_one ps_never) pss_nil)
      (pss_one (ps_ret (pv 2))))), ?_⟩
  walk_at "rd"
  obtain ⟨dx, hr1, hL⟩ := id hR
  refine ⟨r, dx, _, rfl, hr1, no_m (by decide +kernel), ?_⟩
  walk_at "rd"
  refine ⟨r, L, bs, n, b, rfl, hR, hb, hl, fun H' s1 r1 => ?_⟩
  walk_at "rd"
  refine ite_f (by simpa using hm) ?_
  walk_at "rd"
  exact q H' s1 r1
/-- all is read -/
def spEnd (K : PySem.W.Frag) : Sp := fun vs H Q _ => ∃ r L bs, vs = [.ref r] ∧ RdAt K H r L bs bs.length ∧ bs.length ≤ cap ∧ Q .non H
theorem ok_Reader_end  (T : Txt K mg) : Mc P w K mg base CX0 (1) "Reader" "end" ["self"] (spEnd K) := by
  refine ⟨?_, me_Reader_end T.says, (fd_Reader_end T.says).bindsN fun _ _ _ _ _ _ us hl => match us, hl with | [_], _ => rfl, cl_Reader T.says⟩
  refine (fd_Reader_end T.says).ok sc_Reader_end (fun vs H Q E h => by first | (obtain ⟨_, rfl, _⟩ := h; rfl) | (obtain ⟨_, _, rfl, _⟩ := h; rfl) | (obtain ⟨_, _, _, rfl, _⟩ := h; rfl) | (obtain ⟨_, _, _, _, rfl, _⟩ := h; rfl) | (obtain ⟨_, _, _, _, _, rfl, _⟩ := h; rfl) | (obtain ⟨_, _, _, _, _, _, rfl, _⟩ := h; rfl) | (obtain ⟨_, _, _, _, _, _, _, rfl, _⟩ := h; rfl) | (obtain ⟨_, _, _, _, _, _, _, _, rfl, _⟩ := h; rfl) | (obtain ⟨_, _, _, _, _, _, _, _, _, rfl, _⟩ := h; rfl)) (fun cdv A outer s H vs Q E hr h => ?_)
  obtain ⟨r, L, bs, rfl, ⟨dx, hr1, hL⟩, hl, q⟩ := h
  refine ⟨_, PSs.nox (pss_one (ps_if (pt_cmpR op_lt (pe_fld (pv 0) rfl) (pe_callB call_len_seq (by rfl) (n_len T) PySem.boot_len (pa_cons (pe_fld (pv 0) rfl) pa_nil)) (nomark _)) (pss_one ps_never) pss_nil)), ?_⟩
  walk_at "rd"
  refine r_fAt T.says rfl hr1 ?_
  walk_at "rd"
  refine r_fData T.says rfl hr1 ?_
  walk_at "rd"
  refine ⟨L, _, rfl, .inl (SqL.of hL), ?_⟩
  walk_at "rd"
  rw [List.length_map]
  refine ite_f (by simp) ?_
  walk_at "rd"
  exact q
end
end Q

/-! ## R2 -/
set_option Elab.async false
set_option linter.all false
set_option maxRecDepth 100000
set_option maxHeartbeats 4000000
namespace Q
open PySem PySem.Spec PyProof.Rows L2
local macro_rules | `(tactic| walk_at "rd") => `(tactic| repeat (first
  | ((with_reducible apply r_var); focus exact rfl)
  | with_reducible refine r_c ?_
  | with_reducible refine r_chain ?_
  | ((with_reducible apply r_aug); focus exact rfl)
  | with_reducible refine r_ip ?_
  | with_reducible refine r_op ?_
  | with_reducible refine r_I0 ?_
  | with_reducible refine r_cons ?_
  | with_reducible refine r_nil ?_
  | with_reducible refine r_seq ?_
  | with_reducible refine r_asg ?_
  | with_reducible refine r_gn ?_
  | with_reducible refine r_gcons ?_
  | with_reducible refine r_gnil ?_
  | with_reducible refine r_lc ?_
  | with_reducible refine r_m1 ?_
  | with_reducible refine r_sfld ?_
  | with_reducible refine r_sfa ?_
  | with_reducible refine r_rAdd ?_
  | with_reducible refine r_ret ?_
  | with_reducible refine r_ifS ?_
  | with_reducible refine r_test ?_
  | with_reducible refine r_bl ?_
  | with_reducible refine r_B ?_
  | with_reducible refine r_drop ?_
  | with_reducible refine r_bm ?_
  | with_reducible refine r_CB ?_
  | with_reducible refine r_call ?_
  | with_reducible refine r_meth ?_
  | with_reducible refine r_make ?_
  | with_reducible refine r_tup ?_
  | with_reducible refine r_lst ?_
  | ((with_reducible refine r_I ?_ ?_); focus (first | decide | exact ⟨by decide, by decide⟩ | exact .inl ⟨by decide, by decide⟩ | exact .inr ⟨by decide, by decide⟩ | omega))
  | with_reducible refine r_U ?_
  | with_reducible refine r_un ?_
  | with_reducible refine r_and ?_
  | with_reducible refine r_or ?_
  | with_reducible refine r_not ?_
  | with_reducible refine r_andV ?_
  | with_reducible refine r_orV ?_
  | with_reducible refine r_notV ?_
  | with_reducible refine r_if ?_
  | with_reducible refine r_sl ?_
  | with_reducible refine r_part ?_
  | with_reducible refine r_parti ?_
  | with_reducible refine r_nopart ?_
  | with_reducible refine r_il ?_
  | with_reducible refine r_it ?_
  | with_reducible refine r_ir ?_
  | with_reducible refine r_is ?_
  | with_reducible refine r_next ?_
  | with_reducible refine r_retN ?_
  | ((with_reducible refine r_eq ?_ ?_); focus exact rfl)
  | ((with_reducible refine r_ne ?_ ?_); focus exact rfl)))
local macro_rules | `(tactic| walk_at "rx") => `(tactic| repeat (first
  | ((with_reducible apply r_var); focus exact rfl)
  | with_reducible refine r_c ?_
  | with_reducible refine r_chain ?_
  | ((with_reducible apply r_aug); focus exact rfl)
  | with_reducible refine r_ip ?_
  | with_reducible refine r_op ?_
  | with_reducible refine r_I0 ?_
  | with_reducible refine r_cons ?_
  | with_reducible refine r_nil ?_
  | with_reducible refine r_seq ?_
  | with_reducible refine r_asg ?_
  | with_reducible refine r_gn ?_
  | with_reducible refine r_gcons ?_
  | with_reducible refine r_gnil ?_
  | with_reducible refine r_m1 ?_
  | with_reducible refine r_sfld ?_
  | with_reducible refine r_sfa ?_
  | with_reducible refine r_rAdd ?_
  | with_reducible refine r_ret ?_
  | with_reducible refine r_ifS ?_
  | with_reducible refine r_test ?_
  | with_reducible refine r_bl ?_
  | with_reducible refine r_B ?_
  | with_reducible refine r_drop ?_
  | with_reducible refine r_bm ?_
  | with_reducible refine r_CB ?_
  | with_reducible refine r_call ?_
  | with_reducible refine r_make ?_
  | with_reducible refine r_tup ?_
  | with_reducible refine r_lst ?_
  | ((with_reducible refine r_I ?_ ?_); focus (first | decide | exact ⟨by decide, by decide⟩ | exact .inl ⟨by decide, by decide⟩ | exact .inr ⟨by decide, by decide⟩ | omega))
  | with_reducible refine r_U ?_
  | with_reducible refine r_un ?_
  | with_reducible refine r_and ?_
  | with_reducible refine r_or ?_
  | with_reducible refine r_not ?_
  | with_reducible refine r_andV ?_
  | with_reducible refine r_orV ?_
  | with_reducible refine r_notV ?_
  | with_reducible refine r_if ?_
  | with_reducible refine r_sl ?_
  | with_reducible refine r_part ?_
  | with_reducible refine r_parti ?_
  | with_reducible refine r_nopart ?_
  | with_reducible refine r_il ?_
  | with_reducible refine r_it ?_
  | with_reducible refine r_ir ?_
  | with_reducible refine r_is ?_
  | with_reducible refine r_next ?_
  | with_reducible refine r_retN ?_
  | ((with_reducible refine r_eq ?_ ?_); focus exact rfl)
  | ((with_reducible refine r_ne ?_ ?_); focus exact rfl)))
section
variable {P : Program} {w : World} {K : PySem.W.Frag} {mg : Str → Option Value} {base : Heap}
theorem wNum_pos' (n : Nat) : 0 < (wNum n).length := by
  by_cases h : n < 128
  · rw [wNum_lt h]
    exact Nat.zero_lt_one
  · rw [wNum_ge h] <;> simp
/-- what stands at the place is w x, and it is read -/
def spRd {α : Type} (K : PySem.W.Frag) (w : α → List Nat) (d : α → D) (ok : α → Prop) : Sp := fun vs H Q _ => ∃ r L bs n x rest, vs = [.ref r] ∧ RdAt K H r L bs n ∧ bs.drop n = w x ++ rest ∧ ok x ∧ bs.length ≤ cap ∧
  ∀ v H', Sx r H H' → RdAt K H' r L bs (n + (w x).length) → Rp H' (d x) v → Q v H'
theorem drop_head {bs : List Nat} {n b : Nat} {t : List Nat} (h : bs.drop n = b :: t) : bs[n]? = some b ∧ bs.drop (n + 1) = t := by
  constructor
  · have e : (bs.drop n)[0]? = some b := by rw [h]; rfl
    rw [List.getElem?_drop] at e
    simpa using e
  · rw [← List.drop_drop, h]
    rfl
theorem drop_app {bs xs ys : List Nat} {n : Nat} (h : bs.drop n = xs ++ ys) : bs.drop (n + xs.length) = ys := by
  rw [← List.drop_drop, h, List.drop_left]
def wInt' (i : Int) : List Nat := (if i < 0 then 1 else 0) :: wNum i.natAbs
theorem pow128_succ (i : Nat) : 128 ^ (i + 1) = 128 ^ i * 128 := Nat.pow_succ ..
theorem num_step (t f y : Nat) : t + y % 128 * f + f * 128 * (y / 128) = t + f * y := by
  have h := Nat.div_add_mod y 128
  have e : f * y = f * (128 * (y / 128) + y % 128) := by rw [h]
  rw [e, Nat.mul_add, Nat.mul_comm (y % 128) f, Nat.mul_assoc]
  omega
theorem ok_Reader_read_number  (T : Txt K mg) : Mc P w K mg base CX0 (2) "Reader" "read_number" ["self"] (spRd K wNum dNum okN) := by
  refine ⟨?_, me_Reader_read_number T.says, (fd_Reader_read_number T.says).bindsN fun _ _ _ _ _ _ us hl => match us, hl with | [_], _ => rfl, cl_Reader T.says⟩
  refine (fd_Reader_read_number T.says).ok sc_Reader_read_number (fun vs H Q E h => by first | (obtain ⟨_, rfl, _⟩ := h; rfl) | (obtain ⟨_, _, rfl, _⟩ := h; rfl) | (obtain ⟨_, _, _, rfl, _⟩ := h; rfl) | (obtain ⟨_, _, _, _, rfl, _⟩ := h; rfl) | (obtain ⟨_, _, _, _, _, rfl, _⟩ := h; rfl) | (obtain ⟨_, _, _, _, _, _, rfl, _⟩ := h; rfl) | (obtain ⟨_, _, _, _, _, _, _, rfl, _⟩ := h; rfl) | (obtain ⟨_, _, _, _, _, _, _, _, rfl, _⟩ := h; rfl) | (obtain ⟨_, _, _, _, _, _, _, _, _, rfl, _⟩ := h; rfl)) (fun cdv A outer s H vs Q E hr h => ?_)
  obtain ⟨r, L, bs, n, x, rest, rfl, hR, hd, hok, hl, q⟩ := h
  refine ⟨_, PSs.nox (pss_cons (ps_set (i := 1) sc_Reader_read_number.nd rfl (Or.inl rfl) pe_int)
      (pss_cons (ps_set (i := 2) sc_Reader_read_number.nd rfl (Or.inl rfl) pe_int)
      (pss_cons (ps_for PassesOwn.never rfl (pi_range1 (by rfl) (n_range T) (pa_cons (pe_gi (gi_NUMBER_BYTES T) (by rfl)) pa_nil)) (pg_name (i := 3) sc_Reader_read_number.nd rfl (Or.inl rfl)) (pss_cons (ps_set (i := 4) sc_Reader_read_number.nd rfl (Or.inl rfl) (pe_m0 (ok_Reader_read_byte T) (hr.mono (by omega)) (pv 0)))
      (pss_cons (ps_aug (i := 1) sc_Reader_read_number.nd rfl (Or.inl rfl) (pe_op op_mul (pe_op op_mod (pv 4) pe_int) (pv 2)) ip_add)
      (pss_cons (ps_if (pt_cmpR op_lt (pv 4) pe_int (nomark _)) (pss_cons (ps_if (PW.pt (pw_and (pt_cmpR op_eq (pv 4) pe_int (nomark _)) (pw_and1 (pt_cmpR op_gt (pv 3) pe_int (nomark _))))) (pss_one ps_never) pss_nil)
      (pss_one (ps_ret (pv 1)))) pss_nil)
      (pss_one (ps_set (i := 2) sc_Reader_read_number.nd rfl (Or.inl rfl) (pe_op op_mul (pv 2) pe_int)))))))
      (pss_one ps_never)))), ?_⟩
  walk_at "rd"
  refine ⟨60, rfl, by decide, by decide, for_any (xs := upto 60) (Wk.rng (I := fun _ => True)) (fun i σ H' => ∃ (t f y : Nat) (v3 v4 : Option V), σ = [some (.ref r), some (.int t), some (.int f), v3, v4] ∧ Sx r H H' ∧ RdAt K H' r L bs (n + i) ∧ bs.drop (n + i) = wNum y ++ rest ∧ t + f * y = x ∧ i + (wNum y).length = (wNum x).length ∧ (0 < i → 0 < y)) (fun i σ H' _ => trivial)
    ⟨0, 1, x, none, none, rfl, Sx.refl r H, hR, hd, by omega, by omega, fun h => absurd h (Nat.not_lt_zero 0)⟩ ?_ ?_⟩
  · rintro i z σ H' hi ⟨t, f, y, v3, v4, rfl, s, rr, hd2, hty, hly, hy0⟩
    obtain ⟨i', hi', e⟩ := getElem_map_some hi
    have ei : i' = i := by
      have h60 : i < 60 := by
        have z := (List.getElem?_eq_some_iff.mp hi).1
        rw [upto_len] at z
        exact z
      rw [List.getElem?_range h60] at hi'
      exact (Option.some.inj hi').symm
    subst ei
    obtain rfl : z = .int (i' : Int) := e
    obtain ⟨dx, hr1, hL⟩ := id rr
    walk_at "rd"
    refine ⟨r, dx, _, rfl, hr1, no_m (by decide +kernel), ?_⟩
    walk_at "rd"
    by_cases c : y < 128
    · rw [wNum_lt c] at hd2 hly
      obtain ⟨hb, hd3⟩ := drop_head hd2
      refine ⟨r, L, bs, n + i', y, rfl, rr, hb, hl, fun H2 s2 r2 => ?_⟩
      walk_at "rd"
      refine r_I (.inl ⟨by omega, by omega⟩) ?_
      walk_at "rd"
      refine ite_t (decide_eq_true (by omega)) ?_
      walk_at "rd"
      refine iteI (fun e => ?_) (fun e => ?_)
      · have e0 : y = 0 := by omega
        walk_at "rd"
        refine ite_f ?_ ?_
        · have : ¬ 0 < i' := fun h => by have := hy0 h; omega
          simp
          omega
        · walk_at "rd"
          have e2 : ((t : Int) + (y : Int) % 128 * (f : Int)) = ((x : Nat) : Int) := by
            rw [← hty, e0]
            simp
          rw [e2]
          refine q _ H2 (s.trans s2) ?_ rfl
          rw [← hly]
          rw [Nat.add_assoc] at r2
          exact r2
      · refine ite_f rfl ?_
        walk_at "rd"
        have e2 : ((t : Int) + (y : Int) % 128 * (f : Int)) = ((x : Nat) : Int) := by
          rw [← hty]
          have e3 : (y : Int) % 128 = (y : Int) := by omega
          rw [e3, Int.natCast_add, Int.natCast_mul, Int.mul_comm]
        rw [e2]
        refine q _ H2 (s.trans s2) ?_ rfl
        rw [← hly]
        rw [Nat.add_assoc] at r2
        exact r2
    · rw [wNum_ge c] at hd2 hly
      obtain ⟨hb, hd3⟩ := drop_head hd2
      refine ⟨r, L, bs, n + i', _, rfl, rr, hb, hl, fun H2 s2 r2 => ?_⟩
      walk_at "rd"
      refine r_I (.inl ⟨by omega, by omega⟩) ?_
      walk_at "rd"
      refine ite_f (decide_eq_false (by omega)) ?_
      walk_at "rd"
      refine ⟨t + y % 128 * f, f * 128, y / 128, some (.int (i' : Int)), some (.int ((y % 128 + 128 : Nat) : Int)), ?_, s.trans s2, r2, hd3, ?_, ?_, fun _ => by omega⟩
      · have e2 : ((t : Int) + ((y % 128 + 128 : Nat) : Int) % 128 * (f : Int)) = ((t + y % 128 * f : Nat) : Int) := by
          have e3 : ((y % 128 + 128 : Nat) : Int) % 128 = ((y % 128 : Nat) : Int) := by omega
          rw [e3, Int.natCast_add, Int.natCast_mul]
        rw [e2]
        rfl
      · rw [← hty]
        exact num_step t f y
      · rw [List.length_cons] at hly
        omega
  · rintro σ H' ⟨t, f, y, v3, v4, rfl, s, rr, hd2, hty, hly, hy0⟩
    exfalso
    rw [upto_len] at hly
    have h1 := wNum_pos' y
    have h2 : (wNum x).length ≤ 60 := hok
    omega
theorem rd_no {H : Hp} {r L : Addr} {bs : List Nat} {n : Nat} {m : Str} {F : Addr → Addr → List (Str × V) → Prop} (h : RdAt K H r L bs n) (hm : ((m == "data") || (m == "at")) = false) (q : ∀ dx fs, F r dx fs) : ∃ a dx fs, V.ref r = .ref a ∧ H a = some (.ins (cR K) dx fs) ∧ fs.lookup m = none ∧ F a dx fs := by
  obtain ⟨dx, h1, h2⟩ := h
  exact ⟨r, dx, _, rfl, h1, no_m hm, q _ _⟩
theorem ok_Reader_read_integer  (T : Txt K mg) : Mc P w K mg base CX0 (3) "Reader" "read_integer" ["self"] (spRd K wInt' D.int (fun i => okN i.natAbs)) := by
  refine ⟨?_, me_Reader_read_integer T.says, (fd_Reader_read_integer T.says).bindsN fun _ _ _ _ _ _ us hl => match us, hl with | [_], _ => rfl, cl_Reader T.says⟩
  refine (fd_Reader_read_integer T.says).ok sc_Reader_read_integer (fun vs H Q E h => by first | (obtain ⟨_, rfl, _⟩ := h; rfl) | (obtain ⟨_, _, rfl, _⟩ := h; rfl) | (obtain ⟨_, _, _, rfl, _⟩ := h; rfl) | (obtain ⟨_, _, _, _, rfl, _⟩ := h; rfl) | (obtain ⟨_, _, _, _, _, rfl, _⟩ := h; rfl) | (obtain ⟨_, _, _, _, _, _, rfl, _⟩ := h; rfl) | (obtain ⟨_, _, _, _, _, _, _, rfl, _⟩ := h; rfl) | (obtain ⟨_, _, _, _, _, _, _, _, rfl, _⟩ := h; rfl) | (obtain ⟨_, _, _, _, _, _, _, _, _, rfl, _⟩ := h; rfl)) (fun cdv A outer s H vs Q E hr h => ?_)
  obtain ⟨r, L, bs, n, x, rest, rfl, hR, hd, hok, hl, q⟩ := h
  obtain ⟨hb, hd2⟩ := drop_head hd
  refine ⟨_, PSs.nox (pss_cons (ps_set (i := 1) sc_Reader_read_integer.nd rfl (Or.inl rfl) (pe_cmpR op_eq (pe_m (ok_Reader_read_choice T) (hr.mono (by omega)) (pv 0) (pa_cons pe_int pa_nil)) pe_int (nomark _)))
      (pss_cons (ps_set (i := 2) sc_Reader_read_integer.nd rfl (Or.inl rfl) (pe_m0 (ok_Reader_read_number T) (hr.mono (by omega)) (pv 0)))
      (pss_cons (ps_if (PW.pt (pw_and (pt_val (pv 1)) (pw_and1 (pt_cmpR op_eq (pv 2) pe_int (nomark _))))) (pss_one ps_never) pss_nil)
      (pss_one (ps_ret (pe_ifExp (pt_val (pv 1)) (pe_un un_neg (pv 2)) (pv 2))))))), ?_⟩
  walk_at "rd"
  refine rd_no hR (by decide +kernel) fun _ _ => ?_
  walk_at "rd"
  refine ⟨r, L, bs, n, _, 2, rfl, hR, hb, hl, by split <;> decide, fun H2 s2 r2 => ?_⟩
  walk_at "rd"
  refine rd_no r2 (by decide +kernel) fun _ _ => ?_
  walk_at "rd"
  refine ⟨r, L, bs, n + 1, x.natAbs, rest, rfl, r2, hd2, hok, hl, fun v H4 s4 r4 hv => ?_⟩
  obtain rfl : v = .int x.natAbs := hv
  walk_at "rd"
  have el : n + (wInt' x).length = n + 1 + (wNum x.natAbs).length := by
    show n + ((wNum x.natAbs).length + 1) = _
    omega
  rw [← el] at r4
  by_cases c : x < 0
  · rw [if_pos c]
    refine ite_t rfl ?_
    walk_at "rd"
    refine iteI (fun e => ?_) (fun e => ?_)
    · exfalso
      omega
    · walk_at "rd"
      refine ite_t rfl ?_
      walk_at "rd"
      refine q _ H4 (s2.trans s4) r4 ?_
      show V.int _ = V.int _
      congr 1
      omega
  · rw [if_neg c]
    refine ite_f rfl ?_
    refine ite_f rfl ?_
    walk_at "rd"
    refine ite_f rfl ?_
    walk_at "rd"
    refine q _ H4 (s2.trans s4) r4 ?_
    show V.int _ = V.int _
    congr 1
    omega
/-- a number of items -/
def spCnt (K : PySem.W.Frag) : Sp := fun vs H Q _ => ∃ r L bs n x rest, vs = [.ref r] ∧ RdAt K H r L bs n ∧ bs.drop n = wNum x ++ rest ∧ okN x ∧ x ≤ rest.length ∧ bs.length ≤ cap ∧ ∀ H', Sx r H H' → RdAt K H' r L bs (n + (wNum x).length) → Q (.int (x : Nat)) H'
theorem ok_Reader_read_count  (T : Txt K mg) : Mc P w K mg base CX0 (3) "Reader" "read_count" ["self"] (spCnt K) := by
  refine ⟨?_, me_Reader_read_count T.says, (fd_Reader_read_count T.says).bindsN fun _ _ _ _ _ _ us hl => match us, hl with | [_], _ => rfl, cl_Reader T.says⟩
  refine (fd_Reader_read_count T.says).ok sc_Reader_read_count (fun vs H Q E h => by first | (obtain ⟨_, rfl, _⟩ := h; rfl) | (obtain ⟨_, _, rfl, _⟩ := h; rfl) | (obtain ⟨_, _, _, rfl, _⟩ := h; rfl) | (obtain ⟨_, _, _, _, rfl, _⟩ := h; rfl) | (obtain ⟨_, _, _, _, _, rfl, _⟩ := h; rfl) | (obtain ⟨_, _, _, _, _, _, rfl, _⟩ := h; rfl) | (obtain ⟨_, _, _, _, _, _, _, rfl, _⟩ := h; rfl) | (obtain ⟨_, _, _, _, _, _, _, _, rfl, _⟩ := h; rfl) | (obtain ⟨_, _, _, _, _, _, _, _, _, rfl, _⟩ := h; rfl)) (fun cdv A outer s H vs Q E hr h => ?_)
  obtain ⟨r, L, bs, n, x, rest, rfl, hR, hd, hok, hx, hl, q⟩ := h
  refine ⟨_, PSs.nox (pss_cons (ps_set (i := 1) sc_Reader_read_count.nd rfl (Or.inl rfl) (pe_m0 (ok_Reader_read_number T) (hr.mono (by omega)) (pv 0)))
      (pss_cons (ps_if (pt_cmpR op_gt (pv 1) (pe_op op_sub (pe_callB call_len_seq (by rfl) (n_len T) PySem.boot_len (pa_cons (pe_fld (pv 0) rfl) pa_nil)) (pe_fld (pv 0) rfl)) (nomark _)) (pss_one ps_never) pss_nil)
      (pss_one (ps_ret (pv 1))))), ?_⟩
  walk_at "rd"
  refine rd_no hR (by decide +kernel) fun _ _ => ?_
  walk_at "rd"
  refine ⟨r, L, bs, n, x, rest, rfl, hR, hd, hok, hl, fun v H2 s2 r2 hv => ?_⟩
  obtain rfl : v = .int x := hv
  obtain ⟨dx, hr1, hL⟩ := id r2
  walk_at "rd"
  refine r_fData T.says rfl hr1 ?_
  walk_at "rd"
  refine ⟨L, _, rfl, .inl (SqL.of hL), ?_⟩
  walk_at "rd"
  refine r_fAt T.says rfl hr1 ?_
  walk_at "rd"
  have hln : rest.length = bs.length - (n + (wNum x).length) := by
    rw [← drop_app hd, List.length_drop]
  refine ite_f (decide_eq_false ?_) ?_
  · have h1 := congrArg List.length hd
    have h2 := wNum_pos' x
    rw [List.length_drop, List.length_append] at h1
    rw [List.length_map]
    omega
  · walk_at "rd"
    exact q H2 s2 r2
end
end Q

/-! ## R3 -/
set_option Elab.async false
set_option linter.all false
set_option maxRecDepth 100000
set_option maxHeartbeats 4000000
namespace Q
open PySem PySem.Spec PyProof.Rows L2
local macro_rules | `(tactic| walk_at "rd") => `(tactic| repeat (first
  | ((with_reducible apply r_var); focus exact rfl)
  | with_reducible refine r_c ?_
  | with_reducible refine r_chain ?_
  | ((with_reducible apply r_aug); focus exact rfl)
  | with_reducible refine r_ip ?_
  | with_reducible refine r_op ?_
  | with_reducible refine r_I0 ?_
  | with_reducible refine r_cons ?_
  | with_reducible refine r_nil ?_
  | with_reducible refine r_seq ?_
  | with_reducible refine r_asg ?_
  | with_reducible refine r_gn ?_
  | with_reducible refine r_gcons ?_
  | with_reducible refine r_gnil ?_
  | with_reducible refine r_lc ?_
  | with_reducible refine r_m1 ?_
  | with_reducible refine r_sfld ?_
  | with_reducible refine r_sfa ?_
  | with_reducible refine r_rAdd ?_
  | with_reducible refine r_ret ?_
  | with_reducible refine r_ifS ?_
  | with_reducible refine r_test ?_
  | with_reducible refine r_bl ?_
  | with_reducible refine r_B ?_
  | with_reducible refine r_drop ?_
  | with_reducible refine r_bm ?_
  | with_reducible refine r_CB ?_
  | with_reducible refine r_call ?_
  | with_reducible refine r_meth ?_
  | with_reducible refine r_make ?_
  | with_reducible refine r_tup ?_
  | with_reducible refine r_lst ?_
  | ((with_reducible refine r_I ?_ ?_); focus (first | decide | exact ⟨by decide, by decide⟩ | exact .inl ⟨by decide, by decide⟩ | exact .inr ⟨by decide, by decide⟩ | omega))
  | with_reducible refine r_U ?_
  | with_reducible refine r_un ?_
  | with_reducible refine r_and ?_
  | with_reducible refine r_or ?_
  | with_reducible refine r_not ?_
  | with_reducible refine r_andV ?_
  | with_reducible refine r_orV ?_
  | with_reducible refine r_notV ?_
  | with_reducible refine r_if ?_
  | with_reducible refine r_sl ?_
  | with_reducible refine r_part ?_
  | with_reducible refine r_parti ?_
  | with_reducible refine r_nopart ?_
  | with_reducible refine r_il ?_
  | with_reducible refine r_it ?_
  | with_reducible refine r_ir ?_
  | with_reducible refine r_is ?_
  | with_reducible refine r_next ?_
  | with_reducible refine r_retN ?_
  | ((with_reducible refine r_eq ?_ ?_); focus exact rfl)
  | ((with_reducible refine r_ne ?_ ?_); focus exact rfl)))
local macro_rules | `(tactic| walk_at "rx") => `(tactic| repeat (first
  | ((with_reducible apply r_var); focus exact rfl)
  | with_reducible refine r_c ?_
  | with_reducible refine r_chain ?_
  | ((with_reducible apply r_aug); focus exact rfl)
  | with_reducible refine r_ip ?_
  | with_reducible refine r_op ?_
  | with_reducible refine r_I0 ?_
  | with_reducible refine r_cons ?_
  | with_reducible refine r_nil ?_
  | with_reducible refine r_seq ?_
  | with_reducible refine r_asg ?_
  | with_reducible refine r_gn ?_
  | with_reducible refine r_gcons ?_
  | with_reducible refine r_gnil ?_
  | with_reducible refine r_m1 ?_
  | with_reducible refine r_sfld ?_
  | with_reducible refine r_sfa ?_
  | with_reducible refine r_rAdd ?_
  | with_reducible refine r_ret ?_
  | with_reducible refine r_ifS ?_
  | with_reducible refine r_test ?_
  | with_reducible refine r_bl ?_
  | with_reducible refine r_B ?_
  | with_reducible refine r_drop ?_
  | with_reducible refine r_bm ?_
  | with_reducible refine r_CB ?_
  | with_reducible refine r_call ?_
  | with_reducible refine r_make ?_
  | with_reducible refine r_tup ?_
  | with_reducible refine r_lst ?_
  | ((with_reducible refine r_I ?_ ?_); focus (first | decide | exact ⟨by decide, by decide⟩ | exact .inl ⟨by decide, by decide⟩ | exact .inr ⟨by decide, by decide⟩ | omega))
  | with_reducible refine r_U ?_
  | with_reducible refine r_un ?_
  | with_reducible refine r_and ?_
  | with_reducible refine r_or ?_
  | with_reducible refine r_not ?_
  | with_reducible refine r_andV ?_
  | with_reducible refine r_orV ?_
  | with_reducible refine r_notV ?_
  | with_reducible refine r_if ?_
  | with_reducible refine r_sl ?_
  | with_reducible refine r_part ?_
  | with_reducible refine r_parti ?_
  | with_reducible refine r_nopart ?_
  | with_reducible refine r_il ?_
  | with_reducible refine r_it ?_
  | with_reducible refine r_ir ?_
  | with_reducible refine r_is ?_
  | with_reducible refine r_next ?_
  | with_reducible refine r_retN ?_
  | ((with_reducible refine r_eq ?_ ?_); focus exact rfl)
  | ((with_reducible refine r_ne ?_ ?_); focus exact rfl)))
section
variable {P : Program} {w : World} {K : PySem.W.Frag} {mg : Str → Option Value} {base : Heap}
theorem flat_ge' {α : Type} {w : α → List Nat} {l : List α} (hw : ∀ x, 0 < (w x).length) : l.length ≤ ((l.map w).flatten).length := by
  induction l with
  | nil => exact Nat.le_refl _
  | cons x r ih =>
    rw [List.map_cons, List.flatten_cons, List.length_append, List.length_cons]
    have := hw x
    omega
theorem wNum_le : ∀ (k n : Nat), n < 128 ^ (k + 1) → (wNum n).length ≤ k + 1
  | 0, n, h => by
    rw [wNum_lt (by simpa using h)]
    exact Nat.le_refl _
  | k + 1, n, h => by
    by_cases c : n < 128
    · rw [wNum_lt c]
      exact Nat.succ_le_succ (Nat.zero_le _)
    · rw [wNum_ge c, List.length_cons]
      have : n / 128 < 128 ^ (k + 1) := by
        rw [Nat.div_lt_iff_lt_mul (by decide)]
        rw [← Nat.pow_succ]
        exact h
      exact Nat.succ_le_succ (wNum_le k _ this)
theorem okN_cap {n : Nat} (h : n ≤ cap) : okN n := Nat.le_trans (wNum_le 3 n (Nat.lt_of_le_of_lt h (by decide))) (by decide)
theorem take_flat {α : Type} {w : α → List Nat} {l : List α} {j : Nat} {x : α} (h : l[j]? = some x) : (l.map w).flatten = ((l.take j).map w).flatten ++ (w x ++ ((l.drop (j + 1)).map w).flatten) := by
  have hj := (List.getElem?_eq_some_iff.mp h).1
  have hx := (List.getElem?_eq_some_iff.mp h).2
  have e : l = l.take j ++ (x :: l.drop (j + 1)) := by
    rw [← hx, List.getElem_cons_drop, List.take_append_drop]
  have e2 : (l.map w).flatten = ((l.take j ++ (x :: l.drop (j + 1))).map w).flatten := by rw [← e]
  rw [e2, List.map_append, List.flatten_append, List.map_cons, List.flatten_cons]
/-- [.. for _ in range(self.read_count())] -/
theorem rd_lcG {α : Type} {w : α → List Nat} {d : α → D} {ok : α → Prop} {te : TE} {r L : Addr} {bs : List Nat} {n : Nat} {xs : List α} {rest : List Nat} {σ : L2.St} {i : Nat} {H : Hp} {Q : VK}
    (hσ : σ[0]? = some (some (.ref r))) (hi0 : i ≠ 0) (hR : RdAt K H r L bs n) (hd : bs.drop n = wL w xs ++ rest) (hok : ∀ x ∈ xs, ok x) (hp : ∀ x, 0 < (w x).length) (hl : bs.length ≤ cap)
    (hte : ∀ (z : Option V) (H2 : Hp) (n2 : Nat) (x : α) (rest2 : List Nat) (Q2 : VK), RdAt K H2 r L bs n2 → bs.drop n2 = w x ++ rest2 → ok x → (∀ v H4, Sx r H2 H4 → RdAt K H4 r L bs (n2 + (w x).length) → Rp H4 (d x) v → Q2 v H4) → te ((wipe σ [i]).set i z) H2 Q2)
    (q : ∀ (D : Addr) (ys : List V) (H' : Hp), Sx r H H' → RdAt K H' r L bs (n + (wL w xs).length) → H D = none → H' D = some (.lst ys) → RpL H' (xs.map d) ys → Q (.ref D) H') :
    tLc (iRng1 (tCons (tMeth (cR K) "read_count" (spCnt K) [] E0 (tVar 0) tNil) tNil)) (gName i) tYes te [i] σ H Q := by
  have hlen := congrArg List.length hd
  unfold wL at hd
  rw [wL, List.length_append, List.length_append, List.length_drop] at hlen
  have hfl := flat_ge' (l := xs) hp
  have hcnt : xs.length ≤ cap := by omega
  rw [List.append_assoc] at hd
  refine ⟨.ref r, hσ, ?_⟩
  refine rd_no hR (by decide +kernel) fun _ _ => ?_
  refine ⟨r, L, bs, n, xs.length, _, rfl, hR, hd, okN_cap hcnt, by rw [List.length_append]; omega, hl, fun H1 s1 r1 => ?_⟩
  refine ⟨(xs.length : Int), rfl, by omega, ?_, fun D hD => ?_⟩
  · have : cap = 8000000 := rfl
    omega
  have hd1 := drop_app hd
  have nDr : D ≠ r := r1.ne0 hD
  have nDL : D ≠ L := by
    obtain ⟨dx, _, h2⟩ := id r1
    exact (ne_of_none h2 hD).symm
  rw [show ((xs.length : Nat) : Int).toNat = xs.length from rfl]
  refine lc_any (xs := upto xs.length) (Wk.rng (I := fun _ => True)) (fun j H' => Sx r H1 H' ∧ RdAt K H' r L bs (n + (wNum xs.length).length + (((xs.take j).map w).flatten).length) ∧ ∃ ys, H' D = some (.lst ys) ∧ RpL H' ((xs.map d).take j) ys) (fun _ _ _ => trivial) ?_ ?_ ?_
  · refine ⟨(Sx.refl r H1).new hD, ?_, [], upd_same, rfl⟩
    exact r1.sx (same_new hD)
  · rintro j x H2 hx ⟨s2, r2, ys, eD, hys⟩
    have hj : j < xs.length := by
      have := (List.getElem?_eq_some_iff.mp hx).1
      rw [upto_len] at this
      exact this
    have hxj : xs[j]? = some xs[j] := List.getElem?_eq_getElem hj
    have hdj : bs.drop (n + (wNum xs.length).length + (((xs.take j).map w).flatten).length) = w xs[j] ++ (((xs.drop (j + 1)).map w).flatten ++ rest) := by
      rw [take_flat (w := w) hxj, List.append_assoc, List.append_assoc] at hd1
      exact drop_app hd1
    refine ⟨wipe1, ?_⟩
    refine hte _ H2 _ xs[j] _ _ r2 hdj (hok _ (List.mem_of_getElem? hxj)) fun v H4 s4 r4 hv => ?_
    have hlj : ys.length = j := by
      rw [hys.length, List.length_take, List.length_map]
      omega
    have eD4 := s4 D _ nDr eD
    refine ⟨ys, eD4, by rw [hlj]; exact cap_lt (by omega), (s2.trans s4).new hD, ?_, ys ++ [v], upd_same, ?_⟩
    · obtain ⟨dx, g1, g2⟩ := r4
      refine ⟨dx, ?_, by rw [upd_ne nDL.symm]; exact g2⟩
      rw [upd_ne nDr.symm, List.take_add_one, hxj, List.map_append, List.flatten_append]
      simp only [List.length_append, ← Nat.add_assoc]
      simpa using g1
    · have t4 : Tst H2 (upd H4 D (.lst (ys ++ [v]))) := (r2.tst s4).lst eD4
      have t5 : Tst H4 (upd H4 D (.lst (ys ++ [v]))) := (Tst.refl H4).lst eD4
      rw [List.take_add_one, List.getElem?_map, hxj]
      exact RpL.snoc (hv.ts t5) (hys.ts t4)
  · rintro H2 ⟨s2, r2, ys, eD, hys⟩
    rw [upto_len] at r2 hys
    rw [List.take_of_length_le (Nat.le_refl _)] at r2
    rw [List.take_of_length_le (by rw [List.length_map]; exact Nat.le_refl _)] at hys
    refine q D ys H2 (s1.trans s2) ?_ (s1.free nDr hD) eD hys
    unfold wL
    rw [List.length_append, ← Nat.add_assoc]
    exact r2
/-- self.m() -/
theorem rd_m {α : Type} {w : α → List Nat} {d : α → D} {ok : α → Prop} {m : Str} {r L : Addr} {bs : List Nat} {n j : Nat} {x : α} {rest : List Nat} {σ : L2.St} {H : Hp} {Qv : VK} {E : XK}
    (hσ : σ[j]? = some (some (.ref r))) (hR : RdAt K H r L bs n) (hd : bs.drop n = w x ++ rest) (hok : ok x) (hl : bs.length ≤ cap)
    (q : ∀ v H', Sx r H H' → RdAt K H' r L bs (n + (w x).length) → Rp H' (d x) v → Qv v H') (hm : ((m == "data") || (m == "at")) = false := by decide +kernel) : tMeth (cR K) m (spRd K w d ok) [] E (tVar j) tNil σ H Qv :=
  ⟨.ref r, hσ, rd_no hR hm fun _ _ => ⟨r, L, bs, n, x, rest, rfl, hR, hd, hok, hl, q⟩⟩
/-- [self.m() for _ in range(self.read_count())] -/
theorem rd_lc {α : Type} {w : α → List Nat} {d : α → D} {ok : α → Prop} {m : Str} {r L : Addr} {bs : List Nat} {n : Nat} {xs : List α} {rest : List Nat} {σ : L2.St} {i : Nat} {H : Hp} {Qv : VK}
    (hσ : σ[0]? = some (some (.ref r))) (hR : RdAt K H r L bs n) (hd : bs.drop n = wL w xs ++ rest) (hok : ∀ x ∈ xs, ok x) (hp : ∀ x, 0 < (w x).length) (hl : bs.length ≤ cap)
    (q : ∀ (D : Addr) (ys : List V) (H' : Hp), Sx r H H' → RdAt K H' r L bs (n + (wL w xs).length) → H D = none → H' D = some (.lst ys) → RpL H' (xs.map d) ys → Qv (.ref D) H') (hm : ((m == "data") || (m == "at")) = false := by decide +kernel) (hi0 : i ≠ 0 := by decide) :
    tLc (iRng1 (tCons (tMeth (cR K) "read_count" (spCnt K) [] E0 (tVar 0) tNil) tNil)) (gName i) tYes (tMeth (cR K) m (spRd K w d ok) [] E0 (tVar 0) tNil) [i] σ H Qv := by
  refine rd_lcG hσ hi0 hR hd hok hp hl (fun z H2 n2 x rest2 Q2 r2 h2 k2 q2 => rd_m ?_ r2 h2 k2 hl q2 hm) q
  show ((σ.set i none).set i z)[0]? = _
  rw [List.getElem?_set_ne hi0, List.getElem?_set_ne hi0]
  exact hσ
/-! signs, texts, marks, deeds -/
def beforeP : Str := " !\"#$"
def afterP : Str := "&'()*+,-./0123456789:;<=>?@ABCDEFGHIJKLMNOPQRSTUVWXYZ[\\]^_`abcdefghijklmnopqrstuvwxyz{|}~"
theorem bef_all : ∀ c ∈ List.range 127, 32 ≤ c → c < 37 → beforeP.cps.toList[c - 32]? = some c := by decide +kernel
theorem aft_all : ∀ c ∈ List.range 127, 38 ≤ c → c < 127 → afterP.cps.toList[c - 38]? = some c := by decide +kernel
def dCh (c : Nat) : D := .str ⟨#[c]⟩
theorem ok_Reader_read_character  (T : Txt K mg) : Mc P w K mg base CX0 (3) "Reader" "read_character" ["self"] (spRd K wNum dCh okCh) := by
  refine ⟨?_, me_Reader_read_character T.says, (fd_Reader_read_character T.says).bindsN fun _ _ _ _ _ _ us hl => match us, hl with | [_], _ => rfl, cl_Reader T.says⟩
  refine (fd_Reader_read_character T.says).ok sc_Reader_read_character (fun vs H Q E h => by first | (obtain ⟨_, rfl, _⟩ := h; rfl) | (obtain ⟨_, _, rfl, _⟩ := h; rfl) | (obtain ⟨_, _, _, rfl, _⟩ := h; rfl) | (obtain ⟨_, _, _, _, rfl, _⟩ := h; rfl) | (obtain ⟨_, _, _, _, _, rfl, _⟩ := h; rfl) | (obtain ⟨_, _, _, _, _, _, rfl, _⟩ := h; rfl) | (obtain ⟨_, _, _, _, _, _, _, rfl, _⟩ := h; rfl) | (obtain ⟨_, _, _, _, _, _, _, _, rfl, _⟩ := h; rfl) | (obtain ⟨_, _, _, _, _, _, _, _, _, rfl, _⟩ := h; rfl)) (fun cdv A outer s H vs Q E hr h => ?_)
  obtain ⟨r, L, bs, n, x, rest, rfl, hR, hd, hok, hl, q⟩ := h
  have hm := okCh_lt hok
  refine ⟨_, PSs.nox (pss_cons (ps_set (i := 1) sc_Reader_read_character.nd rfl (Or.inl rfl) (pe_m0 (ok_Reader_read_number T) (hr.mono (by omega)) (pv 0)))
      (pss_cons (ps_if (pt_cmpR op_eq (pv 1) pe_int (nomark _)) (pss_one (ps_ret pe_str)) pss_nil)
      (pss_cons (ps_if (pt_chain op_le op_lt pe_int (pv 1) pe_int) (pss_one (ps_ret (pe_ix ix_str (pe_gs (gs_BEFORE_PERCENT T) (by rfl)) (pe_op op_sub (pv 1) pe_int) (fun _ _ => rfl)))) pss_nil)
      (pss_cons (ps_if (pt_chain op_le op_lt pe_int (pv 1) pe_int) (pss_one (ps_ret (pe_ix ix_str (pe_gs (gs_AFTER_PERCENT T) (by rfl)) (pe_op op_sub (pv 1) pe_int) (fun _ _ => rfl)))) pss_nil)
      (pss_one ps_never))))), ?_⟩
  walk_at "rd"
  refine rd_no hR (by decide +kernel) fun _ _ => ?_
  walk_at "rd"
  refine ⟨r, L, bs, n, x, rest, rfl, hR, hd, ?_, hl, fun v H2 s2 r2 hv => ?_⟩
  · show (wNum x).length ≤ 60
    rw [wNum_ch hok]
    exact (by decide : 1 ≤ 60)
  obtain rfl : v = .int x := hv
  walk_at "rd"
  refine iteI (fun e => ?_) (fun e => ?_)
  · have e0 : x = 10 := by omega
    subst e0
    walk_at "rd"
    exact q _ H2 s2 r2 rfl
  · walk_at "rd"
    have hx : (32 ≤ x ∧ x ≤ 36) ∨ (38 ≤ x ∧ x ≤ 126) := by
      unfold okCh at hok
      omega
    rcases hx with hx | hx
    · refine ite_t (decide_eq_true (by omega)) ?_
      walk_at "rd"
      refine ite_t (decide_eq_true (by omega)) ?_
      walk_at "rd"
      refine ⟨beforeP, _, x, rfl, rfl, by decide, ?_, ?_⟩
      · have e1 : ((x : Int) - 32) = ((x - 32 : Nat) : Int) := by omega
        rw [e1]
        exact atI_nat (bef_all x hm hx.1 (by omega))
      · exact q _ H2 s2 r2 rfl
    · refine ite_t (decide_eq_true (by omega)) ?_
      walk_at "rd"
      refine ite_f (decide_eq_false (by omega)) ?_
      walk_at "rd"
      refine ite_t (decide_eq_true (by omega)) ?_
      walk_at "rd"
      refine ite_t (decide_eq_true (by omega)) ?_
      walk_at "rd"
      refine ⟨afterP, _, x, rfl, rfl, by decide, ?_, ?_⟩
      · have e1 : ((x : Int) - 38) = ((x - 38 : Nat) : Int) := by omega
        rw [e1]
        exact atI_nat (aft_all x hm hx.1 (by omega))
      · exact q _ H2 s2 r2 rfl
theorem map_strs (s : Str) : (s.cps.toList.map dCh) = (PyProof.Rows.signs s).map D.str := by
  simp [PyProof.Rows.signs, dCh, List.map_map, Function.comp_def]
theorem RpL.strs {H : Hp} : ∀ {ss : List Str} {ys : List V}, RpL H (ss.map D.str) ys → ys = ss.map V.str
  | [], ys, h => h
  | z :: ss, ys, h => by
    obtain ⟨y, r, rfl, hy, hr⟩ := h
    obtain rfl : y = .str z := hy
    rw [RpL.strs hr]
    rfl
theorem sum_ones : ∀ ss : List Str, (∀ z ∈ ss, z.length = 1) → (ss.map (·.length)).sum = ss.length
  | [], _ => rfl
  | z :: ss, h => by
    rw [List.map_cons, List.sum_cons, List.length_cons, sum_ones ss fun y hy => h y (List.mem_cons_of_mem _ hy), h z List.mem_cons_self]
    omega
theorem join_signs (s : Str) : Txt.join "" (PyProof.Rows.signs s) = s := by
  refine Eq.trans ?_ (PyProof.Rows.join_nil_signs s)
  exact StrLaws.glued_eq_join "" _
theorem pe_cast {X : Cx} {e : Expr} {t t' : TE} (h : PE X e t) (q : t = t') : PE X e t' := q ▸ h
theorem ok_Reader_read_string  (T : Txt K mg) : Mc P w K mg base CX0 (4) "Reader" "read_string" ["self"] (spRd K wStr dStr okS) := by
  refine ⟨?_, me_Reader_read_string T.says, (fd_Reader_read_string T.says).bindsN fun _ _ _ _ _ _ us hl => match us, hl with | [_], _ => rfl, cl_Reader T.says⟩
  refine (fd_Reader_read_string T.says).ok sc_Reader_read_string (fun vs H Q E h => by first | (obtain ⟨_, rfl, _⟩ := h; rfl) | (obtain ⟨_, _, rfl, _⟩ := h; rfl) | (obtain ⟨_, _, _, rfl, _⟩ := h; rfl) | (obtain ⟨_, _, _, _, rfl, _⟩ := h; rfl) | (obtain ⟨_, _, _, _, _, rfl, _⟩ := h; rfl) | (obtain ⟨_, _, _, _, _, _, rfl, _⟩ := h; rfl) | (obtain ⟨_, _, _, _, _, _, _, rfl, _⟩ := h; rfl) | (obtain ⟨_, _, _, _, _, _, _, _, rfl, _⟩ := h; rfl) | (obtain ⟨_, _, _, _, _, _, _, _, _, rfl, _⟩ := h; rfl)) (fun cdv A outer s H vs Q E hr h => ?_)
  obtain ⟨r, L, bs, n, x, rest, rfl, hR, hd, hok, hl, q⟩ := h
  refine ⟨_, PSs.nox (pss_one (ps_ret (pe_join pe_str (pe_lc (own := [("_", 1)]) (g := gName 1) (tt := tYes) rfl sc_Reader_read_string.nd (pi_range1 (by rfl) (n_range T) (pa_cons (pe_m0 (ok_Reader_read_count T) (hr.mono (by omega)) (pv 0)) pa_nil)) (blkOk_by (N := ["self", "_"]) (sc := defScope s_Reader_read_string) (by decide +kernel)) (fun _ _ _ _ _ => (pg_name (i := 1) sc_Reader_read_string.nd rfl (Or.inl rfl))) (fun _ _ _ _ _ => pts_nil) (fun _ _ _ _ _ => by (apply pe_cast (pe_m0 (ok_Reader_read_character T) (hr.mono (by omega)) (pv 0))); (try dsimp only [L2.Cx.blk]) <;> exact rfl))))), ?_⟩
  walk_at "rd"
  refine ⟨⟨_, rfl⟩, ?_⟩
  refine rd_lc (w := wNum) (d := dCh) (ok := okCh) (xs := x.cps.toList) rfl hR hd hok wNum_pos' hl fun D ys H2 s2 r2 nD eD hys => ?_
  rw [map_strs] at hys
  have e := hys.strs
  subst e
  have hlen : (PyProof.Rows.signs x).length ≤ cap := by
    have h1 := congrArg List.length hd
    have h2 := flat_ge' (w := wNum) (l := x.cps.toList) wNum_pos'
    rw [wStr, wL, List.length_append, List.length_append, List.length_drop] at h1
    rw [show PyProof.Rows.signs x = x.cps.toList.map (fun c => (⟨#[c]⟩ : Str)) from rfl, List.length_map]
    omega
  refine ⟨_, D, PyProof.Rows.signs x, rfl, rfl, .inl (SqL.of eD), ?_, ?_⟩
  · rw [sum_ones _ fun z hz => ?_]
    · show _ + _ * 0 ≤ _
      have : cap = 8000000 := rfl
      omega
    · obtain ⟨c, rfl⟩ := PyProof.Rows.sign_is hz
      rfl
  · rw [join_signs]
    exact q _ H2 s2 r2 rfl
theorem ok_Reader_read_mark  (T : Txt K mg) : Mc P w K mg base CX0 (3) "Reader" "read_mark" ["self"] (spRd K wMark dMark okMk) := by
  refine ⟨?_, me_Reader_read_mark T.says, (fd_Reader_read_mark T.says).bindsN fun _ _ _ _ _ _ us hl => match us, hl with | [_], _ => rfl, cl_Reader T.says⟩
  refine (fd_Reader_read_mark T.says).ok sc_Reader_read_mark (fun vs H Q E h => by first | (obtain ⟨_, rfl, _⟩ := h; rfl) | (obtain ⟨_, _, rfl, _⟩ := h; rfl) | (obtain ⟨_, _, _, rfl, _⟩ := h; rfl) | (obtain ⟨_, _, _, _, rfl, _⟩ := h; rfl) | (obtain ⟨_, _, _, _, _, rfl, _⟩ := h; rfl) | (obtain ⟨_, _, _, _, _, _, rfl, _⟩ := h; rfl) | (obtain ⟨_, _, _, _, _, _, _, rfl, _⟩ := h; rfl) | (obtain ⟨_, _, _, _, _, _, _, _, rfl, _⟩ := h; rfl) | (obtain ⟨_, _, _, _, _, _, _, _, _, rfl, _⟩ := h; rfl)) (fun cdv A outer s H vs Q E hr h => ?_)
  obtain ⟨r, L, bs, n, x, rest, rfl, hR, hd, hok, hl, q⟩ := h
  unfold wMark at hd
  rw [List.append_assoc] at hd
  refine ⟨_, PSs.nox (pss_cons (ps_set (i := 1) sc_Reader_read_mark.nd rfl (Or.inl rfl) (pe_m0 (ok_Reader_read_number T) (hr.mono (by omega)) (pv 0)))
      (pss_one (ps_ret (pe_tup (pa_cons (pv 1) (pa_cons (pe_m0 (ok_Reader_read_number T) (hr.mono (by omega)) (pv 0)) pa_nil)))))), ?_⟩
  walk_at "rd"
  refine rd_no hR (by decide +kernel) fun _ _ => ?_
  walk_at "rd"
  refine ⟨r, L, bs, n, x.1, _, rfl, hR, hd, hok.1, hl, fun v H2 s2 r2 hv => ?_⟩
  obtain rfl : v = .int x.1 := hv
  walk_at "rd"
  refine rd_no r2 (by decide +kernel) fun _ _ => ?_
  walk_at "rd"
  refine ⟨r, L, bs, _, x.2, rest, rfl, r2, drop_app hd, hok.2, hl, fun v H4 s4 r4 hv => ?_⟩
  obtain rfl : v = .int x.2 := hv
  walk_at "rd"
  refine ⟨le_line rfl, fun p hp => ?_⟩
  refine q _ _ ((s2.trans s4).trans (Sx.of (same_new hp))) ?_ (Rp.tupOf upd_same (RpL.cons rfl (RpL.cons rfl RpL.nil)))
  have e : n + (wMark x).length = n + (wNum x.1).length + (wNum x.2).length := by
    rw [wMark, List.length_append, Nat.add_assoc]
  rw [e]
  exact r4.sx (same_new hp)
end
end Q

/-! ## R4 -/
set_option Elab.async false
set_option linter.all false
set_option maxRecDepth 100000
set_option maxHeartbeats 4000000
namespace Q
open PySem PySem.Spec PyProof.Rows L2
local macro_rules | `(tactic| walk_at "rd") => `(tactic| repeat (first
  | ((with_reducible apply r_var); focus exact rfl)
  | with_reducible refine r_c ?_
  | with_reducible refine r_chain ?_
  | ((with_reducible apply r_aug); focus exact rfl)
  | with_reducible refine r_ip ?_
  | with_reducible refine r_op ?_
  | with_reducible refine r_I0 ?_
  | with_reducible refine r_cons ?_
  | with_reducible refine r_nil ?_
  | with_reducible refine r_seq ?_
  | with_reducible refine r_asg ?_
  | with_reducible refine r_gn ?_
  | with_reducible refine r_gcons ?_
  | with_reducible refine r_gnil ?_
  | with_reducible refine r_lc ?_
  | with_reducible refine r_m1 ?_
  | with_reducible refine r_sfld ?_
  | with_reducible refine r_sfa ?_
  | with_reducible refine r_rAdd ?_
  | with_reducible refine r_ret ?_
  | with_reducible refine r_ifS ?_
  | with_reducible refine r_test ?_
  | with_reducible refine r_bl ?_
  | with_reducible refine r_B ?_
  | with_reducible refine r_drop ?_
  | with_reducible refine r_bm ?_
  | with_reducible refine r_CB ?_
  | with_reducible refine r_call ?_
  | with_reducible refine r_meth ?_
  | with_reducible refine r_make ?_
  | with_reducible refine r_tup ?_
  | with_reducible refine r_lst ?_
  | ((with_reducible refine r_I ?_ ?_); focus (first | decide | exact ⟨by decide, by decide⟩ | exact .inl ⟨by decide, by decide⟩ | exact .inr ⟨by decide, by decide⟩ | omega))
  | with_reducible refine r_U ?_
  | with_reducible refine r_un ?_
  | with_reducible refine r_and ?_
  | with_reducible refine r_or ?_
  | with_reducible refine r_not ?_
  | with_reducible refine r_andV ?_
  | with_reducible refine r_orV ?_
  | with_reducible refine r_notV ?_
  | with_reducible refine r_if ?_
  | with_reducible refine r_sl ?_
  | with_reducible refine r_part ?_
  | with_reducible refine r_parti ?_
  | with_reducible refine r_nopart ?_
  | with_reducible refine r_il ?_
  | with_reducible refine r_it ?_
  | with_reducible refine r_ir ?_
  | with_reducible refine r_is ?_
  | with_reducible refine r_next ?_
  | with_reducible refine r_retN ?_
  | ((with_reducible refine r_eq ?_ ?_); focus exact rfl)
  | ((with_reducible refine r_ne ?_ ?_); focus exact rfl)))
local macro_rules | `(tactic| walk_at "rx") => `(tactic| repeat (first
  | ((with_reducible apply r_var); focus exact rfl)
  | with_reducible refine r_c ?_
  | with_reducible refine r_chain ?_
  | ((with_reducible apply r_aug); focus exact rfl)
  | with_reducible refine r_ip ?_
  | with_reducible refine r_op ?_
  | with_reducible refine r_I0 ?_
  | with_reducible refine r_cons ?_
  | with_reducible refine r_nil ?_
  | with_reducible refine r_seq ?_
  | with_reducible refine r_asg ?_
  | with_reducible refine r_gn ?_
  | with_reducible refine r_gcons ?_
  | with_reducible refine r_gnil ?_
  | with_reducible refine r_m1 ?_
  | with_reducible refine r_sfld ?_
  | with_reducible refine r_sfa ?_
  | with_reducible refine r_rAdd ?_
  | with_reducible refine r_ret ?_
  | with_reducible refine r_ifS ?_
  | with_reducible refine r_test ?_
  | with_reducible refine r_bl ?_
  | with_reducible refine r_B ?_
  | with_reducible refine r_drop ?_
  | with_reducible refine r_bm ?_
  | with_reducible refine r_CB ?_
  | with_reducible refine r_call ?_
  | with_reducible refine r_make ?_
  | with_reducible refine r_tup ?_
  | with_reducible refine r_lst ?_
  | ((with_reducible refine r_I ?_ ?_); focus (first | decide | exact ⟨by decide, by decide⟩ | exact .inl ⟨by decide, by decide⟩ | exact .inr ⟨by decide, by decide⟩ | omega))
  | with_reducible refine r_U ?_
  | with_reducible refine r_un ?_
  | with_reducible refine r_and ?_
  | with_reducible refine r_or ?_
  | with_reducible refine r_not ?_
  | with_reducible refine r_andV ?_
  | with_reducible refine r_orV ?_
  | with_reducible refine r_notV ?_
  | with_reducible refine r_if ?_
  | with_reducible refine r_sl ?_
  | with_reducible refine r_part ?_
  | with_reducible refine r_parti ?_
  | with_reducible refine r_nopart ?_
  | with_reducible refine r_il ?_
  | with_reducible refine r_it ?_
  | with_reducible refine r_ir ?_
  | with_reducible refine r_is ?_
  | with_reducible refine r_next ?_
  | with_reducible refine r_retN ?_
  | ((with_reducible refine r_eq ?_ ?_); focus exact rfl)
  | ((with_reducible refine r_ne ?_ ?_); focus exact rfl)))
section
variable {P : Program} {w : World} {K : PySem.W.Frag} {mg : Str → Option Value} {base : Heap}
theorem RdAt.to {H : Hp} {r L : Addr} {bs : List Nat} {n m : Nat} (h : RdAt K H r L bs n) (e : n = m) : RdAt K H r L bs m := e ▸ h
theorem wMark_pos' (m : Mark) : 0 < (wMark m).length := by
  have := wNum_pos' m.1
  rw [wMark, List.length_append]
  omega
theorem wDeed_pos' (m : Deed) : 0 < (wDeed m).length := by
  cases m <;> simp [wDeed]
theorem ok_Reader_read_deed  (T : Txt K mg) : Mc P w K mg base CX0 (5) "Reader" "read_deed" ["self"] (spRd K wDeed dDeed okD) := by
  refine ⟨?_, me_Reader_read_deed T.says, (fd_Reader_read_deed T.says).bindsN fun _ _ _ _ _ _ us hl => match us, hl with | [_], _ => rfl, cl_Reader T.says⟩
  refine (fd_Reader_read_deed T.says).ok sc_Reader_read_deed (fun vs H Q E h => by first | (obtain ⟨_, rfl, _⟩ := h; rfl) | (obtain ⟨_, _, rfl, _⟩ := h; rfl) | (obtain ⟨_, _, _, rfl, _⟩ := h; rfl) | (obtain ⟨_, _, _, _, rfl, _⟩ := h; rfl) | (obtain ⟨_, _, _, _, _, rfl, _⟩ := h; rfl) | (obtain ⟨_, _, _, _, _, _, rfl, _⟩ := h; rfl) | (obtain ⟨_, _, _, _, _, _, _, rfl, _⟩ := h; rfl) | (obtain ⟨_, _, _, _, _, _, _, _, rfl, _⟩ := h; rfl) | (obtain ⟨_, _, _, _, _, _, _, _, _, rfl, _⟩ := h; rfl)) (fun cdv A outer s H vs Q E hr h => ?_)
  obtain ⟨r, L, bs, n, x, rest, rfl, hR, hd, hok, hl, q⟩ := h
  refine ⟨_, PSs.nox (pss_cons (ps_if (pt_cmpR op_eq (pe_m (ok_Reader_read_choice T) (hr.mono (by omega)) (pv 0) (pa_cons pe_int pa_nil)) pe_int (nomark _)) (pss_one (ps_ret (pe_tup (pa_cons pe_str (pa_cons (pe_m0 (ok_Reader_read_number T) (hr.mono (by omega)) (pv 0)) pa_nil))))) pss_nil)
      (pss_cons (ps_set (i := 1) sc_Reader_read_deed.nd rfl (Or.inl rfl) (pe_m0 (ok_Reader_read_string T) (hr.mono (by omega)) (pv 0)))
      (pss_cons (ps_set (i := 2) sc_Reader_read_deed.nd rfl (Or.inl rfl) (pe_callTy call_tuple_of (by rfl) (n_tuple T) (by decide +kernel) (pa_cons (pe_lc (own := [("_", 5)]) (g := gName 5) (tt := tYes) rfl sc_Reader_read_deed.nd (pi_range1 (by rfl) (n_range T) (pa_cons (pe_m0 (ok_Reader_read_count T) (hr.mono (by omega)) (pv 0)) pa_nil)) (blkOk_by (N := ["self", "module", "removed", "behind", "number", "_"]) (sc := defScope s_Reader_read_deed) (by decide +kernel)) (fun _ _ _ _ _ => (pg_name (i := 5) sc_Reader_read_deed.nd rfl (Or.inl rfl))) (fun _ _ _ _ _ => pts_nil) (fun _ _ _ _ _ => by (apply pe_cast (pe_m0 (ok_Reader_read_mark T) (hr.mono (by omega)) (pv 0))); (try dsimp only [L2.Cx.blk]) <;> exact rfl)) pa_nil)))
      (pss_cons (ps_set (i := 3) sc_Reader_read_deed.nd rfl (Or.inl rfl) pe_non)
      (pss_cons (ps_if (pt_cmpR op_eq (pe_m (ok_Reader_read_choice T) (hr.mono (by omega)) (pv 0) (pa_cons pe_int pa_nil)) pe_int (nomark _)) (pss_one (ps_set (i := 3) sc_Reader_read_deed.nd rfl (Or.inl rfl) (pe_m0 (ok_Reader_read_mark T) (hr.mono (by omega)) (pv 0)))) pss_nil)
      (pss_cons (ps_set (i := 4) sc_Reader_read_deed.nd rfl (Or.inl rfl) (pe_m0 (ok_Reader_read_number T) (hr.mono (by omega)) (pv 0)))
      (pss_one (ps_ret (pe_tup (pa_cons pe_str (pa_cons (pv 1) (pa_cons (pv 2) (pa_cons (pv 3) (pa_cons (pv 4) (pa_cons (pe_m0 (ok_Reader_read_string T) (hr.mono (by omega)) (pv 0)) pa_nil))))))))))))))), ?_⟩
  walk_at "rx"
  refine ⟨.ref r, rfl, rd_no hR (by decide +kernel) fun _ _ => ?_⟩
  walk_at "rx"
  cases x with
  | back k =>
    obtain ⟨hb, hd2⟩ := drop_head (show bs.drop n = 1 :: (wNum k ++ rest) from hd)
    refine ⟨r, L, bs, n, 1, 2, rfl, hR, hb, hl, by decide, fun H2 s2 r2 => ?_⟩
    walk_at "rx"
    refine ite_t rfl ?_
    walk_at "rx"
    refine rd_m rfl r2 hd2 hok hl fun v H3 s3 r3 hv => ?_
    obtain rfl : v = .int k := hv
    walk_at "rx"
    refine ⟨le_line rfl, fun p hp => ?_⟩
    refine q _ _ ((s2.trans s3).trans (Sx.of (same_new hp))) ((r3.sx (same_new hp)).to ?_) (Rp.tupOf upd_same (RpL.cons rfl (RpL.cons rfl RpL.nil)))
    show n + 1 + (wNum k).length = n + ((wNum k).length + 1)
    omega
  | change m rem beh k t =>
    obtain ⟨ok1, ok2, ok3, ok4, ok5⟩ := hok
    have hd' : bs.drop n = 0 :: (wStr m ++ (wL wMark rem ++ (wOpt beh ++ (wNum k ++ (wStr t ++ rest))))) := by
      rw [hd]
      simp only [wDeed, List.cons_append, List.append_assoc]
    obtain ⟨hb, hd2⟩ := drop_head hd'
    refine ⟨r, L, bs, n, 0, 2, rfl, hR, hb, hl, by decide, fun H2 s2 r2 => ?_⟩
    walk_at "rx"
    refine ite_f rfl ?_
    walk_at "rx"
    refine rd_m rfl r2 hd2 ok1 hl fun v H3 s3 r3 hv => ?_
    obtain rfl : v = .str m := hv
    have hd3 := drop_app hd2
    walk_at "rx"
    refine rd_lc (w := wMark) (d := dMark) (ok := okMk) rfl r3 hd3 ok2 wMark_pos' hl fun D ys H4 s4 r4 nD eD hys => ?_
    have hd4 := drop_app hd3
    walk_at "rx"
    refine ⟨D, ys, rfl, .inl ⟨SqL.of eD, fun p hp => ?_⟩⟩
    have s5 : Sx r H (upd H4 p (.tup ys)) := (((s2.trans s3).trans s4)).trans (Sx.of (same_new hp))
    have r5 := r4.sx (same_new (o := .tup ys) hp)
    have v5 : Rp (upd H4 p (.tup ys)) (.tup (rem.map dMark)) (.ref p) := Rp.tupOf upd_same (hys.ts (Tst.new hp))
    generalize upd H4 p (.tup ys) = H5 at s5 r5 v5
    walk_at "rx"
    refine ⟨.ref r, rfl, rd_no r5 (by decide +kernel) fun _ _ => ?_⟩
    walk_at "rx"
    cases beh with
    | none =>
      obtain ⟨hb5, hd5⟩ := drop_head (show bs.drop _ = 0 :: (wNum k ++ (wStr t ++ rest)) from hd4)
      refine ⟨r, L, bs, _, 0, 2, rfl, r5, hb5, hl, by decide, fun H6 s6 r6 => ?_⟩
      walk_at "rx"
      refine ite_f rfl ?_
      walk_at "rx"
      refine rd_m rfl r6 hd5 ok4 hl fun v H7 s7 r7 hv => ?_
      obtain rfl : v = .int k := hv
      have hd6 := drop_app hd5
      walk_at "rx"
      refine rd_m rfl r7 hd6 ok5 hl fun v H8 s8 r8 hv => ?_
      obtain rfl : v = .str t := hv
      walk_at "rx"
      have t58 : Tst H5 H8 := r5.tst ((s6.trans s7).trans s8)
      refine ⟨le_line rfl, fun p9 hp9 => ?_⟩
      refine q _ _ ((((s5.trans s6).trans s7).trans s8).trans (Sx.of (same_new hp9))) ((r8.sx (same_new hp9)).to ?_) (Rp.tupOf upd_same (RpL.cons rfl (RpL.cons rfl (RpL.cons ((v5.ts t58).ts (Tst.new hp9)) (RpL.cons rfl (RpL.cons rfl (RpL.cons rfl RpL.nil)))))))
      simp only [wDeed, wOpt, List.length_cons, List.length_append, List.length_nil]
      omega
    | some b =>
      obtain ⟨hb5, hd5⟩ := drop_head (show bs.drop _ = 1 :: (wMark b ++ (wNum k ++ (wStr t ++ rest))) from hd4)
      refine ⟨r, L, bs, _, 1, 2, rfl, r5, hb5, hl, by decide, fun H6 s6 r6 => ?_⟩
      walk_at "rx"
      refine ite_t rfl ?_
      walk_at "rx"
      refine rd_m rfl r6 hd5 (ok3 b rfl) hl fun vb H6' s6' r6' hvb => ?_
      have hd5' := drop_app hd5
      walk_at "rx"
      refine rd_m rfl r6' hd5' ok4 hl fun v H7 s7 r7 hv => ?_
      obtain rfl : v = .int k := hv
      have hd6 := drop_app hd5'
      walk_at "rx"
      refine rd_m rfl r7 hd6 ok5 hl fun v H8 s8 r8 hv => ?_
      obtain rfl : v = .str t := hv
      walk_at "rx"
      have t68 : Tst H6' H8 := r6'.tst (s7.trans s8)
      have t58 : Tst H5 H8 := r5.tst (((s6.trans s6').trans s7).trans s8)
      refine ⟨le_line rfl, fun p9 hp9 => ?_⟩
      refine q _ _ (((((s5.trans s6).trans s6').trans s7).trans s8).trans (Sx.of (same_new hp9))) ((r8.sx (same_new hp9)).to ?_) (Rp.tupOf upd_same (RpL.cons rfl (RpL.cons rfl (RpL.cons ((v5.ts t58).ts (Tst.new hp9)) (RpL.cons ((hvb.ts t68).ts (Tst.new hp9)) (RpL.cons rfl (RpL.cons rfl RpL.nil)))))))
      simp only [wDeed, wOpt, List.length_cons, List.length_append, List.length_nil]
      omega
/-- lists of them -/
def spRdL {α : Type} (K : PySem.W.Frag) (w : α → List Nat) (d : α → D) (ok : α → Prop) : Sp := fun vs H Q _ => ∃ r L bs n, ∃ xs : List α, ∃ rest, vs = [.ref r] ∧ RdAt K H r L bs n ∧ bs.drop n = wL w xs ++ rest ∧ (∀ x ∈ xs, ok x) ∧ bs.length ≤ cap ∧
  ∀ D ys H', Sx r H H' → RdAt K H' r L bs (n + (wL w xs).length) → H D = none → H' D = some (.lst ys) → RpL H' (xs.map d) ys → Q (.ref D) H'
theorem ok_Reader_read_deeds  (T : Txt K mg) : Mc P w K mg base CX0 (6) "Reader" "read_deeds" ["self"] (spRdL K wDeed dDeed okD) := by
  refine ⟨?_, me_Reader_read_deeds T.says, (fd_Reader_read_deeds T.says).bindsN fun _ _ _ _ _ _ us hl => match us, hl with | [_], _ => rfl, cl_Reader T.says⟩
  refine (fd_Reader_read_deeds T.says).ok sc_Reader_read_deeds (fun vs H Q E h => by first | (obtain ⟨_, rfl, _⟩ := h; rfl) | (obtain ⟨_, _, rfl, _⟩ := h; rfl) | (obtain ⟨_, _, _, rfl, _⟩ := h; rfl) | (obtain ⟨_, _, _, _, rfl, _⟩ := h; rfl) | (obtain ⟨_, _, _, _, _, rfl, _⟩ := h; rfl) | (obtain ⟨_, _, _, _, _, _, rfl, _⟩ := h; rfl) | (obtain ⟨_, _, _, _, _, _, _, rfl, _⟩ := h; rfl) | (obtain ⟨_, _, _, _, _, _, _, _, rfl, _⟩ := h; rfl) | (obtain ⟨_, _, _, _, _, _, _, _, _, rfl, _⟩ := h; rfl)) (fun cdv A outer s H vs Q E hr h => ?_)
  obtain ⟨r, L, bs, n, xs, rest, rfl, hR, hd, hok, hl, q⟩ := h
  refine ⟨_, PSs.nox (pss_one (ps_ret (pe_lc (own := [("_", 1)]) (g := gName 1) (tt := tYes) rfl sc_Reader_read_deeds.nd (pi_range1 (by rfl) (n_range T) (pa_cons (pe_m0 (ok_Reader_read_count T) (hr.mono (by omega)) (pv 0)) pa_nil)) (blkOk_by (N := ["self", "_"]) (sc := defScope s_Reader_read_deeds) (by decide +kernel)) (fun _ _ _ _ _ => (pg_name (i := 1) sc_Reader_read_deeds.nd rfl (Or.inl rfl))) (fun _ _ _ _ _ => pts_nil) (fun _ _ _ _ _ => by (apply pe_cast (pe_m0 (ok_Reader_read_deed T) (hr.mono (by omega)) (pv 0))); (try dsimp only [L2.Cx.blk]) <;> exact rfl)))), ?_⟩
  walk_at "rx"
  exact rd_lc (w := wDeed) (d := dDeed) (ok := okD) rfl hR hd hok wDeed_pos' hl q
theorem wTrip_pos' (t : Trip) : 0 < (wTrip t).length := by
  have := wNum_pos' t.1
  rw [wTrip, List.length_append]
  omega
theorem ok_Reader_read_triple  (T : Txt K mg) : Mc P w K mg base CX0 (6) "Reader" "read_triple" ["self"] (spRd K wTrip dTrip okT) := by
  refine ⟨?_, me_Reader_read_triple T.says, (fd_Reader_read_triple T.says).bindsN fun _ _ _ _ _ _ us hl => match us, hl with | [_], _ => rfl, cl_Reader T.says⟩
  refine (fd_Reader_read_triple T.says).ok sc_Reader_read_triple (fun vs H Q E h => by first | (obtain ⟨_, rfl, _⟩ := h; rfl) | (obtain ⟨_, _, rfl, _⟩ := h; rfl) | (obtain ⟨_, _, _, rfl, _⟩ := h; rfl) | (obtain ⟨_, _, _, _, rfl, _⟩ := h; rfl) | (obtain ⟨_, _, _, _, _, rfl, _⟩ := h; rfl) | (obtain ⟨_, _, _, _, _, _, rfl, _⟩ := h; rfl) | (obtain ⟨_, _, _, _, _, _, _, rfl, _⟩ := h; rfl) | (obtain ⟨_, _, _, _, _, _, _, _, rfl, _⟩ := h; rfl) | (obtain ⟨_, _, _, _, _, _, _, _, _, rfl, _⟩ := h; rfl)) (fun cdv A outer s H vs Q E hr h => ?_)
  obtain ⟨r, L, bs, n, x, rest, rfl, hR, hd, hok, hl, q⟩ := h
  unfold wTrip at hd
  rw [List.append_assoc, List.append_assoc] at hd
  refine ⟨_, PSs.nox (pss_cons (ps_set (i := 1) sc_Reader_read_triple.nd rfl (Or.inl rfl) (pe_m0 (ok_Reader_read_number T) (hr.mono (by omega)) (pv 0)))
      (pss_cons (ps_set (i := 2) sc_Reader_read_triple.nd rfl (Or.inl rfl) (pe_m0 (ok_Reader_read_number T) (hr.mono (by omega)) (pv 0)))
      (pss_one (ps_ret (pe_tup (pa_cons (pv 1) (pa_cons (pv 2) (pa_cons (pe_m0 (ok_Reader_read_deed T) (hr.mono (by omega)) (pv 0)) pa_nil)))))))), ?_⟩
  walk_at "rx"
  refine rd_m rfl hR hd hok.1 hl fun v H2 s2 r2 hv => ?_
  obtain rfl : v = .int x.1 := hv
  have hd2 := drop_app hd
  walk_at "rx"
  refine rd_m rfl r2 hd2 hok.2.1 hl fun v H3 s3 r3 hv => ?_
  obtain rfl : v = .int x.2.1 := hv
  have hd3 := drop_app hd2
  walk_at "rx"
  refine rd_m rfl r3 hd3 hok.2.2 hl fun v H4 s4 r4 hv => ?_
  walk_at "rx"
  refine ⟨le_line rfl, fun p hp => ?_⟩
  refine q _ _ (((s2.trans s3).trans s4).trans (Sx.of (same_new hp))) ((r4.sx (same_new hp)).to ?_) (Rp.tupOf upd_same (RpL.cons rfl (RpL.cons rfl (RpL.cons (hv.ts (Tst.new hp)) RpL.nil))))
  simp only [wTrip, List.length_append]
  omega
theorem ok_Reader_read_triples  (T : Txt K mg) : Mc P w K mg base CX0 (7) "Reader" "read_triples" ["self"] (spRdL K wTrip dTrip okT) := by
  refine ⟨?_, me_Reader_read_triples T.says, (fd_Reader_read_triples T.says).bindsN fun _ _ _ _ _ _ us hl => match us, hl with | [_], _ => rfl, cl_Reader T.says⟩
  refine (fd_Reader_read_triples T.says).ok sc_Reader_read_triples (fun vs H Q E h => by first | (obtain ⟨_, rfl, _⟩ := h; rfl) | (obtain ⟨_, _, rfl, _⟩ := h; rfl) | (obtain ⟨_, _, _, rfl, _⟩ := h; rfl) | (obtain ⟨_, _, _, _, rfl, _⟩ := h; rfl) | (obtain ⟨_, _, _, _, _, rfl, _⟩ := h; rfl) | (obtain ⟨_, _, _, _, _, _, rfl, _⟩ := h; rfl) | (obtain ⟨_, _, _, _, _, _, _, rfl, _⟩ := h; rfl) | (obtain ⟨_, _, _, _, _, _, _, _, rfl, _⟩ := h; rfl) | (obtain ⟨_, _, _, _, _, _, _, _, _, rfl, _⟩ := h; rfl)) (fun cdv A outer s H vs Q E hr h => ?_)
  obtain ⟨r, L, bs, n, xs, rest, rfl, hR, hd, hok, hl, q⟩ := h
  refine ⟨_, PSs.nox (pss_one (ps_ret (pe_lc (own := [("_", 1)]) (g := gName 1) (tt := tYes) rfl sc_Reader_read_triples.nd (pi_range1 (by rfl) (n_range T) (pa_cons (pe_m0 (ok_Reader_read_count T) (hr.mono (by omega)) (pv 0)) pa_nil)) (blkOk_by (N := ["self", "_"]) (sc := defScope s_Reader_read_triples) (by decide +kernel)) (fun _ _ _ _ _ => (pg_name (i := 1) sc_Reader_read_triples.nd rfl (Or.inl rfl))) (fun _ _ _ _ _ => pts_nil) (fun _ _ _ _ _ => by (apply pe_cast (pe_m0 (ok_Reader_read_triple T) (hr.mono (by omega)) (pv 0))); (try dsimp only [L2.Cx.blk]) <;> exact rfl)))), ?_⟩
  walk_at "rx"
  exact rd_lc (w := wTrip) (d := dTrip) (ok := okT) rfl hR hd hok wTrip_pos' hl q
end
end Q

/-! ## R5 -/
set_option Elab.async false
set_option linter.all false
set_option maxRecDepth 100000
set_option maxHeartbeats 4000000
namespace Q
open PySem PySem.Spec PyProof.Rows L2
local macro_rules | `(tactic| walk_at "rd") => `(tactic| repeat (first
  | ((with_reducible apply r_var); focus exact rfl)
  | with_reducible refine r_c ?_
  | with_reducible refine r_chain ?_
  | ((with_reducible apply r_aug); focus exact rfl)
  | with_reducible refine r_ip ?_
  | with_reducible refine r_op ?_
  | with_reducible refine r_I0 ?_
  | with_reducible refine r_cons ?_
  | with_reducible refine r_nil ?_
  | with_reducible refine r_seq ?_
  | with_reducible refine r_asg ?_
  | with_reducible refine r_gn ?_
  | with_reducible refine r_gcons ?_
  | with_reducible refine r_gnil ?_
  | with_reducible refine r_lc ?_
  | with_reducible refine r_m1 ?_
  | with_reducible refine r_sfld ?_
  | with_reducible refine r_sfa ?_
  | with_reducible refine r_rAdd ?_
  | with_reducible refine r_ret ?_
  | with_reducible refine r_ifS ?_
  | with_reducible refine r_test ?_
  | with_reducible refine r_bl ?_
  | with_reducible refine r_B ?_
  | with_reducible refine r_drop ?_
  | with_reducible refine r_bm ?_
  | with_reducible refine r_CB ?_
  | with_reducible refine r_call ?_
  | with_reducible refine r_meth ?_
  | with_reducible refine r_make ?_
  | with_reducible refine r_tup ?_
  | with_reducible refine r_lst ?_
  | ((with_reducible refine r_I ?_ ?_); focus (first | decide | exact ⟨by decide, by decide⟩ | exact .inl ⟨by decide, by decide⟩ | exact .inr ⟨by decide, by decide⟩ | omega))
  | with_reducible refine r_U ?_
  | with_reducible refine r_un ?_
  | with_reducible refine r_and ?_
  | with_reducible refine r_or ?_
  | with_reducible refine r_not ?_
  | with_reducible refine r_andV ?_
  | with_reducible refine r_orV ?_
  | with_reducible refine r_notV ?_
  | with_reducible refine r_if ?_
  | with_reducible refine r_sl ?_
  | with_reducible refine r_part ?_
  | with_reducible refine r_parti ?_
  | with_reducible refine r_nopart ?_
  | with_reducible refine r_il ?_
  | with_reducible refine r_it ?_
  | with_reducible refine r_ir ?_
  | with_reducible refine r_is ?_
  | with_reducible refine r_next ?_
  | with_reducible refine r_retN ?_
  | ((with_reducible refine r_eq ?_ ?_); focus exact rfl)
  | ((with_reducible refine r_ne ?_ ?_); focus exact rfl)))
local macro_rules | `(tactic| walk_at "rx") => `(tactic| repeat (first
  | ((with_reducible apply r_var); focus exact rfl)
  | with_reducible refine r_c ?_
  | with_reducible refine r_chain ?_
  | ((with_reducible apply r_aug); focus exact rfl)
  | with_reducible refine r_ip ?_
  | with_reducible refine r_op ?_
  | with_reducible refine r_I0 ?_
  | with_reducible refine r_cons ?_
  | with_reducible refine r_nil ?_
  | with_reducible refine r_seq ?_
  | with_reducible refine r_asg ?_
  | with_reducible refine r_gn ?_
  | with_reducible refine r_gcons ?_
  | with_reducible refine r_gnil ?_
  | with_reducible refine r_m1 ?_
  | with_reducible refine r_sfld ?_
  | with_reducible refine r_sfa ?_
  | with_reducible refine r_rAdd ?_
  | with_reducible refine r_ret ?_
  | with_reducible refine r_ifS ?_
  | with_reducible refine r_test ?_
  | with_reducible refine r_bl ?_
  | with_reducible refine r_B ?_
  | with_reducible refine r_drop ?_
  | with_reducible refine r_bm ?_
  | with_reducible refine r_CB ?_
  | with_reducible refine r_call ?_
  | with_reducible refine r_make ?_
  | with_reducible refine r_tup ?_
  | with_reducible refine r_lst ?_
  | ((with_reducible refine r_I ?_ ?_); focus (first | decide | exact ⟨by decide, by decide⟩ | exact .inl ⟨by decide, by decide⟩ | exact .inr ⟨by decide, by decide⟩ | omega))
  | with_reducible refine r_U ?_
  | with_reducible refine r_un ?_
  | with_reducible refine r_and ?_
  | with_reducible refine r_or ?_
  | with_reducible refine r_not ?_
  | with_reducible refine r_andV ?_
  | with_reducible refine r_orV ?_
  | with_reducible refine r_notV ?_
  | with_reducible refine r_if ?_
  | with_reducible refine r_sl ?_
  | with_reducible refine r_part ?_
  | with_reducible refine r_parti ?_
  | with_reducible refine r_nopart ?_
  | with_reducible refine r_il ?_
  | with_reducible refine r_it ?_
  | with_reducible refine r_ir ?_
  | with_reducible refine r_is ?_
  | with_reducible refine r_next ?_
  | with_reducible refine r_retN ?_
  | ((with_reducible refine r_eq ?_ ?_); focus exact rfl)
  | ((with_reducible refine r_ne ?_ ?_); focus exact rfl)))
section
variable {P : Program} {w : World} {K : PySem.W.Frag} {mg : Str → Option Value} {base : Heap}
/-! ### values read -/
def spVA (K : PySem.W.Frag) (n : Nat) : Sp := fun vs H Q _ => ∃ r L bs m x rest, ∃ e : Int, vs = [.ref r, .int e] ∧ RdAt K H r L bs m ∧ bs.drop m = wVal x ++ rest ∧ okV x ∧ x.dep ≤ n ∧ e + n ≤ 41 ∧ bs.length ≤ cap ∧
  ∀ v H', Sx r H H' → RdAt K H' r L bs (m + (wVal x).length) → Rp H' (dVal x) v → Q v H'
def spPa (K : PySem.W.Frag) (n : Nat) : Sp := fun vs H Q _ => ∃ r L bs m xs rest, ∃ e : Int, vs = [.ref r, .int e] ∧ RdAt K H r L bs m ∧ bs.drop m = wL wVal xs ++ rest ∧ okVs xs ∧ depL xs ≤ n ∧ e + n ≤ 41 ∧ bs.length ≤ cap ∧
  ∀ v H', Sx r H H' → RdAt K H' r L bs (m + (wL wVal xs).length) → Rp H' (.tup (dVals xs)) v → Q v H'
theorem wVal_pos' (x : Val) : 0 < (wVal x).length := by
  cases x <;> simp [wVal]
theorem ok_Reader_read_parts {n : Nat} (ih : Mc P w K mg base CX0 (2 * n + 4) "Reader" "read_value_at" ["self", "depth"] (spVA K n)) (T : Txt K mg) : Mc P w K mg base CX0 (2 * n + 5) "Reader" "read_parts" ["self", "depth"] (spPa K n) := by
  refine ⟨?_, me_Reader_read_parts T.says, (fd_Reader_read_parts T.says).bindsN fun _ _ _ _ _ _ us hl => match us, hl with | [_, _], _ => rfl, cl_Reader T.says⟩
  refine (fd_Reader_read_parts T.says).ok sc_Reader_read_parts (fun vs H Q E h => by first | (obtain ⟨_, rfl, _⟩ := h; rfl) | (obtain ⟨_, _, rfl, _⟩ := h; rfl) | (obtain ⟨_, _, _, rfl, _⟩ := h; rfl) | (obtain ⟨_, _, _, _, rfl, _⟩ := h; rfl) | (obtain ⟨_, _, _, _, _, rfl, _⟩ := h; rfl) | (obtain ⟨_, _, _, _, _, _, rfl, _⟩ := h; rfl) | (obtain ⟨_, _, _, _, _, _, _, rfl, _⟩ := h; rfl) | (obtain ⟨_, _, _, _, _, _, _, _, rfl, _⟩ := h; rfl) | (obtain ⟨_, _, _, _, _, _, _, _, _, rfl, _⟩ := h; rfl)) (fun cdv A outer s H vs Q E hr h => ?_)
  obtain ⟨r, L, bs, m, xs, rest, e, rfl, hR, hd, hok, hdp, he, hl, q⟩ := h
  refine ⟨_, PSs.nox (pss_one (ps_ret (pe_callTy call_tuple_of (by rfl) (n_tuple T) (by decide +kernel) (pa_cons (pe_lc (own := [("_", 2)]) (g := gName 2) (tt := tYes) rfl sc_Reader_read_parts.nd (pi_range1 (by rfl) (n_range T) (pa_cons (pe_m0 (ok_Reader_read_count T) (hr.mono (by omega)) (pv 0)) pa_nil)) (blkOk_by (N := ["self", "depth", "_"]) (sc := defScope s_Reader_read_parts) (by decide +kernel)) (fun _ _ _ _ _ => (pg_name (i := 2) sc_Reader_read_parts.nd rfl (Or.inl rfl))) (fun _ _ _ _ _ => pts_nil) (fun _ _ _ _ _ => by (apply pe_cast (pe_m ih (hr.mono (by omega)) (pv 0) (pa_cons (pv 1) pa_nil))); (try dsimp only [L2.Cx.blk]) <;> exact rfl)) pa_nil)))), ?_⟩
  walk_at "rx"
  refine rd_lcG (w := wVal) (d := dVal) (ok := fun x => okV x ∧ x.dep ≤ n) rfl (by decide) hR hd (fun x hx => ⟨okVs_mem hok hx, Nat.le_trans (dep_mem hx) hdp⟩) wVal_pos' hl (fun z H2 n2 x rest2 Q2 r2 h2 k2 q2 => ?_) fun D ys H2 s2 r2 nD eD hys => ?_
  · refine ⟨.ref r, rfl, rd_no r2 (by decide +kernel) fun _ _ => ?_⟩
    walk_at "rx"
    exact ⟨r, L, bs, n2, x, rest2, e, rfl, r2, h2, k2.1, k2.2, he, hl, q2⟩
  · walk_at "rx"
    refine ⟨D, ys, rfl, .inl ⟨SqL.of eD, fun p hp => ?_⟩⟩
    rw [← dVals_eq] at hys
    exact q _ _ (s2.trans (Sx.of (same_new hp))) (r2.sx (same_new hp)) (Rp.tupOf upd_same (hys.ts (Tst.new hp)))
theorem wVals_wLn (vs : List Val) : wL wVal vs = wNum vs.length ++ wVals vs := by
  unfold wL
  rw [wVals_eq]
theorem wVals_wL' (vs : List Val) (rest : List Nat) : wNum vs.length ++ wVals vs ++ rest = wL wVal vs ++ rest := by
  unfold wL
  rw [wVals_eq]
theorem ok_read_value_at_s {n : Nat} (ih : Mc P w K mg base CX0 (2 * n + 5) "Reader" "read_parts" ["self", "depth"] (spPa K n)) (T : Txt K mg) : Mc P w K mg base CX0 (2 * n + 6) "Reader" "read_value_at" ["self", "depth"] (spVA K (n + 1)) := by
  refine ⟨?_, me_Reader_read_value_at T.says, (fd_Reader_read_value_at T.says).bindsN fun _ _ _ _ _ _ us hl => match us, hl with | [_, _], _ => rfl, cl_Reader T.says⟩
  refine (fd_Reader_read_value_at T.says).ok sc_Reader_read_value_at (fun vs H Q E h => by first | (obtain ⟨_, rfl, _⟩ := h; rfl) | (obtain ⟨_, _, rfl, _⟩ := h; rfl) | (obtain ⟨_, _, _, rfl, _⟩ := h; rfl) | (obtain ⟨_, _, _, _, rfl, _⟩ := h; rfl) | (obtain ⟨_, _, _, _, _, rfl, _⟩ := h; rfl) | (obtain ⟨_, _, _, _, _, _, rfl, _⟩ := h; rfl) | (obtain ⟨_, _, _, _, _, _, _, rfl, _⟩ := h; rfl) | (obtain ⟨_, _, _, _, _, _, _, _, rfl, _⟩ := h; rfl) | (obtain ⟨_, _, _, _, _, _, _, _, _, rfl, _⟩ := h; rfl)) (fun cdv A outer s H vs Q E hr h => ?_)
  obtain ⟨r, L, bs, m, x, rest, e, rfl, hR, hd, hok, hdp, he, hl, q⟩ := h
  refine ⟨_, PSs.nox (pss_cons (ps_if (pt_cmpR op_gt (pv 1) (pe_gi (gi_DEEPEST T) (by rfl)) (nomark _)) (pss_one ps_never) pss_nil)
      (pss_cons (ps_set (i := 2) sc_Reader_read_value_at.nd rfl (Or.inl rfl) (pe_m (ok_Reader_read_choice T) (hr.mono (by omega)) (pv 0) (pa_cons pe_int pa_nil)))
      (pss_cons (ps_if (pt_cmpR op_eq (pv 2) pe_int (nomark _)) (pss_one (ps_ret (pe_m0 (ok_Reader_read_integer T) (hr.mono (by omega)) (pv 0)))) pss_nil)
      (pss_cons (ps_if (pt_cmpR op_eq (pv 2) pe_int (nomark _)) (pss_one (ps_ret (pe_m0 (ok_Reader_read_string T) (hr.mono (by omega)) (pv 0)))) pss_nil)
      (pss_cons (ps_if (pt_cmpR op_eq (pv 2) pe_int (nomark _)) (pss_one (ps_ret (pe_cmpR op_eq (pe_m (ok_Reader_read_choice T) (hr.mono (by omega)) (pv 0) (pa_cons pe_int pa_nil)) pe_int (nomark _)))) pss_nil)
      (pss_cons (ps_if (pt_cmpR op_eq (pv 2) pe_int (nomark _)) (pss_one (ps_ret (pe_tup (pa_cons pe_str (pa_cons (pe_m ih (hr.mono (by omega)) (pv 0) (pa_cons (pe_op op_add (pv 1) pe_int) pa_nil)) pa_nil))))) pss_nil)
      (pss_cons (ps_set (i := 3) sc_Reader_read_value_at.nd rfl (Or.inl rfl) (pe_m0 (ok_Reader_read_string T) (hr.mono (by omega)) (pv 0)))
      (pss_one (ps_ret (pe_tup (pa_cons pe_str (pa_cons (pv 3) (pa_cons (pe_m ih (hr.mono (by omega)) (pv 0) (pa_cons (pe_op op_add (pv 1) pe_int) pa_nil)) pa_nil))))))))))))), ?_⟩
  walk_at "rx"
  refine ite_f (decide_eq_false (by omega)) ?_
  walk_at "rx"
  refine ⟨.ref r, rfl, rd_no hR (by decide +kernel) fun _ _ => ?_⟩
  walk_at "rx"
  cases x with
  | int i =>
    obtain ⟨hb, hd2⟩ := drop_head (show bs.drop m = 0 :: (wInt' i ++ rest) from hd)
    refine ⟨r, L, bs, m, 0, 5, rfl, hR, hb, hl, by decide, fun H2 s2 r2 => ?_⟩
    walk_at "rx"
    refine ite_t rfl ?_
    walk_at "rx"
    refine rd_m rfl r2 hd2 hok hl fun v H3 s3 r3 hv => ?_
    refine q _ _ (s2.trans s3) (r3.to ?_) hv
    show m + 1 + (wInt' i).length = m + ((wInt' i).length + 1)
    omega
  | str z =>
    obtain ⟨hb, hd2⟩ := drop_head (show bs.drop m = 1 :: (wStr z ++ rest) from hd)
    refine ⟨r, L, bs, m, 1, 5, rfl, hR, hb, hl, by decide, fun H2 s2 r2 => ?_⟩
    walk_at "rx"
    refine ite_f rfl ?_
    walk_at "rx"
    refine ite_t rfl ?_
    walk_at "rx"
    refine rd_m rfl r2 hd2 hok hl fun v H3 s3 r3 hv => ?_
    refine q _ _ (s2.trans s3) (r3.to ?_) hv
    show m + 1 + (wStr z).length = m + ((wStr z).length + 1)
    omega
  | bl b =>
    obtain ⟨hb, hd2⟩ := drop_head (show bs.drop m = 2 :: ([if b then 1 else 0] ++ rest) from hd)
    obtain ⟨hb2, _⟩ := drop_head (show bs.drop (m + 1) = (if b then 1 else 0) :: rest from hd2)
    refine ⟨r, L, bs, m, 2, 5, rfl, hR, hb, hl, by decide, fun H2 s2 r2 => ?_⟩
    walk_at "rx"
    refine ite_f rfl ?_
    walk_at "rx"
    refine ite_f rfl ?_
    walk_at "rx"
    refine ite_t rfl ?_
    walk_at "rx"
    refine ⟨.ref r, rfl, rd_no r2 (by decide +kernel) fun _ _ => ?_⟩
    walk_at "rx"
    refine ⟨r, L, bs, _, _, 2, rfl, r2, hb2, hl, by cases b <;> decide, fun H3 s3 r3 => ?_⟩
    walk_at "rx"
    refine q _ _ (s2.trans s3) r3 ?_
    cases b <;> rfl
  | list vs =>
    obtain ⟨hb, hd2⟩ := drop_head (show bs.drop m = 3 :: (wNum vs.length ++ wVals vs ++ rest) by rw [hd]; simp [wVal])
    rw [wVals_wL'] at hd2
    rw [Val.dep] at hdp
    refine ⟨r, L, bs, m, 3, 5, rfl, hR, hb, hl, by decide, fun H2 s2 r2 => ?_⟩
    walk_at "rx"
    refine ite_f rfl ?_
    walk_at "rx"
    refine ite_f rfl ?_
    walk_at "rx"
    refine ite_f rfl ?_
    walk_at "rx"
    refine ite_t rfl ?_
    walk_at "rx"
    refine ⟨.ref r, rfl, rd_no r2 (by decide +kernel) fun _ _ => ?_⟩
    walk_at "rx"
    refine ⟨r, L, bs, _, vs, rest, _, rfl, r2, hd2, hok, by omega, by omega, hl, fun v H3 s3 r3 hv => ?_⟩
    walk_at "rx"
    refine ⟨le_line rfl, fun p hp => ?_⟩
    refine q _ _ ((s2.trans s3).trans (Sx.of (same_new hp))) ((r3.sx (same_new hp)).to ?_) ?_
    · rw [wVals_wLn, wVal, List.length_cons]
      omega
    · rw [dVal]
      exact Rp.tupOf upd_same (RpL.cons rfl (RpL.cons (hv.ts (Tst.new hp)) RpL.nil))
  | make k vs =>
    obtain ⟨hb, hd2⟩ := drop_head (show bs.drop m = 4 :: (wStr k ++ (wNum vs.length ++ wVals vs ++ rest)) by rw [hd]; simp [wVal])
    rw [wVals_wL'] at hd2
    rw [Val.dep] at hdp
    refine ⟨r, L, bs, m, 4, 5, rfl, hR, hb, hl, by decide, fun H2 s2 r2 => ?_⟩
    walk_at "rx"
    refine ite_f rfl ?_
    walk_at "rx"
    refine ite_f rfl ?_
    walk_at "rx"
    refine ite_f rfl ?_
    walk_at "rx"
    refine ite_f rfl ?_
    walk_at "rx"
    refine rd_m rfl r2 hd2 hok.1 hl fun v H3 s3 r3 hv => ?_
    obtain rfl : v = .str k := hv
    have hd3 := drop_app hd2
    walk_at "rx"
    refine ⟨.ref r, rfl, rd_no r3 (by decide +kernel) fun _ _ => ?_⟩
    walk_at "rx"
    refine ⟨r, L, bs, _, vs, rest, _, rfl, r3, hd3, hok.2, by omega, by omega, hl, fun v H4 s4 r4 hv => ?_⟩
    walk_at "rx"
    refine ⟨le_line rfl, fun p hp => ?_⟩
    refine q _ _ (((s2.trans s3).trans s4).trans (Sx.of (same_new hp))) ((r4.sx (same_new hp)).to ?_) ?_
    · rw [wVals_wLn, wVal]
      simp only [List.length_append, List.length_cons]
      omega
    · rw [dVal]
      exact Rp.tupOf upd_same (RpL.cons rfl (RpL.cons rfl (RpL.cons (hv.ts (Tst.new hp)) RpL.nil)))
theorem ok_read_value_at (n : Nat) (T : Txt K mg) : Mc P w K mg base CX0 (2 * n + 4) "Reader" "read_value_at" ["self", "depth"] (spVA K n) := by
  induction n with
  | zero =>
    refine ⟨⟨fun vs H Q E h => ?_, fun A outer s H args us vs Q E hr he hb hv hs => ?_⟩, me_Reader_read_value_at T.says, (fd_Reader_read_value_at T.says).bindsN fun _ _ _ _ _ _ us hl => match us, hl with | [_, _], _ => rfl, cl_Reader T.says⟩
    · obtain ⟨r, L, bs, m, x, rest, e, rfl, _⟩ := h
      rfl
    · obtain ⟨r, L, bs, m, x, rest, e, _, _, _, _, hd, _⟩ := hs
      have := dep_pos x
      omega
  | succ n ih => exact ok_read_value_at_s (ok_Reader_read_parts ih T) T
theorem ok_Reader_read_value  (T : Txt K mg) : Mc P w K mg base CX0 (85) "Reader" "read_value" ["self"] (spRd K wVal dVal (fun x => okV x ∧ x.dep ≤ 40)) := by
  refine ⟨?_, me_Reader_read_value T.says, (fd_Reader_read_value T.says).bindsN fun _ _ _ _ _ _ us hl => match us, hl with | [_], _ => rfl, cl_Reader T.says⟩
  refine (fd_Reader_read_value T.says).ok sc_Reader_read_value (fun vs H Q E h => by first | (obtain ⟨_, rfl, _⟩ := h; rfl) | (obtain ⟨_, _, rfl, _⟩ := h; rfl) | (obtain ⟨_, _, _, rfl, _⟩ := h; rfl) | (obtain ⟨_, _, _, _, rfl, _⟩ := h; rfl) | (obtain ⟨_, _, _, _, _, rfl, _⟩ := h; rfl) | (obtain ⟨_, _, _, _, _, _, rfl, _⟩ := h; rfl) | (obtain ⟨_, _, _, _, _, _, _, rfl, _⟩ := h; rfl) | (obtain ⟨_, _, _, _, _, _, _, _, rfl, _⟩ := h; rfl) | (obtain ⟨_, _, _, _, _, _, _, _, _, rfl, _⟩ := h; rfl)) (fun cdv A outer s H vs Q E hr h => ?_)
  obtain ⟨r, L, bs, n, x, rest, rfl, hR, hd, hok, hl, q⟩ := h
  refine ⟨_, PSs.nox (pss_one (ps_ret (pe_m (ok_read_value_at 40 T) (hr.mono (by omega)) (pv 0) (pa_cons pe_int pa_nil)))), ?_⟩
  walk_at "rx"
  refine ⟨.ref r, rfl, rd_no hR (by decide +kernel) fun _ _ => ?_⟩
  walk_at "rx"
  exact ⟨r, L, bs, n, x, rest, 1, rfl, hR, hd, hok.1, hok.2, by decide, hl, q⟩
end
end Q

/-! ## R6 -/
set_option Elab.async false
set_option linter.all false
set_option maxRecDepth 100000
set_option maxHeartbeats 4000000
namespace Q
open PySem PySem.Spec PyProof.Rows L2
local macro_rules | `(tactic| walk_at "rd") => `(tactic| repeat (first
  | ((with_reducible apply r_var); focus exact rfl)
  | with_reducible refine r_c ?_
  | with_reducible refine r_chain ?_
  | ((with_reducible apply r_aug); focus exact rfl)
  | with_reducible refine r_ip ?_
  | with_reducible refine r_op ?_
  | with_reducible refine r_I0 ?_
  | with_reducible refine r_cons ?_
  | with_reducible refine r_nil ?_
  | with_reducible refine r_seq ?_
  | with_reducible refine r_asg ?_
  | with_reducible refine r_gn ?_
  | with_reducible refine r_gcons ?_
  | with_reducible refine r_gnil ?_
  | with_reducible refine r_lc ?_
  | with_reducible refine r_m1 ?_
  | with_reducible refine r_sfld ?_
  | with_reducible refine r_sfa ?_
  | with_reducible refine r_rAdd ?_
  | with_reducible refine r_ret ?_
  | with_reducible refine r_ifS ?_
  | with_reducible refine r_test ?_
  | with_reducible refine r_bl ?_
  | with_reducible refine r_B ?_
  | with_reducible refine r_drop ?_
  | with_reducible refine r_bm ?_
  | with_reducible refine r_CB ?_
  | with_reducible refine r_call ?_
  | with_reducible refine r_meth ?_
  | with_reducible refine r_make ?_
  | with_reducible refine r_tup ?_
  | with_reducible refine r_lst ?_
  | ((with_reducible refine r_I ?_ ?_); focus (first | decide | exact ⟨by decide, by decide⟩ | exact .inl ⟨by decide, by decide⟩ | exact .inr ⟨by decide, by decide⟩ | omega))
  | with_reducible refine r_U ?_
  | with_reducible refine r_un ?_
  | with_reducible refine r_and ?_
  | with_reducible refine r_or ?_
  | with_reducible refine r_not ?_
  | with_reducible refine r_andV ?_
  | with_reducible refine r_orV ?_
  | with_reducible refine r_notV ?_
  | with_reducible refine r_if ?_
  | with_reducible refine r_sl ?_
  | with_reducible refine r_part ?_
  | with_reducible refine r_parti ?_
  | with_reducible refine r_nopart ?_
  | with_reducible refine r_il ?_
  | with_reducible refine r_it ?_
  | with_reducible refine r_ir ?_
  | with_reducible refine r_is ?_
  | with_reducible refine r_next ?_
  | with_reducible refine r_retN ?_
  | ((with_reducible refine r_eq ?_ ?_); focus exact rfl)
  | ((with_reducible refine r_ne ?_ ?_); focus exact rfl)))
local macro_rules | `(tactic| walk_at "rx") => `(tactic| repeat (first
  | ((with_reducible apply r_var); focus exact rfl)
  | with_reducible refine r_c ?_
  | with_reducible refine r_chain ?_
  | ((with_reducible apply r_aug); focus exact rfl)
  | with_reducible refine r_ip ?_
  | with_reducible refine r_op ?_
  | with_reducible refine r_I0 ?_
  | with_reducible refine r_cons ?_
  | with_reducible refine r_nil ?_
  | with_reducible refine r_seq ?_
  | with_reducible refine r_asg ?_
  | with_reducible refine r_gn ?_
  | with_reducible refine r_gcons ?_
  | with_reducible refine r_gnil ?_
  | with_reducible refine r_m1 ?_
  | with_reducible refine r_sfld ?_
  | with_reducible refine r_sfa ?_
  | with_reducible refine r_rAdd ?_
  | with_reducible refine r_ret ?_
  | with_reducible refine r_ifS ?_
  | with_reducible refine r_test ?_
  | with_reducible refine r_bl ?_
  | with_reducible refine r_B ?_
  | with_reducible refine r_drop ?_
  | with_reducible refine r_bm ?_
  | with_reducible refine r_CB ?_
  | with_reducible refine r_call ?_
  | with_reducible refine r_make ?_
  | with_reducible refine r_tup ?_
  | with_reducible refine r_lst ?_
  | ((with_reducible refine r_I ?_ ?_); focus (first | decide | exact ⟨by decide, by decide⟩ | exact .inl ⟨by decide, by decide⟩ | exact .inr ⟨by decide, by decide⟩ | omega))
  | with_reducible refine r_U ?_
  | with_reducible refine r_un ?_
  | with_reducible refine r_and ?_
  | with_reducible refine r_or ?_
  | with_reducible refine r_not ?_
  | with_reducible refine r_andV ?_
  | with_reducible refine r_orV ?_
  | with_reducible refine r_notV ?_
  | with_reducible refine r_if ?_
  | with_reducible refine r_sl ?_
  | with_reducible refine r_part ?_
  | with_reducible refine r_parti ?_
  | with_reducible refine r_nopart ?_
  | with_reducible refine r_il ?_
  | with_reducible refine r_it ?_
  | with_reducible refine r_ir ?_
  | with_reducible refine r_is ?_
  | with_reducible refine r_next ?_
  | with_reducible refine r_retN ?_
  | ((with_reducible refine r_eq ?_ ?_); focus exact rfl)
  | ((with_reducible refine r_ne ?_ ?_); focus exact rfl)))
section
variable {P : Program} {w : World} {K : PySem.W.Frag} {mg : Str → Option Value} {base : Heap}
/-! ### outcomes, kinds, shapes, cells read -/
theorem flt_at {i : Nat} (h : i < 6) : (faults.map V.str)[i]? = some (.str (faults.getD i "")) := by
  match i, h with
  | 0, _ => rfl
  | 1, _ => rfl
  | 2, _ => rfl
  | 3, _ => rfl
  | 4, _ => rfl
  | 5, _ => rfl
theorem flt_missing {i : Nat} (h : i < 6) : faults.getD i "" = "missing" ↔ i = 3 := by
  match i, h with
  | 0, _ => exact ⟨fun e => absurd e (by decide +kernel), fun e => by omega⟩
  | 1, _ => exact ⟨fun e => absurd e (by decide +kernel), fun e => by omega⟩
  | 2, _ => exact ⟨fun e => absurd e (by decide +kernel), fun e => by omega⟩
  | 3, _ => exact ⟨fun _ => rfl, fun _ => rfl⟩
  | 4, _ => exact ⟨fun e => absurd e (by decide +kernel), fun e => by omega⟩
  | 5, _ => exact ⟨fun e => absurd e (by decide +kernel), fun e => by omega⟩
theorem wFlt (i : Nat) (z : Str) : wOut (.flt i z) = if i = 3 then [1, 3] ++ wStr z else [1, i] := rfl
theorem bas_at {i : Nat} (h : i < 3) : (bases.map V.str)[i]? = some (.str (bases.getD i "")) := by
  match i, h with
  | 0, _ => rfl
  | 1, _ => rfl
  | 2, _ => rfl
theorem ok_Reader_read_outcome  (T : Txt K mg) : Mc P w K mg base CX0 (86) "Reader" "read_outcome" ["self"] (spRd K wOut dOut okO) := by
  refine ⟨?_, me_Reader_read_outcome T.says, (fd_Reader_read_outcome T.says).bindsN fun _ _ _ _ _ _ us hl => match us, hl with | [_], _ => rfl, cl_Reader T.says⟩
  refine (fd_Reader_read_outcome T.says).ok sc_Reader_read_outcome (fun vs H Q E h => by first | (obtain ⟨_, rfl, _⟩ := h; rfl) | (obtain ⟨_, _, rfl, _⟩ := h; rfl) | (obtain ⟨_, _, _, rfl, _⟩ := h; rfl) | (obtain ⟨_, _, _, _, rfl, _⟩ := h; rfl) | (obtain ⟨_, _, _, _, _, rfl, _⟩ := h; rfl) | (obtain ⟨_, _, _, _, _, _, rfl, _⟩ := h; rfl) | (obtain ⟨_, _, _, _, _, _, _, rfl, _⟩ := h; rfl) | (obtain ⟨_, _, _, _, _, _, _, _, rfl, _⟩ := h; rfl) | (obtain ⟨_, _, _, _, _, _, _, _, _, rfl, _⟩ := h; rfl)) (fun cdv A outer s H vs Q E hr h => ?_)
  obtain ⟨r, L, bs, n, x, rest, rfl, hR, hd, hok, hl, q⟩ := h
  refine ⟨_, PSs.nox (pss_cons (ps_if (pt_cmpR op_eq (pe_m (ok_Reader_read_choice T) (hr.mono (by omega)) (pv 0) (pa_cons pe_int pa_nil)) pe_int (nomark _)) (pss_one (ps_ret (pe_tup (pa_cons pe_str (pa_cons (pe_m0 (ok_Reader_read_value T) (hr.mono (by omega)) (pv 0)) pa_nil))))) pss_nil)
      (pss_cons (ps_set (i := 1) sc_Reader_read_outcome.nd rfl (Or.inl rfl) (pe_ix ix_tup (pe_gr (gm_FAULTS T) (by rfl)) (pe_m (ok_Reader_read_choice T) (hr.mono (by omega)) (pv 0) (pa_cons (pe_callB call_len_seq (by rfl) (n_len T) PySem.boot_len (pa_cons (pe_gr (gm_FAULTS T) (by rfl)) pa_nil)) pa_nil)) (fun _ _ => rfl)))
      (pss_cons (ps_if (pt_cmpR op_eq (pv 1) pe_str (nomark _)) (pss_one (ps_ret (pe_tup (pa_cons pe_str (pa_cons (pe_tup (pa_cons (pv 1) (pa_cons (pe_m0 (ok_Reader_read_string T) (hr.mono (by omega)) (pv 0)) pa_nil))) pa_nil))))) pss_nil)
      (pss_one (ps_ret (pe_tup (pa_cons pe_str (pa_cons (pe_tup (pa_cons (pv 1) pa_nil)) pa_nil)))))))), ?_⟩
  walk_at "rx"
  refine ⟨.ref r, rfl, rd_no hR (by decide +kernel) fun _ _ => ?_⟩
  walk_at "rx"
  cases x with
  | val v =>
    obtain ⟨hb, hd2⟩ := drop_head (show bs.drop n = 0 :: (wVal v ++ rest) from hd)
    refine ⟨r, L, bs, n, 0, 2, rfl, hR, hb, hl, by decide, fun H2 s2 r2 => ?_⟩
    walk_at "rx"
    refine ite_t rfl ?_
    walk_at "rx"
    refine rd_m rfl r2 hd2 ⟨hok.2, hok.1⟩ hl fun u H3 s3 r3 hv => ?_
    walk_at "rx"
    refine ⟨le_line rfl, fun p hp => ?_⟩
    refine q _ _ ((s2.trans s3).trans (Sx.of (same_new hp))) ((r3.sx (same_new hp)).to ?_) (Rp.tupOf upd_same (RpL.cons rfl (RpL.cons (hv.ts (Tst.new hp)) RpL.nil)))
    show n + 1 + (wVal v).length = n + ((wVal v).length + 1)
    omega
  | flt i z =>
    obtain ⟨hi, hz⟩ := hok
    obtain ⟨hb, hd2⟩ := drop_head (show bs.drop n = 1 :: (i :: ((if i = 3 then wStr z else []) ++ rest)) by rw [hd, wFlt]; split <;> rename_i c <;> simp [c])
    obtain ⟨hb2, hd3⟩ := drop_head hd2
    refine ⟨r, L, bs, n, 1, 2, rfl, hR, hb, hl, by decide, fun H2 s2 r2 => ?_⟩
    walk_at "rx"
    refine ite_f rfl ?_
    walk_at "rx"
    refine ⟨.ref r, rfl, rd_no r2 (by decide +kernel) fun _ _ => ?_⟩
    walk_at "rx"
    refine ⟨_, _, rfl, .inr (tab_faults T.says H2), ?_⟩
    walk_at "rx"
    refine ⟨r, L, bs, _, i, _, rfl, r2, hb2, hl, by show (i : Int) < ((faults.map V.str).length : Int); rw [List.length_map]; show (i : Int) < 6; omega, fun H3 s3 r3 => ?_⟩
    refine ⟨_, _, _, _, rfl, rfl, tab_faults T.says H3, atI_nat (flt_at hi), ?_⟩
    walk_at "rx"
    refine iteS (fun e => ?_) (fun e => ?_)
    · have e3 : i = 3 := (flt_missing hi).mp e
      subst e3
      walk_at "rx"
      refine rd_m rfl r3 hd3 hz hl fun u H4 s4 r4 hv => ?_
      obtain rfl : u = .str z := hv
      walk_at "rx"
      refine ⟨le_line rfl, fun p hp => ?_⟩
      walk_at "rx"
      refine ⟨le_line rfl, fun p2 hp2 => ?_⟩
      refine q _ _ ((((s2.trans s3).trans s4).trans (Sx.of (same_new hp))).trans (Sx.of (same_new hp2))) (((r4.sx (same_new hp)).sx (same_new hp2)).to ?_) (Rp.tupOf upd_same (RpL.cons rfl (RpL.cons ?_ RpL.nil)))
      · show n + 1 + 1 + (wStr z).length = n + ((wStr z).length + 1 + 1)
        omega
      · exact Rp.ts (Tst.new hp2) (Rp.tupOf upd_same (RpL.cons rfl (RpL.cons rfl RpL.nil)))
    · have e3 : i ≠ 3 := fun c => e ((flt_missing hi).mpr c)
      walk_at "rx"
      refine ⟨le_line rfl, fun p hp => ?_⟩
      walk_at "rx"
      refine ⟨le_line rfl, fun p2 hp2 => ?_⟩
      refine q _ _ (((s2.trans s3).trans (Sx.of (same_new hp))).trans (Sx.of (same_new hp2))) (((r3.sx (same_new hp)).sx (same_new hp2)).to ?_) (Rp.tupOf upd_same (RpL.cons rfl (RpL.cons ?_ RpL.nil)))
      · rw [wFlt, if_neg e3]
        rfl
      · unfold dFlt
        rw [if_neg e3]
        exact Rp.ts (Tst.new hp2) (Rp.tupOf upd_same (RpL.cons rfl RpL.nil))
theorem bas_of {z : Str} (h : baseIx z < 3) : bases.getD (baseIx z) "" = z := by
  have := (base_at h).1
  rw [List.getD_eq_getElem?_getD, this]
  rfl
theorem ok_Reader_read_kind  (T : Txt K mg) : Mc P w K mg base CX0 (5) "Reader" "read_kind" ["self"] (spRd K wKind dKind okK) := by
  refine ⟨?_, me_Reader_read_kind T.says, (fd_Reader_read_kind T.says).bindsN fun _ _ _ _ _ _ us hl => match us, hl with | [_], _ => rfl, cl_Reader T.says⟩
  refine (fd_Reader_read_kind T.says).ok sc_Reader_read_kind (fun vs H Q E h => by first | (obtain ⟨_, rfl, _⟩ := h; rfl) | (obtain ⟨_, _, rfl, _⟩ := h; rfl) | (obtain ⟨_, _, _, rfl, _⟩ := h; rfl) | (obtain ⟨_, _, _, _, rfl, _⟩ := h; rfl) | (obtain ⟨_, _, _, _, _, rfl, _⟩ := h; rfl) | (obtain ⟨_, _, _, _, _, _, rfl, _⟩ := h; rfl) | (obtain ⟨_, _, _, _, _, _, _, rfl, _⟩ := h; rfl) | (obtain ⟨_, _, _, _, _, _, _, _, rfl, _⟩ := h; rfl) | (obtain ⟨_, _, _, _, _, _, _, _, _, rfl, _⟩ := h; rfl)) (fun cdv A outer s H vs Q E hr h => ?_)
  obtain ⟨r, L, bs, n, x, rest, rfl, hR, hd, hok, hl, q⟩ := h
  refine ⟨_, PSs.nox (pss_cons (ps_set (i := 1) sc_Reader_read_kind.nd rfl (Or.inl rfl) (pe_m0 (ok_Reader_read_number T) (hr.mono (by omega)) (pv 0)))
      (pss_cons (ps_set (i := 2) sc_Reader_read_kind.nd rfl (Or.inl rfl) (pe_m (ok_Reader_read_choice T) (hr.mono (by omega)) (pv 0) (pa_cons (pe_op op_add (pe_callB call_len_seq (by rfl) (n_len T) PySem.boot_len (pa_cons (pe_gr (gm_BASES T) (by rfl)) pa_nil)) pe_int) pa_nil)))
      (pss_cons (ps_if (pt_cmpR op_lt (pv 2) (pe_callB call_len_seq (by rfl) (n_len T) PySem.boot_len (pa_cons (pe_gr (gm_BASES T) (by rfl)) pa_nil)) (nomark _)) (pss_one (ps_ret (pe_tup (pa_cons (pv 1) (pa_cons (pe_ix ix_tup (pe_gr (gm_BASES T) (by rfl)) (pv 2) (fun _ _ => rfl)) pa_nil))))) pss_nil)
      (pss_cons (ps_set (i := 3) sc_Reader_read_kind.nd rfl (Or.inl rfl) (pe_m0 (ok_Reader_read_string T) (hr.mono (by omega)) (pv 0)))
      (pss_cons (ps_if (pt_cmpR op_in_seq (pv 3) (pe_gr (gm_BASES T) (by rfl)) rfl) (pss_one ps_never) pss_nil)
      (pss_one (ps_ret (pe_tup (pa_cons (pv 1) (pa_cons (pv 3) pa_nil)))))))))), ?_⟩
  walk_at "rx"
  have hd' : bs.drop n = wNum x.1 ++ ((if baseIx x.2 < 3 then [baseIx x.2] else 3 :: wStr x.2) ++ rest) := by
    rw [hd]
    unfold wKind
    split <;> simp
  refine rd_m rfl hR hd' hok.1 hl fun v H2 s2 r2 hv => ?_
  obtain rfl : v = .int x.1 := hv
  have hd2 := drop_app hd'
  walk_at "rx"
  refine ⟨.ref r, rfl, rd_no r2 (by decide +kernel) fun _ _ => ?_⟩
  walk_at "rx"
  refine ⟨_, _, rfl, .inr (tab_bases T.says H2), ?_⟩
  walk_at "rx"
  by_cases c : baseIx x.2 < 3
  · rw [if_pos c] at hd2
    obtain ⟨hb, _⟩ := drop_head (show bs.drop _ = baseIx x.2 :: rest from hd2)
    refine ⟨r, L, bs, _, baseIx x.2, _, rfl, r2, hb, hl, by show (baseIx x.2 : Int) < 4; omega, fun H3 s3 r3 => ?_⟩
    walk_at "rx"
    refine ⟨_, _, rfl, .inr (tab_bases T.says H3), ?_⟩
    walk_at "rx"
    refine ite_t (decide_eq_true (show (baseIx x.2 : Int) < 3 by omega)) ?_
    walk_at "rx"
    refine ⟨_, _, _, _, rfl, rfl, tab_bases T.says H3, atI_nat (bas_at c), ?_⟩
    walk_at "rx"
    rw [bas_of c]
    refine ⟨le_line rfl, fun p hp => ?_⟩
    refine q _ _ ((s2.trans s3).trans (Sx.of (same_new hp))) ((r3.sx (same_new hp)).to ?_) (Rp.tupOf upd_same (RpL.cons rfl (RpL.cons rfl RpL.nil)))
    unfold wKind
    rw [if_pos c, List.length_append, List.length_singleton]
    omega
  · rw [if_neg c] at hd2
    obtain ⟨hb, hd3⟩ := drop_head (show bs.drop _ = 3 :: (wStr x.2 ++ rest) from hd2)
    refine ⟨r, L, bs, _, 3, _, rfl, r2, hb, hl, by decide, fun H3 s3 r3 => ?_⟩
    walk_at "rx"
    refine ⟨_, _, rfl, .inr (tab_bases T.says H3), ?_⟩
    walk_at "rx"
    refine ite_f (by decide) ?_
    walk_at "rx"
    refine rd_m rfl r3 hd3 hok.2 hl fun v H4 s4 r4 hv => ?_
    obtain rfl : v = .str x.2 := hv
    walk_at "rx"
    refine ⟨_, _, rfl, .inr (tab_bases T.says H4), rfl, rfl, ?_⟩
    walk_at "rx"
    show if inV (.str x.2) (bases.map V.str) = true then _ else _
    rw [base_in]
    refine ite_f (decide_eq_false c) ?_
    walk_at "rx"
    refine ⟨le_line rfl, fun p hp => ?_⟩
    refine q _ _ (((s2.trans s3).trans s4).trans (Sx.of (same_new hp))) ((r4.sx (same_new hp)).to ?_) (Rp.tupOf upd_same (RpL.cons rfl (RpL.cons rfl RpL.nil)))
    unfold wKind
    rw [if_neg c, List.length_append, List.length_cons]
    omega
theorem wKind_pos' (k : Kind) : 0 < (wKind k).length := by
  have := wNum_pos' k.1
  unfold wKind
  split <;> (rw [List.length_append]; omega)
theorem wStr_pos' (z : Str) : 0 < (wStr z).length := by
  have := wNum_pos' z.cps.toList.length
  rw [wStr, wL, List.length_append]
  omega
theorem wMaker_pos' (k : Maker) : 0 < (wMaker k).length := by
  have := wStr_pos' k.1
  rw [wMaker, List.length_append]
  omega
theorem wData_pos' (k : DataT) : 0 < (wData k).length := by
  have := wStr_pos' k.1
  rw [wData, List.length_append]
  omega
theorem wCell_pos' (k : Cell) : 0 < (wCell k).length := by
  have := wStr_pos' k.1
  rw [wCell, List.length_append]
  omega
theorem ok_Reader_read_maker  (T : Txt K mg) : Mc P w K mg base CX0 (6) "Reader" "read_maker" ["self"] (spRd K wMaker dMaker okMa) := by
  refine ⟨?_, me_Reader_read_maker T.says, (fd_Reader_read_maker T.says).bindsN fun _ _ _ _ _ _ us hl => match us, hl with | [_], _ => rfl, cl_Reader T.says⟩
  refine (fd_Reader_read_maker T.says).ok sc_Reader_read_maker (fun vs H Q E h => by first | (obtain ⟨_, rfl, _⟩ := h; rfl) | (obtain ⟨_, _, rfl, _⟩ := h; rfl) | (obtain ⟨_, _, _, rfl, _⟩ := h; rfl) | (obtain ⟨_, _, _, _, rfl, _⟩ := h; rfl) | (obtain ⟨_, _, _, _, _, rfl, _⟩ := h; rfl) | (obtain ⟨_, _, _, _, _, _, rfl, _⟩ := h; rfl) | (obtain ⟨_, _, _, _, _, _, _, rfl, _⟩ := h; rfl) | (obtain ⟨_, _, _, _, _, _, _, _, rfl, _⟩ := h; rfl) | (obtain ⟨_, _, _, _, _, _, _, _, _, rfl, _⟩ := h; rfl)) (fun cdv A outer s H vs Q E hr h => ?_)
  obtain ⟨r, L, bs, n, x, rest, rfl, hR, hd, hok, hl, q⟩ := h
  unfold wMaker at hd
  rw [List.append_assoc] at hd
  refine ⟨_, PSs.nox (pss_cons (ps_set (i := 1) sc_Reader_read_maker.nd rfl (Or.inl rfl) (pe_m0 (ok_Reader_read_string T) (hr.mono (by omega)) (pv 0)))
      (pss_one (ps_ret (pe_tup (pa_cons (pv 1) (pa_cons (pe_callTy call_tuple_of (by rfl) (n_tuple T) (by decide +kernel) (pa_cons (pe_lc (own := [("_", 2)]) (g := gName 2) (tt := tYes) rfl sc_Reader_read_maker.nd (pi_range1 (by rfl) (n_range T) (pa_cons (pe_m0 (ok_Reader_read_count T) (hr.mono (by omega)) (pv 0)) pa_nil)) (blkOk_by (N := ["self", "maker", "_"]) (sc := defScope s_Reader_read_maker) (by decide +kernel)) (fun _ _ _ _ _ => (pg_name (i := 2) sc_Reader_read_maker.nd rfl (Or.inl rfl))) (fun _ _ _ _ _ => pts_nil) (fun _ _ _ _ _ => by (apply pe_cast (pe_m0 (ok_Reader_read_kind T) (hr.mono (by omega)) (pv 0))); (try dsimp only [L2.Cx.blk]) <;> exact rfl)) pa_nil)) pa_nil)))))), ?_⟩
  walk_at "rx"
  refine rd_m rfl hR hd hok.1 hl fun v H2 s2 r2 hv => ?_
  obtain rfl : v = .str x.1 := hv
  have hd2 := drop_app hd
  walk_at "rx"
  refine rd_lc (w := wKind) (d := dKind) (ok := okK) rfl r2 hd2 hok.2 wKind_pos' hl fun D ys H3 s3 r3 nD eD hys => ?_
  walk_at "rx"
  refine ⟨D, ys, rfl, .inl ⟨SqL.of eD, fun p hp => ?_⟩⟩
  walk_at "rx"
  refine ⟨le_line rfl, fun p2 hp2 => ?_⟩
  refine q _ _ (((s2.trans s3).trans (Sx.of (same_new hp))).trans (Sx.of (same_new hp2))) (((r3.sx (same_new hp)).sx (same_new hp2)).to ?_) (Rp.tupOf upd_same (RpL.cons rfl (RpL.cons (Rp.ts (Tst.new hp2) (Rp.tupOf upd_same (hys.ts (Tst.new hp)))) RpL.nil)))
  rw [wMaker, List.length_append]
  omega
theorem ok_Reader_read_makers  (T : Txt K mg) : Mc P w K mg base CX0 (7) "Reader" "read_makers" ["self"] (spRd K wData dData okDa) := by
  refine ⟨?_, me_Reader_read_makers T.says, (fd_Reader_read_makers T.says).bindsN fun _ _ _ _ _ _ us hl => match us, hl with | [_], _ => rfl, cl_Reader T.says⟩
  refine (fd_Reader_read_makers T.says).ok sc_Reader_read_makers (fun vs H Q E h => by first | (obtain ⟨_, rfl, _⟩ := h; rfl) | (obtain ⟨_, _, rfl, _⟩ := h; rfl) | (obtain ⟨_, _, _, rfl, _⟩ := h; rfl) | (obtain ⟨_, _, _, _, rfl, _⟩ := h; rfl) | (obtain ⟨_, _, _, _, _, rfl, _⟩ := h; rfl) | (obtain ⟨_, _, _, _, _, _, rfl, _⟩ := h; rfl) | (obtain ⟨_, _, _, _, _, _, _, rfl, _⟩ := h; rfl) | (obtain ⟨_, _, _, _, _, _, _, _, rfl, _⟩ := h; rfl) | (obtain ⟨_, _, _, _, _, _, _, _, _, rfl, _⟩ := h; rfl)) (fun cdv A outer s H vs Q E hr h => ?_)
  obtain ⟨r, L, bs, n, x, rest, rfl, hR, hd, hok, hl, q⟩ := h
  unfold wData at hd
  rw [List.append_assoc] at hd
  refine ⟨_, PSs.nox (pss_cons (ps_set (i := 1) sc_Reader_read_makers.nd rfl (Or.inl rfl) (pe_m0 (ok_Reader_read_string T) (hr.mono (by omega)) (pv 0)))
      (pss_one (ps_ret (pe_tup (pa_cons (pv 1) (pa_cons (pe_callTy call_tuple_of (by rfl) (n_tuple T) (by decide +kernel) (pa_cons (pe_lc (own := [("_", 2)]) (g := gName 2) (tt := tYes) rfl sc_Reader_read_makers.nd (pi_range1 (by rfl) (n_range T) (pa_cons (pe_m0 (ok_Reader_read_count T) (hr.mono (by omega)) (pv 0)) pa_nil)) (blkOk_by (N := ["self", "name", "_"]) (sc := defScope s_Reader_read_makers) (by decide +kernel)) (fun _ _ _ _ _ => (pg_name (i := 2) sc_Reader_read_makers.nd rfl (Or.inl rfl))) (fun _ _ _ _ _ => pts_nil) (fun _ _ _ _ _ => by (apply pe_cast (pe_m0 (ok_Reader_read_maker T) (hr.mono (by omega)) (pv 0))); (try dsimp only [L2.Cx.blk]) <;> exact rfl)) pa_nil)) pa_nil)))))), ?_⟩
  walk_at "rx"
  refine rd_m rfl hR hd hok.1 hl fun v H2 s2 r2 hv => ?_
  obtain rfl : v = .str x.1 := hv
  have hd2 := drop_app hd
  walk_at "rx"
  refine rd_lc (w := wMaker) (d := dMaker) (ok := okMa) rfl r2 hd2 hok.2 wMaker_pos' hl fun D ys H3 s3 r3 nD eD hys => ?_
  walk_at "rx"
  refine ⟨D, ys, rfl, .inl ⟨SqL.of eD, fun p hp => ?_⟩⟩
  walk_at "rx"
  refine ⟨le_line rfl, fun p2 hp2 => ?_⟩
  refine q _ _ (((s2.trans s3).trans (Sx.of (same_new hp))).trans (Sx.of (same_new hp2))) (((r3.sx (same_new hp)).sx (same_new hp2)).to ?_) (Rp.tupOf upd_same (RpL.cons rfl (RpL.cons (Rp.ts (Tst.new hp2) (Rp.tupOf upd_same (hys.ts (Tst.new hp)))) RpL.nil)))
  rw [wData, List.length_append]
  omega
theorem ok_Reader_read_shape  (T : Txt K mg) : Mc P w K mg base CX0 (8) "Reader" "read_shape" ["self"] (spRd K wShape dShape okSh) := by
  refine ⟨?_, me_Reader_read_shape T.says, (fd_Reader_read_shape T.says).bindsN fun _ _ _ _ _ _ us hl => match us, hl with | [_], _ => rfl, cl_Reader T.says⟩
  refine (fd_Reader_read_shape T.says).ok sc_Reader_read_shape (fun vs H Q E h => by first | (obtain ⟨_, rfl, _⟩ := h; rfl) | (obtain ⟨_, _, rfl, _⟩ := h; rfl) | (obtain ⟨_, _, _, rfl, _⟩ := h; rfl) | (obtain ⟨_, _, _, _, rfl, _⟩ := h; rfl) | (obtain ⟨_, _, _, _, _, rfl, _⟩ := h; rfl) | (obtain ⟨_, _, _, _, _, _, rfl, _⟩ := h; rfl) | (obtain ⟨_, _, _, _, _, _, _, rfl, _⟩ := h; rfl) | (obtain ⟨_, _, _, _, _, _, _, _, rfl, _⟩ := h; rfl) | (obtain ⟨_, _, _, _, _, _, _, _, _, rfl, _⟩ := h; rfl)) (fun cdv A outer s H vs Q E hr h => ?_)
  obtain ⟨r, L, bs, n, x, rest, rfl, hR, hd, hok, hl, q⟩ := h
  unfold wShape at hd
  rw [List.append_assoc] at hd
  refine ⟨_, PSs.nox (pss_cons (ps_set (i := 1) sc_Reader_read_shape.nd rfl (Or.inl rfl) (pe_m0 (ok_Reader_read_kind T) (hr.mono (by omega)) (pv 0)))
      (pss_one (ps_ret (pe_tup (pa_cons (pv 1) (pa_cons (pe_callTy call_tuple_of (by rfl) (n_tuple T) (by decide +kernel) (pa_cons (pe_lc (own := [("_", 2)]) (g := gName 2) (tt := tYes) rfl sc_Reader_read_shape.nd (pi_range1 (by rfl) (n_range T) (pa_cons (pe_m0 (ok_Reader_read_count T) (hr.mono (by omega)) (pv 0)) pa_nil)) (blkOk_by (N := ["self", "kind", "_"]) (sc := defScope s_Reader_read_shape) (by decide +kernel)) (fun _ _ _ _ _ => (pg_name (i := 2) sc_Reader_read_shape.nd rfl (Or.inl rfl))) (fun _ _ _ _ _ => pts_nil) (fun _ _ _ _ _ => by (apply pe_cast (pe_m0 (ok_Reader_read_makers T) (hr.mono (by omega)) (pv 0))); (try dsimp only [L2.Cx.blk]) <;> exact rfl)) pa_nil)) pa_nil)))))), ?_⟩
  walk_at "rx"
  refine rd_m rfl hR hd hok.1 hl fun v H2 s2 r2 hv => ?_
  have hd2 := drop_app hd
  walk_at "rx"
  refine rd_lc (w := wData) (d := dData) (ok := okDa) rfl r2 hd2 hok.2 wData_pos' hl fun D ys H3 s3 r3 nD eD hys => ?_
  walk_at "rx"
  refine ⟨D, ys, rfl, .inl ⟨SqL.of eD, fun p hp => ?_⟩⟩
  walk_at "rx"
  have hv2 := ((hv.ts (r2.tst s3)).ts (Tst.new (o := .tup ys) hp))
  refine ⟨le_line rfl, fun p2 hp2 => ?_⟩
  refine q _ _ (((s2.trans s3).trans (Sx.of (same_new hp))).trans (Sx.of (same_new hp2))) (((r3.sx (same_new hp)).sx (same_new hp2)).to ?_) (Rp.tupOf upd_same (RpL.cons (hv2.ts (Tst.new hp2)) (RpL.cons (Rp.ts (Tst.new hp2) (Rp.tupOf upd_same (hys.ts (Tst.new hp)))) RpL.nil)))
  rw [wShape, List.length_append]
  omega
theorem ok_Reader_read_cell  (T : Txt K mg) : Mc P w K mg base CX0 (87) "Reader" "read_cell" ["self"] (spRd K wCell dCell okC) := by
  refine ⟨?_, me_Reader_read_cell T.says, (fd_Reader_read_cell T.says).bindsN fun _ _ _ _ _ _ us hl => match us, hl with | [_], _ => rfl, cl_Reader T.says⟩
  refine (fd_Reader_read_cell T.says).ok sc_Reader_read_cell (fun vs H Q E h => by first | (obtain ⟨_, rfl, _⟩ := h; rfl) | (obtain ⟨_, _, rfl, _⟩ := h; rfl) | (obtain ⟨_, _, _, rfl, _⟩ := h; rfl) | (obtain ⟨_, _, _, _, rfl, _⟩ := h; rfl) | (obtain ⟨_, _, _, _, _, rfl, _⟩ := h; rfl) | (obtain ⟨_, _, _, _, _, _, rfl, _⟩ := h; rfl) | (obtain ⟨_, _, _, _, _, _, _, rfl, _⟩ := h; rfl) | (obtain ⟨_, _, _, _, _, _, _, _, rfl, _⟩ := h; rfl) | (obtain ⟨_, _, _, _, _, _, _, _, _, rfl, _⟩ := h; rfl)) (fun cdv A outer s H vs Q E hr h => ?_)
  obtain ⟨r, L, bs, n, x, rest, rfl, hR, hd, hok, hl, q⟩ := h
  unfold wCell at hd
  rw [List.append_assoc, List.append_assoc] at hd
  refine ⟨_, PSs.nox (pss_cons (ps_set (i := 1) sc_Reader_read_cell.nd rfl (Or.inl rfl) (pe_m0 (ok_Reader_read_string T) (hr.mono (by omega)) (pv 0)))
      (pss_cons (ps_set (i := 2) sc_Reader_read_cell.nd rfl (Or.inl rfl) (pe_m0 (ok_Reader_read_shape T) (hr.mono (by omega)) (pv 0)))
      (pss_one (ps_ret (pe_tup (pa_cons (pv 1) (pa_cons (pv 2) (pa_cons (pe_m0 (ok_Reader_read_outcome T) (hr.mono (by omega)) (pv 0)) pa_nil)))))))), ?_⟩
  walk_at "rx"
  refine rd_m rfl hR hd hok.1 hl fun v H2 s2 r2 hv => ?_
  obtain rfl : v = .str x.1 := hv
  have hd2 := drop_app hd
  walk_at "rx"
  refine rd_m rfl r2 hd2 hok.2.1 hl fun v1 H3 s3 r3 hv1 => ?_
  have hd3 := drop_app hd2
  walk_at "rx"
  refine rd_m rfl r3 hd3 hok.2.2 hl fun v2 H4 s4 r4 hv2 => ?_
  walk_at "rx"
  refine ⟨le_line rfl, fun p hp => ?_⟩
  refine q _ _ (((s2.trans s3).trans s4).trans (Sx.of (same_new hp))) ((r4.sx (same_new hp)).to ?_) (Rp.tupOf upd_same (RpL.cons rfl (RpL.cons ((hv1.ts (r3.tst s4)).ts (Tst.new hp)) (RpL.cons (hv2.ts (Tst.new hp)) RpL.nil))))
  simp only [wCell, List.length_append]
  omega
theorem ok_Reader_read_cells  (T : Txt K mg) : Mc P w K mg base CX0 (88) "Reader" "read_cells" ["self"] (spRdL K wCell dCell okC) := by
  refine ⟨?_, me_Reader_read_cells T.says, (fd_Reader_read_cells T.says).bindsN fun _ _ _ _ _ _ us hl => match us, hl with | [_], _ => rfl, cl_Reader T.says⟩
  refine (fd_Reader_read_cells T.says).ok sc_Reader_read_cells (fun vs H Q E h => by first | (obtain ⟨_, rfl, _⟩ := h; rfl) | (obtain ⟨_, _, rfl, _⟩ := h; rfl) | (obtain ⟨_, _, _, rfl, _⟩ := h; rfl) | (obtain ⟨_, _, _, _, rfl, _⟩ := h; rfl) | (obtain ⟨_, _, _, _, _, rfl, _⟩ := h; rfl) | (obtain ⟨_, _, _, _, _, _, rfl, _⟩ := h; rfl) | (obtain ⟨_, _, _, _, _, _, _, rfl, _⟩ := h; rfl) | (obtain ⟨_, _, _, _, _, _, _, _, rfl, _⟩ := h; rfl) | (obtain ⟨_, _, _, _, _, _, _, _, _, rfl, _⟩ := h; rfl)) (fun cdv A outer s H vs Q E hr h => ?_)
  obtain ⟨r, L, bs, n, xs, rest, rfl, hR, hd, hok, hl, q⟩ := h
  refine ⟨_, PSs.nox (pss_one (ps_ret (pe_lc (own := [("_", 1)]) (g := gName 1) (tt := tYes) rfl sc_Reader_read_cells.nd (pi_range1 (by rfl) (n_range T) (pa_cons (pe_m0 (ok_Reader_read_count T) (hr.mono (by omega)) (pv 0)) pa_nil)) (blkOk_by (N := ["self", "_"]) (sc := defScope s_Reader_read_cells) (by decide +kernel)) (fun _ _ _ _ _ => (pg_name (i := 1) sc_Reader_read_cells.nd rfl (Or.inl rfl))) (fun _ _ _ _ _ => pts_nil) (fun _ _ _ _ _ => by (apply pe_cast (pe_m0 (ok_Reader_read_cell T) (hr.mono (by omega)) (pv 0))); (try dsimp only [L2.Cx.blk]) <;> exact rfl)))), ?_⟩
  walk_at "rx"
  exact rd_lc (w := wCell) (d := dCell) (ok := okC) rfl hR hd hok wCell_pos' hl q
/-- the two lists of a group -/
def spRG (K : PySem.W.Frag) : Sp := fun vs H Q _ => ∃ r L bs n, ∃ ts : List Trip, ∃ cs : List Cell, ∃ rest, vs = [.ref r] ∧ RdAt K H r L bs n ∧ bs.drop n = wGroup ts cs ++ rest ∧ (∀ x ∈ ts, okT x) ∧ (∀ x ∈ cs, okC x) ∧ bs.length ≤ cap ∧
  ∀ p D1 D2 ys1 ys2 H', Sx r H H' → RdAt K H' r L bs (n + (wGroup ts cs).length) → H' p = some (.tup [.ref D1, .ref D2]) → H' D1 = some (.lst ys1) → H' D2 = some (.lst ys2) → RpL H' (ts.map dTrip) ys1 → RpL H' (cs.map dCell) ys2 → Q (.ref p) H'
/-- self.m(), a list -/
theorem rd_mL {α : Type} {w : α → List Nat} {d : α → D} {ok : α → Prop} {m : Str} {r L : Addr} {bs : List Nat} {n j : Nat} {xs : List α} {rest : List Nat} {σ : L2.St} {H : Hp} {Qv : VK} {E : XK}
    (hσ : σ[j]? = some (some (.ref r))) (hR : RdAt K H r L bs n) (hd : bs.drop n = wL w xs ++ rest) (hok : ∀ x ∈ xs, ok x) (hl : bs.length ≤ cap)
    (q : ∀ D ys H', Sx r H H' → RdAt K H' r L bs (n + (wL w xs).length) → H D = none → H' D = some (.lst ys) → RpL H' (xs.map d) ys → Qv (.ref D) H') (hm : ((m == "data") || (m == "at")) = false := by decide +kernel) : tMeth (cR K) m (spRdL K w d ok) [] E (tVar j) tNil σ H Qv :=
  ⟨.ref r, hσ, rd_no hR hm fun _ _ => ⟨r, L, bs, n, xs, rest, rfl, hR, hd, hok, hl, q⟩⟩
theorem ok_Reader_read_group  (T : Txt K mg) : Mc P w K mg base CX0 (89) "Reader" "read_group" ["self"] (spRG K) := by
  refine ⟨?_, me_Reader_read_group T.says, (fd_Reader_read_group T.says).bindsN fun _ _ _ _ _ _ us hl => match us, hl with | [_], _ => rfl, cl_Reader T.says⟩
  refine (fd_Reader_read_group T.says).ok sc_Reader_read_group (fun vs H Q E h => by first | (obtain ⟨_, rfl, _⟩ := h; rfl) | (obtain ⟨_, _, rfl, _⟩ := h; rfl) | (obtain ⟨_, _, _, rfl, _⟩ := h; rfl) | (obtain ⟨_, _, _, _, rfl, _⟩ := h; rfl) | (obtain ⟨_, _, _, _, _, rfl, _⟩ := h; rfl) | (obtain ⟨_, _, _, _, _, _, rfl, _⟩ := h; rfl) | (obtain ⟨_, _, _, _, _, _, _, rfl, _⟩ := h; rfl) | (obtain ⟨_, _, _, _, _, _, _, _, rfl, _⟩ := h; rfl) | (obtain ⟨_, _, _, _, _, _, _, _, _, rfl, _⟩ := h; rfl)) (fun cdv A outer s H vs Q E hr h => ?_)
  obtain ⟨r, L, bs, n, ts, cs, rest, rfl, hR, hd, hok1, hok2, hl, q⟩ := h
  unfold wGroup at hd
  rw [List.append_assoc] at hd
  refine ⟨_, PSs.nox (pss_cons (ps_set (i := 1) sc_Reader_read_group.nd rfl (Or.inl rfl) (pe_m0 (ok_Reader_read_triples T) (hr.mono (by omega)) (pv 0)))
      (pss_one (ps_ret (pe_tup (pa_cons (pv 1) (pa_cons (pe_m0 (ok_Reader_read_cells T) (hr.mono (by omega)) (pv 0)) pa_nil)))))), ?_⟩
  walk_at "rx"
  refine rd_mL rfl hR hd hok1 hl fun D1 ys1 H2 s2 r2 n1 e1 h1 => ?_
  have hd2 := drop_app hd
  walk_at "rx"
  refine rd_mL rfl r2 hd2 hok2 hl fun D2 ys2 H3 s3 r3 n2 e2 h2 => ?_
  walk_at "rx"
  refine ⟨le_line rfl, fun p hp => ?_⟩
  have s4 := same_new (o := .tup [.ref D1, .ref D2]) hp
  refine q p D1 D2 ys1 ys2 _ ((s2.trans s3).trans (Sx.of s4)) ((r3.sx s4).to ?_) upd_same (s4 _ _ (s3 _ _ (r2.ne e1) e1)) (s4 _ _ e2) ((h1.ts (r2.tst s3)).ts (Tst.new hp)) (h2.ts (Tst.new hp))
  rw [wGroup, List.length_append]
  omega
end
end Q

/-! ## R7 -/
set_option Elab.async false
set_option linter.all false
set_option maxRecDepth 100000
set_option maxHeartbeats 4000000
namespace Q
open PySem PySem.Spec PyProof.Rows L2
local macro_rules | `(tactic| walk_at "rd") => `(tactic| repeat (first
  | ((with_reducible apply r_var); focus exact rfl)
  | with_reducible refine r_c ?_
  | with_reducible refine r_chain ?_
  | ((with_reducible apply r_aug); focus exact rfl)
  | with_reducible refine r_ip ?_
  | with_reducible refine r_op ?_
  | with_reducible refine r_I0 ?_
  | with_reducible refine r_cons ?_
  | with_reducible refine r_nil ?_
  | with_reducible refine r_seq ?_
  | with_reducible refine r_asg ?_
  | with_reducible refine r_gn ?_
  | with_reducible refine r_gcons ?_
  | with_reducible refine r_gnil ?_
  | with_reducible refine r_lc ?_
  | with_reducible refine r_m1 ?_
  | with_reducible refine r_sfld ?_
  | with_reducible refine r_sfa ?_
  | with_reducible refine r_rAdd ?_
  | with_reducible refine r_ret ?_
  | with_reducible refine r_ifS ?_
  | with_reducible refine r_test ?_
  | with_reducible refine r_bl ?_
  | with_reducible refine r_B ?_
  | with_reducible refine r_drop ?_
  | with_reducible refine r_bm ?_
  | with_reducible refine r_CB ?_
  | with_reducible refine r_call ?_
  | with_reducible refine r_meth ?_
  | with_reducible refine r_make ?_
  | with_reducible refine r_tup ?_
  | with_reducible refine r_lst ?_
  | ((with_reducible refine r_I ?_ ?_); focus (first | decide | exact ⟨by decide, by decide⟩ | exact .inl ⟨by decide, by decide⟩ | exact .inr ⟨by decide, by decide⟩ | omega))
  | with_reducible refine r_U ?_
  | with_reducible refine r_un ?_
  | with_reducible refine r_and ?_
  | with_reducible refine r_or ?_
  | with_reducible refine r_not ?_
  | with_reducible refine r_andV ?_
  | with_reducible refine r_orV ?_
  | with_reducible refine r_notV ?_
  | with_reducible refine r_if ?_
  | with_reducible refine r_sl ?_
  | with_reducible refine r_part ?_
  | with_reducible refine r_parti ?_
  | with_reducible refine r_nopart ?_
  | with_reducible refine r_il ?_
  | with_reducible refine r_it ?_
  | with_reducible refine r_ir ?_
  | with_reducible refine r_is ?_
  | with_reducible refine r_next ?_
  | with_reducible refine r_retN ?_
  | ((with_reducible refine r_eq ?_ ?_); focus exact rfl)
  | ((with_reducible refine r_ne ?_ ?_); focus exact rfl)))
local macro_rules | `(tactic| walk_at "rx") => `(tactic| repeat (first
  | ((with_reducible apply r_var); focus exact rfl)
  | with_reducible refine r_c ?_
  | with_reducible refine r_chain ?_
  | ((with_reducible apply r_aug); focus exact rfl)
  | with_reducible refine r_ip ?_
  | with_reducible refine r_op ?_
  | with_reducible refine r_I0 ?_
  | with_reducible refine r_cons ?_
  | with_reducible refine r_nil ?_
  | with_reducible refine r_seq ?_
  | with_reducible refine r_asg ?_
  | with_reducible refine r_gn ?_
  | with_reducible refine r_gcons ?_
  | with_reducible refine r_gnil ?_
  | with_reducible refine r_m1 ?_
  | with_reducible refine r_sfld ?_
  | with_reducible refine r_sfa ?_
  | with_reducible refine r_rAdd ?_
  | with_reducible refine r_ret ?_
  | with_reducible refine r_ifS ?_
  | with_reducible refine r_test ?_
  | with_reducible refine r_bl ?_
  | with_reducible refine r_B ?_
  | with_reducible refine r_drop ?_
  | with_reducible refine r_bm ?_
  | with_reducible refine r_CB ?_
  | with_reducible refine r_call ?_
  | with_reducible refine r_make ?_
  | with_reducible refine r_tup ?_
  | with_reducible refine r_lst ?_
  | ((with_reducible refine r_I ?_ ?_); focus (first | decide | exact ⟨by decide, by decide⟩ | exact .inl ⟨by decide, by decide⟩ | exact .inr ⟨by decide, by decide⟩ | omega))
  | with_reducible refine r_U ?_
  | with_reducible refine r_un ?_
  | with_reducible refine r_and ?_
  | with_reducible refine r_or ?_
  | with_reducible refine r_not ?_
  | with_reducible refine r_andV ?_
  | with_reducible refine r_orV ?_
  | with_reducible refine r_notV ?_
  | with_reducible refine r_if ?_
  | with_reducible refine r_sl ?_
  | with_reducible refine r_part ?_
  | with_reducible refine r_parti ?_
  | with_reducible refine r_nopart ?_
  | with_reducible refine r_il ?_
  | with_reducible refine r_it ?_
  | with_reducible refine r_ir ?_
  | with_reducible refine r_is ?_
  | with_reducible refine r_next ?_
  | with_reducible refine r_retN ?_
  | ((with_reducible refine r_eq ?_ ?_); focus exact rfl)
  | ((with_reducible refine r_ne ?_ ?_); focus exact rfl)))
section
variable {P : Program} {w : World} {K : PySem.W.Frag} {mg : Str → Option Value} {base : Heap}
/-! ### what is raised -/
theorem FnOk.orX {P : Program} {w : World} {K : PySem.W.Frag} {mg : Str → Option Value} {base : Heap} {k : Nat} {f : Addr} {fd : FuncData} {ps : List Str} {sp1 sp2 : Sp} (F : FnOk P w K mg base CX0 k f fd ps sp1) (G : FnOk P w K mg base (L2.CX P w) k f fd ps sp2) :
    FnOk P w K mg base (L2.CX P w) k f fd ps (fun vs H Q E => sp1 vs H Q E ∨ sp2 vs H Q E) :=
  ⟨fun vs H Q E h => h.elim (F.len vs H Q E) (G.len vs H Q E), fun A outer s H args us vs Q E hr he hb hv hs => hs.elim
    (fun h => codeAny_mono (F.run A outer s H args us vs Q E hr he hb hv h) fun r s' q => by
      match r, q with
      | .ok (.ret u), q => exact q
      | .error e, q => exact q.elim)
    (G.run A outer s H args us vs Q E hr he hb hv)⟩
theorem Mc.orX {k : Nat} {C m : Str} {ps : List Str} {sp1 sp2 : Sp} (F : Mc P w K mg base CX0 k C m ps sp1) (G : Mc P w K mg base (L2.CX P w) k C m ps sp2) : Mc P w K mg base (L2.CX P w) k C m ps (fun vs H Q E => sp1 vs H Q E ∨ sp2 vs H Q E) :=
  ⟨FnOk.orX F.ok G.ok, F.me, F.b, F.cl⟩
/-- o.m(..) where it may raise -/
def tMethS (C : Addr) (m : Str) (sp : Sp) (E : L2.St → XK) (ta : TE) (t : TA) : TE := fun σ H Q => ta σ H fun x H1 => ∃ a dx fs, x = .ref a ∧ H1 a = some (.ins C dx fs) ∧ fs.lookup m = none ∧ t σ H1 fun vs H2 => sp (x :: vs) H2 Q (E σ)
theorem pe_mX0 {X : Cx} {W : WX} {k : Nat} {C m : Str} {ps : List Str} {sp : Sp} {o : Expr} {ta : TE} {pos apos : Pos} {pl : Sem Bool} (tk : Takes X W) (c : Mc P w K mg base (L2.CX P w) k C m ps sp) (hr : Room k X.A) (he : PE X o ta)
    (hX : X.prog = P ∧ X.w = w ∧ X.K = K ∧ X.mg = mg ∧ X.base = base := by exact ⟨rfl, rfl, rfl, rfl, rfl⟩)
    (ht : eval (.Call (.Attribute o m apos) [] [] pos) X.env = (do
      let ov ← eval o X.env
      standAt apos.atName
      let (f, first) ← holding [ov] (getMethod ov m pl)
      callWith pos f first (backTo pos (starEach [] X.env)) (backToKw pos (keywordEach [] X.env))) := by rfl) :
    PE X (.Call (.Attribute o m apos) [] [] pos) (tMethS (He.ga K C) m sp (WE W) ta tNil) := by
  obtain ⟨rfl, rfl, rfl, rfl, rfl⟩ := hX
  refine ⟨fun pins s σ H Q I h => ?_⟩
  refine PySem.W.methodCall_KW (pl := pl) (thn (he.run pins s σ H _ I h) fun u s1 ⟨x, H1, I1, rx, a, dx, fs, ex, ea, l, q⟩ => ?_) ht
  subst ex
  obtain rfl : u = Value.ref a := rx
  refine getmeth_ok I1 ea c.cl c.me l ?_
  exact PySem.W.callWith_K0 (first := [.ref a]) I1.kIn c.me.kp (run_fnS (us := [.ref a]) (vs := [.ref a]) c.ok hr c.b (passAt tk σ) I1 (.cons rfl .nil) q)
theorem r_mS {σ : L2.St} {H : Hp} {Qv : VK} {ta : TE} {tr : TA} {sp : Sp} {E : L2.St → XK} {C : Addr} {m : Str} (h : ta σ H fun x H1 => ∃ a dx fs, x = .ref a ∧ H1 a = some (.ins C dx fs) ∧ fs.lookup m = none ∧ tr σ H1 fun vs H2 => sp (x :: vs) H2 Qv (E σ)) : tMethS C m sp E ta tr σ H Qv := h
/-- the next byte, where there is none -/
def spByteX (K : PySem.W.Frag) : Sp := fun vs H _ E => ∃ r L bs n, vs = [.ref r] ∧ RdAt K H r L bs n ∧ bs.length ≤ n ∧ E (.ref (cX K)) none H
theorem ok_Reader_read_byteX  (T : Txt K mg) : Mc P w K mg base (L2.CX P w) (1) "Reader" "read_byte" ["self"] (spByteX K) := by
  refine ⟨?_, me_Reader_read_byte T.says, (fd_Reader_read_byte T.says).bindsN fun _ _ _ _ _ _ us hl => match us, hl with | [_], _ => rfl, cl_Reader T.says⟩
  refine (fd_Reader_read_byte T.says).ok sc_Reader_read_byte (fun vs H Q E h => by first | (obtain ⟨_, rfl, _⟩ := h; rfl) | (obtain ⟨_, _, rfl, _⟩ := h; rfl) | (obtain ⟨_, _, _, rfl, _⟩ := h; rfl) | (obtain ⟨_, _, _, _, rfl, _⟩ := h; rfl) | (obtain ⟨_, _, _, _, _, rfl, _⟩ := h; rfl) | (obtain ⟨_, _, _, _, _, _, rfl, _⟩ := h; rfl) | (obtain ⟨_, _, _, _, _, _, _, rfl, _⟩ := h; rfl) | (obtain ⟨_, _, _, _, _, _, _, _, rfl, _⟩ := h; rfl) | (obtain ⟨_, _, _, _, _, _, _, _, _, rfl, _⟩ := h; rfl)) (fun cdv A outer s H vs Q E hr h => ?_)
  obtain ⟨r, L, bs, n, rfl, ⟨dx, hr1, hL⟩, hn, q⟩ := h
  refine ⟨_, (pss_cons (ps_if (pt_cmpR op_ge (pe_fld (pv 0) rfl) (pe_callB call_len_seq (by rfl) (n_len T) PySem.boot_len (pa_cons (pe_fld (pv 0) rfl) pa_nil)) (nomark _)) (pss_one (ps_raise rfl (takes_of rfl rfl rfl rfl) (pmk_own PySem.F.excBase_ValueError (xc_DamagedPacket T.says).1 (gm_DamagedPacket T) (xc_DamagedPacket T.says).2.1 (raises_own (xc_DamagedPacket T.says).2.2.1 (xc_DamagedPacket T.says).2.2.2) (by rfl)))) pss_nil)
      (pss_cons (ps_fldaug (pv 0) pe_int in_add)
      (pss_one (ps_ret (pe_ix ix_list (pe_fld (pv 0) rfl) (pe_op op_sub (pe_fld (pv 0) rfl) pe_int) (fun _ _ => rfl)))))), ?_⟩
  walk_at "rx"
  refine r_fAt T.says rfl hr1 ?_
  walk_at "rx"
  refine r_fData T.says rfl hr1 ?_
  walk_at "rx"
  refine ⟨L, _, rfl, .inl (SqL.of hL), ?_⟩
  walk_at "rx"
  rw [List.length_map]
  refine ite_t (by simpa using hn) ?_
  exact q
abbrev spByteB (K : PySem.W.Frag) : Sp := fun vs H Q E => spByte K vs H Q E ∨ spByteX K vs H Q E
theorem ok_byteB (T : Txt K mg) : Mc P w K mg base (L2.CX P w) 1 "Reader" "read_byte" ["self"] (spByteB K) := (ok_Reader_read_byte T).orX (ok_Reader_read_byteX T)
/-- there are more bytes -/
def spEndX (K : PySem.W.Frag) : Sp := fun vs H _ E => ∃ r L bs n, vs = [.ref r] ∧ RdAt K H r L bs n ∧ n < bs.length ∧ E (.ref (cX K)) none H
theorem ok_Reader_endX  (T : Txt K mg) : Mc P w K mg base (L2.CX P w) (1) "Reader" "end" ["self"] (spEndX K) := by
  refine ⟨?_, me_Reader_end T.says, (fd_Reader_end T.says).bindsN fun _ _ _ _ _ _ us hl => match us, hl with | [_], _ => rfl, cl_Reader T.says⟩
  refine (fd_Reader_end T.says).ok sc_Reader_end (fun vs H Q E h => by first | (obtain ⟨_, rfl, _⟩ := h; rfl) | (obtain ⟨_, _, rfl, _⟩ := h; rfl) | (obtain ⟨_, _, _, rfl, _⟩ := h; rfl) | (obtain ⟨_, _, _, _, rfl, _⟩ := h; rfl) | (obtain ⟨_, _, _, _, _, rfl, _⟩ := h; rfl) | (obtain ⟨_, _, _, _, _, _, rfl, _⟩ := h; rfl) | (obtain ⟨_, _, _, _, _, _, _, rfl, _⟩ := h; rfl) | (obtain ⟨_, _, _, _, _, _, _, _, rfl, _⟩ := h; rfl) | (obtain ⟨_, _, _, _, _, _, _, _, _, rfl, _⟩ := h; rfl)) (fun cdv A outer s H vs Q E hr h => ?_)
  obtain ⟨r, L, bs, n, rfl, ⟨dx, hr1, hL⟩, hn, q⟩ := h
  refine ⟨_, (pss_one (ps_if (pt_cmpR op_lt (pe_fld (pv 0) rfl) (pe_callB call_len_seq (by rfl) (n_len T) PySem.boot_len (pa_cons (pe_fld (pv 0) rfl) pa_nil)) (nomark _)) (pss_one (ps_raise rfl (takes_of rfl rfl rfl rfl) (pmk_own PySem.F.excBase_ValueError (xc_DamagedPacket T.says).1 (gm_DamagedPacket T) (xc_DamagedPacket T.says).2.1 (raises_own (xc_DamagedPacket T.says).2.2.1 (xc_DamagedPacket T.says).2.2.2) (by rfl)))) pss_nil)), ?_⟩
  walk_at "rx"
  refine r_fAt T.says rfl hr1 ?_
  walk_at "rx"
  refine r_fData T.says rfl hr1 ?_
  walk_at "rx"
  refine ⟨L, _, rfl, .inl (SqL.of hL), ?_⟩
  walk_at "rx"
  rw [List.length_map]
  refine ite_t (by simpa using hn) ?_
  exact q
abbrev spEndB (K : PySem.W.Frag) : Sp := fun vs H Q E => spEnd K vs H Q E ∨ spEndX K vs H Q E
theorem ok_endB (T : Txt K mg) : Mc P w K mg base (L2.CX P w) 1 "Reader" "end" ["self"] (spEndB K) := (ok_Reader_end T).orX (ok_Reader_endX T)
/-- a number that is cut off -/
def spNumX (K : PySem.W.Frag) : Sp := fun vs H _ E => ∃ r L bs n x t, vs = [.ref r] ∧ RdAt K H r L bs n ∧ bs.drop n ++ t = wNum x ∧ 0 < t.length ∧ okN x ∧ n ≤ bs.length ∧ bs.length ≤ cap ∧ ∀ H', Sx r H H' → E (.ref (cX K)) none H'
theorem ok_Reader_read_numberX  (T : Txt K mg) : Mc P w K mg base (L2.CX P w) (2) "Reader" "read_number" ["self"] (spNumX K) := by
  refine ⟨?_, me_Reader_read_number T.says, (fd_Reader_read_number T.says).bindsN fun _ _ _ _ _ _ us hl => match us, hl with | [_], _ => rfl, cl_Reader T.says⟩
  refine (fd_Reader_read_number T.says).ok sc_Reader_read_number (fun vs H Q E h => by first | (obtain ⟨_, rfl, _⟩ := h; rfl) | (obtain ⟨_, _, rfl, _⟩ := h; rfl) | (obtain ⟨_, _, _, rfl, _⟩ := h; rfl) | (obtain ⟨_, _, _, _, rfl, _⟩ := h; rfl) | (obtain ⟨_, _, _, _, _, rfl, _⟩ := h; rfl) | (obtain ⟨_, _, _, _, _, _, rfl, _⟩ := h; rfl) | (obtain ⟨_, _, _, _, _, _, _, rfl, _⟩ := h; rfl) | (obtain ⟨_, _, _, _, _, _, _, _, rfl, _⟩ := h; rfl) | (obtain ⟨_, _, _, _, _, _, _, _, _, rfl, _⟩ := h; rfl)) (fun cdv A outer s H vs Q E hr h => ?_)
  obtain ⟨r, L, bs, n, x, t, rfl, hR, hd, ht, hok, hnl, hl, q⟩ := h
  refine ⟨_, (pss_cons (ps_set (i := 1) sc_Reader_read_number.nd rfl (Or.inl rfl) pe_int)
      (pss_cons (ps_set (i := 2) sc_Reader_read_number.nd rfl (Or.inl rfl) pe_int)
      (pss_cons (ps_for (passes_of rfl) rfl (pi_range1 (by rfl) (n_range T) (pa_cons (pe_gi (gi_NUMBER_BYTES T) (by rfl)) pa_nil)) (pg_name (i := 3) sc_Reader_read_number.nd rfl (Or.inl rfl)) (pss_cons (ps_set (i := 4) sc_Reader_read_number.nd rfl (Or.inl rfl) (pe_mX0 (takes_of rfl rfl rfl rfl) (ok_byteB T) (hr.mono (by omega)) (pv 0)))
      (pss_cons (ps_aug (i := 1) sc_Reader_read_number.nd rfl (Or.inl rfl) (pe_op op_mul (pe_op op_mod (pv 4) pe_int) (pv 2)) ip_add)
      (pss_cons (ps_if (pt_cmpR op_lt (pv 4) pe_int (nomark _)) (pss_cons (ps_if (PW.pt (pw_and (pt_cmpR op_eq (pv 4) pe_int (nomark _)) (pw_and1 (pt_cmpR op_gt (pv 3) pe_int (nomark _))))) (pss_one (ps_raise rfl (takes_of rfl rfl rfl rfl) (pmk_own PySem.F.excBase_ValueError (xc_DamagedPacket T.says).1 (gm_DamagedPacket T) (xc_DamagedPacket T.says).2.1 (raises_own (xc_DamagedPacket T.says).2.2.1 (xc_DamagedPacket T.says).2.2.2) (by rfl)))) pss_nil)
      (pss_one (ps_ret (pv 1)))) pss_nil)
      (pss_one (ps_set (i := 2) sc_Reader_read_number.nd rfl (Or.inl rfl) (pe_op op_mul (pv 2) pe_int)))))))
      (pss_one (ps_raise rfl (takes_of rfl rfl rfl rfl) (pmk_own PySem.F.excBase_ValueError (xc_DamagedPacket T.says).1 (gm_DamagedPacket T) (xc_DamagedPacket T.says).2.1 (raises_own (xc_DamagedPacket T.says).2.2.1 (xc_DamagedPacket T.says).2.2.2) (by rfl))))))), ?_⟩
  walk_at "rx"
  refine ⟨60, rfl, by decide, by decide, for_any (xs := upto 60) (Wk.rng (I := fun _ => True)) (fun i σ H' => ∃ (t0 f y : Nat) (v3 v4 : Option V), σ = [some (.ref r), some (.int t0), some (.int f), v3, v4] ∧ Sx r H H' ∧ RdAt K H' r L bs (n + i) ∧ n + i ≤ bs.length ∧ bs.drop (n + i) ++ t = wNum y ∧ i + (wNum y).length = (wNum x).length) (fun i σ H' _ => trivial)
    ⟨0, 1, x, none, none, rfl, Sx.refl r H, hR, hnl, hd, by omega⟩ ?_ ?_⟩
  · rintro i z σ H' hi ⟨t0, f, y, v3, v4, rfl, s, rr, hnl2, hd2, hly⟩
    obtain ⟨i', hi', e⟩ := getElem_map_some hi
    have ei : i' = i := by
      have h60 : i < 60 := by
        have z := (List.getElem?_eq_some_iff.mp hi).1
        rw [upto_len] at z
        exact z
      rw [List.getElem?_range h60] at hi'
      exact (Option.some.inj hi').symm
    subst ei
    obtain rfl : z = .int (i' : Int) := e
    walk_at "rx"
    refine r_mS ⟨.ref r, rfl, rd_no rr (by decide +kernel) fun _ _ => ?_⟩
    walk_at "rx"
    by_cases hend : bs.length ≤ n + i'
    · exact .inr ⟨r, L, bs, _, rfl, rr, hend, q _ s⟩
    · have hlt : n + i' < bs.length := by omega
      have hdr : bs.drop (n + i') = bs[n + i'] :: bs.drop (n + i' + 1) := (List.getElem_cons_drop hlt).symm
      have c : ¬ y < 128 := by
        intro c
        rw [wNum_lt c, hdr, List.cons_append] at hd2
        have h1 := congrArg List.length hd2
        simp only [List.length_cons, List.length_append, List.length_nil] at h1
        omega
      rw [wNum_ge c, hdr, List.cons_append] at hd2
      rw [wNum_ge c, List.length_cons] at hly
      obtain ⟨hb, hd3⟩ := List.cons.inj hd2
      refine .inl ⟨r, L, bs, n + i', _, rfl, rr, List.getElem?_eq_getElem hlt, hl, fun H2 s2 r2 => ?_⟩
      rw [hb]
      walk_at "rx"
      refine r_I (.inl ⟨by omega, by omega⟩) ?_
      walk_at "rx"
      refine ite_f (decide_eq_false (by omega)) ?_
      walk_at "rx"
      refine ⟨t0 + y % 128 * f, f * 128, y / 128, some (.int (i' : Int)), some (.int ((y % 128 + 128 : Nat) : Int)), ?_, s.trans s2, r2, by omega, hd3, by omega⟩
      have e2 : ((t0 : Int) + ((y % 128 + 128 : Nat) : Int) % 128 * (f : Int)) = ((t0 + y % 128 * f : Nat) : Int) := by
        have e3 : ((y % 128 + 128 : Nat) : Int) % 128 = ((y % 128 : Nat) : Int) := by omega
        rw [e3, Int.natCast_add, Int.natCast_mul]
      rw [e2]
      rfl
  · rintro σ H' ⟨t0, f, y, v3, v4, rfl, s, rr, hnl2, hd2, hly⟩
    exfalso
    rw [upto_len] at hly
    have h1 := wNum_pos' y
    have h2 : (wNum x).length ≤ 60 := hok
    omega
abbrev spNumB (K : PySem.W.Frag) : Sp := fun vs H Q E => spRd K wNum dNum okN vs H Q E ∨ spNumX K vs H Q E
theorem ok_numB (T : Txt K mg) : Mc P w K mg base (L2.CX P w) 2 "Reader" "read_number" ["self"] (spNumB K) := (ok_Reader_read_number T).orX (ok_Reader_read_numberX T)
end
end Q

/-! ## D0 -/
set_option Elab.async false
set_option linter.all false
set_option maxRecDepth 100000
set_option maxHeartbeats 4000000
namespace Q
open PySem PySem.Spec PyProof.Rows L2
local macro_rules | `(tactic| walk_at "rd") => `(tactic| repeat (first
  | ((with_reducible apply r_var); focus exact rfl)
  | with_reducible refine r_c ?_
  | with_reducible refine r_chain ?_
  | ((with_reducible apply r_aug); focus exact rfl)
  | with_reducible refine r_ip ?_
  | with_reducible refine r_op ?_
  | with_reducible refine r_I0 ?_
  | with_reducible refine r_cons ?_
  | with_reducible refine r_nil ?_
  | with_reducible refine r_seq ?_
  | with_reducible refine r_asg ?_
  | with_reducible refine r_gn ?_
  | with_reducible refine r_gcons ?_
  | with_reducible refine r_gnil ?_
  | with_reducible refine r_lc ?_
  | with_reducible refine r_m1 ?_
  | with_reducible refine r_sfld ?_
  | with_reducible refine r_sfa ?_
  | with_reducible refine r_rAdd ?_
  | with_reducible refine r_ret ?_
  | with_reducible refine r_ifS ?_
  | with_reducible refine r_test ?_
  | with_reducible refine r_bl ?_
  | with_reducible refine r_B ?_
  | with_reducible refine r_drop ?_
  | with_reducible refine r_bm ?_
  | with_reducible refine r_CB ?_
  | with_reducible refine r_call ?_
  | with_reducible refine r_meth ?_
  | with_reducible refine r_make ?_
  | with_reducible refine r_tup ?_
  | with_reducible refine r_lst ?_
  | ((with_reducible refine r_I ?_ ?_); focus (first | decide | exact ⟨by decide, by decide⟩ | exact .inl ⟨by decide, by decide⟩ | exact .inr ⟨by decide, by decide⟩ | omega))
  | with_reducible refine r_U ?_
  | with_reducible refine r_un ?_
  | with_reducible refine r_and ?_
  | with_reducible refine r_or ?_
  | with_reducible refine r_not ?_
  | with_reducible refine r_andV ?_
  | with_reducible refine r_orV ?_
  | with_reducible refine r_notV ?_
  | with_reducible refine r_if ?_
  | with_reducible refine r_sl ?_
  | with_reducible refine r_part ?_
  | with_reducible refine r_parti ?_
  | with_reducible refine r_nopart ?_
  | with_reducible refine r_il ?_
  | with_reducible refine r_it ?_
  | with_reducible refine r_ir ?_
  | with_reducible refine r_is ?_
  | with_reducible refine r_next ?_
  | with_reducible refine r_retN ?_
  | ((with_reducible refine r_eq ?_ ?_); focus exact rfl)
  | ((with_reducible refine r_ne ?_ ?_); focus exact rfl)))
local macro_rules | `(tactic| walk_at "rx") => `(tactic| repeat (first
  | ((with_reducible apply r_var); focus exact rfl)
  | with_reducible refine r_c ?_
  | with_reducible refine r_chain ?_
  | ((with_reducible apply r_aug); focus exact rfl)
  | with_reducible refine r_ip ?_
  | with_reducible refine r_op ?_
  | with_reducible refine r_I0 ?_
  | with_reducible refine r_cons ?_
  | with_reducible refine r_nil ?_
  | with_reducible refine r_seq ?_
  | with_reducible refine r_asg ?_
  | with_reducible refine r_gn ?_
  | with_reducible refine r_gcons ?_
  | with_reducible refine r_gnil ?_
  | with_reducible refine r_m1 ?_
  | with_reducible refine r_sfld ?_
  | with_reducible refine r_sfa ?_
  | with_reducible refine r_rAdd ?_
  | with_reducible refine r_ret ?_
  | with_reducible refine r_ifS ?_
  | with_reducible refine r_test ?_
  | with_reducible refine r_bl ?_
  | with_reducible refine r_B ?_
  | with_reducible refine r_drop ?_
  | with_reducible refine r_bm ?_
  | with_reducible refine r_CB ?_
  | with_reducible refine r_call ?_
  | with_reducible refine r_make ?_
  | with_reducible refine r_tup ?_
  | with_reducible refine r_lst ?_
  | ((with_reducible refine r_I ?_ ?_); focus (first | decide | exact ⟨by decide, by decide⟩ | exact .inl ⟨by decide, by decide⟩ | exact .inr ⟨by decide, by decide⟩ | omega))
  | with_reducible refine r_U ?_
  | with_reducible refine r_un ?_
  | with_reducible refine r_and ?_
  | with_reducible refine r_or ?_
  | with_reducible refine r_not ?_
  | with_reducible refine r_andV ?_
  | with_reducible refine r_orV ?_
  | with_reducible refine r_notV ?_
  | with_reducible refine r_if ?_
  | with_reducible refine r_sl ?_
  | with_reducible refine r_part ?_
  | with_reducible refine r_parti ?_
  | with_reducible refine r_nopart ?_
  | with_reducible refine r_il ?_
  | with_reducible refine r_it ?_
  | with_reducible refine r_ir ?_
  | with_reducible refine r_is ?_
  | with_reducible refine r_next ?_
  | with_reducible refine r_retN ?_
  | ((with_reducible refine r_eq ?_ ?_); focus exact rfl)
  | ((with_reducible refine r_ne ?_ ?_); focus exact rfl)))
section
variable {P : Program} {w : World} {K : PySem.W.Frag} {mg : Str → Option Value} {base : Heap}
/-! ### frames and comprehensions -/
structure FrmOk (Fr : Hp → Hp → Prop) (H1 : Hp) : Prop where
  rf : Fr H1 H1
  tr : ∀ A B C, Fr A B → Fr B C → Fr A C
  ts : ∀ H H', Fr H1 H → Fr H H' → Tst H H'
  kN : ∀ H H' p o, Fr H H' → H1 p = none → H p = some o → H' p = some o
  nN : ∀ H p o, Fr H1 H → H1 p = none → Fr H1 (upd H p o)
  fN : ∀ H p, Fr H1 H → H p = none → H1 p = none
theorem FrmOk.same {H1 : Hp} : FrmOk Same H1 :=
  ⟨Same.refl H1, fun _ _ _ a b => a.trans b, fun _ _ _ b => Tst.same b, fun _ _ p o s _ h => s p o h, fun _ _ _ s h => same_mut s h, fun _ _ s h => s.free h⟩
/-- a, a list, may change -/
def Lx (a : Addr) (H H' : Hp) : Prop := Sx a H H' ∧ ((∃ ys, H a = some (.lst ys)) → ∃ ys, H' a = some (.lst ys))
theorem Lx.refl (a : Addr) (H : Hp) : Lx a H H := ⟨Sx.refl a H, id⟩
theorem Lx.trans {a : Addr} {A B C : Hp} (h : Lx a A B) (k : Lx a B C) : Lx a A C := ⟨h.1.trans k.1, fun z => k.2 (h.2 z)⟩
theorem Lx.of {a : Addr} {H H' : Hp} (s : Same H H') : Lx a H H' := ⟨Sx.of s, fun ⟨ys, e⟩ => ⟨ys, s _ _ e⟩⟩
theorem FrmOk.lx {a : Addr} {H1 : Hp} {ys : List V} (h : H1 a = some (.lst ys)) : FrmOk (Lx a) H1 := by
  have na : ∀ {p}, H1 p = none → p ≠ a := fun e z => by rw [z, h] at e; cases e
  refine ⟨Lx.refl a H1, fun _ _ _ x y => x.trans y, fun H H' s t => ?_, fun H H' p o s n e => s.1 p o (na n) e, fun H p o s n => ⟨s.1.new n, fun z => ?_⟩, fun H p s n => ?_⟩
  · obtain ⟨zs, e⟩ := s.2 ⟨ys, h⟩
    exact t.1.tsL e
  · rw [upd_ne (na n).symm]
    exact s.2 z
  · obtain ⟨zs, e⟩ := s.2 ⟨ys, h⟩
    refine s.1.free (fun z => ?_) n
    rw [z, e] at n
    cases n
/-- [.. for .. in ..], the items data -/
theorem lc_rp {Fr : Hp → Hp → Prop} {J : It} {I : Hp → Prop} {xs : List V} {ds : List D} {g : TG} {te : TE} {vs : List Nat} {σ : L2.St} {H1 : Hp} {D : Addr} {Qd : Hp → Prop} (hJ : Wk J I xs) (F : FrmOk Fr H1) (hD : H1 D = none) (hI : ∀ H, Fr H1 H → I H) (hl : ds.length = xs.length) (hc : xs.length ≤ cap)
    (hs : ∀ (i : Nat) x d H (Q2 : VK), xs[i]? = some x → ds[i]? = some d → Fr H1 H → (∀ v H', Fr H H' → Rp H' d v → Q2 v H') → g x (wipe σ vs) H fun σ2 H2 => wipe σ2 vs = wipe σ vs ∧ te σ2 H2 Q2)
    (hd : ∀ H ys, Fr H1 H → H D = some (.lst ys) → RpL H ds ys → Qd H) :
    ∃ W : Nat → Nat → Hp → Prop, (∃ m, W 0 m (upd H1 D (.lst []))) ∧ ∀ i m H, W i m H →
      (J.stop i H ∧ Qd H) ∨ (J.go i H ∧ ∃ Nx : Hp → Prop, (∀ H', Nx H' → ∃ m', m' < m ∧ W (i + 1) m' H') ∧ ∀ x H', J.yld i H x H' → g x (wipe σ vs) H' fun σ2 H2 => wipe σ2 vs = wipe σ vs ∧ tYes σ2 H2 fun b H3 =>
        if b = true then te σ2 H3 fun y H4 => ∃ acc, H4 D = some (.lst acc) ∧ acc.length < sizeLine ∧ Nx (upd H4 D (.lst (acc ++ [y]))) else Nx H3) := by
  refine lc_any (tt := tYes) hJ (fun i H => Fr H1 H ∧ ∃ ys, H D = some (.lst ys) ∧ RpL H (ds.take i) ys) (fun i H h => hI H h.1) ⟨F.nN _ _ _ F.rf hD, [], upd_same, rfl⟩ ?_ ?_
  · rintro i x H hx ⟨s, ys, eD, hys⟩
    have hi : i < xs.length := (List.getElem?_eq_some_iff.mp hx).1
    have hid : ds[i]? = some ds[i] := List.getElem?_eq_getElem (by omega)
    refine hs i x _ H (fun y H4 => ∃ acc, H4 D = some (.lst acc) ∧ acc.length < sizeLine ∧ (Fr H1 (upd H4 D (.lst (acc ++ [y]))) ∧ ∃ ys, upd H4 D (.lst (acc ++ [y])) D = some (.lst ys) ∧ RpL (upd H4 D (.lst (acc ++ [y]))) (ds.take (i + 1)) ys)) hx hid s fun v H' t hv => ?_
    have eD' := F.kN _ _ _ _ t hD eD
    have lys : ys.length = i := by rw [hys.length, List.length_take]; omega
    have t5 : Tst H' (upd H' D (.lst (ys ++ [v]))) := (Tst.refl H').lst eD'
    refine ⟨ys, eD', cap_lt (by omega), F.nN _ _ _ (F.tr _ _ _ s t) hD, _, upd_same, ?_⟩
    rw [List.take_add_one, hid]
    exact RpL.snoc (hv.ts t5) ((hys.ts (F.ts _ _ s t)).ts t5)
  · rintro H ⟨s, ys, eD, hys⟩
    rw [List.take_of_length_le (by omega)] at hys
    exact hd H ys s eD hys
/-- [.. for .. in ..], the items new objects -/
theorem lc_ob {Fr : Hp → Hp → Prop} {J : It} {I : Hp → Prop} {xs : List V} {P : Nat → Hp → Addr → Prop} {g : TG} {te : TE} {vs : List Nat} {σ : L2.St} {H1 : Hp} {D : Addr} {Qd : Hp → Prop} (hJ : Wk J I xs) (F : FrmOk Fr H1) (hD : H1 D = none) (hI : ∀ H, Fr H1 H → I H) (hc : xs.length ≤ cap)
    (hP : ∀ i H H' p, P i H p → Tst H H' → (∀ o, H p = some o → H' p = some o) → P i H' p) (hP0 : ∀ i H p, P i H p → H p ≠ none)
    (hs : ∀ (i : Nat) x H (Q2 : VK), xs[i]? = some x → Fr H1 H → (∀ p H', Fr H H' → H p = none → P i H' p → Q2 (.ref p) H') → g x (wipe σ vs) H fun σ2 H2 => wipe σ2 vs = wipe σ vs ∧ te σ2 H2 Q2)
    (hd : ∀ H (rs : List Addr), Fr H1 H → rs.length = xs.length → rs.Nodup → D ∉ rs → (∀ r ∈ rs, H1 r = none) → H D = some (.lst (rs.map V.ref)) → (∀ i r, rs[i]? = some r → P i H r) → Qd H) :
    ∃ W : Nat → Nat → Hp → Prop, (∃ m, W 0 m (upd H1 D (.lst []))) ∧ ∀ i m H, W i m H →
      (J.stop i H ∧ Qd H) ∨ (J.go i H ∧ ∃ Nx : Hp → Prop, (∀ H', Nx H' → ∃ m', m' < m ∧ W (i + 1) m' H') ∧ ∀ x H', J.yld i H x H' → g x (wipe σ vs) H' fun σ2 H2 => wipe σ2 vs = wipe σ vs ∧ tYes σ2 H2 fun b H3 =>
        if b = true then te σ2 H3 fun y H4 => ∃ acc, H4 D = some (.lst acc) ∧ acc.length < sizeLine ∧ Nx (upd H4 D (.lst (acc ++ [y]))) else Nx H3) := by
  refine lc_any (tt := tYes) hJ (fun i H => Fr H1 H ∧ ∃ rs : List Addr, rs.length = i ∧ rs.Nodup ∧ D ∉ rs ∧ (∀ r ∈ rs, H1 r = none) ∧ H D = some (.lst (rs.map V.ref)) ∧ ∀ j r, rs[j]? = some r → P j H r) (fun i H h => hI H h.1)
    ⟨F.nN _ _ _ F.rf hD, [], rfl, List.nodup_nil, by simp, by simp, upd_same, by simp⟩ ?_ ?_
  · rintro i x H hx ⟨s, rs, lrs, nd, nDr, hn, eD, hp⟩
    have hi : i < xs.length := (List.getElem?_eq_some_iff.mp hx).1
    refine hs i x H (fun y H4 => ∃ acc, H4 D = some (.lst acc) ∧ acc.length < sizeLine ∧ (Fr H1 (upd H4 D (.lst (acc ++ [y]))) ∧ ∃ rs : List Addr, rs.length = i + 1 ∧ rs.Nodup ∧ D ∉ rs ∧ (∀ r ∈ rs, H1 r = none) ∧ upd H4 D (.lst (acc ++ [y])) D = some (.lst (rs.map V.ref)) ∧ ∀ j r, rs[j]? = some r → P j (upd H4 D (.lst (acc ++ [y]))) r)) hx s fun p H' t np hPp => ?_
    have eD' := F.kN _ _ _ _ t hD eD
    have npD : p ≠ D := fun e => by rw [e, eD] at np; cases np
    have np1 := F.fN _ _ s np
    have t5 : Tst H' (upd H' D (.lst (rs.map V.ref ++ [.ref p]))) := (Tst.refl H').lst eD'
    have npr : p ∉ rs := fun hm => by
      obtain ⟨j, hj, e⟩ := List.getElem_of_mem hm
      exact hP0 j H p (hp j p (by rw [List.getElem?_eq_getElem hj, e])) np
    refine ⟨rs.map V.ref, eD', cap_lt (by rw [List.length_map]; omega), F.nN _ _ _ (F.tr _ _ _ s t) hD, rs ++ [p], by simp [lrs], ?_, ?_, ?_, by rw [upd_same]; simp, ?_⟩
    · rw [List.nodup_append]
      refine ⟨nd, by simp, ?_⟩
      intro a ha b hb e
      obtain rfl : b = p := by simpa using hb
      subst e
      exact npr ha
    · intro hm
      rcases List.mem_append.mp hm with h | h
      · exact nDr h
      · exact npD (List.mem_singleton.mp h).symm
    · intro r hm
      rcases List.mem_append.mp hm with h | h
      · exact hn r h
      · have e : r = p := by simpa using h
        rw [e]
        exact np1
    · intro j r hj
      by_cases hji : j < rs.length
      · rw [List.getElem?_append_left hji] at hj
        have hr := List.mem_of_getElem? hj
        refine hP j H' _ r (hP j H H' r (hp j r hj) (F.ts _ _ s t) fun o e => F.kN _ _ _ _ t (hn r hr) e) t5 fun o e => ?_
        rw [upd_ne (show r ≠ D from fun z => nDr (by rw [← z]; exact hr))]
        exact e
      · rw [List.getElem?_append_right (by omega)] at hj
        have hj0 : j = i := by
          have := (List.getElem?_eq_some_iff.mp hj).1
          simp at this
          omega
        subst hj0
        rw [lrs, Nat.sub_self] at hj
        obtain rfl : p = r := Option.some.inj hj
        refine hP j H' _ p hPp t5 fun o e => ?_
        rw [upd_ne npD]
        exact e
  · rintro H ⟨s, rs, lrs, nd, nDr, hn, eD, hp⟩
    exact hd H rs s lrs nd nDr hn eD hp
end
end Q

/-! ## D1 -/
set_option Elab.async false
set_option linter.all false
set_option maxRecDepth 100000
set_option maxHeartbeats 4000000
namespace Q
open PySem PySem.Spec PyProof.Rows L2
local macro_rules | `(tactic| walk_at "rd") => `(tactic| repeat (first
  | ((with_reducible apply r_var); focus exact rfl)
  | with_reducible refine r_c ?_
  | with_reducible refine r_chain ?_
  | ((with_reducible apply r_aug); focus exact rfl)
  | with_reducible refine r_ip ?_
  | with_reducible refine r_op ?_
  | with_reducible refine r_I0 ?_
  | with_reducible refine r_cons ?_
  | with_reducible refine r_nil ?_
  | with_reducible refine r_seq ?_
  | with_reducible refine r_asg ?_
  | with_reducible refine r_gn ?_
  | with_reducible refine r_gcons ?_
  | with_reducible refine r_gnil ?_
  | with_reducible refine r_lc ?_
  | with_reducible refine r_m1 ?_
  | with_reducible refine r_sfld ?_
  | with_reducible refine r_sfa ?_
  | with_reducible refine r_rAdd ?_
  | with_reducible refine r_ret ?_
  | with_reducible refine r_ifS ?_
  | with_reducible refine r_test ?_
  | with_reducible refine r_bl ?_
  | with_reducible refine r_B ?_
  | with_reducible refine r_drop ?_
  | with_reducible refine r_bm ?_
  | with_reducible refine r_CB ?_
  | with_reducible refine r_call ?_
  | with_reducible refine r_meth ?_
  | with_reducible refine r_make ?_
  | with_reducible refine r_tup ?_
  | with_reducible refine r_lst ?_
  | ((with_reducible refine r_I ?_ ?_); focus (first | decide | exact ⟨by decide, by decide⟩ | exact .inl ⟨by decide, by decide⟩ | exact .inr ⟨by decide, by decide⟩ | omega))
  | with_reducible refine r_U ?_
  | with_reducible refine r_un ?_
  | with_reducible refine r_and ?_
  | with_reducible refine r_or ?_
  | with_reducible refine r_not ?_
  | with_reducible refine r_andV ?_
  | with_reducible refine r_orV ?_
  | with_reducible refine r_notV ?_
  | with_reducible refine r_if ?_
  | with_reducible refine r_sl ?_
  | with_reducible refine r_part ?_
  | with_reducible refine r_parti ?_
  | with_reducible refine r_nopart ?_
  | with_reducible refine r_il ?_
  | with_reducible refine r_it ?_
  | with_reducible refine r_ir ?_
  | with_reducible refine r_is ?_
  | with_reducible refine r_next ?_
  | with_reducible refine r_retN ?_
  | ((with_reducible refine r_eq ?_ ?_); focus exact rfl)
  | ((with_reducible refine r_ne ?_ ?_); focus exact rfl)))
local macro_rules | `(tactic| walk_at "rx") => `(tactic| repeat (first
  | ((with_reducible apply r_var); focus exact rfl)
  | with_reducible refine r_c ?_
  | with_reducible refine r_chain ?_
  | ((with_reducible apply r_aug); focus exact rfl)
  | with_reducible refine r_ip ?_
  | with_reducible refine r_op ?_
  | with_reducible refine r_I0 ?_
  | with_reducible refine r_cons ?_
  | with_reducible refine r_nil ?_
  | with_reducible refine r_seq ?_
  | with_reducible refine r_asg ?_
  | with_reducible refine r_gn ?_
  | with_reducible refine r_gcons ?_
  | with_reducible refine r_gnil ?_
  | with_reducible refine r_m1 ?_
  | with_reducible refine r_sfld ?_
  | with_reducible refine r_sfa ?_
  | with_reducible refine r_rAdd ?_
  | with_reducible refine r_ret ?_
  | with_reducible refine r_ifS ?_
  | with_reducible refine r_test ?_
  | with_reducible refine r_bl ?_
  | with_reducible refine r_B ?_
  | with_reducible refine r_drop ?_
  | with_reducible refine r_bm ?_
  | with_reducible refine r_CB ?_
  | with_reducible refine r_call ?_
  | with_reducible refine r_make ?_
  | with_reducible refine r_tup ?_
  | with_reducible refine r_lst ?_
  | ((with_reducible refine r_I ?_ ?_); focus (first | decide | exact ⟨by decide, by decide⟩ | exact .inl ⟨by decide, by decide⟩ | exact .inr ⟨by decide, by decide⟩ | omega))
  | with_reducible refine r_U ?_
  | with_reducible refine r_un ?_
  | with_reducible refine r_and ?_
  | with_reducible refine r_or ?_
  | with_reducible refine r_not ?_
  | with_reducible refine r_andV ?_
  | with_reducible refine r_orV ?_
  | with_reducible refine r_notV ?_
  | with_reducible refine r_if ?_
  | with_reducible refine r_sl ?_
  | with_reducible refine r_part ?_
  | with_reducible refine r_parti ?_
  | with_reducible refine r_nopart ?_
  | with_reducible refine r_il ?_
  | with_reducible refine r_it ?_
  | with_reducible refine r_ir ?_
  | with_reducible refine r_is ?_
  | with_reducible refine r_next ?_
  | with_reducible refine r_retN ?_
  | ((with_reducible refine r_eq ?_ ?_); focus exact rfl)
  | ((with_reducible refine r_ne ?_ ?_); focus exact rfl)))
section
variable {P : Program} {w : World} {K : PySem.W.Frag} {mg : Str → Option Value} {base : Heap}
/-! ### what is held: four names -/
abbrev SO := Shape × Out
def dSO (x : SO) : D := .tup [dShape x.1, dOut x.2]
def names4 : List Str := ["a", "b2", "c", "m"]
def HeldP (H : Hp) (kvs : List (Key × V)) (f : Str → Option SO) : Prop := (∀ kv ∈ kvs, ∃ n ∈ names4, kv.1 = .inr n) ∧ (kvs.map (·.1)).Nodup ∧ ∀ n, match f n with
  | none => valV kvs (.inr n) = none
  | some so => ∃ v, valV kvs (.inr n) = some v ∧ Rp H (dSO so) v
def HeldAt (H : Hp) (hd : Addr) (f : Str → Option SO) : Prop := ∃ kvs, H hd = some (.dK kvs) ∧ HeldP H kvs f
def putF4 (f : Str → Option SO) (n : Str) (so : SO) : Str → Option SO := fun m => if m = n then some so else f m
theorem HeldP.ts {H H' : Hp} {kvs : List (Key × V)} {f : Str → Option SO} (h : HeldP H kvs f) (t : Tst H H') : HeldP H' kvs f := by
  refine ⟨h.1, h.2.1, fun n => ?_⟩
  have := h.2.2 n
  cases e : f n with
  | none =>
    rw [e] at this
    exact this
  | some so =>
    rw [e] at this
    obtain ⟨v, h1, h2⟩ := this
    exact ⟨v, h1, h2.ts t⟩
theorem HeldP.nil {H : Hp} : HeldP H [] (fun _ => none) := ⟨by simp, List.nodup_nil, fun n => rfl⟩
theorem keys_putK {kvs : List (Key × V)} {k : Key} {v : V} (h : valV kvs k ≠ none) : (putK kvs k v).map (·.1) = kvs.map (·.1) := by
  unfold putK
  rw [valV_any, if_pos (by cases e : valV kvs k with | none => exact absurd e h | some _ => rfl), List.map_map]
  refine List.map_congr_left fun kv _ => ?_
  show (if kv.1 = k then (kv.1, v) else kv).1 = kv.1
  split <;> rfl
theorem HeldP.put {H : Hp} {kvs : List (Key × V)} {f : Str → Option SO} (h : HeldP H kvs f) {n : Str} {so : SO} {v : V} (hn : n ∈ names4) (hv : Rp H (dSO so) v) : HeldP H (putK kvs (.inr n) v) (putF4 f n so) := by
  obtain ⟨h1, h2, h3⟩ := h
  have key : ∀ kv ∈ putK kvs (.inr n) v, ∃ m ∈ names4, kv.1 = .inr m := by
    intro kv hm
    unfold putK at hm
    split at hm
    · obtain ⟨kv0, hm0, rfl⟩ := List.mem_map.mp hm
      obtain ⟨m, h5, h6⟩ := h1 kv0 hm0
      refine ⟨m, h5, ?_⟩
      split <;> exact h6
    · rcases List.mem_append.mp hm with hm | hm
      · exact h1 kv hm
      · have e : kv = (.inr n, v) := by simpa using hm
        rw [e]
        exact ⟨n, hn, rfl⟩
  refine ⟨key, ?_, fun m => ?_⟩
  · cases e : valV kvs (.inr n) with
    | none => exact nd_putK v h2 e
    | some _ =>
      rw [keys_putK (by rw [e]; simp)]
      exact h2
  · unfold putF4
    have e4 := valV_put kvs (.inr n) (.inr m) v
    by_cases c : m = n
    · subst c
      rw [if_pos rfl] at e4 ⊢
      exact ⟨v, e4, hv⟩
    · rw [if_neg c]
      rw [if_neg (fun z => c (Sum.inr.inj z))] at e4
      have := h3 m
      cases e : f m with
      | none =>
        rw [e] at this
        rw [e4]
        exact this
      | some so' =>
        rw [e] at this
        rw [e4]
        exact this
/-- the names that are held, as sorted -/
def held4 (f : Str → Option SO) : List Str := names4.filter fun n => (f n).isSome
def rank4 (n : Str) : Nat := names4.idxOf n
theorem rank_step : ∀ p ∈ names4, ∀ x ∈ names4, ltCps x.cps.toList p.cps.toList = false → rank4 p ≤ rank4 x := by decide +kernel
theorem rank_inj : ∀ p ∈ names4, ∀ x ∈ names4, rank4 p ≤ rank4 x → rank4 x ≤ rank4 p → p = x := by decide +kernel
theorem rising4 : ∀ (l : List Str) (p : Str), p ∈ names4 → (∀ x ∈ l, x ∈ names4) → risingS p l = true → (p :: l).Pairwise fun a b => rank4 a ≤ rank4 b
  | [], p, _, _, _ => List.pairwise_singleton _ _
  | x :: l, p, hp, hl, h => by
    have hx := hl x List.mem_cons_self
    have h2 : (!ltCps x.cps.toList p.cps.toList && risingS x l) = true := h
    rw [Bool.and_eq_true] at h2
    have ih := rising4 l x hx (fun y hy => hl y (List.mem_cons_of_mem _ hy)) h2.2
    have r1 := rank_step p hp x hx (by simpa using h2.1)
    refine List.pairwise_cons.mpr ⟨fun y hy => ?_, ih⟩
    rcases List.mem_cons.mp hy with e | hy
    · rw [e]
      exact r1
    · exact Nat.le_trans r1 ((List.pairwise_cons.mp ih).1 y hy)
theorem sorted4 {l : List Str} (hl : ∀ x ∈ l, x ∈ names4) (h : sortedS l = true) : l.Pairwise fun a b => rank4 a ≤ rank4 b := by
  cases l with
  | nil => exact List.Pairwise.nil
  | cons p l => exact rising4 l p (hl p List.mem_cons_self) (fun y hy => hl y (List.mem_cons_of_mem _ hy)) h
theorem names4_sorted : names4.Pairwise fun a b => rank4 a ≤ rank4 b := by decide +kernel
theorem names4_nodup : names4.Nodup := by decide +kernel
/-- the keys -/
theorem HeldP.keys {H : Hp} {kvs : List (Key × V)} {f : Str → Option SO} (h : HeldP H kvs f) : ∃ ks : List Str, kvs.map (·.1) = ks.map Sum.inr ∧ ks.length < 64 ∧ ∀ ys : List Str, ys.Perm ks → sortedS ys = true → ys = held4 f := by
  obtain ⟨h1, h2, h3⟩ := h
  have ex : ∃ ks : List Str, kvs.map (·.1) = ks.map Sum.inr ∧ ∀ x ∈ ks, x ∈ names4 := by
    clear h2 h3
    induction kvs with
    | nil => exact ⟨[], rfl, by simp⟩
    | cons kv r ih =>
      obtain ⟨ks, e, hk⟩ := ih fun z hz => h1 z (List.mem_cons_of_mem _ hz)
      obtain ⟨n, hn, e2⟩ := h1 kv List.mem_cons_self
      refine ⟨n :: ks, by rw [List.map_cons, List.map_cons, e, e2], fun x hx => ?_⟩
      rcases List.mem_cons.mp hx with e | hx
      · rw [e]
        exact hn
      · exact hk x hx
  obtain ⟨ks, e, hk⟩ := ex
  have nd : ks.Nodup := by
    rw [e] at h2
    exact (List.pairwise_map.mp h2).imp fun hne z => hne (by rw [z])
  have hmem : ∀ n, n ∈ ks ↔ n ∈ names4 ∧ (f n).isSome = true := by
    intro n
    have hn := h3 n
    have hin : Sum.inr n ∈ kvs.map (·.1) ↔ n ∈ ks := by
      rw [e, List.mem_map]
      exact ⟨fun ⟨x, hx, z⟩ => by rw [← Sum.inr.inj z]; exact hx, fun hx => ⟨n, hx, rfl⟩⟩
    constructor
    · intro hx
      refine ⟨hk n hx, ?_⟩
      cases ef : f n with
      | some _ => rfl
      | none =>
        rw [ef] at hn
        exact absurd (hin.mpr hx) (valV_not hn)
    · rintro ⟨hx, hs⟩
      cases ef : f n with
      | none =>
        rw [ef] at hs
        cases hs
      | some so =>
        rw [ef] at hn
        obtain ⟨v, hv, _⟩ := hn
        exact hin.mp (valV_in hv)
  have ndH : (held4 f).Nodup := names4_nodup.filter _
  have pm : ks.Perm (held4 f) := by
    refine (List.perm_ext_iff_of_nodup nd ndH).mpr fun n => ?_
    rw [hmem, held4, List.mem_filter]
  refine ⟨ks, e, ?_, fun ys hp hs => ?_⟩
  · rw [pm.length_eq]
    exact Nat.lt_of_le_of_lt (List.length_filter_le _ _) (by decide)
  · have hy : ∀ x ∈ ys, x ∈ names4 := fun x hx => hk x (hp.mem_iff.mp hx)
    refine List.Perm.eq_of_pairwise (le := fun a b => rank4 a ≤ rank4 b) (fun a b ha hb => rank_inj a (hy a ha) b (List.mem_filter.mp hb).1) (sorted4 hy hs) (names4_sorted.filter _) (hp.trans pm)
/-- the cells that are held -/
def hCells (f : Str → Option SO) : List Cell := names4.filterMap fun n => (f n).map fun so => (n, so.1, so.2)
theorem hCells_held (f : Str → Option SO) : hCells f = (held4 f).map fun n => (n, ((f n).getD ((⟨0, ""⟩, []), .flt 0 "")).1, ((f n).getD ((⟨0, ""⟩, []), .flt 0 "")).2) := by
  unfold hCells held4
  induction names4 with
  | nil => rfl
  | cons n r ih =>
    rw [List.filterMap_cons, List.filter_cons]
    cases e : f n with
    | none => simpa [e] using ih
    | some so => simp [e, ih]
/-! ### rows of deeds -/
def RowP (row : List Deed) (H : Hp) (r : Addr) : Prop := ∃ ys, H r = some (.lst ys) ∧ RpL H (row.map dDeed) ys
def RowsAt (H : Hp) (l : Addr) (rs : List Addr) (rows : List (List Deed)) : Prop :=
  H l = some (.lst (rs.map V.ref)) ∧ rs.length = rows.length ∧ rs.Nodup ∧ l ∉ rs ∧ ∀ (i : Nat) r, rs[i]? = some r → RowP (rows.getD i []) H r
theorem RowP.same {row : List Deed} {H H' : Hp} {r : Addr} (h : RowP row H r) (s : Same H H') : RowP row H' r := by
  obtain ⟨ys, e, hy⟩ := h
  exact ⟨ys, s _ _ e, hy.ts (Tst.same s)⟩
theorem RowP.mv {row : List Deed} {H H' : Hp} {r : Addr} (h : RowP row H r) (t : Tst H H') (k : ∀ o, H r = some o → H' r = some o) : RowP row H' r := by
  obtain ⟨ys, e, hy⟩ := h
  exact ⟨ys, k _ e, hy.ts t⟩
theorem RowsAt.same {H H' : Hp} {l : Addr} {rs : List Addr} {rows : List (List Deed)} (h : RowsAt H l rs rows) (s : Same H H') : RowsAt H' l rs rows :=
  ⟨s _ _ h.1, h.2.1, h.2.2.1, h.2.2.2.1, fun i r e => (h.2.2.2.2 i r e).same s⟩
/-- what changes is none of them -/
theorem RowsAt.mv {H H' : Hp} {l a : Addr} {rs : List Addr} {rows : List (List Deed)} (h : RowsAt H l rs rows) (s : Sx a H H') (t : Tst H H') (n1 : l ≠ a) (n2 : a ∉ rs) : RowsAt H' l rs rows :=
  ⟨s _ _ n1 h.1, h.2.1, h.2.2.1, h.2.2.2.1, fun i r e => (h.2.2.2.2 i r e).mv t fun o eo => s _ _ (fun z => n2 (by rw [← z]; exact List.mem_of_getElem? e)) eo⟩
def addRow (rows : List (List Deed)) (i : Nat) (d : Deed) : List (List Deed) := rows.set i (rows.getD i [] ++ [d])
theorem RowsAt.add {H : Hp} {l r : Addr} {rs : List Addr} {rows : List (List Deed)} {i : Nat} {d : Deed} {v : V} {ys : List V} (h : RowsAt H l rs rows) (hr : rs[i]? = some r) (hy : H r = some (.lst ys)) (hv : Rp H (dDeed d) v) :
    RowsAt (upd H r (.lst (ys ++ [v]))) l rs (addRow rows i d) := by
  obtain ⟨h1, h2, h3, h4, h5⟩ := h
  have hm := List.mem_of_getElem? hr
  have hi : i < rs.length := (List.getElem?_eq_some_iff.mp hr).1
  have t : Tst H (upd H r (.lst (ys ++ [v]))) := (Tst.refl H).lst hy
  refine ⟨by rw [upd_ne (fun e => h4 (by rw [e]; exact hm))]; exact h1, by rw [addRow, List.length_set]; exact h2, h3, h4, fun j q hj => ?_⟩
  unfold addRow
  by_cases c : j = i
  · subst c
    rw [hr] at hj
    obtain rfl := Option.some.inj hj
    obtain ⟨zs, e, hz⟩ := h5 j r hr
    rw [hy] at e
    obtain rfl : ys = zs := by injection e with e; injection e
    refine ⟨ys ++ [v], upd_same, ?_⟩
    rw [List.getD_eq_getElem?_getD, List.getElem?_set_self (by omega)]
    show RpL _ ((rows.getD j [] ++ [d]).map dDeed) _
    rw [List.map_append]
    exact RpL.snoc (hv.ts t) (hz.ts t)
  · have e : (rows.set i (rows.getD i [] ++ [d])).getD j [] = rows.getD j [] := by
      rw [List.getD_eq_getElem?_getD, List.getElem?_set_ne (Ne.symm c), List.getD_eq_getElem?_getD]
    rw [e]
    refine (h5 j q hj).mv t fun o eo => ?_
    rw [upd_ne (fun z => c ?_)]
    · exact eo
    · have hj2 : j < rs.length := (List.getElem?_eq_some_iff.mp hj).1
      refine (List.getElem_inj (h₀ := hj2) (h₁ := hi) h3).mp ?_
      rw [(List.getElem?_eq_some_iff.mp hj).2, (List.getElem?_eq_some_iff.mp hr).2, z]
end
end Q

/-! ## D2 -/
set_option Elab.async false
set_option linter.all false
set_option maxRecDepth 100000
set_option maxHeartbeats 4000000
namespace Q
open PySem PySem.Spec PyProof.Rows L2
local macro_rules | `(tactic| walk_at "rd") => `(tactic| repeat (first
  | ((with_reducible apply r_var); focus exact rfl)
  | with_reducible refine r_c ?_
  | with_reducible refine r_chain ?_
  | ((with_reducible apply r_aug); focus exact rfl)
  | with_reducible refine r_ip ?_
  | with_reducible refine r_op ?_
  | with_reducible refine r_I0 ?_
  | with_reducible refine r_cons ?_
  | with_reducible refine r_nil ?_
  | with_reducible refine r_seq ?_
  | with_reducible refine r_asg ?_
  | with_reducible refine r_gn ?_
  | with_reducible refine r_gcons ?_
  | with_reducible refine r_gnil ?_
  | with_reducible refine r_lc ?_
  | with_reducible refine r_m1 ?_
  | with_reducible refine r_sfld ?_
  | with_reducible refine r_sfa ?_
  | with_reducible refine r_rAdd ?_
  | with_reducible refine r_ret ?_
  | with_reducible refine r_ifS ?_
  | with_reducible refine r_test ?_
  | with_reducible refine r_bl ?_
  | with_reducible refine r_B ?_
  | with_reducible refine r_drop ?_
  | with_reducible refine r_bm ?_
  | with_reducible refine r_CB ?_
  | with_reducible refine r_call ?_
  | with_reducible refine r_meth ?_
  | with_reducible refine r_make ?_
  | with_reducible refine r_tup ?_
  | with_reducible refine r_lst ?_
  | ((with_reducible refine r_I ?_ ?_); focus (first | decide | exact ⟨by decide, by decide⟩ | exact .inl ⟨by decide, by decide⟩ | exact .inr ⟨by decide, by decide⟩ | omega))
  | with_reducible refine r_U ?_
  | with_reducible refine r_un ?_
  | with_reducible refine r_and ?_
  | with_reducible refine r_or ?_
  | with_reducible refine r_not ?_
  | with_reducible refine r_andV ?_
  | with_reducible refine r_orV ?_
  | with_reducible refine r_notV ?_
  | with_reducible refine r_if ?_
  | with_reducible refine r_sl ?_
  | with_reducible refine r_part ?_
  | with_reducible refine r_parti ?_
  | with_reducible refine r_nopart ?_
  | with_reducible refine r_il ?_
  | with_reducible refine r_it ?_
  | with_reducible refine r_ir ?_
  | with_reducible refine r_is ?_
  | with_reducible refine r_next ?_
  | with_reducible refine r_retN ?_
  | ((with_reducible refine r_eq ?_ ?_); focus exact rfl)
  | ((with_reducible refine r_ne ?_ ?_); focus exact rfl)))
local macro_rules | `(tactic| walk_at "rx") => `(tactic| repeat (first
  | ((with_reducible apply r_var); focus exact rfl)
  | with_reducible refine r_c ?_
  | with_reducible refine r_chain ?_
  | ((with_reducible apply r_aug); focus exact rfl)
  | with_reducible refine r_ip ?_
  | with_reducible refine r_op ?_
  | with_reducible refine r_I0 ?_
  | with_reducible refine r_cons ?_
  | with_reducible refine r_nil ?_
  | with_reducible refine r_seq ?_
  | with_reducible refine r_asg ?_
  | with_reducible refine r_gn ?_
  | with_reducible refine r_gcons ?_
  | with_reducible refine r_gnil ?_
  | with_reducible refine r_m1 ?_
  | with_reducible refine r_sfld ?_
  | with_reducible refine r_sfa ?_
  | with_reducible refine r_rAdd ?_
  | with_reducible refine r_ret ?_
  | with_reducible refine r_ifS ?_
  | with_reducible refine r_test ?_
  | with_reducible refine r_bl ?_
  | with_reducible refine r_B ?_
  | with_reducible refine r_drop ?_
  | with_reducible refine r_bm ?_
  | with_reducible refine r_CB ?_
  | with_reducible refine r_call ?_
  | with_reducible refine r_make ?_
  | with_reducible refine r_tup ?_
  | with_reducible refine r_lst ?_
  | ((with_reducible refine r_I ?_ ?_); focus (first | decide | exact ⟨by decide, by decide⟩ | exact .inl ⟨by decide, by decide⟩ | exact .inr ⟨by decide, by decide⟩ | omega))
  | with_reducible refine r_U ?_
  | with_reducible refine r_un ?_
  | with_reducible refine r_and ?_
  | with_reducible refine r_or ?_
  | with_reducible refine r_not ?_
  | with_reducible refine r_andV ?_
  | with_reducible refine r_orV ?_
  | with_reducible refine r_notV ?_
  | with_reducible refine r_if ?_
  | with_reducible refine r_sl ?_
  | with_reducible refine r_part ?_
  | with_reducible refine r_parti ?_
  | with_reducible refine r_nopart ?_
  | with_reducible refine r_il ?_
  | with_reducible refine r_it ?_
  | with_reducible refine r_ir ?_
  | with_reducible refine r_is ?_
  | with_reducible refine r_next ?_
  | with_reducible refine r_retN ?_
  | ((with_reducible refine r_eq ?_ ?_); focus exact rfl)
  | ((with_reducible refine r_ne ?_ ?_); focus exact rfl)))
section
variable {P : Program} {w : World} {K : PySem.W.Frag} {mg : Str → Option Value} {base : Heap}
/-! ### the classes Deeds and Base -/
abbrev cD (K : PySem.W.Frag) : Addr := He.ga K "Deeds"
abbrev cB (K : PySem.W.Frag) : Addr := He.ga K "Base"
def dF (l : Addr) : List (Str × V) := [("rows", .ref l)]
def bF (c : Nat) (d hd : Addr) : List (Str × V) := [("commits", .int c), ("deeds", .ref d), ("held", .ref hd)]
def DA (K : PySem.W.Frag) (H : Hp) (d dx l : Addr) (rs : List Addr) (rows : List (List Deed)) : Prop := H d = some (.ins (cD K) dx (dF l)) ∧ RowsAt H l rs rows
structure BS where
  com : Nat
  rows : List (List Deed)
  held : Str → Option SO
def BA (K : PySem.W.Frag) (H : Hp) (b bx d dx l : Addr) (rs : List Addr) (hd : Addr) (s : BS) : Prop := H b = some (.ins (cB K) bx (bF s.com d hd)) ∧ DA K H d dx l rs s.rows ∧ HeldAt H hd s.held
def BaseAt (K : PySem.W.Frag) (H : Hp) (b : Addr) (s : BS) : Prop := ∃ bx d dx l rs hd, BA K H b bx d dx l rs hd s
theorem DA.same {H H' : Hp} {d dx l : Addr} {rs : List Addr} {rows : List (List Deed)} (h : DA K H d dx l rs rows) (s : Same H H') : DA K H' d dx l rs rows := ⟨s _ _ h.1, h.2.same s⟩
theorem HeldAt.same {H H' : Hp} {hd : Addr} {f : Str → Option SO} (h : HeldAt H hd f) (s : Same H H') : HeldAt H' hd f := by
  obtain ⟨kvs, h1, h2⟩ := h
  exact ⟨kvs, s _ _ h1, h2.ts (Tst.same s)⟩
theorem HeldAt.mv {H H' : Hp} {hd : Addr} {f : Str → Option SO} (h : HeldAt H hd f) (t : Tst H H') (k : ∀ o, H hd = some o → H' hd = some o) : HeldAt H' hd f := by
  obtain ⟨kvs, h1, h2⟩ := h
  exact ⟨kvs, k _ h1, h2.ts t⟩
theorem BA.same {H H' : Hp} {b bx d dx l : Addr} {rs : List Addr} {hd : Addr} {s : BS} (h : BA K H b bx d dx l rs hd s) (k : Same H H') : BA K H' b bx d dx l rs hd s := ⟨k _ _ h.1, h.2.1.same k, h.2.2.same k⟩
theorem BaseAt.same {H H' : Hp} {b : Addr} {s : BS} (h : BaseAt K H b s) (k : Same H H') : BaseAt K H' b s := by
  obtain ⟨bx, d, dx, l, rs, hd, h⟩ := h
  exact ⟨bx, d, dx, l, rs, hd, h.same k⟩
theorem dF_rows (l : Addr) : (dF l).lookup ("rows" : Str) = some (.ref l) := by simp [dF, List.lookup]
theorem dF_no {l : Addr} {m : Str} (h : (m == "rows") = false) : (dF l).lookup m = none := by simp [dF, List.lookup, h]
theorem bF_com (c : Nat) (d hd : Addr) : (bF c d hd).lookup ("commits" : Str) = some (.int c) := by simp [bF, List.lookup]
theorem bF_deeds (c : Nat) (d hd : Addr) : (bF c d hd).lookup ("deeds" : Str) = some (.ref d) := by
  have h : (("deeds" : Str) == "commits") = false := by decide +kernel
  simp [bF, List.lookup, h]
theorem bF_held (c : Nat) (d hd : Addr) : (bF c d hd).lookup ("held" : Str) = some (.ref hd) := by
  have h : (("held" : Str) == "commits") = false := by decide +kernel
  have h2 : (("held" : Str) == "deeds") = false := by decide +kernel
  simp [bF, List.lookup, h, h2]
theorem bF_no {c : Nat} {d hd : Addr} {m : Str} (h : ((m == "commits") || ((m == "deeds") || (m == "held"))) = false) : (bF c d hd).lookup m = none := by
  rw [Bool.or_eq_false_iff, Bool.or_eq_false_iff] at h
  simp [bF, List.lookup, h.1, h.2.1, h.2.2]
theorem put_hd {f : Str} {v u : V} {r : List (Str × V)} : putF f v ((f, u) :: r) = (f, v) :: r := by
  show (if f = f then _ else _) = _
  rw [if_pos rfl]
theorem put_tl {f g : Str} {v u : V} {r : List (Str × V)} (h : (g == f) = false) : putF f v ((g, u) :: r) = (g, u) :: putF f v r := by
  show (if g = f then _ else _) = _
  rw [if_neg (by simpa using h)]
theorem made_same {H1 H' : Hp} {x dx : Addr} {o o' : HO} (n1 : H1 x = none) (n2 : H1 dx = none) (s : Sx x (upd (upd H1 dx o) x o') H') : Same H1 H' := fun b z e => by
  have nx : b ≠ x := ne_of_none e n1
  refine s b z nx ?_
  rw [upd_ne nx, upd_ne (ne_of_none e n2)]
  exact e
theorem made_none {H1 : Hp} {x dx p : Addr} {o o' : HO} (n : upd (upd H1 dx o) x o' p = none) : H1 p = none := (free_upd (free_upd n).1).1
/-- Deeds() -/
def spDI (K : PySem.W.Frag) : Sp := fun vs H Q _ => ∃ r dx, vs = [.ref r] ∧ H r = some (.ins (cD K) dx []) ∧ ∀ H' l rs, Sx r H H' → H l = none → (∀ q ∈ rs, H q = none) → DA K H' r dx l rs (List.replicate 8 []) → Q .non H'
theorem ok_Deeds_init  (T : Txt K mg) : Ic P w K mg base CX0 (1) "Deeds" ["self"] (spDI K) := by
  refine ⟨?_, gm_Deeds T, (fd_Deeds_init T.says).bindsN fun _ _ _ _ _ _ us hl => match us, hl with | [_], _ => rfl, mk_Deeds T.says⟩
  refine (fd_Deeds_init T.says).ok sc_Deeds_init (fun vs H Q E h => by first | (obtain ⟨_, rfl, _⟩ := h; rfl) | (obtain ⟨_, _, rfl, _⟩ := h; rfl) | (obtain ⟨_, _, _, rfl, _⟩ := h; rfl) | (obtain ⟨_, _, _, _, rfl, _⟩ := h; rfl) | (obtain ⟨_, _, _, _, _, rfl, _⟩ := h; rfl) | (obtain ⟨_, _, _, _, _, _, rfl, _⟩ := h; rfl) | (obtain ⟨_, _, _, _, _, _, _, rfl, _⟩ := h; rfl) | (obtain ⟨_, _, _, _, _, _, _, _, rfl, _⟩ := h; rfl) | (obtain ⟨_, _, _, _, _, _, _, _, _, rfl, _⟩ := h; rfl)) (fun cdv A outer s H vs Q E hr h => ?_)
  obtain ⟨r, dx, rfl, hr, q⟩ := h
  refine ⟨_, PSs.nox (pss_one (ps_fld (pv 0) (pe_lc (own := [("_", 1)]) (g := gName 1) (tt := tYes) rfl sc_Deeds_init.nd (pi_range1 (by rfl) (n_range T) (pa_cons (pe_gi (gi_REPLICAS T) (by rfl)) pa_nil)) (blkOk_by (N := ["self", "_"]) (sc := defScope s_Deeds_init) (by decide +kernel)) (fun _ _ _ _ _ => (pg_name (i := 1) sc_Deeds_init.nd rfl (Or.inl rfl))) (fun _ _ _ _ _ => pts_nil) (fun _ _ _ _ _ => (pe_lst pa_nil))) rfl)), ?_⟩
  walk_at "rx"
  refine r_lc ?_
  walk_at "rx"
  refine ⟨8, rfl, by decide, by decide, fun D hD => ?_⟩
  refine lc_ob (xs := upto 8) (P := fun i => RowP ((List.replicate 8 ([] : List Deed)).getD i [])) (Fr := Same) (Wk.rng (I := fun _ => True)) FrmOk.same hD (fun _ _ => trivial) (by rw [upto_len]; decide) (fun i H H' p h t k => h.mv t k) (fun i H p h z => by obtain ⟨ys, e, _⟩ := h; rw [z] at e; cases e) ?_ ?_
  · intro i x H2 Q2 hx s2 k
    refine ⟨wipe1, ?_⟩
    walk_at "rx"
    refine ⟨le_line rfl, fun p hp => ?_⟩
    refine k p _ (same_new hp) hp ⟨[], upd_same, ?_⟩
    have e : (List.replicate 8 ([] : List Deed)).getD i [] = [] := by
      rw [List.getD_eq_getElem?_getD, List.getElem?_replicate]
      split <;> rfl
    rw [e]
    rfl
  · intro H2 rs s2 l2 nd nD hn eD hp
    have hr2 := s2 _ _ hr
    walk_at "rx"
    refine ⟨r, _, dx, _, rfl, hr2, cl_Deeds T.says, na_Deeds_rows T.says, lt_by rfl, ?_⟩
    rw [upto_len] at l2
    have nrD : D ≠ r := (ne_of_none hr hD).symm
    have nrs : r ∉ rs := fun hm => by rw [hn r hm] at hr; cases hr
    walk_at "rx"
    refine q _ D rs ((Sx.of s2).self) hD hn ⟨upd_same, ?_⟩
    have R2 : RowsAt H2 D rs (List.replicate 8 []) := ⟨eD, by rw [l2]; rfl, nd, nD, hp⟩
    exact R2.mv (Sx.refl r H2).self ((Tst.refl H2).ins hr2) nrD nrs
/-- the lengths of the rows -/
def spCounts (K : PySem.W.Frag) : Sp := fun vs H Q _ => ∃ d dx l rs rows, vs = [.ref d] ∧ DA K H d dx l rs rows ∧ rows.length ≤ cap ∧ ∀ p H', Same H H' → H p = none → H' p = some (.lst (rows.map fun row => V.int (row.length : Nat))) → Q (.ref p) H'
theorem RpL.ofInts {H : Hp} : ∀ {ns : List Nat} {ys : List V}, RpL H (ns.map fun n : Nat => D.int (n : Int)) ys → ys = ns.map fun n : Nat => V.int (n : Int)
  | [], ys, h => h
  | z :: ss, ys, h => by
    obtain ⟨y, r, rfl, hy, hr⟩ := h
    obtain rfl : y = .int z := hy
    rw [RpL.ofInts hr]
    rfl
theorem rows_get {H : Hp} {l : Addr} {rs : List Addr} {rows : List (List Deed)} (h : RowsAt H l rs rows) {i : Nat} {x : V} (hx : (rs.map V.ref)[i]? = some x) : ∃ r row ys, rs[i]? = some r ∧ x = .ref r ∧ rows[i]? = some row ∧ rows.getD i [] = row ∧ H r = some (.lst ys) ∧ RpL H (row.map dDeed) ys := by
  obtain ⟨r, hr, e⟩ := getElem_map_some hx
  have hi : i < rows.length := by
    rw [← h.2.1]
    exact (List.getElem?_eq_some_iff.mp hr).1
  obtain ⟨ys, e1, e2⟩ := h.2.2.2.2 i r hr
  have e3 : rows[i]? = some rows[i] := List.getElem?_eq_getElem hi
  have e4 : rows.getD i [] = rows[i] := by rw [List.getD_eq_getElem?_getD, e3]; rfl
  rw [e4] at e2
  exact ⟨r, rows[i], ys, hr, e, e3, e4, e1, e2⟩
theorem ok_Deeds_counts  (T : Txt K mg) : Mc P w K mg base CX0 (1) "Deeds" "counts" ["self"] (spCounts K) := by
  refine ⟨?_, me_Deeds_counts T.says, (fd_Deeds_counts T.says).bindsN fun _ _ _ _ _ _ us hl => match us, hl with | [_], _ => rfl, cl_Deeds T.says⟩
  refine (fd_Deeds_counts T.says).ok sc_Deeds_counts (fun vs H Q E h => by first | (obtain ⟨_, rfl, _⟩ := h; rfl) | (obtain ⟨_, _, rfl, _⟩ := h; rfl) | (obtain ⟨_, _, _, rfl, _⟩ := h; rfl) | (obtain ⟨_, _, _, _, rfl, _⟩ := h; rfl) | (obtain ⟨_, _, _, _, _, rfl, _⟩ := h; rfl) | (obtain ⟨_, _, _, _, _, _, rfl, _⟩ := h; rfl) | (obtain ⟨_, _, _, _, _, _, _, rfl, _⟩ := h; rfl) | (obtain ⟨_, _, _, _, _, _, _, _, rfl, _⟩ := h; rfl) | (obtain ⟨_, _, _, _, _, _, _, _, _, rfl, _⟩ := h; rfl)) (fun cdv A outer s H vs Q E hr h => ?_)
  obtain ⟨d, dx, l, rs, rows, rfl, ⟨hd, hrows⟩, hl, q⟩ := h
  refine ⟨_, PSs.nox (pss_one (ps_ret (pe_lc (own := [("row", 1)]) (g := gName 1) (tt := tYes) rfl sc_Deeds_counts.nd (pi_list (pe_fld (pv 0) rfl)) (blkOk_by (N := ["self", "row"]) (sc := defScope s_Deeds_counts) (by decide +kernel)) (fun _ _ _ _ _ => (pg_name (i := 1) sc_Deeds_counts.nd rfl (Or.inl rfl))) (fun _ _ _ _ _ => pts_nil) (fun _ _ _ _ _ => by (apply pe_cast (pe_callB call_len_seq (by rfl) (n_len T) PySem.boot_len (pa_cons (pv 1) pa_nil))); (try dsimp only [L2.Cx.blk]) <;> exact rfl)))), ?_⟩
  walk_at "rx"
  refine r_lc ?_
  walk_at "rx"
  refine r_fldV rfl hd (cl_Deeds T.says) (na_Deeds_rows T.says) (dF_rows l) ?_
  walk_at "rx"
  refine ⟨l, rfl, ⟨_, SqL.of hrows.1⟩, fun D0 hD => ?_⟩
  refine lc_rp (xs := rs.map V.ref) (ds := (rows.map List.length).map fun n : Nat => D.int (n : Int)) (Fr := Same) (Wk.lst (I := fun H' => Same H H') fun H' s => s _ _ hrows.1) FrmOk.same hD (fun _ s => s) (by rw [List.length_map, List.length_map, List.length_map, hrows.2.1]) (by rw [List.length_map, hrows.2.1]; exact hl) ?_ ?_
  · intro i x dd H2 Q2 hx hdd s2 k
    obtain ⟨r, row, ys, hr, rfl, er, _, er2, er3⟩ := rows_get (hrows.same s2) hx
    refine ⟨wipe1, ?_⟩
    walk_at "rx"
    refine ⟨r, _, rfl, .inl (SqL.of er2), ?_⟩
    refine k _ H2 (Same.refl H2) ?_
    rw [List.getElem?_map, List.getElem?_map, er] at hdd
    obtain rfl : D.int (row.length : Int) = dd := Option.some.inj hdd
    rw [er3.length, List.length_map]
    rfl
  · intro H2 ys s2 eD hys
    refine q D0 H2 s2 hD ?_
    rw [eD, hys.ofInts, List.map_map]
    rfl
/-- a deed more -/
def spAdd (K : PySem.W.Frag) : Sp := fun vs H Q _ => ∃ (d dx l : Addr) (rs : List Addr) (rows : List (List Deed)) (i : Nat) (v : V) (r : Addr) (ys : List V), vs = [.ref d, .int i, v] ∧ DA K H d dx l rs rows ∧ rs[i]? = some r ∧ H r = some (.lst ys) ∧ ys.length ≤ cap ∧ Q .non (upd H r (.lst (ys ++ [v])))
theorem ok_Deeds_add  (T : Txt K mg) : Mc P w K mg base CX0 (1) "Deeds" "add" ["self", "replica", "deed"] (spAdd K) := by
  refine ⟨?_, me_Deeds_add T.says, (fd_Deeds_add T.says).bindsN fun _ _ _ _ _ _ us hl => match us, hl with | [_, _, _], _ => rfl, cl_Deeds T.says⟩
  refine (fd_Deeds_add T.says).ok sc_Deeds_add (fun vs H Q E h => by first | (obtain ⟨_, rfl, _⟩ := h; rfl) | (obtain ⟨_, _, rfl, _⟩ := h; rfl) | (obtain ⟨_, _, _, rfl, _⟩ := h; rfl) | (obtain ⟨_, _, _, _, rfl, _⟩ := h; rfl) | (obtain ⟨_, _, _, _, _, rfl, _⟩ := h; rfl) | (obtain ⟨_, _, _, _, _, _, rfl, _⟩ := h; rfl) | (obtain ⟨_, _, _, _, _, _, _, rfl, _⟩ := h; rfl) | (obtain ⟨_, _, _, _, _, _, _, _, rfl, _⟩ := h; rfl) | (obtain ⟨_, _, _, _, _, _, _, _, _, rfl, _⟩ := h; rfl)) (fun cdv A outer s H vs Q E hr h => ?_)
  obtain ⟨d, dx, l, rs, rows, i, v, r, ys, rfl, ⟨hd, hrows⟩, hr, hy, hl, q⟩ := h
  refine ⟨_, PSs.nox (pss_one (ps_expr (pe_bm PySem.F.plainAttrs_list PySem.F.slot_list_append PySem.F.type_list_append mt_append (pe_ix ix_list (pe_fld (pv 0) rfl) (pv 1) (fun _ _ => rfl)) (pa_cons (pv 2) pa_nil)))), ?_⟩
  walk_at "rx"
  refine r_fldV rfl hd (cl_Deeds T.says) (na_Deeds_rows T.says) (dF_rows l) ?_
  walk_at "rx"
  refine r_ixL hrows.1 (atI_nat (j := i) (by rw [List.getElem?_map, hr]; rfl)) ?_
  refine ⟨ty_l hy, ?_⟩
  walk_at "rx"
  refine ⟨r, ys, v, rfl, rfl, hy, cap_lt hl, ?_⟩
  walk_at "rx"
  exact q
/-- a copy: all its parts new -/
def spDC (K : PySem.W.Frag) : Sp := fun vs H Q _ => ∃ d dx l rs rows, vs = [.ref d] ∧ DA K H d dx l rs rows ∧ rows.length ≤ cap ∧
  ∀ d' dx' l' rs' H', Same H H' → H d' = none → H l' = none → (∀ r ∈ rs', H r = none) → DA K H' d' dx' l' rs' rows → Q (.ref d') H'
theorem ok_Deeds_copy  (T : Txt K mg) : Mc P w K mg base CX0 (3) "Deeds" "copy" ["self"] (spDC K) := by
  refine ⟨?_, me_Deeds_copy T.says, (fd_Deeds_copy T.says).bindsN fun _ _ _ _ _ _ us hl => match us, hl with | [_], _ => rfl, cl_Deeds T.says⟩
  refine (fd_Deeds_copy T.says).ok sc_Deeds_copy (fun vs H Q E h => by first | (obtain ⟨_, rfl, _⟩ := h; rfl) | (obtain ⟨_, _, rfl, _⟩ := h; rfl) | (obtain ⟨_, _, _, rfl, _⟩ := h; rfl) | (obtain ⟨_, _, _, _, rfl, _⟩ := h; rfl) | (obtain ⟨_, _, _, _, _, rfl, _⟩ := h; rfl) | (obtain ⟨_, _, _, _, _, _, rfl, _⟩ := h; rfl) | (obtain ⟨_, _, _, _, _, _, _, rfl, _⟩ := h; rfl) | (obtain ⟨_, _, _, _, _, _, _, _, rfl, _⟩ := h; rfl) | (obtain ⟨_, _, _, _, _, _, _, _, _, rfl, _⟩ := h; rfl)) (fun cdv A outer s H vs Q E hr h => ?_)
  obtain ⟨d, dx, l, rs, rows, rfl, ⟨hd, hrows⟩, hl, q⟩ := h
  refine ⟨_, PSs.nox (pss_cons (ps_set (i := 1) sc_Deeds_copy.nd rfl (Or.inl rfl) (pe_i0 (ok_Deeds_init T) (hr.mono (by omega)) (by rfl)))
      (pss_cons (ps_fld (pv 1) (pe_lc (own := [("row", 2)]) (g := gName 2) (tt := tYes) rfl sc_Deeds_copy.nd (pi_list (pe_fld (pv 0) rfl)) (blkOk_by (N := ["self", "result", "row"]) (sc := defScope s_Deeds_copy) (by decide +kernel)) (fun _ _ _ _ _ => (pg_name (i := 2) sc_Deeds_copy.nd rfl (Or.inl rfl))) (fun _ _ _ _ _ => pts_nil) (fun _ _ _ _ _ => by (apply pe_cast (pe_callTy call_list_of (by rfl) (n_list T) (by decide +kernel) (pa_cons (pv 2) pa_nil))); (try dsimp only [L2.Cx.blk]) <;> exact rfl)) rfl)
      (pss_one (ps_ret (pv 1))))), ?_⟩
  walk_at "rx"
  intro x dx' nx ndx nex
  refine ⟨x, dx', rfl, upd_same, fun H1 l1 rs1 sx1 nl1 nrs1 A1 => ⟨rfl, ?_⟩⟩
  have s1 := made_same nx ndx sx1
  have nx1 : ∀ {p}, H1 p = none → p ≠ x := fun e z => by rw [z, A1.1] at e; cases e
  walk_at "rx"
  refine r_lc ?_
  walk_at "rx"
  refine r_fldV rfl (s1 _ _ hd) (cl_Deeds T.says) (na_Deeds_rows T.says) (dF_rows l) ?_
  walk_at "rx"
  have hrows1 := hrows.same s1
  refine ⟨l, rfl, ⟨_, SqL.of hrows1.1⟩, fun D hD => ?_⟩
  refine lc_ob (xs := rs.map V.ref) (P := fun i => RowP (rows.getD i [])) (Fr := Same) (Wk.lst (I := fun H' => Same H1 H') fun H' s => s _ _ hrows1.1) FrmOk.same hD (fun _ s => s) (by rw [List.length_map, hrows.2.1]; exact hl) (fun i H H' p h t k => h.mv t k) (fun i H p h z => by obtain ⟨ys, e, _⟩ := h; rw [z] at e; cases e) ?_ ?_
  · intro i y H2 Q2 hy s2 k
    obtain ⟨r, row, ys, hr, rfl, er, eg, er2, er3⟩ := rows_get (hrows1.same s2) hy
    refine ⟨wipe1, ?_⟩
    walk_at "rx"
    refine ⟨r, ys, rfl, .inl (SqL.of er2), fun p hp => ?_⟩
    refine k p _ (same_new hp) hp ⟨ys, upd_same, ?_⟩
    rw [eg]
    exact er3.ts (Tst.new hp)
  · intro H2 rs2 s2 l2 nd nD hn eD hp
    have A2 := s2 _ _ A1.1
    walk_at "rx"
    refine ⟨x, _, dx', _, rfl, A2, cl_Deeds T.says, na_Deeds_rows T.says, lt_by rfl, ?_⟩
    have e0 : putF "rows" (.ref D) (dF l1) = dF D := put_hd
    rw [e0]
    walk_at "rx"
    rw [List.length_map] at l2
    have R2 : RowsAt H2 D rs2 rows := ⟨eD, by rw [l2]; exact hrows.2.1, nd, nD, hp⟩
    refine q x dx' D rs2 _ (same_mut (s1.trans s2) nx) nx (s1.free hD) (fun r hr => s1.free (hn r hr)) ⟨upd_same, ?_⟩
    exact R2.mv (Sx.refl x H2).self ((Tst.refl H2).ins A2) (nx1 hD) (fun hm => nx1 (hn x hm) rfl)
end
end Q

/-! ## D3 -/
set_option Elab.async false
set_option linter.all false
set_option maxRecDepth 100000
set_option maxHeartbeats 4000000
namespace Q
open PySem PySem.Spec PyProof.Rows L2
local macro_rules | `(tactic| walk_at "rd") => `(tactic| repeat (first
  | ((with_reducible apply r_var); focus exact rfl)
  | with_reducible refine r_c ?_
  | with_reducible refine r_chain ?_
  | ((with_reducible apply r_aug); focus exact rfl)
  | with_reducible refine r_ip ?_
  | with_reducible refine r_op ?_
  | with_reducible refine r_I0 ?_
  | with_reducible refine r_cons ?_
  | with_reducible refine r_nil ?_
  | with_reducible refine r_seq ?_
  | with_reducible refine r_asg ?_
  | with_reducible refine r_gn ?_
  | with_reducible refine r_gcons ?_
  | with_reducible refine r_gnil ?_
  | with_reducible refine r_lc ?_
  | with_reducible refine r_m1 ?_
  | with_reducible refine r_sfld ?_
  | with_reducible refine r_sfa ?_
  | with_reducible refine r_rAdd ?_
  | with_reducible refine r_ret ?_
  | with_reducible refine r_ifS ?_
  | with_reducible refine r_test ?_
  | with_reducible refine r_bl ?_
  | with_reducible refine r_B ?_
  | with_reducible refine r_drop ?_
  | with_reducible refine r_bm ?_
  | with_reducible refine r_CB ?_
  | with_reducible refine r_call ?_
  | with_reducible refine r_meth ?_
  | with_reducible refine r_make ?_
  | with_reducible refine r_tup ?_
  | with_reducible refine r_lst ?_
  | ((with_reducible refine r_I ?_ ?_); focus (first | decide | exact ⟨by decide, by decide⟩ | exact .inl ⟨by decide, by decide⟩ | exact .inr ⟨by decide, by decide⟩ | omega))
  | with_reducible refine r_U ?_
  | with_reducible refine r_un ?_
  | with_reducible refine r_and ?_
  | with_reducible refine r_or ?_
  | with_reducible refine r_not ?_
  | with_reducible refine r_andV ?_
  | with_reducible refine r_orV ?_
  | with_reducible refine r_notV ?_
  | with_reducible refine r_if ?_
  | with_reducible refine r_sl ?_
  | with_reducible refine r_part ?_
  | with_reducible refine r_parti ?_
  | with_reducible refine r_nopart ?_
  | with_reducible refine r_il ?_
  | with_reducible refine r_it ?_
  | with_reducible refine r_ir ?_
  | with_reducible refine r_is ?_
  | with_reducible refine r_next ?_
  | with_reducible refine r_retN ?_
  | ((with_reducible refine r_eq ?_ ?_); focus exact rfl)
  | ((with_reducible refine r_ne ?_ ?_); focus exact rfl)))
local macro_rules | `(tactic| walk_at "rx") => `(tactic| repeat (first
  | ((with_reducible apply r_var); focus exact rfl)
  | with_reducible refine r_c ?_
  | with_reducible refine r_chain ?_
  | ((with_reducible apply r_aug); focus exact rfl)
  | with_reducible refine r_ip ?_
  | with_reducible refine r_op ?_
  | with_reducible refine r_I0 ?_
  | with_reducible refine r_cons ?_
  | with_reducible refine r_nil ?_
  | with_reducible refine r_seq ?_
  | with_reducible refine r_asg ?_
  | with_reducible refine r_gn ?_
  | with_reducible refine r_gcons ?_
  | with_reducible refine r_gnil ?_
  | with_reducible refine r_m1 ?_
  | with_reducible refine r_sfld ?_
  | with_reducible refine r_sfa ?_
  | with_reducible refine r_rAdd ?_
  | with_reducible refine r_ret ?_
  | with_reducible refine r_ifS ?_
  | with_reducible refine r_test ?_
  | with_reducible refine r_bl ?_
  | with_reducible refine r_B ?_
  | with_reducible refine r_drop ?_
  | with_reducible refine r_bm ?_
  | with_reducible refine r_CB ?_
  | with_reducible refine r_call ?_
  | with_reducible refine r_make ?_
  | with_reducible refine r_tup ?_
  | with_reducible refine r_lst ?_
  | ((with_reducible refine r_I ?_ ?_); focus (first | decide | exact ⟨by decide, by decide⟩ | exact .inl ⟨by decide, by decide⟩ | exact .inr ⟨by decide, by decide⟩ | omega))
  | with_reducible refine r_U ?_
  | with_reducible refine r_un ?_
  | with_reducible refine r_and ?_
  | with_reducible refine r_or ?_
  | with_reducible refine r_not ?_
  | with_reducible refine r_andV ?_
  | with_reducible refine r_orV ?_
  | with_reducible refine r_notV ?_
  | with_reducible refine r_if ?_
  | with_reducible refine r_sl ?_
  | with_reducible refine r_part ?_
  | with_reducible refine r_parti ?_
  | with_reducible refine r_nopart ?_
  | with_reducible refine r_il ?_
  | with_reducible refine r_it ?_
  | with_reducible refine r_ir ?_
  | with_reducible refine r_is ?_
  | with_reducible refine r_next ?_
  | with_reducible refine r_retN ?_
  | ((with_reducible refine r_eq ?_ ?_); focus exact rfl)
  | ((with_reducible refine r_ne ?_ ?_); focus exact rfl)))
section
variable {P : Program} {w : World} {K : PySem.W.Frag} {mg : Str → Option Value} {base : Heap}
theorem DA.mv {H H' : Hp} {a d dx l : Addr} {rs : List Addr} {rows : List (List Deed)} (h : DA K H d dx l rs rows) (s : Sx a H H') (t : Tst H H') (n0 : d ≠ a) (n1 : l ≠ a) (n2 : a ∉ rs) : DA K H' d dx l rs rows := ⟨s _ _ n0 h.1, h.2.mv s t n1 n2⟩
theorem r_mt {σ : L2.St} {H : Hp} {Qv : VK} {ta : TE} {tr : TA} {sp : Sp} {E : XK} {C : Addr} {m : Str} (h : ta σ H fun x H1 => ∃ a dx fs, x = .ref a ∧ H1 a = some (.ins C dx fs) ∧ fs.lookup m = none ∧ tr σ H1 fun vs H2 => sp (x :: (vs ++ [])) H2 Qv E) : tMeth C m sp [] E ta tr σ H Qv := h
/-- Base() -/
def spBI (K : PySem.W.Frag) : Sp := fun vs H Q _ => ∃ b bx, vs = [.ref b] ∧ H b = some (.ins (cB K) bx []) ∧ ∀ H' d dx l rs hd, Sx b H H' → H d = none → H l = none → H hd = none → (∀ q ∈ rs, H q = none) → BA K H' b bx d dx l rs hd ⟨0, List.replicate 8 [], fun _ => none⟩ → Q .non H'
theorem ok_Base_init  (T : Txt K mg) : Ic P w K mg base CX0 (3) "Base" ["self"] (spBI K) := by
  refine ⟨?_, gm_Base T, (fd_Base_init T.says).bindsN fun _ _ _ _ _ _ us hl => match us, hl with | [_], _ => rfl, mk_Base T.says⟩
  refine (fd_Base_init T.says).ok sc_Base_init (fun vs H Q E h => by first | (obtain ⟨_, rfl, _⟩ := h; rfl) | (obtain ⟨_, _, rfl, _⟩ := h; rfl) | (obtain ⟨_, _, _, rfl, _⟩ := h; rfl) | (obtain ⟨_, _, _, _, rfl, _⟩ := h; rfl) | (obtain ⟨_, _, _, _, _, rfl, _⟩ := h; rfl) | (obtain ⟨_, _, _, _, _, _, rfl, _⟩ := h; rfl) | (obtain ⟨_, _, _, _, _, _, _, rfl, _⟩ := h; rfl) | (obtain ⟨_, _, _, _, _, _, _, _, rfl, _⟩ := h; rfl) | (obtain ⟨_, _, _, _, _, _, _, _, _, rfl, _⟩ := h; rfl)) (fun cdv A outer s H vs Q E hr h => ?_)
  obtain ⟨b, bx, rfl, hb, q⟩ := h
  refine ⟨_, PSs.nox (pss_cons (ps_fld (pv 0) pe_int rfl)
      (pss_cons (ps_fld (pv 0) (pe_i0 (ok_Deeds_init T) (hr.mono (by omega)) (by rfl)) rfl)
      (pss_one (ps_fld (pv 0) pe_dnewK rfl)))), ?_⟩
  walk_at "rx"
  refine ⟨b, _, bx, _, rfl, hb, cl_Base T.says, na_Base_commits T.says, lt_by rfl, ?_⟩
  walk_at "rx"
  intro d dx nd ndx ndd
  have nbd : d ≠ b := fun e => by rw [e, upd_same] at nd; cases nd
  have nd0 : H d = none := (free_upd nd).1
  refine ⟨d, dx, rfl, upd_same, fun H2 l rs sx2 nl nrs A2 => ⟨rfl, ?_⟩⟩
  have s2 := made_same nd ndx sx2
  have nl1 := made_none nl
  have nrs1 := fun r hr => made_none (nrs r hr)
  have hb2 := s2 _ _ upd_same
  have nlb : l ≠ b := (free_upd nl1).2
  have nrb : b ∉ rs := fun hm => (free_upd (nrs1 b hm)).2 rfl
  walk_at "rx"
  refine ⟨b, _, bx, _, rfl, hb2, cl_Base T.says, na_Base_deeds T.says, lt_by rfl, ?_⟩
  walk_at "rx"
  intro p hp
  have np : H2 p = none ∧ p ≠ b := free_upd hp
  have hb4 : upd (upd H2 b (.ins (cB K) bx (putF "deeds" (.ref d) (putF "commits" (.int 0) [])))) p (.dK []) b = some (.ins (cB K) bx (putF "deeds" (.ref d) (putF "commits" (.int 0) []))) := by
    rw [upd_ne np.2.symm]
    exact upd_same
  walk_at "rx"
  refine ⟨b, _, bx, _, rfl, hb4, cl_Base T.says, na_Base_held T.says, lt_by rfl, ?_⟩
  walk_at "rx"
  have e0 : putF "held" (.ref p) (putF "deeds" (.ref d) (putF "commits" (.int 0) [])) = bF 0 d p := by
    show putF "held" (.ref p) (putF "deeds" (.ref d) [("commits", .int 0)]) = _
    rw [put_tl (by decide +kernel)]
    show putF "held" (.ref p) [("commits", .int 0), ("deeds", .ref d)] = _
    rw [put_tl (by decide +kernel), put_tl (by decide +kernel)]
    rfl
  rw [e0]
  have A3 := A2.mv (H' := upd H2 b (.ins (cB K) bx (putF "deeds" (.ref d) (putF "commits" (.int 0) [])))) (Sx.refl b H2).self ((Tst.refl H2).ins hb2) nbd nlb nrb
  have A4 := A3.same (same_new (o := .dK []) hp)
  have A5 := A4.mv (H' := upd (upd (upd H2 b (.ins (cB K) bx (putF "deeds" (.ref d) (putF "commits" (.int 0) [])))) p (.dK [])) b (.ins (cB K) bx (bF 0 d p))) (Sx.refl b _).self ((Tst.refl _).ins hb4) nbd nlb nrb
  have S5 : Sx b H (upd (upd (upd H2 b (.ins (cB K) bx (putF "deeds" (.ref d) (putF "commits" (.int 0) [])))) p (.dK [])) b (.ins (cB K) bx (bF 0 d p))) := ((((Sx.refl b H).self.trans (Sx.of s2)).self).trans (Sx.of (same_new hp))).self
  refine q _ d dx l rs p S5 nd0 (free_upd nl1).1 (free_upd (s2.free np.1)).1 (fun r hr => (free_upd (nrs1 r hr)).1) ⟨upd_same, A5, [], ?_, HeldP.nil⟩
  rw [upd_ne np.2]
  exact upd_same
/-- a copy -/
def spBC (K : PySem.W.Frag) : Sp := fun vs H Q _ => ∃ b s, vs = [.ref b] ∧ BaseAt K H b s ∧ s.rows.length ≤ cap ∧
  ∀ b' bx' d' dx' l' rs' hd' H', Same H H' → H b' = none → H d' = none → H l' = none → H hd' = none → (∀ r ∈ rs', H r = none) → BA K H' b' bx' d' dx' l' rs' hd' s → Q (.ref b') H'
theorem bF_p1 {c c' : Nat} {d hd : Addr} : putF "commits" (.int (c' : Nat)) (bF c d hd) = bF c' d hd := put_hd
theorem bF_p2 {c : Nat} {d d' hd : Addr} : putF "deeds" (.ref d') (bF c d hd) = bF c d' hd := by
  unfold bF
  rw [put_tl (by decide +kernel), put_hd]
theorem bF_p3 {c : Nat} {d hd hd' : Addr} : putF "held" (.ref hd') (bF c d hd) = bF c d hd' := by
  unfold bF
  rw [put_tl (by decide +kernel), put_tl (by decide +kernel), put_hd]
theorem ok_Base_copy  (T : Txt K mg) : Mc P w K mg base CX0 (5) "Base" "copy" ["self"] (spBC K) := by
  refine ⟨?_, me_Base_copy T.says, (fd_Base_copy T.says).bindsN fun _ _ _ _ _ _ us hl => match us, hl with | [_], _ => rfl, cl_Base T.says⟩
  refine (fd_Base_copy T.says).ok sc_Base_copy (fun vs H Q E h => by first | (obtain ⟨_, rfl, _⟩ := h; rfl) | (obtain ⟨_, _, rfl, _⟩ := h; rfl) | (obtain ⟨_, _, _, rfl, _⟩ := h; rfl) | (obtain ⟨_, _, _, _, rfl, _⟩ := h; rfl) | (obtain ⟨_, _, _, _, _, rfl, _⟩ := h; rfl) | (obtain ⟨_, _, _, _, _, _, rfl, _⟩ := h; rfl) | (obtain ⟨_, _, _, _, _, _, _, rfl, _⟩ := h; rfl) | (obtain ⟨_, _, _, _, _, _, _, _, rfl, _⟩ := h; rfl) | (obtain ⟨_, _, _, _, _, _, _, _, _, rfl, _⟩ := h; rfl)) (fun cdv A outer s H vs Q E hr h => ?_)
  obtain ⟨b, s0, rfl, ⟨bx, d, dx, l, rs, hd, hB⟩, hl, q⟩ := h
  refine ⟨_, PSs.nox (pss_cons (ps_set (i := 1) sc_Base_copy.nd rfl (Or.inl rfl) (pe_i0 (ok_Base_init T) (hr.mono (by omega)) (by rfl)))
      (pss_cons (ps_fld (pv 1) (pe_fld (pv 0) rfl) rfl)
      (pss_cons (ps_fld (pv 1) (pe_m0 (ok_Deeds_copy T) (hr.mono (by omega)) (pe_fld (pv 0) rfl)) rfl)
      (pss_cons (ps_fld (pv 1) (pe_callTy call_dictD (by rfl) (n_dict T) (by decide +kernel) (pa_cons (pe_fld (pv 0) rfl) pa_nil)) rfl)
      (pss_one (ps_ret (pv 1))))))), ?_⟩
  walk_at "rx"
  intro x xx nx nxx nex
  refine ⟨x, xx, rfl, upd_same, fun H1 d1 dx1 l1 rs1 hd1 sx1 _ _ _ _ A1 => ⟨rfl, ?_⟩⟩
  have s1 := made_same nx nxx sx1
  have hx1 := A1.1
  have hB1 := hB.same s1
  have nbx : ∀ {p o}, H p = some o → p ≠ x := fun e z => by rw [z, nx] at e; cases e
  walk_at "rx"
  refine r_fldV rfl hB1.1 (cl_Base T.says) (na_Base_commits T.says) (bF_com _ _ _) ?_
  walk_at "rx"
  refine ⟨x, _, xx, _, rfl, hx1, cl_Base T.says, na_Base_commits T.says, lt_by rfl, ?_⟩
  show tSeq _ _ _ _ (upd H1 x (.ins (cB K) xx (putF "commits" (.int (s0.com : Nat)) (bF 0 d1 hd1))))
  rw [bF_p1]
  have S2 : Same H (upd H1 x (.ins (cB K) xx (bF s0.com d1 hd1))) := same_mut s1 nx
  have hx2 : upd H1 x (.ins (cB K) xx (bF s0.com d1 hd1)) x = some (.ins (cB K) xx (bF s0.com d1 hd1)) := upd_same
  generalize upd H1 x (.ins (cB K) xx (bF s0.com d1 hd1)) = H2 at S2 hx2
  have hB2 := hB.same S2
  walk_at "rx"
  refine r_mt (m := "copy") ?_
  refine r_fldV rfl hB2.1 (cl_Base T.says) (na_Base_deeds T.says) (bF_deeds _ _ _) ?_
  refine ⟨d, dx, _, rfl, hB2.2.1.1, dF_no (by decide +kernel), ?_⟩
  walk_at "rx"
  refine ⟨d, dx, l, rs, _, rfl, hB2.2.1, hl, fun d' dx' l' rs' H3 s3 nd' nl' nrs' A3 => ?_⟩
  have hx3 := s3 _ _ hx2
  walk_at "rx"
  refine ⟨x, _, xx, _, rfl, hx3, cl_Base T.says, na_Base_deeds T.says, lt_by rfl, ?_⟩
  rw [bF_p2]
  have nx2 : ∀ {p}, H2 p = none → p ≠ x := fun e z => by rw [z, hx2] at e; cases e
  have A4 : DA K (upd H3 x (.ins (cB K) xx (bF s0.com d' hd1))) d' dx' l' rs' s0.rows := A3.mv (Sx.refl x H3).self ((Tst.refl H3).ins hx3) (nx2 nd') (nx2 nl') (fun hm => nx2 (nrs' x hm) rfl)
  have S4 : Same H (upd H3 x (.ins (cB K) xx (bF s0.com d' hd1))) := same_mut (S2.trans s3) nx
  have hx4 : upd H3 x (.ins (cB K) xx (bF s0.com d' hd1)) x = some (.ins (cB K) xx (bF s0.com d' hd1)) := upd_same
  generalize upd H3 x (.ins (cB K) xx (bF s0.com d' hd1)) = H4 at S4 hx4 A4
  have hB4 := hB.same S4
  walk_at "rx"
  refine r_fldV rfl hB4.1 (cl_Base T.says) (na_Base_held T.says) (bF_held _ _ _) ?_
  walk_at "rx"
  obtain ⟨kvs, hk1, hk2⟩ := hB4.2.2
  refine ⟨hd, kvs, rfl, .inl hk1, fun p hp => ?_⟩
  have npx : p ≠ x := fun z => by rw [z, hx4] at hp; cases hp
  have hx5 : upd H4 p (.dK kvs) x = some (.ins (cB K) xx (bF s0.com d' hd1)) := by
    rw [upd_ne npx.symm]
    exact hx4
  walk_at "rx"
  refine ⟨x, _, xx, _, rfl, hx5, cl_Base T.says, na_Base_held T.says, lt_by rfl, ?_⟩
  rw [bF_p3]
  walk_at "rx"
  have S5 := S4.trans (same_new (o := .dK kvs) hp)
  refine q x xx d' dx' l' rs' p _ (same_mut S5 nx) nx (S2.free nd') (S2.free nl') (S4.free hp) (fun r hr => S2.free (nrs' r hr)) ⟨upd_same, ?_, kvs, ?_, ?_⟩
  · exact (A4.same (same_new hp)).mv (Sx.refl x _).self ((Tst.refl _).ins hx5) (nx2 nd') (nx2 nl') (fun hm => nx2 (nrs' x hm) rfl)
  · rw [upd_ne npx]
    exact upd_same
  · exact (hk2.ts (Tst.new hp)).ts ((Tst.refl _).ins hx5)
end
end Q

/-! ## D4 -/
set_option Elab.async false
set_option linter.all false
set_option maxRecDepth 100000
set_option maxHeartbeats 4000000
namespace Q
open PySem PySem.Spec PyProof.Rows L2
local macro_rules | `(tactic| walk_at "rd") => `(tactic| repeat (first
  | ((with_reducible apply r_var); focus exact rfl)
  | with_reducible refine r_c ?_
  | with_reducible refine r_chain ?_
  | ((with_reducible apply r_aug); focus exact rfl)
  | with_reducible refine r_ip ?_
  | with_reducible refine r_op ?_
  | with_reducible refine r_I0 ?_
  | with_reducible refine r_cons ?_
  | with_reducible refine r_nil ?_
  | with_reducible refine r_seq ?_
  | with_reducible refine r_asg ?_
  | with_reducible refine r_gn ?_
  | with_reducible refine r_gcons ?_
  | with_reducible refine r_gnil ?_
  | with_reducible refine r_lc ?_
  | with_reducible refine r_m1 ?_
  | with_reducible refine r_sfld ?_
  | with_reducible refine r_sfa ?_
  | with_reducible refine r_rAdd ?_
  | with_reducible refine r_ret ?_
  | with_reducible refine r_ifS ?_
  | with_reducible refine r_test ?_
  | with_reducible refine r_bl ?_
  | with_reducible refine r_B ?_
  | with_reducible refine r_drop ?_
  | with_reducible refine r_bm ?_
  | with_reducible refine r_CB ?_
  | with_reducible refine r_call ?_
  | with_reducible refine r_meth ?_
  | with_reducible refine r_make ?_
  | with_reducible refine r_tup ?_
  | with_reducible refine r_lst ?_
  | ((with_reducible refine r_I ?_ ?_); focus (first | decide | exact ⟨by decide, by decide⟩ | exact .inl ⟨by decide, by decide⟩ | exact .inr ⟨by decide, by decide⟩ | omega))
  | with_reducible refine r_U ?_
  | with_reducible refine r_un ?_
  | with_reducible refine r_and ?_
  | with_reducible refine r_or ?_
  | with_reducible refine r_not ?_
  | with_reducible refine r_andV ?_
  | with_reducible refine r_orV ?_
  | with_reducible refine r_notV ?_
  | with_reducible refine r_if ?_
  | with_reducible refine r_sl ?_
  | with_reducible refine r_part ?_
  | with_reducible refine r_parti ?_
  | with_reducible refine r_nopart ?_
  | with_reducible refine r_il ?_
  | with_reducible refine r_it ?_
  | with_reducible refine r_ir ?_
  | with_reducible refine r_is ?_
  | with_reducible refine r_next ?_
  | with_reducible refine r_retN ?_
  | ((with_reducible refine r_eq ?_ ?_); focus exact rfl)
  | ((with_reducible refine r_ne ?_ ?_); focus exact rfl)))
local macro_rules | `(tactic| walk_at "rx") => `(tactic| repeat (first
  | ((with_reducible apply r_var); focus exact rfl)
  | with_reducible refine r_c ?_
  | with_reducible refine r_chain ?_
  | ((with_reducible apply r_aug); focus exact rfl)
  | with_reducible refine r_ip ?_
  | with_reducible refine r_op ?_
  | with_reducible refine r_I0 ?_
  | with_reducible refine r_cons ?_
  | with_reducible refine r_nil ?_
  | with_reducible refine r_seq ?_
  | with_reducible refine r_asg ?_
  | with_reducible refine r_gn ?_
  | with_reducible refine r_gcons ?_
  | with_reducible refine r_gnil ?_
  | with_reducible refine r_m1 ?_
  | with_reducible refine r_sfld ?_
  | with_reducible refine r_sfa ?_
  | with_reducible refine r_rAdd ?_
  | with_reducible refine r_ret ?_
  | with_reducible refine r_ifS ?_
  | with_reducible refine r_test ?_
  | with_reducible refine r_bl ?_
  | with_reducible refine r_B ?_
  | with_reducible refine r_drop ?_
  | with_reducible refine r_bm ?_
  | with_reducible refine r_CB ?_
  | with_reducible refine r_call ?_
  | with_reducible refine r_make ?_
  | with_reducible refine r_tup ?_
  | with_reducible refine r_lst ?_
  | ((with_reducible refine r_I ?_ ?_); focus (first | decide | exact ⟨by decide, by decide⟩ | exact .inl ⟨by decide, by decide⟩ | exact .inr ⟨by decide, by decide⟩ | omega))
  | with_reducible refine r_U ?_
  | with_reducible refine r_un ?_
  | with_reducible refine r_and ?_
  | with_reducible refine r_or ?_
  | with_reducible refine r_not ?_
  | with_reducible refine r_andV ?_
  | with_reducible refine r_orV ?_
  | with_reducible refine r_notV ?_
  | with_reducible refine r_if ?_
  | with_reducible refine r_sl ?_
  | with_reducible refine r_part ?_
  | with_reducible refine r_parti ?_
  | with_reducible refine r_nopart ?_
  | with_reducible refine r_il ?_
  | with_reducible refine r_it ?_
  | with_reducible refine r_ir ?_
  | with_reducible refine r_is ?_
  | with_reducible refine r_next ?_
  | with_reducible refine r_retN ?_
  | ((with_reducible refine r_eq ?_ ?_); focus exact rfl)
  | ((with_reducible refine r_ne ?_ ?_); focus exact rfl)))
section
variable {P : Program} {w : World} {K : PySem.W.Frag} {mg : Str → Option Value} {base : Heap}
/-! ### cells, data, growth -/
def dBase (s : BS) : D := .tup [.int s.com, .tup (s.rows.map fun row => .tup (row.map dDeed)), .tup ((hCells s.held).map dCell)]
def BS.grow (s : BS) (ts : List Trip) (cs : List Cell) : BS := ⟨s.com + 1, ts.foldl (fun r t => addRow r t.1 t.2.2) s.rows, cs.foldl (fun f c => putF4 f c.1 c.2) s.held⟩
theorem foldl_take {α β : Type} {f : β → α → β} {b : β} {l : List α} {i : Nat} {x : α} (h : l[i]? = some x) : (l.take (i + 1)).foldl f b = f ((l.take i).foldl f b) x := by
  rw [List.take_add_one, h, List.foldl_append]
  rfl
theorem held4_some {f : Str → Option SO} {n : Str} (h : n ∈ held4 f) : ∃ so, f n = some so := by
  have := (List.mem_filter.mp h).2
  cases e : f n with
  | none =>
    rw [e] at this
    cases this
  | some so => exact ⟨so, rfl⟩
/-- (name,) + held[name] -/
theorem cat_cell {H : Hp} {Qv : VK} {p : Addr} {n : Str} {so : SO} {v : V} (hp : H p = some (.tup [.str n])) (hv : Rp H (dSO so) v) (q : ∀ r H', Same H H' → H r = none → Rp H' (dCell (n, so.1, so.2)) (.ref r) → Qv (.ref r) H') : rCatT K (.ref p) v H Qv := by
  obtain ⟨b, xs, rfl, hb, y1, _, rfl, h1, y2, _, rfl, h2, rfl⟩ := hv
  refine ⟨p, b, _, _, rfl, rfl, SqT.of hp, SqT.of hb, by simp, (show 3 ≤ sizeLine by decide), fun e => absurd e (by simp), fun _ r hr => ?_⟩
  refine q r _ (same_new hr) hr (Rp.tupOf upd_same (RpL.cons rfl (RpL.cons (h1.ts (Tst.new hr)) (RpL.cons (h2.ts (Tst.new hr)) RpL.nil))))
theorem r_dput {σ : L2.St} {H : Hp} {Dn : Ends} {td ty tv : TE} (h : tv σ H fun v H1 => td σ H1 fun x H2 => ty σ H2 fun y H3 => ∃ a H4, x = .ref a ∧ DPut H3 a y v H4 ∧ Dn.nx σ H4) : sDPut td ty tv Dn σ H := h
theorem r_dget {σ : L2.St} {H : Hp} {Qv : VK} {td ty : TE} (h : td σ H fun x H1 => ty σ H1 fun y H2 => ∃ a v, x = .ref a ∧ DGet H2 a y (some v) ∧ Qv v H2) : tDGet td ty σ H Qv := h
def spCells (K : PySem.W.Frag) : Sp := fun vs H Q _ => ∃ b s, vs = [.ref b] ∧ BaseAt K H b s ∧ ∀ D0 ys H', Same H H' → H D0 = none → H' D0 = some (.lst ys) → RpL H' ((hCells s.held).map dCell) ys → Q (.ref D0) H'
theorem ok_Base_cells  (T : Txt K mg) : Mc P w K mg base CX0 (1) "Base" "cells" ["self"] (spCells K) := by
  refine ⟨?_, me_Base_cells T.says, (fd_Base_cells T.says).bindsN fun _ _ _ _ _ _ us hl => match us, hl with | [_], _ => rfl, cl_Base T.says⟩
  refine (fd_Base_cells T.says).ok sc_Base_cells (fun vs H Q E h => by first | (obtain ⟨_, rfl, _⟩ := h; rfl) | (obtain ⟨_, _, rfl, _⟩ := h; rfl) | (obtain ⟨_, _, _, rfl, _⟩ := h; rfl) | (obtain ⟨_, _, _, _, rfl, _⟩ := h; rfl) | (obtain ⟨_, _, _, _, _, rfl, _⟩ := h; rfl) | (obtain ⟨_, _, _, _, _, _, rfl, _⟩ := h; rfl) | (obtain ⟨_, _, _, _, _, _, _, rfl, _⟩ := h; rfl) | (obtain ⟨_, _, _, _, _, _, _, _, rfl, _⟩ := h; rfl) | (obtain ⟨_, _, _, _, _, _, _, _, _, rfl, _⟩ := h; rfl)) (fun cdv A outer s H vs Q E hr h => ?_)
  obtain ⟨b, s0, rfl, ⟨bx, d, dx, l, rs, hd, hB⟩, q⟩ := h
  refine ⟨_, PSs.nox (pss_one (ps_ret (pe_lc (own := [("name", 1)]) (g := gName 1) (tt := tYes) rfl sc_Base_cells.nd (pi_list (pe_callB (call_sortedD rfl) (by rfl) (n_sorted T) (by decide +kernel) (pa_cons (pe_fld (pv 0) rfl) pa_nil))) (blkOk_by (N := ["self", "name"]) (sc := defScope s_Base_cells) (by decide +kernel)) (fun _ _ _ _ _ => (pg_name (i := 1) sc_Base_cells.nd rfl (Or.inl rfl))) (fun _ _ _ _ _ => pts_nil) (fun _ _ _ _ _ => by (apply pe_cast (pe_op op_catT (pe_tup (pa_cons (pv 1) pa_nil)) (pe_dget (hu_of hr) (pe_fld (pv 0) rfl) (pv 1) (fun _ _ => rfl)))); (try dsimp only [L2.Cx.blk]) <;> exact rfl)))), ?_⟩
  walk_at "rx"
  refine r_lc ?_
  walk_at "rx"
  refine r_fldV rfl hB.1 (cl_Base T.says) (na_Base_held T.says) (bF_held _ _ _) ?_
  walk_at "rx"
  obtain ⟨kvs, hk1, hk2⟩ := id hB.2.2
  obtain ⟨ks, hks, h64, hsort⟩ := hk2.keys
  refine ⟨hd, kvs, ks, rfl, .inl hk1, hks, h64, fun ys p hperm hs hp => ?_⟩
  have eys := hsort ys hperm hs
  subst eys
  have s1 := same_new (o := .lst ((held4 s0.held).map V.str)) hp
  refine ⟨p, rfl, ⟨_, SqL.of upd_same⟩, fun D0 hD => ?_⟩
  have hlen : (held4 s0.held).length ≤ 4 := List.length_filter_le _ _
  have hl2 : (hCells s0.held).length = (held4 s0.held).length := by rw [hCells_held, List.length_map]
  refine lc_rp (xs := (held4 s0.held).map V.str) (ds := (hCells s0.held).map dCell) (Fr := Same) (Wk.lst (I := fun H' => Same (upd H p (.lst ((held4 s0.held).map V.str))) H') fun H' s => s _ _ upd_same) FrmOk.same hD (fun _ s => s) (by rw [List.length_map, List.length_map, hl2]) (by rw [List.length_map]; exact Nat.le_trans hlen (by decide)) ?_ ?_
  · intro i x dd H2 Q2 hx hdd s2 k
    obtain ⟨n, hn, rfl⟩ := getElem_map_some hx
    obtain ⟨so, eso⟩ := held4_some (List.mem_of_getElem? hn)
    rw [hCells_held, List.map_map, List.getElem?_map, hn] at hdd
    have edd : dCell (n, so.1, so.2) = dd := by
      have := Option.some.inj hdd
      rw [← this]
      show _ = dCell (n, ((s0.held n).getD _).1, ((s0.held n).getD _).2)
      rw [eso]
      rfl
    have s12 := s1.trans s2
    have hB2 := hB.same s12
    refine ⟨wipe1, ?_⟩
    walk_at "rx"
    refine ⟨le_line rfl, fun p3 hp3 => ?_⟩
    have s3 := same_new (o := .tup [.str n]) hp3
    have hB3 := hB2.same s3
    walk_at "rx"
    obtain ⟨kvs3, hk3, hk4⟩ := hB3.2.2
    have hv := hk4.2.2 n
    rw [eso] at hv
    obtain ⟨v, hv1, hv2⟩ := hv
    show tFld _ _ _ _ _ _
    refine r_fldV rfl hB3.1 (cl_Base T.says) (na_Base_held T.says) (bF_held _ _ _) ?_
    walk_at "rx"
    refine ⟨hd, v, rfl, by rw [← hv1]; exact DGet.k (k := .inr n) hk3, ?_⟩
    refine cat_cell upd_same hv2 fun r H4 s4 hr hR => ?_
    rw [edd] at hR
    exact k _ H4 (s3.trans s4) hR
  · intro H2 ys s2 eD hys
    exact q D0 ys H2 (s1.trans s2) (s1.free hD) eD hys
/-- what is told of a base -/
def spData (K : PySem.W.Frag) : Sp := fun vs H Q _ => ∃ b s, vs = [.ref b] ∧ BaseAt K H b s ∧ s.rows.length ≤ cap ∧ ∀ v H', Same H H' → Rp H' (dBase s) v → Q v H'
theorem ok_Base_data  (T : Txt K mg) : Mc P w K mg base CX0 (2) "Base" "data" ["self"] (spData K) := by
  refine ⟨?_, me_Base_data T.says, (fd_Base_data T.says).bindsN fun _ _ _ _ _ _ us hl => match us, hl with | [_], _ => rfl, cl_Base T.says⟩
  refine (fd_Base_data T.says).ok sc_Base_data (fun vs H Q E h => by first | (obtain ⟨_, rfl, _⟩ := h; rfl) | (obtain ⟨_, _, rfl, _⟩ := h; rfl) | (obtain ⟨_, _, _, rfl, _⟩ := h; rfl) | (obtain ⟨_, _, _, _, rfl, _⟩ := h; rfl) | (obtain ⟨_, _, _, _, _, rfl, _⟩ := h; rfl) | (obtain ⟨_, _, _, _, _, _, rfl, _⟩ := h; rfl) | (obtain ⟨_, _, _, _, _, _, _, rfl, _⟩ := h; rfl) | (obtain ⟨_, _, _, _, _, _, _, _, rfl, _⟩ := h; rfl) | (obtain ⟨_, _, _, _, _, _, _, _, _, rfl, _⟩ := h; rfl)) (fun cdv A outer s H vs Q E hr h => ?_)
  obtain ⟨b, s0, rfl, ⟨bx, d, dx, l, rs, hd, hB⟩, hl, q⟩ := h
  refine ⟨_, PSs.nox (pss_one (ps_ret (pe_tup (pa_cons (pe_fld (pv 0) rfl) (pa_cons (pe_callTy call_tuple_of (by rfl) (n_tuple T) (by decide +kernel) (pa_cons (pe_lc (own := [("row", 1)]) (g := gName 1) (tt := tYes) rfl sc_Base_data.nd (pi_list (pe_fld (pe_fld (pv 0) rfl) rfl)) (blkOk_by (N := ["self", "row"]) (sc := defScope s_Base_data) (by decide +kernel)) (fun _ _ _ _ _ => (pg_name (i := 1) sc_Base_data.nd rfl (Or.inl rfl))) (fun _ _ _ _ _ => pts_nil) (fun _ _ _ _ _ => by (apply pe_cast (pe_callTy call_tuple_of (by rfl) (n_tuple T) (by decide +kernel) (pa_cons (pv 1) pa_nil))); (try dsimp only [L2.Cx.blk]) <;> exact rfl)) pa_nil)) (pa_cons (pe_callTy call_tuple_of (by rfl) (n_tuple T) (by decide +kernel) (pa_cons (pe_m0 (ok_Base_cells T) (hr.mono (by omega)) (pv 0)) pa_nil)) pa_nil)))))), ?_⟩
  walk_at "rx"
  refine r_fldV rfl hB.1 (cl_Base T.says) (na_Base_commits T.says) (bF_com _ _ _) ?_
  walk_at "rx"
  refine r_lc ?_
  walk_at "rx"
  refine r_fld ?_
  refine r_fldV rfl hB.1 (cl_Base T.says) (na_Base_deeds T.says) (bF_deeds _ _ _) ?_
  refine ⟨d, _, dx, _, _, rfl, hB.2.1.1, cl_Deeds T.says, na_Deeds_rows T.says, dF_rows l, ?_⟩
  walk_at "rx"
  have hrows := hB.2.1.2
  refine ⟨l, rfl, ⟨_, SqL.of hrows.1⟩, fun D0 hD => ?_⟩
  refine lc_rp (xs := rs.map V.ref) (ds := s0.rows.map fun row => .tup (row.map dDeed)) (Fr := Same) (Wk.lst (I := fun H' => Same H H') fun H' s => s _ _ hrows.1) FrmOk.same hD (fun _ s => s) (by rw [List.length_map, List.length_map, hrows.2.1]) (by rw [List.length_map, hrows.2.1]; exact hl) ?_ ?_
  · intro i x dd H2 Q2 hx hdd s2 k
    obtain ⟨r, row, ys, hr, rfl, er, _, er2, er3⟩ := rows_get (hrows.same s2) hx
    refine ⟨wipe1, ?_⟩
    walk_at "rx"
    refine ⟨r, ys, rfl, .inl ⟨SqL.of er2, fun p hp => ?_⟩⟩
    rw [List.getElem?_map, er] at hdd
    obtain rfl : D.tup (row.map dDeed) = dd := Option.some.inj hdd
    exact k _ _ (same_new hp) (Rp.tupOf upd_same (er3.ts (Tst.new hp)))
  · intro H2 ys s2 eD hys
    walk_at "rx"
    refine ⟨D0, ys, rfl, .inl ⟨SqL.of eD, fun p hp => ?_⟩⟩
    have s3 := s2.trans (same_new (o := .tup ys) hp)
    have hB3 := hB.same s3
    have R3 : Rp (upd H2 p (.tup ys)) (.tup (s0.rows.map fun row => .tup (row.map dDeed))) (.ref p) := Rp.tupOf upd_same (hys.ts (Tst.new hp))
    generalize upd H2 p (.tup ys) = H3 at s3 hB3 R3
    walk_at "rx"
    refine r_mt (m := "cells") ⟨_, rfl, b, bx, _, rfl, hB3.1, bF_no (by decide +kernel), ?_⟩
    walk_at "rx"
    refine ⟨b, s0, rfl, ⟨bx, d, dx, l, rs, hd, hB3⟩, fun D4 zs H4 s4 n4 e4 h4 => ?_⟩
    walk_at "rx"
    refine ⟨D4, zs, rfl, .inl ⟨SqL.of e4, fun p5 hp5 => ?_⟩⟩
    walk_at "rx"
    refine ⟨le_line rfl, fun p6 hp6 => ?_⟩
    have t6 := (Tst.new (o := .tup [.int (s0.com : Nat), .ref p, .ref p5]) hp6)
    refine q _ _ (((s3.trans s4).trans (same_new hp5)).trans (same_new hp6)) (Rp.tupOf upd_same (RpL.cons rfl (RpL.cons (((R3.ts (Tst.same s4)).ts (Tst.new hp5)).ts t6) (RpL.cons (Rp.ts t6 (Rp.tupOf upd_same (h4.ts (Tst.new hp5)))) RpL.nil))))
def spGrown (K : PySem.W.Frag) : Sp := fun vs H Q _ => ∃ b s a1 a2, ∃ ts : List Trip, ∃ cs : List Cell, ∃ ys1 ys2, ∃ R : Nat, vs = [.ref b, .ref a1, .ref a2] ∧ BaseAt K H b s ∧ H a1 = some (.lst ys1) ∧ RpL H (ts.map dTrip) ys1 ∧ H a2 = some (.lst ys2) ∧ RpL H (cs.map dCell) ys2 ∧
  (∀ t ∈ ts, t.1 < s.rows.length) ∧ (∀ c ∈ cs, c.1 ∈ names4) ∧ s.rows.length ≤ cap ∧ (∀ row ∈ s.rows, row.length ≤ R) ∧ R + ts.length ≤ cap ∧ ∀ b' H', Same H H' → H b' = none → BaseAt K H' b' (s.grow ts cs) → Q (.ref b') H'
theorem addRow_len {rows : List (List Deed)} {i : Nat} {d : Deed} : (addRow rows i d).length = rows.length := by rw [addRow, List.length_set]
theorem rows_len {ts : List Trip} {rows : List (List Deed)} : (ts.foldl (fun r t => addRow r t.1 t.2.2) rows).length = rows.length := by
  induction ts generalizing rows with
  | nil => rfl
  | cons t r ih => rw [List.foldl_cons, ih, addRow_len]
theorem addRow_le {rows : List (List Deed)} {i R : Nat} {d : Deed} (h : ∀ row ∈ rows, row.length ≤ R) : ∀ row ∈ addRow rows i d, row.length ≤ R + 1 := by
  intro row hm
  unfold addRow at hm
  rcases List.mem_or_eq_of_mem_set hm with hm | e
  · exact Nat.le_succ_of_le (h row hm)
  · rw [e, List.length_append]
    have : (rows.getD i []).length ≤ R := by
      rw [List.getD_eq_getElem?_getD]
      cases e : rows[i]? with
      | none => exact Nat.zero_le _
      | some r => exact h r (List.mem_of_getElem? e)
    exact Nat.succ_le_succ this
theorem heldP_few {H : Hp} {kvs : List (Key × V)} {f : Str → Option SO} (h : HeldP H kvs f) : kvs.length < sizeLine := by
  obtain ⟨ks, e, h64, _⟩ := h.keys
  have := congrArg List.length e
  rw [List.length_map, List.length_map] at this
  rw [this]
  exact Nat.lt_of_lt_of_le h64 (by decide)
theorem ok_Base_grown  (T : Txt K mg) : Mc P w K mg base CX0 (6) "Base" "grown" ["self", "triples", "cells"] (spGrown K) := by
  refine ⟨?_, me_Base_grown T.says, (fd_Base_grown T.says).bindsN fun _ _ _ _ _ _ us hl => match us, hl with | [_, _, _], _ => rfl, cl_Base T.says⟩
  refine (fd_Base_grown T.says).ok sc_Base_grown (fun vs H Q E h => by first | (obtain ⟨_, rfl, _⟩ := h; rfl) | (obtain ⟨_, _, rfl, _⟩ := h; rfl) | (obtain ⟨_, _, _, rfl, _⟩ := h; rfl) | (obtain ⟨_, _, _, _, rfl, _⟩ := h; rfl) | (obtain ⟨_, _, _, _, _, rfl, _⟩ := h; rfl) | (obtain ⟨_, _, _, _, _, _, rfl, _⟩ := h; rfl) | (obtain ⟨_, _, _, _, _, _, _, rfl, _⟩ := h; rfl) | (obtain ⟨_, _, _, _, _, _, _, _, rfl, _⟩ := h; rfl) | (obtain ⟨_, _, _, _, _, _, _, _, _, rfl, _⟩ := h; rfl)) (fun cdv A outer s H vs Q E hr h => ?_)
  obtain ⟨b, s0, a1, a2, ts, cs, ys1, ys2, R, rfl, ⟨bx, d, dx, l, rs, hd, hB⟩, e1, h1, e2, h2, ht, hc, hl, hR, hRt, q⟩ := h
  refine ⟨_, PSs.nox (pss_cons (ps_set (i := 3) sc_Base_grown.nd rfl (Or.inl rfl) (pe_m0 (ok_Base_copy T) (hr.mono (by omega)) (pv 0)))
      (pss_cons (ps_for PassesOwn.never rfl (pi_list (pv 1)) (pg_tup rfl (pgs_cons (pg_name (i := 4) sc_Base_grown.nd rfl (Or.inl rfl)) (pgs_cons (pg_name (i := 5) sc_Base_grown.nd rfl (Or.inl rfl)) (pgs_cons (pg_name (i := 6) sc_Base_grown.nd rfl (Or.inl rfl)) pgs_nil)))) (pss_one (ps_expr (pe_m (ok_Deeds_add T) (hr.mono (by omega)) (pe_fld (pv 3) rfl) (pa_cons (pv 4) (pa_cons (pv 6) pa_nil))))))
      (pss_cons (ps_for PassesOwn.never rfl (pi_list (pv 2)) (pg_tup rfl (pgs_cons (pg_name (i := 7) sc_Base_grown.nd rfl (Or.inl rfl)) (pgs_cons (pg_name (i := 8) sc_Base_grown.nd rfl (Or.inl rfl)) (pgs_cons (pg_name (i := 9) sc_Base_grown.nd rfl (Or.inl rfl)) pgs_nil)))) (pss_one (ps_dput (hu_of hr) (pe_fld (pv 3) rfl) (pv 7) (pe_tup (pa_cons (pv 8) (pa_cons (pv 9) pa_nil))) rfl)))
      (pss_cons (ps_fldaug (pv 3) pe_int in_add)
      (pss_one (ps_ret (pv 3))))))), ?_⟩
  walk_at "rx"
  refine r_mt (m := "copy") ⟨_, rfl, b, bx, _, rfl, hB.1, bF_no (by decide +kernel), ?_⟩
  walk_at "rx"
  refine ⟨b, s0, rfl, ⟨bx, d, dx, l, rs, hd, hB⟩, hl, fun b' bx' d' dx' l' rs' hd' H1 s1 nb nd nl nhd nrs B1 => ?_⟩
  walk_at "rx"
  have l1 : ys1.length = ts.length := by rw [h1.length, List.length_map]
  have l2 : ys2.length = cs.length := by rw [h2.length, List.length_map]
  refine ⟨.ref a1, rfl, a1, rfl, ⟨_, SqL.of (s1 _ _ e1)⟩, for_any (xs := ys1) (Wk.lst (I := fun H' => Same H H') fun H' s => s _ _ e1) (fun i σ H' => ∃ v1 v2 v3, σ = [some (.ref b), some (.ref a1), some (.ref a2), some (.ref b'), v1, v2, v3, none, none, none] ∧ Same H H' ∧ BA K H' b' bx' d' dx' l' rs' hd' ⟨s0.com, (ts.take i).foldl (fun r t => addRow r t.1 t.2.2) s0.rows, s0.held⟩ ∧ ∀ row ∈ (ts.take i).foldl (fun r t => addRow r t.1 t.2.2) s0.rows, row.length ≤ R + i) (fun i σ H' ⟨_, _, _, _, s, _⟩ => s) ⟨none, none, none, rfl, s1, B1, hR⟩ ?_ ?_⟩
  · rintro i x σ H2 hx ⟨v1, v2, v3, rfl, s2, B2, hR2⟩
    obtain ⟨dd, hdd, hxd⟩ := (h1.ts (Tst.same s2)).at hx
    obtain ⟨t, hti, rfl⟩ := getElem_map_some hdd
    obtain ⟨p, xs, rfl, hp, y1, _, rfl, k1, y2, _, rfl, k2, y3, _, rfl, k3, rfl⟩ := hxd
    obtain rfl : y1 = .int t.1 := k1
    obtain rfl : y2 = .int t.2.1 := k2
    walk_at "rx"
    refine r_gtup hp rfl ?_
    walk_at "rx"
    refine r_mt (m := "add") ?_
    refine r_fldV rfl B2.1 (cl_Base T.says) (na_Base_deeds T.says) (bF_deeds _ _ _) ?_
    refine ⟨d', dx', _, rfl, B2.2.1.1, dF_no (by decide +kernel), ?_⟩
    walk_at "rx"
    have hlt : t.1 < rs'.length := by
      rw [B2.2.1.2.2.1]
      show _ < ((ts.take i).foldl (fun r t => addRow r t.1 t.2.2) s0.rows).length
      rw [rows_len]
      exact ht t (List.mem_of_getElem? hti)
    have hri : rs'[t.1]? = some rs'[t.1] := List.getElem?_eq_getElem hlt
    obtain ⟨ys, ey, hy⟩ := B2.2.1.2.2.2.2.2 t.1 _ hri
    have hrm := List.mem_of_getElem? hri
    have hi : i < ts.length := (List.getElem?_eq_some_iff.mp hti).1
    have hyl : ys.length ≤ cap := by
      rw [hy.length, List.length_map]
      have : ((List.foldl (fun r t => addRow r t.1 t.2.2) s0.rows (ts.take i)).getD t.1 []).length ≤ R + i := by
        rw [List.getD_eq_getElem?_getD]
        cases e : (List.foldl (fun r t => addRow r t.1 t.2.2) s0.rows (ts.take i))[t.1]? with
        | none => exact Nat.zero_le _
        | some r => exact hR2 r (List.mem_of_getElem? e)
      show ((List.foldl (fun r t => addRow r t.1 t.2.2) s0.rows (ts.take i)).getD t.1 []).length ≤ cap
      omega
    refine ⟨d', dx', l', rs', _, t.1, y3, rs'[t.1], ys, rfl, B2.2.1, hri, ey, hyl, ?_⟩
    walk_at "rx"
    have n1 : ∀ {p C dx fs}, H2 p = some (.ins C dx fs) → p ≠ rs'[t.1] := fun e z => by rw [z, ey] at e; cases e
    have n2 : ∀ {p kvs}, H2 p = some (.dK kvs) → p ≠ rs'[t.1] := fun e z => by rw [z, ey] at e; cases e
    have t3 : Tst H2 (upd H2 rs'[t.1] (.lst (ys ++ [y3]))) := (Tst.refl H2).lst ey
    rw [foldl_take hti]
    refine ⟨some (.int t.1), some (.int t.2.1), some y3, rfl, same_mut s2 (nrs _ hrm), ⟨?_, ⟨?_, B2.2.1.2.add hri ey k3⟩, ?_⟩, ?_⟩
    · rw [upd_ne (n1 B2.1)]
      exact B2.1
    · rw [upd_ne (n1 B2.2.1.1)]
      exact B2.2.1.1
    · obtain ⟨kvs, z1, z2⟩ := B2.2.2
      exact ⟨kvs, by rw [upd_ne (n2 z1)]; exact z1, z2.ts t3⟩
    · exact addRow_le hR2
  · rintro σ H2 ⟨v1, v2, v3, rfl, s2, B2, hR2⟩
    rw [l1, List.take_length] at B2
    walk_at "rx"
    refine ⟨.ref a2, rfl, a2, rfl, ⟨_, SqL.of (s2 _ _ e2)⟩, for_any (xs := ys2) (Wk.lst (I := fun H' => Same H H') fun H' s => s _ _ e2) (fun i σ H' => ∃ v4 v5 v6, σ = [some (.ref b), some (.ref a1), some (.ref a2), some (.ref b'), v1, v2, v3, v4, v5, v6] ∧ Same H H' ∧ BA K H' b' bx' d' dx' l' rs' hd' ⟨s0.com, ts.foldl (fun r t => addRow r t.1 t.2.2) s0.rows, (cs.take i).foldl (fun f c => putF4 f c.1 c.2) s0.held⟩) (fun i σ H' ⟨_, _, _, _, s, _⟩ => s) ⟨none, none, none, rfl, s2, B2⟩ ?_ ?_⟩
    · rintro i x σ H3 hx ⟨v4, v5, v6, rfl, s3, B3⟩
      obtain ⟨dd, hdd, hxd⟩ := (h2.ts (Tst.same s3)).at hx
      obtain ⟨c, hci, rfl⟩ := getElem_map_some hdd
      obtain ⟨p, xs, rfl, hp, y1, _, rfl, k1, y2, _, rfl, k2, y3, _, rfl, k3, rfl⟩ := hxd
      obtain rfl : y1 = .str c.1 := k1
      walk_at "rx"
      refine r_gtup hp rfl ?_
      walk_at "rx"
      refine r_dput ?_
      walk_at "rx"
      refine ⟨le_line rfl, fun p4 hp4 => ?_⟩
      have s4 := same_new (o := .tup [y2, y3]) hp4
      have B4 := B3.same s4
      have rv : Rp (upd H3 p4 (.tup [y2, y3])) (dSO c.2) (.ref p4) := Rp.tupOf upd_same (RpL.cons (k2.ts (Tst.new hp4)) (RpL.cons (k3.ts (Tst.new hp4)) RpL.nil))
      have s5 := s3.trans s4
      generalize upd H3 p4 (.tup [y2, y3]) = H4 at s4 B4 rv s5
      refine r_fldV rfl B4.1 (cl_Base T.says) (na_Base_held T.says) (bF_held _ _ _) ?_
      obtain ⟨kvs, z1, z2⟩ := id B4.2.2
      walk_at "rx"
      refine ⟨hd', _, rfl, DPut.k (k := .inr c.1) z1 (heldP_few z2), ?_⟩
      have n1 : ∀ {p C dx fs}, H4 p = some (.ins C dx fs) → p ≠ hd' := fun e z => by rw [z, z1] at e; cases e
      have n3 : ∀ {p ys}, H4 p = some (.lst ys) → p ≠ hd' := fun e z => by rw [z, z1] at e; cases e
      have t5 : Tst H4 (upd H4 hd' (.dK (putK kvs (.inr c.1) (.ref p4)))) := (Tst.refl H4).dK z1
      rw [foldl_take hci]
      refine ⟨some (.str c.1), some y2, some y3, rfl, same_mut s5 nhd, ⟨?_, B4.2.1.mv (Sx.refl hd' H4).self t5 (n1 B4.2.1.1) (n3 B4.2.1.2.1) ?_, ?_⟩⟩
      · rw [upd_ne (n1 B4.1)]
        exact B4.1
      · intro hm
        obtain ⟨j, hj, ej⟩ := List.getElem_of_mem hm
        obtain ⟨ys, ey, _⟩ := B4.2.1.2.2.2.2.2 j hd' (by rw [List.getElem?_eq_getElem hj, ej])
        exact n3 ey rfl
      · exact ⟨_, upd_same, (z2.put (hc c (List.mem_of_getElem? hci)) rv).ts t5⟩
    · rintro σ H3 ⟨v4, v5, v6, rfl, s3, B3⟩
      rw [l2, List.take_length] at B3
      walk_at "rx"
      refine ⟨b', _, bx', _, _, rfl, B3.1, cl_Base T.says, na_Base_commits T.says, bF_com _ _ _, ?_⟩
      walk_at "rx"
      refine ⟨bx', _, B3.1, lt_by rfl, ?_⟩
      have e0 : putF "commits" (.int ((s0.com : Int) + 1)) (bF s0.com d' hd') = bF (s0.com + 1) d' hd' := put_hd
      rw [e0]
      walk_at "rx"
      have nb' : ∀ {p}, H p = none → p ≠ b' → True := fun _ _ => trivial
      refine q b' _ (same_mut s3 nb) nb ⟨bx', d', dx', l', rs', hd', upd_same, ?_, ?_⟩
      · refine B3.2.1.mv (Sx.refl b' H3).self ((Tst.refl H3).ins B3.1) (fun z => ?_) (fun z => ?_) (fun hm => ?_)
        · have e5 := B3.2.1.1
          rw [z, B3.1] at e5
          injection e5 with e5
          injection e5 with _ _ e6
          have := congrArg List.length e6
          cases this
        · have e5 := B3.2.1.2.1
          rw [z, B3.1] at e5
          cases e5
        · obtain ⟨j, hj, ej⟩ := List.getElem_of_mem hm
          obtain ⟨ys, ey, _⟩ := B3.2.1.2.2.2.2.2 j b' (by rw [List.getElem?_eq_getElem hj, ej])
          rw [B3.1] at ey
          cases ey
      · obtain ⟨kvs, z1, z2⟩ := B3.2.2
        refine ⟨kvs, ?_, z2.ts ((Tst.refl H3).ins B3.1)⟩
        rw [upd_ne (fun z => by rw [z, B3.1] at z1; cases z1)]
        exact z1
end
end Q

/-! ## L1 -/
set_option Elab.async false
set_option linter.all false
set_option maxRecDepth 100000
set_option maxHeartbeats 4000000
namespace Q
open PySem PySem.Spec PyProof.Rows L2
local macro_rules | `(tactic| walk_at "rd") => `(tactic| repeat (first
  | ((with_reducible apply r_var); focus exact rfl)
  | with_reducible refine r_c ?_
  | with_reducible refine r_chain ?_
  | ((with_reducible apply r_aug); focus exact rfl)
  | with_reducible refine r_ip ?_
  | with_reducible refine r_op ?_
  | with_reducible refine r_I0 ?_
  | with_reducible refine r_cons ?_
  | with_reducible refine r_nil ?_
  | with_reducible refine r_seq ?_
  | with_reducible refine r_asg ?_
  | with_reducible refine r_gn ?_
  | with_reducible refine r_gcons ?_
  | with_reducible refine r_gnil ?_
  | with_reducible refine r_lc ?_
  | with_reducible refine r_m1 ?_
  | with_reducible refine r_sfld ?_
  | with_reducible refine r_sfa ?_
  | with_reducible refine r_rAdd ?_
  | with_reducible refine r_ret ?_
  | with_reducible refine r_ifS ?_
  | with_reducible refine r_test ?_
  | with_reducible refine r_bl ?_
  | with_reducible refine r_B ?_
  | with_reducible refine r_drop ?_
  | with_reducible refine r_bm ?_
  | with_reducible refine r_CB ?_
  | with_reducible refine r_call ?_
  | with_reducible refine r_meth ?_
  | with_reducible refine r_make ?_
  | with_reducible refine r_tup ?_
  | with_reducible refine r_lst ?_
  | ((with_reducible refine r_I ?_ ?_); focus (first | decide | exact ⟨by decide, by decide⟩ | exact .inl ⟨by decide, by decide⟩ | exact .inr ⟨by decide, by decide⟩ | omega))
  | with_reducible refine r_U ?_
  | with_reducible refine r_un ?_
  | with_reducible refine r_and ?_
  | with_reducible refine r_or ?_
  | with_reducible refine r_not ?_
  | with_reducible refine r_andV ?_
  | with_reducible refine r_orV ?_
  | with_reducible refine r_notV ?_
  | with_reducible refine r_if ?_
  | with_reducible refine r_sl ?_
  | with_reducible refine r_part ?_
  | with_reducible refine r_parti ?_
  | with_reducible refine r_nopart ?_
  | with_reducible refine r_il ?_
  | with_reducible refine r_it ?_
  | with_reducible refine r_ir ?_
  | with_reducible refine r_is ?_
  | with_reducible refine r_next ?_
  | with_reducible refine r_retN ?_
  | ((with_reducible refine r_eq ?_ ?_); focus exact rfl)
  | ((with_reducible refine r_ne ?_ ?_); focus exact rfl)))
local macro_rules | `(tactic| walk_at "rx") => `(tactic| repeat (first
  | ((with_reducible apply r_var); focus exact rfl)
  | with_reducible refine r_c ?_
  | with_reducible refine r_chain ?_
  | ((with_reducible apply r_aug); focus exact rfl)
  | with_reducible refine r_ip ?_
  | with_reducible refine r_op ?_
  | with_reducible refine r_I0 ?_
  | with_reducible refine r_cons ?_
  | with_reducible refine r_nil ?_
  | with_reducible refine r_seq ?_
  | with_reducible refine r_asg ?_
  | with_reducible refine r_gn ?_
  | with_reducible refine r_gcons ?_
  | with_reducible refine r_gnil ?_
  | with_reducible refine r_m1 ?_
  | with_reducible refine r_sfld ?_
  | with_reducible refine r_sfa ?_
  | with_reducible refine r_rAdd ?_
  | with_reducible refine r_ret ?_
  | with_reducible refine r_ifS ?_
  | with_reducible refine r_test ?_
  | with_reducible refine r_bl ?_
  | with_reducible refine r_B ?_
  | with_reducible refine r_drop ?_
  | with_reducible refine r_bm ?_
  | with_reducible refine r_CB ?_
  | with_reducible refine r_call ?_
  | with_reducible refine r_make ?_
  | with_reducible refine r_tup ?_
  | with_reducible refine r_lst ?_
  | ((with_reducible refine r_I ?_ ?_); focus (first | decide | exact ⟨by decide, by decide⟩ | exact .inl ⟨by decide, by decide⟩ | exact .inr ⟨by decide, by decide⟩ | omega))
  | with_reducible refine r_U ?_
  | with_reducible refine r_un ?_
  | with_reducible refine r_and ?_
  | with_reducible refine r_or ?_
  | with_reducible refine r_not ?_
  | with_reducible refine r_andV ?_
  | with_reducible refine r_orV ?_
  | with_reducible refine r_notV ?_
  | with_reducible refine r_if ?_
  | with_reducible refine r_sl ?_
  | with_reducible refine r_part ?_
  | with_reducible refine r_parti ?_
  | with_reducible refine r_nopart ?_
  | with_reducible refine r_il ?_
  | with_reducible refine r_it ?_
  | with_reducible refine r_ir ?_
  | with_reducible refine r_is ?_
  | with_reducible refine r_next ?_
  | with_reducible refine r_retN ?_
  | ((with_reducible refine r_eq ?_ ?_); focus exact rfl)
  | ((with_reducible refine r_ne ?_ ?_); focus exact rfl)))
section
variable {P : Program} {w : World} {K : PySem.W.Frag} {mg : Str → Option Value} {base : Heap}
/-! ### the log, written -/
def wRows (rows : List (List Deed)) : List Nat := (rows.map (wL wDeed)).flatten
def wBase (s : BS) : List Nat := wNum s.com ++ wRows s.rows ++ wL wCell (hCells s.held)
def spWB (K : PySem.W.Frag) : Sp := fun vs H Q _ => ∃ b s, vs = [.ref b] ∧ BaseAt K H b s ∧ (∀ c ∈ hCells s.held, okO c.2.2) ∧ (wBase s).length ≤ cap ∧ RetB H Q (wBase s)
theorem wL_pos {α : Type} (w : α → List Nat) (l : List α) : 0 < (wL w l).length := by
  have := wNum_pos l.length
  rw [wL, List.length_append]
  omega
theorem wRows_at {rows : List (List Deed)} {i : Nat} {row : List Deed} (h : rows[i]? = some row) : wRows (rows.take (i + 1)) = wRows (rows.take i) ++ wL wDeed row := by
  unfold wRows
  rw [List.take_add_one, h, List.map_append, List.flatten_append]
  simp
theorem wRows_le (rows : List (List Deed)) (i : Nat) : (wRows (rows.take i)).length ≤ (wRows rows).length := by
  unfold wRows
  rw [List.map_take]
  exact flatten_take_le _ _
theorem ok_write_base  (T : Txt K mg) : Fc P w K mg base CX0 (48) "_write_base" ["base"] (spWB K) := by
  refine ⟨?_, gm_write_base T, (fd_write_base T.says).kp, (fd_write_base T.says).bindsN fun _ _ _ _ _ _ us hl => match us, hl with | [_], _ => rfl⟩
  refine (fd_write_base T.says).ok sc_write_base (fun vs H Q E h => by first | (obtain ⟨_, rfl, _⟩ := h; rfl) | (obtain ⟨_, _, rfl, _⟩ := h; rfl) | (obtain ⟨_, _, _, rfl, _⟩ := h; rfl) | (obtain ⟨_, _, _, _, rfl, _⟩ := h; rfl) | (obtain ⟨_, _, _, _, _, rfl, _⟩ := h; rfl) | (obtain ⟨_, _, _, _, _, _, rfl, _⟩ := h; rfl) | (obtain ⟨_, _, _, _, _, _, _, rfl, _⟩ := h; rfl) | (obtain ⟨_, _, _, _, _, _, _, _, rfl, _⟩ := h; rfl) | (obtain ⟨_, _, _, _, _, _, _, _, _, rfl, _⟩ := h; rfl)) (fun cdv A outer s H vs Q E hr h => ?_)
  obtain ⟨b, s0, rfl, ⟨bx, d, dx, l, rs, hd, hB⟩, ho, hl, q⟩ := h
  have hl2 : (wNum s0.com).length + (wRows s0.rows).length + (wL wCell (hCells s0.held)).length ≤ cap := by
    rw [← List.length_append, ← List.length_append]
    exact hl
  have hrows := hB.2.1.2
  refine ⟨_, PSs.nox (pss_cons (ps_set (i := 1) sc_write_base.nd rfl (Or.inl rfl) (pe_f (ok_write_number T) (hr.mono (by omega)) (by rfl) (pa_cons (pe_fld (pv 0) rfl) pa_nil)))
      (pss_cons (ps_for PassesOwn.never rfl (pi_list (pe_fld (pe_fld (pv 0) rfl) rfl)) (pg_name (i := 2) sc_write_base.nd rfl (Or.inl rfl)) (pss_one (ps_expr (pe_bm PySem.F.plainAttrs_list PySem.F.slot_list_extend PySem.F.type_list_extend mt_extend (pv 1) (pa_cons (pe_f (ok_write_list T) (hr.mono (by omega)) (by rfl) (pa_cons (pe_lc (own := [("deed", 3)]) (g := gName 3) (tt := tYes) rfl sc_write_base.nd (pi_list (pv 2)) (blkOk_by (N := ["base", "data", "row", "deed"]) (sc := defScope s_write_base) (by decide +kernel)) (fun _ _ _ _ _ => (pg_name (i := 3) sc_write_base.nd rfl (Or.inl rfl))) (fun _ _ _ _ _ => pts_nil) (fun _ _ _ _ _ => (pe_f (ok_write_deed T) (hr.mono (by omega)) (by rfl) (pa_cons (pv 3) pa_nil)))) pa_nil)) pa_nil)))))
      (pss_one (ps_ret (pe_op op_cat (pv 1) (pe_f (ok_write_cells T) (hr.mono (by omega)) (by rfl) (pa_cons (pe_m0 (ok_Base_cells T) (hr.mono (by omega)) (pv 0)) pa_nil))))))), ?_⟩
  walk_at "rx"
  refine r_fldV rfl hB.1 (cl_Base T.says) (na_Base_commits T.says) (bF_com _ _ _) ?_
  walk_at "rx"
  refine ⟨_, s0.com, rfl, rfl, by omega, fun H1 p s1 n1 e1 => ?_⟩
  walk_at "rx"
  refine r_fld ?_
  have hB1 := hB.same s1
  refine r_fldV rfl hB1.1 (cl_Base T.says) (na_Base_deeds T.says) (bF_deeds _ _ _) ?_
  refine ⟨d, _, dx, _, _, rfl, hB1.2.1.1, cl_Deeds T.says, na_Deeds_rows T.says, dF_rows l, ?_⟩
  refine ⟨l, rfl, ⟨_, SqL.of hB1.2.1.2.1⟩, for_any (xs := rs.map V.ref) (Wk.lst (I := fun H' => Same H H') fun H' s => s _ _ hrows.1) (fun i σ H' => ∃ v, σ = [some (.ref b), some (.ref p), v, none] ∧ Same H H' ∧ H' p = some (bL (wNum s0.com ++ wRows (s0.rows.take i)))) (fun i σ H' ⟨_, _, s, _⟩ => s) ⟨none, rfl, s1, by rw [e1]; simp [wRows]⟩ ?_ ?_⟩
  · rintro i x σ H2 hx ⟨v, rfl, s2, e2⟩
    obtain ⟨r, row, ys, hr, rfl, er, _, er2, er3⟩ := rows_get (hrows.same s2) hx
    have hle := wRows_le s0.rows (i + 1)
    rw [wRows_at er, List.length_append] at hle
    walk_at "rx"
    refine ⟨ty_l e2, ?_⟩
    walk_at "rx"
    refine r_lc ?_
    walk_at "rx"
    refine ⟨r, rfl, ⟨_, SqL.of er2⟩, fun D0 hD => ?_⟩
    refine lc_wi (w := wDeed) (d := dDeed) (l := row) (Wk.lst fun H' s => s _ _ er2) (lt_by rfl) er3 (by omega) (Nat.le_trans (wL_ge wDeed_pos) (by omega)) hD fun H4 ps s4 e4 b4 => ?_
    walk_at "rx"
    refine ⟨D0, ps, _, rfl, e4, b4, by rw [wL_len]; omega, fun H6 p6 s6 n6 e6 => ?_⟩
    rw [wL_len] at e6
    walk_at "rx"
    refine r_extend ((s4.trans s6) _ _ e2) e6 (by rw [List.length_append]; omega) ?_
    walk_at "rx"
    refine ⟨some (.ref r), rfl, same_mut ((s2.trans s4).trans s6) n1, ?_⟩
    rw [upd_same, wRows_at er, List.append_assoc]
  · rintro σ H2 ⟨v, rfl, s2, e2⟩
    rw [List.length_map, hrows.2.1, List.take_length] at e2
    have hB2 := hB.same s2
    walk_at "rx"
    refine r_mt (m := "cells") ⟨_, rfl, b, bx, _, rfl, hB2.1, bF_no (by decide +kernel), ?_⟩
    walk_at "rx"
    refine ⟨b, s0, rfl, ⟨bx, d, dx, l, rs, hd, hB2⟩, fun D0 ys H3 s3 n3 e3 h3 => ?_⟩
    walk_at "rx"
    refine ⟨D0, ys, _, rfl, e3, h3, ho, by omega, fun H4 p4 s4 n4 e4 => ?_⟩
    have s24 := s3.trans s4
    exact r_cat (s24 _ _ e2) e4 (by rw [List.length_append]; omega) fun r hr => q.upd (s2.trans s24) hr rfl
def wHead (t : Nat) (s : BS) : List Nat := wRec (1 :: wNum t) ++ wRec (3 :: wBase s) ++ wRec [2]
def wNote (ts : List Trip) (cs : List Cell) : List Nat := wRec (4 :: wGroup ts cs)
def spLS (K : PySem.W.Frag) : Sp := fun vs H Q _ => ∃ t : Nat, ∃ b s, vs = [.int t, .ref b] ∧ BaseAt K H b s ∧ (∀ c ∈ hCells s.held, okO c.2.2) ∧ (wHead t s).length ≤ cap ∧ RetB H Q (wHead t s)
theorem ok_log_start  (T : Txt K mg) : Fc P w K mg base CX0 (49) "log_start" ["turn", "base"] (spLS K) := by
  refine ⟨?_, gm_log_start T, (fd_log_start T.says).kp, (fd_log_start T.says).bindsN fun _ _ _ _ _ _ us hl => match us, hl with | [_, _], _ => rfl⟩
  refine (fd_log_start T.says).ok sc_log_start (fun vs H Q E h => by first | (obtain ⟨_, rfl, _⟩ := h; rfl) | (obtain ⟨_, _, rfl, _⟩ := h; rfl) | (obtain ⟨_, _, _, rfl, _⟩ := h; rfl) | (obtain ⟨_, _, _, _, rfl, _⟩ := h; rfl) | (obtain ⟨_, _, _, _, _, rfl, _⟩ := h; rfl) | (obtain ⟨_, _, _, _, _, _, rfl, _⟩ := h; rfl) | (obtain ⟨_, _, _, _, _, _, _, rfl, _⟩ := h; rfl) | (obtain ⟨_, _, _, _, _, _, _, _, rfl, _⟩ := h; rfl) | (obtain ⟨_, _, _, _, _, _, _, _, _, rfl, _⟩ := h; rfl)) (fun cdv A outer s H vs Q E hr h => ?_)
  obtain ⟨t, b, s0, rfl, hB, ho, hl, q⟩ := h
  have hl2 : (wRec (1 :: wNum t)).length + (wRec (3 :: wBase s0)).length + (wRec [2]).length ≤ cap := by
    rw [← List.length_append, ← List.length_append]
    exact hl
  have l1 := wRec_len (1 :: wNum t)
  have l2 := wRec_len (3 :: wBase s0)
  rw [List.length_cons] at l1 l2
  refine ⟨_, PSs.nox (pss_one (ps_ret (pe_op op_cat (pe_op op_cat (pe_f (ok_write_record T) (hr.mono (by omega)) (by rfl) (pa_cons (pe_op op_cat (pe_lst (pa_cons pe_int pa_nil)) (pe_f (ok_write_number T) (hr.mono (by omega)) (by rfl) (pa_cons (pv 0) pa_nil))) pa_nil)) (pe_f (ok_write_record T) (hr.mono (by omega)) (by rfl) (pa_cons (pe_op op_cat (pe_lst (pa_cons pe_int pa_nil)) (pe_f (ok_write_base T) (hr.mono (by omega)) (by rfl) (pa_cons (pv 1) pa_nil))) pa_nil))) (pe_f (ok_write_record T) (hr.mono (by omega)) (by rfl) (pa_cons (pe_lst (pa_cons pe_int pa_nil)) pa_nil))))), ?_⟩
  walk_at "rx"
  refine ⟨le_line rfl, fun p hp => ?_⟩
  have s1 := same_new (o := .lst [V.int 1]) hp
  walk_at "rx"
  refine ⟨_, t, rfl, rfl, by omega, fun H2 p2 s2 n2 e2 => ?_⟩
  refine r_cat (xs := [1]) (s2 _ _ upd_same) e2 (by show 1 + _ ≤ _; omega) fun p3 n3 => ?_
  have s3 := (s1.trans s2).trans (same_new (o := bL ([1] ++ wNum t)) n3)
  walk_at "rx"
  refine ⟨p3, _, rfl, upd_same, by show (wRec (1 :: wNum t)).length ≤ _; omega, fun H4 p4 s4 n4 e4 => ?_⟩
  have s04 := s3.trans s4
  walk_at "rx"
  refine ⟨le_line rfl, fun p5 n5 => ?_⟩
  have s5 := same_new (o := .lst [V.int 3]) n5
  walk_at "rx"
  refine ⟨b, s0, rfl, hB.same (s04.trans s5), ho, by omega, fun H6 p6 s6 n6 e6 => ?_⟩
  refine r_cat (xs := [3]) (s6 _ _ upd_same) e6 (by show 1 + _ ≤ _; omega) fun p7 n7 => ?_
  have s7 := (s5.trans s6).trans (same_new (o := bL ([3] ++ wBase s0)) n7)
  walk_at "rx"
  refine ⟨p7, _, rfl, upd_same, by show (wRec (3 :: wBase s0)).length ≤ _; omega, fun H8 p8 s8 n8 e8 => ?_⟩
  refine r_cat ((s7.trans s8) _ _ e4) e8 (by show (wRec (1 :: wNum t)).length + (wRec (3 :: wBase s0)).length ≤ _; omega) fun p9 n9 => ?_
  have s9 := same_new (o := bL (wRec ([1] ++ wNum t) ++ wRec ([3] ++ wBase s0))) n9
  have s09 := ((s04.trans s7).trans s8).trans s9
  walk_at "rx"
  refine ⟨le_line rfl, fun pa na => ?_⟩
  have sa := same_new (o := .lst [V.int 2]) na
  walk_at "rx"
  refine ⟨pa, [2], rfl, upd_same, by omega, fun Hb pb sb nb eb => ?_⟩
  exact r_cat ((sa.trans sb) _ _ upd_same) eb (by rw [List.length_append]; show (wRec (1 :: wNum t)).length + (wRec (3 :: wBase s0)).length + _ ≤ _; omega) fun r hr => q.upd ((s09.trans sa).trans sb) hr rfl
def spWN : Sp := fun vs H Q _ => ∃ l1 l2 ys zs ts cs, vs = [.ref l1, .ref l2] ∧ H l1 = some (.lst ys) ∧ RpL H (ts.map dTrip) ys ∧ H l2 = some (.lst zs) ∧ RpL H (cs.map dCell) zs ∧ (∀ c ∈ cs, okO c.2.2) ∧ (wNote ts cs).length ≤ cap ∧ RetB H Q (wNote ts cs)
theorem ok_write_note  (T : Txt K mg) : Fc P w K mg base CX0 (49) "write_note" ["triples", "cells"] (spWN) := by
  refine ⟨?_, gm_write_note T, (fd_write_note T.says).kp, (fd_write_note T.says).bindsN fun _ _ _ _ _ _ us hl => match us, hl with | [_, _], _ => rfl⟩
  refine (fd_write_note T.says).ok sc_write_note (fun vs H Q E h => by first | (obtain ⟨_, rfl, _⟩ := h; rfl) | (obtain ⟨_, _, rfl, _⟩ := h; rfl) | (obtain ⟨_, _, _, rfl, _⟩ := h; rfl) | (obtain ⟨_, _, _, _, rfl, _⟩ := h; rfl) | (obtain ⟨_, _, _, _, _, rfl, _⟩ := h; rfl) | (obtain ⟨_, _, _, _, _, _, rfl, _⟩ := h; rfl) | (obtain ⟨_, _, _, _, _, _, _, rfl, _⟩ := h; rfl) | (obtain ⟨_, _, _, _, _, _, _, _, rfl, _⟩ := h; rfl) | (obtain ⟨_, _, _, _, _, _, _, _, _, rfl, _⟩ := h; rfl)) (fun cdv A outer s H vs Q E hr h => ?_)
  obtain ⟨l1, l2, ys, zs, ts, cs, rfl, h1, hy, h2, hz, ho, hl, q⟩ := h
  have l1 := wRec_len (4 :: wGroup ts cs)
  have hl2 : (wRec (4 :: wGroup ts cs)).length ≤ cap := hl
  rw [List.length_cons] at l1
  refine ⟨_, PSs.nox (pss_one (ps_ret (pe_f (ok_write_record T) (hr.mono (by omega)) (by rfl) (pa_cons (pe_op op_cat (pe_lst (pa_cons pe_int pa_nil)) (pe_f (ok_write_group T) (hr.mono (by omega)) (by rfl) (pa_cons (pv 0) (pa_cons (pv 1) pa_nil)))) pa_nil)))), ?_⟩
  walk_at "rx"
  refine ⟨le_line rfl, fun p hp => ?_⟩
  have s1 := same_new (o := .lst [V.int 4]) hp
  walk_at "rx"
  refine ⟨_, _, ys, zs, ts, cs, rfl, s1 _ _ h1, hy.ts (Tst.same s1), s1 _ _ h2, hz.ts (Tst.same s1), ho, by omega, fun H2 p2 s2 n2 e2 => ?_⟩
  refine r_cat (xs := [4]) (s2 _ _ upd_same) e2 (by show 1 + _ ≤ _; omega) fun p3 n3 => ?_
  have s3 := (s1.trans s2).trans (same_new (o := bL ([4] ++ wGroup ts cs)) n3)
  walk_at "rx"
  refine ⟨p3, _, rfl, upd_same, by show (wRec (4 :: wGroup ts cs)).length ≤ _; omega, fun H4 p4 s4 n4 e4 => ?_⟩
  exact q.to (s3.trans s4) (s3.free n4) e4 rfl
end
end Q

/-! ## E0 -/
set_option Elab.async false
set_option linter.all false
set_option maxRecDepth 100000
set_option maxHeartbeats 4000000
namespace Q
open PySem PySem.Spec PyProof.Rows L2
local macro_rules | `(tactic| walk_at "rd") => `(tactic| repeat (first
  | ((with_reducible apply r_var); focus exact rfl)
  | with_reducible refine r_c ?_
  | with_reducible refine r_chain ?_
  | ((with_reducible apply r_aug); focus exact rfl)
  | with_reducible refine r_ip ?_
  | with_reducible refine r_op ?_
  | with_reducible refine r_I0 ?_
  | with_reducible refine r_cons ?_
  | with_reducible refine r_nil ?_
  | with_reducible refine r_seq ?_
  | with_reducible refine r_asg ?_
  | with_reducible refine r_gn ?_
  | with_reducible refine r_gcons ?_
  | with_reducible refine r_gnil ?_
  | with_reducible refine r_lc ?_
  | with_reducible refine r_m1 ?_
  | with_reducible refine r_sfld ?_
  | with_reducible refine r_sfa ?_
  | with_reducible refine r_rAdd ?_
  | with_reducible refine r_ret ?_
  | with_reducible refine r_ifS ?_
  | with_reducible refine r_test ?_
  | with_reducible refine r_bl ?_
  | with_reducible refine r_B ?_
  | with_reducible refine r_drop ?_
  | with_reducible refine r_bm ?_
  | with_reducible refine r_CB ?_
  | with_reducible refine r_call ?_
  | with_reducible refine r_meth ?_
  | with_reducible refine r_make ?_
  | with_reducible refine r_tup ?_
  | with_reducible refine r_lst ?_
  | ((with_reducible refine r_I ?_ ?_); focus (first | decide | exact ⟨by decide, by decide⟩ | exact .inl ⟨by decide, by decide⟩ | exact .inr ⟨by decide, by decide⟩ | omega))
  | with_reducible refine r_U ?_
  | with_reducible refine r_un ?_
  | with_reducible refine r_and ?_
  | with_reducible refine r_or ?_
  | with_reducible refine r_not ?_
  | with_reducible refine r_andV ?_
  | with_reducible refine r_orV ?_
  | with_reducible refine r_notV ?_
  | with_reducible refine r_if ?_
  | with_reducible refine r_sl ?_
  | with_reducible refine r_part ?_
  | with_reducible refine r_parti ?_
  | with_reducible refine r_nopart ?_
  | with_reducible refine r_il ?_
  | with_reducible refine r_it ?_
  | with_reducible refine r_ir ?_
  | with_reducible refine r_is ?_
  | with_reducible refine r_next ?_
  | with_reducible refine r_retN ?_
  | ((with_reducible refine r_eq ?_ ?_); focus exact rfl)
  | ((with_reducible refine r_ne ?_ ?_); focus exact rfl)))
local macro_rules | `(tactic| walk_at "rx") => `(tactic| repeat (first
  | ((with_reducible apply r_var); focus exact rfl)
  | with_reducible refine r_c ?_
  | with_reducible refine r_chain ?_
  | ((with_reducible apply r_aug); focus exact rfl)
  | with_reducible refine r_ip ?_
  | with_reducible refine r_op ?_
  | with_reducible refine r_I0 ?_
  | with_reducible refine r_cons ?_
  | with_reducible refine r_nil ?_
  | with_reducible refine r_seq ?_
  | with_reducible refine r_asg ?_
  | with_reducible refine r_gn ?_
  | with_reducible refine r_gcons ?_
  | with_reducible refine r_gnil ?_
  | with_reducible refine r_m1 ?_
  | with_reducible refine r_sfld ?_
  | with_reducible refine r_sfa ?_
  | with_reducible refine r_rAdd ?_
  | with_reducible refine r_ret ?_
  | with_reducible refine r_ifS ?_
  | with_reducible refine r_test ?_
  | with_reducible refine r_bl ?_
  | with_reducible refine r_B ?_
  | with_reducible refine r_drop ?_
  | with_reducible refine r_bm ?_
  | with_reducible refine r_CB ?_
  | with_reducible refine r_call ?_
  | with_reducible refine r_make ?_
  | with_reducible refine r_tup ?_
  | with_reducible refine r_lst ?_
  | ((with_reducible refine r_I ?_ ?_); focus (first | decide | exact ⟨by decide, by decide⟩ | exact .inl ⟨by decide, by decide⟩ | exact .inr ⟨by decide, by decide⟩ | omega))
  | with_reducible refine r_U ?_
  | with_reducible refine r_un ?_
  | with_reducible refine r_and ?_
  | with_reducible refine r_or ?_
  | with_reducible refine r_not ?_
  | with_reducible refine r_andV ?_
  | with_reducible refine r_orV ?_
  | with_reducible refine r_notV ?_
  | with_reducible refine r_if ?_
  | with_reducible refine r_sl ?_
  | with_reducible refine r_part ?_
  | with_reducible refine r_parti ?_
  | with_reducible refine r_nopart ?_
  | with_reducible refine r_il ?_
  | with_reducible refine r_it ?_
  | with_reducible refine r_ir ?_
  | with_reducible refine r_is ?_
  | with_reducible refine r_next ?_
  | with_reducible refine r_retN ?_
  | ((with_reducible refine r_eq ?_ ?_); focus exact rfl)
  | ((with_reducible refine r_ne ?_ ?_); focus exact rfl)))
section
variable {P : Program} {w : World} {K : PySem.W.Frag} {mg : Str → Option Value} {base : Heap}
/-! ### words that the layer lacks: o[i] op= e of a list; a text times a number; slices; != of lists of bytes -/
def rGetL (K : PySem.W.Frag) : V → V → Hp → VK → Prop := fun o i H Q => ∃ p xs, ∃ j : Nat, ∃ v, o = .ref p ∧ i = .int j ∧ SqL K H p xs ∧ xs[j]? = some v ∧ Q v H
theorem get_list {X : Cx} : PGet X (rGetL X.K) := by
  intro pins s σ H o i ov iv Q I ro ri h
  obtain ⟨p, xs, j, z, rfl, rfl, hq, he, q⟩ := h
  cases ro
  obtain ⟨t, rfl⟩ := ri
  obtain ⟨its, r, pl, hz⟩ := I.list hq
  obtain ⟨w, ew, rw'⟩ := r.get he
  have hl := r.length
  have hn := line63
  have hj : j < xs.length := (List.getElem?_eq_some_iff.mp he).1
  exact wpAny_getItem_list pl.isList (by omega) (by omega) (by simpa using ew) ⟨z, H, I, rw', q⟩
/-- a text of n copies, 2 ≤ n ≤ 1000 -/
def repS (a : Str) (n : Nat) : Str := ⟨(List.replicate n a.cps).foldl (· ++ ·) #[]⟩
theorem repS_size (a : Array Nat) : ∀ (n : Nat) (acc : Array Nat), ((List.replicate n a).foldl (· ++ ·) acc).size = acc.size + n * a.size
  | 0, acc => by simp
  | n + 1, acc => by
    rw [List.replicate_succ, List.foldl_cons, repS_size a n, Array.size_append, Nat.succ_mul]
    omega
theorem repS_len (a : Str) (n : Nat) : (repS a n).length = n * a.length := by
  show ((List.replicate n a.cps).foldl (· ++ ·) #[]).size = _
  rw [repS_size]
  show 0 + n * a.cps.size = n * a.cps.size
  omega
def rMulS : R2 := fun x y H Q => ∃ a : Str, ∃ n : Nat, x = .str a ∧ y = .int n ∧ 2 ≤ n ∧ n ≤ 1000 ∧ 0 < a.length ∧ a.length ≤ 1000 ∧ Q (.str (repS a n)) H
theorem op_mulstr {X : Cx} : OpR X (binaryOp .Mult) rMulS := by
  intro pins s σ H x y v u Q I rx ry h
  obtain ⟨a, n, rfl, rfl, h1, h2, h3, h4, q⟩ := h
  obtain ⟨t, rfl⟩ := rx
  obtain ⟨t', rfl⟩ := ry
  have hm : a.length * n ≤ 1000 * 1000 := Nat.mul_le_mul h4 h2
  refine PySem.P.mul_str (by simp; omega) (fun _ _ => ?_) (fun _ _ => ?_) ?_
  · have : (1000 : Int) ≤ (2 ^ 63 - 1) / (n : Int) := by
      rw [Int.le_ediv_iff_mul_le (by omega)]
      omega
    omega
  · show decide (a.length * (n : Int).toNat > sizeLine) = false
    rw [Int.toNat_natCast]
    exact decide_eq_false (Nat.not_lt.mpr (Nat.le_trans hm (by decide)))
  · rw [if_neg (by omega), if_neg (by simp; omega)]
    refine ⟨?_, .str (repS a n), H, I.tok _, ⟨_, rfl⟩, q⟩
    rw [Int.toNat_natCast]
    show (repS a n).length ≤ sizeLine
    rw [repS_len, Nat.mul_comm]
    exact Nat.le_trans hm (by decide)
/-! slices -/
theorem cutV_nat (xs : List V) (a b : Nat) : cutV xs (some (a : Int)) (some (b : Int)) = (xs.drop a).take (b - a) := by
  unfold cutV
  rw [HT.sIx_nat, HT.sIx_nat]
  by_cases h : a ≤ xs.length
  · rw [Nat.min_eq_left h]
    by_cases h2 : b ≤ xs.length
    · rw [Nat.min_eq_left h2]
    · rw [show min b xs.length = xs.length from Nat.min_eq_right (by omega), List.take_of_length_le (by rw [List.length_drop]; exact Nat.le_refl _), List.take_of_length_le (by rw [List.length_drop]; omega)]
  · rw [show min a xs.length = xs.length from Nat.min_eq_right (by omega), List.drop_of_length_le (Nat.le_refl _), List.drop_of_length_le (show xs.length ≤ a by omega), List.take_nil, List.take_nil]
theorem cutV_to (xs : List V) (b : Nat) : cutV xs none (some (b : Int)) = xs.take b := by
  unfold cutV
  rw [HT.sIx_nat, HT.sIx_none, Nat.sub_zero, List.drop_zero]
  by_cases h2 : b ≤ xs.length
  · rw [Nat.min_eq_left h2]
  · rw [Nat.min_eq_right (by omega), List.take_of_length_le (Nat.le_refl _), List.take_of_length_le (by omega)]
theorem cutV_from (xs : List V) (a : Nat) : cutV xs (some (a : Int)) none = xs.drop a := by
  unfold cutV
  rw [HT.sIx_nat, HT.sIx_none]
  by_cases h : a ≤ xs.length
  · rw [Nat.min_eq_left h, List.take_of_length_le (by rw [List.length_drop]; exact Nat.le_refl _)]
  · rw [Nat.min_eq_right (by omega), List.drop_of_length_le (Nat.le_refl _), List.drop_of_length_le (by omega), List.take_nil]
theorem cutV_back (xs : List V) (k : Nat) (hk : 0 < k) : cutV xs (some (-(k : Int))) none = xs.drop (xs.length - k) := by
  unfold cutV
  have e : HT.sIx xs.length 0 (some (-(k : Int))) = xs.length - k := by
    show (if -(k : Int) < 0 then (-(k : Int) + (xs.length : Int)).toNat else _) = _
    rw [if_pos (by omega)]
    omega
  rw [e, HT.sIx_none, List.take_of_length_le (by rw [List.length_drop]; exact Nat.le_refl _)]
theorem r_slB {a : Addr} {bs cs : List Nat} {lo hi : Option Int} {H : Hp} {Qv : VK} (h : H a = some (bL bs)) (e : cutV (bs.map bV) lo hi = cs.map bV) (q : ∀ p, H p = none → Qv (.ref p) (upd H p (bL cs))) : rSlL K (.ref a) lo hi H Qv :=
  ⟨a, bs.map bV, rfl, SqL.of h, fun p hp => by rw [e]; exact q p hp⟩
theorem cutB_nat (bs : List Nat) (a b : Nat) : cutV (bs.map bV) (some (a : Int)) (some (b : Int)) = ((bs.drop a).take (b - a)).map bV := by rw [cutV_nat, ← List.map_drop, ← List.map_take]
theorem cutB_to (bs : List Nat) (b : Nat) : cutV (bs.map bV) none (some (b : Int)) = (bs.take b).map bV := by rw [cutV_to, ← List.map_take]
theorem cutB_from (bs : List Nat) (a : Nat) : cutV (bs.map bV) (some (a : Int)) none = (bs.drop a).map bV := by rw [cutV_from, ← List.map_drop]
theorem cutB_back (bs : List Nat) (k : Nat) (hk : 0 < k) : cutV (bs.map bV) (some (-(k : Int))) none = (bs.drop (bs.length - k)).map bV := by rw [cutV_back _ _ hk, ← List.map_drop, List.length_map]
/-! lists of bytes against each other -/
def pB (bs : List Nat) : PyData := .list (bs.map fun n : Nat => .int n)
theorem dpAll_B {H : Hp} : ∀ bs : List Nat, DpAll K H (bs.map bV) (bs.map fun n : Nat => .int n)
  | [] => .nil
  | b :: bs => .cons (.int b) (dpAll_B bs)
theorem dp_B {H : Hp} {a : Addr} {bs : List Nat} (h : H a = some (bL bs)) : Dp K H (.ref a) (pB bs) := .lst (SqL.of h) (dpAll_B bs)
theorem lay_B : ∀ bs : List Nat, PyData.canLayAll0 (bs.map fun n : Nat => .int n) = true
  | [] => rfl
  | b :: bs => by
    show (PyData.canLay0 (.int b) && PyData.canLayAll0 (bs.map fun n : Nat => .int n)) = true
    rw [lay_B bs]
    rfl
theorem dep_B : ∀ bs : List Nat, PyData.depthAll (bs.map fun n : Nat => .int n) = 0
  | [] => rfl
  | b :: bs => by
    show max (PyData.depth (.int b)) (PyData.depthAll (bs.map fun n : Nat => .int n)) = 0
    rw [dep_B bs]
    rfl
theorem shaped_B (bs : List Nat) : SeqAt.shaped (pB bs) = true := by
  show (PyData.canLayAll0 (bs.map fun n : Nat => .int n) && decide (PyData.depthAll (bs.map fun n : Nat => .int n) + 1 ≤ 64)) = true
  rw [lay_B, dep_B]
  rfl
theorem eqv_B : ∀ xs ys : List Nat, PyData.eqvAll (xs.map fun n : Nat => .int n) (ys.map fun n : Nat => .int n) = decide (xs = ys)
  | [], [] => rfl
  | [], y :: ys => rfl
  | x :: xs, [] => rfl
  | x :: xs, y :: ys => by
    show (((x : Int) == (y : Int)) && PyData.eqvAll (xs.map fun n : Nat => .int n) (ys.map fun n : Nat => .int n)) = _
    rw [eqv_B xs ys]
    by_cases h : x = y
    · subst h
      simp
    · have e : ((x : Int) == (y : Int)) = false := by simpa using fun z : (x : Int) = (y : Int) => h (by omega)
      rw [e]
      simp [h]
theorem r_neB {a b : Addr} {xs ys : List Nat} {H : Hp} {Qv : VK} (h1 : H a = some (bL xs)) (h2 : H b = some (bL ys)) (q : Qv (.bl (!decide (xs = ys))) H) : rNeD K (.ref a) (.ref b) H Qv :=
  ⟨pB xs, pB ys, dp_B h1, dp_B h2, shaped_B xs, shaped_B ys, by show Qv (.bl (!PyData.eqvAll _ _)) H; rw [eqv_B]; exact q⟩
end
end Q

/-! ## L2a -/
set_option Elab.async false
set_option linter.all false
set_option maxRecDepth 100000
set_option maxHeartbeats 4000000
namespace Q
open PySem PySem.Spec PyProof.Rows L2
local macro_rules | `(tactic| walk_at "rd") => `(tactic| repeat (first
  | ((with_reducible apply r_var); focus exact rfl)
  | with_reducible refine r_c ?_
  | with_reducible refine r_chain ?_
  | ((with_reducible apply r_aug); focus exact rfl)
  | with_reducible refine r_ip ?_
  | with_reducible refine r_op ?_
  | with_reducible refine r_I0 ?_
  | with_reducible refine r_cons ?_
  | with_reducible refine r_nil ?_
  | with_reducible refine r_seq ?_
  | with_reducible refine r_asg ?_
  | with_reducible refine r_gn ?_
  | with_reducible refine r_gcons ?_
  | with_reducible refine r_gnil ?_
  | with_reducible refine r_lc ?_
  | with_reducible refine r_m1 ?_
  | with_reducible refine r_sfld ?_
  | with_reducible refine r_sfa ?_
  | with_reducible refine r_rAdd ?_
  | with_reducible refine r_ret ?_
  | with_reducible refine r_ifS ?_
  | with_reducible refine r_test ?_
  | with_reducible refine r_bl ?_
  | with_reducible refine r_B ?_
  | with_reducible refine r_drop ?_
  | with_reducible refine r_bm ?_
  | with_reducible refine r_CB ?_
  | with_reducible refine r_call ?_
  | with_reducible refine r_meth ?_
  | with_reducible refine r_make ?_
  | with_reducible refine r_tup ?_
  | with_reducible refine r_lst ?_
  | ((with_reducible refine r_I ?_ ?_); focus (first | decide | exact ⟨by decide, by decide⟩ | exact .inl ⟨by decide, by decide⟩ | exact .inr ⟨by decide, by decide⟩ | omega))
  | with_reducible refine r_U ?_
  | with_reducible refine r_un ?_
  | with_reducible refine r_and ?_
  | with_reducible refine r_or ?_
  | with_reducible refine r_not ?_
  | with_reducible refine r_andV ?_
  | with_reducible refine r_orV ?_
  | with_reducible refine r_notV ?_
  | with_reducible refine r_if ?_
  | with_reducible refine r_sl ?_
  | with_reducible refine r_part ?_
  | with_reducible refine r_parti ?_
  | with_reducible refine r_nopart ?_
  | with_reducible refine r_il ?_
  | with_reducible refine r_it ?_
  | with_reducible refine r_ir ?_
  | with_reducible refine r_is ?_
  | with_reducible refine r_next ?_
  | with_reducible refine r_retN ?_
  | ((with_reducible refine r_eq ?_ ?_); focus exact rfl)
  | ((with_reducible refine r_ne ?_ ?_); focus exact rfl)))
local macro_rules | `(tactic| walk_at "rx") => `(tactic| repeat (first
  | ((with_reducible apply r_var); focus exact rfl)
  | with_reducible refine r_c ?_
  | with_reducible refine r_chain ?_
  | ((with_reducible apply r_aug); focus exact rfl)
  | with_reducible refine r_ip ?_
  | with_reducible refine r_op ?_
  | with_reducible refine r_I0 ?_
  | with_reducible refine r_cons ?_
  | with_reducible refine r_nil ?_
  | with_reducible refine r_seq ?_
  | with_reducible refine r_asg ?_
  | with_reducible refine r_gn ?_
  | with_reducible refine r_gcons ?_
  | with_reducible refine r_gnil ?_
  | with_reducible refine r_m1 ?_
  | with_reducible refine r_sfld ?_
  | with_reducible refine r_sfa ?_
  | with_reducible refine r_rAdd ?_
  | with_reducible refine r_ret ?_
  | with_reducible refine r_ifS ?_
  | with_reducible refine r_test ?_
  | with_reducible refine r_bl ?_
  | with_reducible refine r_B ?_
  | with_reducible refine r_drop ?_
  | with_reducible refine r_bm ?_
  | with_reducible refine r_CB ?_
  | with_reducible refine r_call ?_
  | with_reducible refine r_make ?_
  | with_reducible refine r_tup ?_
  | with_reducible refine r_lst ?_
  | ((with_reducible refine r_I ?_ ?_); focus (first | decide | exact ⟨by decide, by decide⟩ | exact .inl ⟨by decide, by decide⟩ | exact .inr ⟨by decide, by decide⟩ | omega))
  | with_reducible refine r_U ?_
  | with_reducible refine r_un ?_
  | with_reducible refine r_and ?_
  | with_reducible refine r_or ?_
  | with_reducible refine r_not ?_
  | with_reducible refine r_andV ?_
  | with_reducible refine r_orV ?_
  | with_reducible refine r_notV ?_
  | with_reducible refine r_if ?_
  | with_reducible refine r_sl ?_
  | with_reducible refine r_part ?_
  | with_reducible refine r_parti ?_
  | with_reducible refine r_nopart ?_
  | with_reducible refine r_il ?_
  | with_reducible refine r_it ?_
  | with_reducible refine r_ir ?_
  | with_reducible refine r_is ?_
  | with_reducible refine r_next ?_
  | with_reducible refine r_retN ?_
  | ((with_reducible refine r_eq ?_ ?_); focus exact rfl)
  | ((with_reducible refine r_ne ?_ ?_); focus exact rfl)))
section
variable {P : Program} {w : World} {K : PySem.W.Frag} {mg : Str → Option Value} {base : Heap}
/-! ### the log, cut into records -/
theorem pe_fX {X : Cx} {W : WX} {k : Nat} {x : Str} {ps : List Str} {sp : Sp} {e : Expr} {es : List Expr} {t : TA} {p pos : Pos} (tk : Takes X W) (c : Fc X.prog X.w X.K X.mg X.base (L2.CX X.prog X.w) k x ps sp) (hr : Room k X.A) (hg : Gl X x) (ha : PA X (e :: es) t) (hdb : (x == ("__debug__" : Str)) = false := by decide) (he : starEach (e :: es) X.env = (false, eval e X.env) :: starEach es X.env := by rfl) (hpl : (backTo pos (starEach es X.env)).any (·.1) = false := by rfl) :
    PE X (.Call (.Name x p) (e :: es) [] pos) (tCallS sp (WE W) t) := pe_callS c.ok hr hg c.gm c.kp c.b (fun σ => passAt tk σ) ha hdb he hpl
theorem r_break {Dn : Ends} {σ : L2.St} {H : Hp} (q : Dn.bk σ H) : tBreak Dn σ H := q
/-- the size of a record that stands at the place -/
def spRS : Sp := fun vs H Q _ => ∃ l bs, ∃ st : Nat, vs = [.ref l, .int st] ∧ H l = some (bL bs) ∧ st ≤ bs.length ∧ bs.length ≤ cap ∧
  ((∃ x rest, bs.drop st = wNum x ++ rest ∧ okN x ∧ ∀ H' p, Same H H' → H p = none → H' p = some (.tup [.int (st + (wNum x).length : Nat), .int (x : Nat)]) → Q (.ref p) H') ∨
   (∃ x t, bs.drop st ++ t = wNum x ∧ 0 < t.length ∧ okN x ∧ ∀ H', Same H H' → Q .non H'))
theorem sx_same {H H1 H2 : Hp} {r : Addr} (s1 : Same H H1) (n : H r = none) (s2 : Sx r H1 H2) : Same H H2 := fun b o e => s2 b o (ne_of_none e n) (s1 b o e)
theorem ok_read_size  (T : Txt K mg) : Fc P w K mg base CX0 (3) "_read_size" ["data", "start"] (spRS) := by
  refine ⟨?_, gm_read_size T, (fd_read_size T.says).kp, (fd_read_size T.says).bindsN fun _ _ _ _ _ _ us hl => match us, hl with | [_, _], _ => rfl⟩
  refine (fd_read_size T.says).ok sc_read_size (fun vs H Q E h => by first | (obtain ⟨_, rfl, _⟩ := h; rfl) | (obtain ⟨_, _, rfl, _⟩ := h; rfl) | (obtain ⟨_, _, _, rfl, _⟩ := h; rfl) | (obtain ⟨_, _, _, _, rfl, _⟩ := h; rfl) | (obtain ⟨_, _, _, _, _, rfl, _⟩ := h; rfl) | (obtain ⟨_, _, _, _, _, _, rfl, _⟩ := h; rfl) | (obtain ⟨_, _, _, _, _, _, _, rfl, _⟩ := h; rfl) | (obtain ⟨_, _, _, _, _, _, _, _, rfl, _⟩ := h; rfl) | (obtain ⟨_, _, _, _, _, _, _, _, _, rfl, _⟩ := h; rfl)) (fun cdv A outer s H vs Q E hr h => ?_)
  obtain ⟨l, bs, st, rfl, hb, hst, hl, q⟩ := h
  refine ⟨_, PSs.nox (pss_cons (ps_set (i := 2) sc_read_size.nd rfl (Or.inl rfl) (pe_i (ok_Reader_init T) (hr.mono (by omega)) (by rfl) (pa_cons (pe_slice sl_list (pv 0) (po_some (pv 1)) (po_some (pe_op op_add (pv 1) pe_int))) pa_nil)))
      (pss_cons (ps_try_only (Wout := fun _ _ _ _ => False) rfl rfl ⟨rfl, by decide, .inl (gm_DamagedPacket T)⟩ takes0 (fun W pn xe tk _ => (pss_one (ps_set (i := 3) sc_read_size.nd rfl (Or.inl rfl) (pe_mX0 tk (ok_numB T) (hr.mono (by omega)) (pv 2))))) (fun _ _ _ _ _ _ _ => (pss_one (ps_ret pe_non))))
      (pss_one (ps_ret (pe_tup (pa_cons (pe_op op_add (pv 1) (pe_fld (pv 2) rfl)) (pa_cons (pv 3) pa_nil))))))), ?_⟩
  walk_at "rx"
  have e60 : cutV (bs.map bV) (some (st : Int)) (some ((st : Int) + 60)) = ((bs.drop st).take 60).map bV := by
    have := cutB_nat bs st (st + 60)
    rw [show st + 60 - st = 60 by omega] at this
    exact this
  refine r_slB hb e60 fun p hp => ?_
  walk_at "rx"
  intro r dx nr ndr ndx
  have hne := free_upd nr
  refine ⟨r, p, dx, (bs.drop st).take 60, rfl, upd_same, ?_, fun H1 L sx1 nL R1 => ⟨rfl, ?_⟩⟩
  · rw [upd_ne hne.2.symm, upd_ne (free_upd ndr).2.symm]
    exact upd_same
  have s1 : Same H H1 := (same_new hp).trans (made_same nr ndr sx1)
  have nr0 : H r = none := hne.1
  walk_at "rx"
  show tMethS _ _ _ _ _ _ _ _ _
  refine r_mS ⟨.ref r, rfl, rd_no R1 (by decide +kernel) fun _ _ => ?_⟩
  walk_at "rx"
  rcases q with ⟨x, rest, hd, hok, q⟩ | ⟨x, t, hd, ht, hok, q⟩
  · have hw : (bs.drop st).take 60 = wNum x ++ rest.take (60 - (wNum x).length) := by
      rw [hd, List.take_append, List.take_of_length_le (show (wNum x).length ≤ 60 from hok)]
    refine .inl ⟨r, L, _, 0, x, _, rfl, R1, by rw [List.drop_zero]; exact hw, hok, by rw [List.length_take]; exact Nat.le_trans (Nat.min_le_left _ _) (by decide), fun v H2 s2 r2 hv => ?_⟩
    obtain rfl : v = .int x := hv
    obtain ⟨dx2, h21, h22⟩ := r2
    walk_at "rx"
    refine r_fAt T.says rfl h21 ?_
    walk_at "rx"
    refine ⟨le_line rfl, fun p2 hp2 => ?_⟩
    have s2' := sx_same s1 nr0 s2
    have e : (.tup [.int ((st : Int) + ((0 + (wNum x).length : Nat) : Int)), .int (x : Nat)] : HO) = .tup [.int (st + (wNum x).length : Nat), .int (x : Nat)] := by
      rw [Nat.zero_add, Int.natCast_add]
    rw [e]
    exact q _ p2 (s2'.trans (same_new hp2)) (s2'.free hp2) upd_same
  · have hsh : (bs.drop st).length < 60 := by
      have h1 := congrArg List.length hd
      have h2 : (wNum x).length ≤ 60 := hok
      rw [List.length_append] at h1
      omega
    have hw : (bs.drop st).take 60 = bs.drop st := List.take_of_length_le (by omega)
    rw [hw] at R1
    refine .inr ⟨r, L, bs.drop st, 0, x, t, rfl, R1, by rw [List.drop_zero]; exact hd, ht, hok, Nat.zero_le _, Nat.le_trans (Nat.le_of_lt hsh) (by decide), fun H2 s2 => ⟨true, xm_DamagedPacket T.says, fun _ a ha => ?_, fun z => nomatch z⟩⟩
    walk_at "rx"
    exact q H2 (sx_same s1 nr0 s2)
/-- what ends a log: a cut number, a cut record, a wrong checksum -/
def Stop (tl : List Nat) : Prop := (∃ x t, tl ++ t = wNum x ∧ 0 < t.length ∧ okN x) ∨ (∃ x r, tl = wNum x ++ r ∧ okN x ∧ r.length < x + 4) ∨ (∃ body ck rest, tl = wNum body.length ++ (body ++ (ck ++ rest)) ∧ ck.length = 4 ∧ ck ≠ tailS (checkS body))
def recs (rcs : List (List Nat)) : List Nat := (rcs.map wRec).flatten
theorem recs_at {rcs : List (List Nat)} {i : Nat} {rc : List Nat} (h : rcs[i]? = some rc) : recs (rcs.take (i + 1)) = recs (rcs.take i) ++ wRec rc := by
  unfold recs
  rw [List.take_add_one, h, List.map_append, List.flatten_append]
  simp
theorem recs_split {rcs : List (List Nat)} {i : Nat} {rc : List Nat} (h : rcs[i]? = some rc) (tl : List Nat) : ∃ r, (recs rcs ++ tl).drop (recs (rcs.take i)).length = wNum rc.length ++ (rc ++ (tailS (checkS rc) ++ r)) := by
  unfold recs
  rw [take_flat (w := wRec) h, List.append_assoc, List.drop_left, wRec]
  exact ⟨((rcs.drop (i + 1)).map wRec).flatten ++ tl, by simp only [List.append_assoc]⟩
/-- what _read_size finds at the place -/
def Fnd (H : Hp) (bs : List Nat) (st : Nat) (fv : V) : Prop := (∃ x rest p, bs.drop st = wNum x ++ rest ∧ okN x ∧ fv = .ref p ∧ H p = some (.tup [.int (st + (wNum x).length : Nat), .int (x : Nat)])) ∨ ((∃ x t, bs.drop st ++ t = wNum x ∧ 0 < t.length ∧ okN x) ∧ fv = .non)
theorem wNum_len (n : Nat) : ∀ m xs ys, wNum n ++ xs = wNum m ++ ys → n = m ∧ xs = ys := by
  induction n using wNum.induct with
  | case1 n h =>
    intro m xs ys e
    rw [wNum_lt h] at e
    by_cases c : m < 128
    · rw [wNum_lt c] at e
      exact ⟨(List.cons.inj e).1, (List.cons.inj e).2⟩
    · rw [wNum_ge c] at e
      have := (List.cons.inj e).1
      omega
  | case2 n h ih =>
    intro m xs ys e
    rw [wNum_ge h] at e
    by_cases c : m < 128
    · rw [wNum_lt c] at e
      have := (List.cons.inj e).1
      omega
    · rw [wNum_ge c] at e
      obtain ⟨e1, e2⟩ := List.cons.inj e
      obtain ⟨h1, h2⟩ := ih _ _ _ e2
      exact ⟨by omega, h2⟩
theorem wNum_cut (n : Nat) : ∀ m xs t, wNum n ++ xs ++ t = wNum m → t = [] := by
  intro m xs t e
  obtain ⟨_, h⟩ := wNum_len n m (xs ++ t) [] (by rw [← List.append_assoc, e, List.append_nil])
  exact (List.append_eq_nil_iff.mp h).2
def spRR : Sp := fun vs H Q _ => ∃ l rcs tl, vs = [.ref l] ∧ H l = some (bL (recs rcs ++ tl)) ∧ Stop tl ∧ (recs rcs ++ tl).length + 100 ≤ cap ∧
  ∀ H' p rl ps, Same H H' → H' p = some (.tup [.ref rl, .int (recs rcs).length]) → H' rl = some (.lst (ps.map V.ref)) → BsL H' ps rcs → Q (.ref p) H'
theorem wRec_pos (rc : List Nat) : 0 < (wRec rc).length := by
  rw [wRec_len]
  omega
theorem recs_len_le (rcs : List (List Nat)) (i : Nat) : (recs (rcs.take i)).length ≤ (recs rcs).length := by
  unfold recs
  rw [List.map_take]
  exact flatten_take_le _ _
theorem ok_read_records  (T : Txt K mg) : Fc P w K mg base CX0 (4) "read_records" ["data"] (spRR) := by
  refine ⟨?_, gm_read_records T, (fd_read_records T.says).kp, (fd_read_records T.says).bindsN fun _ _ _ _ _ _ us hl => match us, hl with | [_], _ => rfl⟩
  refine (fd_read_records T.says).ok sc_read_records (fun vs H Q E h => by first | (obtain ⟨_, rfl, _⟩ := h; rfl) | (obtain ⟨_, _, rfl, _⟩ := h; rfl) | (obtain ⟨_, _, _, rfl, _⟩ := h; rfl) | (obtain ⟨_, _, _, _, rfl, _⟩ := h; rfl) | (obtain ⟨_, _, _, _, _, rfl, _⟩ := h; rfl) | (obtain ⟨_, _, _, _, _, _, rfl, _⟩ := h; rfl) | (obtain ⟨_, _, _, _, _, _, _, rfl, _⟩ := h; rfl) | (obtain ⟨_, _, _, _, _, _, _, _, rfl, _⟩ := h; rfl) | (obtain ⟨_, _, _, _, _, _, _, _, _, rfl, _⟩ := h; rfl)) (fun cdv A outer s H vs Q E hr h => ?_)
  obtain ⟨l, rcs, tl, rfl, hb, hstop, hl, q⟩ := h
  have hl2 : (recs rcs).length + tl.length + 100 ≤ cap := by rw [← List.length_append]; exact hl
  refine ⟨_, PSs.nox (pss_cons (ps_set (i := 1) sc_read_records.nd rfl (Or.inl rfl) (pe_lst pa_nil))
      (pss_cons (ps_set (i := 2) sc_read_records.nd rfl (Or.inl rfl) pe_int)
      (pss_cons (ps_set (i := 3) sc_read_records.nd rfl (Or.inl rfl) (pe_f (ok_read_size T) (hr.mono (by omega)) (by rfl) (pa_cons (pv 0) (pa_cons (pv 2) pa_nil))))
      (pss_cons (ps_while PassesOwn.never (pt_cmpR op_notN (pv 3) pe_non (nomark _)) (pss_cons (ps_asg (pv 3) (pg_tup rfl (pgs_cons (pg_name (i := 4) sc_read_records.nd rfl (Or.inl rfl)) (pgs_cons (pg_name (i := 5) sc_read_records.nd rfl (Or.inl rfl)) pgs_nil))))
      (pss_cons (ps_set (i := 6) sc_read_records.nd rfl (Or.inl rfl) (pe_slice sl_list (pv 0) (po_some (pv 4)) (po_some (pe_op op_add (pv 4) (pv 5)))))
      (pss_cons (ps_set (i := 7) sc_read_records.nd rfl (Or.inl rfl) (pe_op op_add (pe_op op_add (pv 4) (pv 5)) pe_int))
      (pss_cons (ps_if (PW.pt (pw_or (pt_cmpR op_gt (pv 7) (pe_callB call_len_seq (by rfl) (n_len T) PySem.boot_len (pa_cons (pv 0) pa_nil)) (nomark _)) (pw_or1 (pt_cmpR (op_neD hr.units) (pe_slice sl_list (pe_f (ok_write_record T) (hr.mono (by omega)) (by rfl) (pa_cons (pv 6) pa_nil)) (po_some (pe_un un_neg pe_int)) po_none) (pe_slice sl_list (pv 0) (po_some (pe_op op_sub (pv 7) pe_int)) (po_some (pv 7))) (nomark _))))) (pss_one ps_break) pss_nil)
      (pss_cons (ps_expr (pe_bm PySem.F.plainAttrs_list PySem.F.slot_list_append PySem.F.type_list_append mt_append (pv 1) (pa_cons (pv 6) pa_nil)))
      (pss_cons (ps_set (i := 2) sc_read_records.nd rfl (Or.inl rfl) (pv 7))
      (pss_one (ps_set (i := 3) sc_read_records.nd rfl (Or.inl rfl) (pe_f (ok_read_size T) (hr.mono (by omega)) (by rfl) (pa_cons (pv 0) (pa_cons (pv 2) pa_nil))))))))))))
      (pss_one (ps_ret (pe_tup (pa_cons (pv 1) (pa_cons (pv 2) pa_nil))))))))), ?_⟩
  walk_at "rx"
  refine ⟨Nat.zero_le _, fun rl hrl => ?_⟩
  walk_at "rx"
  have s1 := same_new (o := .lst []) hrl
  -- what is at each place
  have what : ∀ i, i ≤ rcs.length → ∃ w : (∃ x rest, (recs rcs ++ tl).drop (recs (rcs.take i)).length = wNum x ++ rest ∧ okN x) ∨ (∃ x t, (recs rcs ++ tl).drop (recs (rcs.take i)).length ++ t = wNum x ∧ 0 < t.length ∧ okN x), True := by
    intro i hi
    by_cases c : i < rcs.length
    · obtain ⟨r, e⟩ := recs_split (List.getElem?_eq_getElem c) tl
      refine ⟨.inl ⟨_, _, e, okN_cap ?_⟩, trivial⟩
      have := congrArg List.length e
      rw [List.length_drop] at this
      simp only [List.length_append] at this
      omega
    · have e0 : (recs rcs ++ tl).drop (recs (rcs.take i)).length = tl := by
        rw [List.take_of_length_le (by omega), List.drop_left]
      rw [e0]
      rcases hstop with ⟨x, t, h1, h2, h3⟩ | ⟨x, r, h1, h2, h3⟩ | ⟨body, ck, rest, h1, h2, h3⟩
      · exact ⟨.inr ⟨x, t, h1, h2, h3⟩, trivial⟩
      · exact ⟨.inl ⟨x, r, h1, h2⟩, trivial⟩
      · refine ⟨.inl ⟨_, _, h1, okN_cap ?_⟩, trivial⟩
        have := congrArg List.length h1
        simp only [List.length_append] at this
        omega
  -- the call of _read_size at the i-th place
  have call : ∀ i H1 (Q1 : VK), i ≤ rcs.length → H1 l = some (bL (recs rcs ++ tl)) → (∀ fv H2, Same H1 H2 → Fnd H2 (recs rcs ++ tl) (recs (rcs.take i)).length fv → Q1 fv H2) → spRS [.ref l, .int ((recs (rcs.take i)).length : Nat)] H1 Q1 E0 := by
    intro i H1 Q1 hi e1 k
    obtain ⟨wh, _⟩ := what i hi
    refine ⟨l, _, _, rfl, e1, by rw [List.length_append]; exact Nat.le_trans (recs_len_le rcs i) (Nat.le_add_right _ _), by omega, ?_⟩
    rcases wh with ⟨x, rest, h1, h2⟩ | ⟨x, t, h1, h2, h3⟩
    · exact .inl ⟨x, rest, h1, h2, fun H2 p s2 np e2 => k _ _ s2 (.inl ⟨x, rest, p, h1, h2, rfl, e2⟩)⟩
    · exact .inr ⟨x, t, h1, h2, h3, fun H2 s2 => k _ _ s2 (.inr ⟨⟨x, t, h1, h2, h3⟩, rfl⟩)⟩
  refine call 0 _ _ (Nat.zero_le _) (s1 _ _ hb) fun fv H1 s2 hf => ?_
  walk_at "rx"
  refine ⟨fun m σ H' => ∃ i fv v5 v6 v7 v8 ps, m = rcs.length - i ∧ i ≤ rcs.length ∧ σ = [some (.ref l), some (.ref rl), some (.int ((recs (rcs.take i)).length : Nat)), some fv, v5, v6, v7, v8] ∧ Same H H' ∧ H' rl = some (.lst (ps.map V.ref)) ∧ BsL H' ps (rcs.take i) ∧ rl ∉ ps ∧ Fnd H' (recs rcs ++ tl) (recs (rcs.take i)).length fv,
    ⟨rcs.length, 0, fv, none, none, none, none, [], by omega, Nat.zero_le _, rfl, s1.trans s2, s2 _ _ upd_same, ⟨rfl, fun i p bs h => by simp at h⟩, by simp, hf⟩, ?_⟩
  rintro m σ H2 ⟨i, fv, v5, v6, v7, v8, ps, rfl, hi, rfl, s3, erl, hB, hnr, hf⟩
  walk_at "rx"
  refine ⟨rfl, ?_⟩
  walk_at "rx"
  have fin : ∀ H', i = rcs.length → Same H2 H' → ∀ p, H' p = none → Q (.ref p) (upd H' p (.tup [.ref rl, .int ((recs (rcs.take i)).length : Nat)])) := by
    intro H' hie s4 p np
    have sp := same_new (o := .tup [.ref rl, .int ((recs (rcs.take i)).length : Nat)]) np
    have s5 := s4.trans sp
    rw [hie, List.take_length] at hB ⊢
    rw [hie, List.take_length] at s5
    exact q _ p rl ps (s3.trans s5) upd_same (s5 _ _ erl) (hB.same s5)
  rcases hf with ⟨x, rest, pf, hd, hx, rfl, ef⟩ | ⟨⟨x, t, hd, ht, hx⟩, rfl⟩
  · refine ite_t rfl ?_
    refine ⟨fun σ' H' => ∃ i' fv v5 v6 v7 v8 ps, i' = i + 1 ∧ i' ≤ rcs.length ∧ σ' = [some (.ref l), some (.ref rl), some (.int ((recs (rcs.take i')).length : Nat)), some fv, v5, v6, v7, v8] ∧ Same H H' ∧ H' rl = some (.lst (ps.map V.ref)) ∧ BsL H' ps (rcs.take i') ∧ rl ∉ ps ∧ Fnd H' (recs rcs ++ tl) (recs (rcs.take i')).length fv,
      fun σ' H' ⟨i', fv, v5, v6, v7, v8, ps, e, h1, h2⟩ => ⟨rcs.length - i', by omega, i', fv, v5, v6, v7, v8, ps, rfl, h1, h2⟩, ?_⟩
    walk_at "rx"
    refine r_gtup ef rfl ?_
    walk_at "rx"
    have eN : ((((recs (rcs.take i)).length + (wNum x).length : Nat) : Int) + (x : Int)) = (((recs (rcs.take i)).length + (wNum x).length + x : Nat) : Int) := by omega
    rw [eN]
    have hl2' := s3 _ _ hb
    refine r_slB hl2' (cutB_nat _ _ _) fun pr hpr => ?_
    rw [show (recs (rcs.take i)).length + (wNum x).length + x - ((recs (rcs.take i)).length + (wNum x).length) = x by omega, ← List.drop_drop, hd, List.drop_left]
    have s4 := same_new (o := bL (rest.take x)) hpr
    have epr : upd H2 pr (bL (rest.take x)) pr = some (bL (rest.take x)) := upd_same
    generalize upd H2 pr (bL (rest.take x)) = H3 at s4 epr
    have s34 := s3.trans s4
    walk_at "rx"
    have eN2 : (((((recs (rcs.take i)).length + (wNum x).length : Nat) : Int) + (x : Int)) + 4) = (((recs (rcs.take i)).length + (wNum x).length + x + 4 : Nat) : Int) := by omega
    rw [eN2]
    refine ⟨l, _, rfl, .inl (SqL.of (s34 _ _ hb)), ?_⟩
    walk_at "rx"
    have hlen : (recs rcs ++ tl).length - (recs (rcs.take i)).length = (wNum x).length + rest.length := by
      have := congrArg List.length hd
      rw [List.length_drop] at this
      rw [this, List.length_append]
    have hle : (recs (rcs.take i)).length ≤ (recs rcs ++ tl).length := by
      rw [List.length_append]
      exact Nat.le_trans (recs_len_le rcs i) (Nat.le_add_right _ _)
    have hxp := wNum_pos x
    rw [List.length_map]
    by_cases hshort : rest.length < x + 4
    · -- the last record is cut
      have hie : i = rcs.length := by
        refine Decidable.byContradiction fun c => ?_
        obtain ⟨r, e⟩ := recs_split (List.getElem?_eq_getElem (show i < rcs.length by omega)) tl
        rw [hd] at e
        obtain ⟨e1, e2⟩ := wNum_len _ _ _ _ e
        rw [e2, e1] at hshort
        simp only [List.length_append, tailS, List.length_cons, List.length_nil] at hshort
        omega
      refine ite_t (decide_eq_true (by omega)) ?_
      refine ite_t rfl ?_
      show tBreak _ _ _
      walk_at "rx"
      refine r_break ?_
      walk_at "rx"
      refine ⟨le_line rfl, fun p hp => ?_⟩
      exact fin _ hie s4 p hp
    · refine ite_f (decide_eq_false (by omega)) ?_
      walk_at "rx"
      have hrw : (wRec (rest.take x)).length ≤ cap := by
        rw [wRec_len, List.length_take]
        have : (wNum (min x rest.length)).length ≤ 10 := Nat.le_trans (wNum_le 3 _ (Nat.lt_of_le_of_lt (show min x rest.length ≤ cap by omega) (by decide))) (by decide)
        omega
      refine ⟨pr, _, rfl, epr, hrw, fun H4 pw s5 nw ew => ?_⟩
      walk_at "rx"
      have e5 : cutV ((wRec (rest.take x)).map bV) (some (-4)) none = (tailS (checkS (rest.take x))).map bV := by
        have h := cutB_back (wRec (rest.take x)) 4 (by decide)
        have h2 : (wRec (rest.take x)).drop ((wRec (rest.take x)).length - 4) = tailS (checkS (rest.take x)) := by
          rw [wRec_len]
          show (wNum (rest.take x).length ++ rest.take x ++ tailS (checkS (rest.take x))).drop _ = _
          rw [show (wNum (rest.take x).length).length + (rest.take x).length + 4 - 4 = (wNum (rest.take x).length ++ rest.take x).length by rw [List.length_append]; omega, List.drop_left]
        rw [h2] at h
        exact h
      refine r_slB ew e5 fun pt hpt => ?_
      have s6 := same_new (o := bL (tailS (checkS (rest.take x)))) hpt
      have s46 := (s4.trans s5).trans s6
      walk_at "rx"
      have e7 : cutV ((recs rcs ++ tl).map bV) (some (((((recs (rcs.take i)).length + (wNum x).length + x + 4 : Nat)) : Int) - 4)) (some (((recs (rcs.take i)).length + (wNum x).length + x + 4 : Nat) : Int)) = ((rest.drop x).take 4).map bV := by
        have h := cutB_nat (recs rcs ++ tl) ((recs (rcs.take i)).length + (wNum x).length + x) ((recs (rcs.take i)).length + (wNum x).length + x + 4)
        rw [show ((((recs (rcs.take i)).length + (wNum x).length + x + 4 : Nat) : Int) - 4) = (((recs (rcs.take i)).length + (wNum x).length + x : Nat) : Int) by omega, h, ← List.drop_drop, ← List.drop_drop, hd, List.drop_left]
        congr 2
        omega
      refine r_slB (s46 _ _ hl2') e7 fun pz hpz => ?_
      have s7 := same_new (o := bL ((rest.drop x).take 4)) hpz
      have s47 := s46.trans s7
      refine r_neB (s7 _ _ upd_same) upd_same ?_
      walk_at "rx"
      by_cases hck : tailS (checkS (rest.take x)) = (rest.drop x).take 4
      · -- the record is good
        have hlt : i < rcs.length := by
          refine Decidable.byContradiction fun c => ?_
          have hie : i = rcs.length := by omega
          rw [hie, List.take_length, List.drop_left] at hd
          rcases hstop with ⟨x', t', h1, h2, h3⟩ | ⟨x', r', h1, h2, h3⟩ | ⟨body, ck, rest', h1, h2, h3⟩
          · rw [hd] at h1
            have := wNum_cut _ _ _ _ h1
            rw [this] at h2
            exact absurd h2 (by simp)
          · rw [hd] at h1
            obtain ⟨e1, e2⟩ := wNum_len _ _ _ _ h1
            rw [e1, e2] at hshort
            exact hshort h3
          · rw [hd] at h1
            obtain ⟨e1, e2⟩ := wNum_len _ _ _ _ h1
            rw [e2, e1, List.take_left, List.drop_left] at hck
            rw [List.take_left' h2] at hck
            exact h3 hck.symm
        obtain ⟨r, e⟩ := recs_split (List.getElem?_eq_getElem hlt) tl
        rw [hd] at e
        obtain ⟨e1, e2⟩ := wNum_len _ _ _ _ e
        have e3 : rest.take x = rcs[i] := by rw [e2, e1, List.take_left]
        refine ite_f (by simp [hck]) ?_
        walk_at "rx"
        have erl4 := s47 _ _ erl
        refine ⟨ty_l erl4, ?_⟩
        walk_at "rx"
        have lps : ps.length = i := by rw [hB.len, List.length_take]; omega
        refine ⟨rl, _, .ref pr, rfl, rfl, erl4, by rw [List.length_map, lps]; exact cap_lt (by have := flat_ge (w := wRec) (l := rcs) wRec_pos; unfold recs at hl2; omega), ?_⟩
        walk_at "rx"
        have npr : pr ≠ rl := fun z => by rw [z, erl] at hpr; cases hpr
        have hB4 := hB.same s47
        have eprf : upd (upd (upd H4 pt (bL (tailS (checkS (rest.take x))))) pz (bL ((rest.drop x).take 4))) rl (.lst (ps.map V.ref ++ [.ref pr])) pr = some (bL rcs[i]) := by
          rw [upd_ne npr, (s7 _ _ (s6 _ _ (s5 _ _ epr)) : _), e3]
        have sF := same_mut (o := .lst (ps.map V.ref ++ [.ref pr])) (s3.trans s47) hrl
        have hbF : ∀ (j : Nat) (p : Addr) (bs : List Nat), ps[j]? = some p → (rcs.take i)[j]? = some bs → upd (upd (upd H4 pt (bL (tailS (checkS (rest.take x))))) pz (bL ((rest.drop x).take 4))) rl (.lst (ps.map V.ref ++ [.ref pr])) p = some (bL bs) := by
          intro j p bs h1 h2
          rw [upd_ne (show p ≠ rl from fun z => hnr (by rw [← z]; exact List.mem_of_getElem? h1))]
          exact hB4.at_ j p bs h1 h2
        have erlF : upd (upd (upd H4 pt (bL (tailS (checkS (rest.take x))))) pz (bL ((rest.drop x).take 4))) rl (.lst (ps.map V.ref ++ [.ref pr])) rl = some (.lst ((ps ++ [pr]).map V.ref)) := by
          rw [upd_same]
          simp
        generalize upd (upd (upd H4 pt (bL (tailS (checkS (rest.take x))))) pz (bL ((rest.drop x).take 4))) rl (.lst (ps.map V.ref ++ [.ref pr])) = H5 at eprf sF hbF erlF
        have est : (((recs (rcs.take i)).length + (wNum x).length + x + 4 : Nat)) = (recs (rcs.take (i + 1))).length := by
          rw [recs_at (List.getElem?_eq_getElem hlt), List.length_append, wRec_len, e1]
          omega
        rw [est]
        refine call (i + 1) H5 _ hlt (sF _ _ hb) fun fv H6 s6' hf => ?_
        walk_at "rx"
        refine ⟨i + 1, fv, _, _, _, _, ps ++ [pr], rfl, hlt, rfl, sF.trans s6', s6' _ _ erlF, ⟨?_, ?_⟩, ?_, hf⟩
        · rw [List.length_append, List.length_take, lps]
          show i + 1 = _
          omega
        · intro j p bs h1 h2
          by_cases hj : j < ps.length
          · rw [List.getElem?_append_left hj] at h1
            rw [List.getElem?_take_of_lt (by omega)] at h2
            exact s6' _ _ (hbF j p bs h1 (by rw [List.getElem?_take_of_lt (by omega)]; exact h2))
          · rw [List.getElem?_append_right (by omega)] at h1
            have hj0 : j = i := by
              have := (List.getElem?_eq_some_iff.mp h1).1
              simp at this
              omega
            subst hj0
            rw [lps, Nat.sub_self] at h1
            obtain rfl : pr = p := Option.some.inj h1
            rw [List.getElem?_take_of_lt (by omega), List.getElem?_eq_getElem hlt] at h2
            obtain rfl := Option.some.inj h2
            exact s6' _ _ eprf
        · intro hm
          rcases List.mem_append.mp hm with h | h
          · exact hnr h
          · exact npr (List.mem_singleton.mp h).symm
      · have hie : i = rcs.length := by
          refine Decidable.byContradiction fun c => ?_
          obtain ⟨r, e⟩ := recs_split (List.getElem?_eq_getElem (show i < rcs.length by omega)) tl
          rw [hd] at e
          obtain ⟨e1, e2⟩ := wNum_len _ _ _ _ e
          rw [e2, e1, List.take_left, List.drop_left] at hck
          exact hck (List.take_left' (by rfl)).symm
        refine ite_t (by simp [hck]) ?_
        refine r_break ?_
        walk_at "rx"
        refine ⟨le_line rfl, fun p hp => ?_⟩
        exact fin _ hie s47 p hp
  · refine ite_f rfl ?_
    have hie : i = rcs.length := by
      refine Decidable.byContradiction fun c => ?_
      obtain ⟨r, e⟩ := recs_split (List.getElem?_eq_getElem (show i < rcs.length by omega)) tl
      rw [e] at hd
      have := wNum_cut _ _ _ _ hd
      rw [this] at ht
      exact absurd ht (by simp)
    walk_at "rx"
    refine ⟨le_line rfl, fun p hp => ?_⟩
    exact fin _ hie (Same.refl _) p hp
end
end Q

/-! ## E1 -/
set_option Elab.async false
set_option linter.all false
set_option maxRecDepth 100000
set_option maxHeartbeats 4000000
namespace Q
open PySem PySem.Spec PyProof.Rows L2
local macro_rules | `(tactic| walk_at "rd") => `(tactic| repeat (first
  | ((with_reducible apply r_var); focus exact rfl)
  | with_reducible refine r_c ?_
  | with_reducible refine r_chain ?_
  | ((with_reducible apply r_aug); focus exact rfl)
  | with_reducible refine r_ip ?_
  | with_reducible refine r_op ?_
  | with_reducible refine r_I0 ?_
  | with_reducible refine r_cons ?_
  | with_reducible refine r_nil ?_
  | with_reducible refine r_seq ?_
  | with_reducible refine r_asg ?_
  | with_reducible refine r_gn ?_
  | with_reducible refine r_gcons ?_
  | with_reducible refine r_gnil ?_
  | with_reducible refine r_lc ?_
  | with_reducible refine r_m1 ?_
  | with_reducible refine r_sfld ?_
  | with_reducible refine r_sfa ?_
  | with_reducible refine r_rAdd ?_
  | with_reducible refine r_ret ?_
  | with_reducible refine r_ifS ?_
  | with_reducible refine r_test ?_
  | with_reducible refine r_bl ?_
  | with_reducible refine r_B ?_
  | with_reducible refine r_drop ?_
  | with_reducible refine r_bm ?_
  | with_reducible refine r_CB ?_
  | with_reducible refine r_call ?_
  | with_reducible refine r_meth ?_
  | with_reducible refine r_make ?_
  | with_reducible refine r_tup ?_
  | with_reducible refine r_lst ?_
  | ((with_reducible refine r_I ?_ ?_); focus (first | decide | exact ⟨by decide, by decide⟩ | exact .inl ⟨by decide, by decide⟩ | exact .inr ⟨by decide, by decide⟩ | omega))
  | with_reducible refine r_U ?_
  | with_reducible refine r_un ?_
  | with_reducible refine r_and ?_
  | with_reducible refine r_or ?_
  | with_reducible refine r_not ?_
  | with_reducible refine r_andV ?_
  | with_reducible refine r_orV ?_
  | with_reducible refine r_notV ?_
  | with_reducible refine r_if ?_
  | with_reducible refine r_sl ?_
  | with_reducible refine r_part ?_
  | with_reducible refine r_parti ?_
  | with_reducible refine r_nopart ?_
  | with_reducible refine r_il ?_
  | with_reducible refine r_it ?_
  | with_reducible refine r_ir ?_
  | with_reducible refine r_is ?_
  | with_reducible refine r_next ?_
  | with_reducible refine r_retN ?_
  | ((with_reducible refine r_eq ?_ ?_); focus exact rfl)
  | ((with_reducible refine r_ne ?_ ?_); focus exact rfl)))
local macro_rules | `(tactic| walk_at "rx") => `(tactic| repeat (first
  | ((with_reducible apply r_var); focus exact rfl)
  | with_reducible refine r_c ?_
  | with_reducible refine r_chain ?_
  | ((with_reducible apply r_aug); focus exact rfl)
  | with_reducible refine r_ip ?_
  | with_reducible refine r_op ?_
  | with_reducible refine r_I0 ?_
  | with_reducible refine r_cons ?_
  | with_reducible refine r_nil ?_
  | with_reducible refine r_seq ?_
  | with_reducible refine r_asg ?_
  | with_reducible refine r_gn ?_
  | with_reducible refine r_gcons ?_
  | with_reducible refine r_gnil ?_
  | with_reducible refine r_m1 ?_
  | with_reducible refine r_sfld ?_
  | with_reducible refine r_sfa ?_
  | with_reducible refine r_rAdd ?_
  | with_reducible refine r_ret ?_
  | with_reducible refine r_ifS ?_
  | with_reducible refine r_test ?_
  | with_reducible refine r_bl ?_
  | with_reducible refine r_B ?_
  | with_reducible refine r_drop ?_
  | with_reducible refine r_bm ?_
  | with_reducible refine r_CB ?_
  | with_reducible refine r_call ?_
  | with_reducible refine r_make ?_
  | with_reducible refine r_tup ?_
  | with_reducible refine r_lst ?_
  | ((with_reducible refine r_I ?_ ?_); focus (first | decide | exact ⟨by decide, by decide⟩ | exact .inl ⟨by decide, by decide⟩ | exact .inr ⟨by decide, by decide⟩ | omega))
  | with_reducible refine r_U ?_
  | with_reducible refine r_un ?_
  | with_reducible refine r_and ?_
  | with_reducible refine r_or ?_
  | with_reducible refine r_not ?_
  | with_reducible refine r_andV ?_
  | with_reducible refine r_orV ?_
  | with_reducible refine r_notV ?_
  | with_reducible refine r_if ?_
  | with_reducible refine r_sl ?_
  | with_reducible refine r_part ?_
  | with_reducible refine r_parti ?_
  | with_reducible refine r_nopart ?_
  | with_reducible refine r_il ?_
  | with_reducible refine r_it ?_
  | with_reducible refine r_ir ?_
  | with_reducible refine r_is ?_
  | with_reducible refine r_next ?_
  | with_reducible refine r_retN ?_
  | ((with_reducible refine r_eq ?_ ?_); focus exact rfl)
  | ((with_reducible refine r_ne ?_ ?_); focus exact rfl)))
section
variable {P : Program} {w : World} {K : PySem.W.Frag} {mg : Str → Option Value} {base : Heap}
/-- [.. for .. in ..], the items new objects -/
theorem lc_obE {Ex : Nat → Hp → Prop} {Fr : Hp → Hp → Prop} {J : It} {I : Hp → Prop} {xs : List V} {P : Nat → Hp → Addr → Prop} {g : TG} {te : TE} {vs : List Nat} {σ : L2.St} {H1 : Hp} {D : Addr} {Qd : Hp → Prop} (hJ : Wk J I xs) (F : FrmOk Fr H1) (hD : H1 D = none) (hI : ∀ H, Fr H1 H → I H) (hc : xs.length ≤ cap)
    (hP : ∀ i H H' p, P i H p → Tst H H' → (∀ o, H p = some o → H' p = some o) → P i H' p) (hP0 : ∀ i H p, P i H p → H p ≠ none) (hE0 : Ex 0 (upd H1 D (.lst []))) (hEu : ∀ i H ys zs, Fr H1 H → Ex i H → H D = some (.lst ys) → Ex i (upd H D (.lst zs)))
    (hs : ∀ (i : Nat) x H (Q2 : VK), xs[i]? = some x → Fr H1 H → Ex i H → (∀ p H', Fr H H' → H p = none → P i H' p → Ex (i + 1) H' → Q2 (.ref p) H') → g x (wipe σ vs) H fun σ2 H2 => wipe σ2 vs = wipe σ vs ∧ te σ2 H2 Q2)
    (hd : ∀ H (rs : List Addr), Fr H1 H → Ex xs.length H → rs.length = xs.length → rs.Nodup → D ∉ rs → (∀ r ∈ rs, H1 r = none) → H D = some (.lst (rs.map V.ref)) → (∀ i r, rs[i]? = some r → P i H r) → Qd H) :
    ∃ W : Nat → Nat → Hp → Prop, (∃ m, W 0 m (upd H1 D (.lst []))) ∧ ∀ i m H, W i m H →
      (J.stop i H ∧ Qd H) ∨ (J.go i H ∧ ∃ Nx : Hp → Prop, (∀ H', Nx H' → ∃ m', m' < m ∧ W (i + 1) m' H') ∧ ∀ x H', J.yld i H x H' → g x (wipe σ vs) H' fun σ2 H2 => wipe σ2 vs = wipe σ vs ∧ tYes σ2 H2 fun b H3 =>
        if b = true then te σ2 H3 fun y H4 => ∃ acc, H4 D = some (.lst acc) ∧ acc.length < sizeLine ∧ Nx (upd H4 D (.lst (acc ++ [y]))) else Nx H3) := by
  refine lc_any (tt := tYes) hJ (fun i H => (Fr H1 H ∧ Ex i H) ∧ ∃ rs : List Addr, rs.length = i ∧ rs.Nodup ∧ D ∉ rs ∧ (∀ r ∈ rs, H1 r = none) ∧ H D = some (.lst (rs.map V.ref)) ∧ ∀ j r, rs[j]? = some r → P j H r) (fun i H h => hI H h.1.1)
    ⟨⟨F.nN _ _ _ F.rf hD, hE0⟩, [], rfl, List.nodup_nil, by simp, by simp, upd_same, by simp⟩ ?_ ?_
  · rintro i x H hx ⟨⟨s, ex⟩, rs, lrs, nd, nDr, hn, eD, hp⟩
    have hi : i < xs.length := (List.getElem?_eq_some_iff.mp hx).1
    refine hs i x H (fun y H4 => ∃ acc, H4 D = some (.lst acc) ∧ acc.length < sizeLine ∧ ((Fr H1 (upd H4 D (.lst (acc ++ [y]))) ∧ Ex (i + 1) (upd H4 D (.lst (acc ++ [y])))) ∧ ∃ rs : List Addr, rs.length = i + 1 ∧ rs.Nodup ∧ D ∉ rs ∧ (∀ r ∈ rs, H1 r = none) ∧ upd H4 D (.lst (acc ++ [y])) D = some (.lst (rs.map V.ref)) ∧ ∀ j r, rs[j]? = some r → P j (upd H4 D (.lst (acc ++ [y]))) r)) hx s ex fun p H' t np hPp ex' => ?_
    have eD' := F.kN _ _ _ _ t hD eD
    have npD : p ≠ D := fun e => by rw [e, eD] at np; cases np
    have np1 := F.fN _ _ s np
    have t5 : Tst H' (upd H' D (.lst (rs.map V.ref ++ [.ref p]))) := (Tst.refl H').lst eD'
    have npr : p ∉ rs := fun hm => by
      obtain ⟨j, hj, e⟩ := List.getElem_of_mem hm
      exact hP0 j H p (hp j p (by rw [List.getElem?_eq_getElem hj, e])) np
    refine ⟨rs.map V.ref, eD', cap_lt (by rw [List.length_map]; omega), ⟨F.nN _ _ _ (F.tr _ _ _ s t) hD, hEu _ _ _ _ (F.tr _ _ _ s t) ex' eD'⟩, rs ++ [p], by simp [lrs], ?_, ?_, ?_, by rw [upd_same]; simp, ?_⟩
    · rw [List.nodup_append]
      refine ⟨nd, by simp, ?_⟩
      intro a ha b hb e
      obtain rfl : b = p := by simpa using hb
      subst e
      exact npr ha
    · intro hm
      rcases List.mem_append.mp hm with h | h
      · exact nDr h
      · exact npD (List.mem_singleton.mp h).symm
    · intro r hm
      rcases List.mem_append.mp hm with h | h
      · exact hn r h
      · have e : r = p := by simpa using h
        rw [e]
        exact np1
    · intro j r hj
      by_cases hji : j < rs.length
      · rw [List.getElem?_append_left hji] at hj
        have hr := List.mem_of_getElem? hj
        refine hP j H' _ r (hP j H H' r (hp j r hj) (F.ts _ _ s t) fun o e => F.kN _ _ _ _ t (hn r hr) e) t5 fun o e => ?_
        rw [upd_ne (show r ≠ D from fun z => nDr (by rw [← z]; exact hr))]
        exact e
      · rw [List.getElem?_append_right (by omega)] at hj
        have hj0 : j = i := by
          have := (List.getElem?_eq_some_iff.mp hj).1
          simp at this
          omega
        subst hj0
        rw [lrs, Nat.sub_self] at hj
        obtain rfl : p = r := Option.some.inj hj
        refine hP j H' _ p hPp t5 fun o e => ?_
        rw [upd_ne npD]
        exact e
  · rintro H ⟨⟨s, ex⟩, rs, lrs, nd, nDr, hn, eD, hp⟩
    exact hd H rs s ex lrs nd nDr hn eD hp
/-- [.. for .. in ..], the items data that turn out -/
theorem lc_exE {Ex : Nat → Hp → Prop} {Pd : D → Prop} {Fr : Hp → Hp → Prop} {J : It} {I : Hp → Prop} {xs : List V} {g : TG} {te : TE} {vs : List Nat} {σ : L2.St} {H1 : Hp} {D0 : Addr} {Qd : Hp → Prop} (hJ : Wk J I xs) (F : FrmOk Fr H1) (hD : H1 D0 = none) (hI : ∀ H, Fr H1 H → I H) (hc : xs.length ≤ cap)
    (hE0 : Ex 0 (upd H1 D0 (.lst []))) (hEu : ∀ i H ys zs, Fr H1 H → Ex i H → H D0 = some (.lst ys) → Ex i (upd H D0 (.lst zs)))
    (hs : ∀ (i : Nat) x H (Q2 : VK), xs[i]? = some x → Fr H1 H → Ex i H → (∀ v H' d, Fr H H' → Pd d → Rp H' d v → Ex (i + 1) H' → Q2 v H') → g x (wipe σ vs) H fun σ2 H2 => wipe σ2 vs = wipe σ vs ∧ te σ2 H2 Q2)
    (hd : ∀ H ys (ds : List D), Fr H1 H → Ex xs.length H → H D0 = some (.lst ys) → RpL H ds ys → ds.length = xs.length → (∀ d ∈ ds, Pd d) → Qd H) :
    ∃ W : Nat → Nat → Hp → Prop, (∃ m, W 0 m (upd H1 D0 (.lst []))) ∧ ∀ i m H, W i m H →
      (J.stop i H ∧ Qd H) ∨ (J.go i H ∧ ∃ Nx : Hp → Prop, (∀ H', Nx H' → ∃ m', m' < m ∧ W (i + 1) m' H') ∧ ∀ x H', J.yld i H x H' → g x (wipe σ vs) H' fun σ2 H2 => wipe σ2 vs = wipe σ vs ∧ tYes σ2 H2 fun b H3 =>
        if b = true then te σ2 H3 fun y H4 => ∃ acc, H4 D0 = some (.lst acc) ∧ acc.length < sizeLine ∧ Nx (upd H4 D0 (.lst (acc ++ [y]))) else Nx H3) := by
  refine lc_any (tt := tYes) hJ (fun i H => (Fr H1 H ∧ Ex i H) ∧ ∃ ys, ∃ ds : List D, H D0 = some (.lst ys) ∧ RpL H ds ys ∧ ds.length = i ∧ ∀ d ∈ ds, Pd d) (fun i H h => hI H h.1.1) ⟨⟨F.nN _ _ _ F.rf hD, hE0⟩, [], [], upd_same, rfl, rfl, by simp⟩ ?_ ?_
  · rintro i x H hx ⟨⟨s, ex⟩, ys, ds, eD, hys, hlen, hpd⟩
    have hi : i < xs.length := (List.getElem?_eq_some_iff.mp hx).1
    refine hs i x H (fun y H4 => ∃ acc, H4 D0 = some (.lst acc) ∧ acc.length < sizeLine ∧ ((Fr H1 (upd H4 D0 (.lst (acc ++ [y]))) ∧ Ex (i + 1) (upd H4 D0 (.lst (acc ++ [y])))) ∧ ∃ ys, ∃ ds : List D, upd H4 D0 (.lst (acc ++ [y])) D0 = some (.lst ys) ∧ RpL (upd H4 D0 (.lst (acc ++ [y]))) ds ys ∧ ds.length = i + 1 ∧ ∀ d ∈ ds, Pd d)) hx s ex fun v H' d t hPd hv ex' => ?_
    have eD' := F.kN _ _ _ _ t hD eD
    have lys : ys.length = i := by rw [hys.length]; exact hlen
    have t5 : Tst H' (upd H' D0 (.lst (ys ++ [v]))) := (Tst.refl H').lst eD'
    refine ⟨ys, eD', cap_lt (by omega), ⟨F.nN _ _ _ (F.tr _ _ _ s t) hD, hEu _ _ _ _ (F.tr _ _ _ s t) ex' eD'⟩, _, ds ++ [d], upd_same, RpL.snoc (hv.ts t5) ((hys.ts (F.ts _ _ s t)).ts t5), by rw [List.length_append, hlen]; rfl, fun e he => ?_⟩
    rcases List.mem_append.mp he with h | h
    · exact hpd e h
    · rw [List.mem_singleton.mp h]
      exact hPd
  · rintro H ⟨⟨s, ex⟩, ys, ds, eD, hys, hlen, hpd⟩
    exact hd H ys ds s ex eD hys hlen hpd
/-- a, an instance, may change -/
def Ix (a : Addr) (H H' : Hp) : Prop := Sx a H H' ∧ ((∃ C dx fs, H a = some (.ins C dx fs)) → ∃ C dx fs, H' a = some (.ins C dx fs))
theorem Ix.refl (a : Addr) (H : Hp) : Ix a H H := ⟨Sx.refl a H, id⟩
theorem Ix.trans {a : Addr} {A B C : Hp} (h : Ix a A B) (k : Ix a B C) : Ix a A C := ⟨h.1.trans k.1, fun z => k.2 (h.2 z)⟩
theorem FrmOk.ix {a C dx : Addr} {fs : List (Str × V)} {H1 : Hp} (h : H1 a = some (.ins C dx fs)) : FrmOk (Ix a) H1 := by
  have na : ∀ {p}, H1 p = none → p ≠ a := fun e z => by rw [z, h] at e; cases e
  refine ⟨Ix.refl a H1, fun _ _ _ x y => x.trans y, fun H H' s t => ?_, fun H H' p o s n e => s.1 p o (na n) e, fun H p o s n => ⟨s.1.new n, fun z => ?_⟩, fun H p s n => ?_⟩
  · obtain ⟨_, _, _, e⟩ := s.2 ⟨C, dx, fs, h⟩
    exact t.1.tsI e
  · rw [upd_ne (na n).symm]
    exact s.2 z
  · obtain ⟨_, _, _, e⟩ := s.2 ⟨C, dx, fs, h⟩
    refine s.1.free (fun z => ?_) n
    rw [z, e] at n
    cases n
end
end Q

/-! ## L3 -/
set_option Elab.async false
set_option linter.all false
set_option maxRecDepth 100000
set_option maxHeartbeats 4000000
namespace Q
open PySem PySem.Spec PyProof.Rows L2
local macro_rules | `(tactic| walk_at "rd") => `(tactic| repeat (first
  | ((with_reducible apply r_var); focus exact rfl)
  | with_reducible refine r_c ?_
  | with_reducible refine r_chain ?_
  | ((with_reducible apply r_aug); focus exact rfl)
  | with_reducible refine r_ip ?_
  | with_reducible refine r_op ?_
  | with_reducible refine r_I0 ?_
  | with_reducible refine r_cons ?_
  | with_reducible refine r_nil ?_
  | with_reducible refine r_seq ?_
  | with_reducible refine r_asg ?_
  | with_reducible refine r_gn ?_
  | with_reducible refine r_gcons ?_
  | with_reducible refine r_gnil ?_
  | with_reducible refine r_lc ?_
  | with_reducible refine r_m1 ?_
  | with_reducible refine r_sfld ?_
  | with_reducible refine r_sfa ?_
  | with_reducible refine r_rAdd ?_
  | with_reducible refine r_ret ?_
  | with_reducible refine r_ifS ?_
  | with_reducible refine r_test ?_
  | with_reducible refine r_bl ?_
  | with_reducible refine r_B ?_
  | with_reducible refine r_drop ?_
  | with_reducible refine r_bm ?_
  | with_reducible refine r_CB ?_
  | with_reducible refine r_call ?_
  | with_reducible refine r_meth ?_
  | with_reducible refine r_make ?_
  | with_reducible refine r_tup ?_
  | with_reducible refine r_lst ?_
  | ((with_reducible refine r_I ?_ ?_); focus (first | decide | exact ⟨by decide, by decide⟩ | exact .inl ⟨by decide, by decide⟩ | exact .inr ⟨by decide, by decide⟩ | omega))
  | with_reducible refine r_U ?_
  | with_reducible refine r_un ?_
  | with_reducible refine r_and ?_
  | with_reducible refine r_or ?_
  | with_reducible refine r_not ?_
  | with_reducible refine r_andV ?_
  | with_reducible refine r_orV ?_
  | with_reducible refine r_notV ?_
  | with_reducible refine r_if ?_
  | with_reducible refine r_sl ?_
  | with_reducible refine r_part ?_
  | with_reducible refine r_parti ?_
  | with_reducible refine r_nopart ?_
  | with_reducible refine r_il ?_
  | with_reducible refine r_it ?_
  | with_reducible refine r_ir ?_
  | with_reducible refine r_is ?_
  | with_reducible refine r_next ?_
  | with_reducible refine r_retN ?_
  | ((with_reducible refine r_eq ?_ ?_); focus exact rfl)
  | ((with_reducible refine r_ne ?_ ?_); focus exact rfl)))
local macro_rules | `(tactic| walk_at "rx") => `(tactic| repeat (first
  | ((with_reducible apply r_var); focus exact rfl)
  | with_reducible refine r_c ?_
  | with_reducible refine r_chain ?_
  | ((with_reducible apply r_aug); focus exact rfl)
  | with_reducible refine r_ip ?_
  | with_reducible refine r_op ?_
  | with_reducible refine r_I0 ?_
  | with_reducible refine r_cons ?_
  | with_reducible refine r_nil ?_
  | with_reducible refine r_seq ?_
  | with_reducible refine r_asg ?_
  | with_reducible refine r_gn ?_
  | with_reducible refine r_gcons ?_
  | with_reducible refine r_gnil ?_
  | with_reducible refine r_m1 ?_
  | with_reducible refine r_sfld ?_
  | with_reducible refine r_sfa ?_
  | with_reducible refine r_rAdd ?_
  | with_reducible refine r_ret ?_
  | with_reducible refine r_ifS ?_
  | with_reducible refine r_test ?_
  | with_reducible refine r_bl ?_
  | with_reducible refine r_B ?_
  | with_reducible refine r_drop ?_
  | with_reducible refine r_bm ?_
  | with_reducible refine r_CB ?_
  | with_reducible refine r_call ?_
  | with_reducible refine r_make ?_
  | with_reducible refine r_tup ?_
  | with_reducible refine r_lst ?_
  | ((with_reducible refine r_I ?_ ?_); focus (first | decide | exact ⟨by decide, by decide⟩ | exact .inl ⟨by decide, by decide⟩ | exact .inr ⟨by decide, by decide⟩ | omega))
  | with_reducible refine r_U ?_
  | with_reducible refine r_un ?_
  | with_reducible refine r_and ?_
  | with_reducible refine r_or ?_
  | with_reducible refine r_not ?_
  | with_reducible refine r_andV ?_
  | with_reducible refine r_orV ?_
  | with_reducible refine r_notV ?_
  | with_reducible refine r_if ?_
  | with_reducible refine r_sl ?_
  | with_reducible refine r_part ?_
  | with_reducible refine r_parti ?_
  | with_reducible refine r_nopart ?_
  | with_reducible refine r_il ?_
  | with_reducible refine r_it ?_
  | with_reducible refine r_ir ?_
  | with_reducible refine r_is ?_
  | with_reducible refine r_next ?_
  | with_reducible refine r_retN ?_
  | ((with_reducible refine r_eq ?_ ?_); focus exact rfl)
  | ((with_reducible refine r_ne ?_ ?_); focus exact rfl)))
section
variable {P : Program} {w : World} {K : PySem.W.Frag} {mg : Str → Option Value} {base : Heap}
/-! ### the log, read -/
structure okB (s : BS) : Prop where
  com : okN s.com
  rows8 : s.rows.length = 8
  rows : ∀ row ∈ s.rows, ∀ d ∈ row, okD d
  cells : ∀ c ∈ hCells s.held, okC c
  sup : ∀ n so, s.held n = some so → n ∈ names4
/-- Reader(l) -/
theorem mk_reader {H : Hp} {l r dx : Addr} {bs : List Nat} {Qv : VK} {E : XK} (h : H l = some (bL bs)) (nr : H r = none) (ndr : H dx = none) (q : ∀ L H', Same H H' → RdAt K H' r L bs 0 → Qv .non H') :
    spRI K (.ref r :: ([.ref l] ++ [])) (upd (upd H dx (.own r)) r (.ins (cR K) dx [])) Qv E := by
  refine ⟨r, l, dx, bs, rfl, upd_same, ?_, fun H1 L sx1 nL R1 => q L H1 (made_same nr ndr sx1) R1⟩
  rw [upd_ne (ne_of_none h nr), upd_ne (ne_of_none h ndr)]
  exact h
theorem drop0 {bs : List Nat} {k : Nat} {ys : List Nat} (e : bs = k :: ys) : bs[0]? = some k ∧ bs.drop (0 + 1) = ys := by
  rw [e]
  exact ⟨rfl, rfl⟩
def spTurn : Sp := fun vs H Q _ => ∃ l, ∃ t : Nat, vs = [.ref l] ∧ H l = some (bL (1 :: wNum t)) ∧ okN t ∧ (1 :: wNum t).length ≤ cap ∧ ∀ H', Same H H' → Q (.int (t : Nat)) H'
theorem ok_read_turn  (T : Txt K mg) : Fc P w K mg base CX0 (3) "_read_turn" ["record"] (spTurn) := by
  refine ⟨?_, gm_read_turn T, (fd_read_turn T.says).kp, (fd_read_turn T.says).bindsN fun _ _ _ _ _ _ us hl => match us, hl with | [_], _ => rfl⟩
  refine (fd_read_turn T.says).ok sc_read_turn (fun vs H Q E h => by first | (obtain ⟨_, rfl, _⟩ := h; rfl) | (obtain ⟨_, _, rfl, _⟩ := h; rfl) | (obtain ⟨_, _, _, rfl, _⟩ := h; rfl) | (obtain ⟨_, _, _, _, rfl, _⟩ := h; rfl) | (obtain ⟨_, _, _, _, _, rfl, _⟩ := h; rfl) | (obtain ⟨_, _, _, _, _, _, rfl, _⟩ := h; rfl) | (obtain ⟨_, _, _, _, _, _, _, rfl, _⟩ := h; rfl) | (obtain ⟨_, _, _, _, _, _, _, _, rfl, _⟩ := h; rfl) | (obtain ⟨_, _, _, _, _, _, _, _, _, rfl, _⟩ := h; rfl)) (fun cdv A outer s H vs Q E hr h => ?_)
  obtain ⟨l, t, rfl, hl, hok, hc, q⟩ := h
  refine ⟨_, PSs.nox (pss_cons (ps_set (i := 1) sc_read_turn.nd rfl (Or.inl rfl) (pe_i (ok_Reader_init T) (hr.mono (by omega)) (by rfl) (pa_cons (pv 0) pa_nil)))
      (pss_cons (ps_if (pt_cmpR op_ne (pe_m0 (ok_Reader_read_byte T) (hr.mono (by omega)) (pv 1)) pe_int (nomark _)) (pss_one ps_never) pss_nil)
      (pss_cons (ps_set (i := 2) sc_read_turn.nd rfl (Or.inl rfl) (pe_m0 (ok_Reader_read_number T) (hr.mono (by omega)) (pv 1)))
      (pss_cons (ps_expr (pe_m0 (ok_Reader_end T) (hr.mono (by omega)) (pv 1)))
      (pss_one (ps_ret (pv 2))))))), ?_⟩
  walk_at "rx"
  intro r dxr nr ndr nxr
  refine mk_reader hl nr ndr fun L H1 s1 R1 => ⟨rfl, ?_⟩
  walk_at "rx"
  refine r_mt ⟨.ref r, rfl, rd_no R1 (by decide +kernel) fun _ _ => ?_⟩
  walk_at "rx"
  refine ⟨r, L, _, 0, 1, rfl, R1, rfl, hc, fun H2 s2 R2 => ?_⟩
  walk_at "rx"
  refine ite_f rfl ?_
  walk_at "rx"
  refine rd_m (x := t) (rest := []) (ok := okN) rfl R2 (by rw [List.append_nil]; rfl) hok hc fun v H3 s3 R3 hv => ?_
  obtain rfl : v = .int t := hv
  walk_at "rx"
  refine r_mt ⟨.ref r, rfl, rd_no R3 (by decide +kernel) fun _ _ => ?_⟩
  walk_at "rx"
  refine ⟨r, L, _, rfl, R3.to (by rw [List.length_cons]; omega), hc, ?_⟩
  walk_at "rx"
  exact q H3 (sx_same (sx_same s1 nr s2) nr s3)
/-- rows of deeds, read -/
theorem BA.mv {H H' : Hp} {a b bx d dx l : Addr} {rs : List Addr} {hd : Addr} {s : BS} (h : BA K H b bx d dx l rs hd s) (sx : Sx a H H') (t : Tst H H') (nb : b ≠ a) (nd : d ≠ a) (nl : l ≠ a) (nr : a ∉ rs) (nh : hd ≠ a) : BA K H' b bx d dx l rs hd s :=
  ⟨sx _ _ nb h.1, h.2.1.mv sx t nd nl nr, h.2.2.mv t fun o e => sx _ _ nh e⟩
def spBase (K : PySem.W.Frag) : Sp := fun vs H Q _ => ∃ l s, vs = [.ref l] ∧ H l = some (bL (3 :: wBase s)) ∧ okB s ∧ (3 :: wBase s).length ≤ cap ∧ ∀ b H', Same H H' → H b = none → BaseAt K H' b s → Q (.ref b) H'
theorem putAll_eq (f : Str → Option SO) : ∀ (L : List Str) (g : Str → Option SO), L.Nodup → (∀ n ∈ L, g n = none) →
    ((L.filterMap fun n => (f n).map fun so => ((n, so.1, so.2) : Cell)).foldl (fun f c => putF4 f c.1 c.2) g) = fun n => if n ∈ L then f n else g n
  | [], g, _, _ => by
    funext n
    simp
  | m :: L, g, nd, hg => by
    obtain ⟨hm, nd2⟩ := List.nodup_cons.mp nd
    cases e : f m with
    | none =>
      rw [List.filterMap_cons, e]
      show ((L.filterMap fun n => (f n).map fun so => ((n, so.1, so.2) : Cell)).foldl _ g) = _
      rw [putAll_eq f L g nd2 fun n hn => hg n (List.mem_cons_of_mem _ hn)]
      funext n
      by_cases c : n = m
      · subst c
        rw [if_neg hm, if_pos List.mem_cons_self, e, hg n List.mem_cons_self]
      · have : n ∈ m :: L ↔ n ∈ L := by simp [c]
        simp only [this]
    | some so =>
      rw [List.filterMap_cons, e]
      show ((L.filterMap fun n => (f n).map fun so => ((n, so.1, so.2) : Cell)).foldl _ (putF4 g m so)) = _
      rw [putAll_eq f L _ nd2 fun n hn => by
        unfold putF4
        rw [if_neg (fun z => hm (by rw [← z]; exact hn))]
        exact hg n (List.mem_cons_of_mem _ hn)]
      funext n
      unfold putF4
      by_cases c : n = m
      · subst c
        rw [if_neg hm, if_pos rfl, if_pos List.mem_cons_self, e]
      · have : n ∈ m :: L ↔ n ∈ L := by simp [c]
        simp only [this, if_neg c]
theorem held_back {f : Str → Option SO} (h : ∀ n so, f n = some so → n ∈ names4) : (hCells f).foldl (fun f c => putF4 f c.1 c.2) (fun _ => none) = f := by
  rw [hCells, putAll_eq f names4 _ names4_nodup fun _ _ => rfl]
  funext n
  by_cases c : n ∈ names4
  · rw [if_pos c]
  · rw [if_neg c]
    cases e : f n with
    | none => rfl
    | some so => exact absurd (h n so e) c
theorem hCells_names {f : Str → Option SO} {c : Cell} (h : c ∈ hCells f) : c.1 ∈ names4 := by
  obtain ⟨n, hn, e⟩ := List.mem_filterMap.mp h
  cases e2 : f n with
  | none =>
    rw [e2] at e
    cases e
  | some so =>
    rw [e2] at e
    have := Option.some.inj e
    rw [← this]
    exact hn
theorem ok_read_base  (T : Txt K mg) : Fc P w K mg base CX0 (89) "_read_base" ["record"] (spBase K) := by
  refine ⟨?_, gm_read_base T, (fd_read_base T.says).kp, (fd_read_base T.says).bindsN fun _ _ _ _ _ _ us hl => match us, hl with | [_], _ => rfl⟩
  refine (fd_read_base T.says).ok sc_read_base (fun vs H Q E h => by first | (obtain ⟨_, rfl, _⟩ := h; rfl) | (obtain ⟨_, _, rfl, _⟩ := h; rfl) | (obtain ⟨_, _, _, rfl, _⟩ := h; rfl) | (obtain ⟨_, _, _, _, rfl, _⟩ := h; rfl) | (obtain ⟨_, _, _, _, _, rfl, _⟩ := h; rfl) | (obtain ⟨_, _, _, _, _, _, rfl, _⟩ := h; rfl) | (obtain ⟨_, _, _, _, _, _, _, rfl, _⟩ := h; rfl) | (obtain ⟨_, _, _, _, _, _, _, _, rfl, _⟩ := h; rfl) | (obtain ⟨_, _, _, _, _, _, _, _, _, rfl, _⟩ := h; rfl)) (fun cdv A outer s H vs Q E hr h => ?_)
  obtain ⟨l0, s0, rfl, hl0, ok, hc, q⟩ := h
  have hlen : 1 + ((wNum s0.com).length + (wRows s0.rows).length + (wL wCell (hCells s0.held)).length) = (3 :: wBase s0).length := by
    rw [List.length_cons, wBase, List.length_append, List.length_append]
    omega
  refine ⟨_, PSs.nox (pss_cons (ps_set (i := 1) sc_read_base.nd rfl (Or.inr rfl) (pe_i (ok_Reader_init T) (hr.mono (by omega)) (by rfl) (pa_cons (pv 0) pa_nil)))
      (pss_cons (ps_if (pt_cmpR op_ne (pe_m0 (ok_Reader_read_byte T) (hr.mono (by omega)) (pv 1)) pe_int (nomark _)) (pss_one ps_never) pss_nil)
      (pss_cons (ps_set (i := 2) sc_read_base.nd rfl (Or.inl rfl) (pe_i0 (ok_Base_init T) (hr.mono (by omega)) (by rfl)))
      (pss_cons (ps_fld (pv 2) (pe_m0 (ok_Reader_read_number T) (hr.mono (by omega)) (pv 1)) rfl)
      (pss_cons (ps_fld (pe_fld (pv 2) rfl) (pe_lc (own := [("_", 6)]) (g := gName 6) (tt := tYes) rfl sc_read_base.nd (pi_range1 (by rfl) (n_range T) (pa_cons (pe_gi (gi_REPLICAS T) (by rfl)) pa_nil)) (blkOk_by (N := ["record", "reader", "base", "name", "shape", "outcome", "_"]) (sc := defScope s_read_base) (by decide +kernel)) (fun _ _ _ _ _ => (pg_name (i := 6) sc_read_base.nd rfl (Or.inl rfl))) (fun _ _ _ _ _ => pts_nil) (fun _ _ _ _ _ => by (apply pe_cast (pe_m0 (ok_Reader_read_deeds T) (hr.mono (by omega)) (pv 1))); (try dsimp only [L2.Cx.blk]) <;> exact rfl)) rfl)
      (pss_cons (ps_for PassesOwn.never rfl (pi_list (pe_m0 (ok_Reader_read_cells T) (hr.mono (by omega)) (pv 1))) (pg_tup rfl (pgs_cons (pg_name (i := 3) sc_read_base.nd rfl (Or.inl rfl)) (pgs_cons (pg_name (i := 4) sc_read_base.nd rfl (Or.inl rfl)) (pgs_cons (pg_name (i := 5) sc_read_base.nd rfl (Or.inl rfl)) pgs_nil)))) (pss_one (ps_dput (hu_of hr) (pe_fld (pv 2) rfl) (pv 3) (pe_tup (pa_cons (pv 4) (pa_cons (pv 5) pa_nil))) rfl)))
      (pss_cons (ps_expr (pe_m0 (ok_Reader_end T) (hr.mono (by omega)) (pv 1)))
      (pss_one (ps_ret (pv 2)))))))))), ?_⟩
  walk_at "rx"
  intro r dxr nr ndr0 nxr
  refine mk_reader hl0 nr ndr0 fun L H1 s1 R1 => ⟨rfl, ?_⟩
  walk_at "rx"
  refine r_mt ⟨.ref r, rfl, rd_no R1 (by decide +kernel) fun _ _ => ?_⟩
  walk_at "rx"
  refine ⟨r, L, _, 0, 3, rfl, R1, rfl, hc, fun H2 s2 R2 => ?_⟩
  have s02 := sx_same s1 nr s2
  have hd2 : (3 :: wBase s0).drop (0 + 1) = wNum s0.com ++ (wRows s0.rows ++ (wL wCell (hCells s0.held) ++ [])) := by
    show wBase s0 = _
    rw [wBase, List.append_nil, List.append_assoc]
  walk_at "rx"
  refine ite_f rfl ?_
  walk_at "rx"
  intro b bx nb nbx nbb
  refine ⟨b, bx, rfl, upd_same, fun H3 d dx l rs hd sx3 nd nl nhd nrs B3 => ⟨rfl, ?_⟩⟩
  have s3 := made_same nb nbx sx3
  have R3 := R2.sx s3
  have r2some : ∀ {p}, H2 p = none → p ≠ r := fun e z => by
    obtain ⟨dxr, hr1, _⟩ := id R2
    rw [z, hr1] at e
    cases e
  have nbr := r2some nb
  have nd2 := made_none nd
  have nl2 := made_none nl
  have nh2 := made_none nhd
  have ndr := r2some nd2
  have nlr := r2some nl2
  have nhr := r2some nh2
  have nrr : r ∉ rs := fun hm => r2some (made_none (nrs r hm)) rfl
  walk_at "rx"
  refine rd_m (x := s0.com) (ok := okN) rfl R3 hd2 ok.com hc fun v H4 s4 R4 hv => ?_
  obtain rfl : v = .int s0.com := hv
  have hd4 := drop_app hd2
  have B4 := B3.mv s4 (R3.tst s4) nbr ndr nlr nrr nhr
  walk_at "rx"
  refine ⟨b, _, bx, _, rfl, B4.1, cl_Base T.says, na_Base_commits T.says, lt_by rfl, ?_⟩
  have e0 : putF "commits" (.int (s0.com : Nat)) (bF 0 d hd) = bF s0.com d hd := put_hd
  show tSeq _ _ _ _ (upd H4 b (.ins (cB K) bx (putF "commits" (.int (s0.com : Nat)) (bF 0 d hd))))
  rw [e0]
  have n4 : ∀ {p ys}, H4 p = some (.lst ys) → p ≠ b := fun e z => by rw [z, B4.1] at e; cases e
  have t5 : Tst H4 (upd H4 b (.ins (cB K) bx (bF s0.com d hd))) := (Tst.refl H4).ins B4.1
  have sx5 : Sx b H4 (upd H4 b (.ins (cB K) bx (bF s0.com d hd))) := (Sx.refl b H4).self
  have db : d ≠ b := fun z => by rw [z] at nd; rw [upd_same] at nd; cases nd
  have lb : l ≠ b := fun z => by rw [z] at nl; rw [upd_same] at nl; cases nl
  have hdb : hd ≠ b := fun z => by rw [z] at nhd; rw [upd_same] at nhd; cases nhd
  have rsb : b ∉ rs := fun hm => by
    have := nrs b hm
    rw [upd_same] at this
    cases this
  have e5 : upd H4 b (.ins (cB K) bx (bF s0.com d hd)) b = some (.ins (cB K) bx (bF s0.com d hd)) := upd_same
  have D5 : DA K (upd H4 b (.ins (cB K) bx (bF s0.com d hd))) d dx l rs (List.replicate 8 []) := B4.2.1.mv sx5 t5 db lb rsb
  have h5 : HeldAt (upd H4 b (.ins (cB K) bx (bF s0.com d hd))) hd (fun _ => none) := B4.2.2.mv t5 fun o e => sx5 _ _ hdb e
  have R5 : RdAt K (upd H4 b (.ins (cB K) bx (bF s0.com d hd))) r L (3 :: wBase s0) (0 + 1 + (wNum s0.com).length) := by
    obtain ⟨dxr, g1, g2⟩ := R4
    exact ⟨dxr, sx5 _ _ nbr.symm g1, sx5 _ _ (n4 g2) g2⟩
  have b0 : H b = none := s02.free nb
  have s05 : Same H (upd H4 b (.ins (cB K) bx (bF s0.com d hd))) := same_mut (sx_same (s02.trans s3) nr s4) b0
  generalize upd H4 b (.ins (cB K) bx (bF s0.com d hd)) = H5 at e5 D5 h5 R5 s05
  walk_at "rx"
  refine r_lc ?_
  walk_at "rx"
  refine ⟨8, rfl, by decide, by decide, fun D0 hD => ?_⟩
  obtain ⟨dxr, hr5, hL5⟩ := id R5
  have nDr : D0 ≠ r := fun z => by rw [z, hr5] at hD; cases hD
  have nDL : D0 ≠ L := fun z => by rw [z, hL5] at hD; cases hD
  refine lc_obE (xs := upto 8) (P := fun i => RowP (s0.rows.getD i [])) (Fr := Ix r) (Ex := fun i H' => RdAt K H' r L (3 :: wBase s0) (0 + 1 + (wNum s0.com).length + (wRows (s0.rows.take i)).length)) (Wk.rng (I := fun _ => True)) (FrmOk.ix hr5) hD (fun _ _ => trivial) (by rw [upto_len]; decide) (fun i H H' p h t k => h.mv t k) (fun i H p h z => by obtain ⟨ys, e, _⟩ := h; rw [z] at e; cases e) ?_ ?_ ?_ ?_
  · exact R5.sx (same_new hD)
  · rintro i H' ys zs _ ⟨dx', g1, g2⟩ _
    exact ⟨dx', by rw [upd_ne nDr.symm]; exact g1, by rw [upd_ne nDL.symm]; exact g2⟩
  · intro i x H6 Q6 hx f6 R6 k
    have hi : i < 8 := by
      have := (List.getElem?_eq_some_iff.mp hx).1
      rw [upto_len] at this
      exact this
    have hi8 : i < s0.rows.length := by rw [ok.rows8]; exact hi
    have hrow : s0.rows[i]? = some s0.rows[i] := List.getElem?_eq_getElem hi8
    have hd6 : (3 :: wBase s0).drop (0 + 1 + (wNum s0.com).length + (wRows (s0.rows.take i)).length) = wL wDeed s0.rows[i] ++ (wRows (s0.rows.drop (i + 1)) ++ (wL wCell (hCells s0.held) ++ [])) := by
      rw [← List.drop_drop, hd4]
      unfold wRows
      rw [take_flat (w := wL wDeed) hrow, List.append_assoc, List.drop_left, List.append_assoc]
    refine ⟨wipe1, ?_⟩
    refine rd_mL (ok := okD) rfl R6 hd6 (fun x hx => ok.rows _ (List.mem_of_getElem? hrow) x hx) hc fun D7 ys H7 s7 R7 n7 e7 h7 => ?_
    have eg : s0.rows.getD i [] = s0.rows[i] := by rw [List.getD_eq_getElem?_getD, hrow]; rfl
    obtain ⟨dx7, g1, g2⟩ := id R7
    refine k D7 H7 ⟨s7, fun _ => ⟨_, _, _, g1⟩⟩ n7 ⟨ys, e7, by rw [eg]; exact h7⟩ ?_
    show RdAt K H7 r L _ (0 + 1 + (wNum s0.com).length + (wRows (s0.rows.take (i + 1))).length)
    rw [wRows_at hrow, List.length_append, ← Nat.add_assoc]
    exact R7
  · intro H6 rs6 f6 R6 l6 nd6 nD6 hn6 eD6 hp6
    rw [upto_len] at l6 R6
    rw [List.take_of_length_le (by rw [ok.rows8]; exact Nat.le_refl _)] at R6
    have rows6 : RowsAt H6 D0 rs6 s0.rows := ⟨eD6, by rw [l6, ok.rows8], nd6, nD6, hp6⟩
    have t56 := R5.tst f6.1
    have e6 := f6.1 _ _ nbr e5
    have D6 := D5.mv f6.1 t56 ndr nlr nrr
    have h6 : HeldAt H6 hd (fun _ => none) := h5.mv t56 fun o e => f6.1 _ _ nhr e
    walk_at "rx"
    refine r_fldV rfl e6 (cl_Base T.says) (na_Base_deeds T.says) (bF_deeds _ _ _) ?_
    refine ⟨d, _, dx, _, rfl, D6.1, cl_Deeds T.says, na_Deeds_rows T.says, lt_by rfl, ?_⟩
    have e70 : putF "rows" (.ref D0) (dF l) = dF D0 := put_hd
    show tSeq _ _ _ _ (upd H6 d (.ins (cD K) dx (putF "rows" (.ref D0) (dF l))))
    rw [e70]
    have dd6 : ∀ {p o}, H6 p = some o → (∀ fs, o ≠ .ins (cD K) dx fs) → p ≠ d := fun e n z => by rw [z, D6.1] at e; exact n _ (Option.some.inj e).symm
    have t7 : Tst H6 (upd H6 d (.ins (cD K) dx (dF D0))) := (Tst.refl H6).ins D6.1
    have sx7 : Sx d H6 (upd H6 d (.ins (cD K) dx (dF D0))) := (Sx.refl d H6).self
    have nDd : D0 ≠ d := dd6 eD6 (fun fs z => by cases z)
    have rows7 : RowsAt (upd H6 d (.ins (cD K) dx (dF D0))) D0 rs6 s0.rows := rows6.mv sx7 t7 nDd (fun hm => by
      obtain ⟨j, hj, ej⟩ := List.getElem_of_mem hm
      obtain ⟨ys, ey, _⟩ := rows6.2.2.2.2 j d (by rw [List.getElem?_eq_getElem hj, ej])
      exact dd6 ey (fun fs z => by cases z) rfl)
    have e7 : upd H6 d (.ins (cD K) dx (dF D0)) d = some (.ins (cD K) dx (dF D0)) := upd_same
    have eb7 : upd H6 d (.ins (cD K) dx (dF D0)) b = some (.ins (cB K) bx (bF s0.com d hd)) := sx7 _ _ db.symm e6
    have h7 : HeldAt (upd H6 d (.ins (cD K) dx (dF D0))) hd (fun _ => none) := by
      refine h6.mv t7 fun o e => sx7 _ _ (fun z => ?_) e
      obtain ⟨kvs, z1, _⟩ := h6
      exact dd6 z1 (fun fs z => by cases z) z
    have R7 : RdAt K (upd H6 d (.ins (cD K) dx (dF D0))) r L (3 :: wBase s0) (0 + 1 + (wNum s0.com).length + (wRows s0.rows).length) := by
      obtain ⟨dxr, g1, g2⟩ := R6
      exact ⟨dxr, sx7 _ _ ndr.symm g1, sx7 _ _ (dd6 g2 (fun fs z => by cases z)) g2⟩
    have d0 : H d = none := s02.free nd2
    have h0 : H hd = none := s02.free nh2
    have s07 : Same H (upd H6 d (.ins (cD K) dx (dF D0))) := same_mut (sx_same s05 nr f6.1) d0
    generalize upd H6 d (.ins (cD K) dx (dF D0)) = H7 at rows7 e7 eb7 h7 R7 s07
    have hd7 := drop_app hd4
    walk_at "rx"
    refine rd_mL (ok := okC) (d := dCell) rfl R7 hd7 ok.cells hc fun D8 ys8 H8 s8 R8 n8 e8 hy8 => ?_
    have t78 := R7.tst s8
    have nD0r : D0 ≠ r := nDr
    have nrs6 : r ∉ rs6 := fun hm => by
      have := hn6 r hm
      rw [hr5] at this
      cases this
    have B8 : BA K H8 b bx d dx D0 rs6 hd ⟨s0.com, s0.rows, fun _ => none⟩ := ⟨s8 _ _ nbr eb7, ⟨s8 _ _ ndr e7, rows7.mv s8 t78 nD0r nrs6⟩, h7.mv t78 fun o e => s8 _ _ nhr e⟩
    have s08 := sx_same s07 nr s8
    have R8' : RdAt K H8 r L (3 :: wBase s0) (3 :: wBase s0).length := R8.to (by rw [← hlen]; omega)
    refine ⟨D8, rfl, ⟨_, SqL.of e8⟩, for_any (xs := ys8) (Wk.lst (I := fun H' => H' D8 = some (.lst ys8)) fun H' s => s) (fun i σ H' => ∃ v1 v2 v3, σ = [some (.ref l0), some (.ref r), some (.ref b), v1, v2, v3, none] ∧ Same H H' ∧ (∀ p o, p ≠ hd → H8 p = some o → H' p = some o) ∧ Tst H8 H' ∧ BA K H' b bx d dx D0 rs6 hd ⟨s0.com, s0.rows, ((hCells s0.held).take i).foldl (fun f c => putF4 f c.1 c.2) (fun _ => none)⟩ ∧ RdAt K H' r L (3 :: wBase s0) (3 :: wBase s0).length ∧ H' D8 = some (.lst ys8)) (fun i σ H' ⟨_, _, _, _, _, _, _, _, _, s⟩ => s) ⟨none, none, none, rfl, s08, fun _ _ _ h => h, Tst.refl H8, B8, R8', e8⟩ ?_ ?_⟩
    · rintro i x σ H9 hx ⟨v1, v2, v3, rfl, s9, f9, t9, B9, R9, e9⟩
      obtain ⟨ddd, hdd, hxd⟩ := (hy8.ts t9).at hx
      obtain ⟨c, hci, rfl⟩ := getElem_map_some hdd
      obtain ⟨p, xs, rfl, hp, y1, _, rfl, k1, y2, _, rfl, k2, y3, _, rfl, k3, rfl⟩ := hxd
      obtain rfl : y1 = .str c.1 := k1
      walk_at "rx"
      refine r_gtup hp rfl ?_
      walk_at "rx"
      refine r_dput ?_
      walk_at "rx"
      refine ⟨le_line rfl, fun p4 hp4 => ?_⟩
      have sA := same_new (o := .tup [y2, y3]) hp4
      have BA' := B9.same sA
      have RA := R9.sx sA
      have eA := sA _ _ e9
      have rv : Rp (upd H9 p4 (.tup [y2, y3])) (dSO c.2) (.ref p4) := Rp.tupOf upd_same (RpL.cons (k2.ts (Tst.new hp4)) (RpL.cons (k3.ts (Tst.new hp4)) RpL.nil))
      have s0A := s9.trans sA
      have fA : ∀ p o, p ≠ hd → H8 p = some o → upd H9 p4 (.tup [y2, y3]) p = some o := fun p o n h => sA _ _ (f9 p o n h)
      have tA := t9.trans (Tst.same sA)
      generalize upd H9 p4 (.tup [y2, y3]) = HA at sA BA' rv s0A RA eA fA tA
      refine r_fldV rfl BA'.1 (cl_Base T.says) (na_Base_held T.says) (bF_held _ _ _) ?_
      obtain ⟨kvs, z1, z2⟩ := id BA'.2.2
      walk_at "rx"
      refine ⟨hd, _, rfl, DPut.k (k := .inr c.1) z1 (heldP_few z2), ?_⟩
      have n1 : ∀ {p C dx fs}, HA p = some (.ins C dx fs) → p ≠ hd := fun e z => by rw [z, z1] at e; cases e
      have n3 : ∀ {p ys}, HA p = some (.lst ys) → p ≠ hd := fun e z => by rw [z, z1] at e; cases e
      have t5 : Tst HA (upd HA hd (.dK (putK kvs (.inr c.1) (.ref p4)))) := (Tst.refl HA).dK z1
      rw [foldl_take hci]
      refine ⟨some (.str c.1), some y2, some y3, rfl, same_mut s0A h0, fun p o n h => by rw [upd_ne n]; exact fA p o n h, tA.trans t5, ⟨?_, BA'.2.1.mv (Sx.refl hd HA).self t5 (n1 BA'.2.1.1) (n3 BA'.2.1.2.1) ?_, ?_⟩, ?_, ?_⟩
      · rw [upd_ne (n1 BA'.1)]
        exact BA'.1
      · intro hm
        obtain ⟨j, hj, ej⟩ := List.getElem_of_mem hm
        obtain ⟨ys, ey, _⟩ := BA'.2.1.2.2.2.2.2 j hd (by rw [List.getElem?_eq_getElem hj, ej])
        exact n3 ey rfl
      · exact ⟨_, upd_same, (z2.put (hCells_names (List.mem_of_getElem? hci)) rv).ts t5⟩
      · obtain ⟨dxr, g1, g2⟩ := RA
        exact ⟨dxr, by rw [upd_ne (n1 g1)]; exact g1, by rw [upd_ne (n3 g2)]; exact g2⟩
      · rw [upd_ne (n3 eA)]
        exact eA
    · rintro σ H9 ⟨v1, v2, v3, rfl, s9, f9, t9, B9, R9, e9⟩
      rw [hy8.length, List.length_map, List.take_length, held_back ok.sup] at B9
      walk_at "rx"
      refine r_mt ⟨.ref r, rfl, rd_no R9 (by decide +kernel) fun _ _ => ?_⟩
      walk_at "rx"
      refine ⟨r, L, _, rfl, R9, hc, ?_⟩
      walk_at "rx"
      exact q b H9 s9 b0 ⟨bx, d, dx, D0, rs6, hd, B9⟩
end
end Q

/-! ## L4 -/
set_option Elab.async false
set_option linter.all false
set_option maxRecDepth 100000
set_option maxHeartbeats 4000000
namespace Q
open PySem PySem.Spec PyProof.Rows L2
local macro_rules | `(tactic| walk_at "rd") => `(tactic| repeat (first
  | ((with_reducible apply r_var); focus exact rfl)
  | with_reducible refine r_c ?_
  | with_reducible refine r_chain ?_
  | ((with_reducible apply r_aug); focus exact rfl)
  | with_reducible refine r_ip ?_
  | with_reducible refine r_op ?_
  | with_reducible refine r_I0 ?_
  | with_reducible refine r_cons ?_
  | with_reducible refine r_nil ?_
  | with_reducible refine r_seq ?_
  | with_reducible refine r_asg ?_
  | with_reducible refine r_gn ?_
  | with_reducible refine r_gcons ?_
  | with_reducible refine r_gnil ?_
  | with_reducible refine r_lc ?_
  | with_reducible refine r_m1 ?_
  | with_reducible refine r_sfld ?_
  | with_reducible refine r_sfa ?_
  | with_reducible refine r_rAdd ?_
  | with_reducible refine r_ret ?_
  | with_reducible refine r_ifS ?_
  | with_reducible refine r_test ?_
  | with_reducible refine r_bl ?_
  | with_reducible refine r_B ?_
  | with_reducible refine r_drop ?_
  | with_reducible refine r_bm ?_
  | with_reducible refine r_CB ?_
  | with_reducible refine r_call ?_
  | with_reducible refine r_meth ?_
  | with_reducible refine r_make ?_
  | with_reducible refine r_tup ?_
  | with_reducible refine r_lst ?_
  | ((with_reducible refine r_I ?_ ?_); focus (first | decide | exact ⟨by decide, by decide⟩ | exact .inl ⟨by decide, by decide⟩ | exact .inr ⟨by decide, by decide⟩ | omega))
  | with_reducible refine r_U ?_
  | with_reducible refine r_un ?_
  | with_reducible refine r_and ?_
  | with_reducible refine r_or ?_
  | with_reducible refine r_not ?_
  | with_reducible refine r_andV ?_
  | with_reducible refine r_orV ?_
  | with_reducible refine r_notV ?_
  | with_reducible refine r_if ?_
  | with_reducible refine r_sl ?_
  | with_reducible refine r_part ?_
  | with_reducible refine r_parti ?_
  | with_reducible refine r_nopart ?_
  | with_reducible refine r_il ?_
  | with_reducible refine r_it ?_
  | with_reducible refine r_ir ?_
  | with_reducible refine r_is ?_
  | with_reducible refine r_next ?_
  | with_reducible refine r_retN ?_
  | ((with_reducible refine r_eq ?_ ?_); focus exact rfl)
  | ((with_reducible refine r_ne ?_ ?_); focus exact rfl)))
local macro_rules | `(tactic| walk_at "rx") => `(tactic| repeat (first
  | ((with_reducible apply r_var); focus exact rfl)
  | with_reducible refine r_c ?_
  | with_reducible refine r_chain ?_
  | ((with_reducible apply r_aug); focus exact rfl)
  | with_reducible refine r_ip ?_
  | with_reducible refine r_op ?_
  | with_reducible refine r_I0 ?_
  | with_reducible refine r_cons ?_
  | with_reducible refine r_nil ?_
  | with_reducible refine r_seq ?_
  | with_reducible refine r_asg ?_
  | with_reducible refine r_gn ?_
  | with_reducible refine r_gcons ?_
  | with_reducible refine r_gnil ?_
  | with_reducible refine r_m1 ?_
  | with_reducible refine r_sfld ?_
  | with_reducible refine r_sfa ?_
  | with_reducible refine r_rAdd ?_
  | with_reducible refine r_ret ?_
  | with_reducible refine r_ifS ?_
  | with_reducible refine r_test ?_
  | with_reducible refine r_bl ?_
  | with_reducible refine r_B ?_
  | with_reducible refine r_drop ?_
  | with_reducible refine r_bm ?_
  | with_reducible refine r_CB ?_
  | with_reducible refine r_call ?_
  | with_reducible refine r_make ?_
  | with_reducible refine r_tup ?_
  | with_reducible refine r_lst ?_
  | ((with_reducible refine r_I ?_ ?_); focus (first | decide | exact ⟨by decide, by decide⟩ | exact .inl ⟨by decide, by decide⟩ | exact .inr ⟨by decide, by decide⟩ | omega))
  | with_reducible refine r_U ?_
  | with_reducible refine r_un ?_
  | with_reducible refine r_and ?_
  | with_reducible refine r_or ?_
  | with_reducible refine r_not ?_
  | with_reducible refine r_andV ?_
  | with_reducible refine r_orV ?_
  | with_reducible refine r_notV ?_
  | with_reducible refine r_if ?_
  | with_reducible refine r_sl ?_
  | with_reducible refine r_part ?_
  | with_reducible refine r_parti ?_
  | with_reducible refine r_nopart ?_
  | with_reducible refine r_il ?_
  | with_reducible refine r_it ?_
  | with_reducible refine r_ir ?_
  | with_reducible refine r_is ?_
  | with_reducible refine r_next ?_
  | with_reducible refine r_retN ?_
  | ((with_reducible refine r_eq ?_ ?_); focus exact rfl)
  | ((with_reducible refine r_ne ?_ ?_); focus exact rfl)))
section
variable {P : Program} {w : World} {K : PySem.W.Frag} {mg : Str → Option Value} {base : Heap}
/-! ### a note, read -/
def nextOk (cn : List Nat) (t : Trip) : Prop := t.1 < 8 ∧ t.2.1 = cn.getD t.1 0 + 1
def stepC (cn : List Nat) (t : Trip) : List Nat := cn.set t.1 (cn.getD t.1 0 + 1)
def cnAt (cn : List Nat) (ts : List Trip) (i : Nat) : List Nat := (ts.take i).foldl stepC cn
def lens (s : BS) : List Nat := s.rows.map List.length
def allNext (s : BS) (ts : List Trip) : Prop := ∀ (i : Nat) t, ts[i]? = some t → nextOk (cnAt (lens s) ts i) t
theorem stepC_len {cn : List Nat} {t : Trip} : (stepC cn t).length = cn.length := by rw [stepC, List.length_set]
theorem cnAt_len {cn : List Nat} {ts : List Trip} {i : Nat} : (cnAt cn ts i).length = cn.length := by
  unfold cnAt
  generalize ts.take i = l
  induction l generalizing cn with
  | nil => rfl
  | cons t r ih => rw [List.foldl_cons, ih, stepC_len]
theorem cnAt_next {cn : List Nat} {ts : List Trip} {i : Nat} {t : Trip} (h : ts[i]? = some t) : cnAt cn ts (i + 1) = stepC (cnAt cn ts i) t := foldl_take h
structure GrpOk (ts : List Trip) (cs : List Cell) : Prop where
  tsk : ∀ t ∈ ts, okT t
  csk : ∀ c ∈ cs, okC c
  nm : ∀ c ∈ cs, c.1 ∈ names4
structure RowsOk (s : BS) (ts : List Trip) : Prop where
  r8 : s.rows.length = 8
  rl : ∀ row ∈ s.rows, row.length ≤ 1000
  tl : ts.length ≤ 1000
def Bad3 (rc : List Nat) : Prop := rc = [] ∨ (∃ k r, rc = k :: r ∧ k ≠ 4) ∨ ∃ ts cs x xs, rc = 4 :: (wGroup ts cs ++ x :: xs) ∧ GrpOk ts cs
def spAN (K : PySem.W.Frag) : Sp := fun vs H Q E => ∃ b l s rc, vs = [.ref b, .ref l] ∧ BaseAt K H b s ∧ H l = some (bL rc) ∧ rc.length ≤ cap ∧ s.rows.length = 8 ∧
  ((∃ ts cs, rc = 4 :: wGroup ts cs ∧ GrpOk ts cs ∧ RowsOk s ts ∧ (allNext s ts → ∀ b' H', Same H H' → H b' = none → BaseAt K H' b' (s.grow ts cs) → Q (.ref b') H') ∧ (¬ allNext s ts → ∀ H', Same H H' → E (.ref (cX K)) none H')) ∨
   (Bad3 rc ∧ ∀ H', Same H H' → E (.ref (cX K)) none H'))
theorem ixN_at {n j : Nat} (hj : j < n) : ixN n (j : Int) = some j := by
  unfold ixN
  rw [if_pos (by omega), if_pos (by omega)]
  simp
theorem r_augS {σ : L2.St} {H : Hp} {Dn : Ends} {to ti te : TE} {tget : V → V → Hp → VK → Prop} {tip : TIp} {tset : TSet} (h : to σ H fun o H1 => ti σ H1 fun i H2 => tget o i H2 fun x H3 => te σ H3 fun y H4 => tip x y H4 fun z H5 => tset o i z H5 fun H6 => Dn.nx σ H6) : tAugS to ti te tget tip tset Dn σ H := h
theorem ints_at {cn : List Nat} {i : Nat} (h : i < cn.length) : (cn.map bV)[i]? = some (.int (cn.getD i 0 : Nat)) := by
  rw [List.getElem?_map, List.getElem?_eq_getElem h, List.getD_eq_getElem?_getD, List.getElem?_eq_getElem h]
  rfl
theorem ok_after_note  (T : Txt K mg) : Fc P w K mg base (L2.CX P w) (90) "_after_note" ["base", "record"] (spAN K) := by
  refine ⟨?_, gm_after_note T, (fd_after_note T.says).kp, (fd_after_note T.says).bindsN fun _ _ _ _ _ _ us hl => match us, hl with | [_, _], _ => rfl⟩
  refine (fd_after_note T.says).ok sc_after_note (fun vs H Q E h => by first | (obtain ⟨_, rfl, _⟩ := h; rfl) | (obtain ⟨_, _, rfl, _⟩ := h; rfl) | (obtain ⟨_, _, _, rfl, _⟩ := h; rfl) | (obtain ⟨_, _, _, _, rfl, _⟩ := h; rfl) | (obtain ⟨_, _, _, _, _, rfl, _⟩ := h; rfl) | (obtain ⟨_, _, _, _, _, _, rfl, _⟩ := h; rfl) | (obtain ⟨_, _, _, _, _, _, _, rfl, _⟩ := h; rfl) | (obtain ⟨_, _, _, _, _, _, _, _, rfl, _⟩ := h; rfl) | (obtain ⟨_, _, _, _, _, _, _, _, _, rfl, _⟩ := h; rfl)) (fun cdv A outer s H vs Q E hr h => ?_)
  obtain ⟨b, l, s0, rc, rfl, hB, hl, hc, h8, hq⟩ := h
  refine ⟨_, (pss_cons (ps_set (i := 2) sc_after_note.nd rfl (Or.inl rfl) (pe_i (ok_Reader_init T) (hr.mono (by omega)) (by rfl) (pa_cons (pv 1) pa_nil)))
      (pss_cons (ps_if (pt_cmpR op_ne (pe_mX0 (takes_of rfl rfl rfl rfl) (ok_byteB T) (hr.mono (by omega)) (pv 2)) pe_int (nomark _)) (pss_one (ps_raise rfl (takes_of rfl rfl rfl rfl) (pmk_own PySem.F.excBase_ValueError (xc_DamagedPacket T.says).1 (gm_DamagedPacket T) (xc_DamagedPacket T.says).2.1 (raises_own (xc_DamagedPacket T.says).2.2.1 (xc_DamagedPacket T.says).2.2.2) (by rfl)))) pss_nil)
      (pss_cons (ps_asg (pe_m0 (ok_Reader_read_group T) (hr.mono (by omega)) (pv 2)) (pg_tup rfl (pgs_cons (pg_name (i := 3) sc_after_note.nd rfl (Or.inl rfl)) (pgs_cons (pg_name (i := 4) sc_after_note.nd rfl (Or.inl rfl)) pgs_nil))))
      (pss_cons (ps_expr (pe_mX0 (takes_of rfl rfl rfl rfl) (ok_endB T) (hr.mono (by omega)) (pv 2)))
      (pss_cons (ps_set (i := 5) sc_after_note.nd rfl (Or.inl rfl) (pe_m0 (ok_Deeds_counts T) (hr.mono (by omega)) (pe_fld (pv 0) rfl)))
      (pss_cons (ps_for (passes_of rfl) rfl (pi_list (pv 3)) (pg_tup rfl (pgs_cons (pg_name (i := 6) sc_after_note.nd rfl (Or.inl rfl)) (pgs_cons (pg_name (i := 7) sc_after_note.nd rfl (Or.inl rfl)) (pgs_cons (pg_name (i := 8) sc_after_note.nd rfl (Or.inl rfl)) pgs_nil)))) (pss_cons (ps_if (PW.pt (pw_or (pt_cmpR op_ge (pv 6) (pe_gi (gi_REPLICAS T) (by rfl)) (nomark _)) (pw_or1 (pt_cmpR op_ne (pv 7) (pe_op op_add (pe_ix ix_list (pv 5) (pv 6) (fun _ _ => rfl)) pe_int) (nomark _))))) (pss_one (ps_raise rfl (takes_of rfl rfl rfl rfl) (pmk_own PySem.F.excBase_ValueError (xc_DamagedPacket T.says).1 (gm_DamagedPacket T) (xc_DamagedPacket T.says).2.1 (raises_own (xc_DamagedPacket T.says).2.2.1 (xc_DamagedPacket T.says).2.2.2) (by rfl)))) pss_nil)
      (pss_one (ps_augS (pv 5) (pv 6) get_list pe_int ip_add set_list))))
      (pss_one (ps_ret (pe_m (ok_Base_grown T) (hr.mono (by omega)) (pv 0) (pa_cons (pv 3) (pa_cons (pv 4) pa_nil))))))))))), ?_⟩
  walk_at "rx"
  intro r dxr nr ndr nxr
  refine mk_reader hl nr ndr fun L H1 s1 R1 => ⟨rfl, ?_⟩
  walk_at "rx"
  refine r_mS ⟨.ref r, rfl, rd_no R1 (by decide +kernel) fun _ _ => ?_⟩
  walk_at "rx"
  have grp : ∀ (ts : List Trip) (cs : List Cell) (rest : List Nat), rc = 4 :: (wGroup ts cs ++ rest) → GrpOk ts cs → (rest = [] → RowsOk s0 ts ∧ (allNext s0 ts → ∀ b' H', Same H H' → H b' = none → BaseAt K H' b' (s0.grow ts cs) → Q (.ref b') H') ∧ (¬ allNext s0 ts → ∀ H', Same H H' → E (.ref (cX K)) none H')) → (rest ≠ [] → ∀ H', Same H H' → E (.ref (cX K)) none H') → rc[0]? = some 4 ∧ rc.drop (0 + 1) = wGroup ts cs ++ rest := fun ts cs rest e _ _ _ => drop0 e
  by_cases hne : rc = []
  · -- no byte at all
    rcases hq with ⟨ts, cs, e, _⟩ | ⟨_, hE⟩
    · rw [e] at hne
      cases hne
    · exact .inr ⟨r, L, rc, 0, rfl, R1, by rw [hne]; exact Nat.le_refl _, hE _ s1⟩
  obtain ⟨k, r', erc⟩ := List.exists_cons_of_ne_nil hne
  obtain ⟨hb0, hd0⟩ := drop0 erc
  refine .inl ⟨r, L, rc, 0, k, rfl, R1, hb0, hc, fun H2 s2 R2 => ?_⟩
  have s02 := sx_same s1 nr s2
  walk_at "rx"
  by_cases hk : k = 4
  rotate_left
  · refine iteNI (fun _ => ?_) (fun e => absurd (show k = 4 by omega) hk)
    rcases hq with ⟨ts, cs, e, _⟩ | ⟨_, hE⟩
    · rw [e] at erc
      exact absurd (List.cons.inj erc).1.symm hk
    · exact hE _ s02
  subst hk
  refine iteNI (fun n => absurd rfl n) (fun _ => ?_)
  -- a group stands there
  have : ∃ ts cs rest, rc = 4 :: (wGroup ts cs ++ rest) ∧ GrpOk ts cs ∧ ((rest = [] ∧ RowsOk s0 ts ∧ (allNext s0 ts → ∀ b' H', Same H H' → H b' = none → BaseAt K H' b' (s0.grow ts cs) → Q (.ref b') H') ∧ (¬ allNext s0 ts → ∀ H', Same H H' → E (.ref (cX K)) none H')) ∨ (rest ≠ [] ∧ ∀ H', Same H H' → E (.ref (cX K)) none H')) := by
    rcases hq with ⟨ts, cs, e, g, ro, h1, h2⟩ | ⟨hb, hE⟩
    · exact ⟨ts, cs, [], by rw [List.append_nil]; exact e, g, .inl ⟨rfl, ro, h1, h2⟩⟩
    · rcases hb with hb | ⟨k, r2, e, hk⟩ | ⟨ts, cs, x, xs, e, g⟩
      · exact absurd hb hne
      · rw [e] at erc
        exact absurd (List.cons.inj erc).1 hk
      · exact ⟨ts, cs, x :: xs, e, g, .inr ⟨by simp, hE⟩⟩
  obtain ⟨ts, cs, rest, e, g, hcase⟩ := this
  obtain ⟨_, hd1⟩ := drop0 e
  have hlen := congrArg List.length hd1
  rw [List.length_drop, List.length_append] at hlen
  walk_at "rx"
  refine r_mt ⟨.ref r, rfl, rd_no R2 (by decide +kernel) fun _ _ => ?_⟩
  walk_at "rx"
  refine ⟨r, L, rc, _, ts, cs, rest, rfl, R2, hd1, g.tsk, g.csk, hc, fun p D1 D2 ys1 ys2 H3 s3 R3 ep e1 e2 h1 h2 => ?_⟩
  have s03 := sx_same s02 nr s3
  walk_at "rx"
  refine r_gtup ep rfl ?_
  walk_at "rx"
  refine r_mS ⟨.ref r, rfl, rd_no R3 (by decide +kernel) fun _ _ => ?_⟩
  walk_at "rx"
  rcases hcase with ⟨hrest, ro, hyes, hno⟩ | ⟨hrest, hE⟩
  rotate_left
  · have : 0 < rest.length := List.length_pos_iff.mpr hrest
    exact .inr ⟨r, L, rc, _, rfl, R3, by omega, hE _ s03⟩
  subst hrest
  refine .inl ⟨r, L, rc, rfl, R3.to (by rw [e, List.length_cons, List.append_nil]; omega), hc, ?_⟩
  walk_at "rx"
  have hB3 := hB.same s03
  obtain ⟨bx, d, dx, l1, rs, hd, B3⟩ := id hB3
  refine r_mt (m := "counts") ?_
  refine r_fldV rfl B3.1 (cl_Base T.says) (na_Base_deeds T.says) (bF_deeds _ _ _) ?_
  refine ⟨d, dx, _, rfl, B3.2.1.1, dF_no (by decide +kernel), ?_⟩
  walk_at "rx"
  refine ⟨d, dx, l1, rs, s0.rows, rfl, B3.2.1, by rw [h8]; decide, fun c H4 s4 nc ec => ?_⟩
  have ec' : H4 c = some (bL (lens s0)) := by
    rw [ec]
    show _ = some (HO.lst ((s0.rows.map List.length).map bV))
    rw [List.map_map]
    rfl
  have nc0 : H c = none := s03.free nc
  have lc : (lens s0).length = 8 := by rw [lens, List.length_map]; exact h8
  walk_at "rx"
  have e14 := s4 _ _ e1
  have e24 := s4 _ _ e2
  have n1c : D1 ≠ c := fun z => by rw [z, nc] at e1; cases e1
  have n2c : D2 ≠ c := fun z => by rw [z, nc] at e2; cases e2
  refine ⟨.ref D1, rfl, D1, rfl, ⟨_, SqL.of e14⟩, for_any (xs := ys1) (Wk.lst (I := fun H' => H' D1 = some (.lst ys1)) fun H' s => s) (fun i σ H' => ∃ v6 v7 v8, σ = [some (.ref b), some (.ref l), some (.ref r), some (.ref D1), some (.ref D2), some (.ref c), v6, v7, v8] ∧ Same H H' ∧ (∀ p o, p ≠ c → H4 p = some o → H' p = some o) ∧ Tst H4 H' ∧ H' c = some (bL (cnAt (lens s0) ts i)) ∧ H' D1 = some (.lst ys1) ∧ ∀ (i' : Nat) t, i' < i → ts[i']? = some t → nextOk (cnAt (lens s0) ts i') t) (fun i σ H' ⟨_, _, _, _, _, _, _, _, s, _⟩ => s)
    ⟨none, none, none, rfl, s03.trans s4, fun _ _ _ h => h, Tst.refl H4, ec', e14, fun i' t h => absurd h (Nat.not_lt_zero _)⟩ ?_ ?_⟩
  · rintro i x σ H5 hx ⟨v6, v7, v8, rfl, s5, f5, t5, ec5, e15, hall⟩
    obtain ⟨dd, hdd, hxd⟩ := (h1.ts ((Tst.same s4).trans t5)).at hx
    obtain ⟨t, hti, rfl⟩ := getElem_map_some hdd
    obtain ⟨pp, xs, rfl, hp, y1, _, rfl, k1, y2, _, rfl, k2, y3, _, rfl, k3, rfl⟩ := hxd
    obtain rfl : y1 = .int t.1 := k1
    obtain rfl : y2 = .int t.2.1 := k2
    have hcl : (cnAt (lens s0) ts i).length = 8 := by rw [cnAt_len, lc]
    walk_at "rx"
    refine r_gtup hp rfl ?_
    walk_at "rx"
    have bad : ¬ nextOk (cnAt (lens s0) ts i) t → E (.ref (cX K)) none H5 := fun hn => hno (fun ha => hn (ha i t hti)) H5 s5
    by_cases h8t : t.1 < 8
    rotate_left
    · refine ite_t (decide_eq_true (by omega)) ?_
      refine ite_t rfl ?_
      exact bad fun h => h8t h.1
    refine ite_f (decide_eq_false (by omega)) ?_
    walk_at "rx"
    refine r_ixL ec5 (atI_nat (ints_at (by rw [hcl]; exact h8t))) ?_
    walk_at "rx"
    by_cases hnx : t.2.1 = (cnAt (lens s0) ts i).getD t.1 0 + 1
    rotate_left
    · refine iteNI (fun _ => ?_) (fun e => absurd (show t.2.1 = (cnAt (lens s0) ts i).getD t.1 0 + 1 by omega) hnx)
      exact bad fun h => hnx h.2
    refine iteNI (fun n => absurd (by rw [hnx]; rfl) n) (fun _ => ?_)
    refine r_next ?_
    refine r_augS (to := tVar 5) (ti := tVar 6) ?_
    walk_at "rx"
    refine ⟨c, _, t.1, _, rfl, rfl, SqL.of ec5, ints_at (by rw [hcl]; exact h8t), ?_⟩
    walk_at "rx"
    refine ⟨c, _, t.1, t.1, rfl, rfl, ec5, ixN_at (by rw [List.length_map, hcl]; exact h8t), ?_⟩
    have ecn : ((cnAt (lens s0) ts i).map bV).set t.1 (.int (((cnAt (lens s0) ts i).getD t.1 0 : Nat) + 1 : Int)) = (cnAt (lens s0) ts (i + 1)).map bV := by
      rw [cnAt_next hti, stepC, List.map_set]
      rfl
    have n1 : pp ≠ c := fun z => by rw [z, ec5] at hp; cases hp
    refine ⟨some (.int t.1), some (.int t.2.1), some y3, rfl, same_mut s5 nc0, fun p o n h => by rw [upd_ne n]; exact f5 p o n h, t5.trans ((Tst.refl H5).lst ec5), ?_, by rw [upd_ne n1c]; exact e15, fun i' t' hi' ht' => ?_⟩
    · rw [upd_same]
      show some (HO.lst _) = some (HO.lst _)
      rw [← ecn]
    · by_cases c2 : i' < i
      · exact hall i' t' c2 ht'
      · have : i' = i := by omega
        subst this
        rw [hti] at ht'
        obtain rfl := Option.some.inj ht'
        exact ⟨h8t, hnx⟩
  · rintro σ H5 ⟨v6, v7, v8, rfl, s5, f5, t5, ec5, e15, hall⟩
    have lt : ys1.length = ts.length := by rw [h1.length, List.length_map]
    have hA : allNext s0 ts := fun i t hi => hall i t (by rw [lt]; exact (List.getElem?_eq_some_iff.mp hi).1) hi
    walk_at "rx"
    have hB5 := hB.same s5
    obtain ⟨bx5, d5, dx5, l5, rs5, hd5, B5⟩ := id hB5
    refine r_mt (m := "grown") ⟨_, rfl, b, bx5, _, rfl, B5.1, bF_no (by decide +kernel), ?_⟩
    walk_at "rx"
    refine ⟨b, s0, D1, D2, ts, cs, ys1, ys2, 1000, rfl, hB5, e15, h1.ts ((Tst.same s4).trans t5), f5 _ _ n2c e24, h2.ts ((Tst.same s4).trans t5), fun t ht => ?_, g.nm, by rw [h8]; decide, ro.rl, by have := ro.tl; have : cap = 8000000 := rfl; omega, fun b' H6 s6 nb' B6 => hyes hA b' H6 (s5.trans s6) (s5.free nb') B6⟩
    obtain ⟨i, hi, ei⟩ := List.getElem_of_mem ht
    rw [h8]
    exact (hA i t (by rw [List.getElem?_eq_getElem hi, ei])).1
end
end Q

/-! ## L5 -/
set_option Elab.async false
set_option linter.all false
set_option maxRecDepth 100000
set_option maxHeartbeats 4000000
namespace Q
open PySem PySem.Spec PyProof.Rows L2
local macro_rules | `(tactic| walk_at "rd") => `(tactic| repeat (first
  | ((with_reducible apply r_var); focus exact rfl)
  | with_reducible refine r_c ?_
  | with_reducible refine r_chain ?_
  | ((with_reducible apply r_aug); focus exact rfl)
  | with_reducible refine r_ip ?_
  | with_reducible refine r_op ?_
  | with_reducible refine r_I0 ?_
  | with_reducible refine r_cons ?_
  | with_reducible refine r_nil ?_
  | with_reducible refine r_seq ?_
  | with_reducible refine r_asg ?_
  | with_reducible refine r_gn ?_
  | with_reducible refine r_gcons ?_
  | with_reducible refine r_gnil ?_
  | with_reducible refine r_lc ?_
  | with_reducible refine r_m1 ?_
  | with_reducible refine r_sfld ?_
  | with_reducible refine r_sfa ?_
  | with_reducible refine r_rAdd ?_
  | with_reducible refine r_ret ?_
  | with_reducible refine r_ifS ?_
  | with_reducible refine r_test ?_
  | with_reducible refine r_bl ?_
  | with_reducible refine r_B ?_
  | with_reducible refine r_drop ?_
  | with_reducible refine r_bm ?_
  | with_reducible refine r_CB ?_
  | with_reducible refine r_call ?_
  | with_reducible refine r_meth ?_
  | with_reducible refine r_make ?_
  | with_reducible refine r_tup ?_
  | with_reducible refine r_lst ?_
  | ((with_reducible refine r_I ?_ ?_); focus (first | decide | exact ⟨by decide, by decide⟩ | exact .inl ⟨by decide, by decide⟩ | exact .inr ⟨by decide, by decide⟩ | omega))
  | with_reducible refine r_U ?_
  | with_reducible refine r_un ?_
  | with_reducible refine r_and ?_
  | with_reducible refine r_or ?_
  | with_reducible refine r_not ?_
  | with_reducible refine r_andV ?_
  | with_reducible refine r_orV ?_
  | with_reducible refine r_notV ?_
  | with_reducible refine r_if ?_
  | with_reducible refine r_sl ?_
  | with_reducible refine r_part ?_
  | with_reducible refine r_parti ?_
  | with_reducible refine r_nopart ?_
  | with_reducible refine r_il ?_
  | with_reducible refine r_it ?_
  | with_reducible refine r_ir ?_
  | with_reducible refine r_is ?_
  | with_reducible refine r_next ?_
  | with_reducible refine r_retN ?_
  | ((with_reducible refine r_eq ?_ ?_); focus exact rfl)
  | ((with_reducible refine r_ne ?_ ?_); focus exact rfl)))
local macro_rules | `(tactic| walk_at "rx") => `(tactic| repeat (first
  | ((with_reducible apply r_var); focus exact rfl)
  | with_reducible refine r_c ?_
  | with_reducible refine r_chain ?_
  | ((with_reducible apply r_aug); focus exact rfl)
  | with_reducible refine r_ip ?_
  | with_reducible refine r_op ?_
  | with_reducible refine r_I0 ?_
  | with_reducible refine r_cons ?_
  | with_reducible refine r_nil ?_
  | with_reducible refine r_seq ?_
  | with_reducible refine r_asg ?_
  | with_reducible refine r_gn ?_
  | with_reducible refine r_gcons ?_
  | with_reducible refine r_gnil ?_
  | with_reducible refine r_m1 ?_
  | with_reducible refine r_sfld ?_
  | with_reducible refine r_sfa ?_
  | with_reducible refine r_rAdd ?_
  | with_reducible refine r_ret ?_
  | with_reducible refine r_ifS ?_
  | with_reducible refine r_test ?_
  | with_reducible refine r_bl ?_
  | with_reducible refine r_B ?_
  | with_reducible refine r_drop ?_
  | with_reducible refine r_bm ?_
  | with_reducible refine r_CB ?_
  | with_reducible refine r_call ?_
  | with_reducible refine r_make ?_
  | with_reducible refine r_tup ?_
  | with_reducible refine r_lst ?_
  | ((with_reducible refine r_I ?_ ?_); focus (first | decide | exact ⟨by decide, by decide⟩ | exact .inl ⟨by decide, by decide⟩ | exact .inr ⟨by decide, by decide⟩ | omega))
  | with_reducible refine r_U ?_
  | with_reducible refine r_un ?_
  | with_reducible refine r_and ?_
  | with_reducible refine r_or ?_
  | with_reducible refine r_not ?_
  | with_reducible refine r_andV ?_
  | with_reducible refine r_orV ?_
  | with_reducible refine r_notV ?_
  | with_reducible refine r_if ?_
  | with_reducible refine r_sl ?_
  | with_reducible refine r_part ?_
  | with_reducible refine r_parti ?_
  | with_reducible refine r_nopart ?_
  | with_reducible refine r_il ?_
  | with_reducible refine r_it ?_
  | with_reducible refine r_ir ?_
  | with_reducible refine r_is ?_
  | with_reducible refine r_next ?_
  | with_reducible refine r_retN ?_
  | ((with_reducible refine r_eq ?_ ?_); focus exact rfl)
  | ((with_reducible refine r_ne ?_ ?_); focus exact rfl)))
section
variable {P : Program} {w : World} {K : PySem.W.Frag} {mg : Str → Option Value} {base : Heap}
/-! ### a log, read -/
abbrev Grp := List Trip × List Cell
def sAt (s : BS) (gs : List Grp) (k : Nat) : BS := (gs.take k).foldl (fun s g => s.grow g.1 g.2) s
theorem sAt_next {s : BS} {gs : List Grp} {k : Nat} {g : Grp} (h : gs[k]? = some g) : sAt s gs (k + 1) = (sAt s gs k).grow g.1 g.2 := foldl_take h
def noteOf (g : Grp) : List Nat := 4 :: wGroup g.1 g.2
structure GoodG (s : BS) (g : Grp) : Prop where
  ok : GrpOk g.1 g.2
  ro : RowsOk s g.1
  nx : allNext s g.1
def BadR (s : BS) (rc : List Nat) : Prop := s.rows.length = 8 ∧ (Bad3 rc ∨ ∃ ts cs, rc = 4 :: wGroup ts cs ∧ GrpOk ts cs ∧ RowsOk s ts ∧ ¬ allNext s ts)
/-- the records of a log: its head, good notes, what is not read -/
structure LogOk (t : Nat) (s : BS) (gs : List Grp) (more : List (List Nat)) : Prop where
  tk : okN t
  bk : okB s
  gk : ∀ (k : Nat) g, gs[k]? = some g → GoodG (sAt s gs k) g
  r8 : (sAt s gs gs.length).rows.length = 8
  mo : ∀ rc r, more = rc :: r → BadR (sAt s gs gs.length) rc
def logRecs (t : Nat) (s : BS) (gs : List Grp) : List (List Nat) := (1 :: wNum t) :: (3 :: wBase s) :: [2] :: gs.map noteOf
def spRL (K : PySem.W.Frag) : Sp := fun vs H Q _ => ∃ l rcs tl, vs = [.ref l] ∧ H l = some (bL (recs rcs ++ tl)) ∧ Stop tl ∧ (recs rcs ++ tl).length + 100 ≤ cap ∧
  ((rcs.length < 3 ∧ ∀ H', Same H H' → Q .non H') ∨
   (∃ t s gs more, rcs = logRecs t s gs ++ more ∧ LogOk t s gs more ∧ ∀ p b H', Same H H' → H' p = some (.tup [.int (t : Nat), .ref b, .int (recs (logRecs t s gs)).length]) → BaseAt K H' b (sAt s gs gs.length) → Q (.ref p) H'))
theorem recs_cons (r : List Nat) (rs : List (List Nat)) : recs (r :: rs) = wRec r ++ recs rs := rfl
theorem recs_app (a b : List (List Nat)) : recs (a ++ b) = recs a ++ recs b := by
  unfold recs
  rw [List.map_append, List.flatten_append]
theorem rec_le {rcs : List (List Nat)} {rc : List Nat} (h : rc ∈ rcs) : (wRec rc).length ≤ (recs rcs).length := by
  obtain ⟨i, hi, e⟩ := List.getElem_of_mem h
  have := mem_le (bss := rcs.map wRec) (i := i) (bs := wRec rc) (by rw [List.getElem?_map, List.getElem?_eq_getElem hi, e]; rfl)
  exact this
theorem r_callS {σ : L2.St} {H : Hp} {Qv : VK} {tr : TA} {sp : Sp} {E : L2.St → XK} (h : tr σ H fun vs H1 => sp vs H1 Qv (E σ)) : tCallS sp E tr σ H Qv := h
theorem ok_read_log  (T : Txt K mg) : Fc P w K mg base CX0 (91) "read_log" ["data"] (spRL K) := by
  refine ⟨?_, gm_read_log T, (fd_read_log T.says).kp, (fd_read_log T.says).bindsN fun _ _ _ _ _ _ us hl => match us, hl with | [_], _ => rfl⟩
  refine (fd_read_log T.says).ok sc_read_log (fun vs H Q E h => by first | (obtain ⟨_, rfl, _⟩ := h; rfl) | (obtain ⟨_, _, rfl, _⟩ := h; rfl) | (obtain ⟨_, _, _, rfl, _⟩ := h; rfl) | (obtain ⟨_, _, _, _, rfl, _⟩ := h; rfl) | (obtain ⟨_, _, _, _, _, rfl, _⟩ := h; rfl) | (obtain ⟨_, _, _, _, _, _, rfl, _⟩ := h; rfl) | (obtain ⟨_, _, _, _, _, _, _, rfl, _⟩ := h; rfl) | (obtain ⟨_, _, _, _, _, _, _, _, rfl, _⟩ := h; rfl) | (obtain ⟨_, _, _, _, _, _, _, _, _, rfl, _⟩ := h; rfl)) (fun cdv A outer s H vs Q E hr h => ?_)
  obtain ⟨l, rcs, tl, rfl, hl, hstop, hlen, hq⟩ := h
  refine ⟨_, PSs.nox (pss_cons (ps_set (i := 1) sc_read_log.nd rfl (Or.inl rfl) (pe_ix ix_tup (pe_f (ok_read_records T) (hr.mono (by omega)) (by rfl) (pa_cons (pv 0) pa_nil)) pe_int (fun _ _ => rfl)))
      (pss_cons (ps_if (PW.pt (pw_or (pt_cmpR op_lt (pe_callB call_len_seq (by rfl) (n_len T) PySem.boot_len (pa_cons (pv 1) pa_nil)) pe_int (nomark _)) (pw_or1 (pt_cmpR (op_neD hr.units) (pe_ix ix_list (pv 1) pe_int (fun _ _ => rfl)) (pe_lst (pa_cons pe_int pa_nil)) (nomark _))))) (pss_one (ps_ret pe_non)) pss_nil)
      (pss_cons (ps_try_thru0 (pss_cons (ps_set (i := 2) sc_read_log.nd rfl (Or.inl rfl) (pe_f (ok_read_turn T) (hr.mono (by omega)) (by rfl) (pa_cons (pe_ix ix_list (pv 1) pe_int (fun _ _ => rfl)) pa_nil)))
      (pss_one (ps_set (i := 3) sc_read_log.nd rfl (Or.inl rfl) (pe_f (ok_read_base T) (hr.mono (by omega)) (by rfl) (pa_cons (pe_ix ix_list (pv 1) pe_int (fun _ _ => rfl)) pa_nil))))))
      (pss_cons (ps_set (i := 5) sc_read_log.nd rfl (Or.inl rfl) (pe_callB (cr_sum rfl) (by rfl) (n_sum T) (by decide +kernel) (pa_cons (pe_lc (own := [("record", 4)]) (g := gName 4) (tt := tYes) rfl sc_read_log.nd (pi_list (pe_slice sl_list (pv 1) po_none (po_some pe_int))) (blkOk_by (N := ["data", "records", "turn", "base", "record", "size"]) (sc := defScope s_read_log) (by decide +kernel)) (fun _ _ _ _ _ => (pg_name (i := 4) sc_read_log.nd rfl (Or.inl rfl))) (fun _ _ _ _ _ => pts_nil) (fun _ _ _ _ _ => by (apply pe_cast (pe_callB call_len_seq (by rfl) (n_len T) PySem.boot_len (pa_cons (pe_f (ok_write_record T) (hr.mono (by omega)) (by rfl) (pa_cons (pv 4) pa_nil)) pa_nil))); (try dsimp only [L2.Cx.blk]) <;> exact rfl)) pa_nil)))
      (pss_cons (ps_for PassesOwn.never rfl (pi_list (pe_slice sl_list (pv 1) (po_some pe_int) po_none)) (pg_name (i := 4) sc_read_log.nd rfl (Or.inl rfl)) (pss_cons (ps_try_only (Wout := fun _ _ _ _ => False) rfl rfl ⟨rfl, by decide, .inl (gm_DamagedPacket T)⟩ takes0 (fun W pn xe tk _ => (pss_one (ps_set (i := 3) sc_read_log.nd rfl (Or.inl rfl) (pe_fX tk (ok_after_note T) (hr.mono (by omega)) (by rfl) (pa_cons (pv 3) (pa_cons (pv 4) pa_nil)))))) (fun _ _ _ _ _ _ _ => (pss_one ps_break)))
      (pss_one (ps_aug (i := 5) sc_read_log.nd rfl (Or.inl rfl) (pe_callB call_len_seq (by rfl) (n_len T) PySem.boot_len (pa_cons (pe_f (ok_write_record T) (hr.mono (by omega)) (by rfl) (pa_cons (pv 4) pa_nil)) pa_nil)) ip_add))))
      (pss_one (ps_ret (pe_tup (pa_cons (pv 2) (pa_cons (pv 3) (pa_cons (pv 5) pa_nil))))))))))), ?_⟩
  walk_at "rx"
  refine ⟨l, rcs, tl, rfl, hl, hstop, hlen, fun H1 p1 rl ps s1 ep1 erl hB => ?_⟩
  refine r_ixT ep1 rfl ?_
  walk_at "rx"
  refine ⟨rl, _, rfl, .inl (SqL.of erl), ?_⟩
  walk_at "rx"
  rw [List.length_map, hB.len]
  rcases hq with ⟨hsh, q⟩ | ⟨t, s0, gs, more, ercs, ok, q⟩
  · refine ite_t (decide_eq_true (by omega)) ?_
    refine ite_t rfl ?_
    walk_at "rx"
    exact q H1 s1
  subst ercs
  have l3 : ¬ (logRecs t s0 gs ++ more).length < 3 := by
    rw [List.length_append, logRecs]
    simp only [List.length_cons]
    omega
  refine ite_f (decide_eq_false (by omega)) ?_
  walk_at "rx"
  obtain ⟨pa, pb, pc, pm, rfl⟩ : ∃ pa pb pc pm, ps = pa :: pb :: pc :: pm := by
    have := hB.len
    match ps, this with
    | a :: b :: c :: m, _ => exact ⟨a, b, c, m, rfl⟩
    | [], e => exact absurd e (by intro e; rw [← e] at l3; exact l3 (lt_by rfl))
    | [_], e => exact absurd e (by intro e; rw [← e] at l3; exact l3 (lt_by rfl))
    | [_, _], e => exact absurd e (by intro e; rw [← e] at l3; exact l3 (lt_by rfl))
  have ea : H1 pa = some (bL (1 :: wNum t)) := hB.at_ 0 pa _ rfl rfl
  have eb : H1 pb = some (bL (3 :: wBase s0)) := hB.at_ 1 pb _ rfl rfl
  have ec : H1 pc = some (bL [2]) := hB.at_ 2 pc _ rfl rfl
  have hl2 : (recs (logRecs t s0 gs ++ more)).length + tl.length + 100 ≤ cap := by rw [← List.length_append]; exact hlen
  have hla : (wRec (1 :: wNum t)).length ≤ cap := Nat.le_trans (rec_le (rcs := logRecs t s0 gs ++ more) (List.mem_append_left _ (by simp [logRecs]))) (by omega)
  have hlb : (wRec (3 :: wBase s0)).length ≤ cap := Nat.le_trans (rec_le (rcs := logRecs t s0 gs ++ more) (List.mem_append_left _ (by simp [logRecs]))) (by omega)
  have hlc : (wRec [2]).length ≤ cap := Nat.le_trans (rec_le (rcs := logRecs t s0 gs ++ more) (List.mem_append_left _ (by simp [logRecs]))) (by omega)
  have hma : (1 :: wNum t).length ≤ cap := by rw [wRec_len] at hla; omega
  have hmb : (3 :: wBase s0).length ≤ cap := by rw [wRec_len] at hlb; omega
  refine r_ixL (v := .ref pc) erl (atI_nat (j := 2) rfl) ?_
  walk_at "rx"
  refine ⟨le_line rfl, fun p2 hp2 => ?_⟩
  have s2 := same_new (o := bL [2]) hp2
  refine r_neB (xs := [2]) (ys := [2]) (s2 _ _ ec) upd_same ?_
  refine r_bl ?_
  refine ite_f (by simp) ?_
  have s12 := s1.trans s2
  have f2 : ∀ {p o}, H1 p = some o → upd H1 p2 (bL [2]) p = some o := fun h => s2 _ _ h
  generalize hH2 : upd H1 p2 (bL [2]) = H2 at f2 s2 s12
  have hH2' : upd H1 p2 (.lst [V.int 2]) = H2 := hH2
  rw [hH2']
  walk_at "rx"
  refine r_ixL (v := .ref pa) (f2 erl) (atI_nat (j := 0) rfl) ?_
  walk_at "rx"
  refine ⟨pa, t, rfl, f2 ea, ok.tk, hma, fun H3 s3 => ?_⟩
  walk_at "rx"
  refine r_ixL (v := .ref pb) (s3 _ _ (f2 erl)) (atI_nat (j := 1) rfl) ?_
  walk_at "rx"
  refine ⟨pb, s0, rfl, s3 _ _ (f2 eb), ok.bk, hmb, fun b H4 s4 nb B4 => ?_⟩
  have s14 : Same H1 H4 := (s2.trans s3).trans s4
  have s04 := s1.trans s14
  walk_at "rx"
  refine r_lc ?_
  walk_at "rx"
  refine ⟨rl, _, rfl, SqL.of (s14 _ _ erl), fun p5 hp5 => ?_⟩
  have e5 : cutV ((pa :: pb :: pc :: pm).map V.ref) none (some 3) = [.ref pa, .ref pb, .ref pc] := cutV_to _ 3
  rw [e5]
  have s5 := same_new (o := .lst [.ref pa, .ref pb, .ref pc]) hp5
  have e5' : upd H4 p5 (.lst [.ref pa, .ref pb, .ref pc]) p5 = some (.lst [.ref pa, .ref pb, .ref pc]) := upd_same
  generalize upd H4 p5 (.lst [.ref pa, .ref pb, .ref pc]) = H5 at s5 e5'
  have s15 := s14.trans s5
  refine ⟨p5, rfl, ⟨_, SqL.of e5'⟩, fun D0 hD => ?_⟩
  refine lc_rp (xs := [.ref pa, .ref pb, .ref pc]) (ds := [.int (wRec (1 :: wNum t)).length, .int (wRec (3 :: wBase s0)).length, .int (wRec [2]).length]) (Fr := Same) (Wk.lst (I := fun H' => Same H5 H') fun H' s => s _ _ e5') FrmOk.same hD (fun _ s => s) rfl (show 3 ≤ cap by decide) ?_ ?_
  · intro i x dd H6 Q6 hx hdd s6 k
    have : ∃ pp rc, x = .ref pp ∧ dd = .int (wRec rc).length ∧ H1 pp = some (bL rc) ∧ (wRec rc).length ≤ cap := by
      match i, hx, hdd with
      | 0, hx, hdd => exact ⟨pa, _, (Option.some.inj hx).symm, (Option.some.inj hdd).symm, ea, hla⟩
      | 1, hx, hdd => exact ⟨pb, _, (Option.some.inj hx).symm, (Option.some.inj hdd).symm, eb, hlb⟩
      | 2, hx, hdd => exact ⟨pc, _, (Option.some.inj hx).symm, (Option.some.inj hdd).symm, ec, hlc⟩
      | n + 3, hx, hdd => exact absurd hx (by simp)
    obtain ⟨pp, rc, rfl, rfl, epp, hle⟩ := this
    refine ⟨wipe1, ?_⟩
    walk_at "rx"
    refine ⟨pp, rc, rfl, (s15.trans s6) _ _ epp, hle, fun H7 p7 s7 n7 e7 => ?_⟩
    walk_at "rx"
    refine ⟨p7, _, rfl, .inl (SqL.of e7), ?_⟩
    refine k _ H7 s7 ?_
    rw [List.length_map]
    rfl
  · intro H6 ys s6 eD hys
    obtain ⟨y1, _, rfl, k1, y2, _, rfl, k2, y3, _, rfl, k3, rfl⟩ := hys
    obtain rfl : y1 = _ := k1
    obtain rfl : y2 = _ := k2
    obtain rfl : y3 = _ := k3
    have s16 := s15.trans s6
    walk_at "rx"
    refine ⟨D0, [((wRec (1 :: wNum t)).length : Int), ((wRec (3 :: wBase s0)).length : Int), ((wRec [2]).length : Int)], rfl, SqL.of eD, ?_⟩
    have esum : ([((wRec (1 :: wNum t)).length : Int), ((wRec (3 :: wBase s0)).length : Int), ((wRec [2]).length : Int)].sum) = ((recs ((logRecs t s0 gs).take 3)).length : Int) := by
      show _ = (((wRec (1 :: wNum t) ++ (wRec (3 :: wBase s0) ++ (wRec [2] ++ recs []))).length : Nat) : Int)
      simp only [List.length_append, List.sum_cons, List.sum_nil]
      show _ = ((_ + (_ + (_ + 0)) : Nat) : Int)
      omega
    rw [esum]
    walk_at "rx"
    refine r_il ?_
    walk_at "rx"
    refine ⟨rl, _, rfl, SqL.of (s16 _ _ erl), fun p7 hp7 => ?_⟩
    have e7 : cutV ((pa :: pb :: pc :: pm).map V.ref) (some 3) none = pm.map V.ref := cutV_from _ 3
    rw [e7]
    have s7 := same_new (o := .lst (pm.map V.ref)) hp7
    have e7' : upd H6 p7 (.lst (pm.map V.ref)) p7 = some (.lst (pm.map V.ref)) := upd_same
    generalize upd H6 p7 (.lst (pm.map V.ref)) = H7 at s7 e7'
    have s17 := s16.trans s7
    have lpm : pm.length = gs.length + more.length := by
      have := hB.len
      rw [List.length_append, logRecs] at this
      simp only [List.length_cons, List.length_map] at this
      omega
    have B7 : BaseAt K H7 b s0 := B4.same ((s5.trans s6).trans s7)
    have fin : ∀ (H8 : Hp) b', Same H1 H8 → BaseAt K H8 b' (sAt s0 gs gs.length) → ∀ p, H8 p = none → Q (.ref p) (upd H8 p (.tup [.int (t : Nat), .ref b', .int (recs (logRecs t s0 gs)).length])) := fun H8 b' s8 B8 p hp => q p b' _ ((s1.trans s8).trans (same_new hp)) upd_same (B8.same (same_new hp))
    have ltk : (logRecs t s0 gs).take (3 + gs.length) = logRecs t s0 gs := List.take_of_length_le (by rw [logRecs]; simp only [List.length_cons, List.length_map]; omega)
    refine ⟨p7, rfl, ⟨_, SqL.of e7'⟩, for_any (xs := pm.map V.ref) (Wk.lst (I := fun H' => Same H7 H') fun H' s => s _ _ e7') (fun i σ H' => i ≤ gs.length ∧ ∃ b' v4, σ = [some (.ref l), some (.ref rl), some (.int (t : Nat)), some (.ref b'), v4, some (.int ((recs ((logRecs t s0 gs).take (3 + i))).length : Nat))] ∧ Same H7 H' ∧ BaseAt K H' b' (sAt s0 gs i)) (fun i σ H' ⟨_, _, _, _, s, _⟩ => s)
      ⟨Nat.zero_le _, b, none, rfl, Same.refl H7, B7⟩ ?_ ?_⟩
    · rintro i x σ H8 hx ⟨hi, b', v4, rfl, s8, B8⟩
      obtain ⟨pp, hpp, rfl⟩ := getElem_map_some hx
      have hipm : i < pm.length := (List.getElem?_eq_some_iff.mp hpp).1
      have s18 := s17.trans s8
      walk_at "rx"
      refine r_callS ?_
      walk_at "rx"
      by_cases hg : i < gs.length
      · have hgi : gs[i]? = some gs[i] := List.getElem?_eq_getElem hg
        have G := ok.gk i _ hgi
        have hrci : (logRecs t s0 gs ++ more)[i + 3]? = some (noteOf gs[i]) := by
          rw [List.getElem?_append_left (by rw [logRecs]; simp only [List.length_cons, List.length_map]; omega)]
          show (gs.map noteOf)[i]? = _
          rw [List.getElem?_map, hgi]
          rfl
        have epp : H1 pp = some (bL (noteOf gs[i])) := hB.at_ (i + 3) pp _ (by show pm[i]? = _; exact hpp) hrci
        have hlr : (wRec (noteOf gs[i])).length ≤ cap := Nat.le_trans (rec_le (List.mem_of_getElem? hrci)) (by omega)
        have hlm : (noteOf gs[i]).length ≤ cap := by rw [wRec_len] at hlr; omega
        refine ⟨b', pp, sAt s0 gs i, _, rfl, B8, s18 _ _ epp, hlm, G.ro.r8, .inl ⟨gs[i].1, gs[i].2, rfl, G.ok, G.ro, fun _ b2 H9 s9 nb2 B9 => ?_, fun hn => absurd G.nx hn⟩⟩
        walk_at "rx"
        refine ⟨pp, _, rfl, (s18.trans s9) _ _ epp, hlr, fun HA pA sA nA eA => ?_⟩
        walk_at "rx"
        refine ⟨pA, _, rfl, .inl (SqL.of eA), ?_⟩
        walk_at "rx"
        refine ⟨hg, b2, some (.ref pp), ?_, (s8.trans s9).trans sA, ?_⟩
        · have etk : recs ((logRecs t s0 gs).take (3 + (i + 1))) = recs ((logRecs t s0 gs).take (3 + i)) ++ wRec (noteOf gs[i]) := by
            have : (logRecs t s0 gs)[3 + i]? = some (noteOf gs[i]) := by
              rw [Nat.add_comm]
              show (gs.map noteOf)[i]? = _
              rw [List.getElem?_map, hgi]
              rfl
            exact recs_at this
          rw [etk, List.length_append, List.length_map, Int.natCast_add]
          rfl
        · rw [sAt_next hgi]
          exact B9.same sA
      · have hie : i = gs.length := by omega
        subst hie
        obtain ⟨rc, mr, emore⟩ : ∃ rc mr, more = rc :: mr := by
          cases hm : more with
          | nil => rw [hm] at lpm; simp at lpm; omega
          | cons a b => exact ⟨a, b, rfl⟩
        obtain ⟨h8, hbad⟩ := ok.mo rc mr emore
        have hrci : (logRecs t s0 gs ++ more)[gs.length + 3]? = some rc := by
          rw [List.getElem?_append_right (by rw [logRecs]; simp only [List.length_cons, List.length_map]; omega), emore, logRecs]
          simp only [List.length_cons, List.length_map, Nat.sub_self]
          rfl
        have epp : H1 pp = some (bL rc) := hB.at_ (gs.length + 3) pp _ (by show pm[gs.length]? = _; exact hpp) hrci
        have hlr : (wRec rc).length ≤ cap := Nat.le_trans (rec_le (List.mem_of_getElem? hrci)) (by omega)
        have hlm : rc.length ≤ cap := by rw [wRec_len] at hlr; omega
        have out : ∀ H9, Same H8 H9 → WE (wOnly K (.ref (cX K)) (fun _ _ _ => tBreak) (fun _ _ _ _ => False) { nx := fun _ _ => True, rt := fun _ _ => True }) [] (.ref (cX K)) none H9 → True := fun _ _ _ => trivial
        refine ⟨b', pp, sAt s0 gs gs.length, rc, rfl, B8, s18 _ _ epp, hlm, h8, ?_⟩
        have brk : ∀ H9, Same H8 H9 → ∀ p, H9 p = none → Q (.ref p) (upd H9 p (.tup [.int (t : Nat), .ref b', .int (recs (logRecs t s0 gs)).length])) := fun H9 s9 p hp => fin H9 b' (s18.trans s9) (B8.same s9) p hp
        rcases hbad with hb | ⟨ts, cs, erc, gok, ro, hnx⟩
        · refine .inr ⟨hb, fun H9 s9 => ⟨true, xm_DamagedPacket T.says, fun _ a ha => ?_, fun z => nomatch z⟩⟩
          refine r_break ?_
          rw [ltk]
          walk_at "rx"
          exact ⟨le_line rfl, fun p hp => brk H9 s9 p hp⟩
        · refine .inl ⟨ts, cs, erc, gok, ro, fun hn => absurd hn hnx, fun _ H9 s9 => ⟨true, xm_DamagedPacket T.says, fun _ a ha => ?_, fun z => nomatch z⟩⟩
          refine r_break ?_
          rw [ltk]
          walk_at "rx"
          exact ⟨le_line rfl, fun p hp => brk H9 s9 p hp⟩
    · rintro σ H8 ⟨hi, b', v4, rfl, s8, B8⟩
      rw [List.length_map] at hi B8
      have hie : pm.length = gs.length := by omega
      rw [hie] at B8
      walk_at "rx"
      rw [List.length_map, hie, ltk]
      exact ⟨le_line rfl, fun p hp => fin H8 b' (s17.trans s8) B8 p hp⟩
end
end Q

/-! ## G1 -/
set_option Elab.async false
set_option linter.all false
set_option maxRecDepth 100000
set_option maxHeartbeats 4000000
namespace Q
open PySem PySem.Spec PyProof.Rows L2
local macro_rules | `(tactic| walk_at "rd") => `(tactic| repeat (first
  | ((with_reducible apply r_var); focus exact rfl)
  | with_reducible refine r_c ?_
  | with_reducible refine r_chain ?_
  | ((with_reducible apply r_aug); focus exact rfl)
  | with_reducible refine r_ip ?_
  | with_reducible refine r_op ?_
  | with_reducible refine r_I0 ?_
  | with_reducible refine r_cons ?_
  | with_reducible refine r_nil ?_
  | with_reducible refine r_seq ?_
  | with_reducible refine r_asg ?_
  | with_reducible refine r_gn ?_
  | with_reducible refine r_gcons ?_
  | with_reducible refine r_gnil ?_
  | with_reducible refine r_lc ?_
  | with_reducible refine r_m1 ?_
  | with_reducible refine r_sfld ?_
  | with_reducible refine r_sfa ?_
  | with_reducible refine r_rAdd ?_
  | with_reducible refine r_ret ?_
  | with_reducible refine r_ifS ?_
  | with_reducible refine r_test ?_
  | with_reducible refine r_bl ?_
  | with_reducible refine r_B ?_
  | with_reducible refine r_drop ?_
  | with_reducible refine r_bm ?_
  | with_reducible refine r_CB ?_
  | with_reducible refine r_call ?_
  | with_reducible refine r_meth ?_
  | with_reducible refine r_make ?_
  | with_reducible refine r_tup ?_
  | with_reducible refine r_lst ?_
  | ((with_reducible refine r_I ?_ ?_); focus (first | decide | exact ⟨by decide, by decide⟩ | exact .inl ⟨by decide, by decide⟩ | exact .inr ⟨by decide, by decide⟩ | omega))
  | with_reducible refine r_U ?_
  | with_reducible refine r_un ?_
  | with_reducible refine r_and ?_
  | with_reducible refine r_or ?_
  | with_reducible refine r_not ?_
  | with_reducible refine r_andV ?_
  | with_reducible refine r_orV ?_
  | with_reducible refine r_notV ?_
  | with_reducible refine r_if ?_
  | with_reducible refine r_sl ?_
  | with_reducible refine r_part ?_
  | with_reducible refine r_parti ?_
  | with_reducible refine r_nopart ?_
  | with_reducible refine r_il ?_
  | with_reducible refine r_it ?_
  | with_reducible refine r_ir ?_
  | with_reducible refine r_is ?_
  | with_reducible refine r_next ?_
  | with_reducible refine r_retN ?_
  | ((with_reducible refine r_eq ?_ ?_); focus exact rfl)
  | ((with_reducible refine r_ne ?_ ?_); focus exact rfl)))
local macro_rules | `(tactic| walk_at "rx") => `(tactic| repeat (first
  | ((with_reducible apply r_var); focus exact rfl)
  | with_reducible refine r_c ?_
  | with_reducible refine r_chain ?_
  | ((with_reducible apply r_aug); focus exact rfl)
  | with_reducible refine r_ip ?_
  | with_reducible refine r_op ?_
  | with_reducible refine r_I0 ?_
  | with_reducible refine r_cons ?_
  | with_reducible refine r_nil ?_
  | with_reducible refine r_seq ?_
  | with_reducible refine r_asg ?_
  | with_reducible refine r_gn ?_
  | with_reducible refine r_gcons ?_
  | with_reducible refine r_gnil ?_
  | with_reducible refine r_m1 ?_
  | with_reducible refine r_sfld ?_
  | with_reducible refine r_sfa ?_
  | with_reducible refine r_rAdd ?_
  | with_reducible refine r_ret ?_
  | with_reducible refine r_ifS ?_
  | with_reducible refine r_test ?_
  | with_reducible refine r_bl ?_
  | with_reducible refine r_B ?_
  | with_reducible refine r_drop ?_
  | with_reducible refine r_bm ?_
  | with_reducible refine r_CB ?_
  | with_reducible refine r_call ?_
  | with_reducible refine r_make ?_
  | with_reducible refine r_tup ?_
  | with_reducible refine r_lst ?_
  | ((with_reducible refine r_I ?_ ?_); focus (first | decide | exact ⟨by decide, by decide⟩ | exact .inl ⟨by decide, by decide⟩ | exact .inr ⟨by decide, by decide⟩ | omega))
  | with_reducible refine r_U ?_
  | with_reducible refine r_un ?_
  | with_reducible refine r_and ?_
  | with_reducible refine r_or ?_
  | with_reducible refine r_not ?_
  | with_reducible refine r_andV ?_
  | with_reducible refine r_orV ?_
  | with_reducible refine r_notV ?_
  | with_reducible refine r_if ?_
  | with_reducible refine r_sl ?_
  | with_reducible refine r_part ?_
  | with_reducible refine r_parti ?_
  | with_reducible refine r_nopart ?_
  | with_reducible refine r_il ?_
  | with_reducible refine r_it ?_
  | with_reducible refine r_ir ?_
  | with_reducible refine r_is ?_
  | with_reducible refine r_next ?_
  | with_reducible refine r_retN ?_
  | ((with_reducible refine r_eq ?_ ?_); focus exact rfl)
  | ((with_reducible refine r_ne ?_ ?_); focus exact rfl)))
section
variable {P : Program} {w : World} {K : PySem.W.Frag} {mg : Str → Option Value} {base : Heap}
/-! ### the law's own: same, mix, draws, next -/
/-- len(..), with the bound that the model keeps -/
theorem call_len_b {X : Cx} : CallR X (.builtin "len") (fun xs H Q => ∃ p ys, xs = [.ref p] ∧ (SqL X.K H p ys ∨ SqT X.K H p ys) ∧ (ys.length ≤ sizeLine → Q (.int (ys.length : Nat)) H)) := by
  intro pins s σ H xs us Q I r h
  obtain ⟨p, ys, rfl, hq, q⟩ := h
  refine call_len_seq pins s σ H _ us Q I r ⟨p, ys, rfl, hq, q ?_⟩
  rcases hq with hq | hq
  · obtain ⟨_, _, _, hz⟩ := I.list hq
    exact hz
  · obtain ⟨_, _, _, hz⟩ := I.tuple hq
    exact hz
mutual
def depD : D → Nat
  | .non => 1
  | .bl _ => 1
  | .int _ => 1
  | .str _ => 1
  | .tup ds => depDs ds + 1
def depDs : List D → Nat
  | [] => 0
  | d :: ds => max (depD d) (depDs ds)
end
theorem depD_pos (d : D) : 0 < depD d := by
  cases d <;> (rw [depD]; omega)
theorem depDs_mem : ∀ {ds : List D} {d : D}, d ∈ ds → depD d ≤ depDs ds
  | [], d, h => by simp at h
  | u :: ds, d, h => by
    rw [depDs]
    rcases List.mem_cons.mp h with e | h
    · subst e
      exact Nat.le_max_left _ _
    · exact Nat.le_trans (depDs_mem h) (Nat.le_max_right _ _)
def spIsI : Sp := fun vs H Q _ => ∃ i : Int, vs = [.int i] ∧ Q (.bl true) H
theorem ok_law_is_integer  (T : Txt K mg) : Fc P w K mg base CX0 (1) "_law_is_integer" ["_law_actual"] (spIsI) := by
  refine ⟨?_, gm_law_is_integer T, (fd_law_is_integer T.says).kp, (fd_law_is_integer T.says).bindsN fun _ _ _ _ _ _ us hl => match us, hl with | [_], _ => rfl⟩
  refine (fd_law_is_integer T.says).ok sc_law_is_integer (fun vs H Q E h => by first | (obtain ⟨_, rfl, _⟩ := h; rfl) | (obtain ⟨_, _, rfl, _⟩ := h; rfl) | (obtain ⟨_, _, _, rfl, _⟩ := h; rfl) | (obtain ⟨_, _, _, _, rfl, _⟩ := h; rfl) | (obtain ⟨_, _, _, _, _, rfl, _⟩ := h; rfl) | (obtain ⟨_, _, _, _, _, _, rfl, _⟩ := h; rfl) | (obtain ⟨_, _, _, _, _, _, _, rfl, _⟩ := h; rfl) | (obtain ⟨_, _, _, _, _, _, _, _, rfl, _⟩ := h; rfl) | (obtain ⟨_, _, _, _, _, _, _, _, _, rfl, _⟩ := h; rfl)) (fun cdv A outer s H vs Q E hr h => ?_)
  obtain ⟨i, rfl, q⟩ := h
  refine ⟨_, PSs.nox (pss_one (ps_ret (pe_and (pe_callB call_isi (by rfl) (n_isinstance T) (by decide +kernel) (pa_cons (pv 0) (pa_cons (pe_bltn (v := .ty "int") (by rfl) (n_int T) (by decide +kernel) rfl) pa_nil))) (pe_one (pe_not (pe_callB call_isi (by rfl) (n_isinstance T) (by decide +kernel) (pa_cons (pv 0) (pa_cons (pe_bltn (v := .ty "bool") (by rfl) (n_bool T) (by decide +kernel) rfl) pa_nil)))))))), ?_⟩
  walk_at "rx"
  refine r_isi tx_int k_int_int ?_
  refine ⟨true, rfl, ?_⟩
  refine ite_t rfl ?_
  walk_at "rx"
  refine r_isi tx_int k_int_bool ?_
  refine ⟨false, rfl, ?_⟩
  exact q
/-- two that stand for the same -/
def spSame (n : Nat) : Sp := fun vs H Q _ => ∃ v w d, vs = [v, w] ∧ Rp H d v ∧ Rp H d w ∧ depD d ≤ n ∧ ∀ H', Same H H' → Q (.bl true) H'
theorem kany {a : String} {b1 b2 r : Bool} (h1 : kitB a "list" = some b1) (h2 : kitB a "tuple" = some b2) (hr : (b1 || b2) = r) : PySem.W.kitAny K (.type a) [.type "list", .type "tuple"] = some r := by
  refine kitAny_cons (kit_ty h1) (fun e => ?_) (fun e => ?_)
  · refine kitAny_cons (kit_ty h2) (fun e2 => ?_) (fun e2 => ?_)
    · rw [e, e2] at hr
      rw [← hr]
      rfl
    · rw [e2] at hr
      rw [← hr]
      simp
  · rw [e] at hr
    rw [← hr]
    rfl
theorem r_isT {H : Hp} {Qv : VK} {x : V} {a : String} {b1 b2 r : Bool} {tp : Addr} (ht : H tp = some (.tup [.ty "list", .ty "tuple"])) (ty : TyX K H x (.type a)) (h1 : kitB a "list" = some b1) (h2 : kitB a "tuple" = some b2) (hr : (b1 || b2) = r) (q : Qv (.bl r) H) : rIsiT K [x, .ref tp] H Qv :=
  ⟨x, tp, _, _, [.type "list", .type "tuple"], r, rfl, ht, .cons (.ty _) (.cons (.ty _) .nil), ty, kany h1 h2 hr, q⟩
theorem ok_law_same_s {n : Nat} (ih : Fc P w K mg base CX0 (n + 2) "_law_same" ["_law_actual", "_law_expected"] (spSame n)) (T : Txt K mg) : Fc P w K mg base CX0 (n + 3) "_law_same" ["_law_actual", "_law_expected"] (spSame (n + 1)) := by
  refine ⟨?_, gm_law_same T, (fd_law_same T.says).kp, (fd_law_same T.says).bindsN fun _ _ _ _ _ _ us hl => match us, hl with | [_, _], _ => rfl⟩
  refine (fd_law_same T.says).ok sc_law_same (fun vs H Q E h => by first | (obtain ⟨_, rfl, _⟩ := h; rfl) | (obtain ⟨_, _, rfl, _⟩ := h; rfl) | (obtain ⟨_, _, _, rfl, _⟩ := h; rfl) | (obtain ⟨_, _, _, _, rfl, _⟩ := h; rfl) | (obtain ⟨_, _, _, _, _, rfl, _⟩ := h; rfl) | (obtain ⟨_, _, _, _, _, _, rfl, _⟩ := h; rfl) | (obtain ⟨_, _, _, _, _, _, _, rfl, _⟩ := h; rfl) | (obtain ⟨_, _, _, _, _, _, _, _, rfl, _⟩ := h; rfl) | (obtain ⟨_, _, _, _, _, _, _, _, _, rfl, _⟩ := h; rfl)) (fun cdv A outer s H vs Q E hr h => ?_)
  obtain ⟨v, u, d, rfl, hv, hu, hd, q⟩ := h
  refine ⟨_, PSs.nox (pss_cons (ps_if (pt_val (pe_callB call_isiT (by rfl) (n_isinstance T) (by decide +kernel) (pa_cons (pv 1) (pa_cons (pe_tup (pa_cons (pe_bltn (v := .ty "list") (by rfl) (n_list T) (by decide +kernel) rfl) (pa_cons (pe_bltn (v := .ty "tuple") (by rfl) (n_tuple T) (by decide +kernel) rfl) pa_nil))) pa_nil)))) (pss_cons (ps_if (PW.pt (pw_or (pt_cmpR op_ne (pe_callB call_isi (by rfl) (n_isinstance T) (by decide +kernel) (pa_cons (pv 1) (pa_cons (pe_bltn (v := .ty "list") (by rfl) (n_list T) (by decide +kernel) rfl) pa_nil))) (pe_callB call_isi (by rfl) (n_isinstance T) (by decide +kernel) (pa_cons (pv 0) (pa_cons (pe_bltn (v := .ty "list") (by rfl) (n_list T) (by decide +kernel) rfl) pa_nil))) (nomark _)) (pw_or1 (pt_cmpR op_ne (pe_callB call_isi (by rfl) (n_isinstance T) (by decide +kernel) (pa_cons (pv 1) (pa_cons (pe_bltn (v := .ty "tuple") (by rfl) (n_tuple T) (by decide +kernel) rfl) pa_nil))) (pe_callB call_isi (by rfl) (n_isinstance T) (by decide +kernel) (pa_cons (pv 0) (pa_cons (pe_bltn (v := .ty "tuple") (by rfl) (n_tuple T) (by decide +kernel) rfl) pa_nil))) (nomark _))))) (pss_one (ps_ret pe_bl)) pss_nil)
      (pss_cons (ps_if (pt_cmpR op_ne (pe_callB call_len_b (by rfl) (n_len T) PySem.boot_len (pa_cons (pv 0) pa_nil)) (pe_callB call_len_b (by rfl) (n_len T) PySem.boot_len (pa_cons (pv 1) pa_nil)) (nomark _)) (pss_one (ps_ret pe_bl)) pss_nil)
      (pss_cons (ps_for PassesOwn.never rfl (pi_range1 (by rfl) (n_range T) (pa_cons (pe_callB call_len_b (by rfl) (n_len T) PySem.boot_len (pa_cons (pv 1) pa_nil)) pa_nil)) (pg_name (i := 2) sc_law_same.nd rfl (Or.inl rfl)) (pss_one (ps_if (pt_not (pt_val (pe_f ih (hr.mono (by omega)) (by rfl) (pa_cons (pe_ix ix_seq (pv 0) (pv 2) (fun _ _ => rfl)) (pa_cons (pe_ix ix_seq (pv 1) (pv 2) (fun _ _ => rfl)) pa_nil))))) (pss_one (ps_ret pe_bl)) pss_nil)))
      (pss_one (ps_ret pe_bl))))) pss_nil)
      (pss_cons (ps_if (pt_cmpR op_isN (pv 1) pe_non (nomark _)) (pss_one (ps_ret (pe_cmpR op_isN (pv 0) pe_non (nomark _)))) pss_nil)
      (pss_cons (ps_if (pt_val (pe_callB call_isi (by rfl) (n_isinstance T) (by decide +kernel) (pa_cons (pv 1) (pa_cons (pe_bltn (v := .ty "bool") (by rfl) (n_bool T) (by decide +kernel) rfl) pa_nil)))) (pss_one (ps_ret (pe_and (pe_callB call_isi (by rfl) (n_isinstance T) (by decide +kernel) (pa_cons (pv 0) (pa_cons (pe_bltn (v := .ty "bool") (by rfl) (n_bool T) (by decide +kernel) rfl) pa_nil))) (pe_one (pe_cmpR op_eq (pv 0) (pv 1) (nomark _)))))) pss_nil)
      (pss_cons (ps_if (pt_val (pe_callB call_isi (by rfl) (n_isinstance T) (by decide +kernel) (pa_cons (pv 1) (pa_cons (pe_bltn (v := .ty "int") (by rfl) (n_int T) (by decide +kernel) rfl) pa_nil)))) (pss_one (ps_ret (pe_and (pe_f (ok_law_is_integer T) (hr.mono (by omega)) (by rfl) (pa_cons (pv 0) pa_nil)) (pe_one (pe_cmpR op_eq (pv 0) (pv 1) (nomark _)))))) pss_nil)
      (pss_one (ps_ret (pe_and (pe_callB call_isi (by rfl) (n_isinstance T) (by decide +kernel) (pa_cons (pv 0) (pa_cons (pe_bltn (v := .ty "str") (by rfl) (n_str T) (by decide +kernel) rfl) pa_nil))) (pe_one (pe_cmpR op_eq (pv 0) (pv 1) (nomark _)))))))))), ?_⟩
  walk_at "rx"
  refine ⟨le_line rfl, fun tp htp => ?_⟩
  have s1 := same_new (o := .tup [.ty "list", .ty "tuple"]) htp
  have et : upd H tp (.tup [.ty "list", .ty "tuple"]) tp = some (.tup [.ty "list", .ty "tuple"]) := upd_same
  have hv := hv.ts (Tst.same s1)
  have hu := hu.ts (Tst.same s1)
  generalize upd H tp (.tup [.ty "list", .ty "tuple"]) = H1 at s1 et hv hu
  refine r_nil ?_
  cases d with
  | non =>
    obtain rfl : v = .non := hv
    obtain rfl : u = .non := hu
    refine r_isT et tx_non k_NoneType_list k_NoneType_tuple rfl ?_
    walk_at "rx"
    refine ite_f rfl ?_
    walk_at "rx"
    refine ⟨rfl, ?_⟩
    walk_at "rx"
    refine ite_t rfl ?_
    walk_at "rx"
    refine ⟨rfl, ?_⟩
    exact q H1 s1
  | bl b =>
    obtain rfl : v = .bl b := hv
    obtain rfl : u = .bl b := hu
    refine r_isT et tx_bl k_bool_list k_bool_tuple rfl ?_
    walk_at "rx"
    refine ite_f rfl ?_
    walk_at "rx"
    refine ⟨rfl, ?_⟩
    walk_at "rx"
    refine ite_f rfl ?_
    walk_at "rx"
    refine r_isi tx_bl k_bool_bool ?_
    walk_at "rx"
    refine ite_t rfl ?_
    walk_at "rx"
    refine r_isi tx_bl k_bool_bool ?_
    refine ⟨true, rfl, ?_⟩
    refine ite_t rfl ?_
    walk_at "rx"
    rw [decide_eq_true rfl]
    exact q H1 s1
  | int i =>
    obtain rfl : v = .int i := hv
    obtain rfl : u = .int i := hu
    refine r_isT et tx_int k_int_list k_int_tuple rfl ?_
    walk_at "rx"
    refine ite_f rfl ?_
    walk_at "rx"
    refine ⟨rfl, ?_⟩
    walk_at "rx"
    refine ite_f rfl ?_
    walk_at "rx"
    refine r_isi tx_int k_int_bool ?_
    walk_at "rx"
    refine ite_f rfl ?_
    walk_at "rx"
    refine r_isi tx_int k_int_int ?_
    walk_at "rx"
    refine ite_t rfl ?_
    walk_at "rx"
    refine ⟨i, rfl, ?_⟩
    refine ⟨true, rfl, ?_⟩
    refine ite_t rfl ?_
    walk_at "rx"
    rw [decide_eq_true rfl]
    exact q H1 s1
  | str z =>
    obtain rfl : v = .str z := hv
    obtain rfl : u = .str z := hu
    refine r_isT et tx_str k_str_list k_str_tuple rfl ?_
    walk_at "rx"
    refine ite_f rfl ?_
    walk_at "rx"
    refine ⟨rfl, ?_⟩
    walk_at "rx"
    refine ite_f rfl ?_
    walk_at "rx"
    refine r_isi tx_str k_str_bool ?_
    walk_at "rx"
    refine ite_f rfl ?_
    walk_at "rx"
    refine r_isi tx_str k_str_int ?_
    walk_at "rx"
    refine ite_f rfl ?_
    walk_at "rx"
    refine r_isi tx_str k_str_str ?_
    refine ⟨true, rfl, ?_⟩
    refine ite_t rfl ?_
    walk_at "rx"
    rw [decide_eq_true rfl]
    exact q H1 s1
  | tup ds =>
    obtain ⟨a, xs, rfl, ha, hxs⟩ := hv
    obtain ⟨b, ys, rfl, hb, hys⟩ := hu
    rw [depD] at hd
    refine r_isT et (tx_tup hb) k_tuple_list k_tuple_tuple rfl ?_
    walk_at "rx"
    refine ite_t rfl ?_
    walk_at "rx"
    refine r_isi (tx_tup hb) k_tuple_list ?_
    walk_at "rx"
    refine r_isi (tx_tup ha) k_tuple_list ?_
    walk_at "rx"
    refine ite_f rfl ?_
    walk_at "rx"
    refine r_isi (tx_tup hb) k_tuple_tuple ?_
    walk_at "rx"
    refine r_isi (tx_tup ha) k_tuple_tuple ?_
    walk_at "rx"
    refine ite_f rfl ?_
    walk_at "rx"
    refine ⟨a, _, rfl, .inr (SqT.of ha), fun _ => ?_⟩
    walk_at "rx"
    refine ⟨b, _, rfl, .inr (SqT.of hb), fun _ => ?_⟩
    walk_at "rx"
    rw [hxs.length, hys.length]
    refine iteNI (fun n => absurd rfl n) (fun _ => ?_)
    walk_at "rx"
    refine r_ir ?_
    walk_at "rx"
    refine ⟨b, _, rfl, .inr (SqT.of hb), fun hsz => ?_⟩
    walk_at "rx"
    have hln : (sizeLine : Nat) < 2 ^ 62 := by rw [sizeLine_eq]; decide
    refine ⟨_, rfl, by omega, by omega, ?_⟩
    rw [hys.length, show ((ds.length : Nat) : Int).toNat = ds.length from rfl]
    refine for_any (xs := upto ds.length) (Wk.rng (I := fun _ => True)) (fun i σ H' => ∃ v2, σ = [some (.ref a), some (.ref b), v2] ∧ Same H1 H') (fun _ _ _ _ => trivial) ⟨none, rfl, Same.refl H1⟩ ?_ ?_
    · rintro i x σ H2 hx ⟨v2, rfl, s2⟩
      obtain ⟨i', hi', e⟩ := getElem_map_some hx
      have hin : i < ds.length := by
        have z := (List.getElem?_eq_some_iff.mp hx).1
        rw [upto_len] at z
        exact z
      have ei : i' = i := by
        rw [List.getElem?_range hin] at hi'
        exact (Option.some.inj hi').symm
      subst ei
      obtain rfl : x = .int (i' : Int) := e
      have hdi : ds[i']? = some ds[i'] := List.getElem?_eq_getElem hin
      obtain ⟨y1, g1, g2⟩ := hxs.get hdi
      obtain ⟨y2, g3, g4⟩ := hys.get hdi
      walk_at "rx"
      refine .inr (.inl ⟨a, xs, i', y1, rfl, rfl, SqT.of (s2 _ _ ha), atI_nat g1, ?_⟩)
      walk_at "rx"
      refine .inr (.inl ⟨b, ys, i', y2, rfl, rfl, SqT.of (s2 _ _ hb), atI_nat g3, ?_⟩)
      walk_at "rx"
      refine ⟨y1, y2, ds[i'], rfl, g2.ts (Tst.same s2), g4.ts (Tst.same s2), Nat.le_trans (depDs_mem (List.mem_of_getElem? hdi)) (by omega), fun H3 s3 => ?_⟩
      refine ⟨true, rfl, ?_⟩
      refine ite_f rfl ?_
      walk_at "rx"
      exact ⟨_, rfl, s2.trans s3⟩
    · rintro σ H2 ⟨v2, rfl, s2⟩
      walk_at "rx"
      exact q H2 (s1.trans s2)
theorem ok_law_same (n : Nat) (T : Txt K mg) : Fc P w K mg base CX0 (n + 2) "_law_same" ["_law_actual", "_law_expected"] (spSame n) := by
  induction n with
  | zero =>
    refine ⟨⟨fun vs H Q E h => ?_, fun A outer s H args us vs Q E hr he hb hv hs => ?_⟩, gm_law_same T, (fd_law_same T.says).kp, (fd_law_same T.says).bindsN fun _ _ _ _ _ _ us hl => match us, hl with | [_, _], _ => rfl⟩
    · obtain ⟨v, w, d, rfl, _⟩ := h
      rfl
    · obtain ⟨v, w, d, _, _, _, hd, _⟩ := hs
      have := depD_pos d
      omega
  | succ n ih => exact ok_law_same_s ih T
/-- two lists of bytes that are the same -/
def spSameB : Sp := fun vs H Q _ => ∃ a b bs, vs = [.ref a, .ref b] ∧ H a = some (bL bs) ∧ H b = some (bL bs) ∧ ∀ H', Same H H' → Q (.bl true) H'
theorem ok_law_same_b  (T : Txt K mg) : Fc P w K mg base CX0 (4) "_law_same" ["_law_actual", "_law_expected"] (spSameB) := by
  refine ⟨?_, gm_law_same T, (fd_law_same T.says).kp, (fd_law_same T.says).bindsN fun _ _ _ _ _ _ us hl => match us, hl with | [_, _], _ => rfl⟩
  refine (fd_law_same T.says).ok sc_law_same (fun vs H Q E h => by first | (obtain ⟨_, rfl, _⟩ := h; rfl) | (obtain ⟨_, _, rfl, _⟩ := h; rfl) | (obtain ⟨_, _, _, rfl, _⟩ := h; rfl) | (obtain ⟨_, _, _, _, rfl, _⟩ := h; rfl) | (obtain ⟨_, _, _, _, _, rfl, _⟩ := h; rfl) | (obtain ⟨_, _, _, _, _, _, rfl, _⟩ := h; rfl) | (obtain ⟨_, _, _, _, _, _, _, rfl, _⟩ := h; rfl) | (obtain ⟨_, _, _, _, _, _, _, _, rfl, _⟩ := h; rfl) | (obtain ⟨_, _, _, _, _, _, _, _, _, rfl, _⟩ := h; rfl)) (fun cdv A outer s H vs Q E hr h => ?_)
  obtain ⟨a, b, bs, rfl, ha, hb, q⟩ := h
  refine ⟨_, PSs.nox (pss_cons (ps_if (pt_val (pe_callB call_isiT (by rfl) (n_isinstance T) (by decide +kernel) (pa_cons (pv 1) (pa_cons (pe_tup (pa_cons (pe_bltn (v := .ty "list") (by rfl) (n_list T) (by decide +kernel) rfl) (pa_cons (pe_bltn (v := .ty "tuple") (by rfl) (n_tuple T) (by decide +kernel) rfl) pa_nil))) pa_nil)))) (pss_cons (ps_if (PW.pt (pw_or (pt_cmpR op_ne (pe_callB call_isi (by rfl) (n_isinstance T) (by decide +kernel) (pa_cons (pv 1) (pa_cons (pe_bltn (v := .ty "list") (by rfl) (n_list T) (by decide +kernel) rfl) pa_nil))) (pe_callB call_isi (by rfl) (n_isinstance T) (by decide +kernel) (pa_cons (pv 0) (pa_cons (pe_bltn (v := .ty "list") (by rfl) (n_list T) (by decide +kernel) rfl) pa_nil))) (nomark _)) (pw_or1 (pt_cmpR op_ne (pe_callB call_isi (by rfl) (n_isinstance T) (by decide +kernel) (pa_cons (pv 1) (pa_cons (pe_bltn (v := .ty "tuple") (by rfl) (n_tuple T) (by decide +kernel) rfl) pa_nil))) (pe_callB call_isi (by rfl) (n_isinstance T) (by decide +kernel) (pa_cons (pv 0) (pa_cons (pe_bltn (v := .ty "tuple") (by rfl) (n_tuple T) (by decide +kernel) rfl) pa_nil))) (nomark _))))) (pss_one (ps_ret pe_bl)) pss_nil)
      (pss_cons (ps_if (pt_cmpR op_ne (pe_callB call_len_b (by rfl) (n_len T) PySem.boot_len (pa_cons (pv 0) pa_nil)) (pe_callB call_len_b (by rfl) (n_len T) PySem.boot_len (pa_cons (pv 1) pa_nil)) (nomark _)) (pss_one (ps_ret pe_bl)) pss_nil)
      (pss_cons (ps_for PassesOwn.never rfl (pi_range1 (by rfl) (n_range T) (pa_cons (pe_callB call_len_b (by rfl) (n_len T) PySem.boot_len (pa_cons (pv 1) pa_nil)) pa_nil)) (pg_name (i := 2) sc_law_same.nd rfl (Or.inl rfl)) (pss_one (ps_if (pt_not (pt_val (pe_f (ok_law_same 1 T) (hr.mono (by omega)) (by rfl) (pa_cons (pe_ix ix_seq (pv 0) (pv 2) (fun _ _ => rfl)) (pa_cons (pe_ix ix_seq (pv 1) (pv 2) (fun _ _ => rfl)) pa_nil))))) (pss_one (ps_ret pe_bl)) pss_nil)))
      (pss_one (ps_ret pe_bl))))) pss_nil)
      (pss_cons (ps_if (pt_cmpR op_isN (pv 1) pe_non (nomark _)) (pss_one (ps_ret (pe_cmpR op_isN (pv 0) pe_non (nomark _)))) pss_nil)
      (pss_cons (ps_if (pt_val (pe_callB call_isi (by rfl) (n_isinstance T) (by decide +kernel) (pa_cons (pv 1) (pa_cons (pe_bltn (v := .ty "bool") (by rfl) (n_bool T) (by decide +kernel) rfl) pa_nil)))) (pss_one (ps_ret (pe_and (pe_callB call_isi (by rfl) (n_isinstance T) (by decide +kernel) (pa_cons (pv 0) (pa_cons (pe_bltn (v := .ty "bool") (by rfl) (n_bool T) (by decide +kernel) rfl) pa_nil))) (pe_one (pe_cmpR op_eq (pv 0) (pv 1) (nomark _)))))) pss_nil)
      (pss_cons (ps_if (pt_val (pe_callB call_isi (by rfl) (n_isinstance T) (by decide +kernel) (pa_cons (pv 1) (pa_cons (pe_bltn (v := .ty "int") (by rfl) (n_int T) (by decide +kernel) rfl) pa_nil)))) (pss_one (ps_ret (pe_and (pe_f (ok_law_is_integer T) (hr.mono (by omega)) (by rfl) (pa_cons (pv 0) pa_nil)) (pe_one (pe_cmpR op_eq (pv 0) (pv 1) (nomark _)))))) pss_nil)
      (pss_one (ps_ret (pe_and (pe_callB call_isi (by rfl) (n_isinstance T) (by decide +kernel) (pa_cons (pv 0) (pa_cons (pe_bltn (v := .ty "str") (by rfl) (n_str T) (by decide +kernel) rfl) pa_nil))) (pe_one (pe_cmpR op_eq (pv 0) (pv 1) (nomark _)))))))))), ?_⟩
  walk_at "rx"
  refine ⟨le_line rfl, fun tp htp => ?_⟩
  have s1 := same_new (o := .tup [.ty "list", .ty "tuple"]) htp
  have et : upd H tp (.tup [.ty "list", .ty "tuple"]) tp = some (.tup [.ty "list", .ty "tuple"]) := upd_same
  have ha := s1 _ _ ha
  have hb := s1 _ _ hb
  generalize upd H tp (.tup [.ty "list", .ty "tuple"]) = H1 at s1 et ha hb
  refine r_nil ?_
  refine r_isT et (tx_lst hb) k_list_list k_list_tuple rfl ?_
  walk_at "rx"
  refine ite_t rfl ?_
  walk_at "rx"
  refine r_isi (tx_lst hb) k_list_list ?_
  walk_at "rx"
  refine r_isi (tx_lst ha) k_list_list ?_
  walk_at "rx"
  refine ite_f rfl ?_
  walk_at "rx"
  refine r_isi (tx_lst hb) k_list_tuple ?_
  walk_at "rx"
  refine r_isi (tx_lst ha) k_list_tuple ?_
  walk_at "rx"
  refine ite_f rfl ?_
  walk_at "rx"
  refine ⟨a, _, rfl, .inl (SqL.of ha), fun _ => ?_⟩
  walk_at "rx"
  refine ⟨b, _, rfl, .inl (SqL.of hb), fun _ => ?_⟩
  walk_at "rx"
  refine iteNI (fun n => absurd rfl n) (fun _ => ?_)
  walk_at "rx"
  refine r_ir ?_
  walk_at "rx"
  refine ⟨b, _, rfl, .inl (SqL.of hb), fun hsz => ?_⟩
  walk_at "rx"
  rw [List.length_map] at hsz ⊢
  have hln : (sizeLine : Nat) < 2 ^ 62 := by rw [sizeLine_eq]; decide
  refine ⟨_, rfl, by omega, by omega, ?_⟩
  rw [show ((bs.length : Nat) : Int).toNat = bs.length from rfl]
  refine for_any (xs := upto bs.length) (Wk.rng (I := fun _ => True)) (fun i σ H' => ∃ v2, σ = [some (.ref a), some (.ref b), v2] ∧ Same H1 H') (fun _ _ _ _ => trivial) ⟨none, rfl, Same.refl H1⟩ ?_ ?_
  · rintro i x σ H2 hx ⟨v2, rfl, s2⟩
    obtain ⟨i', hi', e⟩ := getElem_map_some hx
    have hin : i < bs.length := by
      have z := (List.getElem?_eq_some_iff.mp hx).1
      rw [upto_len] at z
      exact z
    have ei : i' = i := by
      rw [List.getElem?_range hin] at hi'
      exact (Option.some.inj hi').symm
    subst ei
    obtain rfl : x = .int (i' : Int) := e
    have hbi : (bs.map bV)[i']? = some (bV bs[i']) := by rw [List.getElem?_map, List.getElem?_eq_getElem hin]; rfl
    walk_at "rx"
    refine .inl ⟨a, _, i', _, rfl, rfl, SqL.of (s2 _ _ ha), atI_nat hbi, ?_⟩
    walk_at "rx"
    refine .inl ⟨b, _, i', _, rfl, rfl, SqL.of (s2 _ _ hb), atI_nat hbi, ?_⟩
    walk_at "rx"
    refine ⟨_, _, .int (bs[i'] : Nat), rfl, rfl, rfl, by rw [depD]; exact Nat.le_refl _, fun H3 s3 => ?_⟩
    refine ⟨true, rfl, ?_⟩
    refine ite_f rfl ?_
    walk_at "rx"
    exact ⟨_, rfl, s2.trans s3⟩
  · rintro σ H2 ⟨v2, rfl, s2⟩
    walk_at "rx"
    exact q H2 (s1.trans s2)
theorem FnOk.or0 {P : Program} {w : World} {K : PySem.W.Frag} {mg : Str → Option Value} {base : Heap} {CX : CXT} {k : Nat} {f : Addr} {fd : FuncData} {ps : List Str} {sp1 sp2 : Sp} (F : FnOk P w K mg base CX k f fd ps sp1) (G : FnOk P w K mg base CX k f fd ps sp2) :
    FnOk P w K mg base CX k f fd ps (fun vs H Q E => sp1 vs H Q E ∨ sp2 vs H Q E) :=
  ⟨fun vs H Q E h => h.elim (F.len vs H Q E) (G.len vs H Q E), fun A outer s H args us vs Q E hr he hb hv hs => hs.elim (F.run A outer s H args us vs Q E hr he hb hv) (G.run A outer s H args us vs Q E hr he hb hv)⟩
abbrev spSm : Sp := fun vs H Q E => spSame 120 vs H Q E ∨ spSameB vs H Q E
theorem ok_sm (T : Txt K mg) : Fc P w K mg base CX0 122 "_law_same" ["_law_actual", "_law_expected"] spSm := by
  have h1 : Fc P w K mg base CX0 4 "_law_same" ["_law_actual", "_law_expected"] spSameB := ok_law_same_b T
  exact ⟨FnOk.or0 (ok_law_same 120 T).ok (h1.ok.mono (by decide)), h1.gm, h1.kp, h1.b⟩
end
end Q

/-! ## G2 -/
set_option Elab.async false
set_option linter.all false
set_option maxRecDepth 100000
set_option maxHeartbeats 4000000
namespace Q
open PySem PySem.Spec PyProof.Rows L2
local macro_rules | `(tactic| walk_at "rd") => `(tactic| repeat (first
  | ((with_reducible apply r_var); focus exact rfl)
  | with_reducible refine r_c ?_
  | with_reducible refine r_chain ?_
  | ((with_reducible apply r_aug); focus exact rfl)
  | with_reducible refine r_ip ?_
  | with_reducible refine r_op ?_
  | with_reducible refine r_I0 ?_
  | with_reducible refine r_cons ?_
  | with_reducible refine r_nil ?_
  | with_reducible refine r_seq ?_
  | with_reducible refine r_asg ?_
  | with_reducible refine r_gn ?_
  | with_reducible refine r_gcons ?_
  | with_reducible refine r_gnil ?_
  | with_reducible refine r_lc ?_
  | with_reducible refine r_m1 ?_
  | with_reducible refine r_sfld ?_
  | with_reducible refine r_sfa ?_
  | with_reducible refine r_rAdd ?_
  | with_reducible refine r_ret ?_
  | with_reducible refine r_ifS ?_
  | with_reducible refine r_test ?_
  | with_reducible refine r_bl ?_
  | with_reducible refine r_B ?_
  | with_reducible refine r_drop ?_
  | with_reducible refine r_bm ?_
  | with_reducible refine r_CB ?_
  | with_reducible refine r_call ?_
  | with_reducible refine r_meth ?_
  | with_reducible refine r_make ?_
  | with_reducible refine r_tup ?_
  | with_reducible refine r_lst ?_
  | ((with_reducible refine r_I ?_ ?_); focus (first | decide | exact ⟨by decide, by decide⟩ | exact .inl ⟨by decide, by decide⟩ | exact .inr ⟨by decide, by decide⟩ | omega))
  | with_reducible refine r_U ?_
  | with_reducible refine r_un ?_
  | with_reducible refine r_and ?_
  | with_reducible refine r_or ?_
  | with_reducible refine r_not ?_
  | with_reducible refine r_andV ?_
  | with_reducible refine r_orV ?_
  | with_reducible refine r_notV ?_
  | with_reducible refine r_if ?_
  | with_reducible refine r_sl ?_
  | with_reducible refine r_part ?_
  | with_reducible refine r_parti ?_
  | with_reducible refine r_nopart ?_
  | with_reducible refine r_il ?_
  | with_reducible refine r_it ?_
  | with_reducible refine r_ir ?_
  | with_reducible refine r_is ?_
  | with_reducible refine r_next ?_
  | with_reducible refine r_retN ?_
  | ((with_reducible refine r_eq ?_ ?_); focus exact rfl)
  | ((with_reducible refine r_ne ?_ ?_); focus exact rfl)))
local macro_rules | `(tactic| walk_at "rx") => `(tactic| repeat (first
  | ((with_reducible apply r_var); focus exact rfl)
  | with_reducible refine r_c ?_
  | with_reducible refine r_chain ?_
  | ((with_reducible apply r_aug); focus exact rfl)
  | with_reducible refine r_ip ?_
  | with_reducible refine r_op ?_
  | with_reducible refine r_I0 ?_
  | with_reducible refine r_cons ?_
  | with_reducible refine r_nil ?_
  | with_reducible refine r_seq ?_
  | with_reducible refine r_asg ?_
  | with_reducible refine r_gn ?_
  | with_reducible refine r_gcons ?_
  | with_reducible refine r_gnil ?_
  | with_reducible refine r_m1 ?_
  | with_reducible refine r_sfld ?_
  | with_reducible refine r_sfa ?_
  | with_reducible refine r_rAdd ?_
  | with_reducible refine r_ret ?_
  | with_reducible refine r_ifS ?_
  | with_reducible refine r_test ?_
  | with_reducible refine r_bl ?_
  | with_reducible refine r_B ?_
  | with_reducible refine r_drop ?_
  | with_reducible refine r_bm ?_
  | with_reducible refine r_CB ?_
  | with_reducible refine r_call ?_
  | with_reducible refine r_make ?_
  | with_reducible refine r_tup ?_
  | with_reducible refine r_lst ?_
  | ((with_reducible refine r_I ?_ ?_); focus (first | decide | exact ⟨by decide, by decide⟩ | exact .inl ⟨by decide, by decide⟩ | exact .inr ⟨by decide, by decide⟩ | omega))
  | with_reducible refine r_U ?_
  | with_reducible refine r_un ?_
  | with_reducible refine r_and ?_
  | with_reducible refine r_or ?_
  | with_reducible refine r_not ?_
  | with_reducible refine r_andV ?_
  | with_reducible refine r_orV ?_
  | with_reducible refine r_notV ?_
  | with_reducible refine r_if ?_
  | with_reducible refine r_sl ?_
  | with_reducible refine r_part ?_
  | with_reducible refine r_parti ?_
  | with_reducible refine r_nopart ?_
  | with_reducible refine r_il ?_
  | with_reducible refine r_it ?_
  | with_reducible refine r_ir ?_
  | with_reducible refine r_is ?_
  | with_reducible refine r_next ?_
  | with_reducible refine r_retN ?_
  | ((with_reducible refine r_eq ?_ ?_); focus exact rfl)
  | ((with_reducible refine r_ne ?_ ?_); focus exact rfl)))
section
variable {P : Program} {w : World} {K : PySem.W.Frag} {mg : Str → Option Value} {base : Heap}
/-! ### draws -/
def spMix : Sp := fun vs H Q _ => ∃ a b : Int, vs = [.int a, .int b] ∧ ∀ r : Int, Q (.int r) H
theorem ok_law_mix  (T : Txt K mg) : Fc P w K mg base CX0 (1) "_law_mix" ["_law_cell_here", "_law_k"] (spMix) := by
  refine ⟨?_, gm_law_mix T, (fd_law_mix T.says).kp, (fd_law_mix T.says).bindsN fun _ _ _ _ _ _ us hl => match us, hl with | [_, _], _ => rfl⟩
  refine (fd_law_mix T.says).ok sc_law_mix (fun vs H Q E h => by first | (obtain ⟨_, rfl, _⟩ := h; rfl) | (obtain ⟨_, _, rfl, _⟩ := h; rfl) | (obtain ⟨_, _, _, rfl, _⟩ := h; rfl) | (obtain ⟨_, _, _, _, rfl, _⟩ := h; rfl) | (obtain ⟨_, _, _, _, _, rfl, _⟩ := h; rfl) | (obtain ⟨_, _, _, _, _, _, rfl, _⟩ := h; rfl) | (obtain ⟨_, _, _, _, _, _, _, rfl, _⟩ := h; rfl) | (obtain ⟨_, _, _, _, _, _, _, _, rfl, _⟩ := h; rfl) | (obtain ⟨_, _, _, _, _, _, _, _, _, rfl, _⟩ := h; rfl)) (fun cdv A outer s H vs Q E hr h => ?_)
  obtain ⟨a, b, rfl, q⟩ := h
  refine ⟨_, PSs.nox (pss_cons (ps_set (i := 2) sc_law_mix.nd rfl (Or.inl rfl) (pe_op op_mod (pe_callTy call_int1 (by rfl) (n_int T) (by decide +kernel) (pa_cons (pe_op op_add (pe_op op_add (pe_op op_mul (pe_callTy call_int1 (by rfl) (n_int T) (by decide +kernel) (pa_cons (pv 0) pa_nil)) pe_int) (pe_op op_mul (pv 1) pe_int)) pe_int) pa_nil)) pe_int))
      (pss_cons (ps_set (i := 2) sc_law_mix.nd rfl (Or.inl rfl) (pe_op op_mod (pe_callTy call_int1 (by rfl) (n_int T) (by decide +kernel) (pa_cons (pe_op op_add (pe_op op_add (pe_op op_mul (pv 2) (pv 2)) (pe_op op_mul (pv 1) pe_int)) pe_int) pa_nil)) pe_int))
      (pss_one (ps_ret (pe_op op_mod (pe_op op_fdiv (pv 2) pe_int) pe_int))))), ?_⟩
  walk_at "rx"
  refine .inl ⟨_, rfl, ?_⟩
  walk_at "rx"
  refine .inl ⟨_, rfl, ?_⟩
  walk_at "rx"
  refine r_I (.inl ⟨by omega, by omega⟩) ?_
  walk_at "rx"
  refine .inl ⟨_, rfl, ?_⟩
  walk_at "rx"
  exact q _
def spDraws (K : PySem.W.Frag) : Sp := fun vs H Q _ => ∃ a, ∃ ns : List Int, vs = [.ref a] ∧ SqL K H a (ns.map V.int) ∧ ∀ D0 (zs : List Int) H', Same H H' → H D0 = none → H' D0 = some (.lst (zs.map V.int)) → zs.length ≤ 4000 → Q (.ref D0) H'
theorem r_for_any {wi : TI} {g : TG} {tb : L2.TS} {Dn : Ends} {σ : L2.St} {H : Hp} (h : tFor wi g tb Dn σ H) : tFor wi g tb Dn σ H := h
theorem ok_law_draws  (T : Txt K mg) : Fc P w K mg base CX0 (2) "_law_draws" ["_law_script"] (spDraws K) := by
  refine ⟨?_, gm_law_draws T, (fd_law_draws T.says).kp, (fd_law_draws T.says).bindsN fun _ _ _ _ _ _ us hl => match us, hl with | [_], _ => rfl⟩
  refine (fd_law_draws T.says).ok sc_law_draws (fun vs H Q E h => by first | (obtain ⟨_, rfl, _⟩ := h; rfl) | (obtain ⟨_, _, rfl, _⟩ := h; rfl) | (obtain ⟨_, _, _, rfl, _⟩ := h; rfl) | (obtain ⟨_, _, _, _, rfl, _⟩ := h; rfl) | (obtain ⟨_, _, _, _, _, rfl, _⟩ := h; rfl) | (obtain ⟨_, _, _, _, _, _, rfl, _⟩ := h; rfl) | (obtain ⟨_, _, _, _, _, _, _, rfl, _⟩ := h; rfl) | (obtain ⟨_, _, _, _, _, _, _, _, rfl, _⟩ := h; rfl) | (obtain ⟨_, _, _, _, _, _, _, _, _, rfl, _⟩ := h; rfl)) (fun cdv A outer s H vs Q E hr h => ?_)
  obtain ⟨a, ns, rfl, hS, q⟩ := h
  refine ⟨_, PSs.nox (pss_cons (ps_set (i := 1) sc_law_draws.nd rfl (Or.inl rfl) (pe_lst pa_nil))
      (pss_cons (ps_for PassesOwn.never rfl (pi_range1 (by rfl) (n_range T) (pa_cons (pe_callB (call_min2 rfl) (by rfl) (n_min T) (by decide +kernel) (pa_cons pe_int (pa_cons (pe_callB call_len_seq (by rfl) (n_len T) PySem.boot_len (pa_cons (pv 0) pa_nil)) pa_nil))) pa_nil)) (pg_name (i := 2) sc_law_draws.nd rfl (Or.inl rfl)) (pss_cons (ps_set (i := 3) sc_law_draws.nd rfl (Or.inl rfl) (pe_callTy call_int1 (by rfl) (n_int T) (by decide +kernel) (pa_cons (pe_ix ix_list (pv 0) (pv 2) (fun _ _ => rfl)) pa_nil)))
      (pss_one (ps_if (pt_cmpR op_lt (pv 3) (pe_op op_pow pe_int pe_int) (nomark _)) (pss_one (ps_expr (pe_bm PySem.F.plainAttrs_list PySem.F.slot_list_append PySem.F.type_list_append mt_append (pv 1) (pa_cons (pe_f (ok_law_mix T) (hr.mono (by omega)) (by rfl) (pa_cons (pv 3) (pa_cons (pv 2) pa_nil))) pa_nil)))) (pss_one (ps_for PassesOwn.never rfl (pi_range1 (by rfl) (n_range T) (pa_cons pe_int pa_nil)) (pg_name (i := 4) sc_law_draws.nd rfl (Or.inl rfl)) (pss_one (ps_if (pt_cmpR op_gt (pv 3) pe_int (nomark _)) (pss_cons (ps_expr (pe_bm PySem.F.plainAttrs_list PySem.F.slot_list_append PySem.F.type_list_append mt_append (pv 1) (pa_cons (pe_op op_mod (pe_callTy call_int1 (by rfl) (n_int T) (by decide +kernel) (pa_cons (pv 3) pa_nil)) pe_int) pa_nil)))
      (pss_one (ps_set (i := 3) sc_law_draws.nd rfl (Or.inl rfl) (pe_op op_fdiv (pv 3) pe_int)))) pss_nil))))))))
      (pss_one (ps_ret (pv 1))))), ?_⟩
  walk_at "rx"
  refine ⟨Nat.zero_le _, fun D0 hD => ?_⟩
  walk_at "rx"
  have s1 := same_new (o := .lst []) hD
  refine r_ir ?_
  walk_at "rx"
  refine ⟨a, _, rfl, .inl (s1.seq hS), ?_⟩
  walk_at "rx"
  refine ⟨63, _, rfl, ?_⟩
  walk_at "rx"
  obtain ⟨m, em, hm1, hm2⟩ : ∃ m : Nat, (if ((ns.map V.int).length : Int) < 63 then ((ns.map V.int).length : Int) else 63) = (m : Int) ∧ m ≤ 63 ∧ m ≤ ns.length := by
    rw [List.length_map]
    by_cases c : (ns.length : Int) < 63
    · exact ⟨ns.length, if_pos c, by omega, Nat.le_refl _⟩
    · exact ⟨63, if_neg c, Nat.le_refl _, by omega⟩
  rw [em]
  refine ⟨_, rfl, by omega, by omega, ?_⟩
  rw [show ((m : Nat) : Int).toNat = m from rfl]
  refine for_any (xs := upto m) (Wk.rng (I := fun _ => True)) (fun i σ H' => ∃ v2 v3 v4, ∃ zs : List Int, σ = [some (.ref a), some (.ref D0), v2, v3, v4] ∧ Same H H' ∧ H' D0 = some (.lst (zs.map V.int)) ∧ zs.length ≤ 60 * i) (fun _ _ _ _ => trivial) ⟨none, none, none, [], rfl, s1, upd_same, Nat.zero_le _⟩ ?_ ?_
  · rintro i x σ H2 hx ⟨v2, v3, v4, zs, rfl, s2, eD, hz⟩
    obtain ⟨i', hi', e⟩ := getElem_map_some hx
    have hin : i < m := by
      have z := (List.getElem?_eq_some_iff.mp hx).1
      rw [upto_len] at z
      exact z
    have ei : i' = i := by
      rw [List.getElem?_range hin] at hi'
      exact (Option.some.inj hi').symm
    subst ei
    obtain rfl : x = .int (i' : Int) := e
    have hns : (ns.map V.int)[i']? = some (.int ns[i']) := by rw [List.getElem?_map, List.getElem?_eq_getElem (by omega)]; rfl
    walk_at "rx"
    refine ⟨a, _, i', _, rfl, rfl, s2.seq hS, atI_nat hns, ?_⟩
    refine r_nil ?_
    refine .inl ⟨_, rfl, ?_⟩
    walk_at "rx"
    refine iteD (fun c => ?_) (fun c => ?_)
    · walk_at "rx"
      refine ⟨ty_l eD, ?_⟩
      walk_at "rx"
      refine ⟨_, _, rfl, fun r => ?_⟩
      refine ⟨D0, _, .int r, rfl, rfl, eD, by rw [List.length_map]; exact Nat.lt_of_le_of_lt (show zs.length ≤ 3780 by omega) (by decide), ?_⟩
      walk_at "rx"
      refine ⟨_, _, _, zs ++ [r], rfl, same_mut s2 hD, by rw [upd_same]; simp, by rw [List.length_append]; show _ + 1 ≤ _; omega⟩
    · walk_at "rx"
      refine ⟨60, rfl, by decide, by decide, ?_⟩
      refine for_any (xs := upto 60) (Wk.rng (I := fun _ => True)) (fun j σ H' => ∃ v4, ∃ c : Int, ∃ zs : List Int, σ = [some (.ref a), some (.ref D0), some (.int (i' : Int)), some (.int c), v4] ∧ Same H H' ∧ H' D0 = some (.lst (zs.map V.int)) ∧ zs.length ≤ 60 * i' + j) (fun _ _ _ _ => trivial) ⟨v4, ns[i'], zs, rfl, s2, eD, hz⟩ ?_ ?_
      · rintro j y σ H3 hy ⟨v4', cc, zs', rfl, s3, eD3, hz3⟩
        have hjn : j < 60 := by
          have z := (List.getElem?_eq_some_iff.mp hy).1
          rw [upto_len] at z
          exact z
        walk_at "rx"
        refine iteD (fun cpos => ?_) (fun cneg => ?_)
        · walk_at "rx"
          refine ⟨ty_l eD3, ?_⟩
          walk_at "rx"
          refine .inl ⟨_, rfl, ?_⟩
          walk_at "rx"
          refine ⟨D0, _, _, rfl, rfl, eD3, by rw [List.length_map]; exact Nat.lt_of_le_of_lt (show zs'.length ≤ 3840 by omega) (by decide), ?_⟩
          walk_at "rx"
          refine ⟨_, _, zs' ++ [cc % 9973], rfl, same_mut s3 hD, by rw [upd_same]; simp, by rw [List.length_append]; show _ + 1 ≤ _; omega⟩
        · walk_at "rx"
          exact ⟨_, _, zs', rfl, s3, eD3, by omega⟩
      · rintro σ H3 ⟨v4', cc, zs', rfl, s3, eD3, hz3⟩
        rw [upto_len] at hz3
        exact ⟨_, _, _, zs', rfl, s3, eD3, by omega⟩
  · rintro σ H2 ⟨v2, v3, v4, zs, rfl, s2, eD, hz⟩
    rw [upto_len] at hz
    walk_at "rx"
    exact q D0 zs H2 s2 hD eD (by omega)
def spAt : Sp := fun vs H Q _ => ∃ d, ∃ zs : List Int, ∃ j : Nat, vs = [.ref d, .int j] ∧ H d = some (.lst (zs.map V.int)) ∧ ∀ r : Int, Q (.int r) H
theorem ok_law_at  (T : Txt K mg) : Fc P w K mg base CX0 (2) "_law_at" ["_law_draws_here", "_law_index"] (spAt) := by
  refine ⟨?_, gm_law_at T, (fd_law_at T.says).kp, (fd_law_at T.says).bindsN fun _ _ _ _ _ _ us hl => match us, hl with | [_, _], _ => rfl⟩
  refine (fd_law_at T.says).ok sc_law_at (fun vs H Q E h => by first | (obtain ⟨_, rfl, _⟩ := h; rfl) | (obtain ⟨_, _, rfl, _⟩ := h; rfl) | (obtain ⟨_, _, _, rfl, _⟩ := h; rfl) | (obtain ⟨_, _, _, _, rfl, _⟩ := h; rfl) | (obtain ⟨_, _, _, _, _, rfl, _⟩ := h; rfl) | (obtain ⟨_, _, _, _, _, _, rfl, _⟩ := h; rfl) | (obtain ⟨_, _, _, _, _, _, _, rfl, _⟩ := h; rfl) | (obtain ⟨_, _, _, _, _, _, _, _, rfl, _⟩ := h; rfl) | (obtain ⟨_, _, _, _, _, _, _, _, _, rfl, _⟩ := h; rfl)) (fun cdv A outer s H vs Q E hr h => ?_)
  obtain ⟨d, zs, j, rfl, hd, q⟩ := h
  refine ⟨_, PSs.nox (pss_cons (ps_if (pt_cmpR op_lt (pv 1) (pe_callB call_len_b (by rfl) (n_len T) PySem.boot_len (pa_cons (pv 0) pa_nil)) (nomark _)) (pss_one (ps_ret (pe_ix ix_list (pv 0) (pv 1) (fun _ _ => rfl)))) pss_nil)
      (pss_cons (ps_if (pt_cmpR op_eq (pe_callB call_len_b (by rfl) (n_len T) PySem.boot_len (pa_cons (pv 0) pa_nil)) pe_int (nomark _)) (pss_one (ps_ret (pe_f (ok_law_mix T) (hr.mono (by omega)) (by rfl) (pa_cons (pv 1) (pa_cons pe_int pa_nil))))) pss_nil)
      (pss_one (ps_ret (pe_f (ok_law_mix T) (hr.mono (by omega)) (by rfl) (pa_cons (pe_op op_add (pe_ix ix_list (pv 0) (pe_op op_mod (pe_callTy call_int1 (by rfl) (n_int T) (by decide +kernel) (pa_cons (pv 1) pa_nil)) (pe_callB call_len_b (by rfl) (n_len T) PySem.boot_len (pa_cons (pv 0) pa_nil))) (fun _ _ => rfl)) (pe_op op_mul (pv 1) pe_int)) (pa_cons (pv 1) pa_nil))))))), ?_⟩
  walk_at "rx"
  refine ⟨d, _, rfl, .inl (SqL.of hd), fun hb => ?_⟩
  walk_at "rx"
  rw [List.length_map] at hb ⊢
  refine iteD (fun c => ?_) (fun c => ?_)
  · walk_at "rx"
    have hj : j < zs.length := by omega
    refine r_ixL hd (atI_nat (j := j) (v := .int zs[j]) (by rw [List.getElem?_map, List.getElem?_eq_getElem hj]; rfl)) ?_
    exact q _
  · walk_at "rx"
    refine ⟨d, _, rfl, .inl (SqL.of hd), fun hb => ?_⟩
    walk_at "rx"
    rw [List.length_map]
    refine iteI (fun e => ?_) (fun e => ?_)
    · walk_at "rx"
      exact ⟨_, _, rfl, q⟩
    · walk_at "rx"
      refine .inl ⟨_, rfl, ?_⟩
      walk_at "rx"
      refine ⟨d, _, rfl, .inl (SqL.of hd), fun hb => ?_⟩
      walk_at "rx"
      rw [List.length_map]
      refine r_I (show (0 : Int) < _ by omega) ?_
      have hm : j % zs.length < zs.length := Nat.mod_lt _ (by omega)
      have em : ((j : Int) % (zs.length : Int)) = ((j % zs.length : Nat) : Int) := by omega
      rw [em]
      refine r_ixL hd (atI_nat (j := j % zs.length) (v := .int zs[j % zs.length]) (by rw [List.getElem?_map, List.getElem?_eq_getElem hm]; rfl)) ?_
      walk_at "rx"
      exact ⟨_, _, rfl, q⟩
/-- the state of the law: its draws and how many are drawn -/
def StAt (H : Hp) (st dr : Addr) : Prop := ∃ (n : Nat) (zs : List Int), H st = some (.lst [.ref dr, .int n]) ∧ H dr = some (.lst (zs.map V.int))
def spNext : Sp := fun vs H Q _ => ∃ st dr, ∃ lim : Int, vs = [.ref st, .int lim] ∧ 0 < lim ∧ StAt H st dr ∧ ∀ (k : Nat) H', (k : Int) < lim → Lx st H H' → StAt H' st dr → Q (.int (k : Nat)) H'
theorem ok_law_next  (T : Txt K mg) : Fc P w K mg base CX0 (3) "_law_next" ["_law_state", "_law_limit"] (spNext) := by
  refine ⟨?_, gm_law_next T, (fd_law_next T.says).kp, (fd_law_next T.says).bindsN fun _ _ _ _ _ _ us hl => match us, hl with | [_, _], _ => rfl⟩
  refine (fd_law_next T.says).ok sc_law_next (fun vs H Q E h => by first | (obtain ⟨_, rfl, _⟩ := h; rfl) | (obtain ⟨_, _, rfl, _⟩ := h; rfl) | (obtain ⟨_, _, _, rfl, _⟩ := h; rfl) | (obtain ⟨_, _, _, _, rfl, _⟩ := h; rfl) | (obtain ⟨_, _, _, _, _, rfl, _⟩ := h; rfl) | (obtain ⟨_, _, _, _, _, _, rfl, _⟩ := h; rfl) | (obtain ⟨_, _, _, _, _, _, _, rfl, _⟩ := h; rfl) | (obtain ⟨_, _, _, _, _, _, _, _, rfl, _⟩ := h; rfl) | (obtain ⟨_, _, _, _, _, _, _, _, _, rfl, _⟩ := h; rfl)) (fun cdv A outer s H vs Q E hr h => ?_)
  obtain ⟨st, dr, lim, rfl, hlim, ⟨n, zs, e1, e2⟩, q⟩ := h
  refine ⟨_, PSs.nox (pss_cons (ps_augS (pv 0) pe_int get_list pe_int ip_add set_list)
      (pss_one (ps_ret (pe_op op_mod (pe_f (ok_law_at T) (hr.mono (by omega)) (by rfl) (pa_cons (pe_ix ix_list (pv 0) pe_int (fun _ _ => rfl)) (pa_cons (pe_ix ix_list (pv 0) pe_int (fun _ _ => rfl)) pa_nil))) (pv 1))))), ?_⟩
  walk_at "rx"
  refine r_augS (to := tVar 0) (ti := tC (.int 1)) ?_
  walk_at "rx"
  refine ⟨st, _, 1, _, rfl, rfl, SqL.of e1, rfl, ?_⟩
  walk_at "rx"
  refine ⟨st, _, 1, 1, rfl, rfl, e1, rfl, ?_⟩
  have hne : dr ≠ st := ne_of e2 e1 (fun z => by
    injection z with z
    cases zs with
    | nil => cases z
    | cons a r => injection z with z; cases z)
  have e1' : upd H st (.lst ([V.ref dr, V.int (n : Int)].set 1 (.int ((n : Int) + 1)))) st = some (.lst [.ref dr, .int ((n + 1 : Nat) : Int)]) := upd_same
  have e2' : upd H st (.lst ([V.ref dr, V.int (n : Int)].set 1 (.int ((n : Int) + 1)))) dr = some (.lst (zs.map V.int)) := by rw [upd_ne hne]; exact e2
  have l1 : Lx st H (upd H st (.lst ([V.ref dr, V.int (n : Int)].set 1 (.int ((n : Int) + 1))))) := ⟨(Sx.refl st H).self, fun _ => ⟨_, upd_same⟩⟩
  generalize upd H st (.lst ([V.ref dr, V.int (n : Int)].set 1 (.int ((n : Int) + 1)))) = H1 at e1' e2' l1
  walk_at "rx"
  refine r_ixL (v := .ref dr) e1' (atI_nat (j := 0) rfl) ?_
  walk_at "rx"
  refine r_ixL (v := .int ((n + 1 : Nat) : Int)) e1' (atI_nat (j := 1) rfl) ?_
  walk_at "rx"
  refine ⟨dr, zs, n + 1, rfl, e2', fun r => ?_⟩
  walk_at "rx"
  have h0 := Int.emod_nonneg r (show lim ≠ 0 by omega)
  have h1 := Int.emod_lt_of_pos r hlim
  have ek : r % lim = ((r % lim).toNat : Int) := by omega
  rw [ek]
  exact q _ H1 (by omega) l1 ⟨n + 1, zs, e1', e2'⟩
end
end Q

/-! ## G3 -/
set_option Elab.async false
set_option linter.all false
set_option maxRecDepth 100000
set_option maxHeartbeats 4000000
namespace Q
open PySem PySem.Spec PyProof.Rows L2
local macro_rules | `(tactic| walk_at "rd") => `(tactic| repeat (first
  | ((with_reducible apply r_var); focus exact rfl)
  | with_reducible refine r_c ?_
  | with_reducible refine r_chain ?_
  | ((with_reducible apply r_aug); focus exact rfl)
  | with_reducible refine r_ip ?_
  | with_reducible refine r_op ?_
  | with_reducible refine r_I0 ?_
  | with_reducible refine r_cons ?_
  | with_reducible refine r_nil ?_
  | with_reducible refine r_seq ?_
  | with_reducible refine r_asg ?_
  | with_reducible refine r_gn ?_
  | with_reducible refine r_gcons ?_
  | with_reducible refine r_gnil ?_
  | with_reducible refine r_lc ?_
  | with_reducible refine r_m1 ?_
  | with_reducible refine r_sfld ?_
  | with_reducible refine r_sfa ?_
  | with_reducible refine r_rAdd ?_
  | with_reducible refine r_ret ?_
  | with_reducible refine r_ifS ?_
  | with_reducible refine r_test ?_
  | with_reducible refine r_bl ?_
  | with_reducible refine r_B ?_
  | with_reducible refine r_drop ?_
  | with_reducible refine r_bm ?_
  | with_reducible refine r_CB ?_
  | with_reducible refine r_call ?_
  | with_reducible refine r_meth ?_
  | with_reducible refine r_make ?_
  | with_reducible refine r_tup ?_
  | with_reducible refine r_lst ?_
  | ((with_reducible refine r_I ?_ ?_); focus (first | decide | exact ⟨by decide, by decide⟩ | exact .inl ⟨by decide, by decide⟩ | exact .inr ⟨by decide, by decide⟩ | omega))
  | with_reducible refine r_U ?_
  | with_reducible refine r_un ?_
  | with_reducible refine r_and ?_
  | with_reducible refine r_or ?_
  | with_reducible refine r_not ?_
  | with_reducible refine r_andV ?_
  | with_reducible refine r_orV ?_
  | with_reducible refine r_notV ?_
  | with_reducible refine r_if ?_
  | with_reducible refine r_sl ?_
  | with_reducible refine r_part ?_
  | with_reducible refine r_parti ?_
  | with_reducible refine r_nopart ?_
  | with_reducible refine r_il ?_
  | with_reducible refine r_it ?_
  | with_reducible refine r_ir ?_
  | with_reducible refine r_is ?_
  | with_reducible refine r_next ?_
  | with_reducible refine r_retN ?_
  | ((with_reducible refine r_eq ?_ ?_); focus exact rfl)
  | ((with_reducible refine r_ne ?_ ?_); focus exact rfl)))
local macro_rules | `(tactic| walk_at "rx") => `(tactic| repeat (first
  | ((with_reducible apply r_var); focus exact rfl)
  | with_reducible refine r_c ?_
  | with_reducible refine r_chain ?_
  | ((with_reducible apply r_aug); focus exact rfl)
  | with_reducible refine r_ip ?_
  | with_reducible refine r_op ?_
  | with_reducible refine r_I0 ?_
  | with_reducible refine r_cons ?_
  | with_reducible refine r_nil ?_
  | with_reducible refine r_seq ?_
  | with_reducible refine r_asg ?_
  | with_reducible refine r_gn ?_
  | with_reducible refine r_gcons ?_
  | with_reducible refine r_gnil ?_
  | with_reducible refine r_m1 ?_
  | with_reducible refine r_sfld ?_
  | with_reducible refine r_sfa ?_
  | with_reducible refine r_rAdd ?_
  | with_reducible refine r_ret ?_
  | with_reducible refine r_ifS ?_
  | with_reducible refine r_test ?_
  | with_reducible refine r_bl ?_
  | with_reducible refine r_B ?_
  | with_reducible refine r_drop ?_
  | with_reducible refine r_bm ?_
  | with_reducible refine r_CB ?_
  | with_reducible refine r_call ?_
  | with_reducible refine r_make ?_
  | with_reducible refine r_tup ?_
  | with_reducible refine r_lst ?_
  | ((with_reducible refine r_I ?_ ?_); focus (first | decide | exact ⟨by decide, by decide⟩ | exact .inl ⟨by decide, by decide⟩ | exact .inr ⟨by decide, by decide⟩ | omega))
  | with_reducible refine r_U ?_
  | with_reducible refine r_un ?_
  | with_reducible refine r_and ?_
  | with_reducible refine r_or ?_
  | with_reducible refine r_not ?_
  | with_reducible refine r_andV ?_
  | with_reducible refine r_orV ?_
  | with_reducible refine r_notV ?_
  | with_reducible refine r_if ?_
  | with_reducible refine r_sl ?_
  | with_reducible refine r_part ?_
  | with_reducible refine r_parti ?_
  | with_reducible refine r_nopart ?_
  | with_reducible refine r_il ?_
  | with_reducible refine r_it ?_
  | with_reducible refine r_ir ?_
  | with_reducible refine r_is ?_
  | with_reducible refine r_next ?_
  | with_reducible refine r_retN ?_
  | ((with_reducible refine r_eq ?_ ?_); focus exact rfl)
  | ((with_reducible refine r_ne ?_ ?_); focus exact rfl)))
section
variable {P : Program} {w : World} {K : PySem.W.Frag} {mg : Str → Option Value} {base : Heap}
/-! ### words, texts, numbers -/
def spGn {α : Type} (d : α → D) (Pd : α → Prop) : Sp := fun vs H Q _ => ∃ st dr, vs = [.ref st] ∧ StAt H st dr ∧ ∀ (x : α) v H', Pd x → Lx st H H' → StAt H' st dr → Rp H' (d x) v → Q v H'
theorem StAt.new {H : Hp} {st dr p : Addr} {o : HO} (h : StAt H st dr) (n : H p = none) : StAt (upd H p o) st dr := by
  obtain ⟨k, zs, e1, e2⟩ := h
  exact ⟨k, zs, by rw [upd_ne (ne_of_none e1 n)]; exact e1, by rw [upd_ne (ne_of_none e2 n)]; exact e2⟩
theorem StAt.same {H H' : Hp} {st dr : Addr} (h : StAt H st dr) (s : Same H H') : StAt H' st dr := by
  obtain ⟨k, zs, e1, e2⟩ := h
  exact ⟨k, zs, s _ _ e1, s _ _ e2⟩
theorem StAt.ne {H : Hp} {st dr p : Addr} (h : StAt H st dr) (n : H p = none) : p ≠ st := by
  obtain ⟨k, zs, e1, e2⟩ := h
  exact (ne_of_none e1 n).symm
theorem Lx.new {H H' : Hp} {st dr p : Addr} {o : HO} (l : Lx st H H') (h : StAt H st dr) (n : H' p = none) : Lx st H (upd H' p o) := l.trans (Lx.of (same_new n))
theorem StAt.tst {H H' : Hp} {st dr : Addr} (h : StAt H st dr) (l : Lx st H H') : Tst H H' := by
  obtain ⟨k, zs, e1, e2⟩ := h
  exact l.1.tsL e1
theorem StAt.frm {H : Hp} {st dr : Addr} (h : StAt H st dr) : FrmOk (Lx st) H := by
  obtain ⟨k, zs, e1, e2⟩ := h
  exact FrmOk.lx e1
theorem lit_ix {α : Type} {f : α → V} {l : List α} {k : Nat} (h : k < l.length) : ∃ x ∈ l, atI (l.map f) (k : Int) = some (f x) :=
  ⟨l[k], List.getElem_mem h, atI_nat (by rw [List.getElem?_map, List.getElem?_eq_getElem h]; rfl)⟩
theorem r_lit {α : Type} {f : α → V} {l : List α} {k : Nat} {p : Addr} {H : Hp} {Qv : VK} (hp : H p = some (.lst (l.map f))) (h : k < l.length) (q : ∀ x ∈ l, Qv (f x) H) : rIxL K (.ref p) (.int (k : Int)) H Qv := by
  obtain ⟨x, hx, e⟩ := lit_ix (f := f) h
  exact r_ixL hp e (q x hx)
theorem wStr_len {z : Str} (h : okS z) : (wStr z).length = (wNum z.cps.toList.length).length + z.cps.toList.length := by
  rw [wStr, wL, List.length_append]
  congr 1
  have h' : ∀ c ∈ z.cps.toList, okCh c := h
  generalize z.cps.toList = l at h'
  induction l with
  | nil => rfl
  | cons c r ih =>
    rw [List.map_cons, List.flatten_cons, List.length_append, ih fun x hx => h' x (List.mem_cons_of_mem _ hx), wNum_ch (h' c List.mem_cons_self)]
    simp only [List.length_cons, List.length_nil]
    omega
def okW (n : Nat) (z : Str) : Prop := okS z ∧ z.cps.toList.length ≤ n
theorem okW.len {n : Nat} {z : Str} (h : okW n z) (hn : n < 16384) : (wStr z).length ≤ n + 2 := by
  rw [wStr_len h.1]
  have h2 : z.cps.toList.length ≤ n := h.2
  have := wNum_le 1 z.cps.toList.length (by show _ < 16384; omega)
  omega
def words8 : List Str := ["a", "b2", "Leaf", "Node_2", repS "x" 130, "", "it's [1]", "d"]
instance (z : Str) : Decidable (okS z) := inferInstanceAs (Decidable (∀ c ∈ z.cps.toList, okCh c))
theorem words8_ok : ∀ z ∈ words8, okS z ∧ z.cps.toList.length ≤ 130 := by decide +kernel
theorem ok_law_word  (T : Txt K mg) : Fc P w K mg base CX0 (4) "_law_word" ["_law_state"] (spGn dStr (okW 130)) := by
  refine ⟨?_, gm_law_word T, (fd_law_word T.says).kp, (fd_law_word T.says).bindsN fun _ _ _ _ _ _ us hl => match us, hl with | [_], _ => rfl⟩
  refine (fd_law_word T.says).ok sc_law_word (fun vs H Q E h => by first | (obtain ⟨_, rfl, _⟩ := h; rfl) | (obtain ⟨_, _, rfl, _⟩ := h; rfl) | (obtain ⟨_, _, _, rfl, _⟩ := h; rfl) | (obtain ⟨_, _, _, _, rfl, _⟩ := h; rfl) | (obtain ⟨_, _, _, _, _, rfl, _⟩ := h; rfl) | (obtain ⟨_, _, _, _, _, _, rfl, _⟩ := h; rfl) | (obtain ⟨_, _, _, _, _, _, _, rfl, _⟩ := h; rfl) | (obtain ⟨_, _, _, _, _, _, _, _, rfl, _⟩ := h; rfl) | (obtain ⟨_, _, _, _, _, _, _, _, _, rfl, _⟩ := h; rfl)) (fun cdv A outer s H vs Q E hr h => ?_)
  obtain ⟨st, dr, rfl, hS, q⟩ := h
  refine ⟨_, PSs.nox (pss_cons (ps_set (i := 1) sc_law_word.nd rfl (Or.inl rfl) (pe_lst (pa_cons pe_str (pa_cons pe_str (pa_cons pe_str (pa_cons pe_str (pa_cons (pe_op op_mulstr pe_str pe_int) (pa_cons pe_str (pa_cons pe_str (pa_cons pe_str pa_nil))))))))))
      (pss_one (ps_ret (pe_ix ix_list (pv 1) (pe_f (ok_law_next T) (hr.mono (by omega)) (by rfl) (pa_cons (pv 0) (pa_cons pe_int pa_nil))) (fun _ _ => rfl))))), ?_⟩
  walk_at "rx"
  refine ⟨"x", 130, rfl, rfl, by decide, by decide, by decide, by decide, ?_⟩
  walk_at "rx"
  refine ⟨le_line rfl, fun p hp => ?_⟩
  have e1 : upd H p (.lst [.str "a", .str "b2", .str "Leaf", .str "Node_2", .str (repS "x" 130), .str "", .str "it's [1]", .str "d"]) p = some (.lst (words8.map V.str)) := upd_same
  have S1 := hS.new (o := .lst [.str "a", .str "b2", .str "Leaf", .str "Node_2", .str (repS "x" 130), .str "", .str "it's [1]", .str "d"]) hp
  have l1 : Lx st H (upd H p (.lst [.str "a", .str "b2", .str "Leaf", .str "Node_2", .str (repS "x" 130), .str "", .str "it's [1]", .str "d"])) := Lx.of (same_new hp)
  generalize upd H p (.lst [.str "a", .str "b2", .str "Leaf", .str "Node_2", .str (repS "x" 130), .str "", .str "it's [1]", .str "d"]) = H1 at e1 S1 l1
  walk_at "rx"
  refine ⟨st, dr, 8, rfl, by decide, S1, fun k H2 hk l2 S2 => ?_⟩
  refine r_lit (l2.1 _ _ (hS.ne hp) e1) (show k < 8 by omega) fun x hx => ?_
  exact q x _ H2 (words8_ok x hx) (l1.trans l2) S2 rfl
def chars95 : Str := " !\"#$&'()*+,-./0123456789:;<=>?@ABCDEFGHIJKLMNOPQRSTUVWXYZ[\\]^_`abcdefghijklmnopqrstuvwxyz{|}~\n"
theorem chars95_ok : chars95.cps.toList.length = 95 ∧ ∀ c ∈ chars95.cps.toList, okCh c := by decide +kernel
theorem RpL.chs {H : Hp} : ∀ {ds : List D} {ys : List V}, RpL H ds ys → (∀ d ∈ ds, ∃ c, okCh c ∧ d = dCh c) → ∃ cs : List Nat, ys = cs.map (fun c => V.str ⟨#[c]⟩) ∧ (∀ c ∈ cs, okCh c) ∧ cs.length = ds.length
  | [], ys, h, _ => ⟨[], h, by simp, rfl⟩
  | d :: ds, ys, h, hd => by
    obtain ⟨y, r, rfl, hy, hr⟩ := h
    obtain ⟨c, hc, rfl⟩ := hd d List.mem_cons_self
    obtain rfl : y = .str ⟨#[c]⟩ := hy
    obtain ⟨cs, e, h2, h3⟩ := RpL.chs hr fun x hx => hd x (List.mem_cons_of_mem _ hx)
    refine ⟨c :: cs, by rw [e]; rfl, fun x hx => ?_, by rw [List.length_cons, h3, List.length_cons]⟩
    rcases List.mem_cons.mp hx with e | hx
    · rw [e]
      exact hc
    · exact h2 x hx
theorem ok_law_text_of  (T : Txt K mg) : Fc P w K mg base CX0 (4) "_law_text_of" ["_law_state"] (spGn dStr (okW 330)) := by
  refine ⟨?_, gm_law_text_of T, (fd_law_text_of T.says).kp, (fd_law_text_of T.says).bindsN fun _ _ _ _ _ _ us hl => match us, hl with | [_], _ => rfl⟩
  refine (fd_law_text_of T.says).ok sc_law_text_of (fun vs H Q E h => by first | (obtain ⟨_, rfl, _⟩ := h; rfl) | (obtain ⟨_, _, rfl, _⟩ := h; rfl) | (obtain ⟨_, _, _, rfl, _⟩ := h; rfl) | (obtain ⟨_, _, _, _, rfl, _⟩ := h; rfl) | (obtain ⟨_, _, _, _, _, rfl, _⟩ := h; rfl) | (obtain ⟨_, _, _, _, _, _, rfl, _⟩ := h; rfl) | (obtain ⟨_, _, _, _, _, _, _, rfl, _⟩ := h; rfl) | (obtain ⟨_, _, _, _, _, _, _, _, rfl, _⟩ := h; rfl) | (obtain ⟨_, _, _, _, _, _, _, _, _, rfl, _⟩ := h; rfl)) (fun cdv A outer s H vs Q E hr h => ?_)
  obtain ⟨st, dr, rfl, hS, q⟩ := h
  refine ⟨_, PSs.nox (pss_cons (ps_set (i := 1) sc_law_text_of.nd rfl (Or.inr rfl) pe_str)
      (pss_cons (ps_set (i := 2) sc_law_text_of.nd rfl (Or.inl rfl) (pe_f (ok_law_next T) (hr.mono (by omega)) (by rfl) (pa_cons (pv 0) (pa_cons pe_int pa_nil))))
      (pss_cons (ps_if (pt_cmpR op_eq (pe_f (ok_law_next T) (hr.mono (by omega)) (by rfl) (pa_cons (pv 0) (pa_cons pe_int pa_nil))) pe_int (nomark _)) (pss_one (ps_set (i := 2) sc_law_text_of.nd rfl (Or.inl rfl) (pe_op op_add pe_int (pe_f (ok_law_next T) (hr.mono (by omega)) (by rfl) (pa_cons (pv 0) (pa_cons pe_int pa_nil)))))) pss_nil)
      (pss_cons (ps_set (i := 3) sc_law_text_of.nd rfl (Or.inr rfl) (pe_f (ok_law_next T) (hr.mono (by omega)) (by rfl) (pa_cons (pv 0) (pa_cons pe_int pa_nil))))
      (pss_one (ps_ret (pe_join pe_str (pe_lc (own := [("_law_k", 4)]) (g := gName 4) (tt := tYes) rfl sc_law_text_of.nd (pi_range1 (by rfl) (n_range T) (pa_cons (pv 2) pa_nil)) (blkOk_by (N := ["_law_state", "_law_chars", "_law_count", "_law_start", "_law_k"]) (sc := defScope s_law_text_of) (by decide +kernel)) (fun _ _ _ _ _ => (pg_name (i := 4) sc_law_text_of.nd rfl (Or.inl rfl))) (fun _ _ _ _ _ => pts_nil) (fun _ _ _ _ _ => by (apply pe_cast (pe_ix ix_str (pv 1) (pe_op op_mod (pe_op op_add (pv 3) (pe_op op_mul pe_int (pv 4))) pe_int) (fun _ _ => rfl))); (try dsimp only [L2.Cx.blk]) <;> exact rfl))))))))), ?_⟩
  walk_at "rx"
  refine ⟨st, dr, 5, rfl, by decide, hS, fun k1 H1 hk1 l1 S1 => ?_⟩
  walk_at "rx"
  refine ⟨st, dr, 12, rfl, by decide, S1, fun k2 H2 hk2 l2 S2 => ?_⟩
  walk_at "rx"
  have fin : ∀ (m : Nat) (H3 : Hp), m ≤ 330 → Lx st H H3 → StAt H3 st dr → ∀ (k3 : Nat) (H4 : Hp), (k3 : Int) < 95 → Lx st H3 H4 → StAt H4 st dr →
      tM1 (fun x xs H Q => ∃ a p, ∃ ys : List Str, x = .str a ∧ xs = [.ref p] ∧ (SqL K H p (ys.map V.str) ∨ SqT K H p (ys.map V.str)) ∧ (ys.map (·.length)).sum + ys.length * a.length ≤ 16777216 ∧ Q (.str (Txt.join a ys)) H) (tC (.str ""))
        (tLc (iRng1 (tCons (tVar 2) tNil)) (gName 4) tYes (tOp rIxS (tVar 1) (tOp (rI (fun _ j => 0 < j) fun i j => .int (i % j)) (tOp (rI0 fun i j => .int (i + j)) (tVar 3) (tOp (rI CMul fun i j => .int (i * j)) (tC (.int 37)) (tVar 4))) (tC (.int 95)))) [4])
        [some (.ref st), some (.str chars95), some (.int (m : Nat)), some (.int (k3 : Nat)), none] H4 Q := by
    intro m H3 hm l3 S3 k3 H4 hk3 l4 S4
    walk_at "rx"
    refine ⟨⟨_, rfl⟩, ?_⟩
    refine r_lc ?_
    walk_at "rx"
    refine ⟨_, rfl, by omega, by omega, fun D0 hD => ?_⟩
    rw [show ((m : Nat) : Int).toNat = m from rfl]
    refine lc_exE (xs := upto m) (Ex := fun _ _ => True) (Pd := fun d => ∃ c, okCh c ∧ d = dCh c) (Fr := Same) (Wk.rng (I := fun _ => True)) FrmOk.same hD (fun _ _ => trivial) (by rw [upto_len]; exact Nat.le_trans hm (by decide)) trivial (fun _ _ _ _ _ _ _ => trivial) ?_ ?_
    · intro i x H5 Q5 hx s5 _ k
      obtain ⟨i', hi', e⟩ := getElem_map_some hx
      obtain rfl : x = .int (i' : Int) := e
      refine ⟨wipe1, ?_⟩
      walk_at "rx"
      have hmd : (k3 + 37 * i') % 95 < chars95.cps.toList.length := by rw [chars95_ok.1]; exact Nat.mod_lt _ (by decide)
      have e95 : (((k3 : Int) + 37 * (i' : Int)) % 95) = (((k3 + 37 * i') % 95 : Nat) : Int) := by omega
      rw [e95]
      refine ⟨chars95, _, chars95.cps.toList[(k3 + 37 * i') % 95], rfl, rfl, by decide, atI_nat (List.getElem?_eq_getElem hmd), ?_⟩
      exact k _ H5 _ (Same.refl H5) ⟨_, chars95_ok.2 _ (List.getElem_mem hmd), rfl⟩ rfl trivial
    · intro H5 ys ds s5 _ eD hys hlen hpd
      obtain ⟨cs, rfl, hcs, hl⟩ := hys.chs hpd
      rw [upto_len] at hlen
      have esg : (PyProof.Rows.signs ⟨cs.toArray⟩) = cs.map fun c => (⟨#[c]⟩ : Str) := by simp [PyProof.Rows.signs]
      walk_at "rx"
      refine ⟨_, D0, PyProof.Rows.signs ⟨cs.toArray⟩, rfl, rfl, .inl (SqL.of (by rw [eD, esg, List.map_map]; rfl)), ?_, ?_⟩
      · rw [sum_ones _ fun z hz => ?_]
        · rw [esg, List.length_map]
          show _ + _ * 0 ≤ _
          omega
        · obtain ⟨c, rfl⟩ := PyProof.Rows.sign_is hz
          rfl
      · rw [join_signs]
        refine q ⟨cs.toArray⟩ _ H5 ⟨fun c hc => hcs c (by simpa using hc), ?_⟩ ((l3.trans l4).trans (Lx.of s5)) (S4.same s5) rfl
        show cs.toArray.toList.length ≤ 330
        simp
        omega
  refine iteI (fun e => ?_) (fun e => ?_)
  · walk_at "rx"
    refine ⟨st, dr, 200, rfl, by decide, S2, fun k3 H3 hk3 l3 S3 => ?_⟩
    walk_at "rx"
    refine ⟨st, dr, 95, rfl, by decide, S3, fun k4 H4 hk4 l4 S4 => ?_⟩
    have := fin (120 + k3) H3 (by omega) ((l1.trans l2).trans l3) S3 k4 H4 hk4 l4 S4
    have e2 : ((120 : Int) + (k3 : Int)) = ((120 + k3 : Nat) : Int) := by omega
    rw [e2]
    exact this
  · walk_at "rx"
    refine ⟨st, dr, 95, rfl, by decide, S2, fun k4 H4 hk4 l4 S4 => ?_⟩
    exact fin k1 H2 (by omega) (l1.trans l2) S2 k4 H4 hk4 l4 S4
def nums7 : List Nat := [0, 1, 127, 128, 300, 16383, 16384]
theorem nums7_ok : ∀ n ∈ nums7, n < 128 ^ 20 := by decide +kernel
def okBig (n : Nat) : Prop := n < 128 ^ 20
theorem okBig.len {n : Nat} (h : okBig n) : (wNum n).length ≤ 20 := wNum_le 19 n h
theorem ok_law_big  (T : Txt K mg) : Fc P w K mg base CX0 (4) "_law_big" ["_law_state"] (spGn dNum okBig) := by
  refine ⟨?_, gm_law_big T, (fd_law_big T.says).kp, (fd_law_big T.says).bindsN fun _ _ _ _ _ _ us hl => match us, hl with | [_], _ => rfl⟩
  refine (fd_law_big T.says).ok sc_law_big (fun vs H Q E h => by first | (obtain ⟨_, rfl, _⟩ := h; rfl) | (obtain ⟨_, _, rfl, _⟩ := h; rfl) | (obtain ⟨_, _, _, rfl, _⟩ := h; rfl) | (obtain ⟨_, _, _, _, rfl, _⟩ := h; rfl) | (obtain ⟨_, _, _, _, _, rfl, _⟩ := h; rfl) | (obtain ⟨_, _, _, _, _, _, rfl, _⟩ := h; rfl) | (obtain ⟨_, _, _, _, _, _, _, rfl, _⟩ := h; rfl) | (obtain ⟨_, _, _, _, _, _, _, _, rfl, _⟩ := h; rfl) | (obtain ⟨_, _, _, _, _, _, _, _, _, rfl, _⟩ := h; rfl)) (fun cdv A outer s H vs Q E hr h => ?_)
  obtain ⟨st, dr, rfl, hS, q⟩ := h
  refine ⟨_, PSs.nox (pss_cons (ps_set (i := 1) sc_law_big.nd rfl (Or.inl rfl) (pe_f (ok_law_next T) (hr.mono (by omega)) (by rfl) (pa_cons (pv 0) (pa_cons pe_int pa_nil))))
      (pss_cons (ps_if (pt_cmpR op_lt (pv 1) pe_int (nomark _)) (pss_one (ps_ret (pe_ix ix_list (pe_lst (pa_cons pe_int (pa_cons pe_int (pa_cons pe_int (pa_cons pe_int (pa_cons pe_int (pa_cons pe_int (pa_cons pe_int pa_nil)))))))) (pe_f (ok_law_next T) (hr.mono (by omega)) (by rfl) (pa_cons (pv 0) (pa_cons pe_int pa_nil))) (fun _ _ => rfl)))) pss_nil)
      (pss_cons (ps_set (i := 2) sc_law_big.nd rfl (Or.inl rfl) pe_int)
      (pss_cons (ps_for PassesOwn.never rfl (pi_range1 (by rfl) (n_range T) (pa_cons (pe_op op_add pe_int (pe_f (ok_law_next T) (hr.mono (by omega)) (by rfl) (pa_cons (pv 0) (pa_cons pe_int pa_nil)))) pa_nil)) (pg_name (i := 3) sc_law_big.nd rfl (Or.inl rfl)) (pss_one (ps_set (i := 2) sc_law_big.nd rfl (Or.inl rfl) (pe_op op_add (pe_op op_mul (pv 2) pe_int) (pe_f (ok_law_next T) (hr.mono (by omega)) (by rfl) (pa_cons (pv 0) (pa_cons pe_int pa_nil)))))))
      (pss_one (ps_ret (pv 2))))))), ?_⟩
  walk_at "rx"
  refine ⟨st, dr, 5, rfl, by decide, hS, fun k1 H1 hk1 l1 S1 => ?_⟩
  walk_at "rx"
  refine iteD (fun c => ?_) (fun c => ?_)
  · walk_at "rx"
    refine ⟨le_line rfl, fun p hp => ?_⟩
    have e1 : upd H1 p (.lst [.int 0, .int 1, .int 127, .int 128, .int 300, .int 16383, .int 16384]) p = some (.lst (nums7.map fun n : Nat => V.int (n : Int))) := upd_same
    have S2 := S1.new (o := .lst [.int 0, .int 1, .int 127, .int 128, .int 300, .int 16383, .int 16384]) hp
    have l2 : Lx st H (upd H1 p (.lst [.int 0, .int 1, .int 127, .int 128, .int 300, .int 16383, .int 16384])) := l1.trans (Lx.of (same_new hp))
    generalize upd H1 p (.lst [.int 0, .int 1, .int 127, .int 128, .int 300, .int 16383, .int 16384]) = H2 at e1 S2 l2
    walk_at "rx"
    refine ⟨st, dr, 7, rfl, by decide, S2, fun k H3 hk l3 S3 => ?_⟩
    refine r_lit (l3.1 _ _ (S1.ne hp) e1) (show k < 7 by omega) fun x hx => ?_
    exact q x _ H3 (nums7_ok x hx) (l2.trans l3) S3 rfl
  · walk_at "rx"
    refine r_ir ?_
    walk_at "rx"
    refine ⟨st, dr, 10, rfl, by decide, S1, fun k2 H2 hk2 l2 S2 => ?_⟩
    walk_at "rx"
    refine ⟨_, rfl, by omega, by omega, ?_⟩
    have em : ((1 : Int) + (k2 : Int)).toNat = k2 + 1 := by omega
    rw [em]
    refine for_any (xs := upto (k2 + 1)) (Wk.rng (I := fun _ => True)) (fun i σ H' => ∃ v3, ∃ n : Nat, σ = [some (.ref st), some (.int (k1 : Nat)), some (.int (n : Nat)), v3] ∧ Lx st H H' ∧ StAt H' st dr ∧ n < 9973 ^ i) (fun _ _ _ _ => trivial) ⟨none, 0, rfl, l1.trans l2, S2, by decide⟩ ?_ ?_
    · rintro i x σ H3 hx ⟨v3, n, rfl, l3, S3, hn⟩
      walk_at "rx"
      refine ⟨st, dr, 9973, rfl, by decide, S3, fun k4 H4 hk4 l4 S4 => ?_⟩
      walk_at "rx"
      refine ⟨some x, n * 9973 + k4, ?_, l3.trans l4, S4, ?_⟩
      · have : ((n : Int) * 9973 + (k4 : Int)) = ((n * 9973 + k4 : Nat) : Int) := by omega
        rw [this]
        rfl
      · rw [Nat.pow_succ]
        omega
    · rintro σ H3 ⟨v3, n, rfl, l3, S3, hn⟩
      rw [upto_len] at hn
      walk_at "rx"
      refine q n _ H3 (Nat.lt_of_lt_of_le hn ?_) l3 S3 rfl
      exact Nat.le_trans (Nat.pow_le_pow_right (by decide) (show k2 + 1 ≤ 10 by omega)) (by decide)
end
end Q

/-! ## G4 -/
set_option Elab.async false
set_option linter.all false
set_option maxRecDepth 100000
set_option maxHeartbeats 4000000
namespace Q
open PySem PySem.Spec PyProof.Rows L2
local macro_rules | `(tactic| walk_at "rd") => `(tactic| repeat (first
  | ((with_reducible apply r_var); focus exact rfl)
  | with_reducible refine r_c ?_
  | with_reducible refine r_chain ?_
  | ((with_reducible apply r_aug); focus exact rfl)
  | with_reducible refine r_ip ?_
  | with_reducible refine r_op ?_
  | with_reducible refine r_I0 ?_
  | with_reducible refine r_cons ?_
  | with_reducible refine r_nil ?_
  | with_reducible refine r_seq ?_
  | with_reducible refine r_asg ?_
  | with_reducible refine r_gn ?_
  | with_reducible refine r_gcons ?_
  | with_reducible refine r_gnil ?_
  | with_reducible refine r_lc ?_
  | with_reducible refine r_m1 ?_
  | with_reducible refine r_sfld ?_
  | with_reducible refine r_sfa ?_
  | with_reducible refine r_rAdd ?_
  | with_reducible refine r_ret ?_
  | with_reducible refine r_ifS ?_
  | with_reducible refine r_test ?_
  | with_reducible refine r_bl ?_
  | with_reducible refine r_B ?_
  | with_reducible refine r_drop ?_
  | with_reducible refine r_bm ?_
  | with_reducible refine r_CB ?_
  | with_reducible refine r_call ?_
  | with_reducible refine r_meth ?_
  | with_reducible refine r_make ?_
  | with_reducible refine r_tup ?_
  | with_reducible refine r_lst ?_
  | ((with_reducible refine r_I ?_ ?_); focus (first | decide | exact ⟨by decide, by decide⟩ | exact .inl ⟨by decide, by decide⟩ | exact .inr ⟨by decide, by decide⟩ | omega))
  | with_reducible refine r_U ?_
  | with_reducible refine r_un ?_
  | with_reducible refine r_and ?_
  | with_reducible refine r_or ?_
  | with_reducible refine r_not ?_
  | with_reducible refine r_andV ?_
  | with_reducible refine r_orV ?_
  | with_reducible refine r_notV ?_
  | with_reducible refine r_if ?_
  | with_reducible refine r_sl ?_
  | with_reducible refine r_part ?_
  | with_reducible refine r_parti ?_
  | with_reducible refine r_nopart ?_
  | with_reducible refine r_il ?_
  | with_reducible refine r_it ?_
  | with_reducible refine r_ir ?_
  | with_reducible refine r_is ?_
  | with_reducible refine r_next ?_
  | with_reducible refine r_retN ?_
  | ((with_reducible refine r_eq ?_ ?_); focus exact rfl)
  | ((with_reducible refine r_ne ?_ ?_); focus exact rfl)))
local macro_rules | `(tactic| walk_at "rx") => `(tactic| repeat (first
  | ((with_reducible apply r_var); focus exact rfl)
  | with_reducible refine r_c ?_
  | with_reducible refine r_chain ?_
  | ((with_reducible apply r_aug); focus exact rfl)
  | with_reducible refine r_ip ?_
  | with_reducible refine r_op ?_
  | with_reducible refine r_I0 ?_
  | with_reducible refine r_cons ?_
  | with_reducible refine r_nil ?_
  | with_reducible refine r_seq ?_
  | with_reducible refine r_asg ?_
  | with_reducible refine r_gn ?_
  | with_reducible refine r_gcons ?_
  | with_reducible refine r_gnil ?_
  | with_reducible refine r_m1 ?_
  | with_reducible refine r_sfld ?_
  | with_reducible refine r_sfa ?_
  | with_reducible refine r_rAdd ?_
  | with_reducible refine r_ret ?_
  | with_reducible refine r_ifS ?_
  | with_reducible refine r_test ?_
  | with_reducible refine r_bl ?_
  | with_reducible refine r_B ?_
  | with_reducible refine r_drop ?_
  | with_reducible refine r_bm ?_
  | with_reducible refine r_CB ?_
  | with_reducible refine r_call ?_
  | with_reducible refine r_make ?_
  | with_reducible refine r_tup ?_
  | with_reducible refine r_lst ?_
  | ((with_reducible refine r_I ?_ ?_); focus (first | decide | exact ⟨by decide, by decide⟩ | exact .inl ⟨by decide, by decide⟩ | exact .inr ⟨by decide, by decide⟩ | omega))
  | with_reducible refine r_U ?_
  | with_reducible refine r_un ?_
  | with_reducible refine r_and ?_
  | with_reducible refine r_or ?_
  | with_reducible refine r_not ?_
  | with_reducible refine r_andV ?_
  | with_reducible refine r_orV ?_
  | with_reducible refine r_notV ?_
  | with_reducible refine r_if ?_
  | with_reducible refine r_sl ?_
  | with_reducible refine r_part ?_
  | with_reducible refine r_parti ?_
  | with_reducible refine r_nopart ?_
  | with_reducible refine r_il ?_
  | with_reducible refine r_it ?_
  | with_reducible refine r_ir ?_
  | with_reducible refine r_is ?_
  | with_reducible refine r_next ?_
  | with_reducible refine r_retN ?_
  | ((with_reducible refine r_eq ?_ ?_); focus exact rfl)
  | ((with_reducible refine r_ne ?_ ?_); focus exact rfl)))
section
variable {P : Program} {w : World} {K : PySem.W.Frag} {mg : Str → Option Value} {base : Heap}
/-! ### values -/
theorem StAt.updD {H : Hp} {st dr p : Addr} {o : HO} (h : StAt H st dr) (n1 : p ≠ st) (n2 : p ≠ dr) : StAt (upd H p o) st dr := by
  obtain ⟨k, zs, e1, e2⟩ := h
  exact ⟨k, zs, by rw [upd_ne n1.symm]; exact e1, by rw [upd_ne n2.symm]; exact e2⟩
theorem StAt.ne2 {H : Hp} {st dr p : Addr} (h : StAt H st dr) (n : H p = none) : p ≠ dr := by
  obtain ⟨k, zs, e1, e2⟩ := h
  exact (ne_of_none e2 n).symm
def lvB : Nat → Nat
  | 0 => 340
  | n + 1 => 3 * lvB n + 140
theorem lvB_ge (e : Nat) : 340 ≤ lvB e := by
  induction e with
  | zero => exact Nat.le_refl _
  | succ n ih => rw [lvB]; omega
theorem lvB_wr (e : Nat) : 340 + 4 * (36 + e) ≤ lvB (e + 1) := by
  induction e with
  | zero => decide
  | succ n ih => rw [lvB]; omega
def dvB (e : Nat) : Nat := if e = 0 then 1 else 36 + e
structure okVal (e : Nat) (x : Val) : Prop where
  ok : okV x
  dp : x.dep ≤ dvB e
  ln : (wVal x).length ≤ lvB e
def spVal (n : Nat) : Sp := fun vs H Q _ => ∃ st dr, ∃ e : Nat, vs = [.ref st, .int e] ∧ e < n ∧ e ≤ 1000 ∧ StAt H st dr ∧ ∀ (x : Val) v H', okVal e x → Lx st H H' → StAt H' st dr → Rp H' (dVal x) v → Q v H'
theorem dvB_pos (e : Nat) : 1 ≤ dvB e := by
  unfold dvB
  split <;> omega
theorem okVal_int {e : Nat} {i : Int} (h : okBig i.natAbs) : okVal e (.int i) := by
  have h2 := h.len
  refine ⟨?_, ?_, ?_⟩
  · show (wNum i.natAbs).length ≤ 60
    omega
  · rw [Val.dep]
    exact dvB_pos e
  · have := lvB_ge e
    rw [wVal]
    simp only [List.length_cons]
    omega
theorem okVal_str {e : Nat} {z : Str} (h : okW 330 z) : okVal e (.str z) := by
  have h2 := h.len (by decide)
  refine ⟨h.1, ?_, ?_⟩
  · rw [Val.dep]
    exact dvB_pos e
  · have := lvB_ge e
    rw [wVal, List.length_cons]
    omega
theorem okVal_bl {e : Nat} {b : Bool} : okVal e (.bl b) := by
  refine ⟨trivial, ?_, ?_⟩
  · rw [Val.dep]
    exact dvB_pos e
  · have := lvB_ge e
    rw [wVal]
    show 2 ≤ _
    omega
theorem okVal_nil {e : Nat} : okVal e (.list []) := by
  refine ⟨trivial, ?_, ?_⟩
  · rw [Val.dep]
    exact dvB_pos e
  · have := lvB_ge e
    rw [wVal, List.length_cons, List.length_append, wVals]
    show (wNum 0).length + 0 + 1 ≤ _
    rw [wNum_lt (show 0 < 128 by decide)]
    show 2 ≤ _
    omega
/-- many parts -/
theorem parts_ok {n : Nat} : ∀ {xs : List Val}, (∀ x ∈ xs, okVal n x) → okVs xs ∧ depL xs ≤ dvB n ∧ (wVals xs).length ≤ xs.length * lvB n
  | [], _ => ⟨trivial, Nat.zero_le _, by rw [wVals]; exact Nat.zero_le _⟩
  | x :: xs, h => by
    have hx := h x List.mem_cons_self
    obtain ⟨h1, h2, h3⟩ := parts_ok fun y hy => h y (List.mem_cons_of_mem _ hy)
    refine ⟨⟨hx.ok, h1⟩, ?_, ?_⟩
    · rw [depL]
      exact Nat.max_le.mpr ⟨hx.dp, h2⟩
    · rw [wVals, List.length_append, List.length_cons, Nat.succ_mul]
      have := hx.ln
      omega
theorem dvB_step (n : Nat) : dvB n + 1 ≤ dvB (n + 1) := by
  unfold dvB
  split <;> simp <;> omega
theorem three_lt {l : List Val} (h : l.length < 4) : (wNum l.length).length = 1 := by rw [wNum_lt (by omega)]; rfl
theorem okVal_list {n : Nat} {xs : List Val} (h : ∀ x ∈ xs, okVal n x) (hl : xs.length < 4) : okVal (n + 1) (.list xs) := by
  obtain ⟨h1, h2, h3⟩ := parts_ok h
  refine ⟨h1, ?_, ?_⟩
  · rw [Val.dep]
    have := dvB_step n
    omega
  · have : xs.length * lvB n ≤ 3 * lvB n := Nat.mul_le_mul_right _ (by omega)
    rw [wVal, List.length_cons, List.length_append, three_lt hl, lvB]
    omega
theorem okVal_make {n : Nat} {m : Str} {xs : List Val} (hm : okW 130 m) (h : ∀ x ∈ xs, okVal n x) (hl : xs.length < 4) : okVal (n + 1) (.make m xs) := by
  obtain ⟨h1, h2, h3⟩ := parts_ok h
  have hw := hm.len (by decide)
  refine ⟨⟨hm.1, h1⟩, ?_, ?_⟩
  · rw [Val.dep]
    have := dvB_step n
    omega
  · have : xs.length * lvB n ≤ 3 * lvB n := Nat.mul_le_mul_right _ (by omega)
    rw [wVal, List.length_append, List.length_cons, List.length_append, three_lt hl, lvB]
    omega
/-- a chain of wraps -/
structure okCh' (i : Nat) (x : Val) : Prop where
  ok : okV x
  dp : x.dep ≤ 1 + i
  ln : (wVal x).length ≤ 340 + 4 * i
theorem okCh'_list {i : Nat} {x : Val} (h : okCh' i x) : okCh' (i + 1) (.list [x]) := by
  refine ⟨⟨h.ok, trivial⟩, ?_, ?_⟩
  · rw [Val.dep, depL, depL]
    have := h.dp
    omega
  · have := h.ln
    rw [wVal, List.length_cons, List.length_append, wVals, wVals, List.append_nil, wNum_lt (show List.length [x] < 128 from lt_by rfl)]
    show 1 + _ + 1 ≤ _
    omega
theorem okS_N : okS "N" := by decide +kernel
theorem wStr_N : (wStr "N").length = 2 := by
  rw [wStr_len okS_N]
  show (wNum 1).length + 1 = 2
  rw [wNum_lt (by decide)]
  rfl
theorem okCh'_make {i : Nat} {x : Val} (h : okCh' i x) : okCh' (i + 1) (.make "N" [x]) := by
  refine ⟨⟨okS_N, h.ok, trivial⟩, ?_, ?_⟩
  · rw [Val.dep, depL, depL]
    have := h.dp
    omega
  · have := h.ln
    rw [wVal, List.length_append, List.length_cons, wStr_N, List.length_append, wVals, wVals, List.append_nil, wNum_lt (show List.length [x] < 128 from lt_by rfl)]
    show 2 + 1 + (1 + _) ≤ _
    omega
theorem okCh'_fin {e i : Nat} {x : Val} (h : okCh' i x) (hi : i ≤ 36 + e) : okVal (e + 1) x := by
  refine ⟨h.ok, ?_, ?_⟩
  · have := h.dp
    unfold dvB
    rw [if_neg (by omega)]
    omega
  · have := h.ln
    have := lvB_wr e
    omega
theorem RpL.vals {P : Val → Prop} : ∀ {ds : List D}, (∀ d ∈ ds, ∃ x, P x ∧ d = dVal x) → ∃ xs : List Val, ds = xs.map dVal ∧ (∀ x ∈ xs, P x) ∧ xs.length = ds.length
  | [], _ => ⟨[], rfl, by simp, rfl⟩
  | d :: ds, h => by
    obtain ⟨x, hx, rfl⟩ := h d List.mem_cons_self
    obtain ⟨xs, e, h2, h3⟩ := RpL.vals fun y hy => h y (List.mem_cons_of_mem _ hy)
    refine ⟨x :: xs, by rw [e]; rfl, fun y hy => ?_, by rw [List.length_cons, h3, List.length_cons]⟩
    rcases List.mem_cons.mp hy with e | hy
    · rw [e]
      exact hx
    · exact h2 y hy
theorem ok_law_value_s {n : Nat} (ih : Fc P w K mg base CX0 (n + 5) "_law_value" ["_law_state", "_law_depth"] (spVal n)) (T : Txt K mg) : Fc P w K mg base CX0 (n + 6) "_law_value" ["_law_state", "_law_depth"] (spVal (n + 1)) := by
  refine ⟨?_, gm_law_value T, (fd_law_value T.says).kp, (fd_law_value T.says).bindsN fun _ _ _ _ _ _ us hl => match us, hl with | [_, _], _ => rfl⟩
  refine (fd_law_value T.says).ok sc_law_value (fun vs H Q E h => by first | (obtain ⟨_, rfl, _⟩ := h; rfl) | (obtain ⟨_, _, rfl, _⟩ := h; rfl) | (obtain ⟨_, _, _, rfl, _⟩ := h; rfl) | (obtain ⟨_, _, _, _, rfl, _⟩ := h; rfl) | (obtain ⟨_, _, _, _, _, rfl, _⟩ := h; rfl) | (obtain ⟨_, _, _, _, _, _, rfl, _⟩ := h; rfl) | (obtain ⟨_, _, _, _, _, _, _, rfl, _⟩ := h; rfl) | (obtain ⟨_, _, _, _, _, _, _, _, rfl, _⟩ := h; rfl) | (obtain ⟨_, _, _, _, _, _, _, _, _, rfl, _⟩ := h; rfl)) (fun cdv A outer s H vs Q E hr h => ?_)
  obtain ⟨st, dr, e, rfl, he, he2, hS, q⟩ := h
  refine ⟨_, PSs.nox (pss_cons (ps_set (i := 2) sc_law_value.nd rfl (Or.inl rfl) (pe_f (ok_law_next T) (hr.mono (by omega)) (by rfl) (pa_cons (pv 0) (pa_cons pe_int pa_nil))))
      (pss_cons (ps_if (pt_cmpR op_lt (pv 2) pe_int (nomark _)) (pss_one (ps_ret (pe_op op_mul (pe_f (ok_law_big T) (hr.mono (by omega)) (by rfl) (pa_cons (pv 0) pa_nil)) (pe_ix ix_list (pe_lst (pa_cons pe_int (pa_cons (pe_un un_neg pe_int) pa_nil))) (pe_f (ok_law_next T) (hr.mono (by omega)) (by rfl) (pa_cons (pv 0) (pa_cons pe_int pa_nil))) (fun _ _ => rfl))))) pss_nil)
      (pss_cons (ps_if (pt_cmpR op_eq (pv 2) pe_int (nomark _)) (pss_one (ps_ret (pe_f (ok_law_text_of T) (hr.mono (by omega)) (by rfl) (pa_cons (pv 0) pa_nil)))) pss_nil)
      (pss_cons (ps_if (pt_cmpR op_eq (pv 2) pe_int (nomark _)) (pss_one (ps_ret (pe_cmpR op_eq (pe_f (ok_law_next T) (hr.mono (by omega)) (by rfl) (pa_cons (pv 0) (pa_cons pe_int pa_nil))) pe_int (nomark _)))) pss_nil)
      (pss_cons (ps_if (pt_cmpR op_eq (pv 1) pe_int (nomark _)) (pss_one (ps_ret (pe_tup (pa_cons pe_str (pa_cons (pe_tup pa_nil) pa_nil))))) pss_nil)
      (pss_cons (ps_if (pt_cmpR op_eq (pv 2) pe_int (nomark _)) (pss_cons (ps_set (i := 3) sc_law_value.nd rfl (Or.inl rfl) (pe_f ih (hr.mono (by omega)) (by rfl) (pa_cons (pv 0) (pa_cons pe_int pa_nil))))
      (pss_cons (ps_for PassesOwn.never rfl (pi_range1 (by rfl) (n_range T) (pa_cons (pe_f (ok_law_next T) (hr.mono (by omega)) (by rfl) (pa_cons (pv 0) (pa_cons (pe_op op_add pe_int (pv 1)) pa_nil))) pa_nil)) (pg_name (i := 4) sc_law_value.nd rfl (Or.inl rfl)) (pss_one (ps_set (i := 3) sc_law_value.nd rfl (Or.inl rfl) (pe_ix ix_list (pe_lst (pa_cons (pe_tup (pa_cons pe_str (pa_cons (pe_tup (pa_cons (pv 3) pa_nil)) pa_nil))) (pa_cons (pe_tup (pa_cons pe_str (pa_cons pe_str (pa_cons (pe_tup (pa_cons (pv 3) pa_nil)) pa_nil)))) pa_nil))) (pe_f (ok_law_next T) (hr.mono (by omega)) (by rfl) (pa_cons (pv 0) (pa_cons pe_int pa_nil))) (fun _ _ => rfl)))))
      (pss_one (ps_ret (pv 3))))) pss_nil)
      (pss_cons (ps_set (i := 5) sc_law_value.nd rfl (Or.inl rfl) (pe_callTy call_tuple_of (by rfl) (n_tuple T) (by decide +kernel) (pa_cons (pe_lc (own := [("_law_k", 4)]) (g := gName 4) (tt := tYes) rfl sc_law_value.nd (pi_range1 (by rfl) (n_range T) (pa_cons (pe_f (ok_law_next T) (hr.mono (by omega)) (by rfl) (pa_cons (pv 0) (pa_cons pe_int pa_nil))) pa_nil)) (blkOk_by (N := ["_law_state", "_law_depth", "_law_pick", "_law_value_here", "_law_k", "_law_parts"]) (sc := defScope s_law_value) (by decide +kernel)) (fun _ _ _ _ _ => (pg_name (i := 4) sc_law_value.nd rfl (Or.inl rfl))) (fun _ _ _ _ _ => pts_nil) (fun _ _ _ _ _ => (pe_f ih (hr.mono (by omega)) (by rfl) (pa_cons (pv 0) (pa_cons (pe_op op_sub (pv 1) pe_int) pa_nil))))) pa_nil)))
      (pss_cons (ps_if (pt_cmpR op_lt (pv 2) pe_int (nomark _)) (pss_one (ps_ret (pe_tup (pa_cons pe_str (pa_cons (pv 5) pa_nil))))) pss_nil)
      (pss_one (ps_ret (pe_tup (pa_cons pe_str (pa_cons (pe_f (ok_law_word T) (hr.mono (by omega)) (by rfl) (pa_cons (pv 0) pa_nil)) (pa_cons (pv 5) pa_nil)))))))))))))), ?_⟩
  walk_at "rx"
  refine ⟨st, dr, 9, rfl, by decide, hS, fun k1 H1 hk1 l1 S1 => ?_⟩
  walk_at "rx"
  refine iteD (fun c => ?_) (fun c => ?_)
  · walk_at "rx"
    refine ⟨st, dr, rfl, S1, fun b v H2 hb l2 S2 hv => ?_⟩
    obtain rfl : v = .int b := hv
    walk_at "rx"
    refine ⟨le_line rfl, fun p hp => ?_⟩
    have e1 : upd H2 p (.lst [.int 1, .int (-1)]) p = some (.lst (([1, -1] : List Int).map V.int)) := upd_same
    have S3 := S2.new (o := .lst [.int 1, .int (-1)]) hp
    have l3 : Lx st H (upd H2 p (.lst [.int 1, .int (-1)])) := (l1.trans l2).trans (Lx.of (same_new hp))
    generalize upd H2 p (.lst [.int 1, .int (-1)]) = H3 at e1 S3 l3
    walk_at "rx"
    refine ⟨st, dr, 2, rfl, by decide, S3, fun k H4 hk l4 S4 => ?_⟩
    refine r_lit (l4.1 _ _ (S2.ne hp) e1) (show k < 2 by omega) fun x hx => ?_
    have hx2 : x = 1 ∨ x = -1 := by simpa using hx
    rcases hx2 with rfl | rfl
    · walk_at "rx"
      exact q (.int ((b : Int) * 1)) _ H4 (okVal_int (by rw [Int.mul_one]; exact hb)) (l3.trans l4) S4 rfl
    · walk_at "rx"
      exact q (.int ((b : Int) * -1)) _ H4 (okVal_int (by rw [Int.mul_neg, Int.mul_one, Int.natAbs_neg]; exact hb)) (l3.trans l4) S4 rfl
  walk_at "rx"
  refine iteI (fun c2 => ?_) (fun c2 => ?_)
  · walk_at "rx"
    refine ⟨st, dr, rfl, S1, fun z v H2 hz l2 S2 hv => ?_⟩
    exact q (.str z) v H2 (okVal_str hz) (l1.trans l2) S2 hv
  walk_at "rx"
  refine iteI (fun c3 => ?_) (fun c3 => ?_)
  · walk_at "rx"
    refine ⟨st, dr, 2, rfl, by decide, S1, fun k H2 hk l2 S2 => ?_⟩
    walk_at "rx"
    exact q (.bl _) _ H2 okVal_bl (l1.trans l2) S2 rfl
  walk_at "rx"
  refine iteI (fun c4 => ?_) (fun c4 => ?_)
  · walk_at "rx"
    refine ⟨le_line rfl, fun p hp => ?_⟩
    walk_at "rx"
    refine ⟨le_line rfl, fun p2 hp2 => ?_⟩
    refine q (.list []) _ _ okVal_nil ((l1.trans (Lx.of (same_new hp))).trans (Lx.of (same_new hp2))) ((S1.new hp).new hp2) ?_
    rw [dVal]
    exact Rp.tupOf upd_same (RpL.cons rfl (RpL.cons (Rp.ts (Tst.new hp2) (Rp.tupOf upd_same (by rw [dVals]; rfl))) RpL.nil))
  obtain ⟨m, rfl⟩ : ∃ m, e = m + 1 := ⟨e - 1, by omega⟩
  walk_at "rx"
  refine iteI (fun c5 => ?_) (fun c5 => ?_)
  · walk_at "rx"
    refine ⟨st, dr, 0, rfl, by omega, Nat.zero_le _, S1, fun x v H2 hx l2 S2 hv => ?_⟩
    walk_at "rx"
    refine r_ir ?_
    walk_at "rx"
    refine ⟨st, dr, _, rfl, by omega, S2, fun k H3 hk l3 S3 => ?_⟩
    walk_at "rx"
    refine ⟨_, rfl, by omega, by omega, ?_⟩
    rw [show ((k : Nat) : Int).toNat = k from rfl]
    refine for_any (xs := upto k) (Wk.rng (I := fun _ => True)) (fun i σ H' => ∃ v4, ∃ y : Val, ∃ u, σ = [some (.ref st), some (.int ((m + 1 : Nat) : Int)), some (.int (k1 : Nat)), some u, v4, none] ∧ Lx st H H' ∧ StAt H' st dr ∧ okCh' i y ∧ Rp H' (dVal y) u) (fun _ _ _ _ => trivial) ⟨none, x, v, rfl, (l1.trans l2).trans l3, S3, ⟨hx.ok, hx.dp, hx.ln⟩, hv.ts (S2.tst l3)⟩ ?_ ?_
    · rintro i z σ H4 hz ⟨v4, y, u, rfl, l4, S4, hy, hu⟩
      walk_at "rx"
      refine ⟨le_line rfl, fun p1 hp1 => ?_⟩
      walk_at "rx"
      refine ⟨le_line rfl, fun p2 hp2 => ?_⟩
      have t2 : Tst H4 (upd (upd H4 p1 (.tup [u])) p2 (.tup [.str "list", .ref p1])) := (Tst.new hp1).trans (Tst.new hp2)
      have r2 : Rp (upd (upd H4 p1 (.tup [u])) p2 (.tup [.str "list", .ref p1])) (dVal (.list [y])) (.ref p2) := by
        rw [dVal, dVals, dVals]
        exact Rp.tupOf upd_same (RpL.cons rfl (RpL.cons (Rp.ts (Tst.new hp2) (Rp.tupOf upd_same (RpL.cons (hu.ts (Tst.new hp1)) RpL.nil))) RpL.nil))
      have S5 := (S4.new (o := .tup [u]) hp1).new (o := .tup [.str "list", .ref p1]) hp2
      have l5 : Lx st H (upd (upd H4 p1 (.tup [u])) p2 (.tup [.str "list", .ref p1])) := (l4.trans (Lx.of (same_new hp1))).trans (Lx.of (same_new hp2))
      have u5 := hu.ts t2
      generalize upd (upd H4 p1 (.tup [u])) p2 (.tup [.str "list", .ref p1]) = H5 at r2 S5 l5 u5
      walk_at "rx"
      refine ⟨le_line rfl, fun p3 hp3 => ?_⟩
      walk_at "rx"
      refine ⟨le_line rfl, fun p4 hp4 => ?_⟩
      have r4 : Rp (upd (upd H5 p3 (.tup [u])) p4 (.tup [.str "make", .str "N", .ref p3])) (dVal (.make "N" [y])) (.ref p4) := by
        rw [dVal, dVals, dVals]
        exact Rp.tupOf upd_same (RpL.cons rfl (RpL.cons rfl (RpL.cons (Rp.ts (Tst.new hp4) (Rp.tupOf upd_same (RpL.cons (u5.ts (Tst.new hp3)) RpL.nil))) RpL.nil)))
      have r2' := (r2.ts (Tst.new (o := .tup [u]) hp3)).ts (Tst.new (o := .tup [.str "make", .str "N", .ref p3]) hp4)
      have S6 := (S5.new (o := .tup [u]) hp3).new (o := .tup [.str "make", .str "N", .ref p3]) hp4
      have l6 : Lx st H (upd (upd H5 p3 (.tup [u])) p4 (.tup [.str "make", .str "N", .ref p3])) := (l5.trans (Lx.of (same_new hp3))).trans (Lx.of (same_new hp4))
      generalize upd (upd H5 p3 (.tup [u])) p4 (.tup [.str "make", .str "N", .ref p3]) = H6 at r4 r2' S6 l6
      walk_at "rx"
      refine ⟨le_line rfl, fun p7 hp7 => ?_⟩
      have e7 : upd H6 p7 (.lst [.ref p2, .ref p4]) p7 = some (.lst ([p2, p4].map V.ref)) := upd_same
      have S7 := S6.new (o := .lst [.ref p2, .ref p4]) hp7
      have l7 : Lx st H (upd H6 p7 (.lst [.ref p2, .ref p4])) := l6.trans (Lx.of (same_new hp7))
      have t7 : Tst H6 (upd H6 p7 (.lst [.ref p2, .ref p4])) := Tst.new hp7
      generalize upd H6 p7 (.lst [.ref p2, .ref p4]) = H7 at e7 S7 l7 t7
      walk_at "rx"
      refine ⟨st, dr, 2, rfl, by decide, S7, fun kk H8 hkk l8 S8 => ?_⟩
      have t8 := S7.tst l8
      refine r_lit (l8.1 _ _ (S6.ne hp7) e7) (show kk < 2 by omega) fun a ha => ?_
      have ha2 : a = p2 ∨ a = p4 := by simpa using ha
      rcases ha2 with rfl | rfl
      · walk_at "rx"
        exact ⟨_, _, _, rfl, l7.trans l8, S8, okCh'_list hy, (r2'.ts t7).ts t8⟩
      · walk_at "rx"
        exact ⟨_, _, _, rfl, l7.trans l8, S8, okCh'_make hy, (r4.ts t7).ts t8⟩
    · rintro σ H4 ⟨v4, y, u, rfl, l4, S4, hy, hu⟩
      rw [upto_len] at hy
      walk_at "rx"
      exact q y u H4 (okCh'_fin hy (by omega)) l4 S4 hu
  · walk_at "rx"
    refine r_lc ?_
    walk_at "rx"
    refine ⟨st, dr, 4, rfl, by decide, S1, fun k H2 hk l2 S2 => ?_⟩
    walk_at "rx"
    refine ⟨_, rfl, by omega, by omega, fun D0 hD => ?_⟩
    rw [show ((k : Nat) : Int).toNat = k from rfl]
    refine lc_exE (xs := upto k) (Ex := fun _ H' => StAt H' st dr) (Pd := fun d => ∃ x, okVal m x ∧ d = dVal x) (Fr := Lx st) (Wk.rng (I := fun _ => True)) S2.frm hD (fun _ _ => trivial) (by rw [upto_len]; have : cap = 8000000 := rfl; omega) (S2.new hD) (fun _ H' ys zs _ hh _ => hh.updD (S2.ne hD) (S2.ne2 hD)) ?_ ?_
    · intro i x H3 Q3 hx l3 S3 kq
      refine ⟨wipe1, ?_⟩
      walk_at "rx"
      refine ⟨st, dr, m, by rw [show (((m + 1 : Nat) : Int) - 1) = (m : Int) by omega] <;> rfl, by omega, by omega, S3, fun y v H4 hy l4 S4 hv => ?_⟩
      exact kq v H4 _ l4 ⟨y, hy, rfl⟩ hv S4
    · intro H3 ys ds l3 S3 eD hys hlen hpd
      obtain ⟨xs, rfl, hxs, hlx⟩ := RpL.vals hpd
      rw [upto_len] at hlen
      rw [← dVals_eq] at hys
      walk_at "rx"
      refine ⟨D0, ys, rfl, .inl ⟨SqL.of eD, fun p hp => ?_⟩⟩
      have S4 := S3.new (o := .tup ys) hp
      have l4 : Lx st H (upd H3 p (.tup ys)) := ((l1.trans l2).trans l3).trans (Lx.of (same_new hp))
      have r4 : Rp (upd H3 p (.tup ys)) (.tup (dVals xs)) (.ref p) := Rp.tupOf upd_same (hys.ts (Tst.new hp))
      generalize upd H3 p (.tup ys) = H4 at S4 l4 r4
      walk_at "rx"
      refine iteD (fun c6 => ?_) (fun c6 => ?_)
      · walk_at "rx"
        refine ⟨le_line rfl, fun p2 hp2 => ?_⟩
        refine q (.list xs) _ _ (okVal_list hxs (by omega)) (l4.trans (Lx.of (same_new hp2))) (S4.new hp2) ?_
        rw [dVal]
        exact Rp.tupOf upd_same (RpL.cons rfl (RpL.cons (r4.ts (Tst.new hp2)) RpL.nil))
      · walk_at "rx"
        refine ⟨st, dr, rfl, S4, fun z v H5 hz l5 S5 hv => ?_⟩
        obtain rfl : v = .str z := hv
        walk_at "rx"
        refine ⟨le_line rfl, fun p2 hp2 => ?_⟩
        refine q (.make z xs) _ _ (okVal_make hz hxs (by omega)) ((l4.trans l5).trans (Lx.of (same_new hp2))) (S5.new hp2) ?_
        rw [dVal]
        exact Rp.tupOf upd_same (RpL.cons rfl (RpL.cons rfl (RpL.cons ((r4.ts (S4.tst l5)).ts (Tst.new hp2)) RpL.nil)))
theorem ok_law_value (n : Nat) (T : Txt K mg) : Fc P w K mg base CX0 (n + 5) "_law_value" ["_law_state", "_law_depth"] (spVal n) := by
  induction n with
  | zero =>
    refine ⟨⟨fun vs H Q E h => ?_, fun A outer s H args us vs Q E hr he hb hv hs => ?_⟩, gm_law_value T, (fd_law_value T.says).kp, (fd_law_value T.says).bindsN fun _ _ _ _ _ _ us hl => match us, hl with | [_, _], _ => rfl⟩
    · obtain ⟨st, dr, e, rfl, _⟩ := h
      rfl
    · obtain ⟨st, dr, e, _, he, _⟩ := hs
      omega
  | succ n ih => exact ok_law_value_s ih T
end
end Q

/-! ## G5 -/
set_option Elab.async false
set_option linter.all false
set_option maxRecDepth 100000
set_option maxHeartbeats 4000000
namespace Q
open PySem PySem.Spec PyProof.Rows L2
local macro_rules | `(tactic| walk_at "rd") => `(tactic| repeat (first
  | ((with_reducible apply r_var); focus exact rfl)
  | with_reducible refine r_c ?_
  | with_reducible refine r_chain ?_
  | ((with_reducible apply r_aug); focus exact rfl)
  | with_reducible refine r_ip ?_
  | with_reducible refine r_op ?_
  | with_reducible refine r_I0 ?_
  | with_reducible refine r_cons ?_
  | with_reducible refine r_nil ?_
  | with_reducible refine r_seq ?_
  | with_reducible refine r_asg ?_
  | with_reducible refine r_gn ?_
  | with_reducible refine r_gcons ?_
  | with_reducible refine r_gnil ?_
  | with_reducible refine r_lc ?_
  | with_reducible refine r_m1 ?_
  | with_reducible refine r_sfld ?_
  | with_reducible refine r_sfa ?_
  | with_reducible refine r_rAdd ?_
  | with_reducible refine r_ret ?_
  | with_reducible refine r_ifS ?_
  | with_reducible refine r_test ?_
  | with_reducible refine r_bl ?_
  | with_reducible refine r_B ?_
  | with_reducible refine r_drop ?_
  | with_reducible refine r_bm ?_
  | with_reducible refine r_CB ?_
  | with_reducible refine r_call ?_
  | with_reducible refine r_meth ?_
  | with_reducible refine r_make ?_
  | with_reducible refine r_tup ?_
  | with_reducible refine r_lst ?_
  | ((with_reducible refine r_I ?_ ?_); focus (first | decide | exact ⟨by decide, by decide⟩ | exact .inl ⟨by decide, by decide⟩ | exact .inr ⟨by decide, by decide⟩ | omega))
  | with_reducible refine r_U ?_
  | with_reducible refine r_un ?_
  | with_reducible refine r_and ?_
  | with_reducible refine r_or ?_
  | with_reducible refine r_not ?_
  | with_reducible refine r_andV ?_
  | with_reducible refine r_orV ?_
  | with_reducible refine r_notV ?_
  | with_reducible refine r_if ?_
  | with_reducible refine r_sl ?_
  | with_reducible refine r_part ?_
  | with_reducible refine r_parti ?_
  | with_reducible refine r_nopart ?_
  | with_reducible refine r_il ?_
  | with_reducible refine r_it ?_
  | with_reducible refine r_ir ?_
  | with_reducible refine r_is ?_
  | with_reducible refine r_next ?_
  | with_reducible refine r_retN ?_
  | ((with_reducible refine r_eq ?_ ?_); focus exact rfl)
  | ((with_reducible refine r_ne ?_ ?_); focus exact rfl)))
local macro_rules | `(tactic| walk_at "rx") => `(tactic| repeat (first
  | ((with_reducible apply r_var); focus exact rfl)
  | with_reducible refine r_c ?_
  | with_reducible refine r_chain ?_
  | ((with_reducible apply r_aug); focus exact rfl)
  | with_reducible refine r_ip ?_
  | with_reducible refine r_op ?_
  | with_reducible refine r_I0 ?_
  | with_reducible refine r_cons ?_
  | with_reducible refine r_nil ?_
  | with_reducible refine r_seq ?_
  | with_reducible refine r_asg ?_
  | with_reducible refine r_gn ?_
  | with_reducible refine r_gcons ?_
  | with_reducible refine r_gnil ?_
  | with_reducible refine r_m1 ?_
  | with_reducible refine r_sfld ?_
  | with_reducible refine r_sfa ?_
  | with_reducible refine r_rAdd ?_
  | with_reducible refine r_ret ?_
  | with_reducible refine r_ifS ?_
  | with_reducible refine r_test ?_
  | with_reducible refine r_bl ?_
  | with_reducible refine r_B ?_
  | with_reducible refine r_drop ?_
  | with_reducible refine r_bm ?_
  | with_reducible refine r_CB ?_
  | with_reducible refine r_call ?_
  | with_reducible refine r_make ?_
  | with_reducible refine r_tup ?_
  | with_reducible refine r_lst ?_
  | ((with_reducible refine r_I ?_ ?_); focus (first | decide | exact ⟨by decide, by decide⟩ | exact .inl ⟨by decide, by decide⟩ | exact .inr ⟨by decide, by decide⟩ | omega))
  | with_reducible refine r_U ?_
  | with_reducible refine r_un ?_
  | with_reducible refine r_and ?_
  | with_reducible refine r_or ?_
  | with_reducible refine r_not ?_
  | with_reducible refine r_andV ?_
  | with_reducible refine r_orV ?_
  | with_reducible refine r_notV ?_
  | with_reducible refine r_if ?_
  | with_reducible refine r_sl ?_
  | with_reducible refine r_part ?_
  | with_reducible refine r_parti ?_
  | with_reducible refine r_nopart ?_
  | with_reducible refine r_il ?_
  | with_reducible refine r_it ?_
  | with_reducible refine r_ir ?_
  | with_reducible refine r_is ?_
  | with_reducible refine r_next ?_
  | with_reducible refine r_retN ?_
  | ((with_reducible refine r_eq ?_ ?_); focus exact rfl)
  | ((with_reducible refine r_ne ?_ ?_); focus exact rfl)))
section
variable {P : Program} {w : World} {K : PySem.W.Frag} {mg : Str → Option Value} {base : Heap}
/-! ### outcomes, kinds, cells, deeds -/
theorem okS_nil : okS "" := by decide +kernel
def okOut (x : Out) : Prop := okO x ∧ (wOut x).length ≤ 11020
def flt6 : List Str := ["division", "deep", "large", "", "stuck", "long"]
theorem flt6_at {k : Nat} (h : k < 6) (h3 : k ≠ 3) : (flt6.map V.str)[k]? = some (.str (faults.getD k "")) := by
  match k, h, h3 with
  | 0, _, _ => rfl
  | 1, _, _ => rfl
  | 2, _, _ => rfl
  | 4, _, _ => rfl
  | 5, _, _ => rfl
theorem okW.mono {n m : Nat} {z : Str} (h : okW n z) (k : n ≤ m) : okW m z := ⟨h.1, Nat.le_trans h.2 k⟩
theorem ok_law_outcome  (T : Txt K mg) : Fc P w K mg base CX0 (10) "_law_outcome" ["_law_state"] (spGn dOut okOut) := by
  refine ⟨?_, gm_law_outcome T, (fd_law_outcome T.says).kp, (fd_law_outcome T.says).bindsN fun _ _ _ _ _ _ us hl => match us, hl with | [_], _ => rfl⟩
  refine (fd_law_outcome T.says).ok sc_law_outcome (fun vs H Q E h => by first | (obtain ⟨_, rfl, _⟩ := h; rfl) | (obtain ⟨_, _, rfl, _⟩ := h; rfl) | (obtain ⟨_, _, _, rfl, _⟩ := h; rfl) | (obtain ⟨_, _, _, _, rfl, _⟩ := h; rfl) | (obtain ⟨_, _, _, _, _, rfl, _⟩ := h; rfl) | (obtain ⟨_, _, _, _, _, _, rfl, _⟩ := h; rfl) | (obtain ⟨_, _, _, _, _, _, _, rfl, _⟩ := h; rfl) | (obtain ⟨_, _, _, _, _, _, _, _, rfl, _⟩ := h; rfl) | (obtain ⟨_, _, _, _, _, _, _, _, _, rfl, _⟩ := h; rfl)) (fun cdv A outer s H vs Q E hr h => ?_)
  obtain ⟨st, dr, rfl, hS, q⟩ := h
  refine ⟨_, PSs.nox (pss_cons (ps_set (i := 1) sc_law_outcome.nd rfl (Or.inl rfl) (pe_f (ok_law_next T) (hr.mono (by omega)) (by rfl) (pa_cons (pv 0) (pa_cons pe_int pa_nil))))
      (pss_cons (ps_if (pt_cmpR op_gt (pv 1) pe_int (nomark _)) (pss_one (ps_ret (pe_tup (pa_cons pe_str (pa_cons (pe_f (ok_law_value 4 T) (hr.mono (by omega)) (by rfl) (pa_cons (pv 0) (pa_cons pe_int pa_nil))) pa_nil))))) pss_nil)
      (pss_cons (ps_if (pt_cmpR op_eq (pv 1) pe_int (nomark _)) (pss_one (ps_ret (pe_tup (pa_cons pe_str (pa_cons (pe_tup (pa_cons pe_str (pa_cons (pe_f (ok_law_word T) (hr.mono (by omega)) (by rfl) (pa_cons (pv 0) pa_nil)) pa_nil))) pa_nil))))) pss_nil)
      (pss_one (ps_ret (pe_tup (pa_cons pe_str (pa_cons (pe_tup (pa_cons (pe_ix ix_list (pe_lst (pa_cons pe_str (pa_cons pe_str (pa_cons pe_str (pa_cons pe_str (pa_cons pe_str (pa_cons pe_str pa_nil))))))) (pv 1) (fun _ _ => rfl)) pa_nil)) pa_nil)))))))), ?_⟩
  walk_at "rx"
  refine ⟨st, dr, 12, rfl, by decide, hS, fun k1 H1 hk1 l1 S1 => ?_⟩
  walk_at "rx"
  refine iteD (fun c => ?_) (fun c => ?_)
  · walk_at "rx"
    refine ⟨st, dr, 3, rfl, by decide, by decide, S1, fun x v H2 hx l2 S2 hv => ?_⟩
    walk_at "rx"
    refine ⟨le_line rfl, fun p hp => ?_⟩
    refine q (.val x) _ _ ⟨⟨Nat.le_trans hx.dp (by decide), hx.ok⟩, ?_⟩ ((l1.trans l2).trans (Lx.of (same_new hp))) (S2.new hp) (Rp.tupOf upd_same (RpL.cons rfl (RpL.cons (hv.ts (Tst.new hp)) RpL.nil)))
    have := hx.ln
    have : lvB 3 = 11000 := by decide
    show (wVal x).length + 1 ≤ _
    omega
  walk_at "rx"
  refine iteI (fun c2 => ?_) (fun c2 => ?_)
  · walk_at "rx"
    refine ⟨st, dr, rfl, S1, fun z v H2 hz l2 S2 hv => ?_⟩
    obtain rfl : v = .str z := hv
    walk_at "rx"
    refine ⟨le_line rfl, fun p hp => ?_⟩
    walk_at "rx"
    refine ⟨le_line rfl, fun p2 hp2 => ?_⟩
    have hzl := hz.len (by decide)
    refine q (.flt 3 z) _ _ ⟨⟨by decide, hz.1⟩, ?_⟩ (((l1.trans l2).trans (Lx.of (same_new hp))).trans (Lx.of (same_new hp2))) ((S2.new hp).new hp2) (Rp.tupOf upd_same (RpL.cons rfl (RpL.cons (Rp.ts (Tst.new hp2) (Rp.tupOf upd_same (RpL.cons rfl (RpL.cons rfl RpL.nil)))) RpL.nil)))
    show (wStr z).length + 1 + 1 ≤ _
    omega
  · walk_at "rx"
    refine ⟨le_line rfl, fun p0 hp0 => ?_⟩
    have e0 : upd H1 p0 (.lst [.str "division", .str "deep", .str "large", .str "", .str "stuck", .str "long"]) p0 = some (.lst (flt6.map V.str)) := upd_same
    have h3 : k1 ≠ 3 := fun z => c2 (by omega)
    walk_at "rx"
    refine r_ixL e0 (atI_nat (flt6_at (by omega) h3)) ?_
    walk_at "rx"
    refine ⟨le_line rfl, fun p hp => ?_⟩
    walk_at "rx"
    refine ⟨le_line rfl, fun p2 hp2 => ?_⟩
    refine q (.flt k1 "") _ _ ⟨⟨by omega, okS_nil⟩, ?_⟩ (((l1.trans (Lx.of (same_new hp0))).trans (Lx.of (same_new hp))).trans (Lx.of (same_new hp2))) (((S1.new hp0).new hp).new hp2) (Rp.tupOf upd_same (RpL.cons rfl (RpL.cons ?_ RpL.nil)))
    · rw [wFlt, if_neg h3]
      exact (show 2 ≤ 11020 by decide)
    · unfold dFlt
      rw [if_neg h3]
      exact Rp.ts (Tst.new hp2) (Rp.tupOf upd_same (RpL.cons rfl RpL.nil))
def okKd (k : Kind) : Prop := okK k ∧ (wKind k).length ≤ 12
def levs5 : List Nat := [0, 1, 2, 12, 130]
def bass5 : List Str := ["num", "text", "bool", "d", "tree_2"]
theorem levs5_ok : ∀ n ∈ levs5, n < 16384 := by decide
theorem bass5_ok : ∀ z ∈ bass5, okS z ∧ z.cps.toList.length ≤ 6 := by decide +kernel
theorem okKd_of {n : Nat} {z : Str} (hn : n < 16384) (hz : okW 6 z) : okKd (n, z) := by
  have h1 := wNum_le 1 n hn
  have h2 := hz.len (by decide)
  refine ⟨⟨show (wNum n).length ≤ 60 by omega, hz.1⟩, ?_⟩
  unfold wKind
  split
  · rw [List.length_append]
    show (wNum n).length + 1 ≤ 12
    omega
  · rw [List.length_append, List.length_cons]
    show (wNum n).length + ((wStr z).length + 1) ≤ _
    omega
theorem ok_law_shape_kind  (T : Txt K mg) : Fc P w K mg base CX0 (4) "_law_shape_kind" ["_law_state"] (spGn dKind okKd) := by
  refine ⟨?_, gm_law_shape_kind T, (fd_law_shape_kind T.says).kp, (fd_law_shape_kind T.says).bindsN fun _ _ _ _ _ _ us hl => match us, hl with | [_], _ => rfl⟩
  refine (fd_law_shape_kind T.says).ok sc_law_shape_kind (fun vs H Q E h => by first | (obtain ⟨_, rfl, _⟩ := h; rfl) | (obtain ⟨_, _, rfl, _⟩ := h; rfl) | (obtain ⟨_, _, _, rfl, _⟩ := h; rfl) | (obtain ⟨_, _, _, _, rfl, _⟩ := h; rfl) | (obtain ⟨_, _, _, _, _, rfl, _⟩ := h; rfl) | (obtain ⟨_, _, _, _, _, _, rfl, _⟩ := h; rfl) | (obtain ⟨_, _, _, _, _, _, _, rfl, _⟩ := h; rfl) | (obtain ⟨_, _, _, _, _, _, _, _, rfl, _⟩ := h; rfl) | (obtain ⟨_, _, _, _, _, _, _, _, _, rfl, _⟩ := h; rfl)) (fun cdv A outer s H vs Q E hr h => ?_)
  obtain ⟨st, dr, rfl, hS, q⟩ := h
  refine ⟨_, PSs.nox (pss_one (ps_ret (pe_tup (pa_cons (pe_ix ix_list (pe_lst (pa_cons pe_int (pa_cons pe_int (pa_cons pe_int (pa_cons pe_int (pa_cons pe_int pa_nil)))))) (pe_f (ok_law_next T) (hr.mono (by omega)) (by rfl) (pa_cons (pv 0) (pa_cons pe_int pa_nil))) (fun _ _ => rfl)) (pa_cons (pe_ix ix_list (pe_lst (pa_cons pe_str (pa_cons pe_str (pa_cons pe_str (pa_cons pe_str (pa_cons pe_str pa_nil)))))) (pe_f (ok_law_next T) (hr.mono (by omega)) (by rfl) (pa_cons (pv 0) (pa_cons pe_int pa_nil))) (fun _ _ => rfl)) pa_nil))))), ?_⟩
  walk_at "rx"
  refine ⟨le_line rfl, fun p hp => ?_⟩
  have e1 : upd H p (.lst [.int 0, .int 1, .int 2, .int 12, .int 130]) p = some (.lst (levs5.map fun n : Nat => V.int (n : Int))) := upd_same
  have S1 := hS.new (o := .lst [.int 0, .int 1, .int 2, .int 12, .int 130]) hp
  have l1 : Lx st H (upd H p (.lst [.int 0, .int 1, .int 2, .int 12, .int 130])) := Lx.of (same_new hp)
  generalize upd H p (.lst [.int 0, .int 1, .int 2, .int 12, .int 130]) = H1 at e1 S1 l1
  walk_at "rx"
  refine ⟨st, dr, 5, rfl, by decide, S1, fun k H2 hk l2 S2 => ?_⟩
  refine r_lit (l2.1 _ _ (hS.ne hp) e1) (show k < 5 by omega) fun n hn => ?_
  walk_at "rx"
  refine ⟨le_line rfl, fun p3 hp3 => ?_⟩
  have e3 : upd H2 p3 (.lst [.str "num", .str "text", .str "bool", .str "d", .str "tree_2"]) p3 = some (.lst (bass5.map V.str)) := upd_same
  have S3 := S2.new (o := .lst [.str "num", .str "text", .str "bool", .str "d", .str "tree_2"]) hp3
  have l3 : Lx st H (upd H2 p3 (.lst [.str "num", .str "text", .str "bool", .str "d", .str "tree_2"])) := (l1.trans l2).trans (Lx.of (same_new hp3))
  generalize upd H2 p3 (.lst [.str "num", .str "text", .str "bool", .str "d", .str "tree_2"]) = H3 at e3 S3 l3
  walk_at "rx"
  refine ⟨st, dr, 5, rfl, by decide, S3, fun k4 H4 hk4 l4 S4 => ?_⟩
  refine r_lit (l4.1 _ _ (S2.ne hp3) e3) (show k4 < 5 by omega) fun z hz => ?_
  walk_at "rx"
  refine ⟨le_line rfl, fun p5 hp5 => ?_⟩
  exact q (n, z) _ _ (okKd_of (levs5_ok n hn) (bass5_ok z hz)) ((l3.trans l4).trans (Lx.of (same_new hp5))) (S4.new hp5) (Rp.tupOf upd_same (RpL.cons rfl (RpL.cons rfl RpL.nil)))
def okDe (d : Deed) : Prop := okD d ∧ (wDeed d).length ≤ 920
def okMkB (m : Mark) : Prop := okMk m ∧ (wMark m).length ≤ 21
theorem okMk_of {n k : Nat} (hn : okBig n) (hk : k < 128) : okMkB (n, k) := by
  have h1 := hn.len
  refine ⟨⟨show (wNum n).length ≤ 60 by omega, show (wNum k).length ≤ 60 by rw [wNum_lt hk]; exact (show 1 ≤ 60 by decide)⟩, ?_⟩
  rw [wMark, List.length_append]
  show (wNum n).length + (wNum k).length ≤ _
  rw [wNum_lt hk]
  show _ + 1 ≤ _
  omega
theorem RpL.gen {α : Type} {f : α → D} {P : α → Prop} : ∀ {ds : List D}, (∀ d ∈ ds, ∃ x, P x ∧ d = f x) → ∃ xs : List α, ds = xs.map f ∧ (∀ x ∈ xs, P x) ∧ xs.length = ds.length
  | [], _ => ⟨[], rfl, by simp, rfl⟩
  | d :: ds, h => by
    obtain ⟨x, hx, rfl⟩ := h d List.mem_cons_self
    obtain ⟨xs, e, h2, h3⟩ := RpL.gen fun y hy => h y (List.mem_cons_of_mem _ hy)
    refine ⟨x :: xs, by rw [e]; rfl, fun y hy => ?_, by rw [List.length_cons, h3, List.length_cons]⟩
    rcases List.mem_cons.mp hy with e | hy
    · rw [e]
      exact hx
    · exact h2 y hy
theorem flat_le {α : Type} {w : α → List Nat} {b : Nat} : ∀ {l : List α}, (∀ x ∈ l, (w x).length ≤ b) → ((l.map w).flatten).length ≤ l.length * b
  | [], _ => Nat.zero_le _
  | x :: l, h => by
    rw [List.map_cons, List.flatten_cons, List.length_append, List.length_cons, Nat.succ_mul]
    have := h x List.mem_cons_self
    have := flat_le fun y hy => h y (List.mem_cons_of_mem _ hy)
    omega
theorem wL_le {α : Type} {w : α → List Nat} {b m : Nat} {l : List α} (h : ∀ x ∈ l, (w x).length ≤ b) (hl : l.length ≤ m) (hm : m < 128) : (wL w l).length ≤ 1 + m * b := by
  rw [wL, List.length_append, wNum_lt (by omega)]
  have := flat_le h
  have : l.length * b ≤ m * b := Nat.mul_le_mul_right _ hl
  show 1 + _ ≤ _
  omega
theorem ok_law_any_deed  (T : Txt K mg) : Fc P w K mg base CX0 (5) "_law_any_deed" ["_law_state"] (spGn dDeed okDe) := by
  refine ⟨?_, gm_law_any_deed T, (fd_law_any_deed T.says).kp, (fd_law_any_deed T.says).bindsN fun _ _ _ _ _ _ us hl => match us, hl with | [_], _ => rfl⟩
  refine (fd_law_any_deed T.says).ok sc_law_any_deed (fun vs H Q E h => by first | (obtain ⟨_, rfl, _⟩ := h; rfl) | (obtain ⟨_, _, rfl, _⟩ := h; rfl) | (obtain ⟨_, _, _, rfl, _⟩ := h; rfl) | (obtain ⟨_, _, _, _, rfl, _⟩ := h; rfl) | (obtain ⟨_, _, _, _, _, rfl, _⟩ := h; rfl) | (obtain ⟨_, _, _, _, _, _, rfl, _⟩ := h; rfl) | (obtain ⟨_, _, _, _, _, _, _, rfl, _⟩ := h; rfl) | (obtain ⟨_, _, _, _, _, _, _, _, rfl, _⟩ := h; rfl) | (obtain ⟨_, _, _, _, _, _, _, _, _, rfl, _⟩ := h; rfl)) (fun cdv A outer s H vs Q E hr h => ?_)
  obtain ⟨st, dr, rfl, hS, q⟩ := h
  refine ⟨_, PSs.nox (pss_cons (ps_if (pt_cmpR op_eq (pe_f (ok_law_next T) (hr.mono (by omega)) (by rfl) (pa_cons (pv 0) (pa_cons pe_int pa_nil))) pe_int (nomark _)) (pss_one (ps_ret (pe_tup (pa_cons pe_str (pa_cons (pe_f (ok_law_big T) (hr.mono (by omega)) (by rfl) (pa_cons (pv 0) pa_nil)) pa_nil))))) pss_nil)
      (pss_cons (ps_setLc (i := 1) (own := [("_law_k", 3)]) (g := gName 3) (tt := tYes) rfl sc_law_any_deed.nd rfl rfl (sw_true rfl rfl rfl (by decide +kernel)) (pi_range1 (by rfl) (n_range T) (pa_cons (pe_f (ok_law_next T) (hr.mono (by omega)) (by rfl) (pa_cons (pv 0) (pa_cons pe_int pa_nil))) pa_nil)) (blkOk_by (N := ["_law_state", "_law_removed", "_law_behind", "_law_k"]) (sc := defScope s_law_any_deed) (by decide +kernel)) (fun _ _ _ _ _ => (pg_name (i := 3) sc_law_any_deed.nd rfl (Or.inl rfl))) (fun _ _ _ _ _ => pts_nil) (fun _ _ _ _ _ => (pe_tup (pa_cons (pe_f (ok_law_big T) (hr.mono (by omega)) (by rfl) (pa_cons (pv 0) pa_nil)) (pa_cons (pe_f (ok_law_next T) (hr.mono (by omega)) (by rfl) (pa_cons (pv 0) (pa_cons pe_int pa_nil))) pa_nil)))))
      (pss_cons (ps_if (pt_cmpR op_eq (pe_f (ok_law_next T) (hr.mono (by omega)) (by rfl) (pa_cons (pv 0) (pa_cons pe_int pa_nil))) pe_int (nomark _)) (pss_one (ps_setLc (i := 1) (own := [("_law_k", 3)]) (g := gName 3) (tt := tYes) rfl sc_law_any_deed.nd rfl rfl (sw_true rfl rfl rfl (by decide +kernel)) (pi_range1 (by rfl) (n_range T) (pa_cons pe_int pa_nil)) (blkOk_by (N := ["_law_state", "_law_removed", "_law_behind", "_law_k"]) (sc := defScope s_law_any_deed) (by decide +kernel)) (fun _ _ _ _ _ => (pg_name (i := 3) sc_law_any_deed.nd rfl (Or.inl rfl))) (fun _ _ _ _ _ => pts_nil) (fun _ _ _ _ _ => (pe_tup (pa_cons (pe_op op_add (pv 3) pe_int) (pa_cons pe_int pa_nil)))))) pss_nil)
      (pss_cons (ps_set (i := 2) sc_law_any_deed.nd rfl (Or.inl rfl) (pe_ix ix_list (pe_lst (pa_cons pe_non (pa_cons (pe_tup (pa_cons (pe_f (ok_law_big T) (hr.mono (by omega)) (by rfl) (pa_cons (pv 0) pa_nil)) (pa_cons (pe_f (ok_law_next T) (hr.mono (by omega)) (by rfl) (pa_cons (pv 0) (pa_cons pe_int pa_nil))) pa_nil))) pa_nil))) (pe_f (ok_law_next T) (hr.mono (by omega)) (by rfl) (pa_cons (pv 0) (pa_cons pe_int pa_nil))) (fun _ _ => rfl)))
      (pss_one (ps_ret (pe_tup (pa_cons pe_str (pa_cons (pe_f (ok_law_word T) (hr.mono (by omega)) (by rfl) (pa_cons (pv 0) pa_nil)) (pa_cons (pe_callTy call_tuple_of (by rfl) (n_tuple T) (by decide +kernel) (pa_cons (pv 1) pa_nil)) (pa_cons (pv 2) (pa_cons (pe_f (ok_law_big T) (hr.mono (by omega)) (by rfl) (pa_cons (pv 0) pa_nil)) (pa_cons (pe_f (ok_law_text_of T) (hr.mono (by omega)) (by rfl) (pa_cons (pv 0) pa_nil)) pa_nil))))))))))))), ?_⟩
  walk_at "rx"
  refine ⟨st, dr, 4, rfl, by decide, hS, fun k1 H1 hk1 l1 S1 => ?_⟩
  walk_at "rx"
  refine iteI (fun c => ?_) (fun c => ?_)
  · walk_at "rx"
    refine ⟨st, dr, rfl, S1, fun b v H2 hb l2 S2 hv => ?_⟩
    obtain rfl : v = .int b := hv
    walk_at "rx"
    refine ⟨le_line rfl, fun p hp => ?_⟩
    have h1 := hb.len
    refine q (.back b) _ _ ⟨show (wNum b).length ≤ 60 by omega, ?_⟩ ((l1.trans l2).trans (Lx.of (same_new hp))) (S2.new hp) (Rp.tupOf upd_same (RpL.cons rfl (RpL.cons rfl RpL.nil)))
    show (wNum b).length + 1 ≤ _
    omega
  walk_at "rx"
  refine r_lc ?_
  walk_at "rx"
  refine ⟨st, dr, 4, rfl, by decide, S1, fun k H2 hk l2 S2 => ?_⟩
  walk_at "rx"
  refine ⟨_, rfl, by omega, by omega, fun D0 hD => ?_⟩
  rw [show ((k : Nat) : Int).toNat = k from rfl]
  refine lc_exE (xs := upto k) (Ex := fun _ H' => StAt H' st dr) (Pd := fun d => ∃ x, okMkB x ∧ d = dMark x) (Fr := Lx st) (Wk.rng (I := fun _ => True)) S2.frm hD (fun _ _ => trivial) (by rw [upto_len]; have : cap = 8000000 := rfl; omega) (S2.new hD) (fun _ H' ys zs _ hh _ => hh.updD (S2.ne hD) (S2.ne2 hD)) ?_ ?_
  · intro i x H3 Q3 hx l3 S3 kq
    refine ⟨wipe1, ?_⟩
    walk_at "rx"
    refine ⟨st, dr, rfl, S3, fun b v H4 hb l4 S4 hv => ?_⟩
    obtain rfl : v = .int b := hv
    walk_at "rx"
    refine ⟨st, dr, 9, rfl, by decide, S4, fun k5 H5 hk5 l5 S5 => ?_⟩
    walk_at "rx"
    refine ⟨le_line rfl, fun p hp => ?_⟩
    exact kq _ _ _ ((l4.trans l5).trans (Lx.of (same_new hp))) ⟨(b, k5), okMk_of hb (by omega), rfl⟩ (Rp.tupOf upd_same (RpL.cons rfl (RpL.cons rfl RpL.nil))) (S5.new hp)
  intro H3 ys ds l3 S3 eD hys hlen hpd
  obtain ⟨xs, rfl, hxs, hlx⟩ := RpL.gen hpd
  rw [upto_len] at hlen
  have l03 := (l1.trans l2).trans l3
  -- what follows, whatever the marks are
  have fin : ∀ (H5 : Hp) (Dm : Addr) (zs : List V) (ms : List Mark) (v3 : Option V), Lx st H H5 → StAt H5 st dr → Dm ≠ st → H5 Dm = some (.lst zs) → RpL H5 (ms.map dMark) zs → (∀ m ∈ ms, okMk m) → (wL wMark ms).length ≤ 400 →
      tSeq (tAsg (tOp (rIxL K) (tLst (tCons (tC .non) (tCons (tTup (tCons (tCall (spGn dNum okBig) [] E0 (tCons (tVar 0) tNil)) (tCons (tCall spNext [] E0 (tCons (tVar 0) (tCons (tC (.int 9)) tNil))) tNil))) tNil))) (tCall spNext [] E0 (tCons (tVar 0) (tCons (tC (.int 2)) tNil)))) (gName 2))
        (tRet (tTup (tCons (tC (.str "change")) (tCons (tCall (spGn dStr (okW 130)) [] E0 (tCons (tVar 0) tNil)) (tCons (tCB (fun xs H Q => ∃ p ys, xs = [.ref p] ∧ ((SqL K H p ys ∧ ∀ l, H l = none → Q (.ref l) (upd H l (.tup ys))) ∨ (SqT K H p ys ∧ Q (.ref p) H))) (tCons (tVar 1) tNil))
          (tCons (tVar 2) (tCons (tCall (spGn dNum okBig) [] E0 (tCons (tVar 0) tNil)) (tCons (tCall (spGn dStr (okW 330)) [] E0 (tCons (tVar 0) tNil)) tNil))))))))
        { nx := fun _ H' => Q .non H', rt := Q } [some (.ref st), some (.ref Dm), none, v3] H5 := by
    intro H5 Dm zs ms v3 l5 S5 nDm eDm hzs hms hml
    walk_at "rx"
    refine ⟨st, dr, rfl, S5, fun b v H6 hb l6 S6 hv => ?_⟩
    obtain rfl : v = .int b := hv
    walk_at "rx"
    refine ⟨st, dr, 9, rfl, by decide, S6, fun k7 H7 hk7 l7 S7 => ?_⟩
    walk_at "rx"
    refine ⟨le_line rfl, fun p hp => ?_⟩
    walk_at "rx"
    refine ⟨le_line rfl, fun pl hpl => ?_⟩
    have hm : Rp (upd (upd H7 p (.tup [.int (b : Nat), .int (k7 : Nat)])) pl (.lst [.non, .ref p])) (dMark (b, k7)) (.ref p) := Rp.ts (Tst.new hpl) (Rp.tupOf upd_same (RpL.cons rfl (RpL.cons rfl RpL.nil)))
    have S8 := (S7.new (o := .tup [.int (b : Nat), .int (k7 : Nat)]) hp).new (o := .lst [.non, .ref p]) hpl
    have l78 : Lx st H7 (upd (upd H7 p (.tup [.int (b : Nat), .int (k7 : Nat)])) pl (.lst [.non, .ref p])) := (Lx.of (same_new hp)).trans (Lx.of (same_new hpl))
    have el : upd (upd H7 p (.tup [.int (b : Nat), .int (k7 : Nat)])) pl (.lst [.non, .ref p]) pl = some (.lst (([.non, .ref p] : List V).map fun v => v)) := upd_same
    have nel : pl ≠ st := (S7.new hp).ne hpl
    generalize upd (upd H7 p (.tup [.int (b : Nat), .int (k7 : Nat)])) pl (.lst [.non, .ref p]) = H8 at hm S8 l78 el
    walk_at "rx"
    refine ⟨st, dr, 2, rfl, by decide, S8, fun k9 H9 hk9 l9 S9 => ?_⟩
    refine r_lit (l9.1 _ _ nel el) (show k9 < 2 by omega) fun bv hbv => ?_
    have hm9 := hm.ts (S8.tst l9)
    have l59 := ((l6.trans l7).trans l78).trans l9
    have hbeh : ∃ beh : Option Mark, Rp H9 (dOpt beh) bv ∧ (∀ x, beh = some x → okMk x) ∧ (wOpt beh).length ≤ 22 := by
      have hb2 : bv = .non ∨ bv = .ref p := by simpa using hbv
      rcases hb2 with rfl | rfl
      · exact ⟨none, rfl, (fun x e => nomatch e), by decide⟩
      · have := okMk_of hb (show k7 < 128 by omega)
        refine ⟨some (b, k7), hm9, (fun x e => by cases e; exact this.1), ?_⟩
        show (wMark (b, k7)).length + 1 ≤ _
        have := this.2
        omega
    obtain ⟨beh, rb, okb, lb⟩ := hbeh
    have e9 := l59.1 _ _ nDm eDm
    have h9 := hzs.ts (S5.tst l59)
    have l09 := l5.trans l59
    walk_at "rx"
    refine ⟨st, dr, rfl, S9, fun z v HA hz lA SA hv => ?_⟩
    obtain rfl : v = .str z := hv
    walk_at "rx"
    refine ⟨Dm, zs, rfl, .inl ⟨SqL.of (lA.1 _ _ nDm e9), fun pt hpt => ?_⟩⟩
    have rt : Rp (upd HA pt (.tup zs)) (.tup (ms.map dMark)) (.ref pt) := Rp.tupOf upd_same ((h9.ts (S9.tst lA)).ts (Tst.new hpt))
    have SB := SA.new (o := .tup zs) hpt
    have lB : Lx st H9 (upd HA pt (.tup zs)) := lA.trans (Lx.of (same_new hpt))
    generalize upd HA pt (.tup zs) = HB at rt SB lB
    have rbB := rb.ts (S9.tst lB)
    walk_at "rx"
    refine ⟨st, dr, rfl, SB, fun nb v HC hnb lC SC hv => ?_⟩
    obtain rfl : v = .int nb := hv
    walk_at "rx"
    refine ⟨st, dr, rfl, SC, fun tx v HD htx lD SD hv => ?_⟩
    obtain rfl : v = .str tx := hv
    walk_at "rx"
    refine ⟨le_line rfl, fun pz hpz => ?_⟩
    have tBD := SB.tst (lC.trans lD)
    have hzl := hz.len (by decide)
    have htl := htx.len (by decide)
    have hnl := hnb.len
    refine q (.change z ms beh nb tx) _ _ ⟨⟨hz.1, hms, okb, show (wNum nb).length ≤ 60 by omega, htx.1⟩, ?_⟩ ((((l09.trans lB).trans lC).trans lD).trans (Lx.of (same_new hpz))) (SD.new hpz)
      (Rp.tupOf upd_same (RpL.cons rfl (RpL.cons rfl (RpL.cons ((rt.ts tBD).ts (Tst.new hpz)) (RpL.cons ((rbB.ts tBD).ts (Tst.new hpz)) (RpL.cons rfl (RpL.cons rfl RpL.nil)))))))
    simp only [wDeed, List.length_append, List.length_cons]
    omega
  have hml : (wL wMark xs).length ≤ 400 := Nat.le_trans (wL_le (b := 21) (m := 3) (fun m hm => (hxs m hm).2) (by omega) (by decide)) (by decide)
  walk_at "rx"
  refine ⟨st, dr, 20, rfl, by decide, S3, fun k4 H4 hk4 l4 S4 => ?_⟩
  have nD0 := S2.ne hD
  walk_at "rx"
  refine iteI (fun c20 => ?_) (fun c20 => ?_)
  · walk_at "rx"
    refine r_lc ?_
    walk_at "rx"
    refine ⟨130, rfl, by decide, by decide, fun D1 hD1 => ?_⟩
    have S4' := S4
    refine lc_rp (xs := upto 130) (ds := (List.range 130).map fun i => dMark (i + 1, 0)) (Fr := Same) (Wk.rng (I := fun _ => True)) FrmOk.same hD1 (fun _ _ => trivial) (by rw [upto_len, List.length_map, List.length_range]) (by rw [upto_len]; decide) ?_ ?_
    · intro i x dd H5 Q5 hx hdd s5 kq
      obtain ⟨i', hi', e⟩ := getElem_map_some hx
      obtain rfl : x = .int (i' : Int) := e
      rw [List.getElem?_map, hi'] at hdd
      obtain rfl := Option.some.inj hdd
      refine ⟨wipe1, ?_⟩
      walk_at "rx"
      refine ⟨le_line rfl, fun p hp => ?_⟩
      exact kq _ _ (same_new hp) (Rp.tupOf upd_same (RpL.cons rfl (RpL.cons rfl RpL.nil)))
    · intro H5 zs s5 eD1 hzs
      have S5 := S4.same s5
      have l5 : Lx st H H5 := (l03.trans l4).trans (Lx.of s5)
      refine fin H5 D1 zs ((List.range 130).map fun i => (i + 1, 0)) _ l5 S5 (S4.ne hD1) eD1 (by rw [List.map_map]; exact hzs) (fun m hm => ?_) ?_
      · obtain ⟨i, hi, rfl⟩ := List.mem_map.mp hm
        rw [List.mem_range] at hi
        exact (okMk_of (show okBig (i + 1) from Nat.lt_of_le_of_lt (show i + 1 ≤ 130 by omega) (by decide)) (by decide)).1
      · have hb : ∀ m ∈ ((List.range 130).map fun i => ((i + 1, 0) : Mark)), (wMark m).length ≤ 3 := fun m hm => by
          obtain ⟨i, hi, rfl⟩ := List.mem_map.mp hm
          rw [List.mem_range] at hi
          have := wNum_le 1 (i + 1) (by show _ < 16384; omega)
          rw [wMark, List.length_append]
          show (wNum (i + 1)).length + (wNum 0).length ≤ _
          rw [wNum_lt (show 0 < 128 by decide)]
          show _ + 1 ≤ _
          omega
        have h1 := flat_le hb
        rw [List.length_map, List.length_range] at h1
        rw [wL, List.length_append, List.length_map, List.length_range]
        have := wNum_le 1 130 (by decide)
        omega
  · refine fin H4 D0 ys xs none (l03.trans l4) S4 nD0 (l4.1 _ _ nD0 eD) (hys.ts (S3.tst l4)) (fun m hm => (hxs m hm).1) hml
end
end Q

/-! ## G6 -/
set_option Elab.async false
set_option linter.all false
set_option maxRecDepth 100000
set_option maxHeartbeats 4000000
namespace Q
open PySem PySem.Spec PyProof.Rows L2
local macro_rules | `(tactic| walk_at "rd") => `(tactic| repeat (first
  | ((with_reducible apply r_var); focus exact rfl)
  | with_reducible refine r_c ?_
  | with_reducible refine r_chain ?_
  | ((with_reducible apply r_aug); focus exact rfl)
  | with_reducible refine r_ip ?_
  | with_reducible refine r_op ?_
  | with_reducible refine r_I0 ?_
  | with_reducible refine r_cons ?_
  | with_reducible refine r_nil ?_
  | with_reducible refine r_seq ?_
  | with_reducible refine r_asg ?_
  | with_reducible refine r_gn ?_
  | with_reducible refine r_gcons ?_
  | with_reducible refine r_gnil ?_
  | with_reducible refine r_lc ?_
  | with_reducible refine r_m1 ?_
  | with_reducible refine r_sfld ?_
  | with_reducible refine r_sfa ?_
  | with_reducible refine r_rAdd ?_
  | with_reducible refine r_ret ?_
  | with_reducible refine r_ifS ?_
  | with_reducible refine r_test ?_
  | with_reducible refine r_bl ?_
  | with_reducible refine r_B ?_
  | with_reducible refine r_drop ?_
  | with_reducible refine r_bm ?_
  | with_reducible refine r_CB ?_
  | with_reducible refine r_call ?_
  | with_reducible refine r_meth ?_
  | with_reducible refine r_make ?_
  | with_reducible refine r_tup ?_
  | with_reducible refine r_lst ?_
  | ((with_reducible refine r_I ?_ ?_); focus (first | decide | exact ⟨by decide, by decide⟩ | exact .inl ⟨by decide, by decide⟩ | exact .inr ⟨by decide, by decide⟩ | omega))
  | with_reducible refine r_U ?_
  | with_reducible refine r_un ?_
  | with_reducible refine r_and ?_
  | with_reducible refine r_or ?_
  | with_reducible refine r_not ?_
  | with_reducible refine r_andV ?_
  | with_reducible refine r_orV ?_
  | with_reducible refine r_notV ?_
  | with_reducible refine r_if ?_
  | with_reducible refine r_sl ?_
  | with_reducible refine r_part ?_
  | with_reducible refine r_parti ?_
  | with_reducible refine r_nopart ?_
  | with_reducible refine r_il ?_
  | with_reducible refine r_it ?_
  | with_reducible refine r_ir ?_
  | with_reducible refine r_is ?_
  | with_reducible refine r_next ?_
  | with_reducible refine r_retN ?_
  | ((with_reducible refine r_eq ?_ ?_); focus exact rfl)
  | ((with_reducible refine r_ne ?_ ?_); focus exact rfl)))
local macro_rules | `(tactic| walk_at "rx") => `(tactic| repeat (first
  | ((with_reducible apply r_var); focus exact rfl)
  | with_reducible refine r_c ?_
  | with_reducible refine r_chain ?_
  | ((with_reducible apply r_aug); focus exact rfl)
  | with_reducible refine r_ip ?_
  | with_reducible refine r_op ?_
  | with_reducible refine r_I0 ?_
  | with_reducible refine r_cons ?_
  | with_reducible refine r_nil ?_
  | with_reducible refine r_seq ?_
  | with_reducible refine r_asg ?_
  | with_reducible refine r_gn ?_
  | with_reducible refine r_gcons ?_
  | with_reducible refine r_gnil ?_
  | with_reducible refine r_m1 ?_
  | with_reducible refine r_sfld ?_
  | with_reducible refine r_sfa ?_
  | with_reducible refine r_rAdd ?_
  | with_reducible refine r_ret ?_
  | with_reducible refine r_ifS ?_
  | with_reducible refine r_test ?_
  | with_reducible refine r_bl ?_
  | with_reducible refine r_B ?_
  | with_reducible refine r_drop ?_
  | with_reducible refine r_bm ?_
  | with_reducible refine r_CB ?_
  | with_reducible refine r_call ?_
  | with_reducible refine r_make ?_
  | with_reducible refine r_tup ?_
  | with_reducible refine r_lst ?_
  | ((with_reducible refine r_I ?_ ?_); focus (first | decide | exact ⟨by decide, by decide⟩ | exact .inl ⟨by decide, by decide⟩ | exact .inr ⟨by decide, by decide⟩ | omega))
  | with_reducible refine r_U ?_
  | with_reducible refine r_un ?_
  | with_reducible refine r_and ?_
  | with_reducible refine r_or ?_
  | with_reducible refine r_not ?_
  | with_reducible refine r_andV ?_
  | with_reducible refine r_orV ?_
  | with_reducible refine r_notV ?_
  | with_reducible refine r_if ?_
  | with_reducible refine r_sl ?_
  | with_reducible refine r_part ?_
  | with_reducible refine r_parti ?_
  | with_reducible refine r_nopart ?_
  | with_reducible refine r_il ?_
  | with_reducible refine r_it ?_
  | with_reducible refine r_ir ?_
  | with_reducible refine r_is ?_
  | with_reducible refine r_next ?_
  | with_reducible refine r_retN ?_
  | ((with_reducible refine r_eq ?_ ?_); focus exact rfl)
  | ((with_reducible refine r_ne ?_ ?_); focus exact rfl)))
section
variable {P : Program} {w : World} {K : PySem.W.Frag} {mg : Str → Option Value} {base : Heap}
/-! ### cells, groups -/
theorem StAt.isL {H : Hp} {st dr : Addr} (h : StAt H st dr) : ∃ n : Nat, H st = some (.lst [.ref dr, .int n]) := by
  obtain ⟨n, zs, e1, e2⟩ := h
  exact ⟨n, e1⟩
/-- lists of data are not the state -/
theorem StAt.neD {H : Hp} {st dr p : Addr} {ys : List V} {α : Type} {f : α → List D} {xs : List α} (h : StAt H st dr) (e : H p = some (.lst ys)) (r : RpL H (xs.map fun x => .tup (f x)) ys) : p ≠ st := by
  obtain ⟨n, e1⟩ := h.isL
  intro z
  rw [z, e1] at e
  injection e with e
  injection e with e
  subst e
  match xs, r with
  | [], r => cases (show [V.ref dr, V.int n] = [] from r)
  | [x], r =>
    obtain ⟨y, ys, e, _, r2⟩ := r
    obtain rfl : ys = [] := r2
    cases e
  | x :: x2 :: xs, r =>
    obtain ⟨y, ys, e, _, y2, ys2, e2, r2, _⟩ := r
    obtain ⟨p2, xs2, e3, _⟩ := r2
    rw [e2] at e
    injection e with _ e
    injection e with e
    rw [← e] at e3
    cases e3
def okCe (c : Cell) : Prop := okC c ∧ (wCell c).length ≤ 12000 ∧ c.1 ∈ names4
def okDaB (d : DataT) : Prop := okDa d ∧ (wData d).length ≤ 460
def okMaB (m : Maker) : Prop := okMa m ∧ (wMaker m).length ≤ 160
theorem names4_ok : ∀ z ∈ names4, okS z ∧ z.cps.toList.length ≤ 2 := by decide +kernel
def spCeG : Sp := fun vs H Q _ => ∃ st dr, ∃ n : Str, vs = [.ref st, .str n] ∧ n ∈ names4 ∧ StAt H st dr ∧ ∀ (x : Cell) v H', okCe x → Lx st H H' → StAt H' st dr → Rp H' (dCell x) v → Q v H'
theorem ok_law_cell  (T : Txt K mg) : Fc P w K mg base CX0 (11) "_law_cell" ["_law_state", "_law_name"] (spCeG) := by
  refine ⟨?_, gm_law_cell T, (fd_law_cell T.says).kp, (fd_law_cell T.says).bindsN fun _ _ _ _ _ _ us hl => match us, hl with | [_, _], _ => rfl⟩
  refine (fd_law_cell T.says).ok sc_law_cell (fun vs H Q E h => by first | (obtain ⟨_, rfl, _⟩ := h; rfl) | (obtain ⟨_, _, rfl, _⟩ := h; rfl) | (obtain ⟨_, _, _, rfl, _⟩ := h; rfl) | (obtain ⟨_, _, _, _, rfl, _⟩ := h; rfl) | (obtain ⟨_, _, _, _, _, rfl, _⟩ := h; rfl) | (obtain ⟨_, _, _, _, _, _, rfl, _⟩ := h; rfl) | (obtain ⟨_, _, _, _, _, _, _, rfl, _⟩ := h; rfl) | (obtain ⟨_, _, _, _, _, _, _, _, rfl, _⟩ := h; rfl) | (obtain ⟨_, _, _, _, _, _, _, _, _, rfl, _⟩ := h; rfl)) (fun cdv A outer s H vs Q E hr h => ?_)
  obtain ⟨st, dr, nm, rfl, hnm, hS, q⟩ := h
  refine ⟨_, PSs.nox (pss_cons (ps_set (i := 2) sc_law_cell.nd rfl (Or.inl rfl) (pe_lst pa_nil))
      (pss_cons (ps_for PassesOwn.never rfl (pi_range1 (by rfl) (n_range T) (pa_cons (pe_f (ok_law_next T) (hr.mono (by omega)) (by rfl) (pa_cons (pv 0) (pa_cons pe_int pa_nil))) pa_nil)) (pg_name (i := 3) sc_law_cell.nd rfl (Or.inl rfl)) (pss_cons (ps_set (i := 4) sc_law_cell.nd rfl (Or.inl rfl) (pe_lst pa_nil))
      (pss_cons (ps_for PassesOwn.never rfl (pi_range1 (by rfl) (n_range T) (pa_cons (pe_f (ok_law_next T) (hr.mono (by omega)) (by rfl) (pa_cons (pv 0) (pa_cons pe_int pa_nil))) pa_nil)) (pg_name (i := 5) sc_law_cell.nd rfl (Or.inl rfl)) (pss_cons (ps_set (i := 6) sc_law_cell.nd rfl (Or.inl rfl) (pe_callTy call_tuple_of (by rfl) (n_tuple T) (by decide +kernel) (pa_cons (pe_lc (own := [("_law_i", 7)]) (g := gName 7) (tt := tYes) rfl sc_law_cell.nd (pi_range1 (by rfl) (n_range T) (pa_cons (pe_f (ok_law_next T) (hr.mono (by omega)) (by rfl) (pa_cons (pv 0) (pa_cons pe_int pa_nil))) pa_nil)) (blkOk_by (N := ["_law_state", "_law_name", "_law_data", "_law_k", "_law_makers", "_law_j", "_law_kinds", "_law_i"]) (sc := defScope s_law_cell) (by decide +kernel)) (fun _ _ _ _ _ => (pg_name (i := 7) sc_law_cell.nd rfl (Or.inl rfl))) (fun _ _ _ _ _ => pts_nil) (fun _ _ _ _ _ => (pe_f (ok_law_shape_kind T) (hr.mono (by omega)) (by rfl) (pa_cons (pv 0) pa_nil)))) pa_nil)))
      (pss_one (ps_expr (pe_bm PySem.F.plainAttrs_list PySem.F.slot_list_append PySem.F.type_list_append mt_append (pv 4) (pa_cons (pe_tup (pa_cons (pe_f (ok_law_word T) (hr.mono (by omega)) (by rfl) (pa_cons (pv 0) pa_nil)) (pa_cons (pv 6) pa_nil))) pa_nil))))))
      (pss_one (ps_expr (pe_bm PySem.F.plainAttrs_list PySem.F.slot_list_append PySem.F.type_list_append mt_append (pv 2) (pa_cons (pe_tup (pa_cons (pe_f (ok_law_word T) (hr.mono (by omega)) (by rfl) (pa_cons (pv 0) pa_nil)) (pa_cons (pe_callTy call_tuple_of (by rfl) (n_tuple T) (by decide +kernel) (pa_cons (pv 4) pa_nil)) pa_nil))) pa_nil)))))))
      (pss_one (ps_ret (pe_tup (pa_cons (pv 1) (pa_cons (pe_tup (pa_cons (pe_f (ok_law_shape_kind T) (hr.mono (by omega)) (by rfl) (pa_cons (pv 0) pa_nil)) (pa_cons (pe_callTy call_tuple_of (by rfl) (n_tuple T) (by decide +kernel) (pa_cons (pv 2) pa_nil)) pa_nil))) (pa_cons (pe_f (ok_law_outcome T) (hr.mono (by omega)) (by rfl) (pa_cons (pv 0) pa_nil)) pa_nil)))))))), ?_⟩
  walk_at "rx"
  refine ⟨Nat.zero_le _, fun Dd hDd => ?_⟩
  walk_at "rx"
  refine r_ir ?_
  walk_at "rx"
  refine ⟨st, dr, 3, rfl, by decide, hS.new hDd, fun k1 H1 hk1 l1 S1 => ?_⟩
  have nDd := hS.ne hDd
  have nDd2 := hS.ne2 hDd
  have eDd := l1.1 _ _ nDd (upd_same (H := H) (a := Dd) (o := .lst []))
  have l01 : Lx st H H1 := (Lx.of (same_new hDd)).trans l1
  walk_at "rx"
  refine ⟨_, rfl, by omega, by omega, ?_⟩
  rw [show ((k1 : Nat) : Int).toNat = k1 from rfl]
  refine for_any (xs := upto k1) (Wk.rng (I := fun _ => True)) (fun i σ H' => ∃ v3 v4 v5 v6, ∃ zs : List V, ∃ ds : List DataT, σ = [some (.ref st), some (.str nm), some (.ref Dd), v3, v4, v5, v6, none] ∧ Lx st H H' ∧ StAt H' st dr ∧ H' Dd = some (.lst zs) ∧ RpL H' (ds.map dData) zs ∧ ds.length = i ∧ ∀ d ∈ ds, okDaB d) (fun _ _ _ _ => trivial) ⟨none, none, none, none, [], [], rfl, l01, S1, eDd, rfl, rfl, by simp⟩ ?_ ?_
  · rintro i x σ H2 hx ⟨v3, v4, v5, v6, zs, ds, rfl, l2, S2, e2, hzs, hdl, hds⟩
    have hik : i < k1 := by
      have z := (List.getElem?_eq_some_iff.mp hx).1
      rw [upto_len] at z
      exact z
    walk_at "rx"
    refine ⟨Nat.zero_le _, fun M hM => ?_⟩
    have nM := S2.ne hM
    have nM2 := S2.ne2 hM
    have nMD : Dd ≠ M := ne_of_none e2 hM
    walk_at "rx"
    refine r_ir ?_
    walk_at "rx"
    refine ⟨st, dr, 3, rfl, by decide, S2.new hM, fun k3 H3 hk3 l3 S3 => ?_⟩
    have eM := l3.1 _ _ nM (upd_same (H := H2) (a := M) (o := .lst []))
    have l23 : Lx st H2 H3 := (Lx.of (same_new hM)).trans l3
    walk_at "rx"
    refine ⟨_, rfl, by omega, by omega, ?_⟩
    rw [show ((k3 : Nat) : Int).toNat = k3 from rfl]
    refine for_any (xs := upto k3) (Wk.rng (I := fun _ => True)) (fun j σ H' => ∃ v5 v6, ∃ ws : List V, ∃ ms : List Maker, σ = [some (.ref st), some (.str nm), some (.ref Dd), some x, some (.ref M), v5, v6, none] ∧ Lx st H2 H' ∧ StAt H' st dr ∧ H' M = some (.lst ws) ∧ RpL H' (ms.map dMaker) ws ∧ ms.length = j ∧ ∀ m ∈ ms, okMaB m) (fun _ _ _ _ => trivial) ⟨v5, v6, [], [], rfl, l23, S3, eM, rfl, rfl, by simp⟩ ?_ ?_
    · rintro j y σ H4 hy ⟨v5, v6, ws, ms, rfl, l4, S4, e4, hws, hml, hms⟩
      have hjk : j < k3 := by
        have z := (List.getElem?_eq_some_iff.mp hy).1
        rw [upto_len] at z
        exact z
      walk_at "rx"
      refine r_lc ?_
      walk_at "rx"
      refine ⟨st, dr, 3, rfl, by decide, S4, fun k5 H5 hk5 l5 S5 => ?_⟩
      walk_at "rx"
      refine ⟨_, rfl, by omega, by omega, fun D0 hD => ?_⟩
      rw [show ((k5 : Nat) : Int).toNat = k5 from rfl]
      refine lc_exE (xs := upto k5) (Ex := fun _ H' => StAt H' st dr) (Pd := fun d => ∃ x, okKd x ∧ d = dKind x) (Fr := Lx st) (Wk.rng (I := fun _ => True)) S5.frm hD (fun _ _ => trivial) (by rw [upto_len]; have : cap = 8000000 := rfl; omega) (S5.new hD) (fun _ H' ys zs _ hh _ => hh.updD (S5.ne hD) (S5.ne2 hD)) ?_ ?_
      · intro i x H6 Q6 hx l6 S6 kq
        refine ⟨wipe1, ?_⟩
        walk_at "rx"
        exact ⟨st, dr, rfl, S6, fun kd v H7 hkd l7 S7 hv => kq v H7 _ l7 ⟨kd, hkd, rfl⟩ hv S7⟩
      · intro H6 ys kds l6 S6 eD hys hlen hpd
        obtain ⟨ks, rfl, hks, hlx⟩ := RpL.gen hpd
        rw [upto_len] at hlen
        have l46 := l5.trans l6
        walk_at "rx"
        refine ⟨D0, ys, rfl, .inl ⟨SqL.of eD, fun p hp => ?_⟩⟩
        have S7 := S6.new (o := .tup ys) hp
        have l47 : Lx st H4 (upd H6 p (.tup ys)) := l46.trans (Lx.of (same_new hp))
        have r7 : Rp (upd H6 p (.tup ys)) (.tup (ks.map dKind)) (.ref p) := Rp.tupOf upd_same (hys.ts (Tst.new hp))
        generalize upd H6 p (.tup ys) = H7 at S7 l47 r7
        have e7 := l47.1 _ _ nM e4
        walk_at "rx"
        refine ⟨ty_l e7, ?_⟩
        walk_at "rx"
        refine ⟨st, dr, rfl, S7, fun z v H8 hz l8 S8 hv => ?_⟩
        obtain rfl : v = .str z := hv
        walk_at "rx"
        refine ⟨le_line rfl, fun p9 hp9 => ?_⟩
        have l89 : Lx st H7 (upd H8 p9 (.tup [.str z, .ref p])) := l8.trans (Lx.of (same_new hp9))
        have S9 := S8.new (o := .tup [.str z, .ref p]) hp9
        have r9 : Rp (upd H8 p9 (.tup [.str z, .ref p])) (dMaker (z, ks)) (.ref p9) := Rp.tupOf upd_same (RpL.cons rfl (RpL.cons ((r7.ts (S7.tst l8)).ts (Tst.new hp9)) RpL.nil))
        generalize upd H8 p9 (.tup [.str z, .ref p]) = H9 at l89 S9 r9
        have e9 := l89.1 _ _ nM e7
        have l49 := l47.trans l89
        walk_at "rx"
        have hwl : ws.length = j := by rw [hws.length, List.length_map]; exact hml
        refine ⟨M, ws, .ref p9, rfl, rfl, e9, cap_lt (by have : cap = 8000000 := rfl; omega), ?_⟩
        walk_at "rx"
        have tA : Tst H9 (upd H9 M (.lst (ws ++ [.ref p9]))) := (Tst.refl H9).lst e9
        have hzl := hz.len (by decide)
        have hkl : (wL wKind ks).length ≤ 1 + 2 * 12 := wL_le (fun k hk => (hks k hk).2) (by omega) (by decide)
        refine ⟨_, _, ws ++ [.ref p9], ms ++ [(z, ks)], rfl, ?_, S9.updD nM nM2, upd_same, ?_, by rw [List.length_append, hml]; rfl, fun m hm => ?_⟩
        · have l29 := l4.trans l49
          exact S2.frm.nN _ _ _ l29 hM
        · rw [List.map_append]
          exact RpL.snoc (r9.ts tA) ((hws.ts (S4.tst l49)).ts tA)
        · rcases List.mem_append.mp hm with h | h
          · exact hms m h
          · rw [List.mem_singleton.mp h]
            refine ⟨⟨hz.1, fun k hk => (hks k hk).1⟩, ?_⟩
            rw [wMaker, List.length_append]
            show (wStr z).length + (wL wKind ks).length ≤ _
            omega
    · rintro σ H4 ⟨v5, v6, ws, ms, rfl, l4, S4, e4, hws, hml, hms⟩
      rw [upto_len] at hml
      have eD4 := l4.1 _ _ nDd e2
      walk_at "rx"
      refine ⟨ty_l eD4, ?_⟩
      walk_at "rx"
      refine ⟨st, dr, rfl, S4, fun z v H5 hz l5 S5 hv => ?_⟩
      obtain rfl : v = .str z := hv
      walk_at "rx"
      refine ⟨M, ws, rfl, .inl ⟨SqL.of (l5.1 _ _ nM e4), fun p hp => ?_⟩⟩
      walk_at "rx"
      refine ⟨le_line rfl, fun p6 hp6 => ?_⟩
      have l56 : Lx st H4 (upd (upd H5 p (.tup ws)) p6 (.tup [.str z, .ref p])) := (l5.trans (Lx.of (same_new hp))).trans (Lx.of (same_new hp6))
      have S6 := (S5.new (o := .tup ws) hp).new (o := .tup [.str z, .ref p]) hp6
      have r6 : Rp (upd (upd H5 p (.tup ws)) p6 (.tup [.str z, .ref p])) (dData (z, ms)) (.ref p6) := Rp.tupOf upd_same (RpL.cons rfl (RpL.cons (Rp.ts (Tst.new hp6) (Rp.tupOf upd_same ((hws.ts (S4.tst l5)).ts (Tst.new hp)))) RpL.nil))
      generalize upd (upd H5 p (.tup ws)) p6 (.tup [.str z, .ref p]) = H6 at l56 S6 r6
      have e6 := l56.1 _ _ nDd eD4
      have l26 := l4.trans l56
      walk_at "rx"
      have hzl2 : zs.length = i := by rw [hzs.length, List.length_map]; exact hdl
      refine ⟨Dd, zs, .ref p6, rfl, rfl, e6, cap_lt (by have : cap = 8000000 := rfl; omega), ?_⟩
      walk_at "rx"
      have tA : Tst H6 (upd H6 Dd (.lst (zs ++ [.ref p6]))) := (Tst.refl H6).lst e6
      have hzl := hz.len (by decide)
      have hml2 : (wL wMaker ms).length ≤ 1 + 2 * 160 := wL_le (fun m hm => (hms m hm).2) (by omega) (by decide)
      refine ⟨_, _, _, _, zs ++ [.ref p6], ds ++ [(z, ms)], rfl, ?_, S6.updD nDd nDd2, upd_same, ?_, by rw [List.length_append, hdl]; rfl, fun d hd => ?_⟩
      · exact hS.frm.nN _ _ _ (l2.trans l26) hDd
      · rw [List.map_append]
        exact RpL.snoc (r6.ts tA) ((hzs.ts (S2.tst l26)).ts tA)
      · rcases List.mem_append.mp hd with h | h
        · exact hds d h
        · rw [List.mem_singleton.mp h]
          refine ⟨⟨hz.1, fun m hm => (hms m hm).1⟩, ?_⟩
          rw [wData, List.length_append]
          show (wStr z).length + (wL wMaker ms).length ≤ _
          omega
  · rintro σ H2 ⟨v3, v4, v5, v6, zs, ds, rfl, l2, S2, e2, hzs, hdl, hds⟩
    rw [upto_len] at hdl
    walk_at "rx"
    refine ⟨st, dr, rfl, S2, fun kd v H3 hkd l3 S3 hv => ?_⟩
    walk_at "rx"
    refine ⟨Dd, zs, rfl, .inl ⟨SqL.of (l3.1 _ _ nDd e2), fun p hp => ?_⟩⟩
    walk_at "rx"
    refine ⟨le_line rfl, fun p4 hp4 => ?_⟩
    have l34 : Lx st H2 (upd (upd H3 p (.tup zs)) p4 (.tup [v, .ref p])) := (l3.trans (Lx.of (same_new hp))).trans (Lx.of (same_new hp4))
    have S4 := (S3.new (o := .tup zs) hp).new (o := .tup [v, .ref p]) hp4
    have r4 : Rp (upd (upd H3 p (.tup zs)) p4 (.tup [v, .ref p])) (dShape (kd, ds)) (.ref p4) := Rp.tupOf upd_same (RpL.cons ((hv.ts (Tst.new hp)).ts (Tst.new hp4)) (RpL.cons (Rp.ts (Tst.new hp4) (Rp.tupOf upd_same ((hzs.ts (S2.tst l3)).ts (Tst.new hp)))) RpL.nil))
    generalize upd (upd H3 p (.tup zs)) p4 (.tup [v, .ref p]) = H4 at l34 S4 r4
    walk_at "rx"
    refine ⟨st, dr, rfl, S4, fun o vo H5 ho l5 S5 hvo => ?_⟩
    walk_at "rx"
    refine ⟨le_line rfl, fun p6 hp6 => ?_⟩
    have hnl := (show okW 2 nm from names4_ok nm hnm).len (by decide)
    have hdl2 : (wL wData ds).length ≤ 1 + 2 * 460 := wL_le (fun d hd => (hds d hd).2) (by omega) (by decide)
    refine q (nm, (kd, ds), o) _ _ ⟨⟨(names4_ok nm hnm).1, ⟨hkd.1, fun d hd => (hds d hd).1⟩, ho.1⟩, ?_, hnm⟩ (((l2.trans l34).trans l5).trans (Lx.of (same_new hp6))) (S5.new hp6) (Rp.tupOf upd_same (RpL.cons rfl (RpL.cons ((r4.ts (S4.tst l5)).ts (Tst.new hp6)) (RpL.cons (hvo.ts (Tst.new hp6)) RpL.nil))))
    rw [wCell, wShape, List.length_append, List.length_append, List.length_append]
    show (wStr nm).length + ((wKind kd).length + (wL wData ds).length + (wOut o).length) ≤ _
    have := hkd.2
    have := ho.2
    omega
end
end Q

/-! ## G7 -/
set_option Elab.async false
set_option linter.all false
set_option maxRecDepth 100000
set_option maxHeartbeats 4000000
namespace Q
open PySem PySem.Spec PyProof.Rows L2
local macro_rules | `(tactic| walk_at "rd") => `(tactic| repeat (first
  | ((with_reducible apply r_var); focus exact rfl)
  | with_reducible refine r_c ?_
  | with_reducible refine r_chain ?_
  | ((with_reducible apply r_aug); focus exact rfl)
  | with_reducible refine r_ip ?_
  | with_reducible refine r_op ?_
  | with_reducible refine r_I0 ?_
  | with_reducible refine r_cons ?_
  | with_reducible refine r_nil ?_
  | with_reducible refine r_seq ?_
  | with_reducible refine r_asg ?_
  | with_reducible refine r_gn ?_
  | with_reducible refine r_gcons ?_
  | with_reducible refine r_gnil ?_
  | with_reducible refine r_lc ?_
  | with_reducible refine r_m1 ?_
  | with_reducible refine r_sfld ?_
  | with_reducible refine r_sfa ?_
  | with_reducible refine r_rAdd ?_
  | with_reducible refine r_ret ?_
  | with_reducible refine r_ifS ?_
  | with_reducible refine r_test ?_
  | with_reducible refine r_bl ?_
  | with_reducible refine r_B ?_
  | with_reducible refine r_drop ?_
  | with_reducible refine r_bm ?_
  | with_reducible refine r_CB ?_
  | with_reducible refine r_call ?_
  | with_reducible refine r_meth ?_
  | with_reducible refine r_make ?_
  | with_reducible refine r_tup ?_
  | with_reducible refine r_lst ?_
  | ((with_reducible refine r_I ?_ ?_); focus (first | decide | exact ⟨by decide, by decide⟩ | exact .inl ⟨by decide, by decide⟩ | exact .inr ⟨by decide, by decide⟩ | omega))
  | with_reducible refine r_U ?_
  | with_reducible refine r_un ?_
  | with_reducible refine r_and ?_
  | with_reducible refine r_or ?_
  | with_reducible refine r_not ?_
  | with_reducible refine r_andV ?_
  | with_reducible refine r_orV ?_
  | with_reducible refine r_notV ?_
  | with_reducible refine r_if ?_
  | with_reducible refine r_sl ?_
  | with_reducible refine r_part ?_
  | with_reducible refine r_parti ?_
  | with_reducible refine r_nopart ?_
  | with_reducible refine r_il ?_
  | with_reducible refine r_it ?_
  | with_reducible refine r_ir ?_
  | with_reducible refine r_is ?_
  | with_reducible refine r_next ?_
  | with_reducible refine r_retN ?_
  | ((with_reducible refine r_eq ?_ ?_); focus exact rfl)
  | ((with_reducible refine r_ne ?_ ?_); focus exact rfl)))
local macro_rules | `(tactic| walk_at "rx") => `(tactic| repeat (first
  | ((with_reducible apply r_var); focus exact rfl)
  | with_reducible refine r_c ?_
  | with_reducible refine r_chain ?_
  | ((with_reducible apply r_aug); focus exact rfl)
  | with_reducible refine r_ip ?_
  | with_reducible refine r_op ?_
  | with_reducible refine r_I0 ?_
  | with_reducible refine r_cons ?_
  | with_reducible refine r_nil ?_
  | with_reducible refine r_seq ?_
  | with_reducible refine r_asg ?_
  | with_reducible refine r_gn ?_
  | with_reducible refine r_gcons ?_
  | with_reducible refine r_gnil ?_
  | with_reducible refine r_m1 ?_
  | with_reducible refine r_sfld ?_
  | with_reducible refine r_sfa ?_
  | with_reducible refine r_rAdd ?_
  | with_reducible refine r_ret ?_
  | with_reducible refine r_ifS ?_
  | with_reducible refine r_test ?_
  | with_reducible refine r_bl ?_
  | with_reducible refine r_B ?_
  | with_reducible refine r_drop ?_
  | with_reducible refine r_bm ?_
  | with_reducible refine r_CB ?_
  | with_reducible refine r_call ?_
  | with_reducible refine r_make ?_
  | with_reducible refine r_tup ?_
  | with_reducible refine r_lst ?_
  | ((with_reducible refine r_I ?_ ?_); focus (first | decide | exact ⟨by decide, by decide⟩ | exact .inl ⟨by decide, by decide⟩ | exact .inr ⟨by decide, by decide⟩ | omega))
  | with_reducible refine r_U ?_
  | with_reducible refine r_un ?_
  | with_reducible refine r_and ?_
  | with_reducible refine r_or ?_
  | with_reducible refine r_not ?_
  | with_reducible refine r_andV ?_
  | with_reducible refine r_orV ?_
  | with_reducible refine r_notV ?_
  | with_reducible refine r_if ?_
  | with_reducible refine r_sl ?_
  | with_reducible refine r_part ?_
  | with_reducible refine r_parti ?_
  | with_reducible refine r_nopart ?_
  | with_reducible refine r_il ?_
  | with_reducible refine r_it ?_
  | with_reducible refine r_ir ?_
  | with_reducible refine r_is ?_
  | with_reducible refine r_next ?_
  | with_reducible refine r_retN ?_
  | ((with_reducible refine r_eq ?_ ?_); focus exact rfl)
  | ((with_reducible refine r_ne ?_ ?_); focus exact rfl)))
section
variable {P : Program} {w : World} {K : PySem.W.Frag} {mg : Str → Option Value} {base : Heap}
/-! ### groups -/
theorem StAt.neR {H : Hp} {st dr p : Addr} {rs : List Addr} (h : StAt H st dr) (e : H p = some (.lst (rs.map V.ref))) : p ≠ st := by
  obtain ⟨n, e1⟩ := h.isL
  intro z
  rw [z, e1] at e
  injection e with e
  injection e with e
  match rs, e with
  | [_, _], e => injection e with _ e; injection e with e; cases e
theorem StAt.neB {H : Hp} {st dr p : Addr} {bs : List Nat} (h : StAt H st dr) (e : H p = some (bL bs)) : p ≠ st := by
  obtain ⟨n, e1⟩ := h.isL
  intro z
  rw [z, e1] at e
  injection e with e
  injection e with e
  match bs, e with
  | _ :: _, e => injection e with e; cases e
def fDeed : Deed → List D
  | .back n => [.str "back", .int n]
  | .change m rem beh n t => [.str "change", .str m, .tup (rem.map dMark), dOpt beh, .int n, .str t]
theorem dDeed_f : dDeed = fun d => .tup (fDeed d) := by
  funext d
  cases d <;> rfl
theorem RowsAt.lx {H H' : Hp} {l st dr : Addr} {rs : List Addr} {rows : List (List Deed)} (h : RowsAt H l rs rows) (hS : StAt H st dr) (k : Lx st H H') : RowsAt H' l rs rows := by
  refine h.mv k.1 (hS.tst k) (hS.neR h.1) fun hm => ?_
  obtain ⟨j, hj, ej⟩ := List.getElem_of_mem hm
  obtain ⟨ys, ey, hy⟩ := h.2.2.2.2 j st (by rw [List.getElem?_eq_getElem hj, ej])
  rw [dDeed_f] at hy
  exact hS.neD ey hy rfl
theorem HeldAt.lx {H H' : Hp} {hd st dr : Addr} {f : Str → Option SO} (h : HeldAt H hd f) (hS : StAt H st dr) (k : Lx st H H') : HeldAt H' hd f := by
  refine h.mv (hS.tst k) fun o e => k.1 _ _ (fun z => ?_) e
  obtain ⟨n, e1⟩ := hS.isL
  obtain ⟨kvs, e2, _⟩ := h
  rw [z, e1] at e2
  cases e2
theorem BaseAt.lx {H H' : Hp} {b st dr : Addr} {s : BS} (h : BaseAt K H b s) (hS : StAt H st dr) (k : Lx st H H') : BaseAt K H' b s := by
  obtain ⟨bx, d, dx, l, rs, hd, h1, h2, h3⟩ := h
  obtain ⟨n, e1⟩ := hS.isL
  refine ⟨bx, d, dx, l, rs, hd, k.1 _ _ (fun z => ?_) h1, ⟨k.1 _ _ (fun z => ?_) h2.1, h2.2.lx hS k⟩, h3.lx hS k⟩
  · rw [z, e1] at h1
    cases h1
  · have := h2.1
    rw [z, e1] at this
    cases this
theorem cnAt_snoc {cn : List Nat} {ts : List Trip} {t : Trip} {j : Nat} (h : j ≤ ts.length) : cnAt cn (ts ++ [t]) j = cnAt cn ts j := by
  unfold cnAt
  rw [List.take_append_of_le_length h]
theorem cnAt_le {cn : List Nat} {B : Nat} (h : ∀ n ∈ cn, n ≤ B) (ts : List Trip) : ∀ i, ∀ n ∈ cnAt cn ts i, n ≤ B + i
  | 0 => fun n hn => h n hn
  | i + 1 => by
    intro n hn
    by_cases c : i < ts.length
    · rw [cnAt_next (List.getElem?_eq_getElem c)] at hn
      unfold stepC at hn
      rcases List.mem_or_eq_of_mem_set hn with hn | e
      · have := cnAt_le h ts i n hn
        omega
      · have : (cnAt cn ts i).getD ts[i].1 0 ≤ B + i := by
          rw [List.getD_eq_getElem?_getD]
          cases e2 : (cnAt cn ts i)[ts[i].1]? with
          | none => exact Nat.zero_le _
          | some m => exact cnAt_le h ts i m (List.mem_of_getElem? e2)
        omega
    · have e : cnAt cn ts (i + 1) = cnAt cn ts i := by
        unfold cnAt
        rw [List.take_of_length_le (by omega), List.take_of_length_le (by omega)]
      rw [e] at hn
      have := cnAt_le h ts i n hn
      omega
def okTr (t : Trip) : Prop := okT t ∧ (wTrip t).length ≤ 930 ∧ (wDeed t.2.2).length ≤ 920
structure GrpB (cn : List Nat) (ts : List Trip) (cs : List Cell) : Prop where
  tr : ∀ t ∈ ts, okTr t
  ce : ∀ c ∈ cs, okCe c
  nx : ∀ (i : Nat) t, ts[i]? = some t → nextOk (cnAt cn ts i) t
  tl : ts.length ≤ 3
  cl : cs.length ≤ 2
theorem GrpB.ok {cn : List Nat} {ts : List Trip} {cs : List Cell} (h : GrpB cn ts cs) : GrpOk ts cs := ⟨fun t ht => (h.tr t ht).1, fun c hc => (h.ce c hc).1, fun c hc => (h.ce c hc).2.2⟩
theorem GrpB.len {cn : List Nat} {ts : List Trip} {cs : List Cell} (h : GrpB cn ts cs) : (wGroup ts cs).length ≤ 27000 := by
  have h1 : (wL wTrip ts).length ≤ 1 + 3 * 930 := wL_le (fun t ht => (h.tr t ht).2.1) h.tl (by decide)
  have h2 : (wL wCell cs).length ≤ 1 + 2 * 12000 := wL_le (fun c hc => (h.ce c hc).2.1) h.cl (by decide)
  rw [wGroup, List.length_append]
  omega
def GrpAt (H : Hp) (g : Addr) (ts : List Trip) (cs : List Cell) : Prop := ∃ D1 D2 ys1 ys2, H g = some (.lst [.ref D1, .ref D2]) ∧ H D1 = some (.lst ys1) ∧ H D2 = some (.lst ys2) ∧ RpL H (ts.map dTrip) ys1 ∧ RpL H (cs.map dCell) ys2
theorem GrpAt.same {H H' : Hp} {g : Addr} {ts : List Trip} {cs : List Cell} (h : GrpAt H g ts cs) (s : Same H H') : GrpAt H' g ts cs := by
  obtain ⟨D1, D2, ys1, ys2, h1, h2, h3, h4, h5⟩ := h
  exact ⟨D1, D2, ys1, ys2, s _ _ h1, s _ _ h2, s _ _ h3, h4.ts (Tst.same s), h5.ts (Tst.same s)⟩
theorem GrpAt.lx {H H' : Hp} {g st dr : Addr} {ts : List Trip} {cs : List Cell} (h : GrpAt H g ts cs) (hS : StAt H st dr) (k : Lx st H H') : GrpAt H' g ts cs := by
  obtain ⟨D1, D2, ys1, ys2, h1, h2, h3, h4, h5⟩ := h
  exact ⟨D1, D2, ys1, ys2, k.1 _ _ (hS.neR (rs := [D1, D2]) h1) h1, k.1 _ _ (hS.neD (f := fun t : Trip => [.int t.1, .int t.2.1, dDeed t.2.2]) h2 h4) h2, k.1 _ _ (hS.neD (f := fun c : Cell => [.str c.1, dShape c.2.1, dOut c.2.2]) h3 h5) h3, h4.ts (hS.tst k), h5.ts (hS.tst k)⟩
theorem r_gsub {ta tb : TE} {r : TSet} {v : V} {σ : L2.St} {H : Hp} {Qs : L2.St → Hp → Prop} (h : ta σ H fun o H1 => tb σ H1 fun i H2 => r o i v H2 fun H3 => Qs σ H3) : gSub ta tb r v σ H Qs := h
def spGrp : Sp := fun vs H Q _ => ∃ st dr rl rs rows, vs = [.ref st, .ref rl] ∧ StAt H st dr ∧ RowsAt H rl rs rows ∧ rows.length = 8 ∧ (∀ row ∈ rows, row.length ≤ 1000) ∧
  ∀ ts cs g H', GrpB (rows.map List.length) ts cs → Lx st H H' → StAt H' st dr → GrpAt H' g ts cs → Q (.ref g) H'
def names4L : List Str := ["c", "m", "b2", "a"]
theorem names4L_ok : ∀ z ∈ names4L, z ∈ names4 := by decide +kernel
theorem ok_law_group  (T : Txt K mg) : Fc P w K mg base CX0 (12) "_law_group" ["_law_state", "_law_rows"] (spGrp) := by
  refine ⟨?_, gm_law_group T, (fd_law_group T.says).kp, (fd_law_group T.says).bindsN fun _ _ _ _ _ _ us hl => match us, hl with | [_, _], _ => rfl⟩
  refine (fd_law_group T.says).ok sc_law_group (fun vs H Q E h => by first | (obtain ⟨_, rfl, _⟩ := h; rfl) | (obtain ⟨_, _, rfl, _⟩ := h; rfl) | (obtain ⟨_, _, _, rfl, _⟩ := h; rfl) | (obtain ⟨_, _, _, _, rfl, _⟩ := h; rfl) | (obtain ⟨_, _, _, _, _, rfl, _⟩ := h; rfl) | (obtain ⟨_, _, _, _, _, _, rfl, _⟩ := h; rfl) | (obtain ⟨_, _, _, _, _, _, _, rfl, _⟩ := h; rfl) | (obtain ⟨_, _, _, _, _, _, _, _, rfl, _⟩ := h; rfl) | (obtain ⟨_, _, _, _, _, _, _, _, _, rfl, _⟩ := h; rfl)) (fun cdv A outer s H vs Q E hr h => ?_)
  obtain ⟨st, dr, rl, rs, rows, rfl, hS, hrows, h8, hle, q⟩ := h
  have lc : (rows.map List.length).length = 8 := by rw [List.length_map]; exact h8
  have cb : ∀ n ∈ rows.map List.length, n ≤ 1000 := fun n hn => by
    obtain ⟨row, hr, rfl⟩ := List.mem_map.mp hn
    exact hle row hr
  refine ⟨_, PSs.nox (pss_cons (ps_setLc (i := 2) (own := [("_law_row", 7)]) (g := gName 7) (tt := tYes) rfl sc_law_group.nd rfl rfl (sw_true rfl rfl rfl (by decide +kernel)) (pi_list (pv 1)) (blkOk_by (N := ["_law_state", "_law_rows", "_law_counts", "_law_triples", "_law_k", "_law_replica", "_law_cells", "_law_row"]) (sc := defScope s_law_group) (by decide +kernel)) (fun _ _ _ _ _ => (pg_name (i := 7) sc_law_group.nd rfl (Or.inl rfl))) (fun _ _ _ _ _ => pts_nil) (fun _ _ _ _ _ => by (apply pe_cast (pe_callB call_len_seq (by rfl) (n_len T) PySem.boot_len (pa_cons (pv 7) pa_nil))); (try dsimp only [L2.Cx.blk]) <;> exact rfl))
      (pss_cons (ps_set (i := 3) sc_law_group.nd rfl (Or.inl rfl) (pe_lst pa_nil))
      (pss_cons (ps_for PassesOwn.never rfl (pi_range1 (by rfl) (n_range T) (pa_cons (pe_f (ok_law_next T) (hr.mono (by omega)) (by rfl) (pa_cons (pv 0) (pa_cons pe_int pa_nil))) pa_nil)) (pg_name (i := 4) sc_law_group.nd rfl (Or.inl rfl)) (pss_cons (ps_set (i := 5) sc_law_group.nd rfl (Or.inl rfl) (pe_f (ok_law_next T) (hr.mono (by omega)) (by rfl) (pa_cons (pv 0) (pa_cons pe_int pa_nil))))
      (pss_cons (ps_asg (pe_op op_add (pe_ix ix_list (pv 2) (pv 5) (fun _ _ => rfl)) pe_int) (pg_sub (pv 2) (pv 5) set_list))
      (pss_one (ps_expr (pe_bm PySem.F.plainAttrs_list PySem.F.slot_list_append PySem.F.type_list_append mt_append (pv 3) (pa_cons (pe_tup (pa_cons (pv 5) (pa_cons (pe_ix ix_list (pv 2) (pv 5) (fun _ _ => rfl)) (pa_cons (pe_f (ok_law_any_deed T) (hr.mono (by omega)) (by rfl) (pa_cons (pv 0) pa_nil)) pa_nil)))) pa_nil)))))))
      (pss_cons (ps_set (i := 6) sc_law_group.nd rfl (Or.inl rfl) (pe_lst pa_nil))
      (pss_cons (ps_for PassesOwn.never rfl (pi_range1 (by rfl) (n_range T) (pa_cons (pe_f (ok_law_next T) (hr.mono (by omega)) (by rfl) (pa_cons (pv 0) (pa_cons pe_int pa_nil))) pa_nil)) (pg_name (i := 4) sc_law_group.nd rfl (Or.inl rfl)) (pss_one (ps_expr (pe_bm PySem.F.plainAttrs_list PySem.F.slot_list_append PySem.F.type_list_append mt_append (pv 6) (pa_cons (pe_f (ok_law_cell T) (hr.mono (by omega)) (by rfl) (pa_cons (pv 0) (pa_cons (pe_ix ix_list (pe_lst (pa_cons pe_str (pa_cons pe_str (pa_cons pe_str (pa_cons pe_str pa_nil))))) (pe_f (ok_law_next T) (hr.mono (by omega)) (by rfl) (pa_cons (pv 0) (pa_cons pe_int pa_nil))) (fun _ _ => rfl)) pa_nil))) pa_nil)))))
      (pss_one (ps_ret (pe_lst (pa_cons (pv 3) (pa_cons (pv 6) pa_nil)))))))))), ?_⟩
  walk_at "rx"
  refine r_lc ?_
  walk_at "rx"
  refine ⟨rl, rfl, ⟨_, SqL.of hrows.1⟩, fun c hc => ?_⟩
  refine lc_rp (xs := rs.map V.ref) (ds := (rows.map List.length).map fun n : Nat => D.int (n : Int)) (Fr := Same) (Wk.lst (I := fun H' => Same H H') fun H' s => s _ _ hrows.1) FrmOk.same hc (fun _ s => s) (by rw [List.length_map, List.length_map, List.length_map, hrows.2.1]) (by rw [List.length_map, hrows.2.1, h8]; decide) ?_ ?_
  · intro i x dd H2 Q2 hx hdd s2 k
    obtain ⟨r, row, ys, hr, rfl, er, _, er2, er3⟩ := rows_get (hrows.same s2) hx
    refine ⟨wipe1, ?_⟩
    walk_at "rx"
    refine ⟨r, _, rfl, .inl (SqL.of er2), ?_⟩
    refine k _ H2 (Same.refl H2) ?_
    rw [List.getElem?_map, List.getElem?_map, er] at hdd
    obtain rfl : D.int (row.length : Int) = dd := Option.some.inj hdd
    rw [er3.length, List.length_map]
    rfl
  intro H1 cys s1 eC hcys
  have eC' : H1 c = some (bL (rows.map List.length)) := by
    rw [eC, hcys.ofInts]
    rfl
  have S1 := hS.same s1
  have nc := hS.ne hc
  have nc2 := hS.ne2 hc
  walk_at "rx"
  refine ⟨Nat.zero_le _, fun Dt hDt => ?_⟩
  have nt := S1.ne hDt
  have nt2 := S1.ne2 hDt
  have nct : c ≠ Dt := ne_of_none eC hDt
  walk_at "rx"
  refine r_ir ?_
  walk_at "rx"
  refine ⟨st, dr, 4, rfl, by decide, S1.new hDt, fun k2 H2 hk2 l2 S2 => ?_⟩
  have l12 : Lx st H1 H2 := (Lx.of (same_new hDt)).trans l2
  have l02 : Lx st H H2 := (Lx.of s1).trans l12
  have hDt0 : H Dt = none := s1.free hDt
  have eT2 := l2.1 _ _ nt (upd_same (H := H1) (a := Dt) (o := .lst []))
  walk_at "rx"
  refine ⟨_, rfl, by omega, by omega, ?_⟩
  rw [show ((k2 : Nat) : Int).toNat = k2 from rfl]
  refine for_any (xs := upto k2) (Wk.rng (I := fun _ => True)) (fun i σ H' => ∃ v4 v5, ∃ zs : List V, ∃ ts : List Trip, σ = [some (.ref st), some (.ref rl), some (.ref c), some (.ref Dt), v4, v5, none, none] ∧ Lx st H H' ∧ StAt H' st dr ∧ H' c = some (bL (cnAt (rows.map List.length) ts i)) ∧ H' Dt = some (.lst zs) ∧ RpL H' (ts.map dTrip) zs ∧ ts.length = i ∧ (∀ t ∈ ts, okTr t) ∧ ∀ (j : Nat) t, ts[j]? = some t → nextOk (cnAt (rows.map List.length) ts j) t) (fun _ _ _ _ => trivial) ⟨none, none, [], [], rfl, l02, S2, l12.1 _ _ nc eC', eT2, rfl, rfl, by simp, by simp⟩ ?_ ?_
  · rintro i x σ H3 hx ⟨v4, v5, zs, ts, rfl, l3, S3, e3, eT3, hzs, htl, hts, hnx⟩
    have hik : i < k2 := by
      have z := (List.getElem?_eq_some_iff.mp hx).1
      rw [upto_len] at z
      exact z
    walk_at "rx"
    refine ⟨st, dr, 8, rfl, by decide, S3, fun r H4 hr l4 S4 => ?_⟩
    have hr8 : r < 8 := by omega
    have hcl : (cnAt (rows.map List.length) ts i).length = 8 := by rw [cnAt_len, lc]
    have e4 := l4.1 _ _ nc e3
    have eT4 := l4.1 _ _ nt eT3
    walk_at "rx"
    refine r_ixL e4 (atI_nat (ints_at (by rw [hcl]; exact hr8))) ?_
    walk_at "rx"
    refine r_gsub ?_
    walk_at "rx"
    refine ⟨c, _, r, r, rfl, rfl, e4, ixN_at (by rw [List.length_map, hcl]; exact hr8), ?_⟩
    have hpl : (cnAt (rows.map List.length) ts i).getD r 0 ≤ 1000 + i := by
      rw [List.getD_eq_getElem?_getD]
      cases e2 : (cnAt (rows.map List.length) ts i)[r]? with
      | none => exact Nat.zero_le _
      | some m => exact cnAt_le cb ts i m (List.mem_of_getElem? e2)
    have ecn : ((cnAt (rows.map List.length) ts i).map bV).set r (.int (((cnAt (rows.map List.length) ts i).getD r 0 : Nat) + 1 : Int)) = ((cnAt (rows.map List.length) ts i).set r ((cnAt (rows.map List.length) ts i).getD r 0 + 1)).map bV := by
      rw [List.map_set]
      rfl
    rw [ecn]
    have e5 : upd H4 c (.lst (((cnAt (rows.map List.length) ts i).set r ((cnAt (rows.map List.length) ts i).getD r 0 + 1)).map bV)) c = some (bL ((cnAt (rows.map List.length) ts i).set r ((cnAt (rows.map List.length) ts i).getD r 0 + 1))) := upd_same
    have eT5 : upd H4 c (.lst (((cnAt (rows.map List.length) ts i).set r ((cnAt (rows.map List.length) ts i).getD r 0 + 1)).map bV)) Dt = some (.lst zs) := by
      rw [upd_ne nct.symm]
      exact eT4
    have S5 := S4.updD (o := .lst (((cnAt (rows.map List.length) ts i).set r ((cnAt (rows.map List.length) ts i).getD r 0 + 1)).map bV)) nc nc2
    have l5 : Lx st H (upd H4 c (.lst (((cnAt (rows.map List.length) ts i).set r ((cnAt (rows.map List.length) ts i).getD r 0 + 1)).map bV))) := hS.frm.nN _ _ _ (l3.trans l4) hc
    have t5 : Tst H4 (upd H4 c (.lst (((cnAt (rows.map List.length) ts i).set r ((cnAt (rows.map List.length) ts i).getD r 0 + 1)).map bV))) := (Tst.refl H4).lst e4
    generalize upd H4 c (.lst (((cnAt (rows.map List.length) ts i).set r ((cnAt (rows.map List.length) ts i).getD r 0 + 1)).map bV)) = H5 at e5 eT5 S5 l5 t5
    walk_at "rx"
    refine ⟨ty_l eT5, ?_⟩
    walk_at "rx"
    have hcl2 : ((cnAt (rows.map List.length) ts i).set r ((cnAt (rows.map List.length) ts i).getD r 0 + 1)).length = 8 := by rw [List.length_set, hcl]
    refine r_ixL e5 (atI_nat (ints_at (by rw [hcl2]; exact hr8))) ?_
    have eget : ((cnAt (rows.map List.length) ts i).set r ((cnAt (rows.map List.length) ts i).getD r 0 + 1)).getD r 0 = (cnAt (rows.map List.length) ts i).getD r 0 + 1 := by
      rw [List.getD_eq_getElem?_getD, List.getElem?_set_self (by rw [hcl]; exact hr8)]
      rfl
    rw [eget]
    walk_at "rx"
    refine ⟨st, dr, rfl, S5, fun dd v H6 hdd l6 S6 hv => ?_⟩
    walk_at "rx"
    refine ⟨le_line rfl, fun p hp => ?_⟩
    have l57 : Lx st H5 (upd H6 p (.tup [.int (r : Nat), .int (((cnAt (rows.map List.length) ts i).getD r 0 + 1 : Nat)), v])) := l6.trans (Lx.of (same_new hp))
    have S7 := S6.new (o := .tup [.int (r : Nat), .int (((cnAt (rows.map List.length) ts i).getD r 0 + 1 : Nat)), v]) hp
    have r7 : Rp (upd H6 p (.tup [.int (r : Nat), .int (((cnAt (rows.map List.length) ts i).getD r 0 + 1 : Nat)), v])) (dTrip (r, (cnAt (rows.map List.length) ts i).getD r 0 + 1, dd)) (.ref p) := Rp.tupOf upd_same (RpL.cons rfl (RpL.cons rfl (RpL.cons (hv.ts (Tst.new hp)) RpL.nil)))
    generalize upd H6 p (.tup [.int (r : Nat), .int (((cnAt (rows.map List.length) ts i).getD r 0 + 1 : Nat)), v]) = H7 at l57 S7 r7
    have eT7 := l57.1 _ _ nt eT5
    walk_at "rx"
    have hzl : zs.length = i := by rw [hzs.length, List.length_map]; exact htl
    refine ⟨Dt, zs, .ref p, rfl, rfl, eT7, cap_lt (by have : cap = 8000000 := rfl; omega), ?_⟩
    walk_at "rx"
    have tA : Tst H7 (upd H7 Dt (.lst (zs ++ [.ref p]))) := (Tst.refl H7).lst eT7
    have hni : (ts ++ [(r, (cnAt (rows.map List.length) ts i).getD r 0 + 1, dd)])[i]? = some (r, (cnAt (rows.map List.length) ts i).getD r 0 + 1, dd) := by
      rw [List.getElem?_append_right (by omega), htl, Nat.sub_self]
      rfl
    refine ⟨_, _, zs ++ [.ref p], ts ++ [(r, (cnAt (rows.map List.length) ts i).getD r 0 + 1, dd)], rfl, hS.frm.nN _ _ _ (l5.trans l57) hDt0, S7.updD nt nt2, ?_, upd_same, ?_, by rw [List.length_append, htl]; rfl, fun t ht => ?_, fun j t hj => ?_⟩
    · rw [upd_ne nct, l57.1 _ _ nc e5, cnAt_next hni, cnAt_snoc (by omega)]
      rfl
    · rw [List.map_append]
      exact RpL.snoc (r7.ts tA) ((((hzs.ts (S3.tst l4)).ts t5).ts (S5.tst l57)).ts tA)
    · rcases List.mem_append.mp ht with h | h
      · exact hts t h
      · rw [List.mem_singleton.mp h]
        have n1 := wNum_le 1 r (by show _ < 16384; omega)
        have n2 := wNum_le 1 ((cnAt (rows.map List.length) ts i).getD r 0 + 1) (by show _ < 16384; omega)
        refine ⟨⟨show (wNum r).length ≤ 60 by omega, show (wNum ((cnAt (rows.map List.length) ts i).getD r 0 + 1)).length ≤ 60 by omega, hdd.1⟩, ?_, hdd.2⟩
        rw [wTrip, List.length_append, List.length_append]
        show (wNum r).length + ((wNum ((cnAt (rows.map List.length) ts i).getD r 0 + 1)).length + (wDeed dd).length) ≤ _
        have := hdd.2
        omega
    · by_cases c2 : j < ts.length
      · rw [List.getElem?_append_left c2] at hj
        rw [cnAt_snoc (by omega)]
        exact hnx j t hj
      · have hj2 : j = i := by
          have := (List.getElem?_eq_some_iff.mp hj).1
          rw [List.length_append] at this
          have h1 : [(r, (cnAt (rows.map List.length) ts i).getD r 0 + 1, dd)].length = 1 := rfl
          omega
        subst hj2
        rw [hni] at hj
        obtain rfl := Option.some.inj hj
        rw [cnAt_snoc (by omega)]
        exact ⟨hr8, rfl⟩
  · rintro σ H3 ⟨v4, v5, zs, ts, rfl, l3, S3, e3, eT3, hzs, htl, hts, hnx⟩
    rw [upto_len] at htl
    walk_at "rx"
    refine ⟨Nat.zero_le _, fun Dc hDc => ?_⟩
    have nk := S3.ne hDc
    have nk2 := S3.ne2 hDc
    have ntk : Dt ≠ Dc := ne_of_none eT3 hDc
    have hDc0 : H Dc = none := hS.frm.fN _ _ l3 hDc
    walk_at "rx"
    refine r_ir ?_
    walk_at "rx"
    refine ⟨st, dr, 3, rfl, by decide, S3.new hDc, fun k4 H4 hk4 l4 S4 => ?_⟩
    have l34 : Lx st H3 H4 := (Lx.of (same_new hDc)).trans l4
    have eC4 := l4.1 _ _ nk (upd_same (H := H3) (a := Dc) (o := .lst []))
    walk_at "rx"
    refine ⟨_, rfl, by omega, by omega, ?_⟩
    rw [show ((k4 : Nat) : Int).toNat = k4 from rfl]
    refine for_any (xs := upto k4) (Wk.rng (I := fun _ => True)) (fun i σ H' => ∃ v4, ∃ ws : List V, ∃ cs : List Cell, σ = [some (.ref st), some (.ref rl), some (.ref c), some (.ref Dt), v4, v5, some (.ref Dc), none] ∧ Lx st H3 H' ∧ StAt H' st dr ∧ H' Dc = some (.lst ws) ∧ RpL H' (cs.map dCell) ws ∧ cs.length = i ∧ ∀ c ∈ cs, okCe c) (fun _ _ _ _ => trivial) ⟨v4, [], [], rfl, l34, S4, eC4, rfl, rfl, by simp⟩ ?_ ?_
    · rintro i x σ H5 hx ⟨v4, ws, cs, rfl, l5, S5, e5, hws, hcl, hcs⟩
      have hik : i < k4 := by
        have z := (List.getElem?_eq_some_iff.mp hx).1
        rw [upto_len] at z
        exact z
      walk_at "rx"
      refine ⟨ty_l e5, ?_⟩
      walk_at "rx"
      refine ⟨le_line rfl, fun p hp => ?_⟩
      have e6 : upd H5 p (.lst [.str "c", .str "m", .str "b2", .str "a"]) p = some (.lst (names4L.map V.str)) := upd_same
      have S6 := S5.new (o := .lst [.str "c", .str "m", .str "b2", .str "a"]) hp
      have l56 : Lx st H5 (upd H5 p (.lst [.str "c", .str "m", .str "b2", .str "a"])) := Lx.of (same_new hp)
      generalize upd H5 p (.lst [.str "c", .str "m", .str "b2", .str "a"]) = H6 at e6 S6 l56
      walk_at "rx"
      refine ⟨st, dr, 4, rfl, by decide, S6, fun k7 H7 hk7 l7 S7 => ?_⟩
      refine r_lit (l7.1 _ _ (S5.ne hp) e6) (show k7 < 4 by omega) fun z hz => ?_
      walk_at "rx"
      refine ⟨st, dr, z, rfl, names4L_ok z hz, S7, fun ce v H8 hce l8 S8 hv => ?_⟩
      have l58 := (l56.trans l7).trans l8
      have e8 := l58.1 _ _ nk e5
      have hwl : ws.length = i := by rw [hws.length, List.length_map]; exact hcl
      refine ⟨Dc, ws, v, rfl, rfl, e8, cap_lt (by have : cap = 8000000 := rfl; omega), ?_⟩
      walk_at "rx"
      have tA : Tst H8 (upd H8 Dc (.lst (ws ++ [v]))) := (Tst.refl H8).lst e8
      refine ⟨_, ws ++ [v], cs ++ [ce], rfl, S3.frm.nN _ _ _ (l5.trans l58) hDc, S8.updD nk nk2, upd_same, ?_, by rw [List.length_append, hcl]; rfl, fun c hc => ?_⟩
      · rw [List.map_append]
        exact RpL.snoc (hv.ts tA) ((hws.ts (S5.tst l58)).ts tA)
      · rcases List.mem_append.mp hc with h | h
        · exact hcs c h
        · rw [List.mem_singleton.mp h]
          exact hce
    · rintro σ H5 ⟨v4, ws, cs, rfl, l5, S5, e5, hws, hcl, hcs⟩
      rw [upto_len] at hcl
      have eT5 := l5.1 _ _ nt eT3
      walk_at "rx"
      refine ⟨le_line rfl, fun p hp => ?_⟩
      have sp := same_new (o := .lst [.ref Dt, .ref Dc]) hp
      refine q ts cs p _ ⟨hts, hcs, hnx, by omega, by omega⟩ ((l3.trans l5).trans (Lx.of sp)) (S5.new hp) ⟨Dt, Dc, zs, ws, upd_same, sp _ _ eT5, sp _ _ e5, (hzs.ts (S3.tst l5)).ts (Tst.new hp), hws.ts (Tst.new hp)⟩
end
end Q

/-! ## G8 -/
set_option Elab.async false
set_option linter.all false
set_option maxRecDepth 100000
set_option maxHeartbeats 4000000
namespace Q
open PySem PySem.Spec PyProof.Rows L2
local macro_rules | `(tactic| walk_at "rd") => `(tactic| repeat (first
  | ((with_reducible apply r_var); focus exact rfl)
  | with_reducible refine r_c ?_
  | with_reducible refine r_chain ?_
  | ((with_reducible apply r_aug); focus exact rfl)
  | with_reducible refine r_ip ?_
  | with_reducible refine r_op ?_
  | with_reducible refine r_I0 ?_
  | with_reducible refine r_cons ?_
  | with_reducible refine r_nil ?_
  | with_reducible refine r_seq ?_
  | with_reducible refine r_asg ?_
  | with_reducible refine r_gn ?_
  | with_reducible refine r_gcons ?_
  | with_reducible refine r_gnil ?_
  | with_reducible refine r_lc ?_
  | with_reducible refine r_m1 ?_
  | with_reducible refine r_sfld ?_
  | with_reducible refine r_sfa ?_
  | with_reducible refine r_rAdd ?_
  | with_reducible refine r_ret ?_
  | with_reducible refine r_ifS ?_
  | with_reducible refine r_test ?_
  | with_reducible refine r_bl ?_
  | with_reducible refine r_B ?_
  | with_reducible refine r_drop ?_
  | with_reducible refine r_bm ?_
  | with_reducible refine r_CB ?_
  | with_reducible refine r_call ?_
  | with_reducible refine r_meth ?_
  | with_reducible refine r_make ?_
  | with_reducible refine r_tup ?_
  | with_reducible refine r_lst ?_
  | ((with_reducible refine r_I ?_ ?_); focus (first | decide | exact ⟨by decide, by decide⟩ | exact .inl ⟨by decide, by decide⟩ | exact .inr ⟨by decide, by decide⟩ | omega))
  | with_reducible refine r_U ?_
  | with_reducible refine r_un ?_
  | with_reducible refine r_and ?_
  | with_reducible refine r_or ?_
  | with_reducible refine r_not ?_
  | with_reducible refine r_andV ?_
  | with_reducible refine r_orV ?_
  | with_reducible refine r_notV ?_
  | with_reducible refine r_if ?_
  | with_reducible refine r_sl ?_
  | with_reducible refine r_part ?_
  | with_reducible refine r_parti ?_
  | with_reducible refine r_nopart ?_
  | with_reducible refine r_il ?_
  | with_reducible refine r_it ?_
  | with_reducible refine r_ir ?_
  | with_reducible refine r_is ?_
  | with_reducible refine r_next ?_
  | with_reducible refine r_retN ?_
  | ((with_reducible refine r_eq ?_ ?_); focus exact rfl)
  | ((with_reducible refine r_ne ?_ ?_); focus exact rfl)))
local macro_rules | `(tactic| walk_at "rx") => `(tactic| repeat (first
  | ((with_reducible apply r_var); focus exact rfl)
  | with_reducible refine r_c ?_
  | with_reducible refine r_chain ?_
  | ((with_reducible apply r_aug); focus exact rfl)
  | with_reducible refine r_ip ?_
  | with_reducible refine r_op ?_
  | with_reducible refine r_I0 ?_
  | with_reducible refine r_cons ?_
  | with_reducible refine r_nil ?_
  | with_reducible refine r_seq ?_
  | with_reducible refine r_asg ?_
  | with_reducible refine r_gn ?_
  | with_reducible refine r_gcons ?_
  | with_reducible refine r_gnil ?_
  | with_reducible refine r_m1 ?_
  | with_reducible refine r_sfld ?_
  | with_reducible refine r_sfa ?_
  | with_reducible refine r_rAdd ?_
  | with_reducible refine r_ret ?_
  | with_reducible refine r_ifS ?_
  | with_reducible refine r_test ?_
  | with_reducible refine r_bl ?_
  | with_reducible refine r_B ?_
  | with_reducible refine r_drop ?_
  | with_reducible refine r_bm ?_
  | with_reducible refine r_CB ?_
  | with_reducible refine r_call ?_
  | with_reducible refine r_make ?_
  | with_reducible refine r_tup ?_
  | with_reducible refine r_lst ?_
  | ((with_reducible refine r_I ?_ ?_); focus (first | decide | exact ⟨by decide, by decide⟩ | exact .inl ⟨by decide, by decide⟩ | exact .inr ⟨by decide, by decide⟩ | omega))
  | with_reducible refine r_U ?_
  | with_reducible refine r_un ?_
  | with_reducible refine r_and ?_
  | with_reducible refine r_or ?_
  | with_reducible refine r_not ?_
  | with_reducible refine r_andV ?_
  | with_reducible refine r_orV ?_
  | with_reducible refine r_notV ?_
  | with_reducible refine r_if ?_
  | with_reducible refine r_sl ?_
  | with_reducible refine r_part ?_
  | with_reducible refine r_parti ?_
  | with_reducible refine r_nopart ?_
  | with_reducible refine r_il ?_
  | with_reducible refine r_it ?_
  | with_reducible refine r_ir ?_
  | with_reducible refine r_is ?_
  | with_reducible refine r_next ?_
  | with_reducible refine r_retN ?_
  | ((with_reducible refine r_eq ?_ ?_); focus exact rfl)
  | ((with_reducible refine r_ne ?_ ?_); focus exact rfl)))
section
variable {P : Program} {w : World} {K : PySem.W.Frag} {mg : Str → Option Value} {base : Heap}
/-! ### the law's base -/
theorem r_glst {a : Addr} {xs : List V} {n : Nat} {t : TGs} {σ : L2.St} {H : Hp} {Qs : L2.St → Hp → Prop} (h : H a = some (.lst xs)) (hl : xs.length = n) (q : t xs σ H Qs) : gLst K n t (.ref a) σ H Qs := ⟨a, xs, rfl, SqL.of h, hl, q⟩
def spLG : Sp := fun vs H Q _ => ∃ l hd g, ∃ rs : List Addr, ∃ rows f, ∃ ts : List Trip, ∃ cs : List Cell, vs = [.ref l, .ref hd, .ref g] ∧ RowsAt H l rs rows ∧ HeldAt H hd f ∧ GrpAt H g ts cs ∧ (∀ t ∈ ts, t.1 < rows.length) ∧ (∀ c ∈ cs, c.1 ∈ names4) ∧ rows.length ≤ cap ∧ (∀ row ∈ rows, row.length ≤ 1000) ∧ ts.length ≤ 1000 ∧
  ∀ p l' rs' hd' H', Same H H' → H l' = none → (∀ r ∈ rs', H r = none) → H' p = some (.lst [.ref l', .ref hd']) → RowsAt H' l' rs' (ts.foldl (fun r t => addRow r t.1 t.2.2) rows) → HeldAt H' hd' (cs.foldl (fun f c => putF4 f c.1 c.2) f) → Q (.ref p) H'
theorem ok_law_grown  (T : Txt K mg) : Fc P w K mg base CX0 (1) "_law_grown" ["_law_rows", "_law_held", "_law_group_here"] (spLG) := by
  refine ⟨?_, gm_law_grown T, (fd_law_grown T.says).kp, (fd_law_grown T.says).bindsN fun _ _ _ _ _ _ us hl => match us, hl with | [_, _, _], _ => rfl⟩
  refine (fd_law_grown T.says).ok sc_law_grown (fun vs H Q E h => by first | (obtain ⟨_, rfl, _⟩ := h; rfl) | (obtain ⟨_, _, rfl, _⟩ := h; rfl) | (obtain ⟨_, _, _, rfl, _⟩ := h; rfl) | (obtain ⟨_, _, _, _, rfl, _⟩ := h; rfl) | (obtain ⟨_, _, _, _, _, rfl, _⟩ := h; rfl) | (obtain ⟨_, _, _, _, _, _, rfl, _⟩ := h; rfl) | (obtain ⟨_, _, _, _, _, _, _, rfl, _⟩ := h; rfl) | (obtain ⟨_, _, _, _, _, _, _, _, rfl, _⟩ := h; rfl) | (obtain ⟨_, _, _, _, _, _, _, _, _, rfl, _⟩ := h; rfl)) (fun cdv A outer s H vs Q E hr h => ?_)
  obtain ⟨l, hd, g, rs, rows, f, ts, cs, rfl, hrows, hh, ⟨D1, D2, ys1, ys2, eg, e1, e2, h1, h2⟩, ht, hc, hl, hR, hRt, q⟩ := h
  have l1 : ys1.length = ts.length := by rw [h1.length, List.length_map]
  have l2 : ys2.length = cs.length := by rw [h2.length, List.length_map]
  refine ⟨_, PSs.nox (pss_cons (ps_setLc (i := 3) (own := [("_law_row", 11)]) (g := gName 11) (tt := tYes) rfl sc_law_grown.nd rfl rfl (sw_true rfl rfl rfl (by decide +kernel)) (pi_list (pv 0)) (blkOk_by (N := ["_law_rows", "_law_held", "_law_group_here", "_law_more", "_law_replica", "_law_place", "_law_deed", "_law_holds", "_law_name", "_law_shape", "_law_outcome_here", "_law_row"]) (sc := defScope s_law_grown) (by decide +kernel)) (fun _ _ _ _ _ => (pg_name (i := 11) sc_law_grown.nd rfl (Or.inl rfl))) (fun _ _ _ _ _ => pts_nil) (fun _ _ _ _ _ => by (apply pe_cast (pe_callTy call_list_of (by rfl) (n_list T) (by decide +kernel) (pa_cons (pv 11) pa_nil))); (try dsimp only [L2.Cx.blk]) <;> exact rfl))
      (pss_cons (ps_for PassesOwn.never rfl (pi_list (pe_ix ix_list (pv 2) pe_int (fun _ _ => rfl))) (pg_tup rfl (pgs_cons (pg_name (i := 4) sc_law_grown.nd rfl (Or.inl rfl)) (pgs_cons (pg_name (i := 5) sc_law_grown.nd rfl (Or.inl rfl)) (pgs_cons (pg_name (i := 6) sc_law_grown.nd rfl (Or.inl rfl)) pgs_nil)))) (pss_one (ps_expr (pe_bm PySem.F.plainAttrs_list PySem.F.slot_list_append PySem.F.type_list_append mt_append (pe_ix ix_list (pv 3) (pv 4) (fun _ _ => rfl)) (pa_cons (pv 6) pa_nil)))))
      (pss_cons (ps_set (i := 7) sc_law_grown.nd rfl (Or.inl rfl) (pe_callTy call_dictD (by rfl) (n_dict T) (by decide +kernel) (pa_cons (pv 1) pa_nil)))
      (pss_cons (ps_for PassesOwn.never rfl (pi_list (pe_ix ix_list (pv 2) pe_int (fun _ _ => rfl))) (pg_tup rfl (pgs_cons (pg_name (i := 8) sc_law_grown.nd rfl (Or.inl rfl)) (pgs_cons (pg_name (i := 9) sc_law_grown.nd rfl (Or.inl rfl)) (pgs_cons (pg_name (i := 10) sc_law_grown.nd rfl (Or.inl rfl)) pgs_nil)))) (pss_one (ps_dput (hu_of hr) (pv 7) (pv 8) (pe_tup (pa_cons (pv 9) (pa_cons (pv 10) pa_nil))) rfl)))
      (pss_one (ps_ret (pe_lst (pa_cons (pv 3) (pa_cons (pv 7) pa_nil))))))))), ?_⟩
  walk_at "rx"
  refine r_lc ?_
  walk_at "rx"
  refine ⟨l, rfl, ⟨_, SqL.of hrows.1⟩, fun D hD => ?_⟩
  refine lc_ob (xs := rs.map V.ref) (P := fun i => RowP (rows.getD i [])) (Fr := Same) (Wk.lst (I := fun H' => Same H H') fun H' s => s _ _ hrows.1) FrmOk.same hD (fun _ s => s) (by rw [List.length_map, hrows.2.1]; exact hl) (fun i H H' p h t k => h.mv t k) (fun i H p h z => by obtain ⟨ys, e, _⟩ := h; rw [z] at e; cases e) ?_ ?_
  · intro i y H2 Q2 hy s2 k
    obtain ⟨r, row, ys, hr, rfl, er, eg, er2, er3⟩ := rows_get (hrows.same s2) hy
    refine ⟨wipe1, ?_⟩
    walk_at "rx"
    refine ⟨r, ys, rfl, .inl (SqL.of er2), fun p hp => ?_⟩
    refine k p _ (same_new hp) hp ⟨ys, upd_same, ?_⟩
    rw [eg]
    exact er3.ts (Tst.new hp)
  intro H1 rs1 s1 lrs nd nD nrs eD hp
  rw [List.length_map] at lrs
  have R1 : RowsAt H1 D rs1 rows := ⟨eD, by rw [lrs]; exact hrows.2.1, nd, nD, hp⟩
  walk_at "rx"
  refine r_il ?_
  walk_at "rx"
  refine r_ixL (v := .ref D1) (s1 _ _ eg) (atI_nat (j := 0) rfl) ?_
  refine ⟨D1, rfl, ⟨_, SqL.of (s1 _ _ e1)⟩, for_any (xs := ys1) (Wk.lst (I := fun H' => Same H H') fun H' s => s _ _ e1) (fun i σ H' => ∃ v4 v5 v6, σ = [some (.ref l), some (.ref hd), some (.ref g), some (.ref D), v4, v5, v6, none, none, none, none, none] ∧ Same H H' ∧ RowsAt H' D rs1 ((ts.take i).foldl (fun r t => addRow r t.1 t.2.2) rows) ∧ ∀ row ∈ (ts.take i).foldl (fun r t => addRow r t.1 t.2.2) rows, row.length ≤ 1000 + i) (fun i σ H' ⟨_, _, _, _, s, _⟩ => s) ⟨none, none, none, rfl, s1, R1, hR⟩ ?_ ?_⟩
  · rintro i x σ H2 hx ⟨v4, v5, v6, rfl, s2, R2, hR2⟩
    obtain ⟨dd, hdd, hxd⟩ := (h1.ts (Tst.same s2)).at hx
    obtain ⟨t, hti, rfl⟩ := getElem_map_some hdd
    obtain ⟨p, xs, rfl, hp, y1, _, rfl, k1, y2, _, rfl, k2, y3, _, rfl, k3, rfl⟩ := hxd
    obtain rfl : y1 = .int t.1 := k1
    obtain rfl : y2 = .int t.2.1 := k2
    have hlt : t.1 < rs1.length := by
      rw [R2.2.1, rows_len]
      exact ht t (List.mem_of_getElem? hti)
    have hri : rs1[t.1]? = some rs1[t.1] := List.getElem?_eq_getElem hlt
    obtain ⟨ys, ey, hy⟩ := R2.2.2.2.2 t.1 _ hri
    have hi : i < ts.length := (List.getElem?_eq_some_iff.mp hti).1
    have hyl : ys.length ≤ cap := by
      rw [hy.length, List.length_map]
      have : ((List.foldl (fun r t => addRow r t.1 t.2.2) rows (ts.take i)).getD t.1 []).length ≤ 1000 + i := by
        rw [List.getD_eq_getElem?_getD]
        cases e : (List.foldl (fun r t => addRow r t.1 t.2.2) rows (ts.take i))[t.1]? with
        | none => exact Nat.zero_le _
        | some r => exact hR2 r (List.mem_of_getElem? e)
      have : cap = 8000000 := rfl
      omega
    walk_at "rx"
    refine r_gtup hp rfl ?_
    walk_at "rx"
    refine r_ixL R2.1 (atI_nat (j := t.1) (by rw [List.getElem?_map, hri]; rfl)) ?_
    refine ⟨ty_l ey, ?_⟩
    walk_at "rx"
    refine ⟨rs1[t.1], ys, y3, rfl, rfl, ey, cap_lt hyl, ?_⟩
    walk_at "rx"
    rw [foldl_take hti]
    exact ⟨some (.int t.1), some (.int t.2.1), some y3, rfl, same_mut s2 (nrs _ (List.mem_of_getElem? hri)), R2.add hri ey k3, addRow_le hR2⟩
  · rintro σ H2 ⟨v4, v5, v6, rfl, s2, R2, hR2⟩
    rw [l1, List.take_length] at R2
    walk_at "rx"
    obtain ⟨kvs, hk1, hk2⟩ := id (hh.same s2)
    refine ⟨hd, kvs, rfl, .inl hk1, fun p hp => ?_⟩
    have s3 := same_new (o := .dK kvs) hp
    have s23 := s2.trans s3
    have R3 := R2.same s3
    have h3 : HeldAt (upd H2 p (.dK kvs)) p f := ⟨kvs, upd_same, hk2.ts (Tst.new hp)⟩
    have hp0 : H p = none := s2.free hp
    generalize upd H2 p (.dK kvs) = H3 at s3 s23 R3 h3
    walk_at "rx"
    refine r_il ?_
    walk_at "rx"
    refine r_ixL (v := .ref D2) (s23 _ _ eg) (atI_nat (j := 1) rfl) ?_
    refine ⟨D2, rfl, ⟨_, SqL.of (s23 _ _ e2)⟩, for_any (xs := ys2) (Wk.lst (I := fun H' => Same H H') fun H' s => s _ _ e2) (fun i σ H' => ∃ v8 v9 v10, σ = [some (.ref l), some (.ref hd), some (.ref g), some (.ref D), v4, v5, v6, some (.ref p), v8, v9, v10, none] ∧ Same H H' ∧ RowsAt H' D rs1 (ts.foldl (fun r t => addRow r t.1 t.2.2) rows) ∧ HeldAt H' p ((cs.take i).foldl (fun f c => putF4 f c.1 c.2) f)) (fun i σ H' ⟨_, _, _, _, s, _⟩ => s) ⟨none, none, none, rfl, s23, R3, h3⟩ ?_ ?_⟩
    · rintro i x σ H4 hx ⟨v8, v9, v10, rfl, s4, R4, h4⟩
      obtain ⟨dd, hdd, hxd⟩ := (h2.ts (Tst.same s4)).at hx
      obtain ⟨c, hci, rfl⟩ := getElem_map_some hdd
      obtain ⟨pp, xs, rfl, hpp, y1, _, rfl, k1, y2, _, rfl, k2, y3, _, rfl, k3, rfl⟩ := hxd
      obtain rfl : y1 = .str c.1 := k1
      walk_at "rx"
      refine r_gtup hpp rfl ?_
      walk_at "rx"
      refine r_dput ?_
      walk_at "rx"
      refine ⟨le_line rfl, fun p5 hp5 => ?_⟩
      have s5 := same_new (o := .tup [y2, y3]) hp5
      have R5 := R4.same s5
      obtain ⟨kv5, z1, z2⟩ := h4.same s5
      have rv : Rp (upd H4 p5 (.tup [y2, y3])) (dSO c.2) (.ref p5) := Rp.tupOf upd_same (RpL.cons (k2.ts (Tst.new hp5)) (RpL.cons (k3.ts (Tst.new hp5)) RpL.nil))
      have s45 := s4.trans s5
      generalize upd H4 p5 (.tup [y2, y3]) = H5 at R5 z1 z2 rv s45
      refine ⟨.ref p, rfl, ?_⟩
      walk_at "rx"
      refine ⟨p, _, rfl, DPut.k (k := .inr c.1) z1 (heldP_few z2), ?_⟩
      have n3 : ∀ {a ys}, H5 a = some (.lst ys) → a ≠ p := fun e z => by rw [z, z1] at e; cases e
      have t5 : Tst H5 (upd H5 p (.dK (putK kv5 (.inr c.1) (.ref p5)))) := (Tst.refl H5).dK z1
      rw [foldl_take hci]
      refine ⟨some (.str c.1), some y2, some y3, rfl, same_mut s45 hp0, R5.mv (Sx.refl p H5).self t5 (n3 R5.1) (fun hm => ?_), ⟨_, upd_same, (z2.put (hc c (List.mem_of_getElem? hci)) rv).ts t5⟩⟩
      obtain ⟨j, hj, ej⟩ := List.getElem_of_mem hm
      obtain ⟨ys, ey, _⟩ := R5.2.2.2.2 j p (by rw [List.getElem?_eq_getElem hj, ej])
      exact n3 ey rfl
    · rintro σ H4 ⟨v8, v9, v10, rfl, s4, R4, h4⟩
      rw [l2, List.take_length] at h4
      walk_at "rx"
      refine ⟨le_line rfl, fun pz hpz => ?_⟩
      have s5 := same_new (o := .lst [.ref D, .ref p]) hpz
      exact q pz D rs1 p _ (s4.trans s5) hD nrs upd_same (R4.same s5) (h4.same s5)
/-- the names of a dict of the law, sorted -/
theorem held_keys {H : Hp} {hd : Addr} {f : Str → Option SO} (h : HeldAt H hd f) : ∃ kvs, ∃ ks : List Str, H hd = some (.dK kvs) ∧ (kvs.map fun kv => kV kv.1) = ks.map V.str ∧ ks.length < 64 ∧ ∀ ys : List Str, ys.Perm ks → sortedS ys = true → ys = held4 f := by
  obtain ⟨kvs, h1, h2⟩ := h
  obtain ⟨ks, e, h64, hs⟩ := h2.keys
  refine ⟨kvs, ks, h1, ?_, h64, hs⟩
  have : (kvs.map fun kv => kV kv.1) = (kvs.map (·.1)).map kV := by rw [List.map_map]; rfl
  rw [this, e, List.map_map]
  rfl
theorem held_get {H : Hp} {hd : Addr} {f : Str → Option SO} {n : Str} (h : HeldAt H hd f) (hn : n ∈ held4 f) : ∃ so v, f n = some so ∧ DGet H hd (.str n) (some v) ∧ Rp H (dSO so) v := by
  obtain ⟨so, e⟩ := held4_some hn
  obtain ⟨kvs, h1, h2⟩ := h
  have hv := h2.2.2 n
  rw [e] at hv
  obtain ⟨v, hv1, hv2⟩ := hv
  exact ⟨so, v, e, by rw [← hv1]; exact DGet.k (k := .inr n) h1, hv2⟩
theorem hCells_at {f : Str → Option SO} {i : Nat} {n : Str} {so : SO} (hn : (held4 f)[i]? = some n) (e : f n = some so) : (hCells f)[i]? = some (n, so.1, so.2) := by
  rw [hCells_held, List.getElem?_map, hn]
  show some (n, ((f n).getD _).1, ((f n).getD _).2) = _
  rw [e]
  rfl
def spBD : Sp := fun vs H Q _ => ∃ l hd, ∃ rs : List Addr, ∃ s : BS, vs = [.ref l, .ref hd, .int s.com] ∧ RowsAt H l rs s.rows ∧ HeldAt H hd s.held ∧ s.rows.length ≤ cap ∧ ∀ v H', Same H H' → Rp H' (dBase s) v → Q v H'
theorem ok_law_base_data  (T : Txt K mg) : Fc P w K mg base CX0 (1) "_law_base_data" ["_law_rows", "_law_held", "_law_commits"] (spBD) := by
  refine ⟨?_, gm_law_base_data T, (fd_law_base_data T.says).kp, (fd_law_base_data T.says).bindsN fun _ _ _ _ _ _ us hl => match us, hl with | [_, _, _], _ => rfl⟩
  refine (fd_law_base_data T.says).ok sc_law_base_data (fun vs H Q E h => by first | (obtain ⟨_, rfl, _⟩ := h; rfl) | (obtain ⟨_, _, rfl, _⟩ := h; rfl) | (obtain ⟨_, _, _, rfl, _⟩ := h; rfl) | (obtain ⟨_, _, _, _, rfl, _⟩ := h; rfl) | (obtain ⟨_, _, _, _, _, rfl, _⟩ := h; rfl) | (obtain ⟨_, _, _, _, _, _, rfl, _⟩ := h; rfl) | (obtain ⟨_, _, _, _, _, _, _, rfl, _⟩ := h; rfl) | (obtain ⟨_, _, _, _, _, _, _, _, rfl, _⟩ := h; rfl) | (obtain ⟨_, _, _, _, _, _, _, _, _, rfl, _⟩ := h; rfl)) (fun cdv A outer s H vs Q E hr h => ?_)
  obtain ⟨l, hd, rs, s0, rfl, hrows, hh, hl, q⟩ := h
  refine ⟨_, PSs.nox (pss_cons (ps_set (i := 3) sc_law_base_data.nd rfl (Or.inl rfl) (pe_callTy call_tuple_of (by rfl) (n_tuple T) (by decide +kernel) (pa_cons (pe_lc (own := [("_law_name", 4)]) (g := gName 4) (tt := tYes) rfl sc_law_base_data.nd (pi_list (pe_callB cr_sortedS (by rfl) (n_sorted T) (by decide +kernel) (pa_cons (pe_callTy (call_listD rfl) (by rfl) (n_list T) (by decide +kernel) (pa_cons (pv 1) pa_nil)) pa_nil))) (blkOk_by (N := ["_law_rows", "_law_held", "_law_commits", "_law_cells", "_law_name", "_law_row"]) (sc := defScope s_law_base_data) (by decide +kernel)) (fun _ _ _ _ _ => (pg_name (i := 4) sc_law_base_data.nd rfl (Or.inl rfl))) (fun _ _ _ _ _ => pts_nil) (fun _ _ _ _ _ => by (apply pe_cast (pe_op op_catT (pe_tup (pa_cons (pv 4) pa_nil)) (pe_dget (hu_of hr) (pv 1) (pv 4) (fun _ _ => rfl)))); (try dsimp only [L2.Cx.blk]) <;> exact rfl)) pa_nil)))
      (pss_one (ps_ret (pe_tup (pa_cons (pv 2) (pa_cons (pe_callTy call_tuple_of (by rfl) (n_tuple T) (by decide +kernel) (pa_cons (pe_lc (own := [("_law_row", 5)]) (g := gName 5) (tt := tYes) rfl sc_law_base_data.nd (pi_list (pv 0)) (blkOk_by (N := ["_law_rows", "_law_held", "_law_commits", "_law_cells", "_law_name", "_law_row"]) (sc := defScope s_law_base_data) (by decide +kernel)) (fun _ _ _ _ _ => (pg_name (i := 5) sc_law_base_data.nd rfl (Or.inl rfl))) (fun _ _ _ _ _ => pts_nil) (fun _ _ _ _ _ => by (apply pe_cast (pe_callTy call_tuple_of (by rfl) (n_tuple T) (by decide +kernel) (pa_cons (pv 5) pa_nil))); (try dsimp only [L2.Cx.blk]) <;> exact rfl)) pa_nil)) (pa_cons (pv 3) pa_nil))))))), ?_⟩
  walk_at "rx"
  refine r_lc ?_
  walk_at "rx"
  obtain ⟨kvs, ks, hk, hks, h64, hsort⟩ := held_keys hh
  refine ⟨hd, kvs, rfl, .inl hk, fun pk hpk => ?_⟩
  rw [hks]
  walk_at "rx"
  refine ⟨pk, ks, rfl, SqL.of upd_same, h64, fun ys p hperm hs hp => ?_⟩
  have eys := hsort ys hperm hs
  subst eys
  have s1 := (same_new (o := .lst (ks.map V.str)) hpk).trans (same_new (o := .lst ((held4 s0.held).map V.str)) hp)
  have ep : upd (upd H pk (.lst (ks.map V.str))) p (.lst ((held4 s0.held).map V.str)) p = some (.lst ((held4 s0.held).map V.str)) := upd_same
  generalize upd (upd H pk (.lst (ks.map V.str))) p (.lst ((held4 s0.held).map V.str)) = H1 at s1 ep
  refine ⟨p, rfl, ⟨_, SqL.of ep⟩, fun D0 hD => ?_⟩
  have hlen : (held4 s0.held).length ≤ 4 := List.length_filter_le _ _
  have hl2 : (hCells s0.held).length = (held4 s0.held).length := by rw [hCells_held, List.length_map]
  refine lc_rp (xs := (held4 s0.held).map V.str) (ds := (hCells s0.held).map dCell) (Fr := Same) (Wk.lst (I := fun H' => Same H1 H') fun H' s => s _ _ ep) FrmOk.same hD (fun _ s => s) (by rw [List.length_map, List.length_map, hl2]) (by rw [List.length_map]; exact Nat.le_trans hlen (by decide)) ?_ ?_
  · intro i x dd H2 Q2 hx hdd s2 k
    obtain ⟨n, hn, rfl⟩ := getElem_map_some hx
    have hh2 := hh.same (s1.trans s2)
    refine ⟨wipe1, ?_⟩
    walk_at "rx"
    refine ⟨le_line rfl, fun p3 hp3 => ?_⟩
    have s3 := same_new (o := .tup [.str n]) hp3
    obtain ⟨so, v, eso, hg, hv⟩ := held_get (hh2.same s3) (List.mem_of_getElem? hn)
    rw [List.getElem?_map, hCells_at hn eso] at hdd
    obtain rfl := Option.some.inj hdd
    refine r_dget ?_
    walk_at "rx"
    refine ⟨hd, v, rfl, hg, ?_⟩
    exact cat_cell upd_same hv fun r H4 s4 hr hR => k _ H4 (s3.trans s4) hR
  · intro H2 ys s2 eD hys
    walk_at "rx"
    refine ⟨D0, ys, rfl, .inl ⟨SqL.of eD, fun p3 hp3 => ?_⟩⟩
    have s3 := (s1.trans s2).trans (same_new (o := .tup ys) hp3)
    have R3 : Rp (upd H2 p3 (.tup ys)) (.tup ((hCells s0.held).map dCell)) (.ref p3) := Rp.tupOf upd_same (hys.ts (Tst.new hp3))
    generalize upd H2 p3 (.tup ys) = H3 at s3 R3
    have hrows3 := hrows.same s3
    walk_at "rx"
    refine r_lc ?_
    walk_at "rx"
    refine ⟨l, rfl, ⟨_, SqL.of hrows3.1⟩, fun D4 hD4 => ?_⟩
    refine lc_rp (xs := rs.map V.ref) (ds := s0.rows.map fun row => .tup (row.map dDeed)) (Fr := Same) (Wk.lst (I := fun H' => Same H3 H') fun H' s => s _ _ hrows3.1) FrmOk.same hD4 (fun _ s => s) (by rw [List.length_map, List.length_map, hrows.2.1]) (by rw [List.length_map, hrows.2.1]; exact hl) ?_ ?_
    · intro i x dd H5 Q5 hx hdd s5 k
      obtain ⟨r, row, ys, hr, rfl, er, _, er2, er3⟩ := rows_get (hrows3.same s5) hx
      refine ⟨wipe1, ?_⟩
      walk_at "rx"
      refine ⟨r, ys, rfl, .inl ⟨SqL.of er2, fun p hp => ?_⟩⟩
      rw [List.getElem?_map, er] at hdd
      obtain rfl : D.tup (row.map dDeed) = dd := Option.some.inj hdd
      exact k _ _ (same_new hp) (Rp.tupOf upd_same (er3.ts (Tst.new hp)))
    · intro H5 ys s5 eD5 hys
      walk_at "rx"
      refine ⟨D4, ys, rfl, .inl ⟨SqL.of eD5, fun p hp => ?_⟩⟩
      walk_at "rx"
      refine ⟨le_line rfl, fun p6 hp6 => ?_⟩
      refine q _ _ (((s3.trans s5).trans (same_new hp)).trans (same_new hp6)) (Rp.tupOf upd_same (RpL.cons rfl (RpL.cons (Rp.ts (Tst.new hp6) (Rp.tupOf upd_same (hys.ts (Tst.new hp)))) (RpL.cons (((R3.ts (Tst.same s5)).ts (Tst.new hp)).ts (Tst.new hp6)) RpL.nil))))
end
end Q

/-! ## G9 -/
set_option Elab.async false
set_option linter.all false
set_option maxRecDepth 100000
set_option maxHeartbeats 4000000
namespace Q
open PySem PySem.Spec PyProof.Rows L2
local macro_rules | `(tactic| walk_at "rd") => `(tactic| repeat (first
  | ((with_reducible apply r_var); focus exact rfl)
  | with_reducible refine r_c ?_
  | with_reducible refine r_chain ?_
  | ((with_reducible apply r_aug); focus exact rfl)
  | with_reducible refine r_ip ?_
  | with_reducible refine r_op ?_
  | with_reducible refine r_I0 ?_
  | with_reducible refine r_cons ?_
  | with_reducible refine r_nil ?_
  | with_reducible refine r_seq ?_
  | with_reducible refine r_asg ?_
  | with_reducible refine r_gn ?_
  | with_reducible refine r_gcons ?_
  | with_reducible refine r_gnil ?_
  | with_reducible refine r_lc ?_
  | with_reducible refine r_m1 ?_
  | with_reducible refine r_sfld ?_
  | with_reducible refine r_sfa ?_
  | with_reducible refine r_rAdd ?_
  | with_reducible refine r_ret ?_
  | with_reducible refine r_ifS ?_
  | with_reducible refine r_test ?_
  | with_reducible refine r_bl ?_
  | with_reducible refine r_B ?_
  | with_reducible refine r_drop ?_
  | with_reducible refine r_bm ?_
  | with_reducible refine r_CB ?_
  | with_reducible refine r_call ?_
  | with_reducible refine r_meth ?_
  | with_reducible refine r_make ?_
  | with_reducible refine r_tup ?_
  | with_reducible refine r_lst ?_
  | ((with_reducible refine r_I ?_ ?_); focus (first | decide | exact ⟨by decide, by decide⟩ | exact .inl ⟨by decide, by decide⟩ | exact .inr ⟨by decide, by decide⟩ | omega))
  | with_reducible refine r_U ?_
  | with_reducible refine r_un ?_
  | with_reducible refine r_and ?_
  | with_reducible refine r_or ?_
  | with_reducible refine r_not ?_
  | with_reducible refine r_andV ?_
  | with_reducible refine r_orV ?_
  | with_reducible refine r_notV ?_
  | with_reducible refine r_if ?_
  | with_reducible refine r_sl ?_
  | with_reducible refine r_part ?_
  | with_reducible refine r_parti ?_
  | with_reducible refine r_nopart ?_
  | with_reducible refine r_il ?_
  | with_reducible refine r_it ?_
  | with_reducible refine r_ir ?_
  | with_reducible refine r_is ?_
  | with_reducible refine r_next ?_
  | with_reducible refine r_retN ?_
  | ((with_reducible refine r_eq ?_ ?_); focus exact rfl)
  | ((with_reducible refine r_ne ?_ ?_); focus exact rfl)))
local macro_rules | `(tactic| walk_at "rx") => `(tactic| repeat (first
  | ((with_reducible apply r_var); focus exact rfl)
  | with_reducible refine r_c ?_
  | with_reducible refine r_chain ?_
  | ((with_reducible apply r_aug); focus exact rfl)
  | with_reducible refine r_ip ?_
  | with_reducible refine r_op ?_
  | with_reducible refine r_I0 ?_
  | with_reducible refine r_cons ?_
  | with_reducible refine r_nil ?_
  | with_reducible refine r_seq ?_
  | with_reducible refine r_asg ?_
  | with_reducible refine r_gn ?_
  | with_reducible refine r_gcons ?_
  | with_reducible refine r_gnil ?_
  | with_reducible refine r_m1 ?_
  | with_reducible refine r_sfld ?_
  | with_reducible refine r_sfa ?_
  | with_reducible refine r_rAdd ?_
  | with_reducible refine r_ret ?_
  | with_reducible refine r_ifS ?_
  | with_reducible refine r_test ?_
  | with_reducible refine r_bl ?_
  | with_reducible refine r_B ?_
  | with_reducible refine r_drop ?_
  | with_reducible refine r_bm ?_
  | with_reducible refine r_CB ?_
  | with_reducible refine r_call ?_
  | with_reducible refine r_make ?_
  | with_reducible refine r_tup ?_
  | with_reducible refine r_lst ?_
  | ((with_reducible refine r_I ?_ ?_); focus (first | decide | exact ⟨by decide, by decide⟩ | exact .inl ⟨by decide, by decide⟩ | exact .inr ⟨by decide, by decide⟩ | omega))
  | with_reducible refine r_U ?_
  | with_reducible refine r_un ?_
  | with_reducible refine r_and ?_
  | with_reducible refine r_or ?_
  | with_reducible refine r_not ?_
  | with_reducible refine r_andV ?_
  | with_reducible refine r_orV ?_
  | with_reducible refine r_notV ?_
  | with_reducible refine r_if ?_
  | with_reducible refine r_sl ?_
  | with_reducible refine r_part ?_
  | with_reducible refine r_parti ?_
  | with_reducible refine r_nopart ?_
  | with_reducible refine r_il ?_
  | with_reducible refine r_it ?_
  | with_reducible refine r_ir ?_
  | with_reducible refine r_is ?_
  | with_reducible refine r_next ?_
  | with_reducible refine r_retN ?_
  | ((with_reducible refine r_eq ?_ ?_); focus exact rfl)
  | ((with_reducible refine r_ne ?_ ?_); focus exact rfl)))
section
variable {P : Program} {w : World} {K : PySem.W.Frag} {mg : Str → Option Value} {base : Heap}
def spBB : Sp := fun vs H Q _ => ∃ l hd, ∃ rs : List Addr, ∃ s : BS, vs = [.ref l, .ref hd, .int s.com] ∧ RowsAt H l rs s.rows ∧ HeldAt H hd s.held ∧ (∀ row ∈ s.rows, ∀ d ∈ row, okD d) ∧ (∀ c ∈ hCells s.held, okC c) ∧ (3 :: wBase s).length ≤ cap ∧ RetB H Q (3 :: wBase s)
theorem ok_law_base_bytes  (T : Txt K mg) : Fc P w K mg base CX0 (47) "_law_base_bytes" ["_law_rows", "_law_held", "_law_commits"] (spBB) := by
  refine ⟨?_, gm_law_base_bytes T, (fd_law_base_bytes T.says).kp, (fd_law_base_bytes T.says).bindsN fun _ _ _ _ _ _ us hl => match us, hl with | [_, _, _], _ => rfl⟩
  refine (fd_law_base_bytes T.says).ok sc_law_base_bytes (fun vs H Q E h => by first | (obtain ⟨_, rfl, _⟩ := h; rfl) | (obtain ⟨_, _, rfl, _⟩ := h; rfl) | (obtain ⟨_, _, _, rfl, _⟩ := h; rfl) | (obtain ⟨_, _, _, _, rfl, _⟩ := h; rfl) | (obtain ⟨_, _, _, _, _, rfl, _⟩ := h; rfl) | (obtain ⟨_, _, _, _, _, _, rfl, _⟩ := h; rfl) | (obtain ⟨_, _, _, _, _, _, _, rfl, _⟩ := h; rfl) | (obtain ⟨_, _, _, _, _, _, _, _, rfl, _⟩ := h; rfl) | (obtain ⟨_, _, _, _, _, _, _, _, _, rfl, _⟩ := h; rfl)) (fun cdv A outer s H vs Q E hr h => ?_)
  obtain ⟨l, hd, rs, s0, rfl, hrows, hh, okr, okc, hl, q⟩ := h
  have hl2 : 1 + ((wNum s0.com).length + (wRows s0.rows).length + (wL wCell (hCells s0.held)).length) ≤ cap := by
    rw [List.length_cons, wBase, List.length_append, List.length_append] at hl
    omega
  refine ⟨_, PSs.nox (pss_cons (ps_set (i := 3) sc_law_base_bytes.nd rfl (Or.inl rfl) (pe_op op_cat (pe_lst (pa_cons pe_int pa_nil)) (pe_f (ok_law_number T) (hr.mono (by omega)) (by rfl) (pa_cons (pv 2) pa_nil))))
      (pss_cons (ps_for PassesOwn.never rfl (pi_list (pv 0)) (pg_name (i := 4) sc_law_base_bytes.nd rfl (Or.inl rfl)) (pss_one (ps_set (i := 3) sc_law_base_bytes.nd rfl (Or.inl rfl) (pe_op op_cat (pv 3) (pe_f (ok_law_listed T) (hr.mono (by omega)) (by rfl) (pa_cons (pe_lc (own := [("_law_deed", 6)]) (g := gName 6) (tt := tYes) rfl sc_law_base_bytes.nd (pi_list (pv 4)) (blkOk_by (N := ["_law_rows", "_law_held", "_law_commits", "_law_data", "_law_row", "_law_name", "_law_deed"]) (sc := defScope s_law_base_bytes) (by decide +kernel)) (fun _ _ _ _ _ => (pg_name (i := 6) sc_law_base_bytes.nd rfl (Or.inl rfl))) (fun _ _ _ _ _ => pts_nil) (fun _ _ _ _ _ => (pe_f (ok_law_deed_bytes T) (hr.mono (by omega)) (by rfl) (pa_cons (pv 6) pa_nil)))) pa_nil))))))
      (pss_one (ps_ret (pe_op op_cat (pv 3) (pe_f (ok_law_listed T) (hr.mono (by omega)) (by rfl) (pa_cons (pe_lc (own := [("_law_name", 5)]) (g := gName 5) (tt := tYes) rfl sc_law_base_bytes.nd (pi_list (pe_callB cr_sortedS (by rfl) (n_sorted T) (by decide +kernel) (pa_cons (pe_callTy (call_listD rfl) (by rfl) (n_list T) (by decide +kernel) (pa_cons (pv 1) pa_nil)) pa_nil))) (blkOk_by (N := ["_law_rows", "_law_held", "_law_commits", "_law_data", "_law_row", "_law_name", "_law_deed"]) (sc := defScope s_law_base_bytes) (by decide +kernel)) (fun _ _ _ _ _ => (pg_name (i := 5) sc_law_base_bytes.nd rfl (Or.inl rfl))) (fun _ _ _ _ _ => pts_nil) (fun _ _ _ _ _ => by (apply pe_cast (pe_f (ok_law_cell_bytes T) (hr.mono (by omega)) (by rfl) (pa_cons (pe_op op_catT (pe_tup (pa_cons (pv 5) pa_nil)) (pe_dget (hu_of hr) (pv 1) (pv 5) (fun _ _ => rfl))) pa_nil))); (try dsimp only [L2.Cx.blk]) <;> exact rfl)) pa_nil))))))), ?_⟩
  walk_at "rx"
  refine ⟨le_line rfl, fun p hp => ?_⟩
  have s1 := same_new (o := .lst [V.int 3]) hp
  walk_at "rx"
  refine ⟨_, s0.com, rfl, rfl, by omega, fun H2 p2 s2 n2 e2 => ?_⟩
  refine r_cat (xs := [3]) (s2 _ _ upd_same) e2 (by show 1 + _ ≤ _; omega) fun p3 n3 => ?_
  have s3 := (s1.trans s2).trans (same_new (o := bL ([3] ++ wNum s0.com)) n3)
  have e3 : upd H2 p3 (bL ([3] ++ wNum s0.com)) p3 = some (bL ([3] ++ wNum s0.com)) := upd_same
  generalize upd H2 p3 (bL ([3] ++ wNum s0.com)) = H3 at s3 e3
  walk_at "rx"
  refine ⟨.ref l, rfl, l, rfl, ⟨_, SqL.of (s3 _ _ hrows.1)⟩, for_any (xs := rs.map V.ref) (Wk.lst (I := fun H' => Same H H') fun H' s => s _ _ hrows.1) (fun i σ H' => ∃ v pd, σ = [some (.ref l), some (.ref hd), some (.int s0.com), some (.ref pd), v, none, none] ∧ Same H H' ∧ H' pd = some (bL ([3] ++ (wNum s0.com ++ wRows (s0.rows.take i))))) (fun i σ H' ⟨_, _, _, s, _⟩ => s) ⟨none, p3, rfl, s3, by rw [e3]; simp [wRows]⟩ ?_ ?_⟩
  · rintro i x σ H4 hx ⟨v, pd, rfl, s4, e4⟩
    obtain ⟨r, row, ys, hr, rfl, er, _, er2, er3⟩ := rows_get (hrows.same s4) hx
    have hle := wRows_le s0.rows (i + 1)
    rw [wRows_at er, List.length_append] at hle
    walk_at "rx"
    refine r_lc ?_
    walk_at "rx"
    refine ⟨r, rfl, ⟨_, SqL.of er2⟩, fun D0 hD => ?_⟩
    refine lc_wg (w := wDeed) (d := dDeed) (l := row) (fun v x H Q E hx h1 h2 h3 => ⟨v, x, rfl, h1, okr row (List.mem_of_getElem? er) x hx, h2, h3⟩) (Wk.lst fun H' s => s _ _ er2) (lt_by rfl) er3 (by omega) (Nat.le_trans (wL_ge wDeed_pos) (by omega)) hD fun H5 ps s5 e5 b5 => ?_
    walk_at "rx"
    refine ⟨D0, ps, _, rfl, e5, b5, by rw [wL_len]; omega, fun H6 p6 s6 n6 e6 => ?_⟩
    rw [wL_len] at e6
    have s56 := s5.trans s6
    refine r_cat (s56 _ _ e4) e6 (by simp only [List.length_append, List.length_cons, List.length_nil]; omega) fun p7 n7 => ?_
    walk_at "rx"
    refine ⟨_, p7, rfl, (s4.trans s56).trans (same_new n7), ?_⟩
    rw [upd_same, wRows_at er]
    simp only [List.append_assoc]
  · rintro σ H4 ⟨v, pd, rfl, s4, e4⟩
    rw [List.length_map, hrows.2.1, List.take_length] at e4
    walk_at "rx"
    refine r_lc ?_
    walk_at "rx"
    obtain ⟨kvs, ks, hk, hks, h64, hsort⟩ := held_keys (hh.same s4)
    refine ⟨hd, kvs, rfl, .inl hk, fun pk hpk => ?_⟩
    rw [hks]
    walk_at "rx"
    refine ⟨pk, ks, rfl, SqL.of upd_same, h64, fun ys p hperm hs hp => ?_⟩
    have eys := hsort ys hperm hs
    subst eys
    have s5 := (same_new (o := .lst (ks.map V.str)) hpk).trans (same_new (o := .lst ((held4 s0.held).map V.str)) hp)
    have ep : upd (upd H4 pk (.lst (ks.map V.str))) p (.lst ((held4 s0.held).map V.str)) p = some (.lst ((held4 s0.held).map V.str)) := upd_same
    generalize upd (upd H4 pk (.lst (ks.map V.str))) p (.lst ((held4 s0.held).map V.str)) = H5 at s5 ep
    refine ⟨p, rfl, ⟨_, SqL.of ep⟩, fun D0 hD => ?_⟩
    have hlen : (held4 s0.held).length ≤ 4 := List.length_filter_le _ _
    have hl3 : (hCells s0.held).length = (held4 s0.held).length := by rw [hCells_held, List.length_map]
    refine lc_wG (xs := (held4 s0.held).map V.str) (bss := (hCells s0.held).map wCell) (Wk.lst fun H' s => s _ _ ep) (by rw [List.length_map, List.length_map, hl3]) (by rw [List.length_map, hl3]; exact Nat.le_trans hlen (by decide)) hD (fun j x bs H6 Qe hx hbs s6 q6 => ?_) fun H6 ps s6 e6 b6 => ?_
    · obtain ⟨n, hn, rfl⟩ := getElem_map_some hx
      refine ⟨wipe1, ?_⟩
      walk_at "rx"
      refine ⟨le_line rfl, fun p3 hp3 => ?_⟩
      have s7 := same_new (o := .tup [.str n]) hp3
      obtain ⟨so, v, eso, hg, hv⟩ := held_get (hh.same (((s4.trans s5).trans s6).trans s7)) (List.mem_of_getElem? hn)
      have hlb := mem_wL hbs
      rw [List.getElem?_map, hCells_at hn eso] at hbs
      obtain rfl := Option.some.inj hbs
      refine r_dget ?_
      walk_at "rx"
      refine ⟨hd, v, rfl, hg, ?_⟩
      refine cat_cell upd_same hv fun r H8 s8 hr hR => ?_
      walk_at "rx"
      exact ⟨_, (n, so.1, so.2), rfl, hR, okc _ (List.mem_of_getElem? (hCells_at hn eso)), by omega, fun H9 p9 s9 n9 e9 => q6 H9 p9 ((s7.trans s8).trans s9) ((s7.trans s8).free n9) e9⟩
    · walk_at "rx"
      refine ⟨D0, ps, _, rfl, e6, b6, by rw [wL_len]; omega, fun H7 p7 s7 n7 e7 => ?_⟩
      rw [wL_len] at e7
      have s47 := (s5.trans s6).trans s7
      refine r_cat (s47 _ _ e4) e7 (by simp only [List.length_append, List.length_cons, List.length_nil]; omega) fun r hr => ?_
      refine q.upd (s4.trans s47) hr ?_
      rw [wBase]
      simp only [List.append_assoc, List.cons_append, List.nil_append]
end
end Q

/-! ## G10 -/
set_option Elab.async false
set_option linter.all false
set_option maxRecDepth 100000
set_option maxHeartbeats 4000000
namespace Q
open PySem PySem.Spec PyProof.Rows L2
local macro_rules | `(tactic| walk_at "rd") => `(tactic| repeat (first
  | ((with_reducible apply r_var); focus exact rfl)
  | with_reducible refine r_c ?_
  | with_reducible refine r_chain ?_
  | ((with_reducible apply r_aug); focus exact rfl)
  | with_reducible refine r_ip ?_
  | with_reducible refine r_op ?_
  | with_reducible refine r_I0 ?_
  | with_reducible refine r_cons ?_
  | with_reducible refine r_nil ?_
  | with_reducible refine r_seq ?_
  | with_reducible refine r_asg ?_
  | with_reducible refine r_gn ?_
  | with_reducible refine r_gcons ?_
  | with_reducible refine r_gnil ?_
  | with_reducible refine r_lc ?_
  | with_reducible refine r_m1 ?_
  | with_reducible refine r_sfld ?_
  | with_reducible refine r_sfa ?_
  | with_reducible refine r_rAdd ?_
  | with_reducible refine r_ret ?_
  | with_reducible refine r_ifS ?_
  | with_reducible refine r_test ?_
  | with_reducible refine r_bl ?_
  | with_reducible refine r_B ?_
  | with_reducible refine r_drop ?_
  | with_reducible refine r_bm ?_
  | with_reducible refine r_CB ?_
  | with_reducible refine r_call ?_
  | with_reducible refine r_meth ?_
  | with_reducible refine r_make ?_
  | with_reducible refine r_tup ?_
  | with_reducible refine r_lst ?_
  | ((with_reducible refine r_I ?_ ?_); focus (first | decide | exact ⟨by decide, by decide⟩ | exact .inl ⟨by decide, by decide⟩ | exact .inr ⟨by decide, by decide⟩ | omega))
  | with_reducible refine r_U ?_
  | with_reducible refine r_un ?_
  | with_reducible refine r_and ?_
  | with_reducible refine r_or ?_
  | with_reducible refine r_not ?_
  | with_reducible refine r_andV ?_
  | with_reducible refine r_orV ?_
  | with_reducible refine r_notV ?_
  | with_reducible refine r_if ?_
  | with_reducible refine r_sl ?_
  | with_reducible refine r_part ?_
  | with_reducible refine r_parti ?_
  | with_reducible refine r_nopart ?_
  | with_reducible refine r_il ?_
  | with_reducible refine r_it ?_
  | with_reducible refine r_ir ?_
  | with_reducible refine r_is ?_
  | with_reducible refine r_next ?_
  | with_reducible refine r_retN ?_
  | ((with_reducible refine r_eq ?_ ?_); focus exact rfl)
  | ((with_reducible refine r_ne ?_ ?_); focus exact rfl)))
local macro_rules | `(tactic| walk_at "rx") => `(tactic| repeat (first
  | ((with_reducible apply r_var); focus exact rfl)
  | with_reducible refine r_c ?_
  | with_reducible refine r_chain ?_
  | ((with_reducible apply r_aug); focus exact rfl)
  | with_reducible refine r_ip ?_
  | with_reducible refine r_op ?_
  | with_reducible refine r_I0 ?_
  | with_reducible refine r_cons ?_
  | with_reducible refine r_nil ?_
  | with_reducible refine r_seq ?_
  | with_reducible refine r_asg ?_
  | with_reducible refine r_gn ?_
  | with_reducible refine r_gcons ?_
  | with_reducible refine r_gnil ?_
  | with_reducible refine r_m1 ?_
  | with_reducible refine r_sfld ?_
  | with_reducible refine r_sfa ?_
  | with_reducible refine r_rAdd ?_
  | with_reducible refine r_ret ?_
  | with_reducible refine r_ifS ?_
  | with_reducible refine r_test ?_
  | with_reducible refine r_bl ?_
  | with_reducible refine r_B ?_
  | with_reducible refine r_drop ?_
  | with_reducible refine r_bm ?_
  | with_reducible refine r_CB ?_
  | with_reducible refine r_call ?_
  | with_reducible refine r_make ?_
  | with_reducible refine r_tup ?_
  | with_reducible refine r_lst ?_
  | ((with_reducible refine r_I ?_ ?_); focus (first | decide | exact ⟨by decide, by decide⟩ | exact .inl ⟨by decide, by decide⟩ | exact .inr ⟨by decide, by decide⟩ | omega))
  | with_reducible refine r_U ?_
  | with_reducible refine r_un ?_
  | with_reducible refine r_and ?_
  | with_reducible refine r_or ?_
  | with_reducible refine r_not ?_
  | with_reducible refine r_andV ?_
  | with_reducible refine r_orV ?_
  | with_reducible refine r_notV ?_
  | with_reducible refine r_if ?_
  | with_reducible refine r_sl ?_
  | with_reducible refine r_part ?_
  | with_reducible refine r_parti ?_
  | with_reducible refine r_nopart ?_
  | with_reducible refine r_il ?_
  | with_reducible refine r_it ?_
  | with_reducible refine r_ir ?_
  | with_reducible refine r_is ?_
  | with_reducible refine r_next ?_
  | with_reducible refine r_retN ?_
  | ((with_reducible refine r_eq ?_ ?_); focus exact rfl)
  | ((with_reducible refine r_ne ?_ ?_); focus exact rfl)))
section
variable {P : Program} {w : World} {K : PySem.W.Frag} {mg : Str → Option Value} {base : Heap}
/-! ### a base that grew k times -/
structure GB (k : Nat) (s : BS) : Prop where
  com : s.com = k
  r8 : s.rows.length = 8
  rl : ∀ row ∈ s.rows, row.length ≤ 3 * k
  rd : ∀ row ∈ s.rows, ∀ d ∈ row, okDe d
  hc : ∀ n so, s.held n = some so → okCe (n, so.1, so.2)
theorem GB.cells {k : Nat} {s : BS} (h : GB k s) : ∀ c ∈ hCells s.held, okCe c := by
  intro c hc
  obtain ⟨n, hn, e⟩ := List.mem_filterMap.mp hc
  cases e2 : s.held n with
  | none =>
    rw [e2] at e
    cases e
  | some so =>
    rw [e2] at e
    have e3 := Option.some.inj e
    rw [← e3]
    exact h.hc n so e2
theorem GB.ok {k : Nat} {s : BS} (h : GB k s) (hk : k ≤ 100) : okB s := by
  refine ⟨?_, h.r8, fun row hr d hd => (h.rd row hr d hd).1, fun c hc => (h.cells c hc).1, fun n so e => (h.hc n so e).2.2⟩
  rw [h.com]
  show (wNum k).length ≤ 60
  rw [wNum_lt (by omega)]
  exact (show 1 ≤ 60 by decide)
theorem hCells_len (f : Str → Option SO) : (hCells f).length ≤ 4 := by
  rw [hCells_held, List.length_map]
  exact List.length_filter_le _ _
theorem GB.len {k : Nat} {s : BS} (h : GB k s) (hk : k ≤ 10) : (3 :: wBase s).length ≤ 300000 := by
  have h1 : (wL wCell (hCells s.held)).length ≤ 1 + 4 * 12000 := wL_le (fun c hc => (h.cells c hc).2.1) (hCells_len _) (by decide)
  have h2 : (wRows s.rows).length ≤ s.rows.length * 27601 := flat_le fun row hr => by
    have := wL_le (w := wDeed) (b := 920) (m := 30) (fun d hd => (h.rd row hr d hd).2) (Nat.le_trans (h.rl row hr) (by omega)) (by decide)
    omega
  rw [h.r8] at h2
  rw [List.length_cons, wBase, List.length_append, List.length_append, h.com, wNum_lt (by omega)]
  show 1 + _ + _ + 1 ≤ _
  omega
theorem mem_addRow {rows : List (List Deed)} {i : Nat} {d : Deed} {row : List Deed} (h : row ∈ addRow rows i d) : row ∈ rows ∨ row = rows.getD i [] ++ [d] := List.mem_or_eq_of_mem_set h
theorem addAll_ok {ts : List Trip} (ht : ∀ t ∈ ts, okTr t) (hde : ∀ t ∈ ts, okDe t.2.2) : ∀ {rows : List (List Deed)} {m : Nat}, (∀ row ∈ rows, row.length ≤ m) → (∀ row ∈ rows, ∀ d ∈ row, okDe d) →
    (∀ row ∈ ts.foldl (fun r t => addRow r t.1 t.2.2) rows, row.length ≤ m + ts.length) ∧ ∀ row ∈ ts.foldl (fun r t => addRow r t.1 t.2.2) rows, ∀ d ∈ row, okDe d := by
  induction ts with
  | nil => exact fun h1 h2 => ⟨h1, h2⟩
  | cons t ts ih =>
    intro rows m h1 h2
    have h3 := addRow_le (i := t.1) (d := t.2.2) h1
    have h4 : ∀ row ∈ addRow rows t.1 t.2.2, ∀ d ∈ row, okDe d := by
      intro row hr d hd
      rcases mem_addRow hr with hr | e
      · exact h2 row hr d hd
      · rw [e] at hd
        rcases List.mem_append.mp hd with hd | hd
        · rw [List.getD_eq_getElem?_getD] at hd
          cases e2 : rows[t.1]? with
          | none =>
            rw [e2] at hd
            exact absurd hd (by simp)
          | some r =>
            rw [e2] at hd
            exact h2 r (List.mem_of_getElem? e2) d hd
        · rw [List.mem_singleton.mp hd]
          exact hde t List.mem_cons_self
    obtain ⟨h5, h6⟩ := ih (fun x hx => ht x (List.mem_cons_of_mem _ hx)) (fun x hx => hde x (List.mem_cons_of_mem _ hx)) h3 h4
    refine ⟨fun row hr => ?_, h6⟩
    have := h5 row hr
    rw [List.length_cons]
    omega
theorem putAll_ok {cs : List Cell} (hc : ∀ c ∈ cs, okCe c) : ∀ {f : Str → Option SO}, (∀ n so, f n = some so → okCe (n, so.1, so.2)) → ∀ n so, cs.foldl (fun f c => putF4 f c.1 c.2) f n = some so → okCe (n, so.1, so.2) := by
  induction cs with
  | nil => exact fun h => h
  | cons c cs ih =>
    intro f h
    refine ih (fun x hx => hc x (List.mem_cons_of_mem _ hx)) fun n so e => ?_
    have e : (if n = c.1 then some c.2 else f n) = some so := e
    by_cases cc : n = c.1
    · rw [if_pos cc] at e
      obtain rfl := Option.some.inj e
      rw [cc]
      exact hc c List.mem_cons_self
    · rw [if_neg cc] at e
      exact h n so e
theorem okTr_deed {t : Trip} (h : okTr t) : okDe t.2.2 := ⟨h.1.2.2, h.2.2⟩
theorem GB.grow {k : Nat} {s : BS} {ts : List Trip} {cs : List Cell} (h : GB k s) (g : GrpB (lens s) ts cs) : GB (k + 1) (s.grow ts cs) := by
  obtain ⟨h1, h2⟩ := addAll_ok g.tr (fun t ht => okTr_deed (g.tr t ht)) h.rl h.rd
  refine ⟨by show s.com + 1 = _; rw [h.com], rows_len.trans h.r8, fun row hr => ?_, h2, putAll_ok g.ce h.hc⟩
  have := h1 row hr
  have := g.tl
  omega
theorem GB.good {k : Nat} {s : BS} {ts : List Trip} {cs : List Cell} (h : GB k s) (hk : k ≤ 100) (g : GrpB (lens s) ts cs) : GoodG s (ts, cs) :=
  ⟨g.ok, ⟨h.r8, fun row hr => by have := h.rl row hr; omega, by have := g.tl; show ts.length ≤ 1000; omega⟩, g.nx⟩
end
end Q

/-! ## G11 -/
set_option Elab.async false
set_option linter.all false
set_option maxRecDepth 100000
set_option maxHeartbeats 4000000
namespace Q
open PySem PySem.Spec PyProof.Rows L2
local macro_rules | `(tactic| walk_at "rd") => `(tactic| repeat (first
  | ((with_reducible apply r_var); focus exact rfl)
  | with_reducible refine r_c ?_
  | with_reducible refine r_chain ?_
  | ((with_reducible apply r_aug); focus exact rfl)
  | with_reducible refine r_ip ?_
  | with_reducible refine r_op ?_
  | with_reducible refine r_I0 ?_
  | with_reducible refine r_cons ?_
  | with_reducible refine r_nil ?_
  | with_reducible refine r_seq ?_
  | with_reducible refine r_asg ?_
  | with_reducible refine r_gn ?_
  | with_reducible refine r_gcons ?_
  | with_reducible refine r_gnil ?_
  | with_reducible refine r_lc ?_
  | with_reducible refine r_m1 ?_
  | with_reducible refine r_sfld ?_
  | with_reducible refine r_sfa ?_
  | with_reducible refine r_rAdd ?_
  | with_reducible refine r_ret ?_
  | with_reducible refine r_ifS ?_
  | with_reducible refine r_test ?_
  | with_reducible refine r_bl ?_
  | with_reducible refine r_B ?_
  | with_reducible refine r_drop ?_
  | with_reducible refine r_bm ?_
  | with_reducible refine r_CB ?_
  | with_reducible refine r_call ?_
  | with_reducible refine r_meth ?_
  | with_reducible refine r_make ?_
  | with_reducible refine r_tup ?_
  | with_reducible refine r_lst ?_
  | ((with_reducible refine r_I ?_ ?_); focus (first | decide | exact ⟨by decide, by decide⟩ | exact .inl ⟨by decide, by decide⟩ | exact .inr ⟨by decide, by decide⟩ | omega))
  | with_reducible refine r_U ?_
  | with_reducible refine r_un ?_
  | with_reducible refine r_and ?_
  | with_reducible refine r_or ?_
  | with_reducible refine r_not ?_
  | with_reducible refine r_andV ?_
  | with_reducible refine r_orV ?_
  | with_reducible refine r_notV ?_
  | with_reducible refine r_if ?_
  | with_reducible refine r_sl ?_
  | with_reducible refine r_part ?_
  | with_reducible refine r_parti ?_
  | with_reducible refine r_nopart ?_
  | with_reducible refine r_il ?_
  | with_reducible refine r_it ?_
  | with_reducible refine r_ir ?_
  | with_reducible refine r_is ?_
  | with_reducible refine r_next ?_
  | with_reducible refine r_retN ?_
  | ((with_reducible refine r_eq ?_ ?_); focus exact rfl)
  | ((with_reducible refine r_ne ?_ ?_); focus exact rfl)))
local macro_rules | `(tactic| walk_at "rx") => `(tactic| repeat (first
  | ((with_reducible apply r_var); focus exact rfl)
  | with_reducible refine r_c ?_
  | with_reducible refine r_chain ?_
  | ((with_reducible apply r_aug); focus exact rfl)
  | with_reducible refine r_ip ?_
  | with_reducible refine r_op ?_
  | with_reducible refine r_I0 ?_
  | with_reducible refine r_cons ?_
  | with_reducible refine r_nil ?_
  | with_reducible refine r_seq ?_
  | with_reducible refine r_asg ?_
  | with_reducible refine r_gn ?_
  | with_reducible refine r_gcons ?_
  | with_reducible refine r_gnil ?_
  | with_reducible refine r_m1 ?_
  | with_reducible refine r_sfld ?_
  | with_reducible refine r_sfa ?_
  | with_reducible refine r_rAdd ?_
  | with_reducible refine r_ret ?_
  | with_reducible refine r_ifS ?_
  | with_reducible refine r_test ?_
  | with_reducible refine r_bl ?_
  | with_reducible refine r_B ?_
  | with_reducible refine r_drop ?_
  | with_reducible refine r_bm ?_
  | with_reducible refine r_CB ?_
  | with_reducible refine r_call ?_
  | with_reducible refine r_make ?_
  | with_reducible refine r_tup ?_
  | with_reducible refine r_lst ?_
  | ((with_reducible refine r_I ?_ ?_); focus (first | decide | exact ⟨by decide, by decide⟩ | exact .inl ⟨by decide, by decide⟩ | exact .inr ⟨by decide, by decide⟩ | omega))
  | with_reducible refine r_U ?_
  | with_reducible refine r_un ?_
  | with_reducible refine r_and ?_
  | with_reducible refine r_or ?_
  | with_reducible refine r_not ?_
  | with_reducible refine r_andV ?_
  | with_reducible refine r_orV ?_
  | with_reducible refine r_notV ?_
  | with_reducible refine r_if ?_
  | with_reducible refine r_sl ?_
  | with_reducible refine r_part ?_
  | with_reducible refine r_parti ?_
  | with_reducible refine r_nopart ?_
  | with_reducible refine r_il ?_
  | with_reducible refine r_it ?_
  | with_reducible refine r_ir ?_
  | with_reducible refine r_is ?_
  | with_reducible refine r_next ?_
  | with_reducible refine r_retN ?_
  | ((with_reducible refine r_eq ?_ ?_); focus exact rfl)
  | ((with_reducible refine r_ne ?_ ?_); focus exact rfl)))
section
variable {P : Program} {w : World} {K : PySem.W.Frag} {mg : Str → Option Value} {base : Heap}
/-! ### how deep -/
theorem depDs_le {n : Nat} : ∀ {ds : List D}, (∀ d ∈ ds, depD d ≤ n) → depDs ds ≤ n
  | [], _ => by rw [depDs]; exact Nat.zero_le _
  | d :: ds, h => by
    rw [depDs]
    exact Nat.max_le.mpr ⟨h d List.mem_cons_self, depDs_le fun x hx => h x (List.mem_cons_of_mem _ hx)⟩
theorem depDs_map {α : Type} {f : α → D} {n : Nat} {l : List α} (h : ∀ x ∈ l, depD (f x) ≤ n) : depDs (l.map f) ≤ n := depDs_le fun d hd => by
  obtain ⟨x, hx, rfl⟩ := List.mem_map.mp hd
  exact h x hx
mutual
theorem depD_val : ∀ x : Val, depD (dVal x) ≤ 2 * x.dep
  | .int i => by rw [dVal, depD, Val.dep]; omega
  | .str s => by rw [dVal, depD, Val.dep]; omega
  | .bl b => by rw [dVal, depD, Val.dep]; omega
  | .list vs => by
    have := depD_vals vs
    rw [dVal, depD, depDs, depDs, depDs, depD, depD, Val.dep]
    omega
  | .make m vs => by
    have := depD_vals vs
    rw [dVal, depD, depDs, depDs, depDs, depDs, depD, depD, depD, Val.dep]
    omega
theorem depD_vals : ∀ vs : List Val, depDs (dVals vs) ≤ 2 * depL vs
  | [] => by rw [dVals, depDs]; exact Nat.zero_le _
  | v :: vs => by
    have h1 := depD_val v
    have h2 := depD_vals vs
    rw [dVals, depDs, depL]
    omega
end
theorem depD_mark (m : Mark) : depD (dMark m) ≤ 2 := by
  rw [dMark, depD, depDs, depDs, depDs, depD, depD]
  decide
theorem depD_opt (m : Option Mark) : depD (dOpt m) ≤ 2 := by
  cases m with
  | none => rw [dOpt, depD]; decide
  | some m => exact depD_mark m
theorem depD_deed (d : Deed) : depD (dDeed d) ≤ 4 := by
  cases d with
  | back n => rw [dDeed, depD, depDs, depDs, depDs, depD, depD]; decide
  | change m rem beh n t =>
    have h1 : depDs (rem.map dMark) ≤ 2 := depDs_map fun x _ => depD_mark x
    have h2 := depD_opt beh
    simp only [dDeed, depD, depDs]
    omega
theorem depD_kind (k : Kind) : depD (dKind k) ≤ 2 := by
  rw [dKind, depD, depDs, depDs, depDs, depD, depD]
  decide
theorem depD_maker (m : Maker) : depD (dMaker m) ≤ 4 := by
  have h1 : depDs (m.2.map dKind) ≤ 2 := depDs_map fun x _ => depD_kind x
  simp only [dMaker, depD, depDs]
  omega
theorem depD_data (m : DataT) : depD (dData m) ≤ 6 := by
  have h1 : depDs (m.2.map dMaker) ≤ 4 := depDs_map fun x _ => depD_maker x
  simp only [dData, depD, depDs]
  omega
theorem depD_shape (m : Shape) : depD (dShape m) ≤ 8 := by
  have h1 : depDs (m.2.map dData) ≤ 6 := depDs_map fun x _ => depD_data x
  have h2 := depD_kind m.1
  simp only [dShape, depD, depDs]
  omega
theorem depD_out {o : Out} (h : okO o) : depD (dOut o) ≤ 82 := by
  cases o with
  | val v =>
    have h1 := depD_val v
    have h2 : v.dep ≤ 40 := h.1
    simp only [dOut, depD, depDs]
    omega
  | flt i s =>
    simp only [dOut, dFlt]
    split <;> (simp only [depD, depDs]; omega)
theorem depD_cell {c : Cell} (h : okC c) : depD (dCell c) ≤ 83 := by
  have h1 := depD_shape c.2.1
  have h2 := depD_out h.2.2
  simp only [dCell, depD, depDs]
  omega
theorem depD_base {s : BS} (h : ∀ c ∈ hCells s.held, okC c) : depD (dBase s) ≤ 120 := by
  have h1 : depDs ((hCells s.held).map dCell) ≤ 83 := depDs_map fun c hc => depD_cell (h c hc)
  have h2 : depDs (s.rows.map fun row => .tup (row.map dDeed)) ≤ 5 := depDs_map fun row _ => by
    have : depDs (row.map dDeed) ≤ 4 := depDs_map fun d _ => depD_deed d
    rw [depD]
    omega
  simp only [dBase, depD, depDs]
  omega
/-- what is told of a log that was read -/
def spTold (K : PySem.W.Frag) : Sp := fun vs H Q _ => ∃ fv t dv sz, vs = [fv, t, dv, sz] ∧ ((fv = .non ∧ dv = .non) ∨ ∃ p b, ∃ i j : Nat, ∃ s : BS, ∃ pd, fv = .ref p ∧ t = .int i ∧ dv = .ref pd ∧ sz = .int j ∧ H p = some (.tup [.int i, .ref b, .int j]) ∧ BaseAt K H b s ∧ Rp H (dBase s) (.ref pd) ∧ s.rows.length ≤ cap ∧ ∀ c ∈ hCells s.held, okC c) ∧ ∀ H', Same H H' → Q (.bl true) H'
theorem ok_law_told  (T : Txt K mg) : Fc P w K mg base CX0 (123) "_law_told" ["_law_found", "_law_turn", "_law_due", "_law_size"] (spTold K) := by
  refine ⟨?_, gm_law_told T, (fd_law_told T.says).kp, (fd_law_told T.says).bindsN fun _ _ _ _ _ _ us hl => match us, hl with | [_, _, _, _], _ => rfl⟩
  refine (fd_law_told T.says).ok sc_law_told (fun vs H Q E h => by first | (obtain ⟨_, rfl, _⟩ := h; rfl) | (obtain ⟨_, _, rfl, _⟩ := h; rfl) | (obtain ⟨_, _, _, rfl, _⟩ := h; rfl) | (obtain ⟨_, _, _, _, rfl, _⟩ := h; rfl) | (obtain ⟨_, _, _, _, _, rfl, _⟩ := h; rfl) | (obtain ⟨_, _, _, _, _, _, rfl, _⟩ := h; rfl) | (obtain ⟨_, _, _, _, _, _, _, rfl, _⟩ := h; rfl) | (obtain ⟨_, _, _, _, _, _, _, _, rfl, _⟩ := h; rfl) | (obtain ⟨_, _, _, _, _, _, _, _, _, rfl, _⟩ := h; rfl)) (fun cdv A outer s H vs Q E hr h => ?_)
  obtain ⟨fv, t, dv, sz, rfl, hcase, q⟩ := h
  refine ⟨_, PSs.nox (pss_cons (ps_if (PW.pt (pw_or (pt_cmpR op_isN (pv 2) pe_non (nomark _)) (pw_or1 (pt_cmpR op_isN (pv 0) pe_non (nomark _))))) (pss_one (ps_ret (pe_and (pe_cmpR op_isN (pv 0) pe_non (nomark _)) (pe_one (pe_cmpR op_isN (pv 2) pe_non (nomark _)))))) pss_nil)
      (pss_cons (ps_if (PW.pt (pw_or (pt_not (pt_val (pe_callB call_isi (by rfl) (n_isinstance T) (by decide +kernel) (pa_cons (pv 0) (pa_cons (pe_bltn (v := .ty "tuple") (by rfl) (n_tuple T) (by decide +kernel) rfl) pa_nil))))) (pw_or (pt_cmpR op_ne (pe_callB call_len_seq (by rfl) (n_len T) PySem.boot_len (pa_cons (pv 0) pa_nil)) pe_int (nomark _)) (pw_or1 (pt_not (pt_val (pe_f (ok_sm T) (hr.mono (by omega)) (by rfl) (pa_cons (pe_ix ix_tup (pv 0) pe_int (fun _ _ => rfl)) (pa_cons (pv 1) pa_nil))))))))) (pss_one (ps_ret pe_bl)) pss_nil)
      (pss_one (ps_ret (pe_and (pe_f (ok_sm T) (hr.mono (by omega)) (by rfl) (pa_cons (pe_m0 (ok_Base_data T) (hr.mono (by omega)) (pe_ix ix_tup (pv 0) pe_int (fun _ _ => rfl))) (pa_cons (pv 2) pa_nil))) (pe_one (pe_f (ok_sm T) (hr.mono (by omega)) (by rfl) (pa_cons (pe_ix ix_tup (pv 0) pe_int (fun _ _ => rfl)) (pa_cons (pv 3) pa_nil))))))))), ?_⟩
  walk_at "rx"
  refine ⟨rfl, ?_⟩
  walk_at "rx"
  rcases hcase with ⟨rfl, rfl⟩ | ⟨p, b, i, j, s0, pd, rfl, rfl, rfl, rfl, hp, hB, hd, hl, hok⟩
  · refine ite_t rfl ?_
    refine ite_t rfl ?_
    walk_at "rx"
    refine ⟨rfl, ?_⟩
    refine ⟨true, rfl, ?_⟩
    refine ite_t rfl ?_
    walk_at "rx"
    refine ⟨rfl, ?_⟩
    exact q H (Same.refl H)
  · refine ite_f rfl ?_
    walk_at "rx"
    refine ⟨rfl, ?_⟩
    walk_at "rx"
    refine ite_f rfl ?_
    walk_at "rx"
    refine r_isi (tx_tup hp) k_tuple_tuple ?_
    refine ⟨true, rfl, ?_⟩
    refine ite_f rfl ?_
    walk_at "rx"
    refine ⟨p, _, rfl, .inr (SqT.of hp), ?_⟩
    walk_at "rx"
    refine ite_f rfl ?_
    walk_at "rx"
    refine r_ixT hp rfl ?_
    walk_at "rx"
    refine .inl ⟨_, _, .int i, rfl, rfl, rfl, by rw [depD]; decide, fun H1 s1 => ?_⟩
    refine ⟨true, rfl, ?_⟩
    refine ite_f rfl ?_
    walk_at "rx"
    obtain ⟨bx, d, dx, l, rs, hd', hB1⟩ := hB.same s1
    refine r_mt (m := "data") ?_
    walk_at "rx"
    refine r_ixT (s1 _ _ hp) rfl ?_
    refine ⟨b, bx, _, rfl, hB1.1, bF_no (by decide +kernel), ?_⟩
    walk_at "rx"
    refine ⟨b, s0, rfl, ⟨bx, d, dx, l, rs, hd', hB1⟩, hl, fun v H2 s2 hv => ?_⟩
    walk_at "rx"
    refine .inl ⟨v, _, dBase s0, rfl, hv, hd.ts (Tst.same (s1.trans s2)), depD_base hok, fun H3 s3 => ?_⟩
    refine ⟨true, rfl, ?_⟩
    refine ite_t rfl ?_
    walk_at "rx"
    refine r_ixT (((s1.trans s2).trans s3) _ _ hp) rfl ?_
    walk_at "rx"
    exact .inl ⟨_, _, .int j, rfl, rfl, rfl, by rw [depD]; decide, fun H4 s4 => q H4 (((s1.trans s2).trans s3).trans s4)⟩
def spSB (K : PySem.W.Frag) : Sp := fun vs H Q _ => ∃ st dr, vs = [.ref st] ∧ StAt H st dr ∧ ∀ (k : Nat) s l hd b rs p H', k ≤ 3 → GB k s → Lx st H H' → StAt H' st dr → H' p = some (.lst [.ref l, .ref hd, .int k, .ref b]) → RowsAt H' l rs s.rows → HeldAt H' hd s.held → BaseAt K H' b s → Q (.ref p) H'
theorem ok_law_some_base  (T : Txt K mg) : Fc P w K mg base CX0 (13) "_law_some_base" ["_law_state"] (spSB K) := by
  refine ⟨?_, gm_law_some_base T, (fd_law_some_base T.says).kp, (fd_law_some_base T.says).bindsN fun _ _ _ _ _ _ us hl => match us, hl with | [_], _ => rfl⟩
  refine (fd_law_some_base T.says).ok sc_law_some_base (fun vs H Q E h => by first | (obtain ⟨_, rfl, _⟩ := h; rfl) | (obtain ⟨_, _, rfl, _⟩ := h; rfl) | (obtain ⟨_, _, _, rfl, _⟩ := h; rfl) | (obtain ⟨_, _, _, _, rfl, _⟩ := h; rfl) | (obtain ⟨_, _, _, _, _, rfl, _⟩ := h; rfl) | (obtain ⟨_, _, _, _, _, _, rfl, _⟩ := h; rfl) | (obtain ⟨_, _, _, _, _, _, _, rfl, _⟩ := h; rfl) | (obtain ⟨_, _, _, _, _, _, _, _, rfl, _⟩ := h; rfl) | (obtain ⟨_, _, _, _, _, _, _, _, _, rfl, _⟩ := h; rfl)) (fun cdv A outer s H vs Q E hr h => ?_)
  obtain ⟨st, dr, rfl, hS, q⟩ := h
  refine ⟨_, PSs.nox (pss_cons (ps_setLc (i := 2) (own := [("_law_k", 1)]) (g := gName 1) (tt := tYes) rfl sc_law_some_base.nd rfl rfl (sw_true rfl rfl rfl (by decide +kernel)) (pi_range1 (by rfl) (n_range T) (pa_cons pe_int pa_nil)) (blkOk_by (N := ["_law_state", "_law_k", "_law_rows", "_law_held", "_law_base", "_law_commits", "_law_group_here"]) (sc := defScope s_law_some_base) (by decide +kernel)) (fun _ _ _ _ _ => (pg_name (i := 1) sc_law_some_base.nd rfl (Or.inl rfl))) (fun _ _ _ _ _ => pts_nil) (fun _ _ _ _ _ => (pe_lst pa_nil)))
      (pss_cons (ps_set (i := 3) sc_law_some_base.nd rfl (Or.inl rfl) pe_dnewK)
      (pss_cons (ps_set (i := 4) sc_law_some_base.nd rfl (Or.inl rfl) (pe_i0 (ok_Base_init T) (hr.mono (by omega)) (by rfl)))
      (pss_cons (ps_set (i := 5) sc_law_some_base.nd rfl (Or.inl rfl) pe_int)
      (pss_cons (ps_for PassesOwn.never rfl (pi_range1 (by rfl) (n_range T) (pa_cons (pe_f (ok_law_next T) (hr.mono (by omega)) (by rfl) (pa_cons (pv 0) (pa_cons pe_int pa_nil))) pa_nil)) (pg_name (i := 1) sc_law_some_base.nd rfl (Or.inl rfl)) (pss_cons (ps_set (i := 6) sc_law_some_base.nd rfl (Or.inl rfl) (pe_f (ok_law_group T) (hr.mono (by omega)) (by rfl) (pa_cons (pv 0) (pa_cons (pv 2) pa_nil))))
      (pss_cons (ps_asg (pe_f (ok_law_grown T) (hr.mono (by omega)) (by rfl) (pa_cons (pv 2) (pa_cons (pv 3) (pa_cons (pv 6) pa_nil)))) (pg_lst rfl (pgs_cons (pg_name (i := 2) sc_law_some_base.nd rfl (Or.inl rfl)) (pgs_cons (pg_name (i := 3) sc_law_some_base.nd rfl (Or.inl rfl)) pgs_nil))))
      (pss_cons (ps_set (i := 4) sc_law_some_base.nd rfl (Or.inl rfl) (pe_m (ok_Base_grown T) (hr.mono (by omega)) (pv 4) (pa_cons (pe_ix ix_list (pv 6) pe_int (fun _ _ => rfl)) (pa_cons (pe_ix ix_list (pv 6) pe_int (fun _ _ => rfl)) pa_nil))))
      (pss_one (ps_set (i := 5) sc_law_some_base.nd rfl (Or.inl rfl) (pe_op op_add (pv 5) pe_int)))))))
      (pss_one (ps_ret (pe_lst (pa_cons (pv 2) (pa_cons (pv 3) (pa_cons (pv 5) (pa_cons (pv 4) pa_nil)))))))))))), ?_⟩
  walk_at "rx"
  refine r_lc ?_
  walk_at "rx"
  refine ⟨8, rfl, by decide, by decide, fun D hD => ?_⟩
  refine lc_ob (xs := upto 8) (P := fun i => RowP ((List.replicate 8 ([] : List Deed)).getD i [])) (Fr := Same) (Wk.rng (I := fun _ => True)) FrmOk.same hD (fun _ _ => trivial) (by rw [upto_len]; decide) (fun i H H' p h t k => h.mv t k) (fun i H p h z => by obtain ⟨ys, e, _⟩ := h; rw [z] at e; cases e) ?_ ?_
  · intro i x H2 Q2 hx s2 k
    refine ⟨wipe1, ?_⟩
    walk_at "rx"
    refine ⟨le_line rfl, fun p hp => ?_⟩
    refine k p _ (same_new hp) hp ⟨[], upd_same, ?_⟩
    have e : (List.replicate 8 ([] : List Deed)).getD i [] = [] := by
      rw [List.getD_eq_getElem?_getD, List.getElem?_replicate]
      split <;> rfl
    rw [e]
    rfl
  intro H1 rs1 s1 l1 nd nD hn eD hp
  rw [upto_len] at l1
  have R1 : RowsAt H1 D rs1 (List.replicate 8 []) := ⟨eD, by rw [l1]; rfl, nd, nD, hp⟩
  walk_at "rx"
  intro hd hhd
  have s2 := s1.trans (same_new (o := .dK []) hhd)
  have R2 := R1.same (same_new (o := .dK []) hhd)
  have h2 : HeldAt (upd H1 hd (.dK [])) hd (fun _ => none) := ⟨[], upd_same, HeldP.nil⟩
  generalize upd H1 hd (.dK []) = H2 at s2 R2 h2
  walk_at "rx"
  intro b bx nb nbx nbb
  refine ⟨b, bx, rfl, upd_same, fun H3 d dx l rs hd3 sx3 _ _ _ _ B3 => ⟨rfl, ?_⟩⟩
  have s3 := made_same nb nbx sx3
  have s03 := s2.trans s3
  walk_at "rx"
  refine r_ir ?_
  walk_at "rx"
  refine ⟨st, dr, 4, rfl, by decide, hS.same s03, fun k4 H4 hk4 l4 S4 => ?_⟩
  have S3 := hS.same s03
  walk_at "rx"
  refine ⟨_, rfl, by omega, by omega, ?_⟩
  rw [show ((k4 : Nat) : Int).toNat = k4 from rfl]
  have G0 : GB 0 ⟨0, List.replicate 8 [], fun _ => none⟩ := ⟨rfl, rfl, fun row hr => by rw [List.eq_of_mem_replicate hr]; exact Nat.zero_le _, fun row hr d hd => by rw [List.eq_of_mem_replicate hr] at hd; exact absurd hd (by simp), fun n so e => by cases e⟩
  refine for_any (xs := upto k4) (Wk.rng (I := fun _ => True)) (fun i σ H' => ∃ v1 v6 l hd b rs, ∃ s : BS, σ = [some (.ref st), v1, some (.ref l), some (.ref hd), some (.ref b), some (.int (i : Nat)), v6] ∧ Lx st H H' ∧ StAt H' st dr ∧ GB i s ∧ RowsAt H' l rs s.rows ∧ HeldAt H' hd s.held ∧ BaseAt K H' b s) (fun _ _ _ _ => trivial)
    ⟨none, none, D, hd, b, rs1, ⟨0, List.replicate 8 [], fun _ => none⟩, rfl, (Lx.of s03).trans l4, S4, G0, (R2.same s3).lx S3 l4, (h2.same s3).lx S3 l4, BaseAt.lx ⟨bx, d, dx, l, rs, hd3, B3⟩ S3 l4⟩ ?_ ?_
  · rintro i x σ H5 hx ⟨v1, v6, l, hd, b, rs, s0, rfl, l5, S5, G, R5, h5, B5⟩
    have hik : i < k4 := by
      have z := (List.getElem?_eq_some_iff.mp hx).1
      rw [upto_len] at z
      exact z
    walk_at "rx"
    refine ⟨st, dr, l, rs, s0.rows, rfl, S5, R5, G.r8, fun row hr => by have := G.rl row hr; omega, fun ts cs g H6 gb l6 S6 ga => ?_⟩
    have GG := G.good (by omega) gb
    have R6 := R5.lx S5 l6
    have h6 := h5.lx S5 l6
    have B6 := B5.lx S5 l6
    have ht : ∀ t ∈ ts, t.1 < s0.rows.length := fun t ht => by
      obtain ⟨j, hj, e⟩ := List.getElem_of_mem ht
      rw [G.r8]
      exact (gb.nx j t (by rw [List.getElem?_eq_getElem hj, e])).1
    have htl := gb.tl
    walk_at "rx"
    refine ⟨l, hd, g, rs, s0.rows, s0.held, ts, cs, rfl, R6, h6, ga, ht, GG.ok.nm, by rw [G.r8]; decide, GG.ro.rl, by omega, fun p l' rs' hd' H7 s7 _ _ ep R7 h7 => ?_⟩
    refine r_glst ep rfl ?_
    walk_at "rx"
    obtain ⟨D1, D2, ys1, ys2, eg, e1, e2, hy1, hy2⟩ := ga.same s7
    have B7 := B6.same s7
    obtain ⟨bx7, d7, dx7, l7', rs7, hd7, B7'⟩ := id B7
    refine r_mt (m := "grown") ⟨_, rfl, b, bx7, _, rfl, B7'.1, bF_no (by decide +kernel), ?_⟩
    walk_at "rx"
    refine r_ixL (v := .ref D1) eg (atI_nat (j := 0) rfl) ?_
    walk_at "rx"
    refine r_ixL (v := .ref D2) eg (atI_nat (j := 1) rfl) ?_
    refine r_nil ?_
    refine ⟨b, s0, D1, D2, ts, cs, ys1, ys2, 1000, rfl, B7, e1, hy1, e2, hy2, ht, GG.ok.nm, by rw [G.r8]; decide, GG.ro.rl, by have : cap = 8000000 := rfl; omega, fun b' H8 s8 nb8 B8 => ?_⟩
    walk_at "rx"
    exact ⟨_, _, l', hd', b', rs', s0.grow ts cs, rfl, (l5.trans l6).trans (Lx.of (s7.trans s8)), S6.same (s7.trans s8), G.grow gb, R7.same s8, h7.same s8, B8⟩
  · rintro σ H5 ⟨v1, v6, l, hd, b, rs, s0, rfl, l5, S5, G, R5, h5, B5⟩
    rw [upto_len] at G
    walk_at "rx"
    refine ⟨le_line rfl, fun p hp => ?_⟩
    have sp := same_new (o := .lst [.ref l, .ref hd, .int (k4 : Nat), .ref b]) hp
    have e : upd H5 p (.lst [.ref l, .ref hd, .int ((upto k4).length : Nat), .ref b]) = upd H5 p (.lst [.ref l, .ref hd, .int (k4 : Nat), .ref b]) := by rw [upto_len]
    rw [e]
    exact q k4 s0 l hd b rs p _ (by omega) G (l5.trans (Lx.of sp)) (S5.same sp) upd_same (R5.same sp) (h5.same sp) (B5.same sp)
end
end Q

/-! ## G12 -/
set_option Elab.async false
set_option linter.all false
set_option maxRecDepth 100000
set_option maxHeartbeats 4000000
namespace Q
open PySem PySem.Spec PyProof.Rows L2
local macro_rules | `(tactic| walk_at "rd") => `(tactic| repeat (first
  | ((with_reducible apply r_var); focus exact rfl)
  | with_reducible refine r_c ?_
  | with_reducible refine r_chain ?_
  | ((with_reducible apply r_aug); focus exact rfl)
  | with_reducible refine r_ip ?_
  | with_reducible refine r_op ?_
  | with_reducible refine r_I0 ?_
  | with_reducible refine r_cons ?_
  | with_reducible refine r_nil ?_
  | with_reducible refine r_seq ?_
  | with_reducible refine r_asg ?_
  | with_reducible refine r_gn ?_
  | with_reducible refine r_gcons ?_
  | with_reducible refine r_gnil ?_
  | with_reducible refine r_lc ?_
  | with_reducible refine r_m1 ?_
  | with_reducible refine r_sfld ?_
  | with_reducible refine r_sfa ?_
  | with_reducible refine r_rAdd ?_
  | with_reducible refine r_ret ?_
  | with_reducible refine r_ifS ?_
  | with_reducible refine r_test ?_
  | with_reducible refine r_bl ?_
  | with_reducible refine r_B ?_
  | with_reducible refine r_drop ?_
  | with_reducible refine r_bm ?_
  | with_reducible refine r_CB ?_
  | with_reducible refine r_call ?_
  | with_reducible refine r_meth ?_
  | with_reducible refine r_make ?_
  | with_reducible refine r_tup ?_
  | with_reducible refine r_lst ?_
  | ((with_reducible refine r_I ?_ ?_); focus (first | decide | exact ⟨by decide, by decide⟩ | exact .inl ⟨by decide, by decide⟩ | exact .inr ⟨by decide, by decide⟩ | omega))
  | with_reducible refine r_U ?_
  | with_reducible refine r_un ?_
  | with_reducible refine r_and ?_
  | with_reducible refine r_or ?_
  | with_reducible refine r_not ?_
  | with_reducible refine r_andV ?_
  | with_reducible refine r_orV ?_
  | with_reducible refine r_notV ?_
  | with_reducible refine r_if ?_
  | with_reducible refine r_sl ?_
  | with_reducible refine r_part ?_
  | with_reducible refine r_parti ?_
  | with_reducible refine r_nopart ?_
  | with_reducible refine r_il ?_
  | with_reducible refine r_it ?_
  | with_reducible refine r_ir ?_
  | with_reducible refine r_is ?_
  | with_reducible refine r_next ?_
  | with_reducible refine r_retN ?_
  | ((with_reducible refine r_eq ?_ ?_); focus exact rfl)
  | ((with_reducible refine r_ne ?_ ?_); focus exact rfl)))
local macro_rules | `(tactic| walk_at "rx") => `(tactic| repeat (first
  | ((with_reducible apply r_var); focus exact rfl)
  | with_reducible refine r_c ?_
  | with_reducible refine r_chain ?_
  | ((with_reducible apply r_aug); focus exact rfl)
  | with_reducible refine r_ip ?_
  | with_reducible refine r_op ?_
  | with_reducible refine r_I0 ?_
  | with_reducible refine r_cons ?_
  | with_reducible refine r_nil ?_
  | with_reducible refine r_seq ?_
  | with_reducible refine r_asg ?_
  | with_reducible refine r_gn ?_
  | with_reducible refine r_gcons ?_
  | with_reducible refine r_gnil ?_
  | with_reducible refine r_m1 ?_
  | with_reducible refine r_sfld ?_
  | with_reducible refine r_sfa ?_
  | with_reducible refine r_rAdd ?_
  | with_reducible refine r_ret ?_
  | with_reducible refine r_ifS ?_
  | with_reducible refine r_test ?_
  | with_reducible refine r_bl ?_
  | with_reducible refine r_B ?_
  | with_reducible refine r_drop ?_
  | with_reducible refine r_bm ?_
  | with_reducible refine r_CB ?_
  | with_reducible refine r_call ?_
  | with_reducible refine r_make ?_
  | with_reducible refine r_tup ?_
  | with_reducible refine r_lst ?_
  | ((with_reducible refine r_I ?_ ?_); focus (first | decide | exact ⟨by decide, by decide⟩ | exact .inl ⟨by decide, by decide⟩ | exact .inr ⟨by decide, by decide⟩ | omega))
  | with_reducible refine r_U ?_
  | with_reducible refine r_un ?_
  | with_reducible refine r_and ?_
  | with_reducible refine r_or ?_
  | with_reducible refine r_not ?_
  | with_reducible refine r_andV ?_
  | with_reducible refine r_orV ?_
  | with_reducible refine r_notV ?_
  | with_reducible refine r_if ?_
  | with_reducible refine r_sl ?_
  | with_reducible refine r_part ?_
  | with_reducible refine r_parti ?_
  | with_reducible refine r_nopart ?_
  | with_reducible refine r_il ?_
  | with_reducible refine r_it ?_
  | with_reducible refine r_ir ?_
  | with_reducible refine r_is ?_
  | with_reducible refine r_next ?_
  | with_reducible refine r_retN ?_
  | ((with_reducible refine r_eq ?_ ?_); focus exact rfl)
  | ((with_reducible refine r_ne ?_ ?_); focus exact rfl)))
section
variable {P : Program} {w : World} {K : PySem.W.Frag} {mg : Str → Option Value} {base : Heap}
/-! ### a note that is wrong -/
def WrongN (s : BS) (w : List Nat) : Prop := (∃ rc, w = wRec rc ∧ BadR s rc) ∨ ∃ body ck, w = wNum body.length ++ (body ++ ck) ∧ ck.length = 4 ∧ ck ≠ tailS (checkS body)
def spWr : Sp := fun vs H Q _ => ∃ st dr rl rs s, ∃ k : Nat, vs = [.ref st, .ref rl] ∧ StAt H st dr ∧ RowsAt H rl rs s.rows ∧ GB k s ∧ k ≤ 10 ∧ ∀ p H' w, WrongN s w → w.length ≤ 40000 → Lx st H H' → StAt H' st dr → H' p = some (bL w) → Q (.ref p) H'
theorem wRec_le {rc : List Nat} (h : rc.length ≤ 30000) : (wRec rc).length ≤ 40000 := by
  have := wNum_le 2 rc.length (Nat.lt_of_le_of_lt h (by decide))
  rw [wRec_len]
  omega
theorem cap_val : cap = 8000000 := rfl
theorem okT_of {a b : Nat} (ha : a < 16384) (hb : b < 16384) : okT (a, b, .back 1) ∧ (wTrip (a, b, .back 1)).length ≤ 10 := by
  have h1 := wNum_le 1 a ha
  have h2 := wNum_le 1 b hb
  have h3 : (wNum 1).length = 1 := by rw [wNum_lt (by decide)]; rfl
  refine ⟨⟨show (wNum a).length ≤ 60 by omega, show (wNum b).length ≤ 60 by omega, show (wNum 1).length ≤ 60 by omega⟩, ?_⟩
  rw [wTrip, List.length_append, List.length_append, wDeed, List.length_cons]
  show (wNum a).length + ((wNum b).length + ((wNum 1).length + 1)) ≤ 10
  omega
def lv5 : List Nat := [0, 1, 2, 3, 5]
theorem lv5_ok : ∀ n ∈ lv5, n ≠ 4 := by decide
theorem not_next1 {s : BS} {t : Trip} {r : List Trip} (h : ¬ nextOk (lens s) t) : ¬ allNext s (t :: r) := fun a => h (a 0 t rfl)
theorem ok_law_wrong_note  (T : Txt K mg) : Fc P w K mg base CX0 (49) "_law_wrong_note" ["_law_state", "_law_rows"] (spWr) := by
  refine ⟨?_, gm_law_wrong_note T, (fd_law_wrong_note T.says).kp, (fd_law_wrong_note T.says).bindsN fun _ _ _ _ _ _ us hl => match us, hl with | [_, _], _ => rfl⟩
  refine (fd_law_wrong_note T.says).ok sc_law_wrong_note (fun vs H Q E h => by first | (obtain ⟨_, rfl, _⟩ := h; rfl) | (obtain ⟨_, _, rfl, _⟩ := h; rfl) | (obtain ⟨_, _, _, rfl, _⟩ := h; rfl) | (obtain ⟨_, _, _, _, rfl, _⟩ := h; rfl) | (obtain ⟨_, _, _, _, _, rfl, _⟩ := h; rfl) | (obtain ⟨_, _, _, _, _, _, rfl, _⟩ := h; rfl) | (obtain ⟨_, _, _, _, _, _, _, rfl, _⟩ := h; rfl) | (obtain ⟨_, _, _, _, _, _, _, _, rfl, _⟩ := h; rfl) | (obtain ⟨_, _, _, _, _, _, _, _, _, rfl, _⟩ := h; rfl)) (fun cdv A outer s H vs Q E hr h => ?_)
  obtain ⟨st, dr, rl, rs, s0, k0, rfl, hS, hrows, G, hk0, q⟩ := h
  have hrl : ∀ row ∈ s0.rows, row.length ≤ 30 := fun row hr => by have := G.rl row hr; omega
  refine ⟨_, PSs.nox (pss_cons (ps_asg (pe_f (ok_law_group T) (hr.mono (by omega)) (by rfl) (pa_cons (pv 0) (pa_cons (pv 1) pa_nil))) (pg_lst rfl (pgs_cons (pg_name (i := 2) sc_law_wrong_note.nd rfl (Or.inl rfl)) (pgs_cons (pg_name (i := 3) sc_law_wrong_note.nd rfl (Or.inl rfl)) pgs_nil))))
      (pss_cons (ps_set (i := 4) sc_law_wrong_note.nd rfl (Or.inl rfl) (pe_op op_cat (pe_lst (pa_cons pe_int pa_nil)) (pe_f (ok_law_group_bytes T) (hr.mono (by omega)) (by rfl) (pa_cons (pv 2) (pa_cons (pv 3) pa_nil)))))
      (pss_cons (ps_set (i := 5) sc_law_wrong_note.nd rfl (Or.inl rfl) (pe_f (ok_law_next T) (hr.mono (by omega)) (by rfl) (pa_cons (pv 0) (pa_cons pe_int pa_nil))))
      (pss_cons (ps_set (i := 6) sc_law_wrong_note.nd rfl (Or.inl rfl) (pe_f (ok_law_next T) (hr.mono (by omega)) (by rfl) (pa_cons (pv 0) (pa_cons pe_int pa_nil))))
      (pss_cons (ps_set (i := 7) sc_law_wrong_note.nd rfl (Or.inl rfl) (pe_op op_add (pe_callB call_len_seq (by rfl) (n_len T) PySem.boot_len (pa_cons (pe_ix ix_list (pv 1) (pv 6) (fun _ _ => rfl)) pa_nil)) pe_int))
      (pss_cons (ps_if (pt_cmpR op_eq (pv 5) pe_int (nomark _)) (pss_one (ps_ret (pe_f (ok_law_record T) (hr.mono (by omega)) (by rfl) (pa_cons (pe_op op_cat (pe_lst (pa_cons pe_int pa_nil)) (pe_f (ok_law_group_bytes T) (hr.mono (by omega)) (by rfl) (pa_cons (pe_lst (pa_cons (pe_tup (pa_cons (pv 6) (pa_cons (pe_op op_add (pe_op op_add (pv 7) pe_int) (pe_f (ok_law_next T) (hr.mono (by omega)) (by rfl) (pa_cons (pv 0) (pa_cons pe_int pa_nil)))) (pa_cons (pe_tup (pa_cons pe_str (pa_cons pe_int pa_nil))) pa_nil)))) pa_nil)) (pa_cons (pv 3) pa_nil)))) pa_nil)))) pss_nil)
      (pss_cons (ps_if (pt_cmpR op_eq (pv 5) pe_int (nomark _)) (pss_one (ps_ret (pe_f (ok_law_record T) (hr.mono (by omega)) (by rfl) (pa_cons (pe_op op_cat (pe_lst (pa_cons pe_int pa_nil)) (pe_f (ok_law_group_bytes T) (hr.mono (by omega)) (by rfl) (pa_cons (pe_lst (pa_cons (pe_tup (pa_cons (pe_op op_add pe_int (pe_f (ok_law_next T) (hr.mono (by omega)) (by rfl) (pa_cons (pv 0) (pa_cons pe_int pa_nil)))) (pa_cons pe_int (pa_cons (pe_tup (pa_cons pe_str (pa_cons pe_int pa_nil))) pa_nil)))) pa_nil)) (pa_cons (pv 3) pa_nil)))) pa_nil)))) pss_nil)
      (pss_cons (ps_if (pt_cmpR op_eq (pv 5) pe_int (nomark _)) (pss_one (ps_ret (pe_f (ok_law_record T) (hr.mono (by omega)) (by rfl) (pa_cons (pe_op op_cat (pe_lst (pa_cons pe_int pa_nil)) (pe_f (ok_law_group_bytes T) (hr.mono (by omega)) (by rfl) (pa_cons (pe_lst (pa_cons (pe_tup (pa_cons (pv 6) (pa_cons (pv 7) (pa_cons (pe_tup (pa_cons pe_str (pa_cons pe_int pa_nil))) pa_nil)))) (pa_cons (pe_tup (pa_cons (pv 6) (pa_cons (pv 7) (pa_cons (pe_tup (pa_cons pe_str (pa_cons pe_int pa_nil))) pa_nil)))) pa_nil))) (pa_cons (pv 3) pa_nil)))) pa_nil)))) pss_nil)
      (pss_cons (ps_if (pt_cmpR op_eq (pv 5) pe_int (nomark _)) (pss_one (ps_ret (pe_f (ok_law_record T) (hr.mono (by omega)) (by rfl) (pa_cons (pe_op op_cat (pv 4) (pe_lst (pa_cons (pe_f (ok_law_next T) (hr.mono (by omega)) (by rfl) (pa_cons (pv 0) (pa_cons pe_int pa_nil))) pa_nil))) pa_nil)))) pss_nil)
      (pss_cons (ps_if (pt_cmpR op_eq (pv 5) pe_int (nomark _)) (pss_one (ps_ret (pe_f (ok_law_record T) (hr.mono (by omega)) (by rfl) (pa_cons (pe_op op_cat (pe_lst (pa_cons (pe_ix ix_list (pe_lst (pa_cons pe_int (pa_cons pe_int (pa_cons pe_int (pa_cons pe_int (pa_cons pe_int pa_nil)))))) (pe_f (ok_law_next T) (hr.mono (by omega)) (by rfl) (pa_cons (pv 0) (pa_cons pe_int pa_nil))) (fun _ _ => rfl)) pa_nil)) (pe_slice sl_list (pv 4) (po_some pe_int) po_none)) pa_nil)))) pss_nil)
      (pss_cons (ps_if (pt_cmpR op_eq (pv 5) pe_int (nomark _)) (pss_one (ps_ret (pe_f (ok_law_record T) (hr.mono (by omega)) (by rfl) (pa_cons (pe_op op_cat (pe_lst (pa_cons pe_int pa_nil)) (pe_f (ok_law_group_bytes T) (hr.mono (by omega)) (by rfl) (pa_cons (pe_lst (pa_cons (pe_tup (pa_cons (pv 6) (pa_cons (pe_op op_sub (pv 7) pe_int) (pa_cons (pe_tup (pa_cons pe_str (pa_cons pe_int pa_nil))) pa_nil)))) pa_nil)) (pa_cons (pv 3) pa_nil)))) pa_nil)))) pss_nil)
      (pss_cons (ps_if (pt_cmpR op_eq (pv 5) pe_int (nomark _)) (pss_one (ps_ret (pe_f (ok_law_record T) (hr.mono (by omega)) (by rfl) (pa_cons (pe_lst pa_nil) pa_nil)))) pss_nil)
      (pss_cons (ps_set (i := 8) sc_law_wrong_note.nd rfl (Or.inl rfl) (pe_f (ok_law_record T) (hr.mono (by omega)) (by rfl) (pa_cons (pv 4) pa_nil)))
      (pss_one (ps_ret (pe_op op_cat (pe_slice sl_list (pv 8) po_none (po_some (pe_op op_sub (pe_callB call_len_seq (by rfl) (n_len T) PySem.boot_len (pa_cons (pv 8) pa_nil)) pe_int))) (pe_lst (pa_cons (pe_op op_mod (pe_op op_add (pe_ix ix_list (pv 8) (pe_op op_sub (pe_callB call_len_seq (by rfl) (n_len T) PySem.boot_len (pa_cons (pv 8) pa_nil)) pe_int) (fun _ _ => rfl)) pe_int) pe_int) pa_nil)))))))))))))))))), ?_⟩
  walk_at "rx"
  refine ⟨st, dr, rl, rs, s0.rows, rfl, hS, hrows, G.r8, fun row hr => by have := hrl row hr; omega, fun ts cs g H1 gb l1 S1 ga => ?_⟩
  obtain ⟨D1, D2, ys1, ys2, eg, e1, e2, hy1, hy2⟩ := id ga
  refine r_glst eg rfl ?_
  walk_at "rx"
  refine ⟨le_line rfl, fun p4 hp4 => ?_⟩
  have s2 := same_new (o := .lst [V.int 4]) hp4
  walk_at "rx"
  have hgl := gb.len
  refine ⟨D1, D2, ys1, ys2, ts, cs, rfl, s2 _ _ e1, hy1.ts (Tst.same s2), s2 _ _ e2, hy2.ts (Tst.same s2), ⟨gb.ok.tsk, gb.ok.csk⟩, by have := cap_val; omega, fun H3 pg s3 ng eg3 => ?_⟩
  refine r_cat (xs := [4]) (s3 _ _ upd_same) eg3 (by have := cap_val; show 1 + _ ≤ _; omega) fun pgood npg => ?_
  have s14 : Same H1 (upd H3 pgood (bL ([4] ++ wGroup ts cs))) := (s2.trans s3).trans (same_new npg)
  have e4 : upd H3 pgood (bL ([4] ++ wGroup ts cs)) pgood = some (bL (4 :: wGroup ts cs)) := upd_same
  generalize upd H3 pgood (bL ([4] ++ wGroup ts cs)) = H4 at s14 e4
  have S4 := S1.same s14
  have l04 : Lx st H H4 := l1.trans (Lx.of s14)
  have ga4 := ga.same s14
  have rows4 := (hrows.lx hS l1).same s14
  walk_at "rx"
  refine ⟨st, dr, 8, rfl, by decide, S4, fun k5 H5 hk5 l5 S5 => ?_⟩
  walk_at "rx"
  refine ⟨st, dr, 8, rfl, by decide, S5, fun r H6 hr l6 S6 => ?_⟩
  have l46 := l5.trans l6
  have l06 := l04.trans l46
  have ga6 := ga4.lx S4 l46
  have rows6 := rows4.lx S4 l46
  have e6 : H6 pgood = some (bL (4 :: wGroup ts cs)) := l46.1 _ _ (S4.neB e4) e4
  obtain ⟨D1', D2', ys1', ys2', eg6, e16, e26, hy16, hy26⟩ := ga6
  have eD : D1' = D1 ∧ D2' = D2 := by
    have := (ga4.lx S4 l46)
    have h1 := l46.1 _ _ (S4.neR (rs := [D1, D2]) (s14 _ _ eg)) (s14 _ _ eg)
    rw [h1] at eg6
    injection eg6 with z
    injection z with z
    injection z with z1 z2
    injection z2 with z2 _
    injection z1 with z1
    injection z2 with z2
    exact ⟨z1.symm, z2.symm⟩
  obtain ⟨rfl, rfl⟩ := eD
  clear hy1 hy2 e1 e2
  walk_at "rx"
  have hr8 : r < s0.rows.length := by rw [G.r8]; omega
  have hrs8 : r < rs.length := by rw [rows6.2.1]; exact hr8
  have hri : rs[r]? = some rs[r] := List.getElem?_eq_getElem hrs8
  obtain ⟨rr, row, ysr, hrr, err, erow, _, er2, er3⟩ := rows_get rows6 (i := r) (x := .ref rs[r]) (by rw [List.getElem?_map, hri]; rfl)
  rw [hri] at hrr
  obtain rfl := Option.some.inj hrr
  refine r_ixL rows6.1 (atI_nat (j := r) (by rw [List.getElem?_map, hri]; rfl)) ?_
  walk_at "rx"
  refine ⟨_, ysr, rfl, .inl (SqL.of er2), ?_⟩
  have hysr : ysr.length = row.length := by rw [er3.length, List.length_map]
  rw [hysr]
  have hrow := hrl row (List.mem_of_getElem? erow)
  have hln : (lens s0).getD r 0 = row.length := by
    rw [lens, List.getD_eq_getElem?_getD, List.getElem?_map, erow]
    rfl
  have ro : ∀ tt : List Trip, tt.length ≤ 2 → RowsOk s0 tt := fun tt h => ⟨G.r8, fun row hr => by have := hrl row hr; omega, by omega⟩
  walk_at "rx"
  -- records of a group of bad triples
  have finT : ∀ (tt : List Trip) (H7 : Hp) (pf pl : Addr) (zs : List V), Lx st H6 H7 → StAt H7 st dr → H7 pf = some (bL [4]) → H7 pl = some (.lst zs) → RpL H7 (tt.map dTrip) zs → tt.length ≤ 2 → (∀ t ∈ tt, okT t ∧ (wTrip t).length ≤ 10) → ¬ allNext s0 tt →
      spGrL [.ref pl, .ref D2'] H7 (fun x H' => rCat (.ref pf) x H' fun y H'' => spRec [y] H'' Q E0) E0 := by
    intro tt H7 pf pl zs l7 S7 ef el hzs htl hok hnn
    have h1 : (wL wTrip tt).length ≤ 1 + 2 * 10 := wL_le (fun t ht => (hok t ht).2) htl (by decide)
    have h2 : (wL wCell cs).length ≤ 1 + 2 * 12000 := wL_le (fun c hc => (gb.ce c hc).2.1) gb.cl (by decide)
    have hg : (wGroup tt cs).length ≤ 25000 := by
      rw [wGroup, List.length_append]
      omega
    have e27 := l7.1 _ _ (S6.neD (f := fun c : Cell => [.str c.1, dShape c.2.1, dOut c.2.2]) e26 hy26) e26
    refine ⟨pl, D2', zs, ys2', tt, cs, rfl, el, hzs, e27, hy26.ts (S6.tst l7), ⟨fun t ht => (hok t ht).1, gb.ok.csk⟩, by have := cap_val; omega, fun H8 p8 s8 n8 e8 => ?_⟩
    refine r_cat (xs := [4]) (s8 _ _ ef) e8 (by have := cap_val; show 1 + _ ≤ _; omega) fun p9 n9 => ?_
    have hrec : (wRec (4 :: wGroup tt cs)).length ≤ 40000 := wRec_le (by rw [List.length_cons]; omega)
    refine ⟨p9, 4 :: wGroup tt cs, rfl, upd_same, by have := cap_val; omega, fun HA pA sA nA eA => ?_⟩
    have s7A := (s8.trans (same_new (o := bL ([4] ++ wGroup tt cs)) n9)).trans sA
    exact q pA HA _ (.inl ⟨_, rfl, G.r8, .inr ⟨tt, cs, rfl, ⟨fun t ht => (hok t ht).1, gb.ok.csk, gb.ok.nm⟩, ro tt htl, hnn⟩⟩) hrec ((l06.trans l7).trans (Lx.of s7A)) (S7.same s7A) eA
  refine iteI (fun c0 => ?_) (fun c0 => ?_)
  · -- a place too far
    walk_at "rx"
    refine ⟨le_line rfl, fun pf hpf => ?_⟩
    have S7 := S6.new (o := .lst [V.int 4]) hpf
    walk_at "rx"
    refine ⟨st, dr, 3, rfl, by decide, S7, fun k8 H8 hk8 l8 S8 => ?_⟩
    have ef8 := l8.1 _ _ (S6.ne hpf) (upd_same (H := H6) (a := pf) (o := .lst [V.int 4]))
    walk_at "rx"
    refine ⟨le_line rfl, fun pb hpb => ?_⟩
    walk_at "rx"
    refine ⟨le_line rfl, fun pt hpt => ?_⟩
    walk_at "rx"
    refine ⟨le_line rfl, fun pl hpl => ?_⟩
    walk_at "rx"
    have en : ((row.length : Int) + 1 + 1 + (k8 : Int)) = ((row.length + 1 + 1 + k8 : Nat) : Int) := by omega
    have rt : Rp (upd (upd (upd H8 pb (.tup [.str "back", .int 1])) pt (.tup [.int (r : Nat), .int ((row.length : Int) + 1 + 1 + (k8 : Int)), .ref pb])) pl (.lst [.ref pt])) (dTrip (r, row.length + 1 + 1 + k8, .back 1)) (.ref pt) :=
      Rp.ts (Tst.new hpl) (Rp.tupOf upd_same (RpL.cons rfl (RpL.cons (by rw [en]; rfl) (RpL.cons (Rp.ts (Tst.new hpt) (Rp.tupOf upd_same (RpL.cons rfl (RpL.cons rfl RpL.nil)))) RpL.nil))))
    have s8' := ((same_new (o := .tup [.str "back", .int 1]) hpb).trans (same_new (o := .tup [.int (r : Nat), .int ((row.length : Int) + 1 + 1 + (k8 : Int)), .ref pb]) hpt)).trans (same_new (o := .lst [.ref pt]) hpl)
    exact finT [(r, row.length + 1 + 1 + k8, .back 1)] _ pf pl [.ref pt] (((Lx.of (same_new hpf)).trans l8).trans (Lx.of s8')) (S8.same s8') (s8' _ _ ef8) upd_same (RpL.cons rt RpL.nil) (Nat.le_of_ble_eq_true rfl) (fun t ht => by rw [List.mem_singleton.mp ht]; exact okT_of (by omega) (by omega))
      (not_next1 fun h => by
        have := h.2
        rw [hln] at this
        have : row.length + 1 + 1 + k8 = row.length + 1 := this
        omega)
  walk_at "rx"
  refine iteI (fun c1 => ?_) (fun c1 => ?_)
  · -- no such replica
    walk_at "rx"
    refine ⟨le_line rfl, fun pf hpf => ?_⟩
    have S7 := S6.new (o := .lst [V.int 4]) hpf
    walk_at "rx"
    refine ⟨st, dr, 200, rfl, by decide, S7, fun k8 H8 hk8 l8 S8 => ?_⟩
    have ef8 := l8.1 _ _ (S6.ne hpf) (upd_same (H := H6) (a := pf) (o := .lst [V.int 4]))
    walk_at "rx"
    refine ⟨le_line rfl, fun pb hpb => ?_⟩
    walk_at "rx"
    refine ⟨le_line rfl, fun pt hpt => ?_⟩
    walk_at "rx"
    refine ⟨le_line rfl, fun pl hpl => ?_⟩
    walk_at "rx"
    have en : ((8 : Int) + (k8 : Int)) = ((8 + k8 : Nat) : Int) := by omega
    have rt : Rp (upd (upd (upd H8 pb (.tup [.str "back", .int 1])) pt (.tup [.int ((8 : Int) + (k8 : Int)), .int 1, .ref pb])) pl (.lst [.ref pt])) (dTrip (8 + k8, 1, .back 1)) (.ref pt) :=
      Rp.ts (Tst.new hpl) (Rp.tupOf upd_same (RpL.cons (by rw [en]; rfl) (RpL.cons rfl (RpL.cons (Rp.ts (Tst.new hpt) (Rp.tupOf upd_same (RpL.cons rfl (RpL.cons rfl RpL.nil)))) RpL.nil))))
    have s8' := ((same_new (o := .tup [.str "back", .int 1]) hpb).trans (same_new (o := .tup [.int ((8 : Int) + (k8 : Int)), .int 1, .ref pb]) hpt)).trans (same_new (o := .lst [.ref pt]) hpl)
    exact finT [(8 + k8, 1, .back 1)] _ pf pl [.ref pt] (((Lx.of (same_new hpf)).trans l8).trans (Lx.of s8')) (S8.same s8') (s8' _ _ ef8) upd_same (RpL.cons rt RpL.nil) (Nat.le_of_ble_eq_true rfl) (fun t ht => by rw [List.mem_singleton.mp ht]; exact okT_of (by omega) (by decide))
      (not_next1 fun h => by
        have : 8 + k8 < 8 := h.1
        omega)
  walk_at "rx"
  refine iteI (fun c2 => ?_) (fun c2 => ?_)
  · -- twice the same place
    walk_at "rx"
    refine ⟨le_line rfl, fun pf hpf => ?_⟩
    walk_at "rx"
    refine ⟨le_line rfl, fun pb hpb => ?_⟩
    walk_at "rx"
    refine ⟨le_line rfl, fun pt hpt => ?_⟩
    walk_at "rx"
    refine ⟨le_line rfl, fun pb2 hpb2 => ?_⟩
    walk_at "rx"
    refine ⟨le_line rfl, fun pt2 hpt2 => ?_⟩
    walk_at "rx"
    refine ⟨le_line rfl, fun pl hpl => ?_⟩
    walk_at "rx"
    have en : ((row.length : Int) + 1) = ((row.length + 1 : Nat) : Int) := by omega
    have s1' := same_new (o := .lst [V.int 4]) hpf
    have s2' := same_new (o := .tup [.str "back", .int 1]) hpb
    have s3' := same_new (o := .tup [.int (r : Nat), .int ((row.length : Int) + 1), .ref pb]) hpt
    have s4' := same_new (o := .tup [.str "back", .int 1]) hpb2
    have s5' := same_new (o := .tup [.int (r : Nat), .int ((row.length : Int) + 1), .ref pb2]) hpt2
    have s6' := same_new (o := .lst [.ref pt, .ref pt2]) hpl
    have ra := Rp.ts (Tst.same ((s4'.trans s5').trans s6')) (Rp.tupOf (ds := [.int (r : Nat), .int (row.length + 1 : Nat), .tup [.str "back", .int (1 : Nat)]]) (upd_same (H := upd (upd H6 pf (.lst [V.int 4])) pb (.tup [.str "back", .int 1])) (a := pt) (o := .tup [.int (r : Nat), .int ((row.length : Int) + 1), .ref pb])) (RpL.cons rfl (RpL.cons (by rw [en]; rfl) (RpL.cons (Rp.ts (Tst.new hpt) (Rp.tupOf upd_same (RpL.cons rfl (RpL.cons rfl RpL.nil)))) RpL.nil))))
    have rb := Rp.ts (Tst.same s6') (Rp.tupOf (ds := [.int (r : Nat), .int (row.length + 1 : Nat), .tup [.str "back", .int (1 : Nat)]]) (upd_same (a := pt2) (o := .tup [.int (r : Nat), .int ((row.length : Int) + 1), .ref pb2])) (RpL.cons rfl (RpL.cons (by rw [en]; rfl) (RpL.cons (Rp.ts (Tst.new hpt2) (Rp.tupOf upd_same (RpL.cons rfl (RpL.cons rfl RpL.nil)))) RpL.nil))))
    have sAll := ((((s1'.trans s2').trans s3').trans s4').trans s5').trans s6'
    have eAll := ((((s2'.trans s3').trans s4').trans s5').trans s6') _ _ (upd_same (H := H6) (a := pf) (o := .lst [V.int 4]))
    refine finT [(r, row.length + 1, .back 1), (r, row.length + 1, .back 1)] _ pf pl [.ref pt, .ref pt2] (Lx.of sAll) (S6.same sAll) eAll upd_same (RpL.cons ra (RpL.cons rb RpL.nil)) (Nat.le_of_ble_eq_true rfl) (fun t ht => ?_) fun h => ?_
    · have e : t = (r, row.length + 1, .back 1) := by simpa using ht
      rw [e]
      exact okT_of (by omega) (by omega)
    · have h1 := (h 1 _ rfl).2
      have h2 : row.length + 1 = (stepC (lens s0) (r, row.length + 1, .back 1)).getD r 0 + 1 := h1
      rw [stepC, List.getD_eq_getElem?_getD, List.getElem?_set_self (by rw [lens, List.length_map]; exact hr8), Option.getD_some] at h2
      have : (lens s0).getD (r, row.length + 1, Deed.back 1).1 0 = row.length := hln
      omega
  walk_at "rx"
  refine iteI (fun c3 => ?_) (fun c3 => ?_)
  · -- a byte more
    walk_at "rx"
    refine ⟨st, dr, 256, rfl, by decide, S6, fun k8 H8 hk8 l8 S8 => ?_⟩
    have e8 := l8.1 _ _ (S6.neB e6) e6
    walk_at "rx"
    refine ⟨le_line rfl, fun p9 hp9 => ?_⟩
    have s9 := same_new (o := .lst [.int (k8 : Nat)]) hp9
    refine r_cat (ys := [k8]) (s9 _ _ e8) upd_same (by rw [List.length_cons]; have := cap_val; show _ + 1 ≤ _; omega) fun pa na => ?_
    have sa := same_new (o := bL (4 :: wGroup ts cs ++ [k8])) na
    walk_at "rx"
    have hrec : (wRec (4 :: wGroup ts cs ++ [k8])).length ≤ 40000 := wRec_le (by rw [List.length_append, List.length_cons]; show _ + 1 + 1 ≤ _; omega)
    refine ⟨pa, _, rfl, upd_same, by have := cap_val; omega, fun HA pA sA nA eA => ?_⟩
    have s8A := (s9.trans sa).trans sA
    exact q pA HA _ (.inl ⟨_, rfl, G.r8, .inl (.inr (.inr ⟨ts, cs, k8, [], rfl, gb.ok⟩))⟩) hrec ((l06.trans l8).trans (Lx.of s8A)) (S8.same s8A) eA
  walk_at "rx"
  refine iteI (fun c4 => ?_) (fun c4 => ?_)
  · -- no group
    walk_at "rx"
    refine ⟨le_line rfl, fun p7 hp7 => ?_⟩
    have e7 : upd H6 p7 (.lst [.int 0, .int 1, .int 2, .int 3, .int 5]) p7 = some (.lst (lv5.map fun n : Nat => V.int (n : Int))) := upd_same
    have S7 := S6.new (o := .lst [.int 0, .int 1, .int 2, .int 3, .int 5]) hp7
    have s7 := same_new (o := .lst [.int 0, .int 1, .int 2, .int 3, .int 5]) hp7
    generalize upd H6 p7 (.lst [.int 0, .int 1, .int 2, .int 3, .int 5]) = H7 at e7 S7 s7
    walk_at "rx"
    refine ⟨st, dr, 5, rfl, by decide, S7, fun k8 H8 hk8 l8 S8 => ?_⟩
    refine r_lit (l8.1 _ _ (S6.ne hp7) e7) (show k8 < 5 by omega) fun n hn => ?_
    have e8 := l8.1 _ _ (S7.neB (s7 _ _ e6)) (s7 _ _ e6)
    walk_at "rx"
    refine ⟨le_line rfl, fun p9 hp9 => ?_⟩
    have s9 := same_new (o := .lst [.int (n : Nat)]) hp9
    walk_at "rx"
    refine r_slB (cs := wGroup ts cs) (s9 _ _ e8) (cutB_from (4 :: wGroup ts cs) 1) fun pa na => ?_
    have sa := same_new (o := bL (wGroup ts cs)) na
    refine r_cat (xs := [n]) (sa _ _ upd_same) upd_same (by have := cap_val; show 1 + _ ≤ _; omega) fun pb nb => ?_
    have sb := same_new (o := bL ([n] ++ wGroup ts cs)) nb
    walk_at "rx"
    have hrec : (wRec ([n] ++ wGroup ts cs)).length ≤ 40000 := wRec_le (by rw [List.length_append]; show 1 + _ ≤ _; omega)
    refine ⟨pb, _, rfl, upd_same, by have := cap_val; omega, fun HA pA sA nA eA => ?_⟩
    have s8A := ((s9.trans sa).trans sb).trans sA
    exact q pA HA _ (.inl ⟨_, rfl, G.r8, .inl (.inr (.inl ⟨n, wGroup ts cs, rfl, lv5_ok n hn⟩))⟩) hrec (((l06.trans (Lx.of s7)).trans l8).trans (Lx.of s8A)) (S8.same s8A) eA
  walk_at "rx"
  refine iteI (fun c5 => ?_) (fun c5 => ?_)
  · -- a place that is taken
    walk_at "rx"
    refine ⟨le_line rfl, fun pf hpf => ?_⟩
    walk_at "rx"
    refine ⟨le_line rfl, fun pb hpb => ?_⟩
    walk_at "rx"
    refine ⟨le_line rfl, fun pt hpt => ?_⟩
    walk_at "rx"
    refine ⟨le_line rfl, fun pl hpl => ?_⟩
    walk_at "rx"
    have en : ((row.length : Int) + 1 - 1) = ((row.length : Nat) : Int) := by omega
    have s1' := same_new (o := .lst [V.int 4]) hpf
    have rt : Rp (upd (upd (upd (upd H6 pf (.lst [V.int 4])) pb (.tup [.str "back", .int 1])) pt (.tup [.int (r : Nat), .int ((row.length : Int) + 1 - 1), .ref pb])) pl (.lst [.ref pt])) (dTrip (r, row.length, .back 1)) (.ref pt) :=
      Rp.ts (Tst.new hpl) (Rp.tupOf upd_same (RpL.cons rfl (RpL.cons (by rw [en]; rfl) (RpL.cons (Rp.ts (Tst.new hpt) (Rp.tupOf upd_same (RpL.cons rfl (RpL.cons rfl RpL.nil)))) RpL.nil))))
    have s8' := ((same_new (o := .tup [.str "back", .int 1]) hpb).trans (same_new (o := .tup [.int (r : Nat), .int ((row.length : Int) + 1 - 1), .ref pb]) hpt)).trans (same_new (o := .lst [.ref pt]) hpl)
    exact finT [(r, row.length, .back 1)] _ pf pl [.ref pt] (Lx.of (s1'.trans s8')) (S6.same (s1'.trans s8')) (s8' _ _ upd_same) upd_same (RpL.cons rt RpL.nil) (Nat.le_of_ble_eq_true rfl) (fun t ht => by rw [List.mem_singleton.mp ht]; exact okT_of (by omega) (by omega))
      (not_next1 fun h => by
        have := h.2
        rw [hln] at this
        have : row.length = row.length + 1 := this
        omega)
  walk_at "rx"
  refine iteI (fun c6 => ?_) (fun c6 => ?_)
  · -- an empty record
    walk_at "rx"
    refine ⟨Nat.zero_le _, fun p7 hp7 => ?_⟩
    have s7 := same_new (o := .lst []) hp7
    walk_at "rx"
    have hrec : (wRec []).length ≤ 40000 := wRec_le (by decide)
    refine ⟨p7, [], rfl, upd_same, by have := cap_val; omega, fun HA pA sA nA eA => ?_⟩
    have s8A := s7.trans sA
    exact q pA HA _ (.inl ⟨_, rfl, G.r8, .inl (.inl rfl)⟩) hrec (l06.trans (Lx.of s8A)) (S6.same s8A) eA
  · -- a checksum that is not right
    walk_at "rx"
    have hrec : (wRec (4 :: wGroup ts cs)).length ≤ 40000 := wRec_le (by rw [List.length_cons]; omega)
    refine ⟨pgood, _, rfl, e6, by have := cap_val; omega, fun H7 p7 s7 n7 e7 => ?_⟩
    walk_at "rx"
    refine ⟨p7, _, rfl, .inl (SqL.of e7), ?_⟩
    walk_at "rx"
    have hsp : wRec (4 :: wGroup ts cs) = (wNum (4 :: wGroup ts cs).length ++ ((4 :: wGroup ts cs) ++ [checkS (4 :: wGroup ts cs) / 16777216, checkS (4 :: wGroup ts cs) / 65536 % 256, checkS (4 :: wGroup ts cs) / 256 % 256])) ++ [checkS (4 :: wGroup ts cs) % 256] := by
      rw [wRec, tailS]
      simp only [List.append_assoc, List.cons_append, List.nil_append]
    have hlr := wRec_len (4 :: wGroup ts cs)
    rw [List.length_map]
    have em : (((wRec (4 :: wGroup ts cs)).length : Nat) : Int) - 1 = (((wRec (4 :: wGroup ts cs)).length - 1 : Nat) : Int) := by omega
    have hpre : (wRec (4 :: wGroup ts cs)).length - 1 = (wNum (4 :: wGroup ts cs).length ++ ((4 :: wGroup ts cs) ++ [checkS (4 :: wGroup ts cs) / 16777216, checkS (4 :: wGroup ts cs) / 65536 % 256, checkS (4 :: wGroup ts cs) / 256 % 256])).length := by
      rw [hsp, List.length_append]
      rfl
    refine r_slB (cs := wNum (4 :: wGroup ts cs).length ++ ((4 :: wGroup ts cs) ++ [checkS (4 :: wGroup ts cs) / 16777216, checkS (4 :: wGroup ts cs) / 65536 % 256, checkS (4 :: wGroup ts cs) / 256 % 256])) e7 ?_ fun p8 n8 => ?_
    · rw [em, cutB_to, hpre]
      conv => lhs; rw [hsp]
      rw [List.take_left]
    have s8 := same_new (o := bL (wNum (4 :: wGroup ts cs).length ++ ((4 :: wGroup ts cs) ++ [checkS (4 :: wGroup ts cs) / 16777216, checkS (4 :: wGroup ts cs) / 65536 % 256, checkS (4 :: wGroup ts cs) / 256 % 256]))) n8
    walk_at "rx"
    refine ⟨p7, _, rfl, .inl (SqL.of (s8 _ _ e7)), ?_⟩
    walk_at "rx"
    rw [List.length_map, em]
    refine r_ixL (v := .int ((checkS (4 :: wGroup ts cs) % 256 : Nat))) (s8 _ _ e7) (atI_nat ?_) ?_
    · rw [hpre, List.getElem?_map]
      conv => lhs; rw [hsp]
      rw [List.getElem?_append_right (Nat.le_refl _), Nat.sub_self]
      rfl
    walk_at "rx"
    refine ⟨le_line rfl, fun p9 n9 => ?_⟩
    have e9 : (.lst [.int ((((checkS (4 :: wGroup ts cs) % 256 : Nat) : Int) + 1) % 256)] : HO) = bL [(checkS (4 :: wGroup ts cs) % 256 + 1) % 256] := by
      show _ = HO.lst [.int (((checkS (4 :: wGroup ts cs) % 256 + 1) % 256 : Nat) : Int)]
      congr 2
    rw [e9]
    have s9' := same_new (o := bL [(checkS (4 :: wGroup ts cs) % 256 + 1) % 256]) n9
    refine r_cat (s9' _ _ upd_same) upd_same (by rw [← hpre]; have := cap_val; show _ + 1 ≤ _; omega) fun pA nA => ?_
    have sA := ((s7.trans s8).trans s9').trans (same_new (o := bL (wNum (4 :: wGroup ts cs).length ++ ((4 :: wGroup ts cs) ++ [checkS (4 :: wGroup ts cs) / 16777216, checkS (4 :: wGroup ts cs) / 65536 % 256, checkS (4 :: wGroup ts cs) / 256 % 256]) ++ [(checkS (4 :: wGroup ts cs) % 256 + 1) % 256])) nA)
    refine q pA _ _ (.inr ⟨4 :: wGroup ts cs, [checkS (4 :: wGroup ts cs) / 16777216, checkS (4 :: wGroup ts cs) / 65536 % 256, checkS (4 :: wGroup ts cs) / 256 % 256, (checkS (4 :: wGroup ts cs) % 256 + 1) % 256], ?_, rfl, ?_⟩) ?_ (l06.trans (Lx.of sA)) (S6.same sA) upd_same
    · simp only [List.append_assoc, List.cons_append, List.nil_append]
    · intro h
      rw [tailS] at h
      injection h with _ h
      injection h with _ h
      injection h with _ h
      injection h with h _
      omega
    · rw [List.length_append, ← hpre]
      show _ + 1 ≤ _
      omega
end
end Q

/-! ## G13 -/
set_option Elab.async false
set_option linter.all false
set_option maxRecDepth 100000
set_option maxHeartbeats 4000000
namespace Q
open PySem PySem.Spec PyProof.Rows L2
local macro_rules | `(tactic| walk_at "rd") => `(tactic| repeat (first
  | ((with_reducible apply r_var); focus exact rfl)
  | with_reducible refine r_c ?_
  | with_reducible refine r_chain ?_
  | ((with_reducible apply r_aug); focus exact rfl)
  | with_reducible refine r_ip ?_
  | with_reducible refine r_op ?_
  | with_reducible refine r_I0 ?_
  | with_reducible refine r_cons ?_
  | with_reducible refine r_nil ?_
  | with_reducible refine r_seq ?_
  | with_reducible refine r_asg ?_
  | with_reducible refine r_gn ?_
  | with_reducible refine r_gcons ?_
  | with_reducible refine r_gnil ?_
  | with_reducible refine r_lc ?_
  | with_reducible refine r_m1 ?_
  | with_reducible refine r_sfld ?_
  | with_reducible refine r_sfa ?_
  | with_reducible refine r_rAdd ?_
  | with_reducible refine r_ret ?_
  | with_reducible refine r_ifS ?_
  | with_reducible refine r_test ?_
  | with_reducible refine r_bl ?_
  | with_reducible refine r_B ?_
  | with_reducible refine r_drop ?_
  | with_reducible refine r_bm ?_
  | with_reducible refine r_CB ?_
  | with_reducible refine r_call ?_
  | with_reducible refine r_meth ?_
  | with_reducible refine r_make ?_
  | with_reducible refine r_tup ?_
  | with_reducible refine r_lst ?_
  | ((with_reducible refine r_I ?_ ?_); focus (first | decide | exact ⟨by decide, by decide⟩ | exact .inl ⟨by decide, by decide⟩ | exact .inr ⟨by decide, by decide⟩ | omega))
  | with_reducible refine r_U ?_
  | with_reducible refine r_un ?_
  | with_reducible refine r_and ?_
  | with_reducible refine r_or ?_
  | with_reducible refine r_not ?_
  | with_reducible refine r_andV ?_
  | with_reducible refine r_orV ?_
  | with_reducible refine r_notV ?_
  | with_reducible refine r_if ?_
  | with_reducible refine r_sl ?_
  | with_reducible refine r_part ?_
  | with_reducible refine r_parti ?_
  | with_reducible refine r_nopart ?_
  | with_reducible refine r_il ?_
  | with_reducible refine r_it ?_
  | with_reducible refine r_ir ?_
  | with_reducible refine r_is ?_
  | with_reducible refine r_next ?_
  | with_reducible refine r_retN ?_
  | ((with_reducible refine r_eq ?_ ?_); focus exact rfl)
  | ((with_reducible refine r_ne ?_ ?_); focus exact rfl)))
local macro_rules | `(tactic| walk_at "rx") => `(tactic| repeat (first
  | ((with_reducible apply r_var); focus exact rfl)
  | with_reducible refine r_c ?_
  | with_reducible refine r_chain ?_
  | ((with_reducible apply r_aug); focus exact rfl)
  | with_reducible refine r_ip ?_
  | with_reducible refine r_op ?_
  | with_reducible refine r_I0 ?_
  | with_reducible refine r_cons ?_
  | with_reducible refine r_nil ?_
  | with_reducible refine r_seq ?_
  | with_reducible refine r_asg ?_
  | with_reducible refine r_gn ?_
  | with_reducible refine r_gcons ?_
  | with_reducible refine r_gnil ?_
  | with_reducible refine r_m1 ?_
  | with_reducible refine r_sfld ?_
  | with_reducible refine r_sfa ?_
  | with_reducible refine r_rAdd ?_
  | with_reducible refine r_ret ?_
  | with_reducible refine r_ifS ?_
  | with_reducible refine r_test ?_
  | with_reducible refine r_bl ?_
  | with_reducible refine r_B ?_
  | with_reducible refine r_drop ?_
  | with_reducible refine r_bm ?_
  | with_reducible refine r_CB ?_
  | with_reducible refine r_call ?_
  | with_reducible refine r_make ?_
  | with_reducible refine r_tup ?_
  | with_reducible refine r_lst ?_
  | ((with_reducible refine r_I ?_ ?_); focus (first | decide | exact ⟨by decide, by decide⟩ | exact .inl ⟨by decide, by decide⟩ | exact .inr ⟨by decide, by decide⟩ | omega))
  | with_reducible refine r_U ?_
  | with_reducible refine r_un ?_
  | with_reducible refine r_and ?_
  | with_reducible refine r_or ?_
  | with_reducible refine r_not ?_
  | with_reducible refine r_andV ?_
  | with_reducible refine r_orV ?_
  | with_reducible refine r_notV ?_
  | with_reducible refine r_if ?_
  | with_reducible refine r_sl ?_
  | with_reducible refine r_part ?_
  | with_reducible refine r_parti ?_
  | with_reducible refine r_nopart ?_
  | with_reducible refine r_il ?_
  | with_reducible refine r_it ?_
  | with_reducible refine r_ir ?_
  | with_reducible refine r_is ?_
  | with_reducible refine r_next ?_
  | with_reducible refine r_retN ?_
  | ((with_reducible refine r_eq ?_ ?_); focus exact rfl)
  | ((with_reducible refine r_ne ?_ ?_); focus exact rfl)))
section
variable {P : Program} {w : World} {K : PySem.W.Frag} {mg : Str → Option Value} {base : Heap}
/-! ### a log that is cut -/
theorem stop_nil : Stop [] := .inl ⟨0, wNum 0, rfl, by rw [wNum_lt (by decide)]; decide, by show (wNum 0).length ≤ 60; rw [wNum_lt (by decide)]; decide⟩
theorem recs_take_mono {rcs : List (List Nat)} {i j : Nat} (h : i ≤ j) : (recs (rcs.take i)).length ≤ (recs (rcs.take j)).length := by
  have := recs_len_le (rcs.take j) i
  rw [List.take_take, Nat.min_eq_left h] at this
  exact this
/-- a prefix: whole records, then something that stops -/
theorem cut_recs : ∀ (rcs : List (List Nat)) (e : Nat), (∀ rc ∈ rcs, okN rc.length) → ∃ m tl, (recs rcs).take e = recs (rcs.take m) ++ tl ∧ Stop tl ∧ m ≤ rcs.length ∧ (e ≤ (recs rcs).length → (recs (rcs.take m)).length ≤ e) ∧ (m < rcs.length → e < (recs (rcs.take (m + 1))).length)
  | [], e, _ => ⟨0, [], by simp [recs], stop_nil, Nat.le_refl _, fun _ => Nat.zero_le _, fun h => absurd h (Nat.lt_irrefl _)⟩
  | r :: rs, e, ok => by
    by_cases c : e < (wRec r).length
    · refine ⟨0, (wRec r).take e, ?_, ?_, Nat.zero_le _, fun _ => Nat.zero_le _, fun _ => ?_⟩
      · rw [recs_cons, List.take_append_of_le_length (Nat.le_of_lt c)]
        rfl
      · have e0 : wRec r = wNum r.length ++ (r ++ tailS (checkS r)) := by rw [wRec, List.append_assoc]
        have hl := wRec_len r
        by_cases c2 : e < (wNum r.length).length
        · refine .inl ⟨r.length, (wNum r.length).drop e, ?_, ?_, ok r List.mem_cons_self⟩
          · rw [e0, List.take_append_of_le_length (Nat.le_of_lt c2), List.take_append_drop]
          · rw [List.length_drop]
            omega
        · refine .inr (.inl ⟨r.length, (r ++ tailS (checkS r)).take (e - (wNum r.length).length), ?_, ok r List.mem_cons_self, ?_⟩)
          · rw [e0, List.take_append, List.take_of_length_le (by omega)]
          · rw [List.length_take]
            omega
      · show e < (recs [r]).length
        rw [recs_cons]
        simpa [recs] using c
    · obtain ⟨m, tl, h1, h2, h3, h4, h5⟩ := cut_recs rs (e - (wRec r).length) fun rc h => ok rc (List.mem_cons_of_mem _ h)
      refine ⟨m + 1, tl, ?_, h2, Nat.succ_le_succ h3, fun he => ?_, fun hm => ?_⟩
      · rw [recs_cons, List.take_append, List.take_of_length_le (by omega), h1, ← List.append_assoc]
        rfl
      · show (recs (r :: rs.take m)).length ≤ e
        rw [recs_cons, List.length_append] at he ⊢
        have := h4 (by omega)
        omega
      · show e < (recs (r :: rs.take (m + 1))).length
        have := h5 (Nat.lt_of_succ_lt_succ hm)
        rw [recs_cons, List.length_append]
        omega
/-! the records of the law's log -/
theorem logRecs_len (t : Nat) (s : BS) (gs : List Grp) : (logRecs t s gs).length = 3 + gs.length := by
  rw [logRecs]
  simp only [List.length_cons, List.length_map]
  omega
theorem logRecs_take (t : Nat) (s : BS) (gs : List Grp) (j : Nat) : (logRecs t s gs).take (3 + j) = logRecs t s (gs.take j) := by
  rw [Nat.add_comm]
  show (1 :: wNum t) :: (3 :: wBase s) :: [2] :: ((gs.map noteOf).take j) = _
  rw [← List.map_take]
  rfl
theorem logRecs_snoc (t : Nat) (s : BS) (gs : List Grp) (g : Grp) : recs (logRecs t s (gs ++ [g])) = recs (logRecs t s gs) ++ wRec (noteOf g) := by
  have : logRecs t s (gs ++ [g]) = logRecs t s gs ++ [noteOf g] := by
    unfold logRecs
    rw [List.map_append]
    rfl
  rw [this, recs_app]
  simp [recs]
theorem head_recs (t : Nat) (s : BS) : recs (logRecs t s []) = wHead t s := by
  unfold logRecs wHead
  simp [recs]
def szOf (t : Nat) (s : BS) (gs : List Grp) (i : Nat) : Nat := (recs (logRecs t s (gs.take i))).length
theorem sAt_snoc {s : BS} {gs : List Grp} {g : Grp} {k : Nat} (h : k ≤ gs.length) : sAt s (gs ++ [g]) k = sAt s gs k := by
  unfold sAt
  rw [List.take_append_of_le_length h]
theorem sAt_full {s : BS} {gs : List Grp} {g : Grp} : sAt s (gs ++ [g]) (gs ++ [g]).length = (sAt s gs gs.length).grow g.1 g.2 := by
  unfold sAt
  rw [List.take_length, List.take_length, List.foldl_append]
  rfl
theorem sAt_take {s : BS} {gs : List Grp} {j : Nat} (h : j ≤ gs.length) : sAt s (gs.take j) (gs.take j).length = sAt s gs j := by
  unfold sAt
  rw [List.take_length]
theorem sAt_take' {s : BS} {gs : List Grp} {j k : Nat} (h : k ≤ j) : sAt s (gs.take j) k = sAt s gs k := by
  unfold sAt
  rw [List.take_take, Nat.min_eq_left h]
/-- the groups fit -/
def GsOk (s : BS) (gs : List Grp) : Prop := ∀ (k : Nat) g, gs[k]? = some g → GrpB (lens (sAt s gs k)) g.1 g.2
theorem GsOk.gb {k0 : Nat} {s : BS} {gs : List Grp} (G : GB k0 s) (h : GsOk s gs) : ∀ k, k ≤ gs.length → GB (k0 + k) (sAt s gs k)
  | 0, _ => G
  | k + 1, hk => by
    have hg : gs[k]? = some gs[k] := List.getElem?_eq_getElem hk
    rw [sAt_next hg]
    exact (GsOk.gb G h k (by omega)).grow (h k _ hg)
theorem GsOk.take {s : BS} {gs : List Grp} (h : GsOk s gs) (j : Nat) : GsOk s (gs.take j) := fun k g hg => by
  have hk : k < j := by
    have := (List.getElem?_eq_some_iff.mp hg).1
    rw [List.length_take] at this
    omega
  rw [List.getElem?_take_of_lt hk] at hg
  rw [sAt_take' (Nat.le_of_lt hk)]
  exact h k g hg
theorem GsOk.snoc {s : BS} {gs : List Grp} {g : Grp} (h : GsOk s gs) (hg : GrpB (lens (sAt s gs gs.length)) g.1 g.2) : GsOk s (gs ++ [g]) := fun k x hx => by
  by_cases c : k < gs.length
  · rw [List.getElem?_append_left c] at hx
    rw [sAt_snoc (Nat.le_of_lt c)]
    exact h k x hx
  · rw [List.getElem?_append_right (by omega)] at hx
    have hk : k = gs.length := by
      have h1 := (List.getElem?_eq_some_iff.mp hx).1
      have h2 : [g].length = 1 := rfl
      omega
    subst hk
    rw [Nat.sub_self] at hx
    obtain rfl := Option.some.inj hx
    rw [sAt_snoc (Nat.le_refl _)]
    exact hg
theorem GsOk.log {t k0 : Nat} {s : BS} {gs : List Grp} {more : List (List Nat)} (ht : okBig t) (G : GB k0 s) (hk : k0 ≤ 3) (hl : gs.length ≤ 5) (h : GsOk s gs) (hm : ∀ rc r, more = rc :: r → BadR (sAt s gs gs.length) rc) : LogOk t s gs more := by
  refine ⟨show (wNum t).length ≤ 60 from Nat.le_trans ht.len (by decide), G.ok (by omega), fun k g hg => ?_, (h.gb G _ (Nat.le_refl _)).r8, hm⟩
  have hkl : k < gs.length := (List.getElem?_eq_some_iff.mp hg).1
  exact (h.gb G k (Nat.le_of_lt hkl)).good (by omega) (h k g hg)
theorem note_len {cn : List Nat} {g : Grp} (h : GrpB cn g.1 g.2) : (wRec (noteOf g)).length ≤ 40000 := wRec_le (by have := h.len; rw [noteOf, List.length_cons]; omega)
theorem head_len {t k0 : Nat} {s : BS} (ht : okBig t) (G : GB k0 s) (hk : k0 ≤ 10) : (wHead t s).length ≤ 400000 := by
  have h1 := ht.len
  have h2 := G.len hk
  have h3 := wNum_le 3 (1 :: wNum t).length (by rw [List.length_cons]; show _ < 268435456; omega)
  have h4 := wNum_le 3 (3 :: wBase s).length (by show _ < 268435456; omega)
  have h5 : (wNum ([2] : List Nat).length).length = 1 := by rw [wNum_lt (by decide)]; rfl
  rw [wHead, List.length_append, List.length_append, wRec_len, wRec_len, wRec_len, h5]
  simp only [List.length_cons, List.length_nil] at h1 h2 h3 h4 ⊢
  omega
theorem data_len {t k0 : Nat} {s : BS} {gs : List Grp} (ht : okBig t) (G : GB k0 s) (hk : k0 ≤ 10) (h : GsOk s gs) : (recs (logRecs t s gs)).length ≤ 400000 + 40000 * gs.length := by
  have e : recs (logRecs t s gs) = wHead t s ++ recs (gs.map noteOf) := by
    have : logRecs t s gs = logRecs t s [] ++ gs.map noteOf := rfl
    rw [this, recs_app, head_recs]
  have h1 := head_len ht G hk
  have h2 : (recs (gs.map noteOf)).length ≤ (gs.map noteOf).length * 40000 := flat_le fun rc hrc => by
    obtain ⟨g, hg, rfl⟩ := List.mem_map.mp hrc
    obtain ⟨i, hi, e⟩ := List.getElem_of_mem hg
    exact note_len (h i g (by rw [List.getElem?_eq_getElem hi, e]))
  rw [e, List.length_append]
  rw [List.length_map] at h2
  omega
theorem recs_okN {rcs : List (List Nat)} (h : (recs rcs).length ≤ cap) : ∀ rc ∈ rcs, okN rc.length := fun rc hrc => okN_cap (by
  have := rec_le hrc
  rw [wRec_len] at this
  omega)
end
end Q

/-! ## G14 -/
set_option Elab.async false
set_option linter.all false
set_option maxRecDepth 100000
set_option maxHeartbeats 4000000
namespace Q
open PySem PySem.Spec PyProof.Rows L2
local macro_rules | `(tactic| walk_at "rd") => `(tactic| repeat (first
  | ((with_reducible apply r_var); focus exact rfl)
  | with_reducible refine r_c ?_
  | with_reducible refine r_chain ?_
  | ((with_reducible apply r_aug); focus exact rfl)
  | with_reducible refine r_ip ?_
  | with_reducible refine r_op ?_
  | with_reducible refine r_I0 ?_
  | with_reducible refine r_cons ?_
  | with_reducible refine r_nil ?_
  | with_reducible refine r_seq ?_
  | with_reducible refine r_asg ?_
  | with_reducible refine r_gn ?_
  | with_reducible refine r_gcons ?_
  | with_reducible refine r_gnil ?_
  | with_reducible refine r_lc ?_
  | with_reducible refine r_m1 ?_
  | with_reducible refine r_sfld ?_
  | with_reducible refine r_sfa ?_
  | with_reducible refine r_rAdd ?_
  | with_reducible refine r_ret ?_
  | with_reducible refine r_ifS ?_
  | with_reducible refine r_test ?_
  | with_reducible refine r_bl ?_
  | with_reducible refine r_B ?_
  | with_reducible refine r_drop ?_
  | with_reducible refine r_bm ?_
  | with_reducible refine r_CB ?_
  | with_reducible refine r_call ?_
  | with_reducible refine r_meth ?_
  | with_reducible refine r_make ?_
  | with_reducible refine r_tup ?_
  | with_reducible refine r_lst ?_
  | ((with_reducible refine r_I ?_ ?_); focus (first | decide | exact ⟨by decide, by decide⟩ | exact .inl ⟨by decide, by decide⟩ | exact .inr ⟨by decide, by decide⟩ | omega))
  | with_reducible refine r_U ?_
  | with_reducible refine r_un ?_
  | with_reducible refine r_and ?_
  | with_reducible refine r_or ?_
  | with_reducible refine r_not ?_
  | with_reducible refine r_andV ?_
  | with_reducible refine r_orV ?_
  | with_reducible refine r_notV ?_
  | with_reducible refine r_if ?_
  | with_reducible refine r_sl ?_
  | with_reducible refine r_part ?_
  | with_reducible refine r_parti ?_
  | with_reducible refine r_nopart ?_
  | with_reducible refine r_il ?_
  | with_reducible refine r_it ?_
  | with_reducible refine r_ir ?_
  | with_reducible refine r_is ?_
  | with_reducible refine r_next ?_
  | with_reducible refine r_retN ?_
  | ((with_reducible refine r_eq ?_ ?_); focus exact rfl)
  | ((with_reducible refine r_ne ?_ ?_); focus exact rfl)))
local macro_rules | `(tactic| walk_at "rx") => `(tactic| repeat (first
  | ((with_reducible apply r_var); focus exact rfl)
  | with_reducible refine r_c ?_
  | with_reducible refine r_chain ?_
  | ((with_reducible apply r_aug); focus exact rfl)
  | with_reducible refine r_ip ?_
  | with_reducible refine r_op ?_
  | with_reducible refine r_I0 ?_
  | with_reducible refine r_cons ?_
  | with_reducible refine r_nil ?_
  | with_reducible refine r_seq ?_
  | with_reducible refine r_asg ?_
  | with_reducible refine r_gn ?_
  | with_reducible refine r_gcons ?_
  | with_reducible refine r_gnil ?_
  | with_reducible refine r_m1 ?_
  | with_reducible refine r_sfld ?_
  | with_reducible refine r_sfa ?_
  | with_reducible refine r_rAdd ?_
  | with_reducible refine r_ret ?_
  | with_reducible refine r_ifS ?_
  | with_reducible refine r_test ?_
  | with_reducible refine r_bl ?_
  | with_reducible refine r_B ?_
  | with_reducible refine r_drop ?_
  | with_reducible refine r_bm ?_
  | with_reducible refine r_CB ?_
  | with_reducible refine r_call ?_
  | with_reducible refine r_make ?_
  | with_reducible refine r_tup ?_
  | with_reducible refine r_lst ?_
  | ((with_reducible refine r_I ?_ ?_); focus (first | decide | exact ⟨by decide, by decide⟩ | exact .inl ⟨by decide, by decide⟩ | exact .inr ⟨by decide, by decide⟩ | omega))
  | with_reducible refine r_U ?_
  | with_reducible refine r_un ?_
  | with_reducible refine r_and ?_
  | with_reducible refine r_or ?_
  | with_reducible refine r_not ?_
  | with_reducible refine r_andV ?_
  | with_reducible refine r_orV ?_
  | with_reducible refine r_notV ?_
  | with_reducible refine r_if ?_
  | with_reducible refine r_sl ?_
  | with_reducible refine r_part ?_
  | with_reducible refine r_parti ?_
  | with_reducible refine r_nopart ?_
  | with_reducible refine r_il ?_
  | with_reducible refine r_it ?_
  | with_reducible refine r_ir ?_
  | with_reducible refine r_is ?_
  | with_reducible refine r_next ?_
  | with_reducible refine r_retN ?_
  | ((with_reducible refine r_eq ?_ ?_); focus exact rfl)
  | ((with_reducible refine r_ne ?_ ?_); focus exact rfl)))
section
variable {P : Program} {w : World} {K : PySem.W.Frag} {mg : Str → Option Value} {base : Heap}
/-! ### the law -/
def szs (t : Nat) (s : BS) (gs : List Grp) : List Nat := (List.range (gs.length + 1)).map (szOf t s gs)
theorem szs_snoc (t : Nat) (s : BS) (gs : List Grp) (g : Grp) : szs t s (gs ++ [g]) = szs t s gs ++ [(recs (logRecs t s (gs ++ [g]))).length] := by
  unfold szs
  rw [List.length_append, show [g].length = 1 from rfl, List.range_succ, List.map_append]
  congr 1
  · refine List.map_congr_left fun i hi => ?_
    rw [List.mem_range] at hi
    unfold szOf
    rw [List.take_append_of_le_length (by omega)]
  · show [szOf t s (gs ++ [g]) (gs.length + 1)] = _
    unfold szOf
    rw [List.take_of_length_le (by rw [List.length_append]; exact Nat.le_refl _)]
structure LI (K : PySem.W.Frag) (H : Hp) (st dr l hd pd pst psz : Addr) (rs as : List Addr) (t k0 : Nat) (s0 : BS) (gs : List Grp) : Prop where
  S : StAt H st dr
  R : RowsAt H l rs (sAt s0 gs gs.length).rows
  h : HeldAt H hd (sAt s0 gs gs.length).held
  ed : H pd = some (bL (recs (logRecs t s0 gs)))
  est : H pst = some (.lst (as.map V.ref))
  las : as.length = gs.length + 1
  has : ∀ (j : Nat) a, as[j]? = some a → Rp H (dBase (sAt s0 gs j)) (.ref a)
  esz : H psz = some (bL (szs t s0 gs))
  n1 : pst ≠ st
  n2 : pst ≠ dr
  n3 : psz ≠ st
  n4 : psz ≠ dr
  n5 : l ≠ pst
  n6 : l ≠ psz
  n7 : pst ∉ rs
  n8 : psz ∉ rs
  n9 : pd ≠ pst
  n10 : pd ≠ psz
  n11 : pst ≠ psz
  n12 : hd ≠ pst
  n13 : hd ≠ psz
theorem LI.lx {H H' : Hp} {st dr l hd pd pst psz : Addr} {rs as : List Addr} {t k0 : Nat} {s0 : BS} {gs : List Grp} (h : LI K H st dr l hd pd pst psz rs as t k0 s0 gs) (k : Lx st H H') (S : StAt H' st dr) : LI K H' st dr l hd pd pst psz rs as t k0 s0 gs :=
  ⟨S, h.R.lx h.S k, h.h.lx h.S k, k.1 _ _ (h.S.neB h.ed) h.ed, k.1 _ _ h.n1 h.est, h.las, fun j a e => (h.has j a e).ts (h.S.tst k), k.1 _ _ h.n3 h.esz, h.n1, h.n2, h.n3, h.n4, h.n5, h.n6, h.n7, h.n8, h.n9, h.n10, h.n11, h.n12, h.n13⟩
theorem LI.same {H H' : Hp} {st dr l hd pd pst psz : Addr} {rs as : List Addr} {t k0 : Nat} {s0 : BS} {gs : List Grp} (h : LI K H st dr l hd pd pst psz rs as t k0 s0 gs) (k : Same H H') : LI K H' st dr l hd pd pst psz rs as t k0 s0 gs := h.lx (Lx.of k) (h.S.same k)
theorem Rp.isRef {H : Hp} {s : BS} {v : V} (h : Rp H (dBase s) v) : ∃ a, v = .ref a := by
  obtain ⟨p, xs, e, _⟩ := h
  exact ⟨p, e⟩
def spLaw (K : PySem.W.Frag) : Sp := fun vs H Q _ => ∃ a, ∃ ns : List Int, vs = [.ref a] ∧ SqL K H a (ns.map V.int) ∧ ∀ H', Q (.bl true) H'
def cntUp (m i : Nat) : Nat := min i (m - 2)
theorem cntUp_step {m i : Nat} : cntUp m (i + 1) = cntUp m i + (if 3 + i ≤ m then 1 else 0) := by
  unfold cntUp
  split <;> omega
theorem sz_le {t : Nat} {s : BS} {gs : List Grp} {m e i : Nat} (h4 : (recs ((logRecs t s gs).take m)).length ≤ e) (h5 : m < (logRecs t s gs).length → e < (recs ((logRecs t s gs).take (m + 1))).length) (hi : i ≤ gs.length) : szOf t s gs i ≤ e ↔ 3 + i ≤ m := by
  unfold szOf
  rw [← logRecs_take]
  have hl := logRecs_len t s gs
  constructor
  · intro h
    refine Decidable.byContradiction fun c => ?_
    have h6 := h5 (by omega)
    have h7 := recs_take_mono (rcs := logRecs t s gs) (show m + 1 ≤ 3 + i by omega)
    omega
  · intro h
    exact Nat.le_trans (recs_take_mono h) h4
theorem ok_law  (T : Txt K mg) : Fc P w K mg base CX0 (124) "law" ["_law_script"] (spLaw K) := by
  refine ⟨?_, gm_law T, (fd_law T.says).kp, (fd_law T.says).bindsN fun _ _ _ _ _ _ us hl => match us, hl with | [_], _ => rfl⟩
  refine (fd_law T.says).ok sc_law (fun vs H Q E h => by first | (obtain ⟨_, rfl, _⟩ := h; rfl) | (obtain ⟨_, _, rfl, _⟩ := h; rfl) | (obtain ⟨_, _, _, rfl, _⟩ := h; rfl) | (obtain ⟨_, _, _, _, rfl, _⟩ := h; rfl) | (obtain ⟨_, _, _, _, _, rfl, _⟩ := h; rfl) | (obtain ⟨_, _, _, _, _, _, rfl, _⟩ := h; rfl) | (obtain ⟨_, _, _, _, _, _, _, rfl, _⟩ := h; rfl) | (obtain ⟨_, _, _, _, _, _, _, _, rfl, _⟩ := h; rfl) | (obtain ⟨_, _, _, _, _, _, _, _, _, rfl, _⟩ := h; rfl)) (fun cdv A outer s H vs Q E hr h => ?_)
  obtain ⟨sc, ns, rfl, hsc, q⟩ := h
  refine ⟨_, PSs.nox (pss_cons (ps_set (i := 1) sc_law.nd rfl (Or.inl rfl) (pe_lst (pa_cons (pe_f (ok_law_draws T) (hr.mono (by omega)) (by rfl) (pa_cons (pv 0) pa_nil)) (pa_cons pe_int pa_nil))))
      (pss_cons (ps_asg (pe_f (ok_law_some_base T) (hr.mono (by omega)) (by rfl) (pa_cons (pv 1) pa_nil)) (pg_lst rfl (pgs_cons (pg_name (i := 2) sc_law.nd rfl (Or.inl rfl)) (pgs_cons (pg_name (i := 3) sc_law.nd rfl (Or.inl rfl)) (pgs_cons (pg_name (i := 4) sc_law.nd rfl (Or.inl rfl)) (pgs_cons (pg_name (i := 5) sc_law.nd rfl (Or.inl rfl)) pgs_nil))))))
      (pss_cons (ps_set (i := 6) sc_law.nd rfl (Or.inl rfl) (pe_f (ok_law_big T) (hr.mono (by omega)) (by rfl) (pa_cons (pv 1) pa_nil)))
      (pss_cons (ps_set (i := 7) sc_law.nd rfl (Or.inl rfl) (pe_op op_cat (pe_op op_cat (pe_f (ok_law_record T) (hr.mono (by omega)) (by rfl) (pa_cons (pe_op op_cat (pe_lst (pa_cons pe_int pa_nil)) (pe_f (ok_law_number T) (hr.mono (by omega)) (by rfl) (pa_cons (pv 6) pa_nil))) pa_nil)) (pe_f (ok_law_record T) (hr.mono (by omega)) (by rfl) (pa_cons (pe_f (ok_law_base_bytes T) (hr.mono (by omega)) (by rfl) (pa_cons (pv 2) (pa_cons (pv 3) (pa_cons (pv 4) pa_nil)))) pa_nil))) (pe_f (ok_law_record T) (hr.mono (by omega)) (by rfl) (pa_cons (pe_lst (pa_cons pe_int pa_nil)) pa_nil))))
      (pss_cons (ps_if (PW.pt (pw_or (pt_not (pt_val (pe_f (ok_sm T) (hr.mono (by omega)) (by rfl) (pa_cons (pe_f (ok_log_start T) (hr.mono (by omega)) (by rfl) (pa_cons (pv 6) (pa_cons (pv 5) pa_nil))) (pa_cons (pv 7) pa_nil))))) (pw_or1 (pt_not (pt_val (pe_f (ok_sm T) (hr.mono (by omega)) (by rfl) (pa_cons (pe_m0 (ok_Base_data T) (hr.mono (by omega)) (pv 5)) (pa_cons (pe_f (ok_law_base_data T) (hr.mono (by omega)) (by rfl) (pa_cons (pv 2) (pa_cons (pv 3) (pa_cons (pv 4) pa_nil)))) pa_nil)))))))) (pss_one (ps_ret pe_bl)) pss_nil)
      (pss_cons (ps_set (i := 8) sc_law.nd rfl (Or.inl rfl) (pe_lst (pa_cons (pe_f (ok_law_base_data T) (hr.mono (by omega)) (by rfl) (pa_cons (pv 2) (pa_cons (pv 3) (pa_cons (pv 4) pa_nil)))) pa_nil)))
      (pss_cons (ps_set (i := 9) sc_law.nd rfl (Or.inl rfl) (pe_lst (pa_cons (pe_callB call_len_seq (by rfl) (n_len T) PySem.boot_len (pa_cons (pv 7) pa_nil)) pa_nil)))
      (pss_cons (ps_for PassesOwn.never rfl (pi_range1 (by rfl) (n_range T) (pa_cons (pe_f (ok_law_next T) (hr.mono (by omega)) (by rfl) (pa_cons (pv 1) (pa_cons pe_int pa_nil))) pa_nil)) (pg_name (i := 10) sc_law.nd rfl (Or.inl rfl)) (pss_cons (ps_set (i := 11) sc_law.nd rfl (Or.inl rfl) (pe_f (ok_law_group T) (hr.mono (by omega)) (by rfl) (pa_cons (pv 1) (pa_cons (pv 2) pa_nil))))
      (pss_cons (ps_set (i := 12) sc_law.nd rfl (Or.inl rfl) (pe_f (ok_law_record T) (hr.mono (by omega)) (by rfl) (pa_cons (pe_op op_cat (pe_lst (pa_cons pe_int pa_nil)) (pe_f (ok_law_group_bytes T) (hr.mono (by omega)) (by rfl) (pa_cons (pe_ix ix_list (pv 11) pe_int (fun _ _ => rfl)) (pa_cons (pe_ix ix_list (pv 11) pe_int (fun _ _ => rfl)) pa_nil)))) pa_nil)))
      (pss_cons (ps_if (pt_not (pt_val (pe_f (ok_sm T) (hr.mono (by omega)) (by rfl) (pa_cons (pe_f (ok_write_note T) (hr.mono (by omega)) (by rfl) (pa_cons (pe_callTy call_list_of (by rfl) (n_list T) (by decide +kernel) (pa_cons (pe_ix ix_list (pv 11) pe_int (fun _ _ => rfl)) pa_nil)) (pa_cons (pe_callTy call_list_of (by rfl) (n_list T) (by decide +kernel) (pa_cons (pe_ix ix_list (pv 11) pe_int (fun _ _ => rfl)) pa_nil)) pa_nil))) (pa_cons (pv 12) pa_nil))))) (pss_one (ps_ret pe_bl)) pss_nil)
      (pss_cons (ps_asg (pe_f (ok_law_grown T) (hr.mono (by omega)) (by rfl) (pa_cons (pv 2) (pa_cons (pv 3) (pa_cons (pv 11) pa_nil)))) (pg_lst rfl (pgs_cons (pg_name (i := 2) sc_law.nd rfl (Or.inl rfl)) (pgs_cons (pg_name (i := 3) sc_law.nd rfl (Or.inl rfl)) pgs_nil))))
      (pss_cons (ps_set (i := 4) sc_law.nd rfl (Or.inl rfl) (pe_op op_add (pv 4) pe_int))
      (pss_cons (ps_set (i := 7) sc_law.nd rfl (Or.inl rfl) (pe_op op_cat (pv 7) (pv 12)))
      (pss_cons (ps_expr (pe_bm PySem.F.plainAttrs_list PySem.F.slot_list_append PySem.F.type_list_append mt_append (pv 8) (pa_cons (pe_f (ok_law_base_data T) (hr.mono (by omega)) (by rfl) (pa_cons (pv 2) (pa_cons (pv 3) (pa_cons (pv 4) pa_nil)))) pa_nil)))
      (pss_one (ps_expr (pe_bm PySem.F.plainAttrs_list PySem.F.slot_list_append PySem.F.type_list_append mt_append (pv 9) (pa_cons (pe_callB call_len_seq (by rfl) (n_len T) PySem.boot_len (pa_cons (pv 7) pa_nil)) pa_nil))))))))))))
      (pss_cons (ps_set (i := 13) sc_law.nd rfl (Or.inl rfl) (pe_ix ix_list (pv 8) (pe_op op_sub (pe_callB call_len_seq (by rfl) (n_len T) PySem.boot_len (pa_cons (pv 8) pa_nil)) pe_int) (fun _ _ => rfl)))
      (pss_cons (ps_set (i := 14) sc_law.nd rfl (Or.inl rfl) (pe_op op_cat (pe_op op_cat (pv 7) (pe_f (ok_law_wrong_note T) (hr.mono (by omega)) (by rfl) (pa_cons (pv 1) (pa_cons (pv 2) pa_nil)))) (pe_f (ok_law_record T) (hr.mono (by omega)) (by rfl) (pa_cons (pe_lst (pa_cons pe_int (pa_cons pe_int (pa_cons pe_int pa_nil)))) pa_nil))))
      (pss_cons (ps_if (PW.pt (pw_or (pt_not (pt_val (pe_f (ok_law_told T) (hr.mono (by omega)) (by rfl) (pa_cons (pe_f (ok_read_log T) (hr.mono (by omega)) (by rfl) (pa_cons (pe_callTy call_list_of (by rfl) (n_list T) (by decide +kernel) (pa_cons (pv 7) pa_nil)) pa_nil)) (pa_cons (pv 6) (pa_cons (pv 13) (pa_cons (pe_callB call_len_seq (by rfl) (n_len T) PySem.boot_len (pa_cons (pv 7) pa_nil)) pa_nil))))))) (pw_or1 (pt_not (pt_val (pe_f (ok_law_told T) (hr.mono (by omega)) (by rfl) (pa_cons (pe_f (ok_read_log T) (hr.mono (by omega)) (by rfl) (pa_cons (pv 14) pa_nil)) (pa_cons (pv 6) (pa_cons (pv 13) (pa_cons (pe_callB call_len_seq (by rfl) (n_len T) PySem.boot_len (pa_cons (pv 7) pa_nil)) pa_nil)))))))))) (pss_one (ps_ret pe_bl)) pss_nil)
      (pss_cons (ps_for PassesOwn.never rfl (pi_range1 (by rfl) (n_range T) (pa_cons pe_int pa_nil)) (pg_name (i := 10) sc_law.nd rfl (Or.inl rfl)) (pss_cons (ps_set (i := 15) sc_law.nd rfl (Or.inr rfl) (pe_f (ok_law_next T) (hr.mono (by omega)) (by rfl) (pa_cons (pv 1) (pa_cons (pe_op op_add (pe_callB call_len_seq (by rfl) (n_len T) PySem.boot_len (pa_cons (pv 7) pa_nil)) pe_int) pa_nil))))
      (pss_cons (ps_if (pt_cmpR op_eq (pv 10) pe_int (nomark _)) (pss_one (ps_set (i := 15) sc_law.nd rfl (Or.inr rfl) (pe_callB (call_max2 rfl) (by rfl) (n_max T) (by decide +kernel) (pa_cons pe_int (pa_cons (pe_op op_sub (pe_ix ix_list (pv 9) pe_int (fun _ _ => rfl)) pe_int) pa_nil))))) pss_nil)
      (pss_cons (ps_set (i := 16) sc_law.nd rfl (Or.inl rfl) (pe_slice sl_list (pv 7) po_none (po_some (pv 15))))
      (pss_cons (ps_set (i := 17) sc_law.nd rfl (Or.inl rfl) (pe_callB call_len_seq (by rfl) (n_len T) PySem.boot_len (pa_cons (pe_lc (own := [("_law_size", 19)]) (g := gName 19) rfl sc_law.nd (pi_list (pv 9)) (blkOk_by (N := ["_law_script", "_law_state", "_law_rows", "_law_held", "_law_commits", "_law_base", "_law_turn", "_law_data", "_law_states", "_law_sizes", "_law_k", "_law_group_here", "_law_note", "_law_last", "_law_spoilt", "_law_end", "_law_passed", "_law_count", "_law_due", "_law_size"]) (sc := defScope s_law) (by decide +kernel)) (fun _ _ _ _ _ => (pg_name (i := 19) sc_law.nd rfl (Or.inl rfl))) (fun _ _ _ _ _ => (pts_one (pt_cmpR op_le (pv 19) (pv 15) (nomark _)))) (fun _ _ _ _ _ => (pv 19))) pa_nil)))
      (pss_cons (ps_set (i := 18) sc_law.nd rfl (Or.inl rfl) pe_non)
      (pss_cons (ps_if (pt_cmpR op_gt (pv 17) pe_int (nomark _)) (pss_one (ps_set (i := 18) sc_law.nd rfl (Or.inl rfl) (pe_ix ix_list (pv 8) (pe_op op_sub (pv 17) pe_int) (fun _ _ => rfl)))) pss_nil)
      (pss_one (ps_if (PW.pt (pw_or (pt_not (pt_val (pe_f (ok_law_told T) (hr.mono (by omega)) (by rfl) (pa_cons (pe_f (ok_read_log T) (hr.mono (by omega)) (by rfl) (pa_cons (pv 16) pa_nil)) (pa_cons (pv 6) (pa_cons (pv 18) (pa_cons (pe_ix ix_list (pe_op op_cat (pe_lst (pa_cons pe_int pa_nil)) (pv 9)) (pv 17) (fun _ _ => rfl)) pa_nil))))))) (pw_or1 (pt_cmpR (op_neD hr.units) (pv 16) (pe_slice sl_list (pv 7) po_none (po_some (pv 15))) (nomark _))))) (pss_one (ps_ret pe_bl)) pss_nil)))))))))
      (pss_one (ps_ret pe_bl)))))))))))))), ?_⟩
  walk_at "rx"
  refine ⟨sc, ns, rfl, hsc, fun dr zs H1 s1 n1 e1 hz => ?_⟩
  walk_at "rx"
  refine ⟨le_line rfl, fun st hst => ?_⟩
  have S2 : StAt (upd H1 st (.lst [.ref dr, .int 20])) st dr := ⟨20, zs, upd_same, by rw [upd_ne (ne_of_none e1 hst)]; exact e1⟩
  generalize upd H1 st (.lst [.ref dr, .int 20]) = H2 at S2
  walk_at "rx"
  refine ⟨st, dr, rfl, S2, fun k0 s0 l hd b rs p H3 hk0 G l3 S3 ep R3 h3 B3 => ?_⟩
  refine r_glst ep rfl ?_
  walk_at "rx"
  refine ⟨st, dr, rfl, S3, fun t v H4 ht l4 S4 hv => ?_⟩
  obtain rfl : v = .int t := hv
  have R4 := R3.lx S3 l4
  have h4 := h3.lx S3 l4
  have B4 := B3.lx S3 l4
  have hhl := head_len ht G (by omega)
  have okb := G.ok (by omega)
  have okO4 : ∀ c ∈ hCells s0.held, okO c.2.2 := fun c hc => (okb.cells c hc).2.2
  have l1 := wRec_len (1 :: wNum t)
  have l2 := wRec_len (3 :: wBase s0)
  have hl2 : (wRec (1 :: wNum t)).length + (wRec (3 :: wBase s0)).length + (wRec [2]).length ≤ 400000 := by
    rw [← List.length_append, ← List.length_append]
    exact hhl
  have hcap := cap_val
  have l1' : (wNum t).length + 1 ≤ (wRec (1 :: wNum t)).length := by rw [l1, List.length_cons]; omega
  have l2' : (3 :: wBase s0).length ≤ (wRec (3 :: wBase s0)).length := by rw [l2]; omega
  have ecom : (V.int (k0 : Nat)) = V.int s0.com := by rw [G.com]
  walk_at "rx"
  refine ⟨le_line rfl, fun p hp => ?_⟩
  have s5 := same_new (o := .lst [V.int 1]) hp
  walk_at "rx"
  refine ⟨_, t, rfl, rfl, by omega, fun H6 p6 s6 n6 e6 => ?_⟩
  refine r_cat (xs := [1]) (s6 _ _ upd_same) e6 (by show 1 + _ ≤ _; omega) fun p7 n7 => ?_
  have s7 := (s5.trans s6).trans (same_new (o := bL ([1] ++ wNum t)) n7)
  walk_at "rx"
  refine ⟨p7, _, rfl, upd_same, by show (wRec (1 :: wNum t)).length ≤ _; omega, fun H8 p8 s8 n8 e8 => ?_⟩
  have s48 := s7.trans s8
  walk_at "rx"
  refine ⟨l, hd, rs, s0, by rw [ecom] <;> rfl, R4.same s48, h4.same s48, okb.rows, okb.cells, by omega, fun H9 p9 s9 n9 e9 => ?_⟩
  walk_at "rx"
  refine ⟨p9, _, rfl, e9, by omega, fun HA pA sA nA eA => ?_⟩
  refine r_cat ((s9.trans sA) _ _ e8) eA (by show (wRec (1 :: wNum t)).length + _ ≤ _; omega) fun pB nB => ?_
  have sB := same_new (o := bL (wRec ([1] ++ wNum t) ++ wRec (3 :: wBase s0))) nB
  walk_at "rx"
  refine ⟨le_line rfl, fun pC nC => ?_⟩
  have sC := same_new (o := .lst [V.int 2]) nC
  walk_at "rx"
  refine ⟨pC, [2], rfl, upd_same, by omega, fun HD pD sD nD eD => ?_⟩
  refine r_cat ((sC.trans sD) _ _ upd_same) eD (by rw [List.length_append]; show (wRec (1 :: wNum t)).length + _ + _ ≤ _; omega) fun pd npd => ?_
  have s4E := (((((s48.trans s9).trans sA).trans sB).trans sC).trans sD).trans (same_new (o := bL (wRec ([1] ++ wNum t) ++ wRec (3 :: wBase s0) ++ wRec [2])) npd)
  have ed0 : upd HD pd (bL (wRec ([1] ++ wNum t) ++ wRec (3 :: wBase s0) ++ wRec [2])) pd = some (bL (wHead t s0)) := upd_same
  generalize upd HD pd (bL (wRec ([1] ++ wNum t) ++ wRec (3 :: wBase s0) ++ wRec [2])) = HE at s4E ed0
  have SE := S4.same s4E
  have RE := R4.same s4E
  have hE := h4.same s4E
  have BE := B4.same s4E
  clear s48 s9 sA sB sC sD s5 s6 s7 s8
  walk_at "rx"
  refine ⟨t, b, s0, rfl, BE, okO4, by omega, fun HF pF sF nF eF => ?_⟩
  walk_at "rx"
  refine .inr ⟨pF, pd, wHead t s0, rfl, eF, sF _ _ ed0, fun HG sG => ?_⟩
  refine ⟨true, rfl, ?_⟩
  refine ite_f rfl ?_
  have sEG := sF.trans sG
  have BG := BE.same sEG
  obtain ⟨bxG, dG, dxG, lG, rsG, hdG, BG'⟩ := id BG
  walk_at "rx"
  refine r_mt (m := "data") ⟨_, rfl, b, bxG, _, rfl, BG'.1, bF_no (by decide +kernel), ?_⟩
  walk_at "rx"
  refine ⟨b, s0, rfl, BG, by rw [G.r8]; decide, fun v1 HH sH hv1 => ?_⟩
  have sEH := sEG.trans sH
  walk_at "rx"
  refine ⟨l, hd, rs, s0, by rw [ecom] <;> rfl, RE.same sEH, hE.same sEH, by rw [G.r8]; decide, fun v2 HI sI hv2 => ?_⟩
  walk_at "rx"
  refine .inl ⟨v1, v2, dBase s0, rfl, hv1.ts (Tst.same sI), hv2, depD_base okb.cells, fun HJ sJ => ?_⟩
  refine ⟨true, rfl, ?_⟩
  refine ite_f rfl ?_
  have sEJ := (sEH.trans sI).trans sJ
  walk_at "rx"
  refine ⟨l, hd, rs, s0, by rw [ecom] <;> rfl, RE.same sEJ, hE.same sEJ, by rw [G.r8]; decide, fun v3 HK sK hv3 => ?_⟩
  obtain ⟨a0, rfl⟩ := hv3.isRef
  walk_at "rx"
  refine ⟨le_line rfl, fun pst npst => ?_⟩
  have sEK := sEJ.trans sK
  have SK := SE.same sEK
  have n1' := SK.ne npst
  have n2' := SK.ne2 npst
  have RK := RE.same sEK
  have hK := hE.same sEK
  have edK := sEK _ _ ed0
  have nl : l ≠ pst := ne_of_none RK.1 npst
  have nrs : pst ∉ rs := fun hm => by
    obtain ⟨j, hj, ej⟩ := List.getElem_of_mem hm
    obtain ⟨ys, ey, _⟩ := RK.2.2.2.2 j pst (by rw [List.getElem?_eq_getElem hj, ej])
    rw [npst] at ey
    cases ey
  have nhd : hd ≠ pst := by
    obtain ⟨kv, z1, _⟩ := hK
    exact ne_of_none z1 npst
  have npd' : pd ≠ pst := ne_of_none edK npst
  have sL := same_new (o := .lst [.ref a0]) npst
  have eL : upd HK pst (.lst [.ref a0]) pst = some (.lst ([a0].map V.ref)) := upd_same
  have rL := hv3.ts (Tst.same sL)
  generalize upd HK pst (.lst [.ref a0]) = HL at sL eL rL
  have sEL := sEK.trans sL
  walk_at "rx"
  refine ⟨pd, _, rfl, .inl (SqL.of (sEL _ _ ed0)), ?_⟩
  walk_at "rx"
  refine ⟨le_line rfl, fun psz npsz => ?_⟩
  rw [List.length_map]
  have SL := SE.same sEL
  have RL := RE.same sEL
  have hL := hE.same sEL
  have nrs2 : psz ∉ rs := fun hm => by
    obtain ⟨j, hj, ej⟩ := List.getElem_of_mem hm
    obtain ⟨ys, ey, _⟩ := RL.2.2.2.2 j psz (by rw [List.getElem?_eq_getElem hj, ej])
    rw [npsz] at ey
    cases ey
  have nhd2 : hd ≠ psz := by
    obtain ⟨kv, z1, _⟩ := hL
    exact ne_of_none z1 npsz
  have esz0 : (HO.lst [V.int ((wHead t s0).length : Nat)]) = bL (szs t s0 []) := by
    show HO.lst [V.int _] = HO.lst [V.int ((recs (logRecs t s0 [])).length : Nat)]
    rw [head_recs]
  rw [esz0]
  have sM := same_new (o := bL (szs t s0 [])) npsz
  have I0 : LI K (upd HL psz (bL (szs t s0 []))) st dr l hd pd pst psz rs [a0] t k0 s0 [] :=
    ⟨SL.same sM, RL.same sM, hL.same sM, by rw [head_recs]; exact (sEL.trans sM) _ _ ed0, sM _ _ eL, rfl, fun j a e => by
      match j, e with
      | 0, e => obtain rfl := Option.some.inj e; exact rL.ts (Tst.same sM), upd_same, n1', n2', SL.ne npsz, SL.ne2 npsz, nl, ne_of_none RL.1 npsz, nrs, nrs2, npd', ne_of_none (sEL _ _ ed0) npsz, ne_of_none eL npsz, nhd, nhd2⟩
  generalize upd HL psz (bL (szs t s0 [])) = HM at I0
  clear sM esz0 nrs2 nhd2 hL RL SL sEL sL eL rL RK hK edK nl nrs nhd npd' n1' n2' SK sEK
  walk_at "rx"
  refine r_ir ?_
  walk_at "rx"
  refine ⟨st, dr, 6, rfl, by decide, I0.S, fun kk HN hkk lN SN => ?_⟩
  have IN := I0.lx lN SN
  walk_at "rx"
  refine ⟨_, rfl, by omega, by omega, ?_⟩
  rw [show ((kk : Nat) : Int).toNat = kk from rfl]
  refine for_any (xs := upto kk) (Wk.rng (I := fun _ => True)) (fun i σ H' => ∃ v10 v11 v12 l hd pd rs as, ∃ gs : List Grp, gs.length = i ∧ GsOk s0 gs ∧ σ = [some (.ref sc), some (.ref st), some (.ref l), some (.ref hd), some (.int (k0 + i : Nat)), some (.ref b), some (.int (t : Nat)), some (.ref pd), some (.ref pst), some (.ref psz), v10, v11, v12, none, none, none, none, none, none, none] ∧ LI K H' st dr l hd pd pst psz rs as t k0 s0 gs) (fun _ _ _ _ => trivial)
    ⟨none, none, none, l, hd, pd, rs, [a0], [], rfl, fun k g h => by simp at h, rfl, IN⟩ ?_ ?_
  · rintro i x σ H5 hx ⟨v10, v11, v12, l, hd, pd, rs, as, gs, hgl, hgs, rfl, I5⟩
    have hik : i < kk := by
      have z := (List.getElem?_eq_some_iff.mp hx).1
      rw [upto_len] at z
      exact z
    subst hgl
    have GB5 := hgs.gb G gs.length (Nat.le_refl _)
    have hdl := data_len ht G (by omega) hgs
    walk_at "rx"
    refine ⟨st, dr, l, rs, _, rfl, I5.S, I5.R, GB5.r8, fun row hr => by have := GB5.rl row hr; omega, fun ts cs g H6 gb l6 S6 ga => ?_⟩
    have I6 := I5.lx l6 S6
    have GG := GB5.good (by omega) gb
    have hgl2 := gb.len
    have hnl := note_len (g := (ts, cs)) gb
    have hnl2 : (wRec (4 :: wGroup ts cs)).length ≤ 40000 := hnl
    walk_at "rx"
    refine ⟨le_line rfl, fun p7 hp7 => ?_⟩
    have s7 := same_new (o := .lst [V.int 4]) hp7
    have e7 : upd H6 p7 (.lst [V.int 4]) p7 = some (bL [4]) := upd_same
    have I7 := I6.same s7
    obtain ⟨D1, D2, ys1, ys2, eg, e1, e2, hy1, hy2⟩ := ga.same s7
    generalize upd H6 p7 (.lst [V.int 4]) = H7 at s7 e7 I7 eg e1 e2 hy1 hy2
    walk_at "rx"
    refine r_ixL (v := .ref D1) eg (atI_nat (j := 0) rfl) ?_
    walk_at "rx"
    refine r_ixL (v := .ref D2) eg (atI_nat (j := 1) rfl) ?_
    refine r_nil ?_
    refine ⟨D1, D2, ys1, ys2, ts, cs, rfl, e1, hy1, e2, hy2, ⟨gb.ok.tsk, gb.ok.csk⟩, by omega, fun H8 p8 s8 n8 e8 => ?_⟩
    refine r_cat (xs := [4]) (s8 _ _ e7) e8 (by show 1 + _ ≤ _; omega) fun p9 n9 => ?_
    have s9 := same_new (o := bL ([4] ++ wGroup ts cs)) n9
    walk_at "rx"
    refine ⟨p9, 4 :: wGroup ts cs, rfl, upd_same, by omega, fun HA pn sA nA en => ?_⟩
    have s7A := (s8.trans s9).trans sA
    have IA := I7.same s7A
    have egA := s7A _ _ eg
    have e1A := s7A _ _ e1
    have e2A := s7A _ _ e2
    have hy1A := hy1.ts (Tst.same s7A)
    have hy2A := hy2.ts (Tst.same s7A)
    clear s8 s9 sA e8 s7A e1 e2 hy1 hy2 eg
    walk_at "rx"
    refine r_ixL (v := .ref D1) egA (atI_nat (j := 0) rfl) ?_
    refine r_nil ?_
    refine ⟨D1, ys1, rfl, .inl (SqL.of e1A), fun q1 hq1 => ?_⟩
    have sB := same_new (o := .lst ys1) hq1
    walk_at "rx"
    refine r_ixL (v := .ref D2) (sB _ _ egA) (atI_nat (j := 1) rfl) ?_
    refine r_nil ?_
    refine ⟨D2, ys2, rfl, .inl (SqL.of (sB _ _ e2A)), fun q2 hq2 => ?_⟩
    have sC := same_new (o := .lst ys2) hq2
    walk_at "rx"
    have sBC := sB.trans sC
    refine ⟨q1, q2, ys1, ys2, ts, cs, rfl, sC _ _ upd_same, hy1A.ts (Tst.same sBC), upd_same, hy2A.ts (Tst.same sBC), fun c hc => (gb.ok.csk c hc).2.2, by show (wRec (4 :: wGroup ts cs)).length ≤ _; omega, fun HD pD sD nD eD => ?_⟩
    walk_at "rx"
    have sAD := sBC.trans sD
    refine .inr ⟨pD, pn, wNote ts cs, rfl, eD, sAD _ _ en, fun HE2 sE => ?_⟩
    refine ⟨true, rfl, ?_⟩
    refine ite_f rfl ?_
    have sAE := sAD.trans sE
    have IE := IA.same sAE
    have enE := sAE _ _ en
    have gaE : GrpAt HE2 g ts cs := ⟨D1, D2, ys1, ys2, sAE _ _ egA, sAE _ _ e1A, sAE _ _ e2A, hy1A.ts (Tst.same sAE), hy2A.ts (Tst.same sAE)⟩
    clear sB sC sBC sD sAD sE eD sAE
    walk_at "rx"
    refine ⟨l, hd, g, rs, _, _, ts, cs, rfl, IE.R, IE.h, gaE, fun t ht => ?_, GG.ok.nm, by rw [GB5.r8]; decide, GG.ro.rl, by have := gb.tl; omega, fun p l' rs' hd' HF sF nl' nrs' ep RF hF => ?_⟩
    · obtain ⟨j, hj, e⟩ := List.getElem_of_mem ht
      rw [GB5.r8]
      exact (gb.nx j t (by rw [List.getElem?_eq_getElem hj, e])).1
    refine r_glst ep rfl ?_
    have IF := IE.same sF
    have nlp : l' ≠ pst := (ne_of_none IE.est nl').symm
    have nlz : l' ≠ psz := (ne_of_none IE.esz nl').symm
    have nrp : pst ∉ rs' := fun hm => by
      have := nrs' pst hm
      rw [IE.est] at this
      cases this
    have nrz : psz ∉ rs' := fun hm => by
      have := nrs' psz hm
      rw [IE.esz] at this
      cases this
    have nhp : hd' ≠ pst := by
      obtain ⟨kv, z1, _⟩ := hF
      exact ne_of z1 IF.est (fun z => by cases z)
    have nhz : hd' ≠ psz := by
      obtain ⟨kv, z1, _⟩ := hF
      exact ne_of z1 IF.esz (fun z => by cases z)
    have enF := sF _ _ enE
    walk_at "rx"
    refine r_cat IF.ed enF (by show _ + (wRec (4 :: wGroup ts cs)).length ≤ _; omega) fun pd' npd' => ?_
    have sG := same_new (o := bL (recs (logRecs t s0 gs) ++ wRec (4 :: wGroup ts cs))) npd'
    have IG := IF.same sG
    have RG := RF.same sG
    have hG := hF.same sG
    have edG : upd HF pd' (bL (recs (logRecs t s0 gs) ++ wRec (4 :: wGroup ts cs))) pd' = some (bL (recs (logRecs t s0 (gs ++ [(ts, cs)])))) := by
      rw [upd_same, logRecs_snoc]
      rfl
    have npd1 : pd' ≠ pst := (ne_of_none IF.est npd').symm
    have npd2 : pd' ≠ psz := (ne_of_none IF.esz npd').symm
    generalize upd HF pd' (bL (recs (logRecs t s0 gs) ++ wRec (4 :: wGroup ts cs))) = HG2 at sG IG RG hG edG
    have hgs' := hgs.snoc (g := (ts, cs)) gb
    have GB6 := GB5.grow gb
    walk_at "rx"
    refine ⟨ty_l IG.est, ?_⟩
    walk_at "rx"
    refine ⟨l', hd', rs', (sAt s0 gs gs.length).grow ts cs, by show [V.ref l', V.ref hd', V.int (((k0 + gs.length : Nat) : Int) + 1)] = [V.ref l', V.ref hd', V.int (((sAt s0 gs gs.length).grow ts cs).com : Nat)]; rw [GB6.com]; rfl, RG, hG, by rw [GB6.r8]; decide, fun v HH sH hv => ?_⟩
    obtain ⟨an, rfl⟩ := hv.isRef
    have IH := IG.same sH
    refine ⟨pst, _, .ref an, rfl, rfl, IH.est, by rw [List.length_map, IH.las]; exact cap_lt (by omega), ?_⟩
    have tI : Tst HH (upd HH pst (.lst (as.map V.ref ++ [.ref an]))) := (Tst.refl HH).lst IH.est
    have sxI : Sx pst HH (upd HH pst (.lst (as.map V.ref ++ [.ref an]))) := (Sx.refl pst HH).self
    have SI := IH.S.updD (o := .lst (as.map V.ref ++ [.ref an])) IH.n1 IH.n2
    have RI := (RG.same sH).mv sxI tI nlp nrp
    have hI := (hG.same sH).mv tI fun o e => sxI _ _ nhp e
    have edI := sxI _ _ npd1 (sH _ _ edG)
    have eszI := sxI _ _ IH.n11.symm IH.esz
    have estI : upd HH pst (.lst (as.map V.ref ++ [.ref an])) pst = some (.lst ((as ++ [an]).map V.ref)) := by
      rw [upd_same, List.map_append]
      rfl
    have hasI : ∀ (j : Nat) a, (as ++ [an])[j]? = some a → Rp (upd HH pst (.lst (as.map V.ref ++ [.ref an]))) (dBase (sAt s0 (gs ++ [(ts, cs)]) j)) (.ref a) := by
      intro j a e
      by_cases c : j < as.length
      · rw [List.getElem?_append_left c] at e
        rw [sAt_snoc (by have := IH.las; omega)]
        exact (IH.has j a e).ts tI
      · rw [List.getElem?_append_right (by omega)] at e
        have hj : j = as.length := by
          have h1 := (List.getElem?_eq_some_iff.mp e).1
          have h2 : [an].length = 1 := rfl
          omega
        subst hj
        rw [Nat.sub_self] at e
        obtain rfl := Option.some.inj e
        have hle : as.length = (gs ++ [(ts, cs)]).length := by rw [IH.las, List.length_append]; rfl
        rw [hle, sAt_full]
        exact hv.ts tI
    generalize upd HH pst (.lst (as.map V.ref ++ [.ref an])) = HI2 at tI sxI SI RI hI edI eszI estI hasI
    walk_at "rx"
    refine ⟨ty_l eszI, ?_⟩
    walk_at "rx"
    refine ⟨pd', _, rfl, .inl (SqL.of edI), ?_⟩
    walk_at "rx"
    rw [List.length_map]
    have lsz : (szs t s0 gs).length ≤ 100 := by rw [szs, List.length_map, List.length_range]; omega
    refine r_append eszI (by omega) rfl ?_
    walk_at "rx"
    rw [← szs_snoc]
    have tJ : Tst HI2 (upd HI2 psz (bL (szs t s0 (gs ++ [(ts, cs)])))) := (Tst.refl HI2).lst eszI
    have sxJ : Sx psz HI2 (upd HI2 psz (bL (szs t s0 (gs ++ [(ts, cs)])))) := (Sx.refl psz HI2).self
    refine ⟨_, _, _, l', hd', pd', rs', as ++ [an], gs ++ [(ts, cs)], by rw [List.length_append]; rfl, hgs', rfl, ?_⟩
    exact ⟨SI.updD IH.n3 IH.n4, by rw [sAt_full]; exact RI.mv sxJ tJ nlz nrz, by rw [sAt_full]; exact hI.mv tJ fun o e => sxJ _ _ nhz e, sxJ _ _ npd2 edI, sxJ _ _ IH.n11 estI, by rw [List.length_append, List.length_append, IH.las]; rfl, fun j a e => (hasI j a e).ts tJ, upd_same, IH.n1, IH.n2, IH.n3, IH.n4, nlp, nlz, nrp, nrz, npd1, npd2, IH.n11, nhp, nhz⟩
  rintro σ H5 ⟨v10, v11, v12, l, hd, pd, rs, as, gs, hgl, hgs, rfl, I5⟩
  rw [upto_len] at hgl
  have hgl' : gs.length ≤ 5 := by omega
  subst hgl
  have GBn := hgs.gb G gs.length (Nat.le_refl _)
  have okn := GBn.ok (by omega)
  have hdl := data_len ht G (by omega) hgs
  obtain ⟨an, han⟩ : ∃ an, as[gs.length]? = some an := ⟨as[gs.length]'(by rw [I5.las]; omega), List.getElem?_eq_getElem _⟩
  walk_at "rx"
  refine ⟨pst, _, rfl, .inl (SqL.of I5.est), ?_⟩
  walk_at "rx"
  have elast : (((as.map V.ref).length : Nat) : Int) - 1 = ((gs.length : Nat) : Int) := by rw [List.length_map, I5.las]; omega
  rw [elast]
  refine r_ixL I5.est (atI_nat (j := gs.length) (v := .ref an) (by rw [List.getElem?_map, han]; rfl)) ?_
  walk_at "rx"
  refine ⟨st, dr, l, rs, _, k0 + gs.length, rfl, I5.S, I5.R, GBn, by omega, fun pw H6 w hW hwl l6 S6 ew => ?_⟩
  have I6 := I5.lx l6 S6
  refine r_cat I6.ed ew (by omega) fun p7 n7 => ?_
  have s7 := same_new (o := bL (recs (logRecs t s0 gs) ++ w)) n7
  have e7 : upd H6 p7 (bL (recs (logRecs t s0 gs) ++ w)) p7 = some (bL (recs (logRecs t s0 gs) ++ w)) := upd_same
  have I7 := I6.same s7
  generalize upd H6 p7 (bL (recs (logRecs t s0 gs) ++ w)) = H7 at s7 e7 I7
  walk_at "rx"
  refine ⟨le_line rfl, fun p8 n8 => ?_⟩
  have s8 := same_new (o := .lst [V.int 4, V.int 0, V.int 0]) n8
  walk_at "rx"
  have h400 : (wRec [4, 0, 0]).length ≤ 40000 := wRec_le (by decide)
  refine ⟨p8, [4, 0, 0], rfl, upd_same, by omega, fun H9 p9 s9 n9 e9 => ?_⟩
  refine r_cat ((s8.trans s9) _ _ e7) e9 (by rw [List.length_append]; omega) fun psp nsp => ?_
  have sA := (s8.trans s9).trans (same_new (o := bL (recs (logRecs t s0 gs) ++ w ++ wRec [4, 0, 0])) nsp)
  have esp : upd H9 psp (bL (recs (logRecs t s0 gs) ++ w ++ wRec [4, 0, 0])) psp = some (bL (recs (logRecs t s0 gs) ++ w ++ wRec [4, 0, 0])) := upd_same
  have IA := I7.same sA
  generalize upd H9 psp (bL (recs (logRecs t s0 gs) ++ w ++ wRec [4, 0, 0])) = HA at sA esp IA
  clear s7 s8 s9 e7 e9 I7 I6
  walk_at "rx"
  refine ⟨pd, _, rfl, .inl (SqL.of IA.ed), fun qd nqd => ?_⟩
  have sB := same_new (o := bL (recs (logRecs t s0 gs))) nqd
  walk_at "rx"
  have rl : ∀ (rcs : List (List Nat)) (tl : List Nat) (more : List (List Nat)) (ql : Addr) (HX : Hp) (Qx : VK), rcs = logRecs t s0 gs ++ more → HX ql = some (bL (recs rcs ++ tl)) → Stop tl → (recs rcs ++ tl).length + 100 ≤ cap → (∀ rc r, more = rc :: r → BadR (sAt s0 gs gs.length) rc) → (∀ p bb HY, Same HX HY → HY p = some (.tup [.int (t : Nat), .ref bb, .int (recs (logRecs t s0 gs)).length]) → BaseAt K HY bb (sAt s0 gs gs.length) → Qx (.ref p) HY) → spRL K [.ref ql] HX Qx E0 :=
    fun rcs tl more ql HX Qx e1 e2 e3 e4 e5 e6 => ⟨ql, rcs, tl, rfl, e2, e3, e4, .inr ⟨t, s0, gs, more, e1, hgs.log ht G hk0 hgl' e5, e6⟩⟩
  refine rl (logRecs t s0 gs) [] [] qd _ _ (by rw [List.append_nil]) (by rw [List.append_nil]; exact upd_same) stop_nil (by rw [List.append_nil]; omega) (fun rc r h => by cases h) fun p bb HC sC epC BC => ?_
  have sAC := sB.trans sC
  have IC := IA.same sAC
  have espC := sAC _ _ esp
  clear sB sC sAC nqd
  walk_at "rx"
  refine ⟨pd, _, rfl, .inl (SqL.of IC.ed), ?_⟩
  walk_at "rx"
  rw [List.length_map]
  refine ⟨_, _, _, _, rfl, .inr ⟨p, bb, t, (recs (logRecs t s0 gs)).length, _, an, rfl, rfl, rfl, rfl, epC, BC, IC.has _ _ han, by rw [GBn.r8]; decide, okn.cells⟩, fun HD sD => ?_⟩
  refine ⟨true, rfl, ?_⟩
  refine ite_f rfl ?_
  have ID := IC.same sD
  have espD := sD _ _ espC
  clear sD espC epC BC IC IA esp
  walk_at "rx"
  have hsp : ∃ rcs tl more, rcs = logRecs t s0 gs ++ more ∧ recs (logRecs t s0 gs) ++ w ++ wRec [4, 0, 0] = recs rcs ++ tl ∧ Stop tl ∧ ∀ rc r, more = rc :: r → BadR (sAt s0 gs gs.length) rc := by
    rcases hW with ⟨rc, rfl, hb⟩ | ⟨body, ck, rfl, hck, hne⟩
    · refine ⟨logRecs t s0 gs ++ [rc, [4, 0, 0]], [], [rc, [4, 0, 0]], rfl, ?_, stop_nil, fun rc' r h => ?_⟩
      · rw [recs_app, List.append_nil, recs_cons, recs_cons, List.append_assoc]
        show _ = _ ++ (_ ++ (_ ++ []))
        rw [List.append_nil]
      · obtain ⟨h1, _⟩ := List.cons.inj h
        rw [← h1]
        exact hb
    · refine ⟨logRecs t s0 gs, _, [], by rw [List.append_nil], List.append_assoc _ _ _, .inr (.inr ⟨body, ck, wRec [4, 0, 0], ?_, hck, hne⟩), fun rc r h => by cases h⟩
      simp only [List.append_assoc]
  obtain ⟨rcs, tl, more, hr1, hr2, hr3, hr4⟩ := hsp
  refine rl rcs tl more psp _ _ hr1 (by rw [← hr2]; exact espD) hr3 (by rw [← hr2, List.length_append, List.length_append]; omega) hr4 fun p bb HC sC epC BC => ?_
  have IC := ID.same sC
  walk_at "rx"
  refine ⟨pd, _, rfl, .inl (SqL.of IC.ed), ?_⟩
  walk_at "rx"
  rw [List.length_map]
  refine ⟨_, _, _, _, rfl, .inr ⟨p, bb, t, (recs (logRecs t s0 gs)).length, _, an, rfl, rfl, rfl, rfl, epC, BC, IC.has _ _ han, by rw [GBn.r8]; decide, okn.cells⟩, fun HE sE => ?_⟩
  refine ⟨true, rfl, ?_⟩
  refine ite_f rfl ?_
  have IE := IC.same sE
  clear sE sC epC BC IC ID espD hr1 hr2 hr3 hr4 hW ew hwl s4E ed0 rl
  walk_at "rx"
  refine ⟨4, rfl, by decide, by decide, ?_⟩
  refine for_any (xs := upto 4) (Wk.rng (I := fun _ => True)) (fun i σ H' => ∃ v10 v15 v16 v17 v18 v19, σ = [some (.ref sc), some (.ref st), some (.ref l), some (.ref hd), some (.int (k0 + gs.length : Nat)), some (.ref b), some (.int (t : Nat)), some (.ref pd), some (.ref pst), some (.ref psz), v10, v11, v12, some (.ref an), some (.ref psp), v15, v16, v17, v18, v19] ∧ LI K H' st dr l hd pd pst psz rs as t k0 s0 gs) (fun _ _ _ _ => trivial) ⟨v10, none, none, none, none, none, by rw [upto_len]; rfl, IE⟩ ?_ ?_
  · rintro i x σ HF hx ⟨v10, v15, v16, v17, v18, v19, rfl, IF⟩
    obtain ⟨i', hi', e⟩ := getElem_map_some hx
    obtain rfl : x = .int (i' : Int) := e
    walk_at "rx"
    refine ⟨pd, _, rfl, .inl (SqL.of IF.ed), ?_⟩
    walk_at "rx"
    rw [List.length_map]
    refine ⟨st, dr, _, rfl, by omega, IF.S, fun e0 HG he0 lG SG => ?_⟩
    have IG := IF.lx lG SG
    walk_at "rx"
    refine iteI (fun c3 => ?_) (fun c3 => ?_)
    · walk_at "rx"
      have hz0 : ((szs t s0 gs).map bV)[0]? = some (.int (szOf t s0 gs 0 : Nat)) := by
        rw [szs, List.getElem?_map, List.getElem?_map, List.getElem?_range (by omega)]
        rfl
      refine r_ixL IG.esz (atI_nat (j := 0) hz0) ?_
      walk_at "rx"
      have hz1 : 0 < szOf t s0 gs 0 := Nat.lt_of_lt_of_le (wRec_pos (1 :: wNum t)) (rec_le (by simp [logRecs]))
      have hz2 : szOf t s0 gs 0 ≤ (recs (logRecs t s0 gs)).length := by
        have := recs_len_le (logRecs t s0 gs) 3
        rw [show (3 : Nat) = 3 + 0 from rfl, logRecs_take] at this
        exact this
      refine ⟨0, _, rfl, ?_⟩
      have emx : (if ((szOf t s0 gs 0 : Nat) : Int) - 1 > 0 then ((szOf t s0 gs 0 : Nat) : Int) - 1 else 0) = ((szOf t s0 gs 0 - 1 : Nat) : Int) := by
        split <;> omega
      rw [emx]
      have hle : szOf t s0 gs 0 - 1 ≤ (recs (logRecs t s0 gs)).length := by omega
      -- the cut at (szOf t s0 gs 0 - 1)
      obtain ⟨m, tl, h1, h2, h3, h4, h5⟩ := cut_recs (logRecs t s0 gs) (szOf t s0 gs 0 - 1) (recs_okN (by omega))
      have h4 := h4 hle
      have hlr := logRecs_len t s0 gs
      walk_at "rx"
      refine r_slB IG.ed (cutB_to _ (szOf t s0 gs 0 - 1)) fun pp npp => ?_
      have sJ := same_new (o := bL ((recs (logRecs t s0 gs)).take (szOf t s0 gs 0 - 1))) npp
      have epp : upd HG pp (bL ((recs (logRecs t s0 gs)).take (szOf t s0 gs 0 - 1))) pp = some (bL ((recs (logRecs t s0 gs)).take (szOf t s0 gs 0 - 1))) := upd_same
      have IJ := IG.same sJ
      generalize upd HG pp (bL ((recs (logRecs t s0 gs)).take (szOf t s0 gs 0 - 1))) = HJ at epp IJ
      walk_at "rx"
      refine r_lc ?_
      walk_at "rx"
      refine ⟨psz, rfl, ⟨_, SqL.of IJ.esz⟩, fun D0 hD => ?_⟩
      refine lc_any (xs := (szs t s0 gs).map bV) (Wk.lst (I := fun H' => Same HJ H') fun H' s => s _ _ IJ.esz) (fun i H' => Same HJ H' ∧ ∃ acc, H' D0 = some (.lst acc) ∧ acc.length = cntUp m i) (fun _ _ h => h.1) ⟨same_new hD, [], upd_same, by unfold cntUp; simp⟩ ?_ ?_
      · rintro i x HK hx ⟨sK, acc, eD, hacc⟩
        obtain ⟨z, hz, ex5⟩ := getElem_map_some hx
        obtain rfl : x = .int (z : Int) := ex5
        have hin : i ≤ gs.length := by
          have := (List.getElem?_eq_some_iff.mp hz).1
          rw [szs, List.length_map, List.length_range] at this
          omega
        have ez : z = szOf t s0 gs i := by
          rw [szs, List.getElem?_map, List.getElem?_range (by omega)] at hz
          exact (Option.some.inj hz).symm
        have hiff := sz_le h4 h5 hin
        rw [← ez] at hiff
        have hstep := @cntUp_step m i
        refine ⟨wipe1, ?_⟩
        walk_at "rx"
        refine iteD (fun c => ?_) (fun c => ?_)
        · walk_at "rx"
          have c' : 3 + i ≤ m := hiff.mp (by omega)
          rw [if_pos c'] at hstep
          refine ⟨acc, eD, cap_lt (by rw [hacc]; unfold cntUp; omega), same_mut sK hD, _, upd_same, by rw [List.length_append, hstep, hacc]; rfl⟩
        · have c' : ¬ 3 + i ≤ m := fun h => c (by have := hiff.mpr h; omega)
          rw [if_neg c'] at hstep
          exact ⟨sK, acc, eD, by omega⟩
      rintro HK ⟨sK, acc, eD, hacc⟩
      have ecnt : acc.length = m - 2 := by
        rw [hacc, List.length_map, szs, List.length_map, List.length_range]
        unfold cntUp
        omega
      have IK := IJ.same sK
      have eppK := sK _ _ epp
      walk_at "rx"
      refine ⟨D0, acc, rfl, .inl (SqL.of eD), ?_⟩
      rw [ecnt]
      walk_at "rx"
      by_cases hm : m < 3
      · -- not even the head
        have em : m - 2 = 0 := by omega
        rw [em]
        refine ite_f rfl ?_
        walk_at "rx"
        refine ⟨pp, (logRecs t s0 gs).take m, tl, rfl, by rw [← h1]; exact eppK, h2, by rw [← h1, List.length_take]; omega, .inl ⟨by rw [List.length_take]; omega, fun HL sL => ?_⟩⟩
        have IL := IK.same sL
        walk_at "rx"
        refine ⟨le_line rfl, fun p0 np0 => ?_⟩
        walk_at "rx"
        have sM := same_new (o := .lst [V.int 0]) np0
        refine r_cat (xs := [0]) upd_same (sM _ _ IL.esz) (by rw [szs, List.length_map, List.length_range]; show 1 + _ ≤ _; omega) fun p1 np1 => ?_
        have sN := same_new (o := bL ([0] ++ szs t s0 gs)) np1
        walk_at "rx"
        refine r_ixL (v := .int 0) upd_same (atI_nat (j := 0) rfl) ?_
        refine r_nil ?_
        refine ⟨_, _, _, _, rfl, .inl ⟨rfl, rfl⟩, fun HO2 sO => ?_⟩
        have sLO := ((sL.trans sM).trans sN).trans sO
        have IO := IK.same sLO
        refine ⟨true, rfl, ?_⟩
        refine ite_f rfl ?_
        walk_at "rx"
        refine r_slB IO.ed (cutB_to _ (szOf t s0 gs 0 - 1)) fun p2 np2 => ?_
        have sP := same_new (o := bL ((recs (logRecs t s0 gs)).take (szOf t s0 gs 0 - 1))) np2
        refine r_neB (sP _ _ (sLO _ _ eppK)) upd_same ?_
        refine r_bl ?_
        refine ite_f (by simp) ?_
        walk_at "rx"
        exact ⟨_, _, _, _, _, _, rfl, IO.same sP⟩
      · have hmn : m - 3 ≤ gs.length := by omega
        obtain ⟨aj, haj⟩ : ∃ aj, as[m - 3]? = some aj := ⟨as[m - 3]'(by rw [IK.las]; omega), List.getElem?_eq_getElem _⟩
        have em : (((m - 2 : Nat) : Int) - 1) = ((m - 3 : Nat) : Int) := by omega
        refine ite_t (decide_eq_true (by omega)) ?_
        walk_at "rx"
        rw [em]
        refine r_ixL IK.est (atI_nat (j := m - 3) (v := .ref aj) (by rw [List.getElem?_map, haj]; rfl)) ?_
        walk_at "rx"
        have etk : (logRecs t s0 gs).take m = logRecs t s0 (gs.take (m - 3)) ++ [] := by
          rw [List.append_nil, ← logRecs_take, show 3 + (m - 3) = m by omega]
        have ltk : (gs.take (m - 3)).length ≤ 5 := by rw [List.length_take]; omega
        have GBj := hgs.gb G (m - 3) hmn
        refine ⟨pp, (logRecs t s0 gs).take m, tl, rfl, by rw [← h1]; exact eppK, h2, by rw [← h1, List.length_take]; omega, .inr ⟨t, s0, gs.take (m - 3), [], etk, (hgs.take (m - 3)).log ht G hk0 ltk (fun rc r h => by cases h), fun pr bb HL sL epr BL => ?_⟩⟩
        rw [sAt_take hmn] at BL
        have IL := IK.same sL
        walk_at "rx"
        refine ⟨le_line rfl, fun p0 np0 => ?_⟩
        walk_at "rx"
        have sM := same_new (o := .lst [V.int 0]) np0
        refine r_cat (xs := [0]) upd_same (sM _ _ IL.esz) (by rw [szs, List.length_map, List.length_range]; show 1 + _ ≤ _; omega) fun p1 np1 => ?_
        have sN := same_new (o := bL ([0] ++ szs t s0 gs)) np1
        walk_at "rx"
        have esz : (([0] ++ szs t s0 gs).map bV)[m - 2]? = some (.int (szOf t s0 gs (m - 3) : Nat)) := by
          rw [List.getElem?_map, List.getElem?_append_right (by show 1 ≤ _; omega), show m - 2 - [0].length = m - 3 from by show m - 2 - 1 = _; omega, szs, List.getElem?_map, List.getElem?_range (by omega)]
          rfl
        refine r_ixL upd_same (atI_nat (j := m - 2) esz) ?_
        refine r_nil ?_
        have sLN := sM.trans sN
        refine ⟨_, _, _, _, rfl, .inr ⟨pr, bb, t, szOf t s0 gs (m - 3), _, aj, rfl, rfl, rfl, rfl, sLN _ _ epr, BL.same sLN, ((IL.has _ _ haj).ts (Tst.same sLN)), by rw [GBj.r8]; decide, (GBj.ok (by omega)).cells⟩, fun HO2 sO => ?_⟩
        have sLO := (sL.trans sLN).trans sO
        have IO := IK.same sLO
        refine ⟨true, rfl, ?_⟩
        refine ite_f rfl ?_
        walk_at "rx"
        refine r_slB IO.ed (cutB_to _ (szOf t s0 gs 0 - 1)) fun p2 np2 => ?_
        have sP := same_new (o := bL ((recs (logRecs t s0 gs)).take (szOf t s0 gs 0 - 1))) np2
        refine r_neB (sP _ _ (sLO _ _ eppK)) upd_same ?_
        refine r_bl ?_
        refine ite_f (by simp) ?_
        walk_at "rx"
        exact ⟨_, _, _, _, _, _, rfl, IO.same sP⟩
    · have hle : e0 ≤ (recs (logRecs t s0 gs)).length := by omega
      -- the cut at e0
      obtain ⟨m, tl, h1, h2, h3, h4, h5⟩ := cut_recs (logRecs t s0 gs) e0 (recs_okN (by omega))
      have h4 := h4 hle
      have hlr := logRecs_len t s0 gs
      walk_at "rx"
      refine r_slB IG.ed (cutB_to _ e0) fun pp npp => ?_
      have sJ := same_new (o := bL ((recs (logRecs t s0 gs)).take e0)) npp
      have epp : upd HG pp (bL ((recs (logRecs t s0 gs)).take e0)) pp = some (bL ((recs (logRecs t s0 gs)).take e0)) := upd_same
      have IJ := IG.same sJ
      generalize upd HG pp (bL ((recs (logRecs t s0 gs)).take e0)) = HJ at epp IJ
      walk_at "rx"
      refine r_lc ?_
      walk_at "rx"
      refine ⟨psz, rfl, ⟨_, SqL.of IJ.esz⟩, fun D0 hD => ?_⟩
      refine lc_any (xs := (szs t s0 gs).map bV) (Wk.lst (I := fun H' => Same HJ H') fun H' s => s _ _ IJ.esz) (fun i H' => Same HJ H' ∧ ∃ acc, H' D0 = some (.lst acc) ∧ acc.length = cntUp m i) (fun _ _ h => h.1) ⟨same_new hD, [], upd_same, by unfold cntUp; simp⟩ ?_ ?_
      · rintro i x HK hx ⟨sK, acc, eD, hacc⟩
        obtain ⟨z, hz, ex5⟩ := getElem_map_some hx
        obtain rfl : x = .int (z : Int) := ex5
        have hin : i ≤ gs.length := by
          have := (List.getElem?_eq_some_iff.mp hz).1
          rw [szs, List.length_map, List.length_range] at this
          omega
        have ez : z = szOf t s0 gs i := by
          rw [szs, List.getElem?_map, List.getElem?_range (by omega)] at hz
          exact (Option.some.inj hz).symm
        have hiff := sz_le h4 h5 hin
        rw [← ez] at hiff
        have hstep := @cntUp_step m i
        refine ⟨wipe1, ?_⟩
        walk_at "rx"
        refine iteD (fun c => ?_) (fun c => ?_)
        · walk_at "rx"
          have c' : 3 + i ≤ m := hiff.mp (by omega)
          rw [if_pos c'] at hstep
          refine ⟨acc, eD, cap_lt (by rw [hacc]; unfold cntUp; omega), same_mut sK hD, _, upd_same, by rw [List.length_append, hstep, hacc]; rfl⟩
        · have c' : ¬ 3 + i ≤ m := fun h => c (by have := hiff.mpr h; omega)
          rw [if_neg c'] at hstep
          exact ⟨sK, acc, eD, by omega⟩
      rintro HK ⟨sK, acc, eD, hacc⟩
      have ecnt : acc.length = m - 2 := by
        rw [hacc, List.length_map, szs, List.length_map, List.length_range]
        unfold cntUp
        omega
      have IK := IJ.same sK
      have eppK := sK _ _ epp
      walk_at "rx"
      refine ⟨D0, acc, rfl, .inl (SqL.of eD), ?_⟩
      rw [ecnt]
      walk_at "rx"
      by_cases hm : m < 3
      · -- not even the head
        have em : m - 2 = 0 := by omega
        rw [em]
        refine ite_f rfl ?_
        walk_at "rx"
        refine ⟨pp, (logRecs t s0 gs).take m, tl, rfl, by rw [← h1]; exact eppK, h2, by rw [← h1, List.length_take]; omega, .inl ⟨by rw [List.length_take]; omega, fun HL sL => ?_⟩⟩
        have IL := IK.same sL
        walk_at "rx"
        refine ⟨le_line rfl, fun p0 np0 => ?_⟩
        walk_at "rx"
        have sM := same_new (o := .lst [V.int 0]) np0
        refine r_cat (xs := [0]) upd_same (sM _ _ IL.esz) (by rw [szs, List.length_map, List.length_range]; show 1 + _ ≤ _; omega) fun p1 np1 => ?_
        have sN := same_new (o := bL ([0] ++ szs t s0 gs)) np1
        walk_at "rx"
        refine r_ixL (v := .int 0) upd_same (atI_nat (j := 0) rfl) ?_
        refine r_nil ?_
        refine ⟨_, _, _, _, rfl, .inl ⟨rfl, rfl⟩, fun HO2 sO => ?_⟩
        have sLO := ((sL.trans sM).trans sN).trans sO
        have IO := IK.same sLO
        refine ⟨true, rfl, ?_⟩
        refine ite_f rfl ?_
        walk_at "rx"
        refine r_slB IO.ed (cutB_to _ e0) fun p2 np2 => ?_
        have sP := same_new (o := bL ((recs (logRecs t s0 gs)).take e0)) np2
        refine r_neB (sP _ _ (sLO _ _ eppK)) upd_same ?_
        refine r_bl ?_
        refine ite_f (by simp) ?_
        walk_at "rx"
        exact ⟨_, _, _, _, _, _, rfl, IO.same sP⟩
      · have hmn : m - 3 ≤ gs.length := by omega
        obtain ⟨aj, haj⟩ : ∃ aj, as[m - 3]? = some aj := ⟨as[m - 3]'(by rw [IK.las]; omega), List.getElem?_eq_getElem _⟩
        have em : (((m - 2 : Nat) : Int) - 1) = ((m - 3 : Nat) : Int) := by omega
        refine ite_t (decide_eq_true (by omega)) ?_
        walk_at "rx"
        rw [em]
        refine r_ixL IK.est (atI_nat (j := m - 3) (v := .ref aj) (by rw [List.getElem?_map, haj]; rfl)) ?_
        walk_at "rx"
        have etk : (logRecs t s0 gs).take m = logRecs t s0 (gs.take (m - 3)) ++ [] := by
          rw [List.append_nil, ← logRecs_take, show 3 + (m - 3) = m by omega]
        have ltk : (gs.take (m - 3)).length ≤ 5 := by rw [List.length_take]; omega
        have GBj := hgs.gb G (m - 3) hmn
        refine ⟨pp, (logRecs t s0 gs).take m, tl, rfl, by rw [← h1]; exact eppK, h2, by rw [← h1, List.length_take]; omega, .inr ⟨t, s0, gs.take (m - 3), [], etk, (hgs.take (m - 3)).log ht G hk0 ltk (fun rc r h => by cases h), fun pr bb HL sL epr BL => ?_⟩⟩
        rw [sAt_take hmn] at BL
        have IL := IK.same sL
        walk_at "rx"
        refine ⟨le_line rfl, fun p0 np0 => ?_⟩
        walk_at "rx"
        have sM := same_new (o := .lst [V.int 0]) np0
        refine r_cat (xs := [0]) upd_same (sM _ _ IL.esz) (by rw [szs, List.length_map, List.length_range]; show 1 + _ ≤ _; omega) fun p1 np1 => ?_
        have sN := same_new (o := bL ([0] ++ szs t s0 gs)) np1
        walk_at "rx"
        have esz : (([0] ++ szs t s0 gs).map bV)[m - 2]? = some (.int (szOf t s0 gs (m - 3) : Nat)) := by
          rw [List.getElem?_map, List.getElem?_append_right (by show 1 ≤ _; omega), show m - 2 - [0].length = m - 3 from by show m - 2 - 1 = _; omega, szs, List.getElem?_map, List.getElem?_range (by omega)]
          rfl
        refine r_ixL upd_same (atI_nat (j := m - 2) esz) ?_
        refine r_nil ?_
        have sLN := sM.trans sN
        refine ⟨_, _, _, _, rfl, .inr ⟨pr, bb, t, szOf t s0 gs (m - 3), _, aj, rfl, rfl, rfl, rfl, sLN _ _ epr, BL.same sLN, ((IL.has _ _ haj).ts (Tst.same sLN)), by rw [GBj.r8]; decide, (GBj.ok (by omega)).cells⟩, fun HO2 sO => ?_⟩
        have sLO := (sL.trans sLN).trans sO
        have IO := IK.same sLO
        refine ⟨true, rfl, ?_⟩
        refine ite_f rfl ?_
        walk_at "rx"
        refine r_slB IO.ed (cutB_to _ e0) fun p2 np2 => ?_
        have sP := same_new (o := bL ((recs (logRecs t s0 gs)).take e0)) np2
        refine r_neB (sP _ _ (sLO _ _ eppK)) upd_same ?_
        refine r_bl ?_
        refine ite_f (by simp) ?_
        walk_at "rx"
        exact ⟨_, _, _, _, _, _, rfl, IO.same sP⟩
  · rintro σ HF ⟨v10, v15, v16, v17, v18, v19, rfl, IF⟩
    walk_at "rx"
    exact q HF
end
end Q

/-! ## FIN2 -/
set_option Elab.async false
set_option linter.all false
set_option maxRecDepth 100000
set_option maxHeartbeats 0
namespace Q
open PySem PySem.Spec PyProof.Rows L2
theorem law_F : LawF := by
  intro w mg fa h Y G hmg
  obtain ⟨K, hK, hS⟩ := Y
  have T : Txt K mg := ⟨hS, h, hK, G⟩
  have e := hmg.symm.trans (gm_law T)
  obtain rfl : fa = He.ga K "law" := by
    injection e with e
    injection e with e
  refine ⟨K, fdA K ("law", none), spLaw K, hK, fun s u => ?_, fun H a ns _ _ hs => ⟨a, ns, rfl, hs, fun _ => rfl⟩, fun base hb hg => ?_⟩
  · exact (fd_law T.says).bindsA (ps := ["_law_script"]) (fun _ _ _ _ _ _ us hl => match us, hl with | [_], _ => rfl) s [u] rfl
  · have c : Fc Q.R.prog w K mg base L2.CX0 124 "law" ["_law_script"] (spLaw K) := ok_law T
    exact c.ok
end Q
open PySem PySem.W PySem.Calls PyProof.Rows
theorem PySem.Challenge.cw_quillrun_k45_whole_logs_at_any_cut_holds : PySem.Challenge.rw_quillrun_k45_whole_logs_at_any_cut.Holds :=
  Q.whole Q.law_F

