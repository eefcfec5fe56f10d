/- The table. -/
import Derived.Test.YtahpoedbdhhdfaaGreatDoorF0
import Derived.Test.YtahpoedbdhhdfaaGreatDoorF1
import Derived.Test.YtahpoedbdhhdfaaGreatDoorF2
import Derived.Test.YtahpoedbdhhdfaaGreatDoorF3
import Derived.Test.YtahpoedbdhhdfaaGreatDoorF4
import Derived.Test.YtahpoedbdhhdfaaGreatDoorF5
import Derived.Test.YtahpoedbdhhdfaaGreatDoorF6
import Derived.Test.YtahpoedbdhhdfaaGreatDoorF7
import Derived.Test.YtahpoedbdhhdfaaGreatDoorF8
import Derived.Test.YtahpoedbdhhdfaaGreatDoorF9
import Derived.Test.YtahpoedbdhhdfaaGreatDoorL
import Derived.Test.YtahpoedbdhhdfaaGreatDoorD
namespace Go.Proofs.YtahpoedbdhhdfaaGreatDoor
open Go.Ev
noncomputable def tab : TT := (.node 168
(.node 85
(.node 43
(.node 22
(.node 12
(.node 7
(.node 4
(.node 3
(.leaf n_correctorlaw21_FixKinds (a1 f_correctorlaw21_FixKinds)) (.leaf n_correctorlaw21_FixRefuses (a3 f_correctorlaw21_FixRefuses))) (.node 5
(.leaf n_correctorlaw21_known (a0 f_correctorlaw21_known)) (.node 6
(.leaf n_correctorlaw21_within (a2 f_correctorlaw21_within)) (.leaf n_fix_Fix (a3 f_fix_Fix))))) (.node 9
(.node 8
(.leaf n_correctorref18_Plain (a0 f_correctorref18_Plain)) (.leaf n_correctorref18_Check (a1 f_correctorref18_Check))) (.node 10
(.leaf n_fix_fixer_look (a2 f_fix_fixer_look)) (.node 11
(.leaf n_fix_fixer_round roundF) (.leaf n_slices_Clone_byte_byte (a1 f_slices_Clone_byte_byte)))))) (.node 17
(.node 14
(.node 13
(.leaf n_slices_Clone_fix_Round_fix_Round (a1 f_slices_Clone_fix_Round_fix_Round)) (.leaf n_lint_Find (a2 f_lint_Find))) (.node 15
(.leaf n_parse_Tree (a2 f_parse_Tree)) (.node 16
(.leaf n_graph_Compose (a3 f_graph_Compose)) (.leaf n_diag_Sort (a1 f_diag_Sort))))) (.node 19
(.node 18
(.leaf n_slices_Concat_api_Diag_api_Diag (a1 f_slices_Concat_api_Diag_api_Diag)) (.leaf n_edit_Choose (a2 f_edit_Choose))) (.node 20
(.leaf n_suggest_Edits (a4 f_suggest_Edits)) (.node 21
(.leaf n_edit_Apply (a2 f_edit_Apply)) (.leaf n_fix_fixer_better (a2 f_fix_fixer_better))))))) (.node 32
(.node 27
(.node 24
(.node 23
(.leaf n_fix_fixer_round_1 (a2 f_fix_fixer_round_1)) (.leaf n_slices_Clone_api_Edit_api_Edit (a1 f_slices_Clone_api_Edit_api_Edit))) (.node 25
(.leaf n_config_Check (a1 f_config_Check)) (.node 26
(.leaf n_rows_Rows (a2 f_rows_Rows)) (.leaf n_lint_finder_trail (a1 f_lint_finder_trail))))) (.node 29
(.node 28
(.leaf n_lint_finder_long (a1 f_lint_finder_long)) (.leaf n_lint_finder_step (a1 f_lint_finder_step))) (.node 30
(.leaf n_lint_finder_empty (a1 f_lint_finder_empty)) (.node 31
(.leaf n_lint_finder_mark (a1 f_lint_finder_mark)) (.leaf n_lint_finder_hash (a1 f_lint_finder_hash)))))) (.node 37
(.node 34
(.node 33
(.leaf n_lint_finder_comma (a1 f_lint_finder_comma)) (.leaf n_lint_finder_twice (a1 f_lint_finder_twice))) (.node 35
(.leaf n_lint_finder_end (a1 f_lint_finder_end)) (.node 36
(.leaf n_lint_on (a2 f_lint_on)) (.leaf n_scan_Tokens (a1 f_scan_Tokens))))) (.node 40
(.node 38
(.leaf n_arena_New (a1 f_arena_New)) (.node 39
(.leaf n_parse_parser_row (a2 f_parse_parser_row)) (.leaf n_parse_parser_told (a1 f_parse_parser_told)))) (.node 41
(.leaf n_graph_fits (a3 f_graph_fits)) (.node 42
(.leaf n_graph_composer_node (a2 f_graph_composer_node)) (.leaf n_slices_SortFunc_api_Diag_api_Diag (a2 f_slices_SortFunc_api_Diag_api_Diag)))))))) (.node 64
(.node 53
(.node 48
(.node 45
(.node 44
(.leaf n_graph_order (a2 f_graph_order)) (.leaf n_slices_Clone_api_Value_api_Value (a1 f_slices_Clone_api_Value_api_Value))) (.node 46
(.leaf n_slices_Clone_int_int (a1 f_slices_Clone_int_int)) (.node 47
(.leaf n_slices_Clone_api_Diag_api_Diag (a1 f_slices_Clone_api_Diag_api_Diag)) (.leaf n_slices_Compact_api_Diag_api_Diag (a1 f_slices_Compact_api_Diag_api_Diag))))) (.node 50
(.node 49
(.leaf n_diag_Sort_1 (a2 f_diag_Sort_1)) (.leaf n_diag_order (a2 f_diag_order))) (.node 51
(.leaf n_slices_Grow_api_Diag_api_Diag (a2 f_slices_Grow_api_Diag_api_Diag)) (.node 52
(.leaf n_edit_one (a2 f_edit_one)) (.leaf n_slices_ContainsFunc_api_Edit_api_Edit (a2 f_slices_ContainsFunc_api_Edit_api_Edit)))))) (.node 58
(.node 55
(.node 54
(.leaf n_edit_Choose_1 (a2 f_edit_Choose_1)) (.leaf n_edit_upon (a2 f_edit_upon))) (.node 56
(.leaf n_slices_SortStableFunc_api_Edit_api_Edit (a2 f_slices_SortStableFunc_api_Edit_api_Edit)) (.node 57
(.leaf n_edit_Choose_2 (a2 f_edit_Choose_2)) (.leaf n_edit_order (a2 f_edit_order))))) (.node 61
(.node 59
(.leaf n_suggest_mender_wrong (a2 f_suggest_mender_wrong)) (.node 60
(.leaf n_suggest_mender_found (a2 f_suggest_mender_found)) (.leaf n_edit_Check (a2 f_edit_Check)))) (.node 62
(.leaf n_equal_Same (a2 f_equal_Same)) (.node 63
(.leaf n_config_within (a3 f_config_within)) (.leaf n_rows_Rows_1 (a6 f_rows_Rows_1))))))) (.node 74
(.node 69
(.node 66
(.node 65
(.leaf n_rows_kind (a3 f_rows_kind)) (.leaf n_rows_brackets (a2 f_rows_brackets))) (.node 67
(.leaf n_slices_Clone_api_Row_api_Row (a1 f_slices_Clone_api_Row_api_Row)) (.node 68
(.leaf n_lint_finder_kind (a2 f_lint_finder_kind)) (.leaf n_lint_finder_find (a4 f_lint_finder_find))))) (.node 71
(.node 70
(.leaf n_lint_finder_bytes (a2 f_lint_finder_bytes)) (.leaf n_runes_Next (a1 f_runes_Next))) (.node 72
(.leaf n_lint_counts (a1 f_lint_counts)) (.node 73
(.leaf n_slices_ContainsFunc_api_Token_api_Token (a2 f_slices_ContainsFunc_api_Token_api_Token)) (.leaf n_lint_finder_empty_1 (a1 f_lint_finder_empty_1)))))) (.node 79
(.node 76
(.node 75
(.leaf n_slices_IndexFunc_api_Token_api_Token (a2 f_slices_IndexFunc_api_Token_api_Token)) (.leaf n_lint_finder_mark_1 (a1 f_lint_finder_mark_1))) (.node 77
(.leaf n_chars_Blank (a1 f_chars_Blank)) (.node 78
(.leaf n_slices_DeleteFunc_int_int (a2 f_slices_DeleteFunc_int_int)) (.leaf n_lint_finder_twice_1 (a2 f_lint_finder_twice_1))))) (.node 82
(.node 80
(.leaf n_equal_Twice (a2 f_equal_Twice)) (.node 81
(.leaf n_lint_finder_where (a2 f_lint_finder_where)) (.leaf n_lint_Off (a2 f_lint_Off)))) (.node 83
(.leaf n_lint_on_1 (a3 f_lint_on_1)) (.node 84
(.leaf n_lines_Place (a2 f_lines_Place)) (.leaf n_slices_Contains_int_int (a2 f_slices_Contains_int_int))))))))) (.node 126
(.node 105
(.node 95
(.node 90
(.node 87
(.node 86
(.leaf n_scan_scanner_begin (a1 f_scan_scanner_begin)) (.leaf n_scan_scanner_begun (a1 f_scan_scanner_begun))) (.node 88
(.leaf n_scan_scanner_loose (a1 f_scan_scanner_loose)) (.node 89
(.leaf n_scan_scanner_sign (a1 f_scan_scanner_sign)) (.leaf n_scan_scanner_text (a1 f_scan_scanner_text))))) (.node 92
(.node 91
(.leaf n_slices_Clone_api_Token_api_Token (a1 f_slices_Clone_api_Token_api_Token)) (.leaf n_parse_parser_first (a3 f_parse_parser_first))) (.node 93
(.leaf n_parse_parser_amiss (a4 f_parse_parser_amiss)) (.node 94
(.leaf n_parse_parser_mark (a3 f_parse_parser_mark)) (.leaf n_parse_parser_document (a2 f_parse_parser_document)))))) (.node 100
(.node 97
(.node 96
(.leaf n_rows_Entries (a3 f_rows_Entries)) (.leaf n_parse_parser_loose (a3 f_parse_parser_loose))) (.node 98
(.leaf n_parse_parser_entries (a4 f_parse_parser_entries)) (.node 99
(.leaf n_runes_Bad (a1 f_runes_Bad)) (.leaf n_parse_parser_tell (a4 f_parse_parser_tell))))) (.node 102
(.node 101
(.leaf n_parse_parser_tabs (a2 f_parse_parser_tabs)) (.leaf n_parse_parser_quoted (a2 f_parse_parser_quoted))) (.node 103
(.leaf n_parse_parser_told_1 (a2 f_parse_parser_told_1)) (.node 104
(.leaf n_cmp_Or_int (a1 f_cmp_Or_int)) (.leaf n_cmp_Compare_int (a2 f_cmp_Compare_int))))))) (.node 115
(.node 110
(.node 107
(.node 106
(.leaf n_arena_Check (a2 f_arena_Check)) (.leaf n_graph_composer_first (a2 f_graph_composer_first))) (.node 108
(.leaf n_graph_composer_named (a3 f_graph_composer_named)) (.node 109
(.leaf n_graph_composer_own (a2 f_graph_composer_own)) (.leaf n_graph_composer_scalar (a2 f_graph_composer_scalar))))) (.node 112
(.node 111
(.leaf n_graph_composer_alias (a2 f_graph_composer_alias)) (.leaf n_graph_composer_collection (a4 f_graph_composer_collection))) (.node 113
(.leaf n_slices_pdqsortCmpFunc_api_Diag (a5 f_slices_pdqsortCmpFunc_api_Diag)) (.node 114
(.leaf n_math_bits_Len (a1 f_math_bits_Len)) (.leaf n_slices_IndexFunc_api_Edit_api_Edit (a2 f_slices_IndexFunc_api_Edit_api_Edit)))))) (.node 120
(.node 117
(.node 116
(.leaf n_span_Meet (a2 f_span_Meet)) (.leaf n_slices_stableCmpFunc_api_Edit (a3 f_slices_stableCmpFunc_api_Edit))) (.node 118
(.leaf n_strings_Repeat (a2 f_strings_Repeat)) (.node 119
(.leaf n_suggest_put (a2 f_suggest_put)) (.leaf n_suggest_mender_sign (a2 f_suggest_mender_sign))))) (.node 123
(.node 121
(.leaf n_suggest_mender_open (a2 f_suggest_mender_open)) (.node 122
(.leaf n_slices_Equal_int_int (a2 f_slices_Equal_int_int)) (.leaf n_equal_docs (a2 f_equal_docs)))) (.node 124
(.leaf n_equal_classes_of (a2 f_equal_classes_of)) (.node 125
(.leaf n_rows_counts (a1 f_rows_counts)) (.leaf n_rows_begin (a2 f_rows_begin)))))))) (.node 147
(.node 136
(.node 131
(.node 128
(.node 127
(.leaf n_slices_IndexFunc_int_int (a2 f_slices_IndexFunc_int_int)) (.leaf n_walk_Span (a2 f_walk_Span))) (.node 129
(.leaf n_lint_finder_where_1 (a1 f_lint_finder_where_1)) (.node 130
(.leaf n_slices_Sort_int_int (a1 f_slices_Sort_int_int)) (.leaf n_slices_Compact_int_int (a1 f_slices_Compact_int_int))))) (.node 133
(.node 132
(.leaf n_lines_Starts (a1 f_lines_Starts)) (.leaf n_slices_Index_int_int (a2 f_slices_Index_int_int))) (.node 134
(.leaf n_scan_scanner_mark (a2 f_scan_scanner_mark)) (.node 135
(.leaf n_scan_scanner_token (a3 f_scan_scanner_token)) (.leaf n_scan_scanner_spaces (a2 f_scan_scanner_spaces)))))) (.node 141
(.node 138
(.node 137
(.leaf n_scan_scanner_brk (a2 f_scan_scanner_brk)) (.leaf n_scan_scanner_blanks (a2 f_scan_scanner_blanks))) (.node 139
(.leaf n_scan_scanner_last (a1 f_scan_scanner_last)) (.node 140
(.leaf n_scan_scanner_there (a3 f_scan_scanner_there)) (.leaf n_scan_scanner_line (a2 f_scan_scanner_line))))) (.node 144
(.node 142
(.leaf n_scan_scanner_brackets (a1 f_scan_scanner_brackets)) (.node 143
(.leaf n_scan_scanner_space (a2 f_scan_scanner_space)) (.leaf n_scan_scanner_colon (a2 f_scan_scanner_colon)))) (.node 145
(.leaf n_scan_scanner_property (a1 f_scan_scanner_property)) (.node 146
(.leaf n_scan_scanner_single (a1 f_scan_scanner_single)) (.leaf n_scan_scanner_double (a1 f_scan_scanner_double))))))) (.node 157
(.node 152
(.node 149
(.node 148
(.leaf n_scan_scanner_head (a1 f_scan_scanner_head)) (.leaf n_scan_scanner_texts (a2 f_scan_scanner_texts))) (.node 150
(.leaf n_scan_scanner_plain (a1 f_scan_scanner_plain)) (.node 151
(.leaf n_parse_counts (a1 f_parse_counts)) (.leaf n_parse_parser_wrong (a5 f_parse_parser_wrong))))) (.node 154
(.node 153
(.leaf n_parse_parser_add (a5 f_parse_parser_add)) (.leaf n_parse_parser_value (a4 f_parse_parser_value))) (.node 155
(.leaf n_arena_Grow (a3 f_arena_Grow)) (.node 156
(.leaf n_rows_Entries_1 (a3 f_rows_Entries_1)) (.leaf n_rows_property (a1 f_rows_property)))))) (.node 162
(.node 159
(.node 158
(.leaf n_rows_name (a1 f_rows_name)) (.leaf n_slices_Clone_rows_Entry_rows_Entry (a1 f_slices_Clone_rows_Entry_rows_Entry))) (.node 160
(.leaf n_parse_parser_place (a2 f_parse_parser_place)) (.node 161
(.leaf n_slices_Contains_byte_byte (a2 f_slices_Contains_byte_byte)) (.leaf n_quote_Text (a2 f_quote_Text))))) (.node 165
(.node 163
(.leaf n_cmp_isNaN_int (a1 f_cmp_isNaN_int)) (.node 164
(.leaf n_arena_own (a1 f_arena_own)) (.leaf n_arena_forest_lies (a2 f_arena_forest_lies)))) (.node 166
(.leaf n_graph_composer_null (a1 f_graph_composer_null)) (.node 167
(.leaf n_graph_composer_last (a3 lastF)) (.leaf n_graph_composer_own_1 (a1 f_graph_composer_own_1)))))))))) (.node 251
(.node 209
(.node 188
(.node 178
(.node 173
(.node 170
(.node 169
(.leaf n_graph_composer_said (a2 f_graph_composer_said)) (.leaf n_graph_composer_value (a2 f_graph_composer_value))) (.node 171
(.leaf n_resolve_Tagged (a3 f_resolve_Tagged)) (.node 172
(.leaf n_graph_composer_alias_1 (a1 f_graph_composer_alias_1)) (.leaf n_graph_composer_text (a2 f_graph_composer_text))))) (.node 175
(.node 174
(.leaf n_graph_composer_all (a2 f_graph_composer_all)) (.leaf n_slices_insertionSortCmpFunc_api_Diag (a4 f_slices_insertionSortCmpFunc_api_Diag))) (.node 176
(.leaf n_slices_heapSortCmpFunc_api_Diag (a4 f_slices_heapSortCmpFunc_api_Diag)) (.node 177
(.leaf n_slices_breakPatternsCmpFunc_api_Diag (a4 f_slices_breakPatternsCmpFunc_api_Diag)) (.leaf n_slices_choosePivotCmpFunc_api_Diag (a4 f_slices_choosePivotCmpFunc_api_Diag)))))) (.node 183
(.node 180
(.node 179
(.leaf n_slices_reverseRangeCmpFunc_api_Diag (a4 f_slices_reverseRangeCmpFunc_api_Diag)) (.leaf n_slices_partialInsertionSortCmpFunc_api_Diag (a4 f_slices_partialInsertionSortCmpFunc_api_Diag))) (.node 181
(.leaf n_slices_partitionEqualCmpFunc_api_Diag (a5 f_slices_partitionEqualCmpFunc_api_Diag)) (.node 182
(.leaf n_slices_partitionCmpFunc_api_Diag (a5 f_slices_partitionCmpFunc_api_Diag)) (.leaf n_math_bits_Len32 (a1 f_math_bits_Len32))))) (.node 185
(.node 184
(.leaf n_math_bits_Len64 (a1 f_math_bits_Len64)) (.leaf n_slices_insertionSortCmpFunc_api_Edit (a4 f_slices_insertionSortCmpFunc_api_Edit))) (.node 186
(.leaf n_slices_symMergeCmpFunc_api_Edit (a5 f_slices_symMergeCmpFunc_api_Edit)) (.node 187
(.leaf n_math_bits_Mul (a2 f_math_bits_Mul)) (.leaf n_strings_HasPrefix (a2 f_strings_HasPrefix))))))) (.node 198
(.node 193
(.node 190
(.node 189
(.leaf n_strings_Builder_Grow (a2 f_strings_Builder_Grow)) (.leaf n_strings_Builder_WriteString (a2 f_strings_Builder_WriteString))) (.node 191
(.leaf n_strings_Builder_Len (a1 f_strings_Builder_Len)) (.node 192
(.leaf n_strings_Builder_String (a1 f_strings_Builder_String)) (.leaf n_suggest_mender_open_1 (a2 f_suggest_mender_open_1))))) (.node 195
(.node 194
(.leaf n_suggest_counts (a1 f_suggest_counts)) (.leaf n_equal_key (a2 f_equal_key))) (.node 196
(.leaf n_walk_ends (a3 f_walk_ends)) (.node 197
(.leaf n_slices_pdqsortOrdered_int (a4 f_slices_pdqsortOrdered_int)) (.leaf n_chars_Flow (a1 f_chars_Flow)))))) (.node 203
(.node 200
(.node 199
(.leaf n_chars_Name (a1 f_chars_Name)) (.leaf n_scan_scanner_names (a2 f_scan_scanner_names))) (.node 201
(.leaf n_parse_parser_over (a3 f_parse_parser_over)) (.node 202
(.leaf n_arena_Add (a5 f_arena_Add)) (.leaf n_flow_Value (a7 f_flow_Value))))) (.node 206
(.node 204
(.leaf n_parse_parser_end (a2 f_parse_parser_end)) (.node 205
(.leaf n_arena_forest_has (a2 f_arena_forest_has)) (.leaf n_arena_forest_grow (a3 f_arena_forest_grow)))) (.node 207
(.leaf n_parse_parser_nest (a4 f_parse_parser_nest)) (.node 208
(.leaf n_parse_parser_cur (a2 f_parse_parser_cur)) (.leaf n_slices_Index_byte_byte (a2 f_slices_Index_byte_byte)))))))) (.node 230
(.node 219
(.node 214
(.node 211
(.node 210
(.leaf n_quote_of (a2 f_quote_of)) (.leaf n_slices_Clone_api_Node_api_Node (a1 f_slices_Clone_api_Node_api_Node))) (.node 212
(.leaf n_slices_Backward_api_Token_api_Token (a1 f_slices_Backward_api_Token_api_Token)) (.node 213
(.leaf n_block_Text (a2 f_block_Text)) (.leaf n_resolve_Kind (a1 f_resolve_Kind))))) (.node 216
(.node 215
(.leaf n_graph_composer_all_1 (a4 f_graph_composer_all_1)) (.leaf n_graph_composer_pair (a2 f_graph_composer_pair))) (.node 217
(.leaf n_slices_siftDownCmpFunc_api_Diag (a5 f_slices_siftDownCmpFunc_api_Diag)) (.node 218
(.leaf n_slices_nextPowerOfTwo (a1 f_slices_nextPowerOfTwo)) (.leaf n_slices_xorshift_Next (a1 f_slices_xorshift_Next)))))) (.node 224
(.node 221
(.node 220
(.leaf n_slices_medianAdjacentCmpFunc_api_Diag (a4 f_slices_medianAdjacentCmpFunc_api_Diag)) (.leaf n_slices_medianCmpFunc_api_Diag (a6 f_slices_medianCmpFunc_api_Diag))) (.node 222
(.leaf n_slices_rotateCmpFunc_api_Edit (a5 f_slices_rotateCmpFunc_api_Edit)) (.node 223
(.leaf n_math_bits_Mul32 (a2 f_math_bits_Mul32)) (.leaf n_math_bits_Mul64 (a2 f_math_bits_Mul64))))) (.node 227
(.node 225
(.leaf n_internal_stringslite_HasPrefix (a2 f_internal_stringslite_HasPrefix)) (.node 226
(.leaf n_strings_Builder_copyCheck (a1 f_strings_Builder_copyCheck)) (.leaf n_strings_Builder_grow (a2 f_strings_Builder_grow)))) (.node 228
(.leaf n_strconv_Itoa (a1 f_strconv_Itoa)) (.node 229
(.leaf n_strconv_Quote (a1 f_strconv_Quote)) (.leaf n_slices_insertionSortOrdered_int (a3 f_slices_insertionSortOrdered_int))))))) (.node 240
(.node 235
(.node 232
(.node 231
(.leaf n_slices_heapSortOrdered_int (a3 f_slices_heapSortOrdered_int)) (.leaf n_slices_breakPatternsOrdered_int (a3 f_slices_breakPatternsOrdered_int))) (.node 233
(.leaf n_slices_choosePivotOrdered_int (a3 f_slices_choosePivotOrdered_int)) (.node 234
(.leaf n_slices_reverseRangeOrdered_int (a3 f_slices_reverseRangeOrdered_int)) (.leaf n_slices_partialInsertionSortOrdered_int (a3 f_slices_partialInsertionSortOrdered_int))))) (.node 237
(.node 236
(.leaf n_cmp_Less_int (a2 f_cmp_Less_int)) (.leaf n_slices_partitionEqualOrdered_int (a4 f_slices_partitionEqualOrdered_int))) (.node 238
(.leaf n_slices_partitionOrdered_int (a4 f_slices_partitionOrdered_int)) (.node 239
(.leaf n_chars_letter (a1 f_chars_letter)) (.leaf n_arena_forest_end (a2 f_arena_forest_end)))))) (.node 245
(.node 242
(.node 241
(.leaf n_flow_reader_value (a4 f_flow_reader_value)) (.leaf n_parse_parser_key (a3 f_parse_parser_key))) (.node 243
(.leaf n_slices_Backward_api_Token_api_Token_1 (a2 f_slices_Backward_api_Token_api_Token_1)) (.node 244
(.leaf n_block_own (a1 f_block_own)) (.leaf n_block_empty (a1 f_block_empty))))) (.node 248
(.node 246
(.leaf n_strings_Contains (a2 f_strings_Contains)) (.node 247
(.leaf n_block_spaces (a2 f_block_spaces)) (.leaf n_slices_Clone_string_string (a1 f_slices_Clone_string_string)))) (.node 249
(.leaf n_strings_Join (a2 f_strings_Join)) (.node 250
(.leaf n_block_folded (a1 f_block_folded)) (.leaf n_resolve_Int (a1 f_resolve_Int))))))))) (.node 294
(.node 273
(.node 263
(.node 258
(.node 253
(.node 252
(.leaf n_resolve_float (a1 f_resolve_float)) (.leaf n_slices_order2CmpFunc_api_Diag (a5 f_slices_order2CmpFunc_api_Diag))) (.node 254
(.leaf n_slices_swapRangeCmpFunc_api_Edit (a5 f_slices_swapRangeCmpFunc_api_Edit)) (.node 257
(.leaf n_internal_strconv_Itoa (a1 f_internal_strconv_Itoa)) (.leaf n_strconv_quoteWith (a4 f_strconv_quoteWith))))) (.node 260
(.node 259
(.leaf n_slices_siftDownOrdered_int (a4 f_slices_siftDownOrdered_int)) (.leaf n_slices_medianAdjacentOrdered_int (a3 f_slices_medianAdjacentOrdered_int))) (.node 261
(.leaf n_slices_medianOrdered_int (a5 f_slices_medianOrdered_int)) (.node 262
(.leaf n_flow_reader_blanks (a2 f_flow_reader_blanks)) (.leaf n_flow_property (a1 f_flow_property)))))) (.node 268
(.node 265
(.node 264
(.leaf n_flow_reader_kind (a2 f_flow_reader_kind)) (.leaf n_flow_reader_add (a5 f_flow_reader_add))) (.node 266
(.leaf n_flow_reader_texts (a2 f_flow_reader_texts)) (.node 267
(.leaf n_flow_opens (a1 f_flow_opens)) (.leaf n_flow_reader_closed (a2 f_flow_reader_closed))))) (.node 270
(.node 269
(.leaf n_flow_reader_wrong (a5 f_flow_reader_wrong)) (.leaf n_flow_reader_collection (a5 f_flow_reader_collection))) (.node 271
(.leaf n_parse_parser_key_1 (a1 f_parse_parser_key_1)) (.node 272
(.leaf n_strings_IndexAny (a2 f_strings_IndexAny)) (.leaf n_strings_Index (a2 f_strings_Index))))))) (.node 283
(.node 278
(.node 275
(.node 274
(.leaf n_block_between (a3 f_block_between)) (.leaf n_resolve_sign (a1 f_resolve_sign))) (.node 276
(.leaf n_resolve_number (a2 f_resolve_number)) (.node 277
(.leaf n_resolve_digits (a1 f_resolve_digits)) (.leaf n_strings_CutPrefix (a2 f_strings_CutPrefix))))) (.node 280
(.node 279
(.leaf n_internal_strconv_FormatInt (a2 f_internal_strconv_FormatInt)) (.leaf n_strconv_appendQuotedWith (a5 f_strconv_appendQuotedWith))) (.node 281
(.leaf n_slices_order2Ordered_int (a4 f_slices_order2Ordered_int)) (.node 282
(.leaf n_flow_counts (a1 f_flow_counts)) (.leaf n_flow_ends (a1 f_flow_ends)))))) (.node 288
(.node 285
(.node 284
(.leaf n_flow_mark (a1 f_flow_mark)) (.leaf n_flow_reader_over (a3 f_flow_reader_over))) (.node 286
(.leaf n_flow_reader_tell (a4 f_flow_reader_tell)) (.node 287
(.leaf n_flow_reader_past (a2 f_flow_reader_past)) (.leaf n_flow_reader_key (a2 f_flow_reader_key))))) (.node 291
(.node 289
(.leaf n_flow_reader_stray (a2 f_flow_reader_stray)) (.node 290
(.leaf n_flow_reader_pair (a5 f_flow_reader_pair)) (.leaf n_flow_reader_one (a5 f_flow_reader_one)))) (.node 292
(.leaf n_strings_IndexRune (a2 f_strings_IndexRune)) (.node 293
(.leaf n_strings_shouldUseASCIISet (a1 f_strings_shouldUseASCIISet)) (.leaf n_strings_makeASCIISet (a1 f_strings_makeASCIISet)))))))) (.node 316
(.node 304
(.node 299
(.node 296
(.node 295
(.leaf n_strings_asciiSet_contains (a2 f_strings_asciiSet_contains)) (.leaf n_internal_stringslite_Index (a2 f_internal_stringslite_Index))) (.node 297
(.leaf n_strings_TrimPrefix (a2 f_strings_TrimPrefix)) (.node 298
(.leaf n_resolve_value (a2 f_resolve_value)) (.leaf n_internal_stringslite_CutPrefix (a2 f_internal_stringslite_CutPrefix))))) (.node 301
(.node 300
(.leaf n_internal_strconv_small (a1 f_internal_strconv_small)) (.leaf n_internal_strconv_numDigits (a1 f_internal_strconv_numDigits))) (.node 302
(.leaf n_internal_strconv_formatBase10 (a2 f_internal_strconv_formatBase10)) (.node 303
(.leaf n_internal_strconv_formatBits (a5 f_internal_strconv_formatBits)) (.leaf n_unicode_utf8_DecodeRuneInString (a1 f_unicode_utf8_DecodeRuneInString)))))) (.node 309
(.node 306
(.node 305
(.leaf n_strconv_appendEscapedRune (a5 f_strconv_appendEscapedRune)) (.leaf n_flow_name (a1 f_flow_name))) (.node 307
(.leaf n_flow_reader_scalar (a4 f_flow_reader_scalar)) (.node 308
(.leaf n_strings_IndexByte (a2 f_strings_IndexByte)) (.leaf n_unicode_utf8_ValidRune (a1 f_unicode_utf8_ValidRune))))) (.node 313
(.node 310
(.leaf n_internal_bytealg_Cutover (a1 f_internal_bytealg_Cutover)) (.node 312
(.leaf n_internal_stringslite_IndexByte (a2 f_internal_stringslite_IndexByte)) (.leaf n_internal_bytealg_IndexRabinKarp_string (a2 f_internal_bytealg_IndexRabinKarp_string)))) (.node 314
(.leaf n_internal_stringslite_TrimPrefix (a2 f_internal_stringslite_TrimPrefix)) (.node 315
(.leaf n_internal_strconv_log10Pow2 (a1 f_internal_strconv_log10Pow2)) (.leaf n_internal_strconv_bool2_int (a1 f_internal_strconv_bool2_int))))))) (.node 327
(.node 321
(.node 318
(.node 317
(.leaf n_internal_strconv_isPowerOfTwo (a1 f_internal_strconv_isPowerOfTwo)) (.leaf n_math_bits_TrailingZeros (a1 f_math_bits_TrailingZeros))) (.node 319
(.leaf n_unicode_utf8_decodeRuneInStringSlow (a1 f_unicode_utf8_decodeRuneInStringSlow)) (.node 320
(.leaf n_strconv_IsPrint (a1 f_strconv_IsPrint)) (.leaf n_strconv_isInGraphicList (a1 f_strconv_isInGraphicList))))) (.node 323
(.node 322
(.leaf n_unicode_utf8_AppendRune (a2 f_unicode_utf8_AppendRune)) (.leaf n_flow_reader_scalar_1 (a1 f_flow_reader_scalar_1))) (.node 325
(.leaf n_internal_bytealg_hashStr_string (a1 f_internal_bytealg_hashStr_string)) (.node 326
(.leaf n_math_bits_TrailingZeros32 (a1 f_math_bits_TrailingZeros32)) (.leaf n_math_bits_TrailingZeros64 (a1 f_math_bits_TrailingZeros64)))))) (.node 349
(.node 329
(.node 328
(.leaf n_strconv_bsearch_uint16_uint16 (a2 f_strconv_bsearch_uint16_uint16)) (.leaf n_strconv_bsearch_uint32_uint32 (a2 f_strconv_bsearch_uint32_uint32))) (.node 330
(.leaf n_unicode_utf8_appendRuneNonASCII (a2 f_unicode_utf8_appendRuneNonASCII)) (.node 348
(.leaf n_quote_plain_tell (a1 f_quote_plain_tell)) (.leaf n_quote_single_tell (a1 f_quote_single_tell))))) (.node 352
(.node 350
(.leaf n_strings_Builder_WriteByte (a2 f_strings_Builder_WriteByte)) (.node 351
(.leaf n_quote_double_tell (a1 f_quote_double_tell)) (.leaf n_chars_Escape (a1 f_chars_Escape)))) (.node 353
(.leaf n_chars_plain (a1 f_chars_plain)) (.node 354
(.leaf n_chars_digits (a1 f_chars_digits)) (.leaf n_chars_number (a1 f_chars_number)))))))))))
theorem tab_ok : tab.All Tryz.prog :=
⟨⟨⟨⟨⟨⟨⟨⟨o_correctorlaw21_FixKinds,
 o_correctorlaw21_FixRefuses⟩,
⟨o_correctorlaw21_known,
⟨o_correctorlaw21_within,
 o_fix_Fix⟩⟩⟩,
⟨⟨o_correctorref18_Plain,
 o_correctorref18_Check⟩,
⟨o_fix_fixer_look,
⟨round_ok,
 o_slices_Clone_byte_byte⟩⟩⟩⟩,
⟨⟨⟨o_slices_Clone_fix_Round_fix_Round,
 o_lint_Find⟩,
⟨o_parse_Tree,
⟨o_graph_Compose,
 o_diag_Sort⟩⟩⟩,
⟨⟨o_slices_Concat_api_Diag_api_Diag,
 o_edit_Choose⟩,
⟨o_suggest_Edits,
⟨o_edit_Apply,
 o_fix_fixer_better⟩⟩⟩⟩⟩,
⟨⟨⟨⟨o_fix_fixer_round_1,
 o_slices_Clone_api_Edit_api_Edit⟩,
⟨o_config_Check,
⟨o_rows_Rows,
 o_lint_finder_trail⟩⟩⟩,
⟨⟨o_lint_finder_long,
 o_lint_finder_step⟩,
⟨o_lint_finder_empty,
⟨o_lint_finder_mark,
 o_lint_finder_hash⟩⟩⟩⟩,
⟨⟨⟨o_lint_finder_comma,
 o_lint_finder_twice⟩,
⟨o_lint_finder_end,
⟨o_lint_on,
 o_scan_Tokens⟩⟩⟩,
⟨⟨o_arena_New,
⟨o_parse_parser_row,
 o_parse_parser_told⟩⟩,
⟨o_graph_fits,
⟨o_graph_composer_node,
 o_slices_SortFunc_api_Diag_api_Diag⟩⟩⟩⟩⟩⟩,
⟨⟨⟨⟨⟨o_graph_order,
 o_slices_Clone_api_Value_api_Value⟩,
⟨o_slices_Clone_int_int,
⟨o_slices_Clone_api_Diag_api_Diag,
 o_slices_Compact_api_Diag_api_Diag⟩⟩⟩,
⟨⟨o_diag_Sort_1,
 o_diag_order⟩,
⟨o_slices_Grow_api_Diag_api_Diag,
⟨o_edit_one,
 o_slices_ContainsFunc_api_Edit_api_Edit⟩⟩⟩⟩,
⟨⟨⟨o_edit_Choose_1,
 o_edit_upon⟩,
⟨o_slices_SortStableFunc_api_Edit_api_Edit,
⟨o_edit_Choose_2,
 o_edit_order⟩⟩⟩,
⟨⟨o_suggest_mender_wrong,
⟨o_suggest_mender_found,
 o_edit_Check⟩⟩,
⟨o_equal_Same,
⟨o_config_within,
 o_rows_Rows_1⟩⟩⟩⟩⟩,
⟨⟨⟨⟨o_rows_kind,
 o_rows_brackets⟩,
⟨o_slices_Clone_api_Row_api_Row,
⟨o_lint_finder_kind,
 o_lint_finder_find⟩⟩⟩,
⟨⟨o_lint_finder_bytes,
 o_runes_Next⟩,
⟨o_lint_counts,
⟨o_slices_ContainsFunc_api_Token_api_Token,
 o_lint_finder_empty_1⟩⟩⟩⟩,
⟨⟨⟨o_slices_IndexFunc_api_Token_api_Token,
 o_lint_finder_mark_1⟩,
⟨o_chars_Blank,
⟨o_slices_DeleteFunc_int_int,
 o_lint_finder_twice_1⟩⟩⟩,
⟨⟨o_equal_Twice,
⟨o_lint_finder_where,
 o_lint_Off⟩⟩,
⟨o_lint_on_1,
⟨o_lines_Place,
 o_slices_Contains_int_int⟩⟩⟩⟩⟩⟩⟩,
⟨⟨⟨⟨⟨⟨o_scan_scanner_begin,
 o_scan_scanner_begun⟩,
⟨o_scan_scanner_loose,
⟨o_scan_scanner_sign,
 o_scan_scanner_text⟩⟩⟩,
⟨⟨o_slices_Clone_api_Token_api_Token,
 o_parse_parser_first⟩,
⟨o_parse_parser_amiss,
⟨o_parse_parser_mark,
 o_parse_parser_document⟩⟩⟩⟩,
⟨⟨⟨o_rows_Entries,
 o_parse_parser_loose⟩,
⟨o_parse_parser_entries,
⟨o_runes_Bad,
 o_parse_parser_tell⟩⟩⟩,
⟨⟨o_parse_parser_tabs,
 o_parse_parser_quoted⟩,
⟨o_parse_parser_told_1,
⟨o_cmp_Or_int,
 o_cmp_Compare_int⟩⟩⟩⟩⟩,
⟨⟨⟨⟨o_arena_Check,
 o_graph_composer_first⟩,
⟨o_graph_composer_named,
⟨o_graph_composer_own,
 o_graph_composer_scalar⟩⟩⟩,
⟨⟨o_graph_composer_alias,
 o_graph_composer_collection⟩,
⟨o_slices_pdqsortCmpFunc_api_Diag,
⟨o_math_bits_Len,
 o_slices_IndexFunc_api_Edit_api_Edit⟩⟩⟩⟩,
⟨⟨⟨o_span_Meet,
 o_slices_stableCmpFunc_api_Edit⟩,
⟨o_strings_Repeat,
⟨o_suggest_put,
 o_suggest_mender_sign⟩⟩⟩,
⟨⟨o_suggest_mender_open,
⟨o_slices_Equal_int_int,
 o_equal_docs⟩⟩,
⟨o_equal_classes_of,
⟨o_rows_counts,
 o_rows_begin⟩⟩⟩⟩⟩⟩,
⟨⟨⟨⟨⟨o_slices_IndexFunc_int_int,
 o_walk_Span⟩,
⟨o_lint_finder_where_1,
⟨o_slices_Sort_int_int,
 o_slices_Compact_int_int⟩⟩⟩,
⟨⟨o_lines_Starts,
 o_slices_Index_int_int⟩,
⟨o_scan_scanner_mark,
⟨o_scan_scanner_token,
 o_scan_scanner_spaces⟩⟩⟩⟩,
⟨⟨⟨o_scan_scanner_brk,
 o_scan_scanner_blanks⟩,
⟨o_scan_scanner_last,
⟨o_scan_scanner_there,
 o_scan_scanner_line⟩⟩⟩,
⟨⟨o_scan_scanner_brackets,
⟨o_scan_scanner_space,
 o_scan_scanner_colon⟩⟩,
⟨o_scan_scanner_property,
⟨o_scan_scanner_single,
 o_scan_scanner_double⟩⟩⟩⟩⟩,
⟨⟨⟨⟨o_scan_scanner_head,
 o_scan_scanner_texts⟩,
⟨o_scan_scanner_plain,
⟨o_parse_counts,
 o_parse_parser_wrong⟩⟩⟩,
⟨⟨o_parse_parser_add,
 o_parse_parser_value⟩,
⟨o_arena_Grow,
⟨o_rows_Entries_1,
 o_rows_property⟩⟩⟩⟩,
⟨⟨⟨o_rows_name,
 o_slices_Clone_rows_Entry_rows_Entry⟩,
⟨o_parse_parser_place,
⟨o_slices_Contains_byte_byte,
 o_quote_Text⟩⟩⟩,
⟨⟨o_cmp_isNaN_int,
⟨o_arena_own,
 o_arena_forest_lies⟩⟩,
⟨o_graph_composer_null,
⟨last_ok,
 o_graph_composer_own_1⟩⟩⟩⟩⟩⟩⟩⟩,
⟨⟨⟨⟨⟨⟨⟨o_graph_composer_said,
 o_graph_composer_value⟩,
⟨o_resolve_Tagged,
⟨o_graph_composer_alias_1,
 o_graph_composer_text⟩⟩⟩,
⟨⟨o_graph_composer_all,
 o_slices_insertionSortCmpFunc_api_Diag⟩,
⟨o_slices_heapSortCmpFunc_api_Diag,
⟨o_slices_breakPatternsCmpFunc_api_Diag,
 o_slices_choosePivotCmpFunc_api_Diag⟩⟩⟩⟩,
⟨⟨⟨o_slices_reverseRangeCmpFunc_api_Diag,
 o_slices_partialInsertionSortCmpFunc_api_Diag⟩,
⟨o_slices_partitionEqualCmpFunc_api_Diag,
⟨o_slices_partitionCmpFunc_api_Diag,
 o_math_bits_Len32⟩⟩⟩,
⟨⟨o_math_bits_Len64,
 o_slices_insertionSortCmpFunc_api_Edit⟩,
⟨o_slices_symMergeCmpFunc_api_Edit,
⟨o_math_bits_Mul,
 o_strings_HasPrefix⟩⟩⟩⟩⟩,
⟨⟨⟨⟨o_strings_Builder_Grow,
 o_strings_Builder_WriteString⟩,
⟨o_strings_Builder_Len,
⟨o_strings_Builder_String,
 o_suggest_mender_open_1⟩⟩⟩,
⟨⟨o_suggest_counts,
 o_equal_key⟩,
⟨o_walk_ends,
⟨o_slices_pdqsortOrdered_int,
 o_chars_Flow⟩⟩⟩⟩,
⟨⟨⟨o_chars_Name,
 o_scan_scanner_names⟩,
⟨o_parse_parser_over,
⟨o_arena_Add,
 o_flow_Value⟩⟩⟩,
⟨⟨o_parse_parser_end,
⟨o_arena_forest_has,
 o_arena_forest_grow⟩⟩,
⟨o_parse_parser_nest,
⟨o_parse_parser_cur,
 o_slices_Index_byte_byte⟩⟩⟩⟩⟩⟩,
⟨⟨⟨⟨⟨o_quote_of,
 o_slices_Clone_api_Node_api_Node⟩,
⟨o_slices_Backward_api_Token_api_Token,
⟨o_block_Text,
 o_resolve_Kind⟩⟩⟩,
⟨⟨o_graph_composer_all_1,
 o_graph_composer_pair⟩,
⟨o_slices_siftDownCmpFunc_api_Diag,
⟨o_slices_nextPowerOfTwo,
 o_slices_xorshift_Next⟩⟩⟩⟩,
⟨⟨⟨o_slices_medianAdjacentCmpFunc_api_Diag,
 o_slices_medianCmpFunc_api_Diag⟩,
⟨o_slices_rotateCmpFunc_api_Edit,
⟨o_math_bits_Mul32,
 o_math_bits_Mul64⟩⟩⟩,
⟨⟨o_internal_stringslite_HasPrefix,
⟨o_strings_Builder_copyCheck,
 o_strings_Builder_grow⟩⟩,
⟨o_strconv_Itoa,
⟨o_strconv_Quote,
 o_slices_insertionSortOrdered_int⟩⟩⟩⟩⟩,
⟨⟨⟨⟨o_slices_heapSortOrdered_int,
 o_slices_breakPatternsOrdered_int⟩,
⟨o_slices_choosePivotOrdered_int,
⟨o_slices_reverseRangeOrdered_int,
 o_slices_partialInsertionSortOrdered_int⟩⟩⟩,
⟨⟨o_cmp_Less_int,
 o_slices_partitionEqualOrdered_int⟩,
⟨o_slices_partitionOrdered_int,
⟨o_chars_letter,
 o_arena_forest_end⟩⟩⟩⟩,
⟨⟨⟨o_flow_reader_value,
 o_parse_parser_key⟩,
⟨o_slices_Backward_api_Token_api_Token_1,
⟨o_block_own,
 o_block_empty⟩⟩⟩,
⟨⟨o_strings_Contains,
⟨o_block_spaces,
 o_slices_Clone_string_string⟩⟩,
⟨o_strings_Join,
⟨o_block_folded,
 o_resolve_Int⟩⟩⟩⟩⟩⟩⟩,
⟨⟨⟨⟨⟨⟨o_resolve_float,
 o_slices_order2CmpFunc_api_Diag⟩,
⟨o_slices_swapRangeCmpFunc_api_Edit,
⟨o_internal_strconv_Itoa,
 o_strconv_quoteWith⟩⟩⟩,
⟨⟨o_slices_siftDownOrdered_int,
 o_slices_medianAdjacentOrdered_int⟩,
⟨o_slices_medianOrdered_int,
⟨o_flow_reader_blanks,
 o_flow_property⟩⟩⟩⟩,
⟨⟨⟨o_flow_reader_kind,
 o_flow_reader_add⟩,
⟨o_flow_reader_texts,
⟨o_flow_opens,
 o_flow_reader_closed⟩⟩⟩,
⟨⟨o_flow_reader_wrong,
 o_flow_reader_collection⟩,
⟨o_parse_parser_key_1,
⟨o_strings_IndexAny,
 o_strings_Index⟩⟩⟩⟩⟩,
⟨⟨⟨⟨o_block_between,
 o_resolve_sign⟩,
⟨o_resolve_number,
⟨o_resolve_digits,
 o_strings_CutPrefix⟩⟩⟩,
⟨⟨o_internal_strconv_FormatInt,
 o_strconv_appendQuotedWith⟩,
⟨o_slices_order2Ordered_int,
⟨o_flow_counts,
 o_flow_ends⟩⟩⟩⟩,
⟨⟨⟨o_flow_mark,
 o_flow_reader_over⟩,
⟨o_flow_reader_tell,
⟨o_flow_reader_past,
 o_flow_reader_key⟩⟩⟩,
⟨⟨o_flow_reader_stray,
⟨o_flow_reader_pair,
 o_flow_reader_one⟩⟩,
⟨o_strings_IndexRune,
⟨o_strings_shouldUseASCIISet,
 o_strings_makeASCIISet⟩⟩⟩⟩⟩⟩,
⟨⟨⟨⟨⟨o_strings_asciiSet_contains,
 o_internal_stringslite_Index⟩,
⟨o_strings_TrimPrefix,
⟨o_resolve_value,
 o_internal_stringslite_CutPrefix⟩⟩⟩,
⟨⟨o_internal_strconv_small,
 o_internal_strconv_numDigits⟩,
⟨o_internal_strconv_formatBase10,
⟨o_internal_strconv_formatBits,
 o_unicode_utf8_DecodeRuneInString⟩⟩⟩⟩,
⟨⟨⟨o_strconv_appendEscapedRune,
 o_flow_name⟩,
⟨o_flow_reader_scalar,
⟨o_strings_IndexByte,
 o_unicode_utf8_ValidRune⟩⟩⟩,
⟨⟨o_internal_bytealg_Cutover,
⟨o_internal_stringslite_IndexByte,
 o_internal_bytealg_IndexRabinKarp_string⟩⟩,
⟨o_internal_stringslite_TrimPrefix,
⟨o_internal_strconv_log10Pow2,
 o_internal_strconv_bool2_int⟩⟩⟩⟩⟩,
⟨⟨⟨⟨o_internal_strconv_isPowerOfTwo,
 o_math_bits_TrailingZeros⟩,
⟨o_unicode_utf8_decodeRuneInStringSlow,
⟨o_strconv_IsPrint,
 o_strconv_isInGraphicList⟩⟩⟩,
⟨⟨o_unicode_utf8_AppendRune,
 o_flow_reader_scalar_1⟩,
⟨o_internal_bytealg_hashStr_string,
⟨o_math_bits_TrailingZeros32,
 o_math_bits_TrailingZeros64⟩⟩⟩⟩,
⟨⟨⟨o_strconv_bsearch_uint16_uint16,
 o_strconv_bsearch_uint32_uint32⟩,
⟨o_unicode_utf8_appendRuneNonASCII,
⟨o_quote_plain_tell,
 o_quote_single_tell⟩⟩⟩,
⟨⟨o_strings_Builder_WriteByte,
⟨o_quote_double_tell,
 o_chars_Escape⟩⟩,
⟨o_chars_plain,
⟨o_chars_digits,
 o_chars_number⟩⟩⟩⟩⟩⟩⟩⟩⟩
end Go.Proofs.YtahpoedbdhhdfaaGreatDoor
