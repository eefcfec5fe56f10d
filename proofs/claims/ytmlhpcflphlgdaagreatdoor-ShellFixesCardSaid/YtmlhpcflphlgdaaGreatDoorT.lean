/- The table. -/
import Derived.Test.YtmlhpcflphlgdaaGreatDoorF0
import Derived.Test.YtmlhpcflphlgdaaGreatDoorF1
import Derived.Test.YtmlhpcflphlgdaaGreatDoorF2
import Derived.Test.YtmlhpcflphlgdaaGreatDoorF3
import Derived.Test.YtmlhpcflphlgdaaGreatDoorF4
import Derived.Test.YtmlhpcflphlgdaaGreatDoorF5
import Derived.Test.YtmlhpcflphlgdaaGreatDoorF6
import Derived.Test.YtmlhpcflphlgdaaGreatDoorF7
import Derived.Test.YtmlhpcflphlgdaaGreatDoorF8
import Derived.Test.YtmlhpcflphlgdaaGreatDoorF9
import Derived.Test.YtmlhpcflphlgdaaGreatDoorF10
import Derived.Test.YtmlhpcflphlgdaaGreatDoorF11
import Derived.Test.YtmlhpcflphlgdaaGreatDoorL
import Derived.Test.YtmlhpcflphlgdaaGreatDoorD
namespace Go.Proofs.YtmlhpcflphlgdaaGreatDoor
open Go.Ev
noncomputable def tab : TT := (.node 210
(.node 107
(.node 53
(.node 27
(.node 14
(.node 8
(.node 5
(.node 3
(.leaf n_correctorlaw22_ShellBad (a1 f_correctorlaw22_ShellBad)) (.node 4
(.leaf n_correctorlaw22_ShellFixes (a1 f_correctorlaw22_ShellFixes)) (.leaf n_correctorlaw22_known (a0 f_correctorlaw22_known)))) (.node 6
(.leaf n_correctorlaw22_within (a2 f_correctorlaw22_within)) (.node 7
(.leaf n_shell_Run (a1 f_shell_Run)) (.leaf n_correctorlaw22_num (a1 f_correctorlaw22_num))))) (.node 11
(.node 9
(.leaf n_strings_Split (a2 f_strings_Split)) (.node 10
(.leaf n_shell_begun (a0 f_shell_begun)) (.leaf n_shell_script_line (a2 f_shell_script_line)))) (.node 12
(.leaf n_strings_Repeat (a2 f_strings_Repeat)) (.node 13
(.leaf n_strings_genSplit (a4 f_strings_genSplit)) (.leaf n_config_Plain (a0 f_config_Plain)))))) (.node 20
(.node 17
(.node 15
(.leaf n_shell_script_commands (a1 f_shell_script_commands)) (.node 16
(.leaf n_shell_Words (a1 f_shell_Words)) (.leaf n_api_Errno_Error (a1 f_api_Errno_Error)))) (.node 18
(.leaf n_shell_split (a2 f_shell_split)) (.node 19
(.leaf n_math_bits_Mul (a2 f_math_bits_Mul)) (.leaf n_strings_HasPrefix (a2 f_strings_HasPrefix))))) (.node 23
(.node 21
(.leaf n_strings_Builder_Grow (a2 f_strings_Builder_Grow)) (.node 22
(.leaf n_strings_Builder_WriteString (a2 f_strings_Builder_WriteString)) (.leaf n_strings_Builder_Len (a1 f_strings_Builder_Len)))) (.node 25
(.node 24
(.leaf n_strings_Builder_String (a1 f_strings_Builder_String)) (.leaf n_strings_explode (a2 f_strings_explode))) (.node 26
(.leaf n_strings_Count (a2 f_strings_Count)) (.leaf n_strings_Index (a2 f_strings_Index))))))) (.node 39
(.node 33
(.node 30
(.node 28
(.leaf n_shell_script_text (a3 f_shell_script_text)) (.node 29
(.leaf n_shell_script_empty (a3 f_shell_script_empty)) (.leaf n_shell_script_config (a3 f_shell_script_config)))) (.node 31
(.leaf n_shell_script_tokens (a3 f_shell_script_tokens)) (.node 32
(.leaf n_shell_script_tree (a3 f_shell_script_tree)) (.leaf n_shell_script_diags (a3 f_shell_script_diags))))) (.node 36
(.node 34
(.leaf n_shell_script_graph (a3 f_shell_script_graph)) (.node 35
(.leaf n_shell_script_lint (a3 f_shell_script_lint)) (.leaf n_shell_script_fix (a3 f_shell_script_fix)))) (.node 37
(.leaf n_shell_script_place (a3 f_shell_script_place)) (.node 38
(.leaf n_shell_script_at (a3 f_shell_script_at)) (.leaf n_shell_script_edit (a3 f_shell_script_edit)))))) (.node 45
(.node 42
(.node 40
(.leaf n_shell_script_show (a3 f_shell_script_show)) (.node 41
(.leaf n_shell_quoted (a1 f_shell_quoted)) (.leaf n_api_late (a1 f_api_late)))) (.node 43
(.leaf n_shell_number (a1 f_shell_number)) (.node 44
(.leaf n_math_bits_Mul32 (a2 f_math_bits_Mul32)) (.leaf n_math_bits_Mul64 (a2 f_math_bits_Mul64))))) (.node 48
(.node 46
(.leaf n_internal_stringslite_HasPrefix (a2 f_internal_stringslite_HasPrefix)) (.node 47
(.leaf n_strings_Builder_copyCheck (a1 f_strings_Builder_copyCheck)) (.leaf n_strings_Builder_grow (a2 f_strings_Builder_grow)))) (.node 50
(.node 49
(.leaf n_unicode_utf8_RuneCountInString (a1 f_unicode_utf8_RuneCountInString)) (.leaf n_unicode_utf8_DecodeRuneInString (a1 f_unicode_utf8_DecodeRuneInString))) (.node 52
(.leaf n_internal_stringslite_Index (a2 f_internal_stringslite_Index)) (.leaf n_slices_Concat_byte_byte (a1 f_slices_Concat_byte_byte)))))))) (.node 81
(.node 65
(.node 59
(.node 56
(.node 54
(.leaf n_shell_told (a1 f_shell_told)) (.node 55
(.leaf n_config_Parse (a1 f_config_Parse)) (.leaf n_shell_answer (a2 f_shell_answer)))) (.node 57
(.leaf n_scan_Tokens (a1 f_scan_Tokens)) (.node 58
(.leaf n_shell_script_read (a1 f_shell_script_read)) (.leaf n_shell_Quote (a1 f_shell_Quote))))) (.node 62
(.node 60
(.leaf n_diag_Render (a2 f_diag_Render)) (.node 61
(.leaf n_parse_Tree (a2 f_parse_Tree)) (.leaf n_graph_Compose (a3 f_graph_Compose)))) (.node 63
(.leaf n_equal_Print (a2 f_equal_Print)) (.node 64
(.leaf n_lint_Find (a2 f_lint_Find)) (.leaf n_fix_Fix (a3 f_fix_Fix)))))) (.node 71
(.node 68
(.node 66
(.leaf n_lines_Place (a2 f_lines_Place)) (.node 67
(.leaf n_walk_At (a3 f_walk_At)) (.leaf n_edit_Apply (a2 f_edit_Apply)))) (.node 69
(.leaf n_shell_escape (a1 f_shell_escape)) (.node 70
(.leaf n_strings_TrimPrefix (a2 f_strings_TrimPrefix)) (.leaf n_strconv_Atoi (a1 f_strconv_Atoi))))) (.node 77
(.node 74
(.leaf n_unicode_utf8_decodeRuneInStringSlow (a1 f_unicode_utf8_decodeRuneInStringSlow)) (.node 75
(.leaf n_internal_stringslite_IndexByte (a2 f_internal_stringslite_IndexByte)) (.leaf n_internal_bytealg_Cutover (a1 f_internal_bytealg_Cutover)))) (.node 79
(.node 78
(.leaf n_internal_bytealg_IndexRabinKarp_string (a2 f_internal_bytealg_IndexRabinKarp_string)) (.leaf n_slices_Grow_byte_byte (a2 f_slices_Grow_byte_byte))) (.node 80
(.leaf n_strconv_Itoa (a1 f_strconv_Itoa)) (.leaf n_strings_Join (a2 f_strings_Join))))))) (.node 94
(.node 87
(.node 84
(.node 82
(.leaf n_config_line (a2 f_config_line)) (.node 83
(.leaf n_config_words (a1 f_config_words)) (.leaf n_config_Check (a1 f_config_Check)))) (.node 85
(.leaf n_scan_scanner_begin (a1 f_scan_scanner_begin)) (.node 86
(.leaf n_scan_scanner_begun (a1 f_scan_scanner_begun)) (.leaf n_scan_scanner_loose (a1 f_scan_scanner_loose))))) (.node 90
(.node 88
(.leaf n_scan_scanner_sign (a1 f_scan_scanner_sign)) (.node 89
(.leaf n_scan_scanner_text (a1 f_scan_scanner_text)) (.leaf n_slices_Clone_api_Token_api_Token (a1 f_slices_Clone_api_Token_api_Token)))) (.node 92
(.node 91
(.leaf n_walk_Order (a1 f_walk_Order)) (.leaf n_walk_Span (a2 f_walk_Span))) (.node 93
(.leaf n_diag_Sort (a1 f_diag_Sort)) (.leaf n_slices_Concat_api_Diag_api_Diag (a1 f_slices_Concat_api_Diag_api_Diag)))))) (.node 100
(.node 97
(.node 95
(.leaf n_diag_place (a2 f_diag_place)) (.node 96
(.leaf n_diag_Text (a1 f_diag_Text)) (.leaf n_rows_Rows (a2 f_rows_Rows)))) (.node 98
(.leaf n_arena_New (a1 f_arena_New)) (.node 99
(.leaf n_parse_parser_row (a2 f_parse_parser_row)) (.leaf n_parse_parser_told (a1 f_parse_parser_told))))) (.node 103
(.node 101
(.leaf n_graph_fits (a3 f_graph_fits)) (.node 102
(.leaf n_graph_composer_node (a2 f_graph_composer_node)) (.leaf n_slices_SortFunc_api_Diag_api_Diag (a2 f_slices_SortFunc_api_Diag_api_Diag)))) (.node 105
(.node 104
(.leaf n_graph_order (a2 f_graph_order)) (.leaf n_slices_Clone_api_Value_api_Value (a1 f_slices_Clone_api_Value_api_Value))) (.node 106
(.leaf n_slices_Clone_int_int (a1 f_slices_Clone_int_int)) (.leaf n_slices_Clone_api_Diag_api_Diag (a1 f_slices_Clone_api_Diag_api_Diag))))))))) (.node 159
(.node 132
(.node 119
(.node 113
(.node 110
(.node 108
(.leaf n_slices_Compact_api_Diag_api_Diag (a1 f_slices_Compact_api_Diag_api_Diag)) (.node 109
(.leaf n_equal_count (a1 f_equal_count)) (.leaf n_equal_write (a3 f_equal_write)))) (.node 111
(.leaf n_lint_finder_trail (a1 f_lint_finder_trail)) (.node 112
(.leaf n_lint_finder_long (a1 f_lint_finder_long)) (.leaf n_lint_finder_step (a1 f_lint_finder_step))))) (.node 116
(.node 114
(.leaf n_lint_finder_empty (a1 f_lint_finder_empty)) (.node 115
(.leaf n_lint_finder_mark (a1 f_lint_finder_mark)) (.leaf n_lint_finder_hash (a1 f_lint_finder_hash)))) (.node 117
(.leaf n_lint_finder_comma (a1 f_lint_finder_comma)) (.node 118
(.leaf n_lint_finder_twice (a1 f_lint_finder_twice)) (.leaf n_lint_finder_end (a1 f_lint_finder_end)))))) (.node 125
(.node 122
(.node 120
(.leaf n_lint_on (a2 f_lint_on)) (.node 121
(.leaf n_fix_fixer_look (a2 f_fix_fixer_look)) (.leaf n_fix_fixer_round roundF))) (.node 123
(.leaf n_slices_Clone_byte_byte (a1 f_slices_Clone_byte_byte)) (.node 124
(.leaf n_slices_Clone_fix_Round_fix_Round (a1 f_slices_Clone_fix_Round_fix_Round)) (.leaf n_lines_Starts (a1 f_lines_Starts))))) (.node 128
(.node 126
(.leaf n_walk_token (a2 f_walk_token)) (.node 127
(.leaf n_slices_IndexFunc_int_int (a2 f_slices_IndexFunc_int_int)) (.leaf n_walk_At_1 (a3 f_walk_At_1)))) (.node 130
(.node 129
(.leaf n_walk_has (a2 f_walk_has)) (.leaf n_edit_Check (a2 f_edit_Check))) (.node 131
(.leaf n_strings_IndexByte (a2 f_strings_IndexByte)) (.leaf n_internal_stringslite_TrimPrefix (a2 f_internal_stringslite_TrimPrefix))))))) (.node 146
(.node 139
(.node 136
(.node 133
(.leaf n_internal_strconv_Atoi (a1 f_internal_strconv_Atoi)) (.node 134
(.leaf n_strconv_toError (a5 f_strconv_toError)) (.leaf n_internal_bytealg_hashStr_string (a1 f_internal_bytealg_hashStr_string)))) (.node 137
(.leaf n_internal_strconv_Itoa (a1 f_internal_strconv_Itoa)) (.node 138
(.leaf n_config_rules (a0 f_config_rules)) (.leaf n_config_place (a2 f_config_place))))) (.node 142
(.node 140
(.leaf n_config_number (a1 f_config_number)) (.node 141
(.leaf n_strings_FieldsFunc (a2 f_strings_FieldsFunc)) (.leaf n_config_words_1 (a1 f_config_words_1)))) (.node 144
(.node 143
(.leaf n_config_within (a3 f_config_within)) (.leaf n_scan_scanner_mark (a2 f_scan_scanner_mark))) (.node 145
(.leaf n_scan_scanner_token (a3 f_scan_scanner_token)) (.leaf n_scan_scanner_spaces (a2 f_scan_scanner_spaces)))))) (.node 152
(.node 149
(.node 147
(.leaf n_scan_scanner_brk (a2 f_scan_scanner_brk)) (.node 148
(.leaf n_scan_scanner_blanks (a2 f_scan_scanner_blanks)) (.leaf n_scan_scanner_last (a1 f_scan_scanner_last)))) (.node 150
(.leaf n_scan_scanner_there (a3 f_scan_scanner_there)) (.node 151
(.leaf n_scan_scanner_line (a2 f_scan_scanner_line)) (.leaf n_scan_scanner_brackets (a1 f_scan_scanner_brackets))))) (.node 155
(.node 153
(.leaf n_scan_scanner_space (a2 f_scan_scanner_space)) (.node 154
(.leaf n_scan_scanner_colon (a2 f_scan_scanner_colon)) (.leaf n_scan_scanner_property (a1 f_scan_scanner_property)))) (.node 157
(.node 156
(.leaf n_scan_scanner_single (a1 f_scan_scanner_single)) (.leaf n_scan_scanner_double (a1 f_scan_scanner_double))) (.node 158
(.leaf n_scan_scanner_head (a1 f_scan_scanner_head)) (.leaf n_scan_scanner_texts (a2 f_scan_scanner_texts)))))))) (.node 184
(.node 171
(.node 165
(.node 162
(.node 160
(.leaf n_runes_Next (a1 f_runes_Next)) (.node 161
(.leaf n_scan_scanner_plain (a1 f_scan_scanner_plain)) (.leaf n_walk_Order_1 (a5 f_walk_Order_1)))) (.node 163
(.leaf n_walk_ends (a3 f_walk_ends)) (.node 164
(.leaf n_diag_Sort_1 (a2 f_diag_Sort_1)) (.leaf n_diag_order (a2 f_diag_order))))) (.node 168
(.node 166
(.leaf n_slices_Grow_api_Diag_api_Diag (a2 f_slices_Grow_api_Diag_api_Diag)) (.node 167
(.leaf n_diag_words (a0 f_diag_words)) (.leaf n_rows_Rows_1 (a6 f_rows_Rows_1)))) (.node 169
(.leaf n_rows_kind (a3 f_rows_kind)) (.node 170
(.leaf n_rows_brackets (a2 f_rows_brackets)) (.leaf n_slices_Clone_api_Row_api_Row (a1 f_slices_Clone_api_Row_api_Row)))))) (.node 177
(.node 174
(.node 172
(.leaf n_parse_parser_first (a3 f_parse_parser_first)) (.node 173
(.leaf n_parse_parser_amiss (a4 f_parse_parser_amiss)) (.leaf n_parse_parser_mark (a3 f_parse_parser_mark)))) (.node 175
(.leaf n_parse_parser_document (a2 f_parse_parser_document)) (.node 176
(.leaf n_rows_Entries (a3 f_rows_Entries)) (.leaf n_parse_parser_loose (a3 f_parse_parser_loose))))) (.node 180
(.node 178
(.leaf n_parse_parser_entries (a4 f_parse_parser_entries)) (.node 179
(.leaf n_runes_Bad (a1 f_runes_Bad)) (.leaf n_parse_parser_tell (a4 f_parse_parser_tell)))) (.node 182
(.node 181
(.leaf n_parse_parser_tabs (a2 f_parse_parser_tabs)) (.leaf n_parse_parser_quoted (a2 f_parse_parser_quoted))) (.node 183
(.leaf n_parse_parser_told_1 (a2 f_parse_parser_told_1)) (.leaf n_cmp_Or_int (a1 f_cmp_Or_int))))))) (.node 197
(.node 190
(.node 187
(.node 185
(.leaf n_cmp_Compare_int (a2 f_cmp_Compare_int)) (.node 186
(.leaf n_arena_Check (a2 f_arena_Check)) (.leaf n_graph_composer_first (a2 f_graph_composer_first)))) (.node 188
(.leaf n_graph_composer_named (a3 f_graph_composer_named)) (.node 189
(.leaf n_graph_composer_own (a2 f_graph_composer_own)) (.leaf n_graph_composer_scalar (a2 f_graph_composer_scalar))))) (.node 193
(.node 191
(.leaf n_graph_composer_alias (a2 f_graph_composer_alias)) (.node 192
(.leaf n_graph_composer_collection (a4 f_graph_composer_collection)) (.leaf n_slices_pdqsortCmpFunc_api_Diag (a5 f_slices_pdqsortCmpFunc_api_Diag)))) (.node 195
(.node 194
(.leaf n_math_bits_Len (a1 f_math_bits_Len)) (.leaf n_equal_parts (a1 f_equal_parts))) (.node 196
(.leaf n_lint_finder_kind (a2 f_lint_finder_kind)) (.leaf n_lint_finder_find (a4 f_lint_finder_find)))))) (.node 203
(.node 200
(.node 198
(.leaf n_lint_finder_bytes (a2 f_lint_finder_bytes)) (.node 199
(.leaf n_lint_counts (a1 f_lint_counts)) (.leaf n_slices_ContainsFunc_api_Token_api_Token (a2 f_slices_ContainsFunc_api_Token_api_Token)))) (.node 201
(.leaf n_lint_finder_empty_1 (a1 f_lint_finder_empty_1)) (.node 202
(.leaf n_slices_IndexFunc_api_Token_api_Token (a2 f_slices_IndexFunc_api_Token_api_Token)) (.leaf n_lint_finder_mark_1 (a1 f_lint_finder_mark_1))))) (.node 206
(.node 204
(.leaf n_chars_Blank (a1 f_chars_Blank)) (.node 205
(.leaf n_slices_DeleteFunc_int_int (a2 f_slices_DeleteFunc_int_int)) (.leaf n_lint_finder_twice_1 (a2 f_lint_finder_twice_1)))) (.node 208
(.node 207
(.leaf n_equal_Twice (a2 f_equal_Twice)) (.leaf n_lint_finder_where (a2 f_lint_finder_where))) (.node 209
(.leaf n_lint_Off (a2 f_lint_Off)) (.leaf n_lint_on_1 (a3 f_lint_on_1)))))))))) (.node 312
(.node 261
(.node 235
(.node 222
(.node 216
(.node 213
(.node 211
(.leaf n_slices_Contains_int_int (a2 f_slices_Contains_int_int)) (.node 212
(.leaf n_edit_Choose (a2 f_edit_Choose)) (.leaf n_suggest_Edits (a4 f_suggest_Edits)))) (.node 214
(.leaf n_fix_fixer_better (a2 f_fix_fixer_better)) (.node 215
(.leaf n_fix_fixer_round_1 (a2 f_fix_fixer_round_1)) (.leaf n_slices_Clone_api_Edit_api_Edit (a1 f_slices_Clone_api_Edit_api_Edit))))) (.node 219
(.node 217
(.leaf n_walk_token_1 (a2 f_walk_token_1)) (.node 218
(.leaf n_edit_one (a2 f_edit_one)) (.leaf n_internal_strconv_ParseInt (a3 f_internal_strconv_ParseInt)))) (.node 220
(.leaf n_strconv_syntaxError (a2 f_strconv_syntaxError)) (.node 221
(.leaf n_strconv_rangeError (a2 f_strconv_rangeError)) (.leaf n_strconv_baseError (a3 f_strconv_baseError)))))) (.node 228
(.node 225
(.node 223
(.leaf n_strconv_bitSizeError (a3 f_strconv_bitSizeError)) (.node 224
(.leaf n_internal_strconv_FormatInt (a2 f_internal_strconv_FormatInt)) (.leaf n_config_names (a0 f_config_names)))) (.node 226
(.leaf n_chars_Flow (a1 f_chars_Flow)) (.node 227
(.leaf n_chars_Name (a1 f_chars_Name)) (.leaf n_scan_scanner_names (a2 f_scan_scanner_names))))) (.node 231
(.node 229
(.leaf n_rows_counts (a1 f_rows_counts)) (.node 230
(.leaf n_rows_begin (a2 f_rows_begin)) (.leaf n_parse_counts (a1 f_parse_counts)))) (.node 233
(.node 232
(.leaf n_parse_parser_wrong (a5 f_parse_parser_wrong)) (.leaf n_parse_parser_add (a5 f_parse_parser_add))) (.node 234
(.leaf n_parse_parser_value (a4 f_parse_parser_value)) (.leaf n_arena_Grow (a3 f_arena_Grow))))))) (.node 248
(.node 241
(.node 238
(.node 236
(.leaf n_rows_Entries_1 (a3 f_rows_Entries_1)) (.node 237
(.leaf n_rows_property (a1 f_rows_property)) (.leaf n_rows_name (a1 f_rows_name)))) (.node 239
(.leaf n_slices_Clone_rows_Entry_rows_Entry (a1 f_slices_Clone_rows_Entry_rows_Entry)) (.node 240
(.leaf n_parse_parser_place (a2 f_parse_parser_place)) (.leaf n_slices_Contains_byte_byte (a2 f_slices_Contains_byte_byte))))) (.node 244
(.node 242
(.leaf n_quote_Text (a2 f_quote_Text)) (.node 243
(.leaf n_cmp_isNaN_int (a1 f_cmp_isNaN_int)) (.leaf n_arena_own (a1 f_arena_own)))) (.node 246
(.node 245
(.leaf n_arena_forest_lies (a2 f_arena_forest_lies)) (.leaf n_graph_composer_null (a1 f_graph_composer_null))) (.node 247
(.leaf n_graph_composer_last (a3 lastF)) (.leaf n_graph_composer_own_1 (a1 f_graph_composer_own_1)))))) (.node 254
(.node 251
(.node 249
(.leaf n_graph_composer_said (a2 f_graph_composer_said)) (.node 250
(.leaf n_graph_composer_value (a2 f_graph_composer_value)) (.leaf n_resolve_Tagged (a3 f_resolve_Tagged)))) (.node 252
(.leaf n_graph_composer_alias_1 (a1 f_graph_composer_alias_1)) (.node 253
(.leaf n_graph_composer_text (a2 f_graph_composer_text)) (.leaf n_graph_composer_all (a2 f_graph_composer_all))))) (.node 257
(.node 255
(.leaf n_slices_insertionSortCmpFunc_api_Diag (a4 f_slices_insertionSortCmpFunc_api_Diag)) (.node 256
(.leaf n_slices_heapSortCmpFunc_api_Diag (a4 f_slices_heapSortCmpFunc_api_Diag)) (.leaf n_slices_breakPatternsCmpFunc_api_Diag (a4 f_slices_breakPatternsCmpFunc_api_Diag)))) (.node 259
(.node 258
(.leaf n_slices_choosePivotCmpFunc_api_Diag (a4 f_slices_choosePivotCmpFunc_api_Diag)) (.leaf n_slices_reverseRangeCmpFunc_api_Diag (a4 f_slices_reverseRangeCmpFunc_api_Diag))) (.node 260
(.leaf n_slices_partialInsertionSortCmpFunc_api_Diag (a4 f_slices_partialInsertionSortCmpFunc_api_Diag)) (.leaf n_slices_partitionEqualCmpFunc_api_Diag (a5 f_slices_partitionEqualCmpFunc_api_Diag)))))))) (.node 286
(.node 273
(.node 267
(.node 264
(.node 262
(.leaf n_slices_partitionCmpFunc_api_Diag (a5 f_slices_partitionCmpFunc_api_Diag)) (.node 263
(.leaf n_math_bits_Len32 (a1 f_math_bits_Len32)) (.leaf n_math_bits_Len64 (a1 f_math_bits_Len64)))) (.node 265
(.leaf n_quote_Write (a1 f_quote_Write)) (.node 266
(.leaf n_equal_classes_of (a2 f_equal_classes_of)) (.leaf n_lint_finder_where_1 (a1 f_lint_finder_where_1))))) (.node 270
(.node 268
(.leaf n_slices_Sort_int_int (a1 f_slices_Sort_int_int)) (.node 269
(.leaf n_slices_Compact_int_int (a1 f_slices_Compact_int_int)) (.leaf n_slices_Index_int_int (a2 f_slices_Index_int_int)))) (.node 271
(.leaf n_slices_ContainsFunc_api_Edit_api_Edit (a2 f_slices_ContainsFunc_api_Edit_api_Edit)) (.node 272
(.leaf n_edit_Choose_1 (a2 f_edit_Choose_1)) (.leaf n_edit_upon (a2 f_edit_upon)))))) (.node 279
(.node 276
(.node 274
(.leaf n_slices_SortStableFunc_api_Edit_api_Edit (a2 f_slices_SortStableFunc_api_Edit_api_Edit)) (.node 275
(.leaf n_edit_Choose_2 (a2 f_edit_Choose_2)) (.leaf n_edit_order (a2 f_edit_order)))) (.node 277
(.leaf n_suggest_mender_wrong (a2 f_suggest_mender_wrong)) (.node 278
(.leaf n_suggest_mender_found (a2 f_suggest_mender_found)) (.leaf n_equal_Same (a2 f_equal_Same))))) (.node 282
(.node 280
(.leaf n_internal_strconv_ParseUint (a3 f_internal_strconv_ParseUint)) (.node 281
(.leaf n_internal_stringslite_Clone (a1 f_internal_stringslite_Clone)) (.leaf n_errors_New (a1 f_errors_New)))) (.node 284
(.node 283
(.leaf n_internal_strconv_small (a1 f_internal_strconv_small)) (.leaf n_internal_strconv_numDigits (a1 f_internal_strconv_numDigits))) (.node 285
(.leaf n_internal_strconv_formatBase10 (a2 f_internal_strconv_formatBase10)) (.leaf n_internal_strconv_formatBits (a5 f_internal_strconv_formatBits))))))) (.node 299
(.node 292
(.node 289
(.node 287
(.leaf n_chars_letter (a1 f_chars_letter)) (.node 288
(.leaf n_parse_parser_over (a3 f_parse_parser_over)) (.leaf n_arena_Add (a5 f_arena_Add)))) (.node 290
(.leaf n_flow_Value (a7 f_flow_Value)) (.node 291
(.leaf n_parse_parser_end (a2 f_parse_parser_end)) (.leaf n_arena_forest_has (a2 f_arena_forest_has))))) (.node 295
(.node 293
(.leaf n_arena_forest_grow (a3 f_arena_forest_grow)) (.node 294
(.leaf n_parse_parser_nest (a4 f_parse_parser_nest)) (.leaf n_parse_parser_cur (a2 f_parse_parser_cur)))) (.node 297
(.node 296
(.leaf n_slices_Index_byte_byte (a2 f_slices_Index_byte_byte)) (.leaf n_quote_of (a2 f_quote_of))) (.node 298
(.leaf n_slices_Clone_api_Node_api_Node (a1 f_slices_Clone_api_Node_api_Node)) (.leaf n_slices_Backward_api_Token_api_Token (a1 f_slices_Backward_api_Token_api_Token)))))) (.node 305
(.node 302
(.node 300
(.leaf n_block_Text (a2 f_block_Text)) (.node 301
(.leaf n_resolve_Kind (a1 f_resolve_Kind)) (.leaf n_graph_composer_all_1 (a4 f_graph_composer_all_1)))) (.node 303
(.leaf n_graph_composer_pair (a2 f_graph_composer_pair)) (.node 304
(.leaf n_slices_siftDownCmpFunc_api_Diag (a5 f_slices_siftDownCmpFunc_api_Diag)) (.leaf n_slices_nextPowerOfTwo (a1 f_slices_nextPowerOfTwo))))) (.node 308
(.node 306
(.leaf n_slices_xorshift_Next (a1 f_slices_xorshift_Next)) (.node 307
(.leaf n_slices_medianAdjacentCmpFunc_api_Diag (a4 f_slices_medianAdjacentCmpFunc_api_Diag)) (.leaf n_slices_medianCmpFunc_api_Diag (a6 f_slices_medianCmpFunc_api_Diag)))) (.node 310
(.node 309
(.leaf n_strings_Builder_WriteByte (a2 f_strings_Builder_WriteByte)) (.leaf n_quote_sign (a1 f_quote_sign))) (.node 311
(.leaf n_equal_key (a2 f_equal_key)) (.leaf n_slices_pdqsortOrdered_int (a4 f_slices_pdqsortOrdered_int))))))))) (.node 363
(.node 337
(.node 324
(.node 318
(.node 315
(.node 313
(.leaf n_slices_IndexFunc_api_Edit_api_Edit (a2 f_slices_IndexFunc_api_Edit_api_Edit)) (.node 314
(.leaf n_span_Meet (a2 f_span_Meet)) (.leaf n_slices_stableCmpFunc_api_Edit (a3 f_slices_stableCmpFunc_api_Edit)))) (.node 316
(.leaf n_suggest_put (a2 f_suggest_put)) (.node 317
(.leaf n_suggest_mender_sign (a2 f_suggest_mender_sign)) (.leaf n_suggest_mender_open (a2 f_suggest_mender_open))))) (.node 321
(.node 319
(.leaf n_slices_Equal_int_int (a2 f_slices_Equal_int_int)) (.node 320
(.leaf n_equal_docs (a2 f_equal_docs)) (.leaf n_internal_strconv_lower (a1 f_internal_strconv_lower)))) (.node 322
(.leaf n_internal_strconv_underscoreOK (a1 f_internal_strconv_underscoreOK)) (.node 323
(.leaf n_internal_strconv_log10Pow2 (a1 f_internal_strconv_log10Pow2)) (.leaf n_internal_strconv_bool2_int (a1 f_internal_strconv_bool2_int)))))) (.node 330
(.node 327
(.node 325
(.leaf n_internal_strconv_isPowerOfTwo (a1 f_internal_strconv_isPowerOfTwo)) (.node 326
(.leaf n_math_bits_TrailingZeros (a1 f_math_bits_TrailingZeros)) (.leaf n_arena_forest_end (a2 f_arena_forest_end)))) (.node 328
(.leaf n_flow_reader_value (a4 f_flow_reader_value)) (.node 329
(.leaf n_parse_parser_key (a3 f_parse_parser_key)) (.leaf n_slices_Backward_api_Token_api_Token_1 (a2 f_slices_Backward_api_Token_api_Token_1))))) (.node 333
(.node 331
(.leaf n_block_own (a1 f_block_own)) (.node 332
(.leaf n_block_empty (a1 f_block_empty)) (.leaf n_strings_Contains (a2 f_strings_Contains)))) (.node 335
(.node 334
(.leaf n_block_spaces (a2 f_block_spaces)) (.leaf n_slices_Clone_string_string (a1 f_slices_Clone_string_string))) (.node 336
(.leaf n_block_folded (a1 f_block_folded)) (.leaf n_resolve_Int (a1 f_resolve_Int))))))) (.node 350
(.node 343
(.node 340
(.node 338
(.leaf n_resolve_float (a1 f_resolve_float)) (.node 339
(.leaf n_slices_order2CmpFunc_api_Diag (a5 f_slices_order2CmpFunc_api_Diag)) (.leaf n_quote_digit (a1 f_quote_digit)))) (.node 341
(.leaf n_strconv_Quote (a1 f_strconv_Quote)) (.node 342
(.leaf n_slices_insertionSortOrdered_int (a3 f_slices_insertionSortOrdered_int)) (.leaf n_slices_heapSortOrdered_int (a3 f_slices_heapSortOrdered_int))))) (.node 346
(.node 344
(.leaf n_slices_breakPatternsOrdered_int (a3 f_slices_breakPatternsOrdered_int)) (.node 345
(.leaf n_slices_choosePivotOrdered_int (a3 f_slices_choosePivotOrdered_int)) (.leaf n_slices_reverseRangeOrdered_int (a3 f_slices_reverseRangeOrdered_int)))) (.node 348
(.node 347
(.leaf n_slices_partialInsertionSortOrdered_int (a3 f_slices_partialInsertionSortOrdered_int)) (.leaf n_cmp_Less_int (a2 f_cmp_Less_int))) (.node 349
(.leaf n_slices_partitionEqualOrdered_int (a4 f_slices_partitionEqualOrdered_int)) (.leaf n_slices_partitionOrdered_int (a4 f_slices_partitionOrdered_int)))))) (.node 356
(.node 353
(.node 351
(.leaf n_slices_insertionSortCmpFunc_api_Edit (a4 f_slices_insertionSortCmpFunc_api_Edit)) (.node 352
(.leaf n_slices_symMergeCmpFunc_api_Edit (a5 f_slices_symMergeCmpFunc_api_Edit)) (.leaf n_suggest_mender_open_1 (a2 f_suggest_mender_open_1)))) (.node 354
(.leaf n_suggest_counts (a1 f_suggest_counts)) (.node 355
(.leaf n_math_bits_TrailingZeros32 (a1 f_math_bits_TrailingZeros32)) (.leaf n_math_bits_TrailingZeros64 (a1 f_math_bits_TrailingZeros64))))) (.node 359
(.node 357
(.leaf n_flow_reader_blanks (a2 f_flow_reader_blanks)) (.node 358
(.leaf n_flow_property (a1 f_flow_property)) (.leaf n_flow_reader_kind (a2 f_flow_reader_kind)))) (.node 361
(.node 360
(.leaf n_flow_reader_add (a5 f_flow_reader_add)) (.leaf n_flow_reader_texts (a2 f_flow_reader_texts))) (.node 362
(.leaf n_flow_opens (a1 f_flow_opens)) (.leaf n_flow_reader_closed (a2 f_flow_reader_closed)))))))) (.node 388
(.node 375
(.node 369
(.node 366
(.node 364
(.leaf n_flow_reader_wrong (a5 f_flow_reader_wrong)) (.node 365
(.leaf n_flow_reader_collection (a5 f_flow_reader_collection)) (.leaf n_parse_parser_key_1 (a1 f_parse_parser_key_1)))) (.node 367
(.leaf n_strings_IndexAny (a2 f_strings_IndexAny)) (.node 368
(.leaf n_block_between (a3 f_block_between)) (.leaf n_resolve_sign (a1 f_resolve_sign))))) (.node 372
(.node 370
(.leaf n_resolve_number (a2 f_resolve_number)) (.node 371
(.leaf n_resolve_digits (a1 f_resolve_digits)) (.leaf n_strings_CutPrefix (a2 f_strings_CutPrefix)))) (.node 373
(.leaf n_strconv_quoteWith (a4 f_strconv_quoteWith)) (.node 374
(.leaf n_slices_siftDownOrdered_int (a4 f_slices_siftDownOrdered_int)) (.leaf n_slices_medianAdjacentOrdered_int (a3 f_slices_medianAdjacentOrdered_int)))))) (.node 381
(.node 378
(.node 376
(.leaf n_slices_medianOrdered_int (a5 f_slices_medianOrdered_int)) (.node 377
(.leaf n_slices_rotateCmpFunc_api_Edit (a5 f_slices_rotateCmpFunc_api_Edit)) (.leaf n_flow_counts (a1 f_flow_counts)))) (.node 379
(.leaf n_flow_ends (a1 f_flow_ends)) (.node 380
(.leaf n_flow_mark (a1 f_flow_mark)) (.leaf n_flow_reader_over (a3 f_flow_reader_over))))) (.node 384
(.node 382
(.leaf n_flow_reader_tell (a4 f_flow_reader_tell)) (.node 383
(.leaf n_flow_reader_past (a2 f_flow_reader_past)) (.leaf n_flow_reader_key (a2 f_flow_reader_key)))) (.node 386
(.node 385
(.leaf n_flow_reader_stray (a2 f_flow_reader_stray)) (.leaf n_flow_reader_pair (a5 f_flow_reader_pair))) (.node 387
(.leaf n_flow_reader_one (a5 f_flow_reader_one)) (.leaf n_strings_IndexRune (a2 f_strings_IndexRune))))))) (.node 401
(.node 394
(.node 391
(.node 389
(.leaf n_strings_shouldUseASCIISet (a1 f_strings_shouldUseASCIISet)) (.node 390
(.leaf n_strings_makeASCIISet (a1 f_strings_makeASCIISet)) (.leaf n_strings_asciiSet_contains (a2 f_strings_asciiSet_contains)))) (.node 392
(.leaf n_resolve_value (a2 f_resolve_value)) (.node 393
(.leaf n_internal_stringslite_CutPrefix (a2 f_internal_stringslite_CutPrefix)) (.leaf n_strconv_appendQuotedWith (a5 f_strconv_appendQuotedWith))))) (.node 397
(.node 395
(.leaf n_slices_order2Ordered_int (a4 f_slices_order2Ordered_int)) (.node 396
(.leaf n_slices_swapRangeCmpFunc_api_Edit (a5 f_slices_swapRangeCmpFunc_api_Edit)) (.leaf n_flow_name (a1 f_flow_name)))) (.node 399
(.node 398
(.leaf n_flow_reader_scalar (a4 f_flow_reader_scalar)) (.leaf n_unicode_utf8_ValidRune (a1 f_unicode_utf8_ValidRune))) (.node 400
(.leaf n_strconv_appendEscapedRune (a5 f_strconv_appendEscapedRune)) (.leaf n_flow_reader_scalar_1 (a1 f_flow_reader_scalar_1)))))) (.node 407
(.node 404
(.node 402
(.leaf n_strconv_IsPrint (a1 f_strconv_IsPrint)) (.node 403
(.leaf n_strconv_isInGraphicList (a1 f_strconv_isInGraphicList)) (.leaf n_unicode_utf8_AppendRune (a2 f_unicode_utf8_AppendRune)))) (.node 405
(.leaf n_strconv_bsearch_uint16_uint16 (a2 f_strconv_bsearch_uint16_uint16)) (.node 406
(.leaf n_strconv_bsearch_uint32_uint32 (a2 f_strconv_bsearch_uint32_uint32)) (.leaf n_unicode_utf8_appendRuneNonASCII (a2 f_unicode_utf8_appendRuneNonASCII))))) (.node 429
(.node 427
(.leaf n_quote_plain_tell (a1 f_quote_plain_tell)) (.node 428
(.leaf n_quote_single_tell (a1 f_quote_single_tell)) (.leaf n_quote_double_tell (a1 f_quote_double_tell)))) (.node 431
(.node 430
(.leaf n_chars_Escape (a1 f_chars_Escape)) (.leaf n_chars_plain (a1 f_chars_plain))) (.node 432
(.leaf n_chars_digits (a1 f_chars_digits)) (.leaf n_chars_number (a1 f_chars_number)))))))))))
theorem tab_ok : tab.All Tryz.prog :=
⟨⟨⟨⟨⟨⟨⟨⟨o_correctorlaw22_ShellBad,
⟨o_correctorlaw22_ShellFixes,
 o_correctorlaw22_known⟩⟩,
⟨o_correctorlaw22_within,
⟨o_shell_Run,
 o_correctorlaw22_num⟩⟩⟩,
⟨⟨o_strings_Split,
⟨o_shell_begun,
 o_shell_script_line⟩⟩,
⟨o_strings_Repeat,
⟨o_strings_genSplit,
 o_config_Plain⟩⟩⟩⟩,
⟨⟨⟨o_shell_script_commands,
⟨o_shell_Words,
 o_api_Errno_Error⟩⟩,
⟨o_shell_split,
⟨o_math_bits_Mul,
 o_strings_HasPrefix⟩⟩⟩,
⟨⟨o_strings_Builder_Grow,
⟨o_strings_Builder_WriteString,
 o_strings_Builder_Len⟩⟩,
⟨⟨o_strings_Builder_String,
 o_strings_explode⟩,
⟨o_strings_Count,
 o_strings_Index⟩⟩⟩⟩⟩,
⟨⟨⟨⟨o_shell_script_text,
⟨o_shell_script_empty,
 o_shell_script_config⟩⟩,
⟨o_shell_script_tokens,
⟨o_shell_script_tree,
 o_shell_script_diags⟩⟩⟩,
⟨⟨o_shell_script_graph,
⟨o_shell_script_lint,
 o_shell_script_fix⟩⟩,
⟨o_shell_script_place,
⟨o_shell_script_at,
 o_shell_script_edit⟩⟩⟩⟩,
⟨⟨⟨o_shell_script_show,
⟨o_shell_quoted,
 o_api_late⟩⟩,
⟨o_shell_number,
⟨o_math_bits_Mul32,
 o_math_bits_Mul64⟩⟩⟩,
⟨⟨o_internal_stringslite_HasPrefix,
⟨o_strings_Builder_copyCheck,
 o_strings_Builder_grow⟩⟩,
⟨⟨o_unicode_utf8_RuneCountInString,
 o_unicode_utf8_DecodeRuneInString⟩,
⟨o_internal_stringslite_Index,
 o_slices_Concat_byte_byte⟩⟩⟩⟩⟩⟩,
⟨⟨⟨⟨⟨o_shell_told,
⟨o_config_Parse,
 o_shell_answer⟩⟩,
⟨o_scan_Tokens,
⟨o_shell_script_read,
 o_shell_Quote⟩⟩⟩,
⟨⟨o_diag_Render,
⟨o_parse_Tree,
 o_graph_Compose⟩⟩,
⟨o_equal_Print,
⟨o_lint_Find,
 o_fix_Fix⟩⟩⟩⟩,
⟨⟨⟨o_lines_Place,
⟨o_walk_At,
 o_edit_Apply⟩⟩,
⟨o_shell_escape,
⟨o_strings_TrimPrefix,
 o_strconv_Atoi⟩⟩⟩,
⟨⟨o_unicode_utf8_decodeRuneInStringSlow,
⟨o_internal_stringslite_IndexByte,
 o_internal_bytealg_Cutover⟩⟩,
⟨⟨o_internal_bytealg_IndexRabinKarp_string,
 o_slices_Grow_byte_byte⟩,
⟨o_strconv_Itoa,
 o_strings_Join⟩⟩⟩⟩⟩,
⟨⟨⟨⟨o_config_line,
⟨o_config_words,
 o_config_Check⟩⟩,
⟨o_scan_scanner_begin,
⟨o_scan_scanner_begun,
 o_scan_scanner_loose⟩⟩⟩,
⟨⟨o_scan_scanner_sign,
⟨o_scan_scanner_text,
 o_slices_Clone_api_Token_api_Token⟩⟩,
⟨⟨o_walk_Order,
 o_walk_Span⟩,
⟨o_diag_Sort,
 o_slices_Concat_api_Diag_api_Diag⟩⟩⟩⟩,
⟨⟨⟨o_diag_place,
⟨o_diag_Text,
 o_rows_Rows⟩⟩,
⟨o_arena_New,
⟨o_parse_parser_row,
 o_parse_parser_told⟩⟩⟩,
⟨⟨o_graph_fits,
⟨o_graph_composer_node,
 o_slices_SortFunc_api_Diag_api_Diag⟩⟩,
⟨⟨o_graph_order,
 o_slices_Clone_api_Value_api_Value⟩,
⟨o_slices_Clone_int_int,
 o_slices_Clone_api_Diag_api_Diag⟩⟩⟩⟩⟩⟩⟩,
⟨⟨⟨⟨⟨⟨o_slices_Compact_api_Diag_api_Diag,
⟨o_equal_count,
 o_equal_write⟩⟩,
⟨o_lint_finder_trail,
⟨o_lint_finder_long,
 o_lint_finder_step⟩⟩⟩,
⟨⟨o_lint_finder_empty,
⟨o_lint_finder_mark,
 o_lint_finder_hash⟩⟩,
⟨o_lint_finder_comma,
⟨o_lint_finder_twice,
 o_lint_finder_end⟩⟩⟩⟩,
⟨⟨⟨o_lint_on,
⟨o_fix_fixer_look,
 round_ok⟩⟩,
⟨o_slices_Clone_byte_byte,
⟨o_slices_Clone_fix_Round_fix_Round,
 o_lines_Starts⟩⟩⟩,
⟨⟨o_walk_token,
⟨o_slices_IndexFunc_int_int,
 o_walk_At_1⟩⟩,
⟨⟨o_walk_has,
 o_edit_Check⟩,
⟨o_strings_IndexByte,
 o_internal_stringslite_TrimPrefix⟩⟩⟩⟩⟩,
⟨⟨⟨⟨o_internal_strconv_Atoi,
⟨o_strconv_toError,
 o_internal_bytealg_hashStr_string⟩⟩,
⟨o_internal_strconv_Itoa,
⟨o_config_rules,
 o_config_place⟩⟩⟩,
⟨⟨o_config_number,
⟨o_strings_FieldsFunc,
 o_config_words_1⟩⟩,
⟨⟨o_config_within,
 o_scan_scanner_mark⟩,
⟨o_scan_scanner_token,
 o_scan_scanner_spaces⟩⟩⟩⟩,
⟨⟨⟨o_scan_scanner_brk,
⟨o_scan_scanner_blanks,
 o_scan_scanner_last⟩⟩,
⟨o_scan_scanner_there,
⟨o_scan_scanner_line,
 o_scan_scanner_brackets⟩⟩⟩,
⟨⟨o_scan_scanner_space,
⟨o_scan_scanner_colon,
 o_scan_scanner_property⟩⟩,
⟨⟨o_scan_scanner_single,
 o_scan_scanner_double⟩,
⟨o_scan_scanner_head,
 o_scan_scanner_texts⟩⟩⟩⟩⟩⟩,
⟨⟨⟨⟨⟨o_runes_Next,
⟨o_scan_scanner_plain,
 o_walk_Order_1⟩⟩,
⟨o_walk_ends,
⟨o_diag_Sort_1,
 o_diag_order⟩⟩⟩,
⟨⟨o_slices_Grow_api_Diag_api_Diag,
⟨o_diag_words,
 o_rows_Rows_1⟩⟩,
⟨o_rows_kind,
⟨o_rows_brackets,
 o_slices_Clone_api_Row_api_Row⟩⟩⟩⟩,
⟨⟨⟨o_parse_parser_first,
⟨o_parse_parser_amiss,
 o_parse_parser_mark⟩⟩,
⟨o_parse_parser_document,
⟨o_rows_Entries,
 o_parse_parser_loose⟩⟩⟩,
⟨⟨o_parse_parser_entries,
⟨o_runes_Bad,
 o_parse_parser_tell⟩⟩,
⟨⟨o_parse_parser_tabs,
 o_parse_parser_quoted⟩,
⟨o_parse_parser_told_1,
 o_cmp_Or_int⟩⟩⟩⟩⟩,
⟨⟨⟨⟨o_cmp_Compare_int,
⟨o_arena_Check,
 o_graph_composer_first⟩⟩,
⟨o_graph_composer_named,
⟨o_graph_composer_own,
 o_graph_composer_scalar⟩⟩⟩,
⟨⟨o_graph_composer_alias,
⟨o_graph_composer_collection,
 o_slices_pdqsortCmpFunc_api_Diag⟩⟩,
⟨⟨o_math_bits_Len,
 o_equal_parts⟩,
⟨o_lint_finder_kind,
 o_lint_finder_find⟩⟩⟩⟩,
⟨⟨⟨o_lint_finder_bytes,
⟨o_lint_counts,
 o_slices_ContainsFunc_api_Token_api_Token⟩⟩,
⟨o_lint_finder_empty_1,
⟨o_slices_IndexFunc_api_Token_api_Token,
 o_lint_finder_mark_1⟩⟩⟩,
⟨⟨o_chars_Blank,
⟨o_slices_DeleteFunc_int_int,
 o_lint_finder_twice_1⟩⟩,
⟨⟨o_equal_Twice,
 o_lint_finder_where⟩,
⟨o_lint_Off,
 o_lint_on_1⟩⟩⟩⟩⟩⟩⟩⟩,
⟨⟨⟨⟨⟨⟨⟨o_slices_Contains_int_int,
⟨o_edit_Choose,
 o_suggest_Edits⟩⟩,
⟨o_fix_fixer_better,
⟨o_fix_fixer_round_1,
 o_slices_Clone_api_Edit_api_Edit⟩⟩⟩,
⟨⟨o_walk_token_1,
⟨o_edit_one,
 o_internal_strconv_ParseInt⟩⟩,
⟨o_strconv_syntaxError,
⟨o_strconv_rangeError,
 o_strconv_baseError⟩⟩⟩⟩,
⟨⟨⟨o_strconv_bitSizeError,
⟨o_internal_strconv_FormatInt,
 o_config_names⟩⟩,
⟨o_chars_Flow,
⟨o_chars_Name,
 o_scan_scanner_names⟩⟩⟩,
⟨⟨o_rows_counts,
⟨o_rows_begin,
 o_parse_counts⟩⟩,
⟨⟨o_parse_parser_wrong,
 o_parse_parser_add⟩,
⟨o_parse_parser_value,
 o_arena_Grow⟩⟩⟩⟩⟩,
⟨⟨⟨⟨o_rows_Entries_1,
⟨o_rows_property,
 o_rows_name⟩⟩,
⟨o_slices_Clone_rows_Entry_rows_Entry,
⟨o_parse_parser_place,
 o_slices_Contains_byte_byte⟩⟩⟩,
⟨⟨o_quote_Text,
⟨o_cmp_isNaN_int,
 o_arena_own⟩⟩,
⟨⟨o_arena_forest_lies,
 o_graph_composer_null⟩,
⟨last_ok,
 o_graph_composer_own_1⟩⟩⟩⟩,
⟨⟨⟨o_graph_composer_said,
⟨o_graph_composer_value,
 o_resolve_Tagged⟩⟩,
⟨o_graph_composer_alias_1,
⟨o_graph_composer_text,
 o_graph_composer_all⟩⟩⟩,
⟨⟨o_slices_insertionSortCmpFunc_api_Diag,
⟨o_slices_heapSortCmpFunc_api_Diag,
 o_slices_breakPatternsCmpFunc_api_Diag⟩⟩,
⟨⟨o_slices_choosePivotCmpFunc_api_Diag,
 o_slices_reverseRangeCmpFunc_api_Diag⟩,
⟨o_slices_partialInsertionSortCmpFunc_api_Diag,
 o_slices_partitionEqualCmpFunc_api_Diag⟩⟩⟩⟩⟩⟩,
⟨⟨⟨⟨⟨o_slices_partitionCmpFunc_api_Diag,
⟨o_math_bits_Len32,
 o_math_bits_Len64⟩⟩,
⟨o_quote_Write,
⟨o_equal_classes_of,
 o_lint_finder_where_1⟩⟩⟩,
⟨⟨o_slices_Sort_int_int,
⟨o_slices_Compact_int_int,
 o_slices_Index_int_int⟩⟩,
⟨o_slices_ContainsFunc_api_Edit_api_Edit,
⟨o_edit_Choose_1,
 o_edit_upon⟩⟩⟩⟩,
⟨⟨⟨o_slices_SortStableFunc_api_Edit_api_Edit,
⟨o_edit_Choose_2,
 o_edit_order⟩⟩,
⟨o_suggest_mender_wrong,
⟨o_suggest_mender_found,
 o_equal_Same⟩⟩⟩,
⟨⟨o_internal_strconv_ParseUint,
⟨o_internal_stringslite_Clone,
 o_errors_New⟩⟩,
⟨⟨o_internal_strconv_small,
 o_internal_strconv_numDigits⟩,
⟨o_internal_strconv_formatBase10,
 o_internal_strconv_formatBits⟩⟩⟩⟩⟩,
⟨⟨⟨⟨o_chars_letter,
⟨o_parse_parser_over,
 o_arena_Add⟩⟩,
⟨o_flow_Value,
⟨o_parse_parser_end,
 o_arena_forest_has⟩⟩⟩,
⟨⟨o_arena_forest_grow,
⟨o_parse_parser_nest,
 o_parse_parser_cur⟩⟩,
⟨⟨o_slices_Index_byte_byte,
 o_quote_of⟩,
⟨o_slices_Clone_api_Node_api_Node,
 o_slices_Backward_api_Token_api_Token⟩⟩⟩⟩,
⟨⟨⟨o_block_Text,
⟨o_resolve_Kind,
 o_graph_composer_all_1⟩⟩,
⟨o_graph_composer_pair,
⟨o_slices_siftDownCmpFunc_api_Diag,
 o_slices_nextPowerOfTwo⟩⟩⟩,
⟨⟨o_slices_xorshift_Next,
⟨o_slices_medianAdjacentCmpFunc_api_Diag,
 o_slices_medianCmpFunc_api_Diag⟩⟩,
⟨⟨o_strings_Builder_WriteByte,
 o_quote_sign⟩,
⟨o_equal_key,
 o_slices_pdqsortOrdered_int⟩⟩⟩⟩⟩⟩⟩,
⟨⟨⟨⟨⟨⟨o_slices_IndexFunc_api_Edit_api_Edit,
⟨o_span_Meet,
 o_slices_stableCmpFunc_api_Edit⟩⟩,
⟨o_suggest_put,
⟨o_suggest_mender_sign,
 o_suggest_mender_open⟩⟩⟩,
⟨⟨o_slices_Equal_int_int,
⟨o_equal_docs,
 o_internal_strconv_lower⟩⟩,
⟨o_internal_strconv_underscoreOK,
⟨o_internal_strconv_log10Pow2,
 o_internal_strconv_bool2_int⟩⟩⟩⟩,
⟨⟨⟨o_internal_strconv_isPowerOfTwo,
⟨o_math_bits_TrailingZeros,
 o_arena_forest_end⟩⟩,
⟨o_flow_reader_value,
⟨o_parse_parser_key,
 o_slices_Backward_api_Token_api_Token_1⟩⟩⟩,
⟨⟨o_block_own,
⟨o_block_empty,
 o_strings_Contains⟩⟩,
⟨⟨o_block_spaces,
 o_slices_Clone_string_string⟩,
⟨o_block_folded,
 o_resolve_Int⟩⟩⟩⟩⟩,
⟨⟨⟨⟨o_resolve_float,
⟨o_slices_order2CmpFunc_api_Diag,
 o_quote_digit⟩⟩,
⟨o_strconv_Quote,
⟨o_slices_insertionSortOrdered_int,
 o_slices_heapSortOrdered_int⟩⟩⟩,
⟨⟨o_slices_breakPatternsOrdered_int,
⟨o_slices_choosePivotOrdered_int,
 o_slices_reverseRangeOrdered_int⟩⟩,
⟨⟨o_slices_partialInsertionSortOrdered_int,
 o_cmp_Less_int⟩,
⟨o_slices_partitionEqualOrdered_int,
 o_slices_partitionOrdered_int⟩⟩⟩⟩,
⟨⟨⟨o_slices_insertionSortCmpFunc_api_Edit,
⟨o_slices_symMergeCmpFunc_api_Edit,
 o_suggest_mender_open_1⟩⟩,
⟨o_suggest_counts,
⟨o_math_bits_TrailingZeros32,
 o_math_bits_TrailingZeros64⟩⟩⟩,
⟨⟨o_flow_reader_blanks,
⟨o_flow_property,
 o_flow_reader_kind⟩⟩,
⟨⟨o_flow_reader_add,
 o_flow_reader_texts⟩,
⟨o_flow_opens,
 o_flow_reader_closed⟩⟩⟩⟩⟩⟩,
⟨⟨⟨⟨⟨o_flow_reader_wrong,
⟨o_flow_reader_collection,
 o_parse_parser_key_1⟩⟩,
⟨o_strings_IndexAny,
⟨o_block_between,
 o_resolve_sign⟩⟩⟩,
⟨⟨o_resolve_number,
⟨o_resolve_digits,
 o_strings_CutPrefix⟩⟩,
⟨o_strconv_quoteWith,
⟨o_slices_siftDownOrdered_int,
 o_slices_medianAdjacentOrdered_int⟩⟩⟩⟩,
⟨⟨⟨o_slices_medianOrdered_int,
⟨o_slices_rotateCmpFunc_api_Edit,
 o_flow_counts⟩⟩,
⟨o_flow_ends,
⟨o_flow_mark,
 o_flow_reader_over⟩⟩⟩,
⟨⟨o_flow_reader_tell,
⟨o_flow_reader_past,
 o_flow_reader_key⟩⟩,
⟨⟨o_flow_reader_stray,
 o_flow_reader_pair⟩,
⟨o_flow_reader_one,
 o_strings_IndexRune⟩⟩⟩⟩⟩,
⟨⟨⟨⟨o_strings_shouldUseASCIISet,
⟨o_strings_makeASCIISet,
 o_strings_asciiSet_contains⟩⟩,
⟨o_resolve_value,
⟨o_internal_stringslite_CutPrefix,
 o_strconv_appendQuotedWith⟩⟩⟩,
⟨⟨o_slices_order2Ordered_int,
⟨o_slices_swapRangeCmpFunc_api_Edit,
 o_flow_name⟩⟩,
⟨⟨o_flow_reader_scalar,
 o_unicode_utf8_ValidRune⟩,
⟨o_strconv_appendEscapedRune,
 o_flow_reader_scalar_1⟩⟩⟩⟩,
⟨⟨⟨o_strconv_IsPrint,
⟨o_strconv_isInGraphicList,
 o_unicode_utf8_AppendRune⟩⟩,
⟨o_strconv_bsearch_uint16_uint16,
⟨o_strconv_bsearch_uint32_uint32,
 o_unicode_utf8_appendRuneNonASCII⟩⟩⟩,
⟨⟨o_quote_plain_tell,
⟨o_quote_single_tell,
 o_quote_double_tell⟩⟩,
⟨⟨o_chars_Escape,
 o_chars_plain⟩,
⟨o_chars_digits,
 o_chars_number⟩⟩⟩⟩⟩⟩⟩⟩⟩
end Go.Proofs.YtmlhpcflphlgdaaGreatDoor
