/- Functions, as they run. PRINTED by a program of this repo. -/
import Derived.Test.YtmlhpcflphlgdaaGreatDoorN
import Derived.Test.YtmlhpcflphlgdaaGreatDoorM
set_option linter.unusedVariables false
set_option maxRecDepth 100000
namespace Go.Proofs.YtmlhpcflphlgdaaGreatDoor
open Go.Ev
/- slices.Clone[[]corrector/api.Edit,corrector/api.Edit] -/
noncomputable def f_slices_Clone_api_Edit_api_Edit (n : Nat) (call : Caller)  (x0 : AV) (h : AH) : Ans :=
 oB (bEq .sl x0 .nils) fun x4_0 =>
 ci x4_0 (
 some (.nils, h)) (
 oP (oBuildSl h 124 3 0 [] []) fun x5_1 h1 =>
 oP (evW (.append 124 3 32 [(I 0), (I 0), (.str [])] (.c x5_1) (.c x0)) .e h1) fun x7_2 h2 =>
 some (x7_2, h2))
theorem o_slices_Clone_api_Edit_api_Edit : FnOK Tryz.prog n_slices_Clone_api_Edit_api_Edit (a1 f_slices_Clone_api_Edit_api_Edit) := ok1 mixed Tryz.func216 (by kernel_rfl)
/- corrector/walk.token$1 -/
noncomputable def f_walk_token_1 (n : Nat) (call : Caller)  (x0 x1 : AV) (h : AH) : Ans :=
 oP (oNew h 92 (AV.cells x0)) fun x2_0 h0 =>
 oB (oLd h0 x1) fun x4_1 =>
 oB (oFA 1 x2_0) fun x5_2 =>
 oB (oLd h0 x5_2) fun x6_3 =>
 oB (bGe x4_1 x6_3) fun x7_4 =>
 oB (gq x7_4 true (oLd h0 x1)) fun x9_5 =>
 oB (gq x7_4 true (oFA 2 x2_0)) fun x10_6 =>
 oB (gq x7_4 true (oLd h0 x10_6)) fun x11_7 =>
 oB (gq x7_4 true (bLt x9_5 x11_7)) fun x12_8 =>
 oB (oPick x7_4 x12_8 (.bool false)) fun x13_9 =>
 some (x13_9, h0)
theorem o_walk_token_1 : FnOK Tryz.prog n_walk_token_1 (a2 f_walk_token_1) := ok2 mixed Tryz.func217 (by kernel_rfl)
/- corrector/edit.one -/
noncomputable def f_edit_one (n : Nat) (call : Caller)  (x0 x1 : AV) (h : AH) : Ans :=
 oP (oNew h 124 (AV.cells x1)) fun x3_0 h0 =>
 jnF 0 (fun h1 =>
 some ((I 0), h1)) fun j1 =>
 oB (oFA 0 x3_0) fun x6_2 =>
 oB (oLd h0 x6_2) fun x7_3 =>
 oB (bLt x7_3 (I 0)) fun x8_4 =>
 oB (gq x8_4 false (oFA 0 x3_0)) fun x10_5 =>
 oB (gq x8_4 false (oLd h0 x10_5)) fun x11_6 =>
 oB (gq x8_4 false (oFA 1 x3_0)) fun x12_7 =>
 oB (gq x8_4 false (oLd h0 x12_7)) fun x13_8 =>
 oB (gq x8_4 false (bGt x11_6 x13_8)) fun x14_9 =>
 oB (oPick x8_4 (.bool true) x14_9) fun x15_10 =>
 oB (gq x15_10 false (oFA 1 x3_0)) fun x17_11 =>
 oB (gq x15_10 false (oLd h0 x17_11)) fun x18_12 =>
 oB (gq x15_10 false (some x0)) fun x19_13 =>
 oB (gq x15_10 false (bGt x18_12 x19_13)) fun x20_14 =>
 oB (oPick x15_10 (.bool true) x20_14) fun x21_15 =>
 ci x21_15 (
 some ((I 1), h0)) (
 oB (oFA 2 x3_0) fun x23_16 =>
 oB (oLd h0 x23_16) fun x24_17 =>
 oB (oLenS x24_17) fun x25_18 =>
 oB (bGt x25_18 (I 1000)) fun x26_19 =>
 ci x26_19 (
 some ((I 4), h0)) (
 j1 h0))
theorem o_edit_one : FnOK Tryz.prog n_edit_one (a2 f_edit_one) := ok2 mixed Tryz.func218 (by kernel_rfl)
/- internal/strconv.ParseInt -/
noncomputable def f_internal_strconv_ParseInt (n : Nat) (call : Caller)  (x0 x1 x2 : AV) (h : AH) : Ans :=
 oB (bEq .no x0 (.str [])) fun x13_0 =>
 ci x13_0 (
 oB (some (.iface 255 (I 2))) fun x14_1 =>
 some (.tup [(I 0), x14_1], h)) (
 oB (oIxS x0 (I 0)) fun x16_2 =>
 jnF 4 (fun z8_3 z2_3 z1_3 z0_3 h3 =>
 oP (call n_internal_strconv_ParseUint [z0_3, z1_3, z2_3] h3) fun x29_4 h4 =>
 oB (oEx 0 x29_4) fun x30_5 =>
 oB (oEx 1 x29_4) fun x31_6 =>
 oB (evQ (.isNil true (.c x31_6)) .e h4) fun x33_7 =>
 oB (gq x33_7 true (some x31_6)) fun x35_8 =>
 oB (gq x33_7 true (some (.iface 255 (I 1)))) fun x36_9 =>
 oB (gq x33_7 true (evQ (.bad) .e h4)) fun x37_10 =>
 oB (oPick x33_7 x37_10 (.bool false)) fun x38_11 =>
 ci x38_11 (
 some (.tup [(I 0), x31_6], h4)) (
 oB (bEq .no z2_3 (I 0)) fun x41_12 =>
 jnF 3 (fun z9_13 z8_13 z2_13 h13 =>
 oB (bSub z2_13 (I 1)) fun x43_14 =>
 oB (oInt .u64 x43_14) fun x44_15 =>
 oB (binAV .shl .no (.int .u64 1) x44_15) fun x45_16 =>
 oB (evQ (.un .not (.c z8_13)) .e h13) fun x47_17 =>
 oB (gq x47_17 true (some z9_13)) fun x49_18 =>
 oB (gq x47_17 true (some x45_16)) fun x50_19 =>
 oB (gq x47_17 true (bGe x49_18 x50_19)) fun x51_20 =>
 oB (oPick x47_17 x51_20 (.bool false)) fun x52_21 =>
 ci x52_21 (
 oB (bSub x45_16 (.int .u64 1)) fun x54_22 =>
 oB (oInt .i64 x54_22) fun x55_23 =>
 oB (some (.iface 255 (I 1))) fun x56_24 =>
 some (.tup [x55_23, x56_24], h13)) (
 oB (gq z8_13 true (some z9_13)) fun x59_25 =>
 oB (gq z8_13 true (some x45_16)) fun x60_26 =>
 oB (gq z8_13 true (bGt x59_25 x60_26)) fun x61_27 =>
 oB (oPick z8_13 x61_27 (.bool false)) fun x62_28 =>
 ci x62_28 (
 oB (oInt .i64 x45_16) fun x64_29 =>
 oB (evQ (.un .neg (.c x64_29)) .e h13) fun x65_30 =>
 oB (some (.iface 255 (I 1))) fun x66_31 =>
 some (.tup [x65_30, x66_31], h13)) (
 oB (oInt .i64 z9_13) fun x68_32 =>
 jnF 1 (fun z11_33 h33 =>
 some (.tup [z11_33, .nili], h33)) fun j33 =>
 ci z8_13 (
 oB (evQ (.un .neg (.c x68_32)) .e h13) fun x71_34 =>
 j33 x71_34 h13) (
 j33 x68_32 h13)))) fun j13 =>
 ci x41_12 (
 j13 x30_5 z8_3 (I 64) h4) (
 j13 x30_5 z8_3 z2_3 h4))) fun j3 =>
 oB (bEq .no x16_2 (U 43)) fun x18_35 =>
 jnF 4 (fun z8_36 z2_36 z1_36 z0_36 h36 =>
 j3 z8_36 z2_36 z1_36 z0_36 h36) fun j36 =>
 ci x18_35 (
 oB (oSlS x0 (some (I 1)) none) fun x20_37 =>
 j36 (.bool false) x2 x1 x20_37 h) (
 oB (bEq .no x16_2 (U 45)) fun x22_38 =>
 jnF 4 (fun z8_39 z2_39 z1_39 z0_39 h39 =>
 j36 z8_39 z2_39 z1_39 z0_39 h39) fun j39 =>
 ci x22_38 (
 oB (oSlS x0 (some (I 1)) none) fun x24_40 =>
 j39 (.bool true) x2 x1 x24_40 h) (
 j39 (.bool false) x2 x1 x0 h)))
theorem o_internal_strconv_ParseInt : FnOK Tryz.prog n_internal_strconv_ParseInt (a3 f_internal_strconv_ParseInt) := ok3 mixed Tryz.func219 (by kernel_rfl)
/- strconv.syntaxError -/
noncomputable def f_strconv_syntaxError (n : Nat) (call : Caller)  (x0 x1 : AV) (h : AH) : Ans :=
 oB' (nx 7 h) fun h0 =>
 oP (call n_internal_stringslite_Clone [x1] h0) fun x7_1 h1 =>
 oB (evQ (.bad) .e h1) fun x8_2 =>
 oB (oBuild [(.str []), (.str []), .nili] [(0, 1, x0), (1, 1, x7_1), (2, 1, x8_2)]) fun x9_3 =>
 fl1 true (evF (.box 323 (.c x9_3)) .e) (Nat.add h.next 5) fun x10_4 o4 =>
 oB' (lay1 (Nat.add h.next 5) o4 h1) fun v5 =>
 some (x10_4, v5)
theorem o_strconv_syntaxError : FnOK Tryz.prog n_strconv_syntaxError (a2 f_strconv_syntaxError) := ok2 mixed Tryz.func220 (by kernel_rfl)
/- strconv.rangeError -/
noncomputable def f_strconv_rangeError (n : Nat) (call : Caller)  (x0 x1 : AV) (h : AH) : Ans :=
 oB' (nx 7 h) fun h0 =>
 oP (call n_internal_stringslite_Clone [x1] h0) fun x7_1 h1 =>
 oB (evQ (.bad) .e h1) fun x8_2 =>
 oB (oBuild [(.str []), (.str []), .nili] [(0, 1, x0), (1, 1, x7_1), (2, 1, x8_2)]) fun x9_3 =>
 fl1 true (evF (.box 323 (.c x9_3)) .e) (Nat.add h.next 5) fun x10_4 o4 =>
 oB' (lay1 (Nat.add h.next 5) o4 h1) fun v5 =>
 some (x10_4, v5)
theorem o_strconv_rangeError : FnOK Tryz.prog n_strconv_rangeError (a2 f_strconv_rangeError) := ok2 mixed Tryz.func221 (by kernel_rfl)
/- strconv.baseError -/
noncomputable def f_strconv_baseError (n : Nat) (call : Caller)  (x0 x1 x2 : AV) (h : AH) : Ans :=
 oP (call n_internal_stringslite_Clone [x1] h) fun x9_0 h0 =>
 oP (call n_strconv_Itoa [x2] h0) fun x11_1 h1 =>
 oB (bAdd (.str [105, 110, 118, 97, 108, 105, 100, 32, 98, 97, 115, 101, 32]) x11_1) fun x12_2 =>
 oP (call n_errors_New [x12_2] h1) fun x13_3 h3 =>
 oB (oBuild [(.str []), (.str []), .nili] [(0, 1, x0), (1, 1, x9_0), (2, 1, x13_3)]) fun x14_4 =>
 oP (oNew h3 323 (AV.cells x14_4)) fun x15_5 h5 =>
 some (x15_5, h5)
theorem o_strconv_baseError : FnOK Tryz.prog n_strconv_baseError (a3 f_strconv_baseError) := ok3 mixed Tryz.func222 (by kernel_rfl)
/- strconv.bitSizeError -/
noncomputable def f_strconv_bitSizeError (n : Nat) (call : Caller)  (x0 x1 x2 : AV) (h : AH) : Ans :=
 oP (call n_internal_stringslite_Clone [x1] h) fun x9_0 h0 =>
 oP (call n_strconv_Itoa [x2] h0) fun x11_1 h1 =>
 oB (bAdd (.str [105, 110, 118, 97, 108, 105, 100, 32, 98, 105, 116, 32, 115, 105, 122, 101, 32]) x11_1) fun x12_2 =>
 oP (call n_errors_New [x12_2] h1) fun x13_3 h3 =>
 oB (oBuild [(.str []), (.str []), .nili] [(0, 1, x0), (1, 1, x9_0), (2, 1, x13_3)]) fun x14_4 =>
 oP (oNew h3 323 (AV.cells x14_4)) fun x15_5 h5 =>
 some (x15_5, h5)
theorem o_strconv_bitSizeError : FnOK Tryz.prog n_strconv_bitSizeError (a3 f_strconv_bitSizeError) := ok3 mixed Tryz.func223 (by kernel_rfl)
/- internal/strconv.FormatInt -/
noncomputable def f_internal_strconv_FormatInt (n : Nat) (call : Caller)  (x0 x1 : AV) (h : AH) : Ans :=
 oB (bEq .no x1 (I 10)) fun x11_0 =>
 ci x11_0 (
 oB (bLe (I 0) x0) fun x13_1 =>
 oB (gq x13_1 true (some x0)) fun x15_2 =>
 oB (gq x13_1 true (bLt x15_2 (I 100))) fun x16_3 =>
 oB (oPick x13_1 x16_3 (.bool false)) fun x17_4 =>
 ci x17_4 (
 oP (call n_internal_strconv_small [x0] h) fun x19_5 h5 =>
 some (x19_5, h5)) (
 oP (oNew h 325 [(U 0), (U 0), (U 0), (U 0), (U 0), (U 0), (U 0), (U 0), (U 0), (U 0), (U 0), (U 0), (U 0), (U 0), (U 0), (U 0), (U 0), (U 0), (U 0), (U 0), (U 0), (U 0), (U 0), (U 0)]) fun x5_6 h6 =>
 oB (oInt .u64 x0) fun x21_7 =>
 oB (bLt x0 (I 0)) fun x23_8 =>
 jnF 3 (fun z6_9 z5_9 z0_9 h9 =>
 oP (call n_internal_strconv_numDigits [z6_9] h9) fun x27_10 h10 =>
 oB (bAdd (I 1) x27_10) fun x29_11 =>
 oB (evQ (.slArr 24 1 (.c z5_9) (some (.c (I 1))) (some (.c x29_11)) none) .e h10) fun x30_12 =>
 oP (call n_internal_strconv_formatBase10 [x30_12, z6_9] h10) fun x32_13 h13 =>
 oB (bLt z0_9 (I 0)) fun x34_14 =>
 ci x34_14 (
 oB (evQ (.idxArr 24 1 (.c z5_9) (.c (I 0))) .e h13) fun x35_15 =>
 oP (oSt 1 h13 x35_15 (U 45)) fun _ h16 =>
 oB (bAdd (I 1) x27_10) fun x37_17 =>
 oB (evQ (.slArr 24 1 (.c z5_9) none (some (.c x37_17)) none) .e h16) fun x38_18 =>
 oB (evQ (.b2s (.c x38_18)) .e h16) fun x39_19 =>
 some (x39_19, h16)) (
 oB (bAdd (I 1) x27_10) fun x41_20 =>
 oB (evQ (.slArr 24 1 (.c z5_9) (some (.c (I 1))) (some (.c x41_20)) none) .e h13) fun x42_21 =>
 oB (evQ (.b2s (.c x42_21)) .e h13) fun x43_22 =>
 some (x43_22, h13))) fun j9 =>
 ci x23_8 (
 oB (evQ (.un .neg (.c x21_7)) .e h6) fun x25_23 =>
 j9 x25_23 x5_6 x0 h6) (
 j9 x21_7 x5_6 x0 h6))) (
 oB (oInt .u64 x0) fun x46_24 =>
 oB (bLt x0 (I 0)) fun x49_25 =>
 oP (call n_internal_strconv_formatBits [.nils, x46_24, x1, x49_25, (.bool false)] h) fun x50_26 h26 =>
 oB (oEx 0 x50_26) fun x51_27 =>
 oB (oEx 1 x50_26) fun x52_28 =>
 some (x52_28, h26))
theorem o_internal_strconv_FormatInt : FnOK Tryz.prog n_internal_strconv_FormatInt (a2 f_internal_strconv_FormatInt) := ok2 mixed Tryz.func224 (by kernel_rfl)
/- corrector/config.names -/
noncomputable def f_config_names (n : Nat) (call : Caller)  (h : AH) : Ans :=
 oP (oBuildSl h 9 1 10 [(.str []), (.str []), (.str []), (.str []), (.str []), (.str []), (.str []), (.str []), (.str []), (.str [])] [(0, 1, (.str [])), (1, 1, (.str [116, 114, 97, 105, 108])), (2, 1, (.str [108, 111, 110, 103])), (3, 1, (.str [115, 116, 101, 112])), (4, 1, (.str [101, 109, 112, 116, 121])), (5, 1, (.str [109, 97, 114, 107])), (6, 1, (.str [104, 97, 115, 104])), (7, 1, (.str [99, 111, 109, 109, 97])), (8, 1, (.str [116, 119, 105, 99, 101])), (9, 1, (.str [101, 110, 100]))]) fun x1_0 h0 =>
 some (x1_0, h0)
theorem o_config_names : FnOK Tryz.prog n_config_names (a0 f_config_names) := ok0 mixed Tryz.func225 (by kernel_rfl)
/- corrector/chars.Flow -/
noncomputable def f_chars_Flow (n : Nat) (call : Caller)  (x0 : AV) (h : AH) : Ans :=
 jnF 0 (fun h0 =>
 some ((.bool false), h0)) fun j0 =>
 jnF 0 (fun h1 =>
 some ((.bool true), h1)) fun j1 =>
 jnF 0 (fun h2 =>
 j1 h2) fun j2 =>
 jnF 0 (fun h3 =>
 j2 h3) fun j3 =>
 oB (bEq .no x0 (U 44)) fun x5_4 =>
 ci x5_4 (
 j3 h) (
 oB (bEq .no x0 (U 91)) fun x7_5 =>
 jnF 2 (fun z6_6 z3_6 h6 =>
 ci z6_6 (
 j2 h6) (
 oB (bEq .no z3_6 (U 123)) fun x10_7 =>
 jnF 1 (fun z9_8 h8 =>
 ci z9_8 (
 j1 h8) (
 j0 h8)) fun j8 =>
 ci x10_7 (
 j8 x10_7 h6) (
 oB (bEq .no z3_6 (U 125)) fun x11_9 =>
 j8 x11_9 h6))) fun j6 =>
 ci x7_5 (
 j6 x7_5 x0 h) (
 oB (bEq .no x0 (U 93)) fun x8_10 =>
 j6 x8_10 x0 h))
theorem o_chars_Flow : FnOK Tryz.prog n_chars_Flow (a1 f_chars_Flow) := ok1 mixed Tryz.func226 (by kernel_rfl)
/- corrector/chars.Name -/
noncomputable def f_chars_Name (n : Nat) (call : Caller)  (x0 : AV) (h : AH) : Ans :=
 oP (call n_chars_letter [x0] h) fun x4_0 h0 =>
 oB (gq x4_0 false (some x0)) fun x6_1 =>
 oB (gq x4_0 false (bEq .no x6_1 (U 95))) fun x7_2 =>
 oB (oPick x4_0 (.bool true) x7_2) fun x8_3 =>
 oB (gq x8_3 false (some x0)) fun x10_4 =>
 oB (gq x8_3 false (bEq .no x10_4 (U 45))) fun x11_5 =>
 oB (oPick x8_3 (.bool true) x11_5) fun x12_6 =>
 some (x12_6, h0)
theorem o_chars_Name : FnOK Tryz.prog n_chars_Name (a1 f_chars_Name) := ok1 mixed Tryz.func227 (by kernel_rfl)
/- (*corrector/scan.scanner).names -/
noncomputable def f_scan_scanner_names (n : Nat) (call : Caller)  (x0 x1 : AV) (h : AH) : Ans :=
 jnF 1 (fun z1_0 h0 =>
 some (z1_0, h0)) fun j0 =>
 lpF 2 n (fun f1 y1_1 y0_1 h1 =>
 oB (oNil y0_1) fun x7_2 =>
 oB (oFA 0 x7_2) fun x8_3 =>
 oB (oLd h1 x8_3) fun x9_4 =>
 oB (oLen x9_4) fun x10_5 =>
 oB (bLt y1_1 x10_5) fun x11_6 =>
 oB (gq x11_6 true (some y0_1)) fun x13_7 =>
 oB (gq x11_6 true (oNil x13_7)) fun x14_8 =>
 oB (gq x11_6 true (oFA 0 x14_8)) fun x15_9 =>
 oB (gq x11_6 true (oLd h1 x15_9)) fun x16_10 =>
 oB (gq x11_6 true (some y1_1)) fun x17_11 =>
 oB (gq x11_6 true (oIx 1 x16_10 x17_11)) fun x18_12 =>
 oB (gq x11_6 true (oLd h1 x18_12)) fun x19_13 =>
 oP (gw x11_6 true (call n_chars_Name [x19_13] h1) h1) fun x20_14 h14 =>
 oB (oPick x11_6 x20_14 (.bool false)) fun x21_15 =>
 ci x21_15 (
 jnF 2 (fun z1_16 z0_16 h16 =>
 f1 z1_16 z0_16 h16) fun j16 =>
 oB (bAdd y1_1 (I 1)) fun x23_17 =>
 j16 x23_17 y0_1 h14) (
 j0 y1_1 h14)) x1 x0 h
theorem o_scan_scanner_names : FnOK Tryz.prog n_scan_scanner_names (a2 f_scan_scanner_names) := ok2 mixed Tryz.func228 (by kernel_rfl)
/- corrector/rows.counts -/
noncomputable def f_rows_counts (n : Nat) (call : Caller)  (x0 : AV) (h : AH) : Ans :=
 oP (oNew h 92 (AV.cells x0)) fun x1_0 h0 =>
 oB (oFA 0 x1_0) fun x3_1 =>
 oB (oLd h0 x3_1) fun x4_2 =>
 jnF 0 (fun h3 =>
 some ((.bool true), h3)) fun j3 =>
 oB (bEq .no x4_2 (I 1)) fun x6_4 =>
 jnF 1 (fun z5_5 h5 =>
 ci z5_5 (
 some ((.bool false), h5)) (
 j3 h5)) fun j5 =>
 ci x6_4 (
 j5 x6_4 h0) (
 oB (bEq .no x4_2 (I 2)) fun x7_6 =>
 jnF 1 (fun z5_7 h7 =>
 j5 z5_7 h7) fun j7 =>
 ci x7_6 (
 j7 x7_6 h0) (
 oB (bEq .no x4_2 (I 3)) fun x8_8 =>
 jnF 1 (fun z5_9 h9 =>
 j7 z5_9 h9) fun j9 =>
 ci x8_8 (
 j9 x8_8 h0) (
 oB (bEq .no x4_2 (I 4)) fun x9_10 =>
 j9 x9_10 h0)))
theorem o_rows_counts : FnOK Tryz.prog n_rows_counts (a1 f_rows_counts) := ok1 mixed Tryz.func229 (by kernel_rfl)
/- corrector/rows.begin -/
noncomputable def f_rows_begin (n : Nat) (call : Caller)  (x0 x1 : AV) (h : AH) : Ans :=
 oP (oNew h 218 (AV.cells x1)) fun x3_0 h0 =>
 oB (oFA 1 x3_0) fun x6_1 =>
 oB (oLd h0 x6_1) fun x7_2 =>
 oB (oIx 3 x0 x7_2) fun x8_3 =>
 oB (oFA 1 x8_3) fun x9_4 =>
 oB (oLd h0 x9_4) fun x10_5 =>
 some (x10_5, h0)
theorem o_rows_begin : FnOK Tryz.prog n_rows_begin (a2 f_rows_begin) := ok2 mixed Tryz.func230 (by kernel_rfl)
/- corrector/parse.counts -/
noncomputable def f_parse_counts (n : Nat) (call : Caller)  (x0 : AV) (h : AH) : Ans :=
 oP (oNew h 92 (AV.cells x0)) fun x1_0 h0 =>
 oB (oFA 0 x1_0) fun x3_1 =>
 oB (oLd h0 x3_1) fun x4_2 =>
 jnF 0 (fun h3 =>
 some ((.bool true), h3)) fun j3 =>
 oB (bEq .no x4_2 (I 1)) fun x6_4 =>
 jnF 1 (fun z5_5 h5 =>
 ci z5_5 (
 some ((.bool false), h5)) (
 j3 h5)) fun j5 =>
 ci x6_4 (
 j5 x6_4 h0) (
 oB (bEq .no x4_2 (I 2)) fun x7_6 =>
 jnF 1 (fun z5_7 h7 =>
 j5 z5_7 h7) fun j7 =>
 ci x7_6 (
 j7 x7_6 h0) (
 oB (bEq .no x4_2 (I 3)) fun x8_8 =>
 jnF 1 (fun z5_9 h9 =>
 j7 z5_9 h9) fun j9 =>
 ci x8_8 (
 j9 x8_8 h0) (
 oB (bEq .no x4_2 (I 4)) fun x9_10 =>
 j9 x9_10 h0)))
theorem o_parse_counts : FnOK Tryz.prog n_parse_counts (a1 f_parse_counts) := ok1 mixed Tryz.func231 (by kernel_rfl)
/- (*corrector/parse.parser).wrong -/
noncomputable def f_parse_parser_wrong (n : Nat) (call : Caller)  (x0 x1 x2 x3 x4 : AV) (h : AH) : Ans :=
 oP (call n_parse_parser_first [x0, x3, x4] h) fun x13_0 h0 =>
 oP (call n_parse_parser_over [x0, x13_0, x4] h0) fun x17_1 h1 =>
 oB (bEq .no x13_0 x17_1) fun x20_2 =>
 ci x20_2 (
 some (.tup [], h1)) (
 oB' (nx 29 h1) fun h3 =>
 oB (oNil x0) fun x23_4 =>
 oB (oFA 5 x23_4) fun x24_5 =>
 oB (oLd h3 x24_5) fun x25_6 =>
 oB (oNil x0) fun x28_7 =>
 oB (oFA 1 x28_7) fun x29_8 =>
 oB (oLd h3 x29_8) fun x30_9 =>
 oB (oIx 3 x30_9 x13_0) fun x32_10 =>
 oB (oFA 1 x32_10) fun x33_11 =>
 oB (oLd h3 x33_11) fun x34_12 =>
 oB (oNil x0) fun x36_13 =>
 oB (oFA 1 x36_13) fun x37_14 =>
 oB (oLd h3 x37_14) fun x38_15 =>
 oB (bSub x17_1 (I 1)) fun x40_16 =>
 oB (oIx 3 x38_15 x40_16) fun x41_17 =>
 oB (oFA 2 x41_17) fun x42_18 =>
 oB (oLd h3 x42_18) fun x43_19 =>
 oB (oBuild [(I 0), (I 0), (I 0)] [(0, 1, x1), (1, 1, x34_12), (2, 1, x43_19)]) fun x44_20 =>
 fl1 true (evF (.buildSlice 112 3 1 [(I 0), (I 0), (I 0)] [(0, 3, (.c x44_20))]) .e) (Nat.add h1.next 24) fun x45_21 o21 =>
 oB' (lay1 (Nat.add h1.next 24) o21 h3) fun v22 =>
 oP (evW (.append 112 3 24 [(I 0), (I 0), (I 0)] (.c x25_6) (.c x45_21)) .e v22) fun x46_23 h23 =>
 oB (oNil x0) fun x47_24 =>
 oB (oFA 5 x47_24) fun x48_25 =>
 oP (oSt 1 h23 x48_25 x46_23) fun x0_26 h26 =>
 ask1 true (oLd h3 x24_5) x25_6 (
 ask1 true (oLd h3 x29_8) x30_9 (
 ask1 true (oLd h3 x33_11) x34_12 (
 ask1 true (oLd h3 x37_14) x38_15 (
 ask1 true (oLd h3 x42_18) x43_19 (
 oP (call n_parse_parser_add [x0, x2, (I 11), x13_0, x17_1] h26) fun x53_27 h27 =>
 some (.tup [], h27)))))))
theorem o_parse_parser_wrong : FnOK Tryz.prog n_parse_parser_wrong (a5 f_parse_parser_wrong) := ok5 mixed Tryz.func232 (by kernel_rfl)
/- (*corrector/parse.parser).add -/
noncomputable def f_parse_parser_add (n : Nat) (call : Caller)  (x0 x1 x2 x3 x4 : AV) (h : AH) : Ans :=
 oB (oNil x0) fun x15_0 =>
 oB (oFA 4 x15_0) fun x16_1 =>
 oB (oLdN 1 h x16_1) fun x17_2 =>
 oP (call n_arena_Add [x17_2, x1, x2, x3, x4] h) fun x22_3 h3 =>
 oB (oEx 0 x22_3) fun x23_4 =>
 oB (oEx 1 x22_3) fun x24_5 =>
 oP (oNew h3 100 [.nils]) fun x11_6 h6 =>
 oP (oSt 1 h6 x11_6 x23_4) fun _ h7 =>
 oB (oLdN 1 h7 x11_6) fun x26_8 =>
 oB (oNil x0) fun x27_9 =>
 oB (oFA 4 x27_9) fun x28_10 =>
 oP (oSt 1 h7 x28_10 x26_8) fun _ h11 =>
 some (x24_5, h11)
theorem o_parse_parser_add : FnOK Tryz.prog n_parse_parser_add (a5 f_parse_parser_add) := ok5 mixed Tryz.func233 (by kernel_rfl)
/- (*corrector/parse.parser).value -/
noncomputable def f_parse_parser_value (n : Nat) (call : Caller)  (x0 x1 x2 x3 : AV) (h : AH) : Ans :=
 oB' (nx 38 h) fun h0 =>
 oB (oNil x0) fun x16_1 =>
 oB (oFA 0 x16_1) fun x17_2 =>
 oB (oLd h0 x17_2) fun x18_3 =>
 oB (oNil x0) fun x20_4 =>
 oB (oFA 1 x20_4) fun x21_5 =>
 oB (oLd h0 x21_5) fun x22_6 =>
 oB (oNil x0) fun x24_7 =>
 oB (oFA 4 x24_7) fun x25_8 =>
 oB (oLdN 1 h0 x25_8) fun x26_9 =>
 oP (call n_parse_parser_end [x0, x3] h0) fun x31_10 h10 =>
 oB (oNil x0) fun x33_11 =>
 oB (oFA 3 x33_11) fun x34_12 =>
 oB (oLd h10 x34_12) fun x35_13 =>
 oB (oNil x0) fun x37_14 =>
 oB (oFA 8 x37_14) fun x38_15 =>
 oB (oLd h10 x38_15) fun x39_16 =>
 oB (oLen x39_16) fun x40_17 =>
 oB (bSub x35_13 x40_17) fun x41_18 =>
 oP (call n_flow_Value [x18_3, x22_6, x26_9, x2, x3, x31_10, x41_18] h10) fun x42_19 h19 =>
 oB (oEx 0 x42_19) fun x43_20 =>
 oB (oEx 1 x42_19) fun x44_21 =>
 oB (oEx 2 x42_19) fun x45_22 =>
 oB (oEx 3 x42_19) fun x46_23 =>
 fl1 true (evF (.new 100 [.nils]) .e) (Nat.add h.next 33) fun x10_24 o24 =>
 oB' (lay1 (Nat.add h.next 33) o24 h19) fun v25 =>
 oP (oSt 1 v25 x10_24 x43_20) fun x0_26 h26 =>
 ask1 true (oLd h0 x17_2) x18_3 (
 ask1 true (oLd h10 x17_2) x18_3 (
 ask1 true (oLd h0 x21_5) x22_6 (
 ask1 true (oLd h10 x21_5) x22_6 (
 ask1 true (oLdN 1 h0 x25_8) x26_9 (
 ask1 true (oLdN 1 h10 x25_8) x26_9 (
 ask1 true (oLd h0 x34_12) x35_13 (
 ask1 true (oLd h10 x34_12) x35_13 (
 ask1 true (oLd h0 x38_15) x39_16 (
 ask1 true (oLd h10 x38_15) x39_16 (
 oB (oLdN 1 h26 x10_24) fun x48_27 =>
 oB (oNil x0) fun x49_28 =>
 oB (oFA 4 x49_28) fun x50_29 =>
 oP (oSt 1 h26 x50_29 x48_27) fun _ h30 =>
 oB (oNil x0) fun x53_31 =>
 oB (oFA 5 x53_31) fun x54_32 =>
 oB (oLd h30 x54_32) fun x55_33 =>
 oP (evW (.append 112 3 24 [(I 0), (I 0), (I 0)] (.c x55_33) (.c x46_23)) .e h30) fun x57_34 h34 =>
 oB (oNil x0) fun x58_35 =>
 oB (oFA 5 x58_35) fun x59_36 =>
 oP (oSt 1 h34 x59_36 x57_34) fun _ h37 =>
 jnF 5 (fun z12_38 z11_38 z2_38 z1_38 z0_38 h38 =>
 oB (oNil z0_38) fun x80_39 =>
 oB (oFA 2 x80_39) fun x81_40 =>
 oB (oLd h38 x81_40) fun x82_41 =>
 oB (oIx 4 x82_41 z1_38) fun x84_42 =>
 oB (oFA 2 x84_42) fun x85_43 =>
 oB (oLd h38 x85_43) fun x86_44 =>
 oP (call n_parse_parser_wrong [z0_38, (I 8), z2_38, z12_38, x86_44] h38) fun x87_45 h45 =>
 oB (bGe z11_38 (I 0)) fun x89_46 =>
 oB (bAdd z1_38 (I 1)) fun x91_47 =>
 some (.tup [x89_46, x91_47], h45)) fun j38 =>
 lpF 5 n (fun f48 y12_48 y11_48 y2_48 y1_48 y0_48 h48 =>
 oB (bGe y11_48 (I 0)) fun x61_49 =>
 oB (gq x61_49 true (some y0_48)) fun x63_50 =>
 oB (gq x61_49 true (oNil x63_50)) fun x64_51 =>
 oB (gq x61_49 true (oFA 2 x64_51)) fun x65_52 =>
 oB (gq x61_49 true (oLd h48 x65_52)) fun x66_53 =>
 oB (gq x61_49 true (some y1_48)) fun x67_54 =>
 oB (gq x61_49 true (oIx 4 x66_53 x67_54)) fun x68_55 =>
 oB (gq x61_49 true (oFA 2 x68_55)) fun x69_56 =>
 oB (gq x61_49 true (oLd h48 x69_56)) fun x70_57 =>
 oB (gq x61_49 true (some y12_48)) fun x71_58 =>
 oB (gq x61_49 true (bLt x70_57 x71_58)) fun x72_59 =>
 oB (oPick x61_49 x72_59 (.bool false)) fun x73_60 =>
 ci x73_60 (
 jnF 5 (fun z12_61 z11_61 z2_61 z1_61 z0_61 h61 =>
 f48 z12_61 z11_61 z2_61 z1_61 z0_61 h61) fun j61 =>
 oB (bAdd y1_48 (I 1)) fun x75_62 =>
 j61 y12_48 y11_48 y2_48 x75_62 y0_48 h48) (
 j38 y12_48 y11_48 y2_48 y1_48 y0_48 h48)) x45_22 x44_21 x2 x1 x0 h37))))))))))
theorem o_parse_parser_value : FnOK Tryz.prog n_parse_parser_value (a4 f_parse_parser_value) := ok4 mixed Tryz.func234 (by kernel_rfl)
/- corrector/arena.Grow -/
noncomputable def f_arena_Grow (n : Nat) (call : Caller)  (x0 x1 x2 : AV) (h : AH) : Ans :=
 oP (oNew h 100 (AV.cells x0)) fun x3_0 h0 =>
 oP (oNew h0 100 [.nils]) fun x6_1 h1 =>
 oB (oLdN 1 h1 x3_0) fun x8_2 =>
 oP (call n_arena_own [x8_2] h1) fun x9_3 h3 =>
 oP (call n_arena_forest_has [x9_3, x1] h3) fun x12_4 h4 =>
 oB (gq x12_4 true (some x2)) fun x14_5 =>
 oB (gq x12_4 true (some x9_3)) fun x15_6 =>
 oB (gq x12_4 true (oNil x15_6)) fun x16_7 =>
 oB (gq x12_4 true (oFA 0 x16_7)) fun x17_8 =>
 oB (gq x12_4 true (oFA 0 x17_8)) fun x18_9 =>
 oB (gq x12_4 true (oLd h4 x18_9)) fun x19_10 =>
 oB (gq x12_4 true (oIx 6 x19_10 (I 0))) fun x20_11 =>
 oB (gq x12_4 true (oFA 2 x20_11)) fun x21_12 =>
 oB (gq x12_4 true (oLd h4 x21_12)) fun x22_13 =>
 oB (gq x12_4 true (bLe x14_5 x22_13)) fun x23_14 =>
 oB (oPick x12_4 x23_14 (.bool false)) fun x24_15 =>
 jnF 2 (fun z7_16 z6_16 h16 =>
 oB (oNil z7_16) fun x30_17 =>
 oB (oFA 0 x30_17) fun x31_18 =>
 oB (oLdN 1 h16 x31_18) fun x32_19 =>
 oP (oSt 1 h16 z6_16 x32_19) fun _ h20 =>
 retT [(6, some (some 1))] (sput 6 Tr.e z6_16) h20) fun j16 =>
 ci x24_15 (
 oP (call n_arena_forest_grow [x9_3, x1, x2] h4) fun x28_21 h21 =>
 j16 x9_3 x6_1 h21) (
 j16 x9_3 x6_1 h4)
theorem o_arena_Grow : FnOK Tryz.prog n_arena_Grow (a3 f_arena_Grow) := ok3 mixed Tryz.func235 (by kernel_rfl)
/- corrector/rows.Entries$1 -/
noncomputable def f_rows_Entries_1 (n : Nat) (call : Caller)  (x0 x1 x2 : AV) (h : AH) : Ans :=
 jnF 0 (fun h0 =>
 some (.tup [], h0)) fun j0 =>
 lpF 3 n (fun f1 y2_1 y1_1 y0_1 h1 =>
 oB (oLd h1 y0_1) fun x3_2 =>
 oB (oFA 2 y1_1) fun x4_3 =>
 oB (oLd h1 x4_3) fun x5_4 =>
 oB (bLt x3_2 x5_4) fun x6_5 =>
 oB (gq x6_5 true (oLd h1 y2_1)) fun x8_6 =>
 oB (gq x6_5 true (oLd h1 y0_1)) fun x9_7 =>
 oB (gq x6_5 true (oIx 3 x8_6 x9_7)) fun x10_8 =>
 oB (gq x6_5 true (oLdN 3 h1 x10_8)) fun x11_9 =>
 oP (gw x6_5 true (call n_rows_counts [x11_9] h1) h1) fun x12_10 h10 =>
 oB (gq x6_5 true (evQ (.un .not (.c x12_10)) .e h10)) fun x13_11 =>
 oB (oPick x6_5 x13_11 (.bool false)) fun x14_12 =>
 ci x14_12 (
 jnF 3 (fun z2_13 z1_13 z0_13 h13 =>
 f1 z2_13 z1_13 z0_13 h13) fun j13 =>
 oB (oLd h10 y0_1) fun x15_14 =>
 oB (bAdd x15_14 (I 1)) fun x16_15 =>
 oP (oSt 1 h10 y0_1 x16_15) fun _ h16 =>
 j13 y2_1 y1_1 y0_1 h16) (
 j0 h10)) x2 x1 x0 h
theorem o_rows_Entries_1 : FnOK Tryz.prog n_rows_Entries_1 (a3 f_rows_Entries_1) := ok3 mixed Tryz.func236 (by kernel_rfl)
/- corrector/rows.property -/
noncomputable def f_rows_property (n : Nat) (call : Caller)  (x0 : AV) (h : AH) : Ans :=
 oP (oNew h 92 (AV.cells x0)) fun x1_0 h0 =>
 oB (oFA 0 x1_0) fun x3_1 =>
 oB (oLd h0 x3_1) fun x4_2 =>
 oB (bEq .no x4_2 (I 12)) fun x5_3 =>
 oB (gq x5_3 false (oFA 0 x1_0)) fun x7_4 =>
 oB (gq x5_3 false (oLd h0 x7_4)) fun x8_5 =>
 oB (gq x5_3 false (bEq .no x8_5 (I 14))) fun x9_6 =>
 oB (oPick x5_3 (.bool true) x9_6) fun x10_7 =>
 some (x10_7, h0)
theorem o_rows_property : FnOK Tryz.prog n_rows_property (a1 f_rows_property) := ok1 mixed Tryz.func237 (by kernel_rfl)
/- corrector/rows.name -/
noncomputable def f_rows_name (n : Nat) (call : Caller)  (x0 : AV) (h : AH) : Ans :=
 oP (oNew h 92 (AV.cells x0)) fun x1_0 h0 =>
 oB (oFA 0 x1_0) fun x3_1 =>
 oB (oLd h0 x3_1) fun x4_2 =>
 jnF 0 (fun h3 =>
 some ((.bool false), h3)) fun j3 =>
 oB (bEq .no x4_2 (I 15)) fun x6_4 =>
 jnF 1 (fun z5_5 h5 =>
 ci z5_5 (
 some ((.bool true), h5)) (
 j3 h5)) fun j5 =>
 ci x6_4 (
 j5 x6_4 h0) (
 oB (bEq .no x4_2 (I 16)) fun x7_6 =>
 jnF 1 (fun z5_7 h7 =>
 j5 z5_7 h7) fun j7 =>
 ci x7_6 (
 j7 x7_6 h0) (
 oB (bEq .no x4_2 (I 17)) fun x8_8 =>
 jnF 1 (fun z5_9 h9 =>
 j7 z5_9 h9) fun j9 =>
 ci x8_8 (
 j9 x8_8 h0) (
 oB (bEq .no x4_2 (I 13)) fun x9_10 =>
 j9 x9_10 h0)))
theorem o_rows_name : FnOK Tryz.prog n_rows_name (a1 f_rows_name) := ok1 mixed Tryz.func238 (by kernel_rfl)
/- slices.Clone[[]corrector/rows.Entry,corrector/rows.Entry] -/
noncomputable def f_slices_Clone_rows_Entry_rows_Entry (n : Nat) (call : Caller)  (x0 : AV) (h : AH) : Ans :=
 oB (bEq .sl x0 .nils) fun x4_0 =>
 ci x4_0 (
 some (.nils, h)) (
 oP (oBuildSl h 275 4 0 [] []) fun x5_1 h1 =>
 oP (evW (.append 275 4 32 [(.bool false), (I 0), (I 0), (I 0)] (.c x5_1) (.c x0)) .e h1) fun x7_2 h2 =>
 some (x7_2, h2))
theorem o_slices_Clone_rows_Entry_rows_Entry : FnOK Tryz.prog n_slices_Clone_rows_Entry_rows_Entry (a1 f_slices_Clone_rows_Entry_rows_Entry) := ok1 mixed Tryz.func239 (by kernel_rfl)
/- (*corrector/parse.parser).place -/
noncomputable def f_parse_parser_place (n : Nat) (call : Caller)  (x0 x1 : AV) (h : AH) : Ans :=
 oP (oNew h 275 (AV.cells x1)) fun x3_0 h0 =>
 oB (oFA 0 x3_0) fun x7_1 =>
 oB (oLd h0 x7_1) fun x8_2 =>
 jnF 3 (fun z5_3 z3_3 z0_3 h3 =>
 oB (oNil z0_3) fun x10_4 =>
 oB (oFA 8 x10_4) fun x11_5 =>
 oB (oLd h3 x11_5) fun x12_6 =>
 oB (oLen x12_6) fun x13_7 =>
 oB (bSub x13_7 (I 1)) fun x14_8 =>
 jnF 4 (fun z6_9 z5_9 z3_9 z0_9 h9 =>
 jnF 2 (fun z3_10 z0_10 h10 =>
 oB (oLdN 4 h10 z3_10) fun x172_11 =>
 oP (call n_parse_parser_cur [z0_10, x172_11] h10) fun x173_12 h12 =>
 some ((I 0), h12)) fun j10 =>
 oB (bLt z6_9 (I 0)) fun x34_13 =>
 oB (gq x34_13 true (some z0_9)) fun x36_14 =>
 oB (gq x34_13 true (oNil x36_14)) fun x37_15 =>
 oB (gq x34_13 true (oFA 7 x37_15)) fun x38_16 =>
 oB (gq x34_13 true (oLd h9 x38_16)) fun x39_17 =>
 oB (oPick x34_13 x39_17 (.bool false)) fun x40_18 =>
 ci x40_18 (
 some ((I 7), h9)) (
 oB (bLt z6_9 (I 0)) fun x43_19 =>
 ci x43_19 (
 oB (oLdN 4 h9 z3_9) fun x47_20 =>
 oP (call n_parse_parser_nest [z0_9, z6_9, z5_9, x47_20] h9) fun x48_21 h21 =>
 some (x48_21, h21)) (
 oB' (nx 22 h9) fun h22 =>
 oB (oNil z0_9) fun x51_23 =>
 oB (oFA 8 x51_23) fun x52_24 =>
 oB (oLd h22 x52_24) fun x53_25 =>
 oB (oIx 5 x53_25 z6_9) fun x55_26 =>
 oB (oFA 2 x55_26) fun x56_27 =>
 oB (oLd h22 x56_27) fun x57_28 =>
 oB (oFA 1 z3_9) fun x58_29 =>
 oB (oLd h22 x58_29) fun x59_30 =>
 oB (bLt x57_28 x59_30) fun x60_31 =>
 oB (gq x60_31 true (some z0_9)) fun x62_32 =>
 oB (gq x60_31 true (oNil x62_32)) fun x63_33 =>
 oB (gq x60_31 true (oFA 8 x63_33)) fun x64_34 =>
 oB (gq x60_31 true (oLd h22 x64_34)) fun x65_35 =>
 oB (gq x60_31 true (some z6_9)) fun x66_36 =>
 oB (gq x60_31 true (oIx 5 x65_35 x66_36)) fun x67_37 =>
 oB (gq x60_31 true (oFA 4 x67_37)) fun x68_38 =>
 oB (gq x60_31 true (oLd h22 x68_38)) fun x69_39 =>
 oB (oPick x60_31 x69_39 (.bool false)) fun x70_40 =>
 ci x70_40 (
 some ((I 6), h22)) (
 oB' (nx 12 h22) fun h41 =>
 oB (oNil z0_9) fun x73_42 =>
 oB (oFA 8 x73_42) fun x74_43 =>
 oB (oLd h41 x74_43) fun x75_44 =>
 oB (oIx 5 x75_44 z6_9) fun x77_45 =>
 oB (oFA 2 x77_45) fun x78_46 =>
 oB (oLd h41 x78_46) fun x79_47 =>
 oB (oFA 1 z3_9) fun x80_48 =>
 oB (oLd h41 x80_48) fun x81_49 =>
 oB (bLt x79_47 x81_49) fun x82_50 =>
 ci x82_50 (
 oB (oLdN 4 h41 z3_9) fun x86_51 =>
 oP (call n_parse_parser_nest [z0_9, z6_9, z5_9, x86_51] h41) fun x87_52 h52 =>
 some (x87_52, h52)) (
 oB (oNil z0_9) fun x90_53 =>
 oB (oFA 8 x90_53) fun x91_54 =>
 oB (oLd h41 x91_54) fun x92_55 =>
 oB (oIx 5 x92_55 z6_9) fun x94_56 =>
 oB (oFA 1 x94_56) fun x95_57 =>
 oB (oLd h41 x95_57) fun x96_58 =>
 oB (bEq .no x96_58 z5_9) fun x98_59 =>
 jnF 2 (fun z3_60 z0_60 h60 =>
 j10 z3_60 z0_60 h60) fun j60 =>
 ci x98_59 (
 oB (oNil z0_9) fun x101_61 =>
 oB (oFA 8 x101_61) fun x102_62 =>
 oB (oLd h41 x102_62) fun x103_63 =>
 oB (bAdd z6_9 (I 1)) fun x105_64 =>
 oB (evQ (.sl 5 (.c x103_63) none (some (.c x105_64)) none) .e h41) fun x106_65 =>
 oB (oNil z0_9) fun x107_66 =>
 oB (oFA 8 x107_66) fun x108_67 =>
 oP (oSt 1 h41 x108_67 x106_65) fun _ h68 =>
 j60 z3_9 z0_9 h68) (
 oB (oFA 0 z3_9) fun x110_69 =>
 oB (oLd h41 x110_69) fun x111_70 =>
 oB (gq x111_70 true (some z0_9)) fun x113_71 =>
 oB (gq x111_70 true (oNil x113_71)) fun x114_72 =>
 oB (gq x111_70 true (oFA 8 x114_72)) fun x115_73 =>
 oB (gq x111_70 true (oLd h41 x115_73)) fun x116_74 =>
 oB (gq x111_70 true (some z6_9)) fun x117_75 =>
 oB (gq x111_70 true (oIx 5 x116_74 x117_75)) fun x118_76 =>
 oB (gq x111_70 true (oFA 4 x118_76)) fun x119_77 =>
 oB (gq x111_70 true (oLd h41 x119_77)) fun x120_78 =>
 oB (gq x111_70 true (evQ (.un .not (.c x120_78)) .e h41)) fun x121_79 =>
 oB (oPick x111_70 x121_79 (.bool false)) fun x122_80 =>
 ci x122_80 (
 oB (oLdN 4 h41 z3_9) fun x126_81 =>
 oP (call n_parse_parser_nest [z0_9, z6_9, z5_9, x126_81] h41) fun x127_82 h82 =>
 some (x127_82, h82)) (
 oB' (nx 34 h41) fun h83 =>
 oB (oFA 0 z3_9) fun x129_84 =>
 oB (oLd h83 x129_84) fun x130_85 =>
 oB (evQ (.un .not (.c x130_85)) .e h83) fun x131_86 =>
 oB (gq x131_86 true (some z6_9)) fun x133_87 =>
 oB (gq x131_86 true (bGt x133_87 (I 0))) fun x134_88 =>
 oB (oPick x131_86 x134_88 (.bool false)) fun x135_89 =>
 oB (gq x135_89 true (some z0_9)) fun x137_90 =>
 oB (gq x135_89 true (oNil x137_90)) fun x138_91 =>
 oB (gq x135_89 true (oFA 8 x138_91)) fun x139_92 =>
 oB (gq x135_89 true (oLd h83 x139_92)) fun x140_93 =>
 oB (gq x135_89 true (some z6_9)) fun x141_94 =>
 oB (gq x135_89 true (bSub x141_94 (I 1))) fun x142_95 =>
 oB (gq x135_89 true (oIx 5 x140_93 x142_95)) fun x143_96 =>
 oB (gq x135_89 true (oFA 1 x143_96)) fun x144_97 =>
 oB (gq x135_89 true (oLd h83 x144_97)) fun x145_98 =>
 oB (gq x135_89 true (bEq .no x145_98 (I 5))) fun x146_99 =>
 oB (oPick x135_89 x146_99 (.bool false)) fun x147_100 =>
 oB (gq x147_100 true (some z0_9)) fun x149_101 =>
 oB (gq x147_100 true (oNil x149_101)) fun x150_102 =>
 oB (gq x147_100 true (oFA 8 x150_102)) fun x151_103 =>
 oB (gq x147_100 true (oLd h83 x151_103)) fun x152_104 =>
 oB (gq x147_100 true (some z6_9)) fun x153_105 =>
 oB (gq x147_100 true (bSub x153_105 (I 1))) fun x154_106 =>
 oB (gq x147_100 true (oIx 5 x152_104 x154_106)) fun x155_107 =>
 oB (gq x147_100 true (oFA 2 x155_107)) fun x156_108 =>
 oB (gq x147_100 true (oLd h83 x156_108)) fun x157_109 =>
 oB (gq x147_100 true (oFA 1 z3_9)) fun x158_110 =>
 oB (gq x147_100 true (oLd h83 x158_110)) fun x159_111 =>
 oB (gq x147_100 true (bEq .no x157_109 x159_111)) fun x160_112 =>
 oB (oPick x147_100 x160_112 (.bool false)) fun x161_113 =>
 ci x161_113 (
 oB (oNil z0_9) fun x164_114 =>
 oB (oFA 8 x164_114) fun x165_115 =>
 oB (oLd h83 x165_115) fun x166_116 =>
 oB (evQ (.sl 5 (.c x166_116) none (some (.c z6_9)) none) .e h83) fun x168_117 =>
 oB (oNil z0_9) fun x169_118 =>
 oB (oFA 8 x169_118) fun x170_119 =>
 oP (oSt 1 h83 x170_119 x168_117) fun _ h120 =>
 j60 z3_9 z0_9 h120) (
 some ((I 5), h83))))))))) fun j9 =>
 lpF 4 n (fun f121 y6_121 y5_121 y3_121 y0_121 h121 =>
 oB' (nx 15 h121) fun h122 =>
 oB (bGe y6_121 (I 0)) fun x16_123 =>
 oB (gq x16_123 true (some y0_121)) fun x18_124 =>
 oB (gq x16_123 true (oNil x18_124)) fun x19_125 =>
 oB (gq x16_123 true (oFA 8 x19_125)) fun x20_126 =>
 oB (gq x16_123 true (oLd h122 x20_126)) fun x21_127 =>
 oB (gq x16_123 true (some y6_121)) fun x22_128 =>
 oB (gq x16_123 true (oIx 5 x21_127 x22_128)) fun x23_129 =>
 oB (gq x16_123 true (oFA 2 x23_129)) fun x24_130 =>
 oB (gq x16_123 true (oLd h122 x24_130)) fun x25_131 =>
 oB (gq x16_123 true (oFA 1 y3_121)) fun x26_132 =>
 oB (gq x16_123 true (oLd h122 x26_132)) fun x27_133 =>
 oB (gq x16_123 true (bGt x25_131 x27_133)) fun x28_134 =>
 oB (oPick x16_123 x28_134 (.bool false)) fun x29_135 =>
 ci x29_135 (
 jnF 4 (fun z6_136 z5_136 z3_136 z0_136 h136 =>
 f121 z6_136 z5_136 z3_136 z0_136 h136) fun j136 =>
 oB (bSub y6_121 (I 1)) fun x31_137 =>
 j136 x31_137 y5_121 y3_121 y0_121 h122) (
 j9 y6_121 y5_121 y3_121 y0_121 h122)) x14_8 z5_3 z3_3 z0_3 h3) fun j3 =>
 ci x8_2 (
 j3 (I 3) x3_0 x0 h0) (
 j3 (I 5) x3_0 x0 h0)
theorem o_parse_parser_place : FnOK Tryz.prog n_parse_parser_place (a2 f_parse_parser_place) := ok2 mixed Tryz.func240 (by kernel_rfl)
/- slices.Contains[[]byte,byte] -/
noncomputable def f_slices_Contains_byte_byte (n : Nat) (call : Caller)  (x0 x1 : AV) (h : AH) : Ans :=
 oP (call n_slices_Index_byte_byte [x0, x1] h) fun x7_0 h0 =>
 oB (bGe x7_0 (I 0)) fun x8_1 =>
 some (x8_1, h0)
theorem o_slices_Contains_byte_byte : FnOK Tryz.prog n_slices_Contains_byte_byte (a2 f_slices_Contains_byte_byte) := ok2 mixed Tryz.func241 (by kernel_rfl)
/- corrector/quote.Text -/
noncomputable def f_quote_Text (n : Nat) (call : Caller)  (x0 x1 : AV) (h : AH) : Ans :=
 oP (call n_quote_of [x0, x1] h) fun x12_0 h0 =>
 oB (evQ (.tassertI .nili true [374, 375, 376] [0, 1, 2, 3, 4, 5, 6, 7, 8, 9, 10, 11, 12, 13, 14, 15, 16, 17, 18, 19, 20, 21, 22, 23, 24, 25, 26, 27, 28, 29, 30, 31, 32, 33, 34, 35, 36, 37, 38, 39, 40, 41, 42, 43, 44, 45, 46, 47, 48, 49, 50, 51, 52, 53, 54, 55, 56, 57, 58, 59, 60, 61, 62, 63, 64, 65, 66, 67, 68, 69, 70, 71, 72, 73, 74, 75, 76, 77, 78, 79, 80, 81, 82, 83, 84, 85, 86, 87, 88, 89, 90, 91, 92, 93, 94, 95, 96, 97, 98, 99, 100, 101, 102, 103, 104, 105, 106, 107, 108, 109, 110, 111, 112, 113, 114, 115, 116, 117, 118, 119, 120, 121, 122, 123, 124, 125, 126, 127, 128, 129, 130, 131, 132, 133, 134, 135, 136, 137, 138, 139, 140, 141, 142, 143, 144, 145, 146, 147, 148, 149, 150, 151, 152, 153, 154, 155, 156, 157, 158, 159, 160, 161, 162, 163, 164, 165, 166, 167, 168, 169, 170, 171, 172, 173, 174, 175, 176, 177, 178, 179, 180, 181, 182, 183, 184, 185, 186, 187, 188, 189, 190, 191, 192, 193, 194, 195, 196, 197, 198, 199, 200, 201, 202, 203, 204, 205, 206, 207, 208, 209, 210, 211, 212, 213, 214, 215, 216, 217, 218, 219, 220, 221, 222, 223, 224, 225, 226, 227, 228, 229, 230, 231, 232, 233, 234, 235, 236, 237, 238, 239, 240, 241, 242, 243, 244, 245, 246, 247, 248, 249, 250, 251, 252, 253, 254, 255, 256, 257, 258, 259, 260, 261, 262, 263, 264, 265, 266, 267, 268, 269, 270, 271, 272, 273, 274, 275, 276, 277, 278, 279, 280, 281, 282, 283, 284, 285, 286, 287, 288, 289, 290, 291, 292, 293, 294, 295, 296, 297, 298, 299, 300, 301, 302, 303, 304, 305, 306, 307, 308, 309, 310, 311, 312, 313, 314, 315, 316, 317, 318, 319, 320, 321, 322, 323, 324, 325, 326, 327, 328, 329, 330, 331, 332, 333, 334, 335, 336, 337, 338, 339, 340, 341, 342, 343, 344, 345, 346, 347, 348, 349, 350, 351, 352, 353, 354, 355, 356, 357, 358, 359, 360, 361, 362, 363, 364, 365, 366, 367, 368, 369, 370, 371, 372, 373, 377, 378, 379, 380, 381, 382, 383, 384, 385, 386, 387, 388, 389, 390, 391, 392, 393, 394, 395, 396, 397, 398, 399, 400, 401, 402, 403, 404, 405, 406, 407, 408, 409, 410, 411, 412, 413, 414, 415, 416, 417, 418, 419, 420, 421, 422, 423, 424, 425, 426, 427, 428, 429, 430, 431, 432, 433, 434, 435, 436] (.c x12_0)) .e h0) fun x13_1 =>
 oB (oEx 0 x13_1) fun x14_2 =>
 oB (oEx 1 x13_1) fun x15_3 =>
 oB (evQ (.un .not (.c x15_3)) .e h0) fun x17_4 =>
 oB (gq x17_4 false (some x1)) fun x19_5 =>
 oB (gq x17_4 false (bEq .no x19_5 (.str []))) fun x20_6 =>
 oB (oPick x17_4 (.bool true) x20_6) fun x21_7 =>
 ci x21_7 (
 some (.tup [(.str []), .nils, (.bool false)], h0)) (
 oP (wOf (.invoke [(374, 427), (375, 428), (376, 429)] (.c x14_2) []) call .e h0) fun x24_8 h8 =>
 oB (oEx 0 x24_8) fun x25_9 =>
 oB (oEx 1 x24_8) fun x26_10 =>
 oB (oEx 2 x24_8) fun x27_11 =>
 oP (evW (.append 3 1 8 [(I 0)] (.c .nils) (.c x26_10)) .e h8) fun x30_12 h12 =>
 some (.tup [x25_9, x30_12, x27_11], h12))
theorem o_quote_Text : FnOK Tryz.prog n_quote_Text (a2 f_quote_Text) := ok2 mixed Tryz.func242 (by kernel_rfl)
/- cmp.isNaN[int] -/
noncomputable def f_cmp_isNaN_int (n : Nat) (call : Caller)  (x0 : AV) (h : AH) : Ans :=
 oB (bNe .no x0 x0) fun x5_0 =>
 some (x5_0, h)
theorem o_cmp_isNaN_int : FnOK Tryz.prog n_cmp_isNaN_int (a1 f_cmp_isNaN_int) := ok1 mixed Tryz.func243 (by kernel_rfl)
/- corrector/arena.own -/
noncomputable def f_arena_own (n : Nat) (call : Caller)  (x0 : AV) (h : AH) : Ans :=
 oP (oNew h 100 (AV.cells x0)) fun x1_0 h0 =>
 oB (oFA 0 x1_0) fun x6_1 =>
 oB (oLd h0 x6_1) fun x7_2 =>
 oP (call n_slices_Clone_api_Node_api_Node [x7_2] h0) fun x8_3 h3 =>
 oB (oBuild [.nils] [(0, 1, x8_3)]) fun x9_4 =>
 oB (oBuild [.nils] [(0, 1, x9_4)]) fun x10_5 =>
 oP (oNew h3 286 (AV.cells x10_5)) fun x11_6 h6 =>
 oB (oNil x11_6) fun x13_7 =>
 oB (oFA 0 x13_7) fun x14_8 =>
 oB (oFA 0 x14_8) fun x15_9 =>
 oB (oLd h6 x15_9) fun x16_10 =>
 oB (oLen x16_10) fun x17_11 =>
 jnF 1 (fun z3_12 h12 =>
 some (z3_12, h12)) fun j12 =>
 lpF 4 n (fun f13 y18_13 y17_13 y16_13 y3_13 h13 =>
 oB (bLt y18_13 y17_13) fun x19_14 =>
 ci x19_14 (
 jnF 4 (fun z18_15 z17_15 z16_15 z3_15 h15 =>
 oB (bAdd z18_15 (I 1)) fun x34_16 =>
 f13 x34_16 z17_15 z16_15 z3_15 h15) fun j15 =>
 oB (oIx 6 y16_13 y18_13) fun x21_17 =>
 oB (oLdN 6 h13 x21_17) fun x22_18 =>
 oP (oNew h13 120 [(I 0), (I 0), (I 0), (I 0), .nils, (.bool false)]) fun x5_19 h19 =>
 oP (oSt 6 h19 x5_19 x22_18) fun _ h20 =>
 oB' (nx 12 h20) fun h21 =>
 oB (oNil y3_13) fun x24_22 =>
 oB (oFA 0 x24_22) fun x25_23 =>
 oB (oFA 0 x25_23) fun x26_24 =>
 oB (oLd h21 x26_24) fun x27_25 =>
 oB (oFA 4 x5_19) fun x29_26 =>
 oB (oLd h21 x29_26) fun x30_27 =>
 oP (call n_slices_Clone_int_int [x30_27] h21) fun x31_28 h28 =>
 oB (oIx 6 x27_25 y18_13) fun x32_29 =>
 oB (oFA 4 x32_29) fun x33_30 =>
 oP (oSt 1 h28 x33_30 x31_28) fun x0_31 h31 =>
 ask1 true (oLd h21 x26_24) x27_25 (
 ask1 true (oLd h28 x26_24) x27_25 (
 ask1 true (oLd h21 x29_26) x30_27 (
 j15 y18_13 y17_13 y16_13 y3_13 h31)))) (
 j12 y3_13 h13)) (I 0) x17_11 x16_10 x11_6 h6
theorem o_arena_own : FnOK Tryz.prog n_arena_own (a1 f_arena_own) := ok1 mixed Tryz.func244 (by kernel_rfl)
/- (*corrector/arena.forest).lies -/
noncomputable def f_arena_forest_lies (n : Nat) (call : Caller)  (x0 x1 : AV) (h : AH) : Ans :=
 oB (oNil x0) fun x10_0 =>
 oB (oFA 0 x10_0) fun x11_1 =>
 oB (oFA 0 x11_1) fun x12_2 =>
 oB (oLd h x12_2) fun x13_3 =>
 oB (oIx 6 x13_3 x1) fun x15_4 =>
 oB (oLdN 6 h x15_4) fun x16_5 =>
 oP (oNew h 120 [(I 0), (I 0), (I 0), (I 0), .nils, (.bool false)]) fun x5_6 h6 =>
 oP (oSt 6 h6 x5_6 x16_5) fun _ h7 =>
 oB (oFA 1 x5_6) fun x17_8 =>
 oB (oLd h7 x17_8) fun x18_9 =>
 oB (oFA 4 x5_6) fun x19_10 =>
 oB (oLd h7 x19_10) fun x20_11 =>
 oB (oLen x20_11) fun x21_12 =>
 jnF 1 (fun z5_13 h13 =>
 oB (oFA 1 z5_13) fun x85_14 =>
 oB (oLd h13 x85_14) fun x86_15 =>
 oB (oFA 2 z5_13) fun x87_16 =>
 oB (oLd h13 x87_16) fun x88_17 =>
 oB (bLe x86_15 x88_17) fun x89_18 =>
 some (x89_18, h13)) fun j13 =>
 lpF 7 n (fun f19 y22_19 y21_19 y20_19 y6_19 y5_19 y1_19 y0_19 h19 =>
 oB (bLt y22_19 y21_19) fun x23_20 =>
 ci x23_20 (
 jnF 7 (fun z22_21 z21_21 z20_21 z6_21 z5_21 z1_21 z0_21 h21 =>
 oB (bAdd z22_21 (I 1)) fun x84_22 =>
 f19 x84_22 z21_21 z20_21 z6_21 z5_21 z1_21 z0_21 h21) fun j21 =>
 oB (oIx 1 y20_19 y22_19) fun x24_23 =>
 oB (oLd h19 x24_23) fun x25_24 =>
 oB' (nx 49 h19) fun h25 =>
 oB (bLe x25_24 y1_19) fun x28_26 =>
 oB (gq x28_26 false (some y0_19)) fun x30_27 =>
 oB (gq x28_26 false (some x25_24)) fun x31_28 =>
 oP (gw x28_26 false (call n_arena_forest_has [x30_27, x31_28] h25) h25) fun x32_29 h29 =>
 oB (gq x28_26 false (evQ (.un .not (.c x32_29)) .e h29)) fun x33_30 =>
 oB (oPick x28_26 (.bool true) x33_30) fun x34_31 =>
 oB (gq x34_31 false (some y0_19)) fun x36_32 =>
 oB (gq x34_31 false (oNil x36_32)) fun x37_33 =>
 oB (gq x34_31 false (oFA 0 x37_33)) fun x38_34 =>
 oB (gq x34_31 false (oFA 0 x38_34)) fun x39_35 =>
 oB (gq x34_31 false (oLd h29 x39_35)) fun x40_36 =>
 oB (gq x34_31 false (some x25_24)) fun x41_37 =>
 oB (gq x34_31 false (oIx 6 x40_36 x41_37)) fun x42_38 =>
 oB (gq x34_31 false (oFA 3 x42_38)) fun x43_39 =>
 oB (gq x34_31 false (oLd h29 x43_39)) fun x44_40 =>
 oB (gq x34_31 false (some y1_19)) fun x45_41 =>
 oB (gq x34_31 false (bNe .no x44_40 x45_41)) fun x46_42 =>
 oB (oPick x34_31 (.bool true) x46_42) fun x47_43 =>
 oB (gq x47_43 false (some y0_19)) fun x49_44 =>
 oB (gq x47_43 false (oNil x49_44)) fun x50_45 =>
 oB (gq x47_43 false (oFA 0 x50_45)) fun x51_46 =>
 oB (gq x47_43 false (oFA 0 x51_46)) fun x52_47 =>
 oB (gq x47_43 false (oLd h29 x52_47)) fun x53_48 =>
 oB (gq x47_43 false (some x25_24)) fun x54_49 =>
 oB (gq x47_43 false (oIx 6 x53_48 x54_49)) fun x55_50 =>
 oB (gq x47_43 false (oFA 1 x55_50)) fun x56_51 =>
 oB (gq x47_43 false (oLd h29 x56_51)) fun x57_52 =>
 oB (gq x47_43 false (some y6_19)) fun x58_53 =>
 oB (gq x47_43 false (bLt x57_52 x58_53)) fun x59_54 =>
 oB (oPick x47_43 (.bool true) x59_54) fun x60_55 =>
 oB (gq x60_55 false (some y0_19)) fun x62_56 =>
 oB (gq x60_55 false (oNil x62_56)) fun x63_57 =>
 oB (gq x60_55 false (oFA 0 x63_57)) fun x64_58 =>
 oB (gq x60_55 false (oFA 0 x64_58)) fun x65_59 =>
 oB (gq x60_55 false (oLd h29 x65_59)) fun x66_60 =>
 oB (gq x60_55 false (some x25_24)) fun x67_61 =>
 oB (gq x60_55 false (oIx 6 x66_60 x67_61)) fun x68_62 =>
 oB (gq x60_55 false (oFA 2 x68_62)) fun x69_63 =>
 oB (gq x60_55 false (oLd h29 x69_63)) fun x70_64 =>
 oB (gq x60_55 false (oFA 2 y5_19)) fun x71_65 =>
 oB (gq x60_55 false (oLd h29 x71_65)) fun x72_66 =>
 oB (gq x60_55 false (bGt x70_64 x72_66)) fun x73_67 =>
 oB (oPick x60_55 (.bool true) x73_67) fun x74_68 =>
 ci x74_68 (
 some ((.bool false), h29)) (
 oB (oNil y0_19) fun x76_69 =>
 oB (oFA 0 x76_69) fun x77_70 =>
 oB (oFA 0 x77_70) fun x78_71 =>
 oB (oLd h29 x78_71) fun x79_72 =>
 oB (oIx 6 x79_72 x25_24) fun x81_73 =>
 oB (oFA 2 x81_73) fun x82_74 =>
 oB (oLd h29 x82_74) fun x83_75 =>
 j21 y22_19 y21_19 y20_19 x83_75 y5_19 y1_19 y0_19 h29)) (
 j13 y5_19 h19)) (I 0) x21_12 x20_11 x18_9 x5_6 x1 x0 h7
theorem o_arena_forest_lies : FnOK Tryz.prog n_arena_forest_lies (a2 f_arena_forest_lies) := ok2 mixed Tryz.func245 (by kernel_rfl)
/- (*corrector/graph.composer).null -/
noncomputable def f_graph_composer_null (n : Nat) (call : Caller)  (x0 : AV) (h : AH) : Ans :=
 oB (oBuild [(I 0), (.str []), (.str []), .nils] [(0, 1, (I 1))]) fun x4_0 =>
 oP (call n_graph_composer_value [x0, x4_0] h) fun x5_1 h1 =>
 some (x5_1, h1)
theorem o_graph_composer_null : FnOK Tryz.prog n_graph_composer_null (a1 f_graph_composer_null) := ok1 mixed Tryz.func246 (by kernel_rfl)
/- (*corrector/graph.composer).last -/
noncomputable def f_graph_composer_last (n : Nat) (call : Caller)  (x0 x1 x2 : AV) (h : AH) : Ans :=
 oP (oNew h 159 (AV.cells x0)) fun x3_0 h0 =>
 oP (oNew h0 3 (AV.cells x2)) fun x5_1 h1 =>
 oP (oNew h1 9 [(.str [])]) fun x6_2 h2 =>
 oP (oNew h2 4 [(.bool false)]) fun x7_3 h3 =>
 oP (call n_slices_Backward_api_Token_api_Token [x1] h3) fun x11_4 h4 =>
 jnF 2 (fun z7_5 z6_5 h5 =>
 oP (oSt 1 h5 z6_5 (.str [])) fun _ h6 =>
 oP (oSt 1 h6 z7_5 (.bool false)) fun _ h7 =>
 retT [(6, some none), (7, some none)] (sput 7 (sput 6 Tr.e z6_5) z7_5) h7) fun j5 =>
 none
theorem o_graph_composer_last : FnOK Tryz.prog n_graph_composer_last (a3 f_graph_composer_last) := ok3 mixed Tryz.func247 (by kernel_rfl)
/- (*corrector/graph.composer).own$1 -/
noncomputable def f_graph_composer_own_1 (n : Nat) (call : Caller)  (x0 : AV) (h : AH) : Ans :=
 oP (oNew h 92 (AV.cells x0)) fun x1_0 h0 =>
 oB (oFA 0 x1_0) fun x3_1 =>
 oB (oLd h0 x3_1) fun x4_2 =>
 oB (bEq .no x4_2 (I 8)) fun x5_3 =>
 oB (gq x5_3 false (oFA 0 x1_0)) fun x7_4 =>
 oB (gq x5_3 false (oLd h0 x7_4)) fun x8_5 =>
 oB (gq x5_3 false (bEq .no x8_5 (I 9))) fun x9_6 =>
 oB (oPick x5_3 (.bool true) x9_6) fun x10_7 =>
 some (x10_7, h0)
theorem o_graph_composer_own_1 : FnOK Tryz.prog n_graph_composer_own_1 (a1 f_graph_composer_own_1) := ok1 mixed Tryz.func248 (by kernel_rfl)
/- (*corrector/graph.composer).said -/
noncomputable def f_graph_composer_said (n : Nat) (call : Caller)  (x0 x1 : AV) (h : AH) : Ans :=
 oB (oLen x1) fun x13_0 =>
 jnF 2 (fun z6_1 z5_1 h1 =>
 oB (bEq .no z5_1 (.str [])) fun x56_2 =>
 ci x56_2 (
 oB (some (.iface 289 (.str []))) fun x57_3 =>
 some (x57_3, h1)) (
 oP (call n_block_Text [z5_1, z6_1] h1) fun x60_4 h4 =>
 oB (some (.iface 291 x60_4)) fun x61_5 =>
 some (x61_5, h4))) fun j1 =>
 lpF 6 n (fun f6 y14_6 y13_6 y12_6 y6_6 y5_6 y0_6 h6 =>
 oB (bLt y14_6 y13_6) fun x15_7 =>
 ci x15_7 (
 jnF 6 (fun z14_8 z13_8 z12_8 z6_8 z5_8 z0_8 h8 =>
 oB (bAdd z14_8 (I 1)) fun x54_9 =>
 f6 x54_9 z13_8 z12_8 z6_8 z5_8 z0_8 h8) fun j8 =>
 oB (oIx 3 y12_6 y14_6) fun x16_10 =>
 oB (oLdN 3 h6 x16_10) fun x17_11 =>
 oP (oNew h6 92 [(I 0), (I 0), (I 0)]) fun x8_12 h12 =>
 oP (oSt 3 h12 x8_12 x17_11) fun _ h13 =>
 oB (oFA 0 x8_12) fun x18_14 =>
 oB (oLd h13 x18_14) fun x19_15 =>
 jnF 6 (fun z14_16 z13_16 z12_16 z6_16 z5_16 z0_16 h16 =>
 j8 z14_16 z13_16 z12_16 z6_16 z5_16 z0_16 h16) fun j16 =>
 oB (bEq .no x19_15 (I 15)) fun x21_17 =>
 ci x21_17 (
 oB (oLdN 3 h13 x8_12) fun x23_18 =>
 oP (call n_graph_composer_text [y0_6, x23_18] h13) fun x24_19 h19 =>
 oB (some (.iface 289 x24_19)) fun x25_20 =>
 some (x25_20, h19)) (
 oB (bEq .no x19_15 (I 16)) fun x27_21 =>
 jnF 9 (fun z26_22 z19_22 z14_22 z13_22 z12_22 z8_22 z6_22 z5_22 z0_22 h22 =>
 ci z26_22 (
 oB' (nx 13 h22) fun h23 =>
 oB (oFA 0 z8_22) fun x30_24 =>
 oB (oLd h23 x30_24) fun x31_25 =>
 oB (oLdN 3 h23 z8_22) fun x33_26 =>
 oP (call n_graph_composer_text [z0_22, x33_26] h23) fun x34_27 h27 =>
 oP (call n_quote_Text [x31_25, x34_27] h27) fun x35_28 h28 =>
 oB (oEx 0 x35_28) fun x36_29 =>
 oB (oEx 1 x35_28) fun x37_30 =>
 oB (oEx 2 x35_28) fun x38_31 =>
 ask1 true (oLd h23 x30_24) x31_25 (
 ask1 true (oLd h27 x30_24) x31_25 (
 ask1 true (oLdN 3 h23 z8_22) x33_26 (
 oB (some (.iface 291 x36_29)) fun x40_32 =>
 some (x40_32, h28))))) (
 oB (bEq .no z19_22 (I 18)) fun x42_33 =>
 jnF 6 (fun z14_34 z13_34 z12_34 z6_34 z5_34 z0_34 h34 =>
 j16 z14_34 z13_34 z12_34 z6_34 z5_34 z0_34 h34) fun j34 =>
 ci x42_33 (
 oB (oLdN 3 h22 z8_22) fun x44_35 =>
 oP (call n_graph_composer_text [z0_22, x44_35] h22) fun x45_36 h36 =>
 j34 z14_22 z13_22 z12_22 z6_22 x45_36 z0_22 h36) (
 oB (bEq .no z19_22 (I 19)) fun x47_37 =>
 jnF 6 (fun z14_38 z13_38 z12_38 z6_38 z5_38 z0_38 h38 =>
 j34 z14_38 z13_38 z12_38 z6_38 z5_38 z0_38 h38) fun j38 =>
 ci x47_37 (
 oB (oLdN 3 h22 z8_22) fun x50_39 =>
 oP (call n_graph_composer_text [z0_22, x50_39] h22) fun x51_40 h40 =>
 oP (oBuildSl h40 9 1 1 [(.str [])] [(0, 1, x51_40)]) fun x52_41 h41 =>
 oP (evW (.append 9 1 16 [(.str [])] (.c z6_22) (.c x52_41)) .e h41) fun x53_42 h42 =>
 j38 z14_22 z13_22 z12_22 x53_42 z5_22 z0_22 h42) (
 j38 z14_22 z13_22 z12_22 z6_22 z5_22 z0_22 h22)))) fun j22 =>
 ci x27_21 (
 j22 x27_21 x19_15 y14_6 y13_6 y12_6 x8_12 y6_6 y5_6 y0_6 h13) (
 oB (bEq .no x19_15 (I 17)) fun x28_43 =>
 j22 x28_43 x19_15 y14_6 y13_6 y12_6 x8_12 y6_6 y5_6 y0_6 h13))) (
 j1 y6_6 y5_6 h6)) (I 0) x13_0 x1 .nils (.str []) x0 h
theorem o_graph_composer_said : FnOK Tryz.prog n_graph_composer_said (a2 f_graph_composer_said) := ok2 mixed Tryz.func249 (by kernel_rfl)
/- (*corrector/graph.composer).value -/
noncomputable def f_graph_composer_value (n : Nat) (call : Caller)  (x0 x1 : AV) (h : AH) : Ans :=
 oP (oNew h 167 (AV.cells x1)) fun x3_0 h0 =>
 oB (oFA 3 x3_0) fun x5_1 =>
 oB (oLd h0 x5_1) fun x6_2 =>
 oP (call n_slices_Clone_int_int [x6_2] h0) fun x7_3 h3 =>
 oB (oFA 3 x3_0) fun x8_4 =>
 oP (oSt 1 h3 x8_4 x7_3) fun _ h5 =>
 oB' (nx 13 h5) fun h6 =>
 oB (oNil x0) fun x11_7 =>
 oB (oFA 3 x11_7) fun x12_8 =>
 oB (oFA 0 x12_8) fun x13_9 =>
 oB (oLd h6 x13_9) fun x14_10 =>
 oB (oLdN 4 h6 x3_0) fun x15_11 =>
 fl1 true (evF (.buildSlice 167 4 1 [(I 0), (.str []), (.str []), .nils] [(0, 4, (.c x15_11))]) .e) (Nat.add h5.next 7) fun x16_12 o12 =>
 oB' (lay1 (Nat.add h5.next 7) o12 h6) fun v13 =>
 oP (evW (.append 167 4 64 [(I 0), (.str []), (.str []), .nils] (.c x14_10) (.c x16_12)) .e v13) fun x17_14 h14 =>
 oB (oNil x0) fun x18_15 =>
 oB (oFA 3 x18_15) fun x19_16 =>
 oB (oFA 0 x19_16) fun x20_17 =>
 oP (oSt 1 h14 x20_17 x17_14) fun x0_18 h18 =>
 ask1 true (oLd h6 x13_9) x14_10 (
 ask1 true (oLdN 4 h6 x3_0) x15_11 (
 oB (oNil x0) fun x22_19 =>
 oB (oFA 3 x22_19) fun x23_20 =>
 oB (oFA 0 x23_20) fun x24_21 =>
 oB (oLd h18 x24_21) fun x25_22 =>
 oB (oLen x25_22) fun x26_23 =>
 oB (bSub x26_23 (I 1)) fun x27_24 =>
 some (x27_24, h18)))
theorem o_graph_composer_value : FnOK Tryz.prog n_graph_composer_value (a2 f_graph_composer_value) := ok2 mixed Tryz.func250 (by kernel_rfl)
/- corrector/resolve.Tagged -/
noncomputable def f_resolve_Tagged (n : Nat) (call : Caller)  (x0 x1 x2 : AV) (h : AH) : Ans :=
 oP (call n_resolve_Kind [x1] h) fun x10_0 h0 =>
 jnF 2 (fun z7_1 z0_1 h1 =>
 oP (oBuildSl h1 9 1 6 [(.str []), (.str []), (.str []), (.str []), (.str []), (.str [])] [(1, 1, (.str [33, 33, 110, 117, 108, 108])), (2, 1, (.str [33, 33, 98, 111, 111, 108])), (3, 1, (.str [33, 33, 105, 110, 116])), (4, 1, (.str [33, 33, 102, 108, 111, 97, 116])), (5, 1, (.str []))]) fun x20_2 h2 =>
 oB (oIx 1 x20_2 z7_1) fun x23_3 =>
 oB (oLd h2 x23_3) fun x24_4 =>
 oB (bEq .no x24_4 z0_1) fun x26_5 =>
 ci x26_5 (
 some (z7_1, h2)) (
 some ((I 5), h2))) fun j1 =>
 oB (bEq .no x0 (.str [])) fun x13_6 =>
 ci x13_6 (
 ci x2 (
 some (x10_0, h0)) (
 some ((I 5), h0))) (
 oB (bEq .no x0 (.str [33, 33, 102, 108, 111, 97, 116])) fun x17_7 =>
 jnF 2 (fun z7_8 z0_8 h8 =>
 j1 z7_8 z0_8 h8) fun j8 =>
 ci x17_7 (
 oB (bEq .no x10_0 (I 3)) fun x19_9 =>
 jnF 2 (fun z7_10 z0_10 h10 =>
 j8 z7_10 z0_10 h10) fun j10 =>
 ci x19_9 (
 j10 (I 4) x0 h0) (
 j10 x10_0 x0 h0)) (
 j8 x10_0 x0 h0))
theorem o_resolve_Tagged : FnOK Tryz.prog n_resolve_Tagged (a3 f_resolve_Tagged) := ok3 mixed Tryz.func251 (by kernel_rfl)
/- (*corrector/graph.composer).alias$1 -/
noncomputable def f_graph_composer_alias_1 (n : Nat) (call : Caller)  (x0 : AV) (h : AH) : Ans :=
 oP (oNew h 92 (AV.cells x0)) fun x1_0 h0 =>
 oB (oFA 0 x1_0) fun x3_1 =>
 oB (oLd h0 x3_1) fun x4_2 =>
 oB (bEq .no x4_2 (I 13)) fun x5_3 =>
 some (x5_3, h0)
theorem o_graph_composer_alias_1 : FnOK Tryz.prog n_graph_composer_alias_1 (a1 f_graph_composer_alias_1) := ok1 mixed Tryz.func252 (by kernel_rfl)
/- (*corrector/graph.composer).text -/
noncomputable def f_graph_composer_text (n : Nat) (call : Caller)  (x0 x1 : AV) (h : AH) : Ans :=
 oP (oNew h 92 (AV.cells x1)) fun x3_0 h0 =>
 oB' (nx 11 h0) fun h1 =>
 oB (oNil x0) fun x6_2 =>
 oB (oFA 0 x6_2) fun x7_3 =>
 oB (oLd h1 x7_3) fun x8_4 =>
 oB (oFA 1 x3_0) fun x9_5 =>
 oB (oLd h1 x9_5) fun x10_6 =>
 oB (oFA 2 x3_0) fun x11_7 =>
 oB (oLd h1 x11_7) fun x12_8 =>
 oB (evQ (.sl 1 (.c x8_4) (some (.c x10_6)) (some (.c x12_8)) none) .e h1) fun x13_9 =>
 oB (evQ (.b2s (.c x13_9)) .e h1) fun x14_10 =>
 some (x14_10, h1)
theorem o_graph_composer_text : FnOK Tryz.prog n_graph_composer_text (a2 f_graph_composer_text) := ok2 mixed Tryz.func253 (by kernel_rfl)
/- (*corrector/graph.composer).all -/
noncomputable def f_graph_composer_all (n : Nat) (call : Caller)  (x0 x1 : AV) (h : AH) : Ans :=
 oP (oNew h 159 (AV.cells x0)) fun x2_0 h0 =>
 oP (oNew h0 120 (AV.cells x1)) fun x3_1 h1 =>
 oP (oNew h1 50 [.nils]) fun x5_2 h2 =>
 oB (some (.fn n_graph_composer_all_1 [] [x2_0, x3_1, x5_2])) fun x9_3 =>
 oB (oFA 4 x3_1) fun x10_4 =>
 oB (oLd h2 x10_4) fun x11_5 =>
 oB (oLen x11_5) fun x12_6 =>
 jnF 1 (fun z5_7 h7 =>
 oB (oLd h7 z5_7) fun x21_8 =>
 some (x21_8, h7)) fun j7 =>
 lpF 5 n (fun f9 y13_9 y12_9 y11_9 y6_9 y5_9 h9 =>
 oB (bLt y13_9 y12_9) fun x14_10 =>
 ci x14_10 (
 jnF 5 (fun z13_11 z12_11 z11_11 z6_11 z5_11 h11 =>
 oB (bAdd z13_11 (I 1)) fun x20_12 =>
 f9 x20_12 z12_11 z11_11 z6_11 z5_11 h11) fun j11 =>
 oB (oIx 1 y11_9 y13_9) fun x15_13 =>
 oB (oLd h9 x15_13) fun x16_14 =>
 oP (wOf (.callV (.c y6_9) [(.c x16_14)]) call .e h9) fun x19_15 h15 =>
 j11 y13_9 y12_9 y11_9 y6_9 y5_9 h15) (
 j7 y5_9 h9)) (I 0) x12_6 x11_5 x9_3 x5_2 h2
theorem o_graph_composer_all : FnOK Tryz.prog n_graph_composer_all (a2 f_graph_composer_all) := ok2 mixed Tryz.func254 (by kernel_rfl)
/- slices.insertionSortCmpFunc[corrector/api.Diag] -/
noncomputable def f_slices_insertionSortCmpFunc_api_Diag (n : Nat) (call : Caller)  (x0 x1 x2 x3 : AV) (h : AH) : Ans :=
 oB (bAdd x1 (I 1)) fun x11_0 =>
 jnF 0 (fun h1 =>
 some (.tup [], h1)) fun j1 =>
 lpF 5 n (fun f2 y8_2 y3_2 y2_2 y1_2 y0_2 h2 =>
 oB (bLt y8_2 y2_2) fun x14_3 =>
 ci x14_3 (
 jnF 5 (fun z8_4 z3_4 z2_4 z1_4 z0_4 h4 =>
 oB (bAdd z8_4 (I 1)) fun x16_5 =>
 f2 x16_5 z3_4 z2_4 z1_4 z0_4 h4) fun j4 =>
 jnF 5 (fun z8_6 z3_6 z2_6 z1_6 z0_6 h6 =>
 j4 z8_6 z3_6 z2_6 z1_6 z0_6 h6) fun j6 =>
 lpF 6 n (fun f7 y9_7 y8_7 y3_7 y2_7 y1_7 y0_7 h7 =>
 oB' (nx 17 h7) fun h8 =>
 oB (bGt y9_7 y1_7) fun x20_9 =>
 oB (gq x20_9 true (some y3_7)) fun x22_10 =>
 oB (gq x20_9 true (some y0_7)) fun x23_11 =>
 oB (gq x20_9 true (some y9_7)) fun x24_12 =>
 oB (gq x20_9 true (oIx 3 x23_11 x24_12)) fun x25_13 =>
 oB (gq x20_9 true (oLdN 3 h8 x25_13)) fun x26_14 =>
 oB (gq x20_9 true (some y0_7)) fun x27_15 =>
 oB (gq x20_9 true (some y9_7)) fun x28_16 =>
 oB (gq x20_9 true (bSub x28_16 (I 1))) fun x29_17 =>
 oB (gq x20_9 true (oIx 3 x27_15 x29_17)) fun x30_18 =>
 oB (gq x20_9 true (oLdN 3 h8 x30_18)) fun x31_19 =>
 oP (gw x20_9 true (wOf (.callV (.c x22_10) [(.c x26_14), (.c x31_19)]) call .e h8) h8) fun x32_20 h20 =>
 oB (gq x20_9 true (bLt x32_20 (I 0))) fun x33_21 =>
 oB (oPick x20_9 x33_21 (.bool false)) fun x34_22 =>
 ci x34_22 (
 jnF 6 (fun z9_23 z8_23 z3_23 z2_23 z1_23 z0_23 h23 =>
 oB (bSub z9_23 (I 1)) fun x36_24 =>
 f7 x36_24 z8_23 z3_23 z2_23 z1_23 z0_23 h23) fun j23 =>
 oB' (nx 18 h20) fun h25 =>
 oB (bSub y9_7 (I 1)) fun x41_26 =>
 oB (bSub y9_7 (I 1)) fun x44_27 =>
 oB (oIx 3 y0_7 x44_27) fun x45_28 =>
 oB (oLdN 3 h25 x45_28) fun x46_29 =>
 oB (oIx 3 y0_7 y9_7) fun x49_30 =>
 oB (oLdN 3 h25 x49_30) fun x50_31 =>
 oB (oIx 3 y0_7 y9_7) fun x51_32 =>
 oP (oSt 3 h25 x51_32 x46_29) fun _ h33 =>
 oB (oIx 3 y0_7 x41_26) fun x52_34 =>
 oP (oSt 3 h33 x52_34 x50_31) fun _ h35 =>
 j23 y9_7 y8_7 y3_7 y2_7 y1_7 y0_7 h35) (
 j6 y8_7 y3_7 y2_7 y1_7 y0_7 h20)) y8_2 y8_2 y3_2 y2_2 y1_2 y0_2 h2) (
 j1 h2)) x11_0 x3 x2 x1 x0 h
theorem o_slices_insertionSortCmpFunc_api_Diag : FnOK Tryz.prog n_slices_insertionSortCmpFunc_api_Diag (a4 f_slices_insertionSortCmpFunc_api_Diag) := ok4 mixed Tryz.func255 (by kernel_rfl)
/- slices.heapSortCmpFunc[corrector/api.Diag] -/
noncomputable def f_slices_heapSortCmpFunc_api_Diag (n : Nat) (call : Caller)  (x0 x1 x2 x3 : AV) (h : AH) : Ans :=
 oB (bSub x2 x1) fun x16_0 =>
 oB (bSub x16_0 (I 1)) fun x18_1 =>
 oB (binAV .quo .no x18_1 (I 2)) fun x19_2 =>
 jnF 5 (fun z10_3 z9_3 z8_3 z3_3 z0_3 h3 =>
 oB (bSub z10_3 (I 1)) fun x31_4 =>
 jnF 0 (fun h5 =>
 some (.tup [], h5)) fun j5 =>
 lpF 5 n (fun f6 y12_6 y9_6 y8_6 y3_6 y0_6 h6 =>
 oB (bGe y12_6 (I 0)) fun x33_7 =>
 ci x33_7 (
 jnF 5 (fun z12_8 z9_8 z8_8 z3_8 z0_8 h8 =>
 oB (bSub z12_8 (I 1)) fun x35_9 =>
 f6 x35_9 z9_8 z8_8 z3_8 z0_8 h8) fun j8 =>
 oB' (nx 20 h6) fun h10 =>
 oB (bAdd y8_6 y12_6) fun x41_11 =>
 oB (bAdd y8_6 y12_6) fun x45_12 =>
 oB (oIx 3 y0_6 x45_12) fun x46_13 =>
 oB (oLdN 3 h10 x46_13) fun x47_14 =>
 oB (oIx 3 y0_6 y8_6) fun x50_15 =>
 oB (oLdN 3 h10 x50_15) fun x51_16 =>
 oB (oIx 3 y0_6 y8_6) fun x52_17 =>
 oP (oSt 3 h10 x52_17 x47_14) fun _ h18 =>
 oB (oIx 3 y0_6 x41_11) fun x53_19 =>
 oP (oSt 3 h18 x53_19 x51_16) fun _ h20 =>
 oP (call n_slices_siftDownCmpFunc_api_Diag [y0_6, y9_6, y12_6, y8_6, y3_6] h20) fun x59_21 h21 =>
 j8 y12_6 y9_6 y8_6 y3_6 y0_6 h21) (
 j5 h6)) x31_4 z9_3 z8_3 z3_3 z0_3 h3) fun j3 =>
 lpF 6 n (fun f22 y11_22 y10_22 y9_22 y8_22 y3_22 y0_22 h22 =>
 oB (bGe y11_22 (I 0)) fun x21_23 =>
 ci x21_23 (
 jnF 6 (fun z11_24 z10_24 z9_24 z8_24 z3_24 z0_24 h24 =>
 oB (bSub z11_24 (I 1)) fun x23_25 =>
 f22 x23_25 z10_24 z9_24 z8_24 z3_24 z0_24 h24) fun j24 =>
 oP (call n_slices_siftDownCmpFunc_api_Diag [y0_22, y11_22, y10_22, y8_22, y3_22] h22) fun x29_26 h26 =>
 j24 y11_22 y10_22 y9_22 y8_22 y3_22 y0_22 h26) (
 j3 y10_22 y9_22 y8_22 y3_22 y0_22 h22)) x19_2 x16_0 (I 0) x1 x3 x0 h
theorem o_slices_heapSortCmpFunc_api_Diag : FnOK Tryz.prog n_slices_heapSortCmpFunc_api_Diag (a4 f_slices_heapSortCmpFunc_api_Diag) := ok4 mixed Tryz.func256 (by kernel_rfl)
/- slices.breakPatternsCmpFunc[corrector/api.Diag] -/
noncomputable def f_slices_breakPatternsCmpFunc_api_Diag (n : Nat) (call : Caller)  (x0 x1 x2 x3 : AV) (h : AH) : Ans :=
 oB (bSub x2 x1) fun x15_0 =>
 oB (bGe x15_0 (I 8)) fun x17_1 =>
 jnF 0 (fun h2 =>
 some (.tup [], h2)) fun j2 =>
 ci x17_1 (
 oB (oInt .u64 x15_0) fun x19_3 =>
 oP (oNew h 346 [(.int .u64 0)]) fun x9_4 h4 =>
 oP (oSt 1 h4 x9_4 x19_3) fun _ h5 =>
 oP (call n_slices_nextPowerOfTwo [x15_0] h5) fun x21_6 h6 =>
 oB (binAV .quo .no x15_0 (I 4)) fun x24_7 =>
 oB (binAV .mul .no x24_7 (I 2)) fun x25_8 =>
 oB (bAdd x1 x25_8) fun x26_9 =>
 oB (bSub x26_9 (I 1)) fun x27_10 =>
 jnF 0 (fun h11 =>
 j2 h11) fun j11 =>
 lpF 6 n (fun f12 y11_12 y10_12 y9_12 y8_12 y1_12 y0_12 h12 =>
 oB (binAV .quo .no y8_12 (I 4)) fun x31_13 =>
 oB (binAV .mul .no x31_13 (I 2)) fun x32_14 =>
 oB (bAdd y1_12 x32_14) fun x33_15 =>
 oB (bAdd x33_15 (I 1)) fun x34_16 =>
 oB (bLe y11_12 x34_16) fun x35_17 =>
 ci x35_17 (
 jnF 6 (fun z11_18 z10_18 z9_18 z8_18 z1_18 z0_18 h18 =>
 oB (bAdd z11_18 (I 1)) fun x37_19 =>
 f12 x37_19 z10_18 z9_18 z8_18 z1_18 z0_18 h18) fun j18 =>
 oP (call n_slices_xorshift_Next [y9_12] h12) fun x38_20 h20 =>
 oB (bSub y10_12 (.int .u64 1)) fun x40_21 =>
 oB (binAV .and .no x38_20 x40_21) fun x41_22 =>
 oB (oInt .i64 x41_22) fun x42_23 =>
 oB (bGe x42_23 y8_12) fun x45_24 =>
 jnF 7 (fun z12_25 z11_25 z10_25 z9_25 z8_25 z1_25 z0_25 h25 =>
 oB' (nx 20 h25) fun h26 =>
 oB (bAdd z1_25 z12_25) fun x54_27 =>
 oB (bAdd z1_25 z12_25) fun x58_28 =>
 oB (oIx 3 z0_25 x58_28) fun x59_29 =>
 oB (oLdN 3 h26 x59_29) fun x60_30 =>
 oB (oIx 3 z0_25 z11_25) fun x63_31 =>
 oB (oLdN 3 h26 x63_31) fun x64_32 =>
 oB (oIx 3 z0_25 z11_25) fun x65_33 =>
 oP (oSt 3 h26 x65_33 x60_30) fun _ h34 =>
 oB (oIx 3 z0_25 x54_27) fun x66_35 =>
 oP (oSt 3 h34 x66_35 x64_32) fun _ h36 =>
 j18 z11_25 z10_25 z9_25 z8_25 z1_25 z0_25 h36) fun j25 =>
 ci x45_24 (
 oB (bSub x42_23 y8_12) fun x48_37 =>
 j25 x48_37 y11_12 y10_12 y9_12 y8_12 y1_12 y0_12 h20) (
 j25 x42_23 y11_12 y10_12 y9_12 y8_12 y1_12 y0_12 h20)) (
 j11 h12)) x27_10 x21_6 x9_4 x15_0 x1 x0 h6) (
 j2 h)
theorem o_slices_breakPatternsCmpFunc_api_Diag : FnOK Tryz.prog n_slices_breakPatternsCmpFunc_api_Diag (a4 f_slices_breakPatternsCmpFunc_api_Diag) := ok4 mixed Tryz.func257 (by kernel_rfl)
/- slices.choosePivotCmpFunc[corrector/api.Diag] -/
noncomputable def f_slices_choosePivotCmpFunc_api_Diag (n : Nat) (call : Caller)  (x0 x1 x2 x3 : AV) (h : AH) : Ans :=
 oB (bSub x2 x1) fun x17_0 =>
 oP (oNew h 3 [(I 0)]) fun x11_1 h1 =>
 oB (binAV .quo .no x17_0 (I 4)) fun x20_2 =>
 oB (binAV .mul .no x20_2 (I 1)) fun x21_3 =>
 oB (bAdd x1 x21_3) fun x22_4 =>
 oB (binAV .quo .no x17_0 (I 4)) fun x25_5 =>
 oB (binAV .mul .no x25_5 (I 2)) fun x26_6 =>
 oB (bAdd x1 x26_6) fun x27_7 =>
 oB (binAV .quo .no x17_0 (I 4)) fun x30_8 =>
 oB (binAV .mul .no x30_8 (I 3)) fun x31_9 =>
 oB (bAdd x1 x31_9) fun x32_10 =>
 oB (bGe x17_0 (I 8)) fun x34_11 =>
 jnF 2 (fun z13_12 z11_12 h12 =>
 oB (oLd h12 z11_12) fun x55_13 =>
 jnF 2 (fun z9_14 z8_14 h14 =>
 some (.tup [z8_14, z9_14], h14)) fun j14 =>
 oB (bEq .no x55_13 (I 0)) fun x58_15 =>
 ci x58_15 (
 some (.tup [z13_12, (I 1)], h12)) (
 oB (bEq .no x55_13 (I 12)) fun x61_16 =>
 ci x61_16 (
 some (.tup [z13_12, (I 2)], h12)) (
 some (.tup [z13_12, (I 0)], h12)))) fun j12 =>
 ci x34_11 (
 oB (bGe x17_0 (I 50)) fun x36_17 =>
 jnF 6 (fun z14_18 z13_18 z12_18 z11_18 z3_18 z0_18 h18 =>
 oP (call n_slices_medianCmpFunc_api_Diag [z0_18, z12_18, z13_18, z14_18, z11_18, z3_18] h18) fun x54_19 h19 =>
 j12 x54_19 z11_18 h19) fun j18 =>
 ci x36_17 (
 oP (call n_slices_medianAdjacentCmpFunc_api_Diag [x0, x22_4, x11_1, x3] h1) fun x40_20 h20 =>
 oP (call n_slices_medianAdjacentCmpFunc_api_Diag [x0, x27_7, x11_1, x3] h20) fun x44_21 h21 =>
 oP (call n_slices_medianAdjacentCmpFunc_api_Diag [x0, x32_10, x11_1, x3] h21) fun x48_22 h22 =>
 j18 x48_22 x44_21 x40_20 x11_1 x3 x0 h22) (
 j18 x32_10 x27_7 x22_4 x11_1 x3 x0 h1)) (
 j12 x27_7 x11_1 h1)
theorem o_slices_choosePivotCmpFunc_api_Diag : FnOK Tryz.prog n_slices_choosePivotCmpFunc_api_Diag (a4 f_slices_choosePivotCmpFunc_api_Diag) := ok4 mixed Tryz.func258 (by kernel_rfl)
/- slices.reverseRangeCmpFunc[corrector/api.Diag] -/
noncomputable def f_slices_reverseRangeCmpFunc_api_Diag (n : Nat) (call : Caller)  (x0 x1 x2 x3 : AV) (h : AH) : Ans :=
 oB (bSub x2 (I 1)) fun x12_0 =>
 jnF 0 (fun h1 =>
 some (.tup [], h1)) fun j1 =>
 lpF 3 n (fun f2 y9_2 y8_2 y0_2 h2 =>
 oB (bLt y8_2 y9_2) fun x15_3 =>
 ci x15_3 (
 jnF 3 (fun z9_4 z8_4 z0_4 h4 =>
 f2 z9_4 z8_4 z0_4 h4) fun j4 =>
 oB' (nx 16 h2) fun h5 =>
 oB (oIx 3 y0_2 y9_2) fun x22_6 =>
 oB (oLdN 3 h5 x22_6) fun x23_7 =>
 oB (oIx 3 y0_2 y8_2) fun x26_8 =>
 oB (oLdN 3 h5 x26_8) fun x27_9 =>
 oB (oIx 3 y0_2 y8_2) fun x28_10 =>
 oP (oSt 3 h5 x28_10 x23_7) fun _ h11 =>
 oB (oIx 3 y0_2 y9_2) fun x29_12 =>
 oP (oSt 3 h11 x29_12 x27_9) fun _ h13 =>
 oB (bAdd y8_2 (I 1)) fun x31_14 =>
 oB (bSub y9_2 (I 1)) fun x33_15 =>
 j4 x33_15 x31_14 y0_2 h13) (
 j1 h2)) x12_0 x1 x0 h
theorem o_slices_reverseRangeCmpFunc_api_Diag : FnOK Tryz.prog n_slices_reverseRangeCmpFunc_api_Diag (a4 f_slices_reverseRangeCmpFunc_api_Diag) := ok4 mixed Tryz.func259 (by kernel_rfl)
end Go.Proofs.YtmlhpcflphlgdaaGreatDoor
