/- Functions, as they run. PRINTED by a program of this repo. -/
import Derived.Test.YtahpoedbdhhdfaaGreatDoorN
import Derived.Test.YtahpoedbdhhdfaaGreatDoorM
set_option linter.unusedVariables false
set_option maxRecDepth 100000
namespace Go.Proofs.YtahpoedbdhhdfaaGreatDoor
open Go.Ev
/- (*corrector/scan.scanner).token -/
noncomputable def f_scan_scanner_token (n : Nat) (call : Caller)  (x0 x1 x2 : AV) (h : AH) : Ans :=
 oB (oNil x0) fun x8_0 =>
 oB (oFA 1 x8_0) fun x9_1 =>
 oB (oLd h x9_1) fun x10_2 =>
 oB (oNil x0) fun x13_3 =>
 oB (oFA 2 x13_3) fun x14_4 =>
 oB (oLd h x14_4) fun x15_5 =>
 oB (oBuild [(I 0), (I 0), (I 0)] [(0, 1, x1), (1, 1, x10_2), (2, 1, x2)]) fun x19_6 =>
 oP (oBuildSl h 131 3 1 [(I 0), (I 0), (I 0)] [(0, 3, x19_6)]) fun x20_7 h7 =>
 oP (evW (.append 131 3 24 [(I 0), (I 0), (I 0)] (.c x15_5) (.c x20_7)) .e h7) fun x21_8 h8 =>
 oB (oNil x0) fun x22_9 =>
 oB (oFA 2 x22_9) fun x23_10 =>
 oP (oSt 1 h8 x23_10 x21_8) fun _ h11 =>
 oB (oNil x0) fun x26_12 =>
 oB (oFA 1 x26_12) fun x27_13 =>
 oP (oSt 1 h11 x27_13 x2) fun _ h14 =>
 jnF 3 (fun z6_15 z1_15 z0_15 h15 =>
 oB (oNil z0_15) fun x39_16 =>
 oB (oFA 5 x39_16) fun x40_17 =>
 oB (oLd h15 x40_17) fun x41_18 =>
 oB (bLt x41_18 (I 0)) fun x42_19 =>
 jnF 2 (fun z1_20 z0_20 h20 =>
 oB (oNil z0_20) fun x54_21 =>
 oB (oFA 6 x54_21) fun x55_22 =>
 oB (oLd h20 x55_22) fun x56_23 =>
 oB (gq x56_23 true (some z1_20)) fun x58_24 =>
 oB (gq x56_23 true (bEq .no x58_24 (I 5))) fun x59_25 =>
 oB (oPick x56_23 x59_25 (.bool false)) fun x60_26 =>
 oB (gq x60_26 false (some z1_20)) fun x62_27 =>
 oB (gq x60_26 false (bEq .no x62_27 (I 20))) fun x63_28 =>
 oB (oPick x60_26 (.bool true) x63_28) fun x64_29 =>
 oB (oNil z0_20) fun x65_30 =>
 oB (oFA 6 x65_30) fun x66_31 =>
 oP (oSt 1 h20 x66_31 x64_29) fun _ h32 =>
 some (.tup [], h32)) fun j20 =>
 ci x42_19 (
 oB (oNil z0_15) fun x46_33 =>
 oB (oFA 4 x46_33) fun x47_34 =>
 oB (oLd h15 x47_34) fun x48_35 =>
 oB (bSub z6_15 x48_35) fun x49_36 =>
 oB (oNil z0_15) fun x50_37 =>
 oB (oFA 5 x50_37) fun x51_38 =>
 oP (oSt 1 h15 x51_38 x49_36) fun _ h39 =>
 j20 z1_15 z0_15 h39) (
 j20 z1_15 z0_15 h15)) fun j15 =>
 oB (bEq .no x1 (I 1)) fun x30_40 =>
 jnF 5 (fun z29_41 z28_41 z6_41 z1_41 z0_41 h41 =>
 ci z29_41 (
 oP (call n_scan_scanner_begin [z0_41] h41) fun x33_42 h42 =>
 some (.tup [], h42)) (
 oB (bEq .no z28_41 (I 2)) fun x35_43 =>
 jnF 4 (fun z34_44 z6_44 z1_44 z0_44 h44 =>
 ci z34_44 (
 some (.tup [], h44)) (
 j15 z6_44 z1_44 z0_44 h44)) fun j44 =>
 ci x35_43 (
 j44 x35_43 z6_41 z1_41 z0_41 h41) (
 oB (bEq .no z28_41 (I 3)) fun x36_45 =>
 jnF 4 (fun z34_46 z6_46 z1_46 z0_46 h46 =>
 j44 z34_46 z6_46 z1_46 z0_46 h46) fun j46 =>
 ci x36_45 (
 j46 x36_45 z6_41 z1_41 z0_41 h41) (
 oB (bEq .no z28_41 (I 4)) fun x37_47 =>
 j46 x37_47 z6_41 z1_41 z0_41 h41)))) fun j41 =>
 ci x30_40 (
 j41 x30_40 x1 x10_2 x1 x0 h14) (
 oB (bEq .no x1 (I 19)) fun x31_48 =>
 j41 x31_48 x1 x10_2 x1 x0 h14)
theorem o_scan_scanner_token : FnOK Tryz.prog n_scan_scanner_token (a3 f_scan_scanner_token) := ok3 mixed Tryz.func135 (by kernel_rfl)
/- (*corrector/scan.scanner).spaces -/
noncomputable def f_scan_scanner_spaces (n : Nat) (call : Caller)  (x0 x1 : AV) (h : AH) : Ans :=
 jnF 1 (fun z1_0 h0 =>
 some (z1_0, h0)) fun j0 =>
 lpF 2 n (fun f1 y1_1 y0_1 h1 =>
 oP (call n_scan_scanner_there [y0_1, y1_1, (U 32)] h1) fun x7_2 h2 =>
 ci x7_2 (
 jnF 2 (fun z1_3 z0_3 h3 =>
 f1 z1_3 z0_3 h3) fun j3 =>
 oB (bAdd y1_1 (I 1)) fun x9_4 =>
 j3 x9_4 y0_1 h2) (
 j0 y1_1 h2)) x1 x0 h
theorem o_scan_scanner_spaces : FnOK Tryz.prog n_scan_scanner_spaces (a2 f_scan_scanner_spaces) := ok2 mixed Tryz.func136 (by kernel_rfl)
/- (*corrector/scan.scanner).brk -/
noncomputable def f_scan_scanner_brk (n : Nat) (call : Caller)  (x0 x1 : AV) (h : AH) : Ans :=
 jnF 0 (fun h0 =>
 some ((I 0), h0)) fun j0 =>
 oP (call n_scan_scanner_there [x0, x1, (U 13)] h) fun x8_1 h1 =>
 oB (gq x8_1 true (some x0)) fun x10_2 =>
 oB (gq x8_1 true (some x1)) fun x11_3 =>
 oB (gq x8_1 true (bAdd x11_3 (I 1))) fun x12_4 =>
 oP (gw x8_1 true (call n_scan_scanner_there [x10_2, x12_4, (U 10)] h1) h1) fun x13_5 h5 =>
 oB (oPick x8_1 x13_5 (.bool false)) fun x14_6 =>
 ci x14_6 (
 some ((I 2), h5)) (
 oP (call n_scan_scanner_there [x0, x1, (U 13)] h5) fun x18_7 h7 =>
 oB (gq x18_7 false (some x0)) fun x20_8 =>
 oB (gq x18_7 false (some x1)) fun x21_9 =>
 oP (gw x18_7 false (call n_scan_scanner_there [x20_8, x21_9, (U 10)] h7) h7) fun x22_10 h10 =>
 oB (oPick x18_7 (.bool true) x22_10) fun x23_11 =>
 ci x23_11 (
 some ((I 1), h10)) (
 j0 h10))
theorem o_scan_scanner_brk : FnOK Tryz.prog n_scan_scanner_brk (a2 f_scan_scanner_brk) := ok2 mixed Tryz.func137 (by kernel_rfl)
/- (*corrector/scan.scanner).blanks -/
noncomputable def f_scan_scanner_blanks (n : Nat) (call : Caller)  (x0 x1 : AV) (h : AH) : Ans :=
 jnF 1 (fun z1_0 h0 =>
 some (z1_0, h0)) fun j0 =>
 lpF 2 n (fun f1 y1_1 y0_1 h1 =>
 oB (oNil y0_1) fun x7_2 =>
 oB (oFA 0 x7_2) fun x8_3 =>
 oB (oLd h1 x8_3) fun x9_4 =>
 oB (oLen x9_4) fun x10_5 =>
 oB (bLt y1_1 x10_5) fun x11_6 =>
 oB (gq x11_6 true (some y0_1)) fun x13_7 =>
 oB (gq x11_6 true (oNil x13_7)) fun x14_8 =>
 oB (gq x11_6 true (oFA 0 x14_8)) fun x15_9 =>
 oB (gq x11_6 true (oLd h1 x15_9)) fun x16_10 =>
 oB (gq x11_6 true (some y1_1)) fun x17_11 =>
 oB (gq x11_6 true (oIx 1 x16_10 x17_11)) fun x18_12 =>
 oB (gq x11_6 true (oLd h1 x18_12)) fun x19_13 =>
 oP (gw x11_6 true (call n_chars_Blank [x19_13] h1) h1) fun x20_14 h14 =>
 oB (oPick x11_6 x20_14 (.bool false)) fun x21_15 =>
 ci x21_15 (
 jnF 2 (fun z1_16 z0_16 h16 =>
 f1 z1_16 z0_16 h16) fun j16 =>
 oB (bAdd y1_1 (I 1)) fun x23_17 =>
 j16 x23_17 y0_1 h14) (
 j0 y1_1 h14)) x1 x0 h
theorem o_scan_scanner_blanks : FnOK Tryz.prog n_scan_scanner_blanks (a2 f_scan_scanner_blanks) := ok2 mixed Tryz.func138 (by kernel_rfl)
/- (*corrector/scan.scanner).last -/
noncomputable def f_scan_scanner_last (n : Nat) (call : Caller)  (x0 : AV) (h : AH) : Ans :=
 oB (oNil x0) fun x4_0 =>
 oB (oFA 2 x4_0) fun x5_1 =>
 oB (oLd h x5_1) fun x6_2 =>
 oB (oLen x6_2) fun x7_3 =>
 oB (bEq .no x7_3 (I 0)) fun x8_4 =>
 ci x8_4 (
 some ((I 0), h)) (
 oB' (nx 14 h) fun h5 =>
 oB (oNil x0) fun x10_6 =>
 oB (oFA 2 x10_6) fun x11_7 =>
 oB (oLd h5 x11_7) fun x12_8 =>
 oB (oNil x0) fun x14_9 =>
 oB (oFA 2 x14_9) fun x15_10 =>
 oB (oLd h5 x15_10) fun x16_11 =>
 oB (oLen x16_11) fun x17_12 =>
 oB (bSub x17_12 (I 1)) fun x18_13 =>
 oB (oIx 3 x12_8 x18_13) fun x19_14 =>
 oB (oFA 0 x19_14) fun x20_15 =>
 oB (oLd h5 x20_15) fun x21_16 =>
 some (x21_16, h5))
theorem o_scan_scanner_last : FnOK Tryz.prog n_scan_scanner_last (a1 f_scan_scanner_last) := ok1 mixed Tryz.func139 (by kernel_rfl)
/- (*corrector/scan.scanner).there -/
noncomputable def f_scan_scanner_there (n : Nat) (call : Caller)  (x0 x1 x2 : AV) (h : AH) : Ans :=
 oB (oNil x0) fun x9_0 =>
 oB (oFA 0 x9_0) fun x10_1 =>
 oB (oLd h x10_1) fun x11_2 =>
 oB (oLen x11_2) fun x12_3 =>
 oB (bLt x1 x12_3) fun x13_4 =>
 oB (gq x13_4 true (some x0)) fun x15_5 =>
 oB (gq x13_4 true (oNil x15_5)) fun x16_6 =>
 oB (gq x13_4 true (oFA 0 x16_6)) fun x17_7 =>
 oB (gq x13_4 true (oLd h x17_7)) fun x18_8 =>
 oB (gq x13_4 true (some x1)) fun x19_9 =>
 oB (gq x13_4 true (oIx 1 x18_8 x19_9)) fun x20_10 =>
 oB (gq x13_4 true (oLd h x20_10)) fun x21_11 =>
 oB (gq x13_4 true (some x2)) fun x22_12 =>
 oB (gq x13_4 true (bEq .no x21_11 x22_12)) fun x23_13 =>
 oB (oPick x13_4 x23_13 (.bool false)) fun x24_14 =>
 some (x24_14, h)
theorem o_scan_scanner_there : FnOK Tryz.prog n_scan_scanner_there (a3 f_scan_scanner_there) := ok3 mixed Tryz.func140 (by kernel_rfl)
/- (*corrector/scan.scanner).line -/
noncomputable def f_scan_scanner_line (n : Nat) (call : Caller)  (x0 x1 : AV) (h : AH) : Ans :=
 jnF 1 (fun z1_0 h0 =>
 some (z1_0, h0)) fun j0 =>
 lpF 2 n (fun f1 y1_1 y0_1 h1 =>
 oB (oNil y0_1) fun x7_2 =>
 oB (oFA 0 x7_2) fun x8_3 =>
 oB (oLd h1 x8_3) fun x9_4 =>
 oB (oLen x9_4) fun x10_5 =>
 oB (bLt y1_1 x10_5) fun x11_6 =>
 oB (gq x11_6 true (some y0_1)) fun x13_7 =>
 oB (gq x11_6 true (some y1_1)) fun x14_8 =>
 oP (gw x11_6 true (call n_scan_scanner_brk [x13_7, x14_8] h1) h1) fun x15_9 h9 =>
 oB (gq x11_6 true (bEq .no x15_9 (I 0))) fun x16_10 =>
 oB (oPick x11_6 x16_10 (.bool false)) fun x17_11 =>
 ci x17_11 (
 jnF 2 (fun z1_12 z0_12 h12 =>
 f1 z1_12 z0_12 h12) fun j12 =>
 oB (bAdd y1_1 (I 1)) fun x19_13 =>
 j12 x19_13 y0_1 h9) (
 j0 y1_1 h9)) x1 x0 h
theorem o_scan_scanner_line : FnOK Tryz.prog n_scan_scanner_line (a2 f_scan_scanner_line) := ok2 mixed Tryz.func141 (by kernel_rfl)
/- (*corrector/scan.scanner).brackets -/
noncomputable def f_scan_scanner_brackets (n : Nat) (call : Caller)  (x0 : AV) (h : AH) : Ans :=
 oB' (nx 10 h) fun h0 =>
 oB (oNil x0) fun x4_1 =>
 oB (oFA 0 x4_1) fun x5_2 =>
 oB (oLd h0 x5_2) fun x6_3 =>
 oB (oNil x0) fun x8_4 =>
 oB (oFA 1 x8_4) fun x9_5 =>
 oB (oLd h0 x9_5) fun x10_6 =>
 oB (oIx 1 x6_3 x10_6) fun x11_7 =>
 oB (oLd h0 x11_7) fun x12_8 =>
 jnF 0 (fun h9 =>
 some ((I 0), h9)) fun j9 =>
 oB (bEq .no x12_8 (U 91)) fun x14_10 =>
 ci x14_10 (
 oB (oNil x0) fun x16_11 =>
 oB (oFA 3 x16_11) fun x17_12 =>
 oB (oLd h0 x17_12) fun x18_13 =>
 oB (bAdd x18_13 (I 1)) fun x19_14 =>
 oB (oNil x0) fun x20_15 =>
 oB (oFA 3 x20_15) fun x21_16 =>
 oP (oSt 1 h0 x21_16 x19_14) fun _ h17 =>
 some ((I 8), h17)) (
 oB (bEq .no x12_8 (U 123)) fun x23_18 =>
 ci x23_18 (
 oB (oNil x0) fun x25_19 =>
 oB (oFA 3 x25_19) fun x26_20 =>
 oB (oLd h0 x26_20) fun x27_21 =>
 oB (bAdd x27_21 (I 1)) fun x28_22 =>
 oB (oNil x0) fun x29_23 =>
 oB (oFA 3 x29_23) fun x30_24 =>
 oP (oSt 1 h0 x30_24 x28_22) fun _ h25 =>
 some ((I 9), h25)) (
 oB (bEq .no x12_8 (U 93)) fun x32_26 =>
 ci x32_26 (
 oB (oNil x0) fun x35_27 =>
 oB (oFA 3 x35_27) fun x36_28 =>
 oB (oLd h0 x36_28) fun x37_29 =>
 oB (bSub x37_29 (I 1)) fun x38_30 =>
 oB (evQ (.maxI (.c x38_30) [(.c (I 0))]) .e h0) fun x39_31 =>
 oB (oNil x0) fun x40_32 =>
 oB (oFA 3 x40_32) fun x41_33 =>
 oP (oSt 1 h0 x41_33 x39_31) fun _ h34 =>
 some ((I 10), h34)) (
 oB (bEq .no x12_8 (U 125)) fun x43_35 =>
 ci x43_35 (
 oB (oNil x0) fun x46_36 =>
 oB (oFA 3 x46_36) fun x47_37 =>
 oB (oLd h0 x47_37) fun x48_38 =>
 oB (bSub x48_38 (I 1)) fun x49_39 =>
 oB (evQ (.maxI (.c x49_39) [(.c (I 0))]) .e h0) fun x50_40 =>
 oB (oNil x0) fun x51_41 =>
 oB (oFA 3 x51_41) fun x52_42 =>
 oP (oSt 1 h0 x52_42 x50_40) fun _ h43 =>
 some ((I 11), h43)) (
 oB (bEq .no x12_8 (U 44)) fun x54_44 =>
 jnF 0 (fun h45 =>
 j9 h45) fun j45 =>
 ci x54_44 (
 oB (oNil x0) fun x56_46 =>
 oB (oFA 3 x56_46) fun x57_47 =>
 oB (oLd h0 x57_47) fun x58_48 =>
 oB (bGt x58_48 (I 0)) fun x59_49 =>
 ci x59_49 (
 some ((I 7), h0)) (
 j45 h0)) (
 j45 h0)))))
theorem o_scan_scanner_brackets : FnOK Tryz.prog n_scan_scanner_brackets (a1 f_scan_scanner_brackets) := ok1 mixed Tryz.func142 (by kernel_rfl)
/- (*corrector/scan.scanner).space -/
noncomputable def f_scan_scanner_space (n : Nat) (call : Caller)  (x0 x1 : AV) (h : AH) : Ans :=
 oB (oNil x0) fun x7_0 =>
 oB (oFA 0 x7_0) fun x8_1 =>
 oB (oLd h x8_1) fun x9_2 =>
 oB (oLen x9_2) fun x10_3 =>
 oB (bGe x1 x10_3) fun x11_4 =>
 oB (gq x11_4 false (some x0)) fun x13_5 =>
 oB (gq x11_4 false (oNil x13_5)) fun x14_6 =>
 oB (gq x11_4 false (oFA 0 x14_6)) fun x15_7 =>
 oB (gq x11_4 false (oLd h x15_7)) fun x16_8 =>
 oB (gq x11_4 false (some x1)) fun x17_9 =>
 oB (gq x11_4 false (oIx 1 x16_8 x17_9)) fun x18_10 =>
 oB (gq x11_4 false (oLd h x18_10)) fun x19_11 =>
 oP (gw x11_4 false (call n_chars_Blank [x19_11] h) h) fun x20_12 h12 =>
 oB (oPick x11_4 (.bool true) x20_12) fun x21_13 =>
 oB (gq x21_13 false (some x0)) fun x23_14 =>
 oB (gq x21_13 false (some x1)) fun x24_15 =>
 oP (gw x21_13 false (call n_scan_scanner_brk [x23_14, x24_15] h12) h12) fun x25_16 h16 =>
 oB (gq x21_13 false (bGt x25_16 (I 0))) fun x26_17 =>
 oB (oPick x21_13 (.bool true) x26_17) fun x27_18 =>
 some (x27_18, h16)
theorem o_scan_scanner_space : FnOK Tryz.prog n_scan_scanner_space (a2 f_scan_scanner_space) := ok2 mixed Tryz.func143 (by kernel_rfl)
/- (*corrector/scan.scanner).colon -/
noncomputable def f_scan_scanner_colon (n : Nat) (call : Caller)  (x0 x1 : AV) (h : AH) : Ans :=
 oP (call n_scan_scanner_there [x0, x1, (U 58)] h) fun x7_0 h0 =>
 oB (gq x7_0 true (some x0)) fun x9_1 =>
 oB (gq x7_0 true (some x1)) fun x10_2 =>
 oB (gq x7_0 true (bAdd x10_2 (I 1))) fun x11_3 =>
 oP (gw x7_0 true (call n_scan_scanner_space [x9_1, x11_3] h0) h0) fun x12_4 h4 =>
 oB (gq x7_0 true (some x12_4)) fun x13_5 =>
 oB (gq x13_5 false (some x0)) fun x14_6 =>
 oB (gq x13_5 false (oNil x14_6)) fun x15_7 =>
 oB (gq x13_5 false (oFA 3 x15_7)) fun x16_8 =>
 oB (gq x13_5 false (oLd h4 x16_8)) fun x17_9 =>
 oB (gq x13_5 false (bGt x17_9 (I 0))) fun x18_10 =>
 oB (gq x13_5 false (some x18_10)) fun x19_11 =>
 oB (gq x19_11 true (some x0)) fun x20_12 =>
 oB (gq x19_11 true (oNil x20_12)) fun x21_13 =>
 oB (gq x19_11 true (oFA 0 x21_13)) fun x22_14 =>
 oB (gq x19_11 true (oLd h4 x22_14)) fun x23_15 =>
 oB (gq x19_11 true (some x1)) fun x24_16 =>
 oB (gq x19_11 true (bAdd x24_16 (I 1))) fun x25_17 =>
 oB (gq x19_11 true (oIx 1 x23_15 x25_17)) fun x26_18 =>
 oB (gq x19_11 true (oLd h4 x26_18)) fun x27_19 =>
 oP (gw x19_11 true (call n_chars_Flow [x27_19] h4) h4) fun x28_20 h20 =>
 oB (gq x13_5 false (oPick x19_11 x28_20 (.bool false))) fun x29_21 =>
 oB (gq x7_0 true (oPick x13_5 (.bool true) x29_21)) fun x30_22 =>
 oB (oPick x7_0 x30_22 (.bool false)) fun x31_23 =>
 some (x31_23, h20)
theorem o_scan_scanner_colon : FnOK Tryz.prog n_scan_scanner_colon (a2 f_scan_scanner_colon) := ok2 mixed Tryz.func144 (by kernel_rfl)
/- (*corrector/scan.scanner).property -/
noncomputable def f_scan_scanner_property (n : Nat) (call : Caller)  (x0 : AV) (h : AH) : Ans :=
 oB' (nx 10 h) fun h0 =>
 oB (oNil x0) fun x5_1 =>
 oB (oFA 0 x5_1) fun x6_2 =>
 oB (oLd h0 x6_2) fun x7_3 =>
 oB (oNil x0) fun x9_4 =>
 oB (oFA 1 x9_4) fun x10_5 =>
 oB (oLd h0 x10_5) fun x11_6 =>
 oB (oIx 1 x7_3 x11_6) fun x12_7 =>
 oB (oLd h0 x12_7) fun x13_8 =>
 jnF 2 (fun z2_9 z0_9 h9 =>
 oB (oNil z0_9) fun x57_10 =>
 oB (oFA 1 x57_10) fun x58_11 =>
 oB (oLd h9 x58_11) fun x59_12 =>
 oB (bAdd x59_12 (I 1)) fun x60_13 =>
 oP (call n_scan_scanner_names [z0_9, x60_13] h9) fun x61_14 h14 =>
 oB (oNil z0_9) fun x64_15 =>
 oB (oFA 1 x64_15) fun x65_16 =>
 oB (oLd h14 x65_16) fun x66_17 =>
 oB (bAdd x66_17 (I 1)) fun x67_18 =>
 oB (bEq .no x61_14 x67_18) fun x68_19 =>
 ci x68_19 (
 some (.tup [(I 0), (I 0)], h14)) (
 some (.tup [z2_9, x61_14], h14))) fun j9 =>
 oB (bEq .no x13_8 (U 38)) fun x15_20 =>
 jnF 2 (fun z2_21 z0_21 h21 =>
 j9 z2_21 z0_21 h21) fun j21 =>
 ci x15_20 (
 j21 (I 12) x0 h0) (
 oB (bEq .no x13_8 (U 42)) fun x17_22 =>
 jnF 2 (fun z2_23 z0_23 h23 =>
 j21 z2_23 z0_23 h23) fun j23 =>
 ci x17_22 (
 j23 (I 13) x0 h0) (
 oB (bEq .no x13_8 (U 33)) fun x19_24 =>
 ci x19_24 (
 oB (oNil x0) fun x21_25 =>
 oB (oFA 1 x21_25) fun x22_26 =>
 oB (oLd h0 x22_26) fun x23_27 =>
 oB (bAdd x23_27 (I 1)) fun x24_28 =>
 jnF 1 (fun z3_29 h29 =>
 some (.tup [(I 14), z3_29], h29)) fun j29 =>
 lpF 2 n (fun f30 y3_30 y0_30 h30 =>
 oB (oNil y0_30) fun x27_31 =>
 oB (oFA 0 x27_31) fun x28_32 =>
 oB (oLd h30 x28_32) fun x29_33 =>
 oB (oLen x29_33) fun x30_34 =>
 oB (bLt y3_30 x30_34) fun x31_35 =>
 oB (gq x31_35 true (some y0_30)) fun x33_36 =>
 oB (gq x31_35 true (oNil x33_36)) fun x34_37 =>
 oB (gq x31_35 true (oFA 0 x34_37)) fun x35_38 =>
 oB (gq x31_35 true (oLd h30 x35_38)) fun x36_39 =>
 oB (gq x31_35 true (some y3_30)) fun x37_40 =>
 oB (gq x31_35 true (oIx 1 x36_39 x37_40)) fun x38_41 =>
 oB (gq x31_35 true (oLd h30 x38_41)) fun x39_42 =>
 oP (gw x31_35 true (call n_chars_Name [x39_42] h30) h30) fun x40_43 h43 =>
 oB (gq x31_35 true (some x40_43)) fun x41_44 =>
 oB (gq x41_44 false (some y0_30)) fun x42_45 =>
 oB (gq x41_44 false (oNil x42_45)) fun x43_46 =>
 oB (gq x41_44 false (oFA 0 x43_46)) fun x44_47 =>
 oB (gq x41_44 false (oLd h43 x44_47)) fun x45_48 =>
 oB (gq x41_44 false (some y3_30)) fun x46_49 =>
 oB (gq x41_44 false (oIx 1 x45_48 x46_49)) fun x47_50 =>
 oB (gq x41_44 false (oLd h43 x47_50)) fun x48_51 =>
 oB (gq x41_44 false (bEq .no x48_51 (U 33))) fun x49_52 =>
 oB (gq x31_35 true (oPick x41_44 (.bool true) x49_52)) fun x50_53 =>
 oB (oPick x31_35 x50_53 (.bool false)) fun x51_54 =>
 ci x51_54 (
 jnF 2 (fun z3_55 z0_55 h55 =>
 f30 z3_55 z0_55 h55) fun j55 =>
 oB (bAdd y3_30 (I 1)) fun x53_56 =>
 j55 x53_56 y0_30 h43) (
 j29 y3_30 h43)) x24_28 x0 h0) (
 j23 (I 0) x0 h0)))
theorem o_scan_scanner_property : FnOK Tryz.prog n_scan_scanner_property (a1 f_scan_scanner_property) := ok1 mixed Tryz.func145 (by kernel_rfl)
/- (*corrector/scan.scanner).single -/
noncomputable def f_scan_scanner_single (n : Nat) (call : Caller)  (x0 : AV) (h : AH) : Ans :=
 oB (oNil x0) fun x7_0 =>
 oB (oFA 1 x7_0) fun x8_1 =>
 oB (oLd h x8_1) fun x9_2 =>
 oP (call n_scan_scanner_line [x0, x9_2] h) fun x10_3 h3 =>
 oB (oNil x0) fun x12_4 =>
 oB (oFA 1 x12_4) fun x13_5 =>
 oB (oLd h3 x13_5) fun x14_6 =>
 oB (bAdd x14_6 (I 1)) fun x15_7 =>
 jnF 1 (fun z3_8 h8 =>
 some (z3_8, h8)) fun j8 =>
 lpF 3 n (fun f9 y4_9 y3_9 y0_9 h9 =>
 oB (bLt y4_9 y3_9) fun x18_10 =>
 ci x18_10 (
 jnF 3 (fun z4_11 z3_11 z0_11 h11 =>
 oB (bAdd z4_11 (I 1)) fun x20_12 =>
 f9 x20_12 z3_11 z0_11 h11) fun j11 =>
 oB (oNil y0_9) fun x22_13 =>
 oB (oFA 0 x22_13) fun x23_14 =>
 oB (oLd h9 x23_14) fun x24_15 =>
 oB (oIx 1 x24_15 y4_9) fun x26_16 =>
 oB (oLd h9 x26_16) fun x27_17 =>
 oB (bNe .no x27_17 (U 39)) fun x28_18 =>
 ci x28_18 (
 j11 y4_9 y3_9 y0_9 h9) (
 oB (bAdd y4_9 (I 1)) fun x31_19 =>
 oP (call n_scan_scanner_there [y0_9, x31_19, (U 39)] h9) fun x32_20 h20 =>
 oB (evQ (.un .not (.c x32_20)) .e h20) fun x33_21 =>
 ci x33_21 (
 oB (bAdd y4_9 (I 1)) fun x35_22 =>
 some (x35_22, h20)) (
 oB (bAdd y4_9 (I 1)) fun x37_23 =>
 j11 x37_23 y3_9 y0_9 h20))) (
 j8 y3_9 h9)) x15_7 x10_3 x0 h3
theorem o_scan_scanner_single : FnOK Tryz.prog n_scan_scanner_single (a1 f_scan_scanner_single) := ok1 mixed Tryz.func146 (by kernel_rfl)
/- (*corrector/scan.scanner).double -/
noncomputable def f_scan_scanner_double (n : Nat) (call : Caller)  (x0 : AV) (h : AH) : Ans :=
 oB (oNil x0) fun x7_0 =>
 oB (oFA 1 x7_0) fun x8_1 =>
 oB (oLd h x8_1) fun x9_2 =>
 oP (call n_scan_scanner_line [x0, x9_2] h) fun x10_3 h3 =>
 oB (oNil x0) fun x12_4 =>
 oB (oFA 1 x12_4) fun x13_5 =>
 oB (oLd h3 x13_5) fun x14_6 =>
 oB (bAdd x14_6 (I 1)) fun x15_7 =>
 jnF 1 (fun z3_8 h8 =>
 some (z3_8, h8)) fun j8 =>
 lpF 3 n (fun f9 y4_9 y3_9 y0_9 h9 =>
 oB (bLt y4_9 y3_9) fun x18_10 =>
 ci x18_10 (
 jnF 3 (fun z4_11 z3_11 z0_11 h11 =>
 oB (bAdd z4_11 (I 1)) fun x20_12 =>
 f9 x20_12 z3_11 z0_11 h11) fun j11 =>
 oB (oNil y0_9) fun x22_13 =>
 oB (oFA 0 x22_13) fun x23_14 =>
 oB (oLd h9 x23_14) fun x24_15 =>
 oB (oIx 1 x24_15 y4_9) fun x26_16 =>
 oB (oLd h9 x26_16) fun x27_17 =>
 jnF 3 (fun z4_18 z3_18 z0_18 h18 =>
 j11 z4_18 z3_18 z0_18 h18) fun j18 =>
 oB (bEq .no x27_17 (U 34)) fun x29_19 =>
 ci x29_19 (
 oB (bAdd y4_9 (I 1)) fun x31_20 =>
 some (x31_20, h9)) (
 oB (bEq .no x27_17 (U 92)) fun x33_21 =>
 jnF 3 (fun z4_22 z3_22 z0_22 h22 =>
 j18 z4_22 z3_22 z0_22 h22) fun j22 =>
 ci x33_21 (
 oB (bAdd y4_9 (I 1)) fun x35_23 =>
 j22 x35_23 y3_9 y0_9 h9) (
 j22 y4_9 y3_9 y0_9 h9))) (
 j8 y3_9 h9)) x15_7 x10_3 x0 h3
theorem o_scan_scanner_double : FnOK Tryz.prog n_scan_scanner_double (a1 f_scan_scanner_double) := ok1 mixed Tryz.func147 (by kernel_rfl)
/- (*corrector/scan.scanner).head -/
noncomputable def f_scan_scanner_head (n : Nat) (call : Caller)  (x0 : AV) (h : AH) : Ans :=
 oB' (nx 11 h) fun h0 =>
 oB (oNil x0) fun x7_1 =>
 oB (oFA 0 x7_1) fun x8_2 =>
 oB (oLd h0 x8_2) fun x9_3 =>
 oB (oNil x0) fun x11_4 =>
 oB (oFA 1 x11_4) fun x12_5 =>
 oB (oLd h0 x12_5) fun x13_6 =>
 oB (oIx 1 x9_3 x13_6) fun x14_7 =>
 oB (oLd h0 x14_7) fun x15_8 =>
 oB (oNil x0) fun x17_9 =>
 oB (oFA 3 x17_9) fun x18_10 =>
 oB (oLd h0 x18_10) fun x19_11 =>
 oB (bGt x19_11 (I 0)) fun x20_12 =>
 oB (gq x20_12 false (some x15_8)) fun x22_13 =>
 oB (gq x20_12 false (bNe .no x22_13 (U 124))) fun x23_14 =>
 oB (gq x20_12 false (some x23_14)) fun x24_15 =>
 oB (gq x24_15 true (some x15_8)) fun x25_16 =>
 oB (gq x24_15 true (bNe .no x25_16 (U 62))) fun x26_17 =>
 oB (gq x20_12 false (oPick x24_15 x26_17 (.bool false))) fun x27_18 =>
 oB (oPick x20_12 (.bool true) x27_18) fun x28_19 =>
 ci x28_19 (
 some ((I 0), h0)) (
 oB (oNil x0) fun x30_20 =>
 oB (oFA 1 x30_20) fun x31_21 =>
 oB (oLd h0 x31_21) fun x32_22 =>
 oB (bAdd x32_22 (I 1)) fun x33_23 =>
 oP (call n_scan_scanner_there [x0, x33_23, (U 43)] h0) fun x36_24 h24 =>
 oB (gq x36_24 false (some x0)) fun x38_25 =>
 oB (gq x36_24 false (some x33_23)) fun x39_26 =>
 oP (gw x36_24 false (call n_scan_scanner_there [x38_25, x39_26, (U 45)] h24) h24) fun x40_27 h27 =>
 oB (oPick x36_24 (.bool true) x40_27) fun x41_28 =>
 jnF 2 (fun z4_29 z0_29 h29 =>
 oP (call n_scan_scanner_blanks [z0_29, z4_29] h29) fun x46_30 h30 =>
 oP (call n_scan_scanner_line [z0_29, x46_30] h30) fun x50_31 h31 =>
 oB (bEq .no x46_30 x50_31) fun x51_32 =>
 oB (gq x51_32 false (some x46_30)) fun x53_33 =>
 oB (gq x51_32 false (some z4_29)) fun x54_34 =>
 oB (gq x51_32 false (bGt x53_33 x54_34)) fun x55_35 =>
 oB (gq x51_32 false (some x55_35)) fun x56_36 =>
 oB (gq x56_36 true (some z0_29)) fun x57_37 =>
 oB (gq x56_36 true (some x46_30)) fun x58_38 =>
 oP (gw x56_36 true (call n_scan_scanner_there [x57_37, x58_38, (U 35)] h31) h31) fun x59_39 h39 =>
 oB (gq x51_32 false (oPick x56_36 x59_39 (.bool false))) fun x60_40 =>
 oB (oPick x51_32 (.bool true) x60_40) fun x61_41 =>
 ci x61_41 (
 some (z4_29, h39)) (
 some ((I 0), h39))) fun j29 =>
 ci x41_28 (
 oB (bAdd x33_23 (I 1)) fun x43_42 =>
 j29 x43_42 x0 h27) (
 j29 x33_23 x0 h27))
theorem o_scan_scanner_head : FnOK Tryz.prog n_scan_scanner_head (a1 f_scan_scanner_head) := ok1 mixed Tryz.func148 (by kernel_rfl)
/- (*corrector/scan.scanner).texts -/
noncomputable def f_scan_scanner_texts (n : Nat) (call : Caller)  (x0 x1 : AV) (h : AH) : Ans :=
 scF n fun m0 => jnF 2 (lpF 2 m0 fun f0 y1_0 y0_0 h0 =>
 jnF 0 (fun h1 =>
 some (.tup [], h1)) fun j1 =>
 lpF 2 n (fun f2 y1_2 y0_2 h2 =>
 oB' (nx 19 h2) fun h3 =>
 oB (oNil y0_2) fun x55_4 =>
 oB (oFA 1 x55_4) fun x56_5 =>
 oB (oLd h3 x56_5) fun x57_6 =>
 oB (oNil y0_2) fun x59_7 =>
 oB (oFA 0 x59_7) fun x60_8 =>
 oB (oLd h3 x60_8) fun x61_9 =>
 oB (oLen x61_9) fun x62_10 =>
 oB (bLt x57_6 x62_10) fun x63_11 =>
 oB (gq x63_11 true (some y0_2)) fun x65_12 =>
 oB (gq x63_11 true (some y0_2)) fun x66_13 =>
 oB (gq x63_11 true (oNil x66_13)) fun x67_14 =>
 oB (gq x63_11 true (oFA 1 x67_14)) fun x68_15 =>
 oB (gq x63_11 true (oLd h3 x68_15)) fun x69_16 =>
 oP (gw x63_11 true (call n_scan_scanner_mark [x65_12, x69_16] h3) h3) fun x70_17 h17 =>
 oB (gq x63_11 true (bEq .no x70_17 (I 0))) fun x71_18 =>
 oB (oPick x63_11 x71_18 (.bool false)) fun x72_19 =>
 ci x72_19 (
 jnF 2 (fun z1_20 z0_20 h20 =>
 f2 z1_20 z0_20 h20) fun j20 =>
 oB (oNil y0_2) fun x75_21 =>
 oB (oFA 1 x75_21) fun x76_22 =>
 oB (oLd h17 x76_22) fun x77_23 =>
 oP (call n_scan_scanner_line [y0_2, x77_23] h17) fun x78_24 h24 =>
 drF (drawRun call [⟨(some 79), .mov (.t 0), none⟩,
  ⟨(some 80), .mov (.t 0), none⟩,
  ⟨(some 81), .nilCheck (.t 80), none⟩,
  ⟨(some 82), .fieldAddr 1 (.t 81), none⟩,
  ⟨(some 83), .load none (.t 82), none⟩,
  ⟨(some 84), .callF 138 [(.t 79), (.t 83)], none⟩,
  ⟨(some 85), .mov (.t 7), none⟩,
  ⟨(some 86), .bin .neq .no (.t 84) (.t 85), none⟩,
  ⟨(some 87), .mov (.t 86), none⟩,
  ⟨(some 88), .mov (.t 0), (some (87, true))⟩,
  ⟨(some 89), .mov (.t 0), (some (87, true))⟩,
  ⟨(some 90), .nilCheck (.t 89), (some (87, true))⟩,
  ⟨(some 91), .fieldAddr 1 (.t 90), (some (87, true))⟩,
  ⟨(some 92), .load none (.t 91), (some (87, true))⟩,
  ⟨(some 93), .callF 136 [(.t 88), (.t 92)], (some (87, true))⟩,
  ⟨(some 94), .mov (.t 0), (some (87, true))⟩,
  ⟨(some 95), .nilCheck (.t 94), (some (87, true))⟩,
  ⟨(some 96), .fieldAddr 1 (.t 95), (some (87, true))⟩,
  ⟨(some 97), .load none (.t 96), (some (87, true))⟩,
  ⟨(some 98), .bin .sub .no (.t 93) (.t 97), (some (87, true))⟩,
  ⟨(some 99), .mov (.t 1), (some (87, true))⟩,
  ⟨(some 100), .bin .leq .no (.t 98) (.t 99), (some (87, true))⟩,
  ⟨(some 101), .pick (.t 87) (.t 100) (.c (.bool false)), none⟩] [0, 0, 2, 6, 14, 31, 0, 127, 255, 511, 511, 1535, 3583, 7679, 16383, 511, 33279, 98815, 229887, 524287, 511, 2097151, 4194303] (sput 0 (sput 1 (sput 7 Tr.e x78_24) y1_2) y0_2) h24) [79, 80, 81, 82, 83, 84, 85, 86, 87, 88, 89, 90, 91, 92, 93, 94, 95, 96, 97, 98, 99, 100, 101] fun x79_25 x80_25 x81_25 x82_25 x83_25 x84_25 x85_25 x86_25 x87_25 x88_25 x89_25 x90_25 x91_25 x92_25 x93_25 x94_25 x95_25 x96_25 x97_25 x98_25 x99_25 x100_25 x101_25 h25 =>
 ci x101_25 (
 j1 h25) (
 oP (call n_scan_scanner_brk [y0_2, x78_24] h25) fun x106_26 h26 =>
 oB (bAdd x78_24 x106_26) fun x107_27 =>
 oP (call n_scan_scanner_token [y0_2, (I 19), x107_27] h26) fun x108_28 h28 =>
 j20 y1_2 y0_2 h28)) (
 j1 h17)) y1_0 y0_0 h0) fun f0 =>
 oB (oNil x0) fun x10_29 =>
 oB (oFA 1 x10_29) fun x11_30 =>
 oB (oLd h x11_30) fun x12_31 =>
 oP (call n_scan_scanner_blanks [x0, x12_31] h) fun x13_32 h32 =>
 oB (oNil x0) fun x16_33 =>
 oB (oFA 1 x16_33) fun x17_34 =>
 oB (oLd h32 x17_34) fun x18_35 =>
 oB (bGt x13_32 x18_35) fun x19_36 =>
 jnF 2 (fun z1_37 z0_37 h37 =>
 oB (oNil z0_37) fun x25_38 =>
 oB (oFA 1 x25_38) fun x26_39 =>
 oB (oLd h37 x26_39) fun x27_40 =>
 oP (call n_scan_scanner_line [z0_37, x27_40] h37) fun x28_41 h41 =>
 oB (oNil z0_37) fun x31_42 =>
 oB (oFA 1 x31_42) fun x32_43 =>
 oB (oLd h41 x32_43) fun x33_44 =>
 oB (bGt x28_41 x33_44) fun x34_45 =>
 jnF 2 (fun z1_46 z0_46 h46 =>
 oB (oNil z0_46) fun x40_47 =>
 oB (oFA 1 x40_47) fun x41_48 =>
 oB (oLd h46 x41_48) fun x42_49 =>
 oP (call n_scan_scanner_brk [z0_46, x42_49] h46) fun x43_50 h50 =>
 oB (bEq .no x43_50 (I 0)) fun x45_51 =>
 ci x45_51 (
 some (.tup [], h50)) (
 oB (oNil z0_46) fun x48_52 =>
 oB (oFA 1 x48_52) fun x49_53 =>
 oB (oLd h50 x49_53) fun x50_54 =>
 oB (bAdd x50_54 x43_50) fun x52_55 =>
 oP (call n_scan_scanner_token [z0_46, (I 1), x52_55] h50) fun x53_56 h56 =>
 jnF 0 (fun h57 =>
 some (.tup [], h57)) fun j57 =>
 lpF 2 n (fun f58 y1_58 y0_58 h58 =>
 oB' (nx 19 h58) fun h59 =>
 oB (oNil y0_58) fun x55_60 =>
 oB (oFA 1 x55_60) fun x56_61 =>
 oB (oLd h59 x56_61) fun x57_62 =>
 oB (oNil y0_58) fun x59_63 =>
 oB (oFA 0 x59_63) fun x60_64 =>
 oB (oLd h59 x60_64) fun x61_65 =>
 oB (oLen x61_65) fun x62_66 =>
 oB (bLt x57_62 x62_66) fun x63_67 =>
 oB (gq x63_67 true (some y0_58)) fun x65_68 =>
 oB (gq x63_67 true (some y0_58)) fun x66_69 =>
 oB (gq x63_67 true (oNil x66_69)) fun x67_70 =>
 oB (gq x63_67 true (oFA 1 x67_70)) fun x68_71 =>
 oB (gq x63_67 true (oLd h59 x68_71)) fun x69_72 =>
 oP (gw x63_67 true (call n_scan_scanner_mark [x65_68, x69_72] h59) h59) fun x70_73 h73 =>
 oB (gq x63_67 true (bEq .no x70_73 (I 0))) fun x71_74 =>
 oB (oPick x63_67 x71_74 (.bool false)) fun x72_75 =>
 ci x72_75 (
 jnF 2 (fun z1_76 z0_76 h76 =>
 f58 z1_76 z0_76 h76) fun j76 =>
 oB (oNil y0_58) fun x75_77 =>
 oB (oFA 1 x75_77) fun x76_78 =>
 oB (oLd h73 x76_78) fun x77_79 =>
 oP (call n_scan_scanner_line [y0_58, x77_79] h73) fun x78_80 h80 =>
 drF (drawRun call [⟨(some 79), .mov (.t 0), none⟩,
  ⟨(some 80), .mov (.t 0), none⟩,
  ⟨(some 81), .nilCheck (.t 80), none⟩,
  ⟨(some 82), .fieldAddr 1 (.t 81), none⟩,
  ⟨(some 83), .load none (.t 82), none⟩,
  ⟨(some 84), .callF 138 [(.t 79), (.t 83)], none⟩,
  ⟨(some 85), .mov (.t 7), none⟩,
  ⟨(some 86), .bin .neq .no (.t 84) (.t 85), none⟩,
  ⟨(some 87), .mov (.t 86), none⟩,
  ⟨(some 88), .mov (.t 0), (some (87, true))⟩,
  ⟨(some 89), .mov (.t 0), (some (87, true))⟩,
  ⟨(some 90), .nilCheck (.t 89), (some (87, true))⟩,
  ⟨(some 91), .fieldAddr 1 (.t 90), (some (87, true))⟩,
  ⟨(some 92), .load none (.t 91), (some (87, true))⟩,
  ⟨(some 93), .callF 136 [(.t 88), (.t 92)], (some (87, true))⟩,
  ⟨(some 94), .mov (.t 0), (some (87, true))⟩,
  ⟨(some 95), .nilCheck (.t 94), (some (87, true))⟩,
  ⟨(some 96), .fieldAddr 1 (.t 95), (some (87, true))⟩,
  ⟨(some 97), .load none (.t 96), (some (87, true))⟩,
  ⟨(some 98), .bin .sub .no (.t 93) (.t 97), (some (87, true))⟩,
  ⟨(some 99), .mov (.t 1), (some (87, true))⟩,
  ⟨(some 100), .bin .leq .no (.t 98) (.t 99), (some (87, true))⟩,
  ⟨(some 101), .pick (.t 87) (.t 100) (.c (.bool false)), none⟩] [0, 0, 2, 6, 14, 31, 0, 127, 255, 511, 511, 1535, 3583, 7679, 16383, 511, 33279, 98815, 229887, 524287, 511, 2097151, 4194303] (sput 0 (sput 1 (sput 7 Tr.e x78_80) y1_58) y0_58) h80) [79, 80, 81, 82, 83, 84, 85, 86, 87, 88, 89, 90, 91, 92, 93, 94, 95, 96, 97, 98, 99, 100, 101] fun x79_81 x80_81 x81_81 x82_81 x83_81 x84_81 x85_81 x86_81 x87_81 x88_81 x89_81 x90_81 x91_81 x92_81 x93_81 x94_81 x95_81 x96_81 x97_81 x98_81 x99_81 x100_81 x101_81 h81 =>
 ci x101_81 (
 j57 h81) (
 oP (call n_scan_scanner_brk [y0_58, x78_80] h81) fun x106_82 h82 =>
 oB (bAdd x78_80 x106_82) fun x107_83 =>
 oP (call n_scan_scanner_token [y0_58, (I 19), x107_83] h82) fun x108_84 h84 =>
 j76 y1_58 y0_58 h84)) (
 j57 h73)) z1_46 z0_46 h56)) fun j46 =>
 ci x34_45 (
 oP (call n_scan_scanner_token [z0_37, (I 4), x28_41] h41) fun x37_85 h85 =>
 j46 z1_37 z0_37 h85) (
 j46 z1_37 z0_37 h41)) fun j37 =>
 ci x19_36 (
 oP (call n_scan_scanner_token [x0, (I 3), x13_32] h32) fun x22_86 h86 =>
 j37 x1 x0 h86) (
 j37 x1 x0 h32)
theorem o_scan_scanner_texts : FnOK Tryz.prog n_scan_scanner_texts (a2 f_scan_scanner_texts) := ok2 mixed Tryz.func149 (by kernel_rfl)
/- (*corrector/scan.scanner).plain -/
noncomputable def f_scan_scanner_plain (n : Nat) (call : Caller)  (x0 : AV) (h : AH) : Ans :=
 scF n fun m0 => jnF 4 (lpF 4 m0 fun f0 y5_0 y4_0 y3_0 y0_0 h0 =>
 oB' (nx 12 h0) fun h1 =>
 oB (oNil y0_0) fun x26_2 =>
 oB (oFA 0 x26_2) fun x27_3 =>
 oB (oLd h1 x27_3) fun x28_4 =>
 oB (oNil y0_0) fun x30_5 =>
 oB (oFA 1 x30_5) fun x31_6 =>
 oB (oLd h1 x31_6) fun x32_7 =>
 oB (evQ (.sl 1 (.c x28_4) (some (.c x32_7)) (some (.c y3_0)) none) .e h1) fun x34_8 =>
 oB (evQ (.b2s (.c x34_8)) .e h1) fun x35_9 =>
 oP (evW (.rangeS (.c x35_9)) .e h1) fun x36_10 h10 =>
 jnF 1 (fun z4_11 h11 =>
 some (z4_11, h11)) fun j11 =>
 lpF 5 n (fun f12 y36_12 y5_12 y4_12 y3_12 y0_12 h12 =>
 oP (evW (.nextS (.c y36_12)) .e h12) fun x37_13 h13 =>
 oB (oEx 0 x37_13) fun x38_14 =>
 ci x38_14 (
 jnF 5 (fun z36_15 z5_15 z4_15 z3_15 z0_15 h15 =>
 f12 z36_15 z5_15 z4_15 z3_15 z0_15 h15) fun j15 =>
 oB (oEx 1 x37_13) fun x39_16 =>
 oB (oEx 2 x37_13) fun x40_17 =>
 oB (oNil y0_12) fun x42_18 =>
 oB (oFA 1 x42_18) fun x43_19 =>
 oB (oLd h13 x43_19) fun x44_20 =>
 oB (bAdd x44_20 x39_16) fun x46_21 =>
 oB (oNil y0_12) fun x49_22 =>
 oB (oFA 0 x49_22) fun x50_23 =>
 oB (oLd h13 x50_23) fun x51_24 =>
 oB (evQ (.sl 1 (.c x51_24) (some (.c x46_21)) (some (.c y3_12)) none) .e h13) fun x54_25 =>
 oP (call n_runes_Next [x54_25] h13) fun x55_26 h26 =>
 oB (oEx 0 x55_26) fun x56_27 =>
 oB (oEx 1 x55_26) fun x57_28 =>
 jnF 7 (fun z36_29 z10_29 z8_29 z6_29 z4_29 z3_29 z0_29 h29 =>
 oB (bEq .no z8_29 (R 32)) fun x97_30 =>
 oB (gq x97_30 false (some z8_29)) fun x99_31 =>
 oB (gq x97_30 false (bEq .no x99_31 (R 9))) fun x100_32 =>
 oB (oPick x97_30 (.bool true) x100_32) fun x101_33 =>
 oB (evQ (.un .not (.c x101_33)) .e h29) fun x103_34 =>
 jnF 5 (fun z36_35 z5_35 z4_35 z3_35 z0_35 h35 =>
 j15 z36_35 z5_35 z4_35 z3_35 z0_35 h35) fun j35 =>
 ci x103_34 (
 oB (bAdd z6_29 z10_29) fun x106_36 =>
 j35 z36_29 x101_33 x106_36 z3_29 z0_29 h29) (
 j35 z36_29 x101_33 z4_29 z3_29 z0_29 h29)) fun j29 =>
 oB (bGt x39_16 (I 0)) fun x60_37 =>
 oB (gq x60_37 true (some x56_27)) fun x62_38 =>
 oB (gq x60_37 true (bLt x62_38 (R 0))) fun x63_39 =>
 oB (gq x60_37 true (some x63_39)) fun x64_40 =>
 oB (gq x64_40 false (some y0_12)) fun x65_41 =>
 oB (gq x64_40 false (some x46_21)) fun x66_42 =>
 oP (gw x64_40 false (call n_scan_scanner_colon [x65_41, x66_42] h26) h26) fun x67_43 h43 =>
 oB (gq x60_37 true (oPick x64_40 (.bool true) x67_43)) fun x68_44 =>
 oB (gq x60_37 true (some x68_44)) fun x69_45 =>
 oB (gq x69_45 false (some x40_17)) fun x70_46 =>
 oB (gq x69_45 false (bEq .no x70_46 (R 35))) fun x71_47 =>
 oB (gq x69_45 false (some x71_47)) fun x72_48 =>
 oB (gq x72_48 true (some y5_12)) fun x73_49 =>
 oB (gq x69_45 false (oPick x72_48 x73_49 (.bool false))) fun x74_50 =>
 oB (gq x60_37 true (oPick x69_45 (.bool true) x74_50)) fun x75_51 =>
 oB (oPick x60_37 x75_51 (.bool false)) fun x76_52 =>
 ci x76_52 (
 j11 y4_12 h43) (
 oB (bGt x39_16 (I 0)) fun x79_53 =>
 oB (gq x79_53 true (some y0_12)) fun x81_54 =>
 oB (gq x79_53 true (oNil x81_54)) fun x82_55 =>
 oB (gq x79_53 true (oFA 3 x82_55)) fun x83_56 =>
 oB (gq x79_53 true (oLd h43 x83_56)) fun x84_57 =>
 oB (gq x79_53 true (bGt x84_57 (I 0))) fun x85_58 =>
 oB (oPick x79_53 x85_58 (.bool false)) fun x86_59 =>
 oB (gq x86_59 true (some x40_17)) fun x88_60 =>
 oB (gq x86_59 true (bLt x88_60 (R 128))) fun x89_61 =>
 oB (oPick x86_59 x89_61 (.bool false)) fun x90_62 =>
 oB (gq x90_62 true (some x40_17)) fun x92_63 =>
 oB (gq x90_62 true (oInt .u8 x92_63)) fun x93_64 =>
 oP (gw x90_62 true (call n_chars_Flow [x93_64] h43) h43) fun x94_65 h65 =>
 oB (oPick x90_62 x94_65 (.bool false)) fun x95_66 =>
 ci x95_66 (
 j11 y4_12 h65) (
 j29 y36_12 x57_28 x40_17 x46_21 y4_12 y3_12 y0_12 h65))) (
 j11 y4_12 h13)) x36_10 y5_0 y4_0 y3_0 y0_0 h10) fun f0 =>
 oB (oNil x0) fun x13_67 =>
 oB (oFA 1 x13_67) fun x14_68 =>
 oB (oLd h x14_68) fun x15_69 =>
 oP (call n_scan_scanner_line [x0, x15_69] h) fun x16_70 h70 =>
 oB (oNil x0) fun x18_71 =>
 oB (oFA 1 x18_71) fun x19_72 =>
 oB (oLd h70 x19_72) fun x20_73 =>
 oB (oNil x0) fun x22_74 =>
 oB (oFA 1 x22_74) fun x23_75 =>
 oB (oLd h70 x23_75) fun x24_76 =>
 oB' (nx 12 h70) fun h77 =>
 oB (oNil x0) fun x26_78 =>
 oB (oFA 0 x26_78) fun x27_79 =>
 oB (oLd h77 x27_79) fun x28_80 =>
 oB (oNil x0) fun x30_81 =>
 oB (oFA 1 x30_81) fun x31_82 =>
 oB (oLd h77 x31_82) fun x32_83 =>
 oB (evQ (.sl 1 (.c x28_80) (some (.c x32_83)) (some (.c x16_70)) none) .e h77) fun x34_84 =>
 oB (evQ (.b2s (.c x34_84)) .e h77) fun x35_85 =>
 oP (evW (.rangeS (.c x35_85)) .e h77) fun x36_86 h86 =>
 jnF 1 (fun z4_87 h87 =>
 some (z4_87, h87)) fun j87 =>
 lpF 5 n (fun f88 y36_88 y5_88 y4_88 y3_88 y0_88 h88 =>
 oP (evW (.nextS (.c y36_88)) .e h88) fun x37_89 h89 =>
 oB (oEx 0 x37_89) fun x38_90 =>
 ci x38_90 (
 jnF 5 (fun z36_91 z5_91 z4_91 z3_91 z0_91 h91 =>
 f88 z36_91 z5_91 z4_91 z3_91 z0_91 h91) fun j91 =>
 oB (oEx 1 x37_89) fun x39_92 =>
 oB (oEx 2 x37_89) fun x40_93 =>
 oB (oNil y0_88) fun x42_94 =>
 oB (oFA 1 x42_94) fun x43_95 =>
 oB (oLd h89 x43_95) fun x44_96 =>
 oB (bAdd x44_96 x39_92) fun x46_97 =>
 oB (oNil y0_88) fun x49_98 =>
 oB (oFA 0 x49_98) fun x50_99 =>
 oB (oLd h89 x50_99) fun x51_100 =>
 oB (evQ (.sl 1 (.c x51_100) (some (.c x46_97)) (some (.c y3_88)) none) .e h89) fun x54_101 =>
 oP (call n_runes_Next [x54_101] h89) fun x55_102 h102 =>
 oB (oEx 0 x55_102) fun x56_103 =>
 oB (oEx 1 x55_102) fun x57_104 =>
 jnF 7 (fun z36_105 z10_105 z8_105 z6_105 z4_105 z3_105 z0_105 h105 =>
 oB (bEq .no z8_105 (R 32)) fun x97_106 =>
 oB (gq x97_106 false (some z8_105)) fun x99_107 =>
 oB (gq x97_106 false (bEq .no x99_107 (R 9))) fun x100_108 =>
 oB (oPick x97_106 (.bool true) x100_108) fun x101_109 =>
 oB (evQ (.un .not (.c x101_109)) .e h105) fun x103_110 =>
 jnF 5 (fun z36_111 z5_111 z4_111 z3_111 z0_111 h111 =>
 j91 z36_111 z5_111 z4_111 z3_111 z0_111 h111) fun j111 =>
 ci x103_110 (
 oB (bAdd z6_105 z10_105) fun x106_112 =>
 j111 z36_105 x101_109 x106_112 z3_105 z0_105 h105) (
 j111 z36_105 x101_109 z4_105 z3_105 z0_105 h105)) fun j105 =>
 oB (bGt x39_92 (I 0)) fun x60_113 =>
 oB (gq x60_113 true (some x56_103)) fun x62_114 =>
 oB (gq x60_113 true (bLt x62_114 (R 0))) fun x63_115 =>
 oB (gq x60_113 true (some x63_115)) fun x64_116 =>
 oB (gq x64_116 false (some y0_88)) fun x65_117 =>
 oB (gq x64_116 false (some x46_97)) fun x66_118 =>
 oP (gw x64_116 false (call n_scan_scanner_colon [x65_117, x66_118] h102) h102) fun x67_119 h119 =>
 oB (gq x60_113 true (oPick x64_116 (.bool true) x67_119)) fun x68_120 =>
 oB (gq x60_113 true (some x68_120)) fun x69_121 =>
 oB (gq x69_121 false (some x40_93)) fun x70_122 =>
 oB (gq x69_121 false (bEq .no x70_122 (R 35))) fun x71_123 =>
 oB (gq x69_121 false (some x71_123)) fun x72_124 =>
 oB (gq x72_124 true (some y5_88)) fun x73_125 =>
 oB (gq x69_121 false (oPick x72_124 x73_125 (.bool false))) fun x74_126 =>
 oB (gq x60_113 true (oPick x69_121 (.bool true) x74_126)) fun x75_127 =>
 oB (oPick x60_113 x75_127 (.bool false)) fun x76_128 =>
 ci x76_128 (
 j87 y4_88 h119) (
 oB (bGt x39_92 (I 0)) fun x79_129 =>
 oB (gq x79_129 true (some y0_88)) fun x81_130 =>
 oB (gq x79_129 true (oNil x81_130)) fun x82_131 =>
 oB (gq x79_129 true (oFA 3 x82_131)) fun x83_132 =>
 oB (gq x79_129 true (oLd h119 x83_132)) fun x84_133 =>
 oB (gq x79_129 true (bGt x84_133 (I 0))) fun x85_134 =>
 oB (oPick x79_129 x85_134 (.bool false)) fun x86_135 =>
 oB (gq x86_135 true (some x40_93)) fun x88_136 =>
 oB (gq x86_135 true (bLt x88_136 (R 128))) fun x89_137 =>
 oB (oPick x86_135 x89_137 (.bool false)) fun x90_138 =>
 oB (gq x90_138 true (some x40_93)) fun x92_139 =>
 oB (gq x90_138 true (oInt .u8 x92_139)) fun x93_140 =>
 oP (gw x90_138 true (call n_chars_Flow [x93_140] h119) h119) fun x94_141 h141 =>
 oB (oPick x90_138 x94_141 (.bool false)) fun x95_142 =>
 ci x95_142 (
 j87 y4_88 h141) (
 j105 y36_88 x57_104 x40_93 x46_97 y4_88 y3_88 y0_88 h141))) (
 j87 y4_88 h89)) x36_86 (.bool false) x20_73 x16_70 x0 h86
theorem o_scan_scanner_plain : FnOK Tryz.prog n_scan_scanner_plain (a1 f_scan_scanner_plain) := ok1 mixed Tryz.func150 (by kernel_rfl)
/- corrector/parse.counts -/
noncomputable def f_parse_counts (n : Nat) (call : Caller)  (x0 : AV) (h : AH) : Ans :=
 oP (oNew h 131 (AV.cells x0)) fun x1_0 h0 =>
 oB (oFA 0 x1_0) fun x3_1 =>
 oB (oLd h0 x3_1) fun x4_2 =>
 jnF 0 (fun h3 =>
 some ((.bool true), h3)) fun j3 =>
 oB (bEq .no x4_2 (I 1)) fun x6_4 =>
 jnF 1 (fun z5_5 h5 =>
 ci z5_5 (
 some ((.bool false), h5)) (
 j3 h5)) fun j5 =>
 ci x6_4 (
 j5 x6_4 h0) (
 oB (bEq .no x4_2 (I 2)) fun x7_6 =>
 jnF 1 (fun z5_7 h7 =>
 j5 z5_7 h7) fun j7 =>
 ci x7_6 (
 j7 x7_6 h0) (
 oB (bEq .no x4_2 (I 3)) fun x8_8 =>
 jnF 1 (fun z5_9 h9 =>
 j7 z5_9 h9) fun j9 =>
 ci x8_8 (
 j9 x8_8 h0) (
 oB (bEq .no x4_2 (I 4)) fun x9_10 =>
 j9 x9_10 h0)))
theorem o_parse_counts : FnOK Tryz.prog n_parse_counts (a1 f_parse_counts) := ok1 mixed Tryz.func151 (by kernel_rfl)
/- (*corrector/parse.parser).wrong -/
noncomputable def f_parse_parser_wrong (n : Nat) (call : Caller)  (x0 x1 x2 x3 x4 : AV) (h : AH) : Ans :=
 oP (call n_parse_parser_first [x0, x3, x4] h) fun x13_0 h0 =>
 oP (call n_parse_parser_over [x0, x13_0, x4] h0) fun x17_1 h1 =>
 oB (bEq .no x13_0 x17_1) fun x20_2 =>
 ci x20_2 (
 some (.tup [], h1)) (
 drF (drawRun call [⟨(some 21), .mov (.t 0), none⟩,
  ⟨(some 22), .mov (.t 0), none⟩,
  ⟨(some 23), .nilCheck (.t 22), none⟩,
  ⟨(some 24), .fieldAddr 5 (.t 23), none⟩,
  ⟨(some 25), .load none (.t 24), none⟩,
  ⟨(some 26), .mov (.t 1), none⟩,
  ⟨(some 27), .mov (.t 0), none⟩,
  ⟨(some 28), .nilCheck (.t 27), none⟩,
  ⟨(some 29), .fieldAddr 1 (.t 28), none⟩,
  ⟨(some 30), .load none (.t 29), none⟩,
  ⟨(some 31), .mov (.t 3), none⟩,
  ⟨(some 32), .idxSl 3 (.t 30) (.t 31), none⟩,
  ⟨(some 33), .fieldAddr 1 (.t 32), none⟩,
  ⟨(some 34), .load none (.t 33), none⟩,
  ⟨(some 35), .mov (.t 0), none⟩,
  ⟨(some 36), .nilCheck (.t 35), none⟩,
  ⟨(some 37), .fieldAddr 1 (.t 36), none⟩,
  ⟨(some 38), .load none (.t 37), none⟩,
  ⟨(some 39), .mov (.t 4), none⟩,
  ⟨(some 40), .bin .sub .no (.t 39) (.c (I 1)), none⟩,
  ⟨(some 41), .idxSl 3 (.t 38) (.t 40), none⟩,
  ⟨(some 42), .fieldAddr 2 (.t 41), none⟩,
  ⟨(some 43), .load none (.t 42), none⟩,
  ⟨(some 44), .build [(I 0), (I 0), (I 0)] [(0, 1, (.t 26)), (1, 1, (.t 34)), (2, 1, (.t 43))], none⟩,
  ⟨(some 45), .buildSlice 67 3 1 [(I 0), (I 0), (I 0)] [(0, 3, (.t 44))], none⟩,
  ⟨(some 46), .append 67 3 24 [(I 0), (I 0), (I 0)] (.t 25) (.t 45), none⟩,
  ⟨(some 47), .nilCheck (.t 21), none⟩,
  ⟨(some 48), .fieldAddr 5 (.t 47), none⟩,
  ⟨none, .store 1 (.t 48) (.t 46), none⟩] [0, 0, 2, 6, 14, 0, 0, 64, 192, 448, 0, 1984, 4032, 8128, 0, 16384, 49152, 114688, 0, 262144, 1032192, 2080768, 4177920, 8388576, 16777184, 33554430, 67108863, 134217727, 268435455] (sput 0 (sput 1 (sput 3 (sput 4 Tr.e x17_1) x13_0) x1) x0) h1) [21, 22, 23, 24, 25, 26, 27, 28, 29, 30, 31, 32, 33, 34, 35, 36, 37, 38, 39, 40, 41, 42, 43, 44, 45, 46, 47, 48] fun x21_3 x22_3 x23_3 x24_3 x25_3 x26_3 x27_3 x28_3 x29_3 x30_3 x31_3 x32_3 x33_3 x34_3 x35_3 x36_3 x37_3 x38_3 x39_3 x40_3 x41_3 x42_3 x43_3 x44_3 x45_3 x46_3 x47_3 x48_3 h3 =>
 oP (call n_parse_parser_add [x0, x2, (I 11), x13_0, x17_1] h3) fun x53_4 h4 =>
 some (.tup [], h4))
theorem o_parse_parser_wrong : FnOK Tryz.prog n_parse_parser_wrong (a5 f_parse_parser_wrong) := ok5 mixed Tryz.func152 (by kernel_rfl)
/- (*corrector/parse.parser).add -/
noncomputable def f_parse_parser_add (n : Nat) (call : Caller)  (x0 x1 x2 x3 x4 : AV) (h : AH) : Ans :=
 oB (oNil x0) fun x15_0 =>
 oB (oFA 4 x15_0) fun x16_1 =>
 oB (oLdN 1 h x16_1) fun x17_2 =>
 oP (call n_arena_Add [x17_2, x1, x2, x3, x4] h) fun x22_3 h3 =>
 oB (oEx 0 x22_3) fun x23_4 =>
 oB (oEx 1 x22_3) fun x24_5 =>
 oP (oNew h3 59 [.nils]) fun x11_6 h6 =>
 oP (oSt 1 h6 x11_6 x23_4) fun _ h7 =>
 oB (oLdN 1 h7 x11_6) fun x26_8 =>
 oB (oNil x0) fun x27_9 =>
 oB (oFA 4 x27_9) fun x28_10 =>
 oP (oSt 1 h7 x28_10 x26_8) fun _ h11 =>
 some (x24_5, h11)
theorem o_parse_parser_add : FnOK Tryz.prog n_parse_parser_add (a5 f_parse_parser_add) := ok5 mixed Tryz.func153 (by kernel_rfl)
/- (*corrector/parse.parser).value -/
noncomputable def f_parse_parser_value (n : Nat) (call : Caller)  (x0 x1 x2 x3 : AV) (h : AH) : Ans :=
 drF (drawRun call [⟨(some 15), .mov (.t 0), none⟩,
  ⟨(some 16), .nilCheck (.t 15), none⟩,
  ⟨(some 17), .fieldAddr 0 (.t 16), none⟩,
  ⟨(some 18), .load none (.t 17), none⟩,
  ⟨(some 19), .mov (.t 0), none⟩,
  ⟨(some 20), .nilCheck (.t 19), none⟩,
  ⟨(some 21), .fieldAddr 1 (.t 20), none⟩,
  ⟨(some 22), .load none (.t 21), none⟩,
  ⟨(some 23), .mov (.t 0), none⟩,
  ⟨(some 24), .nilCheck (.t 23), none⟩,
  ⟨(some 25), .fieldAddr 4 (.t 24), none⟩,
  ⟨(some 26), .load (some 1) (.t 25), none⟩,
  ⟨(some 27), .mov (.t 2), none⟩,
  ⟨(some 28), .mov (.t 3), none⟩,
  ⟨(some 29), .mov (.t 0), none⟩,
  ⟨(some 30), .mov (.t 3), none⟩,
  ⟨(some 31), .callF 204 [(.t 29), (.t 30)], none⟩,
  ⟨(some 32), .mov (.t 0), none⟩,
  ⟨(some 33), .nilCheck (.t 32), none⟩,
  ⟨(some 34), .fieldAddr 3 (.t 33), none⟩,
  ⟨(some 35), .load none (.t 34), none⟩,
  ⟨(some 36), .mov (.t 0), none⟩,
  ⟨(some 37), .nilCheck (.t 36), none⟩,
  ⟨(some 38), .fieldAddr 8 (.t 37), none⟩,
  ⟨(some 39), .load none (.t 38), none⟩,
  ⟨(some 40), .lenSl (.t 39), none⟩,
  ⟨(some 41), .bin .sub .no (.t 35) (.t 40), none⟩,
  ⟨(some 42), .callF 203 [(.t 18), (.t 22), (.t 26), (.t 27), (.t 28), (.t 31), (.t 41)], none⟩,
  ⟨(some 14), .mov (.t 42), none⟩,
  ⟨(some 43), .extract 0 (.t 14), none⟩,
  ⟨(some 44), .extract 1 (.t 14), none⟩,
  ⟨(some 45), .extract 2 (.t 14), none⟩,
  ⟨(some 46), .extract 3 (.t 14), none⟩,
  ⟨(some 10), .new 59 [.nils], none⟩,
  ⟨none, .store 1 (.t 10) (.t 43), none⟩,
  ⟨(some 11), .mov (.t 44), none⟩,
  ⟨(some 12), .mov (.t 45), none⟩,
  ⟨(some 13), .mov (.t 46), none⟩] [0, 1, 3, 7, 0, 16, 48, 112, 0, 256, 768, 1792, 0, 0, 0, 0, 49152, 0, 131072, 393216, 917504, 0, 2097152, 6291456, 14680064, 31457280, 66977792, 134217727, 268435455, 536870911, 536870911, 536870911, 536870911, 0, 9663676415, 27917287423, 64424509439, 137438953471] (sput 0 (sput 2 (sput 3 Tr.e x3) x2) x0) h) [15, 16, 17, 18, 19, 20, 21, 22, 23, 24, 25, 26, 27, 28, 29, 30, 31, 32, 33, 34, 35, 36, 37, 38, 39, 40, 41, 42, 14, 43, 44, 45, 46, 10, 11, 12, 13] fun x15_0 x16_0 x17_0 x18_0 x19_0 x20_0 x21_0 x22_0 x23_0 x24_0 x25_0 x26_0 x27_0 x28_0 x29_0 x30_0 x31_0 x32_0 x33_0 x34_0 x35_0 x36_0 x37_0 x38_0 x39_0 x40_0 x41_0 x42_0 x14_0 x43_0 x44_0 x45_0 x46_0 x10_0 x11_0 x12_0 x13_0 h0 =>
 oB (oLdN 1 h0 x10_0) fun x48_1 =>
 oB (oNil x0) fun x49_2 =>
 oB (oFA 4 x49_2) fun x50_3 =>
 oP (oSt 1 h0 x50_3 x48_1) fun _ h4 =>
 oB (oNil x0) fun x53_5 =>
 oB (oFA 5 x53_5) fun x54_6 =>
 oB (oLd h4 x54_6) fun x55_7 =>
 oP (evW (.append 67 3 24 [(I 0), (I 0), (I 0)] (.c x55_7) (.c x13_0)) .e h4) fun x57_8 h8 =>
 oB (oNil x0) fun x58_9 =>
 oB (oFA 5 x58_9) fun x59_10 =>
 oP (oSt 1 h8 x59_10 x57_8) fun _ h11 =>
 jnF 5 (fun z12_12 z11_12 z2_12 z1_12 z0_12 h12 =>
 oB (oNil z0_12) fun x80_13 =>
 oB (oFA 2 x80_13) fun x81_14 =>
 oB (oLd h12 x81_14) fun x82_15 =>
 oB (oIx 4 x82_15 z1_12) fun x84_16 =>
 oB (oFA 2 x84_16) fun x85_17 =>
 oB (oLd h12 x85_17) fun x86_18 =>
 oP (call n_parse_parser_wrong [z0_12, (I 8), z2_12, z12_12, x86_18] h12) fun x87_19 h19 =>
 oB (bGe z11_12 (I 0)) fun x89_20 =>
 oB (bAdd z1_12 (I 1)) fun x91_21 =>
 some (.tup [x89_20, x91_21], h19)) fun j12 =>
 lpF 5 n (fun f22 y12_22 y11_22 y2_22 y1_22 y0_22 h22 =>
 oB (bGe y11_22 (I 0)) fun x61_23 =>
 oB (gq x61_23 true (some y0_22)) fun x63_24 =>
 oB (gq x61_23 true (oNil x63_24)) fun x64_25 =>
 oB (gq x61_23 true (oFA 2 x64_25)) fun x65_26 =>
 oB (gq x61_23 true (oLd h22 x65_26)) fun x66_27 =>
 oB (gq x61_23 true (some y1_22)) fun x67_28 =>
 oB (gq x61_23 true (oIx 4 x66_27 x67_28)) fun x68_29 =>
 oB (gq x61_23 true (oFA 2 x68_29)) fun x69_30 =>
 oB (gq x61_23 true (oLd h22 x69_30)) fun x70_31 =>
 oB (gq x61_23 true (some y12_22)) fun x71_32 =>
 oB (gq x61_23 true (bLt x70_31 x71_32)) fun x72_33 =>
 oB (oPick x61_23 x72_33 (.bool false)) fun x73_34 =>
 ci x73_34 (
 jnF 5 (fun z12_35 z11_35 z2_35 z1_35 z0_35 h35 =>
 f22 z12_35 z11_35 z2_35 z1_35 z0_35 h35) fun j35 =>
 oB (bAdd y1_22 (I 1)) fun x75_36 =>
 j35 y12_22 y11_22 y2_22 x75_36 y0_22 h22) (
 j12 y12_22 y11_22 y2_22 y1_22 y0_22 h22)) x12_0 x11_0 x2 x1 x0 h11
theorem o_parse_parser_value : FnOK Tryz.prog n_parse_parser_value (a4 f_parse_parser_value) := ok4 mixed Tryz.func154 (by kernel_rfl)
/- corrector/arena.Grow -/
noncomputable def f_arena_Grow (n : Nat) (call : Caller)  (x0 x1 x2 : AV) (h : AH) : Ans :=
 oP (oNew h 59 (AV.cells x0)) fun x3_0 h0 =>
 oP (oNew h0 59 [.nils]) fun x6_1 h1 =>
 oB (oLdN 1 h1 x3_0) fun x8_2 =>
 oP (call n_arena_own [x8_2] h1) fun x9_3 h3 =>
 oP (call n_arena_forest_has [x9_3, x1] h3) fun x12_4 h4 =>
 oB (gq x12_4 true (some x2)) fun x14_5 =>
 oB (gq x12_4 true (some x9_3)) fun x15_6 =>
 oB (gq x12_4 true (oNil x15_6)) fun x16_7 =>
 oB (gq x12_4 true (oFA 0 x16_7)) fun x17_8 =>
 oB (gq x12_4 true (oFA 0 x17_8)) fun x18_9 =>
 oB (gq x12_4 true (oLd h4 x18_9)) fun x19_10 =>
 oB (gq x12_4 true (oIx 6 x19_10 (I 0))) fun x20_11 =>
 oB (gq x12_4 true (oFA 2 x20_11)) fun x21_12 =>
 oB (gq x12_4 true (oLd h4 x21_12)) fun x22_13 =>
 oB (gq x12_4 true (bLe x14_5 x22_13)) fun x23_14 =>
 oB (oPick x12_4 x23_14 (.bool false)) fun x24_15 =>
 jnF 2 (fun z7_16 z6_16 h16 =>
 oB (oNil z7_16) fun x30_17 =>
 oB (oFA 0 x30_17) fun x31_18 =>
 oB (oLdN 1 h16 x31_18) fun x32_19 =>
 oP (oSt 1 h16 z6_16 x32_19) fun _ h20 =>
 retT [(6, some (some 1))] (sput 6 Tr.e z6_16) h20) fun j16 =>
 ci x24_15 (
 oP (call n_arena_forest_grow [x9_3, x1, x2] h4) fun x28_21 h21 =>
 j16 x9_3 x6_1 h21) (
 j16 x9_3 x6_1 h4)
theorem o_arena_Grow : FnOK Tryz.prog n_arena_Grow (a3 f_arena_Grow) := ok3 mixed Tryz.func155 (by kernel_rfl)
/- corrector/rows.Entries$1 -/
noncomputable def f_rows_Entries_1 (n : Nat) (call : Caller)  (x0 x1 x2 : AV) (h : AH) : Ans :=
 jnF 0 (fun h0 =>
 some (.tup [], h0)) fun j0 =>
 lpF 3 n (fun f1 y2_1 y1_1 y0_1 h1 =>
 oB (oLd h1 y0_1) fun x3_2 =>
 oB (oFA 2 y1_1) fun x4_3 =>
 oB (oLd h1 x4_3) fun x5_4 =>
 oB (bLt x3_2 x5_4) fun x6_5 =>
 oB (gq x6_5 true (oLd h1 y2_1)) fun x8_6 =>
 oB (gq x6_5 true (oLd h1 y0_1)) fun x9_7 =>
 oB (gq x6_5 true (oIx 3 x8_6 x9_7)) fun x10_8 =>
 oB (gq x6_5 true (oLdN 3 h1 x10_8)) fun x11_9 =>
 oP (gw x6_5 true (call n_rows_counts [x11_9] h1) h1) fun x12_10 h10 =>
 oB (gq x6_5 true (evQ (.un .not (.c x12_10)) .e h10)) fun x13_11 =>
 oB (oPick x6_5 x13_11 (.bool false)) fun x14_12 =>
 ci x14_12 (
 jnF 3 (fun z2_13 z1_13 z0_13 h13 =>
 f1 z2_13 z1_13 z0_13 h13) fun j13 =>
 oB (oLd h10 y0_1) fun x15_14 =>
 oB (bAdd x15_14 (I 1)) fun x16_15 =>
 oP (oSt 1 h10 y0_1 x16_15) fun _ h16 =>
 j13 y2_1 y1_1 y0_1 h16) (
 j0 h10)) x2 x1 x0 h
theorem o_rows_Entries_1 : FnOK Tryz.prog n_rows_Entries_1 (a3 f_rows_Entries_1) := ok3 mixed Tryz.func156 (by kernel_rfl)
/- corrector/rows.property -/
noncomputable def f_rows_property (n : Nat) (call : Caller)  (x0 : AV) (h : AH) : Ans :=
 oP (oNew h 131 (AV.cells x0)) fun x1_0 h0 =>
 oB (oFA 0 x1_0) fun x3_1 =>
 oB (oLd h0 x3_1) fun x4_2 =>
 oB (bEq .no x4_2 (I 12)) fun x5_3 =>
 oB (gq x5_3 false (oFA 0 x1_0)) fun x7_4 =>
 oB (gq x5_3 false (oLd h0 x7_4)) fun x8_5 =>
 oB (gq x5_3 false (bEq .no x8_5 (I 14))) fun x9_6 =>
 oB (oPick x5_3 (.bool true) x9_6) fun x10_7 =>
 some (x10_7, h0)
theorem o_rows_property : FnOK Tryz.prog n_rows_property (a1 f_rows_property) := ok1 mixed Tryz.func157 (by kernel_rfl)
/- corrector/rows.name -/
noncomputable def f_rows_name (n : Nat) (call : Caller)  (x0 : AV) (h : AH) : Ans :=
 oP (oNew h 131 (AV.cells x0)) fun x1_0 h0 =>
 oB (oFA 0 x1_0) fun x3_1 =>
 oB (oLd h0 x3_1) fun x4_2 =>
 jnF 0 (fun h3 =>
 some ((.bool false), h3)) fun j3 =>
 oB (bEq .no x4_2 (I 15)) fun x6_4 =>
 jnF 1 (fun z5_5 h5 =>
 ci z5_5 (
 some ((.bool true), h5)) (
 j3 h5)) fun j5 =>
 ci x6_4 (
 j5 x6_4 h0) (
 oB (bEq .no x4_2 (I 16)) fun x7_6 =>
 jnF 1 (fun z5_7 h7 =>
 j5 z5_7 h7) fun j7 =>
 ci x7_6 (
 j7 x7_6 h0) (
 oB (bEq .no x4_2 (I 17)) fun x8_8 =>
 jnF 1 (fun z5_9 h9 =>
 j7 z5_9 h9) fun j9 =>
 ci x8_8 (
 j9 x8_8 h0) (
 oB (bEq .no x4_2 (I 13)) fun x9_10 =>
 j9 x9_10 h0)))
theorem o_rows_name : FnOK Tryz.prog n_rows_name (a1 f_rows_name) := ok1 mixed Tryz.func158 (by kernel_rfl)
/- slices.Clone[[]corrector/rows.Entry,corrector/rows.Entry] -/
noncomputable def f_slices_Clone_rows_Entry_rows_Entry (n : Nat) (call : Caller)  (x0 : AV) (h : AH) : Ans :=
 oB (bEq .sl x0 .nils) fun x4_0 =>
 ci x4_0 (
 some (.nils, h)) (
 oP (oBuildSl h 201 4 0 [] []) fun x5_1 h1 =>
 oP (evW (.append 201 4 32 [(.bool false), (I 0), (I 0), (I 0)] (.c x5_1) (.c x0)) .e h1) fun x7_2 h2 =>
 some (x7_2, h2))
theorem o_slices_Clone_rows_Entry_rows_Entry : FnOK Tryz.prog n_slices_Clone_rows_Entry_rows_Entry (a1 f_slices_Clone_rows_Entry_rows_Entry) := ok1 mixed Tryz.func159 (by kernel_rfl)
/- (*corrector/parse.parser).place -/
noncomputable def f_parse_parser_place (n : Nat) (call : Caller)  (x0 x1 : AV) (h : AH) : Ans :=
 oP (oNew h 201 (AV.cells x1)) fun x3_0 h0 =>
 oB (oFA 0 x3_0) fun x7_1 =>
 oB (oLd h0 x7_1) fun x8_2 =>
 jnF 3 (fun z5_3 z3_3 z0_3 h3 =>
 oB (oNil z0_3) fun x10_4 =>
 oB (oFA 8 x10_4) fun x11_5 =>
 oB (oLd h3 x11_5) fun x12_6 =>
 oB (oLen x12_6) fun x13_7 =>
 oB (bSub x13_7 (I 1)) fun x14_8 =>
 jnF 4 (fun z6_9 z5_9 z3_9 z0_9 h9 =>
 jnF 2 (fun z3_10 z0_10 h10 =>
 oB (oLdN 4 h10 z3_10) fun x172_11 =>
 oP (call n_parse_parser_cur [z0_10, x172_11] h10) fun x173_12 h12 =>
 some ((I 0), h12)) fun j10 =>
 oB (bLt z6_9 (I 0)) fun x34_13 =>
 oB (gq x34_13 true (some z0_9)) fun x36_14 =>
 oB (gq x34_13 true (oNil x36_14)) fun x37_15 =>
 oB (gq x34_13 true (oFA 7 x37_15)) fun x38_16 =>
 oB (gq x34_13 true (oLd h9 x38_16)) fun x39_17 =>
 oB (oPick x34_13 x39_17 (.bool false)) fun x40_18 =>
 ci x40_18 (
 some ((I 7), h9)) (
 oB (bLt z6_9 (I 0)) fun x43_19 =>
 ci x43_19 (
 oB (oLdN 4 h9 z3_9) fun x47_20 =>
 oP (call n_parse_parser_nest [z0_9, z6_9, z5_9, x47_20] h9) fun x48_21 h21 =>
 some (x48_21, h21)) (
 oB' (nx 22 h9) fun h22 =>
 oB (oNil z0_9) fun x51_23 =>
 oB (oFA 8 x51_23) fun x52_24 =>
 oB (oLd h22 x52_24) fun x53_25 =>
 oB (oIx 5 x53_25 z6_9) fun x55_26 =>
 oB (oFA 2 x55_26) fun x56_27 =>
 oB (oLd h22 x56_27) fun x57_28 =>
 oB (oFA 1 z3_9) fun x58_29 =>
 oB (oLd h22 x58_29) fun x59_30 =>
 oB (bLt x57_28 x59_30) fun x60_31 =>
 oB (gq x60_31 true (some z0_9)) fun x62_32 =>
 oB (gq x60_31 true (oNil x62_32)) fun x63_33 =>
 oB (gq x60_31 true (oFA 8 x63_33)) fun x64_34 =>
 oB (gq x60_31 true (oLd h22 x64_34)) fun x65_35 =>
 oB (gq x60_31 true (some z6_9)) fun x66_36 =>
 oB (gq x60_31 true (oIx 5 x65_35 x66_36)) fun x67_37 =>
 oB (gq x60_31 true (oFA 4 x67_37)) fun x68_38 =>
 oB (gq x60_31 true (oLd h22 x68_38)) fun x69_39 =>
 oB (oPick x60_31 x69_39 (.bool false)) fun x70_40 =>
 ci x70_40 (
 some ((I 6), h22)) (
 oB' (nx 12 h22) fun h41 =>
 oB (oNil z0_9) fun x73_42 =>
 oB (oFA 8 x73_42) fun x74_43 =>
 oB (oLd h41 x74_43) fun x75_44 =>
 oB (oIx 5 x75_44 z6_9) fun x77_45 =>
 oB (oFA 2 x77_45) fun x78_46 =>
 oB (oLd h41 x78_46) fun x79_47 =>
 oB (oFA 1 z3_9) fun x80_48 =>
 oB (oLd h41 x80_48) fun x81_49 =>
 oB (bLt x79_47 x81_49) fun x82_50 =>
 ci x82_50 (
 oB (oLdN 4 h41 z3_9) fun x86_51 =>
 oP (call n_parse_parser_nest [z0_9, z6_9, z5_9, x86_51] h41) fun x87_52 h52 =>
 some (x87_52, h52)) (
 oB (oNil z0_9) fun x90_53 =>
 oB (oFA 8 x90_53) fun x91_54 =>
 oB (oLd h41 x91_54) fun x92_55 =>
 oB (oIx 5 x92_55 z6_9) fun x94_56 =>
 oB (oFA 1 x94_56) fun x95_57 =>
 oB (oLd h41 x95_57) fun x96_58 =>
 oB (bEq .no x96_58 z5_9) fun x98_59 =>
 jnF 2 (fun z3_60 z0_60 h60 =>
 j10 z3_60 z0_60 h60) fun j60 =>
 ci x98_59 (
 oB (oNil z0_9) fun x101_61 =>
 oB (oFA 8 x101_61) fun x102_62 =>
 oB (oLd h41 x102_62) fun x103_63 =>
 oB (bAdd z6_9 (I 1)) fun x105_64 =>
 oB (evQ (.sl 5 (.c x103_63) none (some (.c x105_64)) none) .e h41) fun x106_65 =>
 oB (oNil z0_9) fun x107_66 =>
 oB (oFA 8 x107_66) fun x108_67 =>
 oP (oSt 1 h41 x108_67 x106_65) fun _ h68 =>
 j60 z3_9 z0_9 h68) (
 oB (oFA 0 z3_9) fun x110_69 =>
 oB (oLd h41 x110_69) fun x111_70 =>
 oB (gq x111_70 true (some z0_9)) fun x113_71 =>
 oB (gq x111_70 true (oNil x113_71)) fun x114_72 =>
 oB (gq x111_70 true (oFA 8 x114_72)) fun x115_73 =>
 oB (gq x111_70 true (oLd h41 x115_73)) fun x116_74 =>
 oB (gq x111_70 true (some z6_9)) fun x117_75 =>
 oB (gq x111_70 true (oIx 5 x116_74 x117_75)) fun x118_76 =>
 oB (gq x111_70 true (oFA 4 x118_76)) fun x119_77 =>
 oB (gq x111_70 true (oLd h41 x119_77)) fun x120_78 =>
 oB (gq x111_70 true (evQ (.un .not (.c x120_78)) .e h41)) fun x121_79 =>
 oB (oPick x111_70 x121_79 (.bool false)) fun x122_80 =>
 ci x122_80 (
 oB (oLdN 4 h41 z3_9) fun x126_81 =>
 oP (call n_parse_parser_nest [z0_9, z6_9, z5_9, x126_81] h41) fun x127_82 h82 =>
 some (x127_82, h82)) (
 oB' (nx 34 h41) fun h83 =>
 oB (oFA 0 z3_9) fun x129_84 =>
 oB (oLd h83 x129_84) fun x130_85 =>
 oB (evQ (.un .not (.c x130_85)) .e h83) fun x131_86 =>
 oB (gq x131_86 true (some z6_9)) fun x133_87 =>
 oB (gq x131_86 true (bGt x133_87 (I 0))) fun x134_88 =>
 oB (oPick x131_86 x134_88 (.bool false)) fun x135_89 =>
 oB (gq x135_89 true (some z0_9)) fun x137_90 =>
 oB (gq x135_89 true (oNil x137_90)) fun x138_91 =>
 oB (gq x135_89 true (oFA 8 x138_91)) fun x139_92 =>
 oB (gq x135_89 true (oLd h83 x139_92)) fun x140_93 =>
 oB (gq x135_89 true (some z6_9)) fun x141_94 =>
 oB (gq x135_89 true (bSub x141_94 (I 1))) fun x142_95 =>
 oB (gq x135_89 true (oIx 5 x140_93 x142_95)) fun x143_96 =>
 oB (gq x135_89 true (oFA 1 x143_96)) fun x144_97 =>
 oB (gq x135_89 true (oLd h83 x144_97)) fun x145_98 =>
 oB (gq x135_89 true (bEq .no x145_98 (I 5))) fun x146_99 =>
 oB (oPick x135_89 x146_99 (.bool false)) fun x147_100 =>
 oB (gq x147_100 true (some z0_9)) fun x149_101 =>
 oB (gq x147_100 true (oNil x149_101)) fun x150_102 =>
 oB (gq x147_100 true (oFA 8 x150_102)) fun x151_103 =>
 oB (gq x147_100 true (oLd h83 x151_103)) fun x152_104 =>
 oB (gq x147_100 true (some z6_9)) fun x153_105 =>
 oB (gq x147_100 true (bSub x153_105 (I 1))) fun x154_106 =>
 oB (gq x147_100 true (oIx 5 x152_104 x154_106)) fun x155_107 =>
 oB (gq x147_100 true (oFA 2 x155_107)) fun x156_108 =>
 oB (gq x147_100 true (oLd h83 x156_108)) fun x157_109 =>
 oB (gq x147_100 true (oFA 1 z3_9)) fun x158_110 =>
 oB (gq x147_100 true (oLd h83 x158_110)) fun x159_111 =>
 oB (gq x147_100 true (bEq .no x157_109 x159_111)) fun x160_112 =>
 oB (oPick x147_100 x160_112 (.bool false)) fun x161_113 =>
 ci x161_113 (
 oB (oNil z0_9) fun x164_114 =>
 oB (oFA 8 x164_114) fun x165_115 =>
 oB (oLd h83 x165_115) fun x166_116 =>
 oB (evQ (.sl 5 (.c x166_116) none (some (.c z6_9)) none) .e h83) fun x168_117 =>
 oB (oNil z0_9) fun x169_118 =>
 oB (oFA 8 x169_118) fun x170_119 =>
 oP (oSt 1 h83 x170_119 x168_117) fun _ h120 =>
 j60 z3_9 z0_9 h120) (
 some ((I 5), h83))))))))) fun j9 =>
 lpF 4 n (fun f121 y6_121 y5_121 y3_121 y0_121 h121 =>
 oB' (nx 15 h121) fun h122 =>
 oB (bGe y6_121 (I 0)) fun x16_123 =>
 oB (gq x16_123 true (some y0_121)) fun x18_124 =>
 oB (gq x16_123 true (oNil x18_124)) fun x19_125 =>
 oB (gq x16_123 true (oFA 8 x19_125)) fun x20_126 =>
 oB (gq x16_123 true (oLd h122 x20_126)) fun x21_127 =>
 oB (gq x16_123 true (some y6_121)) fun x22_128 =>
 oB (gq x16_123 true (oIx 5 x21_127 x22_128)) fun x23_129 =>
 oB (gq x16_123 true (oFA 2 x23_129)) fun x24_130 =>
 oB (gq x16_123 true (oLd h122 x24_130)) fun x25_131 =>
 oB (gq x16_123 true (oFA 1 y3_121)) fun x26_132 =>
 oB (gq x16_123 true (oLd h122 x26_132)) fun x27_133 =>
 oB (gq x16_123 true (bGt x25_131 x27_133)) fun x28_134 =>
 oB (oPick x16_123 x28_134 (.bool false)) fun x29_135 =>
 ci x29_135 (
 jnF 4 (fun z6_136 z5_136 z3_136 z0_136 h136 =>
 f121 z6_136 z5_136 z3_136 z0_136 h136) fun j136 =>
 oB (bSub y6_121 (I 1)) fun x31_137 =>
 j136 x31_137 y5_121 y3_121 y0_121 h122) (
 j9 y6_121 y5_121 y3_121 y0_121 h122)) x14_8 z5_3 z3_3 z0_3 h3) fun j3 =>
 ci x8_2 (
 j3 (I 3) x3_0 x0 h0) (
 j3 (I 5) x3_0 x0 h0)
theorem o_parse_parser_place : FnOK Tryz.prog n_parse_parser_place (a2 f_parse_parser_place) := ok2 mixed Tryz.func160 (by kernel_rfl)
/- slices.Contains[[]byte,byte] -/
noncomputable def f_slices_Contains_byte_byte (n : Nat) (call : Caller)  (x0 x1 : AV) (h : AH) : Ans :=
 oP (call n_slices_Index_byte_byte [x0, x1] h) fun x7_0 h0 =>
 oB (bGe x7_0 (I 0)) fun x8_1 =>
 some (x8_1, h0)
theorem o_slices_Contains_byte_byte : FnOK Tryz.prog n_slices_Contains_byte_byte (a2 f_slices_Contains_byte_byte) := ok2 mixed Tryz.func161 (by kernel_rfl)
/- corrector/quote.Text -/
noncomputable def f_quote_Text (n : Nat) (call : Caller)  (x0 x1 : AV) (h : AH) : Ans :=
 oP (call n_quote_of [x0, x1] h) fun x12_0 h0 =>
 oB (evQ (.tassertI .nili true [290, 291, 292] [0, 1, 2, 3, 4, 5, 6, 7, 8, 9, 10, 11, 12, 13, 14, 15, 16, 17, 18, 19, 20, 21, 22, 23, 24, 25, 26, 27, 28, 29, 30, 31, 32, 33, 34, 35, 36, 37, 38, 39, 40, 41, 42, 43, 44, 45, 46, 47, 48, 49, 50, 51, 52, 53, 54, 55, 56, 57, 58, 59, 60, 61, 62, 63, 64, 65, 66, 67, 68, 69, 70, 71, 72, 73, 74, 75, 76, 77, 78, 79, 80, 81, 82, 83, 84, 85, 86, 87, 88, 89, 90, 91, 92, 93, 94, 95, 96, 97, 98, 99, 100, 101, 102, 103, 104, 105, 106, 107, 108, 109, 110, 111, 112, 113, 114, 115, 116, 117, 118, 119, 120, 121, 122, 123, 124, 125, 126, 127, 128, 129, 130, 131, 132, 133, 134, 135, 136, 137, 138, 139, 140, 141, 142, 143, 144, 145, 146, 147, 148, 149, 150, 151, 152, 153, 154, 155, 156, 157, 158, 159, 160, 161, 162, 163, 164, 165, 166, 167, 168, 169, 170, 171, 172, 173, 174, 175, 176, 177, 178, 179, 180, 181, 182, 183, 184, 185, 186, 187, 188, 189, 190, 191, 192, 193, 194, 195, 196, 197, 198, 199, 200, 201, 202, 203, 204, 205, 206, 207, 208, 209, 210, 211, 212, 213, 214, 215, 216, 217, 218, 219, 220, 221, 222, 223, 224, 225, 226, 227, 228, 229, 230, 231, 232, 233, 234, 235, 236, 237, 238, 239, 240, 241, 242, 243, 244, 245, 246, 247, 248, 249, 250, 251, 252, 253, 254, 255, 256, 257, 258, 259, 260, 261, 262, 263, 264, 265, 266, 267, 268, 269, 270, 271, 272, 273, 274, 275, 276, 277, 278, 279, 280, 281, 282, 283, 284, 285, 286, 287, 288, 289, 293, 294, 295, 296, 297, 298, 299, 300, 301, 302, 303, 304, 305, 306, 307, 308, 309, 310, 311, 312, 313, 314, 315, 316, 317, 318, 319, 320, 321, 322, 323, 324, 325, 326, 327, 328, 329, 330, 331, 332, 333, 334, 335, 336, 337, 338, 339, 340, 341, 342, 343, 344, 345, 346, 347, 348, 349, 350, 351, 352, 353, 354, 355, 356, 357, 358, 359, 360, 361, 362, 363, 364, 365, 366, 367, 368] (.c x12_0)) .e h0) fun x13_1 =>
 oB (oEx 0 x13_1) fun x14_2 =>
 oB (oEx 1 x13_1) fun x15_3 =>
 oB (evQ (.un .not (.c x15_3)) .e h0) fun x17_4 =>
 oB (gq x17_4 false (some x1)) fun x19_5 =>
 oB (gq x17_4 false (bEq .no x19_5 (.str []))) fun x20_6 =>
 oB (oPick x17_4 (.bool true) x20_6) fun x21_7 =>
 ci x21_7 (
 some (.tup [(.str []), .nils, (.bool false)], h0)) (
 oP (wOf (.invoke [(290, 348), (291, 349), (292, 351)] (.c x14_2) []) call .e h0) fun x24_8 h8 =>
 oB (oEx 0 x24_8) fun x25_9 =>
 oB (oEx 1 x24_8) fun x26_10 =>
 oB (oEx 2 x24_8) fun x27_11 =>
 oP (evW (.append 3 1 8 [(I 0)] (.c .nils) (.c x26_10)) .e h8) fun x30_12 h12 =>
 some (.tup [x25_9, x30_12, x27_11], h12))
theorem o_quote_Text : FnOK Tryz.prog n_quote_Text (a2 f_quote_Text) := ok2 mixed Tryz.func162 (by kernel_rfl)
/- cmp.isNaN[int] -/
noncomputable def f_cmp_isNaN_int (n : Nat) (call : Caller)  (x0 : AV) (h : AH) : Ans :=
 oB (bNe .no x0 x0) fun x5_0 =>
 some (x5_0, h)
theorem o_cmp_isNaN_int : FnOK Tryz.prog n_cmp_isNaN_int (a1 f_cmp_isNaN_int) := ok1 mixed Tryz.func163 (by kernel_rfl)
/- corrector/arena.own -/
noncomputable def f_arena_own (n : Nat) (call : Caller)  (x0 : AV) (h : AH) : Ans :=
 oP (oNew h 59 (AV.cells x0)) fun x1_0 h0 =>
 oB (oFA 0 x1_0) fun x6_1 =>
 oB (oLd h0 x6_1) fun x7_2 =>
 oP (call n_slices_Clone_api_Node_api_Node [x7_2] h0) fun x8_3 h3 =>
 oB (oBuild [.nils] [(0, 1, x8_3)]) fun x9_4 =>
 oB (oBuild [.nils] [(0, 1, x9_4)]) fun x10_5 =>
 oP (oNew h3 212 (AV.cells x10_5)) fun x11_6 h6 =>
 oB (oNil x11_6) fun x13_7 =>
 oB (oFA 0 x13_7) fun x14_8 =>
 oB (oFA 0 x14_8) fun x15_9 =>
 oB (oLd h6 x15_9) fun x16_10 =>
 oB (oLen x16_10) fun x17_11 =>
 jnF 1 (fun z3_12 h12 =>
 some (z3_12, h12)) fun j12 =>
 lpF 4 n (fun f13 y18_13 y17_13 y16_13 y3_13 h13 =>
 oB (bLt y18_13 y17_13) fun x19_14 =>
 ci x19_14 (
 jnF 4 (fun z18_15 z17_15 z16_15 z3_15 h15 =>
 oB (bAdd z18_15 (I 1)) fun x34_16 =>
 f13 x34_16 z17_15 z16_15 z3_15 h15) fun j15 =>
 oB (oIx 6 y16_13 y18_13) fun x21_17 =>
 oB (oLdN 6 h13 x21_17) fun x22_18 =>
 oP (oNew h13 98 [(I 0), (I 0), (I 0), (I 0), .nils, (.bool false)]) fun x5_19 h19 =>
 oP (oSt 6 h19 x5_19 x22_18) fun _ h20 =>
 drF (drawRun call [⟨(some 23), .mov (.t 3), none⟩,
  ⟨(some 24), .nilCheck (.t 23), none⟩,
  ⟨(some 25), .fieldAddr 0 (.t 24), none⟩,
  ⟨(some 26), .fieldAddr 0 (.t 25), none⟩,
  ⟨(some 27), .load none (.t 26), none⟩,
  ⟨(some 28), .mov (.t 4), none⟩,
  ⟨(some 29), .fieldAddr 4 (.t 5), none⟩,
  ⟨(some 30), .load none (.t 29), none⟩,
  ⟨(some 31), .callF 46 [(.t 30)], none⟩,
  ⟨(some 32), .idxSl 6 (.t 27) (.t 28), none⟩,
  ⟨(some 33), .fieldAddr 4 (.t 32), none⟩,
  ⟨none, .store 1 (.t 33) (.t 31), none⟩] [0, 1, 3, 7, 15, 0, 0, 64, 192, 511, 1023, 2047] (sput 3 (sput 4 (sput 5 Tr.e x5_19) y18_13) y3_13) h20) [23, 24, 25, 26, 27, 28, 29, 30, 31, 32, 33] fun x23_21 x24_21 x25_21 x26_21 x27_21 x28_21 x29_21 x30_21 x31_21 x32_21 x33_21 h21 =>
 j15 y18_13 y17_13 y16_13 y3_13 h21) (
 j12 y3_13 h13)) (I 0) x17_11 x16_10 x11_6 h6
theorem o_arena_own : FnOK Tryz.prog n_arena_own (a1 f_arena_own) := ok1 mixed Tryz.func164 (by kernel_rfl)
end Go.Proofs.YtahpoedbdhhdfaaGreatDoor
