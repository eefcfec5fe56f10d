/- Functions, as they run. PRINTED by a program of this repo. -/
import Derived.Test.YtahpoedbdhhdfaaGreatDoorN
import Derived.Test.YtahpoedbdhhdfaaGreatDoorM
set_option linter.unusedVariables false
set_option maxRecDepth 100000
namespace Go.Proofs.YtahpoedbdhhdfaaGreatDoor
open Go.Ev
/- (*corrector/scan.scanner).blanks -/
noncomputable def f_scan_scanner_blanks (n : Nat) (call : Caller)  (x0 x1 : AV) (h : AH) : Ans :=
 jnF 1 (fun z1_0 h0 =>
 some (z1_0, h0)) fun j0 =>
 lpF 2 n (fun f1 y1_1 y0_1 h1 =>
 oB (oNil y0_1) fun x7_2 =>
 oB (oFA 0 x7_2) fun x8_3 =>
 oB (oLd h1 x8_3) fun x9_4 =>
 oB (oLen x9_4) fun x10_5 =>
 oB (bLt y1_1 x10_5) fun x11_6 =>
 oB (gq x11_6 true (some y0_1)) fun x13_7 =>
 oB (gq x11_6 true (oNil x13_7)) fun x14_8 =>
 oB (gq x11_6 true (oFA 0 x14_8)) fun x15_9 =>
 oB (gq x11_6 true (oLd h1 x15_9)) fun x16_10 =>
 oB (gq x11_6 true (some y1_1)) fun x17_11 =>
 oB (gq x11_6 true (oIx 1 x16_10 x17_11)) fun x18_12 =>
 oB (gq x11_6 true (oLd h1 x18_12)) fun x19_13 =>
 oP (gw x11_6 true (call n_chars_Blank [x19_13] h1) h1) fun x20_14 h14 =>
 oB (oPick x11_6 x20_14 (.bool false)) fun x21_15 =>
 ci x21_15 (
 jnF 2 (fun z1_16 z0_16 h16 =>
 f1 z1_16 z0_16 h16) fun j16 =>
 oB (bAdd y1_1 (I 1)) fun x23_17 =>
 j16 x23_17 y0_1 h14) (
 j0 y1_1 h14)) x1 x0 h
theorem o_scan_scanner_blanks : FnOK Tryz.prog n_scan_scanner_blanks (a2 f_scan_scanner_blanks) := ok2 mixed Tryz.func138 (by kernel_rfl)
/- (*corrector/scan.scanner).last -/
noncomputable def f_scan_scanner_last (n : Nat) (call : Caller)  (x0 : AV) (h : AH) : Ans :=
 oB (oNil x0) fun x4_0 =>
 oB (oFA 2 x4_0) fun x5_1 =>
 oB (oLd h x5_1) fun x6_2 =>
 oB (oLen x6_2) fun x7_3 =>
 oB (bEq .no x7_3 (I 0)) fun x8_4 =>
 ci x8_4 (
 some ((I 0), h)) (
 oB' (nx 14 h) fun h5 =>
 oB (oNil x0) fun x10_6 =>
 oB (oFA 2 x10_6) fun x11_7 =>
 oB (oLd h5 x11_7) fun x12_8 =>
 oB (oNil x0) fun x14_9 =>
 oB (oFA 2 x14_9) fun x15_10 =>
 oB (oLd h5 x15_10) fun x16_11 =>
 oB (oLen x16_11) fun x17_12 =>
 oB (bSub x17_12 (I 1)) fun x18_13 =>
 oB (oIx 3 x12_8 x18_13) fun x19_14 =>
 oB (oFA 0 x19_14) fun x20_15 =>
 oB (oLd h5 x20_15) fun x21_16 =>
 some (x21_16, h5))
theorem o_scan_scanner_last : FnOK Tryz.prog n_scan_scanner_last (a1 f_scan_scanner_last) := ok1 mixed Tryz.func139 (by kernel_rfl)
/- (*corrector/scan.scanner).there -/
noncomputable def f_scan_scanner_there (n : Nat) (call : Caller)  (x0 x1 x2 : AV) (h : AH) : Ans :=
 oB (oNil x0) fun x9_0 =>
 oB (oFA 0 x9_0) fun x10_1 =>
 oB (oLd h x10_1) fun x11_2 =>
 oB (oLen x11_2) fun x12_3 =>
 oB (bLt x1 x12_3) fun x13_4 =>
 oB (gq x13_4 true (some x0)) fun x15_5 =>
 oB (gq x13_4 true (oNil x15_5)) fun x16_6 =>
 oB (gq x13_4 true (oFA 0 x16_6)) fun x17_7 =>
 oB (gq x13_4 true (oLd h x17_7)) fun x18_8 =>
 oB (gq x13_4 true (some x1)) fun x19_9 =>
 oB (gq x13_4 true (oIx 1 x18_8 x19_9)) fun x20_10 =>
 oB (gq x13_4 true (oLd h x20_10)) fun x21_11 =>
 oB (gq x13_4 true (some x2)) fun x22_12 =>
 oB (gq x13_4 true (bEq .no x21_11 x22_12)) fun x23_13 =>
 oB (oPick x13_4 x23_13 (.bool false)) fun x24_14 =>
 some (x24_14, h)
theorem o_scan_scanner_there : FnOK Tryz.prog n_scan_scanner_there (a3 f_scan_scanner_there) := ok3 mixed Tryz.func140 (by kernel_rfl)
/- (*corrector/scan.scanner).line -/
noncomputable def f_scan_scanner_line (n : Nat) (call : Caller)  (x0 x1 : AV) (h : AH) : Ans :=
 jnF 1 (fun z1_0 h0 =>
 some (z1_0, h0)) fun j0 =>
 lpF 2 n (fun f1 y1_1 y0_1 h1 =>
 oB (oNil y0_1) fun x7_2 =>
 oB (oFA 0 x7_2) fun x8_3 =>
 oB (oLd h1 x8_3) fun x9_4 =>
 oB (oLen x9_4) fun x10_5 =>
 oB (bLt y1_1 x10_5) fun x11_6 =>
 oB (gq x11_6 true (some y0_1)) fun x13_7 =>
 oB (gq x11_6 true (some y1_1)) fun x14_8 =>
 oP (gw x11_6 true (call n_scan_scanner_brk [x13_7, x14_8] h1) h1) fun x15_9 h9 =>
 oB (gq x11_6 true (bEq .no x15_9 (I 0))) fun x16_10 =>
 oB (oPick x11_6 x16_10 (.bool false)) fun x17_11 =>
 ci x17_11 (
 jnF 2 (fun z1_12 z0_12 h12 =>
 f1 z1_12 z0_12 h12) fun j12 =>
 oB (bAdd y1_1 (I 1)) fun x19_13 =>
 j12 x19_13 y0_1 h9) (
 j0 y1_1 h9)) x1 x0 h
theorem o_scan_scanner_line : FnOK Tryz.prog n_scan_scanner_line (a2 f_scan_scanner_line) := ok2 mixed Tryz.func141 (by kernel_rfl)
/- (*corrector/scan.scanner).brackets -/
noncomputable def f_scan_scanner_brackets (n : Nat) (call : Caller)  (x0 : AV) (h : AH) : Ans :=
 oB' (nx 10 h) fun h0 =>
 oB (oNil x0) fun x4_1 =>
 oB (oFA 0 x4_1) fun x5_2 =>
 oB (oLd h0 x5_2) fun x6_3 =>
 oB (oNil x0) fun x8_4 =>
 oB (oFA 1 x8_4) fun x9_5 =>
 oB (oLd h0 x9_5) fun x10_6 =>
 oB (oIx 1 x6_3 x10_6) fun x11_7 =>
 oB (oLd h0 x11_7) fun x12_8 =>
 jnF 0 (fun h9 =>
 some ((I 0), h9)) fun j9 =>
 oB (bEq .no x12_8 (U 91)) fun x14_10 =>
 ci x14_10 (
 oB (oNil x0) fun x16_11 =>
 oB (oFA 3 x16_11) fun x17_12 =>
 oB (oLd h0 x17_12) fun x18_13 =>
 oB (bAdd x18_13 (I 1)) fun x19_14 =>
 oB (oNil x0) fun x20_15 =>
 oB (oFA 3 x20_15) fun x21_16 =>
 oP (oSt 1 h0 x21_16 x19_14) fun _ h17 =>
 some ((I 8), h17)) (
 oB (bEq .no x12_8 (U 123)) fun x23_18 =>
 ci x23_18 (
 oB (oNil x0) fun x25_19 =>
 oB (oFA 3 x25_19) fun x26_20 =>
 oB (oLd h0 x26_20) fun x27_21 =>
 oB (bAdd x27_21 (I 1)) fun x28_22 =>
 oB (oNil x0) fun x29_23 =>
 oB (oFA 3 x29_23) fun x30_24 =>
 oP (oSt 1 h0 x30_24 x28_22) fun _ h25 =>
 some ((I 9), h25)) (
 oB (bEq .no x12_8 (U 93)) fun x32_26 =>
 ci x32_26 (
 oB (oNil x0) fun x35_27 =>
 oB (oFA 3 x35_27) fun x36_28 =>
 oB (oLd h0 x36_28) fun x37_29 =>
 oB (bSub x37_29 (I 1)) fun x38_30 =>
 oB (evQ (.maxI (.c x38_30) [(.c (I 0))]) .e h0) fun x39_31 =>
 oB (oNil x0) fun x40_32 =>
 oB (oFA 3 x40_32) fun x41_33 =>
 oP (oSt 1 h0 x41_33 x39_31) fun _ h34 =>
 some ((I 10), h34)) (
 oB (bEq .no x12_8 (U 125)) fun x43_35 =>
 ci x43_35 (
 oB (oNil x0) fun x46_36 =>
 oB (oFA 3 x46_36) fun x47_37 =>
 oB (oLd h0 x47_37) fun x48_38 =>
 oB (bSub x48_38 (I 1)) fun x49_39 =>
 oB (evQ (.maxI (.c x49_39) [(.c (I 0))]) .e h0) fun x50_40 =>
 oB (oNil x0) fun x51_41 =>
 oB (oFA 3 x51_41) fun x52_42 =>
 oP (oSt 1 h0 x52_42 x50_40) fun _ h43 =>
 some ((I 11), h43)) (
 oB (bEq .no x12_8 (U 44)) fun x54_44 =>
 jnF 0 (fun h45 =>
 j9 h45) fun j45 =>
 ci x54_44 (
 oB (oNil x0) fun x56_46 =>
 oB (oFA 3 x56_46) fun x57_47 =>
 oB (oLd h0 x57_47) fun x58_48 =>
 oB (bGt x58_48 (I 0)) fun x59_49 =>
 ci x59_49 (
 some ((I 7), h0)) (
 j45 h0)) (
 j45 h0)))))
theorem o_scan_scanner_brackets : FnOK Tryz.prog n_scan_scanner_brackets (a1 f_scan_scanner_brackets) := ok1 mixed Tryz.func142 (by kernel_rfl)
/- (*corrector/scan.scanner).space -/
noncomputable def f_scan_scanner_space (n : Nat) (call : Caller)  (x0 x1 : AV) (h : AH) : Ans :=
 oB (oNil x0) fun x7_0 =>
 oB (oFA 0 x7_0) fun x8_1 =>
 oB (oLd h x8_1) fun x9_2 =>
 oB (oLen x9_2) fun x10_3 =>
 oB (bGe x1 x10_3) fun x11_4 =>
 oB (gq x11_4 false (some x0)) fun x13_5 =>
 oB (gq x11_4 false (oNil x13_5)) fun x14_6 =>
 oB (gq x11_4 false (oFA 0 x14_6)) fun x15_7 =>
 oB (gq x11_4 false (oLd h x15_7)) fun x16_8 =>
 oB (gq x11_4 false (some x1)) fun x17_9 =>
 oB (gq x11_4 false (oIx 1 x16_8 x17_9)) fun x18_10 =>
 oB (gq x11_4 false (oLd h x18_10)) fun x19_11 =>
 oP (gw x11_4 false (call n_chars_Blank [x19_11] h) h) fun x20_12 h12 =>
 oB (oPick x11_4 (.bool true) x20_12) fun x21_13 =>
 oB (gq x21_13 false (some x0)) fun x23_14 =>
 oB (gq x21_13 false (some x1)) fun x24_15 =>
 oP (gw x21_13 false (call n_scan_scanner_brk [x23_14, x24_15] h12) h12) fun x25_16 h16 =>
 oB (gq x21_13 false (bGt x25_16 (I 0))) fun x26_17 =>
 oB (oPick x21_13 (.bool true) x26_17) fun x27_18 =>
 some (x27_18, h16)
theorem o_scan_scanner_space : FnOK Tryz.prog n_scan_scanner_space (a2 f_scan_scanner_space) := ok2 mixed Tryz.func143 (by kernel_rfl)
/- (*corrector/scan.scanner).colon -/
noncomputable def f_scan_scanner_colon (n : Nat) (call : Caller)  (x0 x1 : AV) (h : AH) : Ans :=
 oP (call n_scan_scanner_there [x0, x1, (U 58)] h) fun x7_0 h0 =>
 oB (gq x7_0 true (some x0)) fun x9_1 =>
 oB (gq x7_0 true (some x1)) fun x10_2 =>
 oB (gq x7_0 true (bAdd x10_2 (I 1))) fun x11_3 =>
 oP (gw x7_0 true (call n_scan_scanner_space [x9_1, x11_3] h0) h0) fun x12_4 h4 =>
 oB (gq x7_0 true (some x12_4)) fun x13_5 =>
 oB (gq x13_5 false (some x0)) fun x14_6 =>
 oB (gq x13_5 false (oNil x14_6)) fun x15_7 =>
 oB (gq x13_5 false (oFA 3 x15_7)) fun x16_8 =>
 oB (gq x13_5 false (oLd h4 x16_8)) fun x17_9 =>
 oB (gq x13_5 false (bGt x17_9 (I 0))) fun x18_10 =>
 oB (gq x13_5 false (some x18_10)) fun x19_11 =>
 oB (gq x19_11 true (some x0)) fun x20_12 =>
 oB (gq x19_11 true (oNil x20_12)) fun x21_13 =>
 oB (gq x19_11 true (oFA 0 x21_13)) fun x22_14 =>
 oB (gq x19_11 true (oLd h4 x22_14)) fun x23_15 =>
 oB (gq x19_11 true (some x1)) fun x24_16 =>
 oB (gq x19_11 true (bAdd x24_16 (I 1))) fun x25_17 =>
 oB (gq x19_11 true (oIx 1 x23_15 x25_17)) fun x26_18 =>
 oB (gq x19_11 true (oLd h4 x26_18)) fun x27_19 =>
 oP (gw x19_11 true (call n_chars_Flow [x27_19] h4) h4) fun x28_20 h20 =>
 oB (gq x13_5 false (oPick x19_11 x28_20 (.bool false))) fun x29_21 =>
 oB (gq x7_0 true (oPick x13_5 (.bool true) x29_21)) fun x30_22 =>
 oB (oPick x7_0 x30_22 (.bool false)) fun x31_23 =>
 some (x31_23, h20)
theorem o_scan_scanner_colon : FnOK Tryz.prog n_scan_scanner_colon (a2 f_scan_scanner_colon) := ok2 mixed Tryz.func144 (by kernel_rfl)
/- (*corrector/scan.scanner).property -/
noncomputable def f_scan_scanner_property (n : Nat) (call : Caller)  (x0 : AV) (h : AH) : Ans :=
 oB' (nx 10 h) fun h0 =>
 oB (oNil x0) fun x5_1 =>
 oB (oFA 0 x5_1) fun x6_2 =>
 oB (oLd h0 x6_2) fun x7_3 =>
 oB (oNil x0) fun x9_4 =>
 oB (oFA 1 x9_4) fun x10_5 =>
 oB (oLd h0 x10_5) fun x11_6 =>
 oB (oIx 1 x7_3 x11_6) fun x12_7 =>
 oB (oLd h0 x12_7) fun x13_8 =>
 jnF 2 (fun z2_9 z0_9 h9 =>
 oB (oNil z0_9) fun x57_10 =>
 oB (oFA 1 x57_10) fun x58_11 =>
 oB (oLd h9 x58_11) fun x59_12 =>
 oB (bAdd x59_12 (I 1)) fun x60_13 =>
 oP (call n_scan_scanner_names [z0_9, x60_13] h9) fun x61_14 h14 =>
 oB (oNil z0_9) fun x64_15 =>
 oB (oFA 1 x64_15) fun x65_16 =>
 oB (oLd h14 x65_16) fun x66_17 =>
 oB (bAdd x66_17 (I 1)) fun x67_18 =>
 oB (bEq .no x61_14 x67_18) fun x68_19 =>
 ci x68_19 (
 some (.tup [(I 0), (I 0)], h14)) (
 some (.tup [z2_9, x61_14], h14))) fun j9 =>
 oB (bEq .no x13_8 (U 38)) fun x15_20 =>
 jnF 2 (fun z2_21 z0_21 h21 =>
 j9 z2_21 z0_21 h21) fun j21 =>
 ci x15_20 (
 j21 (I 12) x0 h0) (
 oB (bEq .no x13_8 (U 42)) fun x17_22 =>
 jnF 2 (fun z2_23 z0_23 h23 =>
 j21 z2_23 z0_23 h23) fun j23 =>
 ci x17_22 (
 j23 (I 13) x0 h0) (
 oB (bEq .no x13_8 (U 33)) fun x19_24 =>
 ci x19_24 (
 oB (oNil x0) fun x21_25 =>
 oB (oFA 1 x21_25) fun x22_26 =>
 oB (oLd h0 x22_26) fun x23_27 =>
 oB (bAdd x23_27 (I 1)) fun x24_28 =>
 jnF 1 (fun z3_29 h29 =>
 some (.tup [(I 14), z3_29], h29)) fun j29 =>
 lpF 2 n (fun f30 y3_30 y0_30 h30 =>
 oB (oNil y0_30) fun x27_31 =>
 oB (oFA 0 x27_31) fun x28_32 =>
 oB (oLd h30 x28_32) fun x29_33 =>
 oB (oLen x29_33) fun x30_34 =>
 oB (bLt y3_30 x30_34) fun x31_35 =>
 oB (gq x31_35 true (some y0_30)) fun x33_36 =>
 oB (gq x31_35 true (oNil x33_36)) fun x34_37 =>
 oB (gq x31_35 true (oFA 0 x34_37)) fun x35_38 =>
 oB (gq x31_35 true (oLd h30 x35_38)) fun x36_39 =>
 oB (gq x31_35 true (some y3_30)) fun x37_40 =>
 oB (gq x31_35 true (oIx 1 x36_39 x37_40)) fun x38_41 =>
 oB (gq x31_35 true (oLd h30 x38_41)) fun x39_42 =>
 oP (gw x31_35 true (call n_chars_Name [x39_42] h30) h30) fun x40_43 h43 =>
 oB (gq x31_35 true (some x40_43)) fun x41_44 =>
 oB (gq x41_44 false (some y0_30)) fun x42_45 =>
 oB (gq x41_44 false (oNil x42_45)) fun x43_46 =>
 oB (gq x41_44 false (oFA 0 x43_46)) fun x44_47 =>
 oB (gq x41_44 false (oLd h43 x44_47)) fun x45_48 =>
 oB (gq x41_44 false (some y3_30)) fun x46_49 =>
 oB (gq x41_44 false (oIx 1 x45_48 x46_49)) fun x47_50 =>
 oB (gq x41_44 false (oLd h43 x47_50)) fun x48_51 =>
 oB (gq x41_44 false (bEq .no x48_51 (U 33))) fun x49_52 =>
 oB (gq x31_35 true (oPick x41_44 (.bool true) x49_52)) fun x50_53 =>
 oB (oPick x31_35 x50_53 (.bool false)) fun x51_54 =>
 ci x51_54 (
 jnF 2 (fun z3_55 z0_55 h55 =>
 f30 z3_55 z0_55 h55) fun j55 =>
 oB (bAdd y3_30 (I 1)) fun x53_56 =>
 j55 x53_56 y0_30 h43) (
 j29 y3_30 h43)) x24_28 x0 h0) (
 j23 (I 0) x0 h0)))
theorem o_scan_scanner_property : FnOK Tryz.prog n_scan_scanner_property (a1 f_scan_scanner_property) := ok1 mixed Tryz.func145 (by kernel_rfl)
/- (*corrector/scan.scanner).single -/
noncomputable def f_scan_scanner_single (n : Nat) (call : Caller)  (x0 : AV) (h : AH) : Ans :=
 oB (oNil x0) fun x7_0 =>
 oB (oFA 1 x7_0) fun x8_1 =>
 oB (oLd h x8_1) fun x9_2 =>
 oP (call n_scan_scanner_line [x0, x9_2] h) fun x10_3 h3 =>
 oB (oNil x0) fun x12_4 =>
 oB (oFA 1 x12_4) fun x13_5 =>
 oB (oLd h3 x13_5) fun x14_6 =>
 oB (bAdd x14_6 (I 1)) fun x15_7 =>
 jnF 1 (fun z3_8 h8 =>
 some (z3_8, h8)) fun j8 =>
 lpF 3 n (fun f9 y4_9 y3_9 y0_9 h9 =>
 oB (bLt y4_9 y3_9) fun x18_10 =>
 ci x18_10 (
 jnF 3 (fun z4_11 z3_11 z0_11 h11 =>
 oB (bAdd z4_11 (I 1)) fun x20_12 =>
 f9 x20_12 z3_11 z0_11 h11) fun j11 =>
 oB (oNil y0_9) fun x22_13 =>
 oB (oFA 0 x22_13) fun x23_14 =>
 oB (oLd h9 x23_14) fun x24_15 =>
 oB (oIx 1 x24_15 y4_9) fun x26_16 =>
 oB (oLd h9 x26_16) fun x27_17 =>
 oB (bNe .no x27_17 (U 39)) fun x28_18 =>
 ci x28_18 (
 j11 y4_9 y3_9 y0_9 h9) (
 oB (bAdd y4_9 (I 1)) fun x31_19 =>
 oP (call n_scan_scanner_there [y0_9, x31_19, (U 39)] h9) fun x32_20 h20 =>
 oB (evQ (.un .not (.c x32_20)) .e h20) fun x33_21 =>
 ci x33_21 (
 oB (bAdd y4_9 (I 1)) fun x35_22 =>
 some (x35_22, h20)) (
 oB (bAdd y4_9 (I 1)) fun x37_23 =>
 j11 x37_23 y3_9 y0_9 h20))) (
 j8 y3_9 h9)) x15_7 x10_3 x0 h3
theorem o_scan_scanner_single : FnOK Tryz.prog n_scan_scanner_single (a1 f_scan_scanner_single) := ok1 mixed Tryz.func146 (by kernel_rfl)
/- (*corrector/scan.scanner).double -/
noncomputable def f_scan_scanner_double (n : Nat) (call : Caller)  (x0 : AV) (h : AH) : Ans :=
 oB (oNil x0) fun x7_0 =>
 oB (oFA 1 x7_0) fun x8_1 =>
 oB (oLd h x8_1) fun x9_2 =>
 oP (call n_scan_scanner_line [x0, x9_2] h) fun x10_3 h3 =>
 oB (oNil x0) fun x12_4 =>
 oB (oFA 1 x12_4) fun x13_5 =>
 oB (oLd h3 x13_5) fun x14_6 =>
 oB (bAdd x14_6 (I 1)) fun x15_7 =>
 jnF 1 (fun z3_8 h8 =>
 some (z3_8, h8)) fun j8 =>
 lpF 3 n (fun f9 y4_9 y3_9 y0_9 h9 =>
 oB (bLt y4_9 y3_9) fun x18_10 =>
 ci x18_10 (
 jnF 3 (fun z4_11 z3_11 z0_11 h11 =>
 oB (bAdd z4_11 (I 1)) fun x20_12 =>
 f9 x20_12 z3_11 z0_11 h11) fun j11 =>
 oB (oNil y0_9) fun x22_13 =>
 oB (oFA 0 x22_13) fun x23_14 =>
 oB (oLd h9 x23_14) fun x24_15 =>
 oB (oIx 1 x24_15 y4_9) fun x26_16 =>
 oB (oLd h9 x26_16) fun x27_17 =>
 jnF 3 (fun z4_18 z3_18 z0_18 h18 =>
 j11 z4_18 z3_18 z0_18 h18) fun j18 =>
 oB (bEq .no x27_17 (U 34)) fun x29_19 =>
 ci x29_19 (
 oB (bAdd y4_9 (I 1)) fun x31_20 =>
 some (x31_20, h9)) (
 oB (bEq .no x27_17 (U 92)) fun x33_21 =>
 jnF 3 (fun z4_22 z3_22 z0_22 h22 =>
 j18 z4_22 z3_22 z0_22 h22) fun j22 =>
 ci x33_21 (
 oB (bAdd y4_9 (I 1)) fun x35_23 =>
 j22 x35_23 y3_9 y0_9 h9) (
 j22 y4_9 y3_9 y0_9 h9))) (
 j8 y3_9 h9)) x15_7 x10_3 x0 h3
theorem o_scan_scanner_double : FnOK Tryz.prog n_scan_scanner_double (a1 f_scan_scanner_double) := ok1 mixed Tryz.func147 (by kernel_rfl)
/- (*corrector/scan.scanner).head -/
noncomputable def f_scan_scanner_head (n : Nat) (call : Caller)  (x0 : AV) (h : AH) : Ans :=
 oB' (nx 11 h) fun h0 =>
 oB (oNil x0) fun x7_1 =>
 oB (oFA 0 x7_1) fun x8_2 =>
 oB (oLd h0 x8_2) fun x9_3 =>
 oB (oNil x0) fun x11_4 =>
 oB (oFA 1 x11_4) fun x12_5 =>
 oB (oLd h0 x12_5) fun x13_6 =>
 oB (oIx 1 x9_3 x13_6) fun x14_7 =>
 oB (oLd h0 x14_7) fun x15_8 =>
 oB (oNil x0) fun x17_9 =>
 oB (oFA 3 x17_9) fun x18_10 =>
 oB (oLd h0 x18_10) fun x19_11 =>
 oB (bGt x19_11 (I 0)) fun x20_12 =>
 oB (gq x20_12 false (some x15_8)) fun x22_13 =>
 oB (gq x20_12 false (bNe .no x22_13 (U 124))) fun x23_14 =>
 oB (gq x20_12 false (some x23_14)) fun x24_15 =>
 oB (gq x24_15 true (some x15_8)) fun x25_16 =>
 oB (gq x24_15 true (bNe .no x25_16 (U 62))) fun x26_17 =>
 oB (gq x20_12 false (oPick x24_15 x26_17 (.bool false))) fun x27_18 =>
 oB (oPick x20_12 (.bool true) x27_18) fun x28_19 =>
 ci x28_19 (
 some ((I 0), h0)) (
 oB (oNil x0) fun x30_20 =>
 oB (oFA 1 x30_20) fun x31_21 =>
 oB (oLd h0 x31_21) fun x32_22 =>
 oB (bAdd x32_22 (I 1)) fun x33_23 =>
 oP (call n_scan_scanner_there [x0, x33_23, (U 43)] h0) fun x36_24 h24 =>
 oB (gq x36_24 false (some x0)) fun x38_25 =>
 oB (gq x36_24 false (some x33_23)) fun x39_26 =>
 oP (gw x36_24 false (call n_scan_scanner_there [x38_25, x39_26, (U 45)] h24) h24) fun x40_27 h27 =>
 oB (oPick x36_24 (.bool true) x40_27) fun x41_28 =>
 jnF 2 (fun z4_29 z0_29 h29 =>
 oP (call n_scan_scanner_blanks [z0_29, z4_29] h29) fun x46_30 h30 =>
 oP (call n_scan_scanner_line [z0_29, x46_30] h30) fun x50_31 h31 =>
 oB (bEq .no x46_30 x50_31) fun x51_32 =>
 oB (gq x51_32 false (some x46_30)) fun x53_33 =>
 oB (gq x51_32 false (some z4_29)) fun x54_34 =>
 oB (gq x51_32 false (bGt x53_33 x54_34)) fun x55_35 =>
 oB (gq x51_32 false (some x55_35)) fun x56_36 =>
 oB (gq x56_36 true (some z0_29)) fun x57_37 =>
 oB (gq x56_36 true (some x46_30)) fun x58_38 =>
 oP (gw x56_36 true (call n_scan_scanner_there [x57_37, x58_38, (U 35)] h31) h31) fun x59_39 h39 =>
 oB (gq x51_32 false (oPick x56_36 x59_39 (.bool false))) fun x60_40 =>
 oB (oPick x51_32 (.bool true) x60_40) fun x61_41 =>
 ci x61_41 (
 some (z4_29, h39)) (
 some ((I 0), h39))) fun j29 =>
 ci x41_28 (
 oB (bAdd x33_23 (I 1)) fun x43_42 =>
 j29 x43_42 x0 h27) (
 j29 x33_23 x0 h27))
theorem o_scan_scanner_head : FnOK Tryz.prog n_scan_scanner_head (a1 f_scan_scanner_head) := ok1 mixed Tryz.func148 (by kernel_rfl)
/- (*corrector/scan.scanner).texts -/
noncomputable def f_scan_scanner_texts (n : Nat) (call : Caller)  (x0 x1 : AV) (h : AH) : Ans :=
 scF n fun m0 => jnF 2 (lpF 2 m0 fun f0 y1_0 y0_0 h0 =>
 jnF 0 (fun h1 =>
 some (.tup [], h1)) fun j1 =>
 lpF 2 n (fun f2 y1_2 y0_2 h2 =>
 oB' (nx 19 h2) fun h3 =>
 oB (oNil y0_2) fun x55_4 =>
 oB (oFA 1 x55_4) fun x56_5 =>
 oB (oLd h3 x56_5) fun x57_6 =>
 oB (oNil y0_2) fun x59_7 =>
 oB (oFA 0 x59_7) fun x60_8 =>
 oB (oLd h3 x60_8) fun x61_9 =>
 oB (oLen x61_9) fun x62_10 =>
 oB (bLt x57_6 x62_10) fun x63_11 =>
 oB (gq x63_11 true (some y0_2)) fun x65_12 =>
 oB (gq x63_11 true (some y0_2)) fun x66_13 =>
 oB (gq x63_11 true (oNil x66_13)) fun x67_14 =>
 oB (gq x63_11 true (oFA 1 x67_14)) fun x68_15 =>
 oB (gq x63_11 true (oLd h3 x68_15)) fun x69_16 =>
 oP (gw x63_11 true (call n_scan_scanner_mark [x65_12, x69_16] h3) h3) fun x70_17 h17 =>
 oB (gq x63_11 true (bEq .no x70_17 (I 0))) fun x71_18 =>
 oB (oPick x63_11 x71_18 (.bool false)) fun x72_19 =>
 ci x72_19 (
 jnF 2 (fun z1_20 z0_20 h20 =>
 f2 z1_20 z0_20 h20) fun j20 =>
 oB (oNil y0_2) fun x75_21 =>
 oB (oFA 1 x75_21) fun x76_22 =>
 oB (oLd h17 x76_22) fun x77_23 =>
 oP (call n_scan_scanner_line [y0_2, x77_23] h17) fun x78_24 h24 =>
 oB' (nx 23 h24) fun h25 =>
 oB (oNil y0_2) fun x81_26 =>
 oB (oFA 1 x81_26) fun x82_27 =>
 oB (oLd h25 x82_27) fun x83_28 =>
 oP (call n_scan_scanner_blanks [y0_2, x83_28] h25) fun x84_29 h29 =>
 oB (bNe .no x84_29 x78_24) fun x86_30 =>
 gD x86_30 true fun w31 =>
 oB (cond w31 (some y0_2) (some .undef)) fun x88_32 =>
 gD x86_30 true fun w33 =>
 oB (cond w33 (some y0_2) (some .undef)) fun x89_34 =>
 gD x86_30 true fun w35 =>
 oB (cond w35 (oNil x89_34) (some .undef)) fun x90_36 =>
 gD x86_30 true fun w37 =>
 oB (cond w37 (oFA 1 x90_36) (some .undef)) fun x91_38 =>
 gD x86_30 true fun w39 =>
 oB (cond w39 (oLd h29 x91_38) (some .undef)) fun x92_40 =>
 gD x86_30 true fun w41 =>
 oP (cond w41 (call n_scan_scanner_spaces [x88_32, x92_40] h29) (some (.undef, h29))) fun x93_42 h42 =>
 gD x86_30 true fun w43 =>
 oB (cond w43 (some y0_2) (some .undef)) fun x94_44 =>
 gD x86_30 true fun w45 =>
 oB (cond w45 (oNil x94_44) (some .undef)) fun x95_46 =>
 gD x86_30 true fun w47 =>
 oB (cond w47 (oFA 1 x95_46) (some .undef)) fun x96_48 =>
 gD x86_30 true fun w49 =>
 oB (cond w49 (oLd h42 x96_48) (some .undef)) fun x97_50 =>
 gD x86_30 true fun w51 =>
 oB (cond w51 (bSub x93_42 x97_50) (some .undef)) fun x98_52 =>
 gD x86_30 true fun w53 =>
 oB (cond w53 (some y1_2) (some .undef)) fun x99_54 =>
 gD x86_30 true fun w55 =>
 oB (cond w55 (bLe x98_52 x99_54) (some .undef)) fun x100_56 =>
 oB (oPick x86_30 x100_56 (.bool false)) fun x101_57 =>
 ask1 true (oLd h25 x82_27) x83_28 (
 ask1 w39 (oLd h29 x91_38) x92_40 (
 ask1 w49 (oLd h29 x96_48) x97_50 (
 ask1 w49 (oLd h42 x96_48) x97_50 (
 ci x101_57 (
 j1 h42) (
 oP (call n_scan_scanner_brk [y0_2, x78_24] h42) fun x106_58 h58 =>
 oB (bAdd x78_24 x106_58) fun x107_59 =>
 oP (call n_scan_scanner_token [y0_2, (I 19), x107_59] h58) fun x108_60 h60 =>
 j20 y1_2 y0_2 h60)))))) (
 j1 h17)) y1_0 y0_0 h0) fun f0 =>
 oB (oNil x0) fun x10_61 =>
 oB (oFA 1 x10_61) fun x11_62 =>
 oB (oLd h x11_62) fun x12_63 =>
 oP (call n_scan_scanner_blanks [x0, x12_63] h) fun x13_64 h64 =>
 oB (oNil x0) fun x16_65 =>
 oB (oFA 1 x16_65) fun x17_66 =>
 oB (oLd h64 x17_66) fun x18_67 =>
 oB (bGt x13_64 x18_67) fun x19_68 =>
 jnF 2 (fun z1_69 z0_69 h69 =>
 oB (oNil z0_69) fun x25_70 =>
 oB (oFA 1 x25_70) fun x26_71 =>
 oB (oLd h69 x26_71) fun x27_72 =>
 oP (call n_scan_scanner_line [z0_69, x27_72] h69) fun x28_73 h73 =>
 oB (oNil z0_69) fun x31_74 =>
 oB (oFA 1 x31_74) fun x32_75 =>
 oB (oLd h73 x32_75) fun x33_76 =>
 oB (bGt x28_73 x33_76) fun x34_77 =>
 jnF 2 (fun z1_78 z0_78 h78 =>
 oB (oNil z0_78) fun x40_79 =>
 oB (oFA 1 x40_79) fun x41_80 =>
 oB (oLd h78 x41_80) fun x42_81 =>
 oP (call n_scan_scanner_brk [z0_78, x42_81] h78) fun x43_82 h82 =>
 oB (bEq .no x43_82 (I 0)) fun x45_83 =>
 ci x45_83 (
 some (.tup [], h82)) (
 oB (oNil z0_78) fun x48_84 =>
 oB (oFA 1 x48_84) fun x49_85 =>
 oB (oLd h82 x49_85) fun x50_86 =>
 oB (bAdd x50_86 x43_82) fun x52_87 =>
 oP (call n_scan_scanner_token [z0_78, (I 1), x52_87] h82) fun x53_88 h88 =>
 jnF 0 (fun h89 =>
 some (.tup [], h89)) fun j89 =>
 lpF 2 n (fun f90 y1_90 y0_90 h90 =>
 oB' (nx 19 h90) fun h91 =>
 oB (oNil y0_90) fun x55_92 =>
 oB (oFA 1 x55_92) fun x56_93 =>
 oB (oLd h91 x56_93) fun x57_94 =>
 oB (oNil y0_90) fun x59_95 =>
 oB (oFA 0 x59_95) fun x60_96 =>
 oB (oLd h91 x60_96) fun x61_97 =>
 oB (oLen x61_97) fun x62_98 =>
 oB (bLt x57_94 x62_98) fun x63_99 =>
 oB (gq x63_99 true (some y0_90)) fun x65_100 =>
 oB (gq x63_99 true (some y0_90)) fun x66_101 =>
 oB (gq x63_99 true (oNil x66_101)) fun x67_102 =>
 oB (gq x63_99 true (oFA 1 x67_102)) fun x68_103 =>
 oB (gq x63_99 true (oLd h91 x68_103)) fun x69_104 =>
 oP (gw x63_99 true (call n_scan_scanner_mark [x65_100, x69_104] h91) h91) fun x70_105 h105 =>
 oB (gq x63_99 true (bEq .no x70_105 (I 0))) fun x71_106 =>
 oB (oPick x63_99 x71_106 (.bool false)) fun x72_107 =>
 ci x72_107 (
 jnF 2 (fun z1_108 z0_108 h108 =>
 f90 z1_108 z0_108 h108) fun j108 =>
 oB (oNil y0_90) fun x75_109 =>
 oB (oFA 1 x75_109) fun x76_110 =>
 oB (oLd h105 x76_110) fun x77_111 =>
 oP (call n_scan_scanner_line [y0_90, x77_111] h105) fun x78_112 h112 =>
 oB' (nx 23 h112) fun h113 =>
 oB (oNil y0_90) fun x81_114 =>
 oB (oFA 1 x81_114) fun x82_115 =>
 oB (oLd h113 x82_115) fun x83_116 =>
 oP (call n_scan_scanner_blanks [y0_90, x83_116] h113) fun x84_117 h117 =>
 oB (bNe .no x84_117 x78_112) fun x86_118 =>
 gD x86_118 true fun w119 =>
 oB (cond w119 (some y0_90) (some .undef)) fun x88_120 =>
 gD x86_118 true fun w121 =>
 oB (cond w121 (some y0_90) (some .undef)) fun x89_122 =>
 gD x86_118 true fun w123 =>
 oB (cond w123 (oNil x89_122) (some .undef)) fun x90_124 =>
 gD x86_118 true fun w125 =>
 oB (cond w125 (oFA 1 x90_124) (some .undef)) fun x91_126 =>
 gD x86_118 true fun w127 =>
 oB (cond w127 (oLd h117 x91_126) (some .undef)) fun x92_128 =>
 gD x86_118 true fun w129 =>
 oP (cond w129 (call n_scan_scanner_spaces [x88_120, x92_128] h117) (some (.undef, h117))) fun x93_130 h130 =>
 gD x86_118 true fun w131 =>
 oB (cond w131 (some y0_90) (some .undef)) fun x94_132 =>
 gD x86_118 true fun w133 =>
 oB (cond w133 (oNil x94_132) (some .undef)) fun x95_134 =>
 gD x86_118 true fun w135 =>
 oB (cond w135 (oFA 1 x95_134) (some .undef)) fun x96_136 =>
 gD x86_118 true fun w137 =>
 oB (cond w137 (oLd h130 x96_136) (some .undef)) fun x97_138 =>
 gD x86_118 true fun w139 =>
 oB (cond w139 (bSub x93_130 x97_138) (some .undef)) fun x98_140 =>
 gD x86_118 true fun w141 =>
 oB (cond w141 (some y1_90) (some .undef)) fun x99_142 =>
 gD x86_118 true fun w143 =>
 oB (cond w143 (bLe x98_140 x99_142) (some .undef)) fun x100_144 =>
 oB (oPick x86_118 x100_144 (.bool false)) fun x101_145 =>
 ask1 true (oLd h113 x82_115) x83_116 (
 ask1 w127 (oLd h117 x91_126) x92_128 (
 ask1 w137 (oLd h117 x96_136) x97_138 (
 ask1 w137 (oLd h130 x96_136) x97_138 (
 ci x101_145 (
 j89 h130) (
 oP (call n_scan_scanner_brk [y0_90, x78_112] h130) fun x106_146 h146 =>
 oB (bAdd x78_112 x106_146) fun x107_147 =>
 oP (call n_scan_scanner_token [y0_90, (I 19), x107_147] h146) fun x108_148 h148 =>
 j108 y1_90 y0_90 h148)))))) (
 j89 h105)) z1_78 z0_78 h88)) fun j78 =>
 ci x34_77 (
 oP (call n_scan_scanner_token [z0_69, (I 4), x28_73] h73) fun x37_149 h149 =>
 j78 z1_69 z0_69 h149) (
 j78 z1_69 z0_69 h73)) fun j69 =>
 ci x19_68 (
 oP (call n_scan_scanner_token [x0, (I 3), x13_64] h64) fun x22_150 h150 =>
 j69 x1 x0 h150) (
 j69 x1 x0 h64)
theorem o_scan_scanner_texts : FnOK Tryz.prog n_scan_scanner_texts (a2 f_scan_scanner_texts) := ok2 mixed Tryz.func149 (by kernel_rfl)
/- (*corrector/scan.scanner).plain -/
noncomputable def f_scan_scanner_plain (n : Nat) (call : Caller)  (x0 : AV) (h : AH) : Ans :=
 scF n fun m0 => jnF 4 (lpF 4 m0 fun f0 y5_0 y4_0 y3_0 y0_0 h0 =>
 oB' (nx 12 h0) fun h1 =>
 oB (oNil y0_0) fun x26_2 =>
 oB (oFA 0 x26_2) fun x27_3 =>
 oB (oLd h1 x27_3) fun x28_4 =>
 oB (oNil y0_0) fun x30_5 =>
 oB (oFA 1 x30_5) fun x31_6 =>
 oB (oLd h1 x31_6) fun x32_7 =>
 oB (evQ (.sl 1 (.c x28_4) (some (.c x32_7)) (some (.c y3_0)) none) .e h1) fun x34_8 =>
 oB (evQ (.b2s (.c x34_8)) .e h1) fun x35_9 =>
 oP (evW (.rangeS (.c x35_9)) .e h1) fun x36_10 h10 =>
 jnF 1 (fun z4_11 h11 =>
 some (z4_11, h11)) fun j11 =>
 lpF 5 n (fun f12 y36_12 y5_12 y4_12 y3_12 y0_12 h12 =>
 oP (evW (.nextS (.c y36_12)) .e h12) fun x37_13 h13 =>
 oB (oEx 0 x37_13) fun x38_14 =>
 ci x38_14 (
 jnF 5 (fun z36_15 z5_15 z4_15 z3_15 z0_15 h15 =>
 f12 z36_15 z5_15 z4_15 z3_15 z0_15 h15) fun j15 =>
 oB (oEx 1 x37_13) fun x39_16 =>
 oB (oEx 2 x37_13) fun x40_17 =>
 oB (oNil y0_12) fun x42_18 =>
 oB (oFA 1 x42_18) fun x43_19 =>
 oB (oLd h13 x43_19) fun x44_20 =>
 oB (bAdd x44_20 x39_16) fun x46_21 =>
 oB (oNil y0_12) fun x49_22 =>
 oB (oFA 0 x49_22) fun x50_23 =>
 oB (oLd h13 x50_23) fun x51_24 =>
 oB (evQ (.sl 1 (.c x51_24) (some (.c x46_21)) (some (.c y3_12)) none) .e h13) fun x54_25 =>
 oP (call n_runes_Next [x54_25] h13) fun x55_26 h26 =>
 oB (oEx 0 x55_26) fun x56_27 =>
 oB (oEx 1 x55_26) fun x57_28 =>
 jnF 7 (fun z36_29 z10_29 z8_29 z6_29 z4_29 z3_29 z0_29 h29 =>
 oB (bEq .no z8_29 (R 32)) fun x97_30 =>
 oB (gq x97_30 false (some z8_29)) fun x99_31 =>
 oB (gq x97_30 false (bEq .no x99_31 (R 9))) fun x100_32 =>
 oB (oPick x97_30 (.bool true) x100_32) fun x101_33 =>
 oB (evQ (.un .not (.c x101_33)) .e h29) fun x103_34 =>
 jnF 5 (fun z36_35 z5_35 z4_35 z3_35 z0_35 h35 =>
 j15 z36_35 z5_35 z4_35 z3_35 z0_35 h35) fun j35 =>
 ci x103_34 (
 oB (bAdd z6_29 z10_29) fun x106_36 =>
 j35 z36_29 x101_33 x106_36 z3_29 z0_29 h29) (
 j35 z36_29 x101_33 z4_29 z3_29 z0_29 h29)) fun j29 =>
 oB (bGt x39_16 (I 0)) fun x60_37 =>
 oB (gq x60_37 true (some x56_27)) fun x62_38 =>
 oB (gq x60_37 true (bLt x62_38 (R 0))) fun x63_39 =>
 oB (gq x60_37 true (some x63_39)) fun x64_40 =>
 oB (gq x64_40 false (some y0_12)) fun x65_41 =>
 oB (gq x64_40 false (some x46_21)) fun x66_42 =>
 oP (gw x64_40 false (call n_scan_scanner_colon [x65_41, x66_42] h26) h26) fun x67_43 h43 =>
 oB (gq x60_37 true (oPick x64_40 (.bool true) x67_43)) fun x68_44 =>
 oB (gq x60_37 true (some x68_44)) fun x69_45 =>
 oB (gq x69_45 false (some x40_17)) fun x70_46 =>
 oB (gq x69_45 false (bEq .no x70_46 (R 35))) fun x71_47 =>
 oB (gq x69_45 false (some x71_47)) fun x72_48 =>
 oB (gq x72_48 true (some y5_12)) fun x73_49 =>
 oB (gq x69_45 false (oPick x72_48 x73_49 (.bool false))) fun x74_50 =>
 oB (gq x60_37 true (oPick x69_45 (.bool true) x74_50)) fun x75_51 =>
 oB (oPick x60_37 x75_51 (.bool false)) fun x76_52 =>
 ci x76_52 (
 j11 y4_12 h43) (
 oB (bGt x39_16 (I 0)) fun x79_53 =>
 oB (gq x79_53 true (some y0_12)) fun x81_54 =>
 oB (gq x79_53 true (oNil x81_54)) fun x82_55 =>
 oB (gq x79_53 true (oFA 3 x82_55)) fun x83_56 =>
 oB (gq x79_53 true (oLd h43 x83_56)) fun x84_57 =>
 oB (gq x79_53 true (bGt x84_57 (I 0))) fun x85_58 =>
 oB (oPick x79_53 x85_58 (.bool false)) fun x86_59 =>
 oB (gq x86_59 true (some x40_17)) fun x88_60 =>
 oB (gq x86_59 true (bLt x88_60 (R 128))) fun x89_61 =>
 oB (oPick x86_59 x89_61 (.bool false)) fun x90_62 =>
 oB (gq x90_62 true (some x40_17)) fun x92_63 =>
 oB (gq x90_62 true (oInt .u8 x92_63)) fun x93_64 =>
 oP (gw x90_62 true (call n_chars_Flow [x93_64] h43) h43) fun x94_65 h65 =>
 oB (oPick x90_62 x94_65 (.bool false)) fun x95_66 =>
 ci x95_66 (
 j11 y4_12 h65) (
 j29 y36_12 x57_28 x40_17 x46_21 y4_12 y3_12 y0_12 h65))) (
 j11 y4_12 h13)) x36_10 y5_0 y4_0 y3_0 y0_0 h10) fun f0 =>
 oB (oNil x0) fun x13_67 =>
 oB (oFA 1 x13_67) fun x14_68 =>
 oB (oLd h x14_68) fun x15_69 =>
 oP (call n_scan_scanner_line [x0, x15_69] h) fun x16_70 h70 =>
 oB (oNil x0) fun x18_71 =>
 oB (oFA 1 x18_71) fun x19_72 =>
 oB (oLd h70 x19_72) fun x20_73 =>
 oB (oNil x0) fun x22_74 =>
 oB (oFA 1 x22_74) fun x23_75 =>
 oB (oLd h70 x23_75) fun x24_76 =>
 oB' (nx 12 h70) fun h77 =>
 oB (oNil x0) fun x26_78 =>
 oB (oFA 0 x26_78) fun x27_79 =>
 oB (oLd h77 x27_79) fun x28_80 =>
 oB (oNil x0) fun x30_81 =>
 oB (oFA 1 x30_81) fun x31_82 =>
 oB (oLd h77 x31_82) fun x32_83 =>
 oB (evQ (.sl 1 (.c x28_80) (some (.c x32_83)) (some (.c x16_70)) none) .e h77) fun x34_84 =>
 oB (evQ (.b2s (.c x34_84)) .e h77) fun x35_85 =>
 oP (evW (.rangeS (.c x35_85)) .e h77) fun x36_86 h86 =>
 jnF 1 (fun z4_87 h87 =>
 some (z4_87, h87)) fun j87 =>
 lpF 5 n (fun f88 y36_88 y5_88 y4_88 y3_88 y0_88 h88 =>
 oP (evW (.nextS (.c y36_88)) .e h88) fun x37_89 h89 =>
 oB (oEx 0 x37_89) fun x38_90 =>
 ci x38_90 (
 jnF 5 (fun z36_91 z5_91 z4_91 z3_91 z0_91 h91 =>
 f88 z36_91 z5_91 z4_91 z3_91 z0_91 h91) fun j91 =>
 oB (oEx 1 x37_89) fun x39_92 =>
 oB (oEx 2 x37_89) fun x40_93 =>
 oB (oNil y0_88) fun x42_94 =>
 oB (oFA 1 x42_94) fun x43_95 =>
 oB (oLd h89 x43_95) fun x44_96 =>
 oB (bAdd x44_96 x39_92) fun x46_97 =>
 oB (oNil y0_88) fun x49_98 =>
 oB (oFA 0 x49_98) fun x50_99 =>
 oB (oLd h89 x50_99) fun x51_100 =>
 oB (evQ (.sl 1 (.c x51_100) (some (.c x46_97)) (some (.c y3_88)) none) .e h89) fun x54_101 =>
 oP (call n_runes_Next [x54_101] h89) fun x55_102 h102 =>
 oB (oEx 0 x55_102) fun x56_103 =>
 oB (oEx 1 x55_102) fun x57_104 =>
 jnF 7 (fun z36_105 z10_105 z8_105 z6_105 z4_105 z3_105 z0_105 h105 =>
 oB (bEq .no z8_105 (R 32)) fun x97_106 =>
 oB (gq x97_106 false (some z8_105)) fun x99_107 =>
 oB (gq x97_106 false (bEq .no x99_107 (R 9))) fun x100_108 =>
 oB (oPick x97_106 (.bool true) x100_108) fun x101_109 =>
 oB (evQ (.un .not (.c x101_109)) .e h105) fun x103_110 =>
 jnF 5 (fun z36_111 z5_111 z4_111 z3_111 z0_111 h111 =>
 j91 z36_111 z5_111 z4_111 z3_111 z0_111 h111) fun j111 =>
 ci x103_110 (
 oB (bAdd z6_105 z10_105) fun x106_112 =>
 j111 z36_105 x101_109 x106_112 z3_105 z0_105 h105) (
 j111 z36_105 x101_109 z4_105 z3_105 z0_105 h105)) fun j105 =>
 oB (bGt x39_92 (I 0)) fun x60_113 =>
 oB (gq x60_113 true (some x56_103)) fun x62_114 =>
 oB (gq x60_113 true (bLt x62_114 (R 0))) fun x63_115 =>
 oB (gq x60_113 true (some x63_115)) fun x64_116 =>
 oB (gq x64_116 false (some y0_88)) fun x65_117 =>
 oB (gq x64_116 false (some x46_97)) fun x66_118 =>
 oP (gw x64_116 false (call n_scan_scanner_colon [x65_117, x66_118] h102) h102) fun x67_119 h119 =>
 oB (gq x60_113 true (oPick x64_116 (.bool true) x67_119)) fun x68_120 =>
 oB (gq x60_113 true (some x68_120)) fun x69_121 =>
 oB (gq x69_121 false (some x40_93)) fun x70_122 =>
 oB (gq x69_121 false (bEq .no x70_122 (R 35))) fun x71_123 =>
 oB (gq x69_121 false (some x71_123)) fun x72_124 =>
 oB (gq x72_124 true (some y5_88)) fun x73_125 =>
 oB (gq x69_121 false (oPick x72_124 x73_125 (.bool false))) fun x74_126 =>
 oB (gq x60_113 true (oPick x69_121 (.bool true) x74_126)) fun x75_127 =>
 oB (oPick x60_113 x75_127 (.bool false)) fun x76_128 =>
 ci x76_128 (
 j87 y4_88 h119) (
 oB (bGt x39_92 (I 0)) fun x79_129 =>
 oB (gq x79_129 true (some y0_88)) fun x81_130 =>
 oB (gq x79_129 true (oNil x81_130)) fun x82_131 =>
 oB (gq x79_129 true (oFA 3 x82_131)) fun x83_132 =>
 oB (gq x79_129 true (oLd h119 x83_132)) fun x84_133 =>
 oB (gq x79_129 true (bGt x84_133 (I 0))) fun x85_134 =>
 oB (oPick x79_129 x85_134 (.bool false)) fun x86_135 =>
 oB (gq x86_135 true (some x40_93)) fun x88_136 =>
 oB (gq x86_135 true (bLt x88_136 (R 128))) fun x89_137 =>
 oB (oPick x86_135 x89_137 (.bool false)) fun x90_138 =>
 oB (gq x90_138 true (some x40_93)) fun x92_139 =>
 oB (gq x90_138 true (oInt .u8 x92_139)) fun x93_140 =>
 oP (gw x90_138 true (call n_chars_Flow [x93_140] h119) h119) fun x94_141 h141 =>
 oB (oPick x90_138 x94_141 (.bool false)) fun x95_142 =>
 ci x95_142 (
 j87 y4_88 h141) (
 j105 y36_88 x57_104 x40_93 x46_97 y4_88 y3_88 y0_88 h141))) (
 j87 y4_88 h89)) x36_86 (.bool false) x20_73 x16_70 x0 h86
theorem o_scan_scanner_plain : FnOK Tryz.prog n_scan_scanner_plain (a1 f_scan_scanner_plain) := ok1 mixed Tryz.func150 (by kernel_rfl)
/- corrector/parse.counts -/
noncomputable def f_parse_counts (n : Nat) (call : Caller)  (x0 : AV) (h : AH) : Ans :=
 oP (oNew h 131 (AV.cells x0)) fun x1_0 h0 =>
 oB (oFA 0 x1_0) fun x3_1 =>
 oB (oLd h0 x3_1) fun x4_2 =>
 jnF 0 (fun h3 =>
 some ((.bool true), h3)) fun j3 =>
 oB (bEq .no x4_2 (I 1)) fun x6_4 =>
 jnF 1 (fun z5_5 h5 =>
 ci z5_5 (
 some ((.bool false), h5)) (
 j3 h5)) fun j5 =>
 ci x6_4 (
 j5 x6_4 h0) (
 oB (bEq .no x4_2 (I 2)) fun x7_6 =>
 jnF 1 (fun z5_7 h7 =>
 j5 z5_7 h7) fun j7 =>
 ci x7_6 (
 j7 x7_6 h0) (
 oB (bEq .no x4_2 (I 3)) fun x8_8 =>
 jnF 1 (fun z5_9 h9 =>
 j7 z5_9 h9) fun j9 =>
 ci x8_8 (
 j9 x8_8 h0) (
 oB (bEq .no x4_2 (I 4)) fun x9_10 =>
 j9 x9_10 h0)))
theorem o_parse_counts : FnOK Tryz.prog n_parse_counts (a1 f_parse_counts) := ok1 mixed Tryz.func151 (by kernel_rfl)
/- (*corrector/parse.parser).wrong -/
noncomputable def f_parse_parser_wrong (n : Nat) (call : Caller)  (x0 x1 x2 x3 x4 : AV) (h : AH) : Ans :=
 oP (call n_parse_parser_first [x0, x3, x4] h) fun x13_0 h0 =>
 oP (call n_parse_parser_over [x0, x13_0, x4] h0) fun x17_1 h1 =>
 oB (bEq .no x13_0 x17_1) fun x20_2 =>
 ci x20_2 (
 some (.tup [], h1)) (
 oB' (nx 29 h1) fun h3 =>
 oB (oNil x0) fun x23_4 =>
 oB (oFA 5 x23_4) fun x24_5 =>
 oB (oLd h3 x24_5) fun x25_6 =>
 oB (oNil x0) fun x28_7 =>
 oB (oFA 1 x28_7) fun x29_8 =>
 oB (oLd h3 x29_8) fun x30_9 =>
 oB (oIx 3 x30_9 x13_0) fun x32_10 =>
 oB (oFA 1 x32_10) fun x33_11 =>
 oB (oLd h3 x33_11) fun x34_12 =>
 oB (oNil x0) fun x36_13 =>
 oB (oFA 1 x36_13) fun x37_14 =>
 oB (oLd h3 x37_14) fun x38_15 =>
 oB (bSub x17_1 (I 1)) fun x40_16 =>
 oB (oIx 3 x38_15 x40_16) fun x41_17 =>
 oB (oFA 2 x41_17) fun x42_18 =>
 oB (oLd h3 x42_18) fun x43_19 =>
 oB (oBuild [(I 0), (I 0), (I 0)] [(0, 1, x1), (1, 1, x34_12), (2, 1, x43_19)]) fun x44_20 =>
 fl1 true (evF (.buildSlice 67 3 1 [(I 0), (I 0), (I 0)] [(0, 3, (.c x44_20))]) .e) (Nat.add h1.next 24) fun x45_21 o21 =>
 oB' (lay1 (Nat.add h1.next 24) o21 h3) fun v22 =>
 oP (evW (.append 67 3 24 [(I 0), (I 0), (I 0)] (.c x25_6) (.c x45_21)) .e v22) fun x46_23 h23 =>
 oB (oNil x0) fun x47_24 =>
 oB (oFA 5 x47_24) fun x48_25 =>
 oP (oSt 1 h23 x48_25 x46_23) fun x0_26 h26 =>
 ask1 true (oLd h3 x24_5) x25_6 (
 ask1 true (oLd h3 x29_8) x30_9 (
 ask1 true (oLd h3 x33_11) x34_12 (
 ask1 true (oLd h3 x37_14) x38_15 (
 ask1 true (oLd h3 x42_18) x43_19 (
 oP (call n_parse_parser_add [x0, x2, (I 11), x13_0, x17_1] h26) fun x53_27 h27 =>
 some (.tup [], h27)))))))
theorem o_parse_parser_wrong : FnOK Tryz.prog n_parse_parser_wrong (a5 f_parse_parser_wrong) := ok5 mixed Tryz.func152 (by kernel_rfl)
/- (*corrector/parse.parser).add -/
noncomputable def f_parse_parser_add (n : Nat) (call : Caller)  (x0 x1 x2 x3 x4 : AV) (h : AH) : Ans :=
 oB (oNil x0) fun x15_0 =>
 oB (oFA 4 x15_0) fun x16_1 =>
 oB (oLdN 1 h x16_1) fun x17_2 =>
 oP (call n_arena_Add [x17_2, x1, x2, x3, x4] h) fun x22_3 h3 =>
 oB (oEx 0 x22_3) fun x23_4 =>
 oB (oEx 1 x22_3) fun x24_5 =>
 oP (oNew h3 59 [.nils]) fun x11_6 h6 =>
 oP (oSt 1 h6 x11_6 x23_4) fun _ h7 =>
 oB (oLdN 1 h7 x11_6) fun x26_8 =>
 oB (oNil x0) fun x27_9 =>
 oB (oFA 4 x27_9) fun x28_10 =>
 oP (oSt 1 h7 x28_10 x26_8) fun _ h11 =>
 some (x24_5, h11)
theorem o_parse_parser_add : FnOK Tryz.prog n_parse_parser_add (a5 f_parse_parser_add) := ok5 mixed Tryz.func153 (by kernel_rfl)
/- (*corrector/parse.parser).value -/
noncomputable def f_parse_parser_value (n : Nat) (call : Caller)  (x0 x1 x2 x3 : AV) (h : AH) : Ans :=
 oB' (nx 38 h) fun h0 =>
 oB (oNil x0) fun x16_1 =>
 oB (oFA 0 x16_1) fun x17_2 =>
 oB (oLd h0 x17_2) fun x18_3 =>
 oB (oNil x0) fun x20_4 =>
 oB (oFA 1 x20_4) fun x21_5 =>
 oB (oLd h0 x21_5) fun x22_6 =>
 oB (oNil x0) fun x24_7 =>
 oB (oFA 4 x24_7) fun x25_8 =>
 oB (oLdN 1 h0 x25_8) fun x26_9 =>
 oP (call n_parse_parser_end [x0, x3] h0) fun x31_10 h10 =>
 oB (oNil x0) fun x33_11 =>
 oB (oFA 3 x33_11) fun x34_12 =>
 oB (oLd h10 x34_12) fun x35_13 =>
 oB (oNil x0) fun x37_14 =>
 oB (oFA 8 x37_14) fun x38_15 =>
 oB (oLd h10 x38_15) fun x39_16 =>
 oB (oLen x39_16) fun x40_17 =>
 oB (bSub x35_13 x40_17) fun x41_18 =>
 oP (call n_flow_Value [x18_3, x22_6, x26_9, x2, x3, x31_10, x41_18] h10) fun x42_19 h19 =>
 oB (oEx 0 x42_19) fun x43_20 =>
 oB (oEx 1 x42_19) fun x44_21 =>
 oB (oEx 2 x42_19) fun x45_22 =>
 oB (oEx 3 x42_19) fun x46_23 =>
 fl1 true (evF (.new 59 [.nils]) .e) (Nat.add h.next 33) fun x10_24 o24 =>
 oB' (lay1 (Nat.add h.next 33) o24 h19) fun v25 =>
 oP (oSt 1 v25 x10_24 x43_20) fun x0_26 h26 =>
 ask1 true (oLd h0 x17_2) x18_3 (
 ask1 true (oLd h10 x17_2) x18_3 (
 ask1 true (oLd h0 x21_5) x22_6 (
 ask1 true (oLd h10 x21_5) x22_6 (
 ask1 true (oLdN 1 h0 x25_8) x26_9 (
 ask1 true (oLdN 1 h10 x25_8) x26_9 (
 ask1 true (oLd h0 x34_12) x35_13 (
 ask1 true (oLd h10 x34_12) x35_13 (
 ask1 true (oLd h0 x38_15) x39_16 (
 ask1 true (oLd h10 x38_15) x39_16 (
 oB (oLdN 1 h26 x10_24) fun x48_27 =>
 oB (oNil x0) fun x49_28 =>
 oB (oFA 4 x49_28) fun x50_29 =>
 oP (oSt 1 h26 x50_29 x48_27) fun _ h30 =>
 oB (oNil x0) fun x53_31 =>
 oB (oFA 5 x53_31) fun x54_32 =>
 oB (oLd h30 x54_32) fun x55_33 =>
 oP (evW (.append 67 3 24 [(I 0), (I 0), (I 0)] (.c x55_33) (.c x46_23)) .e h30) fun x57_34 h34 =>
 oB (oNil x0) fun x58_35 =>
 oB (oFA 5 x58_35) fun x59_36 =>
 oP (oSt 1 h34 x59_36 x57_34) fun _ h37 =>
 jnF 5 (fun z12_38 z11_38 z2_38 z1_38 z0_38 h38 =>
 oB (oNil z0_38) fun x80_39 =>
 oB (oFA 2 x80_39) fun x81_40 =>
 oB (oLd h38 x81_40) fun x82_41 =>
 oB (oIx 4 x82_41 z1_38) fun x84_42 =>
 oB (oFA 2 x84_42) fun x85_43 =>
 oB (oLd h38 x85_43) fun x86_44 =>
 oP (call n_parse_parser_wrong [z0_38, (I 8), z2_38, z12_38, x86_44] h38) fun x87_45 h45 =>
 oB (bGe z11_38 (I 0)) fun x89_46 =>
 oB (bAdd z1_38 (I 1)) fun x91_47 =>
 some (.tup [x89_46, x91_47], h45)) fun j38 =>
 lpF 5 n (fun f48 y12_48 y11_48 y2_48 y1_48 y0_48 h48 =>
 oB (bGe y11_48 (I 0)) fun x61_49 =>
 oB (gq x61_49 true (some y0_48)) fun x63_50 =>
 oB (gq x61_49 true (oNil x63_50)) fun x64_51 =>
 oB (gq x61_49 true (oFA 2 x64_51)) fun x65_52 =>
 oB (gq x61_49 true (oLd h48 x65_52)) fun x66_53 =>
 oB (gq x61_49 true (some y1_48)) fun x67_54 =>
 oB (gq x61_49 true (oIx 4 x66_53 x67_54)) fun x68_55 =>
 oB (gq x61_49 true (oFA 2 x68_55)) fun x69_56 =>
 oB (gq x61_49 true (oLd h48 x69_56)) fun x70_57 =>
 oB (gq x61_49 true (some y12_48)) fun x71_58 =>
 oB (gq x61_49 true (bLt x70_57 x71_58)) fun x72_59 =>
 oB (oPick x61_49 x72_59 (.bool false)) fun x73_60 =>
 ci x73_60 (
 jnF 5 (fun z12_61 z11_61 z2_61 z1_61 z0_61 h61 =>
 f48 z12_61 z11_61 z2_61 z1_61 z0_61 h61) fun j61 =>
 oB (bAdd y1_48 (I 1)) fun x75_62 =>
 j61 y12_48 y11_48 y2_48 x75_62 y0_48 h48) (
 j38 y12_48 y11_48 y2_48 y1_48 y0_48 h48)) x45_22 x44_21 x2 x1 x0 h37))))))))))
theorem o_parse_parser_value : FnOK Tryz.prog n_parse_parser_value (a4 f_parse_parser_value) := ok4 mixed Tryz.func154 (by kernel_rfl)
/- corrector/arena.Grow -/
noncomputable def f_arena_Grow (n : Nat) (call : Caller)  (x0 x1 x2 : AV) (h : AH) : Ans :=
 oP (oNew h 59 (AV.cells x0)) fun x3_0 h0 =>
 oP (oNew h0 59 [.nils]) fun x6_1 h1 =>
 oB (oLdN 1 h1 x3_0) fun x8_2 =>
 oP (call n_arena_own [x8_2] h1) fun x9_3 h3 =>
 oP (call n_arena_forest_has [x9_3, x1] h3) fun x12_4 h4 =>
 oB (gq x12_4 true (some x2)) fun x14_5 =>
 oB (gq x12_4 true (some x9_3)) fun x15_6 =>
 oB (gq x12_4 true (oNil x15_6)) fun x16_7 =>
 oB (gq x12_4 true (oFA 0 x16_7)) fun x17_8 =>
 oB (gq x12_4 true (oFA 0 x17_8)) fun x18_9 =>
 oB (gq x12_4 true (oLd h4 x18_9)) fun x19_10 =>
 oB (gq x12_4 true (oIx 6 x19_10 (I 0))) fun x20_11 =>
 oB (gq x12_4 true (oFA 2 x20_11)) fun x21_12 =>
 oB (gq x12_4 true (oLd h4 x21_12)) fun x22_13 =>
 oB (gq x12_4 true (bLe x14_5 x22_13)) fun x23_14 =>
 oB (oPick x12_4 x23_14 (.bool false)) fun x24_15 =>
 jnF 2 (fun z7_16 z6_16 h16 =>
 oB (oNil z7_16) fun x30_17 =>
 oB (oFA 0 x30_17) fun x31_18 =>
 oB (oLdN 1 h16 x31_18) fun x32_19 =>
 oP (oSt 1 h16 z6_16 x32_19) fun _ h20 =>
 retT [(6, some (some 1))] (sput 6 Tr.e z6_16) h20) fun j16 =>
 ci x24_15 (
 oP (call n_arena_forest_grow [x9_3, x1, x2] h4) fun x28_21 h21 =>
 j16 x9_3 x6_1 h21) (
 j16 x9_3 x6_1 h4)
theorem o_arena_Grow : FnOK Tryz.prog n_arena_Grow (a3 f_arena_Grow) := ok3 mixed Tryz.func155 (by kernel_rfl)
/- corrector/rows.Entries$1 -/
noncomputable def f_rows_Entries_1 (n : Nat) (call : Caller)  (x0 x1 x2 : AV) (h : AH) : Ans :=
 jnF 0 (fun h0 =>
 some (.tup [], h0)) fun j0 =>
 lpF 3 n (fun f1 y2_1 y1_1 y0_1 h1 =>
 oB (oLd h1 y0_1) fun x3_2 =>
 oB (oFA 2 y1_1) fun x4_3 =>
 oB (oLd h1 x4_3) fun x5_4 =>
 oB (bLt x3_2 x5_4) fun x6_5 =>
 oB (gq x6_5 true (oLd h1 y2_1)) fun x8_6 =>
 oB (gq x6_5 true (oLd h1 y0_1)) fun x9_7 =>
 oB (gq x6_5 true (oIx 3 x8_6 x9_7)) fun x10_8 =>
 oB (gq x6_5 true (oLdN 3 h1 x10_8)) fun x11_9 =>
 oP (gw x6_5 true (call n_rows_counts [x11_9] h1) h1) fun x12_10 h10 =>
 oB (gq x6_5 true (evQ (.un .not (.c x12_10)) .e h10)) fun x13_11 =>
 oB (oPick x6_5 x13_11 (.bool false)) fun x14_12 =>
 ci x14_12 (
 jnF 3 (fun z2_13 z1_13 z0_13 h13 =>
 f1 z2_13 z1_13 z0_13 h13) fun j13 =>
 oB (oLd h10 y0_1) fun x15_14 =>
 oB (bAdd x15_14 (I 1)) fun x16_15 =>
 oP (oSt 1 h10 y0_1 x16_15) fun _ h16 =>
 j13 y2_1 y1_1 y0_1 h16) (
 j0 h10)) x2 x1 x0 h
theorem o_rows_Entries_1 : FnOK Tryz.prog n_rows_Entries_1 (a3 f_rows_Entries_1) := ok3 mixed Tryz.func156 (by kernel_rfl)
/- corrector/rows.property -/
noncomputable def f_rows_property (n : Nat) (call : Caller)  (x0 : AV) (h : AH) : Ans :=
 oP (oNew h 131 (AV.cells x0)) fun x1_0 h0 =>
 oB (oFA 0 x1_0) fun x3_1 =>
 oB (oLd h0 x3_1) fun x4_2 =>
 oB (bEq .no x4_2 (I 12)) fun x5_3 =>
 oB (gq x5_3 false (oFA 0 x1_0)) fun x7_4 =>
 oB (gq x5_3 false (oLd h0 x7_4)) fun x8_5 =>
 oB (gq x5_3 false (bEq .no x8_5 (I 14))) fun x9_6 =>
 oB (oPick x5_3 (.bool true) x9_6) fun x10_7 =>
 some (x10_7, h0)
theorem o_rows_property : FnOK Tryz.prog n_rows_property (a1 f_rows_property) := ok1 mixed Tryz.func157 (by kernel_rfl)
/- corrector/rows.name -/
noncomputable def f_rows_name (n : Nat) (call : Caller)  (x0 : AV) (h : AH) : Ans :=
 oP (oNew h 131 (AV.cells x0)) fun x1_0 h0 =>
 oB (oFA 0 x1_0) fun x3_1 =>
 oB (oLd h0 x3_1) fun x4_2 =>
 jnF 0 (fun h3 =>
 some ((.bool false), h3)) fun j3 =>
 oB (bEq .no x4_2 (I 15)) fun x6_4 =>
 jnF 1 (fun z5_5 h5 =>
 ci z5_5 (
 some ((.bool true), h5)) (
 j3 h5)) fun j5 =>
 ci x6_4 (
 j5 x6_4 h0) (
 oB (bEq .no x4_2 (I 16)) fun x7_6 =>
 jnF 1 (fun z5_7 h7 =>
 j5 z5_7 h7) fun j7 =>
 ci x7_6 (
 j7 x7_6 h0) (
 oB (bEq .no x4_2 (I 17)) fun x8_8 =>
 jnF 1 (fun z5_9 h9 =>
 j7 z5_9 h9) fun j9 =>
 ci x8_8 (
 j9 x8_8 h0) (
 oB (bEq .no x4_2 (I 13)) fun x9_10 =>
 j9 x9_10 h0)))
theorem o_rows_name : FnOK Tryz.prog n_rows_name (a1 f_rows_name) := ok1 mixed Tryz.func158 (by kernel_rfl)
/- slices.Clone[[]corrector/rows.Entry,corrector/rows.Entry] -/
noncomputable def f_slices_Clone_rows_Entry_rows_Entry (n : Nat) (call : Caller)  (x0 : AV) (h : AH) : Ans :=
 oB (bEq .sl x0 .nils) fun x4_0 =>
 ci x4_0 (
 some (.nils, h)) (
 oP (oBuildSl h 201 4 0 [] []) fun x5_1 h1 =>
 oP (evW (.append 201 4 32 [(.bool false), (I 0), (I 0), (I 0)] (.c x5_1) (.c x0)) .e h1) fun x7_2 h2 =>
 some (x7_2, h2))
theorem o_slices_Clone_rows_Entry_rows_Entry : FnOK Tryz.prog n_slices_Clone_rows_Entry_rows_Entry (a1 f_slices_Clone_rows_Entry_rows_Entry) := ok1 mixed Tryz.func159 (by kernel_rfl)
/- (*corrector/parse.parser).place -/
noncomputable def f_parse_parser_place (n : Nat) (call : Caller)  (x0 x1 : AV) (h : AH) : Ans :=
 oP (oNew h 201 (AV.cells x1)) fun x3_0 h0 =>
 oB (oFA 0 x3_0) fun x7_1 =>
 oB (oLd h0 x7_1) fun x8_2 =>
 jnF 3 (fun z5_3 z3_3 z0_3 h3 =>
 oB (oNil z0_3) fun x10_4 =>
 oB (oFA 8 x10_4) fun x11_5 =>
 oB (oLd h3 x11_5) fun x12_6 =>
 oB (oLen x12_6) fun x13_7 =>
 oB (bSub x13_7 (I 1)) fun x14_8 =>
 jnF 4 (fun z6_9 z5_9 z3_9 z0_9 h9 =>
 jnF 2 (fun z3_10 z0_10 h10 =>
 oB (oLdN 4 h10 z3_10) fun x172_11 =>
 oP (call n_parse_parser_cur [z0_10, x172_11] h10) fun x173_12 h12 =>
 some ((I 0), h12)) fun j10 =>
 oB (bLt z6_9 (I 0)) fun x34_13 =>
 oB (gq x34_13 true (some z0_9)) fun x36_14 =>
 oB (gq x34_13 true (oNil x36_14)) fun x37_15 =>
 oB (gq x34_13 true (oFA 7 x37_15)) fun x38_16 =>
 oB (gq x34_13 true (oLd h9 x38_16)) fun x39_17 =>
 oB (oPick x34_13 x39_17 (.bool false)) fun x40_18 =>
 ci x40_18 (
 some ((I 7), h9)) (
 oB (bLt z6_9 (I 0)) fun x43_19 =>
 ci x43_19 (
 oB (oLdN 4 h9 z3_9) fun x47_20 =>
 oP (call n_parse_parser_nest [z0_9, z6_9, z5_9, x47_20] h9) fun x48_21 h21 =>
 some (x48_21, h21)) (
 oB' (nx 22 h9) fun h22 =>
 oB (oNil z0_9) fun x51_23 =>
 oB (oFA 8 x51_23) fun x52_24 =>
 oB (oLd h22 x52_24) fun x53_25 =>
 oB (oIx 5 x53_25 z6_9) fun x55_26 =>
 oB (oFA 2 x55_26) fun x56_27 =>
 oB (oLd h22 x56_27) fun x57_28 =>
 oB (oFA 1 z3_9) fun x58_29 =>
 oB (oLd h22 x58_29) fun x59_30 =>
 oB (bLt x57_28 x59_30) fun x60_31 =>
 oB (gq x60_31 true (some z0_9)) fun x62_32 =>
 oB (gq x60_31 true (oNil x62_32)) fun x63_33 =>
 oB (gq x60_31 true (oFA 8 x63_33)) fun x64_34 =>
 oB (gq x60_31 true (oLd h22 x64_34)) fun x65_35 =>
 oB (gq x60_31 true (some z6_9)) fun x66_36 =>
 oB (gq x60_31 true (oIx 5 x65_35 x66_36)) fun x67_37 =>
 oB (gq x60_31 true (oFA 4 x67_37)) fun x68_38 =>
 oB (gq x60_31 true (oLd h22 x68_38)) fun x69_39 =>
 oB (oPick x60_31 x69_39 (.bool false)) fun x70_40 =>
 ci x70_40 (
 some ((I 6), h22)) (
 oB' (nx 12 h22) fun h41 =>
 oB (oNil z0_9) fun x73_42 =>
 oB (oFA 8 x73_42) fun x74_43 =>
 oB (oLd h41 x74_43) fun x75_44 =>
 oB (oIx 5 x75_44 z6_9) fun x77_45 =>
 oB (oFA 2 x77_45) fun x78_46 =>
 oB (oLd h41 x78_46) fun x79_47 =>
 oB (oFA 1 z3_9) fun x80_48 =>
 oB (oLd h41 x80_48) fun x81_49 =>
 oB (bLt x79_47 x81_49) fun x82_50 =>
 ci x82_50 (
 oB (oLdN 4 h41 z3_9) fun x86_51 =>
 oP (call n_parse_parser_nest [z0_9, z6_9, z5_9, x86_51] h41) fun x87_52 h52 =>
 some (x87_52, h52)) (
 oB (oNil z0_9) fun x90_53 =>
 oB (oFA 8 x90_53) fun x91_54 =>
 oB (oLd h41 x91_54) fun x92_55 =>
 oB (oIx 5 x92_55 z6_9) fun x94_56 =>
 oB (oFA 1 x94_56) fun x95_57 =>
 oB (oLd h41 x95_57) fun x96_58 =>
 oB (bEq .no x96_58 z5_9) fun x98_59 =>
 jnF 2 (fun z3_60 z0_60 h60 =>
 j10 z3_60 z0_60 h60) fun j60 =>
 ci x98_59 (
 oB (oNil z0_9) fun x101_61 =>
 oB (oFA 8 x101_61) fun x102_62 =>
 oB (oLd h41 x102_62) fun x103_63 =>
 oB (bAdd z6_9 (I 1)) fun x105_64 =>
 oB (evQ (.sl 5 (.c x103_63) none (some (.c x105_64)) none) .e h41) fun x106_65 =>
 oB (oNil z0_9) fun x107_66 =>
 oB (oFA 8 x107_66) fun x108_67 =>
 oP (oSt 1 h41 x108_67 x106_65) fun _ h68 =>
 j60 z3_9 z0_9 h68) (
 oB (oFA 0 z3_9) fun x110_69 =>
 oB (oLd h41 x110_69) fun x111_70 =>
 oB (gq x111_70 true (some z0_9)) fun x113_71 =>
 oB (gq x111_70 true (oNil x113_71)) fun x114_72 =>
 oB (gq x111_70 true (oFA 8 x114_72)) fun x115_73 =>
 oB (gq x111_70 true (oLd h41 x115_73)) fun x116_74 =>
 oB (gq x111_70 true (some z6_9)) fun x117_75 =>
 oB (gq x111_70 true (oIx 5 x116_74 x117_75)) fun x118_76 =>
 oB (gq x111_70 true (oFA 4 x118_76)) fun x119_77 =>
 oB (gq x111_70 true (oLd h41 x119_77)) fun x120_78 =>
 oB (gq x111_70 true (evQ (.un .not (.c x120_78)) .e h41)) fun x121_79 =>
 oB (oPick x111_70 x121_79 (.bool false)) fun x122_80 =>
 ci x122_80 (
 oB (oLdN 4 h41 z3_9) fun x126_81 =>
 oP (call n_parse_parser_nest [z0_9, z6_9, z5_9, x126_81] h41) fun x127_82 h82 =>
 some (x127_82, h82)) (
 oB' (nx 34 h41) fun h83 =>
 oB (oFA 0 z3_9) fun x129_84 =>
 oB (oLd h83 x129_84) fun x130_85 =>
 oB (evQ (.un .not (.c x130_85)) .e h83) fun x131_86 =>
 oB (gq x131_86 true (some z6_9)) fun x133_87 =>
 oB (gq x131_86 true (bGt x133_87 (I 0))) fun x134_88 =>
 oB (oPick x131_86 x134_88 (.bool false)) fun x135_89 =>
 oB (gq x135_89 true (some z0_9)) fun x137_90 =>
 oB (gq x135_89 true (oNil x137_90)) fun x138_91 =>
 oB (gq x135_89 true (oFA 8 x138_91)) fun x139_92 =>
 oB (gq x135_89 true (oLd h83 x139_92)) fun x140_93 =>
 oB (gq x135_89 true (some z6_9)) fun x141_94 =>
 oB (gq x135_89 true (bSub x141_94 (I 1))) fun x142_95 =>
 oB (gq x135_89 true (oIx 5 x140_93 x142_95)) fun x143_96 =>
 oB (gq x135_89 true (oFA 1 x143_96)) fun x144_97 =>
 oB (gq x135_89 true (oLd h83 x144_97)) fun x145_98 =>
 oB (gq x135_89 true (bEq .no x145_98 (I 5))) fun x146_99 =>
 oB (oPick x135_89 x146_99 (.bool false)) fun x147_100 =>
 oB (gq x147_100 true (some z0_9)) fun x149_101 =>
 oB (gq x147_100 true (oNil x149_101)) fun x150_102 =>
 oB (gq x147_100 true (oFA 8 x150_102)) fun x151_103 =>
 oB (gq x147_100 true (oLd h83 x151_103)) fun x152_104 =>
 oB (gq x147_100 true (some z6_9)) fun x153_105 =>
 oB (gq x147_100 true (bSub x153_105 (I 1))) fun x154_106 =>
 oB (gq x147_100 true (oIx 5 x152_104 x154_106)) fun x155_107 =>
 oB (gq x147_100 true (oFA 2 x155_107)) fun x156_108 =>
 oB (gq x147_100 true (oLd h83 x156_108)) fun x157_109 =>
 oB (gq x147_100 true (oFA 1 z3_9)) fun x158_110 =>
 oB (gq x147_100 true (oLd h83 x158_110)) fun x159_111 =>
 oB (gq x147_100 true (bEq .no x157_109 x159_111)) fun x160_112 =>
 oB (oPick x147_100 x160_112 (.bool false)) fun x161_113 =>
 ci x161_113 (
 oB (oNil z0_9) fun x164_114 =>
 oB (oFA 8 x164_114) fun x165_115 =>
 oB (oLd h83 x165_115) fun x166_116 =>
 oB (evQ (.sl 5 (.c x166_116) none (some (.c z6_9)) none) .e h83) fun x168_117 =>
 oB (oNil z0_9) fun x169_118 =>
 oB (oFA 8 x169_118) fun x170_119 =>
 oP (oSt 1 h83 x170_119 x168_117) fun _ h120 =>
 j60 z3_9 z0_9 h120) (
 some ((I 5), h83))))))))) fun j9 =>
 lpF 4 n (fun f121 y6_121 y5_121 y3_121 y0_121 h121 =>
 oB' (nx 15 h121) fun h122 =>
 oB (bGe y6_121 (I 0)) fun x16_123 =>
 oB (gq x16_123 true (some y0_121)) fun x18_124 =>
 oB (gq x16_123 true (oNil x18_124)) fun x19_125 =>
 oB (gq x16_123 true (oFA 8 x19_125)) fun x20_126 =>
 oB (gq x16_123 true (oLd h122 x20_126)) fun x21_127 =>
 oB (gq x16_123 true (some y6_121)) fun x22_128 =>
 oB (gq x16_123 true (oIx 5 x21_127 x22_128)) fun x23_129 =>
 oB (gq x16_123 true (oFA 2 x23_129)) fun x24_130 =>
 oB (gq x16_123 true (oLd h122 x24_130)) fun x25_131 =>
 oB (gq x16_123 true (oFA 1 y3_121)) fun x26_132 =>
 oB (gq x16_123 true (oLd h122 x26_132)) fun x27_133 =>
 oB (gq x16_123 true (bGt x25_131 x27_133)) fun x28_134 =>
 oB (oPick x16_123 x28_134 (.bool false)) fun x29_135 =>
 ci x29_135 (
 jnF 4 (fun z6_136 z5_136 z3_136 z0_136 h136 =>
 f121 z6_136 z5_136 z3_136 z0_136 h136) fun j136 =>
 oB (bSub y6_121 (I 1)) fun x31_137 =>
 j136 x31_137 y5_121 y3_121 y0_121 h122) (
 j9 y6_121 y5_121 y3_121 y0_121 h122)) x14_8 z5_3 z3_3 z0_3 h3) fun j3 =>
 ci x8_2 (
 j3 (I 3) x3_0 x0 h0) (
 j3 (I 5) x3_0 x0 h0)
theorem o_parse_parser_place : FnOK Tryz.prog n_parse_parser_place (a2 f_parse_parser_place) := ok2 mixed Tryz.func160 (by kernel_rfl)
/- slices.Contains[[]byte,byte] -/
noncomputable def f_slices_Contains_byte_byte (n : Nat) (call : Caller)  (x0 x1 : AV) (h : AH) : Ans :=
 oP (call n_slices_Index_byte_byte [x0, x1] h) fun x7_0 h0 =>
 oB (bGe x7_0 (I 0)) fun x8_1 =>
 some (x8_1, h0)
theorem o_slices_Contains_byte_byte : FnOK Tryz.prog n_slices_Contains_byte_byte (a2 f_slices_Contains_byte_byte) := ok2 mixed Tryz.func161 (by kernel_rfl)
/- corrector/quote.Text -/
noncomputable def f_quote_Text (n : Nat) (call : Caller)  (x0 x1 : AV) (h : AH) : Ans :=
 oP (call n_quote_of [x0, x1] h) fun x12_0 h0 =>
 oB (evQ (.tassertI .nili true [290, 291, 292] [0, 1, 2, 3, 4, 5, 6, 7, 8, 9, 10, 11, 12, 13, 14, 15, 16, 17, 18, 19, 20, 21, 22, 23, 24, 25, 26, 27, 28, 29, 30, 31, 32, 33, 34, 35, 36, 37, 38, 39, 40, 41, 42, 43, 44, 45, 46, 47, 48, 49, 50, 51, 52, 53, 54, 55, 56, 57, 58, 59, 60, 61, 62, 63, 64, 65, 66, 67, 68, 69, 70, 71, 72, 73, 74, 75, 76, 77, 78, 79, 80, 81, 82, 83, 84, 85, 86, 87, 88, 89, 90, 91, 92, 93, 94, 95, 96, 97, 98, 99, 100, 101, 102, 103, 104, 105, 106, 107, 108, 109, 110, 111, 112, 113, 114, 115, 116, 117, 118, 119, 120, 121, 122, 123, 124, 125, 126, 127, 128, 129, 130, 131, 132, 133, 134, 135, 136, 137, 138, 139, 140, 141, 142, 143, 144, 145, 146, 147, 148, 149, 150, 151, 152, 153, 154, 155, 156, 157, 158, 159, 160, 161, 162, 163, 164, 165, 166, 167, 168, 169, 170, 171, 172, 173, 174, 175, 176, 177, 178, 179, 180, 181, 182, 183, 184, 185, 186, 187, 188, 189, 190, 191, 192, 193, 194, 195, 196, 197, 198, 199, 200, 201, 202, 203, 204, 205, 206, 207, 208, 209, 210, 211, 212, 213, 214, 215, 216, 217, 218, 219, 220, 221, 222, 223, 224, 225, 226, 227, 228, 229, 230, 231, 232, 233, 234, 235, 236, 237, 238, 239, 240, 241, 242, 243, 244, 245, 246, 247, 248, 249, 250, 251, 252, 253, 254, 255, 256, 257, 258, 259, 260, 261, 262, 263, 264, 265, 266, 267, 268, 269, 270, 271, 272, 273, 274, 275, 276, 277, 278, 279, 280, 281, 282, 283, 284, 285, 286, 287, 288, 289, 293, 294, 295, 296, 297, 298, 299, 300, 301, 302, 303, 304, 305, 306, 307, 308, 309, 310, 311, 312, 313, 314, 315, 316, 317, 318, 319, 320, 321, 322, 323, 324, 325, 326, 327, 328, 329, 330, 331, 332, 333, 334, 335, 336, 337, 338, 339, 340, 341, 342, 343, 344, 345, 346, 347, 348, 349, 350, 351, 352, 353, 354, 355, 356, 357, 358, 359, 360, 361, 362, 363, 364, 365, 366, 367, 368] (.c x12_0)) .e h0) fun x13_1 =>
 oB (oEx 0 x13_1) fun x14_2 =>
 oB (oEx 1 x13_1) fun x15_3 =>
 oB (evQ (.un .not (.c x15_3)) .e h0) fun x17_4 =>
 oB (gq x17_4 false (some x1)) fun x19_5 =>
 oB (gq x17_4 false (bEq .no x19_5 (.str []))) fun x20_6 =>
 oB (oPick x17_4 (.bool true) x20_6) fun x21_7 =>
 ci x21_7 (
 some (.tup [(.str []), .nils, (.bool false)], h0)) (
 oP (wOf (.invoke [(290, 348), (291, 349), (292, 351)] (.c x14_2) []) call .e h0) fun x24_8 h8 =>
 oB (oEx 0 x24_8) fun x25_9 =>
 oB (oEx 1 x24_8) fun x26_10 =>
 oB (oEx 2 x24_8) fun x27_11 =>
 oP (evW (.append 3 1 8 [(I 0)] (.c .nils) (.c x26_10)) .e h8) fun x30_12 h12 =>
 some (.tup [x25_9, x30_12, x27_11], h12))
theorem o_quote_Text : FnOK Tryz.prog n_quote_Text (a2 f_quote_Text) := ok2 mixed Tryz.func162 (by kernel_rfl)
/- cmp.isNaN[int] -/
noncomputable def f_cmp_isNaN_int (n : Nat) (call : Caller)  (x0 : AV) (h : AH) : Ans :=
 oB (bNe .no x0 x0) fun x5_0 =>
 some (x5_0, h)
theorem o_cmp_isNaN_int : FnOK Tryz.prog n_cmp_isNaN_int (a1 f_cmp_isNaN_int) := ok1 mixed Tryz.func163 (by kernel_rfl)
/- corrector/arena.own -/
noncomputable def f_arena_own (n : Nat) (call : Caller)  (x0 : AV) (h : AH) : Ans :=
 oP (oNew h 59 (AV.cells x0)) fun x1_0 h0 =>
 oB (oFA 0 x1_0) fun x6_1 =>
 oB (oLd h0 x6_1) fun x7_2 =>
 oP (call n_slices_Clone_api_Node_api_Node [x7_2] h0) fun x8_3 h3 =>
 oB (oBuild [.nils] [(0, 1, x8_3)]) fun x9_4 =>
 oB (oBuild [.nils] [(0, 1, x9_4)]) fun x10_5 =>
 oP (oNew h3 212 (AV.cells x10_5)) fun x11_6 h6 =>
 oB (oNil x11_6) fun x13_7 =>
 oB (oFA 0 x13_7) fun x14_8 =>
 oB (oFA 0 x14_8) fun x15_9 =>
 oB (oLd h6 x15_9) fun x16_10 =>
 oB (oLen x16_10) fun x17_11 =>
 jnF 1 (fun z3_12 h12 =>
 some (z3_12, h12)) fun j12 =>
 lpF 4 n (fun f13 y18_13 y17_13 y16_13 y3_13 h13 =>
 oB (bLt y18_13 y17_13) fun x19_14 =>
 ci x19_14 (
 jnF 4 (fun z18_15 z17_15 z16_15 z3_15 h15 =>
 oB (bAdd z18_15 (I 1)) fun x34_16 =>
 f13 x34_16 z17_15 z16_15 z3_15 h15) fun j15 =>
 oB (oIx 6 y16_13 y18_13) fun x21_17 =>
 oB (oLdN 6 h13 x21_17) fun x22_18 =>
 oP (oNew h13 98 [(I 0), (I 0), (I 0), (I 0), .nils, (.bool false)]) fun x5_19 h19 =>
 oP (oSt 6 h19 x5_19 x22_18) fun _ h20 =>
 oB' (nx 12 h20) fun h21 =>
 oB (oNil y3_13) fun x24_22 =>
 oB (oFA 0 x24_22) fun x25_23 =>
 oB (oFA 0 x25_23) fun x26_24 =>
 oB (oLd h21 x26_24) fun x27_25 =>
 oB (oFA 4 x5_19) fun x29_26 =>
 oB (oLd h21 x29_26) fun x30_27 =>
 oP (call n_slices_Clone_int_int [x30_27] h21) fun x31_28 h28 =>
 oB (oIx 6 x27_25 y18_13) fun x32_29 =>
 oB (oFA 4 x32_29) fun x33_30 =>
 oP (oSt 1 h28 x33_30 x31_28) fun x0_31 h31 =>
 ask1 true (oLd h21 x26_24) x27_25 (
 ask1 true (oLd h28 x26_24) x27_25 (
 ask1 true (oLd h21 x29_26) x30_27 (
 j15 y18_13 y17_13 y16_13 y3_13 h31)))) (
 j12 y3_13 h13)) (I 0) x17_11 x16_10 x11_6 h6
theorem o_arena_own : FnOK Tryz.prog n_arena_own (a1 f_arena_own) := ok1 mixed Tryz.func164 (by kernel_rfl)
/- (*corrector/arena.forest).lies -/
noncomputable def f_arena_forest_lies (n : Nat) (call : Caller)  (x0 x1 : AV) (h : AH) : Ans :=
 oB (oNil x0) fun x10_0 =>
 oB (oFA 0 x10_0) fun x11_1 =>
 oB (oFA 0 x11_1) fun x12_2 =>
 oB (oLd h x12_2) fun x13_3 =>
 oB (oIx 6 x13_3 x1) fun x15_4 =>
 oB (oLdN 6 h x15_4) fun x16_5 =>
 oP (oNew h 98 [(I 0), (I 0), (I 0), (I 0), .nils, (.bool false)]) fun x5_6 h6 =>
 oP (oSt 6 h6 x5_6 x16_5) fun _ h7 =>
 oB (oFA 1 x5_6) fun x17_8 =>
 oB (oLd h7 x17_8) fun x18_9 =>
 oB (oFA 4 x5_6) fun x19_10 =>
 oB (oLd h7 x19_10) fun x20_11 =>
 oB (oLen x20_11) fun x21_12 =>
 jnF 1 (fun z5_13 h13 =>
 oB (oFA 1 z5_13) fun x85_14 =>
 oB (oLd h13 x85_14) fun x86_15 =>
 oB (oFA 2 z5_13) fun x87_16 =>
 oB (oLd h13 x87_16) fun x88_17 =>
 oB (bLe x86_15 x88_17) fun x89_18 =>
 some (x89_18, h13)) fun j13 =>
 lpF 7 n (fun f19 y22_19 y21_19 y20_19 y6_19 y5_19 y1_19 y0_19 h19 =>
 oB (bLt y22_19 y21_19) fun x23_20 =>
 ci x23_20 (
 jnF 7 (fun z22_21 z21_21 z20_21 z6_21 z5_21 z1_21 z0_21 h21 =>
 oB (bAdd z22_21 (I 1)) fun x84_22 =>
 f19 x84_22 z21_21 z20_21 z6_21 z5_21 z1_21 z0_21 h21) fun j21 =>
 oB (oIx 1 y20_19 y22_19) fun x24_23 =>
 oB (oLd h19 x24_23) fun x25_24 =>
 oB' (nx 49 h19) fun h25 =>
 oB (bLe x25_24 y1_19) fun x28_26 =>
 oB (gq x28_26 false (some y0_19)) fun x30_27 =>
 oB (gq x28_26 false (some x25_24)) fun x31_28 =>
 oP (gw x28_26 false (call n_arena_forest_has [x30_27, x31_28] h25) h25) fun x32_29 h29 =>
 oB (gq x28_26 false (evQ (.un .not (.c x32_29)) .e h29)) fun x33_30 =>
 oB (oPick x28_26 (.bool true) x33_30) fun x34_31 =>
 oB (gq x34_31 false (some y0_19)) fun x36_32 =>
 oB (gq x34_31 false (oNil x36_32)) fun x37_33 =>
 oB (gq x34_31 false (oFA 0 x37_33)) fun x38_34 =>
 oB (gq x34_31 false (oFA 0 x38_34)) fun x39_35 =>
 oB (gq x34_31 false (oLd h29 x39_35)) fun x40_36 =>
 oB (gq x34_31 false (some x25_24)) fun x41_37 =>
 oB (gq x34_31 false (oIx 6 x40_36 x41_37)) fun x42_38 =>
 oB (gq x34_31 false (oFA 3 x42_38)) fun x43_39 =>
 oB (gq x34_31 false (oLd h29 x43_39)) fun x44_40 =>
 oB (gq x34_31 false (some y1_19)) fun x45_41 =>
 oB (gq x34_31 false (bNe .no x44_40 x45_41)) fun x46_42 =>
 oB (oPick x34_31 (.bool true) x46_42) fun x47_43 =>
 oB (gq x47_43 false (some y0_19)) fun x49_44 =>
 oB (gq x47_43 false (oNil x49_44)) fun x50_45 =>
 oB (gq x47_43 false (oFA 0 x50_45)) fun x51_46 =>
 oB (gq x47_43 false (oFA 0 x51_46)) fun x52_47 =>
 oB (gq x47_43 false (oLd h29 x52_47)) fun x53_48 =>
 oB (gq x47_43 false (some x25_24)) fun x54_49 =>
 oB (gq x47_43 false (oIx 6 x53_48 x54_49)) fun x55_50 =>
 oB (gq x47_43 false (oFA 1 x55_50)) fun x56_51 =>
 oB (gq x47_43 false (oLd h29 x56_51)) fun x57_52 =>
 oB (gq x47_43 false (some y6_19)) fun x58_53 =>
 oB (gq x47_43 false (bLt x57_52 x58_53)) fun x59_54 =>
 oB (oPick x47_43 (.bool true) x59_54) fun x60_55 =>
 oB (gq x60_55 false (some y0_19)) fun x62_56 =>
 oB (gq x60_55 false (oNil x62_56)) fun x63_57 =>
 oB (gq x60_55 false (oFA 0 x63_57)) fun x64_58 =>
 oB (gq x60_55 false (oFA 0 x64_58)) fun x65_59 =>
 oB (gq x60_55 false (oLd h29 x65_59)) fun x66_60 =>
 oB (gq x60_55 false (some x25_24)) fun x67_61 =>
 oB (gq x60_55 false (oIx 6 x66_60 x67_61)) fun x68_62 =>
 oB (gq x60_55 false (oFA 2 x68_62)) fun x69_63 =>
 oB (gq x60_55 false (oLd h29 x69_63)) fun x70_64 =>
 oB (gq x60_55 false (oFA 2 y5_19)) fun x71_65 =>
 oB (gq x60_55 false (oLd h29 x71_65)) fun x72_66 =>
 oB (gq x60_55 false (bGt x70_64 x72_66)) fun x73_67 =>
 oB (oPick x60_55 (.bool true) x73_67) fun x74_68 =>
 ci x74_68 (
 some ((.bool false), h29)) (
 oB (oNil y0_19) fun x76_69 =>
 oB (oFA 0 x76_69) fun x77_70 =>
 oB (oFA 0 x77_70) fun x78_71 =>
 oB (oLd h29 x78_71) fun x79_72 =>
 oB (oIx 6 x79_72 x25_24) fun x81_73 =>
 oB (oFA 2 x81_73) fun x82_74 =>
 oB (oLd h29 x82_74) fun x83_75 =>
 j21 y22_19 y21_19 y20_19 x83_75 y5_19 y1_19 y0_19 h29)) (
 j13 y5_19 h19)) (I 0) x21_12 x20_11 x18_9 x5_6 x1 x0 h7
theorem o_arena_forest_lies : FnOK Tryz.prog n_arena_forest_lies (a2 f_arena_forest_lies) := ok2 mixed Tryz.func165 (by kernel_rfl)
/- (*corrector/graph.composer).null -/
noncomputable def f_graph_composer_null (n : Nat) (call : Caller)  (x0 : AV) (h : AH) : Ans :=
 oB (oBuild [(I 0), (.str []), (.str []), .nils] [(0, 1, (I 1))]) fun x4_0 =>
 oP (call n_graph_composer_value [x0, x4_0] h) fun x5_1 h1 =>
 some (x5_1, h1)
theorem o_graph_composer_null : FnOK Tryz.prog n_graph_composer_null (a1 f_graph_composer_null) := ok1 mixed Tryz.func166 (by kernel_rfl)
/- (*corrector/graph.composer).last -/
noncomputable def f_graph_composer_last (n : Nat) (call : Caller)  (x0 x1 x2 : AV) (h : AH) : Ans :=
 oP (oNew h 93 (AV.cells x0)) fun x3_0 h0 =>
 oP (oNew h0 3 (AV.cells x2)) fun x5_1 h1 =>
 oP (oNew h1 9 [(.str [])]) fun x6_2 h2 =>
 oP (oNew h2 4 [(.bool false)]) fun x7_3 h3 =>
 oP (call n_slices_Backward_api_Token_api_Token [x1] h3) fun x11_4 h4 =>
 jnF 2 (fun z7_5 z6_5 h5 =>
 oP (oSt 1 h5 z6_5 (.str [])) fun _ h6 =>
 oP (oSt 1 h6 z7_5 (.bool false)) fun _ h7 =>
 retT [(6, some none), (7, some none)] (sput 7 (sput 6 Tr.e z6_5) z7_5) h7) fun j5 =>
 none
theorem o_graph_composer_last : FnOK Tryz.prog n_graph_composer_last (a3 f_graph_composer_last) := ok3 mixed Tryz.func167 (by kernel_rfl)
end Go.Proofs.YtahpoedbdhhdfaaGreatDoor
