/- Functions, as they run. PRINTED by a program of this repo. -/
import Derived.Test.YtahpoedbdhhdfaaGreatDoorN
import Derived.Test.YtahpoedbdhhdfaaGreatDoorM
set_option linter.unusedVariables false
set_option maxRecDepth 100000
namespace Go.Proofs.YtahpoedbdhhdfaaGreatDoor
open Go.Ev
/- slices.Clone[[]corrector/api.Row,corrector/api.Row] -/
noncomputable def f_slices_Clone_api_Row_api_Row (n : Nat) (call : Caller)  (x0 : AV) (h : AH) : Ans :=
 oB (bEq .sl x0 .nils) fun x4_0 =>
 ci x4_0 (
 some (.nils, h)) (
 oP (oBuildSl h 125 4 0 [] []) fun x5_1 h1 =>
 oP (evW (.append 125 4 32 [(I 0), (I 0), (I 0), (I 0)] (.c x5_1) (.c x0)) .e h1) fun x7_2 h2 =>
 some (x7_2, h2))
theorem o_slices_Clone_api_Row_api_Row : FnOK Tryz.prog n_slices_Clone_api_Row_api_Row (a1 f_slices_Clone_api_Row_api_Row) := ok1 mixed Tryz.func67 (by kernel_rfl)
/- (*corrector/lint.finder).kind -/
noncomputable def f_lint_finder_kind (n : Nat) (call : Caller)  (x0 x1 : AV) (h : AH) : Ans :=
 oB (bLt x1 (I 0)) fun x6_0 =>
 oB (gq x6_0 false (some x1)) fun x8_1 =>
 oB (gq x6_0 false (some x0)) fun x9_2 =>
 oB (gq x6_0 false (oNil x9_2)) fun x10_3 =>
 oB (gq x6_0 false (oFA 15 x10_3)) fun x11_4 =>
 oB (gq x6_0 false (oLd h x11_4)) fun x12_5 =>
 oB (gq x6_0 false (oLen x12_5)) fun x13_6 =>
 oB (gq x6_0 false (bGe x8_1 x13_6)) fun x14_7 =>
 oB (oPick x6_0 (.bool true) x14_7) fun x15_8 =>
 ci x15_8 (
 some ((I 0), h)) (
 oB (oNil x0) fun x17_9 =>
 oB (oFA 15 x17_9) fun x18_10 =>
 oB (oLd h x18_10) fun x19_11 =>
 oB (oIx 3 x19_11 x1) fun x21_12 =>
 oB (oFA 0 x21_12) fun x22_13 =>
 oB (oLd h x22_13) fun x23_14 =>
 some (x23_14, h))
theorem o_lint_finder_kind : FnOK Tryz.prog n_lint_finder_kind (a2 f_lint_finder_kind) := ok2 mixed Tryz.func68 (by kernel_rfl)
/- (*corrector/lint.finder).find -/
noncomputable def f_lint_finder_find (n : Nat) (call : Caller)  (x0 x1 x2 x3 : AV) (h : AH) : Ans :=
 oB (oNil x0) fun x10_0 =>
 oB (oFA 21 x10_0) fun x11_1 =>
 oB (oLd h x11_1) fun x12_2 =>
 oB (oBuild [(I 0), (I 0), (I 0)] [(0, 1, x1), (1, 1, x2), (2, 1, x3)]) fun x16_3 =>
 oP (oBuildSl h 67 3 1 [(I 0), (I 0), (I 0)] [(0, 3, x16_3)]) fun x17_4 h4 =>
 oP (evW (.append 67 3 24 [(I 0), (I 0), (I 0)] (.c x12_2) (.c x17_4)) .e h4) fun x18_5 h5 =>
 oB (oNil x0) fun x19_6 =>
 oB (oFA 21 x19_6) fun x20_7 =>
 oP (oSt 1 h5 x20_7 x18_5) fun _ h8 =>
 some (.tup [], h8)
theorem o_lint_finder_find : FnOK Tryz.prog n_lint_finder_find (a4 f_lint_finder_find) := ok4 mixed Tryz.func69 (by kernel_rfl)
/- (*corrector/lint.finder).bytes -/
noncomputable def f_lint_finder_bytes (n : Nat) (call : Caller)  (x0 x1 : AV) (h : AH) : Ans :=
 oP (oNew h 125 (AV.cells x1)) fun x3_0 h0 =>
 oB' (nx 21 h0) fun h1 =>
 oB (oNil x0) fun x7_2 =>
 oB (oFA 15 x7_2) fun x8_3 =>
 oB (oLd h1 x8_3) fun x9_4 =>
 oB (oFA 1 x3_0) fun x10_5 =>
 oB (oLd h1 x10_5) fun x11_6 =>
 oB (oIx 3 x9_4 x11_6) fun x12_7 =>
 oB (oFA 1 x12_7) fun x13_8 =>
 oB (oLd h1 x13_8) fun x14_9 =>
 oB (oNil x0) fun x16_10 =>
 oB (oFA 15 x16_10) fun x17_11 =>
 oB (oLd h1 x17_11) fun x18_12 =>
 oB (oFA 2 x3_0) fun x19_13 =>
 oB (oLd h1 x19_13) fun x20_14 =>
 oB (bSub x20_14 (I 1)) fun x21_15 =>
 oB (oIx 3 x18_12 x21_15) fun x22_16 =>
 oB (oFA 2 x22_16) fun x23_17 =>
 oB (oLd h1 x23_17) fun x24_18 =>
 some (.tup [x14_9, x24_18], h1)
theorem o_lint_finder_bytes : FnOK Tryz.prog n_lint_finder_bytes (a2 f_lint_finder_bytes) := ok2 mixed Tryz.func70 (by kernel_rfl)
/- corrector/runes.Next -/
noncomputable def f_runes_Next (n : Nat) (call : Caller)  (x0 : AV) (h : AH) : Ans :=
 oB (oLen x0) fun x8_0 =>
 oB (bEq .no x8_0 (I 0)) fun x9_1 =>
 ci x9_1 (
 some (.tup [(.int .i32 (.negSucc 0)), (I 0)], h)) (
 oB (oLen x0) fun x12_2 =>
 oB (evQ (.minI (.c x12_2) [(.c (I 4))]) .e h) fun x13_3 =>
 oB (evQ (.sl 1 (.c x0) none (some (.c x13_3)) none) .e h) fun x14_4 =>
 oB (evQ (.b2s (.c x14_4)) .e h) fun x15_5 =>
 oP (evW (.rangeS (.c x15_5)) .e h) fun x17_6 h6 =>
 jnF 2 (fun z4_7 z2_7 h7 =>
 oB (bEq .no z2_7 (R 65533)) fun x40_8 =>
 oB (gq x40_8 true (some z4_7)) fun x42_9 =>
 oB (gq x40_8 true (oLenS x42_9)) fun x43_10 =>
 oB (gq x40_8 true (bLt x43_10 (I 3))) fun x44_11 =>
 oB (oPick x40_8 x44_11 (.bool false)) fun x45_12 =>
 ci x45_12 (
 some (.tup [(.int .i32 (.negSucc 0)), (I 1)], h7)) (
 oB (oLenS z4_7) fun x48_13 =>
 some (.tup [z2_7, x48_13], h7))) fun j7 =>
 lpF 3 n (fun f14 y17_14 y4_14 y2_14 h14 =>
 oP (evW (.nextS (.c y17_14)) .e h14) fun x18_15 h15 =>
 oB (oEx 0 x18_15) fun x19_16 =>
 ci x19_16 (
 jnF 3 (fun z17_17 z4_17 z2_17 h17 =>
 f14 z17_17 z4_17 z2_17 h17) fun j17 =>
 oB (oEx 1 x18_15) fun x20_18 =>
 oB (oEx 2 x18_15) fun x21_19 =>
 jnF 3 (fun z17_20 z6_20 z4_20 h20 =>
 j17 z17_20 z4_20 z6_20 h20) fun j20 =>
 oB (bGt x20_18 (I 0)) fun x24_21 =>
 oB (gq x24_21 true (some y2_14)) fun x26_22 =>
 oB (gq x24_21 true (bEq .no x26_22 (R 65533))) fun x27_23 =>
 oB (oPick x24_21 x27_23 (.bool false)) fun x28_24 =>
 oB (gq x28_24 true (some x20_18)) fun x30_25 =>
 oB (gq x28_24 true (bLt x30_25 (I 3))) fun x31_26 =>
 oB (oPick x28_24 x31_26 (.bool false)) fun x32_27 =>
 ci x32_27 (
 some (.tup [(.int .i32 (.negSucc 0)), (I 1)], h15)) (
 oB (bGt x20_18 (I 0)) fun x35_28 =>
 ci x35_28 (
 some (.tup [y2_14, x20_18], h15)) (
 j20 y17_14 x21_19 y4_14 h15))) (
 j7 y4_14 y2_14 h15)) x17_6 x15_5 (R 0) h6)
theorem o_runes_Next : FnOK Tryz.prog n_runes_Next (a1 f_runes_Next) := ok1 mixed Tryz.func71 (by kernel_rfl)
/- corrector/lint.counts -/
noncomputable def f_lint_counts (n : Nat) (call : Caller)  (x0 : AV) (h : AH) : Ans :=
 jnF 0 (fun h0 =>
 some ((.bool true), h0)) fun j0 =>
 oB (bEq .no x0 (I 0)) fun x5_1 =>
 jnF 1 (fun z4_2 h2 =>
 ci z4_2 (
 some ((.bool false), h2)) (
 j0 h2)) fun j2 =>
 ci x5_1 (
 j2 x5_1 h) (
 oB (bEq .no x0 (I 1)) fun x6_3 =>
 jnF 1 (fun z4_4 h4 =>
 j2 z4_4 h4) fun j4 =>
 ci x6_3 (
 j4 x6_3 h) (
 oB (bEq .no x0 (I 2)) fun x7_5 =>
 jnF 1 (fun z4_6 h6 =>
 j4 z4_6 h6) fun j6 =>
 ci x7_5 (
 j6 x7_5 h) (
 oB (bEq .no x0 (I 3)) fun x8_7 =>
 jnF 1 (fun z4_8 h8 =>
 j6 z4_8 h8) fun j8 =>
 ci x8_7 (
 j8 x8_7 h) (
 oB (bEq .no x0 (I 4)) fun x9_9 =>
 j8 x9_9 h))))
theorem o_lint_counts : FnOK Tryz.prog n_lint_counts (a1 f_lint_counts) := ok1 mixed Tryz.func72 (by kernel_rfl)
/- slices.ContainsFunc[[]corrector/api.Token,corrector/api.Token] -/
noncomputable def f_slices_ContainsFunc_api_Token_api_Token (n : Nat) (call : Caller)  (x0 x1 : AV) (h : AH) : Ans :=
 oP (call n_slices_IndexFunc_api_Token_api_Token [x0, x1] h) fun x7_0 h0 =>
 oB (bGe x7_0 (I 0)) fun x8_1 =>
 some (x8_1, h0)
theorem o_slices_ContainsFunc_api_Token_api_Token : FnOK Tryz.prog n_slices_ContainsFunc_api_Token_api_Token (a2 f_slices_ContainsFunc_api_Token_api_Token) := ok2 mixed Tryz.func73 (by kernel_rfl)
/- (*corrector/lint.finder).empty$1 -/
noncomputable def f_lint_finder_empty_1 (n : Nat) (call : Caller)  (x0 : AV) (h : AH) : Ans :=
 oP (oNew h 131 (AV.cells x0)) fun x1_0 h0 =>
 oB (oFA 0 x1_0) fun x3_1 =>
 oB (oLd h0 x3_1) fun x4_2 =>
 oB (bEq .no x4_2 (I 4)) fun x5_3 =>
 some (x5_3, h0)
theorem o_lint_finder_empty_1 : FnOK Tryz.prog n_lint_finder_empty_1 (a1 f_lint_finder_empty_1) := ok1 mixed Tryz.func74 (by kernel_rfl)
/- slices.IndexFunc[[]corrector/api.Token,corrector/api.Token] -/
noncomputable def f_slices_IndexFunc_api_Token_api_Token (n : Nat) (call : Caller)  (x0 x1 : AV) (h : AH) : Ans :=
 oB (oLen x0) fun x7_0 =>
 jnF 0 (fun h1 =>
 some ((Ineg 0), h1)) fun j1 =>
 lpF 4 n (fun f2 y8_2 y7_2 y1_2 y0_2 h2 =>
 oB (bLt y8_2 y7_2) fun x9_3 =>
 ci x9_3 (
 jnF 4 (fun z8_4 z7_4 z1_4 z0_4 h4 =>
 oB (bAdd z8_4 (I 1)) fun x18_5 =>
 f2 x18_5 z7_4 z1_4 z0_4 h4) fun j4 =>
 oB (oIx 3 y0_2 y8_2) fun x14_6 =>
 oB (oLdN 3 h2 x14_6) fun x15_7 =>
 oP (wOf (.callV (.c y1_2) [(.c x15_7)]) call .e h2) fun x16_8 h8 =>
 ci x16_8 (
 some (y8_2, h8)) (
 j4 y8_2 y7_2 y1_2 y0_2 h8)) (
 j1 h2)) (I 0) x7_0 x1 x0 h
theorem o_slices_IndexFunc_api_Token_api_Token : FnOK Tryz.prog n_slices_IndexFunc_api_Token_api_Token (a2 f_slices_IndexFunc_api_Token_api_Token) := ok2 mixed Tryz.func75 (by kernel_rfl)
/- (*corrector/lint.finder).mark$1 -/
noncomputable def f_lint_finder_mark_1 (n : Nat) (call : Caller)  (x0 : AV) (h : AH) : Ans :=
 oP (oNew h 131 (AV.cells x0)) fun x1_0 h0 =>
 oB (oFA 0 x1_0) fun x3_1 =>
 oB (oLd h0 x3_1) fun x4_2 =>
 oP (call n_lint_counts [x4_2] h0) fun x5_3 h3 =>
 some (x5_3, h3)
theorem o_lint_finder_mark_1 : FnOK Tryz.prog n_lint_finder_mark_1 (a1 f_lint_finder_mark_1) := ok1 mixed Tryz.func76 (by kernel_rfl)
/- corrector/chars.Blank -/
noncomputable def f_chars_Blank (n : Nat) (call : Caller)  (x0 : AV) (h : AH) : Ans :=
 oB (bEq .no x0 (U 32)) fun x4_0 =>
 oB (gq x4_0 false (some x0)) fun x6_1 =>
 oB (gq x4_0 false (bEq .no x6_1 (U 9))) fun x7_2 =>
 oB (oPick x4_0 (.bool true) x7_2) fun x8_3 =>
 some (x8_3, h)
theorem o_chars_Blank : FnOK Tryz.prog n_chars_Blank (a1 f_chars_Blank) := ok1 mixed Tryz.func77 (by kernel_rfl)
/- slices.DeleteFunc[[]int,int] -/
noncomputable def f_slices_DeleteFunc_int_int (n : Nat) (call : Caller)  (x0 x1 : AV) (h : AH) : Ans :=
 oP (call n_slices_IndexFunc_int_int [x0, x1] h) fun x10_0 h0 =>
 oB (bEq .no x10_0 (Ineg 0)) fun x12_1 =>
 ci x12_1 (
 some (x0, h0)) (
 oB (bAdd x10_0 (I 1)) fun x15_2 =>
 jnF 2 (fun z5_3 z0_3 h3 =>
 oB (evQ (.sl 1 (.c z0_3) (some (.c z5_3)) none none) .e h3) fun x38_4 =>
 oP (evW (.clr 1 [(I 0)] (.c x38_4)) .e h3) fun _ h5 =>
 oB (evQ (.sl 1 (.c z0_3) none (some (.c z5_3)) none) .e h5) fun x41_6 =>
 some (x41_6, h5)) fun j3 =>
 lpF 4 n (fun f7 y6_7 y5_7 y1_7 y0_7 h7 =>
 oB (oLen y0_7) fun x18_8 =>
 oB (bLt y6_7 x18_8) fun x19_9 =>
 ci x19_9 (
 jnF 4 (fun z6_10 z5_10 z1_10 z0_10 h10 =>
 oB (bAdd z6_10 (I 1)) fun x21_11 =>
 f7 x21_11 z5_10 z1_10 z0_10 h10) fun j10 =>
 oB (oIx 1 y0_7 y6_7) fun x24_12 =>
 oB (oLd h7 x24_12) fun x25_13 =>
 oP (wOf (.callV (.c y1_7) [(.c x25_13)]) call .e h7) fun x28_14 h14 =>
 oB (evQ (.un .not (.c x28_14)) .e h14) fun x29_15 =>
 jnF 4 (fun z6_16 z5_16 z1_16 z0_16 h16 =>
 j10 z6_16 z5_16 z1_16 z0_16 h16) fun j16 =>
 ci x29_15 (
 oB (oIx 1 y0_7 y5_7) fun x33_17 =>
 oP (oSt 1 h14 x33_17 x25_13) fun _ h18 =>
 oB (bAdd y5_7 (I 1)) fun x35_19 =>
 j16 y6_7 x35_19 y1_7 y0_7 h18) (
 j16 y6_7 y5_7 y1_7 y0_7 h14)) (
 j3 y5_7 y0_7 h7)) x15_2 x10_0 x1 x0 h0)
theorem o_slices_DeleteFunc_int_int : FnOK Tryz.prog n_slices_DeleteFunc_int_int (a2 f_slices_DeleteFunc_int_int) := ok2 mixed Tryz.func78 (by kernel_rfl)
/- (*corrector/lint.finder).twice$1 -/
noncomputable def f_lint_finder_twice_1 (n : Nat) (call : Caller)  (x0 x1 : AV) (h : AH) : Ans :=
 oB (oLd h x1) fun x4_0 =>
 oB (oNil x4_0) fun x5_1 =>
 oB (oFA 17 x5_1) fun x6_2 =>
 oB (oFA 0 x6_2) fun x7_3 =>
 oB (oLd h x7_3) fun x8_4 =>
 oB (oIx 6 x8_4 x0) fun x10_5 =>
 oB (oFA 0 x10_5) fun x11_6 =>
 oB (oLd h x11_6) fun x12_7 =>
 oB (bNe .no x12_7 (I 6)) fun x13_8 =>
 some (x13_8, h)
theorem o_lint_finder_twice_1 : FnOK Tryz.prog n_lint_finder_twice_1 (a2 f_lint_finder_twice_1) := ok2 mixed Tryz.func79 (by kernel_rfl)
/- corrector/equal.Twice -/
noncomputable def f_equal_Twice (n : Nat) (call : Caller)  (x0 x1 : AV) (h : AH) : Ans :=
 oP (oNew h 42 (AV.cells x0)) fun x2_0 h0 =>
 oB (bLt x1 (I 0)) fun x11_1 =>
 oB (gq x11_1 false (some x1)) fun x13_2 =>
 oB (gq x11_1 false (oFA 0 x2_0)) fun x14_3 =>
 oB (gq x11_1 false (oLd h0 x14_3)) fun x15_4 =>
 oB (gq x11_1 false (oLen x15_4)) fun x16_5 =>
 oB (gq x11_1 false (bGe x13_2 x16_5)) fun x17_6 =>
 oB (oPick x11_1 (.bool true) x17_6) fun x18_7 =>
 oB (gq x18_7 false (oFA 0 x2_0)) fun x20_8 =>
 oB (gq x18_7 false (oLd h0 x20_8)) fun x21_9 =>
 oB (gq x18_7 false (some x1)) fun x22_10 =>
 oB (gq x18_7 false (oIx 4 x21_9 x22_10)) fun x23_11 =>
 oB (gq x18_7 false (oFA 0 x23_11)) fun x24_12 =>
 oB (gq x18_7 false (oLd h0 x24_12)) fun x25_13 =>
 oB (gq x18_7 false (bNe .no x25_13 (I 7))) fun x26_14 =>
 oB (oPick x18_7 (.bool true) x26_14) fun x27_15 =>
 ci x27_15 (
 some (.nils, h0)) (
 oP (evW (.mkMap) .e h0) fun x28_16 h16 =>
 oB (oLdN 3 h16 x2_0) fun x29_17 =>
 oP (call n_equal_classes_of [x28_16, x29_17] h16) fun x30_18 h18 =>
 oP (evW (.mkMap) .e h18) fun x31_19 h19 =>
 jnF 1 (fun z7_20 h20 =>
 oP (call n_slices_Clone_int_int [z7_20] h20) fun x81_21 h21 =>
 some (x81_21, h21)) fun j20 =>
 lpF 6 n (fun f22 y8_22 y7_22 y6_22 y5_22 y2_22 y1_22 h22 =>
 oB (bAdd y8_22 (I 1)) fun x33_23 =>
 oB (oFA 0 y2_22) fun x34_24 =>
 oB (oLd h22 x34_24) fun x35_25 =>
 oB (oIx 4 x35_25 y1_22) fun x37_26 =>
 oB (oFA 3 x37_26) fun x38_27 =>
 oB (oLd h22 x38_27) fun x39_28 =>
 oB (oLen x39_28) fun x40_29 =>
 oB (bLt x33_23 x40_29) fun x41_30 =>
 ci x41_30 (
 jnF 6 (fun z8_31 z7_31 z6_31 z5_31 z2_31 z1_31 h31 =>
 oB (bAdd z8_31 (I 2)) fun x43_32 =>
 f22 x43_32 z7_31 z6_31 z5_31 z2_31 z1_31 h31) fun j31 =>
 oB (oFA 0 y2_22) fun x44_33 =>
 oB (oLd h22 x44_33) fun x45_34 =>
 oB (oIx 4 x45_34 y1_22) fun x47_35 =>
 oB (oFA 3 x47_35) fun x48_36 =>
 oB (oLd h22 x48_36) fun x49_37 =>
 oB (oIx 1 x49_37 y8_22) fun x51_38 =>
 oB (oLd h22 x51_38) fun x52_39 =>
 oB (bLt x52_39 (I 0)) fun x54_40 =>
 oB (gq x54_40 false (some x52_39)) fun x56_41 =>
 oB (gq x54_40 false (some y5_22)) fun x57_42 =>
 oB (gq x54_40 false (oLen x57_42)) fun x58_43 =>
 oB (gq x54_40 false (bGe x56_41 x58_43)) fun x59_44 =>
 oB (oPick x54_40 (.bool true) x59_44) fun x60_45 =>
 ci x60_45 (
 j31 y8_22 y7_22 y6_22 y5_22 y2_22 y1_22 h22) (
 oB (oIx 1 y5_22 x52_39) fun x64_46 =>
 oB (oLd h22 x64_46) fun x65_47 =>
 oB (evQ (.lookup .i (I 0) false (.c y6_22) (.c x65_47)) .e h22) fun x66_48 =>
 oB (bGt x66_48 (I 0)) fun x67_49 =>
 jnF 7 (fun z9_50 z8_50 z7_50 z6_50 z5_50 z2_50 z1_50 h50 =>
 oB (oIx 1 z5_50 z9_50) fun x76_51 =>
 oB (oLd h50 x76_51) fun x77_52 =>
 oB (evQ (.lookup .i (I 0) false (.c z6_50) (.c x77_52)) .e h50) fun x78_53 =>
 oB (bAdd x78_53 (I 1)) fun x79_54 =>
 oP (evW (.mapUpd .i (.c z6_50) (.c x77_52) (.c x79_54)) .e h50) fun _ h55 =>
 j31 z8_50 z7_50 z6_50 z5_50 z2_50 z1_50 h55) fun j50 =>
 ci x67_49 (
 oB (binAV .quo .no y8_22 (I 2)) fun x70_56 =>
 oP (oBuildSl h22 3 1 1 [(I 0)] [(0, 1, x70_56)]) fun x71_57 h57 =>
 oP (evW (.append 3 1 8 [(I 0)] (.c y7_22) (.c x71_57)) .e h57) fun x72_58 h58 =>
 j50 x52_39 y8_22 x72_58 y6_22 y5_22 y2_22 y1_22 h58) (
 j50 x52_39 y8_22 y7_22 y6_22 y5_22 y2_22 y1_22 h22))) (
 j20 y7_22 h22)) (I 0) .nils x31_19 x30_18 x2_0 x1 h19)
theorem o_equal_Twice : FnOK Tryz.prog n_equal_Twice (a2 f_equal_Twice) := ok2 mixed Tryz.func80 (by kernel_rfl)
/- (*corrector/lint.finder).where -/
noncomputable def f_lint_finder_where (n : Nat) (call : Caller)  (x0 x1 : AV) (h : AH) : Ans :=
 oP (oNew h 98 (AV.cells x1)) fun x3_0 h0 =>
 oB (oFA 5 x3_0) fun x6_1 =>
 oB (oLd h0 x6_1) fun x7_2 =>
 oB (gq x7_2 true (oFA 4 x3_0)) fun x9_3 =>
 oB (gq x7_2 true (oLd h0 x9_3)) fun x10_4 =>
 oB (gq x7_2 true (oLen x10_4)) fun x11_5 =>
 oB (gq x7_2 true (bGt x11_5 (I 0))) fun x12_6 =>
 oB (oPick x7_2 x12_6 (.bool false)) fun x13_7 =>
 ci x13_7 (
 oB' (nx 18 h0) fun h8 =>
 oB (oNil x0) fun x15_9 =>
 oB (oFA 15 x15_9) fun x16_10 =>
 oB (oLd h8 x16_10) fun x17_11 =>
 oB (oNil x0) fun x19_12 =>
 oB (oFA 17 x19_12) fun x20_13 =>
 oB (oFA 0 x20_13) fun x21_14 =>
 oB (oLd h8 x21_14) fun x22_15 =>
 oB (oFA 4 x3_0) fun x23_16 =>
 oB (oLd h8 x23_16) fun x24_17 =>
 oB (oIx 1 x24_17 (I 0)) fun x25_18 =>
 oB (oLd h8 x25_18) fun x26_19 =>
 oB (oIx 6 x22_15 x26_19) fun x27_20 =>
 oB (oLdN 6 h8 x27_20) fun x28_21 =>
 oP (call n_walk_Span [x17_11, x28_21] h8) fun x29_22 h22 =>
 oB (some (.iface 145 x29_22)) fun x30_23 =>
 some (x30_23, h22)) (
 oB' (nx 11 h0) fun h24 =>
 oB (oNil x0) fun x32_25 =>
 oB (oFA 15 x32_25) fun x33_26 =>
 oB (oLd h24 x33_26) fun x34_27 =>
 oB (oFA 1 x3_0) fun x35_28 =>
 oB (oLd h24 x35_28) fun x36_29 =>
 oB (oFA 2 x3_0) fun x37_30 =>
 oB (oLd h24 x37_30) fun x38_31 =>
 oB (evQ (.sl 3 (.c x34_27) (some (.c x36_29)) (some (.c x38_31)) none) .e h24) fun x39_32 =>
 oP (call n_slices_IndexFunc_api_Token_api_Token [x39_32, (.fn 129 [] [])] h24) fun x40_33 h33 =>
 oB (oFA 1 x3_0) fun x41_34 =>
 oB (oLd h33 x41_34) fun x42_35 =>
 oB (evQ (.maxI (.c x40_33) [(.c (I 0))]) .e h33) fun x44_36 =>
 oB (bAdd x42_35 x44_36) fun x45_37 =>
 oB (some (.iface 3 x45_37)) fun x46_38 =>
 some (x46_38, h33))
theorem o_lint_finder_where : FnOK Tryz.prog n_lint_finder_where (a2 f_lint_finder_where) := ok2 mixed Tryz.func81 (by kernel_rfl)
/- corrector/lint.Off -/
noncomputable def f_lint_Off (n : Nat) (call : Caller)  (x0 x1 : AV) (h : AH) : Ans :=
 oB (oLen x1) fun x11_0 =>
 jnF 1 (fun z5_1 h1 =>
 oP (call n_slices_Sort_int_int [z5_1] h1) fun x61_2 h2 =>
 oP (call n_slices_Compact_int_int [z5_1] h2) fun x63_3 h3 =>
 oP (call n_slices_Clone_int_int [x63_3] h3) fun x64_4 h4 =>
 some (x64_4, h4)) fun j1 =>
 lpF 5 n (fun f5 y12_5 y11_5 y10_5 y5_5 y0_5 h5 =>
 oB (bLt y12_5 y11_5) fun x13_6 =>
 ci x13_6 (
 jnF 5 (fun z12_7 z11_7 z10_7 z5_7 z0_7 h7 =>
 oB (bAdd z12_7 (I 1)) fun x59_8 =>
 f5 x59_8 z11_7 z10_7 z5_7 z0_7 h7) fun j7 =>
 oB (oIx 3 y10_5 y12_5) fun x14_9 =>
 oB (oLdN 3 h5 x14_9) fun x15_10 =>
 oP (oNew h5 131 [(I 0), (I 0), (I 0)]) fun x7_11 h11 =>
 oP (oSt 3 h11 x7_11 x15_10) fun _ h12 =>
 oB (oFA 0 x7_11) fun x16_13 =>
 oB (oLd h12 x16_13) fun x17_14 =>
 oB (bNe .no x17_14 (I 4)) fun x18_15 =>
 oB (gq x18_15 false (oFA 1 x7_11)) fun x20_16 =>
 oB (gq x18_15 false (oLd h12 x20_16)) fun x21_17 =>
 oB (gq x18_15 false (bLt x21_17 (I 0))) fun x22_18 =>
 oB (oPick x18_15 (.bool true) x22_18) fun x23_19 =>
 oB (gq x23_19 false (oFA 2 x7_11)) fun x25_20 =>
 oB (gq x23_19 false (oLd h12 x25_20)) fun x26_21 =>
 oB (gq x23_19 false (some y0_5)) fun x27_22 =>
 oB (gq x23_19 false (oLen x27_22)) fun x28_23 =>
 oB (gq x23_19 false (bGt x26_21 x28_23)) fun x29_24 =>
 oB (oPick x23_19 (.bool true) x29_24) fun x30_25 =>
 oB (gq x30_25 false (oFA 1 x7_11)) fun x32_26 =>
 oB (gq x30_25 false (oLd h12 x32_26)) fun x33_27 =>
 oB (gq x30_25 false (oFA 2 x7_11)) fun x34_28 =>
 oB (gq x30_25 false (oLd h12 x34_28)) fun x35_29 =>
 oB (gq x30_25 false (bGt x33_27 x35_29)) fun x36_30 =>
 oB (oPick x30_25 (.bool true) x36_30) fun x37_31 =>
 oB (gq x37_31 false (some y0_5)) fun x39_32 =>
 oB (gq x37_31 false (oFA 1 x7_11)) fun x40_33 =>
 oB (gq x37_31 false (oLd h12 x40_33)) fun x41_34 =>
 oB (gq x37_31 false (oFA 2 x7_11)) fun x42_35 =>
 oB (gq x37_31 false (oLd h12 x42_35)) fun x43_36 =>
 oB (gq x37_31 false (evQ (.sl 1 (.c x39_32) (some (.c x41_34)) (some (.c x43_36)) none) .e h12)) fun x44_37 =>
 oB (gq x37_31 false (evQ (.b2s (.c x44_37)) .e h12)) fun x45_38 =>
 oB (gq x37_31 false (bNe .no x45_38 (.str [35, 32, 111, 102, 102]))) fun x46_39 =>
 oB (oPick x37_31 (.bool true) x46_39) fun x47_40 =>
 ci x47_40 (
 j7 y12_5 y11_5 y10_5 y5_5 y0_5 h12) (
 oB (oFA 1 x7_11) fun x50_41 =>
 oB (oLd h12 x50_41) fun x51_42 =>
 oP (call n_lines_Place [y0_5, x51_42] h12) fun x52_43 h43 =>
 oB (oEx 0 x52_43) fun x53_44 =>
 oB (oEx 1 x52_43) fun x54_45 =>
 oP (oBuildSl h43 3 1 1 [(I 0)] [(0, 1, x53_44)]) fun x57_46 h46 =>
 oP (evW (.append 3 1 8 [(I 0)] (.c y5_5) (.c x57_46)) .e h46) fun x58_47 h47 =>
 j7 y12_5 y11_5 y10_5 x58_47 y0_5 h47)) (
 j1 y5_5 h5)) (I 0) x11_0 x1 .nils x0 h
theorem o_lint_Off : FnOK Tryz.prog n_lint_Off (a2 f_lint_Off) := ok2 mixed Tryz.func82 (by kernel_rfl)
/- corrector/lint.on$1 -/
noncomputable def f_lint_on_1 (n : Nat) (call : Caller)  (x0 x1 x2 : AV) (h : AH) : Ans :=
 oP (oNew h 67 (AV.cells x0)) fun x3_0 h0 =>
 oB (oLd h0 x1) fun x8_1 =>
 oB (oFA 1 x3_0) fun x9_2 =>
 oB (oLd h0 x9_2) fun x10_3 =>
 oP (call n_lines_Place [x8_1, x10_3] h0) fun x11_4 h4 =>
 oB (oEx 0 x11_4) fun x12_5 =>
 oB (oEx 1 x11_4) fun x13_6 =>
 oB (oLd h4 x2) fun x14_7 =>
 oP (call n_slices_Contains_int_int [x14_7, x12_5] h4) fun x16_8 h8 =>
 oB (evQ (.un .not (.c x16_8)) .e h8) fun x17_9 =>
 some (x17_9, h8)
theorem o_lint_on_1 : FnOK Tryz.prog n_lint_on_1 (a3 f_lint_on_1) := ok3 mixed Tryz.func83 (by kernel_rfl)
/- corrector/lines.Place -/
noncomputable def f_lines_Place (n : Nat) (call : Caller)  (x0 x1 : AV) (h : AH) : Ans :=
 oB (bLt x1 (I 0)) fun x10_0 =>
 oB (gq x10_0 false (some x1)) fun x12_1 =>
 oB (gq x10_0 false (some x0)) fun x13_2 =>
 oB (gq x10_0 false (oLen x13_2)) fun x14_3 =>
 oB (gq x10_0 false (bGt x12_1 x14_3)) fun x15_4 =>
 oB (oPick x10_0 (.bool true) x15_4) fun x16_5 =>
 ci x16_5 (
 some (.tup [(I 0), (I 0)], h)) (
 oP (call n_lines_Starts [x0] h) fun x18_6 h6 =>
 oB (oLen x18_6) fun x19_7 =>
 jnF 4 (fun z6_8 z4_8 z1_8 z0_8 h8 =>
 oB (evQ (.sl 1 (.c z0_8) (some (.c z6_8)) (some (.c z1_8)) none) .e h8) fun x34_9 =>
 oB (evQ (.b2s (.c x34_9)) .e h8) fun x35_10 =>
 oP (evW (.rangeS (.c x35_10)) .e h8) fun x36_11 h11 =>
 jnF 2 (fun z5_12 z4_12 h12 =>
 some (.tup [z4_12, z5_12], h12)) fun j12 =>
 lpF 3 n (fun f13 y36_13 y5_13 y4_13 h13 =>
 oP (evW (.nextS (.c y36_13)) .e h13) fun x37_14 h14 =>
 oB (oEx 0 x37_14) fun x38_15 =>
 ci x38_15 (
 jnF 3 (fun z36_16 z5_16 z4_16 h16 =>
 f13 z36_16 z5_16 z4_16 h16) fun j16 =>
 oB (bAdd y5_13 (I 1)) fun x40_17 =>
 j16 y36_13 x40_17 y4_13 h14) (
 j12 y5_13 y4_13 h14)) x36_11 (I 1) z4_8 h11) fun j8 =>
 lpF 7 n (fun f18 y20_18 y19_18 y18_18 y6_18 y4_18 y1_18 y0_18 h18 =>
 oB (bLt y20_18 y19_18) fun x21_19 =>
 ci x21_19 (
 jnF 7 (fun z20_20 z19_20 z18_20 z6_20 z4_20 z1_20 z0_20 h20 =>
 oB (bAdd z20_20 (I 1)) fun x30_21 =>
 f18 x30_21 z19_20 z18_20 z6_20 z4_20 z1_20 z0_20 h20) fun j20 =>
 oB (oIx 1 y18_18 y20_18) fun x22_22 =>
 oB (oLd h18 x22_22) fun x23_23 =>
 oB (bLe x23_23 y1_18) fun x26_24 =>
 jnF 7 (fun z20_25 z19_25 z18_25 z6_25 z4_25 z1_25 z0_25 h25 =>
 j20 z20_25 z19_25 z18_25 z6_25 z4_25 z1_25 z0_25 h25) fun j25 =>
 ci x26_24 (
 oB (bAdd y4_18 (I 1)) fun x28_26 =>
 j25 y20_18 y19_18 y18_18 x23_23 x28_26 y1_18 y0_18 h18) (
 j25 y20_18 y19_18 y18_18 y6_18 y4_18 y1_18 y0_18 h18)) (
 j8 y6_18 y4_18 y1_18 y0_18 h18)) (I 0) x19_7 x18_6 (I 0) (I 0) x1 x0 h6)
theorem o_lines_Place : FnOK Tryz.prog n_lines_Place (a2 f_lines_Place) := ok2 mixed Tryz.func84 (by kernel_rfl)
/- slices.Contains[[]int,int] -/
noncomputable def f_slices_Contains_int_int (n : Nat) (call : Caller)  (x0 x1 : AV) (h : AH) : Ans :=
 oP (call n_slices_Index_int_int [x0, x1] h) fun x7_0 h0 =>
 oB (bGe x7_0 (I 0)) fun x8_1 =>
 some (x8_1, h0)
theorem o_slices_Contains_int_int : FnOK Tryz.prog n_slices_Contains_int_int (a2 f_slices_Contains_int_int) := ok2 mixed Tryz.func85 (by kernel_rfl)
/- (*corrector/scan.scanner).begin -/
noncomputable def f_scan_scanner_begin (n : Nat) (call : Caller)  (x0 : AV) (h : AH) : Ans :=
 oB (oNil x0) fun x6_0 =>
 oB (oFA 1 x6_0) fun x7_1 =>
 oB (oLd h x7_1) fun x8_2 =>
 oB (oNil x0) fun x9_3 =>
 oB (oFA 4 x9_3) fun x10_4 =>
 oP (oSt 1 h x10_4 x8_2) fun _ h5 =>
 oB (oNil x0) fun x11_6 =>
 oB (oFA 5 x11_6) fun x12_7 =>
 oP (oSt 1 h5 x12_7 (Ineg 0)) fun _ h8 =>
 oB (oNil x0) fun x13_9 =>
 oB (oFA 6 x13_9) fun x14_10 =>
 oP (oSt 1 h8 x14_10 (.bool true)) fun _ h11 =>
 some (.tup [], h11)
theorem o_scan_scanner_begin : FnOK Tryz.prog n_scan_scanner_begin (a1 f_scan_scanner_begin) := ok1 mixed Tryz.func86 (by kernel_rfl)
/- (*corrector/scan.scanner).begun -/
noncomputable def f_scan_scanner_begun (n : Nat) (call : Caller)  (x0 : AV) (h : AH) : Ans :=
 oB (oNil x0) fun x7_0 =>
 oB (oFA 1 x7_0) fun x8_1 =>
 oB (oLd h x8_1) fun x9_2 =>
 oP (call n_scan_scanner_mark [x0, x9_2] h) fun x10_3 h3 =>
 oB (bNe .no x10_3 (I 0)) fun x12_4 =>
 ci x12_4 (
 oB (oNil x0) fun x14_5 =>
 oB (oFA 3 x14_5) fun x15_6 =>
 oP (oSt 1 h3 x15_6 (I 0)) fun _ h7 =>
 oB (oNil x0) fun x19_8 =>
 oB (oFA 1 x19_8) fun x20_9 =>
 oB (oLd h7 x20_9) fun x21_10 =>
 oB (bAdd x21_10 (I 3)) fun x22_11 =>
 oP (call n_scan_scanner_token [x0, x10_3, x22_11] h7) fun x23_12 h12 =>
 some ((.bool true), h12)) (
 oB (oNil x0) fun x26_13 =>
 oB (oFA 1 x26_13) fun x27_14 =>
 oB (oLd h3 x27_14) fun x28_15 =>
 oP (call n_scan_scanner_spaces [x0, x28_15] h3) fun x29_16 h16 =>
 oB (oNil x0) fun x32_17 =>
 oB (oFA 1 x32_17) fun x33_18 =>
 oB (oLd h16 x33_18) fun x34_19 =>
 oB (bGt x29_16 x34_19) fun x35_20 =>
 ci x35_20 (
 oP (call n_scan_scanner_token [x0, (I 2), x29_16] h16) fun x38_21 h21 =>
 some ((.bool true), h21)) (
 some ((.bool false), h16)))
theorem o_scan_scanner_begun : FnOK Tryz.prog n_scan_scanner_begun (a1 f_scan_scanner_begun) := ok1 mixed Tryz.func87 (by kernel_rfl)
/- (*corrector/scan.scanner).loose -/
noncomputable def f_scan_scanner_loose (n : Nat) (call : Caller)  (x0 : AV) (h : AH) : Ans :=
 oB (oNil x0) fun x8_0 =>
 oB (oFA 1 x8_0) fun x9_1 =>
 oB (oLd h x9_1) fun x10_2 =>
 oP (call n_scan_scanner_brk [x0, x10_2] h) fun x11_3 h3 =>
 oB (bGt x11_3 (I 0)) fun x13_4 =>
 ci x13_4 (
 oB (oNil x0) fun x16_5 =>
 oB (oFA 1 x16_5) fun x17_6 =>
 oB (oLd h3 x17_6) fun x18_7 =>
 oB (bAdd x18_7 x11_3) fun x20_8 =>
 oP (call n_scan_scanner_token [x0, (I 1), x20_8] h3) fun x21_9 h9 =>
 some ((.bool true), h9)) (
 oB (oNil x0) fun x24_10 =>
 oB (oFA 1 x24_10) fun x25_11 =>
 oB (oLd h3 x25_11) fun x26_12 =>
 oP (call n_scan_scanner_blanks [x0, x26_12] h3) fun x27_13 h13 =>
 oB (oNil x0) fun x30_14 =>
 oB (oFA 1 x30_14) fun x31_15 =>
 oB (oLd h13 x31_15) fun x32_16 =>
 oB (bGt x27_13 x32_16) fun x33_17 =>
 ci x33_17 (
 oP (call n_scan_scanner_token [x0, (I 3), x27_13] h13) fun x36_18 h18 =>
 some ((.bool true), h18)) (
 oP (call n_scan_scanner_last [x0] h13) fun x38_19 h19 =>
 oB' (nx 25 h19) fun h20 =>
 oB (oNil x0) fun x41_21 =>
 oB (oFA 1 x41_21) fun x42_22 =>
 oB (oLd h20 x42_22) fun x43_23 =>
 oP (call n_scan_scanner_there [x0, x43_23, (U 35)] h20) fun x44_24 h24 =>
 oB (gq x44_24 true (some x0)) fun x46_25 =>
 oB (gq x44_24 true (oNil x46_25)) fun x47_26 =>
 oB (gq x44_24 true (oFA 1 x47_26)) fun x48_27 =>
 oB (gq x44_24 true (oLd h24 x48_27)) fun x49_28 =>
 oB (gq x44_24 true (some x0)) fun x50_29 =>
 oB (gq x44_24 true (oNil x50_29)) fun x51_30 =>
 oB (gq x44_24 true (oFA 4 x51_30)) fun x52_31 =>
 oB (gq x44_24 true (oLd h24 x52_31)) fun x53_32 =>
 oB (gq x44_24 true (bEq .no x49_28 x53_32)) fun x54_33 =>
 oB (gq x44_24 true (some x54_33)) fun x55_34 =>
 oB (gq x55_34 false (some x38_19)) fun x56_35 =>
 oB (gq x55_34 false (bEq .no x56_35 (I 2))) fun x57_36 =>
 oB (gq x44_24 true (oPick x55_34 (.bool true) x57_36)) fun x58_37 =>
 oB (gq x44_24 true (some x58_37)) fun x59_38 =>
 oB (gq x59_38 false (some x38_19)) fun x60_39 =>
 oB (gq x59_38 false (bEq .no x60_39 (I 3))) fun x61_40 =>
 oB (gq x44_24 true (oPick x59_38 (.bool true) x61_40)) fun x62_41 =>
 oB (oPick x44_24 x62_41 (.bool false)) fun x63_42 =>
 ci x63_42 (
 oB (oNil x0) fun x67_43 =>
 oB (oFA 1 x67_43) fun x68_44 =>
 oB (oLd h24 x68_44) fun x69_45 =>
 oP (call n_scan_scanner_line [x0, x69_45] h24) fun x70_46 h46 =>
 oP (call n_scan_scanner_token [x0, (I 4), x70_46] h46) fun x71_47 h47 =>
 some ((.bool true), h47)) (
 some ((.bool false), h24))))
theorem o_scan_scanner_loose : FnOK Tryz.prog n_scan_scanner_loose (a1 f_scan_scanner_loose) := ok1 mixed Tryz.func88 (by kernel_rfl)
/- (*corrector/scan.scanner).sign -/
noncomputable def f_scan_scanner_sign (n : Nat) (call : Caller)  (x0 : AV) (h : AH) : Ans :=
 oP (call n_scan_scanner_brackets [x0] h) fun x7_0 h0 =>
 oB (bNe .no x7_0 (I 0)) fun x9_1 =>
 ci x9_1 (
 oB (oNil x0) fun x13_2 =>
 oB (oFA 1 x13_2) fun x14_3 =>
 oB (oLd h0 x14_3) fun x15_4 =>
 oB (bAdd x15_4 (I 1)) fun x16_5 =>
 oP (call n_scan_scanner_token [x0, x7_0, x16_5] h0) fun x17_6 h6 =>
 some ((.bool true), h6)) (
 oB (oNil x0) fun x20_7 =>
 oB (oFA 1 x20_7) fun x21_8 =>
 oB (oLd h0 x21_8) fun x22_9 =>
 oP (call n_scan_scanner_there [x0, x22_9, (U 45)] h0) fun x23_10 h10 =>
 oB (gq x23_10 true (some x0)) fun x25_11 =>
 oB (gq x23_10 true (some x0)) fun x26_12 =>
 oB (gq x23_10 true (oNil x26_12)) fun x27_13 =>
 oB (gq x23_10 true (oFA 1 x27_13)) fun x28_14 =>
 oB (gq x23_10 true (oLd h10 x28_14)) fun x29_15 =>
 oB (gq x23_10 true (bAdd x29_15 (I 1))) fun x30_16 =>
 oP (gw x23_10 true (call n_scan_scanner_space [x25_11, x30_16] h10) h10) fun x31_17 h17 =>
 oB (oPick x23_10 x31_17 (.bool false)) fun x32_18 =>
 oB (gq x32_18 true (some x0)) fun x34_19 =>
 oB (gq x32_18 true (oNil x34_19)) fun x35_20 =>
 oB (gq x32_18 true (oFA 3 x35_20)) fun x36_21 =>
 oB (gq x32_18 true (oLd h17 x36_21)) fun x37_22 =>
 oB (gq x32_18 true (bEq .no x37_22 (I 0))) fun x38_23 =>
 oB (oPick x32_18 x38_23 (.bool false)) fun x39_24 =>
 oB (gq x39_24 true (some x0)) fun x41_25 =>
 oB (gq x39_24 true (oNil x41_25)) fun x42_26 =>
 oB (gq x39_24 true (oFA 6 x42_26)) fun x43_27 =>
 oB (gq x39_24 true (oLd h17 x43_27)) fun x44_28 =>
 oB (oPick x39_24 x44_28 (.bool false)) fun x45_29 =>
 ci x45_29 (
 oB (oNil x0) fun x48_30 =>
 oB (oFA 1 x48_30) fun x49_31 =>
 oB (oLd h17 x49_31) fun x50_32 =>
 oB (bAdd x50_32 (I 1)) fun x51_33 =>
 oP (call n_scan_scanner_token [x0, (I 5), x51_33] h17) fun x52_34 h34 =>
 some ((.bool true), h34)) (
 oB (oNil x0) fun x55_35 =>
 oB (oFA 1 x55_35) fun x56_36 =>
 oB (oLd h17 x56_36) fun x57_37 =>
 oP (call n_scan_scanner_colon [x0, x57_37] h17) fun x58_38 h38 =>
 ci x58_38 (
 oB (oNil x0) fun x61_39 =>
 oB (oFA 1 x61_39) fun x62_40 =>
 oB (oLd h38 x62_40) fun x63_41 =>
 oB (bAdd x63_41 (I 1)) fun x64_42 =>
 oP (call n_scan_scanner_token [x0, (I 6), x64_42] h38) fun x65_43 h43 =>
 some ((.bool true), h43)) (
 oP (call n_scan_scanner_property [x0] h38) fun x68_44 h44 =>
 oB (oEx 0 x68_44) fun x69_45 =>
 oB (oEx 1 x68_44) fun x70_46 =>
 oB (bNe .no x69_45 (I 0)) fun x72_47 =>
 ci x72_47 (
 oP (call n_scan_scanner_token [x0, x69_45, x70_46] h44) fun x76_48 h48 =>
 some ((.bool true), h48)) (
 some ((.bool false), h44)))))
theorem o_scan_scanner_sign : FnOK Tryz.prog n_scan_scanner_sign (a1 f_scan_scanner_sign) := ok1 mixed Tryz.func89 (by kernel_rfl)
/- (*corrector/scan.scanner).text -/
noncomputable def f_scan_scanner_text (n : Nat) (call : Caller)  (x0 : AV) (h : AH) : Ans :=
 oB' (nx 10 h) fun h0 =>
 oB (oNil x0) fun x7_1 =>
 oB (oFA 0 x7_1) fun x8_2 =>
 oB (oLd h0 x8_2) fun x9_3 =>
 oB (oNil x0) fun x11_4 =>
 oB (oFA 1 x11_4) fun x12_5 =>
 oB (oLd h0 x12_5) fun x13_6 =>
 oB (oIx 1 x9_3 x13_6) fun x14_7 =>
 oB (oLd h0 x14_7) fun x15_8 =>
 jnF 1 (fun z0_9 h9 =>
 oP (call n_scan_scanner_head [z0_9] h9) fun x29_10 h10 =>
 oB (bGt x29_10 (I 0)) fun x31_11 =>
 ci x31_11 (
 oB (oNil z0_9) fun x33_12 =>
 oB (oFA 5 x33_12) fun x34_13 =>
 oB (oLd h10 x34_13) fun x35_14 =>
 oB (bLt x35_14 (I 0)) fun x37_15 =>
 jnF 3 (fun z3_16 z2_16 z0_16 h16 =>
 oP (call n_scan_scanner_token [z0_16, (I 18), z2_16] h16) fun x50_17 h17 =>
 oP (call n_scan_scanner_texts [z0_16, z3_16] h17) fun x53_18 h18 =>
 some (.tup [], h18)) fun j16 =>
 ci x37_15 (
 oB' (nx 11 h10) fun h19 =>
 oB (oNil z0_9) fun x39_20 =>
 oB (oFA 1 x39_20) fun x40_21 =>
 oB (oLd h19 x40_21) fun x41_22 =>
 oB (oNil z0_9) fun x43_23 =>
 oB (oFA 4 x43_23) fun x44_24 =>
 oB (oLd h19 x44_24) fun x45_25 =>
 oB (bSub x41_22 x45_25) fun x46_26 =>
 oB (bSub x46_26 (I 1)) fun x47_27 =>
 j16 x47_27 x29_10 z0_9 h19) (
 j16 x35_14 x29_10 z0_9 h10)) (
 oB' (nx 15 h10) fun h28 =>
 oB (oNil z0_9) fun x56_29 =>
 oB (oFA 0 x56_29) fun x57_30 =>
 oB (oLd h28 x57_30) fun x58_31 =>
 oB (oNil z0_9) fun x60_32 =>
 oB (oFA 1 x60_32) fun x61_33 =>
 oB (oLd h28 x61_33) fun x62_34 =>
 oB (evQ (.sl 1 (.c x58_31) (some (.c x62_34)) none none) .e h28) fun x63_35 =>
 oP (call n_runes_Next [x63_35] h28) fun x64_36 h36 =>
 oB (oEx 0 x64_36) fun x65_37 =>
 oB (oEx 1 x64_36) fun x66_38 =>
 oB (bLt x65_37 (R 0)) fun x68_39 =>
 ci x68_39 (
 oB (oNil z0_9) fun x71_40 =>
 oB (oFA 1 x71_40) fun x72_41 =>
 oB (oLd h36 x72_41) fun x73_42 =>
 oB (bAdd x73_42 (I 1)) fun x74_43 =>
 oP (call n_scan_scanner_token [z0_9, (I 22), x74_43] h36) fun x75_44 h44 =>
 some (.tup [], h44)) (
 oP (call n_scan_scanner_plain [z0_9] h36) fun x78_45 h45 =>
 oP (call n_scan_scanner_token [z0_9, (I 15), x78_45] h45) fun x79_46 h46 =>
 some (.tup [], h46)))) fun j9 =>
 oB (bEq .no x15_8 (U 39)) fun x17_47 =>
 ci x17_47 (
 oP (call n_scan_scanner_single [x0] h0) fun x20_48 h48 =>
 oP (call n_scan_scanner_token [x0, (I 16), x20_48] h48) fun x21_49 h49 =>
 some (.tup [], h49)) (
 oB (bEq .no x15_8 (U 34)) fun x23_50 =>
 ci x23_50 (
 oP (call n_scan_scanner_double [x0] h0) fun x26_51 h51 =>
 oP (call n_scan_scanner_token [x0, (I 17), x26_51] h51) fun x27_52 h52 =>
 some (.tup [], h52)) (
 j9 x0 h0))
theorem o_scan_scanner_text : FnOK Tryz.prog n_scan_scanner_text (a1 f_scan_scanner_text) := ok1 mixed Tryz.func90 (by kernel_rfl)
/- slices.Clone[[]corrector/api.Token,corrector/api.Token] -/
noncomputable def f_slices_Clone_api_Token_api_Token (n : Nat) (call : Caller)  (x0 : AV) (h : AH) : Ans :=
 oB (bEq .sl x0 .nils) fun x4_0 =>
 ci x4_0 (
 some (.nils, h)) (
 oP (oBuildSl h 131 3 0 [] []) fun x5_1 h1 =>
 oP (evW (.append 131 3 24 [(I 0), (I 0), (I 0)] (.c x5_1) (.c x0)) .e h1) fun x7_2 h2 =>
 some (x7_2, h2))
theorem o_slices_Clone_api_Token_api_Token : FnOK Tryz.prog n_slices_Clone_api_Token_api_Token (a1 f_slices_Clone_api_Token_api_Token) := ok1 mixed Tryz.func91 (by kernel_rfl)
/- (*corrector/parse.parser).first -/
noncomputable def f_parse_parser_first (n : Nat) (call : Caller)  (x0 x1 x2 : AV) (h : AH) : Ans :=
 jnF 1 (fun z1_0 h0 =>
 some (z1_0, h0)) fun j0 =>
 lpF 3 n (fun f1 y2_1 y1_1 y0_1 h1 =>
 oB (bLt y1_1 y2_1) fun x9_2 =>
 oB (gq x9_2 true (some y0_1)) fun x11_3 =>
 oB (gq x9_2 true (oNil x11_3)) fun x12_4 =>
 oB (gq x9_2 true (oFA 1 x12_4)) fun x13_5 =>
 oB (gq x9_2 true (oLd h1 x13_5)) fun x14_6 =>
 oB (gq x9_2 true (some y1_1)) fun x15_7 =>
 oB (gq x9_2 true (oIx 3 x14_6 x15_7)) fun x16_8 =>
 oB (gq x9_2 true (oLdN 3 h1 x16_8)) fun x17_9 =>
 oP (gw x9_2 true (call n_parse_counts [x17_9] h1) h1) fun x18_10 h10 =>
 oB (gq x9_2 true (evQ (.un .not (.c x18_10)) .e h10)) fun x19_11 =>
 oB (oPick x9_2 x19_11 (.bool false)) fun x20_12 =>
 ci x20_12 (
 jnF 3 (fun z2_13 z1_13 z0_13 h13 =>
 f1 z2_13 z1_13 z0_13 h13) fun j13 =>
 oB (bAdd y1_1 (I 1)) fun x22_14 =>
 j13 y2_1 x22_14 y0_1 h10) (
 j0 y1_1 h10)) x2 x1 x0 h
theorem o_parse_parser_first : FnOK Tryz.prog n_parse_parser_first (a3 f_parse_parser_first) := ok3 mixed Tryz.func92 (by kernel_rfl)
/- (*corrector/parse.parser).amiss -/
noncomputable def f_parse_parser_amiss (n : Nat) (call : Caller)  (x0 x1 x2 x3 : AV) (h : AH) : Ans :=
 oP (call n_parse_parser_first [x0, x2, x3] h) fun x12_0 h0 =>
 oB (bEq .no x12_0 x3) fun x15_1 =>
 ci x15_1 (
 some (.tup [], h0)) (
 oB (oNil x0) fun x17_2 =>
 oB (oFA 8 x17_2) fun x18_3 =>
 oB (oLd h0 x18_3) fun x19_4 =>
 oB (oLen x19_4) fun x20_5 =>
 jnF 0 (fun h6 =>
 some (.tup [], h6)) fun j6 =>
 oB (oNil x0) fun x35_7 =>
 oB (oFA 9 x35_7) fun x36_8 =>
 oB (oLd h0 x36_8) fun x37_9 =>
 oB (bGe x37_9 (I 0)) fun x38_10 =>
 jnF 0 (fun h11 =>
 j6 h11) fun j11 =>
 ci x38_10 (
 oB (oNil x0) fun x42_12 =>
 oB (oFA 9 x42_12) fun x43_13 =>
 oB (oLd h0 x43_13) fun x44_14 =>
 oP (call n_parse_parser_wrong [x0, x1, x44_14, x12_0, x3] h0) fun x47_15 h15 =>
 j11 h15) (
 oB (bGt x20_5 (I 0)) fun x50_16 =>
 oB (gq x50_16 true (some x0)) fun x52_17 =>
 oB (gq x50_16 true (oNil x52_17)) fun x53_18 =>
 oB (gq x50_16 true (oFA 8 x53_18)) fun x54_19 =>
 oB (gq x50_16 true (oLd h0 x54_19)) fun x55_20 =>
 oB (gq x50_16 true (some x20_5)) fun x56_21 =>
 oB (gq x50_16 true (bSub x56_21 (I 1))) fun x57_22 =>
 oB (gq x50_16 true (oIx 5 x55_20 x57_22)) fun x58_23 =>
 oB (gq x50_16 true (oFA 4 x58_23)) fun x59_24 =>
 oB (gq x50_16 true (oLd h0 x59_24)) fun x60_25 =>
 oB (gq x50_16 true (evQ (.un .not (.c x60_25)) .e h0)) fun x61_26 =>
 oB (oPick x50_16 x61_26 (.bool false)) fun x62_27 =>
 jnF 0 (fun h28 =>
 j11 h28) fun j28 =>
 ci x62_27 (
 oB (oNil x0) fun x66_29 =>
 oB (oFA 8 x66_29) fun x67_30 =>
 oB (oLd h0 x67_30) fun x68_31 =>
 oB (bSub x20_5 (I 1)) fun x70_32 =>
 oB (oIx 5 x68_31 x70_32) fun x71_33 =>
 oB (oFA 3 x71_33) fun x72_34 =>
 oB (oLd h0 x72_34) fun x73_35 =>
 oP (call n_parse_parser_wrong [x0, x1, x73_35, x12_0, x3] h0) fun x76_36 h36 =>
 j28 h36) (
 oB (bGt x20_5 (I 0)) fun x79_37 =>
 jnF 0 (fun h38 =>
 j28 h38) fun j38 =>
 ci x79_37 (
 oB (oNil x0) fun x83_39 =>
 oB (oFA 8 x83_39) fun x84_40 =>
 oB (oLd h0 x84_40) fun x85_41 =>
 oB (bSub x20_5 (I 1)) fun x87_42 =>
 oB (oIx 5 x85_41 x87_42) fun x88_43 =>
 oB (oFA 0 x88_43) fun x89_44 =>
 oB (oLd h0 x89_44) fun x90_45 =>
 oP (call n_parse_parser_wrong [x0, x1, x90_45, x12_0, x3] h0) fun x93_46 h46 =>
 j38 h46) (
 oP (call n_parse_parser_document [x0, x12_0] h0) fun x23_47 h47 =>
 oB (oNil x0) fun x27_48 =>
 oB (oFA 6 x27_48) fun x28_49 =>
 oB (oLd h47 x28_49) fun x29_50 =>
 oP (call n_parse_parser_wrong [x0, x1, x29_50, x12_0, x3] h47) fun x32_51 h51 =>
 j38 h51))))
theorem o_parse_parser_amiss : FnOK Tryz.prog n_parse_parser_amiss (a4 f_parse_parser_amiss) := ok4 mixed Tryz.func93 (by kernel_rfl)
/- (*corrector/parse.parser).mark -/
noncomputable def f_parse_parser_mark (n : Nat) (call : Caller)  (x0 x1 x2 : AV) (h : AH) : Ans :=
 oB (oNil x0) fun x10_0 =>
 oB (oFA 8 x10_0) fun x11_1 =>
 oP (oSt 1 h x11_1 .nils) fun _ h2 =>
 oB (oNil x0) fun x13_3 =>
 oB (oFA 1 x13_3) fun x14_4 =>
 oB (oLd h2 x14_4) fun x15_5 =>
 oB (oIx 3 x15_5 x2) fun x17_6 =>
 oB (oFA 0 x17_6) fun x18_7 =>
 oB (oLd h2 x18_7) fun x19_8 =>
 oB (bEq .no x19_8 (I 20)) fun x20_9 =>
 ci x20_9 (
 oB (bAdd x2 (I 1)) fun x25_10 =>
 oP (call n_parse_parser_add [x0, (I 0), (I 2), x2, x25_10] h2) fun x26_11 h11 =>
 oB (oNil x0) fun x27_12 =>
 oB (oFA 6 x27_12) fun x28_13 =>
 oP (oSt 1 h11 x28_13 x26_11) fun _ h14 =>
 oB (oNil x0) fun x33_15 =>
 oB (oFA 6 x33_15) fun x34_16 =>
 oB (oLd h14 x34_16) fun x35_17 =>
 oB (bAdd x2 (I 1)) fun x37_18 =>
 oP (call n_parse_parser_value [x0, x1, x35_17, x37_18] h14) fun x38_19 h19 =>
 oB (oEx 0 x38_19) fun x39_20 =>
 oB (oEx 1 x38_19) fun x40_21 =>
 oB (oNil x0) fun x43_22 =>
 oB (oFA 7 x43_22) fun x44_23 =>
 oP (oSt 1 h19 x44_23 x39_20) fun _ h24 =>
 some (x40_21, h24)) (
 oB (oNil x0) fun x47_25 =>
 oB (oFA 6 x47_25) fun x48_26 =>
 oB (oLd h2 x48_26) fun x49_27 =>
 oB (bGe x49_27 (I 0)) fun x50_28 =>
 jnF 3 (fun z2_29 z1_29 z0_29 h29 =>
 oB (oNil z0_29) fun x67_30 =>
 oB (oFA 6 x67_30) fun x68_31 =>
 oP (oSt 1 h29 x68_31 (Ineg 0)) fun _ h32 =>
 oB (oNil z0_29) fun x69_33 =>
 oB (oFA 7 x69_33) fun x70_34 =>
 oP (oSt 1 h32 x70_34 (.bool false)) fun _ h35 =>
 oB (bAdd z2_29 (I 1)) fun x73_36 =>
 oB (oNil z0_29) fun x75_37 =>
 oB (oFA 2 x75_37) fun x76_38 =>
 oB (oLd h35 x76_38) fun x77_39 =>
 oB (oIx 4 x77_39 z1_29) fun x79_40 =>
 oB (oFA 2 x79_40) fun x80_41 =>
 oB (oLd h35 x80_41) fun x81_42 =>
 oP (call n_parse_parser_wrong [z0_29, (I 8), (I 0), x73_36, x81_42] h35) fun x82_43 h43 =>
 oB (bAdd z1_29 (I 1)) fun x84_44 =>
 some (x84_44, h43)) fun j29 =>
 ci x50_28 (
 oB' (nx 15 h2) fun h45 =>
 oB (oNil x0) fun x53_46 =>
 oB (oFA 4 x53_46) fun x54_47 =>
 oB (oLdN 1 h45 x54_47) fun x55_48 =>
 oB (oNil x0) fun x57_49 =>
 oB (oFA 6 x57_49) fun x58_50 =>
 oB (oLd h45 x58_50) fun x59_51 =>
 oB (bAdd x2 (I 1)) fun x61_52 =>
 oP (call n_arena_Grow [x55_48, x59_51, x61_52] h45) fun x62_53 h53 =>
 oB (oNil x0) fun x63_54 =>
 oB (oFA 4 x63_54) fun x64_55 =>
 oP (oSt 1 h53 x64_55 x62_53) fun _ h56 =>
 j29 x2 x1 x0 h56) (
 j29 x2 x1 x0 h2))
theorem o_parse_parser_mark : FnOK Tryz.prog n_parse_parser_mark (a3 f_parse_parser_mark) := ok3 mixed Tryz.func94 (by kernel_rfl)
/- (*corrector/parse.parser).document -/
noncomputable def f_parse_parser_document (n : Nat) (call : Caller)  (x0 x1 : AV) (h : AH) : Ans :=
 oB (oNil x0) fun x5_0 =>
 oB (oFA 6 x5_0) fun x6_1 =>
 oB (oLd h x6_1) fun x7_2 =>
 oB (bLt x7_2 (I 0)) fun x8_3 =>
 jnF 0 (fun h4 =>
 some (.tup [], h4)) fun j4 =>
 ci x8_3 (
 oP (call n_parse_parser_add [x0, (I 0), (I 2), x1, x1] h) fun x14_5 h5 =>
 oB (oNil x0) fun x15_6 =>
 oB (oFA 6 x15_6) fun x16_7 =>
 oP (oSt 1 h5 x16_7 x14_5) fun _ h8 =>
 oB (oNil x0) fun x17_9 =>
 oB (oFA 7 x17_9) fun x18_10 =>
 oP (oSt 1 h8 x18_10 (.bool false)) fun _ h11 =>
 j4 h11) (
 j4 h)
theorem o_parse_parser_document : FnOK Tryz.prog n_parse_parser_document (a2 f_parse_parser_document) := ok2 mixed Tryz.func95 (by kernel_rfl)
/- corrector/rows.Entries -/
noncomputable def f_rows_Entries (n : Nat) (call : Caller)  (x0 x1 x2 : AV) (h : AH) : Ans :=
 oP (oNew h 56 (AV.cells x1)) fun x4_0 h0 =>
 oP (oNew h0 125 (AV.cells x2)) fun x5_1 h1 =>
 scF n fun m2 => jnF 6 (lpF 6 m2 fun f2 y9_2 y8_2 y7_2 y6_2 y5_2 y4_2 h2 =>
 oB (oLd h2 y8_2) fun x42_3 =>
 oB (oFA 2 y5_2) fun x43_4 =>
 oB (oLd h2 x43_4) fun x44_5 =>
 oB (bLt x42_3 x44_5) fun x45_6 =>
 oB (gq x45_6 true (oLd h2 y4_2)) fun x47_7 =>
 oB (gq x45_6 true (oLd h2 y8_2)) fun x48_8 =>
 oB (gq x45_6 true (oIx 3 x47_7 x48_8)) fun x49_9 =>
 oB (gq x45_6 true (oFA 0 x49_9)) fun x50_10 =>
 oB (gq x45_6 true (oLd h2 x50_10)) fun x51_11 =>
 oB (gq x45_6 true (bEq .no x51_11 (I 5))) fun x52_12 =>
 oB (oPick x45_6 x52_12 (.bool false)) fun x53_13 =>
 ci x53_13 (
 oB' (nx 17 h2) fun h14 =>
 oB (oLd h14 y4_2) fun x55_15 =>
 oB (oLd h14 y8_2) fun x56_16 =>
 oB (oIx 3 x55_15 x56_16) fun x57_17 =>
 oB (oFA 1 x57_17) fun x58_18 =>
 oB (oLd h14 x58_18) fun x59_19 =>
 oB (oLd h14 y4_2) fun x60_20 =>
 oB (oLdN 4 h14 y5_2) fun x61_21 =>
 oP (call n_rows_begin [x60_20, x61_21] h14) fun x62_22 h22 =>
 oB (bSub x59_19 x62_22) fun x63_23 =>
 oB (oLd h22 y8_2) fun x64_24 =>
 oB (oLd h22 y8_2) fun x65_25 =>
 oB (bAdd x65_25 (I 1)) fun x66_26 =>
 oB (oBuild [(.bool false), (I 0), (I 0), (I 0)] [(0, 1, (.bool true)), (1, 1, x63_23), (2, 1, x64_24), (3, 1, x66_26)]) fun x67_27 =>
 fl1 true (evF (.buildSlice 201 4 1 [(.bool false), (I 0), (I 0), (I 0)] [(0, 4, (.c x67_27))]) .e) (Nat.add h2.next 14) fun x68_28 o28 =>
 oB' (lay1 (Nat.add h2.next 14) o28 h22) fun v29 =>
 oP (evW (.append 201 4 32 [(.bool false), (I 0), (I 0), (I 0)] (.c y6_2) (.c x68_28)) .e v29) fun x69_30 h30 =>
 ask1 true (oLd h14 y4_2) x55_15 (
 ask1 true (oLd h22 y4_2) x55_15 (
 ask1 true (oLd h14 y8_2) x56_16 (
 ask1 true (oLd h22 y8_2) x56_16 (
 ask1 true (oLd h14 x58_18) x59_19 (
 ask1 true (oLd h22 x58_18) x59_19 (
 ask1 true (oLd h14 y4_2) x60_20 (
 ask1 true (oLdN 4 h14 y5_2) x61_21 (
 ask1 true (oLd h14 y8_2) x64_24 (
 ask1 true (oLd h22 y8_2) x64_24 (
 ask1 true (oLd h14 y8_2) x65_25 (
 ask1 true (oLd h22 y8_2) x65_25 (
 oB (oLd h30 y8_2) fun x70_31 =>
 oB (bAdd x70_31 (I 1)) fun x71_32 =>
 oP (oSt 1 h30 y8_2 x71_32) fun _ h33 =>
 oB (oLd h33 y8_2) fun x72_34 =>
 oP (wOf (.callV (.c y9_2) []) call .e h33) fun x74_35 h35 =>
 f2 y9_2 y8_2 x72_34 x69_30 y5_2 y4_2 h35))))))))))))) (
 oB (oLd h2 y8_2) fun x75_36 =>
 jnF 6 (fun z10_37 z8_37 z7_37 z6_37 z5_37 z4_37 h37 =>
 oB (oLd h37 z8_37) fun x111_38 =>
 oB (oFA 2 z5_37) fun x112_39 =>
 oB (oLd h37 x112_39) fun x113_40 =>
 oB (bLt x111_38 x113_40) fun x114_41 =>
 oB (gq x114_41 true (oLd h37 z4_37)) fun x116_42 =>
 oB (gq x114_41 true (oLd h37 z8_37)) fun x117_43 =>
 oB (gq x114_41 true (oIx 3 x116_42 x117_43)) fun x118_44 =>
 oB (gq x114_41 true (oFA 0 x118_44)) fun x119_45 =>
 oB (gq x114_41 true (oLd h37 x119_45)) fun x120_46 =>
 oB (gq x114_41 true (bEq .no x120_46 (I 6))) fun x121_47 =>
 oB (oPick x114_41 x121_47 (.bool false)) fun x122_48 =>
 jnF 2 (fun z7_49 z6_49 h49 =>
 oP (call n_slices_Clone_rows_Entry_rows_Entry [z6_49] h49) fun x142_50 h50 =>
 some (.tup [x142_50, z7_49], h50)) fun j49 =>
 ci x122_48 (
 oB' (nx 17 h37) fun h51 =>
 oB (oLd h51 z4_37) fun x124_52 =>
 oB (oIx 3 x124_52 z10_37) fun x126_53 =>
 oB (oFA 1 x126_53) fun x127_54 =>
 oB (oLd h51 x127_54) fun x128_55 =>
 oB (oLd h51 z4_37) fun x129_56 =>
 oB (oLdN 4 h51 z5_37) fun x130_57 =>
 oP (call n_rows_begin [x129_56, x130_57] h51) fun x131_58 h58 =>
 oB (bSub x128_55 x131_58) fun x132_59 =>
 oB (oLd h58 z8_37) fun x134_60 =>
 oB (bAdd x134_60 (I 1)) fun x135_61 =>
 oB (oBuild [(.bool false), (I 0), (I 0), (I 0)] [(0, 1, (.bool false)), (1, 1, x132_59), (2, 1, z10_37), (3, 1, x135_61)]) fun x136_62 =>
 fl1 true (evF (.buildSlice 201 4 1 [(.bool false), (I 0), (I 0), (I 0)] [(0, 4, (.c x136_62))]) .e) (Nat.add h37.next 14) fun x137_63 o63 =>
 oB' (lay1 (Nat.add h37.next 14) o63 h58) fun v64 =>
 oP (evW (.append 201 4 32 [(.bool false), (I 0), (I 0), (I 0)] (.c z6_37) (.c x137_63)) .e v64) fun x138_65 h65 =>
 ask1 true (oLd h51 z4_37) x124_52 (
 ask1 true (oLd h58 z4_37) x124_52 (
 ask1 true (oLd h51 x127_54) x128_55 (
 ask1 true (oLd h58 x127_54) x128_55 (
 ask1 true (oLd h51 z4_37) x129_56 (
 ask1 true (oLdN 4 h51 z5_37) x130_57 (
 ask1 true (oLd h51 z8_37) x134_60 (
 ask1 true (oLd h58 z8_37) x134_60 (
 oB (oLd h65 z8_37) fun x139_66 =>
 oB (bAdd x139_66 (I 1)) fun x140_67 =>
 j49 x140_67 x138_65 h65))))))))) (
 j49 z7_37 z6_37 h37)) fun j37 =>
 lpF 8 n (fun f68 y11_68 y10_68 y9_68 y8_68 y7_68 y6_68 y5_68 y4_68 h68 =>
 oB (oLd h68 y8_68) fun x76_69 =>
 oB (oFA 2 y5_68) fun x77_70 =>
 oB (oLd h68 x77_70) fun x78_71 =>
 oB (bLt x76_69 x78_71) fun x79_72 =>
 oB (gq x79_72 true (oLd h68 y4_68)) fun x81_73 =>
 oB (gq x79_72 true (oLd h68 y8_68)) fun x82_74 =>
 oB (gq x79_72 true (oIx 3 x81_73 x82_74)) fun x83_75 =>
 oB (gq x79_72 true (oLdN 3 h68 x83_75)) fun x84_76 =>
 oP (gw x79_72 true (call n_rows_property [x84_76] h68) h68) fun x85_77 h77 =>
 oB (gq x79_72 true (some x85_77)) fun x86_78 =>
 oB (gq x86_78 true (some y11_68)) fun x87_79 =>
 oB (gq x86_78 true (evQ (.un .not (.c x87_79)) .e h77)) fun x88_80 =>
 oB (gq x79_72 true (oPick x86_78 x88_80 (.bool false))) fun x89_81 =>
 oB (gq x79_72 true (some x89_81)) fun x90_82 =>
 oB (gq x90_82 false (oLd h77 y4_68)) fun x91_83 =>
 oB (gq x90_82 false (oLd h77 y8_68)) fun x92_84 =>
 oB (gq x90_82 false (oIx 3 x91_83 x92_84)) fun x93_85 =>
 oB (gq x90_82 false (oLdN 3 h77 x93_85)) fun x94_86 =>
 oP (gw x90_82 false (call n_rows_name [x94_86] h77) h77) fun x95_87 h87 =>
 oB (gq x90_82 false (some x95_87)) fun x96_88 =>
 oB (gq x96_88 true (some y11_68)) fun x97_89 =>
 oB (gq x96_88 true (evQ (.un .not (.c x97_89)) .e h87)) fun x98_90 =>
 oB (gq x90_82 false (oPick x96_88 x98_90 (.bool false))) fun x99_91 =>
 oB (gq x79_72 true (oPick x90_82 (.bool true) x99_91)) fun x100_92 =>
 oB (oPick x79_72 x100_92 (.bool false)) fun x101_93 =>
 ci x101_93 (
 jnF 8 (fun z11_94 z10_94 z9_94 z8_94 z7_94 z6_94 z5_94 z4_94 h94 =>
 f68 z11_94 z10_94 z9_94 z8_94 z7_94 z6_94 z5_94 z4_94 h94) fun j94 =>
 oB (oLd h87 y4_68) fun x102_95 =>
 oB (oLd h87 y8_68) fun x103_96 =>
 oB (oIx 3 x102_95 x103_96) fun x104_97 =>
 oB (oLdN 3 h87 x104_97) fun x105_98 =>
 oP (call n_rows_name [x105_98] h87) fun x106_99 h99 =>
 oB (oLd h99 y8_68) fun x107_100 =>
 oB (bAdd x107_100 (I 1)) fun x108_101 =>
 oP (oSt 1 h99 y8_68 x108_101) fun _ h102 =>
 oP (wOf (.callV (.c y9_68) []) call .e h102) fun x110_103 h103 =>
 j94 x106_99 y10_68 y9_68 y8_68 y7_68 y6_68 y5_68 y4_68 h103) (
 j37 y10_68 y8_68 y7_68 y6_68 y5_68 y4_68 h87)) (.bool false) x75_36 y9_2 y8_2 y7_2 y6_2 y5_2 y4_2 h2)) fun f2 =>
 oB (oFA 0 x5_1) fun x12_104 =>
 oB (oLd h1 x12_104) fun x13_105 =>
 oB (bNe .no x13_105 (I 5)) fun x14_106 =>
 oB (gq x14_106 false (oFA 1 x5_1)) fun x16_107 =>
 oB (gq x14_106 false (oLd h1 x16_107)) fun x17_108 =>
 oB (gq x14_106 false (bLt x17_108 (I 0))) fun x18_109 =>
 oB (oPick x14_106 (.bool true) x18_109) fun x19_110 =>
 oB (gq x19_110 false (oFA 2 x5_1)) fun x21_111 =>
 oB (gq x19_110 false (oLd h1 x21_111)) fun x22_112 =>
 oB (gq x19_110 false (oLd h1 x4_0)) fun x23_113 =>
 oB (gq x19_110 false (oLen x23_113)) fun x24_114 =>
 oB (gq x19_110 false (bGt x22_112 x24_114)) fun x25_115 =>
 oB (oPick x19_110 (.bool true) x25_115) fun x26_116 =>
 oB (gq x26_116 false (oFA 1 x5_1)) fun x28_117 =>
 oB (gq x26_116 false (oLd h1 x28_117)) fun x29_118 =>
 oB (gq x26_116 false (oFA 2 x5_1)) fun x30_119 =>
 oB (gq x26_116 false (oLd h1 x30_119)) fun x31_120 =>
 oB (gq x26_116 false (bGe x29_118 x31_120)) fun x32_121 =>
 oB (oPick x26_116 (.bool true) x32_121) fun x33_122 =>
 ci x33_122 (
 oB' (nx 4 h1) fun h123 =>
 oB (oFA 1 x5_1) fun x34_124 =>
 oB (oLd h123 x34_124) fun x35_125 =>
 some (.tup [.nils, x35_125], h123)) (
 oB (oFA 1 x5_1) fun x36_126 =>
 oB (oLd h1 x36_126) fun x37_127 =>
 oP (oNew h1 3 [(I 0)]) fun x8_128 h128 =>
 oP (oSt 1 h128 x8_128 x37_127) fun _ h129 =>
 oB (some (.fn n_rows_Entries_1 [] [x8_128, x5_1, x4_0])) fun x38_130 =>
 oP (wOf (.callV (.c x38_130) []) call .e h129) fun x40_131 h131 =>
 oB (oLd h131 x8_128) fun x41_132 =>
 oB (oLd h131 x8_128) fun x42_133 =>
 oB (oFA 2 x5_1) fun x43_134 =>
 oB (oLd h131 x43_134) fun x44_135 =>
 oB (bLt x42_133 x44_135) fun x45_136 =>
 oB (gq x45_136 true (oLd h131 x4_0)) fun x47_137 =>
 oB (gq x45_136 true (oLd h131 x8_128)) fun x48_138 =>
 oB (gq x45_136 true (oIx 3 x47_137 x48_138)) fun x49_139 =>
 oB (gq x45_136 true (oFA 0 x49_139)) fun x50_140 =>
 oB (gq x45_136 true (oLd h131 x50_140)) fun x51_141 =>
 oB (gq x45_136 true (bEq .no x51_141 (I 5))) fun x52_142 =>
 oB (oPick x45_136 x52_142 (.bool false)) fun x53_143 =>
 ci x53_143 (
 oB' (nx 17 h131) fun h144 =>
 oB (oLd h144 x4_0) fun x55_145 =>
 oB (oLd h144 x8_128) fun x56_146 =>
 oB (oIx 3 x55_145 x56_146) fun x57_147 =>
 oB (oFA 1 x57_147) fun x58_148 =>
 oB (oLd h144 x58_148) fun x59_149 =>
 oB (oLd h144 x4_0) fun x60_150 =>
 oB (oLdN 4 h144 x5_1) fun x61_151 =>
 oP (call n_rows_begin [x60_150, x61_151] h144) fun x62_152 h152 =>
 oB (bSub x59_149 x62_152) fun x63_153 =>
 oB (oLd h152 x8_128) fun x64_154 =>
 oB (oLd h152 x8_128) fun x65_155 =>
 oB (bAdd x65_155 (I 1)) fun x66_156 =>
 oB (oBuild [(.bool false), (I 0), (I 0), (I 0)] [(0, 1, (.bool true)), (1, 1, x63_153), (2, 1, x64_154), (3, 1, x66_156)]) fun x67_157 =>
 fl1 true (evF (.buildSlice 201 4 1 [(.bool false), (I 0), (I 0), (I 0)] [(0, 4, (.c x67_157))]) .e) (Nat.add h131.next 14) fun x68_158 o158 =>
 oB' (lay1 (Nat.add h131.next 14) o158 h152) fun v159 =>
 oP (evW (.append 201 4 32 [(.bool false), (I 0), (I 0), (I 0)] (.c .nils) (.c x68_158)) .e v159) fun x69_160 h160 =>
 ask1 true (oLd h144 x4_0) x55_145 (
 ask1 true (oLd h152 x4_0) x55_145 (
 ask1 true (oLd h144 x8_128) x56_146 (
 ask1 true (oLd h152 x8_128) x56_146 (
 ask1 true (oLd h144 x58_148) x59_149 (
 ask1 true (oLd h152 x58_148) x59_149 (
 ask1 true (oLd h144 x4_0) x60_150 (
 ask1 true (oLdN 4 h144 x5_1) x61_151 (
 ask1 true (oLd h144 x8_128) x64_154 (
 ask1 true (oLd h152 x8_128) x64_154 (
 ask1 true (oLd h144 x8_128) x65_155 (
 ask1 true (oLd h152 x8_128) x65_155 (
 oB (oLd h160 x8_128) fun x70_161 =>
 oB (bAdd x70_161 (I 1)) fun x71_162 =>
 oP (oSt 1 h160 x8_128 x71_162) fun _ h163 =>
 oB (oLd h163 x8_128) fun x72_164 =>
 oP (wOf (.callV (.c x38_130) []) call .e h163) fun x74_165 h165 =>
 f2 x38_130 x8_128 x72_164 x69_160 x5_1 x4_0 h165))))))))))))) (
 oB (oLd h131 x8_128) fun x75_166 =>
 jnF 6 (fun z10_167 z8_167 z7_167 z6_167 z5_167 z4_167 h167 =>
 oB (oLd h167 z8_167) fun x111_168 =>
 oB (oFA 2 z5_167) fun x112_169 =>
 oB (oLd h167 x112_169) fun x113_170 =>
 oB (bLt x111_168 x113_170) fun x114_171 =>
 oB (gq x114_171 true (oLd h167 z4_167)) fun x116_172 =>
 oB (gq x114_171 true (oLd h167 z8_167)) fun x117_173 =>
 oB (gq x114_171 true (oIx 3 x116_172 x117_173)) fun x118_174 =>
 oB (gq x114_171 true (oFA 0 x118_174)) fun x119_175 =>
 oB (gq x114_171 true (oLd h167 x119_175)) fun x120_176 =>
 oB (gq x114_171 true (bEq .no x120_176 (I 6))) fun x121_177 =>
 oB (oPick x114_171 x121_177 (.bool false)) fun x122_178 =>
 jnF 2 (fun z7_179 z6_179 h179 =>
 oP (call n_slices_Clone_rows_Entry_rows_Entry [z6_179] h179) fun x142_180 h180 =>
 some (.tup [x142_180, z7_179], h180)) fun j179 =>
 ci x122_178 (
 oB' (nx 17 h167) fun h181 =>
 oB (oLd h181 z4_167) fun x124_182 =>
 oB (oIx 3 x124_182 z10_167) fun x126_183 =>
 oB (oFA 1 x126_183) fun x127_184 =>
 oB (oLd h181 x127_184) fun x128_185 =>
 oB (oLd h181 z4_167) fun x129_186 =>
 oB (oLdN 4 h181 z5_167) fun x130_187 =>
 oP (call n_rows_begin [x129_186, x130_187] h181) fun x131_188 h188 =>
 oB (bSub x128_185 x131_188) fun x132_189 =>
 oB (oLd h188 z8_167) fun x134_190 =>
 oB (bAdd x134_190 (I 1)) fun x135_191 =>
 oB (oBuild [(.bool false), (I 0), (I 0), (I 0)] [(0, 1, (.bool false)), (1, 1, x132_189), (2, 1, z10_167), (3, 1, x135_191)]) fun x136_192 =>
 fl1 true (evF (.buildSlice 201 4 1 [(.bool false), (I 0), (I 0), (I 0)] [(0, 4, (.c x136_192))]) .e) (Nat.add h167.next 14) fun x137_193 o193 =>
 oB' (lay1 (Nat.add h167.next 14) o193 h188) fun v194 =>
 oP (evW (.append 201 4 32 [(.bool false), (I 0), (I 0), (I 0)] (.c z6_167) (.c x137_193)) .e v194) fun x138_195 h195 =>
 ask1 true (oLd h181 z4_167) x124_182 (
 ask1 true (oLd h188 z4_167) x124_182 (
 ask1 true (oLd h181 x127_184) x128_185 (
 ask1 true (oLd h188 x127_184) x128_185 (
 ask1 true (oLd h181 z4_167) x129_186 (
 ask1 true (oLdN 4 h181 z5_167) x130_187 (
 ask1 true (oLd h181 z8_167) x134_190 (
 ask1 true (oLd h188 z8_167) x134_190 (
 oB (oLd h195 z8_167) fun x139_196 =>
 oB (bAdd x139_196 (I 1)) fun x140_197 =>
 j179 x140_197 x138_195 h195))))))))) (
 j179 z7_167 z6_167 h167)) fun j167 =>
 lpF 8 n (fun f198 y11_198 y10_198 y9_198 y8_198 y7_198 y6_198 y5_198 y4_198 h198 =>
 oB (oLd h198 y8_198) fun x76_199 =>
 oB (oFA 2 y5_198) fun x77_200 =>
 oB (oLd h198 x77_200) fun x78_201 =>
 oB (bLt x76_199 x78_201) fun x79_202 =>
 oB (gq x79_202 true (oLd h198 y4_198)) fun x81_203 =>
 oB (gq x79_202 true (oLd h198 y8_198)) fun x82_204 =>
 oB (gq x79_202 true (oIx 3 x81_203 x82_204)) fun x83_205 =>
 oB (gq x79_202 true (oLdN 3 h198 x83_205)) fun x84_206 =>
 oP (gw x79_202 true (call n_rows_property [x84_206] h198) h198) fun x85_207 h207 =>
 oB (gq x79_202 true (some x85_207)) fun x86_208 =>
 oB (gq x86_208 true (some y11_198)) fun x87_209 =>
 oB (gq x86_208 true (evQ (.un .not (.c x87_209)) .e h207)) fun x88_210 =>
 oB (gq x79_202 true (oPick x86_208 x88_210 (.bool false))) fun x89_211 =>
 oB (gq x79_202 true (some x89_211)) fun x90_212 =>
 oB (gq x90_212 false (oLd h207 y4_198)) fun x91_213 =>
 oB (gq x90_212 false (oLd h207 y8_198)) fun x92_214 =>
 oB (gq x90_212 false (oIx 3 x91_213 x92_214)) fun x93_215 =>
 oB (gq x90_212 false (oLdN 3 h207 x93_215)) fun x94_216 =>
 oP (gw x90_212 false (call n_rows_name [x94_216] h207) h207) fun x95_217 h217 =>
 oB (gq x90_212 false (some x95_217)) fun x96_218 =>
 oB (gq x96_218 true (some y11_198)) fun x97_219 =>
 oB (gq x96_218 true (evQ (.un .not (.c x97_219)) .e h217)) fun x98_220 =>
 oB (gq x90_212 false (oPick x96_218 x98_220 (.bool false))) fun x99_221 =>
 oB (gq x79_202 true (oPick x90_212 (.bool true) x99_221)) fun x100_222 =>
 oB (oPick x79_202 x100_222 (.bool false)) fun x101_223 =>
 ci x101_223 (
 jnF 8 (fun z11_224 z10_224 z9_224 z8_224 z7_224 z6_224 z5_224 z4_224 h224 =>
 f198 z11_224 z10_224 z9_224 z8_224 z7_224 z6_224 z5_224 z4_224 h224) fun j224 =>
 oB (oLd h217 y4_198) fun x102_225 =>
 oB (oLd h217 y8_198) fun x103_226 =>
 oB (oIx 3 x102_225 x103_226) fun x104_227 =>
 oB (oLdN 3 h217 x104_227) fun x105_228 =>
 oP (call n_rows_name [x105_228] h217) fun x106_229 h229 =>
 oB (oLd h229 y8_198) fun x107_230 =>
 oB (bAdd x107_230 (I 1)) fun x108_231 =>
 oP (oSt 1 h229 y8_198 x108_231) fun _ h232 =>
 oP (wOf (.callV (.c y9_198) []) call .e h232) fun x110_233 h233 =>
 j224 x106_229 y10_198 y9_198 y8_198 y7_198 y6_198 y5_198 y4_198 h233) (
 j167 y10_198 y8_198 y7_198 y6_198 y5_198 y4_198 h217)) (.bool false) x75_166 x38_130 x8_128 x41_132 .nils x5_1 x4_0 h131))
theorem o_rows_Entries : FnOK Tryz.prog n_rows_Entries (a3 f_rows_Entries) := ok3 mixed Tryz.func96 (by kernel_rfl)
/- (*corrector/parse.parser).loose -/
noncomputable def f_parse_parser_loose (n : Nat) (call : Caller)  (x0 x1 x2 : AV) (h : AH) : Ans :=
 oB (oNil x0) fun x14_0 =>
 oB (oFA 2 x14_0) fun x15_1 =>
 oB (oLd h x15_1) fun x16_2 =>
 oB (oIx 4 x16_2 x1) fun x18_3 =>
 oB (oLdN 4 h x18_3) fun x19_4 =>
 oP (oNew h 125 [(I 0), (I 0), (I 0), (I 0)]) fun x7_5 h5 =>
 oP (oSt 4 h5 x7_5 x19_4) fun _ h6 =>
 oB (oNil x0) fun x21_7 =>
 oB (oFA 8 x21_7) fun x22_8 =>
 oB (oLd h6 x22_8) fun x23_9 =>
 oB (oLen x23_9) fun x24_10 =>
 oB (bSub x24_10 (I 1)) fun x25_11 =>
 jnF 5 (fun z8_12 z7_12 z2_12 z1_12 z0_12 h12 =>
 oB' (nx 9 h12) fun h13 =>
 oB (oNil z0_12) fun x44_14 =>
 oB (oFA 7 x44_14) fun x45_15 =>
 oB (oNil z0_12) fun x47_16 =>
 oB (oFA 6 x47_16) fun x48_17 =>
 oB (oLd h13 x48_17) fun x49_18 =>
 oB (bGe z8_12 (I 0)) fun x51_19 =>
 jnF 7 (fun z10_20 z9_20 z8_20 z7_20 z2_20 z1_20 z0_20 h20 =>
 oB (oNil z9_20) fun x68_21 =>
 oB (oLd h20 x68_21) fun x69_22 =>
 ci x69_22 (
 oB (oFA 1 z7_20) fun x71_23 =>
 oB (oLd h20 x71_23) fun x72_24 =>
 oB (oFA 2 z7_20) fun x73_25 =>
 oB (oLd h20 x73_25) fun x74_26 =>
 oP (call n_parse_parser_amiss [z0_20, (I 7), x72_24, x74_26] h20) fun x75_27 h27 =>
 oB (bAdd z1_20 (I 1)) fun x77_28 =>
 some (x77_28, h27)) (
 oB (oNil z0_20) fun x80_29 =>
 oB (oFA 8 x80_29) fun x81_30 =>
 oB (oLd h20 x81_30) fun x82_31 =>
 oB (bAdd z8_20 (I 1)) fun x84_32 =>
 oB (evQ (.sl 5 (.c x82_31) none (some (.c x84_32)) none) .e h20) fun x85_33 =>
 oB (oNil z0_20) fun x86_34 =>
 oB (oFA 8 x86_34) fun x87_35 =>
 oP (oSt 1 h20 x87_35 x85_33) fun _ h36 =>
 oP (call n_parse_parser_value [z0_20, z1_20, z10_20, z2_20] h36) fun x93_37 h37 =>
 oB (oEx 0 x93_37) fun x94_38 =>
 oB (oEx 1 x93_37) fun x95_39 =>
 oB (oNil z9_20) fun x98_40 =>
 oP (oSt 1 h37 x98_40 x94_38) fun _ h41 =>
 some (x95_39, h41))) fun j20 =>
 ci x51_19 (
 oB' (nx 17 h13) fun h42 =>
 oB (oNil z0_12) fun x53_43 =>
 oB (oFA 8 x53_43) fun x54_44 =>
 oB (oLd h42 x54_44) fun x55_45 =>
 oB (oIx 5 x55_45 z8_12) fun x57_46 =>
 oB (oFA 4 x57_46) fun x58_47 =>
 oB (oNil z0_12) fun x60_48 =>
 oB (oFA 8 x60_48) fun x61_49 =>
 oB (oLd h42 x61_49) fun x62_50 =>
 oB (oIx 5 x62_50 z8_12) fun x64_51 =>
 oB (oFA 3 x64_51) fun x65_52 =>
 oB (oLd h42 x65_52) fun x66_53 =>
 j20 x66_53 x58_47 z8_12 z7_12 z2_12 z1_12 z0_12 h42) (
 j20 x49_18 x45_15 z8_12 z7_12 z2_12 z1_12 z0_12 h13)) fun j12 =>
 lpF 5 n (fun f54 y8_54 y7_54 y2_54 y1_54 y0_54 h54 =>
 oB' (nx 15 h54) fun h55 =>
 oB (bGe y8_54 (I 0)) fun x27_56 =>
 oB (gq x27_56 true (some y0_54)) fun x29_57 =>
 oB (gq x27_56 true (oNil x29_57)) fun x30_58 =>
 oB (gq x27_56 true (oFA 8 x30_58)) fun x31_59 =>
 oB (gq x27_56 true (oLd h55 x31_59)) fun x32_60 =>
 oB (gq x27_56 true (some y8_54)) fun x33_61 =>
 oB (gq x27_56 true (oIx 5 x32_60 x33_61)) fun x34_62 =>
 oB (gq x27_56 true (oFA 2 x34_62)) fun x35_63 =>
 oB (gq x27_56 true (oLd h55 x35_63)) fun x36_64 =>
 oB (gq x27_56 true (oFA 3 y7_54)) fun x37_65 =>
 oB (gq x27_56 true (oLd h55 x37_65)) fun x38_66 =>
 oB (gq x27_56 true (bGe x36_64 x38_66)) fun x39_67 =>
 oB (oPick x27_56 x39_67 (.bool false)) fun x40_68 =>
 ci x40_68 (
 jnF 5 (fun z8_69 z7_69 z2_69 z1_69 z0_69 h69 =>
 f54 z8_69 z7_69 z2_69 z1_69 z0_69 h69) fun j69 =>
 oB (bSub y8_54 (I 1)) fun x42_70 =>
 j69 x42_70 y7_54 y2_54 y1_54 y0_54 h55) (
 j12 y8_54 y7_54 y2_54 y1_54 y0_54 h55)) x25_11 x7_5 x2 x1 x0 h6
theorem o_parse_parser_loose : FnOK Tryz.prog n_parse_parser_loose (a3 f_parse_parser_loose) := ok3 mixed Tryz.func97 (by kernel_rfl)
/- (*corrector/parse.parser).entries -/
noncomputable def f_parse_parser_entries (n : Nat) (call : Caller)  (x0 x1 x2 x3 : AV) (h : AH) : Ans :=
 oB (oNil x0) fun x18_0 =>
 oB (oFA 2 x18_0) fun x19_1 =>
 oB (oLd h x19_1) fun x20_2 =>
 oB (oIx 4 x20_2 x1) fun x22_3 =>
 oB (oLdN 4 h x22_3) fun x23_4 =>
 oP (oNew h 125 [(I 0), (I 0), (I 0), (I 0)]) fun x9_5 h5 =>
 oP (oSt 4 h5 x9_5 x23_4) fun _ h6 =>
 oB (oLen x2) fun x25_7 =>
 jnF 4 (fun z9_8 z3_8 z1_8 z0_8 h8 =>
 oB (oFA 2 z9_8) fun x47_9 =>
 oB (oLd h8 x47_9) fun x48_10 =>
 oP (call n_parse_parser_first [z0_8, z3_8, x48_10] h8) fun x49_11 h11 =>
 oB (oFA 2 z9_8) fun x51_12 =>
 oB (oLd h11 x51_12) fun x52_13 =>
 oB (bEq .no x49_11 x52_13) fun x53_14 =>
 ci x53_14 (
 oB (bAdd z1_8 (I 1)) fun x55_15 =>
 some (x55_15, h11)) (
 oB' (nx 12 h11) fun h16 =>
 oB (oNil z0_8) fun x57_17 =>
 oB (oFA 8 x57_17) fun x58_18 =>
 oB (oLd h16 x58_18) fun x59_19 =>
 oB (oNil z0_8) fun x61_20 =>
 oB (oFA 8 x61_20) fun x62_21 =>
 oB (oLd h16 x62_21) fun x63_22 =>
 oB (oLen x63_22) fun x64_23 =>
 oB (bSub x64_23 (I 1)) fun x65_24 =>
 oB (oIx 5 x59_19 x65_24) fun x66_25 =>
 oB (oNil x66_25) fun x71_26 =>
 oB (oFA 3 x71_26) fun x72_27 =>
 oB (oLd h16 x72_27) fun x73_28 =>
 oP (call n_parse_parser_value [z0_8, z1_8, x73_28, x49_11] h16) fun x75_29 h29 =>
 oB (oEx 0 x75_29) fun x76_30 =>
 oB (oEx 1 x75_29) fun x77_31 =>
 oB (oNil x66_25) fun x80_32 =>
 oB (oFA 4 x80_32) fun x81_33 =>
 oP (oSt 1 h29 x81_33 x76_30) fun _ h34 =>
 some (x77_31, h34))) fun j8 =>
 lpF 7 n (fun f35 y26_35 y25_35 y24_35 y9_35 y3_35 y1_35 y0_35 h35 =>
 oB (bLt y26_35 y25_35) fun x27_36 =>
 ci x27_36 (
 jnF 7 (fun z26_37 z25_37 z24_37 z9_37 z3_37 z1_37 z0_37 h37 =>
 oB (bAdd z26_37 (I 1)) fun x44_38 =>
 f35 x44_38 z25_37 z24_37 z9_37 z3_37 z1_37 z0_37 h37) fun j37 =>
 oB (oIx 4 y24_35 y26_35) fun x28_39 =>
 oB (oLdN 4 h35 x28_39) fun x29_40 =>
 oP (oNew h35 201 [(.bool false), (I 0), (I 0), (I 0)]) fun x11_41 h41 =>
 oP (oSt 4 h41 x11_41 x29_40) fun _ h42 =>
 oB (oLdN 4 h42 x11_41) fun x31_43 =>
 oP (call n_parse_parser_place [y0_35, x31_43] h42) fun x32_44 h44 =>
 oB (bNe .no x32_44 (I 0)) fun x34_45 =>
 ci x34_45 (
 oB (oFA 2 x11_41) fun x37_46 =>
 oB (oLd h44 x37_46) fun x38_47 =>
 oB (oFA 2 y9_35) fun x39_48 =>
 oB (oLd h44 x39_48) fun x40_49 =>
 oP (call n_parse_parser_amiss [y0_35, x32_44, x38_47, x40_49] h44) fun x41_50 h50 =>
 oB (bAdd y1_35 (I 1)) fun x43_51 =>
 some (x43_51, h50)) (
 j37 y26_35 y25_35 y24_35 y9_35 y3_35 y1_35 y0_35 h44)) (
 j8 y9_35 y3_35 y1_35 y0_35 h35)) (I 0) x25_7 x2 x9_5 x3 x1 x0 h6
theorem o_parse_parser_entries : FnOK Tryz.prog n_parse_parser_entries (a4 f_parse_parser_entries) := ok4 mixed Tryz.func98 (by kernel_rfl)
/- corrector/runes.Bad -/
noncomputable def f_runes_Bad (n : Nat) (call : Caller)  (x0 : AV) (h : AH) : Ans :=
 jnF 1 (fun z3_0 h0 =>
 oP (evW (.append 3 1 8 [(I 0)] (.c .nils) (.c z3_0)) .e h0) fun x28_1 h1 =>
 some (x28_1, h1)) fun j0 =>
 lpF 3 n (fun f2 y4_2 y3_2 y0_2 h2 =>
 oB (oLen y0_2) fun x9_3 =>
 oB (bLt y4_2 x9_3) fun x10_4 =>
 ci x10_4 (
 jnF 3 (fun z4_5 z3_5 z0_5 h5 =>
 f2 z4_5 z3_5 z0_5 h5) fun j5 =>
 oB (evQ (.sl 1 (.c y0_2) (some (.c y4_2)) none none) .e h2) fun x14_6 =>
 oP (call n_runes_Next [x14_6] h2) fun x15_7 h7 =>
 oB (oEx 0 x15_7) fun x16_8 =>
 oB (oEx 1 x15_7) fun x17_9 =>
 oB (bLt x16_8 (R 0)) fun x19_10 =>
 jnF 4 (fun z6_11 z4_11 z3_11 z0_11 h11 =>
 oB (bAdd z4_11 z6_11) fun x26_12 =>
 j5 x26_12 z3_11 z0_11 h11) fun j11 =>
 ci x19_10 (
 oP (oBuildSl h7 3 1 1 [(I 0)] [(0, 1, y4_2)]) fun x22_13 h13 =>
 oP (evW (.append 3 1 8 [(I 0)] (.c y3_2) (.c x22_13)) .e h13) fun x23_14 h14 =>
 j11 x17_9 y4_2 x23_14 y0_2 h14) (
 j11 x17_9 y4_2 y3_2 y0_2 h7)) (
 j0 y3_2 h2)) (I 0) .nils x0 h
theorem o_runes_Bad : FnOK Tryz.prog n_runes_Bad (a1 f_runes_Bad) := ok1 mixed Tryz.func99 (by kernel_rfl)
end Go.Proofs.YtahpoedbdhhdfaaGreatDoor
