/- Functions, as they run. PRINTED by a program of this repo. -/
import Derived.Test.YtmlhpcflphlgdaaGreatDoorN
import Derived.Test.YtmlhpcflphlgdaaGreatDoorM
set_option linter.unusedVariables false
set_option maxRecDepth 100000
namespace Go.Proofs.YtmlhpcflphlgdaaGreatDoor
open Go.Ev
/- (*corrector/suggest.mender).open$1 -/
noncomputable def f_suggest_mender_open_1 (n : Nat) (call : Caller)  (x0 x1 : AV) (h : AH) : Ans :=
 oP (oNew h 92 (AV.cells x0)) fun x2_0 h0 =>
 oB (oFA 1 x2_0) fun x4_1 =>
 oB (oLd h0 x4_1) fun x5_2 =>
 oB (oLd h0 x1) fun x6_3 =>
 oB (bEq .no x5_2 x6_3) fun x7_4 =>
 oB (gq x7_4 true (oFA 0 x2_0)) fun x9_5 =>
 oB (gq x7_4 true (oLd h0 x9_5)) fun x10_6 =>
 oB (gq x7_4 true (bEq .no x10_6 (I 8))) fun x11_7 =>
 oB (gq x7_4 true (some x11_7)) fun x12_8 =>
 oB (gq x12_8 false (oFA 0 x2_0)) fun x13_9 =>
 oB (gq x12_8 false (oLd h0 x13_9)) fun x14_10 =>
 oB (gq x12_8 false (bEq .no x14_10 (I 9))) fun x15_11 =>
 oB (gq x7_4 true (oPick x12_8 (.bool true) x15_11)) fun x16_12 =>
 oB (oPick x7_4 x16_12 (.bool false)) fun x17_13 =>
 some (x17_13, h0)
theorem o_suggest_mender_open_1 : FnOK Tryz.prog n_suggest_mender_open_1 (a2 f_suggest_mender_open_1) := ok2 mixed Tryz.func353 (by kernel_rfl)
/- corrector/suggest.counts -/
noncomputable def f_suggest_counts (n : Nat) (call : Caller)  (x0 : AV) (h : AH) : Ans :=
 oP (oNew h 92 (AV.cells x0)) fun x1_0 h0 =>
 oB (oFA 0 x1_0) fun x3_1 =>
 oB (oLd h0 x3_1) fun x4_2 =>
 jnF 0 (fun h3 =>
 some ((.bool true), h3)) fun j3 =>
 oB (bEq .no x4_2 (I 1)) fun x6_4 =>
 jnF 1 (fun z5_5 h5 =>
 ci z5_5 (
 some ((.bool false), h5)) (
 j3 h5)) fun j5 =>
 ci x6_4 (
 j5 x6_4 h0) (
 oB (bEq .no x4_2 (I 2)) fun x7_6 =>
 jnF 1 (fun z5_7 h7 =>
 j5 z5_7 h7) fun j7 =>
 ci x7_6 (
 j7 x7_6 h0) (
 oB (bEq .no x4_2 (I 3)) fun x8_8 =>
 jnF 1 (fun z5_9 h9 =>
 j7 z5_9 h9) fun j9 =>
 ci x8_8 (
 j9 x8_8 h0) (
 oB (bEq .no x4_2 (I 4)) fun x9_10 =>
 j9 x9_10 h0)))
theorem o_suggest_counts : FnOK Tryz.prog n_suggest_counts (a1 f_suggest_counts) := ok1 mixed Tryz.func354 (by kernel_rfl)
/- math/bits.TrailingZeros32 -/
noncomputable def f_math_bits_TrailingZeros32 (n : Nat) (call : Caller)  (x0 : AV) (h : AH) : Ans :=
 oB (bEq .no x0 (.int .u32 0)) fun x4_0 =>
 ci x4_0 (
 some ((I 32), h)) (
 oB (evQ (.un .neg (.c x0)) .e h) fun x7_1 =>
 oB (binAV .and .no x0 x7_1) fun x8_2 =>
 oB (binAV .mul .no x8_2 (.int .u32 125613361)) fun x9_3 =>
 oB (binAV .shr .no x9_3 (.int .u64 27)) fun x10_4 =>
 oB (evQ (.bad) .e h) fun x11_5 =>
 oB (oLd h x11_5) fun x12_6 =>
 oB (oInt .i64 x12_6) fun x13_7 =>
 some (x13_7, h))
theorem o_math_bits_TrailingZeros32 : FnOK Tryz.prog n_math_bits_TrailingZeros32 (a1 f_math_bits_TrailingZeros32) := ok1 mixed Tryz.func355 (by kernel_rfl)
/- math/bits.TrailingZeros64 -/
noncomputable def f_math_bits_TrailingZeros64 (n : Nat) (call : Caller)  (x0 : AV) (h : AH) : Ans :=
 oB (bEq .no x0 (.int .u64 0)) fun x4_0 =>
 ci x4_0 (
 some ((I 64), h)) (
 oB (evQ (.un .neg (.c x0)) .e h) fun x7_1 =>
 oB (binAV .and .no x0 x7_1) fun x8_2 =>
 oB (binAV .mul .no x8_2 (.int .u64 285870213051353865)) fun x9_3 =>
 oB (binAV .shr .no x9_3 (.int .u64 58)) fun x10_4 =>
 oB (evQ (.bad) .e h) fun x11_5 =>
 oB (oLd h x11_5) fun x12_6 =>
 oB (oInt .i64 x12_6) fun x13_7 =>
 some (x13_7, h))
theorem o_math_bits_TrailingZeros64 : FnOK Tryz.prog n_math_bits_TrailingZeros64 (a1 f_math_bits_TrailingZeros64) := ok1 mixed Tryz.func356 (by kernel_rfl)
/- (*corrector/flow.reader).blanks -/
noncomputable def f_flow_reader_blanks (n : Nat) (call : Caller)  (x0 x1 : AV) (h : AH) : Ans :=
 jnF 1 (fun z1_0 h0 =>
 some (z1_0, h0)) fun j0 =>
 lpF 2 n (fun f1 y1_1 y0_1 h1 =>
 oP (call n_flow_reader_kind [y0_1, y1_1] h1) fun x7_2 h2 =>
 oB (bEq .no x7_2 (I 3)) fun x8_3 =>
 ci x8_3 (
 jnF 2 (fun z1_4 z0_4 h4 =>
 f1 z1_4 z0_4 h4) fun j4 =>
 oB (bAdd y1_1 (I 1)) fun x10_5 =>
 j4 x10_5 y0_1 h2) (
 j0 y1_1 h2)) x1 x0 h
theorem o_flow_reader_blanks : FnOK Tryz.prog n_flow_reader_blanks (a2 f_flow_reader_blanks) := ok2 mixed Tryz.func357 (by kernel_rfl)
/- corrector/flow.property -/
noncomputable def f_flow_property (n : Nat) (call : Caller)  (x0 : AV) (h : AH) : Ans :=
 oB (bEq .no x0 (I 12)) fun x4_0 =>
 oB (gq x4_0 false (some x0)) fun x6_1 =>
 oB (gq x4_0 false (bEq .no x6_1 (I 14))) fun x7_2 =>
 oB (oPick x4_0 (.bool true) x7_2) fun x8_3 =>
 some (x8_3, h)
theorem o_flow_property : FnOK Tryz.prog n_flow_property (a1 f_flow_property) := ok1 mixed Tryz.func358 (by kernel_rfl)
/- (*corrector/flow.reader).kind -/
noncomputable def f_flow_reader_kind (n : Nat) (call : Caller)  (x0 x1 : AV) (h : AH) : Ans :=
 oB (bLt x1 (I 0)) fun x6_0 =>
 oB (gq x6_0 false (some x1)) fun x8_1 =>
 oB (gq x6_0 false (some x0)) fun x9_2 =>
 oB (gq x6_0 false (oNil x9_2)) fun x10_3 =>
 oB (gq x6_0 false (oFA 1 x10_3)) fun x11_4 =>
 oB (gq x6_0 false (oLd h x11_4)) fun x12_5 =>
 oB (gq x6_0 false (bGe x8_1 x12_5)) fun x13_6 =>
 oB (oPick x6_0 (.bool true) x13_6) fun x14_7 =>
 ci x14_7 (
 some ((I 0), h)) (
 oB (oNil x0) fun x16_8 =>
 oB (oFA 0 x16_8) fun x17_9 =>
 oB (oLd h x17_9) fun x18_10 =>
 oB (oIx 3 x18_10 x1) fun x20_11 =>
 oB (oFA 0 x20_11) fun x21_12 =>
 oB (oLd h x21_12) fun x22_13 =>
 some (x22_13, h))
theorem o_flow_reader_kind : FnOK Tryz.prog n_flow_reader_kind (a2 f_flow_reader_kind) := ok2 mixed Tryz.func359 (by kernel_rfl)
/- (*corrector/flow.reader).add -/
noncomputable def f_flow_reader_add (n : Nat) (call : Caller)  (x0 x1 x2 x3 x4 : AV) (h : AH) : Ans :=
 oB (oNil x0) fun x15_0 =>
 oB (oFA 2 x15_0) fun x16_1 =>
 oB (oLdN 1 h x16_1) fun x17_2 =>
 oP (call n_arena_Add [x17_2, x1, x2, x3, x4] h) fun x22_3 h3 =>
 oB (oEx 0 x22_3) fun x23_4 =>
 oB (oEx 1 x22_3) fun x24_5 =>
 oP (oNew h3 100 [.nils]) fun x11_6 h6 =>
 oP (oSt 1 h6 x11_6 x23_4) fun _ h7 =>
 oB (oLdN 1 h7 x11_6) fun x26_8 =>
 oB (oNil x0) fun x27_9 =>
 oB (oFA 2 x27_9) fun x28_10 =>
 oP (oSt 1 h7 x28_10 x26_8) fun _ h11 =>
 some (x24_5, h11)
theorem o_flow_reader_add : FnOK Tryz.prog n_flow_reader_add (a5 f_flow_reader_add) := ok5 mixed Tryz.func360 (by kernel_rfl)
/- (*corrector/flow.reader).texts -/
noncomputable def f_flow_reader_texts (n : Nat) (call : Caller)  (x0 x1 : AV) (h : AH) : Ans :=
 oB (bAdd x1 (I 1)) fun x8_0 =>
 oP (call n_flow_reader_kind [x0, x8_0] h) fun x11_1 h1 =>
 jnF 3 (fun z5_2 z1_2 z0_2 h2 =>
 oP (call n_flow_reader_kind [z0_2, z5_2] h2) fun x28_3 h3 =>
 oB (bNe .no x28_3 (I 19)) fun x29_4 =>
 ci x29_4 (
 oB (bAdd z1_2 (I 1)) fun x31_5 =>
 some (x31_5, h3)) (
 jnF 1 (fun z5_6 h6 =>
 some (z5_6, h6)) fun j6 =>
 lpF 2 n (fun f7 y5_7 y0_7 h7 =>
 oP (call n_flow_reader_kind [y0_7, y5_7] h7) fun x34_8 h8 =>
 oB (bEq .no x34_8 (I 19)) fun x35_9 =>
 ci x35_9 (
 jnF 2 (fun z5_10 z0_10 h10 =>
 f7 z5_10 z0_10 h10) fun j10 =>
 oB (bAdd y5_7 (I 1)) fun x37_11 =>
 j10 x37_11 y0_7 h8) (
 j6 y5_7 h8)) z5_2 z0_2 h3)) fun j2 =>
 lpF 4 n (fun f12 y6_12 y5_12 y1_12 y0_12 h12 =>
 oB (bNe .no y6_12 (I 0)) fun x13_13 =>
 oB (gq x13_13 true (some y6_12)) fun x15_14 =>
 oP (gw x13_13 true (call n_flow_counts [x15_14] h12) h12) fun x16_15 h15 =>
 oB (gq x13_13 true (evQ (.un .not (.c x16_15)) .e h15)) fun x17_16 =>
 oB (oPick x13_13 x17_16 (.bool false)) fun x18_17 =>
 ci x18_17 (
 jnF 3 (fun z5_18 z1_18 z0_18 h18 =>
 oP (call n_flow_reader_kind [z0_18, z5_18] h18) fun x21_19 h19 =>
 f12 x21_19 z5_18 z1_18 z0_18 h19) fun j18 =>
 oB (bAdd y5_12 (I 1)) fun x23_20 =>
 oB (bEq .no y6_12 (I 1)) fun x25_21 =>
 ci x25_21 (
 j2 x23_20 y1_12 y0_12 h15) (
 j18 x23_20 y1_12 y0_12 h15)) (
 j2 y5_12 y1_12 y0_12 h15)) x11_1 x8_0 x1 x0 h1
theorem o_flow_reader_texts : FnOK Tryz.prog n_flow_reader_texts (a2 f_flow_reader_texts) := ok2 mixed Tryz.func361 (by kernel_rfl)
/- corrector/flow.opens -/
noncomputable def f_flow_opens (n : Nat) (call : Caller)  (x0 : AV) (h : AH) : Ans :=
 oB (bEq .no x0 (I 8)) fun x4_0 =>
 oB (gq x4_0 false (some x0)) fun x6_1 =>
 oB (gq x4_0 false (bEq .no x6_1 (I 9))) fun x7_2 =>
 oB (oPick x4_0 (.bool true) x7_2) fun x8_3 =>
 some (x8_3, h)
theorem o_flow_opens : FnOK Tryz.prog n_flow_opens (a1 f_flow_opens) := ok1 mixed Tryz.func362 (by kernel_rfl)
/- (*corrector/flow.reader).closed -/
noncomputable def f_flow_reader_closed (n : Nat) (call : Caller)  (x0 x1 : AV) (h : AH) : Ans :=
 jnF 2 (fun z1_0 z0_0 h0 =>
 oB (oNil z0_0) fun x44_1 =>
 oB (oFA 1 x44_1) fun x45_2 =>
 oB (oLd h0 x45_2) fun x46_3 =>
 oP (call n_flow_reader_over [z0_0, z1_0, x46_3] h0) fun x47_4 h4 =>
 some (x47_4, h4)) fun j0 =>
 lpF 4 n (fun f5 y6_5 y5_5 y1_5 y0_5 h5 =>
 oB (oNil y0_5) fun x11_6 =>
 oB (oFA 1 x11_6) fun x12_7 =>
 oB (oLd h5 x12_7) fun x13_8 =>
 oB (bLt y6_5 x13_8) fun x14_9 =>
 ci x14_9 (
 jnF 4 (fun z6_10 z5_10 z1_10 z0_10 h10 =>
 oB (bAdd z6_10 (I 1)) fun x16_11 =>
 f5 x16_11 z5_10 z1_10 z0_10 h10) fun j10 =>
 oP (call n_flow_reader_kind [y0_5, y6_5] h5) fun x19_12 h12 =>
 jnF 4 (fun z6_13 z5_13 z1_13 z0_13 h13 =>
 oB (bEq .no z5_13 (I 0)) fun x38_14 =>
 ci x38_14 (
 oB (bAdd z6_13 (I 1)) fun x40_15 =>
 some (x40_15, h13)) (
 j10 z6_13 z5_13 z1_13 z0_13 h13)) fun j13 =>
 oP (call n_flow_opens [x19_12] h12) fun x22_16 h16 =>
 jnF 4 (fun z6_17 z5_17 z1_17 z0_17 h17 =>
 j13 z6_17 z5_17 z1_17 z0_17 h17) fun j17 =>
 ci x22_16 (
 oB (bAdd y5_5 (I 1)) fun x24_18 =>
 j17 y6_5 x24_18 y1_5 y0_5 h16) (
 oP (call n_flow_ends [x19_12] h16) fun x27_19 h19 =>
 jnF 4 (fun z6_20 z5_20 z1_20 z0_20 h20 =>
 j17 z6_20 z5_20 z1_20 z0_20 h20) fun j20 =>
 ci x27_19 (
 oB (bSub y5_5 (I 1)) fun x29_21 =>
 j20 y6_5 x29_21 y1_5 y0_5 h19) (
 oP (call n_flow_mark [x19_12] h19) fun x32_22 h22 =>
 ci x32_22 (
 oP (call n_flow_reader_over [y0_5, y1_5, y6_5] h22) fun x36_23 h23 =>
 some (x36_23, h23)) (
 j20 y6_5 y5_5 y1_5 y0_5 h22)))) (
 j0 y1_5 y0_5 h5)) x1 (I 0) x1 x0 h
theorem o_flow_reader_closed : FnOK Tryz.prog n_flow_reader_closed (a2 f_flow_reader_closed) := ok2 mixed Tryz.func363 (by kernel_rfl)
/- (*corrector/flow.reader).wrong -/
noncomputable def f_flow_reader_wrong (n : Nat) (call : Caller)  (x0 x1 x2 x3 x4 : AV) (h : AH) : Ans :=
 oP (call n_flow_reader_tell [x0, x1, x3, x4] h) fun x15_0 h0 =>
 oP (call n_flow_reader_add [x0, x2, (I 11), x3, x4] h0) fun x20_1 h1 =>
 some (x20_1, h1)
theorem o_flow_reader_wrong : FnOK Tryz.prog n_flow_reader_wrong (a5 f_flow_reader_wrong) := ok5 mixed Tryz.func364 (by kernel_rfl)
/- (*corrector/flow.reader).collection -/
noncomputable def f_flow_reader_collection (n : Nat) (call : Caller)  (x0 x1 x2 x3 x4 : AV) (h : AH) : Ans :=
 scF n fun m0 => jnF 8 (lpF 8 m0 fun f0 y14_0 y13_0 y12_0 y11_0 y10_0 y4_0 y3_0 y0_0 h0 =>
 oP (call n_flow_reader_past [y0_0, y11_0] h0) fun x33_1 h1 =>
 oP (call n_flow_reader_kind [y0_0, x33_1] h1) fun x36_2 h2 =>
 oP (call n_flow_reader_key [y0_0, x33_1] h2) fun x39_3 h3 =>
 jnF 8 (fun z14_4 z13_4 z12_4 z11_4 z10_4 z4_4 z3_4 z0_4 h4 =>
 f0 z14_4 z13_4 z12_4 z11_4 z10_4 z4_4 z3_4 z0_4 h4) fun j4 =>
 oB (bEq .no x36_2 y13_0) fun x53_5 =>
 ci x53_5 (
 oB (oNil y0_0) fun x56_6 =>
 oB (oFA 2 x56_6) fun x57_7 =>
 oB (oLdN 1 h3 x57_7) fun x58_8 =>
 oB (bAdd x33_1 (I 1)) fun x61_9 =>
 oP (call n_arena_Grow [x58_8, y10_0, x61_9] h3) fun x62_10 h10 =>
 oB (oNil y0_0) fun x63_11 =>
 oB (oFA 2 x63_11) fun x64_12 =>
 oP (oSt 1 h10 x64_12 x62_10) fun _ h13 =>
 oB (bAdd x33_1 (I 1)) fun x67_14 =>
 some (.tup [y10_0, x67_14], h13)) (
 oB (bEq .no x36_2 (I 0)) fun x70_15 =>
 oB (gq x70_15 false (some x36_2)) fun x72_16 =>
 oP (gw x70_15 false (call n_flow_mark [x72_16] h3) h3) fun x73_17 h17 =>
 oB (oPick x70_15 (.bool true) x73_17) fun x74_18 =>
 ci x74_18 (
 oB (bAdd y3_0 (I 1)) fun x78_19 =>
 oP (call n_flow_reader_tell [y0_0, (I 9), y3_0, x78_19] h17) fun x79_20 h20 =>
 oB (oNil y0_0) fun x82_21 =>
 oB (oFA 2 x82_21) fun x83_22 =>
 oB (oLdN 1 h20 x83_22) fun x84_23 =>
 oP (call n_arena_Grow [x84_23, y10_0, y11_0] h20) fun x87_24 h24 =>
 oB (oNil y0_0) fun x88_25 =>
 oB (oFA 2 x88_25) fun x89_26 =>
 oP (oSt 1 h24 x89_26 x87_24) fun _ h27 =>
 some (.tup [y10_0, y11_0], h27)) (
 oP (call n_flow_ends [x36_2] h17) fun x94_28 h28 =>
 jnF 8 (fun z14_29 z13_29 z12_29 z11_29 z10_29 z4_29 z3_29 z0_29 h29 =>
 j4 z14_29 z13_29 z12_29 z11_29 z10_29 z4_29 z3_29 z0_29 h29) fun j29 =>
 ci x94_28 (
 oB (bAdd x33_1 (I 1)) fun x96_30 =>
 oP (call n_flow_reader_wrong [y0_0, (I 8), y10_0, x33_1, x96_30] h28) fun x101_31 h31 =>
 j29 y14_0 y13_0 y12_0 x96_30 y10_0 y4_0 y3_0 y0_0 h31) (
 oB (bEq .no x36_2 (I 7)) fun x104_32 =>
 oB (gq x104_32 true (some y14_0)) fun x106_33 =>
 oB (oPick x104_32 x106_33 (.bool false)) fun x107_34 =>
 jnF 8 (fun z14_35 z13_35 z12_35 z11_35 z10_35 z4_35 z3_35 z0_35 h35 =>
 j29 z14_35 z13_35 z12_35 z11_35 z10_35 z4_35 z3_35 z0_35 h35) fun j35 =>
 ci x107_34 (
 oB (bAdd x33_1 (I 1)) fun x109_36 =>
 j35 (.bool false) y13_0 y12_0 x109_36 y10_0 y4_0 y3_0 y0_0 h28) (
 oB (bEq .no x36_2 (I 7)) fun x112_37 =>
 jnF 8 (fun z14_38 z13_38 z12_38 z11_38 z10_38 z4_38 z3_38 z0_38 h38 =>
 j35 z14_38 z13_38 z12_38 z11_38 z10_38 z4_38 z3_38 z0_38 h38) fun j38 =>
 ci x112_37 (
 oB (bAdd x33_1 (I 1)) fun x114_39 =>
 oP (call n_flow_reader_wrong [y0_0, (I 8), y10_0, x33_1, x114_39] h28) fun x119_40 h40 =>
 j38 y14_0 y13_0 y12_0 x114_39 y10_0 y4_0 y3_0 y0_0 h40) (
 jnF 8 (fun z14_41 z13_41 z12_41 z11_41 z10_41 z4_41 z3_41 z0_41 h41 =>
 j38 z14_41 z13_41 z12_41 z11_41 z10_41 z4_41 z3_41 z0_41 h41) fun j41 =>
 ci y14_0 (
 oP (call n_flow_reader_stray [y0_0, x33_1] h28) fun x124_42 h42 =>
 oP (call n_flow_reader_wrong [y0_0, (I 8), y10_0, x33_1, x124_42] h42) fun x129_43 h43 =>
 j41 y14_0 y13_0 y12_0 x124_42 y10_0 y4_0 y3_0 y0_0 h43) (
 oB (bGe x39_3 (I 0)) fun x132_44 =>
 jnF 8 (fun z14_45 z13_45 z12_45 z11_45 z10_45 z4_45 z3_45 z0_45 h45 =>
 j41 z14_45 z13_45 z12_45 z11_45 z10_45 z4_45 z3_45 z0_45 h45) fun j45 =>
 ci x132_44 (
 oB (bSub y4_0 (I 1)) fun x138_46 =>
 oP (call n_flow_reader_pair [y0_0, y10_0, x33_1, x39_3, x138_46] h28) fun x139_47 h47 =>
 j45 (.bool true) y13_0 y12_0 x139_47 y10_0 y4_0 y3_0 y0_0 h47) (
 oB (bSub y4_0 (I 1)) fun x46_48 =>
 oP (call n_flow_reader_one [y0_0, y10_0, y12_0, x33_1, x46_48] h28) fun x47_49 h49 =>
 oB (oEx 0 x47_49) fun x48_50 =>
 oB (oEx 1 x47_49) fun x49_51 =>
 j45 x49_51 y13_0 y12_0 x48_50 y10_0 y4_0 y3_0 y0_0 h49)))))))) fun f0 =>
 oP (call n_flow_reader_kind [x0, x3] h) fun x20_52 h52 =>
 oB (bEq .no x20_52 (I 9)) fun x21_53 =>
 jnF 7 (fun z13_54 z12_54 z4_54 z3_54 z2_54 z1_54 z0_54 h54 =>
 oB (bAdd z3_54 (I 1)) fun x27_55 =>
 oP (call n_flow_reader_add [z0_54, z1_54, z12_54, z2_54, x27_55] h54) fun x28_56 h56 =>
 oB (bAdd z3_54 (I 1)) fun x30_57 =>
 oP (call n_flow_reader_past [z0_54, x30_57] h56) fun x33_58 h58 =>
 oP (call n_flow_reader_kind [z0_54, x33_58] h58) fun x36_59 h59 =>
 oP (call n_flow_reader_key [z0_54, x33_58] h59) fun x39_60 h60 =>
 jnF 8 (fun z14_61 z13_61 z12_61 z11_61 z10_61 z4_61 z3_61 z0_61 h61 =>
 f0 z14_61 z13_61 z12_61 z11_61 z10_61 z4_61 z3_61 z0_61 h61) fun j61 =>
 oB (bEq .no x36_59 z13_54) fun x53_62 =>
 ci x53_62 (
 oB (oNil z0_54) fun x56_63 =>
 oB (oFA 2 x56_63) fun x57_64 =>
 oB (oLdN 1 h60 x57_64) fun x58_65 =>
 oB (bAdd x33_58 (I 1)) fun x61_66 =>
 oP (call n_arena_Grow [x58_65, x28_56, x61_66] h60) fun x62_67 h67 =>
 oB (oNil z0_54) fun x63_68 =>
 oB (oFA 2 x63_68) fun x64_69 =>
 oP (oSt 1 h67 x64_69 x62_67) fun _ h70 =>
 oB (bAdd x33_58 (I 1)) fun x67_71 =>
 some (.tup [x28_56, x67_71], h70)) (
 oB (bEq .no x36_59 (I 0)) fun x70_72 =>
 oB (gq x70_72 false (some x36_59)) fun x72_73 =>
 oP (gw x70_72 false (call n_flow_mark [x72_73] h60) h60) fun x73_74 h74 =>
 oB (oPick x70_72 (.bool true) x73_74) fun x74_75 =>
 ci x74_75 (
 oB (bAdd z3_54 (I 1)) fun x78_76 =>
 oP (call n_flow_reader_tell [z0_54, (I 9), z3_54, x78_76] h74) fun x79_77 h77 =>
 oB (oNil z0_54) fun x82_78 =>
 oB (oFA 2 x82_78) fun x83_79 =>
 oB (oLdN 1 h77 x83_79) fun x84_80 =>
 oP (call n_arena_Grow [x84_80, x28_56, x30_57] h77) fun x87_81 h81 =>
 oB (oNil z0_54) fun x88_82 =>
 oB (oFA 2 x88_82) fun x89_83 =>
 oP (oSt 1 h81 x89_83 x87_81) fun _ h84 =>
 some (.tup [x28_56, x30_57], h84)) (
 oP (call n_flow_ends [x36_59] h74) fun x94_85 h85 =>
 jnF 8 (fun z14_86 z13_86 z12_86 z11_86 z10_86 z4_86 z3_86 z0_86 h86 =>
 j61 z14_86 z13_86 z12_86 z11_86 z10_86 z4_86 z3_86 z0_86 h86) fun j86 =>
 ci x94_85 (
 oB (bAdd x33_58 (I 1)) fun x96_87 =>
 oP (call n_flow_reader_wrong [z0_54, (I 8), x28_56, x33_58, x96_87] h85) fun x101_88 h88 =>
 j86 (.bool false) z13_54 z12_54 x96_87 x28_56 z4_54 z3_54 z0_54 h88) (
 oB (bEq .no x36_59 (I 7)) fun x104_89 =>
 oB (gq x104_89 true (some (.bool false))) fun x106_90 =>
 oB (oPick x104_89 x106_90 (.bool false)) fun x107_91 =>
 jnF 8 (fun z14_92 z13_92 z12_92 z11_92 z10_92 z4_92 z3_92 z0_92 h92 =>
 j86 z14_92 z13_92 z12_92 z11_92 z10_92 z4_92 z3_92 z0_92 h92) fun j92 =>
 ci x107_91 (
 oB (bAdd x33_58 (I 1)) fun x109_93 =>
 j92 (.bool false) z13_54 z12_54 x109_93 x28_56 z4_54 z3_54 z0_54 h85) (
 oB (bEq .no x36_59 (I 7)) fun x112_94 =>
 jnF 8 (fun z14_95 z13_95 z12_95 z11_95 z10_95 z4_95 z3_95 z0_95 h95 =>
 j92 z14_95 z13_95 z12_95 z11_95 z10_95 z4_95 z3_95 z0_95 h95) fun j95 =>
 ci x112_94 (
 oB (bAdd x33_58 (I 1)) fun x114_96 =>
 oP (call n_flow_reader_wrong [z0_54, (I 8), x28_56, x33_58, x114_96] h85) fun x119_97 h97 =>
 j95 (.bool false) z13_54 z12_54 x114_96 x28_56 z4_54 z3_54 z0_54 h97) (
 jnF 8 (fun z14_98 z13_98 z12_98 z11_98 z10_98 z4_98 z3_98 z0_98 h98 =>
 j95 z14_98 z13_98 z12_98 z11_98 z10_98 z4_98 z3_98 z0_98 h98) fun j98 =>
 ci (.bool false) (
 oP (call n_flow_reader_stray [z0_54, x33_58] h85) fun x124_99 h99 =>
 oP (call n_flow_reader_wrong [z0_54, (I 8), x28_56, x33_58, x124_99] h99) fun x129_100 h100 =>
 j98 (.bool false) z13_54 z12_54 x124_99 x28_56 z4_54 z3_54 z0_54 h100) (
 oB (bGe x39_60 (I 0)) fun x132_101 =>
 jnF 8 (fun z14_102 z13_102 z12_102 z11_102 z10_102 z4_102 z3_102 z0_102 h102 =>
 j98 z14_102 z13_102 z12_102 z11_102 z10_102 z4_102 z3_102 z0_102 h102) fun j102 =>
 ci x132_101 (
 oB (bSub z4_54 (I 1)) fun x138_103 =>
 oP (call n_flow_reader_pair [z0_54, x28_56, x33_58, x39_60, x138_103] h85) fun x139_104 h104 =>
 j102 (.bool true) z13_54 z12_54 x139_104 x28_56 z4_54 z3_54 z0_54 h104) (
 oB (bSub z4_54 (I 1)) fun x46_105 =>
 oP (call n_flow_reader_one [z0_54, x28_56, z12_54, x33_58, x46_105] h85) fun x47_106 h106 =>
 oB (oEx 0 x47_106) fun x48_107 =>
 oB (oEx 1 x47_106) fun x49_108 =>
 j102 x49_108 z13_54 z12_54 x48_107 x28_56 z4_54 z3_54 z0_54 h106)))))))) fun j54 =>
 ci x21_53 (
 j54 (I 11) (I 10) x4 x3 x2 x1 x0 h52) (
 j54 (I 10) (I 9) x4 x3 x2 x1 x0 h52)
theorem o_flow_reader_collection : FnOK Tryz.prog n_flow_reader_collection (a5 f_flow_reader_collection) := ok5 mixed Tryz.func365 (by kernel_rfl)
/- (*corrector/parse.parser).key$1 -/
noncomputable def f_parse_parser_key_1 (n : Nat) (call : Caller)  (x0 : AV) (h : AH) : Ans :=
 oP (oNew h 92 (AV.cells x0)) fun x1_0 h0 =>
 oB (oFA 0 x1_0) fun x3_1 =>
 oB (oLd h0 x3_1) fun x4_2 =>
 oB (bEq .no x4_2 (I 13)) fun x5_3 =>
 some (x5_3, h0)
theorem o_parse_parser_key_1 : FnOK Tryz.prog n_parse_parser_key_1 (a1 f_parse_parser_key_1) := ok1 mixed Tryz.func366 (by kernel_rfl)
/- strings.IndexAny -/
noncomputable def f_strings_IndexAny (n : Nat) (call : Caller)  (x0 x1 : AV) (h : AH) : Ans :=
 oB (bEq .no x1 (.str [])) fun x12_0 =>
 ci x12_0 (
 some ((Ineg 0), h)) (
 oB (oLenS x1) fun x14_1 =>
 oB (bEq .no x14_1 (I 1)) fun x15_2 =>
 ci x15_2 (
 oB (oIxS x1 (I 0)) fun x17_3 =>
 oB (oInt .i32 x17_3) fun x18_4 =>
 oB (bGe x18_4 (R 128)) fun x20_5 =>
 jnF 2 (fun z5_6 z0_6 h6 =>
 oP (call n_strings_IndexRune [z0_6, z5_6] h6) fun x23_7 h7 =>
 some (x23_7, h7)) fun j6 =>
 ci x20_5 (
 j6 (R 65533) x0 h) (
 j6 x18_4 x0 h)) (
 oB (oLenS x0) fun x25_8 =>
 oP (call n_strings_shouldUseASCIISet [x25_8] h) fun x26_9 h9 =>
 jnF 2 (fun z1_10 z0_10 h10 =>
 oP (evW (.rangeS (.c z0_10)) .e h10) fun x45_11 h11 =>
 jnF 0 (fun h12 =>
 some ((Ineg 0), h12)) fun j12 =>
 lpF 2 n (fun f13 y45_13 y1_13 h13 =>
 oP (evW (.nextS (.c y45_13)) .e h13) fun x46_14 h14 =>
 oB (oEx 0 x46_14) fun x47_15 =>
 ci x47_15 (
 jnF 2 (fun z45_16 z1_16 h16 =>
 f13 z45_16 z1_16 h16) fun j16 =>
 oB (oEx 1 x46_14) fun x48_17 =>
 oB (oEx 2 x46_14) fun x49_18 =>
 oP (call n_strings_IndexRune [y1_13, x49_18] h14) fun x52_19 h19 =>
 oB (bGe x52_19 (I 0)) fun x53_20 =>
 ci x53_20 (
 some (x48_17, h19)) (
 j16 y45_13 y1_13 h19)) (
 j12 h14)) x45_11 z1_10 h11) fun j10 =>
 ci x26_9 (
 oP (call n_strings_makeASCIISet [x1] h9) fun x29_21 h21 =>
 oB (oEx 0 x29_21) fun x30_22 =>
 oB (oEx 1 x29_21) fun x31_23 =>
 oP (oNew h21 406 [(.bool false), (.bool false), (.bool false), (.bool false), (.bool false), (.bool false), (.bool false), (.bool false), (.bool false), (.bool false), (.bool false), (.bool false), (.bool false), (.bool false), (.bool false), (.bool false), (.bool false), (.bool false), (.bool false), (.bool false), (.bool false), (.bool false), (.bool false), (.bool false), (.bool false), (.bool false), (.bool false), (.bool false), (.bool false), (.bool false), (.bool false), (.bool false), (.bool false), (.bool false), (.bool false), (.bool false), (.bool false), (.bool false), (.bool false), (.bool false), (.bool false), (.bool false), (.bool false), (.bool false), (.bool false), (.bool false), (.bool false), (.bool false), (.bool false), (.bool false), (.bool false), (.bool false), (.bool false), (.bool false), (.bool false), (.bool false), (.bool false), (.bool false), (.bool false), (.bool false), (.bool false), (.bool false), (.bool false), (.bool false), (.bool false), (.bool false), (.bool false), (.bool false), (.bool false), (.bool false), (.bool false), (.bool false), (.bool false), (.bool false), (.bool false), (.bool false), (.bool false), (.bool false), (.bool false), (.bool false), (.bool false), (.bool false), (.bool false), (.bool false), (.bool false), (.bool false), (.bool false), (.bool false), (.bool false), (.bool false), (.bool false), (.bool false), (.bool false), (.bool false), (.bool false), (.bool false), (.bool false), (.bool false), (.bool false), (.bool false), (.bool false), (.bool false), (.bool false), (.bool false), (.bool false), (.bool false), (.bool false), (.bool false), (.bool false), (.bool false), (.bool false), (.bool false), (.bool false), (.bool false), (.bool false), (.bool false), (.bool false), (.bool false), (.bool false), (.bool false), (.bool false), (.bool false), (.bool false), (.bool false), (.bool false), (.bool false), (.bool false), (.bool false), (.bool false), (.bool false), (.bool false), (.bool false), (.bool false), (.bool false), (.bool false), (.bool false), (.bool false), (.bool false), (.bool false), (.bool false), (.bool false), (.bool false), (.bool false), (.bool false), (.bool false), (.bool false), (.bool false), (.bool false), (.bool false), (.bool false), (.bool false), (.bool false), (.bool false), (.bool false), (.bool false), (.bool false), (.bool false), (.bool false), (.bool false), (.bool false), (.bool false), (.bool false), (.bool false), (.bool false), (.bool false), (.bool false), (.bool false), (.bool false), (.bool false), (.bool false), (.bool false), (.bool false), (.bool false), (.bool false), (.bool false), (.bool false), (.bool false), (.bool false), (.bool false), (.bool false), (.bool false), (.bool false), (.bool false), (.bool false), (.bool false), (.bool false), (.bool false), (.bool false), (.bool false), (.bool false), (.bool false), (.bool false), (.bool false), (.bool false), (.bool false), (.bool false), (.bool false), (.bool false), (.bool false), (.bool false), (.bool false), (.bool false), (.bool false), (.bool false), (.bool false), (.bool false), (.bool false), (.bool false), (.bool false), (.bool false), (.bool false), (.bool false), (.bool false), (.bool false), (.bool false), (.bool false), (.bool false), (.bool false), (.bool false), (.bool false), (.bool false), (.bool false), (.bool false), (.bool false), (.bool false), (.bool false), (.bool false), (.bool false), (.bool false), (.bool false), (.bool false), (.bool false), (.bool false), (.bool false), (.bool false), (.bool false), (.bool false), (.bool false), (.bool false), (.bool false), (.bool false), (.bool false), (.bool false), (.bool false), (.bool false), (.bool false), (.bool false), (.bool false), (.bool false), (.bool false), (.bool false), (.bool false), (.bool false), (.bool false), (.bool false), (.bool false)]) fun x6_24 h24 =>
 oP (oSt 256 h24 x6_24 x30_22) fun _ h25 =>
 ci x31_23 (
 jnF 0 (fun h26 =>
 some ((Ineg 0), h26)) fun j26 =>
 lpF 3 n (fun f27 y8_27 y6_27 y0_27 h27 =>
 oB (oLenS y0_27) fun x35_28 =>
 oB (bLt y8_27 x35_28) fun x36_29 =>
 ci x36_29 (
 jnF 3 (fun z8_30 z6_30 z0_30 h30 =>
 oB (bAdd z8_30 (I 1)) fun x38_31 =>
 f27 x38_31 z6_30 z0_30 h30) fun j30 =>
 oB (oIxS y0_27 y8_27) fun x41_32 =>
 oP (call n_strings_asciiSet_contains [y6_27, x41_32] h27) fun x42_33 h33 =>
 ci x42_33 (
 some (y8_27, h33)) (
 j30 y8_27 y6_27 y0_27 h33)) (
 j26 h27)) (I 0) x6_24 x0 h25) (
 j10 x1 x0 h25)) (
 j10 x1 x0 h9)))
theorem o_strings_IndexAny : FnOK Tryz.prog n_strings_IndexAny (a2 f_strings_IndexAny) := ok2 mixed Tryz.func367 (by kernel_rfl)
/- corrector/block.between -/
noncomputable def f_block_between (n : Nat) (call : Caller)  (x0 x1 x2 : AV) (h : AH) : Ans :=
 jnF 1 (fun z2_0 h0 =>
 oP (call n_strings_Repeat [(.str [10]), z2_0] h0) fun x22_1 h1 =>
 some (x22_1, h1)) fun j0 =>
 jnF 0 (fun h2 =>
 some ((.str [32]), h2)) fun j2 =>
 jnF 1 (fun z2_3 h3 =>
 oB (bAdd z2_3 (I 1)) fun x19_4 =>
 oP (call n_strings_Repeat [(.str [10]), x19_4] h3) fun x20_5 h5 =>
 some (x20_5, h5)) fun j3 =>
 jnF 1 (fun z2_6 h6 =>
 j3 z2_6 h6) fun j6 =>
 oB (oIxS x0 (I 0)) fun x9_7 =>
 oP (call n_chars_Blank [x9_7] h) fun x10_8 h8 =>
 ci x10_8 (
 j6 x2 h8) (
 oB (oIxS x1 (I 0)) fun x13_9 =>
 oP (call n_chars_Blank [x13_9] h8) fun x14_10 h10 =>
 ci x14_10 (
 j3 x2 h10) (
 oB (bEq .no x2 (I 0)) fun x17_11 =>
 ci x17_11 (
 j2 h10) (
 j0 x2 h10)))
theorem o_block_between : FnOK Tryz.prog n_block_between (a3 f_block_between) := ok3 mixed Tryz.func368 (by kernel_rfl)
/- corrector/resolve.sign -/
noncomputable def f_resolve_sign (n : Nat) (call : Caller)  (x0 : AV) (h : AH) : Ans :=
 oP (call n_strings_CutPrefix [x0, (.str [45])] h) fun x8_0 h0 =>
 oB (oEx 0 x8_0) fun x9_1 =>
 oB (oEx 1 x8_0) fun x10_2 =>
 ci x10_2 (
 some (.tup [x9_1, (.bool true)], h0)) (
 oP (call n_strings_TrimPrefix [x0, (.str [43])] h0) fun x14_3 h3 =>
 some (.tup [x14_3, (.bool false)], h3))
theorem o_resolve_sign : FnOK Tryz.prog n_resolve_sign (a1 f_resolve_sign) := ok1 mixed Tryz.func369 (by kernel_rfl)
/- corrector/resolve.number -/
noncomputable def f_resolve_number (n : Nat) (call : Caller)  (x0 x1 : AV) (h : AH) : Ans :=
 oP (evW (.rangeS (.c x0)) .e h) fun x11_0 h0 =>
 jnF 2 (fun z6_1 z0_1 h1 =>
 oB (bNe .no z0_1 (.str [])) fun x39_2 =>
 some (.tup [z6_1, x39_2], h1)) fun j1 =>
 lpF 4 n (fun f3 y11_3 y6_3 y1_3 y0_3 h3 =>
 oP (evW (.nextS (.c y11_3)) .e h3) fun x12_4 h4 =>
 oB (oEx 0 x12_4) fun x13_5 =>
 ci x13_5 (
 jnF 4 (fun z11_6 z6_6 z1_6 z0_6 h6 =>
 f3 z11_6 z6_6 z1_6 z0_6 h6) fun j6 =>
 oB (oEx 2 x12_4) fun x14_7 =>
 oP (call n_resolve_value [x14_7, y1_3] h4) fun x17_8 h8 =>
 oB (bLt x17_8 (I 0)) fun x19_9 =>
 oB (gq x19_9 false (some y6_3)) fun x21_10 =>
 oB (gq x19_9 false (some x17_8)) fun x22_11 =>
 oB (gq x19_9 false (oInt .u64 x22_11)) fun x23_12 =>
 oB (gq x19_9 false (bSub (.int .u64 9223372036854775808) x23_12)) fun x24_13 =>
 oB (gq x19_9 false (some y1_3)) fun x25_14 =>
 oB (gq x19_9 false (oInt .u64 x25_14)) fun x26_15 =>
 oB (gq x19_9 false (binAV .quo .no x24_13 x26_15)) fun x27_16 =>
 oB (gq x19_9 false (bGt x21_10 x27_16)) fun x28_17 =>
 oB (oPick x19_9 (.bool true) x28_17) fun x29_18 =>
 ci x29_18 (
 some (.tup [(.int .u64 0), (.bool false)], h8)) (
 oB (oInt .u64 y1_3) fun x32_19 =>
 oB (binAV .mul .no y6_3 x32_19) fun x33_20 =>
 oB (oInt .u64 x17_8) fun x35_21 =>
 oB (bAdd x33_20 x35_21) fun x36_22 =>
 j6 y11_3 x36_22 y1_3 y0_3 h8)) (
 j1 y6_3 y0_3 h4)) x11_0 (.int .u64 0) x1 x0 h0
theorem o_resolve_number : FnOK Tryz.prog n_resolve_number (a2 f_resolve_number) := ok2 mixed Tryz.func370 (by kernel_rfl)
/- corrector/resolve.digits -/
noncomputable def f_resolve_digits (n : Nat) (call : Caller)  (x0 : AV) (h : AH) : Ans :=
 oP (evW (.rangeS (.c x0)) .e h) fun x6_0 h0 =>
 jnF 1 (fun z0_1 h1 =>
 oB (oLenS z0_1) fun x19_2 =>
 some (x19_2, h1)) fun j1 =>
 lpF 2 n (fun f3 y6_3 y0_3 h3 =>
 oP (evW (.nextS (.c y6_3)) .e h3) fun x7_4 h4 =>
 oB (oEx 0 x7_4) fun x8_5 =>
 ci x8_5 (
 jnF 2 (fun z6_6 z0_6 h6 =>
 f3 z6_6 z0_6 h6) fun j6 =>
 oB (oEx 1 x7_4) fun x9_7 =>
 oB (oEx 2 x7_4) fun x10_8 =>
 oB (bLt x10_8 (R 48)) fun x12_9 =>
 oB (gq x12_9 false (some x10_8)) fun x14_10 =>
 oB (gq x12_9 false (bGt x14_10 (R 57))) fun x15_11 =>
 oB (oPick x12_9 (.bool true) x15_11) fun x16_12 =>
 ci x16_12 (
 some (x9_7, h4)) (
 j6 y6_3 y0_3 h4)) (
 j1 y0_3 h4)) x6_0 x0 h0
theorem o_resolve_digits : FnOK Tryz.prog n_resolve_digits (a1 f_resolve_digits) := ok1 mixed Tryz.func371 (by kernel_rfl)
/- strings.CutPrefix -/
noncomputable def f_strings_CutPrefix (n : Nat) (call : Caller)  (x0 x1 : AV) (h : AH) : Ans :=
 oP (call n_internal_stringslite_CutPrefix [x0, x1] h) fun x8_0 h0 =>
 oB (oEx 0 x8_0) fun x9_1 =>
 oB (oEx 1 x8_0) fun x10_2 =>
 some (.tup [x9_1, x10_2], h0)
theorem o_strings_CutPrefix : FnOK Tryz.prog n_strings_CutPrefix (a2 f_strings_CutPrefix) := ok2 mixed Tryz.func372 (by kernel_rfl)
/- strconv.quoteWith -/
noncomputable def f_strconv_quoteWith (n : Nat) (call : Caller)  (x0 x1 x2 x3 : AV) (h : AH) : Ans :=
 oB (oLenS x0) fun x10_0 =>
 oB (binAV .mul .no (I 3) x10_0) fun x11_1 =>
 oB (binAV .quo .no x11_1 (I 2)) fun x12_2 =>
 oP (evW (.mkSlice 5 1 1 [(U 0)] (.c (I 0)) (.c x12_2)) .e h) fun x13_3 h3 =>
 oP (call n_strconv_appendQuotedWith [x13_3, x0, x1, x2, x3] h3) fun x18_4 h4 =>
 oB (evQ (.b2s (.c x18_4)) .e h4) fun x19_5 =>
 some (x19_5, h4)
theorem o_strconv_quoteWith : FnOK Tryz.prog n_strconv_quoteWith (a4 f_strconv_quoteWith) := ok4 mixed Tryz.func373 (by kernel_rfl)
/- slices.siftDownOrdered[int] -/
noncomputable def f_slices_siftDownOrdered_int (n : Nat) (call : Caller)  (x0 x1 x2 x3 : AV) (h : AH) : Ans :=
 jnF 0 (fun h0 =>
 some (.tup [], h0)) fun j0 =>
 lpF 4 n (fun f1 y8_1 y3_1 y2_1 y0_1 h1 =>
 jnF 4 (fun z8_2 z3_2 z2_2 z0_2 h2 =>
 f1 z8_2 z3_2 z2_2 z0_2 h2) fun j2 =>
 oB (binAV .mul .no (I 2) y8_1) fun x12_3 =>
 oB (bAdd x12_3 (I 1)) fun x13_4 =>
 oB (bGe x13_4 y2_1) fun x16_5 =>
 ci x16_5 (
 j0 h1) (
 oB' (nx 20 h1) fun h6 =>
 oB (bAdd x13_4 (I 1)) fun x18_7 =>
 oB (bLt x18_7 y2_1) fun x20_8 =>
 oB (gq x20_8 true (some y0_1)) fun x22_9 =>
 oB (gq x20_8 true (some y3_1)) fun x23_10 =>
 oB (gq x20_8 true (some x13_4)) fun x24_11 =>
 oB (gq x20_8 true (bAdd x23_10 x24_11)) fun x25_12 =>
 oB (gq x20_8 true (oIx 1 x22_9 x25_12)) fun x26_13 =>
 oB (gq x20_8 true (oLd h6 x26_13)) fun x27_14 =>
 oB (gq x20_8 true (some y0_1)) fun x28_15 =>
 oB (gq x20_8 true (some y3_1)) fun x29_16 =>
 oB (gq x20_8 true (some x13_4)) fun x30_17 =>
 oB (gq x20_8 true (bAdd x29_16 x30_17)) fun x31_18 =>
 oB (gq x20_8 true (bAdd x31_18 (I 1))) fun x32_19 =>
 oB (gq x20_8 true (oIx 1 x28_15 x32_19)) fun x33_20 =>
 oB (gq x20_8 true (oLd h6 x33_20)) fun x34_21 =>
 oP (gw x20_8 true (call n_cmp_Less_int [x27_14, x34_21] h6) h6) fun x35_22 h22 =>
 oB (oPick x20_8 x35_22 (.bool false)) fun x36_23 =>
 jnF 5 (fun z9_24 z8_24 z3_24 z2_24 z0_24 h24 =>
 oB' (nx 14 h24) fun h25 =>
 oB (bAdd z3_24 z8_24) fun x42_26 =>
 oB (oIx 1 z0_24 x42_26) fun x43_27 =>
 oB (oLd h25 x43_27) fun x44_28 =>
 oB (bAdd z3_24 z9_24) fun x48_29 =>
 oB (oIx 1 z0_24 x48_29) fun x49_30 =>
 oB (oLd h25 x49_30) fun x50_31 =>
 oP (call n_cmp_Less_int [x44_28, x50_31] h25) fun x51_32 h32 =>
 oB (evQ (.un .not (.c x51_32)) .e h32) fun x52_33 =>
 ci x52_33 (
 some (.tup [], h32)) (
 oB' (nx 24 h32) fun h34 =>
 oB (bAdd z3_24 z8_24) fun x56_35 =>
 oB (bAdd z3_24 z9_24) fun x60_36 =>
 oB (bAdd z3_24 z9_24) fun x64_37 =>
 oB (oIx 1 z0_24 x64_37) fun x65_38 =>
 oB (oLd h34 x65_38) fun x66_39 =>
 oB (bAdd z3_24 z8_24) fun x70_40 =>
 oB (oIx 1 z0_24 x70_40) fun x71_41 =>
 oB (oLd h34 x71_41) fun x72_42 =>
 oB (oIx 1 z0_24 x56_35) fun x73_43 =>
 oP (oSt 1 h34 x73_43 x66_39) fun _ h44 =>
 oB (oIx 1 z0_24 x60_36) fun x74_45 =>
 oP (oSt 1 h44 x74_45 x72_42) fun _ h46 =>
 j2 z9_24 z3_24 z2_24 z0_24 h46)) fun j24 =>
 ci x36_23 (
 oB (bAdd x13_4 (I 1)) fun x38_47 =>
 j24 x38_47 y8_1 y3_1 y2_1 y0_1 h22) (
 j24 x13_4 y8_1 y3_1 y2_1 y0_1 h22))) x1 x3 x2 x0 h
theorem o_slices_siftDownOrdered_int : FnOK Tryz.prog n_slices_siftDownOrdered_int (a4 f_slices_siftDownOrdered_int) := ok4 mixed Tryz.func374 (by kernel_rfl)
/- slices.medianAdjacentOrdered[int] -/
noncomputable def f_slices_medianAdjacentOrdered_int (n : Nat) (call : Caller)  (x0 x1 x2 : AV) (h : AH) : Ans :=
 oB (bSub x1 (I 1)) fun x9_0 =>
 oB (bAdd x1 (I 1)) fun x12_1 =>
 oP (call n_slices_medianOrdered_int [x0, x9_0, x1, x12_1, x2] h) fun x14_2 h2 =>
 some (x14_2, h2)
theorem o_slices_medianAdjacentOrdered_int : FnOK Tryz.prog n_slices_medianAdjacentOrdered_int (a3 f_slices_medianAdjacentOrdered_int) := ok3 mixed Tryz.func375 (by kernel_rfl)
/- slices.medianOrdered[int] -/
noncomputable def f_slices_medianOrdered_int (n : Nat) (call : Caller)  (x0 x1 x2 x3 x4 : AV) (h : AH) : Ans :=
 oP (call n_slices_order2Ordered_int [x0, x1, x2, x4] h) fun x16_0 h0 =>
 oB (oEx 0 x16_0) fun x17_1 =>
 oB (oEx 1 x16_0) fun x18_2 =>
 oP (call n_slices_order2Ordered_int [x0, x18_2, x3, x4] h0) fun x24_3 h3 =>
 oB (oEx 0 x24_3) fun x25_4 =>
 oB (oEx 1 x24_3) fun x26_5 =>
 oP (call n_slices_order2Ordered_int [x0, x17_1, x25_4, x4] h3) fun x32_6 h6 =>
 oB (oEx 0 x32_6) fun x33_7 =>
 oB (oEx 1 x32_6) fun x34_8 =>
 some (x34_8, h6)
theorem o_slices_medianOrdered_int : FnOK Tryz.prog n_slices_medianOrdered_int (a5 f_slices_medianOrdered_int) := ok5 mixed Tryz.func376 (by kernel_rfl)
/- slices.rotateCmpFunc[corrector/api.Edit] -/
noncomputable def f_slices_rotateCmpFunc_api_Edit (n : Nat) (call : Caller)  (x0 x1 x2 x3 x4 : AV) (h : AH) : Ans :=
 oB (bSub x2 x1) fun x14_0 =>
 oB (bSub x3 x2) fun x17_1 =>
 jnF 4 (fun z10_2 z4_2 z2_2 z0_2 h2 =>
 oB (bSub z2_2 z10_2) fun x53_3 =>
 oP (call n_slices_swapRangeCmpFunc_api_Edit [z0_2, x53_3, z2_2, z10_2, z4_2] h2) fun x57_4 h4 =>
 some (.tup [], h4)) fun j2 =>
 lpF 5 n (fun f5 y11_5 y10_5 y4_5 y2_5 y0_5 h5 =>
 oB (bNe .no y10_5 y11_5) fun x20_6 =>
 ci x20_6 (
 jnF 5 (fun z11_7 z10_7 z4_7 z2_7 z0_7 h7 =>
 f5 z11_7 z10_7 z4_7 z2_7 z0_7 h7) fun j7 =>
 oB (bGt y10_5 y11_5) fun x23_8 =>
 jnF 5 (fun z11_9 z10_9 z4_9 z2_9 z0_9 h9 =>
 j7 z11_9 z10_9 z4_9 z2_9 z0_9 h9) fun j9 =>
 ci x23_8 (
 oB (bSub y2_5 y10_5) fun x27_10 =>
 oP (call n_slices_swapRangeCmpFunc_api_Edit [y0_5, x27_10, y2_5, y11_5, y4_5] h5) fun x31_11 h11 =>
 oB (bSub y10_5 y11_5) fun x34_12 =>
 j9 y11_5 x34_12 y4_5 y2_5 y0_5 h11) (
 oB (bSub y2_5 y10_5) fun x38_13 =>
 oB (bAdd y2_5 y11_5) fun x41_14 =>
 oB (bSub x41_14 y10_5) fun x43_15 =>
 oP (call n_slices_swapRangeCmpFunc_api_Edit [y0_5, x38_13, x43_15, y10_5, y4_5] h5) fun x46_16 h16 =>
 oB (bSub y11_5 y10_5) fun x49_17 =>
 j9 x49_17 y10_5 y4_5 y2_5 y0_5 h16)) (
 j2 y10_5 y4_5 y2_5 y0_5 h5)) x17_1 x14_0 x4 x2 x0 h
theorem o_slices_rotateCmpFunc_api_Edit : FnOK Tryz.prog n_slices_rotateCmpFunc_api_Edit (a5 f_slices_rotateCmpFunc_api_Edit) := ok5 mixed Tryz.func377 (by kernel_rfl)
/- corrector/flow.counts -/
noncomputable def f_flow_counts (n : Nat) (call : Caller)  (x0 : AV) (h : AH) : Ans :=
 jnF 0 (fun h0 =>
 some ((.bool true), h0)) fun j0 =>
 oB (bEq .no x0 (I 1)) fun x5_1 =>
 jnF 1 (fun z4_2 h2 =>
 ci z4_2 (
 some ((.bool false), h2)) (
 j0 h2)) fun j2 =>
 ci x5_1 (
 j2 x5_1 h) (
 oB (bEq .no x0 (I 2)) fun x6_3 =>
 jnF 1 (fun z4_4 h4 =>
 j2 z4_4 h4) fun j4 =>
 ci x6_3 (
 j4 x6_3 h) (
 oB (bEq .no x0 (I 3)) fun x7_5 =>
 jnF 1 (fun z4_6 h6 =>
 j4 z4_6 h6) fun j6 =>
 ci x7_5 (
 j6 x7_5 h) (
 oB (bEq .no x0 (I 4)) fun x8_7 =>
 j6 x8_7 h)))
theorem o_flow_counts : FnOK Tryz.prog n_flow_counts (a1 f_flow_counts) := ok1 mixed Tryz.func378 (by kernel_rfl)
/- corrector/flow.ends -/
noncomputable def f_flow_ends (n : Nat) (call : Caller)  (x0 : AV) (h : AH) : Ans :=
 oB (bEq .no x0 (I 10)) fun x4_0 =>
 oB (gq x4_0 false (some x0)) fun x6_1 =>
 oB (gq x4_0 false (bEq .no x6_1 (I 11))) fun x7_2 =>
 oB (oPick x4_0 (.bool true) x7_2) fun x8_3 =>
 some (x8_3, h)
theorem o_flow_ends : FnOK Tryz.prog n_flow_ends (a1 f_flow_ends) := ok1 mixed Tryz.func379 (by kernel_rfl)
/- corrector/flow.mark -/
noncomputable def f_flow_mark (n : Nat) (call : Caller)  (x0 : AV) (h : AH) : Ans :=
 oB (bEq .no x0 (I 20)) fun x4_0 =>
 oB (gq x4_0 false (some x0)) fun x6_1 =>
 oB (gq x4_0 false (bEq .no x6_1 (I 21))) fun x7_2 =>
 oB (oPick x4_0 (.bool true) x7_2) fun x8_3 =>
 some (x8_3, h)
theorem o_flow_mark : FnOK Tryz.prog n_flow_mark (a1 f_flow_mark) := ok1 mixed Tryz.func380 (by kernel_rfl)
/- (*corrector/flow.reader).over -/
noncomputable def f_flow_reader_over (n : Nat) (call : Caller)  (x0 x1 x2 : AV) (h : AH) : Ans :=
 jnF 1 (fun z2_0 h0 =>
 some (z2_0, h0)) fun j0 =>
 lpF 3 n (fun f1 y2_1 y1_1 y0_1 h1 =>
 oB (bGt y2_1 y1_1) fun x9_2 =>
 oB (gq x9_2 true (some y0_1)) fun x11_3 =>
 oB (gq x9_2 true (oNil x11_3)) fun x12_4 =>
 oB (gq x9_2 true (oFA 0 x12_4)) fun x13_5 =>
 oB (gq x9_2 true (oLd h1 x13_5)) fun x14_6 =>
 oB (gq x9_2 true (some y2_1)) fun x15_7 =>
 oB (gq x9_2 true (bSub x15_7 (I 1))) fun x16_8 =>
 oB (gq x9_2 true (oIx 3 x14_6 x16_8)) fun x17_9 =>
 oB (gq x9_2 true (oFA 0 x17_9)) fun x18_10 =>
 oB (gq x9_2 true (oLd h1 x18_10)) fun x19_11 =>
 oP (gw x9_2 true (call n_flow_counts [x19_11] h1) h1) fun x20_12 h12 =>
 oB (gq x9_2 true (evQ (.un .not (.c x20_12)) .e h12)) fun x21_13 =>
 oB (oPick x9_2 x21_13 (.bool false)) fun x22_14 =>
 ci x22_14 (
 jnF 3 (fun z2_15 z1_15 z0_15 h15 =>
 f1 z2_15 z1_15 z0_15 h15) fun j15 =>
 oB (bSub y2_1 (I 1)) fun x24_16 =>
 j15 x24_16 y1_1 y0_1 h12) (
 j0 y2_1 h12)) x2 x1 x0 h
theorem o_flow_reader_over : FnOK Tryz.prog n_flow_reader_over (a3 f_flow_reader_over) := ok3 mixed Tryz.func381 (by kernel_rfl)
/- (*corrector/flow.reader).tell -/
noncomputable def f_flow_reader_tell (n : Nat) (call : Caller)  (x0 x1 x2 x3 : AV) (h : AH) : Ans :=
 oB' (nx 29 h) fun h0 =>
 oB (oNil x0) fun x10_1 =>
 oB (oFA 3 x10_1) fun x11_2 =>
 oB (oLd h0 x11_2) fun x12_3 =>
 oB (oNil x0) fun x15_4 =>
 oB (oFA 0 x15_4) fun x16_5 =>
 oB (oLd h0 x16_5) fun x17_6 =>
 oB (oIx 3 x17_6 x2) fun x19_7 =>
 oB (oFA 1 x19_7) fun x20_8 =>
 oB (oLd h0 x20_8) fun x21_9 =>
 oB (oNil x0) fun x23_10 =>
 oB (oFA 0 x23_10) fun x24_11 =>
 oB (oLd h0 x24_11) fun x25_12 =>
 oB (bSub x3 (I 1)) fun x27_13 =>
 oB (oIx 3 x25_12 x27_13) fun x28_14 =>
 oB (oFA 2 x28_14) fun x29_15 =>
 oB (oLd h0 x29_15) fun x30_16 =>
 oB (oBuild [(I 0), (I 0), (I 0)] [(0, 1, x1), (1, 1, x21_9), (2, 1, x30_16)]) fun x31_17 =>
 fl1 true (evF (.buildSlice 112 3 1 [(I 0), (I 0), (I 0)] [(0, 3, (.c x31_17))]) .e) (Nat.add h.next 24) fun x32_18 o18 =>
 oB' (lay1 (Nat.add h.next 24) o18 h0) fun v19 =>
 oP (evW (.append 112 3 24 [(I 0), (I 0), (I 0)] (.c x12_3) (.c x32_18)) .e v19) fun x33_20 h20 =>
 oB (oNil x0) fun x34_21 =>
 oB (oFA 3 x34_21) fun x35_22 =>
 oP (oSt 1 h20 x35_22 x33_20) fun x0_23 h23 =>
 ask1 true (oLd h0 x11_2) x12_3 (
 ask1 true (oLd h0 x16_5) x17_6 (
 ask1 true (oLd h0 x20_8) x21_9 (
 ask1 true (oLd h0 x24_11) x25_12 (
 ask1 true (oLd h0 x29_15) x30_16 (
 some (.tup [], h23))))))
theorem o_flow_reader_tell : FnOK Tryz.prog n_flow_reader_tell (a4 f_flow_reader_tell) := ok4 mixed Tryz.func382 (by kernel_rfl)
/- (*corrector/flow.reader).past -/
noncomputable def f_flow_reader_past (n : Nat) (call : Caller)  (x0 x1 : AV) (h : AH) : Ans :=
 oP (call n_flow_reader_kind [x0, x1] h) fun x8_0 h0 =>
 jnF 1 (fun z1_1 h1 =>
 some (z1_1, h1)) fun j1 =>
 lpF 3 n (fun f2 y5_2 y1_2 y0_2 h2 =>
 oB (bNe .no y5_2 (I 0)) fun x10_3 =>
 oB (gq x10_3 true (some y5_2)) fun x12_4 =>
 oP (gw x10_3 true (call n_flow_counts [x12_4] h2) h2) fun x13_5 h5 =>
 oB (gq x10_3 true (evQ (.un .not (.c x13_5)) .e h5)) fun x14_6 =>
 oB (oPick x10_3 x14_6 (.bool false)) fun x15_7 =>
 ci x15_7 (
 jnF 2 (fun z1_8 z0_8 h8 =>
 oP (call n_flow_reader_kind [z0_8, z1_8] h8) fun x18_9 h9 =>
 f2 x18_9 z1_8 z0_8 h9) fun j8 =>
 oB (bAdd y1_2 (I 1)) fun x20_10 =>
 j8 x20_10 y0_2 h5) (
 j1 y1_2 h5)) x8_0 x1 x0 h0
theorem o_flow_reader_past : FnOK Tryz.prog n_flow_reader_past (a2 f_flow_reader_past) := ok2 mixed Tryz.func383 (by kernel_rfl)
/- (*corrector/flow.reader).key -/
noncomputable def f_flow_reader_key (n : Nat) (call : Caller)  (x0 x1 : AV) (h : AH) : Ans :=
 jnF 2 (fun z5_0 z0_0 h0 =>
 oP (call n_flow_reader_kind [z0_0, z5_0] h0) fun x17_1 h1 =>
 oP (call n_flow_name [x17_1] h1) fun x18_2 h2 =>
 jnF 2 (fun z5_3 z0_3 h3 =>
 oP (call n_flow_reader_kind [z0_3, z5_3] h3) fun x25_4 h4 =>
 oB (bEq .no x25_4 (I 6)) fun x26_5 =>
 ci x26_5 (
 some (z5_3, h4)) (
 some ((Ineg 0), h4))) fun j3 =>
 ci x18_2 (
 oB (bAdd z5_0 (I 1)) fun x21_6 =>
 oP (call n_flow_reader_past [z0_0, x21_6] h2) fun x22_7 h7 =>
 j3 x22_7 z0_0 h7) (
 j3 z5_0 z0_0 h2)) fun j0 =>
 lpF 2 n (fun f8 y5_8 y0_8 h8 =>
 oP (call n_flow_reader_kind [y0_8, y5_8] h8) fun x9_9 h9 =>
 oP (call n_flow_property [x9_9] h9) fun x10_10 h10 =>
 ci x10_10 (
 jnF 2 (fun z5_11 z0_11 h11 =>
 f8 z5_11 z0_11 h11) fun j11 =>
 oB (bAdd y5_8 (I 1)) fun x13_12 =>
 oP (call n_flow_reader_past [y0_8, x13_12] h10) fun x14_13 h13 =>
 j11 x14_13 y0_8 h13) (
 j0 y5_8 y0_8 h10)) x1 x0 h
theorem o_flow_reader_key : FnOK Tryz.prog n_flow_reader_key (a2 f_flow_reader_key) := ok2 mixed Tryz.func384 (by kernel_rfl)
/- (*corrector/flow.reader).stray -/
noncomputable def f_flow_reader_stray (n : Nat) (call : Caller)  (x0 x1 : AV) (h : AH) : Ans :=
 jnF 3 (fun z6_0 z1_0 z0_0 h0 =>
 oP (call n_flow_reader_over [z0_0, z1_0, z6_0] h0) fun x48_1 h1 =>
 some (x48_1, h1)) fun j0 =>
 lpF 4 n (fun f2 y6_2 y5_2 y1_2 y0_2 h2 =>
 oB (oNil y0_2) fun x11_3 =>
 oB (oFA 1 x11_3) fun x12_4 =>
 oB (oLd h2 x12_4) fun x13_5 =>
 oB (bLt y6_2 x13_5) fun x14_6 =>
 oB (gq x14_6 true (some y0_2)) fun x16_7 =>
 oB (gq x14_6 true (some y6_2)) fun x17_8 =>
 oP (gw x14_6 true (call n_flow_reader_kind [x16_7, x17_8] h2) h2) fun x18_9 h9 =>
 oP (gw x14_6 true (call n_flow_mark [x18_9] h9) h9) fun x19_10 h10 =>
 oB (gq x14_6 true (evQ (.un .not (.c x19_10)) .e h10)) fun x20_11 =>
 oB (oPick x14_6 x20_11 (.bool false)) fun x21_12 =>
 ci x21_12 (
 jnF 4 (fun z6_13 z5_13 z1_13 z0_13 h13 =>
 oB (bAdd z6_13 (I 1)) fun x23_14 =>
 f2 x23_14 z5_13 z1_13 z0_13 h13) fun j13 =>
 oP (call n_flow_reader_kind [y0_2, y6_2] h10) fun x26_15 h15 =>
 oB (bEq .no y5_2 (I 0)) fun x28_16 =>
 oB (gq x28_16 true (some x26_15)) fun x30_17 =>
 oB (gq x28_16 true (bEq .no x30_17 (I 7))) fun x31_18 =>
 oB (gq x28_16 true (some x31_18)) fun x32_19 =>
 oB (gq x32_19 false (some x26_15)) fun x33_20 =>
 oP (gw x32_19 false (call n_flow_ends [x33_20] h15) h15) fun x34_21 h21 =>
 oB (gq x28_16 true (oPick x32_19 (.bool true) x34_21)) fun x35_22 =>
 oB (oPick x28_16 x35_22 (.bool false)) fun x36_23 =>
 ci x36_23 (
 j0 y6_2 y1_2 y0_2 h21) (
 oP (call n_flow_opens [x26_15] h21) fun x38_24 h24 =>
 jnF 5 (fun z7_25 z6_25 z5_25 z1_25 z0_25 h25 =>
 oP (call n_flow_ends [z7_25] h25) fun x42_26 h26 =>
 jnF 4 (fun z6_27 z5_27 z1_27 z0_27 h27 =>
 j13 z6_27 z5_27 z1_27 z0_27 h27) fun j27 =>
 ci x42_26 (
 oB (bSub z5_25 (I 1)) fun x44_28 =>
 j27 z6_25 x44_28 z1_25 z0_25 h26) (
 j27 z6_25 z5_25 z1_25 z0_25 h26)) fun j25 =>
 ci x38_24 (
 oB (bAdd y5_2 (I 1)) fun x40_29 =>
 j25 x26_15 y6_2 x40_29 y1_2 y0_2 h24) (
 j25 x26_15 y6_2 y5_2 y1_2 y0_2 h24))) (
 j0 y6_2 y1_2 y0_2 h10)) x1 (I 0) x1 x0 h
theorem o_flow_reader_stray : FnOK Tryz.prog n_flow_reader_stray (a2 f_flow_reader_stray) := ok2 mixed Tryz.func385 (by kernel_rfl)
/- (*corrector/flow.reader).pair -/
noncomputable def f_flow_reader_pair (n : Nat) (call : Caller)  (x0 x1 x2 x3 x4 : AV) (h : AH) : Ans :=
 oB (bAdd x3 (I 1)) fun x19_0 =>
 oP (call n_flow_reader_add [x0, x1, (I 6), x2, x19_0] h) fun x20_1 h1 =>
 oP (call n_flow_reader_scalar [x0, x20_1, x2, x3] h1) fun x25_2 h2 =>
 oB (bAdd x3 (I 1)) fun x28_3 =>
 oP (call n_flow_reader_past [x0, x28_3] h2) fun x29_4 h4 =>
 oP (call n_flow_reader_value [x0, x20_1, x29_4, x4] h4) fun x35_5 h5 =>
 oB (oEx 0 x35_5) fun x36_6 =>
 oB (oEx 1 x35_5) fun x37_7 =>
 oB (bGe x36_6 (I 0)) fun x39_8 =>
 ci x39_8 (
 some (x37_7, h5)) (
 oB (bAdd x3 (I 1)) fun x42_9 =>
 some (x42_9, h5))
theorem o_flow_reader_pair : FnOK Tryz.prog n_flow_reader_pair (a5 f_flow_reader_pair) := ok5 mixed Tryz.func386 (by kernel_rfl)
/- (*corrector/flow.reader).one -/
noncomputable def f_flow_reader_one (n : Nat) (call : Caller)  (x0 x1 x2 x3 x4 : AV) (h : AH) : Ans :=
 oB (oNil x0) fun x16_0 =>
 oB (oFA 2 x16_0) fun x17_1 =>
 oB (oLdN 1 h x17_1) fun x18_2 =>
 oP (oNew h 100 [.nils]) fun x12_3 h3 =>
 oP (oSt 1 h3 x12_3 x18_2) fun _ h4 =>
 oB (bEq .no x2 (I 10)) fun x21_5 =>
 jnF 6 (fun z13_6 z12_6 z4_6 z3_6 z1_6 z0_6 h6 =>
 oP (call n_flow_reader_value [z0_6, z13_6, z3_6, z4_6] h6) fun x40_7 h7 =>
 oB (oEx 0 x40_7) fun x41_8 =>
 oB (oEx 1 x40_7) fun x42_9 =>
 oB (bGe x41_8 (I 0)) fun x44_10 =>
 ci x44_10 (
 some (.tup [x42_9, (.bool true)], h7)) (
 oB (oLdN 1 h7 z12_6) fun x47_11 =>
 oB (oNil z0_6) fun x48_12 =>
 oB (oFA 2 x48_12) fun x49_13 =>
 oP (oSt 1 h7 x49_13 x47_11) fun _ h14 =>
 oB (bAdd z3_6 (I 1)) fun x54_15 =>
 oP (call n_flow_reader_wrong [z0_6, (I 8), z1_6, z3_6, x54_15] h14) fun x55_16 h16 =>
 oB (bAdd z3_6 (I 1)) fun x57_17 =>
 some (.tup [x57_17, (.bool false)], h16))) fun j6 =>
 ci x21_5 (
 oP (call n_flow_reader_add [x0, x1, (I 6), x3, x3] h4) fun x26_18 h18 =>
 oB (oNil x0) fun x28_19 =>
 oB (oFA 2 x28_19) fun x29_20 =>
 oB (oFA 0 x29_20) fun x30_21 =>
 oB (oLd h18 x30_21) fun x31_22 =>
 oB (oIx 6 x31_22 x26_18) fun x33_23 =>
 oB (oFA 5 x33_23) fun x34_24 =>
 oP (oSt 1 h18 x34_24 (.bool true)) fun _ h25 =>
 j6 x26_18 x12_3 x4 x3 x1 x0 h25) (
 j6 x1 x12_3 x4 x3 x1 x0 h4)
theorem o_flow_reader_one : FnOK Tryz.prog n_flow_reader_one (a5 f_flow_reader_one) := ok5 mixed Tryz.func387 (by kernel_rfl)
/- strings.IndexRune -/
noncomputable def f_strings_IndexRune (n : Nat) (call : Caller)  (x0 x1 : AV) (h : AH) : Ans :=
 jnF 1 (fun z4_0 h0 =>
 some (z4_0, h0)) fun j0 =>
 oB (bLe (R 0) x1) fun x162_1 =>
 oB (gq x162_1 true (some x1)) fun x164_2 =>
 oB (gq x162_1 true (bLt x164_2 (R 128))) fun x165_3 =>
 oB (oPick x162_1 x165_3 (.bool false)) fun x166_4 =>
 ci x166_4 (
 oB (oInt .u8 x1) fun x169_5 =>
 oP (call n_strings_IndexByte [x0, x169_5] h) fun x170_6 h6 =>
 some (x170_6, h6)) (
 oB (bEq .no x1 (R 65533)) fun x173_7 =>
 ci x173_7 (
 oP (evW (.rangeS (.c x0)) .e h) fun x175_8 h8 =>
 jnF 0 (fun h9 =>
 some ((Ineg 0), h9)) fun j9 =>
 lpF 1 n (fun f10 y175_10 h10 =>
 oP (evW (.nextS (.c y175_10)) .e h10) fun x176_11 h11 =>
 oB (oEx 0 x176_11) fun x177_12 =>
 ci x177_12 (
 jnF 1 (fun z175_13 h13 =>
 f10 z175_13 h13) fun j13 =>
 oB (oEx 1 x176_11) fun x178_14 =>
 oB (oEx 2 x176_11) fun x179_15 =>
 oB (bEq .no x179_15 (R 65533)) fun x181_16 =>
 ci x181_16 (
 some (x178_14, h11)) (
 j13 y175_10 h11)) (
 j9 h11)) x175_8 h8) (
 oP (call n_unicode_utf8_ValidRune [x1] h) fun x185_17 h17 =>
 oB (evQ (.un .not (.c x185_17)) .e h17) fun x186_18 =>
 ci x186_18 (
 some ((Ineg 0), h17)) (
 scF n fun m19 => jnF 5 (lpF 5 m19 fun f19 y9_19 y8_19 y7_19 y1_19 y0_19 h19 =>
 jnF 0 (fun h20 =>
 some ((Ineg 0), h20)) fun j20 =>
 ci (.bool true) (
 oB (bSub y9_19 y8_19) fun x102_21 =>
 oB (oSlS y0_19 (some x102_21) none) fun x103_22 =>
 oB (evQ (.toStr (.c y1_19)) .e h19) fun x105_23 =>
 oB (evQ (.bad) .e h19) fun x106_24 =>
 oB (bGe x106_24 (I 0)) fun x108_25 =>
 ci x108_25 (
 oB (bAdd y9_19 x106_24) fun x111_26 =>
 oB (bSub x111_26 y8_19) fun x113_27 =>
 some (x113_27, h19)) (
 j20 h19)) (
 scF n fun m28 => jnF 6 (lpF 6 m28 fun f28 y15_28 y14_28 y9_28 y8_28 y7_28 y0_28 h28 =>
 jnF 0 (fun h29 =>
 j20 h29) fun j29 =>
 lpF 6 n (fun f30 y15_30 y14_30 y9_30 y8_30 y7_30 y0_30 h30 =>
 oB (oLenS y0_30) fun x123_31 =>
 oB (bLt y9_30 x123_31) fun x124_32 =>
 ci x124_32 (
 jnF 6 (fun z15_33 z14_33 z9_33 z8_33 z7_33 z0_33 h33 =>
 oB (bAdd z9_33 (I 1)) fun x126_34 =>
 f30 z15_33 z14_33 x126_34 z8_33 z7_33 z0_33 h33) fun j33 =>
 oB (oIxS y0_30 y9_30) fun x129_35 =>
 oB (bEq .no x129_35 y14_30) fun x131_36 =>
 oB (gq x131_36 true (some y0_30)) fun x133_37 =>
 oB (gq x131_36 true (some y9_30)) fun x134_38 =>
 oB (gq x131_36 true (bSub x134_38 (I 1))) fun x135_39 =>
 oB (gq x131_36 true (oIxS x133_37 x135_39)) fun x136_40 =>
 oB (gq x131_36 true (some y15_30)) fun x137_41 =>
 oB (gq x131_36 true (bEq .no x136_40 x137_41)) fun x138_42 =>
 oB (oPick x131_36 x138_42 (.bool false)) fun x139_43 =>
 ci x139_43 (
 jnF 2 (fun z9_44 z8_44 h44 =>
 oB (bSub z9_44 z8_44) fun x159_45 =>
 some (x159_45, h44)) fun j44 =>
 lpF 7 n (fun f46 y16_46 y15_46 y14_46 y9_46 y8_46 y7_46 y0_46 h46 =>
 oB (oLenS y7_46) fun x142_47 =>
 oB (bLt y16_46 x142_47) fun x143_48 =>
 ci x143_48 (
 jnF 7 (fun z16_49 z15_49 z14_49 z9_49 z8_49 z7_49 z0_49 h49 =>
 oB (bAdd z16_49 (I 1)) fun x145_50 =>
 f46 x145_50 z15_49 z14_49 z9_49 z8_49 z7_49 z0_49 h49) fun j49 =>
 oB' (nx 11 h46) fun h51 =>
 oB (bSub y9_46 y16_46) fun x149_52 =>
 oB (oIxS y0_46 x149_52) fun x150_53 =>
 oB (bSub y8_46 y16_46) fun x154_54 =>
 oB (oIxS y7_46 x154_54) fun x155_55 =>
 oB (bNe .no x150_53 x155_55) fun x156_56 =>
 ci x156_56 (
 j33 y15_46 y14_46 y9_46 y8_46 y7_46 y0_46 h51) (
 j49 y16_46 y15_46 y14_46 y9_46 y8_46 y7_46 y0_46 h51)) (
 j44 y9_46 y8_46 h46)) (I 2) y15_30 y14_30 y9_30 y8_30 y7_30 y0_30 h30) (
 j33 y15_30 y14_30 y9_30 y8_30 y7_30 y0_30 h30)) (
 j29 h30)) y15_28 y14_28 y9_28 y8_28 y7_28 y0_28 h28) fun f28 =>
 oB (oIxS y7_19 y8_19) fun x116_57 =>
 oB (bSub y8_19 (I 1)) fun x119_58 =>
 oB (oIxS y7_19 x119_58) fun x120_59 =>
 jnF 0 (fun h60 =>
 j20 h60) fun j60 =>
 lpF 6 n (fun f61 y15_61 y14_61 y9_61 y8_61 y7_61 y0_61 h61 =>
 oB (oLenS y0_61) fun x123_62 =>
 oB (bLt y9_61 x123_62) fun x124_63 =>
 ci x124_63 (
 jnF 6 (fun z15_64 z14_64 z9_64 z8_64 z7_64 z0_64 h64 =>
 oB (bAdd z9_64 (I 1)) fun x126_65 =>
 f61 z15_64 z14_64 x126_65 z8_64 z7_64 z0_64 h64) fun j64 =>
 oB (oIxS y0_61 y9_61) fun x129_66 =>
 oB (bEq .no x129_66 y14_61) fun x131_67 =>
 oB (gq x131_67 true (some y0_61)) fun x133_68 =>
 oB (gq x131_67 true (some y9_61)) fun x134_69 =>
 oB (gq x131_67 true (bSub x134_69 (I 1))) fun x135_70 =>
 oB (gq x131_67 true (oIxS x133_68 x135_70)) fun x136_71 =>
 oB (gq x131_67 true (some y15_61)) fun x137_72 =>
 oB (gq x131_67 true (bEq .no x136_71 x137_72)) fun x138_73 =>
 oB (oPick x131_67 x138_73 (.bool false)) fun x139_74 =>
 ci x139_74 (
 jnF 2 (fun z9_75 z8_75 h75 =>
 oB (bSub z9_75 z8_75) fun x159_76 =>
 some (x159_76, h75)) fun j75 =>
 lpF 7 n (fun f77 y16_77 y15_77 y14_77 y9_77 y8_77 y7_77 y0_77 h77 =>
 oB (oLenS y7_77) fun x142_78 =>
 oB (bLt y16_77 x142_78) fun x143_79 =>
 ci x143_79 (
 jnF 7 (fun z16_80 z15_80 z14_80 z9_80 z8_80 z7_80 z0_80 h80 =>
 oB (bAdd z16_80 (I 1)) fun x145_81 =>
 f77 x145_81 z15_80 z14_80 z9_80 z8_80 z7_80 z0_80 h80) fun j80 =>
 oB' (nx 11 h77) fun h82 =>
 oB (bSub y9_77 y16_77) fun x149_83 =>
 oB (oIxS y0_77 x149_83) fun x150_84 =>
 oB (bSub y8_77 y16_77) fun x154_85 =>
 oB (oIxS y7_77 x154_85) fun x155_86 =>
 oB (bNe .no x150_84 x155_86) fun x156_87 =>
 ci x156_87 (
 j64 y15_77 y14_77 y9_77 y8_77 y7_77 y0_77 h82) (
 j80 y16_77 y15_77 y14_77 y9_77 y8_77 y7_77 y0_77 h82)) (
 j75 y9_77 y8_77 h77)) (I 2) y15_61 y14_61 y9_61 y8_61 y7_61 y0_61 h61) (
 j64 y15_61 y14_61 y9_61 y8_61 y7_61 y0_61 h61)) (
 j60 h61)) x120_59 x116_57 y9_19 y8_19 y7_19 y0_19 h19)) fun f19 =>
 oB (evQ (.toStr (.c x1)) .e h17) fun x18_88 =>
 oB (oLenS x18_88) fun x20_89 =>
 oB (bSub x20_89 (I 1)) fun x21_90 =>
 jnF 0 (fun h91 =>
 some ((Ineg 0), h91)) fun j91 =>
 lpF 6 n (fun f92 y10_92 y9_92 y8_92 y7_92 y1_92 y0_92 h92 =>
 oB (oLenS y0_92) fun x25_93 =>
 oB (bLt y9_92 x25_93) fun x26_94 =>
 ci x26_94 (
 jnF 6 (fun z10_95 z9_95 z8_95 z7_95 z1_95 z0_95 h95 =>
 f92 z10_95 z9_95 z8_95 z7_95 z1_95 z0_95 h95) fun j95 =>
 scF n fun m96 => jnF 6 (lpF 6 m96 fun f96 y10_96 y9_96 y8_96 y7_96 y1_96 y0_96 h96 =>
 oB (bAdd y10_96 (I 1)) fun x69_97 =>
 oB (bAdd y9_96 (I 1)) fun x71_98 =>
 oB (gq (.bool true) true (some x69_97)) fun x73_99 =>
 oB (gq (.bool true) true (some x71_98)) fun x74_100 =>
 oP (gw (.bool true) true (call n_internal_bytealg_Cutover [x74_100] h96) h96) fun x75_101 h101 =>
 oB (gq (.bool true) true (bGt x73_99 x75_101)) fun x76_102 =>
 oB (oPick (.bool true) x76_102 (.bool false)) fun x77_103 =>
 oB (gq x77_103 true (some x71_98)) fun x79_104 =>
 oB (gq x77_103 true (some y0_96)) fun x80_105 =>
 oB (gq x77_103 true (oLenS x80_105)) fun x81_106 =>
 oB (gq x77_103 true (bLt x79_104 x81_106)) fun x82_107 =>
 oB (oPick x77_103 x82_107 (.bool false)) fun x83_108 =>
 oB (gq x83_108 false (some (.bool false))) fun x85_109 =>
 oB (gq x85_109 true (some x69_97)) fun x86_110 =>
 oB (gq x85_109 true (some x71_98)) fun x87_111 =>
 oB (gq x85_109 true (binAV .shr .no x87_111 (.int .u64 4))) fun x88_112 =>
 oB (gq x85_109 true (bAdd (I 4) x88_112)) fun x89_113 =>
 oB (gq x85_109 true (bGe x86_110 x89_113)) fun x90_114 =>
 oB (gq x83_108 false (oPick x85_109 x90_114 (.bool false))) fun x91_115 =>
 oB (gq x83_108 false (some x91_115)) fun x92_116 =>
 oB (gq x92_116 true (some x71_98)) fun x93_117 =>
 oB (gq x92_116 true (some y0_96)) fun x94_118 =>
 oB (gq x92_116 true (oLenS x94_118)) fun x95_119 =>
 oB (gq x92_116 true (bLt x93_117 x95_119)) fun x96_120 =>
 oB (gq x83_108 false (oPick x92_116 x96_120 (.bool false))) fun x97_121 =>
 oB (oPick x83_108 (.bool true) x97_121) fun x98_122 =>
 ci x98_122 (
 none) (
 j95 x69_97 x71_98 y8_96 y7_96 y1_96 y0_96 h101)) fun f96 =>
 oB' (nx 7 h92) fun h123 =>
 oB (oIxS y0_92 y9_92) fun x29_124 =>
 oB (oIxS y7_92 y8_92) fun x32_125 =>
 oB (bNe .no x29_124 x32_125) fun x33_126 =>
 jnF 6 (fun z10_127 z9_127 z8_127 z7_127 z1_127 z0_127 h127 =>
 jnF 2 (fun z9_128 z8_128 h128 =>
 oB (bSub z9_128 z8_128) fun x67_129 =>
 some (x67_129, h128)) fun j128 =>
 lpF 7 n (fun f130 y12_130 y10_130 y9_130 y8_130 y7_130 y1_130 y0_130 h130 =>
 oB (oLenS y7_130) fun x50_131 =>
 oB (bLt y12_130 x50_131) fun x51_132 =>
 ci x51_132 (
 jnF 7 (fun z12_133 z10_133 z9_133 z8_133 z7_133 z1_133 z0_133 h133 =>
 oB (bAdd z12_133 (I 1)) fun x53_134 =>
 f130 x53_134 z10_133 z9_133 z8_133 z7_133 z1_133 z0_133 h133) fun j133 =>
 oB' (nx 11 h130) fun h135 =>
 oB (bSub y9_130 y12_130) fun x57_136 =>
 oB (oIxS y0_130 x57_136) fun x58_137 =>
 oB (bSub y8_130 y12_130) fun x62_138 =>
 oB (oIxS y7_130 x62_138) fun x63_139 =>
 oB (bNe .no x58_137 x63_139) fun x64_140 =>
 ci x64_140 (
 f96 y10_130 y9_130 y8_130 y7_130 y1_130 y0_130 h135) (
 j133 y12_130 y10_130 y9_130 y8_130 y7_130 y1_130 y0_130 h135)) (
 j128 y9_130 y8_130 h130)) (I 1) z10_127 z9_127 z8_127 z7_127 z1_127 z0_127 h127) fun j127 =>
 ci x33_126 (
 oB' (nx 9 h123) fun h141 =>
 oB (bAdd y9_92 (I 1)) fun x36_142 =>
 oB (oSlS y0_92 (some x36_142) none) fun x37_143 =>
 oB (oIxS y7_92 y8_92) fun x40_144 =>
 oP (call n_strings_IndexByte [x37_143, x40_144] h141) fun x41_145 h145 =>
 oB (bLt x41_145 (I 0)) fun x43_146 =>
 ci x43_146 (
 some ((Ineg 0), h145)) (
 oB (bAdd x41_145 (I 1)) fun x46_147 =>
 oB (bAdd y9_92 x46_147) fun x47_148 =>
 j127 y10_92 x47_148 y8_92 y7_92 y1_92 y0_92 h145)) (
 j127 y10_92 y9_92 y8_92 y7_92 y1_92 y0_92 h123)) (
 j91 h92)) (I 0) x21_90 x21_90 x18_88 x1 x0 h17)))
theorem o_strings_IndexRune : FnOK Tryz.prog n_strings_IndexRune (a2 f_strings_IndexRune) := ok2 mixed Tryz.func388 (by kernel_rfl)
/- strings.shouldUseASCIISet -/
noncomputable def f_strings_shouldUseASCIISet (n : Nat) (call : Caller)  (x0 : AV) (h : AH) : Ans :=
 oB (bGt x0 (I 8)) fun x4_0 =>
 some (x4_0, h)
theorem o_strings_shouldUseASCIISet : FnOK Tryz.prog n_strings_shouldUseASCIISet (a1 f_strings_shouldUseASCIISet) := ok1 mixed Tryz.func389 (by kernel_rfl)
/- strings.makeASCIISet -/
noncomputable def f_strings_makeASCIISet (n : Nat) (call : Caller)  (x0 : AV) (h : AH) : Ans :=
 oP (oNew h 406 [(.bool false), (.bool false), (.bool false), (.bool false), (.bool false), (.bool false), (.bool false), (.bool false), (.bool false), (.bool false), (.bool false), (.bool false), (.bool false), (.bool false), (.bool false), (.bool false), (.bool false), (.bool false), (.bool false), (.bool false), (.bool false), (.bool false), (.bool false), (.bool false), (.bool false), (.bool false), (.bool false), (.bool false), (.bool false), (.bool false), (.bool false), (.bool false), (.bool false), (.bool false), (.bool false), (.bool false), (.bool false), (.bool false), (.bool false), (.bool false), (.bool false), (.bool false), (.bool false), (.bool false), (.bool false), (.bool false), (.bool false), (.bool false), (.bool false), (.bool false), (.bool false), (.bool false), (.bool false), (.bool false), (.bool false), (.bool false), (.bool false), (.bool false), (.bool false), (.bool false), (.bool false), (.bool false), (.bool false), (.bool false), (.bool false), (.bool false), (.bool false), (.bool false), (.bool false), (.bool false), (.bool false), (.bool false), (.bool false), (.bool false), (.bool false), (.bool false), (.bool false), (.bool false), (.bool false), (.bool false), (.bool false), (.bool false), (.bool false), (.bool false), (.bool false), (.bool false), (.bool false), (.bool false), (.bool false), (.bool false), (.bool false), (.bool false), (.bool false), (.bool false), (.bool false), (.bool false), (.bool false), (.bool false), (.bool false), (.bool false), (.bool false), (.bool false), (.bool false), (.bool false), (.bool false), (.bool false), (.bool false), (.bool false), (.bool false), (.bool false), (.bool false), (.bool false), (.bool false), (.bool false), (.bool false), (.bool false), (.bool false), (.bool false), (.bool false), (.bool false), (.bool false), (.bool false), (.bool false), (.bool false), (.bool false), (.bool false), (.bool false), (.bool false), (.bool false), (.bool false), (.bool false), (.bool false), (.bool false), (.bool false), (.bool false), (.bool false), (.bool false), (.bool false), (.bool false), (.bool false), (.bool false), (.bool false), (.bool false), (.bool false), (.bool false), (.bool false), (.bool false), (.bool false), (.bool false), (.bool false), (.bool false), (.bool false), (.bool false), (.bool false), (.bool false), (.bool false), (.bool false), (.bool false), (.bool false), (.bool false), (.bool false), (.bool false), (.bool false), (.bool false), (.bool false), (.bool false), (.bool false), (.bool false), (.bool false), (.bool false), (.bool false), (.bool false), (.bool false), (.bool false), (.bool false), (.bool false), (.bool false), (.bool false), (.bool false), (.bool false), (.bool false), (.bool false), (.bool false), (.bool false), (.bool false), (.bool false), (.bool false), (.bool false), (.bool false), (.bool false), (.bool false), (.bool false), (.bool false), (.bool false), (.bool false), (.bool false), (.bool false), (.bool false), (.bool false), (.bool false), (.bool false), (.bool false), (.bool false), (.bool false), (.bool false), (.bool false), (.bool false), (.bool false), (.bool false), (.bool false), (.bool false), (.bool false), (.bool false), (.bool false), (.bool false), (.bool false), (.bool false), (.bool false), (.bool false), (.bool false), (.bool false), (.bool false), (.bool false), (.bool false), (.bool false), (.bool false), (.bool false), (.bool false), (.bool false), (.bool false), (.bool false), (.bool false), (.bool false), (.bool false), (.bool false), (.bool false), (.bool false), (.bool false), (.bool false), (.bool false), (.bool false), (.bool false), (.bool false), (.bool false), (.bool false), (.bool false), (.bool false), (.bool false), (.bool false), (.bool false), (.bool false), (.bool false), (.bool false), (.bool false), (.bool false), (.bool false)]) fun x2_0 h0 =>
 jnF 1 (fun z2_1 h1 =>
 oB (oLdN 256 h1 z2_1) fun x20_2 =>
 oP (oSt 256 h1 z2_1 x20_2) fun _ h3 =>
 retT [(2, some (some 256)), (3, none)] (sput 3 (sput 2 Tr.e z2_1) (.bool true)) h3) fun j1 =>
 lpF 3 n (fun f4 y4_4 y2_4 y0_4 h4 =>
 oB (oLenS y0_4) fun x8_5 =>
 oB (bLt y4_4 x8_5) fun x9_6 =>
 ci x9_6 (
 jnF 3 (fun z4_7 z2_7 z0_7 h7 =>
 oB (bAdd z4_7 (I 1)) fun x11_8 =>
 f4 x11_8 z2_7 z0_7 h7) fun j7 =>
 oB (oIxS y0_4 y4_4) fun x14_9 =>
 oB (bGe x14_9 (U 128)) fun x16_10 =>
 ci x16_10 (
 oB (oLdN 256 h4 y2_4) fun x17_11 =>
 oP (oSt 256 h4 y2_4 x17_11) fun _ h12 =>
 retT [(2, some (some 256)), (3, none)] (sput 3 (sput 2 Tr.e y2_4) (.bool false)) h12) (
 oB (evQ (.idxArr 256 1 (.c y2_4) (.c x14_9)) .e h4) fun x19_13 =>
 oP (oSt 1 h4 x19_13 (.bool true)) fun _ h14 =>
 j7 y4_4 y2_4 y0_4 h14)) (
 j1 y2_4 h4)) (I 0) x2_0 x0 h0
theorem o_strings_makeASCIISet : FnOK Tryz.prog n_strings_makeASCIISet (a1 f_strings_makeASCIISet) := ok1 mixed Tryz.func390 (by kernel_rfl)
/- (*strings.asciiSet).contains -/
noncomputable def f_strings_asciiSet_contains (n : Nat) (call : Caller)  (x0 x1 : AV) (h : AH) : Ans :=
 oB (oNil x0) fun x7_0 =>
 oB (evQ (.idxArr 256 1 (.c x7_0) (.c x1)) .e h) fun x8_1 =>
 oB (oLd h x8_1) fun x9_2 =>
 some (x9_2, h)
theorem o_strings_asciiSet_contains : FnOK Tryz.prog n_strings_asciiSet_contains (a2 f_strings_asciiSet_contains) := ok2 mixed Tryz.func391 (by kernel_rfl)
/- corrector/resolve.value -/
noncomputable def f_resolve_value (n : Nat) (call : Caller)  (x0 x1 : AV) (h : AH) : Ans :=
 jnF 2 (fun z5_0 z1_0 h0 =>
 oB (bGe z5_0 z1_0) fun x40_1 =>
 ci x40_1 (
 some ((Ineg 0), h0)) (
 some (z5_0, h0))) fun j0 =>
 oB (bGe x0 (R 48)) fun x8_2 =>
 oB (gq x8_2 true (some x0)) fun x10_3 =>
 oB (gq x8_2 true (bLe x10_3 (R 57))) fun x11_4 =>
 oB (oPick x8_2 x11_4 (.bool false)) fun x12_5 =>
 jnF 2 (fun z5_6 z1_6 h6 =>
 j0 z5_6 z1_6 h6) fun j6 =>
 ci x12_5 (
 oB (bSub x0 (R 48)) fun x14_7 =>
 oB (oInt .i64 x14_7) fun x15_8 =>
 j6 x15_8 x1 h) (
 oB (bGe x0 (R 97)) fun x18_9 =>
 oB (gq x18_9 true (some x0)) fun x20_10 =>
 oB (gq x18_9 true (bLe x20_10 (R 102))) fun x21_11 =>
 oB (oPick x18_9 x21_11 (.bool false)) fun x22_12 =>
 jnF 2 (fun z5_13 z1_13 h13 =>
 j6 z5_13 z1_13 h13) fun j13 =>
 ci x22_12 (
 oB (bSub x0 (R 97)) fun x24_14 =>
 oB (oInt .i64 x24_14) fun x25_15 =>
 oB (bAdd x25_15 (I 10)) fun x26_16 =>
 j13 x26_16 x1 h) (
 oB (bGe x0 (R 65)) fun x29_17 =>
 oB (gq x29_17 true (some x0)) fun x31_18 =>
 oB (gq x29_17 true (bLe x31_18 (R 70))) fun x32_19 =>
 oB (oPick x29_17 x32_19 (.bool false)) fun x33_20 =>
 jnF 2 (fun z5_21 z1_21 h21 =>
 j13 z5_21 z1_21 h21) fun j21 =>
 ci x33_20 (
 oB (bSub x0 (R 65)) fun x35_22 =>
 oB (oInt .i64 x35_22) fun x36_23 =>
 oB (bAdd x36_23 (I 10)) fun x37_24 =>
 j21 x37_24 x1 h) (
 j21 (Ineg 0) x1 h)))
theorem o_resolve_value : FnOK Tryz.prog n_resolve_value (a2 f_resolve_value) := ok2 mixed Tryz.func392 (by kernel_rfl)
end Go.Proofs.YtmlhpcflphlgdaaGreatDoor
