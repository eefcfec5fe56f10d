/- Functions, as they run. PRINTED by a program of this repo. -/
import Derived.Test.YtmlhpcflphlgdaaGreatDoorN
import Derived.Test.YtmlhpcflphlgdaaGreatDoorM
set_option linter.unusedVariables false
set_option maxRecDepth 100000
namespace Go.Proofs.YtmlhpcflphlgdaaGreatDoor
open Go.Ev
/- (*corrector/parse.parser).entries -/
noncomputable def f_parse_parser_entries (n : Nat) (call : Caller)  (x0 x1 x2 x3 : AV) (h : AH) : Ans :=
 oB (oNil x0) fun x18_0 =>
 oB (oFA 2 x18_0) fun x19_1 =>
 oB (oLd h x19_1) fun x20_2 =>
 oB (oIx 4 x20_2 x1) fun x22_3 =>
 oB (oLdN 4 h x22_3) fun x23_4 =>
 oP (oNew h 218 [(I 0), (I 0), (I 0), (I 0)]) fun x9_5 h5 =>
 oP (oSt 4 h5 x9_5 x23_4) fun _ h6 =>
 oB (oLen x2) fun x25_7 =>
 jnF 4 (fun z9_8 z3_8 z1_8 z0_8 h8 =>
 oB (oFA 2 z9_8) fun x47_9 =>
 oB (oLd h8 x47_9) fun x48_10 =>
 oP (call n_parse_parser_first [z0_8, z3_8, x48_10] h8) fun x49_11 h11 =>
 oB (oFA 2 z9_8) fun x51_12 =>
 oB (oLd h11 x51_12) fun x52_13 =>
 oB (bEq .no x49_11 x52_13) fun x53_14 =>
 ci x53_14 (
 oB (bAdd z1_8 (I 1)) fun x55_15 =>
 some (x55_15, h11)) (
 oB' (nx 12 h11) fun h16 =>
 oB (oNil z0_8) fun x57_17 =>
 oB (oFA 8 x57_17) fun x58_18 =>
 oB (oLd h16 x58_18) fun x59_19 =>
 oB (oNil z0_8) fun x61_20 =>
 oB (oFA 8 x61_20) fun x62_21 =>
 oB (oLd h16 x62_21) fun x63_22 =>
 oB (oLen x63_22) fun x64_23 =>
 oB (bSub x64_23 (I 1)) fun x65_24 =>
 oB (oIx 5 x59_19 x65_24) fun x66_25 =>
 oB (oNil x66_25) fun x71_26 =>
 oB (oFA 3 x71_26) fun x72_27 =>
 oB (oLd h16 x72_27) fun x73_28 =>
 oP (call n_parse_parser_value [z0_8, z1_8, x73_28, x49_11] h16) fun x75_29 h29 =>
 oB (oEx 0 x75_29) fun x76_30 =>
 oB (oEx 1 x75_29) fun x77_31 =>
 oB (oNil x66_25) fun x80_32 =>
 oB (oFA 4 x80_32) fun x81_33 =>
 oP (oSt 1 h29 x81_33 x76_30) fun _ h34 =>
 some (x77_31, h34))) fun j8 =>
 lpF 7 n (fun f35 y26_35 y25_35 y24_35 y9_35 y3_35 y1_35 y0_35 h35 =>
 oB (bLt y26_35 y25_35) fun x27_36 =>
 ci x27_36 (
 jnF 7 (fun z26_37 z25_37 z24_37 z9_37 z3_37 z1_37 z0_37 h37 =>
 oB (bAdd z26_37 (I 1)) fun x44_38 =>
 f35 x44_38 z25_37 z24_37 z9_37 z3_37 z1_37 z0_37 h37) fun j37 =>
 oB (oIx 4 y24_35 y26_35) fun x28_39 =>
 oB (oLdN 4 h35 x28_39) fun x29_40 =>
 oP (oNew h35 275 [(.bool false), (I 0), (I 0), (I 0)]) fun x11_41 h41 =>
 oP (oSt 4 h41 x11_41 x29_40) fun _ h42 =>
 oB (oLdN 4 h42 x11_41) fun x31_43 =>
 oP (call n_parse_parser_place [y0_35, x31_43] h42) fun x32_44 h44 =>
 oB (bNe .no x32_44 (I 0)) fun x34_45 =>
 ci x34_45 (
 oB (oFA 2 x11_41) fun x37_46 =>
 oB (oLd h44 x37_46) fun x38_47 =>
 oB (oFA 2 y9_35) fun x39_48 =>
 oB (oLd h44 x39_48) fun x40_49 =>
 oP (call n_parse_parser_amiss [y0_35, x32_44, x38_47, x40_49] h44) fun x41_50 h50 =>
 oB (bAdd y1_35 (I 1)) fun x43_51 =>
 some (x43_51, h50)) (
 j37 y26_35 y25_35 y24_35 y9_35 y3_35 y1_35 y0_35 h44)) (
 j8 y9_35 y3_35 y1_35 y0_35 h35)) (I 0) x25_7 x2 x9_5 x3 x1 x0 h6
theorem o_parse_parser_entries : FnOK Tryz.prog n_parse_parser_entries (a4 f_parse_parser_entries) := ok4 mixed Tryz.func178 (by kernel_rfl)
/- corrector/runes.Bad -/
noncomputable def f_runes_Bad (n : Nat) (call : Caller)  (x0 : AV) (h : AH) : Ans :=
 jnF 1 (fun z3_0 h0 =>
 oP (evW (.append 3 1 8 [(I 0)] (.c .nils) (.c z3_0)) .e h0) fun x28_1 h1 =>
 some (x28_1, h1)) fun j0 =>
 lpF 3 n (fun f2 y4_2 y3_2 y0_2 h2 =>
 oB (oLen y0_2) fun x9_3 =>
 oB (bLt y4_2 x9_3) fun x10_4 =>
 ci x10_4 (
 jnF 3 (fun z4_5 z3_5 z0_5 h5 =>
 f2 z4_5 z3_5 z0_5 h5) fun j5 =>
 oB (evQ (.sl 1 (.c y0_2) (some (.c y4_2)) none none) .e h2) fun x14_6 =>
 oP (call n_runes_Next [x14_6] h2) fun x15_7 h7 =>
 oB (oEx 0 x15_7) fun x16_8 =>
 oB (oEx 1 x15_7) fun x17_9 =>
 oB (bLt x16_8 (R 0)) fun x19_10 =>
 jnF 4 (fun z6_11 z4_11 z3_11 z0_11 h11 =>
 oB (bAdd z4_11 z6_11) fun x26_12 =>
 j5 x26_12 z3_11 z0_11 h11) fun j11 =>
 ci x19_10 (
 oP (oBuildSl h7 3 1 1 [(I 0)] [(0, 1, y4_2)]) fun x22_13 h13 =>
 oP (evW (.append 3 1 8 [(I 0)] (.c y3_2) (.c x22_13)) .e h13) fun x23_14 h14 =>
 j11 x17_9 y4_2 x23_14 y0_2 h14) (
 j11 x17_9 y4_2 y3_2 y0_2 h7)) (
 j0 y3_2 h2)) (I 0) .nils x0 h
theorem o_runes_Bad : FnOK Tryz.prog n_runes_Bad (a1 f_runes_Bad) := ok1 mixed Tryz.func179 (by kernel_rfl)
/- (*corrector/parse.parser).tell -/
noncomputable def f_parse_parser_tell (n : Nat) (call : Caller)  (x0 x1 x2 x3 : AV) (h : AH) : Ans :=
 oB (oNil x0) fun x10_0 =>
 oB (oFA 5 x10_0) fun x11_1 =>
 oB (oLd h x11_1) fun x12_2 =>
 oB (oBuild [(I 0), (I 0), (I 0)] [(0, 1, x1), (1, 1, x2), (2, 1, x3)]) fun x16_3 =>
 oP (oBuildSl h 112 3 1 [(I 0), (I 0), (I 0)] [(0, 3, x16_3)]) fun x17_4 h4 =>
 oP (evW (.append 112 3 24 [(I 0), (I 0), (I 0)] (.c x12_2) (.c x17_4)) .e h4) fun x18_5 h5 =>
 oB (oNil x0) fun x19_6 =>
 oB (oFA 5 x19_6) fun x20_7 =>
 oP (oSt 1 h5 x20_7 x18_5) fun _ h8 =>
 some (.tup [], h8)
theorem o_parse_parser_tell : FnOK Tryz.prog n_parse_parser_tell (a4 f_parse_parser_tell) := ok4 mixed Tryz.func180 (by kernel_rfl)
/- (*corrector/parse.parser).tabs -/
noncomputable def f_parse_parser_tabs (n : Nat) (call : Caller)  (x0 x1 : AV) (h : AH) : Ans :=
 oP (oNew h 218 (AV.cells x1)) fun x3_0 h0 =>
 oB' (nx 11 h0) fun h1 =>
 oB (oNil x0) fun x7_2 =>
 oB (oFA 1 x7_2) fun x8_3 =>
 oB (oLd h1 x8_3) fun x9_4 =>
 oB (oFA 1 x3_0) fun x10_5 =>
 oB (oLd h1 x10_5) fun x11_6 =>
 oB (oFA 2 x3_0) fun x12_7 =>
 oB (oLd h1 x12_7) fun x13_8 =>
 oB (evQ (.sl 3 (.c x9_4) (some (.c x11_6)) (some (.c x13_8)) none) .e h1) fun x14_9 =>
 oB (oLen x14_9) fun x15_10 =>
 jnF 0 (fun h11 =>
 some (.tup [], h11)) fun j11 =>
 lpF 4 n (fun f12 y16_12 y15_12 y14_12 y0_12 h12 =>
 oB (bLt y16_12 y15_12) fun x17_13 =>
 ci x17_13 (
 jnF 4 (fun z16_14 z15_14 z14_14 z0_14 h14 =>
 oB (bAdd z16_14 (I 1)) fun x43_15 =>
 f12 x43_15 z15_14 z14_14 z0_14 h14) fun j14 =>
 oB (oIx 3 y14_12 y16_12) fun x18_16 =>
 oB (oLdN 3 h12 x18_16) fun x19_17 =>
 oP (oNew h12 92 [(I 0), (I 0), (I 0)]) fun x5_18 h18 =>
 oP (oSt 3 h18 x5_18 x19_17) fun _ h19 =>
 oB (oLdN 3 h19 x5_18) fun x20_20 =>
 oP (call n_parse_counts [x20_20] h19) fun x21_21 h21 =>
 ci x21_21 (
 some (.tup [], h21)) (
 oB' (nx 15 h21) fun h22 =>
 oB (oFA 0 x5_18) fun x22_23 =>
 oB (oLd h22 x22_23) fun x23_24 =>
 oB (bEq .no x23_24 (I 3)) fun x24_25 =>
 oB (gq x24_25 true (some y0_12)) fun x26_26 =>
 oB (gq x24_25 true (oNil x26_26)) fun x27_27 =>
 oB (gq x24_25 true (oFA 0 x27_27)) fun x28_28 =>
 oB (gq x24_25 true (oLd h22 x28_28)) fun x29_29 =>
 oB (gq x24_25 true (oFA 1 x5_18)) fun x30_30 =>
 oB (gq x24_25 true (oLd h22 x30_30)) fun x31_31 =>
 oB (gq x24_25 true (oFA 2 x5_18)) fun x32_32 =>
 oB (gq x24_25 true (oLd h22 x32_32)) fun x33_33 =>
 oB (gq x24_25 true (evQ (.sl 1 (.c x29_29) (some (.c x31_31)) (some (.c x33_33)) none) .e h22)) fun x34_34 =>
 oP (gw x24_25 true (call n_slices_Contains_byte_byte [x34_34, (U 9)] h22) h22) fun x35_35 h35 =>
 oB (oPick x24_25 x35_35 (.bool false)) fun x36_36 =>
 jnF 4 (fun z16_37 z15_37 z14_37 z0_37 h37 =>
 j14 z16_37 z15_37 z14_37 z0_37 h37) fun j37 =>
 ci x36_36 (
 oB (oFA 1 x5_18) fun x38_38 =>
 oB (oLd h35 x38_38) fun x39_39 =>
 oB (oFA 2 x5_18) fun x40_40 =>
 oB (oLd h35 x40_40) fun x41_41 =>
 oP (call n_parse_parser_tell [y0_12, (I 2), x39_39, x41_41] h35) fun x42_42 h42 =>
 j37 y16_12 y15_12 y14_12 y0_12 h42) (
 j37 y16_12 y15_12 y14_12 y0_12 h35))) (
 j11 h12)) (I 0) x15_10 x14_9 x0 h1
theorem o_parse_parser_tabs : FnOK Tryz.prog n_parse_parser_tabs (a2 f_parse_parser_tabs) := ok2 mixed Tryz.func181 (by kernel_rfl)
/- (*corrector/parse.parser).quoted -/
noncomputable def f_parse_parser_quoted (n : Nat) (call : Caller)  (x0 x1 : AV) (h : AH) : Ans :=
 oP (oNew h 92 (AV.cells x1)) fun x3_0 h0 =>
 oB' (nx 20 h0) fun h1 =>
 oB (oFA 0 x3_0) fun x10_2 =>
 oB (oLd h1 x10_2) fun x11_3 =>
 oB (oNil x0) fun x13_4 =>
 oB (oFA 0 x13_4) fun x14_5 =>
 oB (oLd h1 x14_5) fun x15_6 =>
 oB (oFA 1 x3_0) fun x16_7 =>
 oB (oLd h1 x16_7) fun x17_8 =>
 oB (oFA 2 x3_0) fun x18_9 =>
 oB (oLd h1 x18_9) fun x19_10 =>
 oB (evQ (.sl 1 (.c x15_6) (some (.c x17_8)) (some (.c x19_10)) none) .e h1) fun x20_11 =>
 oB (evQ (.b2s (.c x20_11)) .e h1) fun x21_12 =>
 oP (call n_quote_Text [x11_3, x21_12] h1) fun x22_13 h13 =>
 oB (oEx 0 x22_13) fun x23_14 =>
 oB (oEx 1 x22_13) fun x24_15 =>
 oB (oEx 2 x22_13) fun x25_16 =>
 oB (evQ (.un .not (.c x25_16)) .e h13) fun x27_17 =>
 jnF 3 (fun z5_18 z3_18 z0_18 h18 =>
 oB (oLen z5_18) fun x35_19 =>
 jnF 0 (fun h20 =>
 some (.tup [], h20)) fun j20 =>
 lpF 5 n (fun f21 y36_21 y35_21 y34_21 y3_21 y0_21 h21 =>
 oB (bLt y36_21 y35_21) fun x37_22 =>
 ci x37_22 (
 jnF 5 (fun z36_23 z35_23 z34_23 z3_23 z0_23 h23 =>
 oB (bAdd z36_23 (I 1)) fun x51_24 =>
 f21 x51_24 z35_23 z34_23 z3_23 z0_23 h23) fun j23 =>
 oB (oIx 1 y34_21 y36_21) fun x38_25 =>
 oB (oLd h21 x38_25) fun x39_26 =>
 oB (oFA 1 y3_21) fun x41_27 =>
 oB (oLd h21 x41_27) fun x42_28 =>
 oB (bAdd x42_28 x39_26) fun x44_29 =>
 oB (oFA 1 y3_21) fun x45_30 =>
 oB (oLd h21 x45_30) fun x46_31 =>
 oB (bAdd x46_31 x39_26) fun x48_32 =>
 oB (bAdd x48_32 (I 1)) fun x49_33 =>
 oP (call n_parse_parser_tell [y0_21, (I 4), x44_29, x49_33] h21) fun x50_34 h34 =>
 j23 y36_21 y35_21 y34_21 y3_21 y0_21 h34) (
 j20 h21)) (I 0) x35_19 z5_18 z3_18 z0_18 h18) fun j18 =>
 ci x27_17 (
 oB (oFA 1 x3_0) fun x29_35 =>
 oB (oLd h13 x29_35) fun x30_36 =>
 oB (oFA 2 x3_0) fun x31_37 =>
 oB (oLd h13 x31_37) fun x32_38 =>
 oP (call n_parse_parser_tell [x0, (I 3), x30_36, x32_38] h13) fun x33_39 h39 =>
 j18 x24_15 x3_0 x0 h39) (
 j18 x24_15 x3_0 x0 h13)
theorem o_parse_parser_quoted : FnOK Tryz.prog n_parse_parser_quoted (a2 f_parse_parser_quoted) := ok2 mixed Tryz.func182 (by kernel_rfl)
/- (*corrector/parse.parser).told$1 -/
noncomputable def f_parse_parser_told_1 (n : Nat) (call : Caller)  (x0 x1 : AV) (h : AH) : Ans :=
 oP (oNew h 112 (AV.cells x0)) fun x2_0 h0 =>
 oP (oNew h0 112 (AV.cells x1)) fun x3_1 h1 =>
 oB' (nx 18 h1) fun h2 =>
 oB (oFA 1 x2_0) fun x5_3 =>
 oB (oLd h2 x5_3) fun x6_4 =>
 oB (oFA 1 x3_1) fun x7_5 =>
 oB (oLd h2 x7_5) fun x8_6 =>
 oP (call n_cmp_Compare_int [x6_4, x8_6] h2) fun x9_7 h7 =>
 oB (oFA 2 x2_0) fun x10_8 =>
 oB (oLd h7 x10_8) fun x11_9 =>
 oB (oFA 2 x3_1) fun x12_10 =>
 oB (oLd h7 x12_10) fun x13_11 =>
 oP (call n_cmp_Compare_int [x11_9, x13_11] h7) fun x14_12 h12 =>
 oB (oFA 0 x2_0) fun x15_13 =>
 oB (oLd h12 x15_13) fun x16_14 =>
 oB (oFA 0 x3_1) fun x17_15 =>
 oB (oLd h12 x17_15) fun x18_16 =>
 oP (call n_cmp_Compare_int [x16_14, x18_16] h12) fun x19_17 h17 =>
 fl1 true (evF (.buildSlice 3 1 3 [(I 0), (I 0), (I 0)] [(0, 1, (.c x9_7)), (1, 1, (.c x14_12)), (2, 1, (.c x19_17))]) .e) (Nat.add h1.next 15) fun x20_18 o18 =>
 oB' (lay1 (Nat.add h1.next 15) o18 h17) fun v19 =>
 oP (call n_cmp_Or_int [x20_18] v19) fun x21_20 h20 =>
 ask1 true (oLd h2 x5_3) x6_4 (
 ask1 true (oLd h2 x7_5) x8_6 (
 ask1 true (oLd h2 x10_8) x11_9 (
 ask1 true (oLd h7 x10_8) x11_9 (
 ask1 true (oLd h2 x12_10) x13_11 (
 ask1 true (oLd h7 x12_10) x13_11 (
 ask1 true (oLd h2 x15_13) x16_14 (
 ask1 true (oLd h7 x15_13) x16_14 (
 ask1 true (oLd h12 x15_13) x16_14 (
 ask1 true (oLd h2 x17_15) x18_16 (
 ask1 true (oLd h7 x17_15) x18_16 (
 ask1 true (oLd h12 x17_15) x18_16 (
 some (x21_20, h20)))))))))))))
theorem o_parse_parser_told_1 : FnOK Tryz.prog n_parse_parser_told_1 (a2 f_parse_parser_told_1) := ok2 mixed Tryz.func183 (by kernel_rfl)
/- cmp.Or[int] -/
noncomputable def f_cmp_Or_int (n : Nat) (call : Caller)  (x0 : AV) (h : AH) : Ans :=
 oB (oLen x0) fun x7_0 =>
 jnF 1 (fun z3_1 h1 =>
 some (z3_1, h1)) fun j1 =>
 lpF 4 n (fun f2 y8_2 y7_2 y6_2 y3_2 h2 =>
 oB (bLt y8_2 y7_2) fun x9_3 =>
 ci x9_3 (
 jnF 4 (fun z8_4 z7_4 z6_4 z3_4 h4 =>
 oB (bAdd z8_4 (I 1)) fun x16_5 =>
 f2 x16_5 z7_4 z6_4 z3_4 h4) fun j4 =>
 oB (oIx 1 y6_2 y8_2) fun x10_6 =>
 oB (oLd h2 x10_6) fun x11_7 =>
 oB (bNe .no x11_7 y3_2) fun x14_8 =>
 ci x14_8 (
 some (x11_7, h2)) (
 j4 y8_2 y7_2 y6_2 y3_2 h2)) (
 j1 y3_2 h2)) (I 0) x7_0 x0 (I 0) h
theorem o_cmp_Or_int : FnOK Tryz.prog n_cmp_Or_int (a1 f_cmp_Or_int) := ok1 mixed Tryz.func184 (by kernel_rfl)
/- cmp.Compare[int] -/
noncomputable def f_cmp_Compare_int (n : Nat) (call : Caller)  (x0 x1 : AV) (h : AH) : Ans :=
 oP (call n_cmp_isNaN_int [x0] h) fun x8_0 h0 =>
 oP (call n_cmp_isNaN_int [x1] h0) fun x10_1 h1 =>
 ci x8_0 (
 ci x10_1 (
 some ((I 0), h1)) (
 some ((Ineg 0), h1))) (
 ci x10_1 (
 some ((I 1), h1)) (
 oB (bLt x0 x1) fun x16_2 =>
 ci x16_2 (
 some ((Ineg 0), h1)) (
 oB (bGt x0 x1) fun x19_3 =>
 ci x19_3 (
 some ((I 1), h1)) (
 some ((I 0), h1)))))
theorem o_cmp_Compare_int : FnOK Tryz.prog n_cmp_Compare_int (a2 f_cmp_Compare_int) := ok2 mixed Tryz.func185 (by kernel_rfl)
/- corrector/arena.Check -/
noncomputable def f_arena_Check (n : Nat) (call : Caller)  (x0 x1 : AV) (h : AH) : Ans :=
 oP (oNew h 100 (AV.cells x0)) fun x2_0 h0 =>
 oB (oFA 0 x2_0) fun x12_1 =>
 oB (oLd h0 x12_1) fun x13_2 =>
 oB (oLen x13_2) fun x14_3 =>
 oB (bEq .no x14_3 (I 0)) fun x15_4 =>
 ci x15_4 (
 some ((.bool false), h0)) (
 oB (oLdN 1 h0 x2_0) fun x16_5 =>
 oP (call n_arena_own [x16_5] h0) fun x17_6 h6 =>
 oB (oNil x17_6) fun x19_7 =>
 oB (oFA 0 x19_7) fun x20_8 =>
 oB (oFA 0 x20_8) fun x21_9 =>
 oB (oLd h6 x21_9) fun x22_10 =>
 oB (oIx 6 x22_10 (I 0)) fun x23_11 =>
 oB (oLdN 6 h6 x23_11) fun x24_12 =>
 oP (oNew h6 120 [(I 0), (I 0), (I 0), (I 0), .nils, (.bool false)]) fun x6_13 h13 =>
 oP (oSt 6 h13 x6_13 x24_12) fun _ h14 =>
 oB (oFA 0 x6_13) fun x25_15 =>
 oB (oLd h14 x25_15) fun x26_16 =>
 oB (bNe .no x26_16 (I 1)) fun x27_17 =>
 oB (gq x27_17 false (oFA 1 x6_13)) fun x29_18 =>
 oB (gq x27_17 false (oLd h14 x29_18)) fun x30_19 =>
 oB (gq x27_17 false (bNe .no x30_19 (I 0))) fun x31_20 =>
 oB (oPick x27_17 (.bool true) x31_20) fun x32_21 =>
 oB (gq x32_21 false (oFA 2 x6_13)) fun x34_22 =>
 oB (gq x32_21 false (oLd h14 x34_22)) fun x35_23 =>
 oB (gq x32_21 false (some x1)) fun x36_24 =>
 oB (gq x32_21 false (bNe .no x35_23 x36_24)) fun x37_25 =>
 oB (oPick x32_21 (.bool true) x37_25) fun x38_26 =>
 oB (gq x38_26 false (oFA 3 x6_13)) fun x40_27 =>
 oB (gq x38_26 false (oLd h14 x40_27)) fun x41_28 =>
 oB (gq x38_26 false (bNe .no x41_28 (Ineg 0))) fun x42_29 =>
 oB (oPick x38_26 (.bool true) x42_29) fun x43_30 =>
 ci x43_30 (
 some ((.bool false), h14)) (
 oB (oNil x17_6) fun x45_31 =>
 oB (oFA 0 x45_31) fun x46_32 =>
 oB (oFA 0 x46_32) fun x47_33 =>
 oB (oLd h14 x47_33) fun x48_34 =>
 oB (oLen x48_34) fun x49_35 =>
 jnF 2 (fun z7_36 z5_36 h36 =>
 oB (oNil z5_36) fun x97_37 =>
 oB (oFA 0 x97_37) fun x98_38 =>
 oB (oFA 0 x98_38) fun x99_39 =>
 oB (oLd h36 x99_39) fun x100_40 =>
 oB (oLen x100_40) fun x101_41 =>
 oB (bSub x101_41 (I 1)) fun x102_42 =>
 oB (bEq .no z7_36 x102_42) fun x103_43 =>
 some (x103_43, h36)) fun j36 =>
 lpF 5 n (fun f44 y50_44 y49_44 y48_44 y7_44 y5_44 h44 =>
 oB (bLt y50_44 y49_44) fun x51_45 =>
 ci x51_45 (
 jnF 5 (fun z50_46 z49_46 z48_46 z7_46 z5_46 h46 =>
 oB (bAdd z50_46 (I 1)) fun x94_47 =>
 f44 x94_47 z49_46 z48_46 z7_46 z5_46 h46) fun j46 =>
 oB (oIx 6 y48_44 y50_44) fun x53_48 =>
 oB (oLdN 6 h44 x53_48) fun x54_49 =>
 oP (oNew h44 120 [(I 0), (I 0), (I 0), (I 0), .nils, (.bool false)]) fun x9_50 h50 =>
 oP (oSt 6 h50 x9_50 x54_49) fun _ h51 =>
 oP (call n_arena_forest_lies [y5_44, y50_44] h51) fun x57_52 h52 =>
 oB (evQ (.un .not (.c x57_52)) .e h52) fun x58_53 =>
 oB (gq x58_53 false (some y50_44)) fun x60_54 =>
 oB (gq x58_53 false (bGt x60_54 (I 0))) fun x61_55 =>
 oB (gq x58_53 false (some x61_55)) fun x62_56 =>
 oB (gq x62_56 true (oFA 3 x9_50)) fun x63_57 =>
 oB (gq x62_56 true (oLd h52 x63_57)) fun x64_58 =>
 oB (gq x62_56 true (bLt x64_58 (I 0))) fun x65_59 =>
 oB (gq x62_56 true (some x65_59)) fun x66_60 =>
 oB (gq x66_60 false (oFA 3 x9_50)) fun x67_61 =>
 oB (gq x66_60 false (oLd h52 x67_61)) fun x68_62 =>
 oB (gq x66_60 false (some y50_44)) fun x69_63 =>
 oB (gq x66_60 false (bGe x68_62 x69_63)) fun x70_64 =>
 oB (gq x62_56 true (oPick x66_60 (.bool true) x70_64)) fun x71_65 =>
 oB (gq x58_53 false (oPick x62_56 x71_65 (.bool false))) fun x72_66 =>
 oB (oPick x58_53 (.bool true) x72_66) fun x73_67 =>
 ci x73_67 (
 some ((.bool false), h52)) (
 oB (oFA 4 x9_50) fun x75_68 =>
 oB (oLd h52 x75_68) fun x76_69 =>
 oB (oLen x76_69) fun x77_70 =>
 oB (bAdd y7_44 x77_70) fun x78_71 =>
 oB (oFA 4 x9_50) fun x79_72 =>
 oB (oLd h52 x79_72) fun x80_73 =>
 oB (oLen x80_73) fun x81_74 =>
 jnF 5 (fun z50_75 z49_75 z48_75 z7_75 z5_75 h75 =>
 j46 z50_75 z49_75 z48_75 z7_75 z5_75 h75) fun j75 =>
 lpF 9 n (fun f76 y82_76 y81_76 y80_76 y50_76 y49_76 y48_76 y9_76 y7_76 y5_76 h76 =>
 oB (bLt y82_76 y81_76) fun x83_77 =>
 ci x83_77 (
 jnF 9 (fun z82_78 z81_78 z80_78 z50_78 z49_78 z48_78 z9_78 z7_78 z5_78 h78 =>
 oB (bAdd z82_78 (I 1)) fun x93_79 =>
 f76 x93_79 z81_78 z80_78 z50_78 z49_78 z48_78 z9_78 z7_78 z5_78 h78) fun j78 =>
 oB (oIx 1 y80_76 y82_76) fun x85_80 =>
 oB (oLd h76 x85_80) fun x86_81 =>
 oB (oFA 4 y9_76) fun x87_82 =>
 oB (oLd h76 x87_82) fun x88_83 =>
 oB (evQ (.sl 1 (.c x88_83) none (some (.c y82_76)) none) .e h76) fun x90_84 =>
 oP (call n_slices_Contains_int_int [x90_84, x86_81] h76) fun x92_85 h85 =>
 ci x92_85 (
 some ((.bool false), h85)) (
 j78 y82_76 y81_76 y80_76 y50_76 y49_76 y48_76 y9_76 y7_76 y5_76 h85)) (
 j75 y50_76 y49_76 y48_76 y7_76 y5_76 h76)) (I 0) x81_74 x80_73 y50_44 y49_44 y48_44 x9_50 x78_71 y5_44 h52)) (
 j36 y7_44 y5_44 h44)) (I 0) x49_35 x48_34 (I 0) x17_6 h14))
theorem o_arena_Check : FnOK Tryz.prog n_arena_Check (a2 f_arena_Check) := ok2 mixed Tryz.func186 (by kernel_rfl)
/- (*corrector/graph.composer).first -/
noncomputable def f_graph_composer_first (n : Nat) (call : Caller)  (x0 x1 : AV) (h : AH) : Ans :=
 oP (oNew h 120 (AV.cells x1)) fun x3_0 h0 =>
 oB (oFA 4 x3_0) fun x7_1 =>
 oB (oLd h0 x7_1) fun x8_2 =>
 oB (oLen x8_2) fun x9_3 =>
 jnF 1 (fun z0_4 h4 =>
 oP (call n_graph_composer_null [z0_4] h4) fun x29_5 h5 =>
 some (x29_5, h5)) fun j4 =>
 lpF 4 n (fun f6 y10_6 y9_6 y8_6 y0_6 h6 =>
 oB (bLt y10_6 y9_6) fun x11_7 =>
 ci x11_7 (
 jnF 4 (fun z10_8 z9_8 z8_8 z0_8 h8 =>
 oB (bAdd z10_8 (I 1)) fun x27_9 =>
 f6 x27_9 z9_8 z8_8 z0_8 h8) fun j8 =>
 oB (oIx 1 y8_6 y10_6) fun x12_10 =>
 oB (oLd h6 x12_10) fun x13_11 =>
 oB (oNil y0_6) fun x15_12 =>
 oB (oFA 2 x15_12) fun x16_13 =>
 oB (oFA 0 x16_13) fun x17_14 =>
 oB (oLd h6 x17_14) fun x18_15 =>
 oB (oIx 6 x18_15 x13_11) fun x20_16 =>
 oB (oFA 0 x20_16) fun x21_17 =>
 oB (oLd h6 x21_17) fun x22_18 =>
 oB (bNe .no x22_18 (I 11)) fun x23_19 =>
 ci x23_19 (
 oP (call n_graph_composer_node [y0_6, x13_11] h6) fun x26_20 h20 =>
 some (x26_20, h20)) (
 j8 y10_6 y9_6 y8_6 y0_6 h6)) (
 j4 y0_6 h6)) (I 0) x9_3 x8_2 x0 h0
theorem o_graph_composer_first : FnOK Tryz.prog n_graph_composer_first (a2 f_graph_composer_first) := ok2 mixed Tryz.func187 (by kernel_rfl)
/- (*corrector/graph.composer).named -/
noncomputable def f_graph_composer_named (n : Nat) (call : Caller)  (x0 x1 x2 : AV) (h : AH) : Ans :=
 oP (call n_graph_composer_last [x0, x1, (I 12)] h) fun x12_0 h0 =>
 oB (oEx 0 x12_0) fun x13_1 =>
 oB (oEx 1 x12_0) fun x14_2 =>
 jnF 1 (fun z2_3 h3 =>
 some (z2_3, h3)) fun j3 =>
 ci x14_2 (
 oB' (nx 8 h0) fun h4 =>
 oB (oNil x0) fun x17_5 =>
 oB (oFA 7 x17_5) fun x18_6 =>
 oB (oLd h4 x18_6) fun x19_7 =>
 oB (oSlS x13_1 (some (I 1)) none) fun x21_8 =>
 oP (evW (.mapUpd .s (.c x19_7) (.c x21_8) (.c x2)) .e h4) fun _ h9 =>
 j3 x2 h9) (
 j3 x2 h0)
theorem o_graph_composer_named : FnOK Tryz.prog n_graph_composer_named (a3 f_graph_composer_named) := ok3 mixed Tryz.func188 (by kernel_rfl)
/- (*corrector/graph.composer).own -/
noncomputable def f_graph_composer_own (n : Nat) (call : Caller)  (x0 x1 : AV) (h : AH) : Ans :=
 oP (oNew h 120 (AV.cells x1)) fun x3_0 h0 =>
 oB' (nx 10 h0) fun h1 =>
 oB (oNil x0) fun x7_2 =>
 oB (oFA 1 x7_2) fun x8_3 =>
 oB (oLd h1 x8_3) fun x9_4 =>
 oB (oFA 1 x3_0) fun x10_5 =>
 oB (oLd h1 x10_5) fun x11_6 =>
 oB (oFA 2 x3_0) fun x12_7 =>
 oB (oLd h1 x12_7) fun x13_8 =>
 oB (evQ (.sl 3 (.c x9_4) (some (.c x11_6)) (some (.c x13_8)) none) .e h1) fun x14_9 =>
 oB (oFA 0 x3_0) fun x15_10 =>
 oB (oLd h1 x15_10) fun x16_11 =>
 oB (bEq .no x16_11 (I 9)) fun x17_12 =>
 oB (gq x17_12 false (oFA 0 x3_0)) fun x19_13 =>
 oB (gq x17_12 false (oLd h1 x19_13)) fun x20_14 =>
 oB (gq x17_12 false (bEq .no x20_14 (I 10))) fun x21_15 =>
 oB (oPick x17_12 (.bool true) x21_15) fun x22_16 =>
 ci x22_16 (
 oP (call n_slices_IndexFunc_api_Token_api_Token [x14_9, (.fn 248 [] [])] h1) fun x25_17 h17 =>
 oB (evQ (.maxI (.c x25_17) [(.c (I 0))]) .e h17) fun x26_18 =>
 oB (evQ (.sl 3 (.c x14_9) none (some (.c x26_18)) none) .e h17) fun x27_19 =>
 some (x27_19, h17)) (
 some (x14_9, h1))
theorem o_graph_composer_own : FnOK Tryz.prog n_graph_composer_own (a2 f_graph_composer_own) := ok2 mixed Tryz.func189 (by kernel_rfl)
/- (*corrector/graph.composer).scalar -/
noncomputable def f_graph_composer_scalar (n : Nat) (call : Caller)  (x0 x1 : AV) (h : AH) : Ans :=
 oP (call n_graph_composer_last [x0, x1, (I 14)] h) fun x13_0 h0 =>
 oB (oEx 0 x13_0) fun x14_1 =>
 oB (oEx 1 x13_0) fun x15_2 =>
 oP (call n_graph_composer_said [x0, x1] h0) fun x18_3 h3 =>
 oB (oTa 289 (.str []) true x18_3) fun x21_4 =>
 oB (oEx 0 x21_4) fun x22_5 =>
 oB (oEx 1 x21_4) fun x23_6 =>
 oB (evQ (.un .not (.c x23_6)) .e h3) fun x25_7 =>
 jnF 4 (fun z9_8 z8_8 z5_8 z0_8 h8 =>
 oP (call n_resolve_Tagged [z5_8, z8_8, z9_8] h8) fun x32_9 h9 =>
 oB (oBuild [(I 0), (.str []), (.str []), .nils] [(0, 1, x32_9), (1, 1, z8_8), (2, 1, z5_8)]) fun x35_10 =>
 oP (call n_graph_composer_value [z0_8, x35_10] h9) fun x36_11 h11 =>
 some (x36_11, h11)) fun j8 =>
 ci x25_7 (
 oB (oTa 291 (.str []) false x18_3) fun x27_12 =>
 j8 x23_6 x27_12 x14_1 x0 h3) (
 j8 x23_6 x22_5 x14_1 x0 h3)
theorem o_graph_composer_scalar : FnOK Tryz.prog n_graph_composer_scalar (a2 f_graph_composer_scalar) := ok2 mixed Tryz.func190 (by kernel_rfl)
/- (*corrector/graph.composer).alias -/
noncomputable def f_graph_composer_alias (n : Nat) (call : Caller)  (x0 x1 : AV) (h : AH) : Ans :=
 oP (call n_slices_IndexFunc_api_Token_api_Token [x1, (.fn 252 [] [])] h) fun x10_0 h0 =>
 oB (bLt x10_0 (I 0)) fun x12_1 =>
 ci x12_1 (
 oP (call n_graph_composer_null [x0] h0) fun x14_2 h2 =>
 some (x14_2, h2)) (
 oB (oIx 3 x1 x10_0) fun x18_3 =>
 oB (oLdN 3 h0 x18_3) fun x19_4 =>
 oP (call n_graph_composer_text [x0, x19_4] h0) fun x20_5 h5 =>
 oB (oSlS x20_5 (some (I 1)) none) fun x21_6 =>
 oB (oNil x0) fun x24_7 =>
 oB (oFA 7 x24_7) fun x25_8 =>
 oB (oLd h5 x25_8) fun x26_9 =>
 oB (evQ (.lookup .s (I 0) true (.c x26_9) (.c x21_6)) .e h5) fun x28_10 =>
 oB (oEx 0 x28_10) fun x29_11 =>
 oB (oEx 1 x28_10) fun x30_12 =>
 ci x30_12 (
 some (x29_11, h5)) (
 oB' (nx 21 h5) fun h13 =>
 oB (oNil x0) fun x35_14 =>
 oB (oFA 6 x35_14) fun x36_15 =>
 oB (oLd h13 x36_15) fun x37_16 =>
 oB (oIx 3 x1 x10_0) fun x40_17 =>
 oB (oFA 1 x40_17) fun x41_18 =>
 oB (oLd h13 x41_18) fun x42_19 =>
 oB (oIx 3 x1 x10_0) fun x45_20 =>
 oB (oFA 2 x45_20) fun x46_21 =>
 oB (oLd h13 x46_21) fun x47_22 =>
 oB (oBuild [(I 0), (I 0), (I 0)] [(0, 1, (I 11)), (1, 1, x42_19), (2, 1, x47_22)]) fun x48_23 =>
 fl1 true (evF (.buildSlice 112 3 1 [(I 0), (I 0), (I 0)] [(0, 3, (.c x48_23))]) .e) (Nat.add h5.next 16) fun x49_24 o24 =>
 oB' (lay1 (Nat.add h5.next 16) o24 h13) fun v25 =>
 oP (evW (.append 112 3 24 [(I 0), (I 0), (I 0)] (.c x37_16) (.c x49_24)) .e v25) fun x50_26 h26 =>
 oB (oNil x0) fun x51_27 =>
 oB (oFA 6 x51_27) fun x52_28 =>
 oP (oSt 1 h26 x52_28 x50_26) fun x0_29 h29 =>
 ask1 true (oLd h13 x36_15) x37_16 (
 ask1 true (oLd h13 x41_18) x42_19 (
 ask1 true (oLd h13 x46_21) x47_22 (
 oB (oBuild [(I 0), (.str []), (.str []), .nils] [(0, 1, (I 8)), (1, 1, x21_6)]) fun x55_30 =>
 oP (call n_graph_composer_value [x0, x55_30] h29) fun x56_31 h31 =>
 some (x56_31, h31))))))
theorem o_graph_composer_alias : FnOK Tryz.prog n_graph_composer_alias (a2 f_graph_composer_alias) := ok2 mixed Tryz.func191 (by kernel_rfl)
/- (*corrector/graph.composer).collection -/
noncomputable def f_graph_composer_collection (n : Nat) (call : Caller)  (x0 x1 x2 x3 : AV) (h : AH) : Ans :=
 oP (oNew h 120 (AV.cells x1)) fun x5_0 h0 =>
 oB (oLdN 6 h0 x5_0) fun x12_1 =>
 oP (call n_graph_composer_all [x0, x12_1] h0) fun x13_2 h2 =>
 oB (oBuild [(I 0), (.str []), (.str []), .nils] [(0, 1, x2), (3, 1, x13_2)]) fun x14_3 =>
 oP (oNew h2 167 [(I 0), (.str []), (.str []), .nils]) fun x9_4 h4 =>
 oP (oSt 4 h4 x9_4 x14_3) fun _ h5 =>
 oP (call n_graph_composer_last [x0, x3, (I 14)] h5) fun x18_6 h6 =>
 oB (oEx 0 x18_6) fun x19_7 =>
 oB (oEx 1 x18_6) fun x20_8 =>
 oB (oFA 2 x9_4) fun x21_9 =>
 oP (oSt 1 h6 x21_9 x19_7) fun _ h10 =>
 oB (oLdN 4 h10 x9_4) fun x23_11 =>
 oP (call n_graph_composer_value [x0, x23_11] h10) fun x24_12 h12 =>
 some (x24_12, h12)
theorem o_graph_composer_collection : FnOK Tryz.prog n_graph_composer_collection (a4 f_graph_composer_collection) := ok4 mixed Tryz.func192 (by kernel_rfl)
/- slices.pdqsortCmpFunc[corrector/api.Diag] -/
noncomputable def f_slices_pdqsortCmpFunc_api_Diag (n : Nat) (call : Caller)  (x0 x1 x2 x3 x4 : AV) (h : AH) : Ans :=
 jnF 0 (fun h0 =>
 some (.tup [], h0)) fun j0 =>
 lpF 7 n (fun f1 y11_1 y10_1 y4_1 y3_1 y2_1 y1_1 y0_1 h1 =>
 jnF 7 (fun z11_2 z10_2 z4_2 z3_2 z2_2 z1_2 z0_2 h2 =>
 f1 z11_2 z10_2 z4_2 z3_2 z2_2 z1_2 z0_2 h2) fun j2 =>
 oB (bSub y2_1 y1_1) fun x23_3 =>
 oB (bLe x23_3 (I 12)) fun x25_4 =>
 ci x25_4 (
 oP (call n_slices_insertionSortCmpFunc_api_Diag [y0_1, y1_1, y2_1, y4_1] h1) fun x30_5 h5 =>
 some (.tup [], h5)) (
 oB (bEq .no y3_1 (I 0)) fun x32_6 =>
 ci x32_6 (
 oP (call n_slices_heapSortCmpFunc_api_Diag [y0_1, y1_1, y2_1, y4_1] h1) fun x37_7 h7 =>
 some (.tup [], h7)) (
 oB (evQ (.un .not (.c y10_1)) .e h1) fun x39_8 =>
 jnF 8 (fun z12_9 z11_9 z10_9 z4_9 z3_9 z2_9 z1_9 z0_9 h9 =>
 oP (call n_slices_choosePivotCmpFunc_api_Diag [z0_9, z1_9, z2_9, z4_9] h9) fun x52_10 h10 =>
 oB (oEx 0 x52_10) fun x53_11 =>
 oB (oEx 1 x52_10) fun x54_12 =>
 oB (bEq .no x54_12 (I 2)) fun x56_13 =>
 jnF 10 (fun z14_14 z13_14 z12_14 z11_14 z10_14 z4_14 z3_14 z2_14 z1_14 z0_14 h14 =>
 oB (gq z10_14 true (some z11_14)) fun x70_15 =>
 oB (oPick z10_14 x70_15 (.bool false)) fun x71_16 =>
 oB (gq x71_16 true (some z14_14)) fun x73_17 =>
 oB (gq x71_16 true (bEq .no x73_17 (I 1))) fun x74_18 =>
 oB (oPick x71_16 x74_18 (.bool false)) fun x75_19 =>
 jnF 9 (fun z13_20 z12_20 z11_20 z10_20 z4_20 z3_20 z2_20 z1_20 z0_20 h20 =>
 oB' (nx 17 h20) fun h21 =>
 oB (bGt z1_20 (I 0)) fun x82_22 =>
 oB (gq x82_22 true (some z4_20)) fun x84_23 =>
 oB (gq x82_22 true (some z0_20)) fun x85_24 =>
 oB (gq x82_22 true (some z1_20)) fun x86_25 =>
 oB (gq x82_22 true (bSub x86_25 (I 1))) fun x87_26 =>
 oB (gq x82_22 true (oIx 3 x85_24 x87_26)) fun x88_27 =>
 oB (gq x82_22 true (oLdN 3 h21 x88_27)) fun x89_28 =>
 oB (gq x82_22 true (some z0_20)) fun x90_29 =>
 oB (gq x82_22 true (some z13_20)) fun x91_30 =>
 oB (gq x82_22 true (oIx 3 x90_29 x91_30)) fun x92_31 =>
 oB (gq x82_22 true (oLdN 3 h21 x92_31)) fun x93_32 =>
 oP (gw x82_22 true (wOf (.callV (.c x84_23) [(.c x89_28), (.c x93_32)]) call .e h21) h21) fun x94_33 h33 =>
 oB (gq x82_22 true (bLt x94_33 (I 0))) fun x95_34 =>
 oB (gq x82_22 true (evQ (.un .not (.c x95_34)) .e h33)) fun x96_35 =>
 oB (oPick x82_22 x96_35 (.bool false)) fun x97_36 =>
 ci x97_36 (
 oP (call n_slices_partitionEqualCmpFunc_api_Diag [z0_20, z1_20, z2_20, z13_20, z4_20] h33) fun x103_37 h37 =>
 j2 z11_20 z10_20 z4_20 z3_20 z2_20 x103_37 z0_20 h37) (
 oP (call n_slices_partitionCmpFunc_api_Diag [z0_20, z1_20, z2_20, z13_20, z4_20] h33) fun x111_38 h38 =>
 oB (oEx 0 x111_38) fun x112_39 =>
 oB (oEx 1 x111_38) fun x113_40 =>
 oB (bSub x112_39 z1_20) fun x117_41 =>
 oB (bSub z2_20 x112_39) fun x120_42 =>
 oB (binAV .quo .no z12_20 (I 8)) fun x122_43 =>
 oB (bLt x117_41 x120_42) fun x125_44 =>
 jnF 7 (fun z11_45 z10_45 z4_45 z3_45 z2_45 z1_45 z0_45 h45 =>
 j2 z11_45 z10_45 z4_45 z3_45 z2_45 z1_45 z0_45 h45) fun j45 =>
 ci x125_44 (
 oB (bGe x117_41 x122_43) fun x128_46 =>
 oP (call n_slices_pdqsortCmpFunc_api_Diag [z0_20, z1_20, x112_39, z3_20, z4_20] h38) fun x134_47 h47 =>
 oB (bAdd x112_39 (I 1)) fun x136_48 =>
 j45 x113_40 x128_46 z4_20 z3_20 z2_20 x136_48 z0_20 h47) (
 oB (bGe x120_42 x122_43) fun x139_49 =>
 oB (bAdd x112_39 (I 1)) fun x142_50 =>
 oP (call n_slices_pdqsortCmpFunc_api_Diag [z0_20, x142_50, z2_20, z3_20, z4_20] h38) fun x146_51 h51 =>
 j45 x113_40 x139_49 z4_20 z3_20 x112_39 z1_20 z0_20 h51))) fun j20 =>
 ci x75_19 (
 oP (call n_slices_partialInsertionSortCmpFunc_api_Diag [z0_14, z1_14, z2_14, z4_14] h14) fun x80_52 h52 =>
 ci x80_52 (
 some (.tup [], h52)) (
 j20 z13_14 z12_14 z11_14 z10_14 z4_14 z3_14 z2_14 z1_14 z0_14 h52)) (
 j20 z13_14 z12_14 z11_14 z10_14 z4_14 z3_14 z2_14 z1_14 z0_14 h14)) fun j14 =>
 ci x56_13 (
 oP (call n_slices_reverseRangeCmpFunc_api_Diag [z0_9, z1_9, z2_9, z4_9] h10) fun x61_53 h53 =>
 oB (bSub z2_9 (I 1)) fun x63_54 =>
 oB (bSub x53_11 z1_9) fun x66_55 =>
 oB (bSub x63_54 x66_55) fun x67_56 =>
 j14 (I 1) x67_56 z12_9 z11_9 z10_9 z4_9 z3_9 z2_9 z1_9 z0_9 h53) (
 j14 x54_12 x53_11 z12_9 z11_9 z10_9 z4_9 z3_9 z2_9 z1_9 z0_9 h10)) fun j9 =>
 ci x39_8 (
 oP (call n_slices_breakPatternsCmpFunc_api_Diag [y0_1, y1_1, y2_1, y4_1] h1) fun x44_57 h57 =>
 oB (bSub y3_1 (I 1)) fun x46_58 =>
 j9 x23_3 y11_1 y10_1 y4_1 x46_58 y2_1 y1_1 y0_1 h57) (
 j9 x23_3 y11_1 y10_1 y4_1 y3_1 y2_1 y1_1 y0_1 h1)))) (.bool true) (.bool true) x4 x3 x2 x1 x0 h
theorem o_slices_pdqsortCmpFunc_api_Diag : FnOK Tryz.prog n_slices_pdqsortCmpFunc_api_Diag (a5 f_slices_pdqsortCmpFunc_api_Diag) := ok5 mixed Tryz.func193 (by kernel_rfl)
/- math/bits.Len -/
noncomputable def f_math_bits_Len (n : Nat) (call : Caller)  (x0 : AV) (h : AH) : Ans :=
 ci (.bool false) (
 oB (oInt .u32 x0) fun x4_0 =>
 oP (call n_math_bits_Len32 [x4_0] h) fun x5_1 h1 =>
 some (x5_1, h1)) (
 oP (call n_math_bits_Len64 [x0] h) fun x7_2 h2 =>
 some (x7_2, h2))
theorem o_math_bits_Len : FnOK Tryz.prog n_math_bits_Len (a1 f_math_bits_Len) := ok1 mixed Tryz.func194 (by kernel_rfl)
/- corrector/equal.parts -/
noncomputable def f_equal_parts (n : Nat) (call : Caller)  (x0 : AV) (h : AH) : Ans :=
 oP (oNew h 167 (AV.cells x0)) fun x1_0 h0 =>
 scF n fun m1 => jnF 4 (lpF 4 m1 fun f1 y6_1 y4_1 y3_1 y1_1 h1 =>
 oB (oFA 3 y1_1) fun x41_2 =>
 oB (oLd h1 x41_2) fun x42_3 =>
 oB (oLen x42_3) fun x43_4 =>
 oB (bLt y4_1 x43_4) fun x44_5 =>
 ci x44_5 (
 jnF 4 (fun z6_6 z4_6 z3_6 z1_6 h6 =>
 oB (oFA 3 z1_6) fun x70_7 =>
 oB (oLd h6 x70_7) fun x71_8 =>
 oB (oIx 1 x71_8 z4_6) fun x73_9 =>
 oB (oLd h6 x73_9) fun x74_10 =>
 oB (some (.iface 3 x74_10)) fun x75_11 =>
 oP (oBuildSl h6 238 1 1 [.nili] [(0, 1, x75_11)]) fun x76_12 h12 =>
 oP (evW (.append 238 1 16 [.nili] (.c z3_6) (.c x76_12)) .e h12) fun x77_13 h13 =>
 oB (bAdd z4_6 (I 1)) fun x79_14 =>
 f1 z6_6 x79_14 x77_13 z1_6 h13) fun j6 =>
 oB (bGt y4_1 (I 0)) fun x47_15 =>
 oB (gq x47_15 true (oFA 0 y1_1)) fun x49_16 =>
 oB (gq x47_15 true (oLd h1 x49_16)) fun x50_17 =>
 oB (gq x47_15 true (bEq .no x50_17 (I 7))) fun x51_18 =>
 oB (oPick x47_15 x51_18 (.bool false)) fun x52_19 =>
 oB (gq x52_19 true (some y4_1)) fun x54_20 =>
 oB (gq x52_19 true (binAV .rem .no x54_20 (I 2))) fun x55_21 =>
 oB (gq x52_19 true (bEq .no x55_21 (I 1))) fun x56_22 =>
 oB (oPick x52_19 x56_22 (.bool false)) fun x57_23 =>
 jnF 4 (fun z6_24 z4_24 z3_24 z1_24 h24 =>
 j6 z6_24 z4_24 z3_24 z1_24 h24) fun j24 =>
 ci x57_23 (
 oB (some (.iface 9 (.str [58, 32]))) fun x59_25 =>
 oP (oBuildSl h1 238 1 1 [.nili] [(0, 1, x59_25)]) fun x60_26 h26 =>
 oP (evW (.append 238 1 16 [.nili] (.c y3_1) (.c x60_26)) .e h26) fun x61_27 h27 =>
 j24 y6_1 y4_1 x61_27 y1_1 h27) (
 oB (bGt y4_1 (I 0)) fun x64_28 =>
 jnF 4 (fun z6_29 z4_29 z3_29 z1_29 h29 =>
 j24 z6_29 z4_29 z3_29 z1_29 h29) fun j29 =>
 ci x64_28 (
 oB (some (.iface 9 (.str [44, 32]))) fun x66_30 =>
 oP (oBuildSl h1 238 1 1 [.nili] [(0, 1, x66_30)]) fun x67_31 h31 =>
 oP (evW (.append 238 1 16 [.nili] (.c y3_1) (.c x67_31)) .e h31) fun x68_32 h32 =>
 j29 y6_1 y4_1 x68_32 y1_1 h32) (
 j29 y6_1 y4_1 y3_1 y1_1 h1))) (
 oB (some (.iface 9 y6_1)) fun x82_33 =>
 oP (oBuildSl h1 238 1 1 [.nili] [(0, 1, x82_33)]) fun x83_34 h34 =>
 oP (evW (.append 238 1 16 [.nili] (.c y3_1) (.c x83_34)) .e h34) fun x84_35 h35 =>
 some (x84_35, h35))) fun f1 =>
 oB (oFA 0 x1_0) fun x7_36 =>
 oB (oLd h0 x7_36) fun x8_37 =>
 jnF 3 (fun z4_38 z3_38 z1_38 h38 =>
 oB (oFA 0 z1_38) fun x32_39 =>
 oB (oLd h38 x32_39) fun x33_40 =>
 oB (bEq .no x33_40 (I 7)) fun x34_41 =>
 jnF 5 (fun z6_42 z5_42 z4_42 z3_42 z1_42 h42 =>
 oB (some (.iface 9 z5_42)) fun x37_43 =>
 oP (oBuildSl h42 238 1 1 [.nili] [(0, 1, x37_43)]) fun x38_44 h44 =>
 oP (evW (.append 238 1 16 [.nili] (.c z3_42) (.c x38_44)) .e h44) fun x39_45 h45 =>
 oB (oFA 3 z1_42) fun x41_46 =>
 oB (oLd h45 x41_46) fun x42_47 =>
 oB (oLen x42_47) fun x43_48 =>
 oB (bLt z4_42 x43_48) fun x44_49 =>
 ci x44_49 (
 jnF 4 (fun z6_50 z4_50 z3_50 z1_50 h50 =>
 oB (oFA 3 z1_50) fun x70_51 =>
 oB (oLd h50 x70_51) fun x71_52 =>
 oB (oIx 1 x71_52 z4_50) fun x73_53 =>
 oB (oLd h50 x73_53) fun x74_54 =>
 oB (some (.iface 3 x74_54)) fun x75_55 =>
 oP (oBuildSl h50 238 1 1 [.nili] [(0, 1, x75_55)]) fun x76_56 h56 =>
 oP (evW (.append 238 1 16 [.nili] (.c z3_50) (.c x76_56)) .e h56) fun x77_57 h57 =>
 oB (bAdd z4_50 (I 1)) fun x79_58 =>
 f1 z6_50 x79_58 x77_57 z1_50 h57) fun j50 =>
 oB (bGt z4_42 (I 0)) fun x47_59 =>
 oB (gq x47_59 true (oFA 0 z1_42)) fun x49_60 =>
 oB (gq x47_59 true (oLd h45 x49_60)) fun x50_61 =>
 oB (gq x47_59 true (bEq .no x50_61 (I 7))) fun x51_62 =>
 oB (oPick x47_59 x51_62 (.bool false)) fun x52_63 =>
 oB (gq x52_63 true (some z4_42)) fun x54_64 =>
 oB (gq x52_63 true (binAV .rem .no x54_64 (I 2))) fun x55_65 =>
 oB (gq x52_63 true (bEq .no x55_65 (I 1))) fun x56_66 =>
 oB (oPick x52_63 x56_66 (.bool false)) fun x57_67 =>
 jnF 4 (fun z6_68 z4_68 z3_68 z1_68 h68 =>
 j50 z6_68 z4_68 z3_68 z1_68 h68) fun j68 =>
 ci x57_67 (
 oB (some (.iface 9 (.str [58, 32]))) fun x59_69 =>
 oP (oBuildSl h45 238 1 1 [.nili] [(0, 1, x59_69)]) fun x60_70 h70 =>
 oP (evW (.append 238 1 16 [.nili] (.c x39_45) (.c x60_70)) .e h70) fun x61_71 h71 =>
 j68 z6_42 z4_42 x61_71 z1_42 h71) (
 oB (bGt z4_42 (I 0)) fun x64_72 =>
 jnF 4 (fun z6_73 z4_73 z3_73 z1_73 h73 =>
 j68 z6_73 z4_73 z3_73 z1_73 h73) fun j73 =>
 ci x64_72 (
 oB (some (.iface 9 (.str [44, 32]))) fun x66_74 =>
 oP (oBuildSl h45 238 1 1 [.nili] [(0, 1, x66_74)]) fun x67_75 h75 =>
 oP (evW (.append 238 1 16 [.nili] (.c x39_45) (.c x67_75)) .e h75) fun x68_76 h76 =>
 j73 z6_42 z4_42 x68_76 z1_42 h76) (
 j73 z6_42 z4_42 x39_45 z1_42 h45))) (
 oB (some (.iface 9 z6_42)) fun x82_77 =>
 oP (oBuildSl h45 238 1 1 [.nili] [(0, 1, x82_77)]) fun x83_78 h78 =>
 oP (evW (.append 238 1 16 [.nili] (.c x39_45) (.c x83_78)) .e h78) fun x84_79 h79 =>
 some (x84_79, h79))) fun j42 =>
 ci x34_41 (
 j42 (.str [125]) (.str [123]) z4_38 z3_38 z1_38 h38) (
 j42 (.str [93]) (.str [91]) z4_38 z3_38 z1_38 h38)) fun j38 =>
 oB (bEq .no x8_37 (I 1)) fun x10_80 =>
 ci x10_80 (
 oB (some (.iface 9 (.str [110, 117, 108, 108]))) fun x11_81 =>
 oP (oBuildSl h0 238 1 1 [.nili] [(0, 1, x11_81)]) fun x12_82 h82 =>
 some (x12_82, h82)) (
 oB (bEq .no x8_37 (I 2)) fun x14_83 =>
 jnF 5 (fun z13_84 z8_84 z4_84 z3_84 z1_84 h84 =>
 ci z13_84 (
 oB (oFA 1 z1_84) fun x17_85 =>
 oB (oLd h84 x17_85) fun x18_86 =>
 oB (some (.iface 9 x18_86)) fun x19_87 =>
 oP (oBuildSl h84 238 1 1 [.nili] [(0, 1, x19_87)]) fun x20_88 h88 =>
 some (x20_88, h88)) (
 oB (bEq .no z8_84 (I 5)) fun x22_89 =>
 ci x22_89 (
 oB (oFA 1 z1_84) fun x23_90 =>
 oB (oLd h84 x23_90) fun x24_91 =>
 oP (call n_quote_Write [x24_91] h84) fun x25_92 h92 =>
 oB (some (.iface 9 x25_92)) fun x26_93 =>
 oP (oBuildSl h92 238 1 1 [.nili] [(0, 1, x26_93)]) fun x27_94 h94 =>
 some (x27_94, h94)) (
 oB (bEq .no z8_84 (I 8)) fun x29_95 =>
 ci x29_95 (
 oB (some (.iface 9 (.str [63]))) fun x30_96 =>
 oP (oBuildSl h84 238 1 1 [.nili] [(0, 1, x30_96)]) fun x31_97 h97 =>
 some (x31_97, h97)) (
 j38 z4_84 z3_84 z1_84 h84)))) fun j84 =>
 ci x14_83 (
 j84 x14_83 x8_37 (I 0) .nils x1_0 h0) (
 oB (bEq .no x8_37 (I 3)) fun x15_98 =>
 jnF 5 (fun z13_99 z8_99 z4_99 z3_99 z1_99 h99 =>
 j84 z13_99 z8_99 z4_99 z3_99 z1_99 h99) fun j99 =>
 ci x15_98 (
 j99 x15_98 x8_37 (I 0) .nils x1_0 h0) (
 oB (bEq .no x8_37 (I 4)) fun x16_100 =>
 j99 x16_100 x8_37 (I 0) .nils x1_0 h0)))
theorem o_equal_parts : FnOK Tryz.prog n_equal_parts (a1 f_equal_parts) := ok1 mixed Tryz.func195 (by kernel_rfl)
/- (*corrector/lint.finder).kind -/
noncomputable def f_lint_finder_kind (n : Nat) (call : Caller)  (x0 x1 : AV) (h : AH) : Ans :=
 oB (bLt x1 (I 0)) fun x6_0 =>
 oB (gq x6_0 false (some x1)) fun x8_1 =>
 oB (gq x6_0 false (some x0)) fun x9_2 =>
 oB (gq x6_0 false (oNil x9_2)) fun x10_3 =>
 oB (gq x6_0 false (oFA 15 x10_3)) fun x11_4 =>
 oB (gq x6_0 false (oLd h x11_4)) fun x12_5 =>
 oB (gq x6_0 false (oLen x12_5)) fun x13_6 =>
 oB (gq x6_0 false (bGe x8_1 x13_6)) fun x14_7 =>
 oB (oPick x6_0 (.bool true) x14_7) fun x15_8 =>
 ci x15_8 (
 some ((I 0), h)) (
 oB (oNil x0) fun x17_9 =>
 oB (oFA 15 x17_9) fun x18_10 =>
 oB (oLd h x18_10) fun x19_11 =>
 oB (oIx 3 x19_11 x1) fun x21_12 =>
 oB (oFA 0 x21_12) fun x22_13 =>
 oB (oLd h x22_13) fun x23_14 =>
 some (x23_14, h))
theorem o_lint_finder_kind : FnOK Tryz.prog n_lint_finder_kind (a2 f_lint_finder_kind) := ok2 mixed Tryz.func196 (by kernel_rfl)
/- (*corrector/lint.finder).find -/
noncomputable def f_lint_finder_find (n : Nat) (call : Caller)  (x0 x1 x2 x3 : AV) (h : AH) : Ans :=
 oB (oNil x0) fun x10_0 =>
 oB (oFA 21 x10_0) fun x11_1 =>
 oB (oLd h x11_1) fun x12_2 =>
 oB (oBuild [(I 0), (I 0), (I 0)] [(0, 1, x1), (1, 1, x2), (2, 1, x3)]) fun x16_3 =>
 oP (oBuildSl h 112 3 1 [(I 0), (I 0), (I 0)] [(0, 3, x16_3)]) fun x17_4 h4 =>
 oP (evW (.append 112 3 24 [(I 0), (I 0), (I 0)] (.c x12_2) (.c x17_4)) .e h4) fun x18_5 h5 =>
 oB (oNil x0) fun x19_6 =>
 oB (oFA 21 x19_6) fun x20_7 =>
 oP (oSt 1 h5 x20_7 x18_5) fun _ h8 =>
 some (.tup [], h8)
theorem o_lint_finder_find : FnOK Tryz.prog n_lint_finder_find (a4 f_lint_finder_find) := ok4 mixed Tryz.func197 (by kernel_rfl)
/- (*corrector/lint.finder).bytes -/
noncomputable def f_lint_finder_bytes (n : Nat) (call : Caller)  (x0 x1 : AV) (h : AH) : Ans :=
 oP (oNew h 218 (AV.cells x1)) fun x3_0 h0 =>
 oB' (nx 21 h0) fun h1 =>
 oB (oNil x0) fun x7_2 =>
 oB (oFA 15 x7_2) fun x8_3 =>
 oB (oLd h1 x8_3) fun x9_4 =>
 oB (oFA 1 x3_0) fun x10_5 =>
 oB (oLd h1 x10_5) fun x11_6 =>
 oB (oIx 3 x9_4 x11_6) fun x12_7 =>
 oB (oFA 1 x12_7) fun x13_8 =>
 oB (oLd h1 x13_8) fun x14_9 =>
 oB (oNil x0) fun x16_10 =>
 oB (oFA 15 x16_10) fun x17_11 =>
 oB (oLd h1 x17_11) fun x18_12 =>
 oB (oFA 2 x3_0) fun x19_13 =>
 oB (oLd h1 x19_13) fun x20_14 =>
 oB (bSub x20_14 (I 1)) fun x21_15 =>
 oB (oIx 3 x18_12 x21_15) fun x22_16 =>
 oB (oFA 2 x22_16) fun x23_17 =>
 oB (oLd h1 x23_17) fun x24_18 =>
 some (.tup [x14_9, x24_18], h1)
theorem o_lint_finder_bytes : FnOK Tryz.prog n_lint_finder_bytes (a2 f_lint_finder_bytes) := ok2 mixed Tryz.func198 (by kernel_rfl)
/- corrector/lint.counts -/
noncomputable def f_lint_counts (n : Nat) (call : Caller)  (x0 : AV) (h : AH) : Ans :=
 jnF 0 (fun h0 =>
 some ((.bool true), h0)) fun j0 =>
 oB (bEq .no x0 (I 0)) fun x5_1 =>
 jnF 1 (fun z4_2 h2 =>
 ci z4_2 (
 some ((.bool false), h2)) (
 j0 h2)) fun j2 =>
 ci x5_1 (
 j2 x5_1 h) (
 oB (bEq .no x0 (I 1)) fun x6_3 =>
 jnF 1 (fun z4_4 h4 =>
 j2 z4_4 h4) fun j4 =>
 ci x6_3 (
 j4 x6_3 h) (
 oB (bEq .no x0 (I 2)) fun x7_5 =>
 jnF 1 (fun z4_6 h6 =>
 j4 z4_6 h6) fun j6 =>
 ci x7_5 (
 j6 x7_5 h) (
 oB (bEq .no x0 (I 3)) fun x8_7 =>
 jnF 1 (fun z4_8 h8 =>
 j6 z4_8 h8) fun j8 =>
 ci x8_7 (
 j8 x8_7 h) (
 oB (bEq .no x0 (I 4)) fun x9_9 =>
 j8 x9_9 h))))
theorem o_lint_counts : FnOK Tryz.prog n_lint_counts (a1 f_lint_counts) := ok1 mixed Tryz.func199 (by kernel_rfl)
/- slices.ContainsFunc[[]corrector/api.Token,corrector/api.Token] -/
noncomputable def f_slices_ContainsFunc_api_Token_api_Token (n : Nat) (call : Caller)  (x0 x1 : AV) (h : AH) : Ans :=
 oP (call n_slices_IndexFunc_api_Token_api_Token [x0, x1] h) fun x7_0 h0 =>
 oB (bGe x7_0 (I 0)) fun x8_1 =>
 some (x8_1, h0)
theorem o_slices_ContainsFunc_api_Token_api_Token : FnOK Tryz.prog n_slices_ContainsFunc_api_Token_api_Token (a2 f_slices_ContainsFunc_api_Token_api_Token) := ok2 mixed Tryz.func200 (by kernel_rfl)
/- (*corrector/lint.finder).empty$1 -/
noncomputable def f_lint_finder_empty_1 (n : Nat) (call : Caller)  (x0 : AV) (h : AH) : Ans :=
 oP (oNew h 92 (AV.cells x0)) fun x1_0 h0 =>
 oB (oFA 0 x1_0) fun x3_1 =>
 oB (oLd h0 x3_1) fun x4_2 =>
 oB (bEq .no x4_2 (I 4)) fun x5_3 =>
 some (x5_3, h0)
theorem o_lint_finder_empty_1 : FnOK Tryz.prog n_lint_finder_empty_1 (a1 f_lint_finder_empty_1) := ok1 mixed Tryz.func201 (by kernel_rfl)
/- slices.IndexFunc[[]corrector/api.Token,corrector/api.Token] -/
noncomputable def f_slices_IndexFunc_api_Token_api_Token (n : Nat) (call : Caller)  (x0 x1 : AV) (h : AH) : Ans :=
 oB (oLen x0) fun x7_0 =>
 jnF 0 (fun h1 =>
 some ((Ineg 0), h1)) fun j1 =>
 lpF 4 n (fun f2 y8_2 y7_2 y1_2 y0_2 h2 =>
 oB (bLt y8_2 y7_2) fun x9_3 =>
 ci x9_3 (
 jnF 4 (fun z8_4 z7_4 z1_4 z0_4 h4 =>
 oB (bAdd z8_4 (I 1)) fun x18_5 =>
 f2 x18_5 z7_4 z1_4 z0_4 h4) fun j4 =>
 oB (oIx 3 y0_2 y8_2) fun x14_6 =>
 oB (oLdN 3 h2 x14_6) fun x15_7 =>
 oP (wOf (.callV (.c y1_2) [(.c x15_7)]) call .e h2) fun x16_8 h8 =>
 ci x16_8 (
 some (y8_2, h8)) (
 j4 y8_2 y7_2 y1_2 y0_2 h8)) (
 j1 h2)) (I 0) x7_0 x1 x0 h
theorem o_slices_IndexFunc_api_Token_api_Token : FnOK Tryz.prog n_slices_IndexFunc_api_Token_api_Token (a2 f_slices_IndexFunc_api_Token_api_Token) := ok2 mixed Tryz.func202 (by kernel_rfl)
/- (*corrector/lint.finder).mark$1 -/
noncomputable def f_lint_finder_mark_1 (n : Nat) (call : Caller)  (x0 : AV) (h : AH) : Ans :=
 oP (oNew h 92 (AV.cells x0)) fun x1_0 h0 =>
 oB (oFA 0 x1_0) fun x3_1 =>
 oB (oLd h0 x3_1) fun x4_2 =>
 oP (call n_lint_counts [x4_2] h0) fun x5_3 h3 =>
 some (x5_3, h3)
theorem o_lint_finder_mark_1 : FnOK Tryz.prog n_lint_finder_mark_1 (a1 f_lint_finder_mark_1) := ok1 mixed Tryz.func203 (by kernel_rfl)
/- corrector/chars.Blank -/
noncomputable def f_chars_Blank (n : Nat) (call : Caller)  (x0 : AV) (h : AH) : Ans :=
 oB (bEq .no x0 (U 32)) fun x4_0 =>
 oB (gq x4_0 false (some x0)) fun x6_1 =>
 oB (gq x4_0 false (bEq .no x6_1 (U 9))) fun x7_2 =>
 oB (oPick x4_0 (.bool true) x7_2) fun x8_3 =>
 some (x8_3, h)
theorem o_chars_Blank : FnOK Tryz.prog n_chars_Blank (a1 f_chars_Blank) := ok1 mixed Tryz.func204 (by kernel_rfl)
/- slices.DeleteFunc[[]int,int] -/
noncomputable def f_slices_DeleteFunc_int_int (n : Nat) (call : Caller)  (x0 x1 : AV) (h : AH) : Ans :=
 oP (call n_slices_IndexFunc_int_int [x0, x1] h) fun x10_0 h0 =>
 oB (bEq .no x10_0 (Ineg 0)) fun x12_1 =>
 ci x12_1 (
 some (x0, h0)) (
 oB (bAdd x10_0 (I 1)) fun x15_2 =>
 jnF 2 (fun z5_3 z0_3 h3 =>
 oB (evQ (.sl 1 (.c z0_3) (some (.c z5_3)) none none) .e h3) fun x38_4 =>
 oP (evW (.clr 1 [(I 0)] (.c x38_4)) .e h3) fun _ h5 =>
 oB (evQ (.sl 1 (.c z0_3) none (some (.c z5_3)) none) .e h5) fun x41_6 =>
 some (x41_6, h5)) fun j3 =>
 lpF 4 n (fun f7 y6_7 y5_7 y1_7 y0_7 h7 =>
 oB (oLen y0_7) fun x18_8 =>
 oB (bLt y6_7 x18_8) fun x19_9 =>
 ci x19_9 (
 jnF 4 (fun z6_10 z5_10 z1_10 z0_10 h10 =>
 oB (bAdd z6_10 (I 1)) fun x21_11 =>
 f7 x21_11 z5_10 z1_10 z0_10 h10) fun j10 =>
 oB (oIx 1 y0_7 y6_7) fun x24_12 =>
 oB (oLd h7 x24_12) fun x25_13 =>
 oP (wOf (.callV (.c y1_7) [(.c x25_13)]) call .e h7) fun x28_14 h14 =>
 oB (evQ (.un .not (.c x28_14)) .e h14) fun x29_15 =>
 jnF 4 (fun z6_16 z5_16 z1_16 z0_16 h16 =>
 j10 z6_16 z5_16 z1_16 z0_16 h16) fun j16 =>
 ci x29_15 (
 oB (oIx 1 y0_7 y5_7) fun x33_17 =>
 oP (oSt 1 h14 x33_17 x25_13) fun _ h18 =>
 oB (bAdd y5_7 (I 1)) fun x35_19 =>
 j16 y6_7 x35_19 y1_7 y0_7 h18) (
 j16 y6_7 y5_7 y1_7 y0_7 h14)) (
 j3 y5_7 y0_7 h7)) x15_2 x10_0 x1 x0 h0)
theorem o_slices_DeleteFunc_int_int : FnOK Tryz.prog n_slices_DeleteFunc_int_int (a2 f_slices_DeleteFunc_int_int) := ok2 mixed Tryz.func205 (by kernel_rfl)
/- (*corrector/lint.finder).twice$1 -/
noncomputable def f_lint_finder_twice_1 (n : Nat) (call : Caller)  (x0 x1 : AV) (h : AH) : Ans :=
 oB (oLd h x1) fun x4_0 =>
 oB (oNil x4_0) fun x5_1 =>
 oB (oFA 17 x5_1) fun x6_2 =>
 oB (oFA 0 x6_2) fun x7_3 =>
 oB (oLd h x7_3) fun x8_4 =>
 oB (oIx 6 x8_4 x0) fun x10_5 =>
 oB (oFA 0 x10_5) fun x11_6 =>
 oB (oLd h x11_6) fun x12_7 =>
 oB (bNe .no x12_7 (I 6)) fun x13_8 =>
 some (x13_8, h)
theorem o_lint_finder_twice_1 : FnOK Tryz.prog n_lint_finder_twice_1 (a2 f_lint_finder_twice_1) := ok2 mixed Tryz.func206 (by kernel_rfl)
/- corrector/equal.Twice -/
noncomputable def f_equal_Twice (n : Nat) (call : Caller)  (x0 x1 : AV) (h : AH) : Ans :=
 oP (oNew h 105 (AV.cells x0)) fun x2_0 h0 =>
 oB (bLt x1 (I 0)) fun x11_1 =>
 oB (gq x11_1 false (some x1)) fun x13_2 =>
 oB (gq x11_1 false (oFA 0 x2_0)) fun x14_3 =>
 oB (gq x11_1 false (oLd h0 x14_3)) fun x15_4 =>
 oB (gq x11_1 false (oLen x15_4)) fun x16_5 =>
 oB (gq x11_1 false (bGe x13_2 x16_5)) fun x17_6 =>
 oB (oPick x11_1 (.bool true) x17_6) fun x18_7 =>
 oB (gq x18_7 false (oFA 0 x2_0)) fun x20_8 =>
 oB (gq x18_7 false (oLd h0 x20_8)) fun x21_9 =>
 oB (gq x18_7 false (some x1)) fun x22_10 =>
 oB (gq x18_7 false (oIx 4 x21_9 x22_10)) fun x23_11 =>
 oB (gq x18_7 false (oFA 0 x23_11)) fun x24_12 =>
 oB (gq x18_7 false (oLd h0 x24_12)) fun x25_13 =>
 oB (gq x18_7 false (bNe .no x25_13 (I 7))) fun x26_14 =>
 oB (oPick x18_7 (.bool true) x26_14) fun x27_15 =>
 ci x27_15 (
 some (.nils, h0)) (
 oP (evW (.mkMap) .e h0) fun x28_16 h16 =>
 oB (oLdN 3 h16 x2_0) fun x29_17 =>
 oP (call n_equal_classes_of [x28_16, x29_17] h16) fun x30_18 h18 =>
 oP (evW (.mkMap) .e h18) fun x31_19 h19 =>
 jnF 1 (fun z7_20 h20 =>
 oP (call n_slices_Clone_int_int [z7_20] h20) fun x81_21 h21 =>
 some (x81_21, h21)) fun j20 =>
 lpF 6 n (fun f22 y8_22 y7_22 y6_22 y5_22 y2_22 y1_22 h22 =>
 oB (bAdd y8_22 (I 1)) fun x33_23 =>
 oB (oFA 0 y2_22) fun x34_24 =>
 oB (oLd h22 x34_24) fun x35_25 =>
 oB (oIx 4 x35_25 y1_22) fun x37_26 =>
 oB (oFA 3 x37_26) fun x38_27 =>
 oB (oLd h22 x38_27) fun x39_28 =>
 oB (oLen x39_28) fun x40_29 =>
 oB (bLt x33_23 x40_29) fun x41_30 =>
 ci x41_30 (
 jnF 6 (fun z8_31 z7_31 z6_31 z5_31 z2_31 z1_31 h31 =>
 oB (bAdd z8_31 (I 2)) fun x43_32 =>
 f22 x43_32 z7_31 z6_31 z5_31 z2_31 z1_31 h31) fun j31 =>
 oB (oFA 0 y2_22) fun x44_33 =>
 oB (oLd h22 x44_33) fun x45_34 =>
 oB (oIx 4 x45_34 y1_22) fun x47_35 =>
 oB (oFA 3 x47_35) fun x48_36 =>
 oB (oLd h22 x48_36) fun x49_37 =>
 oB (oIx 1 x49_37 y8_22) fun x51_38 =>
 oB (oLd h22 x51_38) fun x52_39 =>
 oB (bLt x52_39 (I 0)) fun x54_40 =>
 oB (gq x54_40 false (some x52_39)) fun x56_41 =>
 oB (gq x54_40 false (some y5_22)) fun x57_42 =>
 oB (gq x54_40 false (oLen x57_42)) fun x58_43 =>
 oB (gq x54_40 false (bGe x56_41 x58_43)) fun x59_44 =>
 oB (oPick x54_40 (.bool true) x59_44) fun x60_45 =>
 ci x60_45 (
 j31 y8_22 y7_22 y6_22 y5_22 y2_22 y1_22 h22) (
 oB (oIx 1 y5_22 x52_39) fun x64_46 =>
 oB (oLd h22 x64_46) fun x65_47 =>
 oB (evQ (.lookup .i (I 0) false (.c y6_22) (.c x65_47)) .e h22) fun x66_48 =>
 oB (bGt x66_48 (I 0)) fun x67_49 =>
 jnF 7 (fun z9_50 z8_50 z7_50 z6_50 z5_50 z2_50 z1_50 h50 =>
 oB (oIx 1 z5_50 z9_50) fun x76_51 =>
 oB (oLd h50 x76_51) fun x77_52 =>
 oB (evQ (.lookup .i (I 0) false (.c z6_50) (.c x77_52)) .e h50) fun x78_53 =>
 oB (bAdd x78_53 (I 1)) fun x79_54 =>
 oP (evW (.mapUpd .i (.c z6_50) (.c x77_52) (.c x79_54)) .e h50) fun _ h55 =>
 j31 z8_50 z7_50 z6_50 z5_50 z2_50 z1_50 h55) fun j50 =>
 ci x67_49 (
 oB (binAV .quo .no y8_22 (I 2)) fun x70_56 =>
 oP (oBuildSl h22 3 1 1 [(I 0)] [(0, 1, x70_56)]) fun x71_57 h57 =>
 oP (evW (.append 3 1 8 [(I 0)] (.c y7_22) (.c x71_57)) .e h57) fun x72_58 h58 =>
 j50 x52_39 y8_22 x72_58 y6_22 y5_22 y2_22 y1_22 h58) (
 j50 x52_39 y8_22 y7_22 y6_22 y5_22 y2_22 y1_22 h22))) (
 j20 y7_22 h22)) (I 0) .nils x31_19 x30_18 x2_0 x1 h19)
theorem o_equal_Twice : FnOK Tryz.prog n_equal_Twice (a2 f_equal_Twice) := ok2 mixed Tryz.func207 (by kernel_rfl)
/- (*corrector/lint.finder).where -/
noncomputable def f_lint_finder_where (n : Nat) (call : Caller)  (x0 x1 : AV) (h : AH) : Ans :=
 oP (oNew h 120 (AV.cells x1)) fun x3_0 h0 =>
 oB (oFA 5 x3_0) fun x6_1 =>
 oB (oLd h0 x6_1) fun x7_2 =>
 oB (gq x7_2 true (oFA 4 x3_0)) fun x9_3 =>
 oB (gq x7_2 true (oLd h0 x9_3)) fun x10_4 =>
 oB (gq x7_2 true (oLen x10_4)) fun x11_5 =>
 oB (gq x7_2 true (bGt x11_5 (I 0))) fun x12_6 =>
 oB (oPick x7_2 x12_6 (.bool false)) fun x13_7 =>
 ci x13_7 (
 oB' (nx 18 h0) fun h8 =>
 oB (oNil x0) fun x15_9 =>
 oB (oFA 15 x15_9) fun x16_10 =>
 oB (oLd h8 x16_10) fun x17_11 =>
 oB (oNil x0) fun x19_12 =>
 oB (oFA 17 x19_12) fun x20_13 =>
 oB (oFA 0 x20_13) fun x21_14 =>
 oB (oLd h8 x21_14) fun x22_15 =>
 oB (oFA 4 x3_0) fun x23_16 =>
 oB (oLd h8 x23_16) fun x24_17 =>
 oB (oIx 1 x24_17 (I 0)) fun x25_18 =>
 oB (oLd h8 x25_18) fun x26_19 =>
 oB (oIx 6 x22_15 x26_19) fun x27_20 =>
 oB (oLdN 6 h8 x27_20) fun x28_21 =>
 oP (call n_walk_Span [x17_11, x28_21] h8) fun x29_22 h22 =>
 oB (some (.iface 146 x29_22)) fun x30_23 =>
 some (x30_23, h22)) (
 oB' (nx 11 h0) fun h24 =>
 oB (oNil x0) fun x32_25 =>
 oB (oFA 15 x32_25) fun x33_26 =>
 oB (oLd h24 x33_26) fun x34_27 =>
 oB (oFA 1 x3_0) fun x35_28 =>
 oB (oLd h24 x35_28) fun x36_29 =>
 oB (oFA 2 x3_0) fun x37_30 =>
 oB (oLd h24 x37_30) fun x38_31 =>
 oB (evQ (.sl 3 (.c x34_27) (some (.c x36_29)) (some (.c x38_31)) none) .e h24) fun x39_32 =>
 oP (call n_slices_IndexFunc_api_Token_api_Token [x39_32, (.fn 267 [] [])] h24) fun x40_33 h33 =>
 oB (oFA 1 x3_0) fun x41_34 =>
 oB (oLd h33 x41_34) fun x42_35 =>
 oB (evQ (.maxI (.c x40_33) [(.c (I 0))]) .e h33) fun x44_36 =>
 oB (bAdd x42_35 x44_36) fun x45_37 =>
 oB (some (.iface 3 x45_37)) fun x46_38 =>
 some (x46_38, h33))
theorem o_lint_finder_where : FnOK Tryz.prog n_lint_finder_where (a2 f_lint_finder_where) := ok2 mixed Tryz.func208 (by kernel_rfl)
/- corrector/lint.Off -/
noncomputable def f_lint_Off (n : Nat) (call : Caller)  (x0 x1 : AV) (h : AH) : Ans :=
 oB (oLen x1) fun x11_0 =>
 jnF 1 (fun z5_1 h1 =>
 oP (call n_slices_Sort_int_int [z5_1] h1) fun x61_2 h2 =>
 oP (call n_slices_Compact_int_int [z5_1] h2) fun x63_3 h3 =>
 oP (call n_slices_Clone_int_int [x63_3] h3) fun x64_4 h4 =>
 some (x64_4, h4)) fun j1 =>
 lpF 5 n (fun f5 y12_5 y11_5 y10_5 y5_5 y0_5 h5 =>
 oB (bLt y12_5 y11_5) fun x13_6 =>
 ci x13_6 (
 jnF 5 (fun z12_7 z11_7 z10_7 z5_7 z0_7 h7 =>
 oB (bAdd z12_7 (I 1)) fun x59_8 =>
 f5 x59_8 z11_7 z10_7 z5_7 z0_7 h7) fun j7 =>
 oB (oIx 3 y10_5 y12_5) fun x14_9 =>
 oB (oLdN 3 h5 x14_9) fun x15_10 =>
 oP (oNew h5 92 [(I 0), (I 0), (I 0)]) fun x7_11 h11 =>
 oP (oSt 3 h11 x7_11 x15_10) fun _ h12 =>
 oB (oFA 0 x7_11) fun x16_13 =>
 oB (oLd h12 x16_13) fun x17_14 =>
 oB (bNe .no x17_14 (I 4)) fun x18_15 =>
 oB (gq x18_15 false (oFA 1 x7_11)) fun x20_16 =>
 oB (gq x18_15 false (oLd h12 x20_16)) fun x21_17 =>
 oB (gq x18_15 false (bLt x21_17 (I 0))) fun x22_18 =>
 oB (oPick x18_15 (.bool true) x22_18) fun x23_19 =>
 oB (gq x23_19 false (oFA 2 x7_11)) fun x25_20 =>
 oB (gq x23_19 false (oLd h12 x25_20)) fun x26_21 =>
 oB (gq x23_19 false (some y0_5)) fun x27_22 =>
 oB (gq x23_19 false (oLen x27_22)) fun x28_23 =>
 oB (gq x23_19 false (bGt x26_21 x28_23)) fun x29_24 =>
 oB (oPick x23_19 (.bool true) x29_24) fun x30_25 =>
 oB (gq x30_25 false (oFA 1 x7_11)) fun x32_26 =>
 oB (gq x30_25 false (oLd h12 x32_26)) fun x33_27 =>
 oB (gq x30_25 false (oFA 2 x7_11)) fun x34_28 =>
 oB (gq x30_25 false (oLd h12 x34_28)) fun x35_29 =>
 oB (gq x30_25 false (bGt x33_27 x35_29)) fun x36_30 =>
 oB (oPick x30_25 (.bool true) x36_30) fun x37_31 =>
 oB (gq x37_31 false (some y0_5)) fun x39_32 =>
 oB (gq x37_31 false (oFA 1 x7_11)) fun x40_33 =>
 oB (gq x37_31 false (oLd h12 x40_33)) fun x41_34 =>
 oB (gq x37_31 false (oFA 2 x7_11)) fun x42_35 =>
 oB (gq x37_31 false (oLd h12 x42_35)) fun x43_36 =>
 oB (gq x37_31 false (evQ (.sl 1 (.c x39_32) (some (.c x41_34)) (some (.c x43_36)) none) .e h12)) fun x44_37 =>
 oB (gq x37_31 false (evQ (.b2s (.c x44_37)) .e h12)) fun x45_38 =>
 oB (gq x37_31 false (bNe .no x45_38 (.str [35, 32, 111, 102, 102]))) fun x46_39 =>
 oB (oPick x37_31 (.bool true) x46_39) fun x47_40 =>
 ci x47_40 (
 j7 y12_5 y11_5 y10_5 y5_5 y0_5 h12) (
 oB (oFA 1 x7_11) fun x50_41 =>
 oB (oLd h12 x50_41) fun x51_42 =>
 oP (call n_lines_Place [y0_5, x51_42] h12) fun x52_43 h43 =>
 oB (oEx 0 x52_43) fun x53_44 =>
 oB (oEx 1 x52_43) fun x54_45 =>
 oP (oBuildSl h43 3 1 1 [(I 0)] [(0, 1, x53_44)]) fun x57_46 h46 =>
 oP (evW (.append 3 1 8 [(I 0)] (.c y5_5) (.c x57_46)) .e h46) fun x58_47 h47 =>
 j7 y12_5 y11_5 y10_5 x58_47 y0_5 h47)) (
 j1 y5_5 h5)) (I 0) x11_0 x1 .nils x0 h
theorem o_lint_Off : FnOK Tryz.prog n_lint_Off (a2 f_lint_Off) := ok2 mixed Tryz.func209 (by kernel_rfl)
/- corrector/lint.on$1 -/
noncomputable def f_lint_on_1 (n : Nat) (call : Caller)  (x0 x1 x2 : AV) (h : AH) : Ans :=
 oP (oNew h 112 (AV.cells x0)) fun x3_0 h0 =>
 oB (oLd h0 x1) fun x8_1 =>
 oB (oFA 1 x3_0) fun x9_2 =>
 oB (oLd h0 x9_2) fun x10_3 =>
 oP (call n_lines_Place [x8_1, x10_3] h0) fun x11_4 h4 =>
 oB (oEx 0 x11_4) fun x12_5 =>
 oB (oEx 1 x11_4) fun x13_6 =>
 oB (oLd h4 x2) fun x14_7 =>
 oP (call n_slices_Contains_int_int [x14_7, x12_5] h4) fun x16_8 h8 =>
 oB (evQ (.un .not (.c x16_8)) .e h8) fun x17_9 =>
 some (x17_9, h8)
theorem o_lint_on_1 : FnOK Tryz.prog n_lint_on_1 (a3 f_lint_on_1) := ok3 mixed Tryz.func210 (by kernel_rfl)
/- slices.Contains[[]int,int] -/
noncomputable def f_slices_Contains_int_int (n : Nat) (call : Caller)  (x0 x1 : AV) (h : AH) : Ans :=
 oP (call n_slices_Index_int_int [x0, x1] h) fun x7_0 h0 =>
 oB (bGe x7_0 (I 0)) fun x8_1 =>
 some (x8_1, h0)
theorem o_slices_Contains_int_int : FnOK Tryz.prog n_slices_Contains_int_int (a2 f_slices_Contains_int_int) := ok2 mixed Tryz.func211 (by kernel_rfl)
/- corrector/edit.Choose -/
noncomputable def f_edit_Choose (n : Nat) (call : Caller)  (x0 x1 : AV) (h : AH) : Ans :=
 oB (oLen x1) fun x9_0 =>
 jnF 1 (fun z5_1 h1 =>
 oP (call n_slices_SortStableFunc_api_Edit_api_Edit [z5_1, (.fn 275 [] [])] h1) fun x34_2 h2 =>
 oP (call n_slices_Clone_api_Edit_api_Edit [z5_1] h2) fun x36_3 h3 =>
 some (x36_3, h3)) fun j1 =>
 lpF 5 n (fun f4 y10_4 y9_4 y8_4 y5_4 y0_4 h4 =>
 oB (bLt y10_4 y9_4) fun x11_5 =>
 ci x11_5 (
 jnF 5 (fun z10_6 z9_6 z8_6 z5_6 z0_6 h6 =>
 oB (bAdd z10_6 (I 1)) fun x32_7 =>
 f4 x32_7 z9_6 z8_6 z5_6 z0_6 h6) fun j6 =>
 oB (oIx 3 y8_4 y10_4) fun x12_8 =>
 oB (oLdN 3 h4 x12_8) fun x13_9 =>
 oP (oNew h4 124 [(I 0), (I 0), (.str [])]) fun x7_10 h10 =>
 oP (oSt 3 h10 x7_10 x13_9) fun _ h11 =>
 oB (oLen y5_4) fun x15_12 =>
 oB (bEq .no x15_12 (I 200)) fun x16_13 =>
 oB (gq x16_13 false (some y0_4)) fun x18_14 =>
 oB (gq x16_13 false (oLdN 3 h11 x7_10)) fun x19_15 =>
 oP (gw x16_13 false (call n_edit_one [x18_14, x19_15] h11) h11) fun x20_16 h16 =>
 oB (gq x16_13 false (bNe .no x20_16 (I 0))) fun x21_17 =>
 oB (oPick x16_13 (.bool true) x21_17) fun x22_18 =>
 oB (gq x22_18 false (some y5_4)) fun x24_19 =>
 oB (gq x22_18 false (some (.fn n_edit_Choose_1 [] [x7_10]))) fun x25_20 =>
 oP (gw x22_18 false (call n_slices_ContainsFunc_api_Edit_api_Edit [x24_19, x25_20] h16) h16) fun x26_21 h21 =>
 oB (oPick x22_18 (.bool true) x26_21) fun x27_22 =>
 ci x27_22 (
 j6 y10_4 y9_4 y8_4 y5_4 y0_4 h21) (
 oB (oLdN 3 h21 x7_10) fun x29_23 =>
 oP (oBuildSl h21 124 3 1 [(I 0), (I 0), (.str [])] [(0, 3, x29_23)]) fun x30_24 h24 =>
 oP (evW (.append 124 3 32 [(I 0), (I 0), (.str [])] (.c y5_4) (.c x30_24)) .e h24) fun x31_25 h25 =>
 j6 y10_4 y9_4 y8_4 x31_25 y0_4 h25)) (
 j1 y5_4 h4)) (I 0) x9_0 x1 .nils x0 h
theorem o_edit_Choose : FnOK Tryz.prog n_edit_Choose (a2 f_edit_Choose) := ok2 mixed Tryz.func212 (by kernel_rfl)
/- corrector/suggest.Edits -/
noncomputable def f_suggest_Edits (n : Nat) (call : Caller)  (x0 x1 x2 x3 : AV) (h : AH) : Ans :=
 oB (oBuild [.nils, .nils] [(0, 1, x0), (1, 1, x1)]) fun x21_0 =>
 oP (oNew h 316 (AV.cells x21_0)) fun x22_1 h1 =>
 oB (oLen x2) fun x24_2 =>
 jnF 3 (fun z10_3 z9_3 z3_3 h3 =>
 oB (oLen z3_3) fun x43_4 =>
 jnF 1 (fun z10_5 h5 =>
 oP (call n_slices_Clone_api_Edit_api_Edit [z10_5] h5) fun x62_6 h6 =>
 some (x62_6, h6)) fun j5 =>
 lpF 5 n (fun f7 y44_7 y43_7 y42_7 y10_7 y9_7 h7 =>
 oB (bLt y44_7 y43_7) fun x45_8 =>
 ci x45_8 (
 jnF 5 (fun z44_9 z43_9 z42_9 z10_9 z9_9 h9 =>
 oB (bAdd z44_9 (I 1)) fun x60_10 =>
 f7 x60_10 z43_9 z42_9 z10_9 z9_9 h9) fun j9 =>
 oB (oIx 3 y42_7 y44_7) fun x46_11 =>
 oB (oLdN 3 h7 x46_11) fun x47_12 =>
 oP (oNew h7 112 [(I 0), (I 0), (I 0)]) fun x16_13 h13 =>
 oP (oSt 3 h13 x16_13 x47_12) fun _ h14 =>
 oB (oLdN 3 h14 x16_13) fun x50_15 =>
 oP (call n_suggest_mender_found [y9_7, x50_15] h14) fun x51_16 h16 =>
 oB (oTa 124 (.agg [(I 0), (I 0), (.str [])]) true x51_16) fun x52_17 =>
 oB (oEx 0 x52_17) fun x53_18 =>
 oB (oEx 1 x52_17) fun x54_19 =>
 oP (oNew h16 124 [(I 0), (I 0), (.str [])]) fun x17_20 h20 =>
 oP (oSt 3 h20 x17_20 x53_18) fun _ h21 =>
 jnF 5 (fun z44_22 z43_22 z42_22 z10_22 z9_22 h22 =>
 j9 z44_22 z43_22 z42_22 z10_22 z9_22 h22) fun j22 =>
 ci x54_19 (
 oB (oLdN 3 h21 x17_20) fun x57_23 =>
 oP (oBuildSl h21 124 3 1 [(I 0), (I 0), (.str [])] [(0, 3, x57_23)]) fun x58_24 h24 =>
 oP (evW (.append 124 3 32 [(I 0), (I 0), (.str [])] (.c y10_7) (.c x58_24)) .e h24) fun x59_25 h25 =>
 j22 y44_7 y43_7 y42_7 x59_25 y9_7 h25) (
 j22 y44_7 y43_7 y42_7 y10_7 y9_7 h21)) (
 j5 y10_7 h7)) (I 0) x43_4 z3_3 z10_3 z9_3 h3) fun j3 =>
 lpF 6 n (fun f26 y25_26 y24_26 y23_26 y10_26 y9_26 y3_26 h26 =>
 oB (bLt y25_26 y24_26) fun x26_27 =>
 ci x26_27 (
 jnF 6 (fun z25_28 z24_28 z23_28 z10_28 z9_28 z3_28 h28 =>
 oB (bAdd z25_28 (I 1)) fun x41_29 =>
 f26 x41_29 z24_28 z23_28 z10_28 z9_28 z3_28 h28) fun j28 =>
 oB (oIx 3 y23_26 y25_26) fun x27_30 =>
 oB (oLdN 3 h26 x27_30) fun x28_31 =>
 oP (oNew h26 112 [(I 0), (I 0), (I 0)]) fun x12_32 h32 =>
 oP (oSt 3 h32 x12_32 x28_31) fun _ h33 =>
 oB (oLdN 3 h33 x12_32) fun x31_34 =>
 oP (call n_suggest_mender_wrong [y9_26, x31_34] h33) fun x32_35 h35 =>
 oB (oTa 124 (.agg [(I 0), (I 0), (.str [])]) true x32_35) fun x33_36 =>
 oB (oEx 0 x33_36) fun x34_37 =>
 oB (oEx 1 x33_36) fun x35_38 =>
 oP (oNew h35 124 [(I 0), (I 0), (.str [])]) fun x13_39 h39 =>
 oP (oSt 3 h39 x13_39 x34_37) fun _ h40 =>
 jnF 6 (fun z25_41 z24_41 z23_41 z10_41 z9_41 z3_41 h41 =>
 j28 z25_41 z24_41 z23_41 z10_41 z9_41 z3_41 h41) fun j41 =>
 ci x35_38 (
 oB (oLdN 3 h40 x13_39) fun x38_42 =>
 oP (oBuildSl h40 124 3 1 [(I 0), (I 0), (.str [])] [(0, 3, x38_42)]) fun x39_43 h43 =>
 oP (evW (.append 124 3 32 [(I 0), (I 0), (.str [])] (.c y10_26) (.c x39_43)) .e h43) fun x40_44 h44 =>
 j41 y25_26 y24_26 y23_26 x40_44 y9_26 y3_26 h44) (
 j41 y25_26 y24_26 y23_26 y10_26 y9_26 y3_26 h40)) (
 j3 y10_26 y9_26 y3_26 h26)) (I 0) x24_2 x2 .nils x22_1 x3 h1
theorem o_suggest_Edits : FnOK Tryz.prog n_suggest_Edits (a4 f_suggest_Edits) := ok4 mixed Tryz.func213 (by kernel_rfl)
/- (*corrector/fix.fixer).better -/
noncomputable def f_fix_fixer_better (n : Nat) (call : Caller)  (x0 x1 : AV) (h : AH) : Ans :=
 oP (oNew h 179 (AV.cells x1)) fun x3_0 h0 =>
 oB (oNil x0) fun x7_1 =>
 oB (oFA 14 x7_1) fun x8_2 =>
 oB (oLdN 7 h0 x8_2) fun x9_3 =>
 oP (oNew h0 179 [.nils, .nils, (I 0), (I 0), .nils, .nils, .nils]) fun x5_4 h4 =>
 oP (oSt 7 h4 x5_4 x9_3) fun _ h5 =>
 oB (oFA 2 x3_0) fun x10_6 =>
 oB (oLd h5 x10_6) fun x11_7 =>
 oB (oFA 2 x5_4) fun x12_8 =>
 oB (oLd h5 x12_8) fun x13_9 =>
 oB (bGt x11_7 x13_9) fun x14_10 =>
 oB (gq x14_10 false (oFA 2 x3_0)) fun x16_11 =>
 oB (gq x14_10 false (oLd h5 x16_11)) fun x17_12 =>
 oB (gq x14_10 false (oFA 3 x3_0)) fun x18_13 =>
 oB (gq x14_10 false (oLd h5 x18_13)) fun x19_14 =>
 oB (gq x14_10 false (bAdd x17_12 x19_14)) fun x20_15 =>
 oB (gq x14_10 false (oFA 2 x5_4)) fun x21_16 =>
 oB (gq x14_10 false (oLd h5 x21_16)) fun x22_17 =>
 oB (gq x14_10 false (oFA 3 x5_4)) fun x23_18 =>
 oB (gq x14_10 false (oLd h5 x23_18)) fun x24_19 =>
 oB (gq x14_10 false (bAdd x22_17 x24_19)) fun x25_20 =>
 oB (gq x14_10 false (bGe x20_15 x25_20)) fun x26_21 =>
 oB (oPick x14_10 (.bool true) x26_21) fun x27_22 =>
 ci x27_22 (
 some ((.bool false), h5)) (
 oB (oFA 2 x5_4) fun x28_23 =>
 oB (oLd h5 x28_23) fun x29_24 =>
 oB (bGt x29_24 (I 0)) fun x30_25 =>
 oB (gq x30_25 false (oFA 4 x5_4)) fun x32_26 =>
 oB (gq x30_25 false (oLdN 3 h5 x32_26)) fun x33_27 =>
 oB (gq x30_25 false (oFA 4 x3_0)) fun x34_28 =>
 oB (gq x30_25 false (oLdN 3 h5 x34_28)) fun x35_29 =>
 oP (gw x30_25 false (call n_equal_Same [x33_27, x35_29] h5) h5) fun x36_30 h30 =>
 oB (oPick x30_25 (.bool true) x36_30) fun x37_31 =>
 some (x37_31, h30))
theorem o_fix_fixer_better : FnOK Tryz.prog n_fix_fixer_better (a2 f_fix_fixer_better) := ok2 mixed Tryz.func214 (by kernel_rfl)
/- (*corrector/fix.fixer).round$1 -/
noncomputable def f_fix_fixer_round_1 (n : Nat) (call : Caller)  (x0 x1 : AV) (h : AH) : Ans :=
 oB' (nx 28 h) fun h0 =>
 oB (oLd h0 x0) fun x2_1 =>
 oB (oLd h0 x0) fun x3_2 =>
 oB (oNil x3_2) fun x4_3 =>
 oB (oFA 21 x4_3) fun x5_4 =>
 oB (oLd h0 x5_4) fun x6_5 =>
 oB (oFA 1 x1) fun x7_6 =>
 oB (oLd h0 x7_6) fun x8_7 =>
 oP (call n_slices_Clone_api_Edit_api_Edit [x8_7] h0) fun x9_8 h8 =>
 oB (oFA 2 x1) fun x10_9 =>
 oB (oLd h8 x10_9) fun x11_10 =>
 oB (oFA 3 x1) fun x12_11 =>
 oB (oLd h8 x12_11) fun x13_12 =>
 oB (oLd h8 x0) fun x14_13 =>
 oB (oNil x14_13) fun x15_14 =>
 oB (oFA 14 x15_14) fun x16_15 =>
 oB (oFA 2 x16_15) fun x17_16 =>
 oB (oLd h8 x17_16) fun x18_17 =>
 oB (oLd h8 x0) fun x19_18 =>
 oB (oNil x19_18) fun x20_19 =>
 oB (oFA 14 x20_19) fun x21_20 =>
 oB (oFA 3 x21_20) fun x22_21 =>
 oB (oLd h8 x22_21) fun x23_22 =>
 oB (oBuild [.nils, (I 0), (I 0), (I 0), (I 0)] [(0, 1, x9_8), (1, 1, x11_10), (2, 1, x13_12), (3, 1, x18_17), (4, 1, x23_22)]) fun x24_23 =>
 fl1 true (evF (.buildSlice 187 5 1 [.nils, (I 0), (I 0), (I 0), (I 0)] [(0, 5, (.c x24_23))]) .e) (Nat.add h.next 23) fun x25_24 o24 =>
 oB' (lay1 (Nat.add h.next 23) o24 h8) fun v25 =>
 oP (evW (.append 187 5 56 [.nils, (I 0), (I 0), (I 0), (I 0)] (.c x6_5) (.c x25_24)) .e v25) fun x26_26 h26 =>
 oB (oNil x2_1) fun x27_27 =>
 oB (oFA 21 x27_27) fun x28_28 =>
 oP (oSt 1 h26 x28_28 x26_26) fun x0_29 h29 =>
 ask1 true (oLd h0 x0) x2_1 (
 ask1 true (oLd h8 x0) x2_1 (
 ask1 true (oLd h26 x0) x2_1 (
 ask1 true (oLd h0 x0) x3_2 (
 ask1 true (oLd h8 x0) x3_2 (
 ask1 true (oLd h0 x5_4) x6_5 (
 ask1 true (oLd h8 x5_4) x6_5 (
 ask1 true (oLd h0 x7_6) x8_7 (
 ask1 true (oLd h0 x10_9) x11_10 (
 ask1 true (oLd h8 x10_9) x11_10 (
 ask1 true (oLd h0 x12_11) x13_12 (
 ask1 true (oLd h8 x12_11) x13_12 (
 ask1 true (oLd h0 x0) x14_13 (
 ask1 true (oLd h8 x0) x14_13 (
 ask1 true (oLd h0 x17_16) x18_17 (
 ask1 true (oLd h8 x17_16) x18_17 (
 ask1 true (oLd h0 x0) x19_18 (
 ask1 true (oLd h8 x0) x19_18 (
 ask1 true (oLd h0 x22_21) x23_22 (
 ask1 true (oLd h8 x22_21) x23_22 (
 some (.tup [], h29)))))))))))))))))))))
theorem o_fix_fixer_round_1 : FnOK Tryz.prog n_fix_fixer_round_1 (a2 f_fix_fixer_round_1) := ok2 mixed Tryz.func215 (by kernel_rfl)
end Go.Proofs.YtmlhpcflphlgdaaGreatDoor
