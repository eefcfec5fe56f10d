/- Functions, as they run. PRINTED by a program of this repo. -/
import Derived.Test.YtahpoedbdhhdfaaGreatDoorN
import Derived.Test.YtahpoedbdhhdfaaGreatDoorM
set_option linter.unusedVariables false
set_option maxRecDepth 100000
namespace Go.Proofs.YtahpoedbdhhdfaaGreatDoor
open Go.Ev
/- (*corrector/parse.parser).tell -/
noncomputable def f_parse_parser_tell (n : Nat) (call : Caller)  (x0 x1 x2 x3 : AV) (h : AH) : Ans :=
 oB (oNil x0) fun x10_0 =>
 oB (oFA 5 x10_0) fun x11_1 =>
 oB (oLd h x11_1) fun x12_2 =>
 oB (oBuild [(I 0), (I 0), (I 0)] [(0, 1, x1), (1, 1, x2), (2, 1, x3)]) fun x16_3 =>
 oP (oBuildSl h 67 3 1 [(I 0), (I 0), (I 0)] [(0, 3, x16_3)]) fun x17_4 h4 =>
 oP (evW (.append 67 3 24 [(I 0), (I 0), (I 0)] (.c x12_2) (.c x17_4)) .e h4) fun x18_5 h5 =>
 oB (oNil x0) fun x19_6 =>
 oB (oFA 5 x19_6) fun x20_7 =>
 oP (oSt 1 h5 x20_7 x18_5) fun _ h8 =>
 some (.tup [], h8)
theorem o_parse_parser_tell : FnOK Tryz.prog n_parse_parser_tell (a4 f_parse_parser_tell) := ok4 mixed Tryz.func100 (by kernel_rfl)
/- (*corrector/parse.parser).tabs -/
noncomputable def f_parse_parser_tabs (n : Nat) (call : Caller)  (x0 x1 : AV) (h : AH) : Ans :=
 oP (oNew h 125 (AV.cells x1)) fun x3_0 h0 =>
 oB' (nx 11 h0) fun h1 =>
 oB (oNil x0) fun x7_2 =>
 oB (oFA 1 x7_2) fun x8_3 =>
 oB (oLd h1 x8_3) fun x9_4 =>
 oB (oFA 1 x3_0) fun x10_5 =>
 oB (oLd h1 x10_5) fun x11_6 =>
 oB (oFA 2 x3_0) fun x12_7 =>
 oB (oLd h1 x12_7) fun x13_8 =>
 oB (evQ (.sl 3 (.c x9_4) (some (.c x11_6)) (some (.c x13_8)) none) .e h1) fun x14_9 =>
 oB (oLen x14_9) fun x15_10 =>
 jnF 0 (fun h11 =>
 some (.tup [], h11)) fun j11 =>
 lpF 4 n (fun f12 y16_12 y15_12 y14_12 y0_12 h12 =>
 oB (bLt y16_12 y15_12) fun x17_13 =>
 ci x17_13 (
 jnF 4 (fun z16_14 z15_14 z14_14 z0_14 h14 =>
 oB (bAdd z16_14 (I 1)) fun x43_15 =>
 f12 x43_15 z15_14 z14_14 z0_14 h14) fun j14 =>
 oB (oIx 3 y14_12 y16_12) fun x18_16 =>
 oB (oLdN 3 h12 x18_16) fun x19_17 =>
 oP (oNew h12 131 [(I 0), (I 0), (I 0)]) fun x5_18 h18 =>
 oP (oSt 3 h18 x5_18 x19_17) fun _ h19 =>
 oB (oLdN 3 h19 x5_18) fun x20_20 =>
 oP (call n_parse_counts [x20_20] h19) fun x21_21 h21 =>
 ci x21_21 (
 some (.tup [], h21)) (
 oB' (nx 15 h21) fun h22 =>
 oB (oFA 0 x5_18) fun x22_23 =>
 oB (oLd h22 x22_23) fun x23_24 =>
 oB (bEq .no x23_24 (I 3)) fun x24_25 =>
 oB (gq x24_25 true (some y0_12)) fun x26_26 =>
 oB (gq x24_25 true (oNil x26_26)) fun x27_27 =>
 oB (gq x24_25 true (oFA 0 x27_27)) fun x28_28 =>
 oB (gq x24_25 true (oLd h22 x28_28)) fun x29_29 =>
 oB (gq x24_25 true (oFA 1 x5_18)) fun x30_30 =>
 oB (gq x24_25 true (oLd h22 x30_30)) fun x31_31 =>
 oB (gq x24_25 true (oFA 2 x5_18)) fun x32_32 =>
 oB (gq x24_25 true (oLd h22 x32_32)) fun x33_33 =>
 oB (gq x24_25 true (evQ (.sl 1 (.c x29_29) (some (.c x31_31)) (some (.c x33_33)) none) .e h22)) fun x34_34 =>
 oP (gw x24_25 true (call n_slices_Contains_byte_byte [x34_34, (U 9)] h22) h22) fun x35_35 h35 =>
 oB (oPick x24_25 x35_35 (.bool false)) fun x36_36 =>
 jnF 4 (fun z16_37 z15_37 z14_37 z0_37 h37 =>
 j14 z16_37 z15_37 z14_37 z0_37 h37) fun j37 =>
 ci x36_36 (
 oB (oFA 1 x5_18) fun x38_38 =>
 oB (oLd h35 x38_38) fun x39_39 =>
 oB (oFA 2 x5_18) fun x40_40 =>
 oB (oLd h35 x40_40) fun x41_41 =>
 oP (call n_parse_parser_tell [y0_12, (I 2), x39_39, x41_41] h35) fun x42_42 h42 =>
 j37 y16_12 y15_12 y14_12 y0_12 h42) (
 j37 y16_12 y15_12 y14_12 y0_12 h35))) (
 j11 h12)) (I 0) x15_10 x14_9 x0 h1
theorem o_parse_parser_tabs : FnOK Tryz.prog n_parse_parser_tabs (a2 f_parse_parser_tabs) := ok2 mixed Tryz.func101 (by kernel_rfl)
/- (*corrector/parse.parser).quoted -/
noncomputable def f_parse_parser_quoted (n : Nat) (call : Caller)  (x0 x1 : AV) (h : AH) : Ans :=
 oP (oNew h 131 (AV.cells x1)) fun x3_0 h0 =>
 oB' (nx 20 h0) fun h1 =>
 oB (oFA 0 x3_0) fun x10_2 =>
 oB (oLd h1 x10_2) fun x11_3 =>
 oB (oNil x0) fun x13_4 =>
 oB (oFA 0 x13_4) fun x14_5 =>
 oB (oLd h1 x14_5) fun x15_6 =>
 oB (oFA 1 x3_0) fun x16_7 =>
 oB (oLd h1 x16_7) fun x17_8 =>
 oB (oFA 2 x3_0) fun x18_9 =>
 oB (oLd h1 x18_9) fun x19_10 =>
 oB (evQ (.sl 1 (.c x15_6) (some (.c x17_8)) (some (.c x19_10)) none) .e h1) fun x20_11 =>
 oB (evQ (.b2s (.c x20_11)) .e h1) fun x21_12 =>
 oP (call n_quote_Text [x11_3, x21_12] h1) fun x22_13 h13 =>
 oB (oEx 0 x22_13) fun x23_14 =>
 oB (oEx 1 x22_13) fun x24_15 =>
 oB (oEx 2 x22_13) fun x25_16 =>
 oB (evQ (.un .not (.c x25_16)) .e h13) fun x27_17 =>
 jnF 3 (fun z5_18 z3_18 z0_18 h18 =>
 oB (oLen z5_18) fun x35_19 =>
 jnF 0 (fun h20 =>
 some (.tup [], h20)) fun j20 =>
 lpF 5 n (fun f21 y36_21 y35_21 y34_21 y3_21 y0_21 h21 =>
 oB (bLt y36_21 y35_21) fun x37_22 =>
 ci x37_22 (
 jnF 5 (fun z36_23 z35_23 z34_23 z3_23 z0_23 h23 =>
 oB (bAdd z36_23 (I 1)) fun x51_24 =>
 f21 x51_24 z35_23 z34_23 z3_23 z0_23 h23) fun j23 =>
 oB (oIx 1 y34_21 y36_21) fun x38_25 =>
 oB (oLd h21 x38_25) fun x39_26 =>
 oB (oFA 1 y3_21) fun x41_27 =>
 oB (oLd h21 x41_27) fun x42_28 =>
 oB (bAdd x42_28 x39_26) fun x44_29 =>
 oB (oFA 1 y3_21) fun x45_30 =>
 oB (oLd h21 x45_30) fun x46_31 =>
 oB (bAdd x46_31 x39_26) fun x48_32 =>
 oB (bAdd x48_32 (I 1)) fun x49_33 =>
 oP (call n_parse_parser_tell [y0_21, (I 4), x44_29, x49_33] h21) fun x50_34 h34 =>
 j23 y36_21 y35_21 y34_21 y3_21 y0_21 h34) (
 j20 h21)) (I 0) x35_19 z5_18 z3_18 z0_18 h18) fun j18 =>
 ci x27_17 (
 oB (oFA 1 x3_0) fun x29_35 =>
 oB (oLd h13 x29_35) fun x30_36 =>
 oB (oFA 2 x3_0) fun x31_37 =>
 oB (oLd h13 x31_37) fun x32_38 =>
 oP (call n_parse_parser_tell [x0, (I 3), x30_36, x32_38] h13) fun x33_39 h39 =>
 j18 x24_15 x3_0 x0 h39) (
 j18 x24_15 x3_0 x0 h13)
theorem o_parse_parser_quoted : FnOK Tryz.prog n_parse_parser_quoted (a2 f_parse_parser_quoted) := ok2 mixed Tryz.func102 (by kernel_rfl)
/- (*corrector/parse.parser).told$1 -/
noncomputable def f_parse_parser_told_1 (n : Nat) (call : Caller)  (x0 x1 : AV) (h : AH) : Ans :=
 oP (oNew h 67 (AV.cells x0)) fun x2_0 h0 =>
 oP (oNew h0 67 (AV.cells x1)) fun x3_1 h1 =>
 oB' (nx 18 h1) fun h2 =>
 oB (oFA 1 x2_0) fun x5_3 =>
 oB (oLd h2 x5_3) fun x6_4 =>
 oB (oFA 1 x3_1) fun x7_5 =>
 oB (oLd h2 x7_5) fun x8_6 =>
 oP (call n_cmp_Compare_int [x6_4, x8_6] h2) fun x9_7 h7 =>
 oB (oFA 2 x2_0) fun x10_8 =>
 oB (oLd h7 x10_8) fun x11_9 =>
 oB (oFA 2 x3_1) fun x12_10 =>
 oB (oLd h7 x12_10) fun x13_11 =>
 oP (call n_cmp_Compare_int [x11_9, x13_11] h7) fun x14_12 h12 =>
 oB (oFA 0 x2_0) fun x15_13 =>
 oB (oLd h12 x15_13) fun x16_14 =>
 oB (oFA 0 x3_1) fun x17_15 =>
 oB (oLd h12 x17_15) fun x18_16 =>
 oP (call n_cmp_Compare_int [x16_14, x18_16] h12) fun x19_17 h17 =>
 fl1 true (evF (.buildSlice 3 1 3 [(I 0), (I 0), (I 0)] [(0, 1, (.c x9_7)), (1, 1, (.c x14_12)), (2, 1, (.c x19_17))]) .e) (Nat.add h1.next 15) fun x20_18 o18 =>
 oB' (lay1 (Nat.add h1.next 15) o18 h17) fun v19 =>
 oP (call n_cmp_Or_int [x20_18] v19) fun x21_20 h20 =>
 ask1 true (oLd h2 x5_3) x6_4 (
 ask1 true (oLd h2 x7_5) x8_6 (
 ask1 true (oLd h2 x10_8) x11_9 (
 ask1 true (oLd h7 x10_8) x11_9 (
 ask1 true (oLd h2 x12_10) x13_11 (
 ask1 true (oLd h7 x12_10) x13_11 (
 ask1 true (oLd h2 x15_13) x16_14 (
 ask1 true (oLd h7 x15_13) x16_14 (
 ask1 true (oLd h12 x15_13) x16_14 (
 ask1 true (oLd h2 x17_15) x18_16 (
 ask1 true (oLd h7 x17_15) x18_16 (
 ask1 true (oLd h12 x17_15) x18_16 (
 some (x21_20, h20)))))))))))))
theorem o_parse_parser_told_1 : FnOK Tryz.prog n_parse_parser_told_1 (a2 f_parse_parser_told_1) := ok2 mixed Tryz.func103 (by kernel_rfl)
/- cmp.Or[int] -/
noncomputable def f_cmp_Or_int (n : Nat) (call : Caller)  (x0 : AV) (h : AH) : Ans :=
 oB (oLen x0) fun x7_0 =>
 jnF 1 (fun z3_1 h1 =>
 some (z3_1, h1)) fun j1 =>
 lpF 4 n (fun f2 y8_2 y7_2 y6_2 y3_2 h2 =>
 oB (bLt y8_2 y7_2) fun x9_3 =>
 ci x9_3 (
 jnF 4 (fun z8_4 z7_4 z6_4 z3_4 h4 =>
 oB (bAdd z8_4 (I 1)) fun x16_5 =>
 f2 x16_5 z7_4 z6_4 z3_4 h4) fun j4 =>
 oB (oIx 1 y6_2 y8_2) fun x10_6 =>
 oB (oLd h2 x10_6) fun x11_7 =>
 oB (bNe .no x11_7 y3_2) fun x14_8 =>
 ci x14_8 (
 some (x11_7, h2)) (
 j4 y8_2 y7_2 y6_2 y3_2 h2)) (
 j1 y3_2 h2)) (I 0) x7_0 x0 (I 0) h
theorem o_cmp_Or_int : FnOK Tryz.prog n_cmp_Or_int (a1 f_cmp_Or_int) := ok1 mixed Tryz.func104 (by kernel_rfl)
/- cmp.Compare[int] -/
noncomputable def f_cmp_Compare_int (n : Nat) (call : Caller)  (x0 x1 : AV) (h : AH) : Ans :=
 oP (call n_cmp_isNaN_int [x0] h) fun x8_0 h0 =>
 oP (call n_cmp_isNaN_int [x1] h0) fun x10_1 h1 =>
 ci x8_0 (
 ci x10_1 (
 some ((I 0), h1)) (
 some ((Ineg 0), h1))) (
 ci x10_1 (
 some ((I 1), h1)) (
 oB (bLt x0 x1) fun x16_2 =>
 ci x16_2 (
 some ((Ineg 0), h1)) (
 oB (bGt x0 x1) fun x19_3 =>
 ci x19_3 (
 some ((I 1), h1)) (
 some ((I 0), h1)))))
theorem o_cmp_Compare_int : FnOK Tryz.prog n_cmp_Compare_int (a2 f_cmp_Compare_int) := ok2 mixed Tryz.func105 (by kernel_rfl)
/- corrector/arena.Check -/
noncomputable def f_arena_Check (n : Nat) (call : Caller)  (x0 x1 : AV) (h : AH) : Ans :=
 oP (oNew h 59 (AV.cells x0)) fun x2_0 h0 =>
 oB (oFA 0 x2_0) fun x12_1 =>
 oB (oLd h0 x12_1) fun x13_2 =>
 oB (oLen x13_2) fun x14_3 =>
 oB (bEq .no x14_3 (I 0)) fun x15_4 =>
 ci x15_4 (
 some ((.bool false), h0)) (
 oB (oLdN 1 h0 x2_0) fun x16_5 =>
 oP (call n_arena_own [x16_5] h0) fun x17_6 h6 =>
 oB (oNil x17_6) fun x19_7 =>
 oB (oFA 0 x19_7) fun x20_8 =>
 oB (oFA 0 x20_8) fun x21_9 =>
 oB (oLd h6 x21_9) fun x22_10 =>
 oB (oIx 6 x22_10 (I 0)) fun x23_11 =>
 oB (oLdN 6 h6 x23_11) fun x24_12 =>
 oP (oNew h6 98 [(I 0), (I 0), (I 0), (I 0), .nils, (.bool false)]) fun x6_13 h13 =>
 oP (oSt 6 h13 x6_13 x24_12) fun _ h14 =>
 oB (oFA 0 x6_13) fun x25_15 =>
 oB (oLd h14 x25_15) fun x26_16 =>
 oB (bNe .no x26_16 (I 1)) fun x27_17 =>
 oB (gq x27_17 false (oFA 1 x6_13)) fun x29_18 =>
 oB (gq x27_17 false (oLd h14 x29_18)) fun x30_19 =>
 oB (gq x27_17 false (bNe .no x30_19 (I 0))) fun x31_20 =>
 oB (oPick x27_17 (.bool true) x31_20) fun x32_21 =>
 oB (gq x32_21 false (oFA 2 x6_13)) fun x34_22 =>
 oB (gq x32_21 false (oLd h14 x34_22)) fun x35_23 =>
 oB (gq x32_21 false (some x1)) fun x36_24 =>
 oB (gq x32_21 false (bNe .no x35_23 x36_24)) fun x37_25 =>
 oB (oPick x32_21 (.bool true) x37_25) fun x38_26 =>
 oB (gq x38_26 false (oFA 3 x6_13)) fun x40_27 =>
 oB (gq x38_26 false (oLd h14 x40_27)) fun x41_28 =>
 oB (gq x38_26 false (bNe .no x41_28 (Ineg 0))) fun x42_29 =>
 oB (oPick x38_26 (.bool true) x42_29) fun x43_30 =>
 ci x43_30 (
 some ((.bool false), h14)) (
 oB (oNil x17_6) fun x45_31 =>
 oB (oFA 0 x45_31) fun x46_32 =>
 oB (oFA 0 x46_32) fun x47_33 =>
 oB (oLd h14 x47_33) fun x48_34 =>
 oB (oLen x48_34) fun x49_35 =>
 jnF 2 (fun z7_36 z5_36 h36 =>
 oB (oNil z5_36) fun x97_37 =>
 oB (oFA 0 x97_37) fun x98_38 =>
 oB (oFA 0 x98_38) fun x99_39 =>
 oB (oLd h36 x99_39) fun x100_40 =>
 oB (oLen x100_40) fun x101_41 =>
 oB (bSub x101_41 (I 1)) fun x102_42 =>
 oB (bEq .no z7_36 x102_42) fun x103_43 =>
 some (x103_43, h36)) fun j36 =>
 lpF 5 n (fun f44 y50_44 y49_44 y48_44 y7_44 y5_44 h44 =>
 oB (bLt y50_44 y49_44) fun x51_45 =>
 ci x51_45 (
 jnF 5 (fun z50_46 z49_46 z48_46 z7_46 z5_46 h46 =>
 oB (bAdd z50_46 (I 1)) fun x94_47 =>
 f44 x94_47 z49_46 z48_46 z7_46 z5_46 h46) fun j46 =>
 oB (oIx 6 y48_44 y50_44) fun x53_48 =>
 oB (oLdN 6 h44 x53_48) fun x54_49 =>
 oP (oNew h44 98 [(I 0), (I 0), (I 0), (I 0), .nils, (.bool false)]) fun x9_50 h50 =>
 oP (oSt 6 h50 x9_50 x54_49) fun _ h51 =>
 oP (call n_arena_forest_lies [y5_44, y50_44] h51) fun x57_52 h52 =>
 oB (evQ (.un .not (.c x57_52)) .e h52) fun x58_53 =>
 oB (gq x58_53 false (some y50_44)) fun x60_54 =>
 oB (gq x58_53 false (bGt x60_54 (I 0))) fun x61_55 =>
 oB (gq x58_53 false (some x61_55)) fun x62_56 =>
 oB (gq x62_56 true (oFA 3 x9_50)) fun x63_57 =>
 oB (gq x62_56 true (oLd h52 x63_57)) fun x64_58 =>
 oB (gq x62_56 true (bLt x64_58 (I 0))) fun x65_59 =>
 oB (gq x62_56 true (some x65_59)) fun x66_60 =>
 oB (gq x66_60 false (oFA 3 x9_50)) fun x67_61 =>
 oB (gq x66_60 false (oLd h52 x67_61)) fun x68_62 =>
 oB (gq x66_60 false (some y50_44)) fun x69_63 =>
 oB (gq x66_60 false (bGe x68_62 x69_63)) fun x70_64 =>
 oB (gq x62_56 true (oPick x66_60 (.bool true) x70_64)) fun x71_65 =>
 oB (gq x58_53 false (oPick x62_56 x71_65 (.bool false))) fun x72_66 =>
 oB (oPick x58_53 (.bool true) x72_66) fun x73_67 =>
 ci x73_67 (
 some ((.bool false), h52)) (
 oB (oFA 4 x9_50) fun x75_68 =>
 oB (oLd h52 x75_68) fun x76_69 =>
 oB (oLen x76_69) fun x77_70 =>
 oB (bAdd y7_44 x77_70) fun x78_71 =>
 oB (oFA 4 x9_50) fun x79_72 =>
 oB (oLd h52 x79_72) fun x80_73 =>
 oB (oLen x80_73) fun x81_74 =>
 jnF 5 (fun z50_75 z49_75 z48_75 z7_75 z5_75 h75 =>
 j46 z50_75 z49_75 z48_75 z7_75 z5_75 h75) fun j75 =>
 lpF 9 n (fun f76 y82_76 y81_76 y80_76 y50_76 y49_76 y48_76 y9_76 y7_76 y5_76 h76 =>
 oB (bLt y82_76 y81_76) fun x83_77 =>
 ci x83_77 (
 jnF 9 (fun z82_78 z81_78 z80_78 z50_78 z49_78 z48_78 z9_78 z7_78 z5_78 h78 =>
 oB (bAdd z82_78 (I 1)) fun x93_79 =>
 f76 x93_79 z81_78 z80_78 z50_78 z49_78 z48_78 z9_78 z7_78 z5_78 h78) fun j78 =>
 oB (oIx 1 y80_76 y82_76) fun x85_80 =>
 oB (oLd h76 x85_80) fun x86_81 =>
 oB (oFA 4 y9_76) fun x87_82 =>
 oB (oLd h76 x87_82) fun x88_83 =>
 oB (evQ (.sl 1 (.c x88_83) none (some (.c y82_76)) none) .e h76) fun x90_84 =>
 oP (call n_slices_Contains_int_int [x90_84, x86_81] h76) fun x92_85 h85 =>
 ci x92_85 (
 some ((.bool false), h85)) (
 j78 y82_76 y81_76 y80_76 y50_76 y49_76 y48_76 y9_76 y7_76 y5_76 h85)) (
 j75 y50_76 y49_76 y48_76 y7_76 y5_76 h76)) (I 0) x81_74 x80_73 y50_44 y49_44 y48_44 x9_50 x78_71 y5_44 h52)) (
 j36 y7_44 y5_44 h44)) (I 0) x49_35 x48_34 (I 0) x17_6 h14))
theorem o_arena_Check : FnOK Tryz.prog n_arena_Check (a2 f_arena_Check) := ok2 mixed Tryz.func106 (by kernel_rfl)
/- (*corrector/graph.composer).first -/
noncomputable def f_graph_composer_first (n : Nat) (call : Caller)  (x0 x1 : AV) (h : AH) : Ans :=
 oP (oNew h 98 (AV.cells x1)) fun x3_0 h0 =>
 oB (oFA 4 x3_0) fun x7_1 =>
 oB (oLd h0 x7_1) fun x8_2 =>
 oB (oLen x8_2) fun x9_3 =>
 jnF 1 (fun z0_4 h4 =>
 oP (call n_graph_composer_null [z0_4] h4) fun x29_5 h5 =>
 some (x29_5, h5)) fun j4 =>
 lpF 4 n (fun f6 y10_6 y9_6 y8_6 y0_6 h6 =>
 oB (bLt y10_6 y9_6) fun x11_7 =>
 ci x11_7 (
 jnF 4 (fun z10_8 z9_8 z8_8 z0_8 h8 =>
 oB (bAdd z10_8 (I 1)) fun x27_9 =>
 f6 x27_9 z9_8 z8_8 z0_8 h8) fun j8 =>
 oB (oIx 1 y8_6 y10_6) fun x12_10 =>
 oB (oLd h6 x12_10) fun x13_11 =>
 oB (oNil y0_6) fun x15_12 =>
 oB (oFA 2 x15_12) fun x16_13 =>
 oB (oFA 0 x16_13) fun x17_14 =>
 oB (oLd h6 x17_14) fun x18_15 =>
 oB (oIx 6 x18_15 x13_11) fun x20_16 =>
 oB (oFA 0 x20_16) fun x21_17 =>
 oB (oLd h6 x21_17) fun x22_18 =>
 oB (bNe .no x22_18 (I 11)) fun x23_19 =>
 ci x23_19 (
 oP (call n_graph_composer_node [y0_6, x13_11] h6) fun x26_20 h20 =>
 some (x26_20, h20)) (
 j8 y10_6 y9_6 y8_6 y0_6 h6)) (
 j4 y0_6 h6)) (I 0) x9_3 x8_2 x0 h0
theorem o_graph_composer_first : FnOK Tryz.prog n_graph_composer_first (a2 f_graph_composer_first) := ok2 mixed Tryz.func107 (by kernel_rfl)
/- (*corrector/graph.composer).named -/
noncomputable def f_graph_composer_named (n : Nat) (call : Caller)  (x0 x1 x2 : AV) (h : AH) : Ans :=
 oP (call n_graph_composer_last [x0, x1, (I 12)] h) fun x12_0 h0 =>
 oB (oEx 0 x12_0) fun x13_1 =>
 oB (oEx 1 x12_0) fun x14_2 =>
 jnF 1 (fun z2_3 h3 =>
 some (z2_3, h3)) fun j3 =>
 ci x14_2 (
 oB' (nx 8 h0) fun h4 =>
 oB (oNil x0) fun x17_5 =>
 oB (oFA 7 x17_5) fun x18_6 =>
 oB (oLd h4 x18_6) fun x19_7 =>
 oB (oSlS x13_1 (some (I 1)) none) fun x21_8 =>
 oP (evW (.mapUpd .s (.c x19_7) (.c x21_8) (.c x2)) .e h4) fun _ h9 =>
 j3 x2 h9) (
 j3 x2 h0)
theorem o_graph_composer_named : FnOK Tryz.prog n_graph_composer_named (a3 f_graph_composer_named) := ok3 mixed Tryz.func108 (by kernel_rfl)
/- (*corrector/graph.composer).own -/
noncomputable def f_graph_composer_own (n : Nat) (call : Caller)  (x0 x1 : AV) (h : AH) : Ans :=
 oP (oNew h 98 (AV.cells x1)) fun x3_0 h0 =>
 oB' (nx 10 h0) fun h1 =>
 oB (oNil x0) fun x7_2 =>
 oB (oFA 1 x7_2) fun x8_3 =>
 oB (oLd h1 x8_3) fun x9_4 =>
 oB (oFA 1 x3_0) fun x10_5 =>
 oB (oLd h1 x10_5) fun x11_6 =>
 oB (oFA 2 x3_0) fun x12_7 =>
 oB (oLd h1 x12_7) fun x13_8 =>
 oB (evQ (.sl 3 (.c x9_4) (some (.c x11_6)) (some (.c x13_8)) none) .e h1) fun x14_9 =>
 oB (oFA 0 x3_0) fun x15_10 =>
 oB (oLd h1 x15_10) fun x16_11 =>
 oB (bEq .no x16_11 (I 9)) fun x17_12 =>
 oB (gq x17_12 false (oFA 0 x3_0)) fun x19_13 =>
 oB (gq x17_12 false (oLd h1 x19_13)) fun x20_14 =>
 oB (gq x17_12 false (bEq .no x20_14 (I 10))) fun x21_15 =>
 oB (oPick x17_12 (.bool true) x21_15) fun x22_16 =>
 ci x22_16 (
 oP (call n_slices_IndexFunc_api_Token_api_Token [x14_9, (.fn 168 [] [])] h1) fun x25_17 h17 =>
 oB (evQ (.maxI (.c x25_17) [(.c (I 0))]) .e h17) fun x26_18 =>
 oB (evQ (.sl 3 (.c x14_9) none (some (.c x26_18)) none) .e h17) fun x27_19 =>
 some (x27_19, h17)) (
 some (x14_9, h1))
theorem o_graph_composer_own : FnOK Tryz.prog n_graph_composer_own (a2 f_graph_composer_own) := ok2 mixed Tryz.func109 (by kernel_rfl)
/- (*corrector/graph.composer).scalar -/
noncomputable def f_graph_composer_scalar (n : Nat) (call : Caller)  (x0 x1 : AV) (h : AH) : Ans :=
 oP (call n_graph_composer_last [x0, x1, (I 14)] h) fun x13_0 h0 =>
 oB (oEx 0 x13_0) fun x14_1 =>
 oB (oEx 1 x13_0) fun x15_2 =>
 oP (call n_graph_composer_said [x0, x1] h0) fun x18_3 h3 =>
 oB (oTa 216 (.str []) true x18_3) fun x21_4 =>
 oB (oEx 0 x21_4) fun x22_5 =>
 oB (oEx 1 x21_4) fun x23_6 =>
 oB (evQ (.un .not (.c x23_6)) .e h3) fun x25_7 =>
 jnF 4 (fun z9_8 z8_8 z5_8 z0_8 h8 =>
 oP (call n_resolve_Tagged [z5_8, z8_8, z9_8] h8) fun x32_9 h9 =>
 oB (oBuild [(I 0), (.str []), (.str []), .nils] [(0, 1, x32_9), (1, 1, z8_8), (2, 1, z5_8)]) fun x35_10 =>
 oP (call n_graph_composer_value [z0_8, x35_10] h9) fun x36_11 h11 =>
 some (x36_11, h11)) fun j8 =>
 ci x25_7 (
 oB (oTa 218 (.str []) false x18_3) fun x27_12 =>
 j8 x23_6 x27_12 x14_1 x0 h3) (
 j8 x23_6 x22_5 x14_1 x0 h3)
theorem o_graph_composer_scalar : FnOK Tryz.prog n_graph_composer_scalar (a2 f_graph_composer_scalar) := ok2 mixed Tryz.func110 (by kernel_rfl)
/- (*corrector/graph.composer).alias -/
noncomputable def f_graph_composer_alias (n : Nat) (call : Caller)  (x0 x1 : AV) (h : AH) : Ans :=
 oP (call n_slices_IndexFunc_api_Token_api_Token [x1, (.fn 172 [] [])] h) fun x10_0 h0 =>
 oB (bLt x10_0 (I 0)) fun x12_1 =>
 ci x12_1 (
 oP (call n_graph_composer_null [x0] h0) fun x14_2 h2 =>
 some (x14_2, h2)) (
 oB (oIx 3 x1 x10_0) fun x18_3 =>
 oB (oLdN 3 h0 x18_3) fun x19_4 =>
 oP (call n_graph_composer_text [x0, x19_4] h0) fun x20_5 h5 =>
 oB (oSlS x20_5 (some (I 1)) none) fun x21_6 =>
 oB (oNil x0) fun x24_7 =>
 oB (oFA 7 x24_7) fun x25_8 =>
 oB (oLd h5 x25_8) fun x26_9 =>
 oB (evQ (.lookup .s (I 0) true (.c x26_9) (.c x21_6)) .e h5) fun x28_10 =>
 oB (oEx 0 x28_10) fun x29_11 =>
 oB (oEx 1 x28_10) fun x30_12 =>
 ci x30_12 (
 some (x29_11, h5)) (
 oB' (nx 21 h5) fun h13 =>
 oB (oNil x0) fun x35_14 =>
 oB (oFA 6 x35_14) fun x36_15 =>
 oB (oLd h13 x36_15) fun x37_16 =>
 oB (oIx 3 x1 x10_0) fun x40_17 =>
 oB (oFA 1 x40_17) fun x41_18 =>
 oB (oLd h13 x41_18) fun x42_19 =>
 oB (oIx 3 x1 x10_0) fun x45_20 =>
 oB (oFA 2 x45_20) fun x46_21 =>
 oB (oLd h13 x46_21) fun x47_22 =>
 oB (oBuild [(I 0), (I 0), (I 0)] [(0, 1, (I 11)), (1, 1, x42_19), (2, 1, x47_22)]) fun x48_23 =>
 fl1 true (evF (.buildSlice 67 3 1 [(I 0), (I 0), (I 0)] [(0, 3, (.c x48_23))]) .e) (Nat.add h5.next 16) fun x49_24 o24 =>
 oB' (lay1 (Nat.add h5.next 16) o24 h13) fun v25 =>
 oP (evW (.append 67 3 24 [(I 0), (I 0), (I 0)] (.c x37_16) (.c x49_24)) .e v25) fun x50_26 h26 =>
 oB (oNil x0) fun x51_27 =>
 oB (oFA 6 x51_27) fun x52_28 =>
 oP (oSt 1 h26 x52_28 x50_26) fun x0_29 h29 =>
 ask1 true (oLd h13 x36_15) x37_16 (
 ask1 true (oLd h13 x41_18) x42_19 (
 ask1 true (oLd h13 x46_21) x47_22 (
 oB (oBuild [(I 0), (.str []), (.str []), .nils] [(0, 1, (I 8)), (1, 1, x21_6)]) fun x55_30 =>
 oP (call n_graph_composer_value [x0, x55_30] h29) fun x56_31 h31 =>
 some (x56_31, h31))))))
theorem o_graph_composer_alias : FnOK Tryz.prog n_graph_composer_alias (a2 f_graph_composer_alias) := ok2 mixed Tryz.func111 (by kernel_rfl)
/- (*corrector/graph.composer).collection -/
noncomputable def f_graph_composer_collection (n : Nat) (call : Caller)  (x0 x1 x2 x3 : AV) (h : AH) : Ans :=
 oP (oNew h 98 (AV.cells x1)) fun x5_0 h0 =>
 oB (oLdN 6 h0 x5_0) fun x12_1 =>
 oP (call n_graph_composer_all [x0, x12_1] h0) fun x13_2 h2 =>
 oB (oBuild [(I 0), (.str []), (.str []), .nils] [(0, 1, x2), (3, 1, x13_2)]) fun x14_3 =>
 oP (oNew h2 103 [(I 0), (.str []), (.str []), .nils]) fun x9_4 h4 =>
 oP (oSt 4 h4 x9_4 x14_3) fun _ h5 =>
 oP (call n_graph_composer_last [x0, x3, (I 14)] h5) fun x18_6 h6 =>
 oB (oEx 0 x18_6) fun x19_7 =>
 oB (oEx 1 x18_6) fun x20_8 =>
 oB (oFA 2 x9_4) fun x21_9 =>
 oP (oSt 1 h6 x21_9 x19_7) fun _ h10 =>
 oB (oLdN 4 h10 x9_4) fun x23_11 =>
 oP (call n_graph_composer_value [x0, x23_11] h10) fun x24_12 h12 =>
 some (x24_12, h12)
theorem o_graph_composer_collection : FnOK Tryz.prog n_graph_composer_collection (a4 f_graph_composer_collection) := ok4 mixed Tryz.func112 (by kernel_rfl)
/- slices.pdqsortCmpFunc[corrector/api.Diag] -/
noncomputable def f_slices_pdqsortCmpFunc_api_Diag (n : Nat) (call : Caller)  (x0 x1 x2 x3 x4 : AV) (h : AH) : Ans :=
 jnF 0 (fun h0 =>
 some (.tup [], h0)) fun j0 =>
 lpF 7 n (fun f1 y11_1 y10_1 y4_1 y3_1 y2_1 y1_1 y0_1 h1 =>
 jnF 7 (fun z11_2 z10_2 z4_2 z3_2 z2_2 z1_2 z0_2 h2 =>
 f1 z11_2 z10_2 z4_2 z3_2 z2_2 z1_2 z0_2 h2) fun j2 =>
 oB (bSub y2_1 y1_1) fun x23_3 =>
 oB (bLe x23_3 (I 12)) fun x25_4 =>
 ci x25_4 (
 oP (call n_slices_insertionSortCmpFunc_api_Diag [y0_1, y1_1, y2_1, y4_1] h1) fun x30_5 h5 =>
 some (.tup [], h5)) (
 oB (bEq .no y3_1 (I 0)) fun x32_6 =>
 ci x32_6 (
 oP (call n_slices_heapSortCmpFunc_api_Diag [y0_1, y1_1, y2_1, y4_1] h1) fun x37_7 h7 =>
 some (.tup [], h7)) (
 oB (evQ (.un .not (.c y10_1)) .e h1) fun x39_8 =>
 jnF 8 (fun z12_9 z11_9 z10_9 z4_9 z3_9 z2_9 z1_9 z0_9 h9 =>
 oP (call n_slices_choosePivotCmpFunc_api_Diag [z0_9, z1_9, z2_9, z4_9] h9) fun x52_10 h10 =>
 oB (oEx 0 x52_10) fun x53_11 =>
 oB (oEx 1 x52_10) fun x54_12 =>
 oB (bEq .no x54_12 (I 2)) fun x56_13 =>
 jnF 10 (fun z14_14 z13_14 z12_14 z11_14 z10_14 z4_14 z3_14 z2_14 z1_14 z0_14 h14 =>
 oB (gq z10_14 true (some z11_14)) fun x70_15 =>
 oB (oPick z10_14 x70_15 (.bool false)) fun x71_16 =>
 oB (gq x71_16 true (some z14_14)) fun x73_17 =>
 oB (gq x71_16 true (bEq .no x73_17 (I 1))) fun x74_18 =>
 oB (oPick x71_16 x74_18 (.bool false)) fun x75_19 =>
 jnF 9 (fun z13_20 z12_20 z11_20 z10_20 z4_20 z3_20 z2_20 z1_20 z0_20 h20 =>
 oB' (nx 17 h20) fun h21 =>
 oB (bGt z1_20 (I 0)) fun x82_22 =>
 oB (gq x82_22 true (some z4_20)) fun x84_23 =>
 oB (gq x82_22 true (some z0_20)) fun x85_24 =>
 oB (gq x82_22 true (some z1_20)) fun x86_25 =>
 oB (gq x82_22 true (bSub x86_25 (I 1))) fun x87_26 =>
 oB (gq x82_22 true (oIx 3 x85_24 x87_26)) fun x88_27 =>
 oB (gq x82_22 true (oLdN 3 h21 x88_27)) fun x89_28 =>
 oB (gq x82_22 true (some z0_20)) fun x90_29 =>
 oB (gq x82_22 true (some z13_20)) fun x91_30 =>
 oB (gq x82_22 true (oIx 3 x90_29 x91_30)) fun x92_31 =>
 oB (gq x82_22 true (oLdN 3 h21 x92_31)) fun x93_32 =>
 oP (gw x82_22 true (wOf (.callV (.c x84_23) [(.c x89_28), (.c x93_32)]) call .e h21) h21) fun x94_33 h33 =>
 oB (gq x82_22 true (bLt x94_33 (I 0))) fun x95_34 =>
 oB (gq x82_22 true (evQ (.un .not (.c x95_34)) .e h33)) fun x96_35 =>
 oB (oPick x82_22 x96_35 (.bool false)) fun x97_36 =>
 ci x97_36 (
 oP (call n_slices_partitionEqualCmpFunc_api_Diag [z0_20, z1_20, z2_20, z13_20, z4_20] h33) fun x103_37 h37 =>
 j2 z11_20 z10_20 z4_20 z3_20 z2_20 x103_37 z0_20 h37) (
 oP (call n_slices_partitionCmpFunc_api_Diag [z0_20, z1_20, z2_20, z13_20, z4_20] h33) fun x111_38 h38 =>
 oB (oEx 0 x111_38) fun x112_39 =>
 oB (oEx 1 x111_38) fun x113_40 =>
 oB (bSub x112_39 z1_20) fun x117_41 =>
 oB (bSub z2_20 x112_39) fun x120_42 =>
 oB (binAV .quo .no z12_20 (I 8)) fun x122_43 =>
 oB (bLt x117_41 x120_42) fun x125_44 =>
 jnF 7 (fun z11_45 z10_45 z4_45 z3_45 z2_45 z1_45 z0_45 h45 =>
 j2 z11_45 z10_45 z4_45 z3_45 z2_45 z1_45 z0_45 h45) fun j45 =>
 ci x125_44 (
 oB (bGe x117_41 x122_43) fun x128_46 =>
 oP (call n_slices_pdqsortCmpFunc_api_Diag [z0_20, z1_20, x112_39, z3_20, z4_20] h38) fun x134_47 h47 =>
 oB (bAdd x112_39 (I 1)) fun x136_48 =>
 j45 x113_40 x128_46 z4_20 z3_20 z2_20 x136_48 z0_20 h47) (
 oB (bGe x120_42 x122_43) fun x139_49 =>
 oB (bAdd x112_39 (I 1)) fun x142_50 =>
 oP (call n_slices_pdqsortCmpFunc_api_Diag [z0_20, x142_50, z2_20, z3_20, z4_20] h38) fun x146_51 h51 =>
 j45 x113_40 x139_49 z4_20 z3_20 x112_39 z1_20 z0_20 h51))) fun j20 =>
 ci x75_19 (
 oP (call n_slices_partialInsertionSortCmpFunc_api_Diag [z0_14, z1_14, z2_14, z4_14] h14) fun x80_52 h52 =>
 ci x80_52 (
 some (.tup [], h52)) (
 j20 z13_14 z12_14 z11_14 z10_14 z4_14 z3_14 z2_14 z1_14 z0_14 h52)) (
 j20 z13_14 z12_14 z11_14 z10_14 z4_14 z3_14 z2_14 z1_14 z0_14 h14)) fun j14 =>
 ci x56_13 (
 oP (call n_slices_reverseRangeCmpFunc_api_Diag [z0_9, z1_9, z2_9, z4_9] h10) fun x61_53 h53 =>
 oB (bSub z2_9 (I 1)) fun x63_54 =>
 oB (bSub x53_11 z1_9) fun x66_55 =>
 oB (bSub x63_54 x66_55) fun x67_56 =>
 j14 (I 1) x67_56 z12_9 z11_9 z10_9 z4_9 z3_9 z2_9 z1_9 z0_9 h53) (
 j14 x54_12 x53_11 z12_9 z11_9 z10_9 z4_9 z3_9 z2_9 z1_9 z0_9 h10)) fun j9 =>
 ci x39_8 (
 oP (call n_slices_breakPatternsCmpFunc_api_Diag [y0_1, y1_1, y2_1, y4_1] h1) fun x44_57 h57 =>
 oB (bSub y3_1 (I 1)) fun x46_58 =>
 j9 x23_3 y11_1 y10_1 y4_1 x46_58 y2_1 y1_1 y0_1 h57) (
 j9 x23_3 y11_1 y10_1 y4_1 y3_1 y2_1 y1_1 y0_1 h1)))) (.bool true) (.bool true) x4 x3 x2 x1 x0 h
theorem o_slices_pdqsortCmpFunc_api_Diag : FnOK Tryz.prog n_slices_pdqsortCmpFunc_api_Diag (a5 f_slices_pdqsortCmpFunc_api_Diag) := ok5 mixed Tryz.func113 (by kernel_rfl)
/- math/bits.Len -/
noncomputable def f_math_bits_Len (n : Nat) (call : Caller)  (x0 : AV) (h : AH) : Ans :=
 ci (.bool false) (
 oB (oInt .u32 x0) fun x4_0 =>
 oP (call n_math_bits_Len32 [x4_0] h) fun x5_1 h1 =>
 some (x5_1, h1)) (
 oP (call n_math_bits_Len64 [x0] h) fun x7_2 h2 =>
 some (x7_2, h2))
theorem o_math_bits_Len : FnOK Tryz.prog n_math_bits_Len (a1 f_math_bits_Len) := ok1 mixed Tryz.func114 (by kernel_rfl)
/- slices.IndexFunc[[]corrector/api.Edit,corrector/api.Edit] -/
noncomputable def f_slices_IndexFunc_api_Edit_api_Edit (n : Nat) (call : Caller)  (x0 x1 : AV) (h : AH) : Ans :=
 oB (oLen x0) fun x7_0 =>
 jnF 0 (fun h1 =>
 some ((Ineg 0), h1)) fun j1 =>
 lpF 4 n (fun f2 y8_2 y7_2 y1_2 y0_2 h2 =>
 oB (bLt y8_2 y7_2) fun x9_3 =>
 ci x9_3 (
 jnF 4 (fun z8_4 z7_4 z1_4 z0_4 h4 =>
 oB (bAdd z8_4 (I 1)) fun x18_5 =>
 f2 x18_5 z7_4 z1_4 z0_4 h4) fun j4 =>
 oB (oIx 3 y0_2 y8_2) fun x14_6 =>
 oB (oLdN 3 h2 x14_6) fun x15_7 =>
 oP (wOf (.callV (.c y1_2) [(.c x15_7)]) call .e h2) fun x16_8 h8 =>
 ci x16_8 (
 some (y8_2, h8)) (
 j4 y8_2 y7_2 y1_2 y0_2 h8)) (
 j1 h2)) (I 0) x7_0 x1 x0 h
theorem o_slices_IndexFunc_api_Edit_api_Edit : FnOK Tryz.prog n_slices_IndexFunc_api_Edit_api_Edit (a2 f_slices_IndexFunc_api_Edit_api_Edit) := ok2 mixed Tryz.func115 (by kernel_rfl)
/- corrector/span.Meet -/
noncomputable def f_span_Meet (n : Nat) (call : Caller)  (x0 x1 : AV) (h : AH) : Ans :=
 oP (oNew h 145 (AV.cells x0)) fun x2_0 h0 =>
 oP (oNew h0 145 (AV.cells x1)) fun x3_1 h1 =>
 oB (oFA 0 x2_0) fun x5_2 =>
 oB (oLd h1 x5_2) fun x6_3 =>
 oB (oFA 1 x3_1) fun x7_4 =>
 oB (oLd h1 x7_4) fun x8_5 =>
 oB (bLt x6_3 x8_5) fun x9_6 =>
 oB (gq x9_6 true (oFA 0 x3_1)) fun x11_7 =>
 oB (gq x9_6 true (oLd h1 x11_7)) fun x12_8 =>
 oB (gq x9_6 true (oFA 1 x2_0)) fun x13_9 =>
 oB (gq x9_6 true (oLd h1 x13_9)) fun x14_10 =>
 oB (gq x9_6 true (bLt x12_8 x14_10)) fun x15_11 =>
 oB (oPick x9_6 x15_11 (.bool false)) fun x16_12 =>
 some (x16_12, h1)
theorem o_span_Meet : FnOK Tryz.prog n_span_Meet (a2 f_span_Meet) := ok2 mixed Tryz.func116 (by kernel_rfl)
/- slices.stableCmpFunc[corrector/api.Edit] -/
noncomputable def f_slices_stableCmpFunc_api_Edit (n : Nat) (call : Caller)  (x0 x1 x2 : AV) (h : AH) : Ans :=
 jnF 5 (fun z7_0 z6_0 z2_0 z1_0 z0_0 h0 =>
 oP (call n_slices_insertionSortCmpFunc_api_Edit [z0_0, z7_0, z1_0, z2_0] h0) fun x27_1 h1 =>
 jnF 0 (fun h2 =>
 some (.tup [], h2)) fun j2 =>
 lpF 4 n (fun f3 y6_3 y2_3 y1_3 y0_3 h3 =>
 oB (bLt y6_3 y1_3) fun x30_4 =>
 ci x30_4 (
 jnF 4 (fun z6_5 z2_5 z1_5 z0_5 h5 =>
 f3 z6_5 z2_5 z1_5 z0_5 h5) fun j5 =>
 oB (binAV .mul .no (I 2) y6_3) fun x32_6 =>
 jnF 5 (fun z7_7 z6_7 z2_7 z1_7 z0_7 h7 =>
 oB (bAdd z7_7 z6_7) fun x51_8 =>
 oB (bLt x51_8 z1_7) fun x54_9 =>
 jnF 4 (fun z6_10 z2_10 z1_10 z0_10 h10 =>
 oB (binAV .mul .no z6_10 (I 2)) fun x62_11 =>
 j5 x62_11 z2_10 z1_10 z0_10 h10) fun j10 =>
 ci x54_9 (
 oP (call n_slices_symMergeCmpFunc_api_Edit [z0_7, z7_7, x51_8, z1_7, z2_7] h7) fun x60_12 h12 =>
 j10 z6_7 z2_7 z1_7 z0_7 h12) (
 j10 z6_7 z2_7 z1_7 z0_7 h7)) fun j7 =>
 lpF 6 n (fun f13 y8_13 y7_13 y6_13 y2_13 y1_13 y0_13 h13 =>
 oB (bLe y8_13 y1_13) fun x35_14 =>
 ci x35_14 (
 jnF 6 (fun z8_15 z7_15 z6_15 z2_15 z1_15 z0_15 h15 =>
 f13 z8_15 z7_15 z6_15 z2_15 z1_15 z0_15 h15) fun j15 =>
 oB (bAdd y7_13 y6_13) fun x40_16 =>
 oP (call n_slices_symMergeCmpFunc_api_Edit [y0_13, y7_13, x40_16, y8_13, y2_13] h13) fun x43_17 h17 =>
 oB (binAV .mul .no (I 2) y6_13) fun x47_18 =>
 oB (bAdd y8_13 x47_18) fun x48_19 =>
 j15 x48_19 y8_13 y6_13 y2_13 y1_13 y0_13 h17) (
 j7 y7_13 y6_13 y2_13 y1_13 y0_13 h13)) x32_6 (I 0) y6_3 y2_3 y1_3 y0_3 h3) (
 j2 h3)) z6_0 z2_0 z1_0 z0_0 h1) fun j0 =>
 lpF 6 n (fun f20 y8_20 y7_20 y6_20 y2_20 y1_20 y0_20 h20 =>
 oB (bLe y8_20 y1_20) fun x13_21 =>
 ci x13_21 (
 jnF 6 (fun z8_22 z7_22 z6_22 z2_22 z1_22 z0_22 h22 =>
 f20 z8_22 z7_22 z6_22 z2_22 z1_22 z0_22 h22) fun j22 =>
 oP (call n_slices_insertionSortCmpFunc_api_Edit [y0_20, y7_20, y8_20, y2_20] h20) fun x18_23 h23 =>
 oB (bAdd y8_20 y6_20) fun x22_24 =>
 j22 x22_24 y8_20 y6_20 y2_20 y1_20 y0_20 h23) (
 j0 y7_20 y6_20 y2_20 y1_20 y0_20 h20)) (I 20) (I 0) (I 20) x2 x1 x0 h
theorem o_slices_stableCmpFunc_api_Edit : FnOK Tryz.prog n_slices_stableCmpFunc_api_Edit (a3 f_slices_stableCmpFunc_api_Edit) := ok3 mixed Tryz.func117 (by kernel_rfl)
/- strings.Repeat -/
noncomputable def f_strings_Repeat (n : Nat) (call : Caller)  (x0 x1 : AV) (h : AH) : Ans :=
 jnF 2 (fun z1_0 z0_0 h0 =>
 oB (bLt z1_0 (I 0)) fun x18_1 =>
 jnF 2 (fun z1_2 z0_2 h2 =>
 oB (oLenS z0_2) fun x22_3 =>
 oB (oInt .u64 x22_3) fun x23_4 =>
 oB (oInt .u64 z1_2) fun x25_5 =>
 oP (call n_math_bits_Mul [x23_4, x25_5] h2) fun x26_6 h6 =>
 oB (oEx 0 x26_6) fun x27_7 =>
 oB (oEx 1 x26_6) fun x28_8 =>
 oB (bGt x27_7 (.int .u64 0)) fun x30_9 =>
 oB (gq x30_9 false (some x28_8)) fun x32_10 =>
 oB (gq x30_9 false (bGt x32_10 (.int .u64 9223372036854775807))) fun x33_11 =>
 oB (oPick x30_9 (.bool true) x33_11) fun x34_12 =>
 jnF 2 (fun z6_13 z0_13 h13 =>
 oB (oInt .i64 z6_13) fun x37_14 =>
 oB (oLenS z0_13) fun x39_15 =>
 oB (bEq .no x39_15 (I 0)) fun x40_16 =>
 ci x40_16 (
 some ((.str []), h13)) (
 oB (oIxS z0_13 (I 0)) fun x42_17 =>
 jnF 2 (fun z7_18 z0_18 h18 =>
 oB (bGt z7_18 (I 8192)) fun x96_19 =>
 jnF 3 (fun z8_20 z7_20 z0_20 h20 =>
 oP (oNew h20 241 [.nilp, .nils]) fun x9_21 h21 =>
 oP (call n_strings_Builder_Grow [x9_21, z7_20] h21) fun x108_22 h22 =>
 oP (call n_strings_Builder_WriteString [x9_21, z0_20] h22) fun x110_23 h23 =>
 jnF 1 (fun z9_24 h24 =>
 oP (call n_strings_Builder_String [z9_24] h24) fun x124_25 h25 =>
 some (x124_25, h25)) fun j24 =>
 lpF 3 n (fun f26 y9_26 y8_26 y7_26 h26 =>
 oP (call n_strings_Builder_Len [y9_26] h26) fun x111_27 h27 =>
 oB (bLt x111_27 y7_26) fun x113_28 =>
 ci x113_28 (
 jnF 3 (fun z9_29 z8_29 z7_29 h29 =>
 f26 z9_29 z8_29 z7_29 h29) fun j29 =>
 oP (call n_strings_Builder_Len [y9_26] h27) fun x115_30 h30 =>
 oB (bSub y7_26 x115_30) fun x116_31 =>
 oP (call n_strings_Builder_Len [y9_26] h30) fun x117_32 h32 =>
 oB (evQ (.minI (.c x116_31) [(.c x117_32), (.c y8_26)]) .e h32) fun x119_33 =>
 oP (call n_strings_Builder_String [y9_26] h32) fun x120_34 h34 =>
 oB (oSlS x120_34 none (some x119_33)) fun x122_35 =>
 oP (call n_strings_Builder_WriteString [y9_26, x122_35] h34) fun x123_36 h36 =>
 j29 y9_26 y8_26 y7_26 h36) (
 j24 y9_26 h27)) x9_21 z8_20 z7_20 h23) fun j20 =>
 ci x96_19 (
 oB (oLenS z0_18) fun x98_37 =>
 oB (binAV .quo .no (I 8192) x98_37) fun x99_38 =>
 oB (oLenS z0_18) fun x101_39 =>
 oB (binAV .mul .no x99_38 x101_39) fun x102_40 =>
 oB (bEq .no x102_40 (I 0)) fun x104_41 =>
 jnF 3 (fun z8_42 z7_42 z0_42 h42 =>
 j20 z8_42 z7_42 z0_42 h42) fun j42 =>
 ci x104_41 (
 oB (oLenS z0_18) fun x106_43 =>
 j42 x106_43 z7_18 z0_18 h18) (
 j42 x102_40 z7_18 z0_18 h18)) (
 j20 z7_18 z7_18 z0_18 h18)) fun j18 =>
 oB (bEq .no x42_17 (U 32)) fun x44_44 =>
 jnF 3 (fun z43_45 z7_45 z0_45 h45 =>
 jnF 2 (fun z7_46 z0_46 h46 =>
 j18 z7_46 z0_46 h46) fun j46 =>
 ci z43_45 (
 jnF 2 (fun z7_47 z0_47 h47 =>
 j46 z7_47 z0_47 h47) fun j47 =>
 oB (bLe z7_45 (I 128)) fun x51_48 =>
 oB (gq x51_48 true (some z0_45)) fun x53_49 =>
 oP (gw x51_48 true (call n_strings_HasPrefix [(.str [32, 32, 32, 32, 32, 32, 32, 32, 32, 32, 32, 32, 32, 32, 32, 32, 32, 32, 32, 32, 32, 32, 32, 32, 32, 32, 32, 32, 32, 32, 32, 32, 32, 32, 32, 32, 32, 32, 32, 32, 32, 32, 32, 32, 32, 32, 32, 32, 32, 32, 32, 32, 32, 32, 32, 32, 32, 32, 32, 32, 32, 32, 32, 32, 32, 32, 32, 32, 32, 32, 32, 32, 32, 32, 32, 32, 32, 32, 32, 32, 32, 32, 32, 32, 32, 32, 32, 32, 32, 32, 32, 32, 32, 32, 32, 32, 32, 32, 32, 32, 32, 32, 32, 32, 32, 32, 32, 32, 32, 32, 32, 32, 32, 32, 32, 32, 32, 32, 32, 32, 32, 32, 32, 32, 32, 32, 32, 32]), x53_49] h45) h45) fun x54_50 h50 =>
 oB (oPick x51_48 x54_50 (.bool false)) fun x55_51 =>
 ci x55_51 (
 oB (oSlS (.str [32, 32, 32, 32, 32, 32, 32, 32, 32, 32, 32, 32, 32, 32, 32, 32, 32, 32, 32, 32, 32, 32, 32, 32, 32, 32, 32, 32, 32, 32, 32, 32, 32, 32, 32, 32, 32, 32, 32, 32, 32, 32, 32, 32, 32, 32, 32, 32, 32, 32, 32, 32, 32, 32, 32, 32, 32, 32, 32, 32, 32, 32, 32, 32, 32, 32, 32, 32, 32, 32, 32, 32, 32, 32, 32, 32, 32, 32, 32, 32, 32, 32, 32, 32, 32, 32, 32, 32, 32, 32, 32, 32, 32, 32, 32, 32, 32, 32, 32, 32, 32, 32, 32, 32, 32, 32, 32, 32, 32, 32, 32, 32, 32, 32, 32, 32, 32, 32, 32, 32, 32, 32, 32, 32, 32, 32, 32, 32]) none (some z7_45)) fun x57_52 =>
 some (x57_52, h50)) (
 oB (bLe z7_45 (I 128)) fun x60_53 =>
 oB (gq x60_53 true (some z0_45)) fun x62_54 =>
 oP (gw x60_53 true (call n_strings_HasPrefix [(.str [45, 45, 45, 45, 45, 45, 45, 45, 45, 45, 45, 45, 45, 45, 45, 45, 45, 45, 45, 45, 45, 45, 45, 45, 45, 45, 45, 45, 45, 45, 45, 45, 45, 45, 45, 45, 45, 45, 45, 45, 45, 45, 45, 45, 45, 45, 45, 45, 45, 45, 45, 45, 45, 45, 45, 45, 45, 45, 45, 45, 45, 45, 45, 45, 45, 45, 45, 45, 45, 45, 45, 45, 45, 45, 45, 45, 45, 45, 45, 45, 45, 45, 45, 45, 45, 45, 45, 45, 45, 45, 45, 45, 45, 45, 45, 45, 45, 45, 45, 45, 45, 45, 45, 45, 45, 45, 45, 45, 45, 45, 45, 45, 45, 45, 45, 45, 45, 45, 45, 45, 45, 45, 45, 45, 45, 45, 45, 45]), x62_54] h50) h50) fun x63_55 h55 =>
 oB (oPick x60_53 x63_55 (.bool false)) fun x64_56 =>
 ci x64_56 (
 oB (oSlS (.str [45, 45, 45, 45, 45, 45, 45, 45, 45, 45, 45, 45, 45, 45, 45, 45, 45, 45, 45, 45, 45, 45, 45, 45, 45, 45, 45, 45, 45, 45, 45, 45, 45, 45, 45, 45, 45, 45, 45, 45, 45, 45, 45, 45, 45, 45, 45, 45, 45, 45, 45, 45, 45, 45, 45, 45, 45, 45, 45, 45, 45, 45, 45, 45, 45, 45, 45, 45, 45, 45, 45, 45, 45, 45, 45, 45, 45, 45, 45, 45, 45, 45, 45, 45, 45, 45, 45, 45, 45, 45, 45, 45, 45, 45, 45, 45, 45, 45, 45, 45, 45, 45, 45, 45, 45, 45, 45, 45, 45, 45, 45, 45, 45, 45, 45, 45, 45, 45, 45, 45, 45, 45, 45, 45, 45, 45, 45, 45]) none (some z7_45)) fun x66_57 =>
 some (x66_57, h55)) (
 oB (bLe z7_45 (I 64)) fun x69_58 =>
 oB (gq x69_58 true (some z0_45)) fun x71_59 =>
 oP (gw x69_58 true (call n_strings_HasPrefix [(.str [48, 48, 48, 48, 48, 48, 48, 48, 48, 48, 48, 48, 48, 48, 48, 48, 48, 48, 48, 48, 48, 48, 48, 48, 48, 48, 48, 48, 48, 48, 48, 48, 48, 48, 48, 48, 48, 48, 48, 48, 48, 48, 48, 48, 48, 48, 48, 48, 48, 48, 48, 48, 48, 48, 48, 48, 48, 48, 48, 48, 48, 48, 48, 48]), x71_59] h55) h55) fun x72_60 h60 =>
 oB (oPick x69_58 x72_60 (.bool false)) fun x73_61 =>
 ci x73_61 (
 oB (oSlS (.str [48, 48, 48, 48, 48, 48, 48, 48, 48, 48, 48, 48, 48, 48, 48, 48, 48, 48, 48, 48, 48, 48, 48, 48, 48, 48, 48, 48, 48, 48, 48, 48, 48, 48, 48, 48, 48, 48, 48, 48, 48, 48, 48, 48, 48, 48, 48, 48, 48, 48, 48, 48, 48, 48, 48, 48, 48, 48, 48, 48, 48, 48, 48, 48]) none (some z7_45)) fun x75_62 =>
 some (x75_62, h60)) (
 oB (bLe z7_45 (I 128)) fun x78_63 =>
 oB (gq x78_63 true (some z0_45)) fun x80_64 =>
 oP (gw x78_63 true (call n_strings_HasPrefix [(.str [61, 61, 61, 61, 61, 61, 61, 61, 61, 61, 61, 61, 61, 61, 61, 61, 61, 61, 61, 61, 61, 61, 61, 61, 61, 61, 61, 61, 61, 61, 61, 61, 61, 61, 61, 61, 61, 61, 61, 61, 61, 61, 61, 61, 61, 61, 61, 61, 61, 61, 61, 61, 61, 61, 61, 61, 61, 61, 61, 61, 61, 61, 61, 61, 61, 61, 61, 61, 61, 61, 61, 61, 61, 61, 61, 61, 61, 61, 61, 61, 61, 61, 61, 61, 61, 61, 61, 61, 61, 61, 61, 61, 61, 61, 61, 61, 61, 61, 61, 61, 61, 61, 61, 61, 61, 61, 61, 61, 61, 61, 61, 61, 61, 61, 61, 61, 61, 61, 61, 61, 61, 61, 61, 61, 61, 61, 61, 61]), x80_64] h60) h60) fun x81_65 h65 =>
 oB (oPick x78_63 x81_65 (.bool false)) fun x82_66 =>
 ci x82_66 (
 oB (oSlS (.str [61, 61, 61, 61, 61, 61, 61, 61, 61, 61, 61, 61, 61, 61, 61, 61, 61, 61, 61, 61, 61, 61, 61, 61, 61, 61, 61, 61, 61, 61, 61, 61, 61, 61, 61, 61, 61, 61, 61, 61, 61, 61, 61, 61, 61, 61, 61, 61, 61, 61, 61, 61, 61, 61, 61, 61, 61, 61, 61, 61, 61, 61, 61, 61, 61, 61, 61, 61, 61, 61, 61, 61, 61, 61, 61, 61, 61, 61, 61, 61, 61, 61, 61, 61, 61, 61, 61, 61, 61, 61, 61, 61, 61, 61, 61, 61, 61, 61, 61, 61, 61, 61, 61, 61, 61, 61, 61, 61, 61, 61, 61, 61, 61, 61, 61, 61, 61, 61, 61, 61, 61, 61, 61, 61, 61, 61, 61, 61]) none (some z7_45)) fun x84_67 =>
 some (x84_67, h65)) (
 oB (bLe z7_45 (I 64)) fun x87_68 =>
 oB (gq x87_68 true (some z0_45)) fun x89_69 =>
 oP (gw x87_68 true (call n_strings_HasPrefix [(.str [9, 9, 9, 9, 9, 9, 9, 9, 9, 9, 9, 9, 9, 9, 9, 9, 9, 9, 9, 9, 9, 9, 9, 9, 9, 9, 9, 9, 9, 9, 9, 9, 9, 9, 9, 9, 9, 9, 9, 9, 9, 9, 9, 9, 9, 9, 9, 9, 9, 9, 9, 9, 9, 9, 9, 9, 9, 9, 9, 9, 9, 9, 9, 9]), x89_69] h65) h65) fun x90_70 h70 =>
 oB (oPick x87_68 x90_70 (.bool false)) fun x91_71 =>
 ci x91_71 (
 oB (oSlS (.str [9, 9, 9, 9, 9, 9, 9, 9, 9, 9, 9, 9, 9, 9, 9, 9, 9, 9, 9, 9, 9, 9, 9, 9, 9, 9, 9, 9, 9, 9, 9, 9, 9, 9, 9, 9, 9, 9, 9, 9, 9, 9, 9, 9, 9, 9, 9, 9, 9, 9, 9, 9, 9, 9, 9, 9, 9, 9, 9, 9, 9, 9, 9, 9]) none (some z7_45)) fun x93_72 =>
 some (x93_72, h70)) (
 j47 z7_45 z0_45 h70)))))) (
 j46 z7_45 z0_45 h45)) fun j45 =>
 ci x44_44 (
 j45 x44_44 x37_14 z0_13 h13) (
 oB (bEq .no x42_17 (U 45)) fun x45_73 =>
 jnF 3 (fun z43_74 z7_74 z0_74 h74 =>
 j45 z43_74 z7_74 z0_74 h74) fun j74 =>
 ci x45_73 (
 j74 x45_73 x37_14 z0_13 h13) (
 oB (bEq .no x42_17 (U 48)) fun x46_75 =>
 jnF 3 (fun z43_76 z7_76 z0_76 h76 =>
 j74 z43_76 z7_76 z0_76 h76) fun j76 =>
 ci x46_75 (
 j76 x46_75 x37_14 z0_13 h13) (
 oB (bEq .no x42_17 (U 61)) fun x47_77 =>
 jnF 3 (fun z43_78 z7_78 z0_78 h78 =>
 j76 z43_78 z7_78 z0_78 h78) fun j78 =>
 ci x47_77 (
 j78 x47_77 x37_14 z0_13 h13) (
 oB (bEq .no x42_17 (U 9)) fun x48_79 =>
 j78 x48_79 x37_14 z0_13 h13)))))) fun j13 =>
 ci x34_12 (
 oB (some (.iface 9 (.str [115, 116, 114, 105, 110, 103, 115, 58, 32, 82, 101, 112, 101, 97, 116, 32, 111, 117, 116, 112, 117, 116, 32, 108, 101, 110, 103, 116, 104, 32, 111, 118, 101, 114, 102, 108, 111, 119]))) fun x35_80 =>
 oB (evQ (.bad) .e h6) fun _ =>
 j13 x28_8 z0_2 h6) (
 j13 x28_8 z0_2 h6)) fun j2 =>
 ci x18_1 (
 oB (some (.iface 9 (.str [115, 116, 114, 105, 110, 103, 115, 58, 32, 110, 101, 103, 97, 116, 105, 118, 101, 32, 82, 101, 112, 101, 97, 116, 32, 99, 111, 117, 110, 116]))) fun x19_82 =>
 oB (evQ (.bad) .e h0) fun _ =>
 j2 z1_0 z0_0 h0) (
 j2 z1_0 z0_0 h0)) fun j0 =>
 oB (bEq .no x1 (I 0)) fun x13_84 =>
 ci x13_84 (
 some ((.str []), h)) (
 oB (bEq .no x1 (I 1)) fun x15_85 =>
 ci x15_85 (
 some (x0, h)) (
 j0 x1 x0 h))
theorem o_strings_Repeat : FnOK Tryz.prog n_strings_Repeat (a2 f_strings_Repeat) := ok2 mixed Tryz.func118 (by kernel_rfl)
/- corrector/suggest.put -/
noncomputable def f_suggest_put (n : Nat) (call : Caller)  (x0 x1 : AV) (h : AH) : Ans :=
 oB (oBuild [(I 0), (I 0), (.str [])] [(0, 1, x0), (1, 1, x0), (2, 1, x1)]) fun x8_0 =>
 oB (some (.iface 75 x8_0)) fun x9_1 =>
 some (x9_1, h)
theorem o_suggest_put : FnOK Tryz.prog n_suggest_put (a2 f_suggest_put) := ok2 mixed Tryz.func119 (by kernel_rfl)
/- (*corrector/suggest.mender).sign -/
noncomputable def f_suggest_mender_sign (n : Nat) (call : Caller)  (x0 x1 : AV) (h : AH) : Ans :=
 oB (bLt x1 (I 0)) fun x6_0 =>
 oB (gq x6_0 false (some x1)) fun x8_1 =>
 oB (gq x6_0 false (some x0)) fun x9_2 =>
 oB (gq x6_0 false (oNil x9_2)) fun x10_3 =>
 oB (gq x6_0 false (oFA 0 x10_3)) fun x11_4 =>
 oB (gq x6_0 false (oLd h x11_4)) fun x12_5 =>
 oB (gq x6_0 false (oLen x12_5)) fun x13_6 =>
 oB (gq x6_0 false (bGe x8_1 x13_6)) fun x14_7 =>
 oB (oPick x6_0 (.bool true) x14_7) fun x15_8 =>
 ci x15_8 (
 some ((.str []), h)) (
 oB (oNil x0) fun x17_9 =>
 oB (oFA 0 x17_9) fun x18_10 =>
 oB (oLd h x18_10) fun x19_11 =>
 oB (bAdd x1 (I 1)) fun x22_12 =>
 oB (evQ (.sl 1 (.c x19_11) (some (.c x1)) (some (.c x22_12)) none) .e h) fun x23_13 =>
 oB (evQ (.b2s (.c x23_13)) .e h) fun x24_14 =>
 some (x24_14, h))
theorem o_suggest_mender_sign : FnOK Tryz.prog n_suggest_mender_sign (a2 f_suggest_mender_sign) := ok2 mixed Tryz.func120 (by kernel_rfl)
/- (*corrector/suggest.mender).open -/
noncomputable def f_suggest_mender_open (n : Nat) (call : Caller)  (x0 x1 : AV) (h : AH) : Ans :=
 oP (oNew h 3 (AV.cells x1)) fun x3_0 h0 =>
 oB (oNil x0) fun x11_1 =>
 oB (oFA 1 x11_1) fun x12_2 =>
 oB (oLd h0 x12_2) fun x13_3 =>
 oB (some (.fn n_suggest_mender_open_1 [] [x3_0])) fun x14_4 =>
 oP (call n_slices_IndexFunc_api_Token_api_Token [x13_3, x14_4] h0) fun x15_5 h5 =>
 oB (bLt x15_5 (I 0)) fun x17_6 =>
 ci x17_6 (
 some (.nili, h5)) (
 oB (oNil x0) fun x19_7 =>
 oB (oFA 1 x19_7) fun x20_8 =>
 oB (oLd h5 x20_8) fun x21_9 =>
 oB (oIx 3 x21_9 x15_5) fun x23_10 =>
 oB (oFA 0 x23_10) fun x24_11 =>
 oB (oLd h5 x24_11) fun x25_12 =>
 oB (bEq .no x25_12 (I 9)) fun x26_13 =>
 jnF 3 (fun z6_14 z5_14 z0_14 h14 =>
 oB (oNil z0_14) fun x28_15 =>
 oB (oFA 1 x28_15) fun x29_16 =>
 oB (oLd h14 x29_16) fun x30_17 =>
 oB (oIx 3 x30_17 z5_14) fun x32_18 =>
 oB (oFA 2 x32_18) fun x33_19 =>
 oB (oLd h14 x33_19) fun x34_20 =>
 oB (oNil z0_14) fun x36_21 =>
 oB (oFA 1 x36_21) fun x37_22 =>
 oB (oLd h14 x37_22) fun x38_23 =>
 oB (evQ (.sl 3 (.c x38_23) (some (.c z5_14)) none none) .e h14) fun x40_24 =>
 oB (oLen x40_24) fun x41_25 =>
 jnF 2 (fun z7_26 z6_26 h26 =>
 oP (call n_suggest_put [z7_26, z6_26] h26) fun x56_27 h27 =>
 some (x56_27, h27)) fun j26 =>
 lpF 5 n (fun f28 y42_28 y41_28 y40_28 y7_28 y6_28 h28 =>
 oB (bLt y42_28 y41_28) fun x43_29 =>
 ci x43_29 (
 jnF 5 (fun z42_30 z41_30 z40_30 z7_30 z6_30 h30 =>
 oB (bAdd z42_30 (I 1)) fun x53_31 =>
 f28 x53_31 z41_30 z40_30 z7_30 z6_30 h30) fun j30 =>
 oB (oIx 3 y40_28 y42_28) fun x44_32 =>
 oB (oLdN 3 h28 x44_32) fun x45_33 =>
 oP (oNew h28 131 [(I 0), (I 0), (I 0)]) fun x9_34 h34 =>
 oP (oSt 3 h34 x9_34 x45_33) fun _ h35 =>
 oB (oFA 0 x9_34) fun x46_36 =>
 oB (oLd h35 x46_36) fun x47_37 =>
 oB (bEq .no x47_37 (I 1)) fun x48_38 =>
 ci x48_38 (
 j26 y7_28 y6_28 h35) (
 oB (oLdN 3 h35 x9_34) fun x49_39 =>
 oP (call n_suggest_counts [x49_39] h35) fun x50_40 h40 =>
 jnF 5 (fun z42_41 z41_41 z40_41 z7_41 z6_41 h41 =>
 j30 z42_41 z41_41 z40_41 z7_41 z6_41 h41) fun j41 =>
 ci x50_40 (
 oB (oFA 2 x9_34) fun x51_42 =>
 oB (oLd h40 x51_42) fun x52_43 =>
 j41 y42_28 y41_28 y40_28 x52_43 y6_28 h40) (
 j41 y42_28 y41_28 y40_28 y7_28 y6_28 h40))) (
 j26 y7_28 y6_28 h28)) (I 0) x41_25 x40_24 x34_20 z6_14 h14) fun j14 =>
 ci x26_13 (
 j14 (.str [125]) x15_5 x0 h5) (
 j14 (.str [93]) x15_5 x0 h5))
theorem o_suggest_mender_open : FnOK Tryz.prog n_suggest_mender_open (a2 f_suggest_mender_open) := ok2 mixed Tryz.func121 (by kernel_rfl)
/- slices.Equal[[]int,int] -/
noncomputable def f_slices_Equal_int_int (n : Nat) (call : Caller)  (x0 x1 : AV) (h : AH) : Ans :=
 oB (oLen x0) fun x7_0 =>
 oB (oLen x1) fun x9_1 =>
 oB (bNe .no x7_0 x9_1) fun x10_2 =>
 ci x10_2 (
 some ((.bool false), h)) (
 oB (oLen x0) fun x12_3 =>
 jnF 0 (fun h4 =>
 some ((.bool true), h4)) fun j4 =>
 lpF 4 n (fun f5 y13_5 y12_5 y1_5 y0_5 h5 =>
 oB (bLt y13_5 y12_5) fun x14_6 =>
 ci x14_6 (
 jnF 4 (fun z13_7 z12_7 z1_7 z0_7 h7 =>
 oB (bAdd z13_7 (I 1)) fun x25_8 =>
 f5 x25_8 z12_7 z1_7 z0_7 h7) fun j7 =>
 oB' (nx 9 h5) fun h9 =>
 oB (oIx 1 y0_5 y13_5) fun x18_10 =>
 oB (oLd h9 x18_10) fun x19_11 =>
 oB (oIx 1 y1_5 y13_5) fun x22_12 =>
 oB (oLd h9 x22_12) fun x23_13 =>
 oB (bNe .no x19_11 x23_13) fun x24_14 =>
 ci x24_14 (
 some ((.bool false), h9)) (
 j7 y13_5 y12_5 y1_5 y0_5 h9)) (
 j4 h5)) (I 0) x12_3 x1 x0 h)
theorem o_slices_Equal_int_int : FnOK Tryz.prog n_slices_Equal_int_int (a2 f_slices_Equal_int_int) := ok2 mixed Tryz.func122 (by kernel_rfl)
/- corrector/equal.docs -/
noncomputable def f_equal_docs (n : Nat) (call : Caller)  (x0 x1 : AV) (h : AH) : Ans :=
 oP (oNew h 42 (AV.cells x0)) fun x2_0 h0 =>
 oB (oFA 1 x2_0) fun x9_1 =>
 oB (oLd h0 x9_1) fun x10_2 =>
 oB (oLen x10_2) fun x11_3 =>
 jnF 1 (fun z5_4 h4 =>
 some (z5_4, h4)) fun j4 =>
 lpF 5 n (fun f5 y12_5 y11_5 y10_5 y5_5 y1_5 h5 =>
 oB (bLt y12_5 y11_5) fun x13_6 =>
 ci x13_6 (
 jnF 5 (fun z12_7 z11_7 z10_7 z5_7 z1_7 h7 =>
 oB (bAdd z12_7 (I 1)) fun x32_8 =>
 f5 x32_8 z11_7 z10_7 z5_7 z1_7 h7) fun j7 =>
 oB (oIx 1 y10_5 y12_5) fun x14_9 =>
 oB (oLd h5 x14_9) fun x15_10 =>
 oB (bGe x15_10 (I 0)) fun x17_11 =>
 oB (gq x17_11 true (some x15_10)) fun x19_12 =>
 oB (gq x17_11 true (some y1_5)) fun x20_13 =>
 oB (gq x17_11 true (oLen x20_13)) fun x21_14 =>
 oB (gq x17_11 true (bLt x19_12 x21_14)) fun x22_15 =>
 oB (oPick x17_11 x22_15 (.bool false)) fun x23_16 =>
 jnF 6 (fun z12_17 z11_17 z10_17 z8_17 z5_17 z1_17 h17 =>
 oP (oBuildSl h17 3 1 1 [(I 0)] [(0, 1, z8_17)]) fun x30_18 h18 =>
 oP (evW (.append 3 1 8 [(I 0)] (.c z5_17) (.c x30_18)) .e h18) fun x31_19 h19 =>
 j7 z12_17 z11_17 z10_17 x31_19 z1_17 h19) fun j17 =>
 ci x23_16 (
 oB (oIx 1 y1_5 x15_10) fun x26_20 =>
 oB (oLd h5 x26_20) fun x27_21 =>
 j17 y12_5 y11_5 y10_5 x27_21 y5_5 y1_5 h5) (
 j17 y12_5 y11_5 y10_5 (Ineg 0) y5_5 y1_5 h5)) (
 j4 y5_5 h5)) (I 0) x11_3 x10_2 .nils x1 h0
theorem o_equal_docs : FnOK Tryz.prog n_equal_docs (a2 f_equal_docs) := ok2 mixed Tryz.func123 (by kernel_rfl)
/- (corrector/equal.classes).of -/
noncomputable def f_equal_classes_of (n : Nat) (call : Caller)  (x0 x1 : AV) (h : AH) : Ans :=
 oP (oNew h 42 (AV.cells x1)) fun x3_0 h0 =>
 oB (oFA 0 x3_0) fun x11_1 =>
 oB (oLd h0 x11_1) fun x12_2 =>
 oB (oLen x12_2) fun x13_3 =>
 jnF 1 (fun z5_4 h4 =>
 some (z5_4, h4)) fun j4 =>
 lpF 5 n (fun f5 y14_5 y13_5 y12_5 y5_5 y0_5 h5 =>
 oB (bLt y14_5 y13_5) fun x15_6 =>
 ci x15_6 (
 jnF 5 (fun z14_7 z13_7 z12_7 z5_7 z0_7 h7 =>
 oB (bAdd z14_7 (I 1)) fun x38_8 =>
 f5 x38_8 z13_7 z12_7 z5_7 z0_7 h7) fun j7 =>
 oB (oIx 4 y12_5 y14_5) fun x16_9 =>
 oB (oLdN 4 h5 x16_9) fun x17_10 =>
 oP (oNew h5 103 [(I 0), (.str []), (.str []), .nils]) fun x7_11 h11 =>
 oP (oSt 4 h11 x7_11 x17_10) fun _ h12 =>
 oB (oLdN 4 h12 x7_11) fun x18_13 =>
 oP (call n_equal_key [x18_13, y5_5] h12) fun x20_14 h14 =>
 oB (evQ (.lookup .s (I 0) true (.c y0_5) (.c x20_14)) .e h14) fun x24_15 =>
 oB (oEx 0 x24_15) fun x25_16 =>
 oB (oEx 1 x24_15) fun x26_17 =>
 oB (evQ (.un .not (.c x26_17)) .e h14) fun x28_18 =>
 jnF 6 (fun z14_19 z13_19 z12_19 z9_19 z5_19 z0_19 h19 =>
 oP (oBuildSl h19 3 1 1 [(I 0)] [(0, 1, z9_19)]) fun x36_20 h20 =>
 oP (evW (.append 3 1 8 [(I 0)] (.c z5_19) (.c x36_20)) .e h20) fun x37_21 h21 =>
 j7 z14_19 z13_19 z12_19 x37_21 z0_19 h21) fun j19 =>
 ci x28_18 (
 oB (evQ (.lenMap (.c y0_5)) .e h14) fun x30_22 =>
 oP (evW (.mapUpd .s (.c y0_5) (.c x20_14) (.c x30_22)) .e h14) fun _ h23 =>
 j19 y14_5 y13_5 y12_5 x30_22 y5_5 y0_5 h23) (
 j19 y14_5 y13_5 y12_5 x25_16 y5_5 y0_5 h14)) (
 j4 y5_5 h5)) (I 0) x13_3 x12_2 .nils x0 h0
theorem o_equal_classes_of : FnOK Tryz.prog n_equal_classes_of (a2 f_equal_classes_of) := ok2 mixed Tryz.func124 (by kernel_rfl)
/- corrector/rows.counts -/
noncomputable def f_rows_counts (n : Nat) (call : Caller)  (x0 : AV) (h : AH) : Ans :=
 oP (oNew h 131 (AV.cells x0)) fun x1_0 h0 =>
 oB (oFA 0 x1_0) fun x3_1 =>
 oB (oLd h0 x3_1) fun x4_2 =>
 jnF 0 (fun h3 =>
 some ((.bool true), h3)) fun j3 =>
 oB (bEq .no x4_2 (I 1)) fun x6_4 =>
 jnF 1 (fun z5_5 h5 =>
 ci z5_5 (
 some ((.bool false), h5)) (
 j3 h5)) fun j5 =>
 ci x6_4 (
 j5 x6_4 h0) (
 oB (bEq .no x4_2 (I 2)) fun x7_6 =>
 jnF 1 (fun z5_7 h7 =>
 j5 z5_7 h7) fun j7 =>
 ci x7_6 (
 j7 x7_6 h0) (
 oB (bEq .no x4_2 (I 3)) fun x8_8 =>
 jnF 1 (fun z5_9 h9 =>
 j7 z5_9 h9) fun j9 =>
 ci x8_8 (
 j9 x8_8 h0) (
 oB (bEq .no x4_2 (I 4)) fun x9_10 =>
 j9 x9_10 h0)))
theorem o_rows_counts : FnOK Tryz.prog n_rows_counts (a1 f_rows_counts) := ok1 mixed Tryz.func125 (by kernel_rfl)
/- corrector/rows.begin -/
noncomputable def f_rows_begin (n : Nat) (call : Caller)  (x0 x1 : AV) (h : AH) : Ans :=
 oP (oNew h 125 (AV.cells x1)) fun x3_0 h0 =>
 oB (oFA 1 x3_0) fun x6_1 =>
 oB (oLd h0 x6_1) fun x7_2 =>
 oB (oIx 3 x0 x7_2) fun x8_3 =>
 oB (oFA 1 x8_3) fun x9_4 =>
 oB (oLd h0 x9_4) fun x10_5 =>
 some (x10_5, h0)
theorem o_rows_begin : FnOK Tryz.prog n_rows_begin (a2 f_rows_begin) := ok2 mixed Tryz.func126 (by kernel_rfl)
/- slices.IndexFunc[[]int,int] -/
noncomputable def f_slices_IndexFunc_int_int (n : Nat) (call : Caller)  (x0 x1 : AV) (h : AH) : Ans :=
 oB (oLen x0) fun x7_0 =>
 jnF 0 (fun h1 =>
 some ((Ineg 0), h1)) fun j1 =>
 lpF 4 n (fun f2 y8_2 y7_2 y1_2 y0_2 h2 =>
 oB (bLt y8_2 y7_2) fun x9_3 =>
 ci x9_3 (
 jnF 4 (fun z8_4 z7_4 z1_4 z0_4 h4 =>
 oB (bAdd z8_4 (I 1)) fun x18_5 =>
 f2 x18_5 z7_4 z1_4 z0_4 h4) fun j4 =>
 oB (oIx 1 y0_2 y8_2) fun x14_6 =>
 oB (oLd h2 x14_6) fun x15_7 =>
 oP (wOf (.callV (.c y1_2) [(.c x15_7)]) call .e h2) fun x16_8 h8 =>
 ci x16_8 (
 some (y8_2, h8)) (
 j4 y8_2 y7_2 y1_2 y0_2 h8)) (
 j1 h2)) (I 0) x7_0 x1 x0 h
theorem o_slices_IndexFunc_int_int : FnOK Tryz.prog n_slices_IndexFunc_int_int (a2 f_slices_IndexFunc_int_int) := ok2 mixed Tryz.func127 (by kernel_rfl)
/- corrector/walk.Span -/
noncomputable def f_walk_Span (n : Nat) (call : Caller)  (x0 x1 : AV) (h : AH) : Ans :=
 oP (oNew h 98 (AV.cells x1)) fun x3_0 h0 =>
 oP (oNew h0 145 [(I 0), (I 0)]) fun x4_1 h1 =>
 oB (oFA 1 x3_0) fun x10_2 =>
 oB (oLd h1 x10_2) fun x11_3 =>
 oB (oFA 2 x3_0) fun x12_4 =>
 oB (oLd h1 x12_4) fun x13_5 =>
 oP (call n_walk_ends [x0, x11_3, x13_5] h1) fun x14_6 h6 =>
 oB (oTa 145 (.agg [(I 0), (I 0)]) true x14_6) fun x17_7 =>
 oB (oEx 0 x17_7) fun x18_8 =>
 oB (oEx 1 x17_7) fun x19_9 =>
 oP (oNew h6 145 [(I 0), (I 0)]) fun x6_10 h10 =>
 oP (oSt 2 h10 x6_10 x18_8) fun _ h11 =>
 ci x19_9 (
 oB (oLdN 2 h11 x6_10) fun x21_12 =>
 oP (oSt 2 h11 x4_1 x21_12) fun _ h13 =>
 retT [(4, some (some 2))] (sput 4 Tr.e x4_1) h13) (
 oB (oTa 3 (I 0) false x14_6) fun x23_14 =>
 oB (oBuild [(I 0), (I 0)] [(0, 1, x23_14), (1, 1, x23_14)]) fun x26_15 =>
 oP (oSt 2 h11 x4_1 x26_15) fun _ h16 =>
 retT [(4, some (some 2))] (sput 4 Tr.e x4_1) h16)
theorem o_walk_Span : FnOK Tryz.prog n_walk_Span (a2 f_walk_Span) := ok2 mixed Tryz.func128 (by kernel_rfl)
/- (*corrector/lint.finder).where$1 -/
noncomputable def f_lint_finder_where_1 (n : Nat) (call : Caller)  (x0 : AV) (h : AH) : Ans :=
 oP (oNew h 131 (AV.cells x0)) fun x1_0 h0 =>
 oB (oFA 0 x1_0) fun x3_1 =>
 oB (oLd h0 x3_1) fun x4_2 =>
 oB (bEq .no x4_2 (I 6)) fun x5_3 =>
 some (x5_3, h0)
theorem o_lint_finder_where_1 : FnOK Tryz.prog n_lint_finder_where_1 (a1 f_lint_finder_where_1) := ok1 mixed Tryz.func129 (by kernel_rfl)
/- slices.Sort[[]int,int] -/
noncomputable def f_slices_Sort_int_int (n : Nat) (call : Caller)  (x0 : AV) (h : AH) : Ans :=
 oB (oLen x0) fun x4_0 =>
 oB (oInt .u64 x4_0) fun x8_1 =>
 oP (call n_math_bits_Len [x8_1] h) fun x9_2 h2 =>
 oP (call n_slices_pdqsortOrdered_int [x0, (I 0), x4_0, x9_2] h2) fun x10_3 h3 =>
 some (.tup [], h3)
theorem o_slices_Sort_int_int : FnOK Tryz.prog n_slices_Sort_int_int (a1 f_slices_Sort_int_int) := ok1 mixed Tryz.func130 (by kernel_rfl)
/- slices.Compact[[]int,int] -/
noncomputable def f_slices_Compact_int_int (n : Nat) (call : Caller)  (x0 : AV) (h : AH) : Ans :=
 oB (oLen x0) fun x7_0 =>
 oB (bLt x7_0 (I 2)) fun x8_1 =>
 ci x8_1 (
 some (x0, h)) (
 jnF 1 (fun z0_2 h2 =>
 some (z0_2, h2)) fun j2 =>
 lpF 2 n (fun f3 y3_3 y0_3 h3 =>
 oB (oLen y0_3) fun x12_4 =>
 oB (bLt y3_3 x12_4) fun x13_5 =>
 ci x13_5 (
 jnF 2 (fun z3_6 z0_6 h6 =>
 oB (bAdd z3_6 (I 1)) fun x15_7 =>
 f3 x15_7 z0_6 h6) fun j6 =>
 oB' (nx 10 h3) fun h8 =>
 oB (oIx 1 y0_3 y3_3) fun x18_9 =>
 oB (oLd h8 x18_9) fun x19_10 =>
 oB (bSub y3_3 (I 1)) fun x22_11 =>
 oB (oIx 1 y0_3 x22_11) fun x23_12 =>
 oB (oLd h8 x23_12) fun x24_13 =>
 oB (bEq .no x19_10 x24_13) fun x25_14 =>
 ci x25_14 (
 oB (evQ (.sl 1 (.c y0_3) (some (.c y3_3)) none none) .e h8) fun x28_15 =>
 jnF 2 (fun z3_16 z0_16 h16 =>
 oB (evQ (.sl 1 (.c z0_16) (some (.c z3_16)) none none) .e h16) fun x56_17 =>
 oP (evW (.clr 1 [(I 0)] (.c x56_17)) .e h16) fun _ h18 =>
 oB (evQ (.sl 1 (.c z0_16) none (some (.c z3_16)) none) .e h18) fun x59_19 =>
 some (x59_19, h18)) fun j16 =>
 lpF 4 n (fun f20 y5_20 y4_20 y3_20 y0_20 h20 =>
 oB (oLen y4_20) fun x31_21 =>
 oB (bLt y5_20 x31_21) fun x32_22 =>
 ci x32_22 (
 jnF 4 (fun z5_23 z4_23 z3_23 z0_23 h23 =>
 oB (bAdd z5_23 (I 1)) fun x34_24 =>
 f20 x34_24 z4_23 z3_23 z0_23 h23) fun j23 =>
 oB' (nx 10 h20) fun h25 =>
 oB (oIx 1 y4_20 y5_20) fun x37_26 =>
 oB (oLd h25 x37_26) fun x38_27 =>
 oB (bSub y5_20 (I 1)) fun x41_28 =>
 oB (oIx 1 y4_20 x41_28) fun x42_29 =>
 oB (oLd h25 x42_29) fun x43_30 =>
 oB (bNe .no x38_27 x43_30) fun x44_31 =>
 jnF 4 (fun z5_32 z4_32 z3_32 z0_32 h32 =>
 j23 z5_32 z4_32 z3_32 z0_32 h32) fun j32 =>
 ci x44_31 (
 oB (oIx 1 y4_20 y5_20) fun x49_33 =>
 oB (oLd h25 x49_33) fun x50_34 =>
 oB (oIx 1 y0_20 y3_20) fun x51_35 =>
 oP (oSt 1 h25 x51_35 x50_34) fun _ h36 =>
 oB (bAdd y3_20 (I 1)) fun x53_37 =>
 j32 y5_20 y4_20 x53_37 y0_20 h36) (
 j32 y5_20 y4_20 y3_20 y0_20 h25)) (
 j16 y3_20 y0_20 h20)) (I 1) x28_15 y3_3 y0_3 h8) (
 j6 y3_3 y0_3 h8)) (
 j2 y0_3 h3)) (I 1) x0 h)
theorem o_slices_Compact_int_int : FnOK Tryz.prog n_slices_Compact_int_int (a1 f_slices_Compact_int_int) := ok1 mixed Tryz.func131 (by kernel_rfl)
/- corrector/lines.Starts -/
noncomputable def f_lines_Starts (n : Nat) (call : Caller)  (x0 : AV) (h : AH) : Ans :=
 oP (oBuildSl h 3 1 1 [(I 0)] [(0, 1, (I 0))]) fun x7_0 h0 =>
 jnF 1 (fun z3_1 h1 =>
 oP (call n_slices_Clone_int_int [z3_1] h1) fun x48_2 h2 =>
 some (x48_2, h2)) fun j1 =>
 lpF 3 n (fun f3 y4_3 y3_3 y0_3 h3 =>
 oB (oLen y0_3) fun x10_4 =>
 oB (bLt y4_3 x10_4) fun x11_5 =>
 ci x11_5 (
 jnF 3 (fun z4_6 z3_6 z0_6 h6 =>
 f3 z4_6 z3_6 z0_6 h6) fun j6 =>
 oB (evQ (.sl 1 (.c y0_3) (some (.c y4_3)) none none) .e h3) fun x15_7 =>
 oP (call n_runes_Next [x15_7] h3) fun x16_8 h8 =>
 oB (oEx 0 x16_8) fun x17_9 =>
 oB (oEx 1 x16_8) fun x18_10 =>
 oB (bAdd y4_3 x18_10) fun x21_11 =>
 oB (bEq .no x17_9 (R 13)) fun x23_12 =>
 oB (gq x23_12 true (some x21_11)) fun x25_13 =>
 oB (gq x23_12 true (some y0_3)) fun x26_14 =>
 oB (gq x23_12 true (oLen x26_14)) fun x27_15 =>
 oB (gq x23_12 true (bLt x25_13 x27_15)) fun x28_16 =>
 oB (oPick x23_12 x28_16 (.bool false)) fun x29_17 =>
 oB (gq x29_17 true (some y0_3)) fun x31_18 =>
 oB (gq x29_17 true (some x21_11)) fun x32_19 =>
 oB (gq x29_17 true (oIx 1 x31_18 x32_19)) fun x33_20 =>
 oB (gq x29_17 true (oLd h8 x33_20)) fun x34_21 =>
 oB (gq x29_17 true (bEq .no x34_21 (U 10))) fun x35_22 =>
 oB (oPick x29_17 x35_22 (.bool false)) fun x36_23 =>
 ci x36_23 (
 j6 x21_11 y3_3 y0_3 h8) (
 oB (bEq .no x17_9 (R 10)) fun x38_24 =>
 oB (gq x38_24 false (some x17_9)) fun x40_25 =>
 oB (gq x38_24 false (bEq .no x40_25 (R 13))) fun x41_26 =>
 oB (oPick x38_24 (.bool true) x41_26) fun x42_27 =>
 jnF 3 (fun z4_28 z3_28 z0_28 h28 =>
 j6 z4_28 z3_28 z0_28 h28) fun j28 =>
 ci x42_27 (
 oP (oBuildSl h8 3 1 1 [(I 0)] [(0, 1, x21_11)]) fun x45_29 h29 =>
 oP (evW (.append 3 1 8 [(I 0)] (.c y3_3) (.c x45_29)) .e h29) fun x46_30 h30 =>
 j28 x21_11 x46_30 y0_3 h30) (
 j28 x21_11 y3_3 y0_3 h8))) (
 j1 y3_3 h3)) (I 0) x7_0 x0 h0
theorem o_lines_Starts : FnOK Tryz.prog n_lines_Starts (a1 f_lines_Starts) := ok1 mixed Tryz.func132 (by kernel_rfl)
/- slices.Index[[]int,int] -/
noncomputable def f_slices_Index_int_int (n : Nat) (call : Caller)  (x0 x1 : AV) (h : AH) : Ans :=
 oB (oLen x0) fun x7_0 =>
 jnF 0 (fun h1 =>
 some ((Ineg 0), h1)) fun j1 =>
 lpF 4 n (fun f2 y8_2 y7_2 y1_2 y0_2 h2 =>
 oB (bLt y8_2 y7_2) fun x9_3 =>
 ci x9_3 (
 jnF 4 (fun z8_4 z7_4 z1_4 z0_4 h4 =>
 oB (bAdd z8_4 (I 1)) fun x18_5 =>
 f2 x18_5 z7_4 z1_4 z0_4 h4) fun j4 =>
 oB (oIx 1 y0_2 y8_2) fun x14_6 =>
 oB (oLd h2 x14_6) fun x15_7 =>
 oB (bEq .no y1_2 x15_7) fun x16_8 =>
 ci x16_8 (
 some (y8_2, h2)) (
 j4 y8_2 y7_2 y1_2 y0_2 h2)) (
 j1 h2)) (I 0) x7_0 x1 x0 h
theorem o_slices_Index_int_int : FnOK Tryz.prog n_slices_Index_int_int (a2 f_slices_Index_int_int) := ok2 mixed Tryz.func133 (by kernel_rfl)
/- (*corrector/scan.scanner).mark -/
noncomputable def f_scan_scanner_mark (n : Nat) (call : Caller)  (x0 x1 : AV) (h : AH) : Ans :=
 oB (bAdd x1 (I 3)) fun x6_0 =>
 oB (oNil x0) fun x8_1 =>
 oB (oFA 0 x8_1) fun x9_2 =>
 oB (oLd h x9_2) fun x10_3 =>
 oB (oLen x10_3) fun x11_4 =>
 oB (bGt x6_0 x11_4) fun x12_5 =>
 oB (gq x12_5 false (some x0)) fun x14_6 =>
 oB (gq x12_5 false (some x1)) fun x15_7 =>
 oB (gq x12_5 false (bAdd x15_7 (I 3))) fun x16_8 =>
 oP (gw x12_5 false (call n_scan_scanner_space [x14_6, x16_8] h) h) fun x17_9 h9 =>
 oB (gq x12_5 false (evQ (.un .not (.c x17_9)) .e h9)) fun x18_10 =>
 oB (oPick x12_5 (.bool true) x18_10) fun x19_11 =>
 ci x19_11 (
 some ((I 0), h9)) (
 oB (oNil x0) fun x21_12 =>
 oB (oFA 0 x21_12) fun x22_13 =>
 oB (oLd h9 x22_13) fun x23_14 =>
 oB (bAdd x1 (I 3)) fun x26_15 =>
 oB (evQ (.sl 1 (.c x23_14) (some (.c x1)) (some (.c x26_15)) none) .e h9) fun x27_16 =>
 oB (evQ (.b2s (.c x27_16)) .e h9) fun x28_17 =>
 jnF 0 (fun h18 =>
 some ((I 0), h18)) fun j18 =>
 oB (bEq .no x28_17 (.str [45, 45, 45])) fun x30_19 =>
 ci x30_19 (
 some ((I 20), h9)) (
 oB (bEq .no x28_17 (.str [46, 46, 46])) fun x32_20 =>
 ci x32_20 (
 some ((I 21), h9)) (
 j18 h9)))
theorem o_scan_scanner_mark : FnOK Tryz.prog n_scan_scanner_mark (a2 f_scan_scanner_mark) := ok2 mixed Tryz.func134 (by kernel_rfl)
/- (*corrector/scan.scanner).token -/
noncomputable def f_scan_scanner_token (n : Nat) (call : Caller)  (x0 x1 x2 : AV) (h : AH) : Ans :=
 oB (oNil x0) fun x8_0 =>
 oB (oFA 1 x8_0) fun x9_1 =>
 oB (oLd h x9_1) fun x10_2 =>
 oB (oNil x0) fun x13_3 =>
 oB (oFA 2 x13_3) fun x14_4 =>
 oB (oLd h x14_4) fun x15_5 =>
 oB (oBuild [(I 0), (I 0), (I 0)] [(0, 1, x1), (1, 1, x10_2), (2, 1, x2)]) fun x19_6 =>
 oP (oBuildSl h 131 3 1 [(I 0), (I 0), (I 0)] [(0, 3, x19_6)]) fun x20_7 h7 =>
 oP (evW (.append 131 3 24 [(I 0), (I 0), (I 0)] (.c x15_5) (.c x20_7)) .e h7) fun x21_8 h8 =>
 oB (oNil x0) fun x22_9 =>
 oB (oFA 2 x22_9) fun x23_10 =>
 oP (oSt 1 h8 x23_10 x21_8) fun _ h11 =>
 oB (oNil x0) fun x26_12 =>
 oB (oFA 1 x26_12) fun x27_13 =>
 oP (oSt 1 h11 x27_13 x2) fun _ h14 =>
 jnF 3 (fun z6_15 z1_15 z0_15 h15 =>
 oB (oNil z0_15) fun x39_16 =>
 oB (oFA 5 x39_16) fun x40_17 =>
 oB (oLd h15 x40_17) fun x41_18 =>
 oB (bLt x41_18 (I 0)) fun x42_19 =>
 jnF 2 (fun z1_20 z0_20 h20 =>
 oB (oNil z0_20) fun x54_21 =>
 oB (oFA 6 x54_21) fun x55_22 =>
 oB (oLd h20 x55_22) fun x56_23 =>
 oB (gq x56_23 true (some z1_20)) fun x58_24 =>
 oB (gq x56_23 true (bEq .no x58_24 (I 5))) fun x59_25 =>
 oB (oPick x56_23 x59_25 (.bool false)) fun x60_26 =>
 oB (gq x60_26 false (some z1_20)) fun x62_27 =>
 oB (gq x60_26 false (bEq .no x62_27 (I 20))) fun x63_28 =>
 oB (oPick x60_26 (.bool true) x63_28) fun x64_29 =>
 oB (oNil z0_20) fun x65_30 =>
 oB (oFA 6 x65_30) fun x66_31 =>
 oP (oSt 1 h20 x66_31 x64_29) fun _ h32 =>
 some (.tup [], h32)) fun j20 =>
 ci x42_19 (
 oB (oNil z0_15) fun x46_33 =>
 oB (oFA 4 x46_33) fun x47_34 =>
 oB (oLd h15 x47_34) fun x48_35 =>
 oB (bSub z6_15 x48_35) fun x49_36 =>
 oB (oNil z0_15) fun x50_37 =>
 oB (oFA 5 x50_37) fun x51_38 =>
 oP (oSt 1 h15 x51_38 x49_36) fun _ h39 =>
 j20 z1_15 z0_15 h39) (
 j20 z1_15 z0_15 h15)) fun j15 =>
 oB (bEq .no x1 (I 1)) fun x30_40 =>
 jnF 5 (fun z29_41 z28_41 z6_41 z1_41 z0_41 h41 =>
 ci z29_41 (
 oP (call n_scan_scanner_begin [z0_41] h41) fun x33_42 h42 =>
 some (.tup [], h42)) (
 oB (bEq .no z28_41 (I 2)) fun x35_43 =>
 jnF 4 (fun z34_44 z6_44 z1_44 z0_44 h44 =>
 ci z34_44 (
 some (.tup [], h44)) (
 j15 z6_44 z1_44 z0_44 h44)) fun j44 =>
 ci x35_43 (
 j44 x35_43 z6_41 z1_41 z0_41 h41) (
 oB (bEq .no z28_41 (I 3)) fun x36_45 =>
 jnF 4 (fun z34_46 z6_46 z1_46 z0_46 h46 =>
 j44 z34_46 z6_46 z1_46 z0_46 h46) fun j46 =>
 ci x36_45 (
 j46 x36_45 z6_41 z1_41 z0_41 h41) (
 oB (bEq .no z28_41 (I 4)) fun x37_47 =>
 j46 x37_47 z6_41 z1_41 z0_41 h41)))) fun j41 =>
 ci x30_40 (
 j41 x30_40 x1 x10_2 x1 x0 h14) (
 oB (bEq .no x1 (I 19)) fun x31_48 =>
 j41 x31_48 x1 x10_2 x1 x0 h14)
theorem o_scan_scanner_token : FnOK Tryz.prog n_scan_scanner_token (a3 f_scan_scanner_token) := ok3 mixed Tryz.func135 (by kernel_rfl)
/- (*corrector/scan.scanner).spaces -/
noncomputable def f_scan_scanner_spaces (n : Nat) (call : Caller)  (x0 x1 : AV) (h : AH) : Ans :=
 jnF 1 (fun z1_0 h0 =>
 some (z1_0, h0)) fun j0 =>
 lpF 2 n (fun f1 y1_1 y0_1 h1 =>
 oP (call n_scan_scanner_there [y0_1, y1_1, (U 32)] h1) fun x7_2 h2 =>
 ci x7_2 (
 jnF 2 (fun z1_3 z0_3 h3 =>
 f1 z1_3 z0_3 h3) fun j3 =>
 oB (bAdd y1_1 (I 1)) fun x9_4 =>
 j3 x9_4 y0_1 h2) (
 j0 y1_1 h2)) x1 x0 h
theorem o_scan_scanner_spaces : FnOK Tryz.prog n_scan_scanner_spaces (a2 f_scan_scanner_spaces) := ok2 mixed Tryz.func136 (by kernel_rfl)
/- (*corrector/scan.scanner).brk -/
noncomputable def f_scan_scanner_brk (n : Nat) (call : Caller)  (x0 x1 : AV) (h : AH) : Ans :=
 jnF 0 (fun h0 =>
 some ((I 0), h0)) fun j0 =>
 oP (call n_scan_scanner_there [x0, x1, (U 13)] h) fun x8_1 h1 =>
 oB (gq x8_1 true (some x0)) fun x10_2 =>
 oB (gq x8_1 true (some x1)) fun x11_3 =>
 oB (gq x8_1 true (bAdd x11_3 (I 1))) fun x12_4 =>
 oP (gw x8_1 true (call n_scan_scanner_there [x10_2, x12_4, (U 10)] h1) h1) fun x13_5 h5 =>
 oB (oPick x8_1 x13_5 (.bool false)) fun x14_6 =>
 ci x14_6 (
 some ((I 2), h5)) (
 oP (call n_scan_scanner_there [x0, x1, (U 13)] h5) fun x18_7 h7 =>
 oB (gq x18_7 false (some x0)) fun x20_8 =>
 oB (gq x18_7 false (some x1)) fun x21_9 =>
 oP (gw x18_7 false (call n_scan_scanner_there [x20_8, x21_9, (U 10)] h7) h7) fun x22_10 h10 =>
 oB (oPick x18_7 (.bool true) x22_10) fun x23_11 =>
 ci x23_11 (
 some ((I 1), h10)) (
 j0 h10))
theorem o_scan_scanner_brk : FnOK Tryz.prog n_scan_scanner_brk (a2 f_scan_scanner_brk) := ok2 mixed Tryz.func137 (by kernel_rfl)
end Go.Proofs.YtahpoedbdhhdfaaGreatDoor
