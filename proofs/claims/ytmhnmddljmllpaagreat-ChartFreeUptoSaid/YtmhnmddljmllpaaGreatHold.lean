/-
  The contracts of this seat's functions, gathered.
-/
import Derived.Test.YtmhnmddljmllpaaGreatChecked
import Derived.Test.YtmhnmddljmllpaaGreatBits
import Derived.KernelRfl
import Derived.Test.YtmhnmddljmllpaaGreatM12
set_option maxRecDepth 100000
set_option linter.unusedVariables false
namespace Go.Abs
open Go.Proofs
theorem c127 : check Tryz.prog 127 = some (25, ac_linkworkref01_trim.strip, [.tmp 2]) := by kernel_rfl
theorem s127 : Sound Tryz.prog 127 (.fresh 1 tr01_G) := by
  apply tr01_sound (hc := c127) holds_nil <;> first | exact (rfl : @Eq Spec _ _) | skip
  all_goals decide
def L1 : List (Nat × Spec) := (127, .fresh 1 tr01_G) :: []
theorem h1 : Holds Tryz.prog (Gl L1) := holds_cons holds_nil s127
theorem c100 : check Tryz.prog 100 = some (14, (ac_linkworkref01_form 127).strip, [.cell 4 2 true]) := by kernel_rfl
theorem s100 : Sound Tryz.prog 100 (.dat false whole_G) := by
  apply form01_sound (hc := c100) h1 <;> first | exact (rfl : @Eq Spec _ _) | skip
  all_goals decide
def L2 : List (Nat × Spec) := (100, .dat false whole_G) :: L1
theorem h2 : Holds Tryz.prog (Gl L2) := holds_cons h1 s100
theorem c54 : check Tryz.prog 54 = some (19, (ac_integer_Of 100).strip, [.cell 2 2 true]) := by kernel_rfl
theorem s54 : Sound Tryz.prog 54 (.dat false zof_G) := by
  apply zof_sound (hc := c54) h2 <;> first | exact (rfl : @Eq Spec _ _) | skip
  all_goals decide
def L3 : List (Nat × Spec) := (54, .dat false zof_G) :: L2
theorem h3 : Holds Tryz.prog (Gl L3) := holds_cons h2 s54
theorem c134 : check Tryz.prog 134 = some (19, ac_integer_Valid.strip, [.tmp 2]) := by kernel_rfl
theorem s134 : Sound Tryz.prog 134 (.dat true zvalid_G) := by
  apply zvalid_sound (hc := c134) h3 <;> first | exact (rfl : @Eq Spec _ _) | skip
  all_goals decide
def L4 : List (Nat × Spec) := (134, .dat true zvalid_G) :: L3
theorem h4 : Holds Tryz.prog (Gl L4) := holds_cons h3 s134
theorem c112 : check Tryz.prog 112 = some (8, (ac_integer_mag 134).strip, [.tmp 2]) := by kernel_rfl
theorem s112 : Sound Tryz.prog 112 (.dat false zmag_G) := by
  apply zmag_sound (hc := c112) h4 <;> first | exact (rfl : @Eq Spec _ _) | skip
  all_goals decide
def L5 : List (Nat × Spec) := (112, .dat false zmag_G) :: L4
theorem h5 : Holds Tryz.prog (Gl L5) := holds_cons h4 s112
theorem c122 : check Tryz.prog 122 = some (9, (ac_integer_neg 134).strip, [.tmp 2]) := by kernel_rfl
theorem s122 : Sound Tryz.prog 122 (.dat true znegp_G) := by
  apply znegp_sound (hc := c122) h5 <;> first | exact (rfl : @Eq Spec _ _) | skip
  all_goals decide
def L6 : List (Nat × Spec) := (122, .dat true znegp_G) :: L5
theorem h6 : Holds Tryz.prog (Gl L6) := holds_cons h5 s122
theorem c96 : check Tryz.prog 96 = some (9, (ac_linkworkref01_Sign 112 122).strip, [.tmp 2]) := by kernel_rfl
theorem s96 : Sound Tryz.prog 96 (.dat true zsign_G) := by
  apply zsign01_sound (hc := c96) h6 <;> first | exact (rfl : @Eq Spec _ _) | skip
  all_goals decide
def L7 : List (Nat × Spec) := (96, .dat true zsign_G) :: L6
theorem h7 : Holds Tryz.prog (Gl L7) := holds_cons h6 s96
theorem c123 : check Tryz.prog 123 = some (9, (ac_integer_Neg 122 112 100).strip, [.cell 2 2 true]) := by kernel_rfl
theorem s123 : Sound Tryz.prog 123 (.dat false zneg_G) := by
  apply zneg_sound (hc := c123) h7 <;> first | exact (rfl : @Eq Spec _ _) | skip
  all_goals decide
def L8 : List (Nat × Spec) := (123, .dat false zneg_G) :: L7
theorem h8 : Holds Tryz.prog (Gl L8) := holds_cons h7 s123
theorem c139 : check Tryz.prog 139 = some (14, ac_integer_word.strip, [.tmp 4]) := by kernel_rfl
theorem s139 : Sound Tryz.prog 139 (.dat true word_G) := by
  apply word_sound (hc := c139) h8 <;> first | exact (rfl : @Eq Spec _ _) | skip
  all_goals decide
def L9 : List (Nat × Spec) := (139, .dat true word_G) :: L8
theorem h9 : Holds Tryz.prog (Gl L9) := holds_cons h8 s139
theorem c133 : check Tryz.prog 133 = some (21, ac_linkworkref01_cut.strip, [.tmp 2]) := by kernel_rfl
theorem s133 : Sound Tryz.prog 133 (.own cut_G) := by
  apply cut_sound (hc := c133) h9 <;> first | exact (rfl : @Eq Spec _ _) | skip
  all_goals decide
def L10 : List (Nat × Spec) := (133, .own cut_G) :: L9
theorem h10 : Holds Tryz.prog (Gl L10) := holds_cons h9 s133
theorem c131 : check Tryz.prog 131 = some (26, (ac_linkworkref01_halve 139 133).strip, [.tmp 2]) := by kernel_rfl
theorem s131 : Sound Tryz.prog 131 (.own halve_G) := by
  apply halve_sound (hc := c131) h10 <;> first | exact (rfl : @Eq Spec _ _) | skip
  all_goals decide
def L11 : List (Nat × Spec) := (131, .own halve_G) :: L10
theorem h11 : Holds Tryz.prog (Gl L11) := holds_cons h10 s131
theorem c129 : check Tryz.prog 129 = some (30, (ac_linkworkref01_compare 139).strip, [.tmp 4]) := by kernel_rfl
theorem s129 : Sound Tryz.prog 129 (.dat true cmp01_G) := by
  apply cmp01_sound (hc := c129) h11 <;> first | exact (rfl : @Eq Spec _ _) | skip
  all_goals decide
def L12 : List (Nat × Spec) := (129, .dat true cmp01_G) :: L11
theorem h12 : Holds Tryz.prog (Gl L12) := holds_cons h11 s129
theorem c132 : check Tryz.prog 132 = some (31, (ac_linkworkref01_take 139).strip, []) := by kernel_rfl
theorem s132 : Sound Tryz.prog 132 (.own take_G) := by
  apply take_sound (hc := c132) h12 <;> first | exact (rfl : @Eq Spec _ _) | skip
  all_goals decide
def L13 : List (Nat × Spec) := (132, .own take_G) :: L12
theorem h13 : Holds Tryz.prog (Gl L13) := holds_cons h12 s132
theorem c125 : check Tryz.prog 125 = some (37, (ac_linkworkref01_plus 139 127).strip, [.tmp 4]) := by kernel_rfl
theorem s125 : Sound Tryz.prog 125 (.dat false plus_G) := by
  apply plus01_sound (hc := c125) h13 <;> first | exact (rfl : @Eq Spec _ _) | skip
  all_goals decide
def L14 : List (Nat × Spec) := (125, .dat false plus_G) :: L13
theorem h14 : Holds Tryz.prog (Gl L14) := holds_cons h13 s125
theorem c111 : check Tryz.prog 111 = some (72, (ac_linkworkref01_gcd 127 131 129 132 133 125).strip, [.tmp 4]) := by kernel_rfl
theorem s111 : Sound Tryz.prog 111 (.dat false gcd01_G) := by
  apply gcd01_sound (hc := c111) h14 <;> first | exact (rfl : @Eq Spec _ _) | skip
  all_goals decide
def L15 : List (Nat × Spec) := (111, .dat false gcd01_G) :: L14
theorem h15 : Holds Tryz.prog (Gl L15) := holds_cons h14 s111
theorem c70 : check Tryz.prog 70 = some (11, (ac_linkworkref01_Gcd 112 111 100).strip, [.cell 4 2 true]) := by kernel_rfl
theorem s70 : Sound Tryz.prog 70 (.dat false zgcd_G) := by
  apply zgcd01_sound (hc := c70) h15 <;> first | exact (rfl : @Eq Spec _ _) | skip
  all_goals decide
def L16 : List (Nat × Spec) := (70, .dat false zgcd_G) :: L15
theorem h16 : Holds Tryz.prog (Gl L16) := holds_cons h15 s70
theorem c138 : check Tryz.prog 138 = some (25, ac_linkworkref01_bits.strip, [.tmp 2]) := by kernel_rfl
theorem s138 : Sound Tryz.prog 138 (.dat true bits01_G) := by
  apply bits01_sound (hc := c138) h16 <;> first | exact (rfl : @Eq Spec _ _) | skip
  all_goals decide
def L17 : List (Nat × Spec) := (138, .dat true bits01_G) :: L16
theorem h17 : Holds Tryz.prog (Gl L17) := holds_cons h16 s138
theorem c124 : check Tryz.prog 124 = some (76, (ac_linkworkref01_divide 138 129 132 127).strip, [.tmp 4, .tmp 5]) := by kernel_rfl
theorem s124 : Sound Tryz.prog 124 (.dat false divide_G) := by
  apply divide01_sound (hc := c124) h17 <;> first | exact (rfl : @Eq Spec _ _) | skip
  all_goals decide
def L18 : List (Nat × Spec) := (124, .dat false divide_G) :: L17
theorem h18 : Holds Tryz.prog (Gl L18) := holds_cons h17 s124
theorem c126 : check Tryz.prog 126 = some (35, (ac_linkworkref01_minus 139 127).strip, [.tmp 4]) := by kernel_rfl
theorem s126 : Sound Tryz.prog 126 (.dat false less_G) := by
  apply minus01_sound (hc := c126) h18 <;> first | exact (rfl : @Eq Spec _ _) | skip
  all_goals decide
def L19 : List (Nat × Spec) := (126, .dat false less_G) :: L18
theorem h19 : Holds Tryz.prog (Gl L19) := holds_cons h18 s126
theorem c99 : check Tryz.prog 99 = some (45, (ac_linkworkref01_Div 96 112 124 122 125 126 100).strip, [.cell 4 2 true, .cell 5 2 true, .tmp 6]) := by kernel_rfl
theorem s99 : Sound Tryz.prog 99 (.dat false zdiv01_G) := by
  apply zdiv01_sound (hc := c99) h19 <;> first | exact (rfl : @Eq Spec _ _) | skip
  all_goals decide
def L20 : List (Nat × Spec) := (99, .dat false zdiv01_G) :: L19
theorem h20 : Holds Tryz.prog (Gl L20) := holds_cons h19 s99
theorem c97 : check Tryz.prog 97 = some (47, (ac_linkworkref02_form 96 123 70 99).strip, [.cell 4 3 true]) := by kernel_rfl
theorem s97 : Sound Tryz.prog 97 (.dat false rform_G) := by
  apply rform02_sound (hc := c97) h20 <;> first | exact (rfl : @Eq Spec _ _) | skip
  all_goals decide
def L21 : List (Nat × Spec) := (97, .dat false rform_G) :: L20
theorem h21 : Holds Tryz.prog (Gl L21) := holds_cons h20 s97
theorem c52 : check Tryz.prog 52 = some (13, (ac_linkworkref02_From 96 97).strip, [.cell 4 3 true, .tmp 5]) := by kernel_rfl
theorem s52 : Sound Tryz.prog 52 (.dat false rfrom2_G) := by
  apply rfrom02_sound (hc := c52) h21 <;> first | exact (rfl : @Eq Spec _ _) | skip
  all_goals decide
def L22 : List (Nat × Spec) := (52, .dat false rfrom2_G) :: L21
theorem h22 : Holds Tryz.prog (Gl L22) := holds_cons h21 s52
theorem c85 : check Tryz.prog 85 = some (13, (ac_linkworkref02_Make 54 52).strip, [.cell 4 3 true, .tmp 5]) := by kernel_rfl
theorem s85 : Sound Tryz.prog 85 (.dat false rmake_G) := by
  apply rmake02_sound (hc := c85) h22 <;> first | exact (rfl : @Eq Spec _ _) | skip
  all_goals decide
def L23 : List (Nat × Spec) := (85, .dat false rmake_G) :: L22
theorem h23 : Holds Tryz.prog (Gl L23) := holds_cons h22 s85
theorem c46 : check Tryz.prog 46 = some (14, (ac_linkworklaw54_part 85).strip, [.cell 4 3 true]) := by kernel_rfl
theorem s46 : Sound Tryz.prog 46 (.dat false rpart_G) := by
  apply rpart_sound (hc := c46) h23 <;> first | exact (rfl : @Eq Spec _ _) | skip
  all_goals decide
def L24 : List (Nat × Spec) := (46, .dat false rpart_G) :: L23
theorem h24 : Holds Tryz.prog (Gl L24) := holds_cons h23 s46
theorem c102 : check Tryz.prog 102 = some (19, ac_integer_Valid.strip, [.tmp 2]) := by kernel_rfl
theorem s102 : Sound Tryz.prog 102 (.dat true zvalid_G) := by
  apply zvalid_sound (hc := c102) h24 <;> first | exact (rfl : @Eq Spec _ _) | skip
  all_goals decide
def L25 : List (Nat × Spec) := (102, .dat true zvalid_G) :: L24
theorem h25 : Holds Tryz.prog (Gl L25) := holds_cons h24 s102
theorem c92 : check Tryz.prog 92 = some (8, (ac_integer_mag 102).strip, [.tmp 2]) := by kernel_rfl
theorem s92 : Sound Tryz.prog 92 (.dat false zmag_G) := by
  apply zmag_sound (hc := c92) h25 <;> first | exact (rfl : @Eq Spec _ _) | skip
  all_goals decide
def L26 : List (Nat × Spec) := (92, .dat false zmag_G) :: L25
theorem h26 : Holds Tryz.prog (Gl L26) := holds_cons h25 s92
theorem c91 : check Tryz.prog 91 = some (41, ac_integer_compare.strip, [.tmp 4]) := by kernel_rfl
theorem s91 : Sound Tryz.prog 91 (.dat false compare_G) := by
  apply compare_sound (hc := c91) h26 <;> first | exact (rfl : @Eq Spec _ _) | skip
  all_goals decide
def L27 : List (Nat × Spec) := (91, .dat false compare_G) :: L26
theorem h27 : Holds Tryz.prog (Gl L27) := holds_cons h26 s91
theorem c121 : check Tryz.prog 121 = some (25, ac_integer_trim.strip, [.tmp 2]) := by kernel_rfl
theorem s121 : Sound Tryz.prog 121 (.dat false trim_G) := by
  apply trim_sound (hc := c121) h27 <;> first | exact (rfl : @Eq Spec _ _) | skip
  all_goals decide
def L28 : List (Nat × Spec) := (121, .dat false trim_G) :: L27
theorem h28 : Holds Tryz.prog (Gl L28) := holds_cons h27 s121
theorem c140 : check Tryz.prog 140 = some (43, (ac_integer_short 121).strip, [.tmp 4, .tmp 5]) := by kernel_rfl
theorem s140 : Sound Tryz.prog 140 (.dat false short_G) := by
  apply short_sound (hc := c140) h28 <;> first | exact (rfl : @Eq Spec _ _) | skip
  all_goals decide
def L29 : List (Nat × Spec) := (140, .dat false short_G) :: L28
theorem h29 : Holds Tryz.prog (Gl L29) := holds_cons h28 s140
theorem s141 : Sound Tryz.prog 141 (.dat true lz_G) := sound_u32 (enters_of Tryz.func141 (by kernel_rfl) (by kernel_rfl)) lz_good lz_inv Tryz.bits_LeadingZeros32
def L30 : List (Nat × Spec) := (141, .dat true lz_G) :: L29
theorem h30 : Holds Tryz.prog (Gl L30) := holds_cons h29 s141
theorem c142 : check Tryz.prog 142 = some (41, ac_integer_up.strip, [.tmp 4]) := by kernel_rfl
theorem s142 : Sound Tryz.prog 142 (.fresh 1 up_G) := by
  apply up_sound (hc := c142) h30 <;> first | exact (rfl : @Eq Spec _ _) | skip
  all_goals decide
def L31 : List (Nat × Spec) := (142, .fresh 1 up_G) :: L30
theorem h31 : Holds Tryz.prog (Gl L31) := holds_cons h30 s142
theorem c135 : check Tryz.prog 135 = some (14, ac_integer_word.strip, [.tmp 4]) := by kernel_rfl
theorem s135 : Sound Tryz.prog 135 (.dat true word_G) := by
  apply word_sound (hc := c135) h31 <;> first | exact (rfl : @Eq Spec _ _) | skip
  all_goals decide
def L32 : List (Nat × Spec) := (135, .dat true word_G) :: L31
theorem h32 : Holds Tryz.prog (Gl L32) := holds_cons h31 s135
theorem c143 : check Tryz.prog 143 = some (46, (ac_integer_remove 135).strip, [.tmp 6]) := by kernel_rfl
theorem s143 : Sound Tryz.prog 143 (.own remove_G) := by
  apply remove_sound (hc := c143) h32 <;> first | exact (rfl : @Eq Spec _ _) | skip
  all_goals decide
def L33 : List (Nat × Spec) := (143, .own remove_G) :: L32
theorem h33 : Holds Tryz.prog (Gl L33) := holds_cons h32 s143
theorem c144 : check Tryz.prog 144 = some (30, (ac_integer_back 135).strip, []) := by kernel_rfl
theorem s144 : Sound Tryz.prog 144 (.own back_G) := by
  apply back_sound (hc := c144) h33 <;> first | exact (rfl : @Eq Spec _ _) | skip
  all_goals decide
def L34 : List (Nat × Spec) := (144, .own back_G) :: L33
theorem h34 : Holds Tryz.prog (Gl L34) := holds_cons h33 s144
theorem c145 : check Tryz.prog 145 = some (35, (ac_integer_down 135 121).strip, [.tmp 4]) := by kernel_rfl
theorem s145 : Sound Tryz.prog 145 (.dat false down_G) := by
  apply down_sound (hc := c145) h34 <;> first | exact (rfl : @Eq Spec _ _) | skip
  all_goals decide
def L35 : List (Nat × Spec) := (145, .dat false down_G) :: L34
theorem h35 : Holds Tryz.prog (Gl L35) := holds_cons h34 s145
theorem c128 : check Tryz.prog 128 = some (158, (ac_integer_divide 91 121 140 141 142 143 144 145).strip, [.tmp 4, .tmp 5]) := by kernel_rfl
theorem s128 : Sound Tryz.prog 128 (.dat false divide_G) := by
  apply divide_sound (hc := c128) h35 <;> first | exact (rfl : @Eq Spec _ _) | skip
  all_goals decide
def L36 : List (Nat × Spec) := (128, .dat false divide_G) :: L35
theorem h36 : Holds Tryz.prog (Gl L36) := holds_cons h35 s128
theorem c94 : check Tryz.prog 94 = some (15, (ac_integer_whole 121).strip, [.cell 4 2 true]) := by kernel_rfl
theorem s94 : Sound Tryz.prog 94 (.dat false whole_G) := by
  apply whole_sound (hc := c94) h36 <;> first | exact (rfl : @Eq Spec _ _) | skip
  all_goals decide
def L37 : List (Nat × Spec) := (94, .dat false whole_G) :: L36
theorem h37 : Holds Tryz.prog (Gl L37) := holds_cons h36 s94
theorem c103 : check Tryz.prog 103 = some (26, (ac_integer_Gcd 92 128 94).strip, [.cell 4 2 true]) := by kernel_rfl
theorem s103 : Sound Tryz.prog 103 (.dat false zgcd_G) := by
  apply zgcd_sound (hc := c103) h37 <;> first | exact (rfl : @Eq Spec _ _) | skip
  all_goals decide
def L38 : List (Nat × Spec) := (103, .dat false zgcd_G) :: L37
theorem h38 : Holds Tryz.prog (Gl L38) := holds_cons h37 s103
theorem c80 : check Tryz.prog 80 = some (19, (ac_integer_Of 94).strip, [.cell 2 2 true]) := by kernel_rfl
theorem s80 : Sound Tryz.prog 80 (.dat false zof_G) := by
  apply zof_sound (hc := c80) h38 <;> first | exact (rfl : @Eq Spec _ _) | skip
  all_goals decide
def L39 : List (Nat × Spec) := (80, .dat false zof_G) :: L38
theorem h39 : Holds Tryz.prog (Gl L39) := holds_cons h38 s80
theorem c81 : check Tryz.prog 81 = some (2, (ac_fraction_one 80).strip, [.cell 0 2 true]) := by kernel_rfl
theorem s81 : Sound Tryz.prog 81 (.dat false rone_G) := by
  apply rone_sound (hc := c81) h39 <;> first | exact (rfl : @Eq Spec _ _) | skip
  all_goals decide
def L40 : List (Nat × Spec) := (81, .dat false rone_G) :: L39
theorem h40 : Holds Tryz.prog (Gl L40) := holds_cons h39 s81
theorem c90 : check Tryz.prog 90 = some (11, (ac_integer_Sign 92).strip, [.tmp 2]) := by kernel_rfl
theorem s90 : Sound Tryz.prog 90 (.dat true zsign_G) := by
  apply zsign_sound (hc := c90) h40 <;> first | exact (rfl : @Eq Spec _ _) | skip
  all_goals decide
def L41 : List (Nat × Spec) := (90, .dat true zsign_G) :: L40
theorem h41 : Holds Tryz.prog (Gl L41) := holds_cons h40 s90
theorem c93 : check Tryz.prog 93 = some (9, (ac_integer_neg 102).strip, [.tmp 2]) := by kernel_rfl
theorem s93 : Sound Tryz.prog 93 (.dat true znegp_G) := by
  apply znegp_sound (hc := c93) h41 <;> first | exact (rfl : @Eq Spec _ _) | skip
  all_goals decide
def L42 : List (Nat × Spec) := (93, .dat true znegp_G) :: L41
theorem h42 : Holds Tryz.prog (Gl L42) := holds_cons h41 s93
theorem c50 : check Tryz.prog 50 = some (28, (ac_integer_Cmp 90 92 91 93).strip, [.tmp 4]) := by kernel_rfl
theorem s50 : Sound Tryz.prog 50 (.dat true zcmp_G) := by
  apply zcmp_sound (hc := c50) h42 <;> first | exact (rfl : @Eq Spec _ _) | skip
  all_goals decide
def L43 : List (Nat × Spec) := (50, .dat true zcmp_G) :: L42
theorem h43 : Holds Tryz.prog (Gl L43) := holds_cons h42 s50
theorem c56 : check Tryz.prog 56 = some (50, (ac_fraction_Valid 102 103 81 50).strip, [.tmp 2]) := by kernel_rfl
theorem s56 : Sound Tryz.prog 56 (.dat true rvalid_G) := by
  apply rvalid_sound (hc := c56) h43 <;> first | exact (rfl : @Eq Spec _ _) | skip
  all_goals decide
def L44 : List (Nat × Spec) := (56, .dat true rvalid_G) :: L43
theorem h44 : Holds Tryz.prog (Gl L44) := holds_cons h43 s56
theorem c49 : check Tryz.prog 49 = some (28, (ac_fraction_Parts 56 81).strip, [.cell 2 2 true, .cell 3 2 true]) := by kernel_rfl
theorem s49 : Sound Tryz.prog 49 (.dat false rparts_G) := by
  apply rparts_sound (hc := c49) h44 <;> first | exact (rfl : @Eq Spec _ _) | skip
  all_goals decide
def L45 : List (Nat × Spec) := (49, .dat false rparts_G) :: L44
theorem h45 : Holds Tryz.prog (Gl L45) := holds_cons h44 s49
theorem c62 : check Tryz.prog 62 = some (12, (ac_fraction_Sign 49 90).strip, [.tmp 2]) := by kernel_rfl
theorem s62 : Sound Tryz.prog 62 (.dat true rsign_G) := by
  apply rsign_sound (hc := c62) h45 <;> first | exact (rfl : @Eq Spec _ _) | skip
  all_goals decide
def L46 : List (Nat × Spec) := (62, .dat true rsign_G) :: L45
theorem h46 : Holds Tryz.prog (Gl L46) := holds_cons h45 s62
theorem c78 : check Tryz.prog 78 = some (9, (ac_integer_Neg 93 92 94).strip, [.cell 2 2 true]) := by kernel_rfl
theorem s78 : Sound Tryz.prog 78 (.dat false zneg_G) := by
  apply zneg_sound (hc := c78) h46 <;> first | exact (rfl : @Eq Spec _ _) | skip
  all_goals decide
def L47 : List (Nat × Spec) := (78, .dat false zneg_G) :: L46
theorem h47 : Holds Tryz.prog (Gl L47) := holds_cons h46 s78
theorem c116 : check Tryz.prog 116 = some (39, (ac_integer_plus 135 121).strip, [.tmp 4]) := by kernel_rfl
theorem s116 : Sound Tryz.prog 116 (.dat false plus_G) := by
  apply plus_sound (hc := c116) h47 <;> first | exact (rfl : @Eq Spec _ _) | skip
  all_goals decide
def L48 : List (Nat × Spec) := (116, .dat false plus_G) :: L47
theorem h48 : Holds Tryz.prog (Gl L48) := holds_cons h47 s116
theorem c117 : check Tryz.prog 117 = some (38, (ac_integer_less 135 121).strip, [.tmp 4]) := by kernel_rfl
theorem s117 : Sound Tryz.prog 117 (.dat false less_G) := by
  apply less_sound (hc := c117) h48 <;> first | exact (rfl : @Eq Spec _ _) | skip
  all_goals decide
def L49 : List (Nat × Spec) := (117, .dat false less_G) :: L48
theorem h49 : Holds Tryz.prog (Gl L49) := holds_cons h48 s117
theorem c115 : check Tryz.prog 115 = some (47, (ac_integer_Div 92 128 93 116 117 94 51).strip, [.cell 4 2 true, .cell 5 2 true, .tmp 6]) := by kernel_rfl
theorem s115 : Sound Tryz.prog 115 (.dat false zdiv_G) := by
  apply zdiv_sound (hc := c115) h49 <;> first | exact (rfl : @Eq Spec _ _) | skip
  all_goals decide
def L50 : List (Nat × Spec) := (115, .dat false zdiv_G) :: L49
theorem h50 : Holds Tryz.prog (Gl L50) := holds_cons h49 s115
theorem c77 : check Tryz.prog 77 = some (47, (ac_fraction_form 90 78 103 115).strip, [.cell 4 3 true]) := by kernel_rfl
theorem s77 : Sound Tryz.prog 77 (.dat false rform_G) := by
  apply rform_sound (hc := c77) h50 <;> first | exact (rfl : @Eq Spec _ _) | skip
  all_goals decide
def L51 : List (Nat × Spec) := (77, .dat false rform_G) :: L50
theorem h51 : Holds Tryz.prog (Gl L51) := holds_cons h50 s77
theorem c39 : check Tryz.prog 39 = some (7, (ac_fraction_Of 80 81 77).strip, [.cell 2 3 true]) := by kernel_rfl
theorem s39 : Sound Tryz.prog 39 (.dat false rof_G) := by
  apply rof_sound (hc := c39) h51 <;> first | exact (rfl : @Eq Spec _ _) | skip
  all_goals decide
def L52 : List (Nat × Spec) := (39, .dat false rof_G) :: L51
theorem h52 : Holds Tryz.prog (Gl L52) := holds_cons h51 s39
theorem c61 : check Tryz.prog 61 = some (2, (ac_chart_one 39).strip, [.cell 0 3 true]) := by kernel_rfl
theorem s61 : Sound Tryz.prog 61 (.dat false cone_G) := by
  apply cone_sound (hc := c61) h52 <;> first | exact (rfl : @Eq Spec _ _) | skip
  all_goals decide
def L53 : List (Nat × Spec) := (61, .dat false cone_G) :: L52
theorem h53 : Holds Tryz.prog (Gl L53) := holds_cons h52 s61
theorem c95 : check Tryz.prog 95 = some (67, (ac_integer_times 121).strip, [.tmp 4]) := by kernel_rfl
theorem s95 : Sound Tryz.prog 95 (.dat false times_G) := by
  apply times_sound (hc := c95) h53 <;> first | exact (rfl : @Eq Spec _ _) | skip
  all_goals decide
def L54 : List (Nat × Spec) := (95, .dat false times_G) :: L53
theorem h54 : Holds Tryz.prog (Gl L54) := holds_cons h53 s95
theorem c51 : check Tryz.prog 51 = some (16, (ac_integer_Mul 93 92 95 94).strip, [.cell 4 2 true]) := by kernel_rfl
theorem s51 : Sound Tryz.prog 51 (.dat false zmul_G) := by
  apply zmul_sound (hc := c51) h54 <;> first | exact (rfl : @Eq Spec _ _) | skip
  all_goals decide
def L55 : List (Nat × Spec) := (51, .dat false zmul_G) :: L54
theorem h55 : Holds Tryz.prog (Gl L55) := holds_cons h54 s51
theorem c14 : check Tryz.prog 14 = some (26, (ac_fraction_Cmp 49 51 50).strip, [.tmp 4]) := by kernel_rfl
theorem s14 : Sound Tryz.prog 14 (.dat true rcmp_G) := by
  apply rcmp_sound (hc := c14) h55 <;> first | exact (rfl : @Eq Spec _ _) | skip
  all_goals decide
def L56 : List (Nat × Spec) := (14, .dat true rcmp_G) :: L55
theorem h56 : Holds Tryz.prog (Gl L56) := holds_cons h55 s14
theorem c47 : check Tryz.prog 47 = some (57, (ac_chart_check 56 62 61 14 51).strip, [.tmp 2]) := by kernel_rfl
theorem s47 : Sound Tryz.prog 47 (.dat false (ccheck_G 51)) := by
  apply ccheck_sound (hc := c47) h56 <;> first | exact (rfl : @Eq Spec _ _) | skip
  all_goals decide
def L57 : List (Nat × Spec) := (47, .dat false (ccheck_G 51)) :: L56
theorem h57 : Holds Tryz.prog (Gl L57) := holds_cons h56 s47
theorem c74 : check Tryz.prog 74 = some (8, ac_slices_Clone_g.strip, [.tmp 2]) := by kernel_rfl
theorem s74 : Sound Tryz.prog 74 (.fresh 6 clone_G) := by
  apply clone_sound (hc := c74) h57 <;> first | exact (rfl : @Eq Spec _ _) | skip
  all_goals decide
def L58 : List (Nat × Spec) := (74, .fresh 6 clone_G) :: L57
theorem h58 : Holds Tryz.prog (Gl L58) := holds_cons h57 s74
theorem c87 : check Tryz.prog 87 = some (10, (ac_chart_norm_1 14).strip, [.tmp 4]) := by kernel_rfl
theorem s87 : Sound Tryz.prog 87 (.dat true arccmp_G) := by
  apply arccmp_sound (hc := c87) h58 <;> first | exact (rfl : @Eq Spec _ _) | skip
  all_goals decide
def L59 : List (Nat × Spec) := (87, .dat true arccmp_G) :: L58
theorem h59 : Holds Tryz.prog (Gl L59) := holds_cons h58 s87
theorem c136 : check Tryz.prog 136 = some (53, ac_slices_insertionSortCmpFunc_g.strip, []) := by kernel_rfl
theorem s136 : Sound Tryz.prog 136 (.own (ins_G 87)) := by
  apply ins_sound (hc := c136) h59 <;> first | exact (rfl : @Eq Spec _ _) | skip
  all_goals decide
def L60 : List (Nat × Spec) := (136, .own (ins_G 87)) :: L59
theorem h60 : Holds Tryz.prog (Gl L60) := holds_cons h59 s136
theorem c148 : check Tryz.prog 148 = some (38, ac_slices_swapRangeCmpFunc_g.strip, []) := by kernel_rfl
theorem s148 : Sound Tryz.prog 148 (.own (swp_G 87)) := by
  apply swp_sound (hc := c148) h60 <;> first | exact (rfl : @Eq Spec _ _) | skip
  all_goals decide
def L61 : List (Nat × Spec) := (148, .own (swp_G 87)) :: L60
theorem h61 : Holds Tryz.prog (Gl L61) := holds_cons h60 s148
theorem c146 : check Tryz.prog 146 = some (58, (ac_slices_rotateCmpFunc_g 148).strip, []) := by kernel_rfl
theorem s146 : Sound Tryz.prog 146 (.own (rot_G 87)) := by
  apply rot_sound (hc := c146) h61 <;> first | exact (rfl : @Eq Spec _ _) | skip
  all_goals decide
def L62 : List (Nat × Spec) := (146, .own (rot_G 87)) :: L61
theorem h62 : Holds Tryz.prog (Gl L62) := holds_cons h61 s146
theorem c137 : check Tryz.prog 137 = some (220, (ac_slices_symMergeCmpFunc_g 146 137).strip, []) := by kernel_rfl
theorem s137 : Sound Tryz.prog 137 (.own (mrg_G 87 200)) := by
  apply mrgrec_sound (hc := c137) h62 <;> first | exact (rfl : @Eq Spec _ _) | skip
  all_goals decide
def L63 : List (Nat × Spec) := (137, .own (mrg_G 87 200)) :: L62
theorem h63 : Holds Tryz.prog (Gl L63) := holds_cons h62 s137
theorem c120 : check Tryz.prog 120 = some (63, (ac_slices_stableCmpFunc_g 136 137).strip, []) := by kernel_rfl
theorem s120 : Sound Tryz.prog 120 (.own (stab_G 87 200)) := by
  apply stab_sound (hc := c120) h63 <;> first | exact (rfl : @Eq Spec _ _) | skip
  all_goals decide
def L64 : List (Nat × Spec) := (120, .own (stab_G 87 200)) :: L63
theorem h64 : Holds Tryz.prog (Gl L64) := holds_cons h63 s120
theorem c86 : check Tryz.prog 86 = some (9, (ac_slices_SortStableFunc_g 120).strip, []) := by kernel_rfl
theorem s86 : Sound Tryz.prog 86 (.own (sort_G 87 200)) := by
  apply sort_sound (hc := c86) h64 <;> first | exact (rfl : @Eq Spec _ _) | skip
  all_goals decide
def L65 : List (Nat × Spec) := (86, .own (sort_G 87 200)) :: L64
theorem h65 : Holds Tryz.prog (Gl L65) := holds_cons h64 s86
theorem c88 : check Tryz.prog 88 = some (19, (ac_fraction_Max 14 49 77).strip, [.cell 4 3 true]) := by kernel_rfl
theorem s88 : Sound Tryz.prog 88 (.dat false rmax_G) := by
  apply rmax_sound (hc := c88) h65 <;> first | exact (rfl : @Eq Spec _ _) | skip
  all_goals decide
def L66 : List (Nat × Spec) := (88, .dat false rmax_G) :: L65
theorem h66 : Holds Tryz.prog (Gl L66) := holds_cons h65 s88
theorem c79 : check Tryz.prog 79 = some (40, (ac_integer_Add 92 93 116 94 91 117).strip, [.cell 4 2 true]) := by kernel_rfl
theorem s79 : Sound Tryz.prog 79 (.dat false zadd_G) := by
  apply zadd_sound (hc := c79) h66 <;> first | exact (rfl : @Eq Spec _ _) | skip
  all_goals decide
def L67 : List (Nat × Spec) := (79, .dat false zadd_G) :: L66
theorem h67 : Holds Tryz.prog (Gl L67) := holds_cons h66 s79
theorem c38 : check Tryz.prog 38 = some (30, (ac_fraction_Add 49 51 79 77).strip, [.cell 4 3 true]) := by kernel_rfl
theorem s38 : Sound Tryz.prog 38 (.dat false radd_G) := by
  apply radd_sound (hc := c38) h67 <;> first | exact (rfl : @Eq Spec _ _) | skip
  all_goals decide
def L68 : List (Nat × Spec) := (38, .dat false radd_G) :: L67
theorem h68 : Holds Tryz.prog (Gl L68) := holds_cons h67 s38
theorem c89 : check Tryz.prog 89 = some (12, (ac_chart_own 38).strip, [.cell 4 6 true]) := by kernel_rfl
theorem s89 : Sound Tryz.prog 89 (.dat false cown_G) := by
  apply cown_sound (hc := c89) h68 <;> first | exact (rfl : @Eq Spec _ _) | skip
  all_goals decide
def L69 : List (Nat × Spec) := (89, .dat false cown_G) :: L68
theorem h69 : Holds Tryz.prog (Gl L69) := holds_cons h68 s89
theorem c48 : check Tryz.prog 48 = some (57, (ac_chart_norm 74 86 14 88 89 87).strip, [.tmp 2]) := by kernel_rfl
theorem s48 : Sound Tryz.prog 48 (.dat false (cnorm_G 200)) := by
  apply cnorm_sound (hc := c48) h69 <;> first | exact (rfl : @Eq Spec _ _) | skip
  all_goals decide
def L70 : List (Nat × Spec) := (48, .dat false (cnorm_G 200)) :: L69
theorem h70 : Holds Tryz.prog (Gl L70) := holds_cons h69 s48
theorem c12 : check Tryz.prog 12 = some (13, (ac_chart_Norm 47 48).strip, [.tmp 2, .tmp 3]) := by kernel_rfl
theorem s12 : Sound Tryz.prog 12 (.dat false (cNorm_G 51 200)) := by
  apply cNorm_sound (hc := c12) h70 <;> first | exact (rfl : @Eq Spec _ _) | skip
  all_goals decide
def L71 : List (Nat × Spec) := (12, .dat false (cNorm_G 51 200)) :: L70
theorem h71 : Holds Tryz.prog (Gl L71) := holds_cons h70 s12
theorem c105 : check Tryz.prog 105 = some (21, (ac_fraction_Floor 49 115).strip, [.cell 2 2 true]) := by kernel_rfl
theorem s105 : Sound Tryz.prog 105 (.dat false rfloor_G) := by
  apply rfloor_sound (hc := c105) h71 <;> first | exact (rfl : @Eq Spec _ _) | skip
  all_goals decide
def L72 : List (Nat × Spec) := (105, .dat false rfloor_G) :: L71
theorem h72 : Holds Tryz.prog (Gl L72) := holds_cons h71 s105
theorem c104 : check Tryz.prog 104 = some (14, (ac_fraction_From 90 77 51).strip, [.cell 4 3 true, .tmp 5]) := by kernel_rfl
theorem s104 : Sound Tryz.prog 104 (.dat false rfrom_G) := by
  apply rfrom_sound (hc := c104) h72 <;> first | exact (rfl : @Eq Spec _ _) | skip
  all_goals decide
def L73 : List (Nat × Spec) := (104, .dat false rfrom_G) :: L72
theorem h73 : Holds Tryz.prog (Gl L73) := holds_cons h72 s104
theorem c37 : check Tryz.prog 37 = some (14, (ac_fraction_Neg 49 78 77).strip, [.cell 2 3 true]) := by kernel_rfl
theorem s37 : Sound Tryz.prog 37 (.dat false rneg_G) := by
  apply rneg_sound (hc := c37) h73 <;> first | exact (rfl : @Eq Spec _ _) | skip
  all_goals decide
def L74 : List (Nat × Spec) := (37, .dat false rneg_G) :: L73
theorem h74 : Holds Tryz.prog (Gl L74) := holds_cons h73 s37
theorem c60 : check Tryz.prog 60 = some (9, (ac_fraction_Sub 37 38).strip, [.cell 4 3 true]) := by kernel_rfl
theorem s60 : Sound Tryz.prog 60 (.dat false rsub_G) := by
  apply rsub_sound (hc := c60) h74 <;> first | exact (rfl : @Eq Spec _ _) | skip
  all_goals decide
def L75 : List (Nat × Spec) := (60, .dat false rsub_G) :: L74
theorem h75 : Holds Tryz.prog (Gl L75) := holds_cons h74 s60
theorem c57 : check Tryz.prog 57 = some (21, (ac_chart_wrapped 105 104 60).strip, [.cell 2 3 true, .tmp 3]) := by kernel_rfl
theorem s57 : Sound Tryz.prog 57 (.dat false cwrap_G) := by
  apply cwrap_sound (hc := c57) h75 <;> first | exact (rfl : @Eq Spec _ _) | skip
  all_goals decide
def L76 : List (Nat × Spec) := (57, .dat false cwrap_G) :: L75
theorem h76 : Holds Tryz.prog (Gl L76) := holds_cons h75 s57
theorem c63 : check Tryz.prog 63 = some (9, (ac_chart_limited 51).strip, [.tmp 2, .tmp 3]) := by kernel_rfl
theorem s63 : Sound Tryz.prog 63 (.dat false (climit_G 51)) := by
  apply climit_sound (hc := c63) h76 <;> first | exact (rfl : @Eq Spec _ _) | skip
  all_goals decide
def L77 : List (Nat × Spec) := (63, .dat false (climit_G 51)) :: L76
theorem h77 : Holds Tryz.prog (Gl L77) := holds_cons h76 s63
theorem c19 : check Tryz.prog 19 = some (76, (ac_chart_Shift 47 56 38 57 60 61 62 14 48 63 51).strip, [.tmp 4, .tmp 5]) := by kernel_rfl
theorem s19 : Sound Tryz.prog 19 (.dat false (cShift_G 51 200)) := by
  apply cShift_sound (hc := c19) h77 <;> first | exact (rfl : @Eq Spec _ _) | skip
  all_goals decide
def L78 : List (Nat × Spec) := (19, .dat false (cShift_G 51 200)) :: L77
theorem h78 : Holds Tryz.prog (Gl L78) := holds_cons h77 s19
theorem c68 : check Tryz.prog 68 = some (15, ac_linkworkref02_plain.strip, [.tmp 2]) := by kernel_rfl
theorem s68 : Sound Tryz.prog 68 (.dat true rplain_G) := by
  apply rplain02_sound (hc := c68) h78 <;> first | exact (rfl : @Eq Spec _ _) | skip
  all_goals decide
def L79 : List (Nat × Spec) := (68, .dat true rplain_G) :: L78
theorem h79 : Holds Tryz.prog (Gl L79) := holds_cons h78 s68
theorem c71 : check Tryz.prog 71 = some (2, (ac_fraction_one 54).strip, [.cell 0 2 true]) := by kernel_rfl
theorem s71 : Sound Tryz.prog 71 (.dat false rone_G) := by
  apply rone_sound (hc := c71) h79 <;> first | exact (rfl : @Eq Spec _ _) | skip
  all_goals decide
def L80 : List (Nat × Spec) := (71, .dat false rone_G) :: L79
theorem h80 : Holds Tryz.prog (Gl L80) := holds_cons h79 s71
theorem c108 : check Tryz.prog 108 = some (38, (ac_linkworkref01_Add 112 122 125 100 129 126).strip, [.cell 4 2 true]) := by kernel_rfl
theorem s108 : Sound Tryz.prog 108 (.dat false zadd_G) := by
  apply zadd01_sound (hc := c108) h80 <;> first | exact (rfl : @Eq Spec _ _) | skip
  all_goals decide
def L81 : List (Nat × Spec) := (108, .dat false zadd_G) :: L80
theorem h81 : Holds Tryz.prog (Gl L81) := holds_cons h80 s108
theorem c110 : check Tryz.prog 110 = some (9, (ac_linkworkref01_Sub 123 108).strip, [.cell 4 2 true]) := by kernel_rfl
theorem s110 : Sound Tryz.prog 110 (.dat false zsub_G) := by
  apply zsub01_sound (hc := c110) h81 <;> first | exact (rfl : @Eq Spec _ _) | skip
  all_goals decide
def L82 : List (Nat × Spec) := (110, .dat false zsub_G) :: L81
theorem h82 : Holds Tryz.prog (Gl L82) := holds_cons h81 s110
theorem c69 : check Tryz.prog 69 = some (9, (ac_linkworkref01_Cmp 110 96).strip, [.tmp 4]) := by kernel_rfl
theorem s69 : Sound Tryz.prog 69 (.dat true zcmp01_G) := by
  apply zcmp01_sound (hc := c69) h82 <;> first | exact (rfl : @Eq Spec _ _) | skip
  all_goals decide
def L83 : List (Nat × Spec) := (69, .dat true zcmp01_G) :: L82
theorem h83 : Holds Tryz.prog (Gl L83) := holds_cons h82 s69
theorem c26 : check Tryz.prog 26 = some (36, (ac_linkworkref02_Valid 68 70 71 69).strip, [.tmp 2]) := by kernel_rfl
theorem s26 : Sound Tryz.prog 26 (.dat true rvalid_G) := by
  apply rvalid02_sound (hc := c26) h83 <;> first | exact (rfl : @Eq Spec _ _) | skip
  all_goals decide
def L84 : List (Nat × Spec) := (26, .dat true rvalid_G) :: L83
theorem h84 : Holds Tryz.prog (Gl L84) := holds_cons h83 s26
theorem c98 : check Tryz.prog 98 = some (23, (ac_linkworkref02_Parts 26 71).strip, [.cell 2 2 true, .cell 3 2 true]) := by kernel_rfl
theorem s98 : Sound Tryz.prog 98 (.dat false rparts_G) := by
  apply rparts02_sound (hc := c98) h84 <;> first | exact (rfl : @Eq Spec _ _) | skip
  all_goals decide
def L85 : List (Nat × Spec) := (98, .dat false rparts_G) :: L84
theorem h85 : Holds Tryz.prog (Gl L85) := holds_cons h84 s98
theorem c101 : check Tryz.prog 101 = some (14, (ac_fraction_Neg 98 123 97).strip, [.cell 2 3 true]) := by kernel_rfl
theorem s101 : Sound Tryz.prog 101 (.dat false rneg_G) := by
  apply rneg_sound (hc := c101) h85 <;> first | exact (rfl : @Eq Spec _ _) | skip
  all_goals decide
def L86 : List (Nat × Spec) := (101, .dat false rneg_G) :: L85
theorem h86 : Holds Tryz.prog (Gl L86) := holds_cons h85 s101
theorem c130 : check Tryz.prog 130 = some (68, (ac_linkworkref01_times 127).strip, [.tmp 4]) := by kernel_rfl
theorem s130 : Sound Tryz.prog 130 (.dat false times_G) := by
  apply times01_sound (hc := c130) h86 <;> first | exact (rfl : @Eq Spec _ _) | skip
  all_goals decide
def L87 : List (Nat × Spec) := (130, .dat false times_G) :: L86
theorem h87 : Holds Tryz.prog (Gl L87) := holds_cons h86 s130
theorem c109 : check Tryz.prog 109 = some (16, (ac_integer_Mul 122 112 130 100).strip, [.cell 4 2 true]) := by kernel_rfl
theorem s109 : Sound Tryz.prog 109 (.dat false zmul_G) := by
  apply zmul_sound (hc := c109) h87 <;> first | exact (rfl : @Eq Spec _ _) | skip
  all_goals decide
def L88 : List (Nat × Spec) := (109, .dat false zmul_G) :: L87
theorem h88 : Holds Tryz.prog (Gl L88) := holds_cons h87 s109
theorem c67 : check Tryz.prog 67 = some (30, (ac_fraction_Add 98 109 108 97).strip, [.cell 4 3 true]) := by kernel_rfl
theorem s67 : Sound Tryz.prog 67 (.dat false radd_G) := by
  apply radd_sound (hc := c67) h88 <;> first | exact (rfl : @Eq Spec _ _) | skip
  all_goals decide
def L89 : List (Nat × Spec) := (67, .dat false radd_G) :: L88
theorem h89 : Holds Tryz.prog (Gl L89) := holds_cons h88 s67
theorem c55 : check Tryz.prog 55 = some (9, (ac_fraction_Sub 101 67).strip, [.cell 4 3 true]) := by kernel_rfl
theorem s55 : Sound Tryz.prog 55 (.dat false rsub_G) := by
  apply rsub_sound (hc := c55) h89 <;> first | exact (rfl : @Eq Spec _ _) | skip
  all_goals decide
def L90 : List (Nat × Spec) := (55, .dat false rsub_G) :: L89
theorem h90 : Holds Tryz.prog (Gl L90) := holds_cons h89 s55
theorem c64 : check Tryz.prog 64 = some (12, (ac_fraction_Sign 98 96).strip, [.tmp 2]) := by kernel_rfl
theorem s64 : Sound Tryz.prog 64 (.dat true rsign_G) := by
  apply rsign_sound (hc := c64) h90 <;> first | exact (rfl : @Eq Spec _ _) | skip
  all_goals decide
def L91 : List (Nat × Spec) := (64, .dat true rsign_G) :: L90
theorem h91 : Holds Tryz.prog (Gl L91) := holds_cons h90 s64
theorem c45 : check Tryz.prog 45 = some (9, (ac_linkworkref02_Cmp 55 64).strip, [.tmp 4]) := by kernel_rfl
theorem s45 : Sound Tryz.prog 45 (.dat true rcmp02_G) := by
  apply rcmp02_sound (hc := c45) h91 <;> first | exact (rfl : @Eq Spec _ _) | skip
  all_goals decide
def L92 : List (Nat × Spec) := (45, .dat true rcmp02_G) :: L91
theorem h92 : Holds Tryz.prog (Gl L92) := holds_cons h91 s45
theorem c13 : check Tryz.prog 13 = some (43, (ac_linkworkref54_Same 45).strip, [.tmp 4]) := by kernel_rfl
theorem s13 : Sound Tryz.prog 13 (.dat true rsame_G) := by
  apply rsame_sound (hc := c13) h92 <;> first | exact (rfl : @Eq Spec _ _) | skip
  all_goals decide
def L93 : List (Nat × Spec) := (13, .dat true rsame_G) :: L92
theorem h93 : Holds Tryz.prog (Gl L93) := holds_cons h92 s13
theorem c10 : check Tryz.prog 10 = some (48, (ac_linkworklaw54_awake 46 12 19 13).strip, [.tmp 0]) := by kernel_rfl
theorem s10 : Sound Tryz.prog 10 (.dat true lawake_G) := by
  apply lawake_sound (hc := c10) h93 <;> first | exact (rfl : @Eq Spec _ _) | skip
  all_goals decide
def L94 : List (Nat × Spec) := (10, .dat true lawake_G) :: L93
theorem h94 : Holds Tryz.prog (Gl L94) := holds_cons h93 s10
theorem c18 : check Tryz.prog 18 = some (11, ac_linkworklaw54_long.strip, [.tmp 2]) := by kernel_rfl
theorem s18 : Sound Tryz.prog 18 (.dat true rlong_G) := by
  apply rlong_sound (hc := c18) h94 <;> first | exact (rfl : @Eq Spec _ _) | skip
  all_goals decide
def L95 : List (Nat × Spec) := (18, .dat true rlong_G) :: L94
theorem h95 : Holds Tryz.prog (Gl L95) := holds_cons h94 s18
theorem c17 : check Tryz.prog 17 = some (35, (ac_linkworklaw54_large 18).strip, [.tmp 2]) := by kernel_rfl
theorem s17 : Sound Tryz.prog 17 (.dat true rlarge_G) := by
  apply rlarge_sound (hc := c17) h95 <;> first | exact (rfl : @Eq Spec _ _) | skip
  all_goals decide
def L96 : List (Nat × Spec) := (17, .dat true rlarge_G) :: L95
theorem h96 : Holds Tryz.prog (Gl L96) := holds_cons h95 s17
theorem c107 : check Tryz.prog 107 = some (7, (ac_fraction_Of 54 71 97).strip, [.cell 2 3 true]) := by kernel_rfl
theorem s107 : Sound Tryz.prog 107 (.dat false rof_G) := by
  apply rof_sound (hc := c107) h96 <;> first | exact (rfl : @Eq Spec _ _) | skip
  all_goals decide
def L97 : List (Nat × Spec) := (107, .dat false rof_G) :: L96
theorem h97 : Holds Tryz.prog (Gl L97) := holds_cons h96 s107
theorem c65 : check Tryz.prog 65 = some (2, (ac_chart_one 107).strip, [.cell 0 3 true]) := by kernel_rfl
theorem s65 : Sound Tryz.prog 65 (.dat false cone_G) := by
  apply cone_sound (hc := c65) h97 <;> first | exact (rfl : @Eq Spec _ _) | skip
  all_goals decide
def L98 : List (Nat × Spec) := (65, .dat false cone_G) :: L97
theorem h98 : Holds Tryz.prog (Gl L98) := holds_cons h97 s65
theorem c21 : check Tryz.prog 21 = some (49, (ac_linkworkref54_Check 26 64 65 45).strip, [.tmp 2]) := by kernel_rfl
theorem s21 : Sound Tryz.prog 21 (.dat true rcheck_G) := by
  apply rcheck_sound (hc := c21) h98 <;> first | exact (rfl : @Eq Spec _ _) | skip
  all_goals decide
def L99 : List (Nat × Spec) := (21, .dat true rcheck_G) :: L98
theorem h99 : Holds Tryz.prog (Gl L99) := holds_cons h98 s21
theorem c11 : check Tryz.prog 11 = some (11, (ac_linkworklaw54_valid 17 21).strip, [.tmp 2]) := by kernel_rfl
theorem s11 : Sound Tryz.prog 11 (.dat true rvalidL_G) := by
  apply rvalidL_sound (hc := c11) h99 <;> first | exact (rfl : @Eq Spec _ _) | skip
  all_goals decide
def L100 : List (Nat × Spec) := (11, .dat true rvalidL_G) :: L99
theorem h100 : Holds Tryz.prog (Gl L100) := holds_cons h99 s11
theorem c82 : check Tryz.prog 82 = some (9, (ac_chart_tracked 47 51).strip, [.tmp 2]) := by kernel_rfl
theorem s82 : Sound Tryz.prog 82 (.dat false (ctracked_G 51)) := by
  apply ctracked_sound (hc := c82) h100 <;> first | exact (rfl : @Eq Spec _ _) | skip
  all_goals decide
def L101 : List (Nat × Spec) := (82, .dat false (ctracked_G 51)) :: L100
theorem h101 : Holds Tryz.prog (Gl L101) := holds_cons h100 s82
theorem c118 : check Tryz.prog 118 = some (27, ac_slices_Grow_g.strip, [.tmp 4]) := by kernel_rfl
theorem s118 : Sound Tryz.prog 118 (.fresh 6 grow_G) := by
  apply grow_sound (hc := c118) h101 <;> first | exact (rfl : @Eq Spec _ _) | skip
  all_goals decide
def L102 : List (Nat × Spec) := (118, .fresh 6 grow_G) :: L101
theorem h102 : Holds Tryz.prog (Gl L102) := holds_cons h101 s118
theorem c83 : check Tryz.prog 83 = some (36, (ac_slices_Concat_g 118).strip, [.tmp 2]) := by kernel_rfl
theorem s83 : Sound Tryz.prog 83 (.fresh 6 concat_G) := by
  apply concat_sound (hc := c83) h102 <;> first | exact (rfl : @Eq Spec _ _) | skip
  all_goals decide
def L103 : List (Nat × Spec) := (83, .fresh 6 concat_G) :: L102
theorem h103 : Holds Tryz.prog (Gl L103) := holds_cons h102 s83
theorem c76 : check Tryz.prog 76 = some (40, (ac_chart_not 14 89 61).strip, [.tmp 2]) := by kernel_rfl
theorem s76 : Sound Tryz.prog 76 (.dat false cnot_G) := by
  apply cnot_sound (hc := c76) h103 <;> first | exact (rfl : @Eq Spec _ _) | skip
  all_goals decide
def L104 : List (Nat × Spec) := (76, .dat false cnot_G) :: L103
theorem h104 : Holds Tryz.prog (Gl L104) := holds_cons h103 s76
theorem c41 : check Tryz.prog 41 = some (17, (ac_chart_Free 82 83 48 76 63).strip, [.tmp 2, .tmp 3]) := by kernel_rfl
theorem s41 : Sound Tryz.prog 41 (.dat false (cFree_G 51 200)) := by
  apply cFree_sound (hc := c41) h104 <;> first | exact (rfl : @Eq Spec _ _) | skip
  all_goals decide
def L105 : List (Nat × Spec) := (41, .dat false (cFree_G 51 200)) :: L104
theorem h105 : Holds Tryz.prog (Gl L105) := holds_cons h104 s41
theorem c114 : check Tryz.prog 114 = some (19, (ac_fraction_Min 14 49 77).strip, [.cell 4 3 true]) := by kernel_rfl
theorem s114 : Sound Tryz.prog 114 (.dat false rmin_G) := by
  apply rmin_sound (hc := c114) h105 <;> first | exact (rfl : @Eq Spec _ _) | skip
  all_goals decide
def L106 : List (Nat × Spec) := (114, .dat false rmin_G) :: L105
theorem h106 : Holds Tryz.prog (Gl L106) := holds_cons h105 s114
theorem c75 : check Tryz.prog 75 = some (47, (ac_chart_meet 88 114 14).strip, [.tmp 4]) := by kernel_rfl
theorem s75 : Sound Tryz.prog 75 (.dat false cmeet_G) := by
  apply cmeet_sound (hc := c75) h106 <;> first | exact (rfl : @Eq Spec _ _) | skip
  all_goals decide
def L107 : List (Nat × Spec) := (75, .dat false cmeet_G) :: L106
theorem h107 : Holds Tryz.prog (Gl L107) := holds_cons h106 s75
theorem c40 : check Tryz.prog 40 = some (52, (ac_chart_Clash 82 48 75).strip, [.tmp 2, .tmp 3, .cell 4 3 true, .tmp 5, .tmp 6]) := by kernel_rfl
theorem s40 : Sound Tryz.prog 40 (.dat false (cClash_G 51 200)) := by
  apply cClash_sound (hc := c40) h107 <;> first | exact (rfl : @Eq Spec _ _) | skip
  all_goals decide
def L108 : List (Nat × Spec) := (40, .dat false (cClash_G 51 200)) :: L107
theorem h108 : Holds Tryz.prog (Gl L108) := holds_cons h107 s40
theorem c59 : check Tryz.prog 59 = some (16, (ac_chart_Has_1 14).strip, [.tmp 3]) := by kernel_rfl
theorem s59 : Sound Tryz.prog 59 (.dat true chas1_G) := by
  apply chas1_sound (hc := c59) h108 <;> first | exact (rfl : @Eq Spec _ _) | skip
  all_goals decide
def L109 : List (Nat × Spec) := (59, .dat true chas1_G) :: L108
theorem h109 : Holds Tryz.prog (Gl L109) := holds_cons h108 s59
theorem c106 : check Tryz.prog 106 = some (19, ac_slices_IndexFunc_g.strip, [.tmp 4]) := by kernel_rfl
theorem s106 : Sound Tryz.prog 106 (.dat true (cidx_G 59)) := by
  apply cidx_sound (hc := c106) h109 <;> first | exact (rfl : @Eq Spec _ _) | skip
  all_goals decide
def L110 : List (Nat × Spec) := (106, .dat true (cidx_G 59)) :: L109
theorem h110 : Holds Tryz.prog (Gl L110) := holds_cons h109 s106
theorem c58 : check Tryz.prog 58 = some (9, (ac_slices_ContainsFunc_g 106).strip, [.tmp 4]) := by kernel_rfl
theorem s58 : Sound Tryz.prog 58 (.dat true (ccont_G 59)) := by
  apply ccont_sound (hc := c58) h110 <;> first | exact (rfl : @Eq Spec _ _) | skip
  all_goals decide
def L111 : List (Nat × Spec) := (58, .dat true (ccont_G 59)) :: L110
theorem h111 : Holds Tryz.prog (Gl L111) := holds_cons h110 s58
theorem c16 : check Tryz.prog 16 = some (29, (ac_chart_Has 47 56 57 58 59 51).strip, [.tmp 4, .tmp 5]) := by kernel_rfl
theorem s16 : Sound Tryz.prog 16 (.dat false (cHas_G 51)) := by
  apply cHas_sound (hc := c16) h111 <;> first | exact (rfl : @Eq Spec _ _) | skip
  all_goals decide
def L112 : List (Nat × Spec) := (16, .dat false (cHas_G 51)) :: L111
theorem h112 : Holds Tryz.prog (Gl L112) := holds_cons h111 s16
theorem c24 : check Tryz.prog 24 = some (15, (ac_linkworkbase_Num 51).strip, [.tmp 2]) := by kernel_rfl
theorem s24 : Sound Tryz.prog 24 (.dat true (bnum_G 51)) := by
  apply bnum_sound (hc := c24) h112 <;> first | exact (rfl : @Eq Spec _ _) | skip
  all_goals decide
def L113 : List (Nat × Spec) := (24, .dat true (bnum_G 51)) :: L112
theorem h113 : Holds Tryz.prog (Gl L113) := holds_cons h112 s24
theorem c27 : check Tryz.prog 27 = some (9, (ac_linkworkbase_Is 24).strip, [.tmp 4]) := by kernel_rfl
theorem s27 : Sound Tryz.prog 27 (.dat true (bis_G 51)) := by
  apply bis_sound (hc := c27) h113 <;> first | exact (rfl : @Eq Spec _ _) | skip
  all_goals decide
def L114 : List (Nat × Spec) := (27, .dat true (bis_G 51)) :: L113
theorem h114 : Holds Tryz.prog (Gl L114) := holds_cons h113 s27
theorem c9 : check Tryz.prog 9 = some (153, (ac_linkworklaw54_ChartFree 10 18 26 11 41 40 16 27).strip, [.tmp 4]) := by kernel_rfl
theorem s9 : Sound Tryz.prog 9 (.dat true lFree_G) := by
  apply lFree_sound (hc := c9) h114 <;> first | exact (rfl : @Eq Spec _ _) | skip
  all_goals decide
def L115 : List (Nat × Spec) := (9, .dat true lFree_G) :: L114
theorem h115 : Holds Tryz.prog (Gl L115) := holds_cons h114 s9
theorem hold : Holds Tryz.prog (Gl L115) := h115
end Go.Abs
