/-
  The contracts of this seat's functions, gathered.
-/
import Derived.Test.YtobkolmneiiheaaGreatDoorChecked
import Derived.Test.YtobkolmneiiheaaGreatDoorBits
import Derived.KernelRfl
import Derived.Test.YtobkolmneiiheaaGreatDoorM10
set_option maxRecDepth 100000
set_option linter.unusedVariables false
namespace Go.Abs
open Go.Proofs
theorem c179 : check Tryz.prog 179 = some (25, ac_linkworkref01_trim.strip, [.tmp 2]) := by kernel_rfl
theorem s179 : Sound Tryz.prog 179 (.fresh 1 tr01_G) := by
  apply tr01_sound (hc := c179) holds_nil <;> first | exact (rfl : @Eq Spec _ _) | skip
  all_goals decide
def L1 : List (Nat × Spec) := (179, .fresh 1 tr01_G) :: []
theorem h1 : Holds Tryz.prog (Gl L1) := holds_cons holds_nil s179
theorem c146 : check Tryz.prog 146 = some (14, (ac_linkworkref01_form 179).strip, [.cell 4 2 true]) := by kernel_rfl
theorem s146 : Sound Tryz.prog 146 (.dat false whole_G) := by
  apply form01_sound (hc := c146) h1 <;> first | exact (rfl : @Eq Spec _ _) | skip
  all_goals decide
def L2 : List (Nat × Spec) := (146, .dat false whole_G) :: L1
theorem h2 : Holds Tryz.prog (Gl L2) := holds_cons h1 s146
theorem c98 : check Tryz.prog 98 = some (19, (ac_integer_Of 146).strip, [.cell 2 2 true]) := by kernel_rfl
theorem s98 : Sound Tryz.prog 98 (.dat false zof_G) := by
  apply zof_sound (hc := c98) h2 <;> first | exact (rfl : @Eq Spec _ _) | skip
  all_goals decide
def L3 : List (Nat × Spec) := (98, .dat false zof_G) :: L2
theorem h3 : Holds Tryz.prog (Gl L3) := holds_cons h2 s98
theorem c99 : check Tryz.prog 99 = some (2, (ac_fraction_one 98).strip, [.cell 0 2 true]) := by kernel_rfl
theorem s99 : Sound Tryz.prog 99 (.dat false rone_G) := by
  apply rone_sound (hc := c99) h3 <;> first | exact (rfl : @Eq Spec _ _) | skip
  all_goals decide
def L4 : List (Nat × Spec) := (99, .dat false rone_G) :: L3
theorem h4 : Holds Tryz.prog (Gl L4) := holds_cons h3 s99
theorem c190 : check Tryz.prog 190 = some (19, ac_integer_Valid.strip, [.tmp 2]) := by kernel_rfl
theorem s190 : Sound Tryz.prog 190 (.dat true zvalid_G) := by
  apply zvalid_sound (hc := c190) h4 <;> first | exact (rfl : @Eq Spec _ _) | skip
  all_goals decide
def L5 : List (Nat × Spec) := (190, .dat true zvalid_G) :: L4
theorem h5 : Holds Tryz.prog (Gl L5) := holds_cons h4 s190
theorem c155 : check Tryz.prog 155 = some (8, (ac_integer_mag 190).strip, [.tmp 2]) := by kernel_rfl
theorem s155 : Sound Tryz.prog 155 (.dat false zmag_G) := by
  apply zmag_sound (hc := c155) h5 <;> first | exact (rfl : @Eq Spec _ _) | skip
  all_goals decide
def L6 : List (Nat × Spec) := (155, .dat false zmag_G) :: L5
theorem h6 : Holds Tryz.prog (Gl L6) := holds_cons h5 s155
theorem c156 : check Tryz.prog 156 = some (9, (ac_integer_neg 190).strip, [.tmp 2]) := by kernel_rfl
theorem s156 : Sound Tryz.prog 156 (.dat true znegp_G) := by
  apply znegp_sound (hc := c156) h6 <;> first | exact (rfl : @Eq Spec _ _) | skip
  all_goals decide
def L7 : List (Nat × Spec) := (156, .dat true znegp_G) :: L6
theorem h7 : Holds Tryz.prog (Gl L7) := holds_cons h6 s156
theorem c143 : check Tryz.prog 143 = some (9, (ac_linkworkref01_Sign 155 156).strip, [.tmp 2]) := by kernel_rfl
theorem s143 : Sound Tryz.prog 143 (.dat true zsign_G) := by
  apply zsign01_sound (hc := c143) h7 <;> first | exact (rfl : @Eq Spec _ _) | skip
  all_goals decide
def L8 : List (Nat × Spec) := (143, .dat true zsign_G) :: L7
theorem h8 : Holds Tryz.prog (Gl L8) := holds_cons h7 s143
theorem c144 : check Tryz.prog 144 = some (9, (ac_integer_Neg 156 155 146).strip, [.cell 2 2 true]) := by kernel_rfl
theorem s144 : Sound Tryz.prog 144 (.dat false zneg_G) := by
  apply zneg_sound (hc := c144) h8 <;> first | exact (rfl : @Eq Spec _ _) | skip
  all_goals decide
def L9 : List (Nat × Spec) := (144, .dat false zneg_G) :: L8
theorem h9 : Holds Tryz.prog (Gl L9) := holds_cons h8 s144
theorem c191 : check Tryz.prog 191 = some (14, ac_integer_word.strip, [.tmp 4]) := by kernel_rfl
theorem s191 : Sound Tryz.prog 191 (.dat true word_G) := by
  apply word_sound (hc := c191) h9 <;> first | exact (rfl : @Eq Spec _ _) | skip
  all_goals decide
def L10 : List (Nat × Spec) := (191, .dat true word_G) :: L9
theorem h10 : Holds Tryz.prog (Gl L10) := holds_cons h9 s191
theorem c189 : check Tryz.prog 189 = some (21, ac_linkworkref01_cut.strip, [.tmp 2]) := by kernel_rfl
theorem s189 : Sound Tryz.prog 189 (.own cut_G) := by
  apply cut_sound (hc := c189) h10 <;> first | exact (rfl : @Eq Spec _ _) | skip
  all_goals decide
def L11 : List (Nat × Spec) := (189, .own cut_G) :: L10
theorem h11 : Holds Tryz.prog (Gl L11) := holds_cons h10 s189
theorem c187 : check Tryz.prog 187 = some (26, (ac_linkworkref01_halve 191 189).strip, [.tmp 2]) := by kernel_rfl
theorem s187 : Sound Tryz.prog 187 (.own halve_G) := by
  apply halve_sound (hc := c187) h11 <;> first | exact (rfl : @Eq Spec _ _) | skip
  all_goals decide
def L12 : List (Nat × Spec) := (187, .own halve_G) :: L11
theorem h12 : Holds Tryz.prog (Gl L12) := holds_cons h11 s187
theorem c158 : check Tryz.prog 158 = some (30, (ac_linkworkref01_compare 191).strip, [.tmp 4]) := by kernel_rfl
theorem s158 : Sound Tryz.prog 158 (.dat true cmp01_G) := by
  apply cmp01_sound (hc := c158) h12 <;> first | exact (rfl : @Eq Spec _ _) | skip
  all_goals decide
def L13 : List (Nat × Spec) := (158, .dat true cmp01_G) :: L12
theorem h13 : Holds Tryz.prog (Gl L13) := holds_cons h12 s158
theorem c188 : check Tryz.prog 188 = some (31, (ac_linkworkref01_take 191).strip, []) := by kernel_rfl
theorem s188 : Sound Tryz.prog 188 (.own take_G) := by
  apply take_sound (hc := c188) h13 <;> first | exact (rfl : @Eq Spec _ _) | skip
  all_goals decide
def L14 : List (Nat × Spec) := (188, .own take_G) :: L13
theorem h14 : Holds Tryz.prog (Gl L14) := holds_cons h13 s188
theorem c157 : check Tryz.prog 157 = some (37, (ac_linkworkref01_plus 191 179).strip, [.tmp 4]) := by kernel_rfl
theorem s157 : Sound Tryz.prog 157 (.dat false plus_G) := by
  apply plus01_sound (hc := c157) h14 <;> first | exact (rfl : @Eq Spec _ _) | skip
  all_goals decide
def L15 : List (Nat × Spec) := (157, .dat false plus_G) :: L14
theorem h15 : Holds Tryz.prog (Gl L15) := holds_cons h14 s157
theorem c154 : check Tryz.prog 154 = some (72, (ac_linkworkref01_gcd 179 187 158 188 189 157).strip, [.tmp 4]) := by kernel_rfl
theorem s154 : Sound Tryz.prog 154 (.dat false gcd01_G) := by
  apply gcd01_sound (hc := c154) h15 <;> first | exact (rfl : @Eq Spec _ _) | skip
  all_goals decide
def L16 : List (Nat × Spec) := (154, .dat false gcd01_G) :: L15
theorem h16 : Holds Tryz.prog (Gl L16) := holds_cons h15 s154
theorem c105 : check Tryz.prog 105 = some (11, (ac_linkworkref01_Gcd 155 154 146).strip, [.cell 4 2 true]) := by kernel_rfl
theorem s105 : Sound Tryz.prog 105 (.dat false zgcd_G) := by
  apply zgcd01_sound (hc := c105) h16 <;> first | exact (rfl : @Eq Spec _ _) | skip
  all_goals decide
def L17 : List (Nat × Spec) := (105, .dat false zgcd_G) :: L16
theorem h17 : Holds Tryz.prog (Gl L17) := holds_cons h16 s105
theorem c208 : check Tryz.prog 208 = some (25, ac_linkworkref01_bits.strip, [.tmp 2]) := by kernel_rfl
theorem s208 : Sound Tryz.prog 208 (.dat true bits01_G) := by
  apply bits01_sound (hc := c208) h17 <;> first | exact (rfl : @Eq Spec _ _) | skip
  all_goals decide
def L18 : List (Nat × Spec) := (208, .dat true bits01_G) :: L17
theorem h18 : Holds Tryz.prog (Gl L18) := holds_cons h17 s208
theorem c178 : check Tryz.prog 178 = some (76, (ac_linkworkref01_divide 208 158 188 179).strip, [.tmp 4, .tmp 5]) := by kernel_rfl
theorem s178 : Sound Tryz.prog 178 (.dat false divide_G) := by
  apply divide01_sound (hc := c178) h18 <;> first | exact (rfl : @Eq Spec _ _) | skip
  all_goals decide
def L19 : List (Nat × Spec) := (178, .dat false divide_G) :: L18
theorem h19 : Holds Tryz.prog (Gl L19) := holds_cons h18 s178
theorem c159 : check Tryz.prog 159 = some (35, (ac_linkworkref01_minus 191 179).strip, [.tmp 4]) := by kernel_rfl
theorem s159 : Sound Tryz.prog 159 (.dat false less_G) := by
  apply minus01_sound (hc := c159) h19 <;> first | exact (rfl : @Eq Spec _ _) | skip
  all_goals decide
def L20 : List (Nat × Spec) := (159, .dat false less_G) :: L19
theorem h20 : Holds Tryz.prog (Gl L20) := holds_cons h19 s159
theorem c145 : check Tryz.prog 145 = some (45, (ac_linkworkref01_Div 143 155 178 156 157 159 146).strip, [.cell 4 2 true, .cell 5 2 true, .tmp 6]) := by kernel_rfl
theorem s145 : Sound Tryz.prog 145 (.dat false zdiv01_G) := by
  apply zdiv01_sound (hc := c145) h20 <;> first | exact (rfl : @Eq Spec _ _) | skip
  all_goals decide
def L21 : List (Nat × Spec) := (145, .dat false zdiv01_G) :: L20
theorem h21 : Holds Tryz.prog (Gl L21) := holds_cons h20 s145
theorem c97 : check Tryz.prog 97 = some (47, (ac_linkworkref02_form 143 144 105 145).strip, [.cell 4 3 true]) := by kernel_rfl
theorem s97 : Sound Tryz.prog 97 (.dat false rform_G) := by
  apply rform02_sound (hc := c97) h21 <;> first | exact (rfl : @Eq Spec _ _) | skip
  all_goals decide
def L22 : List (Nat × Spec) := (97, .dat false rform_G) :: L21
theorem h22 : Holds Tryz.prog (Gl L22) := holds_cons h21 s97
theorem c45 : check Tryz.prog 45 = some (7, (ac_fraction_Of 98 99 97).strip, [.cell 2 3 true]) := by kernel_rfl
theorem s45 : Sound Tryz.prog 45 (.dat false rof_G) := by
  apply rof_sound (hc := c45) h22 <;> first | exact (rfl : @Eq Spec _ _) | skip
  all_goals decide
def L23 : List (Nat × Spec) := (45, .dat false rof_G) :: L22
theorem h23 : Holds Tryz.prog (Gl L23) := holds_cons h22 s45
theorem c44 : check Tryz.prog 44 = some (13, (ac_linkworklaw46_Example 45).strip, [.tmp 0]) := by kernel_rfl
theorem s44 : Sound Tryz.prog 44 (.dat false ex46_G) := by
  apply ex46_sound (hc := c44) h23 <;> first | exact (rfl : @Eq Spec _ _) | skip
  all_goals decide
def L24 : List (Nat × Spec) := (44, .dat false ex46_G) :: L23
theorem h24 : Holds Tryz.prog (Gl L24) := holds_cons h23 s44
theorem c125 : check Tryz.prog 125 = some (19, ac_integer_Valid.strip, [.tmp 2]) := by kernel_rfl
theorem s125 : Sound Tryz.prog 125 (.dat true zvalid_G) := by
  apply zvalid_sound (hc := c125) h24 <;> first | exact (rfl : @Eq Spec _ _) | skip
  all_goals decide
def L25 : List (Nat × Spec) := (125, .dat true zvalid_G) :: L24
theorem h25 : Holds Tryz.prog (Gl L25) := holds_cons h24 s125
theorem c114 : check Tryz.prog 114 = some (8, (ac_integer_mag 125).strip, [.tmp 2]) := by kernel_rfl
theorem s114 : Sound Tryz.prog 114 (.dat false zmag_G) := by
  apply zmag_sound (hc := c114) h25 <;> first | exact (rfl : @Eq Spec _ _) | skip
  all_goals decide
def L26 : List (Nat × Spec) := (114, .dat false zmag_G) :: L25
theorem h26 : Holds Tryz.prog (Gl L26) := holds_cons h25 s114
theorem c115 : check Tryz.prog 115 = some (41, ac_integer_compare.strip, [.tmp 4]) := by kernel_rfl
theorem s115 : Sound Tryz.prog 115 (.dat false compare_G) := by
  apply compare_sound (hc := c115) h26 <;> first | exact (rfl : @Eq Spec _ _) | skip
  all_goals decide
def L27 : List (Nat × Spec) := (115, .dat false compare_G) :: L26
theorem h27 : Holds Tryz.prog (Gl L27) := holds_cons h26 s115
theorem c163 : check Tryz.prog 163 = some (25, ac_integer_trim.strip, [.tmp 2]) := by kernel_rfl
theorem s163 : Sound Tryz.prog 163 (.dat false trim_G) := by
  apply trim_sound (hc := c163) h27 <;> first | exact (rfl : @Eq Spec _ _) | skip
  all_goals decide
def L28 : List (Nat × Spec) := (163, .dat false trim_G) :: L27
theorem h28 : Holds Tryz.prog (Gl L28) := holds_cons h27 s163
theorem c148 : check Tryz.prog 148 = some (43, (ac_integer_short 163).strip, [.tmp 4, .tmp 5]) := by kernel_rfl
theorem s148 : Sound Tryz.prog 148 (.dat false short_G) := by
  apply short_sound (hc := c148) h28 <;> first | exact (rfl : @Eq Spec _ _) | skip
  all_goals decide
def L29 : List (Nat × Spec) := (148, .dat false short_G) :: L28
theorem h29 : Holds Tryz.prog (Gl L29) := holds_cons h28 s148
theorem s193 : Sound Tryz.prog 193 (.dat true lz_G) := sound_u32 (enters_of Tryz.func193 (by kernel_rfl) (by kernel_rfl)) lz_good lz_inv Tryz.bits_LeadingZeros32
def L30 : List (Nat × Spec) := (193, .dat true lz_G) :: L29
theorem h30 : Holds Tryz.prog (Gl L30) := holds_cons h29 s193
theorem c194 : check Tryz.prog 194 = some (41, ac_integer_up.strip, [.tmp 4]) := by kernel_rfl
theorem s194 : Sound Tryz.prog 194 (.fresh 1 up_G) := by
  apply up_sound (hc := c194) h30 <;> first | exact (rfl : @Eq Spec _ _) | skip
  all_goals decide
def L31 : List (Nat × Spec) := (194, .fresh 1 up_G) :: L30
theorem h31 : Holds Tryz.prog (Gl L31) := holds_cons h30 s194
theorem c165 : check Tryz.prog 165 = some (14, ac_integer_word.strip, [.tmp 4]) := by kernel_rfl
theorem s165 : Sound Tryz.prog 165 (.dat true word_G) := by
  apply word_sound (hc := c165) h31 <;> first | exact (rfl : @Eq Spec _ _) | skip
  all_goals decide
def L32 : List (Nat × Spec) := (165, .dat true word_G) :: L31
theorem h32 : Holds Tryz.prog (Gl L32) := holds_cons h31 s165
theorem c195 : check Tryz.prog 195 = some (46, (ac_integer_remove 165).strip, [.tmp 6]) := by kernel_rfl
theorem s195 : Sound Tryz.prog 195 (.own remove_G) := by
  apply remove_sound (hc := c195) h32 <;> first | exact (rfl : @Eq Spec _ _) | skip
  all_goals decide
def L33 : List (Nat × Spec) := (195, .own remove_G) :: L32
theorem h33 : Holds Tryz.prog (Gl L33) := holds_cons h32 s195
theorem c196 : check Tryz.prog 196 = some (30, (ac_integer_back 165).strip, []) := by kernel_rfl
theorem s196 : Sound Tryz.prog 196 (.own back_G) := by
  apply back_sound (hc := c196) h33 <;> first | exact (rfl : @Eq Spec _ _) | skip
  all_goals decide
def L34 : List (Nat × Spec) := (196, .own back_G) :: L33
theorem h34 : Holds Tryz.prog (Gl L34) := holds_cons h33 s196
theorem c197 : check Tryz.prog 197 = some (35, (ac_integer_down 165 163).strip, [.tmp 4]) := by kernel_rfl
theorem s197 : Sound Tryz.prog 197 (.dat false down_G) := by
  apply down_sound (hc := c197) h34 <;> first | exact (rfl : @Eq Spec _ _) | skip
  all_goals decide
def L35 : List (Nat × Spec) := (197, .dat false down_G) :: L34
theorem h35 : Holds Tryz.prog (Gl L35) := holds_cons h34 s197
theorem c164 : check Tryz.prog 164 = some (158, (ac_integer_divide 115 163 148 193 194 195 196 197).strip, [.tmp 4, .tmp 5]) := by kernel_rfl
theorem s164 : Sound Tryz.prog 164 (.dat false divide_G) := by
  apply divide_sound (hc := c164) h35 <;> first | exact (rfl : @Eq Spec _ _) | skip
  all_goals decide
def L36 : List (Nat × Spec) := (164, .dat false divide_G) :: L35
theorem h36 : Holds Tryz.prog (Gl L36) := holds_cons h35 s164
theorem c117 : check Tryz.prog 117 = some (15, (ac_integer_whole 163).strip, [.cell 4 2 true]) := by kernel_rfl
theorem s117 : Sound Tryz.prog 117 (.dat false whole_G) := by
  apply whole_sound (hc := c117) h36 <;> first | exact (rfl : @Eq Spec _ _) | skip
  all_goals decide
def L37 : List (Nat × Spec) := (117, .dat false whole_G) :: L36
theorem h37 : Holds Tryz.prog (Gl L37) := holds_cons h36 s117
theorem c120 : check Tryz.prog 120 = some (26, (ac_integer_Gcd 114 164 117).strip, [.cell 4 2 true]) := by kernel_rfl
theorem s120 : Sound Tryz.prog 120 (.dat false zgcd_G) := by
  apply zgcd_sound (hc := c120) h37 <;> first | exact (rfl : @Eq Spec _ _) | skip
  all_goals decide
def L38 : List (Nat × Spec) := (120, .dat false zgcd_G) :: L37
theorem h38 : Holds Tryz.prog (Gl L38) := holds_cons h37 s120
theorem c147 : check Tryz.prog 147 = some (19, (ac_integer_Of 117).strip, [.cell 2 2 true]) := by kernel_rfl
theorem s147 : Sound Tryz.prog 147 (.dat false zof_G) := by
  apply zof_sound (hc := c147) h38 <;> first | exact (rfl : @Eq Spec _ _) | skip
  all_goals decide
def L39 : List (Nat × Spec) := (147, .dat false zof_G) :: L38
theorem h39 : Holds Tryz.prog (Gl L39) := holds_cons h38 s147
theorem c100 : check Tryz.prog 100 = some (2, (ac_fraction_one 147).strip, [.cell 0 2 true]) := by kernel_rfl
theorem s100 : Sound Tryz.prog 100 (.dat false rone_G) := by
  apply rone_sound (hc := c100) h39 <;> first | exact (rfl : @Eq Spec _ _) | skip
  all_goals decide
def L40 : List (Nat × Spec) := (100, .dat false rone_G) :: L39
theorem h40 : Holds Tryz.prog (Gl L40) := holds_cons h39 s100
theorem c72 : check Tryz.prog 72 = some (11, (ac_integer_Sign 114).strip, [.tmp 2]) := by kernel_rfl
theorem s72 : Sound Tryz.prog 72 (.dat true zsign_G) := by
  apply zsign_sound (hc := c72) h40 <;> first | exact (rfl : @Eq Spec _ _) | skip
  all_goals decide
def L41 : List (Nat × Spec) := (72, .dat true zsign_G) :: L40
theorem h41 : Holds Tryz.prog (Gl L41) := holds_cons h40 s72
theorem c116 : check Tryz.prog 116 = some (9, (ac_integer_neg 125).strip, [.tmp 2]) := by kernel_rfl
theorem s116 : Sound Tryz.prog 116 (.dat true znegp_G) := by
  apply znegp_sound (hc := c116) h41 <;> first | exact (rfl : @Eq Spec _ _) | skip
  all_goals decide
def L42 : List (Nat × Spec) := (116, .dat true znegp_G) :: L41
theorem h42 : Holds Tryz.prog (Gl L42) := holds_cons h41 s116
theorem c73 : check Tryz.prog 73 = some (28, (ac_integer_Cmp 72 114 115 116).strip, [.tmp 4]) := by kernel_rfl
theorem s73 : Sound Tryz.prog 73 (.dat true zcmp_G) := by
  apply zcmp_sound (hc := c73) h42 <;> first | exact (rfl : @Eq Spec _ _) | skip
  all_goals decide
def L43 : List (Nat × Spec) := (73, .dat true zcmp_G) :: L42
theorem h43 : Holds Tryz.prog (Gl L43) := holds_cons h42 s73
theorem c79 : check Tryz.prog 79 = some (50, (ac_fraction_Valid 125 120 100 73).strip, [.tmp 2]) := by kernel_rfl
theorem s79 : Sound Tryz.prog 79 (.dat true rvalid_G) := by
  apply rvalid_sound (hc := c79) h43 <;> first | exact (rfl : @Eq Spec _ _) | skip
  all_goals decide
def L44 : List (Nat × Spec) := (79, .dat true rvalid_G) :: L43
theorem h44 : Holds Tryz.prog (Gl L44) := holds_cons h43 s79
theorem c71 : check Tryz.prog 71 = some (28, (ac_fraction_Parts 79 100).strip, [.cell 2 2 true, .cell 3 2 true]) := by kernel_rfl
theorem s71 : Sound Tryz.prog 71 (.dat false rparts_G) := by
  apply rparts_sound (hc := c71) h44 <;> first | exact (rfl : @Eq Spec _ _) | skip
  all_goals decide
def L45 : List (Nat × Spec) := (71, .dat false rparts_G) :: L44
theorem h45 : Holds Tryz.prog (Gl L45) := holds_cons h44 s71
theorem c24 : check Tryz.prog 24 = some (12, (ac_fraction_Sign 71 72).strip, [.tmp 2]) := by kernel_rfl
theorem s24 : Sound Tryz.prog 24 (.dat true rsign_G) := by
  apply rsign_sound (hc := c24) h45 <;> first | exact (rfl : @Eq Spec _ _) | skip
  all_goals decide
def L46 : List (Nat × Spec) := (24, .dat true rsign_G) :: L45
theorem h46 : Holds Tryz.prog (Gl L46) := holds_cons h45 s24
theorem c64 : check Tryz.prog 64 = some (18, (ac_turn_Check 79 24 55).strip, [.tmp 2]) := by kernel_rfl
theorem s64 : Sound Tryz.prog 64 (.dat false (tcheck_G 55)) := by
  apply tcheck_sound (hc := c64) h46 <;> first | exact (rfl : @Eq Spec _ _) | skip
  all_goals decide
def L47 : List (Nat × Spec) := (64, .dat false (tcheck_G 55)) :: L46
theorem h47 : Holds Tryz.prog (Gl L47) := holds_cons h46 s64
theorem c65 : check Tryz.prog 65 = some (11, (ac_threepos_valid 79).strip, [.tmp 2]) := by kernel_rfl
theorem s65 : Sound Tryz.prog 65 (.dat true pvalid_G) := by
  apply pvalid_sound (hc := c65) h47 <;> first | exact (rfl : @Eq Spec _ _) | skip
  all_goals decide
def L48 : List (Nat × Spec) := (65, .dat true pvalid_G) :: L47
theorem h48 : Holds Tryz.prog (Gl L48) := holds_cons h47 s65
theorem c19 : check Tryz.prog 19 = some (12, (ac_pose_Valid 64 65).strip, [.tmp 2]) := by kernel_rfl
theorem s19 : Sound Tryz.prog 19 (.dat true pvld_G) := by
  apply pvld_sound (hc := c19) h48 <;> first | exact (rfl : @Eq Spec _ _) | skip
  all_goals decide
def L49 : List (Nat × Spec) := (19, .dat true pvld_G) :: L48
theorem h49 : Holds Tryz.prog (Gl L49) := holds_cons h48 s19
theorem c124 : check Tryz.prog 124 = some (16, (ac_poles_check 19 55).strip, [.tmp 2]) := by kernel_rfl
theorem s124 : Sound Tryz.prog 124 (.dat false (plck_G 55)) := by
  apply plck_sound (hc := c124) h49 <;> first | exact (rfl : @Eq Spec _ _) | skip
  all_goals decide
def L50 : List (Nat × Spec) := (124, .dat false (plck_G 55)) :: L49
theorem h50 : Holds Tryz.prog (Gl L50) := holds_cons h49 s124
theorem c77 : check Tryz.prog 77 = some (13, (ac_poles_Check 124 55).strip, [.tmp 2]) := by kernel_rfl
theorem s77 : Sound Tryz.prog 77 (.dat false (plCk_G 55)) := by
  apply plCk_sound (hc := c77) h50 <;> first | exact (rfl : @Eq Spec _ _) | skip
  all_goals decide
def L51 : List (Nat × Spec) := (77, .dat false (plCk_G 55)) :: L50
theorem h51 : Holds Tryz.prog (Gl L51) := holds_cons h50 s77
theorem c78 : check Tryz.prog 78 = some (11, (ac_threepos_valid 79).strip, [.tmp 2]) := by kernel_rfl
theorem s78 : Sound Tryz.prog 78 (.dat true pvalid_G) := by
  apply pvalid_sound (hc := c78) h51 <;> first | exact (rfl : @Eq Spec _ _) | skip
  all_goals decide
def L52 : List (Nat × Spec) := (78, .dat true pvalid_G) :: L51
theorem h52 : Holds Tryz.prog (Gl L52) := holds_cons h51 s78
theorem c48 : check Tryz.prog 48 = some (28, (ac_threepos_check 77 78 55).strip, [.tmp 4]) := by kernel_rfl
theorem s48 : Sound Tryz.prog 48 (.dat false (tchk3_G 55)) := by
  apply tchk3_sound (hc := c48) h52 <;> first | exact (rfl : @Eq Spec _ _) | skip
  all_goals decide
def L53 : List (Nat × Spec) := (48, .dat false (tchk3_G 55)) :: L52
theorem h53 : Holds Tryz.prog (Gl L53) := holds_cons h52 s48
theorem c119 : check Tryz.prog 119 = some (9, (ac_integer_Neg 116 114 117).strip, [.cell 2 2 true]) := by kernel_rfl
theorem s119 : Sound Tryz.prog 119 (.dat false zneg_G) := by
  apply zneg_sound (hc := c119) h53 <;> first | exact (rfl : @Eq Spec _ _) | skip
  all_goals decide
def L54 : List (Nat × Spec) := (119, .dat false zneg_G) :: L53
theorem h54 : Holds Tryz.prog (Gl L54) := holds_cons h53 s119
theorem c122 : check Tryz.prog 122 = some (39, (ac_integer_plus 165 163).strip, [.tmp 4]) := by kernel_rfl
theorem s122 : Sound Tryz.prog 122 (.dat false plus_G) := by
  apply plus_sound (hc := c122) h54 <;> first | exact (rfl : @Eq Spec _ _) | skip
  all_goals decide
def L55 : List (Nat × Spec) := (122, .dat false plus_G) :: L54
theorem h55 : Holds Tryz.prog (Gl L55) := holds_cons h54 s122
theorem c123 : check Tryz.prog 123 = some (38, (ac_integer_less 165 163).strip, [.tmp 4]) := by kernel_rfl
theorem s123 : Sound Tryz.prog 123 (.dat false less_G) := by
  apply less_sound (hc := c123) h55 <;> first | exact (rfl : @Eq Spec _ _) | skip
  all_goals decide
def L56 : List (Nat × Spec) := (123, .dat false less_G) :: L55
theorem h56 : Holds Tryz.prog (Gl L56) := holds_cons h55 s123
theorem c121 : check Tryz.prog 121 = some (47, (ac_integer_Div 114 164 116 122 123 117 55).strip, [.cell 4 2 true, .cell 5 2 true, .tmp 6]) := by kernel_rfl
theorem s121 : Sound Tryz.prog 121 (.dat false zdiv_G) := by
  apply zdiv_sound (hc := c121) h56 <;> first | exact (rfl : @Eq Spec _ _) | skip
  all_goals decide
def L57 : List (Nat × Spec) := (121, .dat false zdiv_G) :: L56
theorem h57 : Holds Tryz.prog (Gl L57) := holds_cons h56 s121
theorem c75 : check Tryz.prog 75 = some (47, (ac_fraction_form 72 119 120 121).strip, [.cell 4 3 true]) := by kernel_rfl
theorem s75 : Sound Tryz.prog 75 (.dat false rform_G) := by
  apply rform_sound (hc := c75) h57 <;> first | exact (rfl : @Eq Spec _ _) | skip
  all_goals decide
def L58 : List (Nat × Spec) := (75, .dat false rform_G) :: L57
theorem h58 : Holds Tryz.prog (Gl L58) := holds_cons h57 s75
theorem c112 : check Tryz.prog 112 = some (7, (ac_fraction_Of 147 100 75).strip, [.cell 2 3 true]) := by kernel_rfl
theorem s112 : Sound Tryz.prog 112 (.dat false rof_G) := by
  apply rof_sound (hc := c112) h58 <;> first | exact (rfl : @Eq Spec _ _) | skip
  all_goals decide
def L59 : List (Nat × Spec) := (112, .dat false rof_G) :: L58
theorem h59 : Holds Tryz.prog (Gl L59) := holds_cons h58 s112
theorem c118 : check Tryz.prog 118 = some (67, (ac_integer_times 163).strip, [.tmp 4]) := by kernel_rfl
theorem s118 : Sound Tryz.prog 118 (.dat false times_G) := by
  apply times_sound (hc := c118) h59 <;> first | exact (rfl : @Eq Spec _ _) | skip
  all_goals decide
def L60 : List (Nat × Spec) := (118, .dat false times_G) :: L59
theorem h60 : Holds Tryz.prog (Gl L60) := holds_cons h59 s118
theorem c74 : check Tryz.prog 74 = some (16, (ac_integer_Mul 116 114 118 117).strip, [.cell 4 2 true]) := by kernel_rfl
theorem s74 : Sound Tryz.prog 74 (.dat false zmul_G) := by
  apply zmul_sound (hc := c74) h60 <;> first | exact (rfl : @Eq Spec _ _) | skip
  all_goals decide
def L61 : List (Nat × Spec) := (74, .dat false zmul_G) :: L60
theorem h61 : Holds Tryz.prog (Gl L61) := holds_cons h60 s74
theorem c27 : check Tryz.prog 27 = some (26, (ac_fraction_Mul 71 74 75).strip, [.cell 4 3 true]) := by kernel_rfl
theorem s27 : Sound Tryz.prog 27 (.dat false rmul_G) := by
  apply rmul_sound (hc := c27) h61 <;> first | exact (rfl : @Eq Spec _ _) | skip
  all_goals decide
def L62 : List (Nat × Spec) := (27, .dat false rmul_G) :: L61
theorem h62 : Holds Tryz.prog (Gl L62) := holds_cons h61 s27
theorem c76 : check Tryz.prog 76 = some (40, (ac_integer_Add 114 116 122 117 115 123).strip, [.cell 4 2 true]) := by kernel_rfl
theorem s76 : Sound Tryz.prog 76 (.dat false zadd_G) := by
  apply zadd_sound (hc := c76) h62 <;> first | exact (rfl : @Eq Spec _ _) | skip
  all_goals decide
def L63 : List (Nat × Spec) := (76, .dat false zadd_G) :: L62
theorem h63 : Holds Tryz.prog (Gl L63) := holds_cons h62 s76
theorem c26 : check Tryz.prog 26 = some (30, (ac_fraction_Add 71 74 76 75).strip, [.cell 4 3 true]) := by kernel_rfl
theorem s26 : Sound Tryz.prog 26 (.dat false radd_G) := by
  apply radd_sound (hc := c26) h63 <;> first | exact (rfl : @Eq Spec _ _) | skip
  all_goals decide
def L64 : List (Nat × Spec) := (26, .dat false radd_G) :: L63
theorem h64 : Holds Tryz.prog (Gl L64) := holds_cons h63 s26
theorem c81 : check Tryz.prog 81 = some (14, (ac_fraction_Neg 71 119 75).strip, [.cell 2 3 true]) := by kernel_rfl
theorem s81 : Sound Tryz.prog 81 (.dat false rneg_G) := by
  apply rneg_sound (hc := c81) h64 <;> first | exact (rfl : @Eq Spec _ _) | skip
  all_goals decide
def L65 : List (Nat × Spec) := (81, .dat false rneg_G) :: L64
theorem h65 : Holds Tryz.prog (Gl L65) := holds_cons h64 s81
theorem c53 : check Tryz.prog 53 = some (9, (ac_fraction_Sub 81 26).strip, [.cell 4 3 true]) := by kernel_rfl
theorem s53 : Sound Tryz.prog 53 (.dat false rsub_G) := by
  apply rsub_sound (hc := c53) h65 <;> first | exact (rfl : @Eq Spec _ _) | skip
  all_goals decide
def L66 : List (Nat × Spec) := (53, .dat false rsub_G) :: L65
theorem h66 : Holds Tryz.prog (Gl L66) := holds_cons h65 s53
theorem c126 : check Tryz.prog 126 = some (14, (ac_fraction_From 72 75 55).strip, [.cell 4 3 true, .tmp 5]) := by kernel_rfl
theorem s126 : Sound Tryz.prog 126 (.dat false (rfromE_G 55)) := by
  apply rfromE_sound (hc := c126) h66 <;> first | exact (rfl : @Eq Spec _ _) | skip
  all_goals decide
def L67 : List (Nat × Spec) := (126, .dat false (rfromE_G 55)) :: L66
theorem h67 : Holds Tryz.prog (Gl L67) := holds_cons h66 s126
theorem c80 : check Tryz.prog 80 = some (29, (ac_fraction_Div 71 74 126).strip, [.cell 4 3 true, .tmp 5]) := by kernel_rfl
theorem s80 : Sound Tryz.prog 80 (.dat false (rdivE_G 55)) := by
  apply rdivE_sound (hc := c80) h67 <;> first | exact (rfl : @Eq Spec _ _) | skip
  all_goals decide
def L68 : List (Nat × Spec) := (80, .dat false (rdivE_G 55)) :: L67
theorem h68 : Holds Tryz.prog (Gl L68) := holds_cons h67 s80
theorem c215 : check Tryz.prog 215 = some (17, (ac_turn_over 80).strip, [.cell 4 3 true]) := by kernel_rfl
theorem s215 : Sound Tryz.prog 215 (.dat false rover_G) := by
  apply rover_sound (hc := c215) h68 <;> first | exact (rfl : @Eq Spec _ _) | skip
  all_goals decide
def L69 : List (Nat × Spec) := (215, .dat false rover_G) :: L68
theorem h69 : Holds Tryz.prog (Gl L69) := holds_cons h68 s215
theorem c192 : check Tryz.prog 192 = some (32, (ac_turn_direction 112 27 26 53 215).strip, [.cell 2 3 true, .cell 3 3 true]) := by kernel_rfl
theorem s192 : Sound Tryz.prog 192 (.dat false tdir_G) := by
  apply tdir_sound (hc := c192) h69 <;> first | exact (rfl : @Eq Spec _ _) | skip
  all_goals decide
def L70 : List (Nat × Spec) := (192, .dat false tdir_G) :: L69
theorem h70 : Holds Tryz.prog (Gl L70) := holds_cons h69 s192
theorem c161 : check Tryz.prog 161 = some (19, (ac_turn_Cos 64 192).strip, [.cell 2 3 true, .tmp 3]) := by kernel_rfl
theorem s161 : Sound Tryz.prog 161 (.dat false (tcos_G 55)) := by
  apply tcos_sound (hc := c161) h70 <;> first | exact (rfl : @Eq Spec _ _) | skip
  all_goals decide
def L71 : List (Nat × Spec) := (161, .dat false (tcos_G 55)) :: L70
theorem h71 : Holds Tryz.prog (Gl L71) := holds_cons h70 s161
theorem c162 : check Tryz.prog 162 = some (19, (ac_turn_Sin 64 192).strip, [.cell 2 3 true, .tmp 3]) := by kernel_rfl
theorem s162 : Sound Tryz.prog 162 (.dat false (tsin_G 55)) := by
  apply tsin_sound (hc := c162) h71 <;> first | exact (rfl : @Eq Spec _ _) | skip
  all_goals decide
def L72 : List (Nat × Spec) := (162, .dat false (tsin_G 55)) :: L71
theorem h72 : Holds Tryz.prog (Gl L72) := holds_cons h71 s162
theorem c113 : check Tryz.prog 113 = some (29, (ac_pose_Direction 64 161 162 55).strip, [.cell 2 3 true, .cell 3 3 true, .tmp 4]) := by kernel_rfl
theorem s113 : Sound Tryz.prog 113 (.dat false (pdir_G 55)) := by
  apply pdir_sound (hc := c113) h72 <;> first | exact (rfl : @Eq Spec _ _) | skip
  all_goals decide
def L73 : List (Nat × Spec) := (113, .dat false (pdir_G 55)) :: L72
theorem h73 : Holds Tryz.prog (Gl L73) := holds_cons h72 s113
theorem c69 : check Tryz.prog 69 = some (38, (ac_pose_rotate 113 27 53 26).strip, [.cell 4 6 true, .tmp 5]) := by kernel_rfl
theorem s69 : Sound Tryz.prog 69 (.dat false (prot_G 55)) := by
  apply prot_sound (hc := c69) h73 <;> first | exact (rfl : @Eq Spec _ _) | skip
  all_goals decide
def L74 : List (Nat × Spec) := (69, .dat false (prot_G 55)) :: L73
theorem h74 : Holds Tryz.prog (Gl L74) := holds_cons h73 s69
theorem c70 : check Tryz.prog 70 = some (16, (ac_pose_add 26).strip, [.cell 4 6 true]) := by kernel_rfl
theorem s70 : Sound Tryz.prog 70 (.dat false pplus_G) := by
  apply pplus_sound (hc := c70) h74 <;> first | exact (rfl : @Eq Spec _ _) | skip
  all_goals decide
def L75 : List (Nat × Spec) := (70, .dat false pplus_G) :: L74
theorem h75 : Holds Tryz.prog (Gl L75) := holds_cons h74 s70
theorem c22 : check Tryz.prog 22 = some (33, (ac_pose_Apply 19 65 69 70 55).strip, [.cell 4 6 true, .tmp 5]) := by kernel_rfl
theorem s22 : Sound Tryz.prog 22 (.dat false (papp_G 55)) := by
  apply papp_sound (hc := c22) h75 <;> first | exact (rfl : @Eq Spec _ _) | skip
  all_goals decide
def L76 : List (Nat × Spec) := (22, .dat false (papp_G 55)) :: L75
theorem h76 : Holds Tryz.prog (Gl L76) := holds_cons h75 s22
theorem c49 : check Tryz.prog 49 = some (32, (ac_threepos_images 22).strip, [.tmp 4, .tmp 5]) := by kernel_rfl
theorem s49 : Sound Tryz.prog 49 (.dat false (pimgs_G 55)) := by
  apply pimgs_sound (hc := c49) h76 <;> first | exact (rfl : @Eq Spec _ _) | skip
  all_goals decide
def L77 : List (Nat × Spec) := (49, .dat false (pimgs_G 55)) :: L76
theorem h77 : Holds Tryz.prog (Gl L77) := holds_cons h76 s49
theorem c52 : check Tryz.prog 52 = some (16, (ac_threepos_sub 53).strip, [.cell 4 6 true]) := by kernel_rfl
theorem s52 : Sound Tryz.prog 52 (.dat false pless_G) := by
  apply pless_sound (hc := c52) h77 <;> first | exact (rfl : @Eq Spec _ _) | skip
  all_goals decide
def L78 : List (Nat × Spec) := (52, .dat false pless_G) :: L77
theorem h78 : Holds Tryz.prog (Gl L78) := holds_cons h77 s52
theorem c51 : check Tryz.prog 51 = some (16, (ac_threepos_cross 27 53).strip, [.cell 4 3 true]) := by kernel_rfl
theorem s51 : Sound Tryz.prog 51 (.dat false pcross_G) := by
  apply pcross_sound (hc := c51) h78 <;> first | exact (rfl : @Eq Spec _ _) | skip
  all_goals decide
def L79 : List (Nat × Spec) := (51, .dat false pcross_G) :: L78
theorem h79 : Holds Tryz.prog (Gl L79) := holds_cons h78 s51
theorem c68 : check Tryz.prog 68 = some (14, (ac_threepos_square 27 26).strip, [.cell 2 3 true]) := by kernel_rfl
theorem s68 : Sound Tryz.prog 68 (.dat false psq_G) := by
  apply psq_sound (hc := c68) h79 <;> first | exact (rfl : @Eq Spec _ _) | skip
  all_goals decide
def L80 : List (Nat × Spec) := (68, .dat false psq_G) :: L79
theorem h80 : Holds Tryz.prog (Gl L80) := holds_cons h79 s68
theorem c66 : check Tryz.prog 66 = some (89, (ac_threepos_circumcentre 52 112 51 27 24 68 53 80 26 55).strip, [.cell 2 6 true, .tmp 3]) := by kernel_rfl
theorem s66 : Sound Tryz.prog 66 (.dat false (pcirc_G 55)) := by
  apply pcirc_sound (hc := c66) h80 <;> first | exact (rfl : @Eq Spec _ _) | skip
  all_goals decide
def L81 : List (Nat × Spec) := (66, .dat false (pcirc_G 55)) :: L80
theorem h81 : Holds Tryz.prog (Gl L81) := holds_cons h80 s66
theorem c67 : check Tryz.prog 67 = some (6, (ac_threepos_clone 52).strip, [.cell 2 6 true]) := by kernel_rfl
theorem s67 : Sound Tryz.prog 67 (.dat false pclone_G) := by
  apply pclone_sound (hc := c67) h81 <;> first | exact (rfl : @Eq Spec _ _) | skip
  all_goals decide
def L82 : List (Nat × Spec) := (67, .dat false pclone_G) :: L81
theorem h82 : Holds Tryz.prog (Gl L82) := holds_cons h81 s67
theorem c20 : check Tryz.prog 20 = some (47, (ac_threepos_Centre 48 49 66 67 52 68).strip, [.cell 4 15 true, .tmp 5]) := by kernel_rfl
theorem s20 : Sound Tryz.prog 20 (.dat false (tcentre_G 55)) := by
  apply tcentre_sound (hc := c20) h82 <;> first | exact (rfl : @Eq Spec _ _) | skip
  all_goals decide
def L83 : List (Nat × Spec) := (20, .dat false (tcentre_G 55)) :: L82
theorem h83 : Holds Tryz.prog (Gl L83) := holds_cons h82 s20
theorem c25 : check Tryz.prog 25 = some (26, (ac_fraction_Cmp 71 74 73).strip, [.tmp 4]) := by kernel_rfl
theorem s25 : Sound Tryz.prog 25 (.dat true rcmp02_G) := by
  apply rcmpW_sound (hc := c25) h83 <;> first | exact (rfl : @Eq Spec _ _) | skip
  all_goals decide
def L84 : List (Nat × Spec) := (25, .dat true rcmp02_G) :: L83
theorem h84 : Holds Tryz.prog (Gl L84) := holds_cons h83 s25
theorem c29 : check Tryz.prog 29 = some (59, (ac_threepos_Passes 77 78 79 49 52 68 25 55).strip, [.tmp 4, .tmp 5]) := by kernel_rfl
theorem s29 : Sound Tryz.prog 29 (.dat false (tpasses_G 55)) := by
  apply tpasses_sound (hc := c29) h84 <;> first | exact (rfl : @Eq Spec _ _) | skip
  all_goals decide
def L85 : List (Nat × Spec) := (29, .dat false (tpasses_G 55)) :: L84
theorem h85 : Holds Tryz.prog (Gl L85) := holds_cons h84 s29
theorem c222 : check Tryz.prog 222 = some (15, ac_internal_strconv_small.strip, [.tmp 2]) := by kernel_rfl
theorem s222 : Sound Tryz.prog 222 (.dat false ssmall_G) := by
  apply ssmall_sound (hc := c222) h85 <;> first | exact (rfl : @Eq Spec _ _) | skip
  all_goals decide
def L86 : List (Nat × Spec) := (222, .dat false ssmall_G) :: L85
theorem h86 : Holds Tryz.prog (Gl L86) := holds_cons h85 s222
theorem c209 : check Tryz.prog 209 = some (54, (ac_internal_strconv_FormatInt 222 223 224 225).strip, [.tmp 4]) := by kernel_rfl
theorem s209 : Sound Tryz.prog 209 (.dat false sform_G) := by
  apply sform_sound (hc := c209) h86 <;> first | exact (rfl : @Eq Spec _ _) | skip
  all_goals decide
def L87 : List (Nat × Spec) := (209, .dat false sform_G) :: L86
theorem h87 : Holds Tryz.prog (Gl L87) := holds_cons h86 s209
theorem c180 : check Tryz.prog 180 = some (5, (ac_internal_strconv_Itoa 209).strip, [.tmp 2]) := by kernel_rfl
theorem s180 : Sound Tryz.prog 180 (.dat false sitoa_G) := by
  apply sitoa_sound (hc := c180) h87 <;> first | exact (rfl : @Eq Spec _ _) | skip
  all_goals decide
def L88 : List (Nat × Spec) := (180, .dat false sitoa_G) :: L87
theorem h88 : Holds Tryz.prog (Gl L88) := holds_cons h87 s180
theorem c149 : check Tryz.prog 149 = some (5, (ac_strconv_Itoa 180).strip, [.tmp 2]) := by kernel_rfl
theorem s149 : Sound Tryz.prog 149 (.dat false sitoa_G) := by
  apply sitoa2_sound (hc := c149) h88 <;> first | exact (rfl : @Eq Spec _ _) | skip
  all_goals decide
def L89 : List (Nat × Spec) := (149, .dat false sitoa_G) :: L88
theorem h89 : Holds Tryz.prog (Gl L89) := holds_cons h88 s149
theorem c151 : check Tryz.prog 151 = some (75, (ac_strings_Join 183 184 186).strip, [.tmp 4]) := by kernel_rfl
theorem s151 : Sound Tryz.prog 151 (.dat false sjoin_G) := by
  apply sjoin_sound (hc := c151) h89 <;> first | exact (rfl : @Eq Spec _ _) | skip
  all_goals decide
def L90 : List (Nat × Spec) := (151, .dat false sjoin_G) :: L89
theorem h90 : Holds Tryz.prog (Gl L90) := holds_cons h89 s151
theorem c101 : check Tryz.prog 101 = some (44, (ac_integer_Text 114 148 149 150 151 116).strip, [.tmp 2]) := by kernel_rfl
theorem s101 : Sound Tryz.prog 101 (.dat false ztext_G) := by
  apply ztext_sound (hc := c101) h90 <;> first | exact (rfl : @Eq Spec _ _) | skip
  all_goals decide
def L91 : List (Nat × Spec) := (101, .dat false ztext_G) :: L90
theorem h91 : Holds Tryz.prog (Gl L91) := holds_cons h90 s101
theorem c46 : check Tryz.prog 46 = some (22, (ac_fraction_Text 71 100 73 101).strip, [.tmp 2]) := by kernel_rfl
theorem s46 : Sound Tryz.prog 46 (.dat false rtext_G) := by
  apply rtext_sound (hc := c46) h91 <;> first | exact (rfl : @Eq Spec _ _) | skip
  all_goals decide
def L92 : List (Nat × Spec) := (46, .dat false rtext_G) :: L91
theorem h92 : Holds Tryz.prog (Gl L92) := holds_cons h91 s46
theorem c10 : check Tryz.prog 10 = some (58, (ac_linkworklaw46_awake 44 20 29 45 46).strip, [.tmp 0]) := by kernel_rfl
theorem s10 : Sound Tryz.prog 10 (.dat true awk46_G) := by
  apply awk46_sound (hc := c10) h92 <;> first | exact (rfl : @Eq Spec _ _) | skip
  all_goals decide
def L93 : List (Nat × Spec) := (10, .dat true awk46_G) :: L92
theorem h93 : Holds Tryz.prog (Gl L93) := holds_cons h92 s10
theorem c47 : check Tryz.prog 47 = some (40, ac_linkworkref17_Short.strip, [.tmp 2]) := by kernel_rfl
theorem s47 : Sound Tryz.prog 47 (.dat true pshort_G) := by
  apply pshort_sound (hc := c47) h93 <;> first | exact (rfl : @Eq Spec _ _) | skip
  all_goals decide
def L94 : List (Nat × Spec) := (47, .dat true pshort_G) :: L93
theorem h94 : Holds Tryz.prog (Gl L94) := holds_cons h93 s47
theorem c11 : check Tryz.prog 11 = some (10, (ac_linkworklaw46_short 47).strip, [.tmp 2]) := by kernel_rfl
theorem s11 : Sound Tryz.prog 11 (.dat true lshort_G) := by
  apply lshort_sound (hc := c11) h94 <;> first | exact (rfl : @Eq Spec _ _) | skip
  all_goals decide
def L95 : List (Nat × Spec) := (11, .dat true lshort_G) :: L94
theorem h95 : Holds Tryz.prog (Gl L95) := holds_cons h94 s11
theorem c12 : check Tryz.prog 12 = some (35, ac_linkworkref17_ShortPlace.strip, [.tmp 2]) := by kernel_rfl
theorem s12 : Sound Tryz.prog 12 (.dat true ashort_G) := by
  apply ashort_sound (hc := c12) h95 <;> first | exact (rfl : @Eq Spec _ _) | skip
  all_goals decide
def L96 : List (Nat × Spec) := (12, .dat true ashort_G) :: L95
theorem h96 : Holds Tryz.prog (Gl L96) := holds_cons h95 s12
theorem c103 : check Tryz.prog 103 = some (15, ac_linkworkref02_plain.strip, [.tmp 2]) := by kernel_rfl
theorem s103 : Sound Tryz.prog 103 (.dat true rplain_G) := by
  apply rplain02_sound (hc := c103) h96 <;> first | exact (rfl : @Eq Spec _ _) | skip
  all_goals decide
def L97 : List (Nat × Spec) := (103, .dat true rplain_G) :: L96
theorem h97 : Holds Tryz.prog (Gl L97) := holds_cons h96 s103
theorem c109 : check Tryz.prog 109 = some (38, (ac_linkworkref01_Add 155 156 157 146 158 159).strip, [.cell 4 2 true]) := by kernel_rfl
theorem s109 : Sound Tryz.prog 109 (.dat false zadd_G) := by
  apply zadd01_sound (hc := c109) h97 <;> first | exact (rfl : @Eq Spec _ _) | skip
  all_goals decide
def L98 : List (Nat × Spec) := (109, .dat false zadd_G) :: L97
theorem h98 : Holds Tryz.prog (Gl L98) := holds_cons h97 s109
theorem c153 : check Tryz.prog 153 = some (9, (ac_linkworkref01_Sub 144 109).strip, [.cell 4 2 true]) := by kernel_rfl
theorem s153 : Sound Tryz.prog 153 (.dat false zsub_G) := by
  apply zsub01_sound (hc := c153) h98 <;> first | exact (rfl : @Eq Spec _ _) | skip
  all_goals decide
def L99 : List (Nat × Spec) := (153, .dat false zsub_G) :: L98
theorem h99 : Holds Tryz.prog (Gl L99) := holds_cons h98 s153
theorem c104 : check Tryz.prog 104 = some (9, (ac_linkworkref01_Cmp 153 143).strip, [.tmp 4]) := by kernel_rfl
theorem s104 : Sound Tryz.prog 104 (.dat true zcmp01_G) := by
  apply zcmp01_sound (hc := c104) h99 <;> first | exact (rfl : @Eq Spec _ _) | skip
  all_goals decide
def L100 : List (Nat × Spec) := (104, .dat true zcmp01_G) :: L99
theorem h100 : Holds Tryz.prog (Gl L100) := holds_cons h99 s104
theorem c55 : check Tryz.prog 55 = some (36, (ac_linkworkref02_Valid 103 105 99 104).strip, [.tmp 2]) := by kernel_rfl
theorem s55 : Sound Tryz.prog 55 (.dat true rvalid_G) := by
  apply rvalid02_sound (hc := c55) h100 <;> first | exact (rfl : @Eq Spec _ _) | skip
  all_goals decide
def L101 : List (Nat × Spec) := (55, .dat true rvalid_G) :: L100
theorem h101 : Holds Tryz.prog (Gl L101) := holds_cons h100 s55
theorem c15 : check Tryz.prog 15 = some (11, (ac_threepos_valid 55).strip, [.tmp 2]) := by kernel_rfl
theorem s15 : Sound Tryz.prog 15 (.dat true pvalid_G) := by
  apply pvalid_sound (hc := c15) h101 <;> first | exact (rfl : @Eq Spec _ _) | skip
  all_goals decide
def L102 : List (Nat × Spec) := (15, .dat true pvalid_G) :: L101
theorem h102 : Holds Tryz.prog (Gl L102) := holds_cons h101 s15
theorem c166 : check Tryz.prog 166 = some (9, (ac_turn_neg 81).strip, [.cell 2 4 true]) := by kernel_rfl
theorem s166 : Sound Tryz.prog 166 (.dat false tneg_G) := by
  apply tneg_sound (hc := c166) h102 <;> first | exact (rfl : @Eq Spec _ _) | skip
  all_goals decide
def L103 : List (Nat × Spec) := (166, .dat false tneg_G) :: L102
theorem h103 : Holds Tryz.prog (Gl L103) := holds_cons h102 s166
theorem c128 : check Tryz.prog 128 = some (13, (ac_turn_Neg 64 166).strip, [.cell 2 4 true, .tmp 3]) := by kernel_rfl
theorem s128 : Sound Tryz.prog 128 (.dat false (ptneg_G 55)) := by
  apply ptneg_sound (hc := c128) h103 <;> first | exact (rfl : @Eq Spec _ _) | skip
  all_goals decide
def L104 : List (Nat × Spec) := (128, .dat false (ptneg_G 55)) :: L103
theorem h104 : Holds Tryz.prog (Gl L104) := holds_cons h103 s128
theorem c129 : check Tryz.prog 129 = some (10, (ac_pose_neg 81).strip, [.cell 2 6 true]) := by kernel_rfl
theorem s129 : Sound Tryz.prog 129 (.dat false pneg_G) := by
  apply pneg_sound (hc := c129) h104 <;> first | exact (rfl : @Eq Spec _ _) | skip
  all_goals decide
def L105 : List (Nat × Spec) := (129, .dat false pneg_G) :: L104
theorem h105 : Holds Tryz.prog (Gl L105) := holds_cons h104 s129
theorem c86 : check Tryz.prog 86 = some (37, (ac_pose_Inverse 19 128 129 69 55).strip, [.cell 2 10 true, .tmp 3]) := by kernel_rfl
theorem s86 : Sound Tryz.prog 86 (.dat false (pinv_G 55)) := by
  apply pinv_sound (hc := c86) h105 <;> first | exact (rfl : @Eq Spec _ _) | skip
  all_goals decide
def L106 : List (Nat × Spec) := (86, .dat false (pinv_G 55)) :: L105
theorem h106 : Holds Tryz.prog (Gl L106) := holds_cons h105 s86
theorem c35 : check Tryz.prog 35 = some (72, (ac_threepos_Moving 48 86 49 66 67 52 68).strip, [.cell 4 15 true, .tmp 5]) := by kernel_rfl
theorem s35 : Sound Tryz.prog 35 (.dat false (tmoving_G 55)) := by
  apply tmoving_sound (hc := c35) h106 <;> first | exact (rfl : @Eq Spec _ _) | skip
  all_goals decide
def L107 : List (Nat × Spec) := (35, .dat false (tmoving_G 55)) :: L106
theorem h107 : Holds Tryz.prog (Gl L107) := holds_cons h106 s35
theorem c17 : check Tryz.prog 17 = some (15, (ac_linkworkbase_Num 55).strip, [.tmp 2]) := by kernel_rfl
theorem s17 : Sound Tryz.prog 17 (.dat true (bnum_G 55)) := by
  apply bnum_sound (hc := c17) h107 <;> first | exact (rfl : @Eq Spec _ _) | skip
  all_goals decide
def L108 : List (Nat × Spec) := (17, .dat true (bnum_G 55)) :: L107
theorem h108 : Holds Tryz.prog (Gl L108) := holds_cons h107 s17
theorem c21 : check Tryz.prog 21 = some (9, (ac_linkworkbase_Is 17).strip, [.tmp 4]) := by kernel_rfl
theorem s21 : Sound Tryz.prog 21 (.dat true (bis_G 55)) := by
  apply bis_sound (hc := c21) h108 <;> first | exact (rfl : @Eq Spec _ _) | skip
  all_goals decide
def L109 : List (Nat × Spec) := (21, .dat true (bis_G 55)) :: L108
theorem h109 : Holds Tryz.prog (Gl L109) := holds_cons h108 s21
theorem c111 : check Tryz.prog 111 = some (26, ac_linkworkbase_Words.strip, [.tmp 4]) := by kernel_rfl
theorem s111 : Sound Tryz.prog 111 (.dat true bwords_G) := by
  apply bwords_sound (hc := c111) h109 <;> first | exact (rfl : @Eq Spec _ _) | skip
  all_goals decide
def L110 : List (Nat × Spec) := (111, .dat true bwords_G) :: L109
theorem h110 : Holds Tryz.prog (Gl L110) := holds_cons h109 s111
theorem c63 : check Tryz.prog 63 = some (24, (ac_linkworkbase_Rat 111).strip, [.tmp 4]) := by kernel_rfl
theorem s63 : Sound Tryz.prog 63 (.dat true brat_G) := by
  apply brat_sound (hc := c63) h110 <;> first | exact (rfl : @Eq Spec _ _) | skip
  all_goals decide
def L111 : List (Nat × Spec) := (63, .dat true brat_G) :: L110
theorem h111 : Holds Tryz.prog (Gl L111) := holds_cons h110 s63
theorem c23 : check Tryz.prog 23 = some (17, (ac_linkworklaw38_Same 63).strip, [.tmp 4]) := by kernel_rfl
theorem s23 : Sound Tryz.prog 23 (.dat true lsame_G) := by
  apply lsame_sound (hc := c23) h111 <;> first | exact (rfl : @Eq Spec _ _) | skip
  all_goals decide
def L112 : List (Nat × Spec) := (23, .dat true lsame_G) :: L111
theorem h112 : Holds Tryz.prog (Gl L112) := holds_cons h111 s23
theorem c108 : check Tryz.prog 108 = some (23, (ac_linkworkref02_Parts 55 99).strip, [.cell 2 2 true, .cell 3 2 true]) := by kernel_rfl
theorem s108 : Sound Tryz.prog 108 (.dat false rparts_G) := by
  apply rparts02_sound (hc := c108) h112 <;> first | exact (rfl : @Eq Spec _ _) | skip
  all_goals decide
def L113 : List (Nat × Spec) := (108, .dat false rparts_G) :: L112
theorem h113 : Holds Tryz.prog (Gl L113) := holds_cons h112 s108
theorem c107 : check Tryz.prog 107 = some (14, (ac_fraction_Neg 108 144 97).strip, [.cell 2 3 true]) := by kernel_rfl
theorem s107 : Sound Tryz.prog 107 (.dat false rneg_G) := by
  apply rneg_sound (hc := c107) h113 <;> first | exact (rfl : @Eq Spec _ _) | skip
  all_goals decide
def L114 : List (Nat × Spec) := (107, .dat false rneg_G) :: L113
theorem h114 : Holds Tryz.prog (Gl L114) := holds_cons h113 s107
theorem c160 : check Tryz.prog 160 = some (68, (ac_linkworkref01_times 179).strip, [.tmp 4]) := by kernel_rfl
theorem s160 : Sound Tryz.prog 160 (.dat false times_G) := by
  apply times01_sound (hc := c160) h114 <;> first | exact (rfl : @Eq Spec _ _) | skip
  all_goals decide
def L115 : List (Nat × Spec) := (160, .dat false times_G) :: L114
theorem h115 : Holds Tryz.prog (Gl L115) := holds_cons h114 s160
theorem c110 : check Tryz.prog 110 = some (16, (ac_integer_Mul 156 155 160 146).strip, [.cell 4 2 true]) := by kernel_rfl
theorem s110 : Sound Tryz.prog 110 (.dat false zmul_G) := by
  apply zmul_sound (hc := c110) h115 <;> first | exact (rfl : @Eq Spec _ _) | skip
  all_goals decide
def L116 : List (Nat × Spec) := (110, .dat false zmul_G) :: L115
theorem h116 : Holds Tryz.prog (Gl L116) := holds_cons h115 s110
theorem c61 : check Tryz.prog 61 = some (30, (ac_fraction_Add 108 110 109 97).strip, [.cell 4 3 true]) := by kernel_rfl
theorem s61 : Sound Tryz.prog 61 (.dat false radd_G) := by
  apply radd_sound (hc := c61) h116 <;> first | exact (rfl : @Eq Spec _ _) | skip
  all_goals decide
def L117 : List (Nat × Spec) := (61, .dat false radd_G) :: L116
theorem h117 : Holds Tryz.prog (Gl L117) := holds_cons h116 s61
theorem c60 : check Tryz.prog 60 = some (9, (ac_fraction_Sub 107 61).strip, [.cell 4 3 true]) := by kernel_rfl
theorem s60 : Sound Tryz.prog 60 (.dat false rsub_G) := by
  apply rsub_sound (hc := c60) h117 <;> first | exact (rfl : @Eq Spec _ _) | skip
  all_goals decide
def L118 : List (Nat × Spec) := (60, .dat false rsub_G) :: L117
theorem h118 : Holds Tryz.prog (Gl L118) := holds_cons h117 s60
theorem c40 : check Tryz.prog 40 = some (16, (ac_threepos_sub 60).strip, [.cell 4 6 true]) := by kernel_rfl
theorem s40 : Sound Tryz.prog 40 (.dat false pless_G) := by
  apply pless_sound (hc := c40) h118 <;> first | exact (rfl : @Eq Spec _ _) | skip
  all_goals decide
def L119 : List (Nat × Spec) := (40, .dat false pless_G) :: L118
theorem h119 : Holds Tryz.prog (Gl L119) := holds_cons h118 s40
theorem c62 : check Tryz.prog 62 = some (26, (ac_fraction_Mul 108 110 97).strip, [.cell 4 3 true]) := by kernel_rfl
theorem s62 : Sound Tryz.prog 62 (.dat false rmul_G) := by
  apply rmul_sound (hc := c62) h119 <;> first | exact (rfl : @Eq Spec _ _) | skip
  all_goals decide
def L120 : List (Nat × Spec) := (62, .dat false rmul_G) :: L119
theorem h120 : Holds Tryz.prog (Gl L120) := holds_cons h119 s62
theorem c39 : check Tryz.prog 39 = some (14, (ac_threepos_square 62 61).strip, [.cell 2 3 true]) := by kernel_rfl
theorem s39 : Sound Tryz.prog 39 (.dat false psq_G) := by
  apply psq_sound (hc := c39) h120 <;> first | exact (rfl : @Eq Spec _ _) | skip
  all_goals decide
def L121 : List (Nat × Spec) := (39, .dat false psq_G) :: L120
theorem h121 : Holds Tryz.prog (Gl L121) := holds_cons h120 s39
theorem c36 : check Tryz.prog 36 = some (24, (ac_linkworklaw46_equal 23 63).strip, [.tmp 4]) := by kernel_rfl
theorem s36 : Sound Tryz.prog 36 (.dat true dequal_G) := by
  apply dequal_sound (hc := c36) h121 <;> first | exact (rfl : @Eq Spec _ _) | skip
  all_goals decide
def L122 : List (Nat × Spec) := (36, .dat true dequal_G) :: L121
theorem h122 : Holds Tryz.prog (Gl L122) := holds_cons h121 s36
theorem c7 : check Tryz.prog 7 = some (161, (ac_linkworklaw46_ThreeposPasses 10 11 12 15 19 20 35 21 29 23 22 40 39 36).strip, [.tmp 6]) := by kernel_rfl
theorem s7 : Sound Tryz.prog 7 (.dat true lPasses_G) := by
  apply lPasses_sound (hc := c7) h122 <;> first | exact (rfl : @Eq Spec _ _) | skip
  all_goals decide
def L123 : List (Nat × Spec) := (7, .dat true lPasses_G) :: L122
theorem h123 : Holds Tryz.prog (Gl L123) := holds_cons h122 s7
theorem hold : Holds Tryz.prog (Gl L123) := h123
end Go.Abs
