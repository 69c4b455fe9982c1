/-
  The contracts of this seat's functions, gathered.
-/
import Derived.Test.YtkcleifemnineaaGreatChecked
import Derived.Test.YtkcleifemnineaaGreatBits
import Derived.KernelRfl
import Derived.Test.YtkcleifemnineaaGreatM12
set_option maxRecDepth 100000
set_option linter.unusedVariables false
namespace Go.Abs
open Go.Proofs
theorem cK174:check Tryz.prog 174=some (25,ac_linkworkref01_trim.strip,[.tmp 2]):=by kernel_rfl
theorem sK174:Sound Tryz.prog 174 (.fresh 1 tr01_G):=by
  apply tr01_sound (hc:=cK174) holds_nil <;> first | exact (rfl:@Eq Spec _ _) | skip
  all_goals decide
def L1:List (Nat×Spec):=(174,.fresh 1 tr01_G)::[]
theorem h1:Holds Tryz.prog (Gl L1):=holds_cons holds_nil sK174
theorem cK149:check Tryz.prog 149=some (14,(ac_linkworkref01_form 174).strip,[.cell 4 2 true]):=by kernel_rfl
theorem sK149:Sound Tryz.prog 149 (.dat false whole_G):=by
  apply form01_sound (hc:=cK149) h1 <;> first | exact (rfl:@Eq Spec _ _) | skip
  all_goals decide
def L2:List (Nat×Spec):=(149,.dat false whole_G)::L1
theorem h2:Holds Tryz.prog (Gl L2):=holds_cons h1 sK149
theorem cK138:check Tryz.prog 138=some (19,(ac_integer_Of 149).strip,[.cell 2 2 true]):=by kernel_rfl
theorem sK138:Sound Tryz.prog 138 (.dat false zof_G):=by
  apply zof_sound (hc:=cK138) h2 <;> first | exact (rfl:@Eq Spec _ _) | skip
  all_goals decide
def L3:List (Nat×Spec):=(138,.dat false zof_G)::L2
theorem h3:Holds Tryz.prog (Gl L3):=holds_cons h2 sK138
theorem cK178:check Tryz.prog 178=some (19,ac_integer_Valid.strip,[.tmp 2]):=by kernel_rfl
theorem sK178:Sound Tryz.prog 178 (.dat true zvalid_G):=by
  apply zvalid_sound (hc:=cK178) h3 <;> first | exact (rfl:@Eq Spec _ _) | skip
  all_goals decide
def L4:List (Nat×Spec):=(178,.dat true zvalid_G)::L3
theorem h4:Holds Tryz.prog (Gl L4):=holds_cons h3 sK178
theorem cK151:check Tryz.prog 151=some (8,(ac_integer_mag 178).strip,[.tmp 2]):=by kernel_rfl
theorem sK151:Sound Tryz.prog 151 (.dat false zmag_G):=by
  apply zmag_sound (hc:=cK151) h4 <;> first | exact (rfl:@Eq Spec _ _) | skip
  all_goals decide
def L5:List (Nat×Spec):=(151,.dat false zmag_G)::L4
theorem h5:Holds Tryz.prog (Gl L5):=holds_cons h4 sK151
theorem cK166:check Tryz.prog 166=some (9,(ac_integer_neg 178).strip,[.tmp 2]):=by kernel_rfl
theorem sK166:Sound Tryz.prog 166 (.dat true znegp_G):=by
  apply znegp_sound (hc:=cK166) h5 <;> first | exact (rfl:@Eq Spec _ _) | skip
  all_goals decide
def L6:List (Nat×Spec):=(166,.dat true znegp_G)::L5
theorem h6:Holds Tryz.prog (Gl L6):=holds_cons h5 sK166
theorem cK132:check Tryz.prog 132=some (9,(ac_linkworkref01_Sign 151 166).strip,[.tmp 2]):=by kernel_rfl
theorem sK132:Sound Tryz.prog 132 (.dat true zsign_G):=by
  apply zsign01_sound (hc:=cK132) h6 <;> first | exact (rfl:@Eq Spec _ _) | skip
  all_goals decide
def L7:List (Nat×Spec):=(132,.dat true zsign_G)::L6
theorem h7:Holds Tryz.prog (Gl L7):=holds_cons h6 sK132
theorem cK139:check Tryz.prog 139=some (9,(ac_integer_Neg 166 151 149).strip,[.cell 2 2 true]):=by kernel_rfl
theorem sK139:Sound Tryz.prog 139 (.dat false zneg_G):=by
  apply zneg_sound (hc:=cK139) h7 <;> first | exact (rfl:@Eq Spec _ _) | skip
  all_goals decide
def L8:List (Nat×Spec):=(139,.dat false zneg_G)::L7
theorem h8:Holds Tryz.prog (Gl L8):=holds_cons h7 sK139
theorem cK195:check Tryz.prog 195=some (14,ac_integer_word.strip,[.tmp 4]):=by kernel_rfl
theorem sK195:Sound Tryz.prog 195 (.dat true word_G):=by
  apply word_sound (hc:=cK195) h8 <;> first | exact (rfl:@Eq Spec _ _) | skip
  all_goals decide
def L9:List (Nat×Spec):=(195,.dat true word_G)::L8
theorem h9:Holds Tryz.prog (Gl L9):=holds_cons h8 sK195
theorem cK177:check Tryz.prog 177=some (21,ac_linkworkref01_cut.strip,[.tmp 2]):=by kernel_rfl
theorem sK177:Sound Tryz.prog 177 (.own cut_G):=by
  apply cut_sound (hc:=cK177) h9 <;> first | exact (rfl:@Eq Spec _ _) | skip
  all_goals decide
def L10:List (Nat×Spec):=(177,.own cut_G)::L9
theorem h10:Holds Tryz.prog (Gl L10):=holds_cons h9 sK177
theorem cK175:check Tryz.prog 175=some (26,(ac_linkworkref01_halve 195 177).strip,[.tmp 2]):=by kernel_rfl
theorem sK175:Sound Tryz.prog 175 (.own halve_G):=by
  apply halve_sound (hc:=cK175) h10 <;> first | exact (rfl:@Eq Spec _ _) | skip
  all_goals decide
def L11:List (Nat×Spec):=(175,.own halve_G)::L10
theorem h11:Holds Tryz.prog (Gl L11):=holds_cons h10 sK175
theorem cK172:check Tryz.prog 172=some (30,(ac_linkworkref01_compare 195).strip,[.tmp 4]):=by kernel_rfl
theorem sK172:Sound Tryz.prog 172 (.dat true cmp01_G):=by
  apply cmp01_sound (hc:=cK172) h11 <;> first | exact (rfl:@Eq Spec _ _) | skip
  all_goals decide
def L12:List (Nat×Spec):=(172,.dat true cmp01_G)::L11
theorem h12:Holds Tryz.prog (Gl L12):=holds_cons h11 sK172
theorem cK176:check Tryz.prog 176=some (31,(ac_linkworkref01_take 195).strip,[]):=by kernel_rfl
theorem sK176:Sound Tryz.prog 176 (.own take_G):=by
  apply take_sound (hc:=cK176) h12 <;> first | exact (rfl:@Eq Spec _ _) | skip
  all_goals decide
def L13:List (Nat×Spec):=(176,.own take_G)::L12
theorem h13:Holds Tryz.prog (Gl L13):=holds_cons h12 sK176
theorem cK171:check Tryz.prog 171=some (37,(ac_linkworkref01_plus 195 174).strip,[.tmp 4]):=by kernel_rfl
theorem sK171:Sound Tryz.prog 171 (.dat false plus_G):=by
  apply plus01_sound (hc:=cK171) h13 <;> first | exact (rfl:@Eq Spec _ _) | skip
  all_goals decide
def L14:List (Nat×Spec):=(171,.dat false plus_G)::L13
theorem h14:Holds Tryz.prog (Gl L14):=holds_cons h13 sK171
theorem cK150:check Tryz.prog 150=some (72,(ac_linkworkref01_gcd 174 175 172 176 177 171).strip,[.tmp 4]):=by kernel_rfl
theorem sK150:Sound Tryz.prog 150 (.dat false gcd01_G):=by
  apply gcd01_sound (hc:=cK150) h14 <;> first | exact (rfl:@Eq Spec _ _) | skip
  all_goals decide
def L15:List (Nat×Spec):=(150,.dat false gcd01_G)::L14
theorem h15:Holds Tryz.prog (Gl L15):=holds_cons h14 sK150
theorem cK104:check Tryz.prog 104=some (11,(ac_linkworkref01_Gcd 151 150 149).strip,[.cell 4 2 true]):=by kernel_rfl
theorem sK104:Sound Tryz.prog 104 (.dat false zgcd_G):=by
  apply zgcd01_sound (hc:=cK104) h15 <;> first | exact (rfl:@Eq Spec _ _) | skip
  all_goals decide
def L16:List (Nat×Spec):=(104,.dat false zgcd_G)::L15
theorem h16:Holds Tryz.prog (Gl L16):=holds_cons h15 sK104
theorem cK202:check Tryz.prog 202=some (25,ac_linkworkref01_bits.strip,[.tmp 2]):=by kernel_rfl
theorem sK202:Sound Tryz.prog 202 (.dat true bits01_G):=by
  apply bits01_sound (hc:=cK202) h16 <;> first | exact (rfl:@Eq Spec _ _) | skip
  all_goals decide
def L17:List (Nat×Spec):=(202,.dat true bits01_G)::L16
theorem h17:Holds Tryz.prog (Gl L17):=holds_cons h16 sK202
theorem cK194:check Tryz.prog 194=some (76,(ac_linkworkref01_divide 202 172 176 174).strip,[.tmp 4,.tmp 5]):=by kernel_rfl
theorem sK194:Sound Tryz.prog 194 (.dat false divide_G):=by
  apply divide01_sound (hc:=cK194) h17 <;> first | exact (rfl:@Eq Spec _ _) | skip
  all_goals decide
def L18:List (Nat×Spec):=(194,.dat false divide_G)::L17
theorem h18:Holds Tryz.prog (Gl L18):=holds_cons h17 sK194
theorem cK173:check Tryz.prog 173=some (35,(ac_linkworkref01_minus 195 174).strip,[.tmp 4]):=by kernel_rfl
theorem sK173:Sound Tryz.prog 173 (.dat false less_G):=by
  apply minus01_sound (hc:=cK173) h18 <;> first | exact (rfl:@Eq Spec _ _) | skip
  all_goals decide
def L19:List (Nat×Spec):=(173,.dat false less_G)::L18
theorem h19:Holds Tryz.prog (Gl L19):=holds_cons h18 sK173
theorem cK169:check Tryz.prog 169=some (45,(ac_linkworkref01_Div 132 151 194 166 171 173 149).strip,[.cell 4 2 true,.cell 5 2 true,.tmp 6]):=by kernel_rfl
theorem sK169:Sound Tryz.prog 169 (.dat false zdiv01_G):=by
  apply zdiv01_sound (hc:=cK169) h19 <;> first | exact (rfl:@Eq Spec _ _) | skip
  all_goals decide
def L20:List (Nat×Spec):=(169,.dat false zdiv01_G)::L19
theorem h20:Holds Tryz.prog (Gl L20):=holds_cons h19 sK169
theorem cK137:check Tryz.prog 137=some (47,(ac_linkworkref02_form 132 139 104 169).strip,[.cell 4 3 true]):=by kernel_rfl
theorem sK137:Sound Tryz.prog 137 (.dat false rform_G):=by
  apply rform02_sound (hc:=cK137) h20 <;> first | exact (rfl:@Eq Spec _ _) | skip
  all_goals decide
def L21:List (Nat×Spec):=(137,.dat false rform_G)::L20
theorem h21:Holds Tryz.prog (Gl L21):=holds_cons h20 sK137
theorem cK144:check Tryz.prog 144=some (13,(ac_linkworkref02_From 132 137).strip,[.cell 4 3 true,.tmp 5]):=by kernel_rfl
theorem sK144:Sound Tryz.prog 144 (.dat false rfromN_G):=by
  apply rfromN_sound (hc:=cK144) h21 <;> first | exact (rfl:@Eq Spec _ _) | skip
  all_goals decide
def L22:List (Nat×Spec):=(144,.dat false rfromN_G)::L21
theorem h22:Holds Tryz.prog (Gl L22):=holds_cons h21 sK144
theorem cK111:check Tryz.prog 111=some (13,(ac_linkworkref02_Make 138 144).strip,[.cell 4 3 true,.tmp 5]):=by kernel_rfl
theorem sK111:Sound Tryz.prog 111 (.dat false rmake_G):=by
  apply rmakeN_sound (hc:=cK111) h22 <;> first | exact (rfl:@Eq Spec _ _) | skip
  all_goals decide
def L23:List (Nat×Spec):=(111,.dat false rmake_G)::L22
theorem h23:Holds Tryz.prog (Gl L23):=holds_cons h22 sK111
theorem cK105:check Tryz.prog 105=some (2,(ac_fraction_one 138).strip,[.cell 0 2 true]):=by kernel_rfl
theorem sK105:Sound Tryz.prog 105 (.dat false rone_G):=by
  apply rone_sound (hc:=cK105) h23 <;> first | exact (rfl:@Eq Spec _ _) | skip
  all_goals decide
def L24:List (Nat×Spec):=(105,.dat false rone_G)::L23
theorem h24:Holds Tryz.prog (Gl L24):=holds_cons h23 sK105
theorem cK73:check Tryz.prog 73=some (7,(ac_fraction_Of 138 105 137).strip,[.cell 2 3 true]):=by kernel_rfl
theorem sK73:Sound Tryz.prog 73 (.dat false rof_G):=by
  apply rof_sound (hc:=cK73) h24 <;> first | exact (rfl:@Eq Spec _ _) | skip
  all_goals decide
def L25:List (Nat×Spec):=(73,.dat false rof_G)::L24
theorem h25:Holds Tryz.prog (Gl L25):=holds_cons h24 sK73
theorem cK51:check Tryz.prog 51=some (10,(ac_linkworklaw38_of 73).strip,[.cell 4 6 true]):=by kernel_rfl
theorem sK51:Sound Tryz.prog 51 (.dat false lof_G):=by
  apply lof_sound (hc:=cK51) h25 <;> first | exact (rfl:@Eq Spec _ _) | skip
  all_goals decide
def L26:List (Nat×Spec):=(51,.dat false lof_G)::L25
theorem h26:Holds Tryz.prog (Gl L26):=holds_cons h25 sK51
theorem cK50:check Tryz.prog 50=some (15,(ac_linkworklaw38_Example 111 73 51).strip,[.cell 0 27 true]):=by kernel_rfl
theorem sK50:Sound Tryz.prog 50 (.dat false ex38_G):=by
  apply ex38_sound (hc:=cK50) h26 <;> first | exact (rfl:@Eq Spec _ _) | skip
  all_goals decide
def L27:List (Nat×Spec):=(50,.dat false ex38_G)::L26
theorem h27:Holds Tryz.prog (Gl L27):=holds_cons h26 sK50
theorem cK112:check Tryz.prog 112=some (19,ac_integer_Valid.strip,[.tmp 2]):=by kernel_rfl
theorem sK112:Sound Tryz.prog 112 (.dat true zvalid_G):=by
  apply zvalid_sound (hc:=cK112) h27 <;> first | exact (rfl:@Eq Spec _ _) | skip
  all_goals decide
def L28:List (Nat×Spec):=(112,.dat true zvalid_G)::L27
theorem h28:Holds Tryz.prog (Gl L28):=holds_cons h27 sK112
theorem cK125:check Tryz.prog 125=some (8,(ac_integer_mag 112).strip,[.tmp 2]):=by kernel_rfl
theorem sK125:Sound Tryz.prog 125 (.dat false zmag_G):=by
  apply zmag_sound (hc:=cK125) h28 <;> first | exact (rfl:@Eq Spec _ _) | skip
  all_goals decide
def L29:List (Nat×Spec):=(125,.dat false zmag_G)::L28
theorem h29:Holds Tryz.prog (Gl L29):=holds_cons h28 sK125
theorem cK124:check Tryz.prog 124=some (41,ac_integer_compare.strip,[.tmp 4]):=by kernel_rfl
theorem sK124:Sound Tryz.prog 124 (.dat false compare_G):=by
  apply compare_sound (hc:=cK124) h29 <;> first | exact (rfl:@Eq Spec _ _) | skip
  all_goals decide
def L30:List (Nat×Spec):=(124,.dat false compare_G)::L29
theorem h30:Holds Tryz.prog (Gl L30):=holds_cons h29 sK124
theorem cK163:check Tryz.prog 163=some (25,ac_integer_trim.strip,[.tmp 2]):=by kernel_rfl
theorem sK163:Sound Tryz.prog 163 (.dat false trim_G):=by
  apply trim_sound (hc:=cK163) h30 <;> first | exact (rfl:@Eq Spec _ _) | skip
  all_goals decide
def L31:List (Nat×Spec):=(163,.dat false trim_G)::L30
theorem h31:Holds Tryz.prog (Gl L31):=holds_cons h30 sK163
theorem cK182:check Tryz.prog 182=some (43,(ac_integer_short 163).strip,[.tmp 4,.tmp 5]):=by kernel_rfl
theorem sK182:Sound Tryz.prog 182 (.dat false short_G):=by
  apply short_sound (hc:=cK182) h31 <;> first | exact (rfl:@Eq Spec _ _) | skip
  all_goals decide
def L32:List (Nat×Spec):=(182,.dat false short_G)::L31
theorem h32:Holds Tryz.prog (Gl L32):=holds_cons h31 sK182
theorem sK183:Sound Tryz.prog 183 (.dat true lz_G):=sound_u32 (enters_of Tryz.func183 (by kernel_rfl) (by kernel_rfl)) lz_good lz_inv Tryz.bits_LeadingZeros32
def L33:List (Nat×Spec):=(183,.dat true lz_G)::L32
theorem h33:Holds Tryz.prog (Gl L33):=holds_cons h32 sK183
theorem cK184:check Tryz.prog 184=some (41,ac_integer_up.strip,[.tmp 4]):=by kernel_rfl
theorem sK184:Sound Tryz.prog 184 (.fresh 1 up_G):=by
  apply up_sound (hc:=cK184) h33 <;> first | exact (rfl:@Eq Spec _ _) | skip
  all_goals decide
def L34:List (Nat×Spec):=(184,.fresh 1 up_G)::L33
theorem h34:Holds Tryz.prog (Gl L34):=holds_cons h33 sK184
theorem cK193:check Tryz.prog 193=some (14,ac_integer_word.strip,[.tmp 4]):=by kernel_rfl
theorem sK193:Sound Tryz.prog 193 (.dat true word_G):=by
  apply word_sound (hc:=cK193) h34 <;> first | exact (rfl:@Eq Spec _ _) | skip
  all_goals decide
def L35:List (Nat×Spec):=(193,.dat true word_G)::L34
theorem h35:Holds Tryz.prog (Gl L35):=holds_cons h34 sK193
theorem cK185:check Tryz.prog 185=some (46,(ac_integer_remove 193).strip,[.tmp 6]):=by kernel_rfl
theorem sK185:Sound Tryz.prog 185 (.own remove_G):=by
  apply remove_sound (hc:=cK185) h35 <;> first | exact (rfl:@Eq Spec _ _) | skip
  all_goals decide
def L36:List (Nat×Spec):=(185,.own remove_G)::L35
theorem h36:Holds Tryz.prog (Gl L36):=holds_cons h35 sK185
theorem cK186:check Tryz.prog 186=some (30,(ac_integer_back 193).strip,[]):=by kernel_rfl
theorem sK186:Sound Tryz.prog 186 (.own back_G):=by
  apply back_sound (hc:=cK186) h36 <;> first | exact (rfl:@Eq Spec _ _) | skip
  all_goals decide
def L37:List (Nat×Spec):=(186,.own back_G)::L36
theorem h37:Holds Tryz.prog (Gl L37):=holds_cons h36 sK186
theorem cK187:check Tryz.prog 187=some (35,(ac_integer_down 193 163).strip,[.tmp 4]):=by kernel_rfl
theorem sK187:Sound Tryz.prog 187 (.dat false down_G):=by
  apply down_sound (hc:=cK187) h37 <;> first | exact (rfl:@Eq Spec _ _) | skip
  all_goals decide
def L38:List (Nat×Spec):=(187,.dat false down_G)::L37
theorem h38:Holds Tryz.prog (Gl L38):=holds_cons h37 sK187
theorem cK154:check Tryz.prog 154=some (158,(ac_integer_divide 124 163 182 183 184 185 186 187).strip,[.tmp 4,.tmp 5]):=by kernel_rfl
theorem sK154:Sound Tryz.prog 154 (.dat false divide_G):=by
  apply divide_sound (hc:=cK154) h38 <;> first | exact (rfl:@Eq Spec _ _) | skip
  all_goals decide
def L39:List (Nat×Spec):=(154,.dat false divide_G)::L38
theorem h39:Holds Tryz.prog (Gl L39):=holds_cons h38 sK154
theorem cK127:check Tryz.prog 127=some (15,(ac_integer_whole 163).strip,[.cell 4 2 true]):=by kernel_rfl
theorem sK127:Sound Tryz.prog 127 (.dat false whole_G):=by
  apply whole_sound (hc:=cK127) h39 <;> first | exact (rfl:@Eq Spec _ _) | skip
  all_goals decide
def L40:List (Nat×Spec):=(127,.dat false whole_G)::L39
theorem h40:Holds Tryz.prog (Gl L40):=holds_cons h39 sK127
theorem cK113:check Tryz.prog 113=some (26,(ac_integer_Gcd 125 154 127).strip,[.cell 4 2 true]):=by kernel_rfl
theorem sK113:Sound Tryz.prog 113 (.dat false zgcd_G):=by
  apply zgcd_sound (hc:=cK113) h40 <;> first | exact (rfl:@Eq Spec _ _) | skip
  all_goals decide
def L41:List (Nat×Spec):=(113,.dat false zgcd_G)::L40
theorem h41:Holds Tryz.prog (Gl L41):=holds_cons h40 sK113
theorem cK65:check Tryz.prog 65=some (19,(ac_integer_Of 127).strip,[.cell 2 2 true]):=by kernel_rfl
theorem sK65:Sound Tryz.prog 65 (.dat false zof_G):=by
  apply zof_sound (hc:=cK65) h41 <;> first | exact (rfl:@Eq Spec _ _) | skip
  all_goals decide
def L42:List (Nat×Spec):=(65,.dat false zof_G)::L41
theorem h42:Holds Tryz.prog (Gl L42):=holds_cons h41 sK65
theorem cK66:check Tryz.prog 66=some (2,(ac_fraction_one 65).strip,[.cell 0 2 true]):=by kernel_rfl
theorem sK66:Sound Tryz.prog 66 (.dat false rone_G):=by
  apply rone_sound (hc:=cK66) h42 <;> first | exact (rfl:@Eq Spec _ _) | skip
  all_goals decide
def L43:List (Nat×Spec):=(66,.dat false rone_G)::L42
theorem h43:Holds Tryz.prog (Gl L43):=holds_cons h42 sK66
theorem cK98:check Tryz.prog 98=some (11,(ac_integer_Sign 125).strip,[.tmp 2]):=by kernel_rfl
theorem sK98:Sound Tryz.prog 98 (.dat true zsign_G):=by
  apply zsign_sound (hc:=cK98) h43 <;> first | exact (rfl:@Eq Spec _ _) | skip
  all_goals decide
def L44:List (Nat×Spec):=(98,.dat true zsign_G)::L43
theorem h44:Holds Tryz.prog (Gl L44):=holds_cons h43 sK98
theorem cK126:check Tryz.prog 126=some (9,(ac_integer_neg 112).strip,[.tmp 2]):=by kernel_rfl
theorem sK126:Sound Tryz.prog 126 (.dat true znegp_G):=by
  apply znegp_sound (hc:=cK126) h44 <;> first | exact (rfl:@Eq Spec _ _) | skip
  all_goals decide
def L45:List (Nat×Spec):=(126,.dat true znegp_G)::L44
theorem h45:Holds Tryz.prog (Gl L45):=holds_cons h44 sK126
theorem cK62:check Tryz.prog 62=some (28,(ac_integer_Cmp 98 125 124 126).strip,[.tmp 4]):=by kernel_rfl
theorem sK62:Sound Tryz.prog 62 (.dat true zcmp_G):=by
  apply zcmp_sound (hc:=cK62) h45 <;> first | exact (rfl:@Eq Spec _ _) | skip
  all_goals decide
def L46:List (Nat×Spec):=(62,.dat true zcmp_G)::L45
theorem h46:Holds Tryz.prog (Gl L46):=holds_cons h45 sK62
theorem cK53:check Tryz.prog 53=some (50,(ac_fraction_Valid 112 113 66 62).strip,[.tmp 2]):=by kernel_rfl
theorem sK53:Sound Tryz.prog 53 (.dat true rvalid_G):=by
  apply rvalid_sound (hc:=cK53) h46 <;> first | exact (rfl:@Eq Spec _ _) | skip
  all_goals decide
def L47:List (Nat×Spec):=(53,.dat true rvalid_G)::L46
theorem h47:Holds Tryz.prog (Gl L47):=holds_cons h46 sK53
theorem cK52:check Tryz.prog 52=some (11,(ac_coupler_valid 53).strip,[.tmp 2]):=by kernel_rfl
theorem sK52:Sound Tryz.prog 52 (.dat true pvalid_G):=by
  apply cvalid_sound (hc:=cK52) h47 <;> first | exact (rfl:@Eq Spec _ _) | skip
  all_goals decide
def L48:List (Nat×Spec):=(52,.dat true pvalid_G)::L47
theorem h48:Holds Tryz.prog (Gl L48):=holds_cons h47 sK52
theorem cK61:check Tryz.prog 61=some (28,(ac_fraction_Parts 53 66).strip,[.cell 2 2 true,.cell 3 2 true]):=by kernel_rfl
theorem sK61:Sound Tryz.prog 61 (.dat false rparts_G):=by
  apply rparts_sound (hc:=cK61) h48 <;> first | exact (rfl:@Eq Spec _ _) | skip
  all_goals decide
def L49:List (Nat×Spec):=(61,.dat false rparts_G)::L48
theorem h49:Holds Tryz.prog (Gl L49):=holds_cons h48 sK61
theorem cK36:check Tryz.prog 36=some (12,(ac_fraction_Sign 61 98).strip,[.tmp 2]):=by kernel_rfl
theorem sK36:Sound Tryz.prog 36 (.dat true rsign_G):=by
  apply rsign_sound (hc:=cK36) h49 <;> first | exact (rfl:@Eq Spec _ _) | skip
  all_goals decide
def L50:List (Nat×Spec):=(36,.dat true rsign_G)::L49
theorem h50:Holds Tryz.prog (Gl L50):=holds_cons h49 sK36
theorem cK128:check Tryz.prog 128=some (67,(ac_integer_times 163).strip,[.tmp 4]):=by kernel_rfl
theorem sK128:Sound Tryz.prog 128 (.dat false times_G):=by
  apply times_sound (hc:=cK128) h50 <;> first | exact (rfl:@Eq Spec _ _) | skip
  all_goals decide
def L51:List (Nat×Spec):=(128,.dat false times_G)::L50
theorem h51:Holds Tryz.prog (Gl L51):=holds_cons h50 sK128
theorem cK63:check Tryz.prog 63=some (16,(ac_integer_Mul 126 125 128 127).strip,[.cell 4 2 true]):=by kernel_rfl
theorem sK63:Sound Tryz.prog 63 (.dat false zmul_G):=by
  apply zmul_sound (hc:=cK63) h51 <;> first | exact (rfl:@Eq Spec _ _) | skip
  all_goals decide
def L52:List (Nat×Spec):=(63,.dat false zmul_G)::L51
theorem h52:Holds Tryz.prog (Gl L52):=holds_cons h51 sK63
theorem cK15:check Tryz.prog 15=some (26,(ac_fraction_Cmp 61 63 62).strip,[.tmp 4]):=by kernel_rfl
theorem sK15:Sound Tryz.prog 15 (.dat true rcmp02_G):=by
  apply rcmpW_sound (hc:=cK15) h52 <;> first | exact (rfl:@Eq Spec _ _) | skip
  all_goals decide
def L53:List (Nat×Spec):=(15,.dat true rcmp02_G)::L52
theorem h53:Holds Tryz.prog (Gl L53):=holds_cons h52 sK15
theorem cK12:check Tryz.prog 12=some (75,(ac_coupler_Check 52 53 36 15 70).strip,[.tmp 2]):=by kernel_rfl
theorem sK12:Sound Tryz.prog 12 (.dat false (cpck_G 70)):=by
  apply cpck_sound (hc:=cK12) h53 <;> first | exact (rfl:@Eq Spec _ _) | skip
  all_goals decide
def L54:List (Nat×Spec):=(12,.dat false (cpck_G 70))::L53
theorem h54:Holds Tryz.prog (Gl L54):=holds_cons h53 sK12
theorem cK77:check Tryz.prog 77=some (24,(ac_coupler_check 12 52 70).strip,[.tmp 4]):=by kernel_rfl
theorem sK77:Sound Tryz.prog 77 (.dat false (cpcks_G 70)):=by
  apply cpcks_sound (hc:=cK77) h54 <;> first | exact (rfl:@Eq Spec _ _) | skip
  all_goals decide
def L55:List (Nat×Spec):=(77,.dat false (cpcks_G 70))::L54
theorem h55:Holds Tryz.prog (Gl L55):=holds_cons h54 sK77
theorem cK129:check Tryz.prog 129=some (9,(ac_integer_Neg 126 125 127).strip,[.cell 2 2 true]):=by kernel_rfl
theorem sK129:Sound Tryz.prog 129 (.dat false zneg_G):=by
  apply zneg_sound (hc:=cK129) h55 <;> first | exact (rfl:@Eq Spec _ _) | skip
  all_goals decide
def L56:List (Nat×Spec):=(129,.dat false zneg_G)::L55
theorem h56:Holds Tryz.prog (Gl L56):=holds_cons h55 sK129
theorem cK164:check Tryz.prog 164=some (39,(ac_integer_plus 193 163).strip,[.tmp 4]):=by kernel_rfl
theorem sK164:Sound Tryz.prog 164 (.dat false plus_G):=by
  apply plus_sound (hc:=cK164) h56 <;> first | exact (rfl:@Eq Spec _ _) | skip
  all_goals decide
def L57:List (Nat×Spec):=(164,.dat false plus_G)::L56
theorem h57:Holds Tryz.prog (Gl L57):=holds_cons h56 sK164
theorem cK165:check Tryz.prog 165=some (38,(ac_integer_less 193 163).strip,[.tmp 4]):=by kernel_rfl
theorem sK165:Sound Tryz.prog 165 (.dat false less_G):=by
  apply less_sound (hc:=cK165) h57 <;> first | exact (rfl:@Eq Spec _ _) | skip
  all_goals decide
def L58:List (Nat×Spec):=(165,.dat false less_G)::L57
theorem h58:Holds Tryz.prog (Gl L58):=holds_cons h57 sK165
theorem cK130:check Tryz.prog 130=some (47,(ac_integer_Div 125 154 126 164 165 127 70).strip,[.cell 4 2 true,.cell 5 2 true,.tmp 6]):=by kernel_rfl
theorem sK130:Sound Tryz.prog 130 (.dat false zdiv_G):=by
  apply zdiv_sound (hc:=cK130) h58 <;> first | exact (rfl:@Eq Spec _ _) | skip
  all_goals decide
def L59:List (Nat×Spec):=(130,.dat false zdiv_G)::L58
theorem h59:Holds Tryz.prog (Gl L59):=holds_cons h58 sK130
theorem cK64:check Tryz.prog 64=some (47,(ac_fraction_form 98 129 113 130).strip,[.cell 4 3 true]):=by kernel_rfl
theorem sK64:Sound Tryz.prog 64 (.dat false rform_G):=by
  apply rform_sound (hc:=cK64) h59 <;> first | exact (rfl:@Eq Spec _ _) | skip
  all_goals decide
def L60:List (Nat×Spec):=(64,.dat false rform_G)::L59
theorem h60:Holds Tryz.prog (Gl L60):=holds_cons h59 sK64
theorem cK16:check Tryz.prog 16=some (7,(ac_fraction_Of 65 66 64).strip,[.cell 2 3 true]):=by kernel_rfl
theorem sK16:Sound Tryz.prog 16 (.dat false rof_G):=by
  apply rof_sound (hc:=cK16) h60 <;> first | exact (rfl:@Eq Spec _ _) | skip
  all_goals decide
def L61:List (Nat×Spec):=(16,.dat false rof_G)::L60
theorem h61:Holds Tryz.prog (Gl L61):=holds_cons h60 sK16
theorem cK81:check Tryz.prog 81=some (14,(ac_fraction_Neg 61 129 64).strip,[.cell 2 3 true]):=by kernel_rfl
theorem sK81:Sound Tryz.prog 81 (.dat false rneg_G):=by
  apply rneg_sound (hc:=cK81) h61 <;> first | exact (rfl:@Eq Spec _ _) | skip
  all_goals decide
def L62:List (Nat×Spec):=(81,.dat false rneg_G)::L61
theorem h62:Holds Tryz.prog (Gl L62):=holds_cons h61 sK81
theorem cK122:check Tryz.prog 122=some (29,ac_bipoly_inside.strip,[.tmp 2]):=by kernel_rfl
theorem sK122:Sound Tryz.prog 122 (.dat true binside_G):=by
  apply binside_sound (hc:=cK122) h62 <;> first | exact (rfl:@Eq Spec _ _) | skip
  all_goals decide
def L63:List (Nat×Spec):=(122,.dat true binside_G)::L62
theorem h63:Holds Tryz.prog (Gl L63):=holds_cons h62 sK122
theorem cK159:check Tryz.prog 159=some (8,ac_slices_Clone_gT.strip,[.tmp 2]):=by kernel_rfl
theorem sK159:Sound Tryz.prog 159 (.fresh 5 cloneM_G):=by
  apply clone_soundM (hc:=cK159) h63 <;> first | exact (rfl:@Eq Spec _ _) | skip
  all_goals decide
def L64:List (Nat×Spec):=(159,.fresh 5 cloneM_G)::L63
theorem h64:Holds Tryz.prog (Gl L64):=holds_cons h63 sK159
theorem cK192:check Tryz.prog 192=some (6,ac_cmp_isNaN_g.strip,[.tmp 2]):=by kernel_rfl
theorem sK192:Sound Tryz.prog 192 (.dat true cnan_G):=by
  apply cnan_sound (hc:=cK192) h64 <;> first | exact (rfl:@Eq Spec _ _) | skip
  all_goals decide
def L65:List (Nat×Spec):=(192,.dat true cnan_G)::L64
theorem h65:Holds Tryz.prog (Gl L65):=holds_cons h64 sK192
theorem cK162:check Tryz.prog 162=some (20,(ac_cmp_Compare_g 192).strip,[.tmp 4]):=by kernel_rfl
theorem sK162:Sound Tryz.prog 162 (.dat true ccmp_G):=by
  apply ccmp_sound (hc:=cK162) h65 <;> first | exact (rfl:@Eq Spec _ _) | skip
  all_goals decide
def L66:List (Nat×Spec):=(162,.dat true ccmp_G)::L65
theorem h66:Holds Tryz.prog (Gl L66):=holds_cons h65 sK162
theorem cK161:check Tryz.prog 161=some (18,ac_cmp_Or_g.strip,[.tmp 2]):=by kernel_rfl
theorem sK161:Sound Tryz.prog 161 (.dat true cor_G):=by
  apply cor_sound (hc:=cK161) h66 <;> first | exact (rfl:@Eq Spec _ _) | skip
  all_goals decide
def L67:List (Nat×Spec):=(161,.dat true cor_G)::L66
theorem h67:Holds Tryz.prog (Gl L67):=holds_cons h66 sK161
theorem cK123:check Tryz.prog 123=some (23,(ac_bipoly_order 162 161).strip,[.tmp 4]):=by kernel_rfl
theorem sK123:Sound Tryz.prog 123 (.dat true ordm_G):=by
  apply order_soundM (hc:=cK123) h67 <;> first | exact (rfl:@Eq Spec _ _) | skip
  all_goals decide
def L68:List (Nat×Spec):=(123,.dat true ordm_G)::L67
theorem h68:Holds Tryz.prog (Gl L68):=holds_cons h67 sK123
theorem cK204:check Tryz.prog 204=some (53,ac_slices_insertionSortCmpFunc_gT.strip,[]):=by kernel_rfl
theorem sK204:Sound Tryz.prog 204 (.own (insM_G 123)):=by
  apply ins_soundM (hc:=cK204) h68 <;> first | exact (rfl:@Eq Spec _ _) | skip
  all_goals decide
def L69:List (Nat×Spec):=(204,.own (insM_G 123))::L68
theorem h69:Holds Tryz.prog (Gl L69):=holds_cons h68 sK204
theorem cK207:check Tryz.prog 207=some (38,ac_slices_swapRangeCmpFunc_gT.strip,[]):=by kernel_rfl
theorem sK207:Sound Tryz.prog 207 (.own (swpM_G 123)):=by
  apply swp_soundM (hc:=cK207) h69 <;> first | exact (rfl:@Eq Spec _ _) | skip
  all_goals decide
def L70:List (Nat×Spec):=(207,.own (swpM_G 123))::L69
theorem h70:Holds Tryz.prog (Gl L70):=holds_cons h69 sK207
theorem cK206:check Tryz.prog 206=some (58,(ac_slices_rotateCmpFunc_gT 207).strip,[]):=by kernel_rfl
theorem sK206:Sound Tryz.prog 206 (.own (rotM_G 123)):=by
  apply rot_soundM (hc:=cK206) h70 <;> first | exact (rfl:@Eq Spec _ _) | skip
  all_goals decide
def L71:List (Nat×Spec):=(206,.own (rotM_G 123))::L70
theorem h71:Holds Tryz.prog (Gl L71):=holds_cons h70 sK206
theorem cK205:check Tryz.prog 205=some (220,(ac_slices_symMergeCmpFunc_gT 206 205).strip,[]):=by kernel_rfl
theorem sK205:Sound Tryz.prog 205 (.own (mrgM_G 123 10000)):=by
  apply mrgrec_soundM (hc:=cK205) h71 <;> first | exact (rfl:@Eq Spec _ _) | skip
  all_goals decide
def L72:List (Nat×Spec):=(205,.own (mrgM_G 123 10000))::L71
theorem h72:Holds Tryz.prog (Gl L72):=holds_cons h71 sK205
theorem cK200:check Tryz.prog 200=some (63,(ac_slices_stableCmpFunc_gT 204 205).strip,[]):=by kernel_rfl
theorem sK200:Sound Tryz.prog 200 (.own (stabM_G 123 10000)):=by
  apply stab_soundM (hc:=cK200) h72 <;> first | exact (rfl:@Eq Spec _ _) | skip
  all_goals decide
def L73:List (Nat×Spec):=(200,.own (stabM_G 123 10000))::L72
theorem h73:Holds Tryz.prog (Gl L73):=holds_cons h72 sK200
theorem cK189:check Tryz.prog 189=some (9,(ac_slices_SortStableFunc_gT 200).strip,[]):=by kernel_rfl
theorem sK189:Sound Tryz.prog 189 (.own (sortM_G 123 10000)):=by
  apply sort_soundM (hc:=cK189) h73 <;> first | exact (rfl:@Eq Spec _ _) | skip
  all_goals decide
def L74:List (Nat×Spec):=(189,.own (sortM_G 123 10000))::L73
theorem h74:Holds Tryz.prog (Gl L74):=holds_cons h73 sK189
theorem cK141:check Tryz.prog 141=some (40,(ac_integer_Add 125 126 164 127 124 165).strip,[.cell 4 2 true]):=by kernel_rfl
theorem sK141:Sound Tryz.prog 141 (.dat false zadd_G):=by
  apply zadd_sound (hc:=cK141) h74 <;> first | exact (rfl:@Eq Spec _ _) | skip
  all_goals decide
def L75:List (Nat×Spec):=(141,.dat false zadd_G)::L74
theorem h75:Holds Tryz.prog (Gl L75):=holds_cons h74 sK141
theorem cK82:check Tryz.prog 82=some (30,(ac_fraction_Add 61 63 141 64).strip,[.cell 4 3 true]):=by kernel_rfl
theorem sK82:Sound Tryz.prog 82 (.dat false radd_G):=by
  apply radd_sound (hc:=cK82) h75 <;> first | exact (rfl:@Eq Spec _ _) | skip
  all_goals decide
def L76:List (Nat×Spec):=(82,.dat false radd_G)::L75
theorem h76:Holds Tryz.prog (Gl L76):=holds_cons h75 sK82
theorem cK191:check Tryz.prog 191=some (7,(ac_bipoly_sum_1 36).strip,[.tmp 2]):=by kernel_rfl
theorem sK191:Sound Tryz.prog 191 (.dat true bisz_G):=by
  apply bisz_sound (hc:=cK191) h76 <;> first | exact (rfl:@Eq Spec _ _) | skip
  all_goals decide
def L77:List (Nat×Spec):=(191,.dat true bisz_G)::L76
theorem h77:Holds Tryz.prog (Gl L77):=holds_cons h76 sK191
theorem cK201:check Tryz.prog 201=some (19,ac_slices_IndexFunc_gT.strip,[.tmp 4]):=by kernel_rfl
theorem sK201:Sound Tryz.prog 201 (.dat true (midx_G 191)):=by
  apply midx_sound (hc:=cK201) h77 <;> first | exact (rfl:@Eq Spec _ _) | skip
  all_goals decide
def L78:List (Nat×Spec):=(201,.dat true (midx_G 191))::L77
theorem h78:Holds Tryz.prog (Gl L78):=holds_cons h77 sK201
theorem cK190:check Tryz.prog 190=some (42,(ac_slices_DeleteFunc_gT 201).strip,[.tmp 4]):=by kernel_rfl
theorem sK190:Sound Tryz.prog 190 (.own (mdel_G 191)):=by
  apply mdel_sound (hc:=cK190) h78 <;> first | exact (rfl:@Eq Spec _ _) | skip
  all_goals decide
def L79:List (Nat×Spec):=(190,.own (mdel_G 191))::L78
theorem h79:Holds Tryz.prog (Gl L79):=holds_cons h78 sK190
theorem cK158:check Tryz.prog 158=some (60,(ac_bipoly_sum 159 189 123 82 190 191).strip,[.tmp 2]):=by kernel_rfl
theorem sK158:Sound Tryz.prog 158 (.dat false (msum_G 10000)):=by
  apply msum_sound (hc:=cK158) h79 <;> first | exact (rfl:@Eq Spec _ _) | skip
  all_goals decide
def L80:List (Nat×Spec):=(158,.dat false (msum_G 10000))::L79
theorem h80:Holds Tryz.prog (Gl L80):=holds_cons h79 sK158
theorem cK155:check Tryz.prog 155=some (28,(ac_bipoly_Make 122 53 158 70).strip,[.tmp 2,.tmp 3]):=by kernel_rfl
theorem sK155:Sound Tryz.prog 155 (.dat false (bmake_G 70)):=by
  apply bmake_sound (hc:=cK155) h80 <;> first | exact (rfl:@Eq Spec _ _) | skip
  all_goals decide
def L81:List (Nat×Spec):=(155,.dat false (bmake_G 70))::L80
theorem h81:Holds Tryz.prog (Gl L81):=holds_cons h80 sK155
theorem cK118:check Tryz.prog 118=some (17,ac___coupler_maker__take.strip,[.tmp 6]):=by kernel_rfl
theorem sK118:Sound Tryz.prog 118 (.red ctake_G):=by
  apply ctake_sound (hc:=cK118) h81 <;> first | exact (rfl:@Eq Spec _ _) | skip
  all_goals decide
def L82:List (Nat×Spec):=(118,.red ctake_G)::L81
theorem h82:Holds Tryz.prog (Gl L82):=holds_cons h81 sK118
theorem cK114:check Tryz.prog 114=some (23,(ac___coupler_maker__linear 16 81 155 118).strip,[.tmp 6]):=by kernel_rfl
theorem sK114:Sound Tryz.prog 114 (.red clin_G):=by
  apply clin_sound (hc:=cK114) h82 <;> first | exact (rfl:@Eq Spec _ _) | skip
  all_goals decide
def L83:List (Nat×Spec):=(114,.red clin_G)::L82
theorem h83:Holds Tryz.prog (Gl L83):=holds_cons h82 sK114
theorem cK79:check Tryz.prog 79=some (9,(ac_fraction_Sub 81 82).strip,[.cell 4 3 true]):=by kernel_rfl
theorem sK79:Sound Tryz.prog 79 (.dat false rsub_G):=by
  apply rsub_sound (hc:=cK79) h83 <;> first | exact (rfl:@Eq Spec _ _) | skip
  all_goals decide
def L84:List (Nat×Spec):=(79,.dat false rsub_G)::L83
theorem h84:Holds Tryz.prog (Gl L84):=holds_cons h83 sK79
theorem cK59:check Tryz.prog 59=some (48,(ac_bipoly_Check 122 53 36 123 70).strip,[.tmp 2]):=by kernel_rfl
theorem sK59:Sound Tryz.prog 59 (.dat false (bcheck_G 70)):=by
  apply bcheck_sound (hc:=cK59) h84 <;> first | exact (rfl:@Eq Spec _ _) | skip
  all_goals decide
def L85:List (Nat×Spec):=(59,.dat false (bcheck_G 70))::L84
theorem h85:Holds Tryz.prog (Gl L85):=holds_cons h84 sK59
theorem cK48:check Tryz.prog 48=some (26,(ac_fraction_Mul 61 63 64).strip,[.cell 4 3 true]):=by kernel_rfl
theorem sK48:Sound Tryz.prog 48 (.dat false rmul_G):=by
  apply rmul_sound (hc:=cK48) h85 <;> first | exact (rfl:@Eq Spec _ _) | skip
  all_goals decide
def L86:List (Nat×Spec):=(48,.dat false rmul_G)::L85
theorem h86:Holds Tryz.prog (Gl L86):=holds_cons h85 sK48
theorem cK160:check Tryz.prog 160=some (28,(ac_bipoly_scale 48).strip,[.tmp 4]):=by kernel_rfl
theorem sK160:Sound Tryz.prog 160 (.dat false bscl_G):=by
  apply bscl_sound (hc:=cK160) h86 <;> first | exact (rfl:@Eq Spec _ _) | skip
  all_goals decide
def L87:List (Nat×Spec):=(160,.dat false bscl_G)::L86
theorem h87:Holds Tryz.prog (Gl L87):=holds_cons h86 sK160
theorem cK121:check Tryz.prog 121=some (16,(ac_bipoly_Scale 59 160 158).strip,[.tmp 4,.tmp 5]):=by kernel_rfl
theorem sK121:Sound Tryz.prog 121 (.dat false (bscale_G 70)):=by
  apply bscale_sound (hc:=cK121) h87 <;> first | exact (rfl:@Eq Spec _ _) | skip
  all_goals decide
def L88:List (Nat×Spec):=(121,.dat false (bscale_G 70))::L87
theorem h88:Holds Tryz.prog (Gl L88):=holds_cons h87 sK121
theorem cK57:check Tryz.prog 57=some (14,(ac___coupler_maker__scale 121 118).strip,[.tmp 6]):=by kernel_rfl
theorem sK57:Sound Tryz.prog 57 (.red cscale_G):=by
  apply cscale_sound (hc:=cK57) h88 <;> first | exact (rfl:@Eq Spec _ _) | skip
  all_goals decide
def L89:List (Nat×Spec):=(57,.red cscale_G)::L88
theorem h89:Holds Tryz.prog (Gl L89):=holds_cons h88 sK57
theorem cK157:check Tryz.prog 157=some (18,(ac_bipoly_checks 59).strip,[.tmp 2]):=by kernel_rfl
theorem sK157:Sound Tryz.prog 157 (.dat false (bchecks_G 70)):=by
  apply bchecks_sound (hc:=cK157) h89 <;> first | exact (rfl:@Eq Spec _ _) | skip
  all_goals decide
def L90:List (Nat×Spec):=(157,.dat false (bchecks_G 70))::L89
theorem h90:Holds Tryz.prog (Gl L90):=holds_cons h89 sK157
theorem cK119:check Tryz.prog 119=some (21,(ac_bipoly_Sub 157 159 16 160 158).strip,[.tmp 4,.tmp 5]):=by kernel_rfl
theorem sK119:Sound Tryz.prog 119 (.dat false (bsub_G 70)):=by
  apply bsub_sound (hc:=cK119) h90 <;> first | exact (rfl:@Eq Spec _ _) | skip
  all_goals decide
def L91:List (Nat×Spec):=(119,.dat false (bsub_G 70))::L90
theorem h91:Holds Tryz.prog (Gl L91):=holds_cons h90 sK119
theorem cK55:check Tryz.prog 55=some (14,(ac___coupler_maker__sub 119 118).strip,[.tmp 6]):=by kernel_rfl
theorem sK55:Sound Tryz.prog 55 (.red csub_G):=by
  apply csub_sound (hc:=cK55) h91 <;> first | exact (rfl:@Eq Spec _ _) | skip
  all_goals decide
def L92:List (Nat×Spec):=(55,.red csub_G)::L91
theorem h92:Holds Tryz.prog (Gl L92):=holds_cons h91 sK55
theorem cK199:check Tryz.prog 199=some (27,ac_slices_Grow_gT.strip,[.tmp 4]):=by kernel_rfl
theorem sK199:Sound Tryz.prog 199 (.fresh 5 growM_G):=by
  apply grow_soundM (hc:=cK199) h92 <;> first | exact (rfl:@Eq Spec _ _) | skip
  all_goals decide
def L93:List (Nat×Spec):=(199,.fresh 5 growM_G)::L92
theorem h93:Holds Tryz.prog (Gl L93):=holds_cons h92 sK199
theorem cK188:check Tryz.prog 188=some (36,(ac_slices_Concat_gT 199).strip,[.tmp 2]):=by kernel_rfl
theorem sK188:Sound Tryz.prog 188 (.fresh 5 concM_G):=by
  apply conc_soundM (hc:=cK188) h93 <;> first | exact (rfl:@Eq Spec _ _) | skip
  all_goals decide
def L94:List (Nat×Spec):=(188,.fresh 5 concM_G)::L93
theorem h94:Holds Tryz.prog (Gl L94):=holds_cons h93 sK188
theorem cK156:check Tryz.prog 156=some (19,(ac_bipoly_Add 157 188 158).strip,[.tmp 4,.tmp 5]):=by kernel_rfl
theorem sK156:Sound Tryz.prog 156 (.dat false (badd_G 70)):=by
  apply badd_sound (hc:=cK156) h94 <;> first | exact (rfl:@Eq Spec _ _) | skip
  all_goals decide
def L95:List (Nat×Spec):=(156,.dat false (badd_G 70))::L94
theorem h95:Holds Tryz.prog (Gl L95):=holds_cons h94 sK156
theorem cK116:check Tryz.prog 116=some (14,(ac___coupler_maker__add 156 118).strip,[.tmp 6]):=by kernel_rfl
theorem sK116:Sound Tryz.prog 116 (.red cadd_G):=by
  apply cadd_sound (hc:=cK116) h95 <;> first | exact (rfl:@Eq Spec _ _) | skip
  all_goals decide
def L96:List (Nat×Spec):=(116,.red cadd_G)::L95
theorem h96:Holds Tryz.prog (Gl L96):=holds_cons h95 sK116
theorem cK115:check Tryz.prog 115=some (34,(ac___coupler_maker__times 57 55 116).strip,[.cell 8 2 true]):=by kernel_rfl
theorem sK115:Sound Tryz.prog 115 (.red ctim_G):=by
  apply ctim_sound (hc:=cK115) h96 <;> first | exact (rfl:@Eq Spec _ _) | skip
  all_goals decide
def L97:List (Nat×Spec):=(115,.red ctim_G)::L96
theorem h97:Holds Tryz.prog (Gl L97):=holds_cons h96 sK115
theorem cK83:check Tryz.prog 83=some (12,(ac_coupler_square 48 82).strip,[.cell 4 3 true]):=by kernel_rfl
theorem sK83:Sound Tryz.prog 83 (.dat false csq2_G):=by
  apply csq2_sound (hc:=cK83) h97 <;> first | exact (rfl:@Eq Spec _ _) | skip
  all_goals decide
def L98:List (Nat×Spec):=(83,.dat false csq2_G)::L97
theorem h98:Holds Tryz.prog (Gl L98):=holds_cons h97 sK83
theorem cK60:check Tryz.prog 60=some (21,ac_bipoly_degree.strip,[.tmp 2]):=by kernel_rfl
theorem sK60:Sound Tryz.prog 60 (.dat true bdeg_G):=by
  apply bdeg_sound (hc:=cK60) h98 <;> first | exact (rfl:@Eq Spec _ _) | skip
  all_goals decide
def L99:List (Nat×Spec):=(60,.dat true bdeg_G)::L98
theorem h99:Holds Tryz.prog (Gl L99):=holds_cons h98 sK60
theorem cK120:check Tryz.prog 120=some (71,(ac_bipoly_Mul 157 60 48 158 70).strip,[.tmp 4,.tmp 5]):=by kernel_rfl
theorem sK120:Sound Tryz.prog 120 (.dat false (bmul_G 70)):=by
  apply bmul_sound (hc:=cK120) h99 <;> first | exact (rfl:@Eq Spec _ _) | skip
  all_goals decide
def L100:List (Nat×Spec):=(120,.dat false (bmul_G 70))::L99
theorem h100:Holds Tryz.prog (Gl L100):=holds_cons h99 sK120
theorem cK56:check Tryz.prog 56=some (14,(ac___coupler_maker__mul 120 118).strip,[.tmp 6]):=by kernel_rfl
theorem sK56:Sound Tryz.prog 56 (.red cmul_G):=by
  apply cmul_sound (hc:=cK56) h100 <;> first | exact (rfl:@Eq Spec _ _) | skip
  all_goals decide
def L101:List (Nat×Spec):=(56,.red cmul_G)::L100
theorem h101:Holds Tryz.prog (Gl L101):=holds_cons h100 sK56
theorem cK58:check Tryz.prog 58=some (19,(ac___coupler_maker__norm 56 116).strip,[.tmp 4]):=by kernel_rfl
theorem sK58:Sound Tryz.prog 58 (.red cnrm_G):=by
  apply cnrm_sound (hc:=cK58) h101 <;> first | exact (rfl:@Eq Spec _ _) | skip
  all_goals decide
def L102:List (Nat×Spec):=(58,.red cnrm_G)::L101
theorem h102:Holds Tryz.prog (Gl L102):=holds_cons h101 sK58
theorem cK117:check Tryz.prog 117=some (13,(ac___coupler_maker__constant 155 118).strip,[.tmp 4]):=by kernel_rfl
theorem sK117:Sound Tryz.prog 117 (.red ccon_G):=by
  apply ccon_sound (hc:=cK117) h102 <;> first | exact (rfl:@Eq Spec _ _) | skip
  all_goals decide
def L103:List (Nat×Spec):=(117,.red ccon_G)::L102
theorem h103:Holds Tryz.prog (Gl L103):=holds_cons h102 sK117
theorem cK54:check Tryz.prog 54=some (111,(ac___coupler_maker__build 114 16 79 81 115 83 48 58 117 116 55 56).strip,[.cell 4 7 true]):=by kernel_rfl
theorem sK54:Sound Tryz.prog 54 (.red cbld_G):=by
  apply cbld_sound (hc:=cK54) h103 <;> first | exact (rfl:@Eq Spec _ _) | skip
  all_goals decide
def L104:List (Nat×Spec):=(54,.red cbld_G)::L103
theorem h104:Holds Tryz.prog (Gl L104):=holds_cons h103 sK54
theorem cK13:check Tryz.prog 13=some (78,(ac_coupler_Curve 12 54 56 55 16 48 57 58).strip,[.tmp 2,.tmp 3]):=by kernel_rfl
theorem sK13:Sound Tryz.prog 13 (.dat false (cpcv_G 70)):=by
  apply cpcv_sound (hc:=cK13) h104 <;> first | exact (rfl:@Eq Spec _ _) | skip
  all_goals decide
def L105:List (Nat×Spec):=(13,.dat false (cpcv_G 70))::L104
theorem h105:Holds Tryz.prog (Gl L105):=holds_cons h104 sK13
theorem cK142:check Tryz.prog 142=some (14,(ac_fraction_From 98 64 70).strip,[.cell 4 3 true,.tmp 5]):=by kernel_rfl
theorem sK142:Sound Tryz.prog 142 (.dat false (rfromE_G 70)):=by
  apply rfromE_sound (hc:=cK142) h105 <;> first | exact (rfl:@Eq Spec _ _) | skip
  all_goals decide
def L106:List (Nat×Spec):=(142,.dat false (rfromE_G 70))::L105
theorem h106:Holds Tryz.prog (Gl L106):=holds_cons h105 sK142
theorem cK84:check Tryz.prog 84=some (29,(ac_fraction_Div 61 63 142).strip,[.cell 4 3 true,.tmp 5]):=by kernel_rfl
theorem sK84:Sound Tryz.prog 84 (.dat false (rdivE_G 70)):=by
  apply rdivE_sound (hc:=cK84) h106 <;> first | exact (rfl:@Eq Spec _ _) | skip
  all_goals decide
def L107:List (Nat×Spec):=(84,.dat false (rdivE_G 70))::L106
theorem h107:Holds Tryz.prog (Gl L107):=holds_cons h106 sK84
theorem cK49:check Tryz.prog 49=some (34,(ac_fraction_Power 16 48 84 70).strip,[.cell 4 3 true,.tmp 5]):=by kernel_rfl
theorem sK49:Sound Tryz.prog 49 (.dat false (rpow_G 70)):=by
  apply rpow_sound (hc:=cK49) h107 <;> first | exact (rfl:@Eq Spec _ _) | skip
  all_goals decide
def L108:List (Nat×Spec):=(49,.dat false (rpow_G 70))::L107
theorem h108:Holds Tryz.prog (Gl L108):=holds_cons h107 sK49
theorem cK35:check Tryz.prog 35=some (59,(ac_bipoly_Eval 59 49 48 82).strip,[.cell 6 3 true,.tmp 7]):=by kernel_rfl
theorem sK35:Sound Tryz.prog 35 (.dat false (beval_G 70)):=by
  apply beval_sound (hc:=cK35) h108 <;> first | exact (rfl:@Eq Spec _ _) | skip
  all_goals decide
def L109:List (Nat×Spec):=(35,.dat false (beval_G 70))::L108
theorem h109:Holds Tryz.prog (Gl L109):=holds_cons h108 sK35
theorem cK24:check Tryz.prog 24=some (42,(ac_coupler_On 77 13 35 36).strip,[.tmp 4,.tmp 5]):=by kernel_rfl
theorem sK24:Sound Tryz.prog 24 (.dat false (cpon_G 70)):=by
  apply cpon_sound (hc:=cK24) h109 <;> first | exact (rfl:@Eq Spec _ _) | skip
  all_goals decide
def L110:List (Nat×Spec):=(24,.dat false (cpon_G 70))::L109
theorem h110:Holds Tryz.prog (Gl L110):=holds_cons h109 sK24
theorem cK78:check Tryz.prog 78=some (16,(ac_coupler_sub 79).strip,[.cell 4 6 true]):=by kernel_rfl
theorem sK78:Sound Tryz.prog 78 (.dat false pless_G):=by
  apply cpsub_sound (hc:=cK78) h110 <;> first | exact (rfl:@Eq Spec _ _) | skip
  all_goals decide
def L111:List (Nat×Spec):=(78,.dat false pless_G)::L110
theorem h111:Holds Tryz.prog (Gl L111):=holds_cons h110 sK78
theorem cK80:check Tryz.prog 80=some (26,(ac_coupler_times 48 79 82).strip,[.cell 6 6 true]):=by kernel_rfl
theorem sK80:Sound Tryz.prog 80 (.dat false cpt_G):=by
  apply cpt_sound (hc:=cK80) h111 <;> first | exact (rfl:@Eq Spec _ _) | skip
  all_goals decide
def L112:List (Nat×Spec):=(80,.dat false cpt_G)::L111
theorem h112:Holds Tryz.prog (Gl L112):=holds_cons h111 sK80
theorem cK85:check Tryz.prog 85=some (16,(ac_coupler_add 82).strip,[.cell 4 6 true]):=by kernel_rfl
theorem sK85:Sound Tryz.prog 85 (.dat false pplus_G):=by
  apply cpadd_sound (hc:=cK85) h112 <;> first | exact (rfl:@Eq Spec _ _) | skip
  all_goals decide
def L113:List (Nat×Spec):=(85,.dat false pplus_G)::L112
theorem h113:Holds Tryz.prog (Gl L113):=holds_cons h112 sK85
theorem cK25:check Tryz.prog 25=some (171,(ac_coupler_Lift 24 78 16 79 81 80 48 36 83 82 84 85 70).strip,[.cell 4 6 true,.cell 5 6 true,.tmp 6]):=by kernel_rfl
theorem sK25:Sound Tryz.prog 25 (.dat false (cpli_G 70)):=by
  apply cpli_sound (hc:=cK25) h113 <;> first | exact (rfl:@Eq Spec _ _) | skip
  all_goals decide
def L114:List (Nat×Spec):=(25,.dat false (cpli_G 70))::L113
theorem h114:Holds Tryz.prog (Gl L114):=holds_cons h113 sK25
theorem cK26:check Tryz.prog 26=some (28,(ac_coupler_Point 77 78 80 85).strip,[.cell 6 6 true,.tmp 7]):=by kernel_rfl
theorem sK26:Sound Tryz.prog 26 (.dat false (cppt_G 70)):=by
  apply cppt_sound (hc:=cK26) h114 <;> first | exact (rfl:@Eq Spec _ _) | skip
  all_goals decide
def L115:List (Nat×Spec):=(26,.dat false (cppt_G 70))::L114
theorem h115:Holds Tryz.prog (Gl L115):=holds_cons h114 sK26
theorem cK133:check Tryz.prog 133=some (26,ac_linkworkbase_Words.strip,[.tmp 4]):=by kernel_rfl
theorem sK133:Sound Tryz.prog 133 (.dat true bwords_G):=by
  apply bwords_sound (hc:=cK133) h115 <;> first | exact (rfl:@Eq Spec _ _) | skip
  all_goals decide
def L116:List (Nat×Spec):=(133,.dat true bwords_G)::L115
theorem h116:Holds Tryz.prog (Gl L116):=holds_cons h115 sK133
theorem cK69:check Tryz.prog 69=some (24,(ac_linkworkbase_Rat 133).strip,[.tmp 4]):=by kernel_rfl
theorem sK69:Sound Tryz.prog 69 (.dat true brat_G):=by
  apply brat_sound (hc:=cK69) h116 <;> first | exact (rfl:@Eq Spec _ _) | skip
  all_goals decide
def L117:List (Nat×Spec):=(69,.dat true brat_G)::L116
theorem h117:Holds Tryz.prog (Gl L117):=holds_cons h116 sK69
theorem cK29:check Tryz.prog 29=some (17,(ac_linkworklaw38_Same 69).strip,[.tmp 4]):=by kernel_rfl
theorem sK29:Sound Tryz.prog 29 (.dat true lsame_G):=by
  apply lsame_sound (hc:=cK29) h117 <;> first | exact (rfl:@Eq Spec _ _) | skip
  all_goals decide
def L118:List (Nat×Spec):=(29,.dat true lsame_G)::L117
theorem h118:Holds Tryz.prog (Gl L118):=holds_cons h117 sK29
theorem cK10:check Tryz.prog 10=some (72,(ac_linkworklaw38_awake 50 51 24 25 26 29).strip,[.tmp 0]):=by kernel_rfl
theorem sK10:Sound Tryz.prog 10 (.dat true awk38_G):=by
  apply awk38_sound (hc:=cK10) h118 <;> first | exact (rfl:@Eq Spec _ _) | skip
  all_goals decide
def L119:List (Nat×Spec):=(10,.dat true awk38_G)::L118
theorem h119:Holds Tryz.prog (Gl L119):=holds_cons h118 sK10
theorem cK11:check Tryz.prog 11=some (44,ac_linkworkref38_Short.strip,[.tmp 2]):=by kernel_rfl
theorem sK11:Sound Tryz.prog 11 (.dat true rcsh_G):=by
  apply rcsh_sound (hc:=cK11) h119 <;> first | exact (rfl:@Eq Spec _ _) | skip
  all_goals decide
def L120:List (Nat×Spec):=(11,.dat true rcsh_G)::L119
theorem h120:Holds Tryz.prog (Gl L120):=holds_cons h119 sK11
theorem cK14:check Tryz.prog 14=some (12,(ac_bipoly_Degree 59 60).strip,[.tmp 2,.tmp 3]):=by kernel_rfl
theorem sK14:Sound Tryz.prog 14 (.dat false (bdegr_G 70)):=by
  apply bdegr_sound (hc:=cK14) h120 <;> first | exact (rfl:@Eq Spec _ _) | skip
  all_goals decide
def L121:List (Nat×Spec):=(14,.dat false (bdegr_G 70))::L120
theorem h121:Holds Tryz.prog (Gl L121):=holds_cons h120 sK14
theorem cK3:check Tryz.prog 3=some (106,(ac_linkworklaw38_CouplerDegree 10 11 12 13 14 16 15).strip,[.tmp 2]):=by kernel_rfl
theorem sK3:Sound Tryz.prog 3 (.dat true lCDegree_G):=by
  apply lCDegree_sound (hc:=cK3) h121 <;> first | exact (rfl:@Eq Spec _ _) | skip
  all_goals decide
def L122:List (Nat×Spec):=(3,.dat true lCDegree_G)::L121
theorem h122:Holds Tryz.prog (Gl L122):=holds_cons h121 sK3
theorem hold:Holds Tryz.prog (Gl L122):=h122
end Go.Abs
