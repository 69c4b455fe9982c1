/-
  The contracts of this seat's functions, gathered.
-/
import Derived.Test.YtkcleifemnineaaGreatChecked
import Derived.Test.YtkcleifemnineaaGreatBits
import Derived.KernelRfl
import Derived.Test.YtkcleifemnineaaGreatM12
set_option maxRecDepth 100000
set_option linter.unusedVariables false
namespace Go.Abs
open Go.Proofs
theorem cK174:check Tryz.prog 174=some (25,Wc.strip,[.tmp 2]):=by kernel_rfl
theorem sK174:Sound Tryz.prog 174 (.fresh 1 Qu):=by
  apply Uav (hc:=cK174) JX <;> first | exact (rfl:@Eq Spec _ _) | skip
  all_goals decide
def L1:List (Nat×Spec):=(174,.fresh 1 Qu)::[]
theorem h1:Holds Tryz.prog (Gl L1):=qa JX sK174
theorem cK149:check Tryz.prog 149=some (14,(Qh 174).strip,[.cell 4 2 true]):=by kernel_rfl
theorem sK149:Sound Tryz.prog 149 (.dat false Xe):=by
  apply X3 (hc:=cK149) h1 <;> first | exact (rfl:@Eq Spec _ _) | skip
  all_goals decide
def L2:List (Nat×Spec):=(149,.dat false Xe)::L1
theorem h2:Holds Tryz.prog (Gl L2):=qa h1 sK149
theorem cK138:check Tryz.prog 138=some (19,(uo 149).strip,[.cell 2 2 true]):=by kernel_rfl
theorem sK138:Sound Tryz.prog 138 (.dat false ZE):=by
  apply QY (hc:=cK138) h2 <;> first | exact (rfl:@Eq Spec _ _) | skip
  all_goals decide
def L3:List (Nat×Spec):=(138,.dat false ZE)::L2
theorem h3:Holds Tryz.prog (Gl L3):=qa h2 sK138
theorem cK178:check Tryz.prog 178=some (19,vj.strip,[.tmp 2]):=by kernel_rfl
theorem sK178:Sound Tryz.prog 178 (.dat true uh):=by
  apply YE (hc:=cK178) h3 <;> first | exact (rfl:@Eq Spec _ _) | skip
  all_goals decide
def L4:List (Nat×Spec):=(178,.dat true uh)::L3
theorem h4:Holds Tryz.prog (Gl L4):=qa h3 sK178
theorem cK151:check Tryz.prog 151=some (8,(qn 178).strip,[.tmp 2]):=by kernel_rfl
theorem sK151:Sound Tryz.prog 151 (.dat false Ui):=by
  apply UJ (hc:=cK151) h4 <;> first | exact (rfl:@Eq Spec _ _) | skip
  all_goals decide
def L5:List (Nat×Spec):=(151,.dat false Ui)::L4
theorem h5:Holds Tryz.prog (Gl L5):=qa h4 sK151
theorem cK166:check Tryz.prog 166=some (9,(xm 178).strip,[.tmp 2]):=by kernel_rfl
theorem sK166:Sound Tryz.prog 166 (.dat true Zg):=by
  apply UI (hc:=cK166) h5 <;> first | exact (rfl:@Eq Spec _ _) | skip
  all_goals decide
def L6:List (Nat×Spec):=(166,.dat true Zg)::L5
theorem h6:Holds Tryz.prog (Gl L6):=qa h5 sK166
theorem cK132:check Tryz.prog 132=some (9,(Jh 151 166).strip,[.tmp 2]):=by kernel_rfl
theorem sK132:Sound Tryz.prog 132 (.dat true Zf):=by
  apply kT (hc:=cK132) h6 <;> first | exact (rfl:@Eq Spec _ _) | skip
  all_goals decide
def L7:List (Nat×Spec):=(132,.dat true Zf)::L6
theorem h7:Holds Tryz.prog (Gl L7):=qa h6 sK132
theorem cK139:check Tryz.prog 139=some (9,(Um 166 151 149).strip,[.cell 2 2 true]):=by kernel_rfl
theorem sK139:Sound Tryz.prog 139 (.dat false Qs):=by
  apply WK (hc:=cK139) h7 <;> first | exact (rfl:@Eq Spec _ _) | skip
  all_goals decide
def L8:List (Nat×Spec):=(139,.dat false Qs)::L7
theorem h8:Holds Tryz.prog (Gl L8):=qa h7 sK139
theorem cK195:check Tryz.prog 195=some (14,Vl.strip,[.tmp 4]):=by kernel_rfl
theorem sK195:Sound Tryz.prog 195 (.dat true Vk):=by
  apply JK (hc:=cK195) h8 <;> first | exact (rfl:@Eq Spec _ _) | skip
  all_goals decide
def L9:List (Nat×Spec):=(195,.dat true Vk)::L8
theorem h9:Holds Tryz.prog (Gl L9):=qa h8 sK195
theorem cK177:check Tryz.prog 177=some (21,ki.strip,[.tmp 2]):=by kernel_rfl
theorem sK177:Sound Tryz.prog 177 (.own xT):=by
  apply kaT (hc:=cK177) h9 <;> first | exact (rfl:@Eq Spec _ _) | skip
  all_goals decide
def L10:List (Nat×Spec):=(177,.own xT)::L9
theorem h10:Holds Tryz.prog (Gl L10):=qa h9 sK177
theorem cK175:check Tryz.prog 175=some (26,(Uf 195 177).strip,[.tmp 2]):=by kernel_rfl
theorem sK175:Sound Tryz.prog 175 (.own zo):=by
  apply jaa (hc:=cK175) h10 <;> first | exact (rfl:@Eq Spec _ _) | skip
  all_goals decide
def L11:List (Nat×Spec):=(175,.own zo)::L10
theorem h11:Holds Tryz.prog (Gl L11):=qa h10 sK175
theorem cK172:check Tryz.prog 172=some (30,(ye 195).strip,[.tmp 4]):=by kernel_rfl
theorem sK172:Sound Tryz.prog 172 (.dat true Wr):=by
  apply J9 (hc:=cK172) h11 <;> first | exact (rfl:@Eq Spec _ _) | skip
  all_goals decide
def L12:List (Nat×Spec):=(172,.dat true Wr)::L11
theorem h12:Holds Tryz.prog (Gl L12):=qa h11 sK172
theorem cK176:check Tryz.prog 176=some (31,(Ud 195).strip,[]):=by kernel_rfl
theorem sK176:Sound Tryz.prog 176 (.own Zu):=by
  apply jaw (hc:=cK176) h12 <;> first | exact (rfl:@Eq Spec _ _) | skip
  all_goals decide
def L13:List (Nat×Spec):=(176,.own Zu)::L12
theorem h13:Holds Tryz.prog (Gl L13):=qa h12 sK176
theorem cK171:check Tryz.prog 171=some (37,(Yg 195 174).strip,[.tmp 4]):=by kernel_rfl
theorem sK171:Sound Tryz.prog 171 (.dat false xo):=by
  apply wW (hc:=cK171) h13 <;> first | exact (rfl:@Eq Spec _ _) | skip
  all_goals decide
def L14:List (Nat×Spec):=(171,.dat false xo)::L13
theorem h14:Holds Tryz.prog (Gl L14):=qa h13 sK171
theorem cK150:check Tryz.prog 150=some (72,(yi 174 175 172 176 177 171).strip,[.tmp 4]):=by kernel_rfl
theorem sK150:Sound Tryz.prog 150 (.dat false qw):=by
  apply Vab (hc:=cK150) h14 <;> first | exact (rfl:@Eq Spec _ _) | skip
  all_goals decide
def L15:List (Nat×Spec):=(150,.dat false qw)::L14
theorem h15:Holds Tryz.prog (Gl L15):=qa h14 sK150
theorem cK104:check Tryz.prog 104=some (11,(Yi 151 150 149).strip,[.cell 4 2 true]):=by kernel_rfl
theorem sK104:Sound Tryz.prog 104 (.dat false Uq):=by
  apply J8 (hc:=cK104) h15 <;> first | exact (rfl:@Eq Spec _ _) | skip
  all_goals decide
def L16:List (Nat×Spec):=(104,.dat false Uq)::L15
theorem h16:Holds Tryz.prog (Gl L16):=qa h15 sK104
theorem cK202:check Tryz.prog 202=some (25,jh.strip,[.tmp 2]):=by kernel_rfl
theorem sK202:Sound Tryz.prog 202 (.dat true Uo):=by
  apply X4 (hc:=cK202) h16 <;> first | exact (rfl:@Eq Spec _ _) | skip
  all_goals decide
def L17:List (Nat×Spec):=(202,.dat true Uo)::L16
theorem h17:Holds Tryz.prog (Gl L17):=qa h16 sK202
theorem cK194:check Tryz.prog 194=some (76,(zf 202 172 176 174).strip,[.tmp 4,.tmp 5]):=by kernel_rfl
theorem sK194:Sound Tryz.prog 194 (.dat false Vg):=by
  apply WJ (hc:=cK194) h17 <;> first | exact (rfl:@Eq Spec _ _) | skip
  all_goals decide
def L18:List (Nat×Spec):=(194,.dat false Vg)::L17
theorem h18:Holds Tryz.prog (Gl L18):=qa h17 sK194
theorem cK173:check Tryz.prog 173=some (35,(zg 195 174).strip,[.tmp 4]):=by kernel_rfl
theorem sK173:Sound Tryz.prog 173 (.dat false Yr):=by
  apply XR (hc:=cK173) h18 <;> first | exact (rfl:@Eq Spec _ _) | skip
  all_goals decide
def L19:List (Nat×Spec):=(173,.dat false Yr)::L18
theorem h19:Holds Tryz.prog (Gl L19):=qa h18 sK173
theorem cK169:check Tryz.prog 169=some (45,(xi 132 151 194 166 171 173 149).strip,[.cell 4 2 true,.cell 5 2 true,.tmp 6]):=by kernel_rfl
theorem sK169:Sound Tryz.prog 169 (.dat false xp):=by
  apply yT (hc:=cK169) h19 <;> first | exact (rfl:@Eq Spec _ _) | skip
  all_goals decide
def L20:List (Nat×Spec):=(169,.dat false xp)::L19
theorem h20:Holds Tryz.prog (Gl L20):=qa h19 sK169
theorem cK137:check Tryz.prog 137=some (47,(kh 132 139 104 169).strip,[.cell 4 3 true]):=by kernel_rfl
theorem sK137:Sound Tryz.prog 137 (.dat false xg):=by
  apply YP (hc:=cK137) h20 <;> first | exact (rfl:@Eq Spec _ _) | skip
  all_goals decide
def L21:List (Nat×Spec):=(137,.dat false xg)::L20
theorem h21:Holds Tryz.prog (Gl L21):=qa h20 sK137
theorem cK144:check Tryz.prog 144=some (13,(xh 132 137).strip,[.cell 4 3 true,.tmp 5]):=by kernel_rfl
theorem sK144:Sound Tryz.prog 144 (.dat false kp):=by
  apply V0 (hc:=cK144) h21 <;> first | exact (rfl:@Eq Spec _ _) | skip
  all_goals decide
def L22:List (Nat×Spec):=(144,.dat false kp)::L21
theorem h22:Holds Tryz.prog (Gl L22):=qa h21 sK144
theorem cK111:check Tryz.prog 111=some (13,(Zh 138 144).strip,[.cell 4 3 true,.tmp 5]):=by kernel_rfl
theorem sK111:Sound Tryz.prog 111 (.dat false uv):=by
  apply J3 (hc:=cK111) h22 <;> first | exact (rfl:@Eq Spec _ _) | skip
  all_goals decide
def L23:List (Nat×Spec):=(111,.dat false uv)::L22
theorem h23:Holds Tryz.prog (Gl L23):=qa h22 sK111
theorem cK105:check Tryz.prog 105=some (2,(Xk 138).strip,[.cell 0 2 true]):=by kernel_rfl
theorem sK105:Sound Tryz.prog 105 (.dat false vq):=by
  apply xL (hc:=cK105) h23 <;> first | exact (rfl:@Eq Spec _ _) | skip
  all_goals decide
def L24:List (Nat×Spec):=(105,.dat false vq)::L23
theorem h24:Holds Tryz.prog (Gl L24):=qa h23 sK105
theorem cK73:check Tryz.prog 73=some (7,(um 138 105 137).strip,[.cell 2 3 true]):=by kernel_rfl
theorem sK73:Sound Tryz.prog 73 (.dat false Xs):=by
  apply XZ (hc:=cK73) h24 <;> first | exact (rfl:@Eq Spec _ _) | skip
  all_goals decide
def L25:List (Nat×Spec):=(73,.dat false Xs)::L24
theorem h25:Holds Tryz.prog (Gl L25):=qa h24 sK73
theorem cK51:check Tryz.prog 51=some (10,(Uj 73).strip,[.cell 4 6 true]):=by kernel_rfl
theorem sK51:Sound Tryz.prog 51 (.dat false YJ):=by
  apply QaM (hc:=cK51) h25 <;> first | exact (rfl:@Eq Spec _ _) | skip
  all_goals decide
def L26:List (Nat×Spec):=(51,.dat false YJ)::L25
theorem h26:Holds Tryz.prog (Gl L26):=qa h25 sK51
theorem cK50:check Tryz.prog 50=some (15,(Ye 111 73 51).strip,[.cell 0 27 true]):=by kernel_rfl
theorem sK50:Sound Tryz.prog 50 (.dat false jz):=by
  apply YaA (hc:=cK50) h26 <;> first | exact (rfl:@Eq Spec _ _) | skip
  all_goals decide
def L27:List (Nat×Spec):=(50,.dat false jz)::L26
theorem h27:Holds Tryz.prog (Gl L27):=qa h26 sK50
theorem cK112:check Tryz.prog 112=some (19,vj.strip,[.tmp 2]):=by kernel_rfl
theorem sK112:Sound Tryz.prog 112 (.dat true uh):=by
  apply YE (hc:=cK112) h27 <;> first | exact (rfl:@Eq Spec _ _) | skip
  all_goals decide
def L28:List (Nat×Spec):=(112,.dat true uh)::L27
theorem h28:Holds Tryz.prog (Gl L28):=qa h27 sK112
theorem cK125:check Tryz.prog 125=some (8,(qn 112).strip,[.tmp 2]):=by kernel_rfl
theorem sK125:Sound Tryz.prog 125 (.dat false Ui):=by
  apply UJ (hc:=cK125) h28 <;> first | exact (rfl:@Eq Spec _ _) | skip
  all_goals decide
def L29:List (Nat×Spec):=(125,.dat false Ui)::L28
theorem h29:Holds Tryz.prog (Gl L29):=qa h28 sK125
theorem cK124:check Tryz.prog 124=some (41,yl.strip,[.tmp 4]):=by kernel_rfl
theorem sK124:Sound Tryz.prog 124 (.dat false Ug):=by
  apply QT (hc:=cK124) h29 <;> first | exact (rfl:@Eq Spec _ _) | skip
  all_goals decide
def L30:List (Nat×Spec):=(124,.dat false Ug)::L29
theorem h30:Holds Tryz.prog (Gl L30):=qa h29 sK124
theorem cK163:check Tryz.prog 163=some (25,Qr.strip,[.tmp 2]):=by kernel_rfl
theorem sK163:Sound Tryz.prog 163 (.dat false qr):=by
  apply Jaz (hc:=cK163) h30 <;> first | exact (rfl:@Eq Spec _ _) | skip
  all_goals decide
def L31:List (Nat×Spec):=(163,.dat false qr)::L30
theorem h31:Holds Tryz.prog (Gl L31):=qa h30 sK163
theorem cK182:check Tryz.prog 182=some (43,(Wo 163).strip,[.tmp 4,.tmp 5]):=by kernel_rfl
theorem sK182:Sound Tryz.prog 182 (.dat false vw):=by
  apply Uaf (hc:=cK182) h31 <;> first | exact (rfl:@Eq Spec _ _) | skip
  all_goals decide
def L32:List (Nat×Spec):=(182,.dat false vw)::L31
theorem h32:Holds Tryz.prog (Gl L32):=qa h31 sK182
theorem sK183:Sound Tryz.prog 183 (.dat true lz_G):=waF (Zv Tryz.func183 (by kernel_rfl) (by kernel_rfl)) wbf Qbn Tryz.bits_LeadingZeros32
def L33:List (Nat×Spec):=(183,.dat true lz_G)::L32
theorem h33:Holds Tryz.prog (Gl L33):=qa h32 sK183
theorem cK184:check Tryz.prog 184=some (41,jv.strip,[.tmp 4]):=by kernel_rfl
theorem sK184:Sound Tryz.prog 184 (.fresh 1 up_G):=by
  apply YaZ (hc:=cK184) h33 <;> first | exact (rfl:@Eq Spec _ _) | skip
  all_goals decide
def L34:List (Nat×Spec):=(184,.fresh 1 up_G)::L33
theorem h34:Holds Tryz.prog (Gl L34):=qa h33 sK184
theorem cK193:check Tryz.prog 193=some (14,Vl.strip,[.tmp 4]):=by kernel_rfl
theorem sK193:Sound Tryz.prog 193 (.dat true Vk):=by
  apply JK (hc:=cK193) h34 <;> first | exact (rfl:@Eq Spec _ _) | skip
  all_goals decide
def L35:List (Nat×Spec):=(193,.dat true Vk)::L34
theorem h35:Holds Tryz.prog (Gl L35):=qa h34 sK193
theorem cK185:check Tryz.prog 185=some (46,(Jm 193).strip,[.tmp 6]):=by kernel_rfl
theorem sK185:Sound Tryz.prog 185 (.own qp):=by
  apply XT (hc:=cK185) h35 <;> first | exact (rfl:@Eq Spec _ _) | skip
  all_goals decide
def L36:List (Nat×Spec):=(185,.own qp)::L35
theorem h36:Holds Tryz.prog (Gl L36):=qa h35 sK185
theorem cK186:check Tryz.prog 186=some (30,(kr 193).strip,[]):=by kernel_rfl
theorem sK186:Sound Tryz.prog 186 (.own YC):=by
  apply Zax (hc:=cK186) h36 <;> first | exact (rfl:@Eq Spec _ _) | skip
  all_goals decide
def L37:List (Nat×Spec):=(186,.own YC)::L36
theorem h37:Holds Tryz.prog (Gl L37):=qa h36 sK186
theorem cK187:check Tryz.prog 187=some (35,(Wq 193 163).strip,[.tmp 4]):=by kernel_rfl
theorem sK187:Sound Tryz.prog 187 (.dat false xB):=by
  apply Qax (hc:=cK187) h37 <;> first | exact (rfl:@Eq Spec _ _) | skip
  all_goals decide
def L38:List (Nat×Spec):=(187,.dat false xB)::L37
theorem h38:Holds Tryz.prog (Gl L38):=qa h37 sK187
theorem cK154:check Tryz.prog 154=some (158,(ji 124 163 182 183 184 185 186 187).strip,[.tmp 4,.tmp 5]):=by kernel_rfl
theorem sK154:Sound Tryz.prog 154 (.dat false Vg):=by
  apply U7 (hc:=cK154) h38 <;> first | exact (rfl:@Eq Spec _ _) | skip
  all_goals decide
def L39:List (Nat×Spec):=(154,.dat false Vg)::L38
theorem h39:Holds Tryz.prog (Gl L39):=qa h38 sK154
theorem cK127:check Tryz.prog 127=some (15,(ko 163).strip,[.cell 4 2 true]):=by kernel_rfl
theorem sK127:Sound Tryz.prog 127 (.dat false Xe):=by
  apply jac (hc:=cK127) h39 <;> first | exact (rfl:@Eq Spec _ _) | skip
  all_goals decide
def L40:List (Nat×Spec):=(127,.dat false Xe)::L39
theorem h40:Holds Tryz.prog (Gl L40):=qa h39 sK127
theorem cK113:check Tryz.prog 113=some (26,(Ut 125 154 127).strip,[.cell 4 2 true]):=by kernel_rfl
theorem sK113:Sound Tryz.prog 113 (.dat false Uq):=by
  apply Jav (hc:=cK113) h40 <;> first | exact (rfl:@Eq Spec _ _) | skip
  all_goals decide
def L41:List (Nat×Spec):=(113,.dat false Uq)::L40
theorem h41:Holds Tryz.prog (Gl L41):=qa h40 sK113
theorem cK65:check Tryz.prog 65=some (19,(uo 127).strip,[.cell 2 2 true]):=by kernel_rfl
theorem sK65:Sound Tryz.prog 65 (.dat false ZE):=by
  apply QY (hc:=cK65) h41 <;> first | exact (rfl:@Eq Spec _ _) | skip
  all_goals decide
def L42:List (Nat×Spec):=(65,.dat false ZE)::L41
theorem h42:Holds Tryz.prog (Gl L42):=qa h41 sK65
theorem cK66:check Tryz.prog 66=some (2,(Xk 65).strip,[.cell 0 2 true]):=by kernel_rfl
theorem sK66:Sound Tryz.prog 66 (.dat false vq):=by
  apply xL (hc:=cK66) h42 <;> first | exact (rfl:@Eq Spec _ _) | skip
  all_goals decide
def L43:List (Nat×Spec):=(66,.dat false vq)::L42
theorem h43:Holds Tryz.prog (Gl L43):=qa h42 sK66
theorem cK98:check Tryz.prog 98=some (11,(Vr 125).strip,[.tmp 2]):=by kernel_rfl
theorem sK98:Sound Tryz.prog 98 (.dat true Zf):=by
  apply waf (hc:=cK98) h43 <;> first | exact (rfl:@Eq Spec _ _) | skip
  all_goals decide
def L44:List (Nat×Spec):=(98,.dat true Zf)::L43
theorem h44:Holds Tryz.prog (Gl L44):=qa h43 sK98
theorem cK126:check Tryz.prog 126=some (9,(xm 112).strip,[.tmp 2]):=by kernel_rfl
theorem sK126:Sound Tryz.prog 126 (.dat true Zg):=by
  apply UI (hc:=cK126) h44 <;> first | exact (rfl:@Eq Spec _ _) | skip
  all_goals decide
def L45:List (Nat×Spec):=(126,.dat true Zg)::L44
theorem h45:Holds Tryz.prog (Gl L45):=qa h44 sK126
theorem cK62:check Tryz.prog 62=some (28,(vt 98 125 124 126).strip,[.tmp 4]):=by kernel_rfl
theorem sK62:Sound Tryz.prog 62 (.dat true Uy):=by
  apply kaz (hc:=cK62) h45 <;> first | exact (rfl:@Eq Spec _ _) | skip
  all_goals decide
def L46:List (Nat×Spec):=(62,.dat true Uy)::L45
theorem h46:Holds Tryz.prog (Gl L46):=qa h45 sK62
theorem cK53:check Tryz.prog 53=some (50,(Ul 112 113 66 62).strip,[.tmp 2]):=by kernel_rfl
theorem sK53:Sound Tryz.prog 53 (.dat true Vd):=by
  apply ZW (hc:=cK53) h46 <;> first | exact (rfl:@Eq Spec _ _) | skip
  all_goals decide
def L47:List (Nat×Spec):=(53,.dat true Vd)::L46
theorem h47:Holds Tryz.prog (Gl L47):=qa h46 sK53
theorem cK52:check Tryz.prog 52=some (11,(yd 53).strip,[.tmp 2]):=by kernel_rfl
theorem sK52:Sound Tryz.prog 52 (.dat true xd):=by
  apply xx (hc:=cK52) h47 <;> first | exact (rfl:@Eq Spec _ _) | skip
  all_goals decide
def L48:List (Nat×Spec):=(52,.dat true xd)::L47
theorem h48:Holds Tryz.prog (Gl L48):=qa h47 sK52
theorem cK61:check Tryz.prog 61=some (28,(Qm 53 66).strip,[.cell 2 2 true,.cell 3 2 true]):=by kernel_rfl
theorem sK61:Sound Tryz.prog 61 (.dat false jg):=by
  apply Z1 (hc:=cK61) h48 <;> first | exact (rfl:@Eq Spec _ _) | skip
  all_goals decide
def L49:List (Nat×Spec):=(61,.dat false jg)::L48
theorem h49:Holds Tryz.prog (Gl L49):=qa h48 sK61
theorem cK36:check Tryz.prog 36=some (12,(Qo 61 98).strip,[.tmp 2]):=by kernel_rfl
theorem sK36:Sound Tryz.prog 36 (.dat true Zk):=by
  apply Q9 (hc:=cK36) h49 <;> first | exact (rfl:@Eq Spec _ _) | skip
  all_goals decide
def L50:List (Nat×Spec):=(36,.dat true Zk)::L49
theorem h50:Holds Tryz.prog (Gl L50):=qa h49 sK36
theorem cK128:check Tryz.prog 128=some (67,(Zo 163).strip,[.tmp 4]):=by kernel_rfl
theorem sK128:Sound Tryz.prog 128 (.dat false kw):=by
  apply yad (hc:=cK128) h50 <;> first | exact (rfl:@Eq Spec _ _) | skip
  all_goals decide
def L51:List (Nat×Spec):=(128,.dat false kw)::L50
theorem h51:Holds Tryz.prog (Gl L51):=qa h50 sK128
theorem cK63:check Tryz.prog 63=some (16,(Wt 126 125 128 127).strip,[.cell 4 2 true]):=by kernel_rfl
theorem sK63:Sound Tryz.prog 63 (.dat false Yw):=by
  apply qax (hc:=cK63) h51 <;> first | exact (rfl:@Eq Spec _ _) | skip
  all_goals decide
def L52:List (Nat×Spec):=(63,.dat false Yw)::L51
theorem h52:Holds Tryz.prog (Gl L52):=qa h51 sK63
theorem cK15:check Tryz.prog 15=some (26,(vr 61 63 62).strip,[.tmp 4]):=by kernel_rfl
theorem sK15:Sound Tryz.prog 15 (.dat true Qn):=by
  apply Zaf (hc:=cK15) h52 <;> first | exact (rfl:@Eq Spec _ _) | skip
  all_goals decide
def L53:List (Nat×Spec):=(15,.dat true Qn)::L52
theorem h53:Holds Tryz.prog (Gl L53):=qa h52 sK15
theorem cK12:check Tryz.prog 12=some (75,(kf 52 53 36 15 70).strip,[.tmp 2]):=by kernel_rfl
theorem sK12:Sound Tryz.prog 12 (.dat false (Xu 70)):=by
  apply yav (hc:=cK12) h53 <;> first | exact (rfl:@Eq Spec _ _) | skip
  all_goals decide
def L54:List (Nat×Spec):=(12,.dat false (Xu 70))::L53
theorem h54:Holds Tryz.prog (Gl L54):=qa h53 sK12
theorem cK77:check Tryz.prog 77=some (24,(kj 12 52 70).strip,[.tmp 4]):=by kernel_rfl
theorem sK77:Sound Tryz.prog 77 (.dat false (kt 70)):=by
  apply jad (hc:=cK77) h54 <;> first | exact (rfl:@Eq Spec _ _) | skip
  all_goals decide
def L55:List (Nat×Spec):=(77,.dat false (kt 70))::L54
theorem h55:Holds Tryz.prog (Gl L55):=qa h54 sK77
theorem cK129:check Tryz.prog 129=some (9,(Um 126 125 127).strip,[.cell 2 2 true]):=by kernel_rfl
theorem sK129:Sound Tryz.prog 129 (.dat false Qs):=by
  apply WK (hc:=cK129) h55 <;> first | exact (rfl:@Eq Spec _ _) | skip
  all_goals decide
def L56:List (Nat×Spec):=(129,.dat false Qs)::L55
theorem h56:Holds Tryz.prog (Gl L56):=qa h55 sK129
theorem cK164:check Tryz.prog 164=some (39,(xr 193 163).strip,[.tmp 4]):=by kernel_rfl
theorem sK164:Sound Tryz.prog 164 (.dat false xo):=by
  apply uaA (hc:=cK164) h56 <;> first | exact (rfl:@Eq Spec _ _) | skip
  all_goals decide
def L57:List (Nat×Spec):=(164,.dat false xo)::L56
theorem h57:Holds Tryz.prog (Gl L57):=qa h56 sK164
theorem cK165:check Tryz.prog 165=some (38,(jq 193 163).strip,[.tmp 4]):=by kernel_rfl
theorem sK165:Sound Tryz.prog 165 (.dat false Yr):=by
  apply qay (hc:=cK165) h57 <;> first | exact (rfl:@Eq Spec _ _) | skip
  all_goals decide
def L58:List (Nat×Spec):=(165,.dat false Yr)::L57
theorem h58:Holds Tryz.prog (Gl L58):=qa h57 sK165
theorem cK130:check Tryz.prog 130=some (47,(yt 125 154 126 164 165 127 70).strip,[.cell 4 2 true,.cell 5 2 true,.tmp 6]):=by kernel_rfl
theorem sK130:Sound Tryz.prog 130 (.dat false QC):=by
  apply zaw (hc:=cK130) h58 <;> first | exact (rfl:@Eq Spec _ _) | skip
  all_goals decide
def L59:List (Nat×Spec):=(130,.dat false QC)::L58
theorem h59:Holds Tryz.prog (Gl L59):=qa h58 sK130
theorem cK64:check Tryz.prog 64=some (47,(Yn 98 129 113 130).strip,[.cell 4 3 true]):=by kernel_rfl
theorem sK64:Sound Tryz.prog 64 (.dat false xg):=by
  apply Jae (hc:=cK64) h59 <;> first | exact (rfl:@Eq Spec _ _) | skip
  all_goals decide
def L60:List (Nat×Spec):=(64,.dat false xg)::L59
theorem h60:Holds Tryz.prog (Gl L60):=qa h59 sK64
theorem cK16:check Tryz.prog 16=some (7,(um 65 66 64).strip,[.cell 2 3 true]):=by kernel_rfl
theorem sK16:Sound Tryz.prog 16 (.dat false Xs):=by
  apply XZ (hc:=cK16) h60 <;> first | exact (rfl:@Eq Spec _ _) | skip
  all_goals decide
def L61:List (Nat×Spec):=(16,.dat false Xs)::L60
theorem h61:Holds Tryz.prog (Gl L61):=qa h60 sK16
theorem cK81:check Tryz.prog 81=some (14,(yr 61 129 64).strip,[.cell 2 3 true]):=by kernel_rfl
theorem sK81:Sound Tryz.prog 81 (.dat false yw):=by
  apply qav (hc:=cK81) h61 <;> first | exact (rfl:@Eq Spec _ _) | skip
  all_goals decide
def L62:List (Nat×Spec):=(81,.dat false yw)::L61
theorem h62:Holds Tryz.prog (Gl L62):=qa h61 sK81
theorem cK122:check Tryz.prog 122=some (29,Xn.strip,[.tmp 2]):=by kernel_rfl
theorem sK122:Sound Tryz.prog 122 (.dat true zj):=by
  apply qS (hc:=cK122) h62 <;> first | exact (rfl:@Eq Spec _ _) | skip
  all_goals decide
def L63:List (Nat×Spec):=(122,.dat true zj)::L62
theorem h63:Holds Tryz.prog (Gl L63):=qa h62 sK122
theorem cK159:check Tryz.prog 159=some (8,ze.strip,[.tmp 2]):=by kernel_rfl
theorem sK159:Sound Tryz.prog 159 (.fresh 5 zn):=by
  apply U3 (hc:=cK159) h63 <;> first | exact (rfl:@Eq Spec _ _) | skip
  all_goals decide
def L64:List (Nat×Spec):=(159,.fresh 5 zn)::L63
theorem h64:Holds Tryz.prog (Gl L64):=qa h63 sK159
theorem cK192:check Tryz.prog 192=some (6,Qt.strip,[.tmp 2]):=by kernel_rfl
theorem sK192:Sound Tryz.prog 192 (.dat true jC):=by
  apply Uay (hc:=cK192) h64 <;> first | exact (rfl:@Eq Spec _ _) | skip
  all_goals decide
def L65:List (Nat×Spec):=(192,.dat true jC)::L64
theorem h65:Holds Tryz.prog (Gl L65):=qa h64 sK192
theorem cK162:check Tryz.prog 162=some (20,(Wf 192).strip,[.tmp 4]):=by kernel_rfl
theorem sK162:Sound Tryz.prog 162 (.dat true YA):=by
  apply xay (hc:=cK162) h65 <;> first | exact (rfl:@Eq Spec _ _) | skip
  all_goals decide
def L66:List (Nat×Spec):=(162,.dat true YA)::L65
theorem h66:Holds Tryz.prog (Gl L66):=qa h65 sK162
theorem cK161:check Tryz.prog 161=some (18,uz.strip,[.tmp 2]):=by kernel_rfl
theorem sK161:Sound Tryz.prog 161 (.dat true uR):=by
  apply qaU (hc:=cK161) h66 <;> first | exact (rfl:@Eq Spec _ _) | skip
  all_goals decide
def L67:List (Nat×Spec):=(161,.dat true uR)::L66
theorem h67:Holds Tryz.prog (Gl L67):=qa h66 sK161
theorem cK123:check Tryz.prog 123=some (23,(jr 162 161).strip,[.tmp 4]):=by kernel_rfl
theorem sK123:Sound Tryz.prog 123 (.dat true ju):=by
  apply Y2 (hc:=cK123) h67 <;> first | exact (rfl:@Eq Spec _ _) | skip
  all_goals decide
def L68:List (Nat×Spec):=(123,.dat true ju)::L67
theorem h68:Holds Tryz.prog (Gl L68):=qa h67 sK123
theorem cK204:check Tryz.prog 204=some (53,jc.strip,[]):=by kernel_rfl
theorem sK204:Sound Tryz.prog 204 (.own (xC 123)):=by
  apply Vay (hc:=cK204) h68 <;> first | exact (rfl:@Eq Spec _ _) | skip
  all_goals decide
def L69:List (Nat×Spec):=(204,.own (xC 123))::L68
theorem h69:Holds Tryz.prog (Gl L69):=qa h68 sK204
theorem cK207:check Tryz.prog 207=some (38,Yc.strip,[]):=by kernel_rfl
theorem sK207:Sound Tryz.prog 207 (.own (Jz 123)):=by
  apply kaw (hc:=cK207) h69 <;> first | exact (rfl:@Eq Spec _ _) | skip
  all_goals decide
def L70:List (Nat×Spec):=(207,.own (Jz 123))::L69
theorem h70:Holds Tryz.prog (Gl L70):=qa h69 sK207
theorem cK206:check Tryz.prog 206=some (58,(wd 207).strip,[]):=by kernel_rfl
theorem sK206:Sound Tryz.prog 206 (.own (ZC 123)):=by
  apply kax (hc:=cK206) h70 <;> first | exact (rfl:@Eq Spec _ _) | skip
  all_goals decide
def L71:List (Nat×Spec):=(206,.own (ZC 123))::L70
theorem h71:Holds Tryz.prog (Gl L71):=qa h70 sK206
theorem cK205:check Tryz.prog 205=some (220,(qb 206 205).strip,[]):=by kernel_rfl
theorem sK205:Sound Tryz.prog 205 (.own (wh 123 10000)):=by
  apply jP (hc:=cK205) h71 <;> first | exact (rfl:@Eq Spec _ _) | skip
  all_goals decide
def L72:List (Nat×Spec):=(205,.own (wh 123 10000))::L71
theorem h72:Holds Tryz.prog (Gl L72):=qa h71 sK205
theorem cK200:check Tryz.prog 200=some (63,(Wd 204 205).strip,[]):=by kernel_rfl
theorem sK200:Sound Tryz.prog 200 (.own (jx 123 10000)):=by
  apply yac (hc:=cK200) h72 <;> first | exact (rfl:@Eq Spec _ _) | skip
  all_goals decide
def L73:List (Nat×Spec):=(200,.own (jx 123 10000))::L72
theorem h73:Holds Tryz.prog (Gl L73):=qa h72 sK200
theorem cK189:check Tryz.prog 189=some (9,(vd 200).strip,[]):=by kernel_rfl
theorem sK189:Sound Tryz.prog 189 (.own (Us 123 10000)):=by
  apply Jad (hc:=cK189) h73 <;> first | exact (rfl:@Eq Spec _ _) | skip
  all_goals decide
def L74:List (Nat×Spec):=(189,.own (Us 123 10000))::L73
theorem h74:Holds Tryz.prog (Gl L74):=qa h73 sK189
theorem cK141:check Tryz.prog 141=some (40,(wt 125 126 164 127 124 165).strip,[.cell 4 2 true]):=by kernel_rfl
theorem sK141:Sound Tryz.prog 141 (.dat false Uu):=by
  apply yay (hc:=cK141) h74 <;> first | exact (rfl:@Eq Spec _ _) | skip
  all_goals decide
def L75:List (Nat×Spec):=(141,.dat false Uu)::L74
theorem h75:Holds Tryz.prog (Gl L75):=qa h74 sK141
theorem cK82:check Tryz.prog 82=some (30,(wr 61 63 141 64).strip,[.cell 4 3 true]):=by kernel_rfl
theorem sK82:Sound Tryz.prog 82 (.dat false ul):=by
  apply way (hc:=cK82) h75 <;> first | exact (rfl:@Eq Spec _ _) | skip
  all_goals decide
def L76:List (Nat×Spec):=(82,.dat false ul)::L75
theorem h76:Holds Tryz.prog (Gl L76):=qa h75 sK82
theorem cK191:check Tryz.prog 191=some (7,(Vq 36).strip,[.tmp 2]):=by kernel_rfl
theorem sK191:Sound Tryz.prog 191 (.dat true qz):=by
  apply kaA (hc:=cK191) h76 <;> first | exact (rfl:@Eq Spec _ _) | skip
  all_goals decide
def L77:List (Nat×Spec):=(191,.dat true qz)::L76
theorem h77:Holds Tryz.prog (Gl L77):=qa h76 sK191
theorem cK201:check Tryz.prog 201=some (19,Xf.strip,[.tmp 4]):=by kernel_rfl
theorem sK201:Sound Tryz.prog 201 (.dat true (jB 191)):=by
  apply Wax (hc:=cK201) h77 <;> first | exact (rfl:@Eq Spec _ _) | skip
  all_goals decide
def L78:List (Nat×Spec):=(201,.dat true (jB 191))::L77
theorem h78:Holds Tryz.prog (Gl L78):=qa h77 sK201
theorem cK190:check Tryz.prog 190=some (42,(Qc 201).strip,[.tmp 4]):=by kernel_rfl
theorem sK190:Sound Tryz.prog 190 (.own (UC 191)):=by
  apply Yay (hc:=cK190) h78 <;> first | exact (rfl:@Eq Spec _ _) | skip
  all_goals decide
def L79:List (Nat×Spec):=(190,.own (UC 191))::L78
theorem h79:Holds Tryz.prog (Gl L79):=qa h78 sK190
theorem cK158:check Tryz.prog 158=some (60,(xv 159 189 123 82 190 191).strip,[.tmp 2]):=by kernel_rfl
theorem sK158:Sound Tryz.prog 158 (.dat false (vu 10000)):=by
  apply zax (hc:=cK158) h79 <;> first | exact (rfl:@Eq Spec _ _) | skip
  all_goals decide
def L80:List (Nat×Spec):=(158,.dat false (vu 10000))::L79
theorem h80:Holds Tryz.prog (Gl L80):=qa h79 sK158
theorem cK155:check Tryz.prog 155=some (28,(jn 122 53 158 70).strip,[.tmp 2,.tmp 3]):=by kernel_rfl
theorem sK155:Sound Tryz.prog 155 (.dat false (Xt 70)):=by
  apply qac (hc:=cK155) h80 <;> first | exact (rfl:@Eq Spec _ _) | skip
  all_goals decide
def L81:List (Nat×Spec):=(155,.dat false (Xt 70))::L80
theorem h81:Holds Tryz.prog (Gl L81):=qa h80 sK155
theorem cK118:check Tryz.prog 118=some (17,ue.strip,[.tmp 6]):=by kernel_rfl
theorem sK118:Sound Tryz.prog 118 (.red Ql):=by
  apply vaa (hc:=cK118) h81 <;> first | exact (rfl:@Eq Spec _ _) | skip
  all_goals decide
def L82:List (Nat×Spec):=(118,.red Ql)::L81
theorem h82:Holds Tryz.prog (Gl L82):=qa h81 sK118
theorem cK114:check Tryz.prog 114=some (23,(vc 16 81 155 118).strip,[.tmp 6]):=by kernel_rfl
theorem sK114:Sound Tryz.prog 114 (.red yC):=by
  apply xaw (hc:=cK114) h82 <;> first | exact (rfl:@Eq Spec _ _) | skip
  all_goals decide
def L83:List (Nat×Spec):=(114,.red yC)::L82
theorem h83:Holds Tryz.prog (Gl L83):=qa h82 sK114
theorem cK79:check Tryz.prog 79=some (9,(zr 81 82).strip,[.cell 4 3 true]):=by kernel_rfl
theorem sK79:Sound Tryz.prog 79 (.dat false Zs):=by
  apply waz (hc:=cK79) h83 <;> first | exact (rfl:@Eq Spec _ _) | skip
  all_goals decide
def L84:List (Nat×Spec):=(79,.dat false Zs)::L83
theorem h84:Holds Tryz.prog (Gl L84):=qa h83 sK79
theorem cK59:check Tryz.prog 59=some (48,(yk 122 53 36 123 70).strip,[.tmp 2]):=by kernel_rfl
theorem sK59:Sound Tryz.prog 59 (.dat false (jl 70)):=by
  apply jY (hc:=cK59) h84 <;> first | exact (rfl:@Eq Spec _ _) | skip
  all_goals decide
def L85:List (Nat×Spec):=(59,.dat false (jl 70))::L84
theorem h85:Holds Tryz.prog (Gl L85):=qa h84 sK59
theorem cK48:check Tryz.prog 48=some (26,(uq 61 63 64).strip,[.cell 4 3 true]):=by kernel_rfl
theorem sK48:Sound Tryz.prog 48 (.dat false Yh):=by
  apply Xaz (hc:=cK48) h85 <;> first | exact (rfl:@Eq Spec _ _) | skip
  all_goals decide
def L86:List (Nat×Spec):=(48,.dat false Yh)::L85
theorem h86:Holds Tryz.prog (Gl L86):=qa h85 sK48
theorem cK160:check Tryz.prog 160=some (28,(yq 48).strip,[.tmp 4]):=by kernel_rfl
theorem sK160:Sound Tryz.prog 160 (.dat false yy):=by
  apply Qav (hc:=cK160) h86 <;> first | exact (rfl:@Eq Spec _ _) | skip
  all_goals decide
def L87:List (Nat×Spec):=(160,.dat false yy)::L86
theorem h87:Holds Tryz.prog (Gl L87):=qa h86 sK160
theorem cK121:check Tryz.prog 121=some (16,(vl 59 160 158).strip,[.tmp 4,.tmp 5]):=by kernel_rfl
theorem sK121:Sound Tryz.prog 121 (.dat false (jp 70)):=by
  apply V6 (hc:=cK121) h87 <;> first | exact (rfl:@Eq Spec _ _) | skip
  all_goals decide
def L88:List (Nat×Spec):=(121,.dat false (jp 70))::L87
theorem h88:Holds Tryz.prog (Gl L88):=qa h87 sK121
theorem cK57:check Tryz.prog 57=some (14,(Ze 121 118).strip,[.tmp 6]):=by kernel_rfl
theorem sK57:Sound Tryz.prog 57 (.red Zn):=by
  apply J7 (hc:=cK57) h88 <;> first | exact (rfl:@Eq Spec _ _) | skip
  all_goals decide
def L89:List (Nat×Spec):=(57,.red Zn)::L88
theorem h89:Holds Tryz.prog (Gl L89):=qa h88 sK57
theorem cK157:check Tryz.prog 157=some (18,(xn 59).strip,[.tmp 2]):=by kernel_rfl
theorem sK157:Sound Tryz.prog 157 (.dat false (Xg 70)):=by
  apply ZS (hc:=cK157) h89 <;> first | exact (rfl:@Eq Spec _ _) | skip
  all_goals decide
def L90:List (Nat×Spec):=(157,.dat false (Xg 70))::L89
theorem h90:Holds Tryz.prog (Gl L90):=qa h89 sK157
theorem cK119:check Tryz.prog 119=some (21,(Xo 157 159 16 160 158).strip,[.tmp 4,.tmp 5]):=by kernel_rfl
theorem sK119:Sound Tryz.prog 119 (.dat false (vD 70)):=by
  apply Yav (hc:=cK119) h90 <;> first | exact (rfl:@Eq Spec _ _) | skip
  all_goals decide
def L91:List (Nat×Spec):=(119,.dat false (vD 70))::L90
theorem h91:Holds Tryz.prog (Gl L91):=qa h90 sK119
theorem cK55:check Tryz.prog 55=some (14,(Jf 119 118).strip,[.tmp 6]):=by kernel_rfl
theorem sK55:Sound Tryz.prog 55 (.red Zx):=by
  apply uav (hc:=cK55) h91 <;> first | exact (rfl:@Eq Spec _ _) | skip
  all_goals decide
def L92:List (Nat×Spec):=(55,.red Zx)::L91
theorem h92:Holds Tryz.prog (Gl L92):=qa h91 sK55
theorem cK199:check Tryz.prog 199=some (27,vm.strip,[.tmp 4]):=by kernel_rfl
theorem sK199:Sound Tryz.prog 199 (.fresh 5 vv):=by
  apply yaa (hc:=cK199) h92 <;> first | exact (rfl:@Eq Spec _ _) | skip
  all_goals decide
def L93:List (Nat×Spec):=(199,.fresh 5 vv)::L92
theorem h93:Holds Tryz.prog (Gl L93):=qa h92 sK199
theorem cK188:check Tryz.prog 188=some (36,(xj 199).strip,[.tmp 2]):=by kernel_rfl
theorem sK188:Sound Tryz.prog 188 (.fresh 5 Wv):=by
  apply zag (hc:=cK188) h93 <;> first | exact (rfl:@Eq Spec _ _) | skip
  all_goals decide
def L94:List (Nat×Spec):=(188,.fresh 5 Wv)::L93
theorem h94:Holds Tryz.prog (Gl L94):=qa h93 sK188
theorem cK156:check Tryz.prog 156=some (19,(Qp 157 188 158).strip,[.tmp 4,.tmp 5]):=by kernel_rfl
theorem sK156:Sound Tryz.prog 156 (.dat false (kB 70)):=by
  apply Yax (hc:=cK156) h94 <;> first | exact (rfl:@Eq Spec _ _) | skip
  all_goals decide
def L95:List (Nat×Spec):=(156,.dat false (kB 70))::L94
theorem h95:Holds Tryz.prog (Gl L95):=qa h94 sK156
theorem cK116:check Tryz.prog 116=some (14,(Qf 156 118).strip,[.tmp 6]):=by kernel_rfl
theorem sK116:Sound Tryz.prog 116 (.red uw):=by
  apply vaz (hc:=cK116) h95 <;> first | exact (rfl:@Eq Spec _ _) | skip
  all_goals decide
def L96:List (Nat×Spec):=(116,.red uw)::L95
theorem h96:Holds Tryz.prog (Gl L96):=qa h95 sK116
theorem cK115:check Tryz.prog 115=some (34,(je 57 55 116).strip,[.cell 8 2 true]):=by kernel_rfl
theorem sK115:Sound Tryz.prog 115 (.red wD):=by
  apply uax (hc:=cK115) h96 <;> first | exact (rfl:@Eq Spec _ _) | skip
  all_goals decide
def L97:List (Nat×Spec):=(115,.red wD)::L96
theorem h97:Holds Tryz.prog (Gl L97):=qa h96 sK115
theorem cK83:check Tryz.prog 83=some (12,(qm 48 82).strip,[.cell 4 3 true]):=by kernel_rfl
theorem sK83:Sound Tryz.prog 83 (.dat false Zz):=by
  apply uaz (hc:=cK83) h97 <;> first | exact (rfl:@Eq Spec _ _) | skip
  all_goals decide
def L98:List (Nat×Spec):=(83,.dat false Zz)::L97
theorem h98:Holds Tryz.prog (Gl L98):=qa h97 sK83
theorem cK60:check Tryz.prog 60=some (21,Yj.strip,[.tmp 2]):=by kernel_rfl
theorem sK60:Sound Tryz.prog 60 (.dat true VD):=by
  apply Wav (hc:=cK60) h98 <;> first | exact (rfl:@Eq Spec _ _) | skip
  all_goals decide
def L99:List (Nat×Spec):=(60,.dat true VD)::L98
theorem h99:Holds Tryz.prog (Gl L99):=qa h98 sK60
theorem cK120:check Tryz.prog 120=some (71,(xk 157 60 48 158 70).strip,[.tmp 4,.tmp 5]):=by kernel_rfl
theorem sK120:Sound Tryz.prog 120 (.dat false (jD 70)):=by
  apply vaw (hc:=cK120) h99 <;> first | exact (rfl:@Eq Spec _ _) | skip
  all_goals decide
def L100:List (Nat×Spec):=(120,.dat false (jD 70))::L99
theorem h100:Holds Tryz.prog (Gl L100):=qa h99 sK120
theorem cK56:check Tryz.prog 56=some (14,(Ue 120 118).strip,[.tmp 6]):=by kernel_rfl
theorem sK56:Sound Tryz.prog 56 (.red Xx):=by
  apply Qay (hc:=cK56) h100 <;> first | exact (rfl:@Eq Spec _ _) | skip
  all_goals decide
def L101:List (Nat×Spec):=(56,.red Xx)::L100
theorem h101:Holds Tryz.prog (Gl L101):=qa h100 sK56
theorem cK58:check Tryz.prog 58=some (19,(we 56 116).strip,[.tmp 4]):=by kernel_rfl
theorem sK58:Sound Tryz.prog 58 (.red Yy):=by
  apply Xax (hc:=cK58) h101 <;> first | exact (rfl:@Eq Spec _ _) | skip
  all_goals decide
def L102:List (Nat×Spec):=(58,.red Yy)::L101
theorem h102:Holds Tryz.prog (Gl L102):=qa h101 sK58
theorem cK117:check Tryz.prog 117=some (13,(uc 155 118).strip,[.tmp 4]):=by kernel_rfl
theorem sK117:Sound Tryz.prog 117 (.red kC):=by
  apply zay (hc:=cK117) h102 <;> first | exact (rfl:@Eq Spec _ _) | skip
  all_goals decide
def L103:List (Nat×Spec):=(117,.red kC)::L102
theorem h103:Holds Tryz.prog (Gl L103):=qa h102 sK117
theorem cK54:check Tryz.prog 54=some (111,(Qe 114 16 79 81 115 83 48 58 117 116 55 56).strip,[.cell 4 7 true]):=by kernel_rfl
theorem sK54:Sound Tryz.prog 54 (.red WD):=by
  apply jav (hc:=cK54) h103 <;> first | exact (rfl:@Eq Spec _ _) | skip
  all_goals decide
def L104:List (Nat×Spec):=(54,.red WD)::L103
theorem h104:Holds Tryz.prog (Gl L104):=qa h103 sK54
theorem cK13:check Tryz.prog 13=some (78,(wj 12 54 56 55 16 48 57 58).strip,[.tmp 2,.tmp 3]):=by kernel_rfl
theorem sK13:Sound Tryz.prog 13 (.dat false (ky 70)):=by
  apply qaw (hc:=cK13) h104 <;> first | exact (rfl:@Eq Spec _ _) | skip
  all_goals decide
def L105:List (Nat×Spec):=(13,.dat false (ky 70))::L104
theorem h105:Holds Tryz.prog (Gl L105):=qa h104 sK13
theorem cK142:check Tryz.prog 142=some (14,(jo 98 64 70).strip,[.cell 4 3 true,.tmp 5]):=by kernel_rfl
theorem sK142:Sound Tryz.prog 142 (.dat false (Xp 70)):=by
  apply ZX (hc:=cK142) h105 <;> first | exact (rfl:@Eq Spec _ _) | skip
  all_goals decide
def L106:List (Nat×Spec):=(142,.dat false (Xp 70))::L105
theorem h106:Holds Tryz.prog (Gl L106):=qa h105 sK142
theorem cK84:check Tryz.prog 84=some (29,(Zr 61 63 142).strip,[.cell 4 3 true,.tmp 5]):=by kernel_rfl
theorem sK84:Sound Tryz.prog 84 (.dat false (Yt 70)):=by
  apply Yac (hc:=cK84) h106 <;> first | exact (rfl:@Eq Spec _ _) | skip
  all_goals decide
def L107:List (Nat×Spec):=(84,.dat false (Yt 70))::L106
theorem h107:Holds Tryz.prog (Gl L107):=qa h106 sK84
theorem cK49:check Tryz.prog 49=some (34,(jm 16 48 84 70).strip,[.cell 4 3 true,.tmp 5]):=by kernel_rfl
theorem sK49:Sound Tryz.prog 49 (.dat false (Xy 70)):=by
  apply Xav (hc:=cK49) h107 <;> first | exact (rfl:@Eq Spec _ _) | skip
  all_goals decide
def L108:List (Nat×Spec):=(49,.dat false (Xy 70))::L107
theorem h108:Holds Tryz.prog (Gl L108):=qa h107 sK49
theorem cK35:check Tryz.prog 35=some (59,(Xm 59 49 48 82).strip,[.cell 6 3 true,.tmp 7]):=by kernel_rfl
theorem sK35:Sound Tryz.prog 35 (.dat false (qt 70)):=by
  apply Vae (hc:=cK35) h108 <;> first | exact (rfl:@Eq Spec _ _) | skip
  all_goals decide
def L109:List (Nat×Spec):=(35,.dat false (qt 70))::L108
theorem h109:Holds Tryz.prog (Gl L109):=qa h108 sK35
theorem cK24:check Tryz.prog 24=some (42,(Zp 77 13 35 36).strip,[.tmp 4,.tmp 5]):=by kernel_rfl
theorem sK24:Sound Tryz.prog 24 (.dat false (Vz 70)):=by
  apply vaA (hc:=cK24) h109 <;> first | exact (rfl:@Eq Spec _ _) | skip
  all_goals decide
def L110:List (Nat×Spec):=(24,.dat false (Vz 70))::L109
theorem h110:Holds Tryz.prog (Gl L110):=qa h109 sK24
theorem cK78:check Tryz.prog 78=some (16,(Vt 79).strip,[.cell 4 6 true]):=by kernel_rfl
theorem sK78:Sound Tryz.prog 78 (.dat false xt):=by
  apply Zad (hc:=cK78) h110 <;> first | exact (rfl:@Eq Spec _ _) | skip
  all_goals decide
def L111:List (Nat×Spec):=(78,.dat false xt)::L110
theorem h111:Holds Tryz.prog (Gl L111):=qa h110 sK78
theorem cK80:check Tryz.prog 80=some (26,(Jo 48 79 82).strip,[.cell 6 6 true]):=by kernel_rfl
theorem sK80:Sound Tryz.prog 80 (.dat false xJ):=by
  apply yaH (hc:=cK80) h111 <;> first | exact (rfl:@Eq Spec _ _) | skip
  all_goals decide
def L112:List (Nat×Spec):=(80,.dat false xJ)::L111
theorem h112:Holds Tryz.prog (Gl L112):=qa h111 sK80
theorem cK85:check Tryz.prog 85=some (16,(ut 82).strip,[.cell 4 6 true]):=by kernel_rfl
theorem sK85:Sound Tryz.prog 85 (.dat false Jl):=by
  apply Vad (hc:=cK85) h112 <;> first | exact (rfl:@Eq Spec _ _) | skip
  all_goals decide
def L113:List (Nat×Spec):=(85,.dat false Jl)::L112
theorem h113:Holds Tryz.prog (Gl L113):=qa h112 sK85
theorem cK25:check Tryz.prog 25=some (171,(xe 24 78 16 79 81 80 48 36 83 82 84 85 70).strip,[.cell 4 6 true,.cell 5 6 true,.tmp 6]):=by kernel_rfl
theorem sK25:Sound Tryz.prog 25 (.dat false (VC 70)):=by
  apply jax (hc:=cK25) h113 <;> first | exact (rfl:@Eq Spec _ _) | skip
  all_goals decide
def L114:List (Nat×Spec):=(25,.dat false (VC 70))::L113
theorem h114:Holds Tryz.prog (Gl L114):=qa h113 sK25
theorem cK26:check Tryz.prog 26=some (28,(Wj 77 78 80 85).strip,[.cell 6 6 true,.tmp 7]):=by kernel_rfl
theorem sK26:Sound Tryz.prog 26 (.dat false (xA 70)):=by
  apply XaA (hc:=cK26) h114 <;> first | exact (rfl:@Eq Spec _ _) | skip
  all_goals decide
def L115:List (Nat×Spec):=(26,.dat false (xA 70))::L114
theorem h115:Holds Tryz.prog (Gl L115):=qa h114 sK26
theorem cK133:check Tryz.prog 133=some (26,ug.strip,[.tmp 4]):=by kernel_rfl
theorem sK133:Sound Tryz.prog 133 (.dat true Zq):=by
  apply YV (hc:=cK133) h115 <;> first | exact (rfl:@Eq Spec _ _) | skip
  all_goals decide
def L116:List (Nat×Spec):=(133,.dat true Zq)::L115
theorem h116:Holds Tryz.prog (Gl L116):=qa h115 sK133
theorem cK69:check Tryz.prog 69=some (24,(jk 133).strip,[.tmp 4]):=by kernel_rfl
theorem sK69:Sound Tryz.prog 69 (.dat true uA):=by
  apply Vaw (hc:=cK69) h116 <;> first | exact (rfl:@Eq Spec _ _) | skip
  all_goals decide
def L117:List (Nat×Spec):=(69,.dat true uA)::L116
theorem h117:Holds Tryz.prog (Gl L117):=qa h116 sK69
theorem cK29:check Tryz.prog 29=some (17,(ud 69).strip,[.tmp 4]):=by kernel_rfl
theorem sK29:Sound Tryz.prog 29 (.dat true Zw):=by
  apply wad (hc:=cK29) h117 <;> first | exact (rfl:@Eq Spec _ _) | skip
  all_goals decide
def L118:List (Nat×Spec):=(29,.dat true Zw)::L117
theorem h118:Holds Tryz.prog (Gl L118):=qa h117 sK29
theorem cK10:check Tryz.prog 10=some (72,(xf 50 51 24 25 26 29).strip,[.tmp 0]):=by kernel_rfl
theorem sK10:Sound Tryz.prog 10 (.dat true Vw):=by
  apply W9 (hc:=cK10) h118 <;> first | exact (rfl:@Eq Spec _ _) | skip
  all_goals decide
def L119:List (Nat×Spec):=(10,.dat true Vw)::L118
theorem h119:Holds Tryz.prog (Gl L119):=qa h118 sK10
theorem cK11:check Tryz.prog 11=some (44,uf.strip,[.tmp 2]):=by kernel_rfl
theorem sK11:Sound Tryz.prog 11 (.dat true YB):=by
  apply Vax (hc:=cK11) h119 <;> first | exact (rfl:@Eq Spec _ _) | skip
  all_goals decide
def L120:List (Nat×Spec):=(11,.dat true YB)::L119
theorem h120:Holds Tryz.prog (Gl L120):=qa h119 sK11
theorem cK23:check Tryz.prog 23=some (35,Jd.strip,[.tmp 2]):=by kernel_rfl
theorem sK23:Sound Tryz.prog 23 (.dat true vp):=by
  apply uX (hc:=cK23) h120 <;> first | exact (rfl:@Eq Spec _ _) | skip
  all_goals decide
def L121:List (Nat×Spec):=(23,.dat true vp)::L120
theorem h121:Holds Tryz.prog (Gl L121):=qa h120 sK23
theorem cK39:check Tryz.prog 39=some (40,yf.strip,[.tmp 2]):=by kernel_rfl
theorem sK39:Sound Tryz.prog 39 (.dat true Wp):=by
  apply VZ (hc:=cK39) h121 <;> first | exact (rfl:@Eq Spec _ _) | skip
  all_goals decide
def L122:List (Nat×Spec):=(39,.dat true Wp)::L121
theorem h122:Holds Tryz.prog (Gl L122):=qa h121 sK39
theorem cK102:check Tryz.prog 102=some (15,qg.strip,[.tmp 2]):=by kernel_rfl
theorem sK102:Sound Tryz.prog 102 (.dat true yp):=by
  apply XJ (hc:=cK102) h122 <;> first | exact (rfl:@Eq Spec _ _) | skip
  all_goals decide
def L123:List (Nat×Spec):=(102,.dat true yp)::L122
theorem h123:Holds Tryz.prog (Gl L123):=qa h122 sK102
theorem cK145:check Tryz.prog 145=some (38,(ui 151 166 171 149 172 173).strip,[.cell 4 2 true]):=by kernel_rfl
theorem sK145:Sound Tryz.prog 145 (.dat false Uu):=by
  apply V3 (hc:=cK145) h123 <;> first | exact (rfl:@Eq Spec _ _) | skip
  all_goals decide
def L124:List (Nat×Spec):=(145,.dat false Uu)::L123
theorem h124:Holds Tryz.prog (Gl L124):=qa h123 sK145
theorem cK148:check Tryz.prog 148=some (9,(Wi 139 145).strip,[.cell 4 2 true]):=by kernel_rfl
theorem sK148:Sound Tryz.prog 148 (.dat false uC):=by
  apply yX (hc:=cK148) h124 <;> first | exact (rfl:@Eq Spec _ _) | skip
  all_goals decide
def L125:List (Nat×Spec):=(148,.dat false uC)::L124
theorem h125:Holds Tryz.prog (Gl L125):=qa h124 sK148
theorem cK103:check Tryz.prog 103=some (9,(wi 148 132).strip,[.tmp 4]):=by kernel_rfl
theorem sK103:Sound Tryz.prog 103 (.dat true Up):=by
  apply jV (hc:=cK103) h125 <;> first | exact (rfl:@Eq Spec _ _) | skip
  all_goals decide
def L126:List (Nat×Spec):=(103,.dat true Up)::L125
theorem h126:Holds Tryz.prog (Gl L126):=qa h125 sK103
theorem cK43:check Tryz.prog 43=some (36,(Yf 102 104 105 103).strip,[.tmp 2]):=by kernel_rfl
theorem sK43:Sound Tryz.prog 43 (.dat true Vd):=by
  apply yJ (hc:=cK43) h126 <;> first | exact (rfl:@Eq Spec _ _) | skip
  all_goals decide
def L127:List (Nat×Spec):=(43,.dat true Vd)::L126
theorem h127:Holds Tryz.prog (Gl L127):=qa h126 sK43
theorem cK28:check Tryz.prog 28=some (11,(yd 43).strip,[.tmp 2]):=by kernel_rfl
theorem sK28:Sound Tryz.prog 28 (.dat true xd):=by
  apply xx (hc:=cK28) h127 <;> first | exact (rfl:@Eq Spec _ _) | skip
  all_goals decide
def L128:List (Nat×Spec):=(28,.dat true xd)::L127
theorem h128:Holds Tryz.prog (Gl L128):=qa h127 sK28
theorem cK146:check Tryz.prog 146=some (18,(Qi 53 36 70).strip,[.tmp 2]):=by kernel_rfl
theorem sK146:Sound Tryz.prog 146 (.dat false (Jj 70)):=by
  apply VU (hc:=cK146) h128 <;> first | exact (rfl:@Eq Spec _ _) | skip
  all_goals decide
def L129:List (Nat×Spec):=(146,.dat false (Jj 70))::L128
theorem h129:Holds Tryz.prog (Gl L129):=qa h128 sK146
theorem cK108:check Tryz.prog 108=some (11,(yd 53).strip,[.tmp 2]):=by kernel_rfl
theorem sK108:Sound Tryz.prog 108 (.dat true xd):=by
  apply xx (hc:=cK108) h129 <;> first | exact (rfl:@Eq Spec _ _) | skip
  all_goals decide
def L130:List (Nat×Spec):=(108,.dat true xd)::L129
theorem h130:Holds Tryz.prog (Gl L130):=qa h129 sK108
theorem cK99:check Tryz.prog 99=some (12,(Yp 146 108).strip,[.tmp 2]):=by kernel_rfl
theorem sK99:Sound Tryz.prog 99 (.dat true Wy):=by
  apply Vav (hc:=cK99) h130 <;> first | exact (rfl:@Eq Spec _ _) | skip
  all_goals decide
def L131:List (Nat×Spec):=(99,.dat true Wy)::L130
theorem h131:Holds Tryz.prog (Gl L131):=qa h130 sK99
theorem cK147:check Tryz.prog 147=some (13,(uj 48).strip,[.cell 3 6 true]):=by kernel_rfl
theorem sK147:Sound Tryz.prog 147 (.dat false JR):=by
  apply QaE (hc:=cK147) h131 <;> first | exact (rfl:@Eq Spec _ _) | skip
  all_goals decide
def L132:List (Nat×Spec):=(147,.dat false JR)::L131
theorem h132:Holds Tryz.prog (Gl L132):=qa h131 sK147
theorem cK100:check Tryz.prog 100=some (40,(Zm 16 48 147).strip,[.cell 6 27 true]):=by kernel_rfl
theorem sK100:Sound Tryz.prog 100 (.dat false Qz):=by
  apply Zaz (hc:=cK100) h132 <;> first | exact (rfl:@Eq Spec _ _) | skip
  all_goals decide
def L133:List (Nat×Spec):=(100,.dat false Qz)::L132
theorem h133:Holds Tryz.prog (Gl L133):=qa h132 sK100
theorem cK203:check Tryz.prog 203=some (17,(Ws 84).strip,[.cell 4 3 true]):=by kernel_rfl
theorem sK203:Sound Tryz.prog 203 (.dat false Qw):=by
  apply wac (hc:=cK203) h133 <;> first | exact (rfl:@Eq Spec _ _) | skip
  all_goals decide
def L134:List (Nat×Spec):=(203,.dat false Qw)::L133
theorem h134:Holds Tryz.prog (Gl L134):=qa h133 sK203
theorem cK197:check Tryz.prog 197=some (32,(Ji 16 48 82 79 203).strip,[.cell 2 3 true,.cell 3 3 true]):=by kernel_rfl
theorem sK197:Sound Tryz.prog 197 (.dat false uy):=by
  apply jaz (hc:=cK197) h134 <;> first | exact (rfl:@Eq Spec _ _) | skip
  all_goals decide
def L135:List (Nat×Spec):=(197,.dat false uy)::L134
theorem h135:Holds Tryz.prog (Gl L135):=qa h134 sK197
theorem cK180:check Tryz.prog 180=some (19,(Wm 146 197).strip,[.cell 2 3 true,.tmp 3]):=by kernel_rfl
theorem sK180:Sound Tryz.prog 180 (.dat false (yD 70)):=by
  apply Jax (hc:=cK180) h135 <;> first | exact (rfl:@Eq Spec _ _) | skip
  all_goals decide
def L136:List (Nat×Spec):=(180,.dat false (yD 70))::L135
theorem h136:Holds Tryz.prog (Gl L136):=qa h135 sK180
theorem cK181:check Tryz.prog 181=some (19,(wm 146 197).strip,[.cell 2 3 true,.tmp 3]):=by kernel_rfl
theorem sK181:Sound Tryz.prog 181 (.dat false (yB 70)):=by
  apply ZaA (hc:=cK181) h136 <;> first | exact (rfl:@Eq Spec _ _) | skip
  all_goals decide
def L137:List (Nat×Spec):=(181,.dat false (yB 70))::L136
theorem h137:Holds Tryz.prog (Gl L137):=qa h136 sK181
theorem cK153:check Tryz.prog 153=some (29,(Xh 146 180 181 70).strip,[.cell 2 3 true,.cell 3 3 true,.tmp 4]):=by kernel_rfl
theorem sK153:Sound Tryz.prog 153 (.dat false (vC 70)):=by
  apply Uaw (hc:=cK153) h137 <;> first | exact (rfl:@Eq Spec _ _) | skip
  all_goals decide
def L138:List (Nat×Spec):=(153,.dat false (vC 70))::L137
theorem h138:Holds Tryz.prog (Gl L138):=qa h137 sK153
theorem cK109:check Tryz.prog 109=some (38,(Ym 153 48 79 82).strip,[.cell 4 6 true,.tmp 5]):=by kernel_rfl
theorem sK109:Sound Tryz.prog 109 (.dat false (qC 70)):=by
  apply VaA (hc:=cK109) h138 <;> first | exact (rfl:@Eq Spec _ _) | skip
  all_goals decide
def L139:List (Nat×Spec):=(109,.dat false (qC 70))::L138
theorem h139:Holds Tryz.prog (Gl L139):=qa h138 sK109
theorem cK110:check Tryz.prog 110=some (16,(Yz 82).strip,[.cell 4 6 true]):=by kernel_rfl
theorem sK110:Sound Tryz.prog 110 (.dat false Jl):=by
  apply xab (hc:=cK110) h139 <;> first | exact (rfl:@Eq Spec _ _) | skip
  all_goals decide
def L140:List (Nat×Spec):=(110,.dat false Jl)::L139
theorem h140:Holds Tryz.prog (Gl L140):=qa h139 sK110
theorem cK47:check Tryz.prog 47=some (33,(Uk 99 108 109 110 70).strip,[.cell 4 6 true,.tmp 5]):=by kernel_rfl
theorem sK47:Sound Tryz.prog 47 (.dat false (xy 70)):=by
  apply Zay (hc:=cK47) h140 <;> first | exact (rfl:@Eq Spec _ _) | skip
  all_goals decide
def L141:List (Nat×Spec):=(47,.dat false (xy 70))::L140
theorem h141:Holds Tryz.prog (Gl L141):=qa h140 sK47
theorem cK40:check Tryz.prog 40=some (51,(Vh 12 99 16 100 47 70).strip,[.cell 4 27 true,.tmp 5]):=by kernel_rfl
theorem sK40:Sound Tryz.prog 40 (.dat false (qB 70)):=by
  apply Jaw (hc:=cK40) h141 <;> first | exact (rfl:@Eq Spec _ _) | skip
  all_goals decide
def L142:List (Nat×Spec):=(40,.dat false (qB 70))::L141
theorem h142:Holds Tryz.prog (Gl L142):=qa h141 sK40
theorem cK41:check Tryz.prog 41=some (29,(Yd 12 53 36 48 100 70).strip,[.cell 4 27 true,.tmp 5]):=by kernel_rfl
theorem sK41:Sound Tryz.prog 41 (.dat false (wB 70)):=by
  apply Yaw (hc:=cK41) h142 <;> first | exact (rfl:@Eq Spec _ _) | skip
  all_goals decide
def L143:List (Nat×Spec):=(41,.dat false (wB 70))::L142
theorem h143:Holds Tryz.prog (Gl L143):=qa h142 sK41
theorem cK9:check Tryz.prog 9=some (191,(ua 10 11 23 39 12 28 40 41 13 35 47 15 48 49).strip,[.tmp 6]):=by kernel_rfl
theorem sK9:Sound Tryz.prog 9 (.dat true zl):=by
  apply ZQ (hc:=cK9) h143 <;> first | exact (rfl:@Eq Spec _ _) | skip
  all_goals decide
def L144:List (Nat×Spec):=(9,.dat true zl)::L143
theorem h144:Holds Tryz.prog (Gl L144):=qa h143 sK9
theorem hold:Holds Tryz.prog (Gl L144):=h144
end Go.Abs
