/-
  The contracts of this seat's functions, gathered.
-/
import Derived.Test.YtjggkdaangghfaaGreatDoorChecked
import Derived.Test.YtjggkdaangghfaaGreatDoorBits
import Derived.KernelRfl
import Derived.Test.YtjggkdaangghfaaGreatDoorM13
set_option maxRecDepth 100000
set_option linter.unusedVariables false
namespace Go.Abs
open Go.Proofs
theorem cK166:check Tryz.prog 166=some (25,Uc.strip,[.tmp 2]):=by kernel_rfl
theorem sK166:Sound Tryz.prog 166 (.fresh 1 vu):=by
  apply ZaD (hc:=cK166) U3 <;> first | exact (rfl:@Eq Spec _ _) | skip
  all_goals decide
def L1:List (Nat×Spec):=(166,.fresh 1 vu)::[]
theorem h1:Holds Tryz.prog (Gl L1):=Za U3 sK166
theorem cK130:check Tryz.prog 130=some (14,(vi 166).strip,[.cell 4 2 true]):=by kernel_rfl
theorem sK130:Sound Tryz.prog 130 (.dat false Ue):=by
  apply yac (hc:=cK130) h1 <;> first | exact (rfl:@Eq Spec _ _) | skip
  all_goals decide
def L2:List (Nat×Spec):=(130,.dat false Ue)::L1
theorem h2:Holds Tryz.prog (Gl L2):=Za h1 sK130
theorem cK81:check Tryz.prog 81=some (19,(jr 130).strip,[.cell 2 2 true]):=by kernel_rfl
theorem sK81:Sound Tryz.prog 81 (.dat false WF):=by
  apply jZ (hc:=cK81) h2 <;> first | exact (rfl:@Eq Spec _ _) | skip
  all_goals decide
def L3:List (Nat×Spec):=(81,.dat false WF)::L2
theorem h3:Holds Tryz.prog (Gl L3):=Za h2 sK81
theorem cK162:check Tryz.prog 162=some (19,Xk.strip,[.tmp 2]):=by kernel_rfl
theorem sK162:Sound Tryz.prog 162 (.dat true ui):=by
  apply yG (hc:=cK162) h3 <;> first | exact (rfl:@Eq Spec _ _) | skip
  all_goals decide
def L4:List (Nat×Spec):=(162,.dat true ui)::L3
theorem h4:Holds Tryz.prog (Gl L4):=Za h3 sK162
theorem cK126:check Tryz.prog 126=some (8,(Un 162).strip,[.tmp 2]):=by kernel_rfl
theorem sK126:Sound Tryz.prog 126 (.dat false Zj):=by
  apply qP (hc:=cK126) h4 <;> first | exact (rfl:@Eq Spec _ _) | skip
  all_goals decide
def L5:List (Nat×Spec):=(126,.dat false Zj)::L4
theorem h5:Holds Tryz.prog (Gl L5):=Za h4 sK126
theorem cK127:check Tryz.prog 127=some (9,(Vo 162).strip,[.tmp 2]):=by kernel_rfl
theorem sK127:Sound Tryz.prog 127 (.dat true Qf):=by
  apply yJ (hc:=cK127) h5 <;> first | exact (rfl:@Eq Spec _ _) | skip
  all_goals decide
def L6:List (Nat×Spec):=(127,.dat true Qf)::L5
theorem h6:Holds Tryz.prog (Gl L6):=Za h5 sK127
theorem cK78:check Tryz.prog 78=some (9,(Xh 126 127).strip,[.tmp 2]):=by kernel_rfl
theorem sK78:Sound Tryz.prog 78 (.dat true Jf):=by
  apply qT (hc:=cK78) h6 <;> first | exact (rfl:@Eq Spec _ _) | skip
  all_goals decide
def L7:List (Nat×Spec):=(78,.dat true Jf)::L6
theorem h7:Holds Tryz.prog (Gl L7):=Za h6 sK78
theorem cK128:check Tryz.prog 128=some (9,(Jo 127 126 130).strip,[.cell 2 2 true]):=by kernel_rfl
theorem sK128:Sound Tryz.prog 128 (.dat false Zu):=by
  apply uQ (hc:=cK128) h7 <;> first | exact (rfl:@Eq Spec _ _) | skip
  all_goals decide
def L8:List (Nat×Spec):=(128,.dat false Zu)::L7
theorem h8:Holds Tryz.prog (Gl L8):=Za h7 sK128
theorem cK197:check Tryz.prog 197=some (14,Wl.strip,[.tmp 4]):=by kernel_rfl
theorem sK197:Sound Tryz.prog 197 (.dat true Vl):=by
  apply JO (hc:=cK197) h8 <;> first | exact (rfl:@Eq Spec _ _) | skip
  all_goals decide
def L9:List (Nat×Spec):=(197,.dat true Vl)::L8
theorem h9:Holds Tryz.prog (Gl L9):=Za h8 sK197
theorem cK179:check Tryz.prog 179=some (21,wj.strip,[.tmp 2]):=by kernel_rfl
theorem sK179:Sound Tryz.prog 179 (.own kZ):=by
  apply waP (hc:=cK179) h9 <;> first | exact (rfl:@Eq Spec _ _) | skip
  all_goals decide
def L10:List (Nat×Spec):=(179,.own kZ)::L9
theorem h10:Holds Tryz.prog (Gl L10):=Za h9 sK179
theorem cK177:check Tryz.prog 177=some (26,(Wg 197 179).strip,[.tmp 2]):=by kernel_rfl
theorem sK177:Sound Tryz.prog 177 (.own kp):=by
  apply waf (hc:=cK177) h10 <;> first | exact (rfl:@Eq Spec _ _) | skip
  all_goals decide
def L11:List (Nat×Spec):=(177,.own kp)::L10
theorem h11:Holds Tryz.prog (Gl L11):=Za h10 sK177
theorem cK167:check Tryz.prog 167=some (30,(Ye 197).strip,[.tmp 4]):=by kernel_rfl
theorem sK167:Sound Tryz.prog 167 (.dat true Jt):=by
  apply xag (hc:=cK167) h11 <;> first | exact (rfl:@Eq Spec _ _) | skip
  all_goals decide
def L12:List (Nat×Spec):=(167,.dat true Jt)::L11
theorem h12:Holds Tryz.prog (Gl L12):=Za h11 sK167
theorem cK178:check Tryz.prog 178=some (31,(qe 197).strip,[]):=by kernel_rfl
theorem sK178:Sound Tryz.prog 178 (.own xw):=by
  apply XaF (hc:=cK178) h12 <;> first | exact (rfl:@Eq Spec _ _) | skip
  all_goals decide
def L13:List (Nat×Spec):=(178,.own xw)::L12
theorem h13:Holds Tryz.prog (Gl L13):=Za h12 sK178
theorem cK164:check Tryz.prog 164=some (37,(Wi 197 166).strip,[.tmp 4]):=by kernel_rfl
theorem sK164:Sound Tryz.prog 164 (.dat false jq):=by
  apply J6 (hc:=cK164) h13 <;> first | exact (rfl:@Eq Spec _ _) | skip
  all_goals decide
def L14:List (Nat×Spec):=(164,.dat false jq)::L13
theorem h14:Holds Tryz.prog (Gl L14):=Za h13 sK164
theorem cK144:check Tryz.prog 144=some (72,(Wj 166 177 167 178 179 164).strip,[.tmp 4]):=by kernel_rfl
theorem sK144:Sound Tryz.prog 144 (.dat false Yx):=by
  apply uae (hc:=cK144) h14 <;> first | exact (rfl:@Eq Spec _ _) | skip
  all_goals decide
def L15:List (Nat×Spec):=(144,.dat false Yx)::L14
theorem h15:Holds Tryz.prog (Gl L15):=Za h14 sK144
theorem cK99:check Tryz.prog 99=some (11,(jj 126 144 130).strip,[.cell 4 2 true]):=by kernel_rfl
theorem sK99:Sound Tryz.prog 99 (.dat false zu):=by
  apply wY (hc:=cK99) h15 <;> first | exact (rfl:@Eq Spec _ _) | skip
  all_goals decide
def L16:List (Nat×Spec):=(99,.dat false zu)::L15
theorem h16:Holds Tryz.prog (Gl L16):=Za h15 sK99
theorem cK196:check Tryz.prog 196=some (25,yh.strip,[.tmp 2]):=by kernel_rfl
theorem sK196:Sound Tryz.prog 196 (.dat true xq):=by
  apply Q8 (hc:=cK196) h16 <;> first | exact (rfl:@Eq Spec _ _) | skip
  all_goals decide
def L17:List (Nat×Spec):=(196,.dat true xq)::L16
theorem h17:Holds Tryz.prog (Gl L17):=Za h16 sK196
theorem cK163:check Tryz.prog 163=some (76,(jf 196 167 178 166).strip,[.tmp 4,.tmp 5]):=by kernel_rfl
theorem sK163:Sound Tryz.prog 163 (.dat false Zh):=by
  apply WM (hc:=cK163) h17 <;> first | exact (rfl:@Eq Spec _ _) | skip
  all_goals decide
def L18:List (Nat×Spec):=(163,.dat false Zh)::L17
theorem h18:Holds Tryz.prog (Gl L18):=Za h17 sK163
theorem cK165:check Tryz.prog 165=some (35,(Vg 197 166).strip,[.tmp 4]):=by kernel_rfl
theorem sK165:Sound Tryz.prog 165 (.dat false Zt):=by
  apply xW (hc:=cK165) h18 <;> first | exact (rfl:@Eq Spec _ _) | skip
  all_goals decide
def L19:List (Nat×Spec):=(165,.dat false Zt)::L18
theorem h19:Holds Tryz.prog (Gl L19):=Za h18 sK165
theorem cK129:check Tryz.prog 129=some (45,(Vj 78 126 163 127 164 165 130).strip,[.cell 4 2 true,.cell 5 2 true,.tmp 6]):=by kernel_rfl
theorem sK129:Sound Tryz.prog 129 (.dat false Qr):=by
  apply QY (hc:=cK129) h19 <;> first | exact (rfl:@Eq Spec _ _) | skip
  all_goals decide
def L20:List (Nat×Spec):=(129,.dat false Qr)::L19
theorem h20:Holds Tryz.prog (Gl L20):=Za h19 sK129
theorem cK80:check Tryz.prog 80=some (47,(Yh 78 128 99 129).strip,[.cell 4 3 true]):=by kernel_rfl
theorem sK80:Sound Tryz.prog 80 (.dat false uh):=by
  apply YS (hc:=cK80) h20 <;> first | exact (rfl:@Eq Spec _ _) | skip
  all_goals decide
def L21:List (Nat×Spec):=(80,.dat false uh)::L20
theorem h21:Holds Tryz.prog (Gl L21):=Za h20 sK80
theorem cK133:check Tryz.prog 133=some (13,(ki 78 80).strip,[.cell 4 3 true,.tmp 5]):=by kernel_rfl
theorem sK133:Sound Tryz.prog 133 (.dat false vr):=by
  apply Z4 (hc:=cK133) h21 <;> first | exact (rfl:@Eq Spec _ _) | skip
  all_goals decide
def L22:List (Nat×Spec):=(133,.dat false vr)::L21
theorem h22:Holds Tryz.prog (Gl L22):=Za h21 sK133
theorem cK90:check Tryz.prog 90=some (13,(Qi 81 133).strip,[.cell 4 3 true,.tmp 5]):=by kernel_rfl
theorem sK90:Sound Tryz.prog 90 (.dat false xx):=by
  apply Wad (hc:=cK90) h22 <;> first | exact (rfl:@Eq Spec _ _) | skip
  all_goals decide
def L23:List (Nat×Spec):=(90,.dat false xx)::L22
theorem h23:Holds Tryz.prog (Gl L23):=Za h22 sK90
theorem cK82:check Tryz.prog 82=some (2,(yl 81).strip,[.cell 0 2 true]):=by kernel_rfl
theorem sK82:Sound Tryz.prog 82 (.dat false Xo):=by
  apply yN (hc:=cK82) h23 <;> first | exact (rfl:@Eq Spec _ _) | skip
  all_goals decide
def L24:List (Nat×Spec):=(82,.dat false Xo)::L23
theorem h24:Holds Tryz.prog (Gl L24):=Za h23 sK82
theorem cK33:check Tryz.prog 33=some (7,(ko 81 82 80).strip,[.cell 2 3 true]):=by kernel_rfl
theorem sK33:Sound Tryz.prog 33 (.dat false yy):=by
  apply Q9 (hc:=cK33) h24 <;> first | exact (rfl:@Eq Spec _ _) | skip
  all_goals decide
def L25:List (Nat×Spec):=(33,.dat false yy)::L24
theorem h25:Holds Tryz.prog (Gl L25):=Za h24 sK33
theorem cK91:check Tryz.prog 91=some (10,(Uk 33).strip,[.cell 4 6 true]):=by kernel_rfl
theorem sK91:Sound Tryz.prog 91 (.dat false ZW):=by
  apply UaP (hc:=cK91) h25 <;> first | exact (rfl:@Eq Spec _ _) | skip
  all_goals decide
def L26:List (Nat×Spec):=(91,.dat false ZW)::L25
theorem h26:Holds Tryz.prog (Gl L26):=Za h25 sK91
theorem cK44:check Tryz.prog 44=some (15,(ye 90 33 91).strip,[.cell 0 27 true]):=by kernel_rfl
theorem sK44:Sound Tryz.prog 44 (.dat false YA):=by
  apply JaB (hc:=cK44) h26 <;> first | exact (rfl:@Eq Spec _ _) | skip
  all_goals decide
def L27:List (Nat×Spec):=(44,.dat false YA)::L26
theorem h27:Holds Tryz.prog (Gl L27):=Za h26 sK44
theorem cK110:check Tryz.prog 110=some (19,Xk.strip,[.tmp 2]):=by kernel_rfl
theorem sK110:Sound Tryz.prog 110 (.dat true ui):=by
  apply yG (hc:=cK110) h27 <;> first | exact (rfl:@Eq Spec _ _) | skip
  all_goals decide
def L28:List (Nat×Spec):=(110,.dat true ui)::L27
theorem h28:Holds Tryz.prog (Gl L28):=Za h27 sK110
theorem cK135:check Tryz.prog 135=some (8,(Un 110).strip,[.tmp 2]):=by kernel_rfl
theorem sK135:Sound Tryz.prog 135 (.dat false Zj):=by
  apply qP (hc:=cK135) h28 <;> first | exact (rfl:@Eq Spec _ _) | skip
  all_goals decide
def L29:List (Nat×Spec):=(135,.dat false Zj)::L28
theorem h29:Holds Tryz.prog (Gl L29):=Za h28 sK135
theorem cK134:check Tryz.prog 134=some (41,ul.strip,[.tmp 4]):=by kernel_rfl
theorem sK134:Sound Tryz.prog 134 (.dat false wi):=by
  apply VT (hc:=cK134) h29 <;> first | exact (rfl:@Eq Spec _ _) | skip
  all_goals decide
def L30:List (Nat×Spec):=(134,.dat false wi)::L29
theorem h30:Holds Tryz.prog (Gl L30):=Za h29 sK134
theorem cK169:check Tryz.prog 169=some (25,Zs.strip,[.tmp 2]):=by kernel_rfl
theorem sK169:Sound Tryz.prog 169 (.dat false Ut):=by
  apply kaC (hc:=cK169) h30 <;> first | exact (rfl:@Eq Spec _ _) | skip
  all_goals decide
def L31:List (Nat×Spec):=(169,.dat false Ut)::L30
theorem h31:Holds Tryz.prog (Gl L31):=Za h30 sK169
theorem cK137:check Tryz.prog 137=some (43,(Vp 169).strip,[.tmp 4,.tmp 5]):=by kernel_rfl
theorem sK137:Sound Tryz.prog 137 (.dat false Qv):=by
  apply qag (hc:=cK137) h31 <;> first | exact (rfl:@Eq Spec _ _) | skip
  all_goals decide
def L32:List (Nat×Spec):=(137,.dat false Qv)::L31
theorem h32:Holds Tryz.prog (Gl L32):=Za h31 sK137
theorem sK185:Sound Tryz.prog 185 (.dat true lz_G):=VaI (vw Tryz.func185 (by kernel_rfl) (by kernel_rfl)) Xbh Xbt Tryz.bits_LeadingZeros32
def L33:List (Nat×Spec):=(185,.dat true lz_G)::L32
theorem h33:Holds Tryz.prog (Gl L33):=Za h32 sK185
theorem cK186:check Tryz.prog 186=some (41,Ux.strip,[.tmp 4]):=by kernel_rfl
theorem sK186:Sound Tryz.prog 186 (.fresh 1 up_G):=by
  apply Ja7 (hc:=cK186) h33 <;> first | exact (rfl:@Eq Spec _ _) | skip
  all_goals decide
def L34:List (Nat×Spec):=(186,.fresh 1 up_G)::L33
theorem h34:Holds Tryz.prog (Gl L34):=Za h33 sK186
theorem cK204:check Tryz.prog 204=some (14,Wl.strip,[.tmp 4]):=by kernel_rfl
theorem sK204:Sound Tryz.prog 204 (.dat true Vl):=by
  apply JO (hc:=cK204) h34 <;> first | exact (rfl:@Eq Spec _ _) | skip
  all_goals decide
def L35:List (Nat×Spec):=(204,.dat true Vl)::L34
theorem h35:Holds Tryz.prog (Gl L35):=Za h34 sK204
theorem cK187:check Tryz.prog 187=some (46,(Vn 204).strip,[.tmp 6]):=by kernel_rfl
theorem sK187:Sound Tryz.prog 187 (.own kr):=by
  apply Waa (hc:=cK187) h35 <;> first | exact (rfl:@Eq Spec _ _) | skip
  all_goals decide
def L36:List (Nat×Spec):=(187,.own kr)::L35
theorem h36:Holds Tryz.prog (Gl L36):=Za h35 sK187
theorem cK188:check Tryz.prog 188=some (30,(Xt 204).strip,[]):=by kernel_rfl
theorem sK188:Sound Tryz.prog 188 (.own YE):=by
  apply xaC (hc:=cK188) h36 <;> first | exact (rfl:@Eq Spec _ _) | skip
  all_goals decide
def L37:List (Nat×Spec):=(188,.own YE)::L36
theorem h37:Holds Tryz.prog (Gl L37):=Za h36 sK188
theorem cK189:check Tryz.prog 189=some (35,(Qt 204 169).strip,[.tmp 4]):=by kernel_rfl
theorem sK189:Sound Tryz.prog 189 (.dat false ZF):=by
  apply JaC (hc:=cK189) h37 <;> first | exact (rfl:@Eq Spec _ _) | skip
  all_goals decide
def L38:List (Nat×Spec):=(189,.dat false ZF)::L37
theorem h38:Holds Tryz.prog (Gl L38):=Za h37 sK189
theorem cK151:check Tryz.prog 151=some (158,(Xi 134 169 137 185 186 187 188 189).strip,[.tmp 4,.tmp 5]):=by kernel_rfl
theorem sK151:Sound Tryz.prog 151 (.dat false Zh):=by
  apply W4 (hc:=cK151) h38 <;> first | exact (rfl:@Eq Spec _ _) | skip
  all_goals decide
def L39:List (Nat×Spec):=(151,.dat false Zh)::L38
theorem h39:Holds Tryz.prog (Gl L39):=Za h38 sK151
theorem cK141:check Tryz.prog 141=some (15,(yp 169).strip,[.cell 4 2 true]):=by kernel_rfl
theorem sK141:Sound Tryz.prog 141 (.dat false Ue):=by
  apply Qah (hc:=cK141) h39 <;> first | exact (rfl:@Eq Spec _ _) | skip
  all_goals decide
def L40:List (Nat×Spec):=(141,.dat false Ue)::L39
theorem h40:Holds Tryz.prog (Gl L40):=Za h39 sK141
theorem cK111:check Tryz.prog 111=some (26,(Wv 135 151 141).strip,[.cell 4 2 true]):=by kernel_rfl
theorem sK111:Sound Tryz.prog 111 (.dat false zu):=by
  apply QaD (hc:=cK111) h40 <;> first | exact (rfl:@Eq Spec _ _) | skip
  all_goals decide
def L41:List (Nat×Spec):=(111,.dat false zu)::L40
theorem h41:Holds Tryz.prog (Gl L41):=Za h40 sK111
theorem cK125:check Tryz.prog 125=some (19,(jr 141).strip,[.cell 2 2 true]):=by kernel_rfl
theorem sK125:Sound Tryz.prog 125 (.dat false WF):=by
  apply jZ (hc:=cK125) h41 <;> first | exact (rfl:@Eq Spec _ _) | skip
  all_goals decide
def L42:List (Nat×Spec):=(125,.dat false WF)::L41
theorem h42:Holds Tryz.prog (Gl L42):=Za h41 sK125
theorem cK94:check Tryz.prog 94=some (2,(yl 125).strip,[.cell 0 2 true]):=by kernel_rfl
theorem sK94:Sound Tryz.prog 94 (.dat false Xo):=by
  apply yN (hc:=cK94) h42 <;> first | exact (rfl:@Eq Spec _ _) | skip
  all_goals decide
def L43:List (Nat×Spec):=(94,.dat false Xo)::L42
theorem h43:Holds Tryz.prog (Gl L43):=Za h42 sK94
theorem cK112:check Tryz.prog 112=some (11,(ut 135).strip,[.tmp 2]):=by kernel_rfl
theorem sK112:Sound Tryz.prog 112 (.dat true Jf):=by
  apply Wah (hc:=cK112) h43 <;> first | exact (rfl:@Eq Spec _ _) | skip
  all_goals decide
def L44:List (Nat×Spec):=(112,.dat true Jf)::L43
theorem h44:Holds Tryz.prog (Gl L44):=Za h43 sK112
theorem cK136:check Tryz.prog 136=some (9,(Vo 110).strip,[.tmp 2]):=by kernel_rfl
theorem sK136:Sound Tryz.prog 136 (.dat true Qf):=by
  apply yJ (hc:=cK136) h44 <;> first | exact (rfl:@Eq Spec _ _) | skip
  all_goals decide
def L45:List (Nat×Spec):=(136,.dat true Qf)::L44
theorem h45:Holds Tryz.prog (Gl L45):=Za h44 sK136
theorem cK93:check Tryz.prog 93=some (28,(Vv 112 135 134 136).strip,[.tmp 4]):=by kernel_rfl
theorem sK93:Sound Tryz.prog 93 (.dat true Uy):=by
  apply waF (hc:=cK93) h45 <;> first | exact (rfl:@Eq Spec _ _) | skip
  all_goals decide
def L46:List (Nat×Spec):=(93,.dat true Uy)::L45
theorem h46:Holds Tryz.prog (Gl L46):=Za h45 sK93
theorem cK64:check Tryz.prog 64=some (50,(vn 110 111 94 93).strip,[.tmp 2]):=by kernel_rfl
theorem sK64:Sound Tryz.prog 64 (.dat true Ze):=by
  apply Q4 (hc:=cK64) h46 <;> first | exact (rfl:@Eq Spec _ _) | skip
  all_goals decide
def L47:List (Nat×Spec):=(64,.dat true Ze)::L46
theorem h47:Holds Tryz.prog (Gl L47):=Za h46 sK64
theorem cK63:check Tryz.prog 63=some (11,(zg 64).strip,[.tmp 2]):=by kernel_rfl
theorem sK63:Sound Tryz.prog 63 (.dat true qj):=by
  apply wG (hc:=cK63) h47 <;> first | exact (rfl:@Eq Spec _ _) | skip
  all_goals decide
def L48:List (Nat×Spec):=(63,.dat true qj)::L47
theorem h48:Holds Tryz.prog (Gl L48):=Za h47 sK63
theorem cK92:check Tryz.prog 92=some (28,(kn 64 94).strip,[.cell 2 2 true,.cell 3 2 true]):=by kernel_rfl
theorem sK92:Sound Tryz.prog 92 (.dat false xd):=by
  apply Y0 (hc:=cK92) h48 <;> first | exact (rfl:@Eq Spec _ _) | skip
  all_goals decide
def L49:List (Nat×Spec):=(92,.dat false xd)::L48
theorem h49:Holds Tryz.prog (Gl L49):=Za h48 sK92
theorem cK65:check Tryz.prog 65=some (12,(Zp 92 112).strip,[.tmp 2]):=by kernel_rfl
theorem sK65:Sound Tryz.prog 65 (.dat true yt):=by
  apply wag (hc:=cK65) h49 <;> first | exact (rfl:@Eq Spec _ _) | skip
  all_goals decide
def L50:List (Nat×Spec):=(65,.dat true yt)::L49
theorem h50:Holds Tryz.prog (Gl L50):=Za h49 sK65
theorem cK142:check Tryz.prog 142=some (67,(Jp 169).strip,[.tmp 4]):=by kernel_rfl
theorem sK142:Sound Tryz.prog 142 (.dat false jp):=by
  apply Qaj (hc:=cK142) h50 <;> first | exact (rfl:@Eq Spec _ _) | skip
  all_goals decide
def L51:List (Nat×Spec):=(142,.dat false jp)::L50
theorem h51:Holds Tryz.prog (Gl L51):=Za h50 sK142
theorem cK96:check Tryz.prog 96=some (16,(Zo 136 135 142 141).strip,[.cell 4 2 true]):=by kernel_rfl
theorem sK96:Sound Tryz.prog 96 (.dat false yu):=by
  apply YR (hc:=cK96) h51 <;> first | exact (rfl:@Eq Spec _ _) | skip
  all_goals decide
def L52:List (Nat×Spec):=(96,.dat false yu)::L51
theorem h52:Holds Tryz.prog (Gl L52):=Za h51 sK96
theorem cK46:check Tryz.prog 46=some (26,(qu 92 96 93).strip,[.tmp 4]):=by kernel_rfl
theorem sK46:Sound Tryz.prog 46 (.dat true Qm):=by
  apply yaj (hc:=cK46) h52 <;> first | exact (rfl:@Eq Spec _ _) | skip
  all_goals decide
def L53:List (Nat×Spec):=(46,.dat true Qm)::L52
theorem h53:Holds Tryz.prog (Gl L53):=Za h52 sK46
theorem cK26:check Tryz.prog 26=some (75,(uf 63 64 65 46 55).strip,[.tmp 2]):=by kernel_rfl
theorem sK26:Sound Tryz.prog 26 (.dat false (xu 55)):=by
  apply xaF (hc:=cK26) h53 <;> first | exact (rfl:@Eq Spec _ _) | skip
  all_goals decide
def L54:List (Nat×Spec):=(26,.dat false (xu 55))::L53
theorem h54:Holds Tryz.prog (Gl L54):=Za h53 sK26
theorem cK52:check Tryz.prog 52=some (8,Ul.strip,[.cell 2 6 true]):=by kernel_rfl
theorem sK52:Sound Tryz.prog 52 (.dat false uG):=by
  apply xaI (hc:=cK52) h54 <;> first | exact (rfl:@Eq Spec _ _) | skip
  all_goals decide
def L55:List (Nat×Spec):=(52,.dat false uG)::L54
theorem h55:Holds Tryz.prog (Gl L55):=Za h54 sK52
theorem cK153:check Tryz.prog 153=some (9,(Jo 136 135 141).strip,[.cell 2 2 true]):=by kernel_rfl
theorem sK153:Sound Tryz.prog 153 (.dat false Zu):=by
  apply uQ (hc:=cK153) h55 <;> first | exact (rfl:@Eq Spec _ _) | skip
  all_goals decide
def L56:List (Nat×Spec):=(153,.dat false Zu)::L55
theorem h56:Holds Tryz.prog (Gl L56):=Za h55 sK153
theorem cK183:check Tryz.prog 183=some (39,(Yt 204 169).strip,[.tmp 4]):=by kernel_rfl
theorem sK183:Sound Tryz.prog 183 (.dat false jq):=by
  apply qaF (hc:=cK183) h56 <;> first | exact (rfl:@Eq Spec _ _) | skip
  all_goals decide
def L57:List (Nat×Spec):=(183,.dat false jq)::L56
theorem h57:Holds Tryz.prog (Gl L57):=Za h56 sK183
theorem cK184:check Tryz.prog 184=some (38,(jt 204 169).strip,[.tmp 4]):=by kernel_rfl
theorem sK184:Sound Tryz.prog 184 (.dat false Zt):=by
  apply xaD (hc:=cK184) h57 <;> first | exact (rfl:@Eq Spec _ _) | skip
  all_goals decide
def L58:List (Nat×Spec):=(184,.dat false Zt)::L57
theorem h58:Holds Tryz.prog (Gl L58):=Za h57 sK184
theorem cK161:check Tryz.prog 161=some (47,(uv 135 151 136 183 184 141 55).strip,[.cell 4 2 true,.cell 5 2 true,.tmp 6]):=by kernel_rfl
theorem sK161:Sound Tryz.prog 161 (.dat false vC):=by
  apply uaF (hc:=cK161) h58 <;> first | exact (rfl:@Eq Spec _ _) | skip
  all_goals decide
def L59:List (Nat×Spec):=(161,.dat false vC)::L58
theorem h59:Holds Tryz.prog (Gl L59):=Za h58 sK161
theorem cK124:check Tryz.prog 124=some (47,(Xp 112 153 111 161).strip,[.cell 4 3 true]):=by kernel_rfl
theorem sK124:Sound Tryz.prog 124 (.dat false uh):=by
  apply Jaj (hc:=cK124) h59 <;> first | exact (rfl:@Eq Spec _ _) | skip
  all_goals decide
def L60:List (Nat×Spec):=(124,.dat false uh)::L59
theorem h60:Holds Tryz.prog (Gl L60):=Za h59 sK124
theorem cK116:check Tryz.prog 116=some (14,(Um 92 153 124).strip,[.cell 2 3 true]):=by kernel_rfl
theorem sK116:Sound Tryz.prog 116 (.dat false ju):=by
  apply UQ (hc:=cK116) h60 <;> first | exact (rfl:@Eq Spec _ _) | skip
  all_goals decide
def L61:List (Nat×Spec):=(116,.dat false ju)::L60
theorem h61:Holds Tryz.prog (Gl L61):=Za h60 sK116
theorem cK149:check Tryz.prog 149=some (40,(uu 135 136 183 141 134 184).strip,[.cell 4 2 true]):=by kernel_rfl
theorem sK149:Sound Tryz.prog 149 (.dat false zx):=by
  apply XaD (hc:=cK149) h61 <;> first | exact (rfl:@Eq Spec _ _) | skip
  all_goals decide
def L62:List (Nat×Spec):=(149,.dat false zx)::L61
theorem h62:Holds Tryz.prog (Gl L62):=Za h61 sK149
theorem cK107:check Tryz.prog 107=some (30,(um 92 96 149 124).strip,[.cell 4 3 true]):=by kernel_rfl
theorem sK107:Sound Tryz.prog 107 (.dat false qn):=by
  apply VR (hc:=cK107) h62 <;> first | exact (rfl:@Eq Spec _ _) | skip
  all_goals decide
def L63:List (Nat×Spec):=(107,.dat false qn)::L62
theorem h63:Holds Tryz.prog (Gl L63):=Za h62 sK107
theorem cK114:check Tryz.prog 114=some (9,(jm 116 107).strip,[.cell 4 3 true]):=by kernel_rfl
theorem sK114:Sound Tryz.prog 114 (.dat false Vu):=by
  apply qO (hc:=cK114) h63 <;> first | exact (rfl:@Eq Spec _ _) | skip
  all_goals decide
def L64:List (Nat×Spec):=(114,.dat false Vu)::L63
theorem h64:Holds Tryz.prog (Gl L64):=Za h63 sK114
theorem cK83:check Tryz.prog 83=some (16,(Zk 114).strip,[.cell 4 6 true]):=by kernel_rfl
theorem sK83:Sound Tryz.prog 83 (.dat false Yg):=by
  apply vB (hc:=cK83) h64 <;> first | exact (rfl:@Eq Spec _ _) | skip
  all_goals decide
def L65:List (Nat×Spec):=(83,.dat false Yg)::L64
theorem h65:Holds Tryz.prog (Gl L65):=Za h64 sK83
theorem cK70:check Tryz.prog 70=some (26,(xl 92 96 124).strip,[.cell 4 3 true]):=by kernel_rfl
theorem sK70:Sound Tryz.prog 70 (.dat false Xm):=by
  apply vN (hc:=cK70) h65 <;> first | exact (rfl:@Eq Spec _ _) | skip
  all_goals decide
def L66:List (Nat×Spec):=(70,.dat false Xm)::L65
theorem h66:Holds Tryz.prog (Gl L66):=Za h65 sK70
theorem cK85:check Tryz.prog 85=some (28,(xp 70 114 107).strip,[.cell 4 6 true]):=by kernel_rfl
theorem sK85:Sound Tryz.prog 85 (.dat false qo):=by
  apply jU (hc:=cK85) h66 <;> first | exact (rfl:@Eq Spec _ _) | skip
  all_goals decide
def L67:List (Nat×Spec):=(85,.dat false qo)::L66
theorem h67:Holds Tryz.prog (Gl L67):=Za h66 sK85
theorem cK84:check Tryz.prog 84=some (16,(Xn 107).strip,[.cell 4 6 true]):=by kernel_rfl
theorem sK84:Sound Tryz.prog 84 (.dat false Yl):=by
  apply yL (hc:=cK84) h67 <;> first | exact (rfl:@Eq Spec _ _) | skip
  all_goals decide
def L68:List (Nat×Spec):=(84,.dat false Yl)::L67
theorem h68:Holds Tryz.prog (Gl L68):=Za h67 sK84
theorem cK50:check Tryz.prog 50=some (14,(Qp 52 83 85 84).strip,[.cell 2 6 true]):=by kernel_rfl
theorem sK50:Sound Tryz.prog 50 (.dat false jB):=by
  apply YaC (hc:=cK50) h68 <;> first | exact (rfl:@Eq Spec _ _) | skip
  all_goals decide
def L69:List (Nat×Spec):=(50,.dat false jB)::L68
theorem h69:Holds Tryz.prog (Gl L69):=Za h68 sK50
theorem cK16:check Tryz.prog 16=some (13,(vk 26 50).strip,[.cell 2 6 true,.tmp 3]):=by kernel_rfl
theorem sK16:Sound Tryz.prog 16 (.dat false (kU 55)):=by
  apply qaM (hc:=cK16) h69 <;> first | exact (rfl:@Eq Spec _ _) | skip
  all_goals decide
def L70:List (Nat×Spec):=(16,.dat false (kU 55))::L69
theorem h70:Holds Tryz.prog (Gl L70):=Za h69 sK16
theorem cK106:check Tryz.prog 106=some (14,(kh 70 107).strip,[.cell 2 3 true]):=by kernel_rfl
theorem sK106:Sound Tryz.prog 106 (.dat false yF):=by
  apply X9 (hc:=cK106) h70 <;> first | exact (rfl:@Eq Spec _ _) | skip
  all_goals decide
def L71:List (Nat×Spec):=(106,.dat false yF)::L70
theorem h71:Holds Tryz.prog (Gl L71):=Za h70 sK106
theorem cK182:check Tryz.prog 182=some (14,(Zq 112 124 55).strip,[.cell 4 3 true,.tmp 5]):=by kernel_rfl
theorem sK182:Sound Tryz.prog 182 (.dat false (yr 55)):=by
  apply zab (hc:=cK182) h71 <;> first | exact (rfl:@Eq Spec _ _) | skip
  all_goals decide
def L72:List (Nat×Spec):=(182,.dat false (yr 55))::L71
theorem h72:Holds Tryz.prog (Gl L72):=Za h71 sK182
theorem cK148:check Tryz.prog 148=some (29,(xt 92 96 182).strip,[.cell 4 3 true,.tmp 5]):=by kernel_rfl
theorem sK148:Sound Tryz.prog 148 (.dat false (jx 55)):=by
  apply yae (hc:=cK148) h72 <;> first | exact (rfl:@Eq Spec _ _) | skip
  all_goals decide
def L73:List (Nat×Spec):=(148,.dat false (jx 55))::L72
theorem h73:Holds Tryz.prog (Gl L73):=Za h72 sK148
theorem cK105:check Tryz.prog 105=some (33,(Vh 106 148 116).strip,[.cell 2 6 true,.tmp 3]):=by kernel_rfl
theorem sK105:Sound Tryz.prog 105 (.dat false (JE 55)):=by
  apply zaF (hc:=cK105) h73 <;> first | exact (rfl:@Eq Spec _ _) | skip
  all_goals decide
def L74:List (Nat×Spec):=(105,.dat false (JE 55))::L73
theorem h74:Holds Tryz.prog (Gl L74):=Za h73 sK105
theorem cK86:check Tryz.prog 86=some (6,(Up 84).strip,[.cell 2 6 true]):=by kernel_rfl
theorem sK86:Sound Tryz.prog 86 (.dat false Jz):=by
  apply uaC (hc:=cK86) h74 <;> first | exact (rfl:@Eq Spec _ _) | skip
  all_goals decide
def L75:List (Nat×Spec):=(86,.dat false Jz)::L74
theorem h75:Holds Tryz.prog (Gl L75):=Za h74 sK86
theorem cK51:check Tryz.prog 51=some (46,(Jh 105 106 86 50 70).strip,[.cell 12 27 true,.tmp 13]):=by kernel_rfl
theorem sK51:Sound Tryz.prog 51 (.dat false (vA 55)):=by
  apply jaD (hc:=cK51) h75 <;> first | exact (rfl:@Eq Spec _ _) | skip
  all_goals decide
def L76:List (Nat×Spec):=(51,.dat false (vA 55))::L75
theorem h76:Holds Tryz.prog (Gl L76):=Za h75 sK51
theorem cK17:check Tryz.prog 17=some (25,(Yk 26 52 51).strip,[.cell 2 27 true,.tmp 3]):=by kernel_rfl
theorem sK17:Sound Tryz.prog 17 (.dat false (VM 55)):=by
  apply VaX (hc:=cK17) h76 <;> first | exact (rfl:@Eq Spec _ _) | skip
  all_goals decide
def L77:List (Nat×Spec):=(17,.dat false (VM 55))::L76
theorem h77:Holds Tryz.prog (Gl L77):=Za h76 sK17
theorem cK71:check Tryz.prog 71=some (7,(ko 125 94 124).strip,[.cell 2 3 true]):=by kernel_rfl
theorem sK71:Sound Tryz.prog 71 (.dat false yy):=by
  apply Q9 (hc:=cK71) h77 <;> first | exact (rfl:@Eq Spec _ _) | skip
  all_goals decide
def L78:List (Nat×Spec):=(71,.dat false yy)::L77
theorem h78:Holds Tryz.prog (Gl L78):=Za h77 sK71
theorem cK190:check Tryz.prog 190=some (29,qq.strip,[.tmp 2]):=by kernel_rfl
theorem sK190:Sound Tryz.prog 190 (.dat true yj):=by
  apply VX (hc:=cK190) h78 <;> first | exact (rfl:@Eq Spec _ _) | skip
  all_goals decide
def L79:List (Nat×Spec):=(190,.dat true yj)::L78
theorem h79:Holds Tryz.prog (Gl L79):=Za h78 sK190
theorem cK157:check Tryz.prog 157=some (8,Je.strip,[.tmp 2]):=by kernel_rfl
theorem sK157:Sound Tryz.prog 157 (.fresh 5 yo):=by
  apply wad (hc:=cK157) h79 <;> first | exact (rfl:@Eq Spec _ _) | skip
  all_goals decide
def L80:List (Nat×Spec):=(157,.fresh 5 yo)::L79
theorem h80:Holds Tryz.prog (Gl L80):=Za h79 sK157
theorem cK219:check Tryz.prog 219=some (6,Zv.strip,[.tmp 2]):=by kernel_rfl
theorem sK219:Sound Tryz.prog 219 (.dat true VC):=by
  apply yaF (hc:=cK219) h80 <;> first | exact (rfl:@Eq Spec _ _) | skip
  all_goals decide
def L81:List (Nat×Spec):=(219,.dat true VC)::L80
theorem h81:Holds Tryz.prog (Gl L81):=Za h80 sK219
theorem cK209:check Tryz.prog 209=some (20,(Zg 219).strip,[.tmp 4]):=by kernel_rfl
theorem sK209:Sound Tryz.prog 209 (.dat true QF):=by
  apply vaD (hc:=cK209) h81 <;> first | exact (rfl:@Eq Spec _ _) | skip
  all_goals decide
def L82:List (Nat×Spec):=(209,.dat true QF)::L81
theorem h82:Holds Tryz.prog (Gl L82):=Za h81 sK209
theorem cK208:check Tryz.prog 208=some (18,qC.strip,[.tmp 2]):=by kernel_rfl
theorem sK208:Sound Tryz.prog 208 (.dat true wU):=by
  apply YaK (hc:=cK208) h82 <;> first | exact (rfl:@Eq Spec _ _) | skip
  all_goals decide
def L83:List (Nat×Spec):=(208,.dat true wU)::L82
theorem h83:Holds Tryz.prog (Gl L83):=Za h82 sK208
theorem cK193:check Tryz.prog 193=some (23,(Xs 209 208).strip,[.tmp 4]):=by kernel_rfl
theorem sK193:Sound Tryz.prog 193 (.dat true Uw):=by
  apply Zac (hc:=cK193) h83 <;> first | exact (rfl:@Eq Spec _ _) | skip
  all_goals decide
def L84:List (Nat×Spec):=(193,.dat true Uw)::L83
theorem h84:Holds Tryz.prog (Gl L84):=Za h83 sK193
theorem cK217:check Tryz.prog 217=some (53,jc.strip,[]):=by kernel_rfl
theorem sK217:Sound Tryz.prog 217 (.own (JD 193)):=by
  apply QaB (hc:=cK217) h84 <;> first | exact (rfl:@Eq Spec _ _) | skip
  all_goals decide
def L85:List (Nat×Spec):=(217,.own (JD 193))::L84
theorem h85:Holds Tryz.prog (Gl L85):=Za h84 sK217
theorem cK228:check Tryz.prog 228=some (38,jd.strip,[]):=by kernel_rfl
theorem sK228:Sound Tryz.prog 228 (.own (yA 193)):=by
  apply ZaF (hc:=cK228) h85 <;> first | exact (rfl:@Eq Spec _ _) | skip
  all_goals decide
def L86:List (Nat×Spec):=(228,.own (yA 193))::L85
theorem h86:Holds Tryz.prog (Gl L86):=Za h85 sK228
theorem cK225:check Tryz.prog 225=some (58,(Ud 228).strip,[]):=by kernel_rfl
theorem sK225:Sound Tryz.prog 225 (.own (UD 193)):=by
  apply JaF (hc:=cK225) h86 <;> first | exact (rfl:@Eq Spec _ _) | skip
  all_goals decide
def L87:List (Nat×Spec):=(225,.own (UD 193))::L86
theorem h87:Holds Tryz.prog (Gl L87):=Za h86 sK225
theorem cK218:check Tryz.prog 218=some (220,(jb 225 218).strip,[]):=by kernel_rfl
theorem sK218:Sound Tryz.prog 218 (.own (ji 193 10000)):=by
  apply kV (hc:=cK218) h87 <;> first | exact (rfl:@Eq Spec _ _) | skip
  all_goals decide
def L88:List (Nat×Spec):=(218,.own (ji 193 10000))::L87
theorem h88:Holds Tryz.prog (Gl L88):=Za h87 sK218
theorem cK207:check Tryz.prog 207=some (63,(ud 217 218).strip,[]):=by kernel_rfl
theorem sK207:Sound Tryz.prog 207 (.own (Vz 193 10000)):=by
  apply Vae (hc:=cK207) h88 <;> first | exact (rfl:@Eq Spec _ _) | skip
  all_goals decide
def L89:List (Nat×Spec):=(207,.own (Vz 193 10000))::L88
theorem h89:Holds Tryz.prog (Gl L89):=Za h88 sK207
theorem cK192:check Tryz.prog 192=some (9,(yd 207).strip,[]):=by kernel_rfl
theorem sK192:Sound Tryz.prog 192 (.own (Uu 193 10000)):=by
  apply wai (hc:=cK192) h89 <;> first | exact (rfl:@Eq Spec _ _) | skip
  all_goals decide
def L90:List (Nat×Spec):=(192,.own (Uu 193 10000))::L89
theorem h90:Holds Tryz.prog (Gl L90):=Za h89 sK192
theorem cK195:check Tryz.prog 195=some (7,(Ws 65).strip,[.tmp 2]):=by kernel_rfl
theorem sK195:Sound Tryz.prog 195 (.dat true UA):=by
  apply XaB (hc:=cK195) h90 <;> first | exact (rfl:@Eq Spec _ _) | skip
  all_goals decide
def L91:List (Nat×Spec):=(195,.dat true UA)::L90
theorem h91:Holds Tryz.prog (Gl L91):=Za h90 sK195
theorem cK210:check Tryz.prog 210=some (19,yg.strip,[.tmp 4]):=by kernel_rfl
theorem sK210:Sound Tryz.prog 210 (.dat true (vD 195)):=by
  apply kaE (hc:=cK210) h91 <;> first | exact (rfl:@Eq Spec _ _) | skip
  all_goals decide
def L92:List (Nat×Spec):=(210,.dat true (vD 195))::L91
theorem h92:Holds Tryz.prog (Gl L92):=Za h91 sK210
theorem cK194:check Tryz.prog 194=some (42,(Jc 210).strip,[.tmp 4]):=by kernel_rfl
theorem sK194:Sound Tryz.prog 194 (.own (YD 195)):=by
  apply jaB (hc:=cK194) h92 <;> first | exact (rfl:@Eq Spec _ _) | skip
  all_goals decide
def L93:List (Nat×Spec):=(194,.own (YD 195))::L92
theorem h93:Holds Tryz.prog (Gl L93):=Za h92 sK194
theorem cK156:check Tryz.prog 156=some (60,(Jx 157 192 193 107 194 195).strip,[.tmp 2]):=by kernel_rfl
theorem sK156:Sound Tryz.prog 156 (.dat false (yw 10000)):=by
  apply VaE (hc:=cK156) h93 <;> first | exact (rfl:@Eq Spec _ _) | skip
  all_goals decide
def L94:List (Nat×Spec):=(156,.dat false (yw 10000))::L93
theorem h94:Holds Tryz.prog (Gl L94):=Za h93 sK156
theorem cK152:check Tryz.prog 152=some (28,(jo 190 64 156 55).strip,[.tmp 2,.tmp 3]):=by kernel_rfl
theorem sK152:Sound Tryz.prog 152 (.dat false (yv 55)):=by
  apply jaj (hc:=cK152) h94 <;> first | exact (rfl:@Eq Spec _ _) | skip
  all_goals decide
def L95:List (Nat×Spec):=(152,.dat false (yv 55))::L94
theorem h95:Holds Tryz.prog (Gl L95):=Za h94 sK152
theorem cK120:check Tryz.prog 120=some (17,Xe.strip,[.tmp 6]):=by kernel_rfl
theorem sK120:Sound Tryz.prog 120 (.red Wm):=by
  apply Zae (hc:=cK120) h95 <;> first | exact (rfl:@Eq Spec _ _) | skip
  all_goals decide
def L96:List (Nat×Spec):=(120,.red Wm)::L95
theorem h96:Holds Tryz.prog (Gl L96):=Za h95 sK120
theorem cK113:check Tryz.prog 113=some (23,(xc 71 116 152 120).strip,[.tmp 6]):=by kernel_rfl
theorem sK113:Sound Tryz.prog 113 (.red jF):=by
  apply uaB (hc:=cK113) h96 <;> first | exact (rfl:@Eq Spec _ _) | skip
  all_goals decide
def L97:List (Nat×Spec):=(113,.red jF)::L96
theorem h97:Holds Tryz.prog (Gl L97):=Za h96 sK113
theorem cK160:check Tryz.prog 160=some (48,(Jm 190 64 65 193 55).strip,[.tmp 2]):=by kernel_rfl
theorem sK160:Sound Tryz.prog 160 (.dat false (Wo 55)):=by
  apply X7 (hc:=cK160) h97 <;> first | exact (rfl:@Eq Spec _ _) | skip
  all_goals decide
def L98:List (Nat×Spec):=(160,.dat false (Wo 55))::L97
theorem h98:Holds Tryz.prog (Gl L98):=Za h97 sK160
theorem cK158:check Tryz.prog 158=some (28,(vt 70).strip,[.tmp 4]):=by kernel_rfl
theorem sK158:Sound Tryz.prog 158 (.dat false JA):=by
  apply VaA (hc:=cK158) h98 <;> first | exact (rfl:@Eq Spec _ _) | skip
  all_goals decide
def L99:List (Nat×Spec):=(158,.dat false JA)::L98
theorem h99:Holds Tryz.prog (Gl L99):=Za h98 sK158
theorem cK123:check Tryz.prog 123=some (16,(qm 160 158 156).strip,[.tmp 4,.tmp 5]):=by kernel_rfl
theorem sK123:Sound Tryz.prog 123 (.dat false (Wq 55)):=by
  apply X3 (hc:=cK123) h99 <;> first | exact (rfl:@Eq Spec _ _) | skip
  all_goals decide
def L100:List (Nat×Spec):=(123,.dat false (Wq 55))::L99
theorem h100:Holds Tryz.prog (Gl L100):=Za h99 sK123
theorem cK69:check Tryz.prog 69=some (14,(we 123 120).strip,[.tmp 6]):=by kernel_rfl
theorem sK69:Sound Tryz.prog 69 (.red Qo):=by
  apply qac (hc:=cK69) h100 <;> first | exact (rfl:@Eq Spec _ _) | skip
  all_goals decide
def L101:List (Nat×Spec):=(69,.red Qo)::L100
theorem h101:Holds Tryz.prog (Gl L101):=Za h100 sK69
theorem cK155:check Tryz.prog 155=some (18,(Yp 160).strip,[.tmp 2]):=by kernel_rfl
theorem sK155:Sound Tryz.prog 155 (.dat false (qi 55)):=by
  apply XW (hc:=cK155) h101 <;> first | exact (rfl:@Eq Spec _ _) | skip
  all_goals decide
def L102:List (Nat×Spec):=(155,.dat false (qi 55))::L101
theorem h102:Holds Tryz.prog (Gl L102):=Za h101 sK155
theorem cK121:check Tryz.prog 121=some (21,(Xr 155 157 71 158 156).strip,[.tmp 4,.tmp 5]):=by kernel_rfl
theorem sK121:Sound Tryz.prog 121 (.dat false (VD 55)):=by
  apply jaE (hc:=cK121) h102 <;> first | exact (rfl:@Eq Spec _ _) | skip
  all_goals decide
def L103:List (Nat×Spec):=(121,.dat false (VD 55))::L102
theorem h103:Holds Tryz.prog (Gl L103):=Za h102 sK121
theorem cK67:check Tryz.prog 67=some (14,(kf 121 120).strip,[.tmp 6]):=by kernel_rfl
theorem sK67:Sound Tryz.prog 67 (.red jz):=by
  apply uaD (hc:=cK67) h103 <;> first | exact (rfl:@Eq Spec _ _) | skip
  all_goals decide
def L104:List (Nat×Spec):=(67,.red jz)::L103
theorem h104:Holds Tryz.prog (Gl L104):=Za h103 sK67
theorem cK206:check Tryz.prog 206=some (27,xn.strip,[.tmp 4]):=by kernel_rfl
theorem sK206:Sound Tryz.prog 206 (.fresh 5 yx):=by
  apply Xaf (hc:=cK206) h104 <;> first | exact (rfl:@Eq Spec _ _) | skip
  all_goals decide
def L105:List (Nat×Spec):=(206,.fresh 5 yx)::L104
theorem h105:Holds Tryz.prog (Gl L105):=Za h104 sK206
theorem cK191:check Tryz.prog 191=some (36,(zl 206).strip,[.tmp 2]):=by kernel_rfl
theorem sK191:Sound Tryz.prog 191 (.fresh 5 Vy):=by
  apply vaf (hc:=cK191) h105 <;> first | exact (rfl:@Eq Spec _ _) | skip
  all_goals decide
def L106:List (Nat×Spec):=(191,.fresh 5 Vy)::L105
theorem h106:Holds Tryz.prog (Gl L106):=Za h105 sK191
theorem cK154:check Tryz.prog 154=some (19,(Yq 155 191 156).strip,[.tmp 4,.tmp 5]):=by kernel_rfl
theorem sK154:Sound Tryz.prog 154 (.dat false (YC 55)):=by
  apply VaC (hc:=cK154) h106 <;> first | exact (rfl:@Eq Spec _ _) | skip
  all_goals decide
def L107:List (Nat×Spec):=(154,.dat false (YC 55))::L106
theorem h107:Holds Tryz.prog (Gl L107):=Za h106 sK154
theorem cK118:check Tryz.prog 118=some (14,(xf 154 120).strip,[.tmp 6]):=by kernel_rfl
theorem sK118:Sound Tryz.prog 118 (.red Yy):=by
  apply yaC (hc:=cK118) h107 <;> first | exact (rfl:@Eq Spec _ _) | skip
  all_goals decide
def L108:List (Nat×Spec):=(118,.red Yy)::L107
theorem h108:Holds Tryz.prog (Gl L108):=Za h107 sK118
theorem cK115:check Tryz.prog 115=some (34,(Ve 69 67 118).strip,[.cell 8 2 true]):=by kernel_rfl
theorem sK115:Sound Tryz.prog 115 (.red xE):=by
  apply YaB (hc:=cK115) h108 <;> first | exact (rfl:@Eq Spec _ _) | skip
  all_goals decide
def L109:List (Nat×Spec):=(115,.red xE)::L108
theorem h109:Holds Tryz.prog (Gl L109):=Za h108 sK115
theorem cK117:check Tryz.prog 117=some (12,(jn 70 107).strip,[.cell 4 3 true]):=by kernel_rfl
theorem sK117:Sound Tryz.prog 117 (.dat false JB):=by
  apply UaD (hc:=cK117) h109 <;> first | exact (rfl:@Eq Spec _ _) | skip
  all_goals decide
def L110:List (Nat×Spec):=(117,.dat false JB)::L109
theorem h110:Holds Tryz.prog (Gl L110):=Za h109 sK117
theorem cK159:check Tryz.prog 159=some (21,xk.strip,[.tmp 2]):=by kernel_rfl
theorem sK159:Sound Tryz.prog 159 (.dat true QD):=by
  apply waA (hc:=cK159) h110 <;> first | exact (rfl:@Eq Spec _ _) | skip
  all_goals decide
def L111:List (Nat×Spec):=(159,.dat true QD)::L110
theorem h111:Holds Tryz.prog (Gl L111):=Za h110 sK159
theorem cK122:check Tryz.prog 122=some (71,(Ym 155 159 70 156 55).strip,[.tmp 4,.tmp 5]):=by kernel_rfl
theorem sK122:Sound Tryz.prog 122 (.dat false (uD 55)):=by
  apply XaE (hc:=cK122) h111 <;> first | exact (rfl:@Eq Spec _ _) | skip
  all_goals decide
def L112:List (Nat×Spec):=(122,.dat false (uD 55))::L111
theorem h112:Holds Tryz.prog (Gl L112):=Za h111 sK122
theorem cK68:check Tryz.prog 68=some (14,(Vf 122 120).strip,[.tmp 6]):=by kernel_rfl
theorem sK68:Sound Tryz.prog 68 (.red uy):=by
  apply QaF (hc:=cK68) h112 <;> first | exact (rfl:@Eq Spec _ _) | skip
  all_goals decide
def L113:List (Nat×Spec):=(68,.red uy)::L112
theorem h113:Holds Tryz.prog (Gl L113):=Za h112 sK68
theorem cK72:check Tryz.prog 72=some (19,(xe 68 118).strip,[.tmp 4]):=by kernel_rfl
theorem sK72:Sound Tryz.prog 72 (.red QB):=by
  apply jaC (hc:=cK72) h113 <;> first | exact (rfl:@Eq Spec _ _) | skip
  all_goals decide
def L114:List (Nat×Spec):=(72,.red QB)::L113
theorem h114:Holds Tryz.prog (Gl L114):=Za h113 sK72
theorem cK119:check Tryz.prog 119=some (13,(vd 152 120).strip,[.tmp 4]):=by kernel_rfl
theorem sK119:Sound Tryz.prog 119 (.red zD):=by
  apply JaE (hc:=cK119) h114 <;> first | exact (rfl:@Eq Spec _ _) | skip
  all_goals decide
def L115:List (Nat×Spec):=(119,.red zD)::L114
theorem h115:Holds Tryz.prog (Gl L115):=Za h114 sK119
theorem cK66:check Tryz.prog 66=some (111,(We 113 71 114 116 115 117 70 72 119 118 67 68).strip,[.cell 4 7 true]):=by kernel_rfl
theorem sK66:Sound Tryz.prog 66 (.red qE):=by
  apply waE (hc:=cK66) h115 <;> first | exact (rfl:@Eq Spec _ _) | skip
  all_goals decide
def L116:List (Nat×Spec):=(66,.red qE)::L115
theorem h116:Holds Tryz.prog (Gl L116):=Za h115 sK66
theorem cK27:check Tryz.prog 27=some (78,(yk 26 66 68 67 71 70 69 72).strip,[.tmp 2,.tmp 3]):=by kernel_rfl
theorem sK27:Sound Tryz.prog 27 (.dat false (WE 55)):=by
  apply xaE (hc:=cK27) h116 <;> first | exact (rfl:@Eq Spec _ _) | skip
  all_goals decide
def L117:List (Nat×Spec):=(27,.dat false (WE 55))::L116
theorem h117:Holds Tryz.prog (Gl L117):=Za h116 sK27
theorem cK12:check Tryz.prog 12=some (75,(Zi 27 46).strip,[.tmp 4,.tmp 5]):=by kernel_rfl
theorem sK12:Sound Tryz.prog 12 (.dat false (uC 55)):=by
  apply vaC (hc:=cK12) h117 <;> first | exact (rfl:@Eq Spec _ _) | skip
  all_goals decide
def L118:List (Nat×Spec):=(12,.dat false (uC 55))::L117
theorem h118:Holds Tryz.prog (Gl L118):=Za h117 sK12
theorem cK211:check Tryz.prog 211=some (15,yb.strip,[.tmp 2]):=by kernel_rfl
theorem sK211:Sound Tryz.prog 211 (.dat false uq):=by
  apply W0 (hc:=cK211) h118 <;> first | exact (rfl:@Eq Spec _ _) | skip
  all_goals decide
def L119:List (Nat×Spec):=(211,.dat false uq)::L118
theorem h119:Holds Tryz.prog (Gl L119):=Za h118 sK211
theorem cK198:check Tryz.prog 198=some (54,(Qd 211 212 213 214).strip,[.tmp 4]):=by kernel_rfl
theorem sK198:Sound Tryz.prog 198 (.dat false jy):=by
  apply Wak (hc:=cK198) h119 <;> first | exact (rfl:@Eq Spec _ _) | skip
  all_goals decide
def L120:List (Nat×Spec):=(198,.dat false jy)::L119
theorem h120:Holds Tryz.prog (Gl L120):=Za h119 sK198
theorem cK170:check Tryz.prog 170=some (5,(qf 198).strip,[.tmp 2]):=by kernel_rfl
theorem sK170:Sound Tryz.prog 170 (.dat false Jn):=by
  apply qah (hc:=cK170) h120 <;> first | exact (rfl:@Eq Spec _ _) | skip
  all_goals decide
def L121:List (Nat×Spec):=(170,.dat false Jn)::L120
theorem h121:Holds Tryz.prog (Gl L121):=Za h120 sK170
theorem cK138:check Tryz.prog 138=some (5,(qt 170).strip,[.tmp 2]):=by kernel_rfl
theorem sK138:Sound Tryz.prog 138 (.dat false Jn):=by
  apply Yab (hc:=cK138) h121 <;> first | exact (rfl:@Eq Spec _ _) | skip
  all_goals decide
def L122:List (Nat×Spec):=(138,.dat false Jn)::L121
theorem h122:Holds Tryz.prog (Gl L122):=Za h121 sK138
theorem cK140:check Tryz.prog 140=some (75,(Qs 173 174 176).strip,[.tmp 4]):=by kernel_rfl
theorem sK140:Sound Tryz.prog 140 (.dat false vx):=by
  apply vae (hc:=cK140) h122 <;> first | exact (rfl:@Eq Spec _ _) | skip
  all_goals decide
def L123:List (Nat×Spec):=(140,.dat false vx)::L122
theorem h123:Holds Tryz.prog (Gl L123):=Za h122 sK140
theorem cK95:check Tryz.prog 95=some (44,(js 135 137 138 139 140 136).strip,[.tmp 2]):=by kernel_rfl
theorem sK95:Sound Tryz.prog 95 (.dat false Vr):=by
  apply W1 (hc:=cK95) h123 <;> first | exact (rfl:@Eq Spec _ _) | skip
  all_goals decide
def L124:List (Nat×Spec):=(95,.dat false Vr)::L123
theorem h124:Holds Tryz.prog (Gl L124):=Za h123 sK95
theorem cK45:check Tryz.prog 45=some (22,(kk 92 94 93 95).strip,[.tmp 2]):=by kernel_rfl
theorem sK45:Sound Tryz.prog 45 (.dat false Uq):=by
  apply V9 (hc:=cK45) h124 <;> first | exact (rfl:@Eq Spec _ _) | skip
  all_goals decide
def L125:List (Nat×Spec):=(45,.dat false Uq)::L124
theorem h125:Holds Tryz.prog (Gl L125):=Za h124 sK45
theorem cK10:check Tryz.prog 10=some (60,(kg 44 16 17 12 45).strip,[.tmp 0]):=by kernel_rfl
theorem sK10:Sound Tryz.prog 10 (.dat true ux):=by
  apply Uag (hc:=cK10) h125 <;> first | exact (rfl:@Eq Spec _ _) | skip
  all_goals decide
def L126:List (Nat×Spec):=(10,.dat true ux)::L125
theorem h126:Holds Tryz.prog (Gl L126):=Za h125 sK10
theorem cK11:check Tryz.prog 11=some (44,jg.strip,[.tmp 2]):=by kernel_rfl
theorem sK11:Sound Tryz.prog 11 (.dat true XE):=by
  apply zaB (hc:=cK11) h126 <;> first | exact (rfl:@Eq Spec _ _) | skip
  all_goals decide
def L127:List (Nat×Spec):=(11,.dat true XE)::L126
theorem h127:Holds Tryz.prog (Gl L127):=Za h126 sK11
theorem cK34:check Tryz.prog 34=some (35,Wd.strip,[.tmp 2]):=by kernel_rfl
theorem sK34:Sound Tryz.prog 34 (.dat true yq):=by
  apply Q3 (hc:=cK34) h127 <;> first | exact (rfl:@Eq Spec _ _) | skip
  all_goals decide
def L128:List (Nat×Spec):=(34,.dat true yq)::L127
theorem h128:Holds Tryz.prog (Gl L128):=Za h127 sK34
theorem cK97:check Tryz.prog 97=some (15,Xg.strip,[.tmp 2]):=by kernel_rfl
theorem sK97:Sound Tryz.prog 97 (.dat true Wr):=by
  apply jM (hc:=cK97) h128 <;> first | exact (rfl:@Eq Spec _ _) | skip
  all_goals decide
def L129:List (Nat×Spec):=(97,.dat true Wr)::L128
theorem h129:Holds Tryz.prog (Gl L129):=Za h128 sK97
theorem cK131:check Tryz.prog 131=some (38,(kj 126 127 164 130 167 165).strip,[.cell 4 2 true]):=by kernel_rfl
theorem sK131:Sound Tryz.prog 131 (.dat false zx):=by
  apply J3 (hc:=cK131) h129 <;> first | exact (rfl:@Eq Spec _ _) | skip
  all_goals decide
def L130:List (Nat×Spec):=(131,.dat false zx)::L129
theorem h130:Holds Tryz.prog (Gl L130):=Za h129 sK131
theorem cK143:check Tryz.prog 143=some (9,(Jj 128 131).strip,[.cell 4 2 true]):=by kernel_rfl
theorem sK143:Sound Tryz.prog 143 (.dat false VF):=by
  apply WZ (hc:=cK143) h130 <;> first | exact (rfl:@Eq Spec _ _) | skip
  all_goals decide
def L131:List (Nat×Spec):=(143,.dat false VF)::L130
theorem h131:Holds Tryz.prog (Gl L131):=Za h130 sK143
theorem cK98:check Tryz.prog 98=some (9,(Qj 143 78).strip,[.tmp 4]):=by kernel_rfl
theorem sK98:Sound Tryz.prog 98 (.dat true xr):=by
  apply Uaa (hc:=cK98) h131 <;> first | exact (rfl:@Eq Spec _ _) | skip
  all_goals decide
def L132:List (Nat×Spec):=(98,.dat true xr)::L131
theorem h132:Holds Tryz.prog (Gl L132):=Za h131 sK98
theorem cK47:check Tryz.prog 47=some (36,(Jg 97 99 82 98).strip,[.tmp 2]):=by kernel_rfl
theorem sK47:Sound Tryz.prog 47 (.dat true Ze):=by
  apply JM (hc:=cK47) h132 <;> first | exact (rfl:@Eq Spec _ _) | skip
  all_goals decide
def L133:List (Nat×Spec):=(47,.dat true Ze)::L132
theorem h133:Holds Tryz.prog (Gl L133):=Za h132 sK47
theorem cK38:check Tryz.prog 38=some (11,(zg 47).strip,[.tmp 2]):=by kernel_rfl
theorem sK38:Sound Tryz.prog 38 (.dat true qj):=by
  apply wG (hc:=cK38) h133 <;> first | exact (rfl:@Eq Spec _ _) | skip
  all_goals decide
def L134:List (Nat×Spec):=(38,.dat true qj)::L133
theorem h134:Holds Tryz.prog (Gl L134):=Za h133 sK38
theorem cK77:check Tryz.prog 77=some (23,(vg 47 82).strip,[.cell 2 2 true,.cell 3 2 true]):=by kernel_rfl
theorem sK77:Sound Tryz.prog 77 (.dat false xd):=by
  apply vM (hc:=cK77) h134 <;> first | exact (rfl:@Eq Spec _ _) | skip
  all_goals decide
def L135:List (Nat×Spec):=(77,.dat false xd)::L134
theorem h135:Holds Tryz.prog (Gl L135):=Za h134 sK77
theorem cK104:check Tryz.prog 104=some (14,(Um 77 128 80).strip,[.cell 2 3 true]):=by kernel_rfl
theorem sK104:Sound Tryz.prog 104 (.dat false ju):=by
  apply UQ (hc:=cK104) h135 <;> first | exact (rfl:@Eq Spec _ _) | skip
  all_goals decide
def L136:List (Nat×Spec):=(104,.dat false ju)::L135
theorem h136:Holds Tryz.prog (Gl L136):=Za h135 sK104
theorem cK168:check Tryz.prog 168=some (68,(xg 166).strip,[.tmp 4]):=by kernel_rfl
theorem sK168:Sound Tryz.prog 168 (.dat false jp):=by
  apply UV (hc:=cK168) h136 <;> first | exact (rfl:@Eq Spec _ _) | skip
  all_goals decide
def L137:List (Nat×Spec):=(168,.dat false jp)::L136
theorem h137:Holds Tryz.prog (Gl L137):=Za h136 sK168
theorem cK132:check Tryz.prog 132=some (16,(Zo 127 126 168 130).strip,[.cell 4 2 true]):=by kernel_rfl
theorem sK132:Sound Tryz.prog 132 (.dat false yu):=by
  apply YR (hc:=cK132) h137 <;> first | exact (rfl:@Eq Spec _ _) | skip
  all_goals decide
def L138:List (Nat×Spec):=(132,.dat false yu)::L137
theorem h138:Holds Tryz.prog (Gl L138):=Za h137 sK132
theorem cK87:check Tryz.prog 87=some (30,(um 77 132 131 80).strip,[.cell 4 3 true]):=by kernel_rfl
theorem sK87:Sound Tryz.prog 87 (.dat false qn):=by
  apply VR (hc:=cK87) h138 <;> first | exact (rfl:@Eq Spec _ _) | skip
  all_goals decide
def L139:List (Nat×Spec):=(87,.dat false qn)::L138
theorem h139:Holds Tryz.prog (Gl L139):=Za h138 sK87
theorem cK79:check Tryz.prog 79=some (9,(jm 104 87).strip,[.cell 4 3 true]):=by kernel_rfl
theorem sK79:Sound Tryz.prog 79 (.dat false Vu):=by
  apply qO (hc:=cK79) h139 <;> first | exact (rfl:@Eq Spec _ _) | skip
  all_goals decide
def L140:List (Nat×Spec):=(79,.dat false Vu)::L139
theorem h140:Holds Tryz.prog (Gl L140):=Za h139 sK79
theorem cK42:check Tryz.prog 42=some (16,(Zk 79).strip,[.cell 4 6 true]):=by kernel_rfl
theorem sK42:Sound Tryz.prog 42 (.dat false Yg):=by
  apply vB (hc:=cK42) h140 <;> first | exact (rfl:@Eq Spec _ _) | skip
  all_goals decide
def L141:List (Nat×Spec):=(42,.dat false Yg)::L140
theorem h141:Holds Tryz.prog (Gl L141):=Za h140 sK42
theorem cK88:check Tryz.prog 88=some (26,(xl 77 132 80).strip,[.cell 4 3 true]):=by kernel_rfl
theorem sK88:Sound Tryz.prog 88 (.dat false Xm):=by
  apply vN (hc:=cK88) h141 <;> first | exact (rfl:@Eq Spec _ _) | skip
  all_goals decide
def L142:List (Nat×Spec):=(88,.dat false Xm)::L141
theorem h142:Holds Tryz.prog (Gl L142):=Za h141 sK88
theorem cK41:check Tryz.prog 41=some (14,(kh 88 87).strip,[.cell 2 3 true]):=by kernel_rfl
theorem sK41:Sound Tryz.prog 41 (.dat false yF):=by
  apply X9 (hc:=cK41) h142 <;> first | exact (rfl:@Eq Spec _ _) | skip
  all_goals decide
def L143:List (Nat×Spec):=(41,.dat false yF)::L142
theorem h143:Holds Tryz.prog (Gl L143):=Za h142 sK41
theorem cK53:check Tryz.prog 53=some (8,(xh 71 52 83).strip,[.cell 2 6 true]):=by kernel_rfl
theorem sK53:Sound Tryz.prog 53 (.dat false qB):=by
  apply WaA (hc:=cK53) h143 <;> first | exact (rfl:@Eq Spec _ _) | skip
  all_goals decide
def L144:List (Nat×Spec):=(53,.dat false qB)::L143
theorem h144:Holds Tryz.prog (Gl L144):=Za h143 sK53
theorem cK18:check Tryz.prog 18=some (25,(yi 26 53 51).strip,[.cell 2 27 true,.tmp 3]):=by kernel_rfl
theorem sK18:Sound Tryz.prog 18 (.dat false (ZU 55)):=by
  apply JaJ (hc:=cK18) h144 <;> first | exact (rfl:@Eq Spec _ _) | skip
  all_goals decide
def L145:List (Nat×Spec):=(18,.dat false (ZU 55))::L144
theorem h145:Holds Tryz.prog (Gl L145):=Za h144 sK18
theorem cK54:check Tryz.prog 54=some (32,(yn 86 107).strip,[.cell 2 27 true]):=by kernel_rfl
theorem sK54:Sound Tryz.prog 54 (.dat false vy):=by
  apply vak (hc:=cK54) h145 <;> first | exact (rfl:@Eq Spec _ _) | skip
  all_goals decide
def L146:List (Nat×Spec):=(54,.dat false vy)::L145
theorem h146:Holds Tryz.prog (Gl L146):=Za h145 sK54
theorem cK35:check Tryz.prog 35=some (28,(jk 17 18 54).strip,[.tmp 2,.tmp 3]):=by kernel_rfl
theorem sK35:Sound Tryz.prog 35 (.dat false (uA 55)):=by
  apply JaD (hc:=cK35) h146 <;> first | exact (rfl:@Eq Spec _ _) | skip
  all_goals decide
def L147:List (Nat×Spec):=(35,.dat false (uA 55))::L146
theorem h147:Holds Tryz.prog (Gl L147):=Za h146 sK35
theorem cK73:check Tryz.prog 73=some (24,(Wk 26 63 55).strip,[.tmp 4]):=by kernel_rfl
theorem sK73:Sound Tryz.prog 73 (.dat false (Xv 55)):=by
  apply Zaj (hc:=cK73) h147 <;> first | exact (rfl:@Eq Spec _ _) | skip
  all_goals decide
def L148:List (Nat×Spec):=(73,.dat false (Xv 55))::L147
theorem h148:Holds Tryz.prog (Gl L148):=Za h147 sK73
theorem cK76:check Tryz.prog 76=some (16,(Zk 114).strip,[.cell 4 6 true]):=by kernel_rfl
theorem sK76:Sound Tryz.prog 76 (.dat false Yg):=by
  apply vB (hc:=cK76) h148 <;> first | exact (rfl:@Eq Spec _ _) | skip
  all_goals decide
def L149:List (Nat×Spec):=(76,.dat false Yg)::L148
theorem h149:Holds Tryz.prog (Gl L149):=Za h148 sK76
theorem cK89:check Tryz.prog 89=some (14,(Jl 76 117).strip,[.cell 4 3 true]):=by kernel_rfl
theorem sK89:Sound Tryz.prog 89 (.dat false XD):=by
  apply vaB (hc:=cK89) h149 <;> first | exact (rfl:@Eq Spec _ _) | skip
  all_goals decide
def L150:List (Nat×Spec):=(89,.dat false XD)::L149
theorem h150:Holds Tryz.prog (Gl L150):=Za h149 sK89
theorem cK43:check Tryz.prog 43=some (44,(ze 73 89 46).strip,[.tmp 6,.tmp 7]):=by kernel_rfl
theorem sK43:Sound Tryz.prog 43 (.dat false (xA 55)):=by
  apply vaE (hc:=cK43) h150 <;> first | exact (rfl:@Eq Spec _ _) | skip
  all_goals decide
def L151:List (Nat×Spec):=(43,.dat false (xA 55))::L150
theorem h151:Holds Tryz.prog (Gl L151):=Za h150 sK43
theorem cK36:check Tryz.prog 36=some (80,(zf 43 35 83 52 53 85 84 86 55).strip,[.tmp 6,.tmp 7]):=by kernel_rfl
theorem sK36:Sound Tryz.prog 36 (.dat false (yC 55)):=by
  apply VaF (hc:=cK36) h151 <;> first | exact (rfl:@Eq Spec _ _) | skip
  all_goals decide
def L152:List (Nat×Spec):=(36,.dat false (yC 55))::L151
theorem h152:Holds Tryz.prog (Gl L152):=Za h151 sK36
theorem cK75:check Tryz.prog 75=some (26,(Wp 70 114 107).strip,[.cell 6 6 true]):=by kernel_rfl
theorem sK75:Sound Tryz.prog 75 (.dat false UW):=by
  apply Ua2 (hc:=cK75) h152 <;> first | exact (rfl:@Eq Spec _ _) | skip
  all_goals decide
def L153:List (Nat×Spec):=(75,.dat false UW)::L152
theorem h153:Holds Tryz.prog (Gl L153):=Za h152 sK75
theorem cK74:check Tryz.prog 74=some (16,(Xn 107).strip,[.cell 4 6 true]):=by kernel_rfl
theorem sK74:Sound Tryz.prog 74 (.dat false Yl):=by
  apply yL (hc:=cK74) h153 <;> first | exact (rfl:@Eq Spec _ _) | skip
  all_goals decide
def L154:List (Nat×Spec):=(74,.dat false Yl)::L153
theorem h154:Holds Tryz.prog (Gl L154):=Za h153 sK74
theorem cK30:check Tryz.prog 30=some (28,(uk 73 76 75 74).strip,[.cell 6 6 true,.tmp 7]):=by kernel_rfl
theorem sK30:Sound Tryz.prog 30 (.dat false (QE 55)):=by
  apply qaD (hc:=cK30) h154 <;> first | exact (rfl:@Eq Spec _ _) | skip
  all_goals decide
def L155:List (Nat×Spec):=(30,.dat false (QE 55))::L154
theorem h155:Holds Tryz.prog (Gl L155):=Za h154 sK30
theorem cK14:check Tryz.prog 14=some (15,(Zf 55).strip,[.tmp 2]):=by kernel_rfl
theorem sK14:Sound Tryz.prog 14 (.dat true (kC 55)):=by
  apply qaB (hc:=cK14) h155 <;> first | exact (rfl:@Eq Spec _ _) | skip
  all_goals decide
def L156:List (Nat×Spec):=(14,.dat true (kC 55))::L155
theorem h156:Holds Tryz.prog (Gl L156):=Za h155 sK14
theorem cK28:check Tryz.prog 28=some (9,(Zm 14).strip,[.tmp 4]):=by kernel_rfl
theorem sK28:Sound Tryz.prog 28 (.dat true (vT 55)):=by
  apply ZaS (hc:=cK28) h156 <;> first | exact (rfl:@Eq Spec _ _) | skip
  all_goals decide
def L157:List (Nat×Spec):=(28,.dat true (vT 55))::L156
theorem h157:Holds Tryz.prog (Gl L157):=Za h156 sK28
theorem cK108:check Tryz.prog 108=some (26,Uh.strip,[.tmp 4]):=by kernel_rfl
theorem sK108:Sound Tryz.prog 108 (.dat true Zr):=by
  apply qY (hc:=cK108) h157 <;> first | exact (rfl:@Eq Spec _ _) | skip
  all_goals decide
def L158:List (Nat×Spec):=(108,.dat true Zr)::L157
theorem h158:Holds Tryz.prog (Gl L158):=Za h157 sK108
theorem cK55:check Tryz.prog 55=some (24,(Zl 108).strip,[.tmp 4]):=by kernel_rfl
theorem sK55:Sound Tryz.prog 55 (.dat true yD):=by
  apply WaE (hc:=cK55) h158 <;> first | exact (rfl:@Eq Spec _ _) | skip
  all_goals decide
def L159:List (Nat×Spec):=(55,.dat true yD)::L158
theorem h159:Holds Tryz.prog (Gl L159):=Za h158 sK55
theorem cK20:check Tryz.prog 20=some (17,(ve 55).strip,[.tmp 4]):=by kernel_rfl
theorem sK20:Sound Tryz.prog 20 (.dat true Zx):=by
  apply uaj (hc:=cK20) h159 <;> first | exact (rfl:@Eq Spec _ _) | skip
  all_goals decide
def L160:List (Nat×Spec):=(20,.dat true Zx)::L159
theorem h160:Holds Tryz.prog (Gl L160):=Za h159 sK20
theorem cK9:check Tryz.prog 9=some (163,(Qb 10 11 34 38 42 41 26 35 36 30 28 43 20).strip,[.tmp 6]):=by kernel_rfl
theorem sK9:Sound Tryz.prog 9 (.dat true Vq):=by
  apply ZY (hc:=cK9) h160 <;> first | exact (rfl:@Eq Spec _ _) | skip
  all_goals decide
def L161:List (Nat×Spec):=(9,.dat true Vq)::L160
theorem h161:Holds Tryz.prog (Gl L161):=Za h160 sK9
theorem hold:Holds Tryz.prog (Gl L161):=h161
end Go.Abs
