/-
  The contracts of this seat's functions, gathered.
-/
import Derived.Test.YtjggkdaangghfaaGreatDoorChecked
import Derived.Test.YtjggkdaangghfaaGreatDoorBits
import Derived.KernelRfl
import Derived.Test.YtjggkdaangghfaaGreatDoorM13
set_option maxRecDepth 100000
set_option linter.unusedVariables false
namespace Go.Abs
open Go.Proofs
theorem cK166:check Tryz.prog 166=some (25,Yc.strip,[.tmp 2]):=by kernel_rfl
theorem sK166:Sound Tryz.prog 166 (.fresh 1 Xu):=by
  apply jaC (hc:=cK166) X7 <;> first | exact (rfl:@Eq Spec _ _) | skip
  all_goals decide
def L1:List (Nat×Spec):=(166,.fresh 1 Xu)::[]
theorem h1:Holds Tryz.prog (Gl L1):=za X7 sK166
theorem cK130:check Tryz.prog 130=some (14,(Yi 166).strip,[.cell 4 2 true]):=by kernel_rfl
theorem sK130:Sound Tryz.prog 130 (.dat false Xe):=by
  apply W9 (hc:=cK130) h1 <;> first | exact (rfl:@Eq Spec _ _) | skip
  all_goals decide
def L2:List (Nat×Spec):=(130,.dat false Xe)::L1
theorem h2:Holds Tryz.prog (Gl L2):=za h1 sK130
theorem cK81:check Tryz.prog 81=some (19,(Qr 130).strip,[.cell 2 2 true]):=by kernel_rfl
theorem sK81:Sound Tryz.prog 81 (.dat false XF):=by
  apply zac (hc:=cK81) h2 <;> first | exact (rfl:@Eq Spec _ _) | skip
  all_goals decide
def L3:List (Nat×Spec):=(81,.dat false XF)::L2
theorem h3:Holds Tryz.prog (Gl L3):=za h2 sK81
theorem cK162:check Tryz.prog 162=some (19,vl.strip,[.tmp 2]):=by kernel_rfl
theorem sK162:Sound Tryz.prog 162 (.dat true qj):=by
  apply YG (hc:=cK162) h3 <;> first | exact (rfl:@Eq Spec _ _) | skip
  all_goals decide
def L4:List (Nat×Spec):=(162,.dat true qj)::L3
theorem h4:Holds Tryz.prog (Gl L4):=za h3 sK162
theorem cK126:check Tryz.prog 126=some (8,(qp 162).strip,[.tmp 2]):=by kernel_rfl
theorem sK126:Sound Tryz.prog 126 (.dat false Jj):=by
  apply qQ (hc:=cK126) h4 <;> first | exact (rfl:@Eq Spec _ _) | skip
  all_goals decide
def L5:List (Nat×Spec):=(126,.dat false Jj)::L4
theorem h5:Holds Tryz.prog (Gl L5):=za h4 sK126
theorem cK127:check Tryz.prog 127=some (9,(jo 162).strip,[.tmp 2]):=by kernel_rfl
theorem sK127:Sound Tryz.prog 127 (.dat true Jf):=by
  apply UH (hc:=cK127) h5 <;> first | exact (rfl:@Eq Spec _ _) | skip
  all_goals decide
def L6:List (Nat×Spec):=(127,.dat true Jf)::L5
theorem h6:Holds Tryz.prog (Gl L6):=za h5 sK127
theorem cK78:check Tryz.prog 78=some (9,(Wh 126 127).strip,[.tmp 2]):=by kernel_rfl
theorem sK78:Sound Tryz.prog 78 (.dat true yf):=by
  apply vV (hc:=cK78) h6 <;> first | exact (rfl:@Eq Spec _ _) | skip
  all_goals decide
def L7:List (Nat×Spec):=(78,.dat true yf)::L6
theorem h7:Holds Tryz.prog (Gl L7):=za h6 sK78
theorem cK128:check Tryz.prog 128=some (9,(Xo 127 126 130).strip,[.cell 2 2 true]):=by kernel_rfl
theorem sK128:Sound Tryz.prog 128 (.dat false Qv):=by
  apply XR (hc:=cK128) h7 <;> first | exact (rfl:@Eq Spec _ _) | skip
  all_goals decide
def L8:List (Nat×Spec):=(128,.dat false Qv)::L7
theorem h8:Holds Tryz.prog (Gl L8):=za h7 sK128
theorem cK197:check Tryz.prog 197=some (14,um.strip,[.tmp 4]):=by kernel_rfl
theorem sK197:Sound Tryz.prog 197 (.dat true Zm):=by
  apply kR (hc:=cK197) h8 <;> first | exact (rfl:@Eq Spec _ _) | skip
  all_goals decide
def L9:List (Nat×Spec):=(197,.dat true Zm)::L8
theorem h9:Holds Tryz.prog (Gl L9):=za h8 sK197
theorem cK179:check Tryz.prog 179=some (21,vj.strip,[.tmp 2]):=by kernel_rfl
theorem sK179:Sound Tryz.prog 179 (.own J7):=by
  apply Ja4 (hc:=cK179) h9 <;> first | exact (rfl:@Eq Spec _ _) | skip
  all_goals decide
def L10:List (Nat×Spec):=(179,.own J7)::L9
theorem h10:Holds Tryz.prog (Gl L10):=za h9 sK179
theorem cK177:check Tryz.prog 177=some (26,(Ug 197 179).strip,[.tmp 2]):=by kernel_rfl
theorem sK177:Sound Tryz.prog 177 (.own Wq):=by
  apply Yak (hc:=cK177) h10 <;> first | exact (rfl:@Eq Spec _ _) | skip
  all_goals decide
def L11:List (Nat×Spec):=(177,.own Wq)::L10
theorem h11:Holds Tryz.prog (Gl L11):=za h10 sK177
theorem cK167:check Tryz.prog 167=some (30,(ye 197).strip,[.tmp 4]):=by kernel_rfl
theorem sK167:Sound Tryz.prog 167 (.dat true Ju):=by
  apply waj (hc:=cK167) h11 <;> first | exact (rfl:@Eq Spec _ _) | skip
  all_goals decide
def L12:List (Nat×Spec):=(167,.dat true Ju)::L11
theorem h12:Holds Tryz.prog (Gl L12):=za h11 sK167
theorem cK178:check Tryz.prog 178=some (31,(Ze 197).strip,[]):=by kernel_rfl
theorem sK178:Sound Tryz.prog 178 (.own Wx):=by
  apply JaB (hc:=cK178) h12 <;> first | exact (rfl:@Eq Spec _ _) | skip
  all_goals decide
def L13:List (Nat×Spec):=(178,.own Wx)::L12
theorem h13:Holds Tryz.prog (Gl L13):=za h12 sK178
theorem cK164:check Tryz.prog 164=some (37,(Uh 197 166).strip,[.tmp 4]):=by kernel_rfl
theorem sK164:Sound Tryz.prog 164 (.dat false Yq):=by
  apply jab (hc:=cK164) h13 <;> first | exact (rfl:@Eq Spec _ _) | skip
  all_goals decide
def L14:List (Nat×Spec):=(164,.dat false Yq)::L13
theorem h14:Holds Tryz.prog (Gl L14):=za h13 sK164
theorem cK144:check Tryz.prog 144=some (72,(Zk 166 177 167 178 179 164).strip,[.tmp 4]):=by kernel_rfl
theorem sK144:Sound Tryz.prog 144 (.dat false Ux):=by
  apply uag (hc:=cK144) h14 <;> first | exact (rfl:@Eq Spec _ _) | skip
  all_goals decide
def L15:List (Nat×Spec):=(144,.dat false Ux)::L14
theorem h15:Holds Tryz.prog (Gl L15):=za h14 sK144
theorem cK99:check Tryz.prog 99=some (11,(kj 126 144 130).strip,[.cell 4 2 true]):=by kernel_rfl
theorem sK99:Sound Tryz.prog 99 (.dat false xt):=by
  apply U7 (hc:=cK99) h15 <;> first | exact (rfl:@Eq Spec _ _) | skip
  all_goals decide
def L16:List (Nat×Spec):=(99,.dat false xt)::L15
theorem h16:Holds Tryz.prog (Gl L16):=za h15 sK99
theorem cK196:check Tryz.prog 196=some (25,qi.strip,[.tmp 2]):=by kernel_rfl
theorem sK196:Sound Tryz.prog 196 (.dat true Vr):=by
  apply Zac (hc:=cK196) h16 <;> first | exact (rfl:@Eq Spec _ _) | skip
  all_goals decide
def L17:List (Nat×Spec):=(196,.dat true Vr)::L16
theorem h17:Holds Tryz.prog (Gl L17):=za h16 sK196
theorem cK163:check Tryz.prog 163=some (76,(kf 196 167 178 166).strip,[.tmp 4,.tmp 5]):=by kernel_rfl
theorem sK163:Sound Tryz.prog 163 (.dat false Jh):=by
  apply yM (hc:=cK163) h17 <;> first | exact (rfl:@Eq Spec _ _) | skip
  all_goals decide
def L18:List (Nat×Spec):=(163,.dat false Jh)::L17
theorem h18:Holds Tryz.prog (Gl L18):=za h17 sK163
theorem cK165:check Tryz.prog 165=some (35,(Vg 197 166).strip,[.tmp 4]):=by kernel_rfl
theorem sK165:Sound Tryz.prog 165 (.dat false vu):=by
  apply kU (hc:=cK165) h18 <;> first | exact (rfl:@Eq Spec _ _) | skip
  all_goals decide
def L19:List (Nat×Spec):=(165,.dat false vu)::L18
theorem h19:Holds Tryz.prog (Gl L19):=za h18 sK165
theorem cK129:check Tryz.prog 129=some (45,(Yj 78 126 163 127 164 165 130).strip,[.cell 4 2 true,.cell 5 2 true,.tmp 6]):=by kernel_rfl
theorem sK129:Sound Tryz.prog 129 (.dat false vr):=by
  apply zaa (hc:=cK129) h19 <;> first | exact (rfl:@Eq Spec _ _) | skip
  all_goals decide
def L20:List (Nat×Spec):=(129,.dat false vr)::L19
theorem h20:Holds Tryz.prog (Gl L20):=za h19 sK129
theorem cK80:check Tryz.prog 80=some (47,(ji 78 128 99 129).strip,[.cell 4 3 true]):=by kernel_rfl
theorem sK80:Sound Tryz.prog 80 (.dat false uh):=by
  apply JW (hc:=cK80) h20 <;> first | exact (rfl:@Eq Spec _ _) | skip
  all_goals decide
def L21:List (Nat×Spec):=(80,.dat false uh)::L20
theorem h21:Holds Tryz.prog (Gl L21):=za h20 sK80
theorem cK133:check Tryz.prog 133=some (13,(yi 78 80).strip,[.cell 4 3 true,.tmp 5]):=by kernel_rfl
theorem sK133:Sound Tryz.prog 133 (.dat false yo):=by
  apply xad (hc:=cK133) h21 <;> first | exact (rfl:@Eq Spec _ _) | skip
  all_goals decide
def L22:List (Nat×Spec):=(133,.dat false yo)::L21
theorem h22:Holds Tryz.prog (Gl L22):=za h21 sK133
theorem cK90:check Tryz.prog 90=some (13,(wi 81 133).strip,[.cell 4 3 true,.tmp 5]):=by kernel_rfl
theorem sK90:Sound Tryz.prog 90 (.dat false ky):=by
  apply waa (hc:=cK90) h22 <;> first | exact (rfl:@Eq Spec _ _) | skip
  all_goals decide
def L23:List (Nat×Spec):=(90,.dat false ky)::L22
theorem h23:Holds Tryz.prog (Gl L23):=za h22 sK90
theorem cK82:check Tryz.prog 82=some (2,(Ym 81).strip,[.cell 0 2 true]):=by kernel_rfl
theorem sK82:Sound Tryz.prog 82 (.dat false kp):=by
  apply vN (hc:=cK82) h23 <;> first | exact (rfl:@Eq Spec _ _) | skip
  all_goals decide
def L24:List (Nat×Spec):=(82,.dat false kp)::L23
theorem h24:Holds Tryz.prog (Gl L24):=za h23 sK82
theorem cK33:check Tryz.prog 33=some (7,(Vo 81 82 80).strip,[.cell 2 3 true]):=by kernel_rfl
theorem sK33:Sound Tryz.prog 33 (.dat false yz):=by
  apply QY (hc:=cK33) h24 <;> first | exact (rfl:@Eq Spec _ _) | skip
  all_goals decide
def L25:List (Nat×Spec):=(33,.dat false yz)::L24
theorem h25:Holds Tryz.prog (Gl L25):=za h24 sK33
theorem cK91:check Tryz.prog 91=some (10,(Xl 33).strip,[.cell 4 6 true]):=by kernel_rfl
theorem sK91:Sound Tryz.prog 91 (.dat false VW):=by
  apply uaV (hc:=cK91) h25 <;> first | exact (rfl:@Eq Spec _ _) | skip
  all_goals decide
def L26:List (Nat×Spec):=(91,.dat false VW)::L25
theorem h26:Holds Tryz.prog (Gl L26):=za h25 sK91
theorem cK44:check Tryz.prog 44=some (15,(ue 90 33 91).strip,[.cell 0 27 true]):=by kernel_rfl
theorem sK44:Sound Tryz.prog 44 (.dat false vB):=by
  apply xaD (hc:=cK44) h26 <;> first | exact (rfl:@Eq Spec _ _) | skip
  all_goals decide
def L27:List (Nat×Spec):=(44,.dat false vB)::L26
theorem h27:Holds Tryz.prog (Gl L27):=za h26 sK44
theorem cK110:check Tryz.prog 110=some (19,vl.strip,[.tmp 2]):=by kernel_rfl
theorem sK110:Sound Tryz.prog 110 (.dat true qj):=by
  apply YG (hc:=cK110) h27 <;> first | exact (rfl:@Eq Spec _ _) | skip
  all_goals decide
def L28:List (Nat×Spec):=(110,.dat true qj)::L27
theorem h28:Holds Tryz.prog (Gl L28):=za h27 sK110
theorem cK135:check Tryz.prog 135=some (8,(qp 110).strip,[.tmp 2]):=by kernel_rfl
theorem sK135:Sound Tryz.prog 135 (.dat false Jj):=by
  apply qQ (hc:=cK135) h28 <;> first | exact (rfl:@Eq Spec _ _) | skip
  all_goals decide
def L29:List (Nat×Spec):=(135,.dat false Jj)::L28
theorem h29:Holds Tryz.prog (Gl L29):=za h28 sK135
theorem cK134:check Tryz.prog 134=some (41,km.strip,[.tmp 4]):=by kernel_rfl
theorem sK134:Sound Tryz.prog 134 (.dat false Wi):=by
  apply wU (hc:=cK134) h29 <;> first | exact (rfl:@Eq Spec _ _) | skip
  all_goals decide
def L30:List (Nat×Spec):=(134,.dat false Wi)::L29
theorem h30:Holds Tryz.prog (Gl L30):=za h29 sK134
theorem cK169:check Tryz.prog 169=some (25,yt.strip,[.tmp 2]):=by kernel_rfl
theorem sK169:Sound Tryz.prog 169 (.dat false jt):=by
  apply vaC (hc:=cK169) h30 <;> first | exact (rfl:@Eq Spec _ _) | skip
  all_goals decide
def L31:List (Nat×Spec):=(169,.dat false jt)::L30
theorem h31:Holds Tryz.prog (Gl L31):=za h30 sK169
theorem cK137:check Tryz.prog 137=some (43,(Yp 169).strip,[.tmp 4,.tmp 5]):=by kernel_rfl
theorem sK137:Sound Tryz.prog 137 (.dat false Jv):=by
  apply uai (hc:=cK137) h31 <;> first | exact (rfl:@Eq Spec _ _) | skip
  all_goals decide
def L32:List (Nat×Spec):=(137,.dat false Jv)::L31
theorem h32:Holds Tryz.prog (Gl L32):=za h31 sK137
theorem sK185:Sound Tryz.prog 185 (.dat true lz_G):=yaR (Yw Tryz.func185 (by kernel_rfl) (by kernel_rfl)) ybp Ubu Tryz.bits_LeadingZeros32
def L33:List (Nat×Spec):=(185,.dat true lz_G)::L32
theorem h33:Holds Tryz.prog (Gl L33):=za h32 sK185
theorem cK186:check Tryz.prog 186=some (41,qy.strip,[.tmp 4]):=by kernel_rfl
theorem sK186:Sound Tryz.prog 186 (.fresh 1 up_G):=by
  apply xa5 (hc:=cK186) h33 <;> first | exact (rfl:@Eq Spec _ _) | skip
  all_goals decide
def L34:List (Nat×Spec):=(186,.fresh 1 up_G)::L33
theorem h34:Holds Tryz.prog (Gl L34):=za h33 sK186
theorem cK204:check Tryz.prog 204=some (14,um.strip,[.tmp 4]):=by kernel_rfl
theorem sK204:Sound Tryz.prog 204 (.dat true Zm):=by
  apply kR (hc:=cK204) h34 <;> first | exact (rfl:@Eq Spec _ _) | skip
  all_goals decide
def L35:List (Nat×Spec):=(204,.dat true Zm)::L34
theorem h35:Holds Tryz.prog (Gl L35):=za h34 sK204
theorem cK187:check Tryz.prog 187=some (46,(wn 204).strip,[.tmp 6]):=by kernel_rfl
theorem sK187:Sound Tryz.prog 187 (.own Xr):=by
  apply Y7 (hc:=cK187) h35 <;> first | exact (rfl:@Eq Spec _ _) | skip
  all_goals decide
def L36:List (Nat×Spec):=(187,.own Xr)::L35
theorem h36:Holds Tryz.prog (Gl L36):=za h35 sK187
theorem cK188:check Tryz.prog 188=some (30,(Zu 204).strip,[]):=by kernel_rfl
theorem sK188:Sound Tryz.prog 188 (.own XE):=by
  apply ZaB (hc:=cK188) h36 <;> first | exact (rfl:@Eq Spec _ _) | skip
  all_goals decide
def L37:List (Nat×Spec):=(188,.own XE)::L36
theorem h37:Holds Tryz.prog (Gl L37):=za h36 sK188
theorem cK189:check Tryz.prog 189=some (35,(Us 204 169).strip,[.tmp 4]):=by kernel_rfl
theorem sK189:Sound Tryz.prog 189 (.dat false JD):=by
  apply zaD (hc:=cK189) h37 <;> first | exact (rfl:@Eq Spec _ _) | skip
  all_goals decide
def L38:List (Nat×Spec):=(189,.dat false JD)::L37
theorem h38:Holds Tryz.prog (Gl L38):=za h37 sK189
theorem cK151:check Tryz.prog 151=some (158,(Qj 134 169 137 185 186 187 188 189).strip,[.tmp 4,.tmp 5]):=by kernel_rfl
theorem sK151:Sound Tryz.prog 151 (.dat false Jh):=by
  apply Vad (hc:=cK151) h38 <;> first | exact (rfl:@Eq Spec _ _) | skip
  all_goals decide
def L39:List (Nat×Spec):=(151,.dat false Jh)::L38
theorem h39:Holds Tryz.prog (Gl L39):=za h38 sK151
theorem cK141:check Tryz.prog 141=some (15,(jq 169).strip,[.cell 4 2 true]):=by kernel_rfl
theorem sK141:Sound Tryz.prog 141 (.dat false Xe):=by
  apply qah (hc:=cK141) h39 <;> first | exact (rfl:@Eq Spec _ _) | skip
  all_goals decide
def L40:List (Nat×Spec):=(141,.dat false Xe)::L39
theorem h40:Holds Tryz.prog (Gl L40):=za h39 sK141
theorem cK111:check Tryz.prog 111=some (26,(Vw 135 151 141).strip,[.cell 4 2 true]):=by kernel_rfl
theorem sK111:Sound Tryz.prog 111 (.dat false xt):=by
  apply WaA (hc:=cK111) h40 <;> first | exact (rfl:@Eq Spec _ _) | skip
  all_goals decide
def L41:List (Nat×Spec):=(111,.dat false xt)::L40
theorem h41:Holds Tryz.prog (Gl L41):=za h40 sK111
theorem cK125:check Tryz.prog 125=some (19,(Qr 141).strip,[.cell 2 2 true]):=by kernel_rfl
theorem sK125:Sound Tryz.prog 125 (.dat false XF):=by
  apply zac (hc:=cK125) h41 <;> first | exact (rfl:@Eq Spec _ _) | skip
  all_goals decide
def L42:List (Nat×Spec):=(125,.dat false XF)::L41
theorem h42:Holds Tryz.prog (Gl L42):=za h41 sK125
theorem cK94:check Tryz.prog 94=some (2,(Ym 125).strip,[.cell 0 2 true]):=by kernel_rfl
theorem sK94:Sound Tryz.prog 94 (.dat false kp):=by
  apply vN (hc:=cK94) h42 <;> first | exact (rfl:@Eq Spec _ _) | skip
  all_goals decide
def L43:List (Nat×Spec):=(94,.dat false kp)::L42
theorem h43:Holds Tryz.prog (Gl L43):=za h42 sK94
theorem cK112:check Tryz.prog 112=some (11,(Ys 135).strip,[.tmp 2]):=by kernel_rfl
theorem sK112:Sound Tryz.prog 112 (.dat true yf):=by
  apply uae (hc:=cK112) h43 <;> first | exact (rfl:@Eq Spec _ _) | skip
  all_goals decide
def L44:List (Nat×Spec):=(112,.dat true yf)::L43
theorem h44:Holds Tryz.prog (Gl L44):=za h43 sK112
theorem cK136:check Tryz.prog 136=some (9,(jo 110).strip,[.tmp 2]):=by kernel_rfl
theorem sK136:Sound Tryz.prog 136 (.dat true Jf):=by
  apply UH (hc:=cK136) h44 <;> first | exact (rfl:@Eq Spec _ _) | skip
  all_goals decide
def L45:List (Nat×Spec):=(136,.dat true Jf)::L44
theorem h45:Holds Tryz.prog (Gl L45):=za h44 sK136
theorem cK93:check Tryz.prog 93=some (28,(Wv 112 135 134 136).strip,[.tmp 4]):=by kernel_rfl
theorem sK93:Sound Tryz.prog 93 (.dat true JA):=by
  apply xaA (hc:=cK93) h45 <;> first | exact (rfl:@Eq Spec _ _) | skip
  all_goals decide
def L46:List (Nat×Spec):=(93,.dat true JA)::L45
theorem h46:Holds Tryz.prog (Gl L46):=za h45 sK93
theorem cK64:check Tryz.prog 64=some (50,(yn 110 111 94 93).strip,[.tmp 2]):=by kernel_rfl
theorem sK64:Sound Tryz.prog 64 (.dat true yd):=by
  apply XZ (hc:=cK64) h46 <;> first | exact (rfl:@Eq Spec _ _) | skip
  all_goals decide
def L47:List (Nat×Spec):=(64,.dat true yd)::L46
theorem h47:Holds Tryz.prog (Gl L47):=za h46 sK64
theorem cK63:check Tryz.prog 63=some (11,(qg 64).strip,[.tmp 2]):=by kernel_rfl
theorem sK63:Sound Tryz.prog 63 (.dat true jl):=by
  apply XG (hc:=cK63) h47 <;> first | exact (rfl:@Eq Spec _ _) | skip
  all_goals decide
def L48:List (Nat×Spec):=(63,.dat true jl)::L47
theorem h48:Holds Tryz.prog (Gl L48):=za h47 sK63
theorem cK92:check Tryz.prog 92=some (28,(Wn 64 94).strip,[.cell 2 2 true,.cell 3 2 true]):=by kernel_rfl
theorem sK92:Sound Tryz.prog 92 (.dat false jd):=by
  apply UZ (hc:=cK92) h48 <;> first | exact (rfl:@Eq Spec _ _) | skip
  all_goals decide
def L49:List (Nat×Spec):=(92,.dat false jd)::L48
theorem h49:Holds Tryz.prog (Gl L49):=za h48 sK92
theorem cK65:check Tryz.prog 65=some (12,(Zl 92 112).strip,[.tmp 2]):=by kernel_rfl
theorem sK65:Sound Tryz.prog 65 (.dat true yj):=by
  apply JI (hc:=cK65) h49 <;> first | exact (rfl:@Eq Spec _ _) | skip
  all_goals decide
def L50:List (Nat×Spec):=(65,.dat true yj)::L49
theorem h50:Holds Tryz.prog (Gl L50):=za h49 sK65
theorem cK142:check Tryz.prog 142=some (67,(vq 169).strip,[.tmp 4]):=by kernel_rfl
theorem sK142:Sound Tryz.prog 142 (.dat false xp):=by
  apply Vai (hc:=cK142) h50 <;> first | exact (rfl:@Eq Spec _ _) | skip
  all_goals decide
def L51:List (Nat×Spec):=(142,.dat false xp)::L50
theorem h51:Holds Tryz.prog (Gl L51):=za h50 sK142
theorem cK96:check Tryz.prog 96=some (16,(Jo 136 135 142 141).strip,[.cell 4 2 true]):=by kernel_rfl
theorem sK96:Sound Tryz.prog 96 (.dat false ut):=by
  apply xR (hc:=cK96) h51 <;> first | exact (rfl:@Eq Spec _ _) | skip
  all_goals decide
def L52:List (Nat×Spec):=(96,.dat false ut)::L51
theorem h52:Holds Tryz.prog (Gl L52):=za h51 sK96
theorem cK46:check Tryz.prog 46=some (26,(Wt 92 96 93).strip,[.tmp 4]):=by kernel_rfl
theorem sK46:Sound Tryz.prog 46 (.dat true qh):=by
  apply zak (hc:=cK46) h52 <;> first | exact (rfl:@Eq Spec _ _) | skip
  all_goals decide
def L53:List (Nat×Spec):=(46,.dat true qh)::L52
theorem h53:Holds Tryz.prog (Gl L53):=za h52 sK46
theorem cK26:check Tryz.prog 26=some (75,(uf 63 64 65 46 55).strip,[.tmp 2]):=by kernel_rfl
theorem sK26:Sound Tryz.prog 26 (.dat false (jx 55)):=by
  apply kaF (hc:=cK26) h53 <;> first | exact (rfl:@Eq Spec _ _) | skip
  all_goals decide
def L54:List (Nat×Spec):=(26,.dat false (jx 55))::L53
theorem h54:Holds Tryz.prog (Gl L54):=za h53 sK26
theorem cK52:check Tryz.prog 52=some (8,Zh.strip,[.cell 2 6 true]):=by kernel_rfl
theorem sK52:Sound Tryz.prog 52 (.dat false kD):=by
  apply zae (hc:=cK52) h54 <;> first | exact (rfl:@Eq Spec _ _) | skip
  all_goals decide
def L55:List (Nat×Spec):=(52,.dat false kD)::L54
theorem h55:Holds Tryz.prog (Gl L55):=za h54 sK52
theorem cK153:check Tryz.prog 153=some (9,(Xo 136 135 141).strip,[.cell 2 2 true]):=by kernel_rfl
theorem sK153:Sound Tryz.prog 153 (.dat false Qv):=by
  apply XR (hc:=cK153) h55 <;> first | exact (rfl:@Eq Spec _ _) | skip
  all_goals decide
def L56:List (Nat×Spec):=(153,.dat false Qv)::L55
theorem h56:Holds Tryz.prog (Gl L56):=za h55 sK153
theorem cK183:check Tryz.prog 183=some (39,(vt 204 169).strip,[.tmp 4]):=by kernel_rfl
theorem sK183:Sound Tryz.prog 183 (.dat false Yq):=by
  apply yaE (hc:=cK183) h56 <;> first | exact (rfl:@Eq Spec _ _) | skip
  all_goals decide
def L57:List (Nat×Spec):=(183,.dat false Yq)::L56
theorem h57:Holds Tryz.prog (Gl L57):=za h56 sK183
theorem cK184:check Tryz.prog 184=some (38,(Vt 204 169).strip,[.tmp 4]):=by kernel_rfl
theorem sK184:Sound Tryz.prog 184 (.dat false vu):=by
  apply qaG (hc:=cK184) h57 <;> first | exact (rfl:@Eq Spec _ _) | skip
  all_goals decide
def L58:List (Nat×Spec):=(184,.dat false vu)::L57
theorem h58:Holds Tryz.prog (Gl L58):=za h57 sK184
theorem cK161:check Tryz.prog 161=some (47,(Uv 135 151 136 183 184 141 55).strip,[.cell 4 2 true,.cell 5 2 true,.tmp 6]):=by kernel_rfl
theorem sK161:Sound Tryz.prog 161 (.dat false zF):=by
  apply VaC (hc:=cK161) h58 <;> first | exact (rfl:@Eq Spec _ _) | skip
  all_goals decide
def L59:List (Nat×Spec):=(161,.dat false zF)::L58
theorem h59:Holds Tryz.prog (Gl L59):=za h58 sK161
theorem cK124:check Tryz.prog 124=some (47,(Jq 112 153 111 161).strip,[.cell 4 3 true]):=by kernel_rfl
theorem sK124:Sound Tryz.prog 124 (.dat false uh):=by
  apply wai (hc:=cK124) h59 <;> first | exact (rfl:@Eq Spec _ _) | skip
  all_goals decide
def L60:List (Nat×Spec):=(124,.dat false uh)::L59
theorem h60:Holds Tryz.prog (Gl L60):=za h59 sK124
theorem cK116:check Tryz.prog 116=some (14,(vm 92 153 124).strip,[.cell 2 3 true]):=by kernel_rfl
theorem sK116:Sound Tryz.prog 116 (.dat false Vu):=by
  apply UM (hc:=cK116) h60 <;> first | exact (rfl:@Eq Spec _ _) | skip
  all_goals decide
def L61:List (Nat×Spec):=(116,.dat false Vu)::L60
theorem h61:Holds Tryz.prog (Gl L61):=za h60 sK116
theorem cK149:check Tryz.prog 149=some (40,(vv 135 136 183 141 134 184).strip,[.cell 4 2 true]):=by kernel_rfl
theorem sK149:Sound Tryz.prog 149 (.dat false Vx):=by
  apply zaB (hc:=cK149) h61 <;> first | exact (rfl:@Eq Spec _ _) | skip
  all_goals decide
def L62:List (Nat×Spec):=(149,.dat false Vx)::L61
theorem h62:Holds Tryz.prog (Gl L62):=za h61 sK149
theorem cK107:check Tryz.prog 107=some (30,(Wm 92 96 149 124).strip,[.cell 4 3 true]):=by kernel_rfl
theorem sK107:Sound Tryz.prog 107 (.dat false kn):=by
  apply wP (hc:=cK107) h62 <;> first | exact (rfl:@Eq Spec _ _) | skip
  all_goals decide
def L63:List (Nat×Spec):=(107,.dat false kn)::L62
theorem h63:Holds Tryz.prog (Gl L63):=za h62 sK107
theorem cK114:check Tryz.prog 114=some (9,(Um 116 107).strip,[.cell 4 3 true]):=by kernel_rfl
theorem sK114:Sound Tryz.prog 114 (.dat false Zt):=by
  apply YQ (hc:=cK114) h63 <;> first | exact (rfl:@Eq Spec _ _) | skip
  all_goals decide
def L64:List (Nat×Spec):=(114,.dat false Zt)::L63
theorem h64:Holds Tryz.prog (Gl L64):=za h63 sK114
theorem cK83:check Tryz.prog 83=some (16,(xo 114).strip,[.cell 4 6 true]):=by kernel_rfl
theorem sK83:Sound Tryz.prog 83 (.dat false Zq):=by
  apply yK (hc:=cK83) h64 <;> first | exact (rfl:@Eq Spec _ _) | skip
  all_goals decide
def L65:List (Nat×Spec):=(83,.dat false Zq)::L64
theorem h65:Holds Tryz.prog (Gl L65):=za h64 sK83
theorem cK70:check Tryz.prog 70=some (26,(xm 92 96 124).strip,[.cell 4 3 true]):=by kernel_rfl
theorem sK70:Sound Tryz.prog 70 (.dat false Wk):=by
  apply ZR (hc:=cK70) h65 <;> first | exact (rfl:@Eq Spec _ _) | skip
  all_goals decide
def L66:List (Nat×Spec):=(70,.dat false Wk)::L65
theorem h66:Holds Tryz.prog (Gl L66):=za h65 sK70
theorem cK85:check Tryz.prog 85=some (28,(Vq 70 114 107).strip,[.cell 4 6 true]):=by kernel_rfl
theorem sK85:Sound Tryz.prog 85 (.dat false uk):=by
  apply ZV (hc:=cK85) h66 <;> first | exact (rfl:@Eq Spec _ _) | skip
  all_goals decide
def L67:List (Nat×Spec):=(85,.dat false uk)::L66
theorem h67:Holds Tryz.prog (Gl L67):=za h66 sK85
theorem cK84:check Tryz.prog 84=some (16,(Wo 107).strip,[.cell 4 6 true]):=by kernel_rfl
theorem sK84:Sound Tryz.prog 84 (.dat false yq):=by
  apply XL (hc:=cK84) h67 <;> first | exact (rfl:@Eq Spec _ _) | skip
  all_goals decide
def L68:List (Nat×Spec):=(84,.dat false yq)::L67
theorem h68:Holds Tryz.prog (Gl L68):=za h67 sK84
theorem cK50:check Tryz.prog 50=some (14,(zl 52 83 85 84).strip,[.cell 2 6 true]):=by kernel_rfl
theorem sK50:Sound Tryz.prog 50 (.dat false Ws):=by
  apply vS (hc:=cK50) h68 <;> first | exact (rfl:@Eq Spec _ _) | skip
  all_goals decide
def L69:List (Nat×Spec):=(50,.dat false Ws)::L68
theorem h69:Holds Tryz.prog (Gl L69):=za h68 sK50
theorem cK16:check Tryz.prog 16=some (13,(Jl 26 50).strip,[.cell 2 6 true,.tmp 3]):=by kernel_rfl
theorem sK16:Sound Tryz.prog 16 (.dat false (VM 55)):=by
  apply zaT (hc:=cK16) h69 <;> first | exact (rfl:@Eq Spec _ _) | skip
  all_goals decide
def L70:List (Nat×Spec):=(16,.dat false (VM 55))::L69
theorem h70:Holds Tryz.prog (Gl L70):=za h69 sK16
theorem cK106:check Tryz.prog 106=some (14,(wh 70 107).strip,[.cell 2 3 true]):=by kernel_rfl
theorem sK106:Sound Tryz.prog 106 (.dat false yC):=by
  apply Vac (hc:=cK106) h70 <;> first | exact (rfl:@Eq Spec _ _) | skip
  all_goals decide
def L71:List (Nat×Spec):=(106,.dat false yC)::L70
theorem h71:Holds Tryz.prog (Gl L71):=za h70 sK106
theorem cK182:check Tryz.prog 182=some (14,(yp 112 124 55).strip,[.cell 4 3 true,.tmp 5]):=by kernel_rfl
theorem sK182:Sound Tryz.prog 182 (.dat false (js 55)):=by
  apply wab (hc:=cK182) h71 <;> first | exact (rfl:@Eq Spec _ _) | skip
  all_goals decide
def L72:List (Nat×Spec):=(182,.dat false (js 55))::L71
theorem h72:Holds Tryz.prog (Gl L72):=za h71 sK182
theorem cK148:check Tryz.prog 148=some (29,(zu 92 96 182).strip,[.cell 4 3 true,.tmp 5]):=by kernel_rfl
theorem sK148:Sound Tryz.prog 148 (.dat false (jy 55)):=by
  apply Vag (hc:=cK148) h72 <;> first | exact (rfl:@Eq Spec _ _) | skip
  all_goals decide
def L73:List (Nat×Spec):=(148,.dat false (jy 55))::L72
theorem h73:Holds Tryz.prog (Gl L73):=za h72 sK148
theorem cK105:check Tryz.prog 105=some (33,(Vh 106 148 116).strip,[.cell 2 6 true,.tmp 3]):=by kernel_rfl
theorem sK105:Sound Tryz.prog 105 (.dat false (QE 55)):=by
  apply xaF (hc:=cK105) h73 <;> first | exact (rfl:@Eq Spec _ _) | skip
  all_goals decide
def L74:List (Nat×Spec):=(105,.dat false (QE 55))::L73
theorem h74:Holds Tryz.prog (Gl L74):=za h73 sK105
theorem cK86:check Tryz.prog 86=some (6,(Qq 84).strip,[.cell 2 6 true]):=by kernel_rfl
theorem sK86:Sound Tryz.prog 86 (.dat false xB):=by
  apply YaE (hc:=cK86) h74 <;> first | exact (rfl:@Eq Spec _ _) | skip
  all_goals decide
def L75:List (Nat×Spec):=(86,.dat false xB)::L74
theorem h75:Holds Tryz.prog (Gl L75):=za h74 sK86
theorem cK51:check Tryz.prog 51=some (46,(jh 105 106 86 50 70).strip,[.cell 12 27 true,.tmp 13]):=by kernel_rfl
theorem sK51:Sound Tryz.prog 51 (.dat false (wB 55)):=by
  apply yaC (hc:=cK51) h75 <;> first | exact (rfl:@Eq Spec _ _) | skip
  all_goals decide
def L76:List (Nat×Spec):=(51,.dat false (wB 55))::L75
theorem h76:Holds Tryz.prog (Gl L76):=za h75 sK51
theorem cK17:check Tryz.prog 17=some (25,(Ql 26 52 51).strip,[.cell 2 27 true,.tmp 3]):=by kernel_rfl
theorem sK17:Sound Tryz.prog 17 (.dat false (vM 55)):=by
  apply ya3 (hc:=cK17) h76 <;> first | exact (rfl:@Eq Spec _ _) | skip
  all_goals decide
def L77:List (Nat×Spec):=(17,.dat false (vM 55))::L76
theorem h77:Holds Tryz.prog (Gl L77):=za h76 sK17
theorem cK71:check Tryz.prog 71=some (7,(Vo 125 94 124).strip,[.cell 2 3 true]):=by kernel_rfl
theorem sK71:Sound Tryz.prog 71 (.dat false yz):=by
  apply QY (hc:=cK71) h77 <;> first | exact (rfl:@Eq Spec _ _) | skip
  all_goals decide
def L78:List (Nat×Spec):=(71,.dat false yz)::L77
theorem h78:Holds Tryz.prog (Gl L78):=za h77 sK71
theorem cK190:check Tryz.prog 190=some (29,Up.strip,[.tmp 2]):=by kernel_rfl
theorem sK190:Sound Tryz.prog 190 (.dat true vk):=by
  apply zT (hc:=cK190) h78 <;> first | exact (rfl:@Eq Spec _ _) | skip
  all_goals decide
def L79:List (Nat×Spec):=(190,.dat true vk)::L78
theorem h79:Holds Tryz.prog (Gl L79):=za h78 sK190
theorem cK157:check Tryz.prog 157=some (8,ze.strip,[.tmp 2]):=by kernel_rfl
theorem sK157:Sound Tryz.prog 157 (.fresh 5 uo):=by
  apply Z3 (hc:=cK157) h79 <;> first | exact (rfl:@Eq Spec _ _) | skip
  all_goals decide
def L80:List (Nat×Spec):=(157,.fresh 5 uo)::L79
theorem h80:Holds Tryz.prog (Gl L80):=za h79 sK157
theorem cK219:check Tryz.prog 219=some (6,yv.strip,[.tmp 2]):=by kernel_rfl
theorem sK219:Sound Tryz.prog 219 (.dat true ZE):=by
  apply WaB (hc:=cK219) h80 <;> first | exact (rfl:@Eq Spec _ _) | skip
  all_goals decide
def L81:List (Nat×Spec):=(219,.dat true ZE)::L80
theorem h81:Holds Tryz.prog (Gl L81):=za h80 sK219
theorem cK209:check Tryz.prog 209=some (20,(Zg 219).strip,[.tmp 4]):=by kernel_rfl
theorem sK209:Sound Tryz.prog 209 (.dat true JE):=by
  apply qaB (hc:=cK209) h81 <;> first | exact (rfl:@Eq Spec _ _) | skip
  all_goals decide
def L82:List (Nat×Spec):=(209,.dat true JE)::L81
theorem h82:Holds Tryz.prog (Gl L82):=za h81 sK209
theorem cK208:check Tryz.prog 208=some (18,kC.strip,[.tmp 2]):=by kernel_rfl
theorem sK208:Sound Tryz.prog 208 (.dat true UT):=by
  apply QaL (hc:=cK208) h82 <;> first | exact (rfl:@Eq Spec _ _) | skip
  all_goals decide
def L83:List (Nat×Spec):=(208,.dat true UT)::L82
theorem h83:Holds Tryz.prog (Gl L83):=za h82 sK208
theorem cK193:check Tryz.prog 193=some (23,(Yt 209 208).strip,[.tmp 4]):=by kernel_rfl
theorem sK193:Sound Tryz.prog 193 (.dat true vx):=by
  apply QZ (hc:=cK193) h83 <;> first | exact (rfl:@Eq Spec _ _) | skip
  all_goals decide
def L84:List (Nat×Spec):=(193,.dat true vx)::L83
theorem h84:Holds Tryz.prog (Gl L84):=za h83 sK193
theorem cK217:check Tryz.prog 217=some (53,zc.strip,[]):=by kernel_rfl
theorem sK217:Sound Tryz.prog 217 (.own (ZF 193)):=by
  apply QaE (hc:=cK217) h84 <;> first | exact (rfl:@Eq Spec _ _) | skip
  all_goals decide
def L85:List (Nat×Spec):=(217,.own (ZF 193))::L84
theorem h85:Holds Tryz.prog (Gl L85):=za h84 sK217
theorem cK228:check Tryz.prog 228=some (38,xc.strip,[]):=by kernel_rfl
theorem sK228:Sound Tryz.prog 228 (.own (YB 193)):=by
  apply JaA (hc:=cK228) h85 <;> first | exact (rfl:@Eq Spec _ _) | skip
  all_goals decide
def L86:List (Nat×Spec):=(228,.own (YB 193))::L85
theorem h86:Holds Tryz.prog (Gl L86):=za h85 sK228
theorem cK225:check Tryz.prog 225=some (58,(ud 228).strip,[]):=by kernel_rfl
theorem sK225:Sound Tryz.prog 225 (.own (yE 193)):=by
  apply VaA (hc:=cK225) h86 <;> first | exact (rfl:@Eq Spec _ _) | skip
  all_goals decide
def L87:List (Nat×Spec):=(225,.own (yE 193))::L86
theorem h87:Holds Tryz.prog (Gl L87):=za h86 sK225
theorem cK218:check Tryz.prog 218=some (220,(qb 225 218).strip,[]):=by kernel_rfl
theorem sK218:Sound Tryz.prog 218 (.own (xi 193 10000)):=by
  apply WT (hc:=cK218) h87 <;> first | exact (rfl:@Eq Spec _ _) | skip
  all_goals decide
def L88:List (Nat×Spec):=(218,.own (xi 193 10000))::L87
theorem h88:Holds Tryz.prog (Gl L88):=za h87 sK218
theorem cK207:check Tryz.prog 207=some (63,(Xd 217 218).strip,[]):=by kernel_rfl
theorem sK207:Sound Tryz.prog 207 (.own (uz 193 10000)):=by
  apply Qag (hc:=cK207) h88 <;> first | exact (rfl:@Eq Spec _ _) | skip
  all_goals decide
def L89:List (Nat×Spec):=(207,.own (uz 193 10000))::L88
theorem h89:Holds Tryz.prog (Gl L89):=za h88 sK207
theorem cK192:check Tryz.prog 192=some (9,(kd 207).strip,[]):=by kernel_rfl
theorem sK192:Sound Tryz.prog 192 (.own (jv 193 10000)):=by
  apply uaf (hc:=cK192) h89 <;> first | exact (rfl:@Eq Spec _ _) | skip
  all_goals decide
def L90:List (Nat×Spec):=(192,.own (jv 193 10000))::L89
theorem h90:Holds Tryz.prog (Gl L90):=za h89 sK192
theorem cK195:check Tryz.prog 195=some (7,(Xs 65).strip,[.tmp 2]):=by kernel_rfl
theorem sK195:Sound Tryz.prog 195 (.dat true kB):=by
  apply VaF (hc:=cK195) h90 <;> first | exact (rfl:@Eq Spec _ _) | skip
  all_goals decide
def L91:List (Nat×Spec):=(195,.dat true kB)::L90
theorem h91:Holds Tryz.prog (Gl L91):=za h90 sK195
theorem cK210:check Tryz.prog 210=some (19,xg.strip,[.tmp 4]):=by kernel_rfl
theorem sK210:Sound Tryz.prog 210 (.dat true (ZD 195)):=by
  apply UaE (hc:=cK210) h91 <;> first | exact (rfl:@Eq Spec _ _) | skip
  all_goals decide
def L92:List (Nat×Spec):=(210,.dat true (ZD 195))::L91
theorem h92:Holds Tryz.prog (Gl L92):=za h91 sK210
theorem cK194:check Tryz.prog 194=some (42,(Zc 210).strip,[.tmp 4]):=by kernel_rfl
theorem sK194:Sound Tryz.prog 194 (.own (YD 195)):=by
  apply YaA (hc:=cK194) h92 <;> first | exact (rfl:@Eq Spec _ _) | skip
  all_goals decide
def L93:List (Nat×Spec):=(194,.own (YD 195))::L92
theorem h93:Holds Tryz.prog (Gl L93):=za h92 sK194
theorem cK156:check Tryz.prog 156=some (60,(Xy 157 192 193 107 194 195).strip,[.tmp 2]):=by kernel_rfl
theorem sK156:Sound Tryz.prog 156 (.dat false (Qx 10000)):=by
  apply xaE (hc:=cK156) h93 <;> first | exact (rfl:@Eq Spec _ _) | skip
  all_goals decide
def L94:List (Nat×Spec):=(156,.dat false (Qx 10000))::L93
theorem h94:Holds Tryz.prog (Gl L94):=za h93 sK156
theorem cK152:check Tryz.prog 152=some (28,(Uo 190 64 156 55).strip,[.tmp 2,.tmp 3]):=by kernel_rfl
theorem sK152:Sound Tryz.prog 152 (.dat false (Qw 55)):=by
  apply qag (hc:=cK152) h94 <;> first | exact (rfl:@Eq Spec _ _) | skip
  all_goals decide
def L95:List (Nat×Spec):=(152,.dat false (Qw 55))::L94
theorem h95:Holds Tryz.prog (Gl L95):=za h94 sK152
theorem cK120:check Tryz.prog 120=some (17,qf.strip,[.tmp 6]):=by kernel_rfl
theorem sK120:Sound Tryz.prog 120 (.red qn):=by
  apply Yaj (hc:=cK120) h95 <;> first | exact (rfl:@Eq Spec _ _) | skip
  all_goals decide
def L96:List (Nat×Spec):=(120,.red qn)::L95
theorem h96:Holds Tryz.prog (Gl L96):=za h95 sK120
theorem cK113:check Tryz.prog 113=some (23,(Jc 71 116 152 120).strip,[.tmp 6]):=by kernel_rfl
theorem sK113:Sound Tryz.prog 113 (.red QF):=by
  apply waA (hc:=cK113) h96 <;> first | exact (rfl:@Eq Spec _ _) | skip
  all_goals decide
def L97:List (Nat×Spec):=(113,.red QF)::L96
theorem h97:Holds Tryz.prog (Gl L97):=za h96 sK113
theorem cK160:check Tryz.prog 160=some (48,(jm 190 64 65 193 55).strip,[.tmp 2]):=by kernel_rfl
theorem sK160:Sound Tryz.prog 160 (.dat false (zp 55)):=by
  apply wac (hc:=cK160) h97 <;> first | exact (rfl:@Eq Spec _ _) | skip
  all_goals decide
def L98:List (Nat×Spec):=(160,.dat false (zp 55))::L97
theorem h98:Holds Tryz.prog (Gl L98):=za h97 sK160
theorem cK158:check Tryz.prog 158=some (28,(Xt 70).strip,[.tmp 4]):=by kernel_rfl
theorem sK158:Sound Tryz.prog 158 (.dat false VB):=by
  apply uaE (hc:=cK158) h98 <;> first | exact (rfl:@Eq Spec _ _) | skip
  all_goals decide
def L99:List (Nat×Spec):=(158,.dat false VB)::L98
theorem h99:Holds Tryz.prog (Gl L99):=za h98 sK158
theorem cK123:check Tryz.prog 123=some (16,(Jn 160 158 156).strip,[.tmp 4,.tmp 5]):=by kernel_rfl
theorem sK123:Sound Tryz.prog 123 (.dat false (xq 55)):=by
  apply kY (hc:=cK123) h99 <;> first | exact (rfl:@Eq Spec _ _) | skip
  all_goals decide
def L100:List (Nat×Spec):=(123,.dat false (xq 55))::L99
theorem h100:Holds Tryz.prog (Gl L100):=za h99 sK123
theorem cK69:check Tryz.prog 69=some (14,(we 123 120).strip,[.tmp 6]):=by kernel_rfl
theorem sK69:Sound Tryz.prog 69 (.red Yo):=by
  apply xZ (hc:=cK69) h100 <;> first | exact (rfl:@Eq Spec _ _) | skip
  all_goals decide
def L101:List (Nat×Spec):=(69,.red Yo)::L100
theorem h101:Holds Tryz.prog (Gl L101):=za h100 sK69
theorem cK155:check Tryz.prog 155=some (18,(qq 160).strip,[.tmp 2]):=by kernel_rfl
theorem sK155:Sound Tryz.prog 155 (.dat false (Zi 55)):=by
  apply xW (hc:=cK155) h101 <;> first | exact (rfl:@Eq Spec _ _) | skip
  all_goals decide
def L102:List (Nat×Spec):=(155,.dat false (Zi 55))::L101
theorem h102:Holds Tryz.prog (Gl L102):=za h101 sK155
theorem cK121:check Tryz.prog 121=some (21,(qs 155 157 71 158 156).strip,[.tmp 4,.tmp 5]):=by kernel_rfl
theorem sK121:Sound Tryz.prog 121 (.dat false (zE 55)):=by
  apply uaA (hc:=cK121) h102 <;> first | exact (rfl:@Eq Spec _ _) | skip
  all_goals decide
def L103:List (Nat×Spec):=(121,.dat false (zE 55))::L102
theorem h103:Holds Tryz.prog (Gl L103):=za h102 sK121
theorem cK67:check Tryz.prog 67=some (14,(vf 121 120).strip,[.tmp 6]):=by kernel_rfl
theorem sK67:Sound Tryz.prog 67 (.red Xz):=by
  apply qaD (hc:=cK67) h103 <;> first | exact (rfl:@Eq Spec _ _) | skip
  all_goals decide
def L104:List (Nat×Spec):=(67,.red Xz)::L103
theorem h104:Holds Tryz.prog (Gl L104):=za h103 sK67
theorem cK206:check Tryz.prog 206=some (27,qo.strip,[.tmp 4]):=by kernel_rfl
theorem sK206:Sound Tryz.prog 206 (.fresh 5 Jz):=by
  apply Jah (hc:=cK206) h104 <;> first | exact (rfl:@Eq Spec _ _) | skip
  all_goals decide
def L105:List (Nat×Spec):=(206,.fresh 5 Jz)::L104
theorem h105:Holds Tryz.prog (Gl L105):=za h104 sK206
theorem cK191:check Tryz.prog 191=some (36,(ul 206).strip,[.tmp 2]):=by kernel_rfl
theorem sK191:Sound Tryz.prog 191 (.fresh 5 vy):=by
  apply qaj (hc:=cK191) h105 <;> first | exact (rfl:@Eq Spec _ _) | skip
  all_goals decide
def L106:List (Nat×Spec):=(191,.fresh 5 vy)::L105
theorem h106:Holds Tryz.prog (Gl L106):=za h105 sK191
theorem cK154:check Tryz.prog 154=some (19,(Xq 155 191 156).strip,[.tmp 4,.tmp 5]):=by kernel_rfl
theorem sK154:Sound Tryz.prog 154 (.dat false (XD 55)):=by
  apply WaC (hc:=cK154) h106 <;> first | exact (rfl:@Eq Spec _ _) | skip
  all_goals decide
def L107:List (Nat×Spec):=(154,.dat false (XD 55))::L106
theorem h107:Holds Tryz.prog (Gl L107):=za h106 sK154
theorem cK118:check Tryz.prog 118=some (14,(Qf 154 120).strip,[.tmp 6]):=by kernel_rfl
theorem sK118:Sound Tryz.prog 118 (.red xz):=by
  apply uaF (hc:=cK118) h107 <;> first | exact (rfl:@Eq Spec _ _) | skip
  all_goals decide
def L108:List (Nat×Spec):=(118,.red xz)::L107
theorem h108:Holds Tryz.prog (Gl L108):=za h107 sK118
theorem cK115:check Tryz.prog 115=some (34,(ve 69 67 118).strip,[.cell 8 2 true]):=by kernel_rfl
theorem sK115:Sound Tryz.prog 115 (.red qE):=by
  apply QaF (hc:=cK115) h108 <;> first | exact (rfl:@Eq Spec _ _) | skip
  all_goals decide
def L109:List (Nat×Spec):=(115,.red qE)::L108
theorem h109:Holds Tryz.prog (Gl L109):=za h108 sK115
theorem cK117:check Tryz.prog 117=some (12,(Qo 70 107).strip,[.cell 4 3 true]):=by kernel_rfl
theorem sK117:Sound Tryz.prog 117 (.dat false VE):=by
  apply WaD (hc:=cK117) h109 <;> first | exact (rfl:@Eq Spec _ _) | skip
  all_goals decide
def L110:List (Nat×Spec):=(117,.dat false VE)::L109
theorem h110:Holds Tryz.prog (Gl L110):=za h109 sK117
theorem cK159:check Tryz.prog 159=some (21,Yk.strip,[.tmp 2]):=by kernel_rfl
theorem sK159:Sound Tryz.prog 159 (.dat true xC):=by
  apply XaD (hc:=cK159) h110 <;> first | exact (rfl:@Eq Spec _ _) | skip
  all_goals decide
def L111:List (Nat×Spec):=(159,.dat true xC)::L110
theorem h111:Holds Tryz.prog (Gl L111):=za h110 sK159
theorem cK122:check Tryz.prog 122=some (71,(vn 155 159 70 156 55).strip,[.tmp 4,.tmp 5]):=by kernel_rfl
theorem sK122:Sound Tryz.prog 122 (.dat false (zD 55)):=by
  apply kaC (hc:=cK122) h111 <;> first | exact (rfl:@Eq Spec _ _) | skip
  all_goals decide
def L112:List (Nat×Spec):=(122,.dat false (zD 55))::L111
theorem h112:Holds Tryz.prog (Gl L112):=za h111 sK122
theorem cK68:check Tryz.prog 68=some (14,(jf 122 120).strip,[.tmp 6]):=by kernel_rfl
theorem sK68:Sound Tryz.prog 68 (.red Uz):=by
  apply vaD (hc:=cK68) h112 <;> first | exact (rfl:@Eq Spec _ _) | skip
  all_goals decide
def L113:List (Nat×Spec):=(68,.red Uz)::L112
theorem h113:Holds Tryz.prog (Gl L113):=za h112 sK68
theorem cK72:check Tryz.prog 72=some (19,(Ue 68 118).strip,[.tmp 4]):=by kernel_rfl
theorem sK72:Sound Tryz.prog 72 (.red yB):=by
  apply ZaE (hc:=cK72) h113 <;> first | exact (rfl:@Eq Spec _ _) | skip
  all_goals decide
def L114:List (Nat×Spec):=(72,.red yB)::L113
theorem h114:Holds Tryz.prog (Gl L114):=za h113 sK72
theorem cK119:check Tryz.prog 119=some (13,(vd 152 120).strip,[.tmp 4]):=by kernel_rfl
theorem sK119:Sound Tryz.prog 119 (.red jD):=by
  apply qaF (hc:=cK119) h114 <;> first | exact (rfl:@Eq Spec _ _) | skip
  all_goals decide
def L115:List (Nat×Spec):=(119,.red jD)::L114
theorem h115:Holds Tryz.prog (Gl L115):=za h114 sK119
theorem cK66:check Tryz.prog 66=some (111,(Ve 113 71 114 116 115 117 70 72 119 118 67 68).strip,[.cell 4 7 true]):=by kernel_rfl
theorem sK66:Sound Tryz.prog 66 (.red QD):=by
  apply uaD (hc:=cK66) h115 <;> first | exact (rfl:@Eq Spec _ _) | skip
  all_goals decide
def L116:List (Nat×Spec):=(66,.red QD)::L115
theorem h116:Holds Tryz.prog (Gl L116):=za h115 sK66
theorem cK27:check Tryz.prog 27=some (78,(wl 26 66 68 67 71 70 69 72).strip,[.tmp 2,.tmp 3]):=by kernel_rfl
theorem sK27:Sound Tryz.prog 27 (.dat false (vD 55)):=by
  apply yaD (hc:=cK27) h116 <;> first | exact (rfl:@Eq Spec _ _) | skip
  all_goals decide
def L117:List (Nat×Spec):=(27,.dat false (vD 55))::L116
theorem h117:Holds Tryz.prog (Gl L117):=za h116 sK27
theorem cK12:check Tryz.prog 12=some (75,(Xh 27 46).strip,[.tmp 4,.tmp 5]):=by kernel_rfl
theorem sK12:Sound Tryz.prog 12 (.dat false (xE 55)):=by
  apply waD (hc:=cK12) h117 <;> first | exact (rfl:@Eq Spec _ _) | skip
  all_goals decide
def L118:List (Nat×Spec):=(12,.dat false (xE 55))::L117
theorem h118:Holds Tryz.prog (Gl L118):=za h117 sK12
theorem cK211:check Tryz.prog 211=some (15,vb.strip,[.tmp 2]):=by kernel_rfl
theorem sK211:Sound Tryz.prog 211 (.dat false jr):=by
  apply qac (hc:=cK211) h118 <;> first | exact (rfl:@Eq Spec _ _) | skip
  all_goals decide
def L119:List (Nat×Spec):=(211,.dat false jr)::L118
theorem h119:Holds Tryz.prog (Gl L119):=za h118 sK211
theorem cK198:check Tryz.prog 198=some (54,(uc 211 212 213 214).strip,[.tmp 4]):=by kernel_rfl
theorem sK198:Sound Tryz.prog 198 (.dat false xy):=by
  apply jae (hc:=cK198) h119 <;> first | exact (rfl:@Eq Spec _ _) | skip
  all_goals decide
def L120:List (Nat×Spec):=(198,.dat false xy)::L119
theorem h120:Holds Tryz.prog (Gl L120):=za h119 sK198
theorem cK170:check Tryz.prog 170=some (5,(Ye 198).strip,[.tmp 2]):=by kernel_rfl
theorem sK170:Sound Tryz.prog 170 (.dat false xn):=by
  apply jah (hc:=cK170) h120 <;> first | exact (rfl:@Eq Spec _ _) | skip
  all_goals decide
def L121:List (Nat×Spec):=(170,.dat false xn)::L120
theorem h121:Holds Tryz.prog (Gl L121):=za h120 sK170
theorem cK138:check Tryz.prog 138=some (5,(Qu 170).strip,[.tmp 2]):=by kernel_rfl
theorem sK138:Sound Tryz.prog 138 (.dat false xn):=by
  apply Z4 (hc:=cK138) h121 <;> first | exact (rfl:@Eq Spec _ _) | skip
  all_goals decide
def L122:List (Nat×Spec):=(138,.dat false xn)::L121
theorem h122:Holds Tryz.prog (Gl L122):=za h121 sK138
theorem cK140:check Tryz.prog 140=some (75,(Qt 173 174 176).strip,[.tmp 4]):=by kernel_rfl
theorem sK140:Sound Tryz.prog 140 (.dat false Zz):=by
  apply Uak (hc:=cK140) h122 <;> first | exact (rfl:@Eq Spec _ _) | skip
  all_goals decide
def L123:List (Nat×Spec):=(140,.dat false Zz)::L122
theorem h123:Holds Tryz.prog (Gl L123):=za h122 sK140
theorem cK95:check Tryz.prog 95=some (44,(qu 135 137 138 139 140 136).strip,[.tmp 2]):=by kernel_rfl
theorem sK95:Sound Tryz.prog 95 (.dat false Vs):=by
  apply Jab (hc:=cK95) h123 <;> first | exact (rfl:@Eq Spec _ _) | skip
  all_goals decide
def L124:List (Nat×Spec):=(95,.dat false Vs)::L123
theorem h124:Holds Tryz.prog (Gl L124):=za h123 sK95
theorem cK45:check Tryz.prog 45=some (22,(yl 92 94 93 95).strip,[.tmp 2]):=by kernel_rfl
theorem sK45:Sound Tryz.prog 45 (.dat false Jr):=by
  apply xab (hc:=cK45) h124 <;> first | exact (rfl:@Eq Spec _ _) | skip
  all_goals decide
def L125:List (Nat×Spec):=(45,.dat false Jr)::L124
theorem h125:Holds Tryz.prog (Gl L125):=za h124 sK45
theorem cK10:check Tryz.prog 10=some (60,(ug 44 16 17 12 45).strip,[.tmp 0]):=by kernel_rfl
theorem sK10:Sound Tryz.prog 10 (.dat true Qz):=by
  apply yaj (hc:=cK10) h125 <;> first | exact (rfl:@Eq Spec _ _) | skip
  all_goals decide
def L126:List (Nat×Spec):=(10,.dat true Qz)::L125
theorem h126:Holds Tryz.prog (Gl L126):=za h125 sK10
theorem cK11:check Tryz.prog 11=some (44,vg.strip,[.tmp 2]):=by kernel_rfl
theorem sK11:Sound Tryz.prog 11 (.dat true yD):=by
  apply vaF (hc:=cK11) h126 <;> first | exact (rfl:@Eq Spec _ _) | skip
  all_goals decide
def L127:List (Nat×Spec):=(11,.dat true yD)::L126
theorem h127:Holds Tryz.prog (Gl L127):=za h126 sK11
theorem cK53:check Tryz.prog 53=some (8,(qe 71 52 83).strip,[.cell 2 6 true]):=by kernel_rfl
theorem sK53:Sound Tryz.prog 53 (.dat false yu):=by
  apply jR (hc:=cK53) h127 <;> first | exact (rfl:@Eq Spec _ _) | skip
  all_goals decide
def L128:List (Nat×Spec):=(53,.dat false yu)::L127
theorem h128:Holds Tryz.prog (Gl L128):=za h127 sK53
theorem cK18:check Tryz.prog 18=some (25,(Zj 26 53 51).strip,[.cell 2 27 true,.tmp 3]):=by kernel_rfl
theorem sK18:Sound Tryz.prog 18 (.dat false (xX 55)):=by
  apply Ya0 (hc:=cK18) h128 <;> first | exact (rfl:@Eq Spec _ _) | skip
  all_goals decide
def L129:List (Nat×Spec):=(18,.dat false (xX 55))::L128
theorem h129:Holds Tryz.prog (Gl L129):=za h128 sK18
theorem cK54:check Tryz.prog 54=some (32,(Un 86 107).strip,[.cell 2 27 true]):=by kernel_rfl
theorem sK54:Sound Tryz.prog 54 (.dat false Xx):=by
  apply xaj (hc:=cK54) h129 <;> first | exact (rfl:@Eq Spec _ _) | skip
  all_goals decide
def L130:List (Nat×Spec):=(54,.dat false Xx)::L129
theorem h130:Holds Tryz.prog (Gl L130):=za h129 sK54
theorem cK19:check Tryz.prog 19=some (36,(Vm 26 54 53).strip,[.cell 2 27 true,.tmp 3]):=by kernel_rfl
theorem sK19:Sound Tryz.prog 19 (.dat false (zY 55)):=by
  apply ZaS (hc:=cK19) h130 <;> first | exact (rfl:@Eq Spec _ _) | skip
  all_goals decide
def L131:List (Nat×Spec):=(19,.dat false (zY 55))::L130
theorem h131:Holds Tryz.prog (Gl L131):=za h130 sK19
theorem cK97:check Tryz.prog 97=some (15,Wg.strip,[.tmp 2]):=by kernel_rfl
theorem sK97:Sound Tryz.prog 97 (.dat true Uq):=by
  apply XM (hc:=cK97) h131 <;> first | exact (rfl:@Eq Spec _ _) | skip
  all_goals decide
def L132:List (Nat×Spec):=(97,.dat true Uq)::L131
theorem h132:Holds Tryz.prog (Gl L132):=za h131 sK97
theorem cK131:check Tryz.prog 131=some (38,(Wj 126 127 164 130 167 165).strip,[.cell 4 2 true]):=by kernel_rfl
theorem sK131:Sound Tryz.prog 131 (.dat false Vx):=by
  apply zZ (hc:=cK131) h132 <;> first | exact (rfl:@Eq Spec _ _) | skip
  all_goals decide
def L133:List (Nat×Spec):=(131,.dat false Vx)::L132
theorem h133:Holds Tryz.prog (Gl L133):=za h132 sK131
theorem cK143:check Tryz.prog 143=some (9,(wj 128 131).strip,[.cell 4 2 true]):=by kernel_rfl
theorem sK143:Sound Tryz.prog 143 (.dat false VD):=by
  apply kad (hc:=cK143) h133 <;> first | exact (rfl:@Eq Spec _ _) | skip
  all_goals decide
def L134:List (Nat×Spec):=(143,.dat false VD)::L133
theorem h134:Holds Tryz.prog (Gl L134):=za h133 sK143
theorem cK98:check Tryz.prog 98=some (9,(qk 143 78).strip,[.tmp 4]):=by kernel_rfl
theorem sK98:Sound Tryz.prog 98 (.dat true yr):=by
  apply Yad (hc:=cK98) h134 <;> first | exact (rfl:@Eq Spec _ _) | skip
  all_goals decide
def L135:List (Nat×Spec):=(98,.dat true yr)::L134
theorem h135:Holds Tryz.prog (Gl L135):=za h134 sK98
theorem cK47:check Tryz.prog 47=some (36,(kg 97 99 82 98).strip,[.tmp 2]):=by kernel_rfl
theorem sK47:Sound Tryz.prog 47 (.dat true yd):=by
  apply xM (hc:=cK47) h135 <;> first | exact (rfl:@Eq Spec _ _) | skip
  all_goals decide
def L136:List (Nat×Spec):=(47,.dat true yd)::L135
theorem h136:Holds Tryz.prog (Gl L136):=za h135 sK47
theorem cK38:check Tryz.prog 38=some (11,(qg 47).strip,[.tmp 2]):=by kernel_rfl
theorem sK38:Sound Tryz.prog 38 (.dat true jl):=by
  apply XG (hc:=cK38) h136 <;> first | exact (rfl:@Eq Spec _ _) | skip
  all_goals decide
def L137:List (Nat×Spec):=(38,.dat true jl)::L136
theorem h137:Holds Tryz.prog (Gl L137):=za h136 sK38
theorem cK77:check Tryz.prog 77=some (23,(zh 47 82).strip,[.cell 2 2 true,.cell 3 2 true]):=by kernel_rfl
theorem sK77:Sound Tryz.prog 77 (.dat false jd):=by
  apply WM (hc:=cK77) h137 <;> first | exact (rfl:@Eq Spec _ _) | skip
  all_goals decide
def L138:List (Nat×Spec):=(77,.dat false jd)::L137
theorem h138:Holds Tryz.prog (Gl L138):=za h137 sK77
theorem cK31:check Tryz.prog 31=some (12,(Zl 77 78).strip,[.tmp 2]):=by kernel_rfl
theorem sK31:Sound Tryz.prog 31 (.dat true yj):=by
  apply JI (hc:=cK31) h138 <;> first | exact (rfl:@Eq Spec _ _) | skip
  all_goals decide
def L139:List (Nat×Spec):=(31,.dat true yj)::L138
theorem h139:Holds Tryz.prog (Gl L139):=za h138 sK31
theorem cK104:check Tryz.prog 104=some (14,(vm 77 128 80).strip,[.cell 2 3 true]):=by kernel_rfl
theorem sK104:Sound Tryz.prog 104 (.dat false Vu):=by
  apply UM (hc:=cK104) h139 <;> first | exact (rfl:@Eq Spec _ _) | skip
  all_goals decide
def L140:List (Nat×Spec):=(104,.dat false Vu)::L139
theorem h140:Holds Tryz.prog (Gl L140):=za h139 sK104
theorem cK168:check Tryz.prog 168=some (68,(Yg 166).strip,[.tmp 4]):=by kernel_rfl
theorem sK168:Sound Tryz.prog 168 (.dat false xp):=by
  apply QW (hc:=cK168) h140 <;> first | exact (rfl:@Eq Spec _ _) | skip
  all_goals decide
def L141:List (Nat×Spec):=(168,.dat false xp)::L140
theorem h141:Holds Tryz.prog (Gl L141):=za h140 sK168
theorem cK132:check Tryz.prog 132=some (16,(Jo 127 126 168 130).strip,[.cell 4 2 true]):=by kernel_rfl
theorem sK132:Sound Tryz.prog 132 (.dat false ut):=by
  apply xR (hc:=cK132) h141 <;> first | exact (rfl:@Eq Spec _ _) | skip
  all_goals decide
def L142:List (Nat×Spec):=(132,.dat false ut)::L141
theorem h142:Holds Tryz.prog (Gl L142):=za h141 sK132
theorem cK87:check Tryz.prog 87=some (30,(Wm 77 132 131 80).strip,[.cell 4 3 true]):=by kernel_rfl
theorem sK87:Sound Tryz.prog 87 (.dat false kn):=by
  apply wP (hc:=cK87) h142 <;> first | exact (rfl:@Eq Spec _ _) | skip
  all_goals decide
def L143:List (Nat×Spec):=(87,.dat false kn)::L142
theorem h143:Holds Tryz.prog (Gl L143):=za h142 sK87
theorem cK79:check Tryz.prog 79=some (9,(Um 104 87).strip,[.cell 4 3 true]):=by kernel_rfl
theorem sK79:Sound Tryz.prog 79 (.dat false Zt):=by
  apply YQ (hc:=cK79) h143 <;> first | exact (rfl:@Eq Spec _ _) | skip
  all_goals decide
def L144:List (Nat×Spec):=(79,.dat false Zt)::L143
theorem h144:Holds Tryz.prog (Gl L144):=za h143 sK79
theorem cK32:check Tryz.prog 32=some (9,(uj 79 31).strip,[.tmp 4]):=by kernel_rfl
theorem sK32:Sound Tryz.prog 32 (.dat true qh):=by
  apply vaa (hc:=cK32) h144 <;> first | exact (rfl:@Eq Spec _ _) | skip
  all_goals decide
def L145:List (Nat×Spec):=(32,.dat true qh)::L144
theorem h145:Holds Tryz.prog (Gl L145):=za h144 sK32
theorem cK48:check Tryz.prog 48=some (19,(Xk 32).strip,[.tmp 4]):=by kernel_rfl
theorem sK48:Sound Tryz.prog 48 (.dat true qz):=by
  apply zaf (hc:=cK48) h145 <;> first | exact (rfl:@Eq Spec _ _) | skip
  all_goals decide
def L146:List (Nat×Spec):=(48,.dat true qz)::L145
theorem h146:Holds Tryz.prog (Gl L146):=za h145 sK48
theorem cK13:check Tryz.prog 13=some (56,(Xg 47 38 31 48).strip,[.tmp 2]):=by kernel_rfl
theorem sK13:Sound Tryz.prog 13 (.dat true uE):=by
  apply yaF (hc:=cK13) h146 <;> first | exact (rfl:@Eq Spec _ _) | skip
  all_goals decide
def L147:List (Nat×Spec):=(13,.dat true uE)::L146
theorem h147:Holds Tryz.prog (Gl L147):=za h146 sK13
theorem cK14:check Tryz.prog 14=some (15,(Vf 55).strip,[.tmp 2]):=by kernel_rfl
theorem sK14:Sound Tryz.prog 14 (.dat true (jF 55)):=by
  apply YaD (hc:=cK14) h147 <;> first | exact (rfl:@Eq Spec _ _) | skip
  all_goals decide
def L148:List (Nat×Spec):=(14,.dat true (jF 55))::L147
theorem h148:Holds Tryz.prog (Gl L148):=za h147 sK14
theorem cK108:check Tryz.prog 108=some (26,Vi.strip,[.tmp 4]):=by kernel_rfl
theorem sK108:Sound Tryz.prog 108 (.dat true Yr):=by
  apply Wac (hc:=cK108) h148 <;> first | exact (rfl:@Eq Spec _ _) | skip
  all_goals decide
def L149:List (Nat×Spec):=(108,.dat true Yr)::L148
theorem h149:Holds Tryz.prog (Gl L149):=za h148 sK108
theorem cK55:check Tryz.prog 55=some (24,(Yl 108).strip,[.tmp 4]):=by kernel_rfl
theorem sK55:Sound Tryz.prog 55 (.dat true JB):=by
  apply VaD (hc:=cK55) h149 <;> first | exact (rfl:@Eq Spec _ _) | skip
  all_goals decide
def L150:List (Nat×Spec):=(55,.dat true JB)::L149
theorem h150:Holds Tryz.prog (Gl L150):=za h149 sK55
theorem cK20:check Tryz.prog 20=some (17,(Ud 55).strip,[.tmp 4]):=by kernel_rfl
theorem sK20:Sound Tryz.prog 20 (.dat true kw):=by
  apply uak (hc:=cK20) h150 <;> first | exact (rfl:@Eq Spec _ _) | skip
  all_goals decide
def L151:List (Nat×Spec):=(20,.dat true kw)::L150
theorem h151:Holds Tryz.prog (Gl L151):=za h150 sK20
theorem cK56:check Tryz.prog 56=some (27,(Uj 55).strip,[.tmp 4]):=by kernel_rfl
theorem sK56:Sound Tryz.prog 56 (.dat true uy):=by
  apply kah (hc:=cK56) h151 <;> first | exact (rfl:@Eq Spec _ _) | skip
  all_goals decide
def L152:List (Nat×Spec):=(56,.dat true uy)::L151
theorem h152:Holds Tryz.prog (Gl L152):=za h151 sK56
theorem cK21:check Tryz.prog 21=some (42,(vc 20 56).strip,[.tmp 4]):=by kernel_rfl
theorem sK21:Sound Tryz.prog 21 (.dat true Qs):=by
  apply vac (hc:=cK21) h152 <;> first | exact (rfl:@Eq Spec _ _) | skip
  all_goals decide
def L153:List (Nat×Spec):=(21,.dat true Qs)::L152
theorem h153:Holds Tryz.prog (Gl L153):=za h152 sK21
theorem cK57:check Tryz.prog 57=some (8,Zh.strip,[.cell 2 6 true]):=by kernel_rfl
theorem sK57:Sound Tryz.prog 57 (.dat false kD):=by
  apply zae (hc:=cK57) h153 <;> first | exact (rfl:@Eq Spec _ _) | skip
  all_goals decide
def L154:List (Nat×Spec):=(57,.dat false kD)::L153
theorem h154:Holds Tryz.prog (Gl L154):=za h153 sK57
theorem cK88:check Tryz.prog 88=some (26,(xm 77 132 80).strip,[.cell 4 3 true]):=by kernel_rfl
theorem sK88:Sound Tryz.prog 88 (.dat false Wk):=by
  apply ZR (hc:=cK88) h154 <;> first | exact (rfl:@Eq Spec _ _) | skip
  all_goals decide
def L155:List (Nat×Spec):=(88,.dat false Wk)::L154
theorem h155:Holds Tryz.prog (Gl L155):=za h154 sK88
theorem cK41:check Tryz.prog 41=some (14,(wh 88 87).strip,[.cell 2 3 true]):=by kernel_rfl
theorem sK41:Sound Tryz.prog 41 (.dat false yC):=by
  apply Vac (hc:=cK41) h155 <;> first | exact (rfl:@Eq Spec _ _) | skip
  all_goals decide
def L156:List (Nat×Spec):=(41,.dat false yC)::L155
theorem h156:Holds Tryz.prog (Gl L156):=za h155 sK41
theorem cK58:check Tryz.prog 58=some (6,(Xi 31).strip,[.tmp 2]):=by kernel_rfl
theorem sK58:Sound Tryz.prog 58 (.dat true Yv):=by
  apply Zaj (hc:=cK58) h156 <;> first | exact (rfl:@Eq Spec _ _) | skip
  all_goals decide
def L157:List (Nat×Spec):=(58,.dat true Yv)::L156
theorem h157:Holds Tryz.prog (Gl L157):=za h156 sK58
theorem cK42:check Tryz.prog 42=some (16,(xo 79).strip,[.cell 4 6 true]):=by kernel_rfl
theorem sK42:Sound Tryz.prog 42 (.dat false Zq):=by
  apply yK (hc:=cK42) h157 <;> first | exact (rfl:@Eq Spec _ _) | skip
  all_goals decide
def L158:List (Nat×Spec):=(42,.dat false Zq)::L157
theorem h158:Holds Tryz.prog (Gl L158):=za h157 sK42
theorem cK62:check Tryz.prog 62=some (28,(jg 88 79 87).strip,[.cell 4 6 true]):=by kernel_rfl
theorem sK62:Sound Tryz.prog 62 (.dat false uk):=by
  apply W7 (hc:=cK62) h158 <;> first | exact (rfl:@Eq Spec _ _) | skip
  all_goals decide
def L159:List (Nat×Spec):=(62,.dat false uk)::L158
theorem h159:Holds Tryz.prog (Gl L159):=za h158 sK62
theorem cK61:check Tryz.prog 61=some (16,(Wo 87).strip,[.cell 4 6 true]):=by kernel_rfl
theorem sK61:Sound Tryz.prog 61 (.dat false yq):=by
  apply XL (hc:=cK61) h159 <;> first | exact (rfl:@Eq Spec _ _) | skip
  all_goals decide
def L160:List (Nat×Spec):=(61,.dat false yq)::L159
theorem h160:Holds Tryz.prog (Gl L160):=za h159 sK61
theorem cK24:check Tryz.prog 24=some (14,(zl 57 42 62 61).strip,[.cell 2 6 true]):=by kernel_rfl
theorem sK24:Sound Tryz.prog 24 (.dat false Ws):=by
  apply vS (hc:=cK24) h160 <;> first | exact (rfl:@Eq Spec _ _) | skip
  all_goals decide
def L161:List (Nat×Spec):=(24,.dat false Ws)::L160
theorem h161:Holds Tryz.prog (Gl L161):=za h160 sK24
theorem cK150:check Tryz.prog 150=some (29,(Xj 77 132 133).strip,[.cell 4 3 true,.tmp 5]):=by kernel_rfl
theorem sK150:Sound Tryz.prog 150 (.dat false Jy):=by
  apply zai (hc:=cK150) h161 <;> first | exact (rfl:@Eq Spec _ _) | skip
  all_goals decide
def L162:List (Nat×Spec):=(150,.dat false Jy)::L161
theorem h162:Holds Tryz.prog (Gl L162):=za h161 sK150
theorem cK146:check Tryz.prog 146=some (9,(xj 104).strip,[.cell 2 6 true]):=by kernel_rfl
theorem sK146:Sound Tryz.prog 146 (.dat false uD):=by
  apply VaB (hc:=cK146) h162 <;> first | exact (rfl:@Eq Spec _ _) | skip
  all_goals decide
def L163:List (Nat×Spec):=(146,.dat false uD)::L162
theorem h163:Holds Tryz.prog (Gl L163):=za h162 sK146
theorem cK109:check Tryz.prog 109=some (24,(Ji 33 41 150 146 88).strip,[.cell 2 6 true]):=by kernel_rfl
theorem sK109:Sound Tryz.prog 109 (.dat false ux):=by
  apply Xae (hc:=cK109) h163 <;> first | exact (rfl:@Eq Spec _ _) | skip
  all_goals decide
def L164:List (Nat×Spec):=(109,.dat false ux)::L163
theorem h164:Holds Tryz.prog (Gl L164):=za h163 sK109
theorem cK59:check Tryz.prog 59=some (34,(zf 109 88).strip,[.cell 14 27 true]):=by kernel_rfl
theorem sK59:Sound Tryz.prog 59 (.dat false uv):=by
  apply Yag (hc:=cK59) h164 <;> first | exact (rfl:@Eq Spec _ _) | skip
  all_goals decide
def L165:List (Nat×Spec):=(59,.dat false uv)::L164
theorem h165:Holds Tryz.prog (Gl L165):=za h164 sK59
theorem cK22:check Tryz.prog 22=some (26,(xd 57 41 58 24 59).strip,[.cell 2 27 true,.tmp 3]):=by kernel_rfl
theorem sK22:Sound Tryz.prog 22 (.dat false JF):=by
  apply zaF (hc:=cK22) h165 <;> first | exact (rfl:@Eq Spec _ _) | skip
  all_goals decide
def L166:List (Nat×Spec):=(22,.dat false JF)::L165
theorem h166:Holds Tryz.prog (Gl L166):=za h165 sK22
theorem cK60:check Tryz.prog 60=some (8,(qe 33 57 42).strip,[.cell 2 6 true]):=by kernel_rfl
theorem sK60:Sound Tryz.prog 60 (.dat false yu):=by
  apply jR (hc:=cK60) h166 <;> first | exact (rfl:@Eq Spec _ _) | skip
  all_goals decide
def L167:List (Nat×Spec):=(60,.dat false yu)::L166
theorem h167:Holds Tryz.prog (Gl L167):=za h166 sK60
theorem cK23:check Tryz.prog 23=some (26,(Jd 60 41 58 24 59).strip,[.cell 2 27 true,.tmp 3]):=by kernel_rfl
theorem sK23:Sound Tryz.prog 23 (.dat false VF):=by
  apply xaC (hc:=cK23) h167 <;> first | exact (rfl:@Eq Spec _ _) | skip
  all_goals decide
def L168:List (Nat×Spec):=(23,.dat false VF)::L167
theorem h168:Holds Tryz.prog (Gl L168):=za h167 sK23
theorem cK25:check Tryz.prog 25=some (21,(Yh 60).strip,[.cell 2 27 true]):=by kernel_rfl
theorem sK25:Sound Tryz.prog 25 (.dat false jE):=by
  apply XaE (hc:=cK25) h168 <;> first | exact (rfl:@Eq Spec _ _) | skip
  all_goals decide
def L169:List (Nat×Spec):=(25,.dat false jE)::L168
theorem h169:Holds Tryz.prog (Gl L169):=za h168 sK25
theorem cK4:check Tryz.prog 4=some (142,(Jb 10 11 16 17 18 19 13 14 20 21 22 23 24 25).strip,[.tmp 2]):=by kernel_rfl
theorem sK4:Sound Tryz.prog 4 (.dat true Zn):=by
  apply YS (hc:=cK4) h169 <;> first | exact (rfl:@Eq Spec _ _) | skip
  all_goals decide
def L170:List (Nat×Spec):=(4,.dat true Zn)::L169
theorem h170:Holds Tryz.prog (Gl L170):=za h169 sK4
theorem hold:Holds Tryz.prog (Gl L170):=h170
end Go.Abs
