/-
  The contracts of this seat's functions, gathered.
-/
import Derived.Test.YtjggkdaangghfaaGreatDoorChecked
import Derived.Test.YtjggkdaangghfaaGreatDoorBits
import Derived.KernelRfl
import Derived.Test.YtjggkdaangghfaaGreatDoorM13
set_option maxRecDepth 100000
set_option linter.unusedVariables false
namespace Go.Abs
open Go.Proofs
theorem cK166:check Tryz.prog 166=some (25,Jc.strip,[.tmp 2]):=by kernel_rfl
theorem sK166:Sound Tryz.prog 166 (.fresh 1 xt):=by
  apply qax (hc:=cK166) XY <;> first | exact (rfl:@Eq Spec _ _) | skip
  all_goals decide
def L1:List (Nat×Spec):=(166,.fresh 1 xt)::[]
theorem h1:Holds Tryz.prog (Gl L1):=qa XY sK166
theorem cK130:check Tryz.prog 130=some (14,(Ug 166).strip,[.cell 4 2 true]):=by kernel_rfl
theorem sK130:Sound Tryz.prog 130 (.dat false We):=by
  apply V5 (hc:=cK130) h1 <;> first | exact (rfl:@Eq Spec _ _) | skip
  all_goals decide
def L2:List (Nat×Spec):=(130,.dat false We)::L1
theorem h2:Holds Tryz.prog (Gl L2):=qa h1 sK130
theorem cK81:check Tryz.prog 81=some (19,(qp 130).strip,[.cell 2 2 true]):=by kernel_rfl
theorem sK81:Sound Tryz.prog 81 (.dat false XC):=by
  apply JY (hc:=cK81) h2 <;> first | exact (rfl:@Eq Spec _ _) | skip
  all_goals decide
def L3:List (Nat×Spec):=(81,.dat false XC)::L2
theorem h3:Holds Tryz.prog (Gl L3):=qa h2 sK81
theorem cK162:check Tryz.prog 162=some (19,qj.strip,[.tmp 2]):=by kernel_rfl
theorem sK162:Sound Tryz.prog 162 (.dat true yh):=by
  apply YD (hc:=cK162) h3 <;> first | exact (rfl:@Eq Spec _ _) | skip
  all_goals decide
def L4:List (Nat×Spec):=(162,.dat true yh)::L3
theorem h4:Holds Tryz.prog (Gl L4):=qa h3 sK162
theorem cK126:check Tryz.prog 126=some (8,(qm 162).strip,[.tmp 2]):=by kernel_rfl
theorem sK126:Sound Tryz.prog 126 (.dat false Qi):=by
  apply uJ (hc:=cK126) h4 <;> first | exact (rfl:@Eq Spec _ _) | skip
  all_goals decide
def L5:List (Nat×Spec):=(126,.dat false Qi)::L4
theorem h5:Holds Tryz.prog (Gl L5):=qa h4 sK126
theorem cK127:check Tryz.prog 127=some (9,(Zm 162).strip,[.tmp 2]):=by kernel_rfl
theorem sK127:Sound Tryz.prog 127 (.dat true Vf):=by
  apply WI (hc:=cK127) h5 <;> first | exact (rfl:@Eq Spec _ _) | skip
  all_goals decide
def L6:List (Nat×Spec):=(127,.dat true Vf)::L5
theorem h6:Holds Tryz.prog (Gl L6):=qa h5 sK127
theorem cK78:check Tryz.prog 78=some (9,(Vg 126 127).strip,[.tmp 2]):=by kernel_rfl
theorem sK78:Sound Tryz.prog 78 (.dat true vf):=by
  apply qR (hc:=cK78) h6 <;> first | exact (rfl:@Eq Spec _ _) | skip
  all_goals decide
def L7:List (Nat×Spec):=(78,.dat true vf)::L6
theorem h7:Holds Tryz.prog (Gl L7):=qa h6 sK78
theorem cK128:check Tryz.prog 128=some (9,(Xl 127 126 130).strip,[.cell 2 2 true]):=by kernel_rfl
theorem sK128:Sound Tryz.prog 128 (.dat false Xt):=by
  apply ZN (hc:=cK128) h7 <;> first | exact (rfl:@Eq Spec _ _) | skip
  all_goals decide
def L8:List (Nat×Spec):=(128,.dat false Xt)::L7
theorem h8:Holds Tryz.prog (Gl L8):=qa h7 sK128
theorem cK197:check Tryz.prog 197=some (14,xk.strip,[.tmp 4]):=by kernel_rfl
theorem sK197:Sound Tryz.prog 197 (.dat true Wj):=by
  apply kK (hc:=cK197) h8 <;> first | exact (rfl:@Eq Spec _ _) | skip
  all_goals decide
def L9:List (Nat×Spec):=(197,.dat true Wj)::L8
theorem h9:Holds Tryz.prog (Gl L9):=qa h8 sK197
theorem cK179:check Tryz.prog 179=some (21,qi.strip,[.tmp 2]):=by kernel_rfl
theorem sK179:Sound Tryz.prog 179 (.own YW):=by
  apply qaV (hc:=cK179) h9 <;> first | exact (rfl:@Eq Spec _ _) | skip
  all_goals decide
def L10:List (Nat×Spec):=(179,.own YW)::L9
theorem h10:Holds Tryz.prog (Gl L10):=qa h9 sK179
theorem cK177:check Tryz.prog 177=some (26,(Yf 197 179).strip,[.tmp 2]):=by kernel_rfl
theorem sK177:Sound Tryz.prog 177 (.own Jn):=by
  apply Vaa (hc:=cK177) h10 <;> first | exact (rfl:@Eq Spec _ _) | skip
  all_goals decide
def L11:List (Nat×Spec):=(177,.own Jn)::L10
theorem h11:Holds Tryz.prog (Gl L11):=qa h10 sK177
theorem cK167:check Tryz.prog 167=some (30,(ve 197).strip,[.tmp 4]):=by kernel_rfl
theorem sK167:Sound Tryz.prog 167 (.dat true qs):=by
  apply kab (hc:=cK167) h11 <;> first | exact (rfl:@Eq Spec _ _) | skip
  all_goals decide
def L12:List (Nat×Spec):=(167,.dat true qs)::L11
theorem h12:Holds Tryz.prog (Gl L12):=qa h11 sK167
theorem cK178:check Tryz.prog 178=some (31,(Wd 197).strip,[]):=by kernel_rfl
theorem sK178:Sound Tryz.prog 178 (.own zu):=by
  apply Zax (hc:=cK178) h12 <;> first | exact (rfl:@Eq Spec _ _) | skip
  all_goals decide
def L13:List (Nat×Spec):=(178,.own zu)::L12
theorem h13:Holds Tryz.prog (Gl L13):=qa h12 sK178
theorem cK164:check Tryz.prog 164=some (37,(Jg 197 166).strip,[.tmp 4]):=by kernel_rfl
theorem sK164:Sound Tryz.prog 164 (.dat false Vq):=by
  apply jY (hc:=cK164) h13 <;> first | exact (rfl:@Eq Spec _ _) | skip
  all_goals decide
def L14:List (Nat×Spec):=(164,.dat false Vq)::L13
theorem h14:Holds Tryz.prog (Gl L14):=qa h13 sK164
theorem cK144:check Tryz.prog 144=some (72,(uh 166 177 167 178 179 164).strip,[.tmp 4]):=by kernel_rfl
theorem sK144:Sound Tryz.prog 144 (.dat false Jv):=by
  apply Uaf (hc:=cK144) h14 <;> first | exact (rfl:@Eq Spec _ _) | skip
  all_goals decide
def L15:List (Nat×Spec):=(144,.dat false Jv)::L14
theorem h15:Holds Tryz.prog (Gl L15):=qa h14 sK144
theorem cK99:check Tryz.prog 99=some (11,(Xh 126 144 130).strip,[.cell 4 2 true]):=by kernel_rfl
theorem sK99:Sound Tryz.prog 99 (.dat false Ur):=by
  apply wU (hc:=cK99) h15 <;> first | exact (rfl:@Eq Spec _ _) | skip
  all_goals decide
def L16:List (Nat×Spec):=(99,.dat false Ur)::L15
theorem h16:Holds Tryz.prog (Gl L16):=qa h15 sK99
theorem cK196:check Tryz.prog 196=some (25,kg.strip,[.tmp 2]):=by kernel_rfl
theorem sK196:Sound Tryz.prog 196 (.dat true uo):=by
  apply UX (hc:=cK196) h16 <;> first | exact (rfl:@Eq Spec _ _) | skip
  all_goals decide
def L17:List (Nat×Spec):=(196,.dat true uo)::L16
theorem h17:Holds Tryz.prog (Gl L17):=qa h16 sK196
theorem cK163:check Tryz.prog 163=some (76,(ke 196 167 178 166).strip,[.tmp 4,.tmp 5]):=by kernel_rfl
theorem sK163:Sound Tryz.prog 163 (.dat false zg):=by
  apply qJ (hc:=cK163) h17 <;> first | exact (rfl:@Eq Spec _ _) | skip
  all_goals decide
def L18:List (Nat×Spec):=(163,.dat false zg)::L17
theorem h18:Holds Tryz.prog (Gl L18):=qa h17 sK163
theorem cK165:check Tryz.prog 165=some (35,(yf 197 166).strip,[.tmp 4]):=by kernel_rfl
theorem sK165:Sound Tryz.prog 165 (.dat false yr):=by
  apply JR (hc:=cK165) h18 <;> first | exact (rfl:@Eq Spec _ _) | skip
  all_goals decide
def L19:List (Nat×Spec):=(165,.dat false yr)::L18
theorem h19:Holds Tryz.prog (Gl L19):=qa h18 sK165
theorem cK129:check Tryz.prog 129=some (45,(Yh 78 126 163 127 164 165 130).strip,[.cell 4 2 true,.cell 5 2 true,.tmp 6]):=by kernel_rfl
theorem sK129:Sound Tryz.prog 129 (.dat false zo):=by
  apply V4 (hc:=cK129) h19 <;> first | exact (rfl:@Eq Spec _ _) | skip
  all_goals decide
def L20:List (Nat×Spec):=(129,.dat false zo)::L19
theorem h20:Holds Tryz.prog (Gl L20):=qa h19 sK129
theorem cK80:check Tryz.prog 80=some (47,(jh 78 128 99 129).strip,[.cell 4 3 true]):=by kernel_rfl
theorem sK80:Sound Tryz.prog 80 (.dat false zh):=by
  apply UR (hc:=cK80) h20 <;> first | exact (rfl:@Eq Spec _ _) | skip
  all_goals decide
def L21:List (Nat×Spec):=(80,.dat false zh)::L20
theorem h21:Holds Tryz.prog (Gl L21):=qa h20 sK80
theorem cK133:check Tryz.prog 133=some (13,(Wg 78 80).strip,[.cell 4 3 true,.tmp 5]):=by kernel_rfl
theorem sK133:Sound Tryz.prog 133 (.dat false zp):=by
  apply zV (hc:=cK133) h21 <;> first | exact (rfl:@Eq Spec _ _) | skip
  all_goals decide
def L22:List (Nat×Spec):=(133,.dat false zp)::L21
theorem h22:Holds Tryz.prog (Gl L22):=qa h21 sK133
theorem cK90:check Tryz.prog 90=some (13,(Qh 81 133).strip,[.cell 4 3 true,.tmp 5]):=by kernel_rfl
theorem sK90:Sound Tryz.prog 90 (.dat false xu):=by
  apply uZ (hc:=cK90) h22 <;> first | exact (rfl:@Eq Spec _ _) | skip
  all_goals decide
def L23:List (Nat×Spec):=(90,.dat false xu)::L22
theorem h23:Holds Tryz.prog (Gl L23):=qa h22 sK90
theorem cK82:check Tryz.prog 82=some (2,(Wk 81).strip,[.cell 0 2 true]):=by kernel_rfl
theorem sK82:Sound Tryz.prog 82 (.dat false jp):=by
  apply ZK (hc:=cK82) h23 <;> first | exact (rfl:@Eq Spec _ _) | skip
  all_goals decide
def L24:List (Nat×Spec):=(82,.dat false jp)::L23
theorem h24:Holds Tryz.prog (Gl L24):=qa h23 sK82
theorem cK33:check Tryz.prog 33=some (7,(Jm 81 82 80).strip,[.cell 2 3 true]):=by kernel_rfl
theorem sK33:Sound Tryz.prog 33 (.dat false qx):=by
  apply V6 (hc:=cK33) h24 <;> first | exact (rfl:@Eq Spec _ _) | skip
  all_goals decide
def L25:List (Nat×Spec):=(33,.dat false qx)::L24
theorem h25:Holds Tryz.prog (Gl L25):=qa h24 sK33
theorem cK91:check Tryz.prog 91=some (10,(kj 33).strip,[.cell 4 6 true]):=by kernel_rfl
theorem sK91:Sound Tryz.prog 91 (.dat false XT):=by
  apply qaX (hc:=cK91) h25 <;> first | exact (rfl:@Eq Spec _ _) | skip
  all_goals decide
def L26:List (Nat×Spec):=(91,.dat false XT)::L25
theorem h26:Holds Tryz.prog (Gl L26):=qa h25 sK91
theorem cK44:check Tryz.prog 44=some (15,(Ze 90 33 91).strip,[.cell 0 27 true]):=by kernel_rfl
theorem sK44:Sound Tryz.prog 44 (.dat false Wy):=by
  apply yax (hc:=cK44) h26 <;> first | exact (rfl:@Eq Spec _ _) | skip
  all_goals decide
def L27:List (Nat×Spec):=(44,.dat false Wy)::L26
theorem h27:Holds Tryz.prog (Gl L27):=qa h26 sK44
theorem cK110:check Tryz.prog 110=some (19,qj.strip,[.tmp 2]):=by kernel_rfl
theorem sK110:Sound Tryz.prog 110 (.dat true yh):=by
  apply YD (hc:=cK110) h27 <;> first | exact (rfl:@Eq Spec _ _) | skip
  all_goals decide
def L28:List (Nat×Spec):=(110,.dat true yh)::L27
theorem h28:Holds Tryz.prog (Gl L28):=qa h27 sK110
theorem cK135:check Tryz.prog 135=some (8,(qm 110).strip,[.tmp 2]):=by kernel_rfl
theorem sK135:Sound Tryz.prog 135 (.dat false Qi):=by
  apply uJ (hc:=cK135) h28 <;> first | exact (rfl:@Eq Spec _ _) | skip
  all_goals decide
def L29:List (Nat×Spec):=(135,.dat false Qi)::L28
theorem h29:Holds Tryz.prog (Gl L29):=qa h28 sK135
theorem cK134:check Tryz.prog 134=some (41,uk.strip,[.tmp 4]):=by kernel_rfl
theorem sK134:Sound Tryz.prog 134 (.dat false ug):=by
  apply xQ (hc:=cK134) h29 <;> first | exact (rfl:@Eq Spec _ _) | skip
  all_goals decide
def L30:List (Nat×Spec):=(134,.dat false ug)::L29
theorem h30:Holds Tryz.prog (Gl L30):=qa h29 sK134
theorem cK169:check Tryz.prog 169=some (25,jq.strip,[.tmp 2]):=by kernel_rfl
theorem sK169:Sound Tryz.prog 169 (.dat false uq):=by
  apply QaB (hc:=cK169) h30 <;> first | exact (rfl:@Eq Spec _ _) | skip
  all_goals decide
def L31:List (Nat×Spec):=(169,.dat false uq)::L30
theorem h31:Holds Tryz.prog (Gl L31):=qa h30 sK169
theorem cK137:check Tryz.prog 137=some (43,(vn 169).strip,[.tmp 4,.tmp 5]):=by kernel_rfl
theorem sK137:Sound Tryz.prog 137 (.dat false wt):=by
  apply Qae (hc:=cK137) h31 <;> first | exact (rfl:@Eq Spec _ _) | skip
  all_goals decide
def L32:List (Nat×Spec):=(137,.dat false wt)::L31
theorem h32:Holds Tryz.prog (Gl L32):=qa h31 sK137
theorem sK185:Sound Tryz.prog 185 (.dat true lz_G):=UaO (qu Tryz.func185 (by kernel_rfl) (by kernel_rfl)) xbk xbo Tryz.bits_LeadingZeros32
def L33:List (Nat×Spec):=(185,.dat true lz_G)::L32
theorem h33:Holds Tryz.prog (Gl L33):=qa h32 sK185
theorem cK186:check Tryz.prog 186=some (41,vv.strip,[.tmp 4]):=by kernel_rfl
theorem sK186:Sound Tryz.prog 186 (.fresh 1 up_G):=by
  apply ya5 (hc:=cK186) h33 <;> first | exact (rfl:@Eq Spec _ _) | skip
  all_goals decide
def L34:List (Nat×Spec):=(186,.fresh 1 up_G)::L33
theorem h34:Holds Tryz.prog (Gl L34):=qa h33 sK186
theorem cK204:check Tryz.prog 204=some (14,xk.strip,[.tmp 4]):=by kernel_rfl
theorem sK204:Sound Tryz.prog 204 (.dat true Wj):=by
  apply kK (hc:=cK204) h34 <;> first | exact (rfl:@Eq Spec _ _) | skip
  all_goals decide
def L35:List (Nat×Spec):=(204,.dat true Wj)::L34
theorem h35:Holds Tryz.prog (Gl L35):=qa h34 sK204
theorem cK187:check Tryz.prog 187=some (46,(Jl 204).strip,[.tmp 6]):=by kernel_rfl
theorem sK187:Sound Tryz.prog 187 (.own Wo):=by
  apply ZW (hc:=cK187) h35 <;> first | exact (rfl:@Eq Spec _ _) | skip
  all_goals decide
def L36:List (Nat×Spec):=(187,.own Wo)::L35
theorem h36:Holds Tryz.prog (Gl L36):=qa h35 sK187
theorem cK188:check Tryz.prog 188=some (30,(yp 204).strip,[]):=by kernel_rfl
theorem sK188:Sound Tryz.prog 188 (.own xA):=by
  apply zax (hc:=cK188) h36 <;> first | exact (rfl:@Eq Spec _ _) | skip
  all_goals decide
def L37:List (Nat×Spec):=(188,.own xA)::L36
theorem h37:Holds Tryz.prog (Gl L37):=qa h36 sK188
theorem cK189:check Tryz.prog 189=some (35,(Jq 204 169).strip,[.tmp 4]):=by kernel_rfl
theorem sK189:Sound Tryz.prog 189 (.dat false yB):=by
  apply vaA (hc:=cK189) h37 <;> first | exact (rfl:@Eq Spec _ _) | skip
  all_goals decide
def L38:List (Nat×Spec):=(189,.dat false yB)::L37
theorem h38:Holds Tryz.prog (Gl L38):=qa h37 sK189
theorem cK151:check Tryz.prog 151=some (158,(Jh 134 169 137 185 186 187 188 189).strip,[.tmp 4,.tmp 5]):=by kernel_rfl
theorem sK151:Sound Tryz.prog 151 (.dat false zg):=by
  apply yY (hc:=cK151) h38 <;> first | exact (rfl:@Eq Spec _ _) | skip
  all_goals decide
def L39:List (Nat×Spec):=(151,.dat false zg)::L38
theorem h39:Holds Tryz.prog (Gl L39):=qa h38 sK151
theorem cK141:check Tryz.prog 141=some (15,(jn 169).strip,[.cell 4 2 true]):=by kernel_rfl
theorem sK141:Sound Tryz.prog 141 (.dat false We):=by
  apply xab (hc:=cK141) h39 <;> first | exact (rfl:@Eq Spec _ _) | skip
  all_goals decide
def L40:List (Nat×Spec):=(141,.dat false We)::L39
theorem h40:Holds Tryz.prog (Gl L40):=qa h39 sK141
theorem cK111:check Tryz.prog 111=some (26,(Xs 135 151 141).strip,[.cell 4 2 true]):=by kernel_rfl
theorem sK111:Sound Tryz.prog 111 (.dat false Ur):=by
  apply Waw (hc:=cK111) h40 <;> first | exact (rfl:@Eq Spec _ _) | skip
  all_goals decide
def L41:List (Nat×Spec):=(111,.dat false Ur)::L40
theorem h41:Holds Tryz.prog (Gl L41):=qa h40 sK111
theorem cK125:check Tryz.prog 125=some (19,(qp 141).strip,[.cell 2 2 true]):=by kernel_rfl
theorem sK125:Sound Tryz.prog 125 (.dat false XC):=by
  apply JY (hc:=cK125) h41 <;> first | exact (rfl:@Eq Spec _ _) | skip
  all_goals decide
def L42:List (Nat×Spec):=(125,.dat false XC)::L41
theorem h42:Holds Tryz.prog (Gl L42):=qa h41 sK125
theorem cK94:check Tryz.prog 94=some (2,(Wk 125).strip,[.cell 0 2 true]):=by kernel_rfl
theorem sK94:Sound Tryz.prog 94 (.dat false jp):=by
  apply ZK (hc:=cK94) h42 <;> first | exact (rfl:@Eq Spec _ _) | skip
  all_goals decide
def L43:List (Nat×Spec):=(94,.dat false jp)::L42
theorem h43:Holds Tryz.prog (Gl L43):=qa h42 sK94
theorem cK112:check Tryz.prog 112=some (11,(Yq 135).strip,[.tmp 2]):=by kernel_rfl
theorem sK112:Sound Tryz.prog 112 (.dat true vf):=by
  apply yad (hc:=cK112) h43 <;> first | exact (rfl:@Eq Spec _ _) | skip
  all_goals decide
def L44:List (Nat×Spec):=(112,.dat true vf)::L43
theorem h44:Holds Tryz.prog (Gl L44):=qa h43 sK112
theorem cK136:check Tryz.prog 136=some (9,(Zm 110).strip,[.tmp 2]):=by kernel_rfl
theorem sK136:Sound Tryz.prog 136 (.dat true Vf):=by
  apply WI (hc:=cK136) h44 <;> first | exact (rfl:@Eq Spec _ _) | skip
  all_goals decide
def L45:List (Nat×Spec):=(136,.dat true Vf)::L44
theorem h45:Holds Tryz.prog (Gl L45):=qa h44 sK136
theorem cK93:check Tryz.prog 93=some (28,(Vt 112 135 134 136).strip,[.tmp 4]):=by kernel_rfl
theorem sK93:Sound Tryz.prog 93 (.dat true Zx):=by
  apply zaB (hc:=cK93) h45 <;> first | exact (rfl:@Eq Spec _ _) | skip
  all_goals decide
def L46:List (Nat×Spec):=(93,.dat true Zx)::L45
theorem h46:Holds Tryz.prog (Gl L46):=qa h45 sK93
theorem cK64:check Tryz.prog 64=some (50,(Ql 110 111 94 93).strip,[.tmp 2]):=by kernel_rfl
theorem sK64:Sound Tryz.prog 64 (.dat true Wh):=by
  apply J3 (hc:=cK64) h46 <;> first | exact (rfl:@Eq Spec _ _) | skip
  all_goals decide
def L47:List (Nat×Spec):=(64,.dat true Wh)::L46
theorem h47:Holds Tryz.prog (Gl L47):=qa h46 sK64
theorem cK63:check Tryz.prog 63=some (11,(Ui 64).strip,[.tmp 2]):=by kernel_rfl
theorem sK63:Sound Tryz.prog 63 (.dat true qo):=by
  apply jZ (hc:=cK63) h47 <;> first | exact (rfl:@Eq Spec _ _) | skip
  all_goals decide
def L48:List (Nat×Spec):=(63,.dat true qo)::L47
theorem h48:Holds Tryz.prog (Gl L48):=qa h47 sK63
theorem cK92:check Tryz.prog 92=some (28,(Zl 64 94).strip,[.cell 2 2 true,.cell 3 2 true]):=by kernel_rfl
theorem sK92:Sound Tryz.prog 92 (.dat false Xe):=by
  apply YU (hc:=cK92) h48 <;> first | exact (rfl:@Eq Spec _ _) | skip
  all_goals decide
def L49:List (Nat×Spec):=(92,.dat false Xe)::L48
theorem h49:Holds Tryz.prog (Gl L49):=qa h48 sK92
theorem cK65:check Tryz.prog 65=some (12,(xm 92 112).strip,[.tmp 2]):=by kernel_rfl
theorem sK65:Sound Tryz.prog 65 (.dat true Wp):=by
  apply Yab (hc:=cK65) h49 <;> first | exact (rfl:@Eq Spec _ _) | skip
  all_goals decide
def L50:List (Nat×Spec):=(65,.dat true Wp)::L49
theorem h50:Holds Tryz.prog (Gl L50):=qa h49 sK65
theorem cK142:check Tryz.prog 142=some (67,(qn 169).strip,[.tmp 4]):=by kernel_rfl
theorem sK142:Sound Tryz.prog 142 (.dat false Zv):=by
  apply yae (hc:=cK142) h50 <;> first | exact (rfl:@Eq Spec _ _) | skip
  all_goals decide
def L51:List (Nat×Spec):=(142,.dat false Zv)::L50
theorem h51:Holds Tryz.prog (Gl L51):=qa h50 sK142
theorem cK96:check Tryz.prog 96=some (16,(Qt 136 135 142 141).strip,[.cell 4 2 true]):=by kernel_rfl
theorem sK96:Sound Tryz.prog 96 (.dat false vw):=by
  apply waw (hc:=cK96) h51 <;> first | exact (rfl:@Eq Spec _ _) | skip
  all_goals decide
def L52:List (Nat×Spec):=(96,.dat false vw)::L51
theorem h52:Holds Tryz.prog (Gl L52):=qa h51 sK96
theorem cK46:check Tryz.prog 46=some (26,(xq 92 96 93).strip,[.tmp 4]):=by kernel_rfl
theorem sK46:Sound Tryz.prog 46 (.dat true ul):=by
  apply jaa (hc:=cK46) h52 <;> first | exact (rfl:@Eq Spec _ _) | skip
  all_goals decide
def L53:List (Nat×Spec):=(46,.dat true ul)::L52
theorem h53:Holds Tryz.prog (Gl L53):=qa h52 sK46
theorem cK26:check Tryz.prog 26=some (75,(qf 63 64 65 46 55).strip,[.tmp 2]):=by kernel_rfl
theorem sK26:Sound Tryz.prog 26 (.dat false (Yr 55)):=by
  apply yaz (hc:=cK26) h53 <;> first | exact (rfl:@Eq Spec _ _) | skip
  all_goals decide
def L54:List (Nat×Spec):=(26,.dat false (Yr 55))::L53
theorem h54:Holds Tryz.prog (Gl L54):=qa h53 sK26
theorem cK52:check Tryz.prog 52=some (8,vk.strip,[.cell 2 6 true]):=by kernel_rfl
theorem sK52:Sound Tryz.prog 52 (.dat false zF):=by
  apply YaS (hc:=cK52) h54 <;> first | exact (rfl:@Eq Spec _ _) | skip
  all_goals decide
def L55:List (Nat×Spec):=(52,.dat false zF)::L54
theorem h55:Holds Tryz.prog (Gl L55):=qa h54 sK52
theorem cK153:check Tryz.prog 153=some (9,(Xl 136 135 141).strip,[.cell 2 2 true]):=by kernel_rfl
theorem sK153:Sound Tryz.prog 153 (.dat false Xt):=by
  apply ZN (hc:=cK153) h55 <;> first | exact (rfl:@Eq Spec _ _) | skip
  all_goals decide
def L56:List (Nat×Spec):=(153,.dat false Xt)::L55
theorem h56:Holds Tryz.prog (Gl L56):=qa h55 sK153
theorem cK183:check Tryz.prog 183=some (39,(yq 204 169).strip,[.tmp 4]):=by kernel_rfl
theorem sK183:Sound Tryz.prog 183 (.dat false Vq):=by
  apply yay (hc:=cK183) h56 <;> first | exact (rfl:@Eq Spec _ _) | skip
  all_goals decide
def L57:List (Nat×Spec):=(183,.dat false Vq)::L56
theorem h57:Holds Tryz.prog (Gl L57):=qa h56 sK183
theorem cK184:check Tryz.prog 184=some (38,(Jr 204 169).strip,[.tmp 4]):=by kernel_rfl
theorem sK184:Sound Tryz.prog 184 (.dat false yr):=by
  apply Vay (hc:=cK184) h57 <;> first | exact (rfl:@Eq Spec _ _) | skip
  all_goals decide
def L58:List (Nat×Spec):=(184,.dat false yr)::L57
theorem h58:Holds Tryz.prog (Gl L58):=qa h57 sK184
theorem cK161:check Tryz.prog 161=some (47,(Ys 135 151 136 183 184 141 55).strip,[.cell 4 2 true,.cell 5 2 true,.tmp 6]):=by kernel_rfl
theorem sK161:Sound Tryz.prog 161 (.dat false QA):=by
  apply kaw (hc:=cK161) h58 <;> first | exact (rfl:@Eq Spec _ _) | skip
  all_goals decide
def L59:List (Nat×Spec):=(161,.dat false QA)::L58
theorem h59:Holds Tryz.prog (Gl L59):=qa h58 sK161
theorem cK124:check Tryz.prog 124=some (47,(kn 112 153 111 161).strip,[.cell 4 3 true]):=by kernel_rfl
theorem sK124:Sound Tryz.prog 124 (.dat false zh):=by
  apply jab (hc:=cK124) h59 <;> first | exact (rfl:@Eq Spec _ _) | skip
  all_goals decide
def L60:List (Nat×Spec):=(124,.dat false zh)::L59
theorem h60:Holds Tryz.prog (Gl L60):=qa h59 sK124
theorem cK116:check Tryz.prog 116=some (14,(vr 92 153 124).strip,[.cell 2 3 true]):=by kernel_rfl
theorem sK116:Sound Tryz.prog 116 (.dat false kw):=by
  apply waA (hc:=cK116) h60 <;> first | exact (rfl:@Eq Spec _ _) | skip
  all_goals decide
def L61:List (Nat×Spec):=(116,.dat false kw)::L60
theorem h61:Holds Tryz.prog (Gl L61):=qa h60 sK116
theorem cK149:check Tryz.prog 149=some (40,(Ws 135 136 183 141 134 184).strip,[.cell 4 2 true]):=by kernel_rfl
theorem sK149:Sound Tryz.prog 149 (.dat false jB):=by
  apply Yaw (hc:=cK149) h61 <;> first | exact (rfl:@Eq Spec _ _) | skip
  all_goals decide
def L62:List (Nat×Spec):=(149,.dat false jB)::L61
theorem h62:Holds Tryz.prog (Gl L62):=qa h61 sK149
theorem cK107:check Tryz.prog 107=some (30,(kp 92 96 149 124).strip,[.cell 4 3 true]):=by kernel_rfl
theorem sK107:Sound Tryz.prog 107 (.dat false vp):=by
  apply kaA (hc:=cK107) h62 <;> first | exact (rfl:@Eq Spec _ _) | skip
  all_goals decide
def L63:List (Nat×Spec):=(107,.dat false vp)::L62
theorem h63:Holds Tryz.prog (Gl L63):=qa h62 sK107
theorem cK114:check Tryz.prog 114=some (9,(qq 116 107).strip,[.cell 4 3 true]):=by kernel_rfl
theorem sK114:Sound Tryz.prog 114 (.dat false Yw):=by
  apply Zay (hc:=cK114) h63 <;> first | exact (rfl:@Eq Spec _ _) | skip
  all_goals decide
def L64:List (Nat×Spec):=(114,.dat false Yw)::L63
theorem h64:Holds Tryz.prog (Gl L64):=qa h63 sK114
theorem cK83:check Tryz.prog 83=some (16,(Zs 114).strip,[.cell 4 6 true]):=by kernel_rfl
theorem sK83:Sound Tryz.prog 83 (.dat false kt):=by
  apply Xag (hc:=cK83) h64 <;> first | exact (rfl:@Eq Spec _ _) | skip
  all_goals decide
def L65:List (Nat×Spec):=(83,.dat false kt)::L64
theorem h65:Holds Tryz.prog (Gl L65):=qa h64 sK83
theorem cK70:check Tryz.prog 70=some (26,(Uq 92 96 124).strip,[.cell 4 3 true]):=by kernel_rfl
theorem sK70:Sound Tryz.prog 70 (.dat false Yn):=by
  apply WaA (hc:=cK70) h65 <;> first | exact (rfl:@Eq Spec _ _) | skip
  all_goals decide
def L66:List (Nat×Spec):=(70,.dat false Yn)::L65
theorem h66:Holds Tryz.prog (Gl L66):=qa h65 sK70
theorem cK85:check Tryz.prog 85=some (28,(Zn 70 114 107).strip,[.cell 4 6 true]):=by kernel_rfl
theorem sK85:Sound Tryz.prog 85 (.dat false Zo):=by
  apply YT (hc:=cK85) h66 <;> first | exact (rfl:@Eq Spec _ _) | skip
  all_goals decide
def L67:List (Nat×Spec):=(85,.dat false Zo)::L66
theorem h67:Holds Tryz.prog (Gl L67):=qa h66 sK85
theorem cK84:check Tryz.prog 84=some (16,(Vs 107).strip,[.cell 4 6 true]):=by kernel_rfl
theorem sK84:Sound Tryz.prog 84 (.dat false Zt):=by
  apply Qac (hc:=cK84) h67 <;> first | exact (rfl:@Eq Spec _ _) | skip
  all_goals decide
def L68:List (Nat×Spec):=(84,.dat false Zt)::L67
theorem h68:Holds Tryz.prog (Gl L68):=qa h67 sK84
theorem cK50:check Tryz.prog 50=some (14,(Wn 52 83 85 84).strip,[.cell 2 6 true]):=by kernel_rfl
theorem sK50:Sound Tryz.prog 50 (.dat false Vy):=by
  apply vax (hc:=cK50) h68 <;> first | exact (rfl:@Eq Spec _ _) | skip
  all_goals decide
def L69:List (Nat×Spec):=(50,.dat false Vy)::L68
theorem h69:Holds Tryz.prog (Gl L69):=qa h68 sK50
theorem cK16:check Tryz.prog 16=some (13,(xi 26 50).strip,[.cell 2 6 true,.tmp 3]):=by kernel_rfl
theorem sK16:Sound Tryz.prog 16 (.dat false (YP 55)):=by
  apply UaH (hc:=cK16) h69 <;> first | exact (rfl:@Eq Spec _ _) | skip
  all_goals decide
def L70:List (Nat×Spec):=(16,.dat false (YP 55))::L69
theorem h70:Holds Tryz.prog (Gl L70):=qa h69 sK16
theorem cK106:check Tryz.prog 106=some (14,(zl 70 107).strip,[.cell 2 3 true]):=by kernel_rfl
theorem sK106:Sound Tryz.prog 106 (.dat false UI):=by
  apply xaQ (hc:=cK106) h70 <;> first | exact (rfl:@Eq Spec _ _) | skip
  all_goals decide
def L71:List (Nat×Spec):=(106,.dat false UI)::L70
theorem h71:Holds Tryz.prog (Gl L71):=qa h70 sK106
theorem cK182:check Tryz.prog 182=some (14,(Vn 112 124 55).strip,[.cell 4 3 true,.tmp 5]):=by kernel_rfl
theorem sK182:Sound Tryz.prog 182 (.dat false (xn 55)):=by
  apply V7 (hc:=cK182) h71 <;> first | exact (rfl:@Eq Spec _ _) | skip
  all_goals decide
def L72:List (Nat×Spec):=(182,.dat false (xn 55))::L71
theorem h72:Holds Tryz.prog (Gl L72):=qa h71 sK182
theorem cK148:check Tryz.prog 148=some (29,(Wq 92 96 182).strip,[.cell 4 3 true,.tmp 5]):=by kernel_rfl
theorem sK148:Sound Tryz.prog 148 (.dat false (Xv 55)):=by
  apply zad (hc:=cK148) h72 <;> first | exact (rfl:@Eq Spec _ _) | skip
  all_goals decide
def L73:List (Nat×Spec):=(148,.dat false (Xv 55))::L72
theorem h73:Holds Tryz.prog (Gl L73):=qa h72 sK148
theorem cK105:check Tryz.prog 105=some (33,(Qg 106 148 116).strip,[.cell 2 6 true,.tmp 3]):=by kernel_rfl
theorem sK105:Sound Tryz.prog 105 (.dat false (JB 55)):=by
  apply vaz (hc:=cK105) h73 <;> first | exact (rfl:@Eq Spec _ _) | skip
  all_goals decide
def L74:List (Nat×Spec):=(105,.dat false (JB 55))::L73
theorem h74:Holds Tryz.prog (Gl L74):=qa h73 sK105
theorem cK86:check Tryz.prog 86=some (6,(Xm 84).strip,[.cell 2 6 true]):=by kernel_rfl
theorem sK86:Sound Tryz.prog 86 (.dat false vy):=by
  apply waz (hc:=cK86) h74 <;> first | exact (rfl:@Eq Spec _ _) | skip
  all_goals decide
def L75:List (Nat×Spec):=(86,.dat false vy)::L74
theorem h75:Holds Tryz.prog (Gl L75):=qa h74 sK86
theorem cK51:check Tryz.prog 51=some (46,(Uf 105 106 86 50 70).strip,[.cell 12 27 true,.tmp 13]):=by kernel_rfl
theorem sK51:Sound Tryz.prog 51 (.dat false (Zy 55)):=by
  apply kay (hc:=cK51) h75 <;> first | exact (rfl:@Eq Spec _ _) | skip
  all_goals decide
def L76:List (Nat×Spec):=(51,.dat false (Zy 55))::L75
theorem h76:Holds Tryz.prog (Gl L76):=qa h75 sK51
theorem cK17:check Tryz.prog 17=some (25,(zj 26 52 51).strip,[.cell 2 27 true,.tmp 3]):=by kernel_rfl
theorem sK17:Sound Tryz.prog 17 (.dat false (ZJ 55)):=by
  apply YaW (hc:=cK17) h76 <;> first | exact (rfl:@Eq Spec _ _) | skip
  all_goals decide
def L77:List (Nat×Spec):=(17,.dat false (ZJ 55))::L76
theorem h77:Holds Tryz.prog (Gl L77):=qa h76 sK17
theorem cK71:check Tryz.prog 71=some (7,(Jm 125 94 124).strip,[.cell 2 3 true]):=by kernel_rfl
theorem sK71:Sound Tryz.prog 71 (.dat false qx):=by
  apply V6 (hc:=cK71) h77 <;> first | exact (rfl:@Eq Spec _ _) | skip
  all_goals decide
def L78:List (Nat×Spec):=(71,.dat false qx)::L77
theorem h78:Holds Tryz.prog (Gl L78):=qa h77 sK71
theorem cK190:check Tryz.prog 190=some (29,Um.strip,[.tmp 2]):=by kernel_rfl
theorem sK190:Sound Tryz.prog 190 (.dat true Zi):=by
  apply ZS (hc:=cK190) h78 <;> first | exact (rfl:@Eq Spec _ _) | skip
  all_goals decide
def L79:List (Nat×Spec):=(190,.dat true Zi)::L78
theorem h79:Holds Tryz.prog (Gl L79):=qa h78 sK190
theorem cK157:check Tryz.prog 157=some (8,yd.strip,[.tmp 2]):=by kernel_rfl
theorem sK157:Sound Tryz.prog 157 (.fresh 5 Ul):=by
  apply Y0 (hc:=cK157) h79 <;> first | exact (rfl:@Eq Spec _ _) | skip
  all_goals decide
def L80:List (Nat×Spec):=(157,.fresh 5 Ul)::L79
theorem h80:Holds Tryz.prog (Gl L80):=qa h79 sK157
theorem cK219:check Tryz.prog 219=some (6,js.strip,[.tmp 2]):=by kernel_rfl
theorem sK219:Sound Tryz.prog 219 (.dat true VB):=by
  apply waB (hc:=cK219) h80 <;> first | exact (rfl:@Eq Spec _ _) | skip
  all_goals decide
def L81:List (Nat×Spec):=(219,.dat true VB)::L80
theorem h81:Holds Tryz.prog (Gl L81):=qa h80 sK219
theorem cK209:check Tryz.prog 209=some (20,(zf 219).strip,[.tmp 4]):=by kernel_rfl
theorem sK209:Sound Tryz.prog 209 (.dat true kB):=by
  apply qay (hc:=cK209) h81 <;> first | exact (rfl:@Eq Spec _ _) | skip
  all_goals decide
def L82:List (Nat×Spec):=(209,.dat true kB)::L81
theorem h82:Holds Tryz.prog (Gl L82):=qa h81 sK209
theorem cK208:check Tryz.prog 208=some (18,Vz.strip,[.tmp 2]):=by kernel_rfl
theorem sK208:Sound Tryz.prog 208 (.dat true QQ):=by
  apply vaV (hc:=cK208) h82 <;> first | exact (rfl:@Eq Spec _ _) | skip
  all_goals decide
def L83:List (Nat×Spec):=(208,.dat true QQ)::L82
theorem h83:Holds Tryz.prog (Gl L83):=qa h82 sK208
theorem cK193:check Tryz.prog 193=some (23,(Jp 209 208).strip,[.tmp 4]):=by kernel_rfl
theorem sK193:Sound Tryz.prog 193 (.dat true vu):=by
  apply Q4 (hc:=cK193) h83 <;> first | exact (rfl:@Eq Spec _ _) | skip
  all_goals decide
def L84:List (Nat×Spec):=(193,.dat true vu)::L83
theorem h84:Holds Tryz.prog (Gl L84):=qa h83 sK193
theorem cK217:check Tryz.prog 217=some (53,zc.strip,[]):=by kernel_rfl
theorem sK217:Sound Tryz.prog 217 (.own (UA 193)):=by
  apply yaw (hc:=cK217) h84 <;> first | exact (rfl:@Eq Spec _ _) | skip
  all_goals decide
def L85:List (Nat×Spec):=(217,.own (UA 193))::L84
theorem h85:Holds Tryz.prog (Gl L85):=qa h84 sK217
theorem cK228:check Tryz.prog 228=some (38,Yc.strip,[]):=by kernel_rfl
theorem sK228:Sound Tryz.prog 228 (.own (ky 193)):=by
  apply Xaw (hc:=cK228) h85 <;> first | exact (rfl:@Eq Spec _ _) | skip
  all_goals decide
def L86:List (Nat×Spec):=(228,.own (ky 193))::L85
theorem h86:Holds Tryz.prog (Gl L86):=qa h85 sK228
theorem cK225:check Tryz.prog 225=some (58,(kd 228).strip,[]):=by kernel_rfl
theorem sK225:Sound Tryz.prog 225 (.own (uB 193)):=by
  apply Qay (hc:=cK225) h86 <;> first | exact (rfl:@Eq Spec _ _) | skip
  all_goals decide
def L87:List (Nat×Spec):=(225,.own (uB 193))::L86
theorem h87:Holds Tryz.prog (Gl L87):=qa h86 sK225
theorem cK218:check Tryz.prog 218=some (220,(qb 225 218).strip,[]):=by kernel_rfl
theorem sK218:Sound Tryz.prog 218 (.own (Yg 193 10000)):=by
  apply xT (hc:=cK218) h87 <;> first | exact (rfl:@Eq Spec _ _) | skip
  all_goals decide
def L88:List (Nat×Spec):=(218,.own (Yg 193 10000))::L87
theorem h88:Holds Tryz.prog (Gl L88):=qa h87 sK218
theorem cK207:check Tryz.prog 207=some (63,(Vd 217 218).strip,[]):=by kernel_rfl
theorem sK207:Sound Tryz.prog 207 (.own (Jx 193 10000)):=by
  apply Qag (hc:=cK207) h88 <;> first | exact (rfl:@Eq Spec _ _) | skip
  all_goals decide
def L89:List (Nat×Spec):=(207,.own (Jx 193 10000))::L88
theorem h89:Holds Tryz.prog (Gl L89):=qa h88 sK207
theorem cK192:check Tryz.prog 192=some (9,(Jd 207).strip,[]):=by kernel_rfl
theorem sK192:Sound Tryz.prog 192 (.own (Us 193 10000)):=by
  apply jae (hc:=cK192) h89 <;> first | exact (rfl:@Eq Spec _ _) | skip
  all_goals decide
def L90:List (Nat×Spec):=(192,.own (Us 193 10000))::L89
theorem h90:Holds Tryz.prog (Gl L90):=qa h89 sK192
theorem cK195:check Tryz.prog 195=some (7,(vq 65).strip,[.tmp 2]):=by kernel_rfl
theorem sK195:Sound Tryz.prog 195 (.dat true zy):=by
  apply Jax (hc:=cK195) h90 <;> first | exact (rfl:@Eq Spec _ _) | skip
  all_goals decide
def L91:List (Nat×Spec):=(195,.dat true zy)::L90
theorem h91:Holds Tryz.prog (Gl L91):=qa h90 sK195
theorem cK210:check Tryz.prog 210=some (19,jf.strip,[.tmp 4]):=by kernel_rfl
theorem sK210:Sound Tryz.prog 210 (.dat true (jC 195)):=by
  apply Vaw (hc:=cK210) h91 <;> first | exact (rfl:@Eq Spec _ _) | skip
  all_goals decide
def L92:List (Nat×Spec):=(210,.dat true (jC 195))::L91
theorem h92:Holds Tryz.prog (Gl L92):=qa h91 sK210
theorem cK194:check Tryz.prog 194=some (42,(Ub 210).strip,[.tmp 4]):=by kernel_rfl
theorem sK194:Sound Tryz.prog 194 (.own (xB 195)):=by
  apply kaz (hc:=cK194) h92 <;> first | exact (rfl:@Eq Spec _ _) | skip
  all_goals decide
def L93:List (Nat×Spec):=(194,.own (xB 195))::L92
theorem h93:Holds Tryz.prog (Gl L93):=qa h92 sK194
theorem cK156:check Tryz.prog 156=some (60,(uv 157 192 193 107 194 195).strip,[.tmp 2]):=by kernel_rfl
theorem sK156:Sound Tryz.prog 156 (.dat false (ku 10000)):=by
  apply Vaz (hc:=cK156) h93 <;> first | exact (rfl:@Eq Spec _ _) | skip
  all_goals decide
def L94:List (Nat×Spec):=(156,.dat false (ku 10000))::L93
theorem h94:Holds Tryz.prog (Gl L94):=qa h93 sK156
theorem cK152:check Tryz.prog 152=some (28,(vm 190 64 156 55).strip,[.tmp 2,.tmp 3]):=by kernel_rfl
theorem sK152:Sound Tryz.prog 152 (.dat false (Jt 55)):=by
  apply zac (hc:=cK152) h94 <;> first | exact (rfl:@Eq Spec _ _) | skip
  all_goals decide
def L95:List (Nat×Spec):=(152,.dat false (Jt 55))::L94
theorem h95:Holds Tryz.prog (Gl L95):=qa h94 sK152
theorem cK120:check Tryz.prog 120=some (17,Qe.strip,[.tmp 6]):=by kernel_rfl
theorem sK120:Sound Tryz.prog 120 (.red qk):=by
  apply uag (hc:=cK120) h95 <;> first | exact (rfl:@Eq Spec _ _) | skip
  all_goals decide
def L96:List (Nat×Spec):=(120,.red qk)::L95
theorem h96:Holds Tryz.prog (Gl L96):=qa h95 sK120
theorem cK113:check Tryz.prog 113=some (23,(Qc 71 116 152 120).strip,[.tmp 6]):=by kernel_rfl
theorem sK113:Sound Tryz.prog 113 (.red UB):=by
  apply Qaw (hc:=cK113) h96 <;> first | exact (rfl:@Eq Spec _ _) | skip
  all_goals decide
def L97:List (Nat×Spec):=(113,.red UB)::L96
theorem h97:Holds Tryz.prog (Gl L97):=qa h96 sK113
theorem cK160:check Tryz.prog 160=some (48,(Uj 190 64 65 193 55).strip,[.tmp 2]):=by kernel_rfl
theorem sK160:Sound Tryz.prog 160 (.dat false (jm 55)):=by
  apply V8 (hc:=cK160) h97 <;> first | exact (rfl:@Eq Spec _ _) | skip
  all_goals decide
def L98:List (Nat×Spec):=(160,.dat false (jm 55))::L97
theorem h98:Holds Tryz.prog (Gl L98):=qa h97 sK160
theorem cK158:check Tryz.prog 158=some (28,(Xq 70).strip,[.tmp 4]):=by kernel_rfl
theorem sK158:Sound Tryz.prog 158 (.dat false Qy):=by
  apply qaz (hc:=cK158) h98 <;> first | exact (rfl:@Eq Spec _ _) | skip
  all_goals decide
def L99:List (Nat×Spec):=(158,.dat false Qy)::L98
theorem h99:Holds Tryz.prog (Gl L99):=qa h98 sK158
theorem cK123:check Tryz.prog 123=some (16,(xj 160 158 156).strip,[.tmp 4,.tmp 5]):=by kernel_rfl
theorem sK123:Sound Tryz.prog 123 (.dat false (Un 55)):=by
  apply QY (hc:=cK123) h99 <;> first | exact (rfl:@Eq Spec _ _) | skip
  all_goals decide
def L100:List (Nat×Spec):=(123,.dat false (Un 55))::L99
theorem h100:Holds Tryz.prog (Gl L100):=qa h99 sK123
theorem cK69:check Tryz.prog 69=some (14,(xd 123 120).strip,[.tmp 6]):=by kernel_rfl
theorem sK69:Sound Tryz.prog 69 (.red Qm):=by
  apply UW (hc:=cK69) h100 <;> first | exact (rfl:@Eq Spec _ _) | skip
  all_goals decide
def L101:List (Nat×Spec):=(69,.red Qm)::L100
theorem h101:Holds Tryz.prog (Gl L101):=qa h100 sK69
theorem cK155:check Tryz.prog 155=some (18,(yn 160).strip,[.tmp 2]):=by kernel_rfl
theorem sK155:Sound Tryz.prog 155 (.dat false (xg 55)):=by
  apply uQ (hc:=cK155) h101 <;> first | exact (rfl:@Eq Spec _ _) | skip
  all_goals decide
def L102:List (Nat×Spec):=(155,.dat false (xg 55))::L101
theorem h102:Holds Tryz.prog (Gl L102):=qa h101 sK155
theorem cK121:check Tryz.prog 121=some (21,(Zp 155 157 71 158 156).strip,[.tmp 4,.tmp 5]):=by kernel_rfl
theorem sK121:Sound Tryz.prog 121 (.dat false (zB 55)):=by
  apply Jaz (hc:=cK121) h102 <;> first | exact (rfl:@Eq Spec _ _) | skip
  all_goals decide
def L103:List (Nat×Spec):=(121,.dat false (zB 55))::L102
theorem h103:Holds Tryz.prog (Gl L103):=qa h102 sK121
theorem cK67:check Tryz.prog 67=some (14,(xe 121 120).strip,[.tmp 6]):=by kernel_rfl
theorem sK67:Sound Tryz.prog 67 (.red xw):=by
  apply kax (hc:=cK67) h103 <;> first | exact (rfl:@Eq Spec _ _) | skip
  all_goals decide
def L104:List (Nat×Spec):=(67,.red xw)::L103
theorem h104:Holds Tryz.prog (Gl L104):=qa h103 sK67
theorem cK206:check Tryz.prog 206=some (27,xl.strip,[.tmp 4]):=by kernel_rfl
theorem sK206:Sound Tryz.prog 206 (.fresh 5 Qw):=by
  apply Wag (hc:=cK206) h104 <;> first | exact (rfl:@Eq Spec _ _) | skip
  all_goals decide
def L105:List (Nat×Spec):=(206,.fresh 5 Qw)::L104
theorem h105:Holds Tryz.prog (Gl L105):=qa h104 sK206
theorem cK191:check Tryz.prog 191=some (36,(Jj 206).strip,[.tmp 2]):=by kernel_rfl
theorem sK191:Sound Tryz.prog 191 (.fresh 5 Xu):=by
  apply jaf (hc:=cK191) h105 <;> first | exact (rfl:@Eq Spec _ _) | skip
  all_goals decide
def L106:List (Nat×Spec):=(191,.fresh 5 Xu)::L105
theorem h106:Holds Tryz.prog (Gl L106):=qa h105 sK191
theorem cK154:check Tryz.prog 154=some (19,(Qp 155 191 156).strip,[.tmp 4,.tmp 5]):=by kernel_rfl
theorem sK154:Sound Tryz.prog 154 (.dat false (uz 55)):=by
  apply zaA (hc:=cK154) h106 <;> first | exact (rfl:@Eq Spec _ _) | skip
  all_goals decide
def L107:List (Nat×Spec):=(154,.dat false (uz 55))::L106
theorem h107:Holds Tryz.prog (Gl L107):=qa h106 sK154
theorem cK118:check Tryz.prog 118=some (14,(ue 154 120).strip,[.tmp 6]):=by kernel_rfl
theorem sK118:Sound Tryz.prog 118 (.red zx):=by
  apply Uax (hc:=cK118) h107 <;> first | exact (rfl:@Eq Spec _ _) | skip
  all_goals decide
def L108:List (Nat×Spec):=(118,.red zx)::L107
theorem h108:Holds Tryz.prog (Gl L108):=qa h107 sK118
theorem cK115:check Tryz.prog 115=some (34,(ud 69 67 118).strip,[.cell 8 2 true]):=by kernel_rfl
theorem sK115:Sound Tryz.prog 115 (.red YA):=by
  apply YaA (hc:=cK115) h108 <;> first | exact (rfl:@Eq Spec _ _) | skip
  all_goals decide
def L109:List (Nat×Spec):=(115,.red YA)::L108
theorem h109:Holds Tryz.prog (Gl L109):=qa h108 sK115
theorem cK117:check Tryz.prog 117=some (12,(Wl 70 107).strip,[.cell 4 3 true]):=by kernel_rfl
theorem sK117:Sound Tryz.prog 117 (.dat false YB):=by
  apply jay (hc:=cK117) h109 <;> first | exact (rfl:@Eq Spec _ _) | skip
  all_goals decide
def L110:List (Nat×Spec):=(117,.dat false YB)::L109
theorem h110:Holds Tryz.prog (Gl L110):=qa h109 sK117
theorem cK159:check Tryz.prog 159=some (21,Zj.strip,[.tmp 2]):=by kernel_rfl
theorem sK159:Sound Tryz.prog 159 (.dat true qC):=by
  apply xaB (hc:=cK159) h110 <;> first | exact (rfl:@Eq Spec _ _) | skip
  all_goals decide
def L111:List (Nat×Spec):=(159,.dat true qC)::L110
theorem h111:Holds Tryz.prog (Gl L111):=qa h110 sK159
theorem cK122:check Tryz.prog 122=some (71,(jk 155 159 70 156 55).strip,[.tmp 4,.tmp 5]):=by kernel_rfl
theorem sK122:Sound Tryz.prog 122 (.dat false (QB 55)):=by
  apply qaB (hc:=cK122) h111 <;> first | exact (rfl:@Eq Spec _ _) | skip
  all_goals decide
def L112:List (Nat×Spec):=(122,.dat false (QB 55))::L111
theorem h112:Holds Tryz.prog (Gl L112):=qa h111 sK122
theorem cK68:check Tryz.prog 68=some (14,(Ye 122 120).strip,[.tmp 6]):=by kernel_rfl
theorem sK68:Sound Tryz.prog 68 (.red Uw):=by
  apply JaA (hc:=cK68) h112 <;> first | exact (rfl:@Eq Spec _ _) | skip
  all_goals decide
def L113:List (Nat×Spec):=(68,.red Uw)::L112
theorem h113:Holds Tryz.prog (Gl L113):=qa h112 sK68
theorem cK72:check Tryz.prog 72=some (19,(qe 68 118).strip,[.tmp 4]):=by kernel_rfl
theorem sK72:Sound Tryz.prog 72 (.red Jy):=by
  apply Jaw (hc:=cK72) h113 <;> first | exact (rfl:@Eq Spec _ _) | skip
  all_goals decide
def L114:List (Nat×Spec):=(72,.red Jy)::L113
theorem h114:Holds Tryz.prog (Gl L114):=qa h113 sK72
theorem cK119:check Tryz.prog 119=some (13,(zd 152 120).strip,[.tmp 4]):=by kernel_rfl
theorem sK119:Sound Tryz.prog 119 (.red Yz):=by
  apply kaB (hc:=cK119) h114 <;> first | exact (rfl:@Eq Spec _ _) | skip
  all_goals decide
def L115:List (Nat×Spec):=(119,.red Yz)::L114
theorem h115:Holds Tryz.prog (Gl L115):=qa h114 sK119
theorem cK66:check Tryz.prog 66=some (111,(Xd 113 71 114 116 115 117 70 72 119 118 67 68).strip,[.cell 4 7 true]):=by kernel_rfl
theorem sK66:Sound Tryz.prog 66 (.red ZB):=by
  apply JaB (hc:=cK66) h115 <;> first | exact (rfl:@Eq Spec _ _) | skip
  all_goals decide
def L116:List (Nat×Spec):=(66,.red ZB)::L115
theorem h116:Holds Tryz.prog (Gl L116):=qa h115 sK66
theorem cK27:check Tryz.prog 27=some (78,(ui 26 66 68 67 71 70 69 72).strip,[.tmp 2,.tmp 3]):=by kernel_rfl
theorem sK27:Sound Tryz.prog 27 (.dat false (yy 55)):=by
  apply ZaB (hc:=cK27) h116 <;> first | exact (rfl:@Eq Spec _ _) | skip
  all_goals decide
def L117:List (Nat×Spec):=(27,.dat false (yy 55))::L116
theorem h117:Holds Tryz.prog (Gl L117):=qa h116 sK27
theorem cK12:check Tryz.prog 12=some (75,(vg 27 46).strip,[.tmp 4,.tmp 5]):=by kernel_rfl
theorem sK12:Sound Tryz.prog 12 (.dat false (wB 55)):=by
  apply Zaw (hc:=cK12) h117 <;> first | exact (rfl:@Eq Spec _ _) | skip
  all_goals decide
def L118:List (Nat×Spec):=(12,.dat false (wB 55))::L117
theorem h118:Holds Tryz.prog (Gl L118):=qa h117 sK12
theorem cK211:check Tryz.prog 211=some (15,Jb.strip,[.tmp 2]):=by kernel_rfl
theorem sK211:Sound Tryz.prog 211 (.dat false jo):=by
  apply X6 (hc:=cK211) h118 <;> first | exact (rfl:@Eq Spec _ _) | skip
  all_goals decide
def L119:List (Nat×Spec):=(211,.dat false jo)::L118
theorem h119:Holds Tryz.prog (Gl L119):=qa h118 sK211
theorem cK198:check Tryz.prog 198=some (54,(xc 211 212 213 214).strip,[.tmp 4]):=by kernel_rfl
theorem sK198:Sound Tryz.prog 198 (.dat false Yu):=by
  apply xae (hc:=cK198) h119 <;> first | exact (rfl:@Eq Spec _ _) | skip
  all_goals decide
def L120:List (Nat×Spec):=(198,.dat false Yu)::L119
theorem h120:Holds Tryz.prog (Gl L120):=qa h119 sK198
theorem cK170:check Tryz.prog 170=some (5,(je 198).strip,[.tmp 2]):=by kernel_rfl
theorem sK170:Sound Tryz.prog 170 (.dat false jl):=by
  apply vad (hc:=cK170) h120 <;> first | exact (rfl:@Eq Spec _ _) | skip
  all_goals decide
def L121:List (Nat×Spec):=(170,.dat false jl)::L120
theorem h121:Holds Tryz.prog (Gl L121):=qa h120 sK170
theorem cK138:check Tryz.prog 138=some (5,(Up 170).strip,[.tmp 2]):=by kernel_rfl
theorem sK138:Sound Tryz.prog 138 (.dat false jl):=by
  apply XV (hc:=cK138) h121 <;> first | exact (rfl:@Eq Spec _ _) | skip
  all_goals decide
def L122:List (Nat×Spec):=(138,.dat false jl)::L121
theorem h122:Holds Tryz.prog (Gl L122):=qa h121 sK138
theorem cK140:check Tryz.prog 140=some (75,(xp 173 174 176).strip,[.tmp 4]):=by kernel_rfl
theorem sK140:Sound Tryz.prog 140 (.dat false Jw):=by
  apply Vab (hc:=cK140) h122 <;> first | exact (rfl:@Eq Spec _ _) | skip
  all_goals decide
def L123:List (Nat×Spec):=(140,.dat false Jw)::L122
theorem h123:Holds Tryz.prog (Gl L123):=qa h122 sK140
theorem cK95:check Tryz.prog 95=some (44,(Yp 135 137 138 139 140 136).strip,[.tmp 2]):=by kernel_rfl
theorem sK95:Sound Tryz.prog 95 (.dat false ko):=by
  apply WU (hc:=cK95) h123 <;> first | exact (rfl:@Eq Spec _ _) | skip
  all_goals decide
def L124:List (Nat×Spec):=(95,.dat false ko)::L123
theorem h124:Holds Tryz.prog (Gl L124):=qa h123 sK95
theorem cK45:check Tryz.prog 45=some (22,(yi 92 94 93 95).strip,[.tmp 2]):=by kernel_rfl
theorem sK45:Sound Tryz.prog 45 (.dat false Uo):=by
  apply jV (hc:=cK45) h124 <;> first | exact (rfl:@Eq Spec _ _) | skip
  all_goals decide
def L125:List (Nat×Spec):=(45,.dat false Uo)::L124
theorem h125:Holds Tryz.prog (Gl L125):=qa h124 sK45
theorem cK10:check Tryz.prog 10=some (60,(Jf 44 16 17 12 45).strip,[.tmp 0]):=by kernel_rfl
theorem sK10:Sound Tryz.prog 10 (.dat true yu):=by
  apply xag (hc:=cK10) h125 <;> first | exact (rfl:@Eq Spec _ _) | skip
  all_goals decide
def L126:List (Nat×Spec):=(10,.dat true yu)::L125
theorem h126:Holds Tryz.prog (Gl L126):=qa h125 sK10
theorem cK11:check Tryz.prog 11=some (44,Qf.strip,[.tmp 2]):=by kernel_rfl
theorem sK11:Sound Tryz.prog 11 (.dat true vB):=by
  apply uaz (hc:=cK11) h126 <;> first | exact (rfl:@Eq Spec _ _) | skip
  all_goals decide
def L127:List (Nat×Spec):=(11,.dat true vB)::L126
theorem h127:Holds Tryz.prog (Gl L127):=qa h126 sK11
theorem cK53:check Tryz.prog 53=some (8,(yg 71 52 83).strip,[.cell 2 6 true]):=by kernel_rfl
theorem sK53:Sound Tryz.prog 53 (.dat false jy):=by
  apply xaw (hc:=cK53) h127 <;> first | exact (rfl:@Eq Spec _ _) | skip
  all_goals decide
def L128:List (Nat×Spec):=(53,.dat false jy)::L127
theorem h128:Holds Tryz.prog (Gl L128):=qa h127 sK53
theorem cK18:check Tryz.prog 18=some (25,(Vh 26 53 51).strip,[.cell 2 27 true,.tmp 3]):=by kernel_rfl
theorem sK18:Sound Tryz.prog 18 (.dat false (UP 55)):=by
  apply xaJ (hc:=cK18) h128 <;> first | exact (rfl:@Eq Spec _ _) | skip
  all_goals decide
def L129:List (Nat×Spec):=(18,.dat false (UP 55))::L128
theorem h129:Holds Tryz.prog (Gl L129):=qa h128 sK18
theorem cK54:check Tryz.prog 54=some (32,(vl 86 107).strip,[.cell 2 27 true]):=by kernel_rfl
theorem sK54:Sound Tryz.prog 54 (.dat false jv):=by
  apply kaf (hc:=cK54) h129 <;> first | exact (rfl:@Eq Spec _ _) | skip
  all_goals decide
def L130:List (Nat×Spec):=(54,.dat false jv)::L129
theorem h130:Holds Tryz.prog (Gl L130):=qa h129 sK54
theorem cK19:check Tryz.prog 19=some (36,(Xk 26 54 53).strip,[.cell 2 27 true,.tmp 3]):=by kernel_rfl
theorem sK19:Sound Tryz.prog 19 (.dat false (uO 55)):=by
  apply qaT (hc:=cK19) h130 <;> first | exact (rfl:@Eq Spec _ _) | skip
  all_goals decide
def L131:List (Nat×Spec):=(19,.dat false (uO 55))::L130
theorem h131:Holds Tryz.prog (Gl L131):=qa h130 sK19
theorem cK14:check Tryz.prog 14=some (15,(we 55).strip,[.tmp 2]):=by kernel_rfl
theorem sK14:Sound Tryz.prog 14 (.dat true (QC 55)):=by
  apply xaz (hc:=cK14) h131 <;> first | exact (rfl:@Eq Spec _ _) | skip
  all_goals decide
def L132:List (Nat×Spec):=(14,.dat true (QC 55))::L131
theorem h132:Holds Tryz.prog (Gl L132):=qa h131 sK14
theorem cK28:check Tryz.prog 28=some (9,(Vk 14).strip,[.tmp 4]):=by kernel_rfl
theorem sK28:Sound Tryz.prog 28 (.dat true (WS 55)):=by
  apply waK (hc:=cK28) h132 <;> first | exact (rfl:@Eq Spec _ _) | skip
  all_goals decide
def L133:List (Nat×Spec):=(28,.dat true (WS 55))::L132
theorem h133:Holds Tryz.prog (Gl L133):=qa h132 sK28
theorem cK108:check Tryz.prog 108=some (26,Xg.strip,[.tmp 4]):=by kernel_rfl
theorem sK108:Sound Tryz.prog 108 (.dat true Xn):=by
  apply Z1 (hc:=cK108) h133 <;> first | exact (rfl:@Eq Spec _ _) | skip
  all_goals decide
def L134:List (Nat×Spec):=(108,.dat true Xn)::L133
theorem h134:Holds Tryz.prog (Gl L134):=qa h133 sK108
theorem cK55:check Tryz.prog 55=some (24,(wj 108).strip,[.tmp 4]):=by kernel_rfl
theorem sK55:Sound Tryz.prog 55 (.dat true uA):=by
  apply Yay (hc:=cK55) h134 <;> first | exact (rfl:@Eq Spec _ _) | skip
  all_goals decide
def L135:List (Nat×Spec):=(55,.dat true uA)::L134
theorem h135:Holds Tryz.prog (Gl L135):=qa h134 sK55
theorem cK29:check Tryz.prog 29=some (55,(xf 55).strip,[.tmp 4]):=by kernel_rfl
theorem sK29:Sound Tryz.prog 29 (.dat false Qo):=by
  apply jU (hc:=cK29) h135 <;> first | exact (rfl:@Eq Spec _ _) | skip
  all_goals decide
def L136:List (Nat×Spec):=(29,.dat false Qo)::L135
theorem h136:Holds Tryz.prog (Gl L136):=qa h135 sK29
theorem cK5:check Tryz.prog 5=some (94,(jb 10 11 26 27 17 18 19 28 29).strip,[.tmp 2]):=by kernel_rfl
theorem sK5:Sound Tryz.prog 5 (.dat true Uk):=by
  apply jT (hc:=cK5) h136 <;> first | exact (rfl:@Eq Spec _ _) | skip
  all_goals decide
def L137:List (Nat×Spec):=(5,.dat true Uk)::L136
theorem h137:Holds Tryz.prog (Gl L137):=qa h136 sK5
theorem hold:Holds Tryz.prog (Gl L137):=h137
end Go.Abs
