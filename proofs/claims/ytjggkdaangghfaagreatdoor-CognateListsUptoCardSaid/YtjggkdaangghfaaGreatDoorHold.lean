/-
  The contracts of this seat's functions, gathered.
-/
import Derived.Test.YtjggkdaangghfaaGreatDoorChecked
import Derived.Test.YtjggkdaangghfaaGreatDoorBits
import Derived.KernelRfl
import Derived.Test.YtjggkdaangghfaaGreatDoorM13
set_option maxRecDepth 100000
set_option linter.unusedVariables false
namespace Go.Abs
open Go.Proofs
noncomputable abbrev qPp:=Tryz.prog
abbrev qLS:=List (Nat×Spec)
abbrev qHL(l:qLS):=Holds qPp (Gl l)
theorem qrS{a:Spec}:a=a:=rfl
theorem cK166:check qPp 166=some (25,Jd.strip,[.tmp 2]):=by kernel_rfl
theorem sK166:Sound qPp 166 (.fresh 1 Uv):=by
  apply xaG (hc:=cK166) U2<;>first|exact qrS|skip
  all_goals decide
def L1:qLS:=(166,.fresh 1 Uv)::[]
theorem h1:qHL L1:=qa U2 sK166
theorem cK130:check qPp 130=some (14,(kj 166).strip,[.cell 4 2 true]):=by kernel_rfl
theorem sK130:Sound qPp 130 (.dat false Yf):=by
  apply Jaa (hc:=cK130) h1<;>first|exact qrS|skip
  all_goals decide
def L2:qLS:=(130,.dat false Yf)::L1
theorem h2:qHL L2:=qa h1 sK130
theorem cK81:check qPp 81=some (19,(Ys 130).strip,[.cell 2 2 true]):=by kernel_rfl
theorem sK81:Sound qPp 81 (.dat false XH):=by
  apply X7 (hc:=cK81) h2<;>first|exact qrS|skip
  all_goals decide
def L3:qLS:=(81,.dat false XH)::L2
theorem h3:qHL L3:=qa h2 sK81
theorem cK162:check qPp 162=some (19,jm.strip,[.tmp 2]):=by kernel_rfl
theorem sK162:Sound qPp 162 (.dat true kk):=by
  apply WI (hc:=cK162) h3<;>first|exact qrS|skip
  all_goals decide
def L4:qLS:=(162,.dat true kk)::L3
theorem h4:qHL L4:=qa h3 sK162
theorem cK126:check qPp 126=some (8,(Vq 162).strip,[.tmp 2]):=by kernel_rfl
theorem sK126:Sound qPp 126 (.dat false yk):=by
  apply JR (hc:=cK126) h4<;>first|exact qrS|skip
  all_goals decide
def L5:qLS:=(126,.dat false yk)::L4
theorem h5:qHL L5:=qa h4 sK126
theorem cK127:check qPp 127=some (9,(Yp 162).strip,[.tmp 2]):=by kernel_rfl
theorem sK127:Sound qPp 127 (.dat true Wg):=by
  apply zM (hc:=cK127) h5<;>first|exact qrS|skip
  all_goals decide
def L6:qLS:=(127,.dat true Wg)::L5
theorem h6:qHL L6:=qa h5 sK127
theorem cK78:check qPp 78=some (9,(qj 126 127).strip,[.tmp 2]):=by kernel_rfl
theorem sK78:Sound qPp 78 (.dat true ug):=by
  apply zV (hc:=cK78) h6<;>first|exact qrS|skip
  all_goals decide
def L7:qLS:=(78,.dat true ug)::L6
theorem h7:qHL L7:=qa h6 sK78
theorem cK128:check qPp 128=some (9,(vq 127 126 130).strip,[.cell 2 2 true]):=by kernel_rfl
theorem sK128:Sound qPp 128 (.dat false Jw):=by
  apply wP (hc:=cK128) h7<;>first|exact qrS|skip
  all_goals decide
def L8:qLS:=(128,.dat false Jw)::L7
theorem h8:qHL L8:=qa h7 sK128
theorem cK197:check qPp 197=some (14,Zo.strip,[.tmp 4]):=by kernel_rfl
theorem sK197:Sound qPp 197 (.dat true Vn):=by
  apply vT (hc:=cK197) h8<;>first|exact qrS|skip
  all_goals decide
def L9:qLS:=(197,.dat true Vn)::L8
theorem h9:qHL L9:=qa h8 sK197
theorem cK179:check qPp 179=some (21,xk.strip,[.tmp 2]):=by kernel_rfl
theorem sK179:Sound qPp 179 (.own kae):=by
  apply za1 (hc:=cK179) h9<;>first|exact qrS|skip
  all_goals decide
def L10:qLS:=(179,.own kae)::L9
theorem h10:qHL L10:=qa h9 sK179
theorem cK177:check qPp 177=some (26,(Yh 197 179).strip,[.tmp 2]):=by kernel_rfl
theorem sK177:Sound qPp 177 (.own Yr):=by
  apply Zah (hc:=cK177) h10<;>first|exact qrS|skip
  all_goals decide
def L11:qLS:=(177,.own Yr)::L10
theorem h11:qHL L11:=qa h10 sK177
theorem cK167:check qPp 167=some (30,(xf 197).strip,[.tmp 4]):=by kernel_rfl
theorem sK167:Sound qPp 167 (.dat true Xv):=by
  apply Yaj (hc:=cK167) h11<;>first|exact qrS|skip
  all_goals decide
def L12:qLS:=(167,.dat true Xv)::L11
theorem h12:qHL L12:=qa h11 sK167
theorem cK178:check qPp 178=some (31,(Ue 197).strip,[]):=by kernel_rfl
theorem sK178:Sound qPp 178 (.own ky):=by
  apply vaH (hc:=cK178) h12<;>first|exact qrS|skip
  all_goals decide
def L13:qLS:=(178,.own ky)::L12
theorem h13:qHL L13:=qa h12 sK178
theorem cK164:check qPp 164=some (37,(yj 197 166).strip,[.tmp 4]):=by kernel_rfl
theorem sK164:Sound qPp 164 (.dat false Ur):=by
  apply W1 (hc:=cK164) h13<;>first|exact qrS|skip
  all_goals decide
def L14:qLS:=(164,.dat false Ur)::L13
theorem h14:qHL L14:=qa h13 sK164
theorem cK144:check qPp 144=some (72,(Uk 166 177 167 178 179 164).strip,[.tmp 4]):=by kernel_rfl
theorem sK144:Sound qPp 144 (.dat false Xy):=by
  apply Vaj (hc:=cK144) h14<;>first|exact qrS|skip
  all_goals decide
def L15:qLS:=(144,.dat false Xy)::L14
theorem h15:qHL L15:=qa h14 sK144
theorem cK99:check qPp 99=some (11,(wl 126 144 130).strip,[.cell 4 2 true]):=by kernel_rfl
theorem sK99:Sound qPp 99 (.dat false vu):=by
  apply X8 (hc:=cK99) h15<;>first|exact qrS|skip
  all_goals decide
def L16:qLS:=(99,.dat false vu)::L15
theorem h16:qHL L16:=qa h15 sK99
theorem cK196:check qPp 196=some (25,wj.strip,[.tmp 2]):=by kernel_rfl
theorem sK196:Sound qPp 196 (.dat true Jt):=by
  apply J7 (hc:=cK196) h16<;>first|exact qrS|skip
  all_goals decide
def L17:qLS:=(196,.dat true Jt)::L16
theorem h17:qHL L17:=qa h16 sK196
theorem cK163:check qPp 163=some (76,(vg 196 167 178 166).strip,[.tmp 4,.tmp 5]):=by kernel_rfl
theorem sK163:Sound qPp 163 (.dat false wi):=by
  apply yO (hc:=cK163) h17<;>first|exact qrS|skip
  all_goals decide
def L18:qLS:=(163,.dat false wi)::L17
theorem h18:qHL L18:=qa h17 sK163
theorem cK165:check qPp 165=some (35,(uh 197 166).strip,[.tmp 4]):=by kernel_rfl
theorem sK165:Sound qPp 165 (.dat false zu):=by
  apply qW (hc:=cK165) h18<;>first|exact qrS|skip
  all_goals decide
def L19:qLS:=(165,.dat false zu)::L18
theorem h19:qHL L19:=qa h18 sK165
theorem cK129:check qPp 129=some (45,(Zl 78 126 163 127 164 165 130).strip,[.cell 4 2 true,.cell 5 2 true,.tmp 6]):=by kernel_rfl
theorem sK129:Sound qPp 129 (.dat false qs):=by
  apply J5 (hc:=cK129) h19<;>first|exact qrS|skip
  all_goals decide
def L20:qLS:=(129,.dat false qs)::L19
theorem h20:qHL L20:=qa h19 sK129
theorem cK80:check qPp 80=some (47,(ui 78 128 99 129).strip,[.cell 4 3 true]):=by kernel_rfl
theorem sK80:Sound qPp 80 (.dat false Zj):=by
  apply qX (hc:=cK80) h20<;>first|exact qrS|skip
  all_goals decide
def L21:qLS:=(80,.dat false Zj)::L20
theorem h21:qHL L21:=qa h20 sK80
theorem cK133:check qPp 133=some (13,(Xj 78 80).strip,[.cell 4 3 true,.tmp 5]):=by kernel_rfl
theorem sK133:Sound qPp 133 (.dat false xp):=by
  apply W5 (hc:=cK133) h21<;>first|exact qrS|skip
  all_goals decide
def L22:qLS:=(133,.dat false xp)::L21
theorem h22:qHL L22:=qa h21 sK133
theorem cK90:check qPp 90=some (13,(Wj 81 133).strip,[.cell 4 3 true,.tmp 5]):=by kernel_rfl
theorem sK90:Sound qPp 90 (.dat false jz):=by
  apply vae (hc:=cK90) h22<;>first|exact qrS|skip
  all_goals decide
def L23:qLS:=(90,.dat false jz)::L22
theorem h23:qHL L23:=qa h22 sK90
theorem cK82:check qPp 82=some (2,(wn 81).strip,[.cell 0 2 true]):=by kernel_rfl
theorem sK82:Sound qPp 82 (.dat false xq):=by
  apply WR (hc:=cK82) h23<;>first|exact qrS|skip
  all_goals decide
def L24:qLS:=(82,.dat false xq)::L23
theorem h24:qHL L24:=qa h23 sK82
theorem cK33:check qPp 33=some (7,(Jq 81 82 80).strip,[.cell 2 3 true]):=by kernel_rfl
theorem sK33:Sound qPp 33 (.dat false QB):=by
  apply Jac (hc:=cK33) h24<;>first|exact qrS|skip
  all_goals decide
def L25:qLS:=(33,.dat false QB)::L24
theorem h25:qHL L25:=qa h24 sK33
theorem cK91:check qPp 91=some (10,(Um 33).strip,[.cell 4 6 true]):=by kernel_rfl
theorem sK91:Sound qPp 91 (.dat false vZ):=by
  apply QaV (hc:=cK91) h25<;>first|exact qrS|skip
  all_goals decide
def L26:qLS:=(91,.dat false vZ)::L25
theorem h26:qHL L26:=qa h25 sK91
theorem cK44:check qPp 44=some (15,(Uf 90 33 91).strip,[.cell 0 27 true]):=by kernel_rfl
theorem sK44:Sound qPp 44 (.dat false jD):=by
  apply QaD (hc:=cK44) h26<;>first|exact qrS|skip
  all_goals decide
def L27:qLS:=(44,.dat false jD)::L26
theorem h27:qHL L27:=qa h26 sK44
theorem cK110:check qPp 110=some (19,jm.strip,[.tmp 2]):=by kernel_rfl
theorem sK110:Sound qPp 110 (.dat true kk):=by
  apply WI (hc:=cK110) h27<;>first|exact qrS|skip
  all_goals decide
def L28:qLS:=(110,.dat true kk)::L27
theorem h28:qHL L28:=qa h27 sK110
theorem cK135:check qPp 135=some (8,(Vq 110).strip,[.tmp 2]):=by kernel_rfl
theorem sK135:Sound qPp 135 (.dat false yk):=by
  apply JR (hc:=cK135) h28<;>first|exact qrS|skip
  all_goals decide
def L29:qLS:=(135,.dat false yk)::L28
theorem h29:qHL L29:=qa h28 sK135
theorem cK134:check qPp 134=some (41,yo.strip,[.tmp 4]):=by kernel_rfl
theorem sK134:Sound qPp 134 (.dat false Vj):=by
  apply UZ (hc:=cK134) h29<;>first|exact qrS|skip
  all_goals decide
def L30:qLS:=(134,.dat false Vj)::L29
theorem h30:qHL L30:=qa h29 sK134
theorem cK169:check qPp 169=some (25,yu.strip,[.tmp 2]):=by kernel_rfl
theorem sK169:Sound qPp 169 (.dat false Uu):=by
  apply QaI (hc:=cK169) h30<;>first|exact qrS|skip
  all_goals decide
def L31:qLS:=(169,.dat false Uu)::L30
theorem h31:qHL L31:=qa h30 sK169
theorem cK137:check qPp 137=some (43,(Jr 169).strip,[.tmp 4,.tmp 5]):=by kernel_rfl
theorem sK137:Sound qPp 137 (.dat false xw):=by
  apply Wam (hc:=cK137) h31<;>first|exact qrS|skip
  all_goals decide
def L32:qLS:=(137,.dat false xw)::L31
theorem h32:qHL L32:=qa h31 sK137
theorem sK185:Sound qPp 185 (.dat true lz_G):=jaX (Wy Tryz.func185 (by kernel_rfl) (by kernel_rfl)) wbt JbD Tryz.bits_LeadingZeros32
def L33:qLS:=(185,.dat true lz_G)::L32
theorem h33:qHL L33:=qa h32 sK185
theorem cK186:check qPp 186=some (41,Vz.strip,[.tmp 4]):=by kernel_rfl
theorem sK186:Sound qPp 186 (.fresh 1 up_G):=by
  apply Ya9 (hc:=cK186) h33<;>first|exact qrS|skip
  all_goals decide
def L34:qLS:=(186,.fresh 1 up_G)::L33
theorem h34:qHL L34:=qa h33 sK186
theorem cK204:check qPp 204=some (14,Zo.strip,[.tmp 4]):=by kernel_rfl
theorem sK204:Sound qPp 204 (.dat true Vn):=by
  apply vT (hc:=cK204) h34<;>first|exact qrS|skip
  all_goals decide
def L35:qLS:=(204,.dat true Vn)::L34
theorem h35:qHL L35:=qa h34 sK204
theorem cK187:check qPp 187=some (46,(qp 204).strip,[.tmp 6]):=by kernel_rfl
theorem sK187:Sound qPp 187 (.own Xt):=by
  apply Z1 (hc:=cK187) h35<;>first|exact qrS|skip
  all_goals decide
def L36:qLS:=(187,.own Xt)::L35
theorem h36:qHL L36:=qa h35 sK187
theorem cK188:check qPp 188=some (30,(Qv 204).strip,[]):=by kernel_rfl
theorem sK188:Sound qPp 188 (.own jH):=by
  apply uaG (hc:=cK188) h36<;>first|exact qrS|skip
  all_goals decide
def L37:qLS:=(188,.own jH)::L36
theorem h37:qHL L37:=qa h36 sK188
theorem cK189:check qPp 189=some (35,(Vu 204 169).strip,[.tmp 4]):=by kernel_rfl
theorem sK189:Sound qPp 189 (.dat false zH):=by
  apply zaI (hc:=cK189) h37<;>first|exact qrS|skip
  all_goals decide
def L38:qLS:=(189,.dat false zH)::L37
theorem h38:qHL L38:=qa h37 sK189
theorem cK151:check qPp 151=some (158,(Wk 134 169 137 185 186 187 188 189).strip,[.tmp 4,.tmp 5]):=by kernel_rfl
theorem sK151:Sound qPp 151 (.dat false wi):=by
  apply Z6 (hc:=cK151) h38<;>first|exact qrS|skip
  all_goals decide
def L39:qLS:=(151,.dat false wi)::L38
theorem h39:qHL L39:=qa h38 sK151
theorem cK141:check qPp 141=some (15,(yr 169).strip,[.cell 4 2 true]):=by kernel_rfl
theorem sK141:Sound qPp 141 (.dat false Yf):=by
  apply vai (hc:=cK141) h39<;>first|exact qrS|skip
  all_goals decide
def L40:qLS:=(141,.dat false Yf)::L39
theorem h40:qHL L40:=qa h39 sK141
theorem cK111:check qPp 111=some (26,(Jx 135 151 141).strip,[.cell 4 2 true]):=by kernel_rfl
theorem sK111:Sound qPp 111 (.dat false vu):=by
  apply waI (hc:=cK111) h40<;>first|exact qrS|skip
  all_goals decide
def L41:qLS:=(111,.dat false vu)::L40
theorem h41:qHL L41:=qa h40 sK111
theorem cK125:check qPp 125=some (19,(Ys 141).strip,[.cell 2 2 true]):=by kernel_rfl
theorem sK125:Sound qPp 125 (.dat false XH):=by
  apply X7 (hc:=cK125) h41<;>first|exact qrS|skip
  all_goals decide
def L42:qLS:=(125,.dat false XH)::L41
theorem h42:qHL L42:=qa h41 sK125
theorem cK94:check qPp 94=some (2,(wn 125).strip,[.cell 0 2 true]):=by kernel_rfl
theorem sK94:Sound qPp 94 (.dat false xq):=by
  apply WR (hc:=cK94) h42<;>first|exact qrS|skip
  all_goals decide
def L43:qLS:=(94,.dat false xq)::L42
theorem h43:qHL L43:=qa h42 sK94
theorem cK112:check qPp 112=some (11,(xu 135).strip,[.tmp 2]):=by kernel_rfl
theorem sK112:Sound qPp 112 (.dat true ug):=by
  apply kal (hc:=cK112) h43<;>first|exact qrS|skip
  all_goals decide
def L44:qLS:=(112,.dat true ug)::L43
theorem h44:qHL L44:=qa h43 sK112
theorem cK136:check qPp 136=some (9,(Yp 110).strip,[.tmp 2]):=by kernel_rfl
theorem sK136:Sound qPp 136 (.dat true Wg):=by
  apply zM (hc:=cK136) h44<;>first|exact qrS|skip
  all_goals decide
def L45:qLS:=(136,.dat true Wg)::L44
theorem h45:qHL L45:=qa h44 sK136
theorem cK93:check qPp 93=some (28,(Xw 112 135 134 136).strip,[.tmp 4]):=by kernel_rfl
theorem sK93:Sound qPp 93 (.dat true QC):=by
  apply zaF (hc:=cK93) h45<;>first|exact qrS|skip
  all_goals decide
def L46:qLS:=(93,.dat true QC)::L45
theorem h46:qHL L46:=qa h45 sK93
theorem cK64:check qPp 64=some (50,(jp 110 111 94 93).strip,[.tmp 2]):=by kernel_rfl
theorem sK64:Sound qPp 64 (.dat true Ve):=by
  apply Q7 (hc:=cK64) h46<;>first|exact qrS|skip
  all_goals decide
def L47:qLS:=(64,.dat true Ve)::L46
theorem h47:qHL L47:=qa h46 sK64
theorem cK63:check qPp 63=some (11,(jh 64).strip,[.tmp 2]):=by kernel_rfl
theorem sK63:Sound qPp 63 (.dat true vi):=by
  apply YI (hc:=cK63) h47<;>first|exact qrS|skip
  all_goals decide
def L48:qLS:=(63,.dat true vi)::L47
theorem h48:qHL L48:=qa h47 sK63
theorem cK92:check qPp 92=some (28,(Zp 64 94).strip,[.cell 2 2 true,.cell 3 2 true]):=by kernel_rfl
theorem sK92:Sound qPp 92 (.dat false Xd):=by
  apply Qad (hc:=cK92) h48<;>first|exact qrS|skip
  all_goals decide
def L49:qLS:=(92,.dat false Xd)::L48
theorem h49:qHL L49:=qa h48 sK92
theorem cK65:check qPp 65=some (12,(xm 92 112).strip,[.tmp 2]):=by kernel_rfl
theorem sK65:Sound qPp 65 (.dat true Xk):=by
  apply xN (hc:=cK65) h49<;>first|exact qrS|skip
  all_goals decide
def L50:qLS:=(65,.dat true Xk)::L49
theorem h50:qHL L50:=qa h49 sK65
theorem cK142:check qPp 142=some (67,(jr 169).strip,[.tmp 4]):=by kernel_rfl
theorem sK142:Sound qPp 142 (.dat false Vr):=by
  apply Jag (hc:=cK142) h50<;>first|exact qrS|skip
  all_goals decide
def L51:qLS:=(142,.dat false Vr)::L50
theorem h51:qHL L51:=qa h50 sK142
theorem cK96:check qPp 96=some (16,(Up 136 135 142 141).strip,[.cell 4 2 true]):=by kernel_rfl
theorem sK96:Sound qPp 96 (.dat false Wv):=by
  apply XS (hc:=cK96) h51<;>first|exact qrS|skip
  all_goals decide
def L52:qLS:=(96,.dat false Wv)::L51
theorem h52:qHL L52:=qa h51 sK96
theorem cK46:check qPp 46=some (26,(Xu 92 96 93).strip,[.tmp 4]):=by kernel_rfl
theorem sK46:Sound qPp 46 (.dat true kf):=by
  apply Xal (hc:=cK46) h52<;>first|exact qrS|skip
  all_goals decide
def L53:qLS:=(46,.dat true kf)::L52
theorem h53:qHL L53:=qa h52 sK46
theorem cK26:check qPp 26=some (75,(Vh 63 64 65 46 55).strip,[.tmp 2]):=by kernel_rfl
theorem sK26:Sound qPp 26 (.dat false (Xx 55)):=by
  apply UaD (hc:=cK26) h53<;>first|exact qrS|skip
  all_goals decide
def L54:qLS:=(26,.dat false (Xx 55))::L53
theorem h54:qHL L54:=qa h53 sK26
theorem cK52:check qPp 52=some (8,Yi.strip,[.cell 2 6 true]):=by kernel_rfl
theorem sK52:Sound qPp 52 (.dat false UC):=by
  apply J6 (hc:=cK52) h54<;>first|exact qrS|skip
  all_goals decide
def L55:qLS:=(52,.dat false UC)::L54
theorem h55:qHL L55:=qa h54 sK52
theorem cK153:check qPp 153=some (9,(vq 136 135 141).strip,[.cell 2 2 true]):=by kernel_rfl
theorem sK153:Sound qPp 153 (.dat false Jw):=by
  apply wP (hc:=cK153) h55<;>first|exact qrS|skip
  all_goals decide
def L56:qLS:=(153,.dat false Jw)::L55
theorem h56:qHL L56:=qa h55 sK153
theorem cK183:check qPp 183=some (39,(Yv 204 169).strip,[.tmp 4]):=by kernel_rfl
theorem sK183:Sound qPp 183 (.dat false Ur):=by
  apply uaI (hc:=cK183) h56<;>first|exact qrS|skip
  all_goals decide
def L57:qLS:=(183,.dat false Ur)::L56
theorem h57:qHL L57:=qa h56 sK183
theorem cK184:check qPp 184=some (38,(Vv 204 169).strip,[.tmp 4]):=by kernel_rfl
theorem sK184:Sound qPp 184 (.dat false zu):=by
  apply jaD (hc:=cK184) h57<;>first|exact qrS|skip
  all_goals decide
def L58:qLS:=(184,.dat false zu)::L57
theorem h58:qHL L58:=qa h57 sK184
theorem cK161:check qPp 161=some (47,(jx 135 151 136 183 184 141 55).strip,[.cell 4 2 true,.cell 5 2 true,.tmp 6]):=by kernel_rfl
theorem sK161:Sound qPp 161 (.dat false XF):=by
  apply xaE (hc:=cK161) h58<;>first|exact qrS|skip
  all_goals decide
def L59:qLS:=(161,.dat false XF)::L58
theorem h59:qHL L59:=qa h58 sK161
theorem cK124:check qPp 124=some (47,(Wr 112 153 111 161).strip,[.cell 4 3 true]):=by kernel_rfl
theorem sK124:Sound qPp 124 (.dat false Zj):=by
  apply Xai (hc:=cK124) h59<;>first|exact qrS|skip
  all_goals decide
def L60:qLS:=(124,.dat false Zj)::L59
theorem h60:qHL L60:=qa h59 sK124
theorem cK116:check qPp 116=some (14,(Yn 92 153 124).strip,[.cell 2 3 true]):=by kernel_rfl
theorem sK116:Sound qPp 116 (.dat false jv):=by
  apply XP (hc:=cK116) h60<;>first|exact qrS|skip
  all_goals decide
def L61:qLS:=(116,.dat false jv)::L60
theorem h61:qHL L61:=qa h60 sK116
theorem cK149:check qPp 149=some (40,(uw 135 136 183 141 134 184).strip,[.cell 4 2 true]):=by kernel_rfl
theorem sK149:Sound qPp 149 (.dat false vy):=by
  apply xaI (hc:=cK149) h61<;>first|exact qrS|skip
  all_goals decide
def L62:qLS:=(149,.dat false vy)::L61
theorem h62:qHL L62:=qa h61 sK149
theorem cK107:check qPp 107=some (30,(Yo 92 96 149 124).strip,[.cell 4 3 true]):=by kernel_rfl
theorem sK107:Sound qPp 107 (.dat false uo):=by
  apply QT (hc:=cK107) h62<;>first|exact qrS|skip
  all_goals decide
def L63:qLS:=(107,.dat false uo)::L62
theorem h63:qHL L63:=qa h62 sK107
theorem cK114:check qPp 114=some (9,(Xn 116 107).strip,[.cell 4 3 true]):=by kernel_rfl
theorem sK114:Sound qPp 114 (.dat false Jv):=by
  apply ZP (hc:=cK114) h63<;>first|exact qrS|skip
  all_goals decide
def L64:qLS:=(114,.dat false Jv)::L63
theorem h64:qHL L64:=qa h63 sK114
theorem cK83:check qPp 83=some (16,(Zm 114).strip,[.cell 4 6 true]):=by kernel_rfl
theorem sK83:Sound qPp 83 (.dat false Ji):=by
  apply UD (hc:=cK83) h64<;>first|exact qrS|skip
  all_goals decide
def L65:qLS:=(83,.dat false Ji)::L64
theorem h65:qHL L65:=qa h64 sK83
theorem cK70:check qPp 70=some (26,(Un 92 96 124).strip,[.cell 4 3 true]):=by kernel_rfl
theorem sK70:Sound qPp 70 (.dat false Ul):=by
  apply XT (hc:=cK70) h65<;>first|exact qrS|skip
  all_goals decide
def L66:qLS:=(70,.dat false Ul)::L65
theorem h66:qHL L66:=qa h65 sK70
theorem cK85:check qPp 85=some (28,(xr 70 114 107).strip,[.cell 4 6 true]):=by kernel_rfl
theorem sK85:Sound qPp 85 (.dat false Wi):=by
  apply WW (hc:=cK85) h66<;>first|exact qrS|skip
  all_goals decide
def L67:qLS:=(85,.dat false Wi)::L66
theorem h67:qHL L67:=qa h66 sK85
theorem cK84:check qPp 84=some (16,(Xp 107).strip,[.cell 4 6 true]):=by kernel_rfl
theorem sK84:Sound qPp 84 (.dat false Qo):=by
  apply VO (hc:=cK84) h67<;>first|exact qrS|skip
  all_goals decide
def L68:qLS:=(84,.dat false Qo)::L67
theorem h68:qHL L68:=qa h67 sK84
theorem cK50:check qPp 50=some (14,(Vm 52 83 85 84).strip,[.cell 2 6 true]):=by kernel_rfl
theorem sK50:Sound qPp 50 (.dat false Qw):=by
  apply kR (hc:=cK50) h68<;>first|exact qrS|skip
  all_goals decide
def L69:qLS:=(50,.dat false Qw)::L68
theorem h69:qHL L69:=qa h68 sK50
theorem cK16:check qPp 16=some (13,(Ym 26 50).strip,[.cell 2 6 true,.tmp 3]):=by kernel_rfl
theorem sK16:Sound qPp 16 (.dat false (JV 55)):=by
  apply YaV (hc:=cK16) h69<;>first|exact qrS|skip
  all_goals decide
def L70:qLS:=(16,.dat false (JV 55))::L69
theorem h70:qHL L70:=qa h69 sK16
theorem cK106:check qPp 106=some (14,(yi 70 107).strip,[.cell 2 3 true]):=by kernel_rfl
theorem sK106:Sound qPp 106 (.dat false zD):=by
  apply Jad (hc:=cK106) h70<;>first|exact qrS|skip
  all_goals decide
def L71:qLS:=(106,.dat false zD)::L70
theorem h71:qHL L71:=qa h70 sK106
theorem cK182:check qPp 182=some (14,(Zr 112 124 55).strip,[.cell 4 3 true,.tmp 5]):=by kernel_rfl
theorem sK182:Sound qPp 182 (.dat false (wt 55)):=by
  apply Q4 (hc:=cK182) h71<;>first|exact qrS|skip
  all_goals decide
def L72:qLS:=(182,.dat false (wt 55))::L71
theorem h72:qHL L72:=qa h71 sK182
theorem cK148:check qPp 148=some (29,(vv 92 96 182).strip,[.cell 4 3 true,.tmp 5]):=by kernel_rfl
theorem sK148:Sound qPp 148 (.dat false (Zz 55)):=by
  apply xag (hc:=cK148) h72<;>first|exact qrS|skip
  all_goals decide
def L73:qLS:=(148,.dat false (Zz 55))::L72
theorem h73:qHL L73:=qa h72 sK148
theorem cK105:check qPp 105=some (33,(Vi 106 148 116).strip,[.cell 2 6 true,.tmp 3]):=by kernel_rfl
theorem sK105:Sound qPp 105 (.dat false (QG 55)):=by
  apply XaI (hc:=cK105) h73<;>first|exact qrS|skip
  all_goals decide
def L74:qLS:=(105,.dat false (QG 55))::L73
theorem h74:qHL L74:=qa h73 sK105
theorem cK86:check qPp 86=some (6,(Qr 84).strip,[.cell 2 6 true]):=by kernel_rfl
theorem sK86:Sound qPp 86 (.dat false zC):=by
  apply YaD (hc:=cK86) h74<;>first|exact qrS|skip
  all_goals decide
def L75:qLS:=(86,.dat false zC)::L74
theorem h75:qHL L75:=qa h74 sK86
theorem cK51:check qPp 51=some (46,(Xi 105 106 86 50 70).strip,[.cell 12 27 true,.tmp 13]):=by kernel_rfl
theorem sK51:Sound qPp 51 (.dat false (kD 55)):=by
  apply UaF (hc:=cK51) h75<;>first|exact qrS|skip
  all_goals decide
def L76:qLS:=(51,.dat false (kD 55))::L75
theorem h76:qHL L76:=qa h75 sK51
theorem cK17:check qPp 17=some (25,(Xm 26 52 51).strip,[.cell 2 27 true,.tmp 3]):=by kernel_rfl
theorem sK17:Sound qPp 17 (.dat false (YO 55)):=by
  apply Za6 (hc:=cK17) h76<;>first|exact qrS|skip
  all_goals decide
def L77:qLS:=(17,.dat false (YO 55))::L76
theorem h77:qHL L77:=qa h76 sK17
theorem cK71:check qPp 71=some (7,(Jq 125 94 124).strip,[.cell 2 3 true]):=by kernel_rfl
theorem sK71:Sound qPp 71 (.dat false QB):=by
  apply Jac (hc:=cK71) h77<;>first|exact qrS|skip
  all_goals decide
def L78:qLS:=(71,.dat false QB)::L77
theorem h78:qHL L78:=qa h77 sK71
theorem cK190:check qPp 190=some (29,vr.strip,[.tmp 2]):=by kernel_rfl
theorem sK190:Sound qPp 190 (.dat true yl):=by
  apply vY (hc:=cK190) h78<;>first|exact qrS|skip
  all_goals decide
def L79:qLS:=(190,.dat true yl)::L78
theorem h79:qHL L79:=qa h78 sK190
theorem cK157:check qPp 157=some (8,ue.strip,[.tmp 2]):=by kernel_rfl
theorem sK157:Sound qPp 157 (.fresh 5 Zq):=by
  apply xab (hc:=cK157) h79<;>first|exact qrS|skip
  all_goals decide
def L80:qLS:=(157,.fresh 5 Zq)::L79
theorem h80:qHL L80:=qa h79 sK157
theorem cK219:check qPp 219=some (6,Zx.strip,[.tmp 2]):=by kernel_rfl
theorem sK219:Sound qPp 219 (.dat true JF):=by
  apply uaD (hc:=cK219) h80<;>first|exact qrS|skip
  all_goals decide
def L81:qLS:=(219,.dat true JF)::L80
theorem h81:qHL L81:=qa h80 sK219
theorem cK209:check qPp 209=some (20,(vh 219).strip,[.tmp 4]):=by kernel_rfl
theorem sK209:Sound qPp 209 (.dat true kH):=by
  apply ZaI (hc:=cK209) h81<;>first|exact qrS|skip
  all_goals decide
def L82:qLS:=(209,.dat true kH)::L81
theorem h82:qHL L82:=qa h81 sK209
theorem cK208:check qPp 208=some (18,JE.strip,[.tmp 2]):=by kernel_rfl
theorem sK208:Sound qPp 208 (.dat true kW):=by
  apply ua2 (hc:=cK208) h82<;>first|exact qrS|skip
  all_goals decide
def L83:qLS:=(208,.dat true kW)::L82
theorem h83:qHL L83:=qa h82 sK208
theorem cK193:check qPp 193=some (23,(Zv 209 208).strip,[.tmp 4]):=by kernel_rfl
theorem sK193:Sound qPp 193 (.dat true Vy):=by
  apply Uab (hc:=cK193) h83<;>first|exact qrS|skip
  all_goals decide
def L84:qLS:=(193,.dat true Vy)::L83
theorem h84:qHL L84:=qa h83 sK193
theorem cK217:check qPp 217=some (53,uc.strip,[]):=by kernel_rfl
theorem sK217:Sound qPp 217 (.own (VG 193)):=by
  apply UaG (hc:=cK217) h84<;>first|exact qrS|skip
  all_goals decide
def L85:qLS:=(217,.own (VG 193))::L84
theorem h85:qHL L85:=qa h84 sK217
theorem cK228:check qPp 228=some (38,vd.strip,[]):=by kernel_rfl
theorem sK228:Sound qPp 228 (.own (ZD 193)):=by
  apply QaF (hc:=cK228) h85<;>first|exact qrS|skip
  all_goals decide
def L86:qLS:=(228,.own (ZD 193))::L85
theorem h86:qHL L86:=qa h85 sK228
theorem cK225:check qPp 225=some (58,(ye 228).strip,[]):=by kernel_rfl
theorem sK225:Sound qPp 225 (.own (VF 193)):=by
  apply ZaE (hc:=cK225) h86<;>first|exact qrS|skip
  all_goals decide
def L87:qLS:=(225,.own (VF 193))::L86
theorem h87:qHL L87:=qa h86 sK225
theorem cK218:check qPp 218=some (220,(kb 225 218).strip,[]):=by kernel_rfl
theorem sK218:Sound qPp 218 (.own (xj 193 10000)):=by
  apply zW (hc:=cK218) h87<;>first|exact qrS|skip
  all_goals decide
def L88:qLS:=(218,.own (xj 193 10000))::L87
theorem h88:qHL L88:=qa h87 sK218
theorem cK207:check qPp 207=some (63,(We 217 218).strip,[]):=by kernel_rfl
theorem sK207:Sound qPp 207 (.own (xB 193 10000)):=by
  apply yaj (hc:=cK207) h88<;>first|exact qrS|skip
  all_goals decide
def L89:qLS:=(207,.own (xB 193 10000))::L88
theorem h89:qHL L89:=qa h88 sK207
theorem cK192:check qPp 192=some (9,(Qe 207).strip,[]):=by kernel_rfl
theorem sK192:Sound qPp 192 (.own (Yx 193 10000)):=by
  apply kah (hc:=cK192) h89<;>first|exact qrS|skip
  all_goals decide
def L90:qLS:=(192,.own (Yx 193 10000))::L89
theorem h90:qHL L90:=qa h89 sK192
theorem cK195:check qPp 195=some (7,(uu 65).strip,[.tmp 2]):=by kernel_rfl
theorem sK195:Sound qPp 195 (.dat true VD):=by
  apply YaI (hc:=cK195) h90<;>first|exact qrS|skip
  all_goals decide
def L91:qLS:=(195,.dat true VD)::L90
theorem h91:qHL L91:=qa h90 sK195
theorem cK210:check qPp 210=some (19,Qi.strip,[.tmp 4]):=by kernel_rfl
theorem sK210:Sound qPp 210 (.dat true (VH 195)):=by
  apply ZaD (hc:=cK210) h91<;>first|exact qrS|skip
  all_goals decide
def L92:qLS:=(210,.dat true (VH 195))::L91
theorem h92:qHL L92:=qa h91 sK210
theorem cK194:check qPp 194=some (42,(Yc 210).strip,[.tmp 4]):=by kernel_rfl
theorem sK194:Sound qPp 194 (.own (JH 195)):=by
  apply jaG (hc:=cK194) h92<;>first|exact qrS|skip
  all_goals decide
def L93:qLS:=(194,.own (JH 195))::L92
theorem h93:qHL L93:=qa h92 sK194
theorem cK156:check qPp 156=some (60,(VA 157 192 193 107 194 195).strip,[.tmp 2]):=by kernel_rfl
theorem sK156:Sound qPp 156 (.dat false (Ux 10000)):=by
  apply zaE (hc:=cK156) h93<;>first|exact qrS|skip
  all_goals decide
def L94:qLS:=(156,.dat false (Ux 10000))::L93
theorem h94:qHL L94:=qa h93 sK156
theorem cK152:check qPp 152=some (28,(jq 190 64 156 55).strip,[.tmp 2,.tmp 3]):=by kernel_rfl
theorem sK152:Sound qPp 152 (.dat false (qx 55)):=by
  apply uah (hc:=cK152) h94<;>first|exact qrS|skip
  all_goals decide
def L95:qLS:=(152,.dat false (qx 55))::L94
theorem h95:qHL L95:=qa h94 sK152
theorem cK120:check qPp 120=some (17,Qg.strip,[.tmp 6]):=by kernel_rfl
theorem sK120:Sound qPp 120 (.red Wo):=by
  apply uam (hc:=cK120) h95<;>first|exact qrS|skip
  all_goals decide
def L96:qLS:=(120,.red Wo)::L95
theorem h96:qHL L96:=qa h95 sK120
theorem cK113:check qPp 113=some (23,(Zd 71 116 152 120).strip,[.tmp 6]):=by kernel_rfl
theorem sK113:Sound qPp 113 (.red UF):=by
  apply ZaF (hc:=cK113) h96<;>first|exact qrS|skip
  all_goals decide
def L97:qLS:=(113,.red UF)::L96
theorem h97:qHL L97:=qa h96 sK113
theorem cK160:check qPp 160=some (48,(ko 190 64 65 193 55).strip,[.tmp 2]):=by kernel_rfl
theorem sK160:Sound qPp 160 (.dat false (qq 55)):=by
  apply Qaa (hc:=cK160) h97<;>first|exact qrS|skip
  all_goals decide
def L98:qLS:=(160,.dat false (qq 55))::L97
theorem h98:qHL L98:=qa h97 sK160
theorem cK158:check qPp 158=some (28,(Zu 70).strip,[.tmp 4]):=by kernel_rfl
theorem sK158:Sound qPp 158 (.dat false QD):=by
  apply qaG (hc:=cK158) h98<;>first|exact qrS|skip
  all_goals decide
def L99:qLS:=(158,.dat false QD)::L98
theorem h99:qHL L99:=qa h98 sK158
theorem cK123:check qPp 123=some (16,(xo 160 158 156).strip,[.tmp 4,.tmp 5]):=by kernel_rfl
theorem sK123:Sound qPp 123 (.dat false (Qs 55)):=by
  apply uaa (hc:=cK123) h99<;>first|exact qrS|skip
  all_goals decide
def L100:qLS:=(123,.dat false (Qs 55))::L99
theorem h100:qHL L100:=qa h99 sK123
theorem cK69:check qPp 69=some (14,(Qf 123 120).strip,[.tmp 6]):=by kernel_rfl
theorem sK69:Sound qPp 69 (.red Qq):=by
  apply X3 (hc:=cK69) h100<;>first|exact qrS|skip
  all_goals decide
def L101:qLS:=(69,.red Qq)::L100
theorem h101:qHL L101:=qa h100 sK69
theorem cK155:check qPp 155=some (18,(Xr 160).strip,[.tmp 2]):=by kernel_rfl
theorem sK155:Sound qPp 155 (.dat false (Qj 55)):=by
  apply XZ (hc:=cK155) h101<;>first|exact qrS|skip
  all_goals decide
def L102:qLS:=(155,.dat false (Qj 55))::L101
theorem h102:qHL L102:=qa h101 sK155
theorem cK121:check qPp 121=some (21,(Zs 155 157 71 158 156).strip,[.tmp 4,.tmp 5]):=by kernel_rfl
theorem sK121:Sound qPp 121 (.dat false (yG 55)):=by
  apply zaH (hc:=cK121) h102<;>first|exact qrS|skip
  all_goals decide
def L103:qLS:=(121,.dat false (yG 55))::L102
theorem h103:qHL L103:=qa h102 sK121
theorem cK67:check qPp 67=some (14,(Ug 121 120).strip,[.tmp 6]):=by kernel_rfl
theorem sK67:Sound qPp 67 (.red jC):=by
  apply YaF (hc:=cK67) h103<;>first|exact qrS|skip
  all_goals decide
def L104:qLS:=(67,.red jC)::L103
theorem h104:qHL L104:=qa h103 sK67
theorem cK206:check qPp 206=some (27,Jp.strip,[.tmp 4]):=by kernel_rfl
theorem sK206:Sound qPp 206 (.fresh 5 uy):=by
  apply xal (hc:=cK206) h104<;>first|exact qrS|skip
  all_goals decide
def L105:qLS:=(206,.fresh 5 uy)::L104
theorem h105:qHL L105:=qa h104 sK206
theorem cK191:check qPp 191=some (36,(um 206).strip,[.tmp 2]):=by kernel_rfl
theorem sK191:Sound qPp 191 (.fresh 5 Xz):=by
  apply Jam (hc:=cK191) h105<;>first|exact qrS|skip
  all_goals decide
def L106:qLS:=(191,.fresh 5 Xz)::L105
theorem h106:qHL L106:=qa h105 sK191
theorem cK154:check qPp 154=some (19,(Qt 155 191 156).strip,[.tmp 4,.tmp 5]):=by kernel_rfl
theorem sK154:Sound qPp 154 (.dat false (qF 55)):=by
  apply kaH (hc:=cK154) h106<;>first|exact qrS|skip
  all_goals decide
def L107:qLS:=(154,.dat false (qF 55))::L106
theorem h107:qHL L107:=qa h106 sK154
theorem cK118:check qPp 118=some (14,(yg 154 120).strip,[.tmp 6]):=by kernel_rfl
theorem sK118:Sound qPp 118 (.red uB):=by
  apply VaE (hc:=cK118) h107<;>first|exact qrS|skip
  all_goals decide
def L108:qLS:=(118,.red uB)::L107
theorem h108:qHL L108:=qa h107 sK118
theorem cK115:check qPp 115=some (34,(vf 69 67 118).strip,[.cell 8 2 true]):=by kernel_rfl
theorem sK115:Sound qPp 115 (.red qH):=by
  apply xaH (hc:=cK115) h108<;>first|exact qrS|skip
  all_goals decide
def L109:qLS:=(115,.red qH)::L108
theorem h109:qHL L109:=qa h108 sK115
theorem cK117:check qPp 117=some (12,(Uo 70 107).strip,[.cell 4 3 true]):=by kernel_rfl
theorem sK117:Sound qPp 117 (.dat false vD):=by
  apply JaD (hc:=cK117) h109<;>first|exact qrS|skip
  all_goals decide
def L110:qLS:=(117,.dat false vD)::L109
theorem h110:qHL L110:=qa h109 sK117
theorem cK159:check qPp 159=some (21,km.strip,[.tmp 2]):=by kernel_rfl
theorem sK159:Sound qPp 159 (.dat true vH):=by
  apply jaE (hc:=cK159) h110<;>first|exact qrS|skip
  all_goals decide
def L111:qLS:=(159,.dat true vH)::L110
theorem h111:qHL L111:=qa h110 sK159
theorem cK122:check qPp 122=some (71,(kn 155 159 70 156 55).strip,[.tmp 4,.tmp 5]):=by kernel_rfl
theorem sK122:Sound qPp 122 (.dat false (ZH 55)):=by
  apply qaD (hc:=cK122) h111<;>first|exact qrS|skip
  all_goals decide
def L112:qLS:=(122,.dat false (ZH 55))::L111
theorem h112:qHL L112:=qa h111 sK122
theorem cK68:check qPp 68=some (14,(qh 122 120).strip,[.tmp 6]):=by kernel_rfl
theorem sK68:Sound qPp 68 (.red ZC):=by
  apply yaH (hc:=cK68) h112<;>first|exact qrS|skip
  all_goals decide
def L113:qLS:=(68,.red ZC)::L112
theorem h113:qHL L113:=qa h112 sK68
theorem cK72:check qPp 72=some (19,(zg 68 118).strip,[.tmp 4]):=by kernel_rfl
theorem sK72:Sound qPp 72 (.red yD):=by
  apply kaG (hc:=cK72) h113<;>first|exact qrS|skip
  all_goals decide
def L114:qLS:=(72,.red yD)::L113
theorem h114:qHL L114:=qa h113 sK72
theorem cK119:check qPp 119=some (13,(xd 152 120).strip,[.tmp 4]):=by kernel_rfl
theorem sK119:Sound qPp 119 (.red QF):=by
  apply YaE (hc:=cK119) h114<;>first|exact qrS|skip
  all_goals decide
def L115:qLS:=(119,.red QF)::L114
theorem h115:qHL L115:=qa h114 sK119
theorem cK66:check qPp 66=some (111,(jf 113 71 114 116 115 117 70 72 119 118 67 68).strip,[.cell 4 7 true]):=by kernel_rfl
theorem sK66:Sound qPp 66 (.red kG):=by
  apply uaH (hc:=cK66) h115<;>first|exact qrS|skip
  all_goals decide
def L116:qLS:=(66,.red kG)::L115
theorem h116:qHL L116:=qa h115 sK66
theorem cK27:check qPp 27=some (78,(wm 26 66 68 67 71 70 69 72).strip,[.tmp 2,.tmp 3]):=by kernel_rfl
theorem sK27:Sound qPp 27 (.dat false (uG 55)):=by
  apply UaI (hc:=cK27) h116<;>first|exact qrS|skip
  all_goals decide
def L117:qLS:=(27,.dat false (uG 55))::L116
theorem h117:qHL L117:=qa h116 sK27
theorem cK12:check qPp 12=some (75,(Uj 27 46).strip,[.tmp 4,.tmp 5]):=by kernel_rfl
theorem sK12:Sound qPp 12 (.dat false (UG 55)):=by
  apply vaG (hc:=cK12) h117<;>first|exact qrS|skip
  all_goals decide
def L118:qLS:=(12,.dat false (UG 55))::L117
theorem h118:qHL L118:=qa h117 sK12
theorem cK211:check qPp 211=some (15,Ub.strip,[.tmp 2]):=by kernel_rfl
theorem sK211:Sound qPp 211 (.dat false js):=by
  apply vad (hc:=cK211) h118<;>first|exact qrS|skip
  all_goals decide
def L119:qLS:=(211,.dat false js)::L118
theorem h119:qHL L119:=qa h118 sK211
theorem cK198:check qPp 198=some (54,(Vd 211 212 213 214).strip,[.tmp 4]):=by kernel_rfl
theorem sK198:Sound qPp 198 (.dat false ZA):=by
  apply kai (hc:=cK198) h119<;>first|exact qrS|skip
  all_goals decide
def L120:qLS:=(198,.dat false ZA)::L119
theorem h120:qHL L120:=qa h119 sK198
theorem cK170:check qPp 170=some (5,(Zg 198).strip,[.tmp 2]):=by kernel_rfl
theorem sK170:Sound qPp 170 (.dat false yp):=by
  apply Zaj (hc:=cK170) h120<;>first|exact qrS|skip
  all_goals decide
def L121:qLS:=(170,.dat false yp)::L120
theorem h121:qHL L121:=qa h120 sK170
theorem cK138:check qPp 138=some (5,(yv 170).strip,[.tmp 2]):=by kernel_rfl
theorem sK138:Sound qPp 138 (.dat false yp):=by
  apply V8 (hc:=cK138) h121<;>first|exact qrS|skip
  all_goals decide
def L122:qLS:=(138,.dat false yp)::L121
theorem h122:qHL L122:=qa h121 sK138
theorem cK140:check qPp 140=some (75,(ju 173 174 176).strip,[.tmp 4]):=by kernel_rfl
theorem sK140:Sound qPp 140 (.dat false yA):=by
  apply xaj (hc:=cK140) h122<;>first|exact qrS|skip
  all_goals decide
def L123:qLS:=(140,.dat false yA)::L122
theorem h123:qHL L123:=qa h122 sK140
theorem cK95:check qPp 95=some (44,(ut 135 137 138 139 140 136).strip,[.tmp 2]):=by kernel_rfl
theorem sK95:Sound qPp 95 (.dat false yt):=by
  apply U9 (hc:=cK95) h123<;>first|exact qrS|skip
  all_goals decide
def L124:qLS:=(95,.dat false yt)::L123
theorem h124:qHL L124:=qa h123 sK95
theorem cK45:check qPp 45=some (22,(Wm 92 94 93 95).strip,[.tmp 2]):=by kernel_rfl
theorem sK45:Sound qPp 45 (.dat false jt):=by
  apply Q3 (hc:=cK45) h124<;>first|exact qrS|skip
  all_goals decide
def L125:qLS:=(45,.dat false jt)::L124
theorem h125:qHL L125:=qa h124 sK45
theorem cK10:check qPp 10=some (60,(ji 44 16 17 12 45).strip,[.tmp 0]):=by kernel_rfl
theorem sK10:Sound qPp 10 (.dat true Uz):=by
  apply Qam (hc:=cK10) h125<;>first|exact qrS|skip
  all_goals decide
def L126:qLS:=(10,.dat true Uz)::L125
theorem h126:qHL L126:=qa h125 sK10
theorem cK11:check qPp 11=some (44,Zi.strip,[.tmp 2]):=by kernel_rfl
theorem sK11:Sound qPp 11 (.dat true yF):=by
  apply VaG (hc:=cK11) h126<;>first|exact qrS|skip
  all_goals decide
def L127:qLS:=(11,.dat true yF)::L126
theorem h127:qHL L127:=qa h126 sK11
theorem cK34:check qPp 34=some (35,je.strip,[.tmp 2]):=by kernel_rfl
theorem sK34:Sound qPp 34 (.dat true Xs):=by
  apply wac (hc:=cK34) h127<;>first|exact qrS|skip
  all_goals decide
def L128:qLS:=(34,.dat true Xs)::L127
theorem h128:qHL L128:=qa h127 sK34
theorem cK53:check qPp 53=some (8,(qf 71 52 83).strip,[.cell 2 6 true]):=by kernel_rfl
theorem sK53:Sound qPp 53 (.dat false Zw):=by
  apply yS (hc:=cK53) h128<;>first|exact qrS|skip
  all_goals decide
def L129:qLS:=(53,.dat false Zw)::L128
theorem h129:qHL L129:=qa h128 sK53
theorem cK18:check qPp 18=some (25,(Jk 26 53 51).strip,[.cell 2 27 true,.tmp 3]):=by kernel_rfl
theorem sK18:Sound qPp 18 (.dat false (WZ 55)):=by
  apply Za1 (hc:=cK18) h129<;>first|exact qrS|skip
  all_goals decide
def L130:qLS:=(18,.dat false (WZ 55))::L129
theorem h130:qHL L130:=qa h129 sK18
theorem cK54:check qPp 54=some (32,(vp 86 107).strip,[.cell 2 27 true]):=by kernel_rfl
theorem sK54:Sound qPp 54 (.dat false YA):=by
  apply Xah (hc:=cK54) h130<;>first|exact qrS|skip
  all_goals decide
def L131:qLS:=(54,.dat false YA)::L130
theorem h131:qHL L131:=qa h130 sK54
theorem cK35:check qPp 35=some (28,(Wl 17 18 54).strip,[.tmp 2,.tmp 3]):=by kernel_rfl
theorem sK35:Sound qPp 35 (.dat false (qD 55)):=by
  apply uaF (hc:=cK35) h131<;>first|exact qrS|skip
  all_goals decide
def L132:qLS:=(35,.dat false (qD 55))::L131
theorem h132:qHL L132:=qa h131 sK35
theorem cK73:check qPp 73=some (24,(Jm 26 63 55).strip,[.tmp 4]):=by kernel_rfl
theorem sK73:Sound qPp 73 (.dat false (xA 55)):=by
  apply Jan (hc:=cK73) h132<;>first|exact qrS|skip
  all_goals decide
def L133:qLS:=(73,.dat false (xA 55))::L132
theorem h133:qHL L133:=qa h132 sK73
theorem cK76:check qPp 76=some (16,(Zm 114).strip,[.cell 4 6 true]):=by kernel_rfl
theorem sK76:Sound qPp 76 (.dat false Ji):=by
  apply UD (hc:=cK76) h133<;>first|exact qrS|skip
  all_goals decide
def L134:qLS:=(76,.dat false Ji)::L133
theorem h134:qHL L134:=qa h133 sK76
theorem cK89:check qPp 89=some (14,(Qn 76 117).strip,[.cell 4 3 true]):=by kernel_rfl
theorem sK89:Sound qPp 89 (.dat false xF):=by
  apply JaI (hc:=cK89) h134<;>first|exact qrS|skip
  all_goals decide
def L135:qLS:=(89,.dat false xF)::L134
theorem h135:qHL L135:=qa h134 sK89
theorem cK43:check qPp 43=some (44,(Ye 73 89 46).strip,[.tmp 6,.tmp 7]):=by kernel_rfl
theorem sK43:Sound qPp 43 (.dat false (vG 55)):=by
  apply YaH (hc:=cK43) h135<;>first|exact qrS|skip
  all_goals decide
def L136:qLS:=(43,.dat false (vG 55))::L135
theorem h136:qHL L136:=qa h135 sK43
theorem cK36:check qPp 36=some (80,(uf 43 35 83 52 53 85 84 86 55).strip,[.tmp 6,.tmp 7]):=by kernel_rfl
theorem sK36:Sound qPp 36 (.dat false (jF 55)):=by
  apply WaD (hc:=cK36) h136<;>first|exact qrS|skip
  all_goals decide
def L137:qLS:=(36,.dat false (jF 55))::L136
theorem h137:qHL L137:=qa h136 sK36
theorem cK97:check qPp 97=some (15,xh.strip,[.tmp 2]):=by kernel_rfl
theorem sK97:Sound qPp 97 (.dat true Vs):=by
  apply WO (hc:=cK97) h137<;>first|exact qrS|skip
  all_goals decide
def L138:qLS:=(97,.dat true Vs)::L137
theorem h138:qHL L138:=qa h137 sK97
theorem cK131:check qPp 131=some (38,(Ql 126 127 164 130 167 165).strip,[.cell 4 2 true]):=by kernel_rfl
theorem sK131:Sound qPp 131 (.dat false vy):=by
  apply qag (hc:=cK131) h138<;>first|exact qrS|skip
  all_goals decide
def L139:qLS:=(131,.dat false vy)::L138
theorem h139:qHL L139:=qa h138 sK131
theorem cK143:check qPp 143=some (9,(uk 128 131).strip,[.cell 4 2 true]):=by kernel_rfl
theorem sK143:Sound qPp 143 (.dat false QH):=by
  apply U8 (hc:=cK143) h139<;>first|exact qrS|skip
  all_goals decide
def L140:qLS:=(143,.dat false QH)::L139
theorem h140:qHL L140:=qa h139 sK143
theorem cK98:check qPp 98=some (9,(Vl 143 78).strip,[.tmp 4]):=by kernel_rfl
theorem sK98:Sound qPp 98 (.dat true vt):=by
  apply Q6 (hc:=cK98) h140<;>first|exact qrS|skip
  all_goals decide
def L141:qLS:=(98,.dat true vt)::L140
theorem h141:qHL L141:=qa h140 sK98
theorem cK47:check qPp 47=some (36,(Wh 97 99 82 98).strip,[.tmp 2]):=by kernel_rfl
theorem sK47:Sound qPp 47 (.dat true Ve):=by
  apply xO (hc:=cK47) h141<;>first|exact qrS|skip
  all_goals decide
def L142:qLS:=(47,.dat true Ve)::L141
theorem h142:qHL L142:=qa h141 sK47
theorem cK38:check qPp 38=some (11,(jh 47).strip,[.tmp 2]):=by kernel_rfl
theorem sK38:Sound qPp 38 (.dat true vi):=by
  apply YI (hc:=cK38) h142<;>first|exact qrS|skip
  all_goals decide
def L143:qLS:=(38,.dat true vi)::L142
theorem h143:qHL L143:=qa h142 sK38
theorem cK77:check qPp 77=some (23,(Xh 47 82).strip,[.cell 2 2 true,.cell 3 2 true]):=by kernel_rfl
theorem sK77:Sound qPp 77 (.dat false Xd):=by
  apply XO (hc:=cK77) h143<;>first|exact qrS|skip
  all_goals decide
def L144:qLS:=(77,.dat false Xd)::L143
theorem h144:qHL L144:=qa h143 sK77
theorem cK31:check qPp 31=some (12,(xm 77 78).strip,[.tmp 2]):=by kernel_rfl
theorem sK31:Sound qPp 31 (.dat true Xk):=by
  apply xN (hc:=cK31) h144<;>first|exact qrS|skip
  all_goals decide
def L145:qLS:=(31,.dat true Xk)::L144
theorem h145:qHL L145:=qa h144 sK31
theorem cK104:check qPp 104=some (14,(Yn 77 128 80).strip,[.cell 2 3 true]):=by kernel_rfl
theorem sK104:Sound qPp 104 (.dat false jv):=by
  apply XP (hc:=cK104) h145<;>first|exact qrS|skip
  all_goals decide
def L146:qLS:=(104,.dat false jv)::L145
theorem h146:qHL L146:=qa h145 sK104
theorem cK168:check qPp 168=some (68,(qi 166).strip,[.tmp 4]):=by kernel_rfl
theorem sK168:Sound qPp 168 (.dat false Vr):=by
  apply JY (hc:=cK168) h146<;>first|exact qrS|skip
  all_goals decide
def L147:qLS:=(168,.dat false Vr)::L146
theorem h147:qHL L147:=qa h146 sK168
theorem cK132:check qPp 132=some (16,(Up 127 126 168 130).strip,[.cell 4 2 true]):=by kernel_rfl
theorem sK132:Sound qPp 132 (.dat false Wv):=by
  apply XS (hc:=cK132) h147<;>first|exact qrS|skip
  all_goals decide
def L148:qLS:=(132,.dat false Wv)::L147
theorem h148:qHL L148:=qa h147 sK132
theorem cK87:check qPp 87=some (30,(Yo 77 132 131 80).strip,[.cell 4 3 true]):=by kernel_rfl
theorem sK87:Sound qPp 87 (.dat false uo):=by
  apply QT (hc:=cK87) h148<;>first|exact qrS|skip
  all_goals decide
def L149:qLS:=(87,.dat false uo)::L148
theorem h149:qHL L149:=qa h148 sK87
theorem cK79:check qPp 79=some (9,(Xn 104 87).strip,[.cell 4 3 true]):=by kernel_rfl
theorem sK79:Sound qPp 79 (.dat false Jv):=by
  apply ZP (hc:=cK79) h149<;>first|exact qrS|skip
  all_goals decide
def L150:qLS:=(79,.dat false Jv)::L149
theorem h150:qHL L150:=qa h149 sK79
theorem cK32:check qPp 32=some (9,(zl 79 31).strip,[.tmp 4]):=by kernel_rfl
theorem sK32:Sound qPp 32 (.dat true kf):=by
  apply X6 (hc:=cK32) h150<;>first|exact qrS|skip
  all_goals decide
def L151:qLS:=(32,.dat true kf)::L150
theorem h151:qHL L151:=qa h150 sK32
theorem cK48:check qPp 48=some (19,(ym 32).strip,[.tmp 4]):=by kernel_rfl
theorem sK48:Sound qPp 48 (.dat true Yz):=by
  apply Zai (hc:=cK48) h151<;>first|exact qrS|skip
  all_goals decide
def L152:qLS:=(48,.dat true Yz)::L151
theorem h152:qHL L152:=qa h151 sK48
theorem cK13:check qPp 13=some (56,(Uh 47 38 31 48).strip,[.tmp 2]):=by kernel_rfl
theorem sK13:Sound qPp 13 (.dat true xG):=by
  apply yaI (hc:=cK13) h152<;>first|exact qrS|skip
  all_goals decide
def L153:qLS:=(13,.dat true xG)::L152
theorem h153:qHL L153:=qa h152 sK13
theorem cK14:check qPp 14=some (15,(Zh 55).strip,[.tmp 2]):=by kernel_rfl
theorem sK14:Sound qPp 14 (.dat true (YD 55)):=by
  apply waG (hc:=cK14) h153<;>first|exact qrS|skip
  all_goals decide
def L154:qLS:=(14,.dat true (YD 55))::L153
theorem h154:qHL L154:=qa h153 sK14
theorem cK57:check qPp 57=some (8,Yi.strip,[.cell 2 6 true]):=by kernel_rfl
theorem sK57:Sound qPp 57 (.dat false UC):=by
  apply J6 (hc:=cK57) h154<;>first|exact qrS|skip
  all_goals decide
def L155:qLS:=(57,.dat false UC)::L154
theorem h155:qHL L155:=qa h154 sK57
theorem cK88:check qPp 88=some (26,(Un 77 132 80).strip,[.cell 4 3 true]):=by kernel_rfl
theorem sK88:Sound qPp 88 (.dat false Ul):=by
  apply XT (hc:=cK88) h155<;>first|exact qrS|skip
  all_goals decide
def L156:qLS:=(88,.dat false Ul)::L155
theorem h156:qHL L156:=qa h155 sK88
theorem cK41:check qPp 41=some (14,(yi 88 87).strip,[.cell 2 3 true]):=by kernel_rfl
theorem sK41:Sound qPp 41 (.dat false zD):=by
  apply Jad (hc:=cK41) h156<;>first|exact qrS|skip
  all_goals decide
def L157:qLS:=(41,.dat false zD)::L156
theorem h157:qHL L157:=qa h156 sK41
theorem cK58:check qPp 58=some (6,(Ui 31).strip,[.tmp 2]):=by kernel_rfl
theorem sK58:Sound qPp 58 (.dat true kx):=by
  apply yai (hc:=cK58) h157<;>first|exact qrS|skip
  all_goals decide
def L158:qLS:=(58,.dat true kx)::L157
theorem h158:qHL L158:=qa h157 sK58
theorem cK42:check qPp 42=some (16,(Zm 79).strip,[.cell 4 6 true]):=by kernel_rfl
theorem sK42:Sound qPp 42 (.dat false Ji):=by
  apply UD (hc:=cK42) h158<;>first|exact qrS|skip
  all_goals decide
def L159:qLS:=(42,.dat false Ji)::L158
theorem h159:qHL L159:=qa h158 sK42
theorem cK62:check qPp 62=some (28,(yh 88 79 87).strip,[.cell 4 6 true]):=by kernel_rfl
theorem sK62:Sound qPp 62 (.dat false Wi):=by
  apply yaa (hc:=cK62) h159<;>first|exact qrS|skip
  all_goals decide
def L160:qLS:=(62,.dat false Wi)::L159
theorem h160:qHL L160:=qa h159 sK62
theorem cK61:check qPp 61=some (16,(Xp 87).strip,[.cell 4 6 true]):=by kernel_rfl
theorem sK61:Sound qPp 61 (.dat false Qo):=by
  apply VO (hc:=cK61) h160<;>first|exact qrS|skip
  all_goals decide
def L161:qLS:=(61,.dat false Qo)::L160
theorem h161:qHL L161:=qa h160 sK61
theorem cK24:check qPp 24=some (14,(Vm 57 42 62 61).strip,[.cell 2 6 true]):=by kernel_rfl
theorem sK24:Sound qPp 24 (.dat false Qw):=by
  apply kR (hc:=cK24) h161<;>first|exact qrS|skip
  all_goals decide
def L162:qLS:=(24,.dat false Qw)::L161
theorem h162:qHL L162:=qa h161 sK24
theorem cK150:check qPp 150=some (29,(Yk 77 132 133).strip,[.cell 4 3 true,.tmp 5]):=by kernel_rfl
theorem sK150:Sound qPp 150 (.dat false Wz):=by
  apply kaj (hc:=cK150) h162<;>first|exact qrS|skip
  all_goals decide
def L163:qLS:=(150,.dat false Wz)::L162
theorem h163:qHL L163:=qa h162 sK150
theorem cK146:check qPp 146=some (9,(vl 104).strip,[.cell 2 6 true]):=by kernel_rfl
theorem sK146:Sound qPp 146 (.dat false YF):=by
  apply vaD (hc:=cK146) h163<;>first|exact qrS|skip
  all_goals decide
def L164:qLS:=(146,.dat false YF)::L163
theorem h164:qHL L164:=qa h163 sK146
theorem cK109:check qPp 109=some (24,(uj 33 41 150 146 88).strip,[.cell 2 6 true]):=by kernel_rfl
theorem sK109:Sound qPp 109 (.dat false JA):=by
  apply Wai (hc:=cK109) h164<;>first|exact qrS|skip
  all_goals decide
def L165:qLS:=(109,.dat false JA)::L164
theorem h165:qHL L165:=qa h164 sK109
theorem cK59:check qPp 59=some (34,(qg 109 88).strip,[.cell 14 27 true]):=by kernel_rfl
theorem sK59:Sound qPp 59 (.dat false yx):=by
  apply waj (hc:=cK59) h165<;>first|exact qrS|skip
  all_goals decide
def L166:qLS:=(59,.dat false yx)::L165
theorem h166:qHL L166:=qa h165 sK59
theorem cK22:check qPp 22=some (26,(Je 57 41 58 24 59).strip,[.cell 2 27 true,.tmp 3]):=by kernel_rfl
theorem sK22:Sound qPp 22 (.dat false wG):=by
  apply YaC (hc:=cK22) h166<;>first|exact qrS|skip
  all_goals decide
def L167:qLS:=(22,.dat false wG)::L166
theorem h167:qHL L167:=qa h166 sK22
theorem cK60:check qPp 60=some (8,(qf 33 57 42).strip,[.cell 2 6 true]):=by kernel_rfl
theorem sK60:Sound qPp 60 (.dat false Zw):=by
  apply yS (hc:=cK60) h167<;>first|exact qrS|skip
  all_goals decide
def L168:qLS:=(60,.dat false Zw)::L167
theorem h168:qHL L168:=qa h167 sK60
theorem cK23:check qPp 23=some (26,(Ud 60 41 58 24 59).strip,[.cell 2 27 true,.tmp 3]):=by kernel_rfl
theorem sK23:Sound qPp 23 (.dat false XE):=by
  apply vaE (hc:=cK23) h168<;>first|exact qrS|skip
  all_goals decide
def L169:qLS:=(23,.dat false XE)::L168
theorem h169:qHL L169:=qa h168 sK23
theorem cK37:check qPp 37=some (27,(Wd 22 23).strip,[.tmp 2,.tmp 3]):=by kernel_rfl
theorem sK37:Sound qPp 37 (.dat false UA):=by
  apply wal (hc:=cK37) h169<;>first|exact qrS|skip
  all_goals decide
def L170:qLS:=(37,.dat false UA)::L169
theorem h170:qHL L170:=qa h169 sK37
theorem cK108:check qPp 108=some (26,Yj.strip,[.tmp 4]):=by kernel_rfl
theorem sK108:Sound qPp 108 (.dat true Vt):=by
  apply Z4 (hc:=cK108) h170<;>first|exact qrS|skip
  all_goals decide
def L171:qLS:=(108,.dat true Vt)::L170
theorem h171:qHL L171:=qa h170 sK108
theorem cK55:check qPp 55=some (24,(Zn 108).strip,[.tmp 4]):=by kernel_rfl
theorem sK55:Sound qPp 55 (.dat true JD):=by
  apply yaF (hc:=cK55) h171<;>first|exact qrS|skip
  all_goals decide
def L172:qLS:=(55,.dat true JD)::L171
theorem h172:qHL L172:=qa h171 sK55
theorem cK20:check qPp 20=some (17,(xe 55).strip,[.tmp 4]):=by kernel_rfl
theorem sK20:Sound qPp 20 (.dat true Uw):=by
  apply kam (hc:=cK20) h172<;>first|exact qrS|skip
  all_goals decide
def L173:qLS:=(20,.dat true Uw)::L172
theorem h173:qHL L173:=qa h172 sK20
theorem cK56:check qPp 56=some (27,(jl 55).strip,[.tmp 4]):=by kernel_rfl
theorem sK56:Sound qPp 56 (.dat true Jz):=by
  apply Uam (hc:=cK56) h173<;>first|exact qrS|skip
  all_goals decide
def L174:qLS:=(56,.dat true Jz)::L173
theorem h174:qHL L174:=qa h173 sK56
theorem cK21:check qPp 21=some (42,(Qd 20 56).strip,[.tmp 4]):=by kernel_rfl
theorem sK21:Sound qPp 21 (.dat true xt):=by
  apply qaf (hc:=cK21) h174<;>first|exact qrS|skip
  all_goals decide
def L175:qLS:=(21,.dat true xt)::L174
theorem h175:qHL L175:=qa h174 sK21
theorem cK28:check qPp 28=some (9,(Jo 14).strip,[.tmp 4]):=by kernel_rfl
theorem sK28:Sound qPp 28 (.dat true (yX 55)):=by
  apply jaK (hc:=cK28) h175<;>first|exact qrS|skip
  all_goals decide
def L176:qLS:=(28,.dat true (yX 55))::L175
theorem h176:qHL L176:=qa h175 sK28
theorem cK39:check qPp 39=some (43,(jd 42 41 32).strip,[.tmp 6]):=by kernel_rfl
theorem sK39:Sound qPp 39 (.dat true uF):=by
  apply uaE (hc:=cK39) h176<;>first|exact qrS|skip
  all_goals decide
def L177:qLS:=(39,.dat true uF)::L176
theorem h177:qHL L177:=qa h176 sK39
theorem cK40:check qPp 40=some (52,(vj 57 60 42 62 61).strip,[.tmp 6]):=by kernel_rfl
theorem sK40:Sound qPp 40 (.dat false uA):=by
  apply zaj (hc:=cK40) h177<;>first|exact qrS|skip
  all_goals decide
def L178:qLS:=(40,.dat false uA)::L177
theorem h178:qHL L178:=qa h177 sK40
theorem cK8:check qPp 8=some (168,(yb 10 11 34 35 36 13 14 37 21 38 28 39 40 20).strip,[.tmp 6]):=by kernel_rfl
theorem sK8:Sound qPp 8 (.dat true jo):=by
  apply jW (hc:=cK8) h178<;>first|exact qrS|skip
  all_goals decide
def L179:qLS:=(8,.dat true jo)::L178
theorem h179:qHL L179:=qa h178 sK8
theorem hold:qHL L179:=h179
end Go.Abs
