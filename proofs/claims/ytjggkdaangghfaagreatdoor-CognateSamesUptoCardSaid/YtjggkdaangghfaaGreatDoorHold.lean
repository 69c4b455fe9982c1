/-
  The contracts of this seat's functions, gathered.
-/
import Derived.Test.YtjggkdaangghfaaGreatDoorChecked
import Derived.Test.YtjggkdaangghfaaGreatDoorBits
import Derived.KernelRfl
import Derived.Test.YtjggkdaangghfaaGreatDoorM13
set_option maxRecDepth 100000
set_option linter.unusedVariables false
namespace Go.Abs
open Go.Proofs
noncomputable abbrev qPp:=Tryz.prog
abbrev qLS:=List (Nat×Spec)
abbrev qHL(l:qLS):=Holds qPp (Gl l)
theorem qrS{a:Spec}:a=a:=rfl
theorem cK166:check qPp 166=some (25,Vd.strip,[.tmp 2]):=by kernel_rfl
theorem sK166:Sound qPp 166 (.fresh 1 vv):=by
  apply ZaG (hc:=cK166) yac<;>first|exact qrS|skip
  all_goals decide
def L1:qLS:=(166,.fresh 1 vv)::[]
theorem h1:qHL L1:=qa yac sK166
theorem cK130:check qPp 130=some (14,(vj 166).strip,[.cell 4 2 true]):=by kernel_rfl
theorem sK130:Sound qPp 130 (.dat false kf):=by
  apply Qae (hc:=cK130) h1<;>first|exact qrS|skip
  all_goals decide
def L2:qLS:=(130,.dat false kf)::L1
theorem h2:qHL L2:=qa h1 sK130
theorem cK81:check qPp 81=some (19,(Vs 130).strip,[.cell 2 2 true]):=by kernel_rfl
theorem sK81:Sound qPp 81 (.dat false zH):=by
  apply xab (hc:=cK81) h2<;>first|exact qrS|skip
  all_goals decide
def L3:qLS:=(81,.dat false zH)::L2
theorem h3:qHL L3:=qa h2 sK81
theorem cK162:check qPp 162=some (19,Xl.strip,[.tmp 2]):=by kernel_rfl
theorem sK162:Sound qPp 162 (.dat true Vk):=by
  apply qI (hc:=cK162) h3<;>first|exact qrS|skip
  all_goals decide
def L4:qLS:=(162,.dat true Vk)::L3
theorem h4:qHL L4:=qa h3 sK162
theorem cK126:check qPp 126=some (8,(Wp 162).strip,[.tmp 2]):=by kernel_rfl
theorem sK126:Sound qPp 126 (.dat false Wk):=by
  apply vQ (hc:=cK126) h4<;>first|exact qrS|skip
  all_goals decide
def L5:qLS:=(126,.dat false Wk)::L4
theorem h5:qHL L5:=qa h4 sK126
theorem cK127:check qPp 127=some (9,(jp 162).strip,[.tmp 2]):=by kernel_rfl
theorem sK127:Sound qPp 127 (.dat true Xf):=by
  apply QK (hc:=cK127) h5<;>first|exact qrS|skip
  all_goals decide
def L6:qLS:=(127,.dat true Xf)::L5
theorem h6:qHL L6:=qa h5 sK127
theorem cK78:check qPp 78=some (9,(Xi 126 127).strip,[.tmp 2]):=by kernel_rfl
theorem sK78:Sound qPp 78 (.dat true Qg):=by
  apply zY (hc:=cK78) h6<;>first|exact qrS|skip
  all_goals decide
def L7:qLS:=(78,.dat true Qg)::L6
theorem h7:qHL L7:=qa h6 sK78
theorem cK128:check qPp 128=some (9,(kp 127 126 130).strip,[.cell 2 2 true]):=by kernel_rfl
theorem sK128:Sound qPp 128 (.dat false Jv):=by
  apply ZR (hc:=cK128) h7<;>first|exact qrS|skip
  all_goals decide
def L8:qLS:=(128,.dat false Jv)::L7
theorem h8:qHL L8:=qa h7 sK128
theorem cK197:check qPp 197=some (14,Wn.strip,[.tmp 4]):=by kernel_rfl
theorem sK197:Sound qPp 197 (.dat true Xm):=by
  apply VR (hc:=cK197) h8<;>first|exact qrS|skip
  all_goals decide
def L9:qLS:=(197,.dat true Xm)::L8
theorem h9:qHL L9:=qa h8 sK197
theorem cK179:check qPp 179=some (21,Jl.strip,[.tmp 2]):=by kernel_rfl
theorem sK179:Sound qPp 179 (.own U5):=by
  apply ja6 (hc:=cK179) h9<;>first|exact qrS|skip
  all_goals decide
def L10:qLS:=(179,.own U5)::L9
theorem h10:qHL L10:=qa h9 sK179
theorem cK177:check qPp 177=some (26,(Uh 197 179).strip,[.tmp 2]):=by kernel_rfl
theorem sK177:Sound qPp 177 (.own vq):=by
  apply vai (hc:=cK177) h10<;>first|exact qrS|skip
  all_goals decide
def L11:qLS:=(177,.own vq)::L10
theorem h11:qHL L11:=qa h10 sK177
theorem cK167:check qPp 167=some (30,(Qf 197).strip,[.tmp 4]):=by kernel_rfl
theorem sK167:Sound qPp 167 (.dat true Qu):=by
  apply Xah (hc:=cK167) h11<;>first|exact qrS|skip
  all_goals decide
def L12:qLS:=(167,.dat true Qu)::L11
theorem h12:qHL L12:=qa h11 sK167
theorem cK178:check qPp 178=some (31,(We 197).strip,[]):=by kernel_rfl
theorem sK178:Sound qPp 178 (.own jy):=by
  apply XaE (hc:=cK178) h12<;>first|exact qrS|skip
  all_goals decide
def L13:qLS:=(178,.own jy)::L12
theorem h13:qHL L13:=qa h12 sK178
theorem cK164:check qPp 164=some (37,(xj 197 166).strip,[.tmp 4]):=by kernel_rfl
theorem sK164:Sound qPp 164 (.dat false Jr):=by
  apply Y9 (hc:=cK164) h13<;>first|exact qrS|skip
  all_goals decide
def L14:qLS:=(164,.dat false Jr)::L13
theorem h14:qHL L14:=qa h13 sK164
theorem cK144:check qPp 144=some (72,(zl 166 177 167 178 179 164).strip,[.tmp 4]):=by kernel_rfl
theorem sK144:Sound qPp 144 (.dat false ky):=by
  apply uao (hc:=cK144) h14<;>first|exact qrS|skip
  all_goals decide
def L15:qLS:=(144,.dat false ky)::L14
theorem h15:qHL L15:=qa h14 sK144
theorem cK99:check qPp 99=some (11,(Yk 126 144 130).strip,[.cell 4 2 true]):=by kernel_rfl
theorem sK99:Sound qPp 99 (.dat false zu):=by
  apply Zah (hc:=cK99) h15<;>first|exact qrS|skip
  all_goals decide
def L16:qLS:=(99,.dat false zu)::L15
theorem h16:qHL L16:=qa h15 sK99
theorem cK196:check qPp 196=some (25,xi.strip,[.tmp 2]):=by kernel_rfl
theorem sK196:Sound qPp 196 (.dat true kr):=by
  apply Uaa (hc:=cK196) h16<;>first|exact qrS|skip
  all_goals decide
def L17:qLS:=(196,.dat true kr)::L16
theorem h17:qHL L17:=qa h16 sK196
theorem cK163:check qPp 163=some (76,(uf 196 167 178 166).strip,[.tmp 4,.tmp 5]):=by kernel_rfl
theorem sK163:Sound qPp 163 (.dat false ki):=by
  apply zP (hc:=cK163) h17<;>first|exact qrS|skip
  all_goals decide
def L18:qLS:=(163,.dat false ki)::L17
theorem h18:qHL L18:=qa h17 sK163
theorem cK165:check qPp 165=some (35,(Vh 197 166).strip,[.tmp 4]):=by kernel_rfl
theorem sK165:Sound qPp 165 (.dat false yt):=by
  apply JY (hc:=cK165) h18<;>first|exact qrS|skip
  all_goals decide
def L19:qLS:=(165,.dat false yt)::L18
theorem h19:qHL L19:=qa h18 sK165
theorem cK129:check qPp 129=some (45,(Xk 78 126 163 127 164 165 130).strip,[.cell 4 2 true,.cell 5 2 true,.tmp 6]):=by kernel_rfl
theorem sK129:Sound qPp 129 (.dat false Yr):=by
  apply Y6 (hc:=cK129) h19<;>first|exact qrS|skip
  all_goals decide
def L20:qLS:=(129,.dat false Yr)::L19
theorem h20:qHL L20:=qa h19 sK129
theorem cK80:check qPp 80=some (47,(wj 78 128 99 129).strip,[.cell 4 3 true]):=by kernel_rfl
theorem sK80:Sound qPp 80 (.dat false qj):=by
  apply X0 (hc:=cK80) h20<;>first|exact qrS|skip
  all_goals decide
def L21:qLS:=(80,.dat false qj)::L20
theorem h21:qHL L21:=qa h20 sK80
theorem cK133:check qPp 133=some (13,(yj 78 80).strip,[.cell 4 3 true,.tmp 5]):=by kernel_rfl
theorem sK133:Sound qPp 133 (.dat false Ws):=by
  apply V8 (hc:=cK133) h21<;>first|exact qrS|skip
  all_goals decide
def L22:qLS:=(133,.dat false Ws)::L21
theorem h22:qHL L22:=qa h21 sK133
theorem cK90:check qPp 90=some (13,(Qj 81 133).strip,[.cell 4 3 true,.tmp 5]):=by kernel_rfl
theorem sK90:Sound qPp 90 (.dat false yz):=by
  apply Qad (hc:=cK90) h22<;>first|exact qrS|skip
  all_goals decide
def L23:qLS:=(90,.dat false yz)::L22
theorem h23:qHL L23:=qa h22 sK90
theorem cK82:check qPp 82=some (2,(qo 81).strip,[.cell 0 2 true]):=by kernel_rfl
theorem sK82:Sound qPp 82 (.dat false Qq):=by
  apply qR (hc:=cK82) h23<;>first|exact qrS|skip
  all_goals decide
def L24:qLS:=(82,.dat false Qq)::L23
theorem h24:qHL L24:=qa h23 sK82
theorem cK33:check qPp 33=some (7,(Yp 81 82 80).strip,[.cell 2 3 true]):=by kernel_rfl
theorem sK33:Sound qPp 33 (.dat false Wx):=by
  apply Vah (hc:=cK33) h24<;>first|exact qrS|skip
  all_goals decide
def L25:qLS:=(33,.dat false Wx)::L24
theorem h25:qHL L25:=qa h24 sK33
theorem cK91:check qPp 91=some (10,(ym 33).strip,[.cell 4 6 true]):=by kernel_rfl
theorem sK91:Sound qPp 91 (.dat false yV):=by
  apply xaP (hc:=cK91) h25<;>first|exact qrS|skip
  all_goals decide
def L26:qLS:=(91,.dat false yV)::L25
theorem h26:qHL L26:=qa h25 sK91
theorem cK44:check qPp 44=some (15,(yf 90 33 91).strip,[.cell 0 27 true]):=by kernel_rfl
theorem sK44:Sound qPp 44 (.dat false vC):=by
  apply ZaH (hc:=cK44) h26<;>first|exact qrS|skip
  all_goals decide
def L27:qLS:=(44,.dat false vC)::L26
theorem h27:qHL L27:=qa h26 sK44
theorem cK110:check qPp 110=some (19,Xl.strip,[.tmp 2]):=by kernel_rfl
theorem sK110:Sound qPp 110 (.dat true Vk):=by
  apply qI (hc:=cK110) h27<;>first|exact qrS|skip
  all_goals decide
def L28:qLS:=(110,.dat true Vk)::L27
theorem h28:qHL L28:=qa h27 sK110
theorem cK135:check qPp 135=some (8,(Wp 110).strip,[.tmp 2]):=by kernel_rfl
theorem sK135:Sound qPp 135 (.dat false Wk):=by
  apply vQ (hc:=cK135) h28<;>first|exact qrS|skip
  all_goals decide
def L29:qLS:=(135,.dat false Wk)::L28
theorem h29:qHL L29:=qa h28 sK135
theorem cK134:check qPp 134=some (41,Yn.strip,[.tmp 4]):=by kernel_rfl
theorem sK134:Sound qPp 134 (.dat false Xj):=by
  apply JX (hc:=cK134) h29<;>first|exact qrS|skip
  all_goals decide
def L30:qLS:=(134,.dat false Xj)::L29
theorem h30:qHL L30:=qa h29 sK134
theorem cK169:check qPp 169=some (25,Zv.strip,[.tmp 2]):=by kernel_rfl
theorem sK169:Sound qPp 169 (.dat false Qv):=by
  apply xaF (hc:=cK169) h30<;>first|exact qrS|skip
  all_goals decide
def L31:qLS:=(169,.dat false Qv)::L30
theorem h31:qHL L31:=qa h30 sK169
theorem cK137:check qPp 137=some (43,(Vq 169).strip,[.tmp 4,.tmp 5]):=by kernel_rfl
theorem sK137:Sound qPp 137 (.dat false Uw):=by
  apply Uao (hc:=cK137) h31<;>first|exact qrS|skip
  all_goals decide
def L32:qLS:=(137,.dat false Uw)::L31
theorem h32:qHL L32:=qa h31 sK137
theorem sK185:Sound qPp 185 (.dat true lz_G):=jaX (ux Tryz.func185 (by kernel_rfl) (by kernel_rfl)) Ubs WbJ Tryz.bits_LeadingZeros32
def L33:qLS:=(185,.dat true lz_G)::L32
theorem h33:qHL L33:=qa h32 sK185
theorem cK186:check qPp 186=some (41,Qz.strip,[.tmp 4]):=by kernel_rfl
theorem sK186:Sound qPp 186 (.fresh 1 up_G):=by
  apply qbe (hc:=cK186) h33<;>first|exact qrS|skip
  all_goals decide
def L34:qLS:=(186,.fresh 1 up_G)::L33
theorem h34:qHL L34:=qa h33 sK186
theorem cK204:check qPp 204=some (14,Wn.strip,[.tmp 4]):=by kernel_rfl
theorem sK204:Sound qPp 204 (.dat true Xm):=by
  apply VR (hc:=cK204) h34<;>first|exact qrS|skip
  all_goals decide
def L35:qLS:=(204,.dat true Xm)::L34
theorem h35:qHL L35:=qa h34 sK204
theorem cK187:check qPp 187=some (46,(Uo 204).strip,[.tmp 6]):=by kernel_rfl
theorem sK187:Sound qPp 187 (.own qt):=by
  apply Waa (hc:=cK187) h35<;>first|exact qrS|skip
  all_goals decide
def L36:qLS:=(187,.own qt)::L35
theorem h36:qHL L36:=qa h35 sK187
theorem cK188:check qPp 188=some (30,(Yu 204).strip,[]):=by kernel_rfl
theorem sK188:Sound qPp 188 (.own WF):=by
  apply zaK (hc:=cK188) h36<;>first|exact qrS|skip
  all_goals decide
def L37:qLS:=(188,.own WF)::L36
theorem h37:qHL L37:=qa h36 sK188
theorem cK189:check qPp 189=some (35,(Ju 204 169).strip,[.tmp 4]):=by kernel_rfl
theorem sK189:Sound qPp 189 (.dat false YG):=by
  apply ZaK (hc:=cK189) h37<;>first|exact qrS|skip
  all_goals decide
def L38:qLS:=(189,.dat false YG)::L37
theorem h38:qHL L38:=qa h37 sK189
theorem cK151:check qPp 151=some (158,(Uj 134 169 137 185 186 187 188 189).strip,[.tmp 4,.tmp 5]):=by kernel_rfl
theorem sK151:Sound qPp 151 (.dat false ki):=by
  apply X3 (hc:=cK151) h38<;>first|exact qrS|skip
  all_goals decide
def L39:qLS:=(151,.dat false ki)::L38
theorem h39:qHL L39:=qa h38 sK151
theorem cK141:check qPp 141=some (15,(Yq 169).strip,[.cell 4 2 true]):=by kernel_rfl
theorem sK141:Sound qPp 141 (.dat false kf):=by
  apply Xao (hc:=cK141) h39<;>first|exact qrS|skip
  all_goals decide
def L40:qLS:=(141,.dat false kf)::L39
theorem h40:qHL L40:=qa h39 sK141
theorem cK111:check qPp 111=some (26,(Ww 135 151 141).strip,[.cell 4 2 true]):=by kernel_rfl
theorem sK111:Sound qPp 111 (.dat false zu):=by
  apply qaG (hc:=cK111) h40<;>first|exact qrS|skip
  all_goals decide
def L41:qLS:=(111,.dat false zu)::L40
theorem h41:qHL L41:=qa h40 sK111
theorem cK125:check qPp 125=some (19,(Vs 141).strip,[.cell 2 2 true]):=by kernel_rfl
theorem sK125:Sound qPp 125 (.dat false zH):=by
  apply xab (hc:=cK125) h41<;>first|exact qrS|skip
  all_goals decide
def L42:qLS:=(125,.dat false zH)::L41
theorem h42:qHL L42:=qa h41 sK125
theorem cK94:check qPp 94=some (2,(qo 125).strip,[.cell 0 2 true]):=by kernel_rfl
theorem sK94:Sound qPp 94 (.dat false Qq):=by
  apply qR (hc:=cK94) h42<;>first|exact qrS|skip
  all_goals decide
def L43:qLS:=(94,.dat false Qq)::L42
theorem h43:qHL L43:=qa h42 sK94
theorem cK112:check qPp 112=some (11,(Vt 135).strip,[.tmp 2]):=by kernel_rfl
theorem sK112:Sound qPp 112 (.dat true Qg):=by
  apply ual (hc:=cK112) h43<;>first|exact qrS|skip
  all_goals decide
def L44:qLS:=(112,.dat true Qg)::L43
theorem h44:qHL L44:=qa h43 sK112
theorem cK136:check qPp 136=some (9,(jp 110).strip,[.tmp 2]):=by kernel_rfl
theorem sK136:Sound qPp 136 (.dat true Xf):=by
  apply QK (hc:=cK136) h44<;>first|exact qrS|skip
  all_goals decide
def L45:qLS:=(136,.dat true Xf)::L44
theorem h45:qHL L45:=qa h44 sK136
theorem cK93:check qPp 93=some (28,(kw 112 135 134 136).strip,[.tmp 4]):=by kernel_rfl
theorem sK93:Sound qPp 93 (.dat true uA):=by
  apply waH (hc:=cK93) h45<;>first|exact qrS|skip
  all_goals decide
def L46:qLS:=(93,.dat true uA)::L45
theorem h46:qHL L46:=qa h45 sK93
theorem cK64:check qPp 64=some (50,(Vo 110 111 94 93).strip,[.tmp 2]):=by kernel_rfl
theorem sK64:Sound qPp 64 (.dat true je):=by
  apply V9 (hc:=cK64) h46<;>first|exact qrS|skip
  all_goals decide
def L47:qLS:=(64,.dat true je)::L46
theorem h47:qHL L47:=qa h46 sK64
theorem cK63:check qPp 63=some (11,(zh 64).strip,[.tmp 2]):=by kernel_rfl
theorem sK63:Sound qPp 63 (.dat true vm):=by
  apply uH (hc:=cK63) h47<;>first|exact qrS|skip
  all_goals decide
def L48:qLS:=(63,.dat true vm)::L47
theorem h48:qHL L48:=qa h47 sK63
theorem cK92:check qPp 92=some (28,(uo 64 94).strip,[.cell 2 2 true,.cell 3 2 true]):=by kernel_rfl
theorem sK92:Sound qPp 92 (.dat false Qe):=by
  apply Xaa (hc:=cK92) h48<;>first|exact qrS|skip
  all_goals decide
def L49:qLS:=(92,.dat false Qe)::L48
theorem h49:qHL L49:=qa h48 sK92
theorem cK65:check qPp 65=some (12,(Zm 92 112).strip,[.tmp 2]):=by kernel_rfl
theorem sK65:Sound qPp 65 (.dat true xk):=by
  apply zN (hc:=cK65) h49<;>first|exact qrS|skip
  all_goals decide
def L50:qLS:=(65,.dat true xk)::L49
theorem h50:qHL L50:=qa h49 sK65
theorem cK142:check qPp 142=some (67,(Xq 169).strip,[.tmp 4]):=by kernel_rfl
theorem sK142:Sound qPp 142 (.dat false Jq):=by
  apply Xan (hc:=cK142) h50<;>first|exact qrS|skip
  all_goals decide
def L51:qLS:=(142,.dat false Jq)::L50
theorem h51:qHL L51:=qa h50 sK142
theorem cK96:check qPp 96=some (16,(vp 136 135 142 141).strip,[.cell 4 2 true]):=by kernel_rfl
theorem sK96:Sound qPp 96 (.dat false Uv):=by
  apply yQ (hc:=cK96) h51<;>first|exact qrS|skip
  all_goals decide
def L52:qLS:=(96,.dat false Uv)::L51
theorem h52:qHL L52:=qa h51 sK96
theorem cK46:check qPp 46=some (26,(qu 92 96 93).strip,[.tmp 4]):=by kernel_rfl
theorem sK46:Sound qPp 46 (.dat true jg):=by
  apply Waj (hc:=cK46) h52<;>first|exact qrS|skip
  all_goals decide
def L53:qLS:=(46,.dat true jg)::L52
theorem h53:qHL L53:=qa h52 sK46
theorem cK26:check qPp 26=some (75,(ug 63 64 65 46 55).strip,[.tmp 2]):=by kernel_rfl
theorem sK26:Sound qPp 26 (.dat false (VA 55)):=by
  apply kaG (hc:=cK26) h53<;>first|exact qrS|skip
  all_goals decide
def L54:qLS:=(26,.dat false (VA 55))::L53
theorem h54:qHL L54:=qa h53 sK26
theorem cK52:check qPp 52=some (8,Qi.strip,[.cell 2 6 true]):=by kernel_rfl
theorem sK52:Sound qPp 52 (.dat false ZE):=by
  apply vad (hc:=cK52) h54<;>first|exact qrS|skip
  all_goals decide
def L55:qLS:=(52,.dat false ZE)::L54
theorem h55:qHL L55:=qa h54 sK52
theorem cK153:check qPp 153=some (9,(kp 136 135 141).strip,[.cell 2 2 true]):=by kernel_rfl
theorem sK153:Sound qPp 153 (.dat false Jv):=by
  apply ZR (hc:=cK153) h55<;>first|exact qrS|skip
  all_goals decide
def L56:qLS:=(153,.dat false Jv)::L55
theorem h56:qHL L56:=qa h55 sK153
theorem cK183:check qPp 183=some (39,(xu 204 169).strip,[.tmp 4]):=by kernel_rfl
theorem sK183:Sound qPp 183 (.dat false Jr):=by
  apply UaE (hc:=cK183) h56<;>first|exact qrS|skip
  all_goals decide
def L57:qLS:=(183,.dat false Jr)::L56
theorem h57:qHL L57:=qa h56 sK183
theorem cK184:check qPp 184=some (38,(uu 204 169).strip,[.tmp 4]):=by kernel_rfl
theorem sK184:Sound qPp 184 (.dat false yt):=by
  apply kaH (hc:=cK184) h57<;>first|exact qrS|skip
  all_goals decide
def L58:qLS:=(184,.dat false yt)::L57
theorem h58:qHL L58:=qa h57 sK184
theorem cK161:check qPp 161=some (47,(Zx 135 151 136 183 184 141 55).strip,[.cell 4 2 true,.cell 5 2 true,.tmp 6]):=by kernel_rfl
theorem sK161:Sound qPp 161 (.dat false VE):=by
  apply uaJ (hc:=cK161) h58<;>first|exact qrS|skip
  all_goals decide
def L59:qLS:=(161,.dat false VE)::L58
theorem h59:qHL L59:=qa h58 sK161
theorem cK124:check qPp 124=some (47,(Wq 112 153 111 161).strip,[.cell 4 3 true]):=by kernel_rfl
theorem sK124:Sound qPp 124 (.dat false qj):=by
  apply wam (hc:=cK124) h59<;>first|exact qrS|skip
  all_goals decide
def L60:qLS:=(124,.dat false qj)::L59
theorem h60:qHL L60:=qa h59 sK124
theorem cK116:check qPp 116=some (14,(xn 92 153 124).strip,[.cell 2 3 true]):=by kernel_rfl
theorem sK116:Sound qPp 116 (.dat false Xp):=by
  apply zS (hc:=cK116) h60<;>first|exact qrS|skip
  all_goals decide
def L61:qLS:=(116,.dat false Xp)::L60
theorem h61:qHL L61:=qa h60 sK116
theorem cK149:check qPp 149=some (40,(Vw 135 136 183 141 134 184).strip,[.cell 4 2 true]):=by kernel_rfl
theorem sK149:Sound qPp 149 (.dat false Xx):=by
  apply XaJ (hc:=cK149) h61<;>first|exact qrS|skip
  all_goals decide
def L62:qLS:=(149,.dat false Xx)::L61
theorem h62:qHL L62:=qa h61 sK149
theorem cK107:check qPp 107=some (30,(Xn 92 96 149 124).strip,[.cell 4 3 true]):=by kernel_rfl
theorem sK107:Sound qPp 107 (.dat false Zn):=by
  apply wU (hc:=cK107) h62<;>first|exact qrS|skip
  all_goals decide
def L63:qLS:=(107,.dat false Zn)::L62
theorem h63:qHL L63:=qa h62 sK107
theorem cK114:check qPp 114=some (9,(kn 116 107).strip,[.cell 4 3 true]):=by kernel_rfl
theorem sK114:Sound qPp 114 (.dat false vr):=by
  apply UU (hc:=cK114) h63<;>first|exact qrS|skip
  all_goals decide
def L64:qLS:=(114,.dat false vr)::L63
theorem h64:qHL L64:=qa h63 sK114
theorem cK83:check qPp 83=some (16,(Jp 114).strip,[.cell 4 6 true]):=by kernel_rfl
theorem sK83:Sound qPp 83 (.dat false ko):=by
  apply ZM (hc:=cK83) h64<;>first|exact qrS|skip
  all_goals decide
def L65:qLS:=(83,.dat false ko)::L64
theorem h65:qHL L65:=qa h64 sK83
theorem cK70:check qPp 70=some (26,(yn 92 96 124).strip,[.cell 4 3 true]):=by kernel_rfl
theorem sK70:Sound qPp 70 (.dat false kj):=by
  apply qQ (hc:=cK70) h65<;>first|exact qrS|skip
  all_goals decide
def L66:qLS:=(70,.dat false kj)::L65
theorem h66:qHL L66:=qa h65 sK70
theorem cK85:check qPp 85=some (28,(zr 70 114 107).strip,[.cell 4 6 true]):=by kernel_rfl
theorem sK85:Sound qPp 85 (.dat false Jk):=by
  apply XY (hc:=cK85) h66<;>first|exact qrS|skip
  all_goals decide
def L67:qLS:=(85,.dat false Jk)::L66
theorem h67:qHL L67:=qa h66 sK85
theorem cK84:check qPp 84=some (16,(vw 107).strip,[.cell 4 6 true]):=by kernel_rfl
theorem sK84:Sound qPp 84 (.dat false zx):=by
  apply jai (hc:=cK84) h67<;>first|exact qrS|skip
  all_goals decide
def L68:qLS:=(84,.dat false zx)::L67
theorem h68:qHL L68:=qa h67 sK84
theorem cK50:check qPp 50=some (14,(uq 52 83 85 84).strip,[.cell 2 6 true]):=by kernel_rfl
theorem sK50:Sound qPp 50 (.dat false uC):=by
  apply uaE (hc:=cK50) h68<;>first|exact qrS|skip
  all_goals decide
def L69:qLS:=(50,.dat false uC)::L68
theorem h69:qHL L69:=qa h68 sK50
theorem cK16:check qPp 16=some (13,(jm 26 50).strip,[.cell 2 6 true,.tmp 3]):=by kernel_rfl
theorem sK16:Sound qPp 16 (.dat false (jV 55)):=by
  apply WaN (hc:=cK16) h69<;>first|exact qrS|skip
  all_goals decide
def L70:qLS:=(16,.dat false (jV 55))::L69
theorem h70:qHL L70:=qa h69 sK16
theorem cK106:check qPp 106=some (14,(vi 70 107).strip,[.cell 2 3 true]):=by kernel_rfl
theorem sK106:Sound qPp 106 (.dat false kH):=by
  apply Uaf (hc:=cK106) h70<;>first|exact qrS|skip
  all_goals decide
def L71:qLS:=(106,.dat false kH)::L70
theorem h71:qHL L71:=qa h70 sK106
theorem cK182:check qPp 182=some (14,(yq 112 124 55).strip,[.cell 4 3 true,.tmp 5]):=by kernel_rfl
theorem sK182:Sound qPp 182 (.dat false (yr 55)):=by
  apply Uae (hc:=cK182) h71<;>first|exact qrS|skip
  all_goals decide
def L72:qLS:=(182,.dat false (yr 55))::L71
theorem h72:qHL L72:=qa h71 sK182
theorem cK148:check qPp 148=some (29,(Zu 92 96 182).strip,[.cell 4 3 true,.tmp 5]):=by kernel_rfl
theorem sK148:Sound qPp 148 (.dat false (Uz 55)):=by
  apply yak (hc:=cK148) h72<;>first|exact qrS|skip
  all_goals decide
def L73:qLS:=(148,.dat false (Uz 55))::L72
theorem h73:qHL L73:=qa h72 sK148
theorem cK105:check qPp 105=some (33,(Zi 106 148 116).strip,[.cell 2 6 true,.tmp 3]):=by kernel_rfl
theorem sK105:Sound qPp 105 (.dat false (uG 55)):=by
  apply VaJ (hc:=cK105) h73<;>first|exact qrS|skip
  all_goals decide
def L74:qLS:=(105,.dat false (uG 55))::L73
theorem h74:qHL L74:=qa h73 sK105
theorem cK86:check qPp 86=some (6,(xq 84).strip,[.cell 2 6 true]):=by kernel_rfl
theorem sK86:Sound qPp 86 (.dat false jG):=by
  apply VaI (hc:=cK86) h74<;>first|exact qrS|skip
  all_goals decide
def L75:qLS:=(86,.dat false jG)::L74
theorem h75:qHL L75:=qa h74 sK86
theorem cK51:check qPp 51=some (46,(Vi 105 106 86 50 70).strip,[.cell 12 27 true,.tmp 13]):=by kernel_rfl
theorem sK51:Sound qPp 51 (.dat false (WE 55)):=by
  apply kaI (hc:=cK51) h75<;>first|exact qrS|skip
  all_goals decide
def L76:qLS:=(51,.dat false (WE 55))::L75
theorem h76:qHL L76:=qa h75 sK51
theorem cK17:check qPp 17=some (25,(ul 26 52 51).strip,[.cell 2 27 true,.tmp 3]):=by kernel_rfl
theorem sK17:Sound qPp 17 (.dat false (YZ 55)):=by
  apply VaS (hc:=cK17) h76<;>first|exact qrS|skip
  all_goals decide
def L77:qLS:=(17,.dat false (YZ 55))::L76
theorem h77:qHL L77:=qa h76 sK17
theorem cK71:check qPp 71=some (7,(Yp 125 94 124).strip,[.cell 2 3 true]):=by kernel_rfl
theorem sK71:Sound qPp 71 (.dat false Wx):=by
  apply Vah (hc:=cK71) h77<;>first|exact qrS|skip
  all_goals decide
def L78:qLS:=(71,.dat false Wx)::L77
theorem h78:qHL L78:=qa h77 sK71
theorem cK190:check qPp 190=some (29,Qr.strip,[.tmp 2]):=by kernel_rfl
theorem sK190:Sound qPp 190 (.dat true vl):=by
  apply vZ (hc:=cK190) h78<;>first|exact qrS|skip
  all_goals decide
def L79:qLS:=(190,.dat true vl)::L78
theorem h79:qHL L79:=qa h78 sK190
theorem cK157:check qPp 157=some (8,we.strip,[.tmp 2]):=by kernel_rfl
theorem sK157:Sound qPp 157 (.fresh 5 Zp):=by
  apply Yaf (hc:=cK157) h79<;>first|exact qrS|skip
  all_goals decide
def L80:qLS:=(157,.fresh 5 Zp)::L79
theorem h80:qHL L80:=qa h79 sK157
theorem cK219:check qPp 219=some (6,Qw.strip,[.tmp 2]):=by kernel_rfl
theorem sK219:Sound qPp 219 (.dat true yF):=by
  apply JaF (hc:=cK219) h80<;>first|exact qrS|skip
  all_goals decide
def L81:qLS:=(219,.dat true yF)::L80
theorem h81:qHL L81:=qa h80 sK219
theorem cK209:check qPp 209=some (20,(Ug 219).strip,[.tmp 4]):=by kernel_rfl
theorem sK209:Sound qPp 209 (.dat true VF):=by
  apply yaH (hc:=cK209) h81<;>first|exact qrS|skip
  all_goals decide
def L82:qLS:=(209,.dat true VF)::L81
theorem h82:qHL L82:=qa h81 sK209
theorem cK208:check qPp 208=some (18,XD.strip,[.tmp 2]):=by kernel_rfl
theorem sK208:Sound qPp 208 (.dat true JW):=by
  apply yaL (hc:=cK208) h82<;>first|exact qrS|skip
  all_goals decide
def L83:qLS:=(208,.dat true JW)::L82
theorem h83:qHL L83:=qa h82 sK208
theorem cK193:check qPp 193=some (23,(yu 209 208).strip,[.tmp 4]):=by kernel_rfl
theorem sK193:Sound qPp 193 (.dat true Jy):=by
  apply wad (hc:=cK193) h83<;>first|exact qrS|skip
  all_goals decide
def L84:qLS:=(193,.dat true Jy)::L83
theorem h84:qHL L84:=qa h83 sK193
theorem cK217:check qPp 217=some (53,xc.strip,[]):=by kernel_rfl
theorem sK217:Sound qPp 217 (.own (ZG 193)):=by
  apply ZaI (hc:=cK217) h84<;>first|exact qrS|skip
  all_goals decide
def L85:qLS:=(217,.own (ZG 193))::L84
theorem h85:qHL L85:=qa h84 sK217
theorem cK228:check qPp 228=some (38,Wd.strip,[]):=by kernel_rfl
theorem sK228:Sound qPp 228 (.own (yC 193)):=by
  apply uaH (hc:=cK228) h85<;>first|exact qrS|skip
  all_goals decide
def L86:qLS:=(228,.own (yC 193))::L85
theorem h86:qHL L86:=qa h85 sK228
theorem cK225:check qPp 225=some (58,(Ve 228).strip,[]):=by kernel_rfl
theorem sK225:Sound qPp 225 (.own (VG 193)):=by
  apply jaJ (hc:=cK225) h86<;>first|exact qrS|skip
  all_goals decide
def L87:qLS:=(225,.own (VG 193))::L86
theorem h87:qHL L87:=qa h86 sK225
theorem cK218:check qPp 218=some (220,(kb 225 218).strip,[]):=by kernel_rfl
theorem sK218:Sound qPp 218 (.own (Yj 193 10000)):=by
  apply VY (hc:=cK218) h87<;>first|exact qrS|skip
  all_goals decide
def L88:qLS:=(218,.own (Yj 193 10000))::L87
theorem h88:qHL L88:=qa h87 sK218
theorem cK207:check qPp 207=some (63,(ke 217 218).strip,[]):=by kernel_rfl
theorem sK207:Sound qPp 207 (.own (YA 193 10000)):=by
  apply Yaj (hc:=cK207) h88<;>first|exact qrS|skip
  all_goals decide
def L89:qLS:=(207,.own (YA 193 10000))::L88
theorem h89:qHL L89:=qa h88 sK207
theorem cK192:check qPp 192=some (9,(ze 207).strip,[]):=by kernel_rfl
theorem sK192:Sound qPp 192 (.own (qx 193 10000)):=by
  apply Uah (hc:=cK192) h89<;>first|exact qrS|skip
  all_goals decide
def L90:qLS:=(192,.own (qx 193 10000))::L89
theorem h90:qHL L90:=qa h89 sK192
theorem cK195:check qPp 195=some (7,(kt 65).strip,[.tmp 2]):=by kernel_rfl
theorem sK195:Sound qPp 195 (.dat true VC):=by
  apply xaJ (hc:=cK195) h90<;>first|exact qrS|skip
  all_goals decide
def L91:qLS:=(195,.dat true VC)::L90
theorem h91:qHL L91:=qa h90 sK195
theorem cK210:check qPp 210=some (19,wh.strip,[.tmp 4]):=by kernel_rfl
theorem sK210:Sound qPp 210 (.dat true (jE 195)):=by
  apply waJ (hc:=cK210) h91<;>first|exact qrS|skip
  all_goals decide
def L92:qLS:=(210,.dat true (jE 195))::L91
theorem h92:qHL L92:=qa h91 sK210
theorem cK194:check qPp 194=some (42,(Yc 210).strip,[.tmp 4]):=by kernel_rfl
theorem sK194:Sound qPp 194 (.own (JF 195)):=by
  apply zaG (hc:=cK194) h92<;>first|exact qrS|skip
  all_goals decide
def L93:qLS:=(194,.own (JF 195))::L92
theorem h93:qHL L93:=qa h92 sK194
theorem cK156:check qPp 156=some (60,(Wy 157 192 193 107 194 195).strip,[.tmp 2]):=by kernel_rfl
theorem sK156:Sound qPp 156 (.dat false (Zy 10000)):=by
  apply yaJ (hc:=cK156) h93<;>first|exact qrS|skip
  all_goals decide
def L94:qLS:=(156,.dat false (Zy 10000))::L93
theorem h94:qHL L94:=qa h93 sK156
theorem cK152:check qPp 152=some (28,(Qp 190 64 156 55).strip,[.tmp 2,.tmp 3]):=by kernel_rfl
theorem sK152:Sound qPp 152 (.dat false (Yw 55)):=by
  apply jaj (hc:=cK152) h94<;>first|exact qrS|skip
  all_goals decide
def L95:qLS:=(152,.dat false (Yw 55))::L94
theorem h95:qHL L95:=qa h94 sK152
theorem cK120:check qPp 120=some (17,Yf.strip,[.tmp 6]):=by kernel_rfl
theorem sK120:Sound qPp 120 (.red Zo):=by
  apply Jan (hc:=cK120) h95<;>first|exact qrS|skip
  all_goals decide
def L96:qLS:=(120,.red Zo)::L95
theorem h96:qHL L96:=qa h95 sK120
theorem cK113:check qPp 113=some (23,(Zd 71 116 152 120).strip,[.tmp 6]):=by kernel_rfl
theorem sK113:Sound qPp 113 (.red JE):=by
  apply yaF (hc:=cK113) h96<;>first|exact qrS|skip
  all_goals decide
def L97:qLS:=(113,.red JE)::L96
theorem h97:qHL L97:=qa h96 sK113
theorem cK160:check qPp 160=some (48,(Jn 190 64 65 193 55).strip,[.tmp 2]):=by kernel_rfl
theorem sK160:Sound qPp 160 (.dat false (yp 55)):=by
  apply kad (hc:=cK160) h97<;>first|exact qrS|skip
  all_goals decide
def L98:qLS:=(160,.dat false (yp 55))::L97
theorem h98:qHL L98:=qa h97 sK160
theorem cK158:check qPp 158=some (28,(Yt 70).strip,[.tmp 4]):=by kernel_rfl
theorem sK158:Sound qPp 158 (.dat false XC):=by
  apply xaG (hc:=cK158) h98<;>first|exact qrS|skip
  all_goals decide
def L99:qLS:=(158,.dat false XC)::L98
theorem h99:qHL L99:=qa h98 sK158
theorem cK123:check qPp 123=some (16,(Un 160 158 156).strip,[.tmp 4,.tmp 5]):=by kernel_rfl
theorem sK123:Sound qPp 123 (.dat false (Jt 55)):=by
  apply Yah (hc:=cK123) h99<;>first|exact qrS|skip
  all_goals decide
def L100:qLS:=(123,.dat false (Jt 55))::L99
theorem h100:qHL L100:=qa h99 sK123
theorem cK69:check qPp 69=some (14,(zf 123 120).strip,[.tmp 6]):=by kernel_rfl
theorem sK69:Sound qPp 69 (.red Vp):=by
  apply vac (hc:=cK69) h100<;>first|exact qrS|skip
  all_goals decide
def L101:qLS:=(69,.red Vp)::L100
theorem h101:qHL L101:=qa h100 sK69
theorem cK155:check qPp 155=some (18,(Zr 160).strip,[.tmp 2]):=by kernel_rfl
theorem sK155:Sound qPp 155 (.dat false (Yi 55)):=by
  apply WV (hc:=cK155) h101<;>first|exact qrS|skip
  all_goals decide
def L102:qLS:=(155,.dat false (Yi 55))::L101
theorem h102:qHL L102:=qa h101 sK155
theorem cK121:check qPp 121=some (21,(js 155 157 71 158 156).strip,[.tmp 4,.tmp 5]):=by kernel_rfl
theorem sK121:Sound qPp 121 (.dat false (yG 55)):=by
  apply XaH (hc:=cK121) h102<;>first|exact qrS|skip
  all_goals decide
def L103:qLS:=(121,.dat false (yG 55))::L102
theorem h103:qHL L103:=qa h102 sK121
theorem cK67:check qPp 67=some (14,(kg 121 120).strip,[.tmp 6]):=by kernel_rfl
theorem sK67:Sound qPp 67 (.red jA):=by
  apply waG (hc:=cK67) h103<;>first|exact qrS|skip
  all_goals decide
def L104:qLS:=(67,.red jA)::L103
theorem h104:qHL L104:=qa h103 sK67
theorem cK206:check qPp 206=some (27,yo.strip,[.tmp 4]):=by kernel_rfl
theorem sK206:Sound qPp 206 (.fresh 5 qz):=by
  apply Wao (hc:=cK206) h104<;>first|exact qrS|skip
  all_goals decide
def L105:qLS:=(206,.fresh 5 qz)::L104
theorem h105:qHL L105:=qa h104 sK206
theorem cK191:check qPp 191=some (36,(Wm 206).strip,[.tmp 2]):=by kernel_rfl
theorem sK191:Sound qPp 191 (.fresh 5 vy):=by
  apply wao (hc:=cK191) h105<;>first|exact qrS|skip
  all_goals decide
def L106:qLS:=(191,.fresh 5 vy)::L105
theorem h106:qHL L106:=qa h105 sK191
theorem cK154:check qPp 154=some (19,(Qt 155 191 156).strip,[.tmp 4,.tmp 5]):=by kernel_rfl
theorem sK154:Sound qPp 154 (.dat false (uF 55)):=by
  apply QaG (hc:=cK154) h106<;>first|exact qrS|skip
  all_goals decide
def L107:qLS:=(154,.dat false (uF 55))::L106
theorem h107:qHL L107:=qa h106 sK154
theorem cK118:check qPp 118=some (14,(Uf 154 120).strip,[.tmp 6]):=by kernel_rfl
theorem sK118:Sound qPp 118 (.red xA):=by
  apply ZaJ (hc:=cK118) h107<;>first|exact qrS|skip
  all_goals decide
def L108:qLS:=(118,.red xA)::L107
theorem h108:qHL L108:=qa h107 sK118
theorem cK115:check qPp 115=some (34,(xe 69 67 118).strip,[.cell 8 2 true]):=by kernel_rfl
theorem sK115:Sound qPp 115 (.red XF):=by
  apply QaI (hc:=cK115) h108<;>first|exact qrS|skip
  all_goals decide
def L109:qLS:=(115,.red XF)::L108
theorem h109:qHL L109:=qa h108 sK115
theorem cK117:check qPp 117=some (12,(qp 70 107).strip,[.cell 4 3 true]):=by kernel_rfl
theorem sK117:Sound qPp 117 (.dat false QE):=by
  apply YaF (hc:=cK117) h109<;>first|exact qrS|skip
  all_goals decide
def L110:qLS:=(117,.dat false QE)::L109
theorem h110:qHL L110:=qa h109 sK117
theorem cK159:check qPp 159=some (21,qm.strip,[.tmp 2]):=by kernel_rfl
theorem sK159:Sound qPp 159 (.dat true XG):=by
  apply UaG (hc:=cK159) h110<;>first|exact qrS|skip
  all_goals decide
def L111:qLS:=(159,.dat true XG)::L110
theorem h111:qHL L111:=qa h110 sK159
theorem cK122:check qPp 122=some (71,(qn 155 159 70 156 55).strip,[.tmp 4,.tmp 5]):=by kernel_rfl
theorem sK122:Sound qPp 122 (.dat false (JG 55)):=by
  apply WaJ (hc:=cK122) h111<;>first|exact qrS|skip
  all_goals decide
def L112:qLS:=(122,.dat false (JG 55))::L111
theorem h112:qHL L112:=qa h111 sK122
theorem cK68:check qPp 68=some (14,(qg 122 120).strip,[.tmp 6]):=by kernel_rfl
theorem sK68:Sound qPp 68 (.red zB):=by
  apply jaF (hc:=cK68) h112<;>first|exact qrS|skip
  all_goals decide
def L113:qLS:=(68,.red zB)::L112
theorem h113:qHL L113:=qa h112 sK68
theorem cK72:check qPp 72=some (19,(jf 68 118).strip,[.tmp 4]):=by kernel_rfl
theorem sK72:Sound qPp 72 (.red YC):=by
  apply YaI (hc:=cK72) h113<;>first|exact qrS|skip
  all_goals decide
def L114:qLS:=(72,.red YC)::L113
theorem h114:qHL L114:=qa h113 sK72
theorem cK119:check qPp 119=some (13,(Yd 152 120).strip,[.tmp 4]):=by kernel_rfl
theorem sK119:Sound qPp 119 (.red xG):=by
  apply QaH (hc:=cK119) h114<;>first|exact qrS|skip
  all_goals decide
def L115:qLS:=(119,.red xG)::L114
theorem h115:qHL L115:=qa h114 sK119
theorem cK66:check qPp 66=some (111,(Ue 113 71 114 116 115 117 70 72 119 118 67 68).strip,[.cell 4 7 true]):=by kernel_rfl
theorem sK66:Sound qPp 66 (.red qF):=by
  apply yaI (hc:=cK66) h115<;>first|exact qrS|skip
  all_goals decide
def L116:qLS:=(66,.red qF)::L115
theorem h116:qHL L116:=qa h115 sK66
theorem cK27:check qPp 27=some (78,(Jm 26 66 68 67 71 70 69 72).strip,[.tmp 2,.tmp 3]):=by kernel_rfl
theorem sK27:Sound qPp 27 (.dat false (QF 55)):=by
  apply qaJ (hc:=cK27) h116<;>first|exact qrS|skip
  all_goals decide
def L117:qLS:=(27,.dat false (QF 55))::L116
theorem h117:qHL L117:=qa h116 sK27
theorem cK12:check qPp 12=some (75,(Ui 27 46).strip,[.tmp 4,.tmp 5]):=by kernel_rfl
theorem sK12:Sound qPp 12 (.dat false (kC 55)):=by
  apply JaG (hc:=cK12) h117<;>first|exact qrS|skip
  all_goals decide
def L118:qLS:=(12,.dat false (kC 55))::L117
theorem h118:qHL L118:=qa h117 sK12
theorem cK211:check qPp 211=some (15,ub.strip,[.tmp 2]):=by kernel_rfl
theorem sK211:Sound qPp 211 (.dat false qs):=by
  apply Xae (hc:=cK211) h118<;>first|exact qrS|skip
  all_goals decide
def L119:qLS:=(211,.dat false qs)::L118
theorem h119:qHL L119:=qa h118 sK211
theorem cK198:check qPp 198=some (54,(kd 211 212 213 214).strip,[.tmp 4]):=by kernel_rfl
theorem sK198:Sound qPp 198 (.dat false Vz):=by
  apply vaj (hc:=cK198) h119<;>first|exact qrS|skip
  all_goals decide
def L120:qLS:=(198,.dat false Vz)::L119
theorem h120:qHL L120:=qa h119 sK198
theorem cK170:check qPp 170=some (5,(Jf 198).strip,[.tmp 2]):=by kernel_rfl
theorem sK170:Sound qPp 170 (.dat false xo):=by
  apply Qao (hc:=cK170) h120<;>first|exact qrS|skip
  all_goals decide
def L121:qLS:=(170,.dat false xo)::L120
theorem h121:qHL L121:=qa h120 sK170
theorem cK138:check qPp 138=some (5,(Xt 170).strip,[.tmp 2]):=by kernel_rfl
theorem sK138:Sound qPp 138 (.dat false xo):=by
  apply vaf (hc:=cK138) h121<;>first|exact qrS|skip
  all_goals decide
def L122:qLS:=(138,.dat false xo)::L121
theorem h122:qHL L122:=qa h121 sK138
theorem cK140:check qPp 140=some (75,(ut 173 174 176).strip,[.tmp 4]):=by kernel_rfl
theorem sK140:Sound qPp 140 (.dat false yy):=by
  apply uah (hc:=cK140) h122<;>first|exact qrS|skip
  all_goals decide
def L123:qLS:=(140,.dat false yy)::L122
theorem h123:qHL L123:=qa h122 sK140
theorem cK95:check qPp 95=some (44,(wt 135 137 138 139 140 136).strip,[.tmp 2]):=by kernel_rfl
theorem sK95:Sound qPp 95 (.dat false Zt):=by
  apply vah (hc:=cK95) h123<;>first|exact qrS|skip
  all_goals decide
def L124:qLS:=(95,.dat false Zt)::L123
theorem h124:qHL L124:=qa h123 sK95
theorem cK45:check qPp 45=some (22,(Qm 92 94 93 95).strip,[.tmp 2]):=by kernel_rfl
theorem sK45:Sound qPp 45 (.dat false Vr):=by
  apply kah (hc:=cK45) h124<;>first|exact qrS|skip
  all_goals decide
def L125:qLS:=(45,.dat false Vr)::L124
theorem h125:qHL L125:=qa h124 sK45
theorem cK10:check qPp 10=some (60,(Xh 44 16 17 12 45).strip,[.tmp 0]):=by kernel_rfl
theorem sK10:Sound qPp 10 (.dat true uy):=by
  apply xan (hc:=cK10) h125<;>first|exact qrS|skip
  all_goals decide
def L126:qLS:=(10,.dat true uy)::L125
theorem h126:qHL L126:=qa h125 sK10
theorem cK11:check qPp 11=some (44,uh.strip,[.tmp 2]):=by kernel_rfl
theorem sK11:Sound qPp 11 (.dat true vG):=by
  apply VaG (hc:=cK11) h126<;>first|exact qrS|skip
  all_goals decide
def L127:qLS:=(11,.dat true vG)::L126
theorem h127:qHL L127:=qa h126 sK11
theorem cK97:check qPp 97=some (15,qi.strip,[.tmp 2]):=by kernel_rfl
theorem sK97:Sound qPp 97 (.dat true Us):=by
  apply UO (hc:=cK97) h127<;>first|exact qrS|skip
  all_goals decide
def L128:qLS:=(97,.dat true Us)::L127
theorem h128:qHL L128:=qa h127 sK97
theorem cK131:check qPp 131=some (38,(yk 126 127 164 130 167 165).strip,[.cell 4 2 true]):=by kernel_rfl
theorem sK131:Sound qPp 131 (.dat false Xx):=by
  apply U9 (hc:=cK131) h128<;>first|exact qrS|skip
  all_goals decide
def L129:qLS:=(131,.dat false Xx)::L128
theorem h129:qHL L129:=qa h128 sK131
theorem cK143:check qPp 143=some (9,(Uk 128 131).strip,[.cell 4 2 true]):=by kernel_rfl
theorem sK143:Sound qPp 143 (.dat false ZF):=by
  apply Uab (hc:=cK143) h129<;>first|exact qrS|skip
  all_goals decide
def L130:qLS:=(143,.dat false ZF)::L129
theorem h130:qHL L130:=qa h129 sK143
theorem cK98:check qPp 98=some (9,(Zl 143 78).strip,[.tmp 4]):=by kernel_rfl
theorem sK98:Sound qPp 98 (.dat true Xr):=by
  apply Uad (hc:=cK98) h130<;>first|exact qrS|skip
  all_goals decide
def L131:qLS:=(98,.dat true Xr)::L130
theorem h131:qHL L131:=qa h130 sK98
theorem cK47:check qPp 47=some (36,(kh 97 99 82 98).strip,[.tmp 2]):=by kernel_rfl
theorem sK47:Sound qPp 47 (.dat true je):=by
  apply ZP (hc:=cK47) h131<;>first|exact qrS|skip
  all_goals decide
def L132:qLS:=(47,.dat true je)::L131
theorem h132:qHL L132:=qa h131 sK47
theorem cK38:check qPp 38=some (11,(zh 47).strip,[.tmp 2]):=by kernel_rfl
theorem sK38:Sound qPp 38 (.dat true vm):=by
  apply uH (hc:=cK38) h132<;>first|exact qrS|skip
  all_goals decide
def L133:qLS:=(38,.dat true vm)::L132
theorem h133:qHL L133:=qa h132 sK38
theorem cK77:check qPp 77=some (23,(Yh 47 82).strip,[.cell 2 2 true,.cell 3 2 true]):=by kernel_rfl
theorem sK77:Sound qPp 77 (.dat false Qe):=by
  apply XO (hc:=cK77) h133<;>first|exact qrS|skip
  all_goals decide
def L134:qLS:=(77,.dat false Qe)::L133
theorem h134:qHL L134:=qa h133 sK77
theorem cK31:check qPp 31=some (12,(Zm 77 78).strip,[.tmp 2]):=by kernel_rfl
theorem sK31:Sound qPp 31 (.dat true xk):=by
  apply zN (hc:=cK31) h134<;>first|exact qrS|skip
  all_goals decide
def L135:qLS:=(31,.dat true xk)::L134
theorem h135:qHL L135:=qa h134 sK31
theorem cK104:check qPp 104=some (14,(xn 77 128 80).strip,[.cell 2 3 true]):=by kernel_rfl
theorem sK104:Sound qPp 104 (.dat false Xp):=by
  apply zS (hc:=cK104) h135<;>first|exact qrS|skip
  all_goals decide
def L136:qLS:=(104,.dat false Xp)::L135
theorem h136:qHL L136:=qa h135 sK104
theorem cK168:check qPp 168=some (68,(jh 166).strip,[.tmp 4]):=by kernel_rfl
theorem sK168:Sound qPp 168 (.dat false Jq):=by
  apply vW (hc:=cK168) h136<;>first|exact qrS|skip
  all_goals decide
def L137:qLS:=(168,.dat false Jq)::L136
theorem h137:qHL L137:=qa h136 sK168
theorem cK132:check qPp 132=some (16,(vp 127 126 168 130).strip,[.cell 4 2 true]):=by kernel_rfl
theorem sK132:Sound qPp 132 (.dat false Uv):=by
  apply yQ (hc:=cK132) h137<;>first|exact qrS|skip
  all_goals decide
def L138:qLS:=(132,.dat false Uv)::L137
theorem h138:qHL L138:=qa h137 sK132
theorem cK87:check qPp 87=some (30,(Xn 77 132 131 80).strip,[.cell 4 3 true]):=by kernel_rfl
theorem sK87:Sound qPp 87 (.dat false Zn):=by
  apply wU (hc:=cK87) h138<;>first|exact qrS|skip
  all_goals decide
def L139:qLS:=(87,.dat false Zn)::L138
theorem h139:qHL L139:=qa h138 sK87
theorem cK79:check qPp 79=some (9,(kn 104 87).strip,[.cell 4 3 true]):=by kernel_rfl
theorem sK79:Sound qPp 79 (.dat false vr):=by
  apply UU (hc:=cK79) h139<;>first|exact qrS|skip
  all_goals decide
def L140:qLS:=(79,.dat false vr)::L139
theorem h140:qHL L140:=qa h139 sK79
theorem cK32:check qPp 32=some (9,(uk 79 31).strip,[.tmp 4]):=by kernel_rfl
theorem sK32:Sound qPp 32 (.dat true jg):=by
  apply zad (hc:=cK32) h140<;>first|exact qrS|skip
  all_goals decide
def L141:qLS:=(32,.dat true jg)::L140
theorem h141:qHL L141:=qa h140 sK32
theorem cK48:check qPp 48=some (19,(Ul 32).strip,[.tmp 4]):=by kernel_rfl
theorem sK48:Sound qPp 48 (.dat true qA):=by
  apply Jao (hc:=cK48) h141<;>first|exact qrS|skip
  all_goals decide
def L142:qLS:=(48,.dat true qA)::L141
theorem h142:qHL L142:=qa h141 sK48
theorem cK13:check qPp 13=some (56,(Jh 47 38 31 48).strip,[.tmp 2]):=by kernel_rfl
theorem sK13:Sound qPp 13 (.dat true UF):=by
  apply XaI (hc:=cK13) h142<;>first|exact qrS|skip
  all_goals decide
def L143:qLS:=(13,.dat true UF)::L142
theorem h143:qHL L143:=qa h142 sK13
theorem cK14:check qPp 14=some (15,(Jg 55).strip,[.tmp 2]):=by kernel_rfl
theorem sK14:Sound qPp 14 (.dat true (jF 55)):=by
  apply kaF (hc:=cK14) h143<;>first|exact qrS|skip
  all_goals decide
def L144:qLS:=(14,.dat true (jF 55))::L143
theorem h144:qHL L144:=qa h143 sK14
theorem cK57:check qPp 57=some (8,Qi.strip,[.cell 2 6 true]):=by kernel_rfl
theorem sK57:Sound qPp 57 (.dat false ZE):=by
  apply vad (hc:=cK57) h144<;>first|exact qrS|skip
  all_goals decide
def L145:qLS:=(57,.dat false ZE)::L144
theorem h145:qHL L145:=qa h144 sK57
theorem cK146:check qPp 146=some (9,(jl 104).strip,[.cell 2 6 true]):=by kernel_rfl
theorem sK146:Sound qPp 146 (.dat false xE):=by
  apply uaG (hc:=cK146) h145<;>first|exact qrS|skip
  all_goals decide
def L146:qLS:=(146,.dat false xE)::L145
theorem h146:qHL L146:=qa h145 sK146
theorem cK42:check qPp 42=some (16,(Jp 79).strip,[.cell 4 6 true]):=by kernel_rfl
theorem sK42:Sound qPp 42 (.dat false ko):=by
  apply ZM (hc:=cK42) h146<;>first|exact qrS|skip
  all_goals decide
def L147:qLS:=(42,.dat false ko)::L146
theorem h147:qHL L147:=qa h146 sK42
theorem cK88:check qPp 88=some (26,(yn 77 132 80).strip,[.cell 4 3 true]):=by kernel_rfl
theorem sK88:Sound qPp 88 (.dat false kj):=by
  apply qQ (hc:=cK88) h147<;>first|exact qrS|skip
  all_goals decide
def L148:qLS:=(88,.dat false kj)::L147
theorem h148:qHL L148:=qa h147 sK88
theorem cK62:check qPp 62=some (28,(Wh 88 79 87).strip,[.cell 4 6 true]):=by kernel_rfl
theorem sK62:Sound qPp 62 (.dat false Jk):=by
  apply Qah (hc:=cK62) h148<;>first|exact qrS|skip
  all_goals decide
def L149:qLS:=(62,.dat false Jk)::L148
theorem h149:qHL L149:=qa h148 sK62
theorem cK180:check qPp 180=some (18,vg.strip,[.cell 6 147 true]):=by kernel_rfl
theorem sK180:Sound qPp 180 (.dat false kG):=by
  apply JaH (hc:=cK180) h149<;>first|exact qrS|skip
  all_goals decide
def L150:qLS:=(180,.dat false kG)::L149
theorem h150:qHL L150:=qa h149 sK180
theorem cK145:check qPp 145=some (27,(xf 42 62 104 180).strip,[.cell 4 147 true,.cell 5 147 true]):=by kernel_rfl
theorem sK145:Sound qPp 145 (.dat false xC):=by
  apply zaI (hc:=cK145) h150<;>first|exact qrS|skip
  all_goals decide
def L151:qLS:=(145,.dat false xC)::L150
theorem h151:qHL L151:=qa h150 sK145
theorem cK60:check qPp 60=some (8,(ui 33 57 42).strip,[.cell 2 6 true]):=by kernel_rfl
theorem sK60:Sound qPp 60 (.dat false qG):=by
  apply ZaF (hc:=cK60) h151<;>first|exact qrS|skip
  all_goals decide
def L152:qLS:=(60,.dat false qG)::L151
theorem h152:qHL L152:=qa h151 sK60
theorem cK41:check qPp 41=some (14,(vi 88 87).strip,[.cell 2 3 true]):=by kernel_rfl
theorem sK41:Sound qPp 41 (.dat false kH):=by
  apply Uaf (hc:=cK41) h152<;>first|exact qrS|skip
  all_goals decide
def L153:qLS:=(41,.dat false kH)::L152
theorem h153:qHL L153:=qa h152 sK41
theorem cK181:check qPp 181=some (8,Xe.strip,[.cell 2 147 true]):=by kernel_rfl
theorem sK181:Sound qPp 181 (.dat false UE):=by
  apply UaI (hc:=cK181) h153<;>first|exact qrS|skip
  all_goals decide
def L154:qLS:=(181,.dat false UE)::L153
theorem h154:qHL L154:=qa h153 sK181
theorem cK58:check qPp 58=some (6,(Vj 31).strip,[.tmp 2]):=by kernel_rfl
theorem sK58:Sound qPp 58 (.dat true jx):=by
  apply qak (hc:=cK58) h154<;>first|exact qrS|skip
  all_goals decide
def L155:qLS:=(58,.dat true jx)::L154
theorem h155:qHL L155:=qa h154 sK58
theorem cK102:check qPp 102=some (66,(vf 58 88 87).strip,[.cell 4 147 true]):=by kernel_rfl
theorem sK102:Sound qPp 102 (.dat false Ut):=by
  apply qao (hc:=cK102) h155<;>first|exact qrS|skip
  all_goals decide
def L156:qLS:=(102,.dat false Ut)::L155
theorem h156:qHL L156:=qa h155 sK102
theorem cK101:check qPp 101=some (35,(zj 88 87).strip,[.cell 6 147 true]):=by kernel_rfl
theorem sK101:Sound qPp 101 (.dat false Wu):=by
  apply yao (hc:=cK101) h156<;>first|exact qrS|skip
  all_goals decide
def L157:qLS:=(101,.dat false Wu)::L156
theorem h157:qHL L157:=qa h156 sK101
theorem cK147:check qPp 147=some (26,(Wg 33 145 181 102 101).strip,[.cell 4 147 true]):=by kernel_rfl
theorem sK147:Sound qPp 147 (.dat false xY):=by
  apply JaN (hc:=cK147) h157<;>first|exact qrS|skip
  all_goals decide
def L158:qLS:=(147,.dat false xY)::L157
theorem h158:qHL L158:=qa h157 sK147
theorem cK100:check qPp 100=some (90,(vh 33 57 146 145 60 41 88 79 147 102 101).strip,[.cell 2 147 true,.cell 3 147 true,.cell 4 147 true]):=by kernel_rfl
theorem sK100:Sound qPp 100 (.dat false Ur):=by
  apply X7 (hc:=cK100) h158<;>first|exact qrS|skip
  all_goals decide
def L159:qLS:=(100,.dat false Ur)::L158
theorem h159:qHL L159:=qa h158 sK100
theorem cK103:check qPp 103=some (44,(jj 58).strip,[.tmp 2]):=by kernel_rfl
theorem sK103:Sound qPp 103 (.dat false Uy):=by
  apply kao (hc:=cK103) h159<;>first|exact qrS|skip
  all_goals decide
def L160:qLS:=(103,.dat false Uy)::L159
theorem h160:qHL L160:=qa h159 sK103
theorem cK49:check qPp 49=some (32,(xh 100 102 33 101 88 104 103).strip,[.tmp 2]):=by kernel_rfl
theorem sK49:Sound qPp 49 (.dat false Qs):=by
  apply Y7 (hc:=cK49) h160<;>first|exact qrS|skip
  all_goals decide
def L161:qLS:=(49,.dat false Qs)::L160
theorem h161:qHL L161:=qa h160 sK49
theorem cK15:check qPp 15=some (61,(Jj 49 32).strip,[.tmp 4]):=by kernel_rfl
theorem sK15:Sound qPp 15 (.dat false xy):=by
  apply qan (hc:=cK15) h161<;>first|exact qrS|skip
  all_goals decide
def L162:qLS:=(15,.dat false xy)::L161
theorem h162:qHL L162:=qa h161 sK15
theorem cK3:check qPp 3=some (52,(Jb 10 11 12 13 14 15).strip,[.tmp 4]):=by kernel_rfl
theorem sK3:Sound qPp 3 (.dat true zo):=by
  apply xZ (hc:=cK3) h162<;>first|exact qrS|skip
  all_goals decide
def L163:qLS:=(3,.dat true zo)::L162
theorem h163:qHL L163:=qa h162 sK3
theorem hold:qHL L163:=h163
end Go.Abs
