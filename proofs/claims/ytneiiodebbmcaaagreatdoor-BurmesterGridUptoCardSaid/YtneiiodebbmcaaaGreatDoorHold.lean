/-
  The contracts of this seat's functions, gathered.
-/
import Derived.Test.YtneiiodebbmcaaaGreatDoorChecked
import Derived.Test.YtneiiodebbmcaaaGreatDoorBits
import Derived.KernelRfl
import Derived.Test.YtneiiodebbmcaaaGreatDoorM16
set_option maxRecDepth 100000
set_option linter.unusedVariables false
namespace Go.Abs
open Go.Proofs
noncomputable abbrev qPp:=Tryz.prog
abbrev qLS:=List (Nat×Spec)
abbrev qHL(l:qLS):=Holds qPp (Gl l)
theorem qrS{a:Spec}:a=a:=rfl
theorem cK171:check qPp 171=some (25,vd.strip,[.tmp 2]):=by kernel_rfl
theorem sK171:Sound qPp 171 (.fresh 1 Qx):=by
  apply QaF (hc:=cK171) Qad<;>first|exact qrS|skip
  all_goals decide
def L1:qLS:=(171,.fresh 1 Qx)::[]
theorem h1:qHL L1:=Za Qad sK171
theorem cK138:check qPp 138=some (14,(Xh 171).strip,[.cell 4 2 true]):=by kernel_rfl
theorem sK138:Sound qPp 138 (.dat false Jf):=by
  apply Waa (hc:=cK138) h1<;>first|exact qrS|skip
  all_goals decide
def L2:qLS:=(138,.dat false Jf)::L1
theorem h2:qHL L2:=Za h1 sK138
theorem cK134:check qPp 134=some (19,(Zq 138).strip,[.cell 2 2 true]):=by kernel_rfl
theorem sK134:Sound qPp 134 (.dat false UH):=by
  apply V5 (hc:=cK134) h2<;>first|exact qrS|skip
  all_goals decide
def L3:qLS:=(134,.dat false UH)::L2
theorem h3:qHL L3:=Za h2 sK134
theorem cK88:check qPp 88=some (2,(Zm 134).strip,[.cell 0 2 true]):=by kernel_rfl
theorem sK88:Sound qPp 88 (.dat false Vo):=by
  apply QP (hc:=cK88) h3<;>first|exact qrS|skip
  all_goals decide
def L4:qLS:=(88,.dat false Vo)::L3
theorem h4:qHL L4:=Za h3 sK88
theorem cK175:check qPp 175=some (19,kk.strip,[.tmp 2]):=by kernel_rfl
theorem sK175:Sound qPp 175 (.dat true zj):=by
  apply wH (hc:=cK175) h4<;>first|exact qrS|skip
  all_goals decide
def L5:qLS:=(175,.dat true zj)::L4
theorem h5:qHL L5:=Za h4 sK175
theorem cK140:check qPp 140=some (8,(Yn 175).strip,[.tmp 2]):=by kernel_rfl
theorem sK140:Sound qPp 140 (.dat false vj):=by
  apply qP (hc:=cK140) h5<;>first|exact qrS|skip
  all_goals decide
def L6:qLS:=(140,.dat false vj)::L5
theorem h6:qHL L6:=Za h5 sK140
theorem cK157:check qPp 157=some (9,(yn 175).strip,[.tmp 2]):=by kernel_rfl
theorem sK157:Sound qPp 157 (.dat true Yf):=by
  apply vN (hc:=cK157) h6<;>first|exact qrS|skip
  all_goals decide
def L7:qLS:=(157,.dat true Yf)::L6
theorem h7:qHL L7:=Za h6 sK157
theorem cK110:check qPp 110=some (9,(qi 140 157).strip,[.tmp 2]):=by kernel_rfl
theorem sK110:Sound qPp 110 (.dat true Zh):=by
  apply VZ (hc:=cK110) h7<;>first|exact qrS|skip
  all_goals decide
def L8:qLS:=(110,.dat true Zh)::L7
theorem h8:qHL L8:=Za h7 sK110
theorem cK158:check qPp 158=some (9,(kn 157 140 138).strip,[.cell 2 2 true]):=by kernel_rfl
theorem sK158:Sound qPp 158 (.dat false yu):=by
  apply JR (hc:=cK158) h8<;>first|exact qrS|skip
  all_goals decide
def L9:qLS:=(158,.dat false yu)::L8
theorem h9:qHL L9:=Za h8 sK158
theorem cK194:check qPp 194=some (14,Yl.strip,[.tmp 4]):=by kernel_rfl
theorem sK194:Sound qPp 194 (.dat true Jl):=by
  apply QU (hc:=cK194) h9<;>first|exact qrS|skip
  all_goals decide
def L10:qLS:=(194,.dat true Jl)::L9
theorem h10:qHL L10:=Za h9 sK194
theorem cK174:check qPp 174=some (21,yj.strip,[.tmp 2]):=by kernel_rfl
theorem sK174:Sound qPp 174 (.own Z9):=by
  apply va8 (hc:=cK174) h10<;>first|exact qrS|skip
  all_goals decide
def L11:qLS:=(174,.own Z9)::L10
theorem h11:qHL L11:=Za h10 sK174
theorem cK172:check qPp 172=some (26,(xg 194 174).strip,[.tmp 2]):=by kernel_rfl
theorem sK172:Sound qPp 172 (.own uo):=by
  apply Xak (hc:=cK172) h11<;>first|exact qrS|skip
  all_goals decide
def L12:qLS:=(172,.own uo)::L11
theorem h12:qHL L12:=Za h11 sK172
theorem cK162:check qPp 162=some (30,(vf 194).strip,[.tmp 4]):=by kernel_rfl
theorem sK162:Sound qPp 162 (.dat true Qt):=by
  apply Yal (hc:=cK162) h12<;>first|exact qrS|skip
  all_goals decide
def L13:qLS:=(162,.dat true Qt)::L12
theorem h13:qHL L13:=Za h12 sK162
theorem cK173:check qPp 173=some (31,(xe 194).strip,[]):=by kernel_rfl
theorem sK173:Sound qPp 173 (.own kw):=by
  apply WaE (hc:=cK173) h13<;>first|exact qrS|skip
  all_goals decide
def L14:qLS:=(173,.own kw)::L13
theorem h14:qHL L14:=Za h13 sK173
theorem cK161:check qPp 161=some (37,(kh 194 171).strip,[.tmp 4]):=by kernel_rfl
theorem sK161:Sound qPp 161 (.dat false Vp):=by
  apply kaa (hc:=cK161) h14<;>first|exact qrS|skip
  all_goals decide
def L15:qLS:=(161,.dat false Vp)::L14
theorem h15:qHL L15:=Za h14 sK161
theorem cK139:check qPp 139=some (72,(Uj 171 172 162 173 174 161).strip,[.tmp 4]):=by kernel_rfl
theorem sK139:Sound qPp 139 (.dat false yx):=by
  apply Yah (hc:=cK139) h15<;>first|exact qrS|skip
  all_goals decide
def L16:qLS:=(139,.dat false yx)::L15
theorem h16:qHL L16:=Za h15 sK139
theorem cK87:check qPp 87=some (11,(Xj 140 139 138).strip,[.cell 4 2 true]):=by kernel_rfl
theorem sK87:Sound qPp 87 (.dat false Xt):=by
  apply J0 (hc:=cK87) h16<;>first|exact qrS|skip
  all_goals decide
def L17:qLS:=(87,.dat false Xt)::L16
theorem h17:qHL L17:=Za h16 sK87
theorem cK214:check qPp 214=some (25,Zi.strip,[.tmp 2]):=by kernel_rfl
theorem sK214:Sound qPp 214 (.dat true Wr):=by
  apply Zaf (hc:=cK214) h17<;>first|exact qrS|skip
  all_goals decide
def L18:qLS:=(214,.dat true Wr)::L17
theorem h18:qHL L18:=Za h17 sK214
theorem cK193:check qPp 193=some (76,(zg 214 162 173 171).strip,[.tmp 4,.tmp 5]):=by kernel_rfl
theorem sK193:Sound qPp 193 (.dat false vh):=by
  apply VO (hc:=cK193) h18<;>first|exact qrS|skip
  all_goals decide
def L19:qLS:=(193,.dat false vh)::L18
theorem h19:qHL L19:=Za h18 sK193
theorem cK163:check qPp 163=some (35,(Qh 194 171).strip,[.tmp 4]):=by kernel_rfl
theorem sK163:Sound qPp 163 (.dat false Ys):=by
  apply kV (hc:=cK163) h19<;>first|exact qrS|skip
  all_goals decide
def L20:qLS:=(163,.dat false Ys)::L19
theorem h20:qHL L20:=Za h19 sK163
theorem cK159:check qPp 159=some (45,(xj 110 140 193 157 161 163 138).strip,[.cell 4 2 true,.cell 5 2 true,.tmp 6]):=by kernel_rfl
theorem sK159:Sound qPp 159 (.dat false yq):=by
  apply U0 (hc:=cK159) h20<;>first|exact qrS|skip
  all_goals decide
def L21:qLS:=(159,.dat false yq)::L20
theorem h21:qHL L21:=Za h20 sK159
theorem cK112:check qPp 112=some (47,(uh 110 158 87 159).strip,[.cell 4 3 true]):=by kernel_rfl
theorem sK112:Sound qPp 112 (.dat false Yj):=by
  apply QW (hc:=cK112) h21<;>first|exact qrS|skip
  all_goals decide
def L22:qLS:=(112,.dat false Yj)::L21
theorem h22:qHL L22:=Za h21 sK112
theorem cK83:check qPp 83=some (7,(Un 134 88 112).strip,[.cell 2 3 true]):=by kernel_rfl
theorem sK83:Sound qPp 83 (.dat false wB):=by
  apply uae (hc:=cK83) h22<;>first|exact qrS|skip
  all_goals decide
def L23:qLS:=(83,.dat false wB)::L22
theorem h23:qHL L23:=Za h22 sK83
theorem cK43:check qPp 43=some (18,(ug 83).strip,[.tmp 2]):=by kernel_rfl
theorem sK43:Sound qPp 43 (.dat false jF):=by
  apply waI (hc:=cK43) h23<;>first|exact qrS|skip
  all_goals decide
def L24:qLS:=(43,.dat false jF)::L23
theorem h24:qHL L24:=Za h23 sK43
theorem cK115:check qPp 115=some (19,kk.strip,[.tmp 2]):=by kernel_rfl
theorem sK115:Sound qPp 115 (.dat true zj):=by
  apply wH (hc:=cK115) h24<;>first|exact qrS|skip
  all_goals decide
def L25:qLS:=(115,.dat true zj)::L24
theorem h25:qHL L25:=Za h24 sK115
theorem cK120:check qPp 120=some (8,(Yn 115).strip,[.tmp 2]):=by kernel_rfl
theorem sK120:Sound qPp 120 (.dat false vj):=by
  apply qP (hc:=cK120) h25<;>first|exact qrS|skip
  all_goals decide
def L26:qLS:=(120,.dat false vj)::L25
theorem h26:qHL L26:=Za h25 sK120
theorem cK124:check qPp 124=some (41,Ul.strip,[.tmp 4]):=by kernel_rfl
theorem sK124:Sound qPp 124 (.dat false Ji):=by
  apply qY (hc:=cK124) h26<;>first|exact qrS|skip
  all_goals decide
def L27:qLS:=(124,.dat false Ji)::L26
theorem h27:qHL L27:=Za h26 sK124
theorem cK165:check qPp 165=some (25,vt.strip,[.tmp 2]):=by kernel_rfl
theorem sK165:Sound qPp 165 (.dat false xt):=by
  apply XaD (hc:=cK165) h27<;>first|exact qrS|skip
  all_goals decide
def L28:qLS:=(165,.dat false xt)::L27
theorem h28:qHL L28:=Za h27 sK165
theorem cK144:check qPp 144=some (43,(yo 165).strip,[.tmp 4,.tmp 5]):=by kernel_rfl
theorem sK144:Sound qPp 144 (.dat false Yv):=by
  apply kan (hc:=cK144) h28<;>first|exact qrS|skip
  all_goals decide
def L29:qLS:=(144,.dat false Yv)::L28
theorem h29:qHL L29:=Za h28 sK144
theorem sK195:Sound qPp 195 (.dat true lz_G):=zaK (Jx Tryz.func195 (by kernel_rfl) (by kernel_rfl)) wbu jbF Tryz.bits_LeadingZeros32
def L30:qLS:=(195,.dat true lz_G)::L29
theorem h30:qHL L30:=Za h29 sK195
theorem cK196:check qPp 196=some (41,ky.strip,[.tmp 4]):=by kernel_rfl
theorem sK196:Sound qPp 196 (.fresh 1 up_G):=by
  apply ubc (hc:=cK196) h30<;>first|exact qrS|skip
  all_goals decide
def L31:qLS:=(196,.fresh 1 up_G)::L30
theorem h31:qHL L31:=Za h30 sK196
theorem cK166:check qPp 166=some (14,Yl.strip,[.tmp 4]):=by kernel_rfl
theorem sK166:Sound qPp 166 (.dat true Jl):=by
  apply QU (hc:=cK166) h31<;>first|exact qrS|skip
  all_goals decide
def L32:qLS:=(166,.dat true Jl)::L31
theorem h32:qHL L32:=Za h31 sK166
theorem cK197:check qPp 197=some (46,(ym 166).strip,[.tmp 6]):=by kernel_rfl
theorem sK197:Sound qPp 197 (.own Up):=by
  apply U1 (hc:=cK197) h32<;>first|exact qrS|skip
  all_goals decide
def L33:qLS:=(197,.own Up)::L32
theorem h33:qHL L33:=Za h32 sK197
theorem cK198:check qPp 198=some (30,(Yt 166).strip,[]):=by kernel_rfl
theorem sK198:Sound qPp 198 (.own QF):=by
  apply UaH (hc:=cK198) h33<;>first|exact qrS|skip
  all_goals decide
def L34:qLS:=(198,.own QF)::L33
theorem h34:qHL L34:=Za h33 sK198
theorem cK199:check qPp 199=some (35,(Xs 166 165).strip,[.tmp 4]):=by kernel_rfl
theorem sK199:Sound qPp 199 (.dat false vE):=by
  apply XaE (hc:=cK199) h34<;>first|exact qrS|skip
  all_goals decide
def L35:qLS:=(199,.dat false vE)::L34
theorem h35:qHL L35:=Za h34 sK199
theorem cK164:check qPp 164=some (158,(Xi 124 165 144 195 196 197 198 199).strip,[.tmp 4,.tmp 5]):=by kernel_rfl
theorem sK164:Sound qPp 164 (.dat false vh):=by
  apply J2 (hc:=cK164) h35<;>first|exact qrS|skip
  all_goals decide
def L36:qLS:=(164,.dat false vh)::L35
theorem h36:qHL L36:=Za h35 sK164
theorem cK122:check qPp 122=some (15,(jp 165).strip,[.cell 4 2 true]):=by kernel_rfl
theorem sK122:Sound qPp 122 (.dat false Jf):=by
  apply Xal (hc:=cK122) h36<;>first|exact qrS|skip
  all_goals decide
def L37:qLS:=(122,.dat false Jf)::L36
theorem h37:qHL L37:=Za h36 sK122
theorem cK116:check qPp 116=some (26,(Uu 120 164 122).strip,[.cell 4 2 true]):=by kernel_rfl
theorem sK116:Sound qPp 116 (.dat false Xt):=by
  apply uaD (hc:=cK116) h37<;>first|exact qrS|skip
  all_goals decide
def L38:qLS:=(116,.dat false Xt)::L37
theorem h38:qHL L38:=Za h37 sK116
theorem cK70:check qPp 70=some (19,(Zq 122).strip,[.cell 2 2 true]):=by kernel_rfl
theorem sK70:Sound qPp 70 (.dat false UH):=by
  apply V5 (hc:=cK70) h38<;>first|exact qrS|skip
  all_goals decide
def L39:qLS:=(70,.dat false UH)::L38
theorem h39:qHL L39:=Za h38 sK70
theorem cK71:check qPp 71=some (2,(Zm 70).strip,[.cell 0 2 true]):=by kernel_rfl
theorem sK71:Sound qPp 71 (.dat false Vo):=by
  apply QP (hc:=cK71) h39<;>first|exact qrS|skip
  all_goals decide
def L40:qLS:=(71,.dat false Vo)::L39
theorem h40:qHL L40:=Za h39 sK71
theorem cK77:check qPp 77=some (11,(qt 120).strip,[.tmp 2]):=by kernel_rfl
theorem sK77:Sound qPp 77 (.dat true Zh):=by
  apply vak (hc:=cK77) h40<;>first|exact qrS|skip
  all_goals decide
def L41:qLS:=(77,.dat true Zh)::L40
theorem h41:qHL L41:=Za h40 sK77
theorem cK121:check qPp 121=some (9,(yn 115).strip,[.tmp 2]):=by kernel_rfl
theorem sK121:Sound qPp 121 (.dat true Yf):=by
  apply vN (hc:=cK121) h41<;>first|exact qrS|skip
  all_goals decide
def L42:qLS:=(121,.dat true Yf)::L41
theorem h42:qHL L42:=Za h41 sK121
theorem cK93:check qPp 93=some (28,(qw 77 120 124 121).strip,[.tmp 4]):=by kernel_rfl
theorem sK93:Sound qPp 93 (.dat true XC):=by
  apply ZaF (hc:=cK93) h42<;>first|exact qrS|skip
  all_goals decide
def L43:qLS:=(93,.dat true XC)::L42
theorem h43:qHL L43:=Za h42 sK93
theorem cK63:check qPp 63=some (50,(qn 115 116 71 93).strip,[.tmp 2]):=by kernel_rfl
theorem sK63:Sound qPp 63 (.dat true kd):=by
  apply jae (hc:=cK63) h43<;>first|exact qrS|skip
  all_goals decide
def L44:qLS:=(63,.dat true kd)::L43
theorem h44:qHL L44:=Za h43 sK63
theorem cK66:check qPp 66=some (28,(jn 63 71).strip,[.cell 2 2 true,.cell 3 2 true]):=by kernel_rfl
theorem sK66:Sound qPp 66 (.dat false Ye):=by
  apply J4 (hc:=cK66) h44<;>first|exact qrS|skip
  all_goals decide
def L45:qLS:=(66,.dat false Ye)::L44
theorem h45:qHL L45:=Za h44 sK66
theorem cK30:check qPp 30=some (12,(wk 66 77).strip,[.tmp 2]):=by kernel_rfl
theorem sK30:Sound qPp 30 (.dat true qg):=by
  apply QO (hc:=cK30) h45<;>first|exact qrS|skip
  all_goals decide
def L46:qLS:=(30,.dat true qg)::L45
theorem h46:qHL L46:=Za h45 sK30
theorem cK128:check qPp 128=some (18,(Yi 63 30 85).strip,[.tmp 2]):=by kernel_rfl
theorem sK128:Sound qPp 128 (.dat false (vk 85)):=by
  apply xac (hc:=cK128) h46<;>first|exact qrS|skip
  all_goals decide
def L47:qLS:=(128,.dat false (vk 85))::L46
theorem h47:qHL L47:=Za h46 sK128
theorem cK74:check qPp 74=some (11,(We 63).strip,[.tmp 2]):=by kernel_rfl
theorem sK74:Sound qPp 74 (.dat true Qe):=by
  apply xA (hc:=cK74) h47<;>first|exact qrS|skip
  all_goals decide
def L48:qLS:=(74,.dat true Qe)::L47
theorem h48:qHL L48:=Za h47 sK74
theorem cK73:check qPp 73=some (12,(Qq 128 74).strip,[.tmp 2]):=by kernel_rfl
theorem sK73:Sound qPp 73 (.dat true Yu):=by
  apply QaE (hc:=cK73) h48<;>first|exact qrS|skip
  all_goals decide
def L49:qLS:=(73,.dat true Yu)::L48
theorem h49:qHL L49:=Za h48 sK73
theorem cK148:check qPp 148=some (16,(Uv 73 85).strip,[.tmp 2]):=by kernel_rfl
theorem sK148:Sound qPp 148 (.dat false (UD 85)):=by
  apply VaH (hc:=cK148) h49<;>first|exact qrS|skip
  all_goals decide
def L50:qLS:=(148,.dat false (UD 85))::L49
theorem h50:qHL L50:=Za h49 sK148
theorem cK95:check qPp 95=some (13,(Jv 148 85).strip,[.tmp 2]):=by kernel_rfl
theorem sK95:Sound qPp 95 (.dat false (XF 85)):=by
  apply xaI (hc:=cK95) h50<;>first|exact qrS|skip
  all_goals decide
def L51:qLS:=(95,.dat false (XF 85))::L50
theorem h51:qHL L51:=Za h50 sK95
theorem cK46:check qPp 46=some (13,(qf 95 85).strip,[.tmp 2]):=by kernel_rfl
theorem sK46:Sound qPp 46 (.dat false (uz 85)):=by
  apply ZaI (hc:=cK46) h51<;>first|exact qrS|skip
  all_goals decide
def L52:qLS:=(46,.dat false (uz 85))::L51
theorem h52:qHL L52:=Za h51 sK46
theorem cK118:check qPp 118=some (9,(kn 121 120 122).strip,[.cell 2 2 true]):=by kernel_rfl
theorem sK118:Sound qPp 118 (.dat false yu):=by
  apply JR (hc:=cK118) h52<;>first|exact qrS|skip
  all_goals decide
def L53:qLS:=(118,.dat false yu)::L52
theorem h53:qHL L53:=Za h52 sK118
theorem cK123:check qPp 123=some (39,(Jt 166 165).strip,[.tmp 4]):=by kernel_rfl
theorem sK123:Sound qPp 123 (.dat false Vp):=by
  apply yaG (hc:=cK123) h53<;>first|exact qrS|skip
  all_goals decide
def L54:qLS:=(123,.dat false Vp)::L53
theorem h54:qHL L54:=Za h53 sK123
theorem cK125:check qPp 125=some (38,(Zt 166 165).strip,[.tmp 4]):=by kernel_rfl
theorem sK125:Sound qPp 125 (.dat false Ys):=by
  apply jaI (hc:=cK125) h54<;>first|exact qrS|skip
  all_goals decide
def L55:qLS:=(125,.dat false Ys)::L54
theorem h55:qHL L55:=Za h54 sK125
theorem cK119:check qPp 119=some (47,(zw 120 164 121 123 125 122 85).strip,[.cell 4 2 true,.cell 5 2 true,.tmp 6]):=by kernel_rfl
theorem sK119:Sound qPp 119 (.dat false YG):=by
  apply vaG (hc:=cK119) h55<;>first|exact qrS|skip
  all_goals decide
def L56:qLS:=(119,.dat false YG)::L55
theorem h56:qHL L56:=Za h55 sK119
theorem cK67:check qPp 67=some (47,(qp 77 118 116 119).strip,[.cell 4 3 true]):=by kernel_rfl
theorem sK67:Sound qPp 67 (.dat false Yj):=by
  apply Yag (hc:=cK67) h56<;>first|exact qrS|skip
  all_goals decide
def L57:qLS:=(67,.dat false Yj)::L56
theorem h57:qHL L57:=Za h56 sK67
theorem cK27:check qPp 27=some (7,(Un 70 71 67).strip,[.cell 2 3 true]):=by kernel_rfl
theorem sK27:Sound qPp 27 (.dat false wB):=by
  apply uae (hc:=cK27) h57<;>first|exact qrS|skip
  all_goals decide
def L58:qLS:=(27,.dat false wB)::L57
theorem h58:qHL L58:=Za h57 sK27
theorem cK126:check qPp 126=some (67,(Qp 165).strip,[.tmp 4]):=by kernel_rfl
theorem sK126:Sound qPp 126 (.dat false Vz):=by
  apply Qak (hc:=cK126) h58<;>first|exact qrS|skip
  all_goals decide
def L59:qLS:=(126,.dat false Vz)::L58
theorem h59:qHL L59:=Za h58 sK126
theorem cK69:check qPp 69=some (16,(uv 121 120 126 122).strip,[.cell 4 2 true]):=by kernel_rfl
theorem sK69:Sound qPp 69 (.dat false yA):=by
  apply VaE (hc:=cK69) h59<;>first|exact qrS|skip
  all_goals decide
def L60:qLS:=(69,.dat false yA)::L59
theorem h60:qHL L60:=Za h59 sK69
theorem cK26:check qPp 26=some (26,(Ut 66 69 67).strip,[.cell 4 3 true]):=by kernel_rfl
theorem sK26:Sound qPp 26 (.dat false vl):=by
  apply kaI (hc:=cK26) h60<;>first|exact qrS|skip
  all_goals decide
def L61:qLS:=(26,.dat false vl)::L60
theorem h61:qHL L61:=Za h60 sK26
theorem cK68:check qPp 68=some (40,(Zv 120 121 123 122 124 125).strip,[.cell 4 2 true]):=by kernel_rfl
theorem sK68:Sound qPp 68 (.dat false jx):=by
  apply UaG (hc:=cK68) h61<;>first|exact qrS|skip
  all_goals decide
def L62:qLS:=(68,.dat false jx)::L61
theorem h62:qHL L62:=Za h61 sK68
theorem cK25:check qPp 25=some (30,(ju 66 69 68 67).strip,[.cell 4 3 true]):=by kernel_rfl
theorem sK25:Sound qPp 25 (.dat false jl):=by
  apply JaI (hc:=cK25) h62<;>first|exact qrS|skip
  all_goals decide
def L63:qLS:=(25,.dat false jl)::L62
theorem h63:qHL L63:=Za h62 sK25
theorem cK150:check qPp 150=some (14,(js 66 118 67).strip,[.cell 2 3 true]):=by kernel_rfl
theorem sK150:Sound qPp 150 (.dat false xC):=by
  apply vaF (hc:=cK150) h63<;>first|exact qrS|skip
  all_goals decide
def L64:qLS:=(150,.dat false xC)::L63
theorem h64:qHL L64:=Za h63 sK150
theorem cK102:check qPp 102=some (9,(Zu 150 25).strip,[.cell 4 3 true]):=by kernel_rfl
theorem sK102:Sound qPp 102 (.dat false Vx):=by
  apply XaG (hc:=cK102) h64<;>first|exact qrS|skip
  all_goals decide
def L65:qLS:=(102,.dat false Vx)::L64
theorem h65:qHL L65:=Za h64 sK102
theorem cK155:check qPp 155=some (14,(zp 77 67 85).strip,[.cell 4 3 true,.tmp 5]):=by kernel_rfl
theorem sK155:Sound qPp 155 (.dat false (Zs 85)):=by
  apply W3 (hc:=cK155) h65<;>first|exact qrS|skip
  all_goals decide
def L66:qLS:=(155,.dat false (Zs 85))::L65
theorem h66:qHL L66:=Za h65 sK155
theorem cK103:check qPp 103=some (29,(Us 66 69 155).strip,[.cell 4 3 true,.tmp 5]):=by kernel_rfl
theorem sK103:Sound qPp 103 (.dat false (jv 85)):=by
  apply xah (hc:=cK103) h66<;>first|exact qrS|skip
  all_goals decide
def L67:qLS:=(103,.dat false (jv 85))::L66
theorem h67:qHL L67:=Za h66 sK103
theorem cK216:check qPp 216=some (17,(xu 103).strip,[.cell 4 3 true]):=by kernel_rfl
theorem sK216:Sound qPp 216 (.dat false xx):=by
  apply kag (hc:=cK216) h67<;>first|exact qrS|skip
  all_goals decide
def L68:qLS:=(216,.dat false xx)::L67
theorem h68:qHL L68:=Za h67 sK216
theorem cK200:check qPp 200=some (32,(yi 27 26 25 102 216).strip,[.cell 2 3 true,.cell 3 3 true]):=by kernel_rfl
theorem sK200:Sound qPp 200 (.dat false uC):=by
  apply JaJ (hc:=cK200) h68<;>first|exact qrS|skip
  all_goals decide
def L69:qLS:=(200,.dat false uC)::L68
theorem h69:qHL L69:=Za h68 sK200
theorem cK167:check qPp 167=some (19,(Zn 128 200).strip,[.cell 2 3 true,.tmp 3]):=by kernel_rfl
theorem sK167:Sound qPp 167 (.dat false (WE 85)):=by
  apply QaI (hc:=cK167) h69<;>first|exact qrS|skip
  all_goals decide
def L70:qLS:=(167,.dat false (WE 85))::L69
theorem h70:qHL L70:=Za h69 sK167
theorem cK168:check qPp 168=some (19,(Ym 128 200).strip,[.cell 2 3 true,.tmp 3]):=by kernel_rfl
theorem sK168:Sound qPp 168 (.dat false (zE 85)):=by
  apply zaF (hc:=cK168) h70<;>first|exact qrS|skip
  all_goals decide
def L71:qLS:=(168,.dat false (zE 85))::L70
theorem h71:qHL L71:=Za h70 sK168
theorem cK129:check qPp 129=some (29,(Ui 128 167 168 85).strip,[.cell 2 3 true,.cell 3 3 true,.tmp 4]):=by kernel_rfl
theorem sK129:Sound qPp 129 (.dat false (YC 85)):=by
  apply UaE (hc:=cK129) h71<;>first|exact qrS|skip
  all_goals decide
def L72:qLS:=(129,.dat false (YC 85))::L71
theorem h72:qHL L72:=Za h71 sK129
theorem cK142:check qPp 142=some (29,Wo.strip,[.tmp 2]):=by kernel_rfl
theorem sK142:Sound qPp 142 (.dat true Jk):=by
  apply VX (hc:=cK142) h72<;>first|exact qrS|skip
  all_goals decide
def L73:qLS:=(142,.dat true Jk)::L72
theorem h73:qHL L73:=Za h72 sK142
theorem cK190:check qPp 190=some (8,zf.strip,[.tmp 2]):=by kernel_rfl
theorem sK190:Sound qPp 190 (.fresh 5 xn):=by
  apply X5 (hc:=cK190) h73<;>first|exact qrS|skip
  all_goals decide
def L74:qLS:=(190,.fresh 5 xn)::L73
theorem h74:qHL L74:=Za h73 sK190
theorem cK203:check qPp 203=some (6,Xv.strip,[.tmp 2]):=by kernel_rfl
theorem sK203:Sound qPp 203 (.dat true WG):=by
  apply ZaE (hc:=cK203) h74<;>first|exact qrS|skip
  all_goals decide
def L75:qLS:=(203,.dat true WG)::L74
theorem h75:qHL L75:=Za h74 sK203
theorem cK178:check qPp 178=some (20,(jg 203).strip,[.tmp 4]):=by kernel_rfl
theorem sK178:Sound qPp 178 (.dat true jE):=by
  apply jaJ (hc:=cK178) h75<;>first|exact qrS|skip
  all_goals decide
def L76:qLS:=(178,.dat true jE)::L75
theorem h76:qHL L76:=Za h75 sK178
theorem cK177:check qPp 177=some (18,vD.strip,[.tmp 2]):=by kernel_rfl
theorem sK177:Sound qPp 177 (.dat true jV):=by
  apply JaU (hc:=cK177) h76<;>first|exact qrS|skip
  all_goals decide
def L77:qLS:=(177,.dat true jV)::L76
theorem h77:qHL L77:=Za h76 sK177
theorem cK143:check qPp 143=some (23,(Vs 178 177).strip,[.tmp 4]):=by kernel_rfl
theorem sK143:Sound qPp 143 (.dat true Ww):=by
  apply U3 (hc:=cK143) h77<;>first|exact qrS|skip
  all_goals decide
def L78:qLS:=(143,.dat true Ww)::L77
theorem h78:qHL L78:=Za h77 sK143
theorem cK231:check qPp 231=some (53,Qd.strip,[]):=by kernel_rfl
theorem sK231:Sound qPp 231 (.own (UE 143)):=by
  apply QaJ (hc:=cK231) h78<;>first|exact qrS|skip
  all_goals decide
def L79:qLS:=(231,.own (UE 143))::L78
theorem h79:qHL L79:=Za h78 sK231
theorem cK236:check qPp 236=some (38,wd.strip,[]):=by kernel_rfl
theorem sK236:Sound qPp 236 (.own (zD 143)):=by
  apply uaI (hc:=cK236) h79<;>first|exact qrS|skip
  all_goals decide
def L80:qLS:=(236,.own (zD 143))::L79
theorem h80:qHL L80:=Za h79 sK236
theorem cK235:check qPp 235=some (58,(we 236).strip,[]):=by kernel_rfl
theorem sK235:Sound qPp 235 (.own (yE 143)):=by
  apply kaF (hc:=cK235) h80<;>first|exact qrS|skip
  all_goals decide
def L81:qLS:=(235,.own (yE 143))::L80
theorem h81:qHL L81:=Za h80 sK235
theorem cK232:check qPp 232=some (220,(Jb 235 232).strip,[]):=by kernel_rfl
theorem sK232:Sound qPp 232 (.own (ki 143 10000)):=by
  apply UY (hc:=cK232) h81<;>first|exact qrS|skip
  all_goals decide
def L82:qLS:=(232,.own (ki 143 10000))::L81
theorem h82:qHL L82:=Za h81 sK232
theorem cK224:check qPp 224=some (63,(Ve 231 232).strip,[]):=by kernel_rfl
theorem sK224:Sound qPp 224 (.own (uA 143 10000)):=by
  apply Qag (hc:=cK224) h82<;>first|exact qrS|skip
  all_goals decide
def L83:qLS:=(224,.own (uA 143 10000))::L82
theorem h83:qHL L83:=Za h82 sK224
theorem cK210:check qPp 210=some (9,(Ze 224).strip,[]):=by kernel_rfl
theorem sK210:Sound qPp 210 (.own (Vv 143 10000)):=by
  apply xag (hc:=cK210) h83<;>first|exact qrS|skip
  all_goals decide
def L84:qLS:=(210,.own (Vv 143 10000))::L83
theorem h84:qHL L84:=Za h83 sK210
theorem cK212:check qPp 212=some (7,(zu 30).strip,[.tmp 2]):=by kernel_rfl
theorem sK212:Sound qPp 212 (.dat true kC):=by
  apply YaG (hc:=cK212) h84<;>first|exact qrS|skip
  all_goals decide
def L85:qLS:=(212,.dat true kC)::L84
theorem h85:qHL L85:=Za h84 sK212
theorem cK225:check qPp 225=some (19,qh.strip,[.tmp 4]):=by kernel_rfl
theorem sK225:Sound qPp 225 (.dat true (JG 212)):=by
  apply zaJ (hc:=cK225) h85<;>first|exact qrS|skip
  all_goals decide
def L86:qLS:=(225,.dat true (JG 212))::L85
theorem h86:qHL L86:=Za h85 sK225
theorem cK211:check qPp 211=some (42,(jd 225).strip,[.tmp 4]):=by kernel_rfl
theorem sK211:Sound qPp 211 (.own (uE 212)):=by
  apply kaH (hc:=cK211) h86<;>first|exact qrS|skip
  all_goals decide
def L87:qLS:=(211,.own (uE 212))::L86
theorem h87:qHL L87:=Za h86 sK211
theorem cK189:check qPp 189=some (60,(Wz 190 210 143 25 211 212).strip,[.tmp 2]):=by kernel_rfl
theorem sK189:Sound qPp 189 (.dat false (Uz 10000)):=by
  apply YaJ (hc:=cK189) h87<;>first|exact qrS|skip
  all_goals decide
def L88:qLS:=(189,.dat false (Uz 10000))::L87
theorem h88:qHL L88:=Za h87 sK189
theorem cK186:check qPp 186=some (28,(Xn 142 63 189 85).strip,[.tmp 2,.tmp 3]):=by kernel_rfl
theorem sK186:Sound qPp 186 (.dat false (jy 85)):=by
  apply Uai (hc:=cK186) h88<;>first|exact qrS|skip
  all_goals decide
def L89:qLS:=(186,.dat false (jy 85))::L88
theorem h89:qHL L89:=Za h88 sK186
theorem cK151:check qPp 151=some (17,Vf.strip,[.tmp 6]):=by kernel_rfl
theorem sK151:Sound qPp 151 (.red Zp):=by
  apply Zah (hc:=cK151) h89<;>first|exact qrS|skip
  all_goals decide
def L90:qLS:=(151,.red Zp)::L89
theorem h90:qHL L90:=Za h89 sK151
theorem cK149:check qPp 149=some (21,(Yd 186 151).strip,[.tmp 8]):=by kernel_rfl
theorem sK149:Sound qPp 149 (.red ZG):=by
  apply WaG (hc:=cK149) h90<;>first|exact qrS|skip
  all_goals decide
def L91:qLS:=(149,.red ZG)::L90
theorem h91:qHL L91:=Za h90 sK149
theorem cK91:check qPp 91=some (48,(Xl 142 63 30 143 85).strip,[.tmp 2]):=by kernel_rfl
theorem sK91:Sound qPp 91 (.dat false (qm 85)):=by
  apply uZ (hc:=cK91) h91<;>first|exact qrS|skip
  all_goals decide
def L92:qLS:=(91,.dat false (qm 85))::L91
theorem h92:qHL L92:=Za h91 sK91
theorem cK187:check qPp 187=some (18,(Yo 91).strip,[.tmp 2]):=by kernel_rfl
theorem sK187:Sound qPp 187 (.dat false (vi 85)):=by
  apply vV (hc:=cK187) h92<;>first|exact qrS|skip
  all_goals decide
def L93:qLS:=(187,.dat false (vi 85))::L92
theorem h93:qHL L93:=Za h92 sK187
theorem cK188:check qPp 188=some (21,yk.strip,[.tmp 2]):=by kernel_rfl
theorem sK188:Sound qPp 188 (.dat true yG):=by
  apply JaF (hc:=cK188) h93<;>first|exact qrS|skip
  all_goals decide
def L94:qLS:=(188,.dat true yG)::L93
theorem h94:qHL L94:=Za h93 sK188
theorem cK152:check qPp 152=some (71,(jm 187 188 26 189 85).strip,[.tmp 4,.tmp 5]):=by kernel_rfl
theorem sK152:Sound qPp 152 (.dat false (xE 85)):=by
  apply UaI (hc:=cK152) h94<;>first|exact qrS|skip
  all_goals decide
def L95:qLS:=(152,.dat false (xE 85))::L94
theorem h95:qHL L95:=Za h94 sK152
theorem cK98:check qPp 98=some (14,(Uf 152 151).strip,[.tmp 6]):=by kernel_rfl
theorem sK98:Sound qPp 98 (.red QB):=by
  apply yaI (hc:=cK98) h95<;>first|exact qrS|skip
  all_goals decide
def L96:qLS:=(98,.red QB)::L95
theorem h96:qHL L96:=Za h95 sK98
theorem cK213:check qPp 213=some (27,vn.strip,[.tmp 4]):=by kernel_rfl
theorem sK213:Sound qPp 213 (.fresh 5 Xx):=by
  apply Vag (hc:=cK213) h96<;>first|exact qrS|skip
  all_goals decide
def L97:qLS:=(213,.fresh 5 Xx)::L96
theorem h97:qHL L97:=Za h96 sK213
theorem cK192:check qPp 192=some (36,(xk 213).strip,[.tmp 2]):=by kernel_rfl
theorem sK192:Sound qPp 192 (.fresh 5 Xz):=by
  apply Van (hc:=cK192) h97<;>first|exact qrS|skip
  all_goals decide
def L98:qLS:=(192,.fresh 5 Xz)::L97
theorem h98:qHL L98:=Za h97 sK192
theorem cK154:check qPp 154=some (19,(yr 187 192 189).strip,[.tmp 4,.tmp 5]):=by kernel_rfl
theorem sK154:Sound qPp 154 (.dat false (wG 85)):=by
  apply JaE (hc:=cK154) h98<;>first|exact qrS|skip
  all_goals decide
def L99:qLS:=(154,.dat false (wG 85))::L98
theorem h99:qHL L99:=Za h98 sK154
theorem cK101:check qPp 101=some (14,(Qg 154 151).strip,[.tmp 6]):=by kernel_rfl
theorem sK101:Sound qPp 101 (.red wC):=by
  apply uaF (hc:=cK101) h99<;>first|exact qrS|skip
  all_goals decide
def L100:qLS:=(101,.red wC)::L99
theorem h100:qHL L100:=Za h99 sK101
theorem cK96:check qPp 96=some (54,(Vd 129 150 149 98 101).strip,[.cell 4 3 true]):=by kernel_rfl
theorem sK96:Sound qPp 96 (.red UF):=by
  apply ZaJ (hc:=cK96) h100<;>first|exact qrS|skip
  all_goals decide
def L101:qLS:=(96,.red UF)::L100
theorem h101:qHL L101:=Za h100 sK96
theorem cK191:check qPp 191=some (28,(qu 26).strip,[.tmp 4]):=by kernel_rfl
theorem sK191:Sound qPp 191 (.dat false yF):=by
  apply vaI (hc:=cK191) h101<;>first|exact qrS|skip
  all_goals decide
def L102:qLS:=(191,.dat false yF)::L101
theorem h102:qHL L102:=Za h101 sK191
theorem cK153:check qPp 153=some (21,(Wq 187 190 27 191 189).strip,[.tmp 4,.tmp 5]):=by kernel_rfl
theorem sK153:Sound qPp 153 (.dat false (VG 85)):=by
  apply XaF (hc:=cK153) h102<;>first|exact qrS|skip
  all_goals decide
def L103:qLS:=(153,.dat false (VG 85))::L102
theorem h103:qHL L103:=Za h102 sK153
theorem cK100:check qPp 100=some (14,(Xf 153 151).strip,[.tmp 6]):=by kernel_rfl
theorem sK100:Sound qPp 100 (.red vB):=by
  apply yaJ (hc:=cK100) h103<;>first|exact qrS|skip
  all_goals decide
def L104:qLS:=(100,.red vB)::L103
theorem h104:qHL L104:=Za h103 sK100
theorem cK97:check qPp 97=some (26,(ke 100).strip,[.cell 6 3 true]):=by kernel_rfl
theorem sK97:Sound qPp 97 (.red Zy):=by
  apply Wan (hc:=cK97) h104<;>first|exact qrS|skip
  all_goals decide
def L105:qLS:=(97,.red Zy)::L104
theorem h105:qHL L105:=Za h104 sK97
theorem cK99:check qPp 99=some (21,(ze 98 100).strip,[.tmp 6]):=by kernel_rfl
theorem sK99:Sound qPp 99 (.red JF):=by
  apply qaJ (hc:=cK99) h105<;>first|exact qrS|skip
  all_goals decide
def L106:qLS:=(99,.red JF)::L105
theorem h106:qHL L106:=Za h105 sK99
theorem cK48:check qPp 48=some (87,(uk 96 97 99 98 100 101).strip,[.tmp 2,.tmp 3]):=by kernel_rfl
theorem sK48:Sound qPp 48 (.dat false qA):=by
  apply qaH (hc:=cK48) h106<;>first|exact qrS|skip
  all_goals decide
def L107:qLS:=(48,.dat false qA)::L106
theorem h107:qHL L107:=Za h106 sK48
theorem cK31:check qPp 31=some (14,(Zg 46 48).strip,[.tmp 2,.tmp 3]):=by kernel_rfl
theorem sK31:Sound qPp 31 (.dat false (kG 85)):=by
  apply xaF (hc:=cK31) h107<;>first|exact qrS|skip
  all_goals decide
def L108:qLS:=(31,.dat false (kG 85))::L107
theorem h108:qHL L108:=Za h107 sK31
theorem cK47:check qPp 47=some (11,(We 63).strip,[.tmp 2]):=by kernel_rfl
theorem sK47:Sound qPp 47 (.dat true Qe):=by
  apply xA (hc:=cK47) h108<;>first|exact qrS|skip
  all_goals decide
def L109:qLS:=(47,.dat true Qe)::L108
theorem h109:qHL L109:=Za h108 sK47
theorem cK92:check qPp 92=some (34,(Um 27 26 103 85).strip,[.cell 4 3 true,.tmp 5]):=by kernel_rfl
theorem sK92:Sound qPp 92 (.dat false (vC 85)):=by
  apply waG (hc:=cK92) h109<;>first|exact qrS|skip
  all_goals decide
def L110:qLS:=(92,.dat false (vC 85))::L109
theorem h110:qHL L110:=Za h109 sK92
theorem cK42:check qPp 42=some (59,(Vn 91 92 26 25).strip,[.cell 6 3 true,.tmp 7]):=by kernel_rfl
theorem sK42:Sound qPp 42 (.dat false (vv 85)):=by
  apply jaj (hc:=cK42) h110<;>first|exact qrS|skip
  all_goals decide
def L111:qLS:=(42,.dat false (vv 85))::L110
theorem h111:qHL L111:=Za h110 sK42
theorem cK11:check qPp 11=some (44,(Uh 46 47 48 42 30 85).strip,[.tmp 4,.tmp 5]):=by kernel_rfl
theorem sK11:Sound qPp 11 (.dat false (vM 85)):=by
  apply qaT (hc:=cK11) h111<;>first|exact qrS|skip
  all_goals decide
def L112:qLS:=(11,.dat false (vM 85))::L111
theorem h112:qHL L112:=Za h111 sK11
theorem cK75:check qPp 75=some (38,(Wn 129 26 102 25).strip,[.cell 4 6 true,.tmp 5]):=by kernel_rfl
theorem sK75:Sound qPp 75 (.dat false (vF 85)):=by
  apply VaF (hc:=cK75) h112<;>first|exact qrS|skip
  all_goals decide
def L113:qLS:=(75,.dat false (vF 85))::L112
theorem h113:qHL L113:=Za h112 sK75
theorem cK76:check qPp 76=some (16,(kD 25).strip,[.cell 4 6 true]):=by kernel_rfl
theorem sK76:Sound qPp 76 (.dat false Jz):=by
  apply vag (hc:=cK76) h113<;>first|exact qrS|skip
  all_goals decide
def L114:qLS:=(76,.dat false Jz)::L113
theorem h114:qHL L114:=Za h113 sK76
theorem cK29:check qPp 29=some (33,(xl 73 74 75 76 85).strip,[.cell 4 6 true,.tmp 5]):=by kernel_rfl
theorem sK29:Sound qPp 29 (.dat false (yC 85)):=by
  apply jaG (hc:=cK29) h114<;>first|exact qrS|skip
  all_goals decide
def L115:qLS:=(29,.dat false (yC 85))::L114
theorem h115:qHL L115:=Za h114 sK29
theorem cK50:check qPp 50=some (16,(Jw 102).strip,[.cell 4 6 true]):=by kernel_rfl
theorem sK50:Sound qPp 50 (.dat false Qv):=by
  apply yaj (hc:=cK50) h115<;>first|exact qrS|skip
  all_goals decide
def L116:qLS:=(50,.dat false Qv)::L115
theorem h116:qHL L116:=Za h115 sK50
theorem cK49:check qPp 49=some (16,(Xg 26 102).strip,[.cell 4 3 true]):=by kernel_rfl
theorem sK49:Sound qPp 49 (.dat false wn):=by
  apply wac (hc:=cK49) h116<;>first|exact qrS|skip
  all_goals decide
def L117:qLS:=(49,.dat false wn)::L116
theorem h117:qHL L117:=Za h116 sK49
theorem cK52:check qPp 52=some (14,(vm 26 25).strip,[.cell 2 3 true]):=by kernel_rfl
theorem sK52:Sound qPp 52 (.dat false WO):=by
  apply qa5 (hc:=cK52) h117<;>first|exact qrS|skip
  all_goals decide
def L118:qLS:=(52,.dat false WO)::L117
theorem h118:qHL L118:=Za h117 sK52
theorem cK51:check qPp 51=some (71,(jf 50 27 49 26 52 102 103 25).strip,[.cell 6 6 true,.tmp 7]):=by kernel_rfl
theorem sK51:Sound qPp 51 (.dat false (xG 85)):=by
  apply xaH (hc:=cK51) h118<;>first|exact qrS|skip
  all_goals decide
def L119:qLS:=(51,.dat false (xG 85))::L118
theorem h119:qHL L119:=Za h118 sK51
theorem cK12:check qPp 12=some (124,(yf 11 29 50 49 30 51 52 85).strip,[.cell 4 15 true,.tmp 5]):=by kernel_rfl
theorem sK12:Sound qPp 12 (.dat false (JV 85)):=by
  apply ja8 (hc:=cK12) h119<;>first|exact qrS|skip
  all_goals decide
def L120:qLS:=(12,.dat false (JV 85))::L119
theorem h120:qHL L120:=Za h119 sK12
theorem cK218:check qPp 218=some (15,Xb.strip,[.tmp 2]):=by kernel_rfl
theorem sK218:Sound qPp 218 (.dat false Jq):=by
  apply xae (hc:=cK218) h120<;>first|exact qrS|skip
  all_goals decide
def L121:qLS:=(218,.dat false Jq)::L120
theorem h121:qHL L121:=Za h120 sK218
theorem cK204:check qPp 204=some (54,(Wd 218 219 220 221).strip,[.tmp 4]):=by kernel_rfl
theorem sK204:Sound qPp 204 (.dat false Qz):=by
  apply jai (hc:=cK204) h121<;>first|exact qrS|skip
  all_goals decide
def L122:qLS:=(204,.dat false Qz)::L121
theorem h122:qHL L122:=Za h121 sK204
theorem cK179:check qPp 179=some (5,(kf 204).strip,[.tmp 2]):=by kernel_rfl
theorem sK179:Sound qPp 179 (.dat false zn):=by
  apply zag (hc:=cK179) h122<;>first|exact qrS|skip
  all_goals decide
def L123:qLS:=(179,.dat false zn)::L122
theorem h123:qHL L123:=Za h122 sK179
theorem cK145:check qPp 145=some (5,(yt 179).strip,[.tmp 2]):=by kernel_rfl
theorem sK145:Sound qPp 145 (.dat false zn):=by
  apply V4 (hc:=cK145) h123<;>first|exact qrS|skip
  all_goals decide
def L124:qLS:=(145,.dat false zn)::L123
theorem h124:qHL L124:=Za h123 sK145
theorem cK147:check qPp 147=some (75,(Wt 182 183 185).strip,[.tmp 4]):=by kernel_rfl
theorem sK147:Sound qPp 147 (.dat false qz):=by
  apply Wal (hc:=cK147) h124<;>first|exact qrS|skip
  all_goals decide
def L125:qLS:=(147,.dat false qz)::L124
theorem h125:qHL L125:=Za h124 sK147
theorem cK94:check qPp 94=some (44,(Qs 120 144 145 146 147 121).strip,[.tmp 2]):=by kernel_rfl
theorem sK94:Sound qPp 94 (.dat false Ur):=by
  apply Z2 (hc:=cK94) h125<;>first|exact qrS|skip
  all_goals decide
def L126:qLS:=(94,.dat false Ur)::L125
theorem h126:qHL L126:=Za h125 sK94
theorem cK44:check qPp 44=some (22,(Vk 66 71 93 94).strip,[.tmp 2]):=by kernel_rfl
theorem sK44:Sound qPp 44 (.dat false Zr):=by
  apply Wac (hc:=cK44) h126<;>first|exact qrS|skip
  all_goals decide
def L127:qLS:=(44,.dat false Zr)::L126
theorem h127:qHL L127:=Za h126 sK44
theorem cK8:check qPp 8=some (88,(Jh 43 31 11 12 44).strip,[.tmp 0]):=by kernel_rfl
theorem sK8:Sound qPp 8 (.dat true xy):=by
  apply Uak (hc:=cK8) h127<;>first|exact qrS|skip
  all_goals decide
def L128:qLS:=(8,.dat true xy)::L127
theorem h128:qHL L128:=Za h127 sK8
theorem cK85:check qPp 85=some (15,Wg.strip,[.tmp 2]):=by kernel_rfl
theorem sK85:Sound qPp 85 (.dat true qs):=by
  apply kO (hc:=cK85) h128<;>first|exact qrS|skip
  all_goals decide
def L129:qLS:=(85,.dat true qs)::L128
theorem h129:qHL L129:=Za h128 sK85
theorem cK114:check qPp 114=some (38,(kj 140 157 161 138 162 163).strip,[.cell 4 2 true]):=by kernel_rfl
theorem sK114:Sound qPp 114 (.dat false jx):=by
  apply V9 (hc:=cK114) h129<;>first|exact qrS|skip
  all_goals decide
def L130:qLS:=(114,.dat false jx)::L129
theorem h130:qHL L130:=Za h129 sK114
theorem cK137:check qPp 137=some (9,(Wj 158 114).strip,[.cell 4 2 true]):=by kernel_rfl
theorem sK137:Sound qPp 137 (.dat false zG):=by
  apply uad (hc:=cK137) h130<;>first|exact qrS|skip
  all_goals decide
def L131:qLS:=(137,.dat false zG)::L130
theorem h131:qHL L131:=Za h130 sK137
theorem cK86:check qPp 86=some (9,(uj 137 110).strip,[.tmp 4]):=by kernel_rfl
theorem sK86:Sound qPp 86 (.dat true Xq):=by
  apply Wad (hc:=cK86) h131<;>first|exact qrS|skip
  all_goals decide
def L132:qLS:=(86,.dat true Xq)::L131
theorem h132:qHL L132:=Za h131 sK86
theorem cK37:check qPp 37=some (36,(Yg 85 87 88 86).strip,[.tmp 2]):=by kernel_rfl
theorem sK37:Sound qPp 37 (.dat true kd):=by
  apply wO (hc:=cK37) h132<;>first|exact qrS|skip
  all_goals decide
def L133:qLS:=(37,.dat true kd)::L132
theorem h133:qHL L133:=Za h132 sK37
theorem cK109:check qPp 109=some (23,(jh 37 88).strip,[.cell 2 2 true,.cell 3 2 true]):=by kernel_rfl
theorem sK109:Sound qPp 109 (.dat false Ye):=by
  apply vO (hc:=cK109) h133<;>first|exact qrS|skip
  all_goals decide
def L134:qLS:=(109,.dat false Ye)::L133
theorem h134:qHL L134:=Za h133 sK109
theorem cK59:check qPp 59=some (12,(wk 109 110).strip,[.tmp 2]):=by kernel_rfl
theorem sK59:Sound qPp 59 (.dat true qg):=by
  apply QO (hc:=cK59) h134<;>first|exact qrS|skip
  all_goals decide
def L135:qLS:=(59,.dat true qg)::L134
theorem h135:qHL L135:=Za h134 sK59
theorem cK18:check qPp 18=some (6,(yh 59).strip,[.tmp 2]):=by kernel_rfl
theorem sK18:Sound qPp 18 (.dat true Yx):=by
  apply qak (hc:=cK18) h135<;>first|exact qrS|skip
  all_goals decide
def L136:qLS:=(18,.dat true Yx)::L135
theorem h136:qHL L136:=Za h135 sK18
theorem cK117:check qPp 117=some (16,(Uc 37 18).strip,[.tmp 2]):=by kernel_rfl
theorem sK117:Sound qPp 117 (.dat true Xr):=by
  apply Xad (hc:=cK117) h136<;>first|exact qrS|skip
  all_goals decide
def L137:qLS:=(117,.dat true Xr)::L136
theorem h137:qHL L137:=Za h136 sK117
theorem cK14:check qPp 14=some (11,(We 37).strip,[.tmp 2]):=by kernel_rfl
theorem sK14:Sound qPp 14 (.dat true Qe):=by
  apply xA (hc:=cK14) h137<;>first|exact qrS|skip
  all_goals decide
def L138:qLS:=(14,.dat true Qe)::L137
theorem h138:qHL L138:=Za h137 sK14
theorem cK65:check qPp 65=some (11,(je 117 14).strip,[.tmp 2]):=by kernel_rfl
theorem sK65:Sound qPp 65 (.dat true Yu):=by
  apply qam (hc:=cK65) h138<;>first|exact qrS|skip
  all_goals decide
def L139:qLS:=(65,.dat true Yu)::L138
theorem h139:qHL L139:=Za h138 sK65
theorem cK45:check qPp 45=some (40,yg.strip,[.tmp 2]):=by kernel_rfl
theorem sK45:Sound qPp 45 (.dat true qq):=by
  apply Q0 (hc:=cK45) h139<;>first|exact qrS|skip
  all_goals decide
def L140:qLS:=(45,.dat true qq)::L139
theorem h140:qHL L140:=Za h139 sK45
theorem cK9:check qPp 9=some (10,(zh 45).strip,[.tmp 2]):=by kernel_rfl
theorem sK9:Sound qPp 9 (.dat true Yr):=by
  apply Zac (hc:=cK9) h140<;>first|exact qrS|skip
  all_goals decide
def L141:qLS:=(9,.dat true Yr)::L140
theorem h141:qHL L141:=Za h140 sK9
theorem cK24:check qPp 24=some (15,(wh 65 9).strip,[.tmp 2]):=by kernel_rfl
theorem sK24:Sound qPp 24 (.dat true jz):=by
  apply Qan (hc:=cK24) h141<;>first|exact qrS|skip
  all_goals decide
def L142:qLS:=(24,.dat true jz)::L141
theorem h142:qHL L142:=Za h141 sK24
theorem cK10:check qPp 10=some (35,qe.strip,[.tmp 2]):=by kernel_rfl
theorem sK10:Sound qPp 10 (.dat true jq):=by
  apply Z6 (hc:=cK10) h142<;>first|exact qrS|skip
  all_goals decide
def L143:qLS:=(10,.dat true jq)::L142
theorem h143:qHL L143:=Za h142 sK10
theorem cK20:check qPp 20=some (115,(Xc 46 47 63 30 48 27 26 25 42 85).strip,[.tmp 4,.tmp 5]):=by kernel_rfl
theorem sK20:Sound qPp 20 (.dat false (yl 85)):=by
  apply zX (hc:=cK20) h143<;>first|exact qrS|skip
  all_goals decide
def L144:qLS:=(20,.dat false (yl 85))::L143
theorem h144:qHL L144:=Za h143 sK20
theorem cK104:check qPp 104=some (26,Qi.strip,[.tmp 4]):=by kernel_rfl
theorem sK104:Sound qPp 104 (.dat true Uq):=by
  apply zad (hc:=cK104) h144<;>first|exact qrS|skip
  all_goals decide
def L145:qLS:=(104,.dat true Uq)::L144
theorem h145:qHL L145:=Za h144 sK104
theorem cK54:check qPp 54=some (24,(zl 104).strip,[.tmp 4]):=by kernel_rfl
theorem sK54:Sound qPp 54 (.dat true jG):=by
  apply UaF (hc:=cK54) h145<;>first|exact qrS|skip
  all_goals decide
def L146:qLS:=(54,.dat true jG)::L145
theorem h146:qHL L146:=Za h145 sK54
theorem cK23:check qPp 23=some (17,(Ue 54).strip,[.tmp 4]):=by kernel_rfl
theorem sK23:Sound qPp 23 (.dat true Jy):=by
  apply Xaj (hc:=cK23) h146<;>first|exact qrS|skip
  all_goals decide
def L147:qLS:=(23,.dat true Jy)::L146
theorem h147:qHL L147:=Za h146 sK23
theorem cK127:check qPp 127=some (38,(yB 25 30).strip,[.tmp 2]):=by kernel_rfl
theorem sK127:Sound qPp 127 (.fresh 3 Wx):=by
  apply jam (hc:=cK127) h147<;>first|exact qrS|skip
  all_goals decide
def L148:qLS:=(127,.fresh 3 Wx)::L147
theorem h148:qHL L148:=Za h147 sK127
theorem cK72:check qPp 72=some (61,(xq 91 92 26 25 127).strip,[.tmp 6,.tmp 7]):=by kernel_rfl
theorem sK72:Sound qPp 72 (.dat false (ZF 85)):=by
  apply zaG (hc:=cK72) h148<;>first|exact qrS|skip
  all_goals decide
def L149:qLS:=(72,.dat false (ZF 85))::L148
theorem h149:qHL L149:=Za h148 sK72
theorem cK28:check qPp 28=some (42,(ye 46 63 48 72 85).strip,[.tmp 4,.tmp 5]):=by kernel_rfl
theorem sK28:Sound qPp 28 (.dat false (qE 85)):=by
  apply yaE (hc:=cK28) h149<;>first|exact qrS|skip
  all_goals decide
def L150:qLS:=(28,.dat false (qE 85))::L149
theorem h150:qHL L150:=Za h149 sK28
theorem cK5:check qPp 5=some (167,(Vb 8 24 10 20 27 26 25 23 11 28 29 14 30).strip,[.tmp 6]):=by kernel_rfl
theorem sK5:Sound qPp 5 (.dat true xr):=by
  apply Zad (hc:=cK5) h150<;>first|exact qrS|skip
  all_goals decide
def L151:qLS:=(5,.dat true xr)::L150
theorem h151:qHL L151:=Za h150 sK5
theorem hold:qHL L151:=h151
end Go.Abs
