/-
  The contracts of this seat's functions, gathered.
-/
import Derived.Test.YtneiiodebbmcaaaGreatDoorChecked
import Derived.Test.YtneiiodebbmcaaaGreatDoorBits
import Derived.KernelRfl
import Derived.Test.YtneiiodebbmcaaaGreatDoorM15
set_option maxRecDepth 100000
set_option linter.unusedVariables false
namespace Go.Abs
open Go.Proofs
noncomputable abbrev qPp:=Tryz.prog
abbrev qLS:=List (Nat×Spec)
abbrev qHL(l:qLS):=Holds qPp (Gl l)
theorem qrS{a:Spec}:a=a:=rfl
theorem cK171:check qPp 171=some (25,kd.strip,[.tmp 2]):=by kernel_rfl
theorem sK171:Sound qPp 171 (.fresh 1 vw):=by
  apply VaG (hc:=cK171) zac<;>first|exact qrS|skip
  all_goals decide
def L1:qLS:=(171,.fresh 1 vw)::[]
theorem h1:qHL L1:=Za zac sK171
theorem cK138:check qPp 138=some (14,(Wi 171).strip,[.cell 4 2 true]):=by kernel_rfl
theorem sK138:Sound qPp 138 (.dat false kf):=by
  apply wag (hc:=cK138) h1<;>first|exact qrS|skip
  all_goals decide
def L2:qLS:=(138,.dat false kf)::L1
theorem h2:qHL L2:=Za h1 sK138
theorem cK134:check qPp 134=some (19,(zu 138).strip,[.cell 2 2 true]):=by kernel_rfl
theorem sK134:Sound qPp 134 (.dat false ZJ):=by
  apply Y7 (hc:=cK134) h2<;>first|exact qrS|skip
  all_goals decide
def L3:qLS:=(134,.dat false ZJ)::L2
theorem h3:qHL L3:=Za h2 sK134
theorem cK88:check qPp 88=some (2,(ym 134).strip,[.cell 0 2 true]):=by kernel_rfl
theorem sK88:Sound qPp 88 (.dat false Qq):=by
  apply WP (hc:=cK88) h3<;>first|exact qrS|skip
  all_goals decide
def L4:qLS:=(88,.dat false Qq)::L3
theorem h4:qHL L4:=Za h3 sK88
theorem cK175:check qPp 175=some (19,vl.strip,[.tmp 2]):=by kernel_rfl
theorem sK175:Sound qPp 175 (.dat true Xj):=by
  apply xI (hc:=cK175) h4<;>first|exact qrS|skip
  all_goals decide
def L5:qLS:=(175,.dat true Xj)::L4
theorem h5:qHL L5:=Za h4 sK175
theorem cK140:check qPp 140=some (8,(xo 175).strip,[.tmp 2]):=by kernel_rfl
theorem sK140:Sound qPp 140 (.dat false jk):=by
  apply YV (hc:=cK140) h5<;>first|exact qrS|skip
  all_goals decide
def L6:qLS:=(140,.dat false jk)::L5
theorem h6:qHL L6:=Za h5 sK140
theorem cK157:check qPp 157=some (9,(Vp 175).strip,[.tmp 2]):=by kernel_rfl
theorem sK157:Sound qPp 157 (.dat true zg):=by
  apply uO (hc:=cK157) h6<;>first|exact qrS|skip
  all_goals decide
def L7:qLS:=(157,.dat true zg)::L6
theorem h7:qHL L7:=Za h6 sK157
theorem cK110:check qPp 110=some (9,(xi 140 157).strip,[.tmp 2]):=by kernel_rfl
theorem sK110:Sound qPp 110 (.dat true vg):=by
  apply uZ (hc:=cK110) h7<;>first|exact qrS|skip
  all_goals decide
def L8:qLS:=(110,.dat true vg)::L7
theorem h8:qHL L8:=Za h7 sK110
theorem cK158:check qPp 158=some (9,(Jp 157 140 138).strip,[.cell 2 2 true]):=by kernel_rfl
theorem sK158:Sound qPp 158 (.dat false Zw):=by
  apply jQ (hc:=cK158) h8<;>first|exact qrS|skip
  all_goals decide
def L9:qLS:=(158,.dat false Zw)::L8
theorem h9:qHL L9:=Za h8 sK158
theorem cK194:check qPp 194=some (14,Ym.strip,[.tmp 4]):=by kernel_rfl
theorem sK194:Sound qPp 194 (.dat true jm):=by
  apply QS (hc:=cK194) h9<;>first|exact qrS|skip
  all_goals decide
def L10:qLS:=(194,.dat true jm)::L9
theorem h10:qHL L10:=Za h9 sK194
theorem cK174:check qPp 174=some (21,xk.strip,[.tmp 2]):=by kernel_rfl
theorem sK174:Sound qPp 174 (.own W4):=by
  apply ka3 (hc:=cK174) h10<;>first|exact qrS|skip
  all_goals decide
def L11:qLS:=(174,.own W4)::L10
theorem h11:qHL L11:=Za h10 sK174
theorem cK172:check qPp 172=some (26,(Vh 194 174).strip,[.tmp 2]):=by kernel_rfl
theorem sK172:Sound qPp 172 (.own Xq):=by
  apply Qai (hc:=cK172) h11<;>first|exact qrS|skip
  all_goals decide
def L12:qLS:=(172,.own Xq)::L11
theorem h12:qHL L12:=Za h11 sK172
theorem cK162:check qPp 162=some (30,(Vf 194).strip,[.tmp 4]):=by kernel_rfl
theorem sK162:Sound qPp 162 (.dat true jv):=by
  apply Qaj (hc:=cK162) h12<;>first|exact qrS|skip
  all_goals decide
def L13:qLS:=(162,.dat true jv)::L12
theorem h13:qHL L13:=Za h12 sK162
theorem cK173:check qPp 173=some (31,(xe 194).strip,[]):=by kernel_rfl
theorem sK173:Sound qPp 173 (.own Vy):=by
  apply jaF (hc:=cK173) h13<;>first|exact qrS|skip
  all_goals decide
def L14:qLS:=(173,.own Vy)::L13
theorem h14:qHL L14:=Za h13 sK173
theorem cK161:check qPp 161=some (37,(Ui 194 171).strip,[.tmp 4]):=by kernel_rfl
theorem sK161:Sound qPp 161 (.dat false xr):=by
  apply yad (hc:=cK161) h14<;>first|exact qrS|skip
  all_goals decide
def L15:qLS:=(161,.dat false xr)::L14
theorem h15:qHL L15:=Za h14 sK161
theorem cK139:check qPp 139=some (72,(Wk 171 172 162 173 174 161).strip,[.tmp 4]):=by kernel_rfl
theorem sK139:Sound qPp 139 (.dat false Uz):=by
  apply wal (hc:=cK139) h15<;>first|exact qrS|skip
  all_goals decide
def L16:qLS:=(139,.dat false Uz)::L15
theorem h16:qHL L16:=Za h15 sK139
theorem cK87:check qPp 87=some (11,(Vk 140 139 138).strip,[.cell 4 2 true]):=by kernel_rfl
theorem sK87:Sound qPp 87 (.dat false uu):=by
  apply V6 (hc:=cK87) h16<;>first|exact qrS|skip
  all_goals decide
def L17:qLS:=(87,.dat false uu)::L16
theorem h17:qHL L17:=Za h16 sK87
theorem cK214:check qPp 214=some (25,Ji.strip,[.tmp 2]):=by kernel_rfl
theorem sK214:Sound qPp 214 (.dat true ut):=by
  apply Jaa (hc:=cK214) h17<;>first|exact qrS|skip
  all_goals decide
def L18:qLS:=(214,.dat true ut)::L17
theorem h18:qHL L18:=Za h17 sK214
theorem cK193:check qPp 193=some (76,(jg 214 162 173 171).strip,[.tmp 4,.tmp 5]):=by kernel_rfl
theorem sK193:Sound qPp 193 (.dat false Zi):=by
  apply jP (hc:=cK193) h18<;>first|exact qrS|skip
  all_goals decide
def L19:qLS:=(193,.dat false Zi)::L18
theorem h19:qHL L19:=Za h18 sK193
theorem cK163:check qPp 163=some (35,(Zh 194 171).strip,[.tmp 4]):=by kernel_rfl
theorem sK163:Sound qPp 163 (.dat false Yv):=by
  apply XZ (hc:=cK163) h19<;>first|exact qrS|skip
  all_goals decide
def L20:qLS:=(163,.dat false Yv)::L19
theorem h20:qHL L20:=Za h19 sK163
theorem cK159:check qPp 159=some (45,(wk 110 140 193 157 161 163 138).strip,[.cell 4 2 true,.cell 5 2 true,.tmp 6]):=by kernel_rfl
theorem sK159:Sound qPp 159 (.dat false Zs):=by
  apply Uaa (hc:=cK159) h20<;>first|exact qrS|skip
  all_goals decide
def L21:qLS:=(159,.dat false Zs)::L20
theorem h21:qHL L21:=Za h20 sK159
theorem cK112:check qPp 112=some (47,(Wj 110 158 87 159).strip,[.cell 4 3 true]):=by kernel_rfl
theorem sK112:Sound qPp 112 (.dat false Jj):=by
  apply wY (hc:=cK112) h21<;>first|exact qrS|skip
  all_goals decide
def L22:qLS:=(112,.dat false Jj)::L21
theorem h22:qHL L22:=Za h21 sK112
theorem cK83:check qPp 83=some (7,(uo 134 88 112).strip,[.cell 2 3 true]):=by kernel_rfl
theorem sK83:Sound qPp 83 (.dat false zC):=by
  apply yae (hc:=cK83) h22<;>first|exact qrS|skip
  all_goals decide
def L23:qLS:=(83,.dat false zC)::L22
theorem h23:qHL L23:=Za h22 sK83
theorem cK43:check qPp 43=some (18,(Qh 83).strip,[.tmp 2]):=by kernel_rfl
theorem sK43:Sound qPp 43 (.dat false VF):=by
  apply WaG (hc:=cK43) h23<;>first|exact qrS|skip
  all_goals decide
def L24:qLS:=(43,.dat false VF)::L23
theorem h24:qHL L24:=Za h23 sK43
theorem cK115:check qPp 115=some (19,vl.strip,[.tmp 2]):=by kernel_rfl
theorem sK115:Sound qPp 115 (.dat true Xj):=by
  apply xI (hc:=cK115) h24<;>first|exact qrS|skip
  all_goals decide
def L25:qLS:=(115,.dat true Xj)::L24
theorem h25:qHL L25:=Za h24 sK115
theorem cK120:check qPp 120=some (8,(xo 115).strip,[.tmp 2]):=by kernel_rfl
theorem sK120:Sound qPp 120 (.dat false jk):=by
  apply YV (hc:=cK120) h25<;>first|exact qrS|skip
  all_goals decide
def L26:qLS:=(120,.dat false jk)::L25
theorem h26:qHL L26:=Za h25 sK120
theorem cK124:check qPp 124=some (41,yn.strip,[.tmp 4]):=by kernel_rfl
theorem sK124:Sound qPp 124 (.dat false Yi):=by
  apply xX (hc:=cK124) h26<;>first|exact qrS|skip
  all_goals decide
def L27:qLS:=(124,.dat false Yi)::L26
theorem h27:qHL L27:=Za h26 sK124
theorem cK165:check qPp 165=some (25,Yu.strip,[.tmp 2]):=by kernel_rfl
theorem sK165:Sound qPp 165 (.dat false Qv):=by
  apply ZaH (hc:=cK165) h27<;>first|exact qrS|skip
  all_goals decide
def L28:qLS:=(165,.dat false Qv)::L27
theorem h28:qHL L28:=Za h27 sK165
theorem cK144:check qPp 144=some (43,(Vr 165).strip,[.tmp 4,.tmp 5]):=by kernel_rfl
theorem sK144:Sound qPp 144 (.dat false kx):=by
  apply Uah (hc:=cK144) h28<;>first|exact qrS|skip
  all_goals decide
def L29:qLS:=(144,.dat false kx)::L28
theorem h29:qHL L29:=Za h28 sK144
theorem sK195:Sound qPp 195 (.dat true lz_G):=ja0 (ky Tryz.func195 (by kernel_rfl) (by kernel_rfl)) Vbv wbA Tryz.bits_LeadingZeros32
def L30:qLS:=(195,.dat true lz_G)::L29
theorem h30:qHL L30:=Za h29 sK195
theorem cK196:check qPp 196=some (41,uz.strip,[.tmp 4]):=by kernel_rfl
theorem sK196:Sound qPp 196 (.fresh 1 up_G):=by
  apply Ubd (hc:=cK196) h30<;>first|exact qrS|skip
  all_goals decide
def L31:qLS:=(196,.fresh 1 up_G)::L30
theorem h31:qHL L31:=Za h30 sK196
theorem cK166:check qPp 166=some (14,Ym.strip,[.tmp 4]):=by kernel_rfl
theorem sK166:Sound qPp 166 (.dat true jm):=by
  apply QS (hc:=cK166) h31<;>first|exact qrS|skip
  all_goals decide
def L32:qLS:=(166,.dat true jm)::L31
theorem h32:qHL L32:=Za h31 sK166
theorem cK197:check qPp 197=some (46,(Vo 166).strip,[.tmp 6]):=by kernel_rfl
theorem sK197:Sound qPp 197 (.own Wt):=by
  apply Waa (hc:=cK197) h32<;>first|exact qrS|skip
  all_goals decide
def L33:qLS:=(197,.own Wt)::L32
theorem h33:qHL L33:=Za h32 sK197
theorem cK198:check qPp 198=some (30,(Xu 166).strip,[]):=by kernel_rfl
theorem sK198:Sound qPp 198 (.own QG):=by
  apply QaI (hc:=cK198) h33<;>first|exact qrS|skip
  all_goals decide
def L34:qLS:=(198,.own QG)::L33
theorem h34:qHL L34:=Za h33 sK198
theorem cK199:check qPp 199=some (35,(vu 166 165).strip,[.tmp 4]):=by kernel_rfl
theorem sK199:Sound qPp 199 (.dat false YE):=by
  apply vaG (hc:=cK199) h34<;>first|exact qrS|skip
  all_goals decide
def L35:qLS:=(199,.dat false YE)::L34
theorem h35:qHL L35:=Za h34 sK199
theorem cK164:check qPp 164=some (158,(Uj 124 165 144 195 196 197 198 199).strip,[.tmp 4,.tmp 5]):=by kernel_rfl
theorem sK164:Sound qPp 164 (.dat false Zi):=by
  apply Zah (hc:=cK164) h35<;>first|exact qrS|skip
  all_goals decide
def L36:qLS:=(164,.dat false Zi)::L35
theorem h36:qHL L36:=Za h35 sK164
theorem cK122:check qPp 122=some (15,(Wr 165).strip,[.cell 4 2 true]):=by kernel_rfl
theorem sK122:Sound qPp 122 (.dat false kf):=by
  apply Zan (hc:=cK122) h36<;>first|exact qrS|skip
  all_goals decide
def L37:qLS:=(122,.dat false kf)::L36
theorem h37:qHL L37:=Za h36 sK122
theorem cK116:check qPp 116=some (26,(ux 120 164 122).strip,[.cell 4 2 true]):=by kernel_rfl
theorem sK116:Sound qPp 116 (.dat false uu):=by
  apply WaF (hc:=cK116) h37<;>first|exact qrS|skip
  all_goals decide
def L38:qLS:=(116,.dat false uu)::L37
theorem h38:qHL L38:=Za h37 sK116
theorem cK70:check qPp 70=some (19,(zu 122).strip,[.cell 2 2 true]):=by kernel_rfl
theorem sK70:Sound qPp 70 (.dat false ZJ):=by
  apply Y7 (hc:=cK70) h38<;>first|exact qrS|skip
  all_goals decide
def L39:qLS:=(70,.dat false ZJ)::L38
theorem h39:qHL L39:=Za h38 sK70
theorem cK71:check qPp 71=some (2,(ym 70).strip,[.cell 0 2 true]):=by kernel_rfl
theorem sK71:Sound qPp 71 (.dat false Qq):=by
  apply WP (hc:=cK71) h39<;>first|exact qrS|skip
  all_goals decide
def L40:qLS:=(71,.dat false Qq)::L39
theorem h40:qHL L40:=Za h39 sK71
theorem cK77:check qPp 77=some (11,(Wu 120).strip,[.tmp 2]):=by kernel_rfl
theorem sK77:Sound qPp 77 (.dat true vg):=by
  apply Xaj (hc:=cK77) h40<;>first|exact qrS|skip
  all_goals decide
def L41:qLS:=(77,.dat true vg)::L40
theorem h41:qHL L41:=Za h40 sK77
theorem cK121:check qPp 121=some (9,(Vp 115).strip,[.tmp 2]):=by kernel_rfl
theorem sK121:Sound qPp 121 (.dat true zg):=by
  apply uO (hc:=cK121) h41<;>first|exact qrS|skip
  all_goals decide
def L42:qLS:=(121,.dat true zg)::L41
theorem h42:qHL L42:=Za h41 sK121
theorem cK93:check qPp 93=some (28,(Xw 77 120 124 121).strip,[.tmp 4]):=by kernel_rfl
theorem sK93:Sound qPp 93 (.dat true vD):=by
  apply kaJ (hc:=cK93) h42<;>first|exact qrS|skip
  all_goals decide
def L43:qLS:=(93,.dat true vD)::L42
theorem h43:qHL L43:=Za h42 sK93
theorem cK63:check qPp 63=some (50,(ko 115 116 71 93).strip,[.tmp 2]):=by kernel_rfl
theorem sK63:Sound qPp 63 (.dat true wd):=by
  apply waa (hc:=cK63) h43<;>first|exact qrS|skip
  all_goals decide
def L44:qLS:=(63,.dat true wd)::L43
theorem h44:qHL L44:=Za h43 sK63
theorem cK66:check qPp 66=some (28,(yo 63 71).strip,[.cell 2 2 true,.cell 3 2 true]):=by kernel_rfl
theorem sK66:Sound qPp 66 (.dat false Ve):=by
  apply yaf (hc:=cK66) h44<;>first|exact qrS|skip
  all_goals decide
def L45:qLS:=(66,.dat false Ve)::L44
theorem h45:qHL L45:=Za h44 sK66
theorem cK30:check qPp 30=some (12,(Jl 66 77).strip,[.tmp 2]):=by kernel_rfl
theorem sK30:Sound qPp 30 (.dat true Yh):=by
  apply kL (hc:=cK30) h45<;>first|exact qrS|skip
  all_goals decide
def L46:qLS:=(30,.dat true Yh)::L45
theorem h46:qHL L46:=Za h45 sK30
theorem cK128:check qPp 128=some (18,(Zk 63 30 85).strip,[.tmp 2]):=by kernel_rfl
theorem sK128:Sound qPp 128 (.dat false (wl 85)):=by
  apply wab (hc:=cK128) h46<;>first|exact qrS|skip
  all_goals decide
def L47:qLS:=(128,.dat false (wl 85))::L46
theorem h47:qHL L47:=Za h46 sK128
theorem cK74:check qPp 74=some (11,(Ye 63).strip,[.tmp 2]):=by kernel_rfl
theorem sK74:Sound qPp 74 (.dat true ke):=by
  apply YB (hc:=cK74) h47<;>first|exact qrS|skip
  all_goals decide
def L48:qLS:=(74,.dat true ke)::L47
theorem h48:qHL L48:=Za h47 sK74
theorem cK73:check qPp 73=some (12,(Xt 128 74).strip,[.tmp 2]):=by kernel_rfl
theorem sK73:Sound qPp 73 (.dat true zw):=by
  apply zaG (hc:=cK73) h48<;>first|exact qrS|skip
  all_goals decide
def L49:qLS:=(73,.dat true zw)::L48
theorem h49:qHL L49:=Za h48 sK73
theorem cK148:check qPp 148=some (16,(Yw 73 85).strip,[.tmp 2]):=by kernel_rfl
theorem sK148:Sound qPp 148 (.dat false (xE 85)):=by
  apply ZaJ (hc:=cK148) h49<;>first|exact qrS|skip
  all_goals decide
def L50:qLS:=(148,.dat false (xE 85))::L49
theorem h50:qHL L50:=Za h49 sK148
theorem cK95:check qPp 95=some (13,(qx 148 85).strip,[.tmp 2]):=by kernel_rfl
theorem sK95:Sound qPp 95 (.dat false (UG 85)):=by
  apply kaK (hc:=cK95) h50<;>first|exact qrS|skip
  all_goals decide
def L51:qLS:=(95,.dat false (UG 85))::L50
theorem h51:qHL L51:=Za h50 sK95
theorem cK46:check qPp 46=some (13,(Ue 95 85).strip,[.tmp 2]):=by kernel_rfl
theorem sK46:Sound qPp 46 (.dat false (jC 85)):=by
  apply kaH (hc:=cK46) h51<;>first|exact qrS|skip
  all_goals decide
def L52:qLS:=(46,.dat false (jC 85))::L51
theorem h52:qHL L52:=Za h51 sK46
theorem cK118:check qPp 118=some (9,(Jp 121 120 122).strip,[.cell 2 2 true]):=by kernel_rfl
theorem sK118:Sound qPp 118 (.dat false Zw):=by
  apply jQ (hc:=cK118) h52<;>first|exact qrS|skip
  all_goals decide
def L53:qLS:=(118,.dat false Zw)::L52
theorem h53:qHL L53:=Za h52 sK118
theorem cK123:check qPp 123=some (39,(Vu 166 165).strip,[.tmp 4]):=by kernel_rfl
theorem sK123:Sound qPp 123 (.dat false xr):=by
  apply xaG (hc:=cK123) h53<;>first|exact qrS|skip
  all_goals decide
def L54:qLS:=(123,.dat false xr)::L53
theorem h54:qHL L54:=Za h53 sK123
theorem cK125:check qPp 125=some (38,(yu 166 165).strip,[.tmp 4]):=by kernel_rfl
theorem sK125:Sound qPp 125 (.dat false Yv):=by
  apply UaK (hc:=cK125) h54<;>first|exact qrS|skip
  all_goals decide
def L55:qLS:=(125,.dat false Yv)::L54
theorem h55:qHL L55:=Za h54 sK125
theorem cK119:check qPp 119=some (47,(yx 120 164 121 123 125 122 85).strip,[.cell 4 2 true,.cell 5 2 true,.tmp 6]):=by kernel_rfl
theorem sK119:Sound qPp 119 (.dat false WE):=by
  apply YaG (hc:=cK119) h55<;>first|exact qrS|skip
  all_goals decide
def L56:qLS:=(119,.dat false WE)::L55
theorem h56:qHL L56:=Za h55 sK119
theorem cK67:check qPp 67=some (47,(Zr 77 118 116 119).strip,[.cell 4 3 true]):=by kernel_rfl
theorem sK67:Sound qPp 67 (.dat false Jj):=by
  apply zan (hc:=cK67) h56<;>first|exact qrS|skip
  all_goals decide
def L57:qLS:=(67,.dat false Jj)::L56
theorem h57:qHL L57:=Za h56 sK67
theorem cK27:check qPp 27=some (7,(uo 70 71 67).strip,[.cell 2 3 true]):=by kernel_rfl
theorem sK27:Sound qPp 27 (.dat false zC):=by
  apply yae (hc:=cK27) h57<;>first|exact qrS|skip
  all_goals decide
def L58:qLS:=(27,.dat false zC)::L57
theorem h58:qHL L58:=Za h57 sK27
theorem cK126:check qPp 126=some (67,(uq 165).strip,[.tmp 4]):=by kernel_rfl
theorem sK126:Sound qPp 126 (.dat false zr):=by
  apply Vao (hc:=cK126) h58<;>first|exact qrS|skip
  all_goals decide
def L59:qLS:=(126,.dat false zr)::L58
theorem h59:qHL L59:=Za h58 sK126
theorem cK69:check qPp 69=some (16,(Uo 121 120 126 122).strip,[.cell 4 2 true]):=by kernel_rfl
theorem sK69:Sound qPp 69 (.dat false qw):=by
  apply JV (hc:=cK69) h59<;>first|exact qrS|skip
  all_goals decide
def L60:qLS:=(69,.dat false qw)::L59
theorem h60:qHL L60:=Za h59 sK69
theorem cK26:check qPp 26=some (26,(km 66 69 67).strip,[.cell 4 3 true]):=by kernel_rfl
theorem sK26:Sound qPp 26 (.dat false vi):=by
  apply uT (hc:=cK26) h60<;>first|exact qrS|skip
  all_goals decide
def L61:qLS:=(26,.dat false vi)::L60
theorem h61:qHL L61:=Za h60 sK26
theorem cK68:check qPp 68=some (40,(Vx 120 121 123 122 124 125).strip,[.cell 4 2 true]):=by kernel_rfl
theorem sK68:Sound qPp 68 (.dat false Wy):=by
  apply XaI (hc:=cK68) h61<;>first|exact qrS|skip
  all_goals decide
def L62:qLS:=(68,.dat false Wy)::L61
theorem h62:qHL L62:=Za h61 sK68
theorem cK25:check qPp 25=some (30,(jn 66 69 68 67).strip,[.cell 4 3 true]):=by kernel_rfl
theorem sK25:Sound qPp 25 (.dat false yi):=by
  apply QQ (hc:=cK25) h62<;>first|exact qrS|skip
  all_goals decide
def L63:qLS:=(25,.dat false yi)::L62
theorem h63:qHL L63:=Za h62 sK25
theorem cK150:check qPp 150=some (14,(Xm 66 118 67).strip,[.cell 2 3 true]):=by kernel_rfl
theorem sK150:Sound qPp 150 (.dat false kB):=by
  apply qR (hc:=cK150) h63<;>first|exact qrS|skip
  all_goals decide
def L64:qLS:=(150,.dat false kB)::L63
theorem h64:qHL L64:=Za h63 sK150
theorem cK102:check qPp 102=some (9,(Vm 150 25).strip,[.cell 4 3 true]):=by kernel_rfl
theorem sK102:Sound qPp 102 (.dat false Wq):=by
  apply YQ (hc:=cK102) h64<;>first|exact qrS|skip
  all_goals decide
def L65:qLS:=(102,.dat false Wq)::L64
theorem h65:qHL L65:=Za h64 sK102
theorem cK155:check qPp 155=some (14,(Qr 77 67 85).strip,[.cell 4 3 true,.tmp 5]):=by kernel_rfl
theorem sK155:Sound qPp 155 (.dat false (Vs 85)):=by
  apply Q4 (hc:=cK155) h65<;>first|exact qrS|skip
  all_goals decide
def L66:qLS:=(155,.dat false (Vs 85))::L65
theorem h66:qHL L66:=Za h65 sK155
theorem cK103:check qPp 103=some (29,(Jv 66 69 155).strip,[.cell 4 3 true,.tmp 5]):=by kernel_rfl
theorem sK103:Sound qPp 103 (.dat false (jx 85)):=by
  apply waj (hc:=cK103) h66<;>first|exact qrS|skip
  all_goals decide
def L67:qLS:=(103,.dat false (jx 85))::L66
theorem h67:qHL L67:=Za h66 sK103
theorem cK216:check qPp 216=some (17,(yw 103).strip,[.cell 4 3 true]):=by kernel_rfl
theorem sK216:Sound qPp 216 (.dat false jr):=by
  apply Yai (hc:=cK216) h67<;>first|exact qrS|skip
  all_goals decide
def L68:qLS:=(216,.dat false jr)::L67
theorem h68:qHL L68:=Za h67 sK216
theorem cK200:check qPp 200=some (32,(Yf 27 26 25 102 216).strip,[.cell 2 3 true,.cell 3 3 true]):=by kernel_rfl
theorem sK200:Sound qPp 200 (.dat false uy):=by
  apply vS (hc:=cK200) h68<;>first|exact qrS|skip
  all_goals decide
def L69:qLS:=(200,.dat false uy)::L68
theorem h69:qHL L69:=Za h68 sK200
theorem cK167:check qPp 167=some (19,(Un 128 200).strip,[.cell 2 3 true,.tmp 3]):=by kernel_rfl
theorem sK167:Sound qPp 167 (.dat false (YF 85)):=by
  apply VaI (hc:=cK167) h69<;>first|exact qrS|skip
  all_goals decide
def L70:qLS:=(167,.dat false (YF 85))::L69
theorem h70:qHL L70:=Za h69 sK167
theorem cK168:check qPp 168=some (19,(jo 128 200).strip,[.cell 2 3 true,.tmp 3]):=by kernel_rfl
theorem sK168:Sound qPp 168 (.dat false (XH 85)):=by
  apply YaJ (hc:=cK168) h70<;>first|exact qrS|skip
  all_goals decide
def L71:qLS:=(168,.dat false (XH 85))::L70
theorem h71:qHL L71:=Za h70 sK168
theorem cK129:check qPp 129=some (29,(xj 128 167 168 85).strip,[.cell 2 3 true,.cell 3 3 true,.tmp 4]):=by kernel_rfl
theorem sK129:Sound qPp 129 (.dat false (jD 85)):=by
  apply vaF (hc:=cK129) h71<;>first|exact qrS|skip
  all_goals decide
def L72:qLS:=(129,.dat false (jD 85))::L71
theorem h72:qHL L72:=Za h71 sK129
theorem cK142:check qPp 142=some (29,xq.strip,[.tmp 2]):=by kernel_rfl
theorem sK142:Sound qPp 142 (.dat true zl):=by
  apply VY (hc:=cK142) h72<;>first|exact qrS|skip
  all_goals decide
def L73:qLS:=(142,.dat true zl)::L72
theorem h73:qHL L73:=Za h72 sK142
theorem cK190:check qPp 190=some (8,Xe.strip,[.tmp 2]):=by kernel_rfl
theorem sK190:Sound qPp 190 (.fresh 5 zp):=by
  apply vac (hc:=cK190) h73<;>first|exact qrS|skip
  all_goals decide
def L74:qLS:=(190,.fresh 5 zp)::L73
theorem h74:qHL L74:=Za h73 sK190
theorem cK203:check qPp 203=some (6,xx.strip,[.tmp 2]):=by kernel_rfl
theorem sK203:Sound qPp 203 (.dat true wH):=by
  apply ZaI (hc:=cK203) h74<;>first|exact qrS|skip
  all_goals decide
def L75:qLS:=(203,.dat true wH)::L74
theorem h75:qHL L75:=Za h74 sK203
theorem cK178:check qPp 178=some (20,(xg 203).strip,[.tmp 4]):=by kernel_rfl
theorem sK178:Sound qPp 178 (.dat true kH):=by
  apply qaI (hc:=cK178) h75<;>first|exact qrS|skip
  all_goals decide
def L76:qLS:=(178,.dat true kH)::L75
theorem h76:qHL L76:=Za h75 sK178
theorem cK177:check qPp 177=some (18,ZE.strip,[.tmp 2]):=by kernel_rfl
theorem sK177:Sound qPp 177 (.dat true jZ):=by
  apply qaZ (hc:=cK177) h76<;>first|exact qrS|skip
  all_goals decide
def L77:qLS:=(177,.dat true jZ)::L76
theorem h77:qHL L77:=Za h76 sK177
theorem cK143:check qPp 143=some (23,(Wv 178 177).strip,[.tmp 4]):=by kernel_rfl
theorem sK143:Sound qPp 143 (.dat true Jy):=by
  apply Q7 (hc:=cK143) h77<;>first|exact qrS|skip
  all_goals decide
def L78:qLS:=(143,.dat true Jy)::L77
theorem h78:qHL L78:=Za h77 sK143
theorem cK231:check qPp 231=some (53,Qd.strip,[]):=by kernel_rfl
theorem sK231:Sound qPp 231 (.own (vG 143)):=by
  apply xaH (hc:=cK231) h78<;>first|exact qrS|skip
  all_goals decide
def L79:qLS:=(231,.own (vG 143))::L78
theorem h79:qHL L79:=Za h78 sK231
theorem cK236:check qPp 236=some (38,yd.strip,[]):=by kernel_rfl
theorem sK236:Sound qPp 236 (.own (kD 143)):=by
  apply QaG (hc:=cK236) h79<;>first|exact qrS|skip
  all_goals decide
def L80:qLS:=(236,.own (kD 143))::L79
theorem h80:qHL L80:=Za h79 sK236
theorem cK235:check qPp 235=some (58,(we 236).strip,[]):=by kernel_rfl
theorem sK235:Sound qPp 235 (.own (vH 143)):=by
  apply yaJ (hc:=cK235) h80<;>first|exact qrS|skip
  all_goals decide
def L81:qLS:=(235,.own (vH 143))::L80
theorem h81:qHL L81:=Za h80 sK235
theorem cK232:check qPp 232=some (220,(vb 235 232).strip,[]):=by kernel_rfl
theorem sK232:Sound qPp 232 (.own (ui 143 10000)):=by
  apply WY (hc:=cK232) h81<;>first|exact qrS|skip
  all_goals decide
def L82:qLS:=(232,.own (ui 143 10000))::L81
theorem h82:qHL L82:=Za h81 sK232
theorem cK224:check qPp 224=some (63,(We 231 232).strip,[]):=by kernel_rfl
theorem sK224:Sound qPp 224 (.own (uB 143 10000)):=by
  apply Jao (hc:=cK224) h82<;>first|exact qrS|skip
  all_goals decide
def L83:qLS:=(224,.own (uB 143 10000))::L82
theorem h83:qHL L83:=Za h82 sK224
theorem cK210:check qPp 210=some (9,(Qe 224).strip,[]):=by kernel_rfl
theorem sK210:Sound qPp 210 (.own (Yx 143 10000)):=by
  apply xah (hc:=cK210) h83<;>first|exact qrS|skip
  all_goals decide
def L84:qLS:=(210,.own (Yx 143 10000))::L83
theorem h84:qHL L84:=Za h83 sK210
theorem cK212:check qPp 212=some (7,(Zv 30).strip,[.tmp 2]):=by kernel_rfl
theorem sK212:Sound qPp 212 (.dat true QD):=by
  apply yaF (hc:=cK212) h84<;>first|exact qrS|skip
  all_goals decide
def L85:qLS:=(212,.dat true QD)::L84
theorem h85:qHL L85:=Za h84 sK212
theorem cK225:check qPp 225=some (19,qi.strip,[.tmp 4]):=by kernel_rfl
theorem sK225:Sound qPp 225 (.dat true (uF 212)):=by
  apply UaI (hc:=cK225) h85<;>first|exact qrS|skip
  all_goals decide
def L86:qLS:=(225,.dat true (uF 212))::L85
theorem h86:qHL L86:=Za h85 sK225
theorem cK211:check qPp 211=some (42,(Zd 225).strip,[.tmp 4]):=by kernel_rfl
theorem sK211:Sound qPp 211 (.own (XG 212)):=by
  apply yaI (hc:=cK211) h86<;>first|exact qrS|skip
  all_goals decide
def L87:qLS:=(211,.own (XG 212))::L86
theorem h87:qHL L87:=Za h86 sK211
theorem cK189:check qPp 189=some (60,(QB 190 210 143 25 211 212).strip,[.tmp 2]):=by kernel_rfl
theorem sK189:Sound qPp 189 (.dat false (vB 10000)):=by
  apply kaG (hc:=cK189) h87<;>first|exact qrS|skip
  all_goals decide
def L88:qLS:=(189,.dat false (vB 10000))::L87
theorem h88:qHL L88:=Za h87 sK189
theorem cK186:check qPp 186=some (28,(Zp 142 63 189 85).strip,[.tmp 2,.tmp 3]):=by kernel_rfl
theorem sK186:Sound qPp 186 (.dat false (Vz 85)):=by
  apply Qam (hc:=cK186) h88<;>first|exact qrS|skip
  all_goals decide
def L89:qLS:=(186,.dat false (Vz 85))::L88
theorem h89:qHL L89:=Za h88 sK186
theorem cK151:check qPp 151=some (17,vf.strip,[.tmp 6]):=by kernel_rfl
theorem sK151:Sound qPp 151 (.red Uq):=by
  apply Wam (hc:=cK151) h89<;>first|exact qrS|skip
  all_goals decide
def L90:qLS:=(151,.red Uq)::L89
theorem h90:qHL L90:=Za h89 sK151
theorem cK149:check qPp 149=some (21,(Ud 186 151).strip,[.tmp 8]):=by kernel_rfl
theorem sK149:Sound qPp 149 (.red ZG):=by
  apply kaF (hc:=cK149) h90<;>first|exact qrS|skip
  all_goals decide
def L91:qLS:=(149,.red ZG)::L90
theorem h91:qHL L91:=Za h90 sK149
theorem cK91:check qPp 91=some (48,(um 142 63 30 143 85).strip,[.tmp 2]):=by kernel_rfl
theorem sK91:Sound qPp 91 (.dat false (Xo 85)):=by
  apply uae (hc:=cK91) h91<;>first|exact qrS|skip
  all_goals decide
def L92:qLS:=(91,.dat false (Xo 85))::L91
theorem h92:qHL L92:=Za h91 sK91
theorem cK187:check qPp 187=some (18,(yr 91).strip,[.tmp 2]):=by kernel_rfl
theorem sK187:Sound qPp 187 (.dat false (kj 85)):=by
  apply xW (hc:=cK187) h92<;>first|exact qrS|skip
  all_goals decide
def L93:qLS:=(187,.dat false (kj 85))::L92
theorem h93:qHL L93:=Za h92 sK187
theorem cK188:check qPp 188=some (21,jl.strip,[.tmp 2]):=by kernel_rfl
theorem sK188:Sound qPp 188 (.dat true VG):=by
  apply WaJ (hc:=cK188) h93<;>first|exact qrS|skip
  all_goals decide
def L94:qLS:=(188,.dat true VG)::L93
theorem h94:qHL L94:=Za h93 sK188
theorem cK152:check qPp 152=some (71,(Jn 187 188 26 189 85).strip,[.tmp 4,.tmp 5]):=by kernel_rfl
theorem sK152:Sound qPp 152 (.dat false (yF 85)):=by
  apply xaJ (hc:=cK152) h94<;>first|exact qrS|skip
  all_goals decide
def L95:qLS:=(152,.dat false (yF 85))::L94
theorem h95:qHL L95:=Za h94 sK152
theorem cK98:check qPp 98=some (14,(Zg 152 151).strip,[.tmp 6]):=by kernel_rfl
theorem sK98:Sound qPp 98 (.red JC):=by
  apply YaH (hc:=cK98) h95<;>first|exact qrS|skip
  all_goals decide
def L96:qLS:=(98,.red JC)::L95
theorem h96:qHL L96:=Za h95 sK98
theorem cK213:check qPp 213=some (27,Wo.strip,[.tmp 4]):=by kernel_rfl
theorem sK213:Sound qPp 213 (.fresh 5 Xz):=by
  apply Zak (hc:=cK213) h96<;>first|exact qrS|skip
  all_goals decide
def L97:qLS:=(213,.fresh 5 Xz)::L96
theorem h97:qHL L97:=Za h96 sK213
theorem cK192:check qPp 192=some (36,(yl 213).strip,[.tmp 2]):=by kernel_rfl
theorem sK192:Sound qPp 192 (.fresh 5 xz):=by
  apply Zaj (hc:=cK192) h97<;>first|exact qrS|skip
  all_goals decide
def L98:qLS:=(192,.fresh 5 xz)::L97
theorem h98:qHL L98:=Za h97 sK192
theorem cK154:check qPp 154=some (19,(Qu 187 192 189).strip,[.tmp 4,.tmp 5]):=by kernel_rfl
theorem sK154:Sound qPp 154 (.dat false (wG 85)):=by
  apply waJ (hc:=cK154) h98<;>first|exact qrS|skip
  all_goals decide
def L99:qLS:=(154,.dat false (wG 85))::L98
theorem h99:qHL L99:=Za h98 sK154
theorem cK101:check qPp 101=some (14,(Vg 154 151).strip,[.tmp 6]):=by kernel_rfl
theorem sK101:Sound qPp 101 (.red JD):=by
  apply JaI (hc:=cK101) h99<;>first|exact qrS|skip
  all_goals decide
def L100:qLS:=(101,.red JD)::L99
theorem h100:qHL L100:=Za h99 sK101
theorem cK96:check qPp 96=some (54,(Vd 129 150 149 98 101).strip,[.cell 4 3 true]):=by kernel_rfl
theorem sK96:Sound qPp 96 (.red xH):=by
  apply xaF (hc:=cK96) h100<;>first|exact qrS|skip
  all_goals decide
def L101:qLS:=(96,.red xH)::L100
theorem h101:qHL L101:=Za h100 sK96
theorem cK191:check qPp 191=some (28,(xu 26).strip,[.tmp 4]):=by kernel_rfl
theorem sK191:Sound qPp 191 (.dat false JH):=by
  apply qaG (hc:=cK191) h101<;>first|exact qrS|skip
  all_goals decide
def L102:qLS:=(191,.dat false JH)::L101
theorem h102:qHL L102:=Za h101 sK191
theorem cK153:check qPp 153=some (21,(vt 187 190 27 191 189).strip,[.tmp 4,.tmp 5]):=by kernel_rfl
theorem sK153:Sound qPp 153 (.dat false (xF 85)):=by
  apply VaF (hc:=cK153) h102<;>first|exact qrS|skip
  all_goals decide
def L103:qLS:=(153,.dat false (xF 85))::L102
theorem h103:qHL L103:=Za h102 sK153
theorem cK100:check qPp 100=some (14,(uf 153 151).strip,[.tmp 6]):=by kernel_rfl
theorem sK100:Sound qPp 100 (.red yC):=by
  apply waI (hc:=cK100) h103<;>first|exact qrS|skip
  all_goals decide
def L104:qLS:=(100,.red yC)::L103
theorem h104:qHL L104:=Za h103 sK100
theorem cK97:check qPp 97=some (26,(ye 100).strip,[.cell 6 3 true]):=by kernel_rfl
theorem sK97:Sound qPp 97 (.red uA):=by
  apply Yam (hc:=cK97) h104<;>first|exact qrS|skip
  all_goals decide
def L105:qLS:=(97,.red uA)::L104
theorem h105:qHL L105:=Za h104 sK97
theorem cK99:check qPp 99=some (21,(qe 98 100).strip,[.tmp 6]):=by kernel_rfl
theorem sK99:Sound qPp 99 (.red jF):=by
  apply UaF (hc:=cK99) h105<;>first|exact qrS|skip
  all_goals decide
def L106:qLS:=(99,.red jF)::L105
theorem h106:qHL L106:=Za h105 sK99
theorem cK48:check qPp 48=some (87,(Yl 96 97 99 98 100 101).strip,[.tmp 2,.tmp 3]):=by kernel_rfl
theorem sK48:Sound qPp 48 (.dat false ZC):=by
  apply uaK (hc:=cK48) h106<;>first|exact qrS|skip
  all_goals decide
def L107:qLS:=(48,.dat false ZC)::L106
theorem h107:qHL L107:=Za h106 sK48
theorem cK31:check qPp 31=some (14,(Wg 46 48).strip,[.tmp 2,.tmp 3]):=by kernel_rfl
theorem sK31:Sound qPp 31 (.dat false (JG 85)):=by
  apply XaF (hc:=cK31) h107<;>first|exact qrS|skip
  all_goals decide
def L108:qLS:=(31,.dat false (JG 85))::L107
theorem h108:qHL L108:=Za h107 sK31
theorem cK47:check qPp 47=some (11,(Ye 63).strip,[.tmp 2]):=by kernel_rfl
theorem sK47:Sound qPp 47 (.dat true ke):=by
  apply YB (hc:=cK47) h108<;>first|exact qrS|skip
  all_goals decide
def L109:qLS:=(47,.dat true ke)::L108
theorem h109:qHL L109:=Za h108 sK47
theorem cK92:check qPp 92=some (34,(Yo 27 26 103 85).strip,[.cell 4 3 true,.tmp 5]):=by kernel_rfl
theorem sK92:Sound qPp 92 (.dat false (vF 85)):=by
  apply VaJ (hc:=cK92) h109<;>first|exact qrS|skip
  all_goals decide
def L110:qLS:=(92,.dat false (vF 85))::L109
theorem h110:qHL L110:=Za h109 sK92
theorem cK42:check qPp 42=some (59,(jp 91 92 26 25).strip,[.cell 6 3 true,.tmp 7]):=by kernel_rfl
theorem sK42:Sound qPp 42 (.dat false (Jx 85)):=by
  apply Vam (hc:=cK42) h110<;>first|exact qrS|skip
  all_goals decide
def L111:qLS:=(42,.dat false (Jx 85))::L110
theorem h111:qHL L111:=Za h110 sK42
theorem cK11:check qPp 11=some (44,(Xi 46 47 48 42 30 85).strip,[.tmp 4,.tmp 5]):=by kernel_rfl
theorem sK11:Sound qPp 11 (.dat false (vP 85)):=by
  apply waN (hc:=cK11) h111<;>first|exact qrS|skip
  all_goals decide
def L112:qLS:=(11,.dat false (vP 85))::L111
theorem h112:qHL L112:=Za h111 sK11
theorem cK75:check qPp 75=some (38,(Wp 129 26 102 25).strip,[.cell 4 6 true,.tmp 5]):=by kernel_rfl
theorem sK75:Sound qPp 75 (.dat false (jH 85)):=by
  apply QaF (hc:=cK75) h112<;>first|exact qrS|skip
  all_goals decide
def L113:qLS:=(75,.dat false (jH 85))::L112
theorem h113:qHL L113:=Za h112 sK75
theorem cK76:check qPp 76=some (16,(YD 25).strip,[.cell 4 6 true]):=by kernel_rfl
theorem sK76:Sound qPp 76 (.dat false Qo):=by
  apply qan (hc:=cK76) h113<;>first|exact qrS|skip
  all_goals decide
def L114:qLS:=(76,.dat false Qo)::L113
theorem h114:qHL L114:=Za h113 sK76
theorem cK29:check qPp 29=some (33,(Wn 73 74 75 76 85).strip,[.cell 4 6 true,.tmp 5]):=by kernel_rfl
theorem sK29:Sound qPp 29 (.dat false (VE 85)):=by
  apply YaF (hc:=cK29) h114<;>first|exact qrS|skip
  all_goals decide
def L115:qLS:=(29,.dat false (VE 85))::L114
theorem h115:qHL L115:=Za h114 sK29
theorem cK50:check qPp 50=some (16,(qp 102).strip,[.cell 4 6 true]):=by kernel_rfl
theorem sK50:Sound qPp 50 (.dat false qo):=by
  apply qK (hc:=cK50) h115<;>first|exact qrS|skip
  all_goals decide
def L116:qLS:=(50,.dat false qo)::L115
theorem h116:qHL L116:=Za h115 sK50
theorem cK49:check qPp 49=some (16,(xh 26 102).strip,[.cell 4 3 true]):=by kernel_rfl
theorem sK49:Sound qPp 49 (.dat false Qp):=by
  apply Jac (hc:=cK49) h116<;>first|exact qrS|skip
  all_goals decide
def L117:qLS:=(49,.dat false Qp)::L116
theorem h117:qHL L117:=Za h116 sK49
theorem cK52:check qPp 52=some (14,(Qi 26 25).strip,[.cell 2 3 true]):=by kernel_rfl
theorem sK52:Sound qPp 52 (.dat false qI):=by
  apply J9 (hc:=cK52) h117<;>first|exact qrS|skip
  all_goals decide
def L118:qLS:=(52,.dat false qI)::L117
theorem h118:qHL L118:=Za h117 sK52
theorem cK51:check qPp 51=some (71,(Zf 50 27 49 26 52 102 103 25).strip,[.cell 6 6 true,.tmp 7]):=by kernel_rfl
theorem sK51:Sound qPp 51 (.dat false (qG 85)):=by
  apply ZaG (hc:=cK51) h118<;>first|exact qrS|skip
  all_goals decide
def L119:qLS:=(51,.dat false (qG 85))::L118
theorem h119:qHL L119:=Za h118 sK51
theorem cK12:check qPp 12=some (124,(yf 11 29 50 49 30 51 52 85).strip,[.cell 4 15 true,.tmp 5]):=by kernel_rfl
theorem sK12:Sound qPp 12 (.dat false (vY 85)):=by
  apply Za1 (hc:=cK12) h119<;>first|exact qrS|skip
  all_goals decide
def L120:qLS:=(12,.dat false (vY 85))::L119
theorem h120:qHL L120:=Za h119 sK12
theorem cK218:check qPp 218=some (15,ub.strip,[.tmp 2]):=by kernel_rfl
theorem sK218:Sound qPp 218 (.dat false qs):=by
  apply Zaa (hc:=cK218) h120<;>first|exact qrS|skip
  all_goals decide
def L121:qLS:=(218,.dat false qs)::L120
theorem h121:qHL L121:=Za h120 sK218
theorem cK204:check qPp 204=some (54,(Wd 218 219 220 221).strip,[.tmp 4]):=by kernel_rfl
theorem sK204:Sound qPp 204 (.dat false qB):=by
  apply Yaj (hc:=cK204) h121<;>first|exact qrS|skip
  all_goals decide
def L122:qLS:=(204,.dat false qB)::L121
theorem h122:qHL L122:=Za h121 sK204
theorem cK179:check qPp 179=some (5,(xf 204).strip,[.tmp 2]):=by kernel_rfl
theorem sK179:Sound qPp 179 (.dat false Zo):=by
  apply Uaj (hc:=cK179) h122<;>first|exact qrS|skip
  all_goals decide
def L123:qLS:=(179,.dat false Zo)::L122
theorem h123:qHL L123:=Za h122 sK179
theorem cK145:check qPp 145=some (5,(Vv 179).strip,[.tmp 2]):=by kernel_rfl
theorem sK145:Sound qPp 145 (.dat false Zo):=by
  apply Yab (hc:=cK145) h123<;>first|exact qrS|skip
  all_goals decide
def L124:qLS:=(145,.dat false Zo)::L123
theorem h124:qHL L124:=Za h123 sK145
theorem cK147:check qPp 147=some (75,(Ju 182 183 185).strip,[.tmp 4]):=by kernel_rfl
theorem sK147:Sound qPp 147 (.dat false qA):=by
  apply jam (hc:=cK147) h124<;>first|exact qrS|skip
  all_goals decide
def L125:qLS:=(147,.dat false qA)::L124
theorem h125:qHL L125:=Za h124 sK147
theorem cK94:check qPp 94=some (44,(ku 120 144 145 146 147 121).strip,[.tmp 2]):=by kernel_rfl
theorem sK94:Sound qPp 94 (.dat false Ut):=by
  apply qaa (hc:=cK94) h125<;>first|exact qrS|skip
  all_goals decide
def L126:qLS:=(94,.dat false Ut)::L125
theorem h126:qHL L126:=Za h125 sK94
theorem cK44:check qPp 44=some (22,(Wl 66 71 93 94).strip,[.tmp 2]):=by kernel_rfl
theorem sK44:Sound qPp 44 (.dat false Us):=by
  apply Wad (hc:=cK44) h126<;>first|exact qrS|skip
  all_goals decide
def L127:qLS:=(44,.dat false Us)::L126
theorem h127:qHL L127:=Za h126 sK44
theorem cK8:check qPp 8=some (88,(uh 43 31 11 12 44).strip,[.tmp 0]):=by kernel_rfl
theorem sK8:Sound qPp 8 (.dat true vA):=by
  apply zaj (hc:=cK8) h127<;>first|exact qrS|skip
  all_goals decide
def L128:qLS:=(8,.dat true vA)::L127
theorem h128:qHL L128:=Za h127 sK8
theorem cK45:check qPp 45=some (40,Xh.strip,[.tmp 2]):=by kernel_rfl
theorem sK45:Sound qPp 45 (.dat true Yt):=by
  apply X8 (hc:=cK45) h128<;>first|exact qrS|skip
  all_goals decide
def L129:qLS:=(45,.dat true Yt)::L128
theorem h129:qHL L129:=Za h128 sK45
theorem cK9:check qPp 9=some (10,(yh 45).strip,[.tmp 2]):=by kernel_rfl
theorem sK9:Sound qPp 9 (.dat true Vt):=by
  apply Vad (hc:=cK9) h129<;>first|exact qrS|skip
  all_goals decide
def L130:qLS:=(9,.dat true Vt)::L129
theorem h130:qHL L130:=Za h129 sK9
theorem cK10:check qPp 10=some (35,Ze.strip,[.tmp 2]):=by kernel_rfl
theorem sK10:Sound qPp 10 (.dat true Qt):=by
  apply X3 (hc:=cK10) h130<;>first|exact qrS|skip
  all_goals decide
def L131:qLS:=(10,.dat true Qt)::L130
theorem h131:qHL L131:=Za h130 sK10
theorem cK20:check qPp 20=some (115,(xc 46 47 63 30 48 27 26 25 42 85).strip,[.tmp 4,.tmp 5]):=by kernel_rfl
theorem sK20:Sound qPp 20 (.dat false (Zn 85)):=by
  apply Z2 (hc:=cK20) h131<;>first|exact qrS|skip
  all_goals decide
def L132:qLS:=(20,.dat false (Zn 85))::L131
theorem h132:qHL L132:=Za h131 sK20
theorem cK85:check qPp 85=some (15,vh.strip,[.tmp 2]):=by kernel_rfl
theorem sK85:Sound qPp 85 (.dat true yt):=by
  apply JP (hc:=cK85) h132<;>first|exact qrS|skip
  all_goals decide
def L133:qLS:=(85,.dat true yt)::L132
theorem h133:qHL L133:=Za h132 sK85
theorem cK114:check qPp 114=some (38,(Yk 140 157 161 138 162 163).strip,[.cell 4 2 true]):=by kernel_rfl
theorem sK114:Sound qPp 114 (.dat false Wy):=by
  apply Zae (hc:=cK114) h133<;>first|exact qrS|skip
  all_goals decide
def L134:qLS:=(114,.dat false Wy)::L133
theorem h134:qHL L134:=Za h133 sK114
theorem cK137:check qPp 137=some (9,(yk 158 114).strip,[.cell 4 2 true]):=by kernel_rfl
theorem sK137:Sound qPp 137 (.dat false QF):=by
  apply Vag (hc:=cK137) h134<;>first|exact qrS|skip
  all_goals decide
def L135:qLS:=(137,.dat false QF)::L134
theorem h135:qHL L135:=Za h134 sK137
theorem cK86:check qPp 86=some (9,(kk 137 110).strip,[.tmp 4]):=by kernel_rfl
theorem sK86:Sound qPp 86 (.dat true Ys):=by
  apply vae (hc:=cK86) h135<;>first|exact qrS|skip
  all_goals decide
def L136:qLS:=(86,.dat true Ys)::L135
theorem h136:qHL L136:=Za h135 sK86
theorem cK37:check qPp 37=some (36,(qh 85 87 88 86).strip,[.tmp 2]):=by kernel_rfl
theorem sK37:Sound qPp 37 (.dat true wd):=by
  apply VP (hc:=cK37) h136<;>first|exact qrS|skip
  all_goals decide
def L137:qLS:=(37,.dat true wd)::L136
theorem h137:qHL L137:=Za h136 sK37
theorem cK109:check qPp 109=some (23,(wh 37 88).strip,[.cell 2 2 true,.cell 3 2 true]):=by kernel_rfl
theorem sK109:Sound qPp 109 (.dat false Ve):=by
  apply kP (hc:=cK109) h137<;>first|exact qrS|skip
  all_goals decide
def L138:qLS:=(109,.dat false Ve)::L137
theorem h138:qHL L138:=Za h137 sK109
theorem cK59:check qPp 59=some (12,(Jl 109 110).strip,[.tmp 2]):=by kernel_rfl
theorem sK59:Sound qPp 59 (.dat true Yh):=by
  apply kL (hc:=cK59) h138<;>first|exact qrS|skip
  all_goals decide
def L139:qLS:=(59,.dat true Yh)::L138
theorem h139:qHL L139:=Za h138 sK59
theorem cK18:check qPp 18=some (6,(qj 59).strip,[.tmp 2]):=by kernel_rfl
theorem sK18:Sound qPp 18 (.dat true Qx):=by
  apply kan (hc:=cK18) h139<;>first|exact qrS|skip
  all_goals decide
def L140:qLS:=(18,.dat true Qx)::L139
theorem h140:qHL L140:=Za h139 sK18
theorem cK117:check qPp 117=some (16,(uc 37 18).strip,[.tmp 2]):=by kernel_rfl
theorem sK117:Sound qPp 117 (.dat true Zt):=by
  apply Z4 (hc:=cK117) h140<;>first|exact qrS|skip
  all_goals decide
def L141:qLS:=(117,.dat true Zt)::L140
theorem h141:qHL L141:=Za h140 sK117
theorem cK14:check qPp 14=some (11,(Ye 37).strip,[.tmp 2]):=by kernel_rfl
theorem sK14:Sound qPp 14 (.dat true ke):=by
  apply YB (hc:=cK14) h141<;>first|exact qrS|skip
  all_goals decide
def L142:qLS:=(14,.dat true ke)::L141
theorem h142:qHL L142:=Za h141 sK14
theorem cK65:check qPp 65=some (11,(ve 117 14).strip,[.tmp 2]):=by kernel_rfl
theorem sK65:Sound qPp 65 (.dat true zw):=by
  apply kaj (hc:=cK65) h142<;>first|exact qrS|skip
  all_goals decide
def L143:qLS:=(65,.dat true zw)::L142
theorem h143:qHL L143:=Za h142 sK65
theorem cK53:check qPp 53=some (23,(Uh 65).strip,[.tmp 2]):=by kernel_rfl
theorem sK53:Sound qPp 53 (.dat true ZA):=by
  apply Jaj (hc:=cK53) h143<;>first|exact qrS|skip
  all_goals decide
def L144:qLS:=(53,.dat true ZA)::L143
theorem h144:qHL L144:=Za h143 sK53
theorem cK13:check qPp 13=some (12,(vd 53).strip,[.tmp 2]):=by kernel_rfl
theorem sK13:Sound qPp 13 (.dat true yA):=by
  apply Yao (hc:=cK13) h144<;>first|exact qrS|skip
  all_goals decide
def L145:qLS:=(13,.dat true yA)::L144
theorem h145:qHL L145:=Za h144 sK13
theorem cK21:check qPp 21=some (37,(Uc 14 37 59).strip,[.tmp 2]):=by kernel_rfl
theorem sK21:Sound qPp 21 (.dat true QA):=by
  apply Wai (hc:=cK21) h145<;>first|exact qrS|skip
  all_goals decide
def L146:qLS:=(21,.dat true QA)::L145
theorem h146:qHL L146:=Za h145 sK21
theorem cK15:check qPp 15=some (15,(Yg 85).strip,[.tmp 2]):=by kernel_rfl
theorem sK15:Sound qPp 15 (.dat true (JF 85)):=by
  apply jaJ (hc:=cK15) h146<;>first|exact qrS|skip
  all_goals decide
def L147:qLS:=(15,.dat true (JF 85))::L146
theorem h147:qHL L147:=Za h146 sK15
theorem cK160:check qPp 160=some (68,(kh 171).strip,[.tmp 4]):=by kernel_rfl
theorem sK160:Sound qPp 160 (.dat false zr):=by
  apply U2 (hc:=cK160) h147<;>first|exact qrS|skip
  all_goals decide
def L148:qLS:=(160,.dat false zr)::L147
theorem h148:qHL L148:=Za h147 sK160
theorem cK113:check qPp 113=some (16,(Uo 157 140 160 138).strip,[.cell 4 2 true]):=by kernel_rfl
theorem sK113:Sound qPp 113 (.dat false qw):=by
  apply JV (hc:=cK113) h148<;>first|exact qrS|skip
  all_goals decide
def L149:qLS:=(113,.dat false qw)::L148
theorem h149:qHL L149:=Za h148 sK113
theorem cK61:check qPp 61=some (26,(km 109 113 112).strip,[.cell 4 3 true]):=by kernel_rfl
theorem sK61:Sound qPp 61 (.dat false vi):=by
  apply uT (hc:=cK61) h149<;>first|exact qrS|skip
  all_goals decide
def L150:qLS:=(61,.dat false vi)::L149
theorem h150:qHL L150:=Za h149 sK61
theorem cK62:check qPp 62=some (30,(jn 109 113 114 112).strip,[.cell 4 3 true]):=by kernel_rfl
theorem sK62:Sound qPp 62 (.dat false yi):=by
  apply QQ (hc:=cK62) h150<;>first|exact qrS|skip
  all_goals decide
def L151:qLS:=(62,.dat false yi)::L150
theorem h151:qHL L151:=Za h150 sK62
theorem cK64:check qPp 64=some (26,(Ul 83 61 62).strip,[.cell 6 6 true]):=by kernel_rfl
theorem sK64:Sound qPp 64 (.dat false xA):=by
  apply van (hc:=cK64) h151<;>first|exact qrS|skip
  all_goals decide
def L152:qLS:=(64,.dat false xA)::L151
theorem h152:qHL L152:=Za h151 sK64
theorem cK111:check qPp 111=some (14,(Xm 109 158 112).strip,[.cell 2 3 true]):=by kernel_rfl
theorem sK111:Sound qPp 111 (.dat false kB):=by
  apply qR (hc:=cK111) h152<;>first|exact qrS|skip
  all_goals decide
def L153:qLS:=(111,.dat false kB)::L152
theorem h153:qHL L153:=Za h152 sK111
theorem cK60:check qPp 60=some (9,(Vm 111 62).strip,[.cell 4 3 true]):=by kernel_rfl
theorem sK60:Sound qPp 60 (.dat false Wq):=by
  apply YQ (hc:=cK60) h153<;>first|exact qrS|skip
  all_goals decide
def L154:qLS:=(60,.dat false Wq)::L153
theorem h154:qHL L154:=Za h153 sK60
theorem cK156:check qPp 156=some (13,(Vj 110 112).strip,[.cell 4 3 true,.tmp 5]):=by kernel_rfl
theorem sK156:Sound qPp 156 (.dat false kt):=by
  apply Z5 (hc:=cK156) h154<;>first|exact qrS|skip
  all_goals decide
def L155:qLS:=(156,.dat false kt)::L154
theorem h155:qHL L155:=Za h154 sK156
theorem cK107:check qPp 107=some (29,(vk 109 113 156).strip,[.cell 4 3 true,.tmp 5]):=by kernel_rfl
theorem sK107:Sound qPp 107 (.dat false JB):=by
  apply wah (hc:=cK107) h155<;>first|exact qrS|skip
  all_goals decide
def L156:qLS:=(107,.dat false JB)::L155
theorem h156:qHL L156:=Za h155 sK107
theorem cK170:check qPp 170=some (14,(Vi 107).strip,[.cell 4 3 true]):=by kernel_rfl
theorem sK170:Sound qPp 170 (.dat false jr):=by
  apply X6 (hc:=cK170) h156<;>first|exact qrS|skip
  all_goals decide
def L157:qLS:=(170,.dat false jr)::L156
theorem h157:qHL L157:=Za h156 sK170
theorem cK132:check qPp 132=some (32,(Yf 83 61 62 60 170).strip,[.cell 2 3 true,.cell 3 3 true]):=by kernel_rfl
theorem sK132:Sound qPp 132 (.dat false uy):=by
  apply vS (hc:=cK132) h157<;>first|exact qrS|skip
  all_goals decide
def L158:qLS:=(132,.dat false uy)::L157
theorem h158:qHL L158:=Za h157 sK132
theorem cK136:check qPp 136=some (31,(yg 132 61 60 62).strip,[.cell 4 6 true]):=by kernel_rfl
theorem sK136:Sound qPp 136 (.dat false XF):=by
  apply waH (hc:=cK136) h158<;>first|exact qrS|skip
  all_goals decide
def L159:qLS:=(136,.dat false XF)::L158
theorem h159:qHL L159:=Za h158 sK136
theorem cK108:check qPp 108=some (16,(Wx 62).strip,[.cell 4 6 true]):=by kernel_rfl
theorem sK108:Sound qPp 108 (.dat false Qo):=by
  apply qak (hc:=cK108) h159<;>first|exact qrS|skip
  all_goals decide
def L160:qLS:=(108,.dat false Qo)::L159
theorem h160:qHL L160:=Za h159 sK108
theorem cK105:check qPp 105=some (12,(Jh 136 108).strip,[.cell 4 6 true]):=by kernel_rfl
theorem sK105:Sound qPp 105 (.dat false YH):=by
  apply uaJ (hc:=cK105) h160<;>first|exact qrS|skip
  all_goals decide
def L161:qLS:=(105,.dat false YH)::L160
theorem h161:qHL L161:=Za h160 sK105
theorem cK55:check qPp 55=some (22,(Qg 105).strip,[.tmp 4]):=by kernel_rfl
theorem sK55:Sound qPp 55 (.dat false Vn):=by
  apply JZ (hc:=cK55) h161<;>first|exact qrS|skip
  all_goals decide
def L162:qLS:=(55,.dat false Vn)::L161
theorem h162:qHL L162:=Za h161 sK55
theorem cK58:check qPp 58=some (16,(qp 60).strip,[.cell 4 6 true]):=by kernel_rfl
theorem sK58:Sound qPp 58 (.dat false qo):=by
  apply qK (hc:=cK58) h162<;>first|exact qrS|skip
  all_goals decide
def L163:qLS:=(58,.dat false qo)::L162
theorem h163:qHL L163:=Za h162 sK58
theorem cK57:check qPp 57=some (14,(Qi 61 62).strip,[.cell 2 3 true]):=by kernel_rfl
theorem sK57:Sound qPp 57 (.dat false qI):=by
  apply J9 (hc:=cK57) h163<;>first|exact qrS|skip
  all_goals decide
def L164:qLS:=(57,.dat false qI)::L163
theorem h164:qHL L164:=Za h163 sK57
theorem cK19:check qPp 19=some (83,(jh 55 58 57 60 61 62).strip,[.cell 4 3 true]):=by kernel_rfl
theorem sK19:Sound qPp 19 (.dat false kF):=by
  apply xaK (hc:=cK19) h164<;>first|exact qrS|skip
  all_goals decide
def L165:qLS:=(19,.dat false kF)::L164
theorem h165:qHL L165:=Za h164 sK19
theorem cK22:check qPp 22=some (34,(Jg 64 19 18).strip,[.tmp 4]):=by kernel_rfl
theorem sK22:Sound qPp 22 (.dat false kn):=by
  apply Z1 (hc:=cK22) h165<;>first|exact qrS|skip
  all_goals decide
def L166:qLS:=(22,.dat false kn)::L165
theorem h166:qHL L166:=Za h165 sK22
theorem cK104:check qPp 104=some (26,Qj.strip,[.tmp 4]):=by kernel_rfl
theorem sK104:Sound qPp 104 (.dat true Zu):=by
  apply jaf (hc:=cK104) h166<;>first|exact qrS|skip
  all_goals decide
def L167:qLS:=(104,.dat true Zu)::L166
theorem h167:qHL L167:=Za h166 sK104
theorem cK54:check qPp 54=some (24,(qm 104).strip,[.tmp 4]):=by kernel_rfl
theorem sK54:Sound qPp 54 (.dat true xG):=by
  apply WaK (hc:=cK54) h167<;>first|exact qrS|skip
  all_goals decide
def L168:qLS:=(54,.dat true xG)::L167
theorem h168:qHL L168:=Za h167 sK54
theorem cK23:check qPp 23=some (17,(zf 54).strip,[.tmp 4]):=by kernel_rfl
theorem sK23:Sound qPp 23 (.dat true jz):=by
  apply xam (hc:=cK23) h168<;>first|exact qrS|skip
  all_goals decide
def L169:qLS:=(23,.dat true jz)::L168
theorem h169:qHL L169:=Za h168 sK23
theorem cK4:check qPp 4=some (79,(Qb 8 9 10 20 13 21 15 22 23).strip,[.tmp 4]):=by kernel_rfl
theorem sK4:Sound qPp 4 (.dat true qf):=by
  apply qJ (hc:=cK4) h169<;>first|exact qrS|skip
  all_goals decide
def L170:qLS:=(4,.dat true qf)::L169
theorem h170:qHL L170:=Za h169 sK4
theorem hold:qHL L170:=h170
end Go.Abs
