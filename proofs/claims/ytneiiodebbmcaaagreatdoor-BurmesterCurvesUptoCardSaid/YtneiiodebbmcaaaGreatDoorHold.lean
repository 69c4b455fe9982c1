/-
  The contracts of this seat's functions, gathered.
-/
import Derived.Test.YtneiiodebbmcaaaGreatDoorChecked
import Derived.Test.YtneiiodebbmcaaaGreatDoorBits
import Derived.KernelRfl
import Derived.Test.YtneiiodebbmcaaaGreatDoorM16
set_option maxRecDepth 100000
set_option linter.unusedVariables false
namespace Go.Abs
open Go.Proofs
noncomputable abbrev qPp:=Tryz.prog
abbrev qLS:=List (Nat×Spec)
abbrev qHL(l:qLS):=Xa qPp (Gl l)
theorem qrS{a:Spec}:a=a:=rfl
theorem cK171:check qPp 171=some (25,Ze.strip,[.tmp 2]):=by kernel_rfl
def L1:qLS:=(171,.fresh 1 UA)::[]
theorem h1:qHL L1:=Za Qal (by
  apply jaQ (hc:=cK171) Qal<;>first|exact qrS|skip
  all_goals decide)
theorem cK138:check qPp 138=some (14,(Vj 171).strip,[.cell 4 2 true]):=by kernel_rfl
def L2:qLS:=(138,.dat false Vi)::L1
theorem h2:qHL L2:=Za h1 (by
  apply waj (hc:=cK138) h1<;>first|exact qrS|skip
  all_goals decide)
theorem cK134:check qPp 134=some (19,(Xu 138).strip,[.cell 2 2 true]):=by kernel_rfl
def L3:qLS:=(134,.dat false YU)::L2
theorem h3:qHL L3:=Za h2 (by
  apply vae (hc:=cK134) h2<;>first|exact qrS|skip
  all_goals decide)
theorem cK88:check qPp 88=some (2,(yo 134).strip,[.cell 0 2 true]):=by kernel_rfl
def L4:qLS:=(88,.dat false vv)::L3
theorem h4:qHL L4:=Za h3 (by
  apply Z1 (hc:=cK88) h3<;>first|exact qrS|skip
  all_goals decide)
theorem cK175:check qPp 175=some (19,zn.strip,[.tmp 2]):=by kernel_rfl
def L5:qLS:=(175,.dat true Xp)::L4
theorem h5:qHL L5:=Za h4 (by
  apply uL (hc:=cK175) h4<;>first|exact qrS|skip
  all_goals decide)
theorem cK140:check qPp 140=some (8,(Vr 175).strip,[.tmp 2]):=by kernel_rfl
def L6:qLS:=(140,.dat false zo)::L5
theorem h6:qHL L6:=Za h5 (by
  apply YW (hc:=cK140) h5<;>first|exact qrS|skip
  all_goals decide)
theorem cK157:check qPp 157=some (9,(zr 175).strip,[.tmp 2]):=by kernel_rfl
def L7:qLS:=(157,.dat true Uj)::L6
theorem h7:qHL L7:=Za h6 (by
  apply QU (hc:=cK157) h6<;>first|exact qrS|skip
  all_goals decide)
theorem cK110:check qPp 110=some (9,(vj 140 157).strip,[.tmp 2]):=by kernel_rfl
def L8:qLS:=(110,.dat true zk)::L7
theorem h8:qHL L8:=Za h7 (by
  apply J6 (hc:=cK110) h7<;>first|exact qrS|skip
  all_goals decide)
theorem cK158:check qPp 158=some (9,(jr 157 140 138).strip,[.cell 2 2 true]):=by kernel_rfl
def L9:qLS:=(158,.dat false VC)::L8
theorem h9:qHL L9:=Za h8 (by
  apply QV (hc:=cK158) h8<;>first|exact qrS|skip
  all_goals decide)
theorem cK194:check qPp 194=some (14,Jo.strip,[.tmp 4]):=by kernel_rfl
def L10:qLS:=(194,.dat true Qq)::L9
theorem h10:qHL L10:=Za h9 (by
  apply V3 (hc:=cK194) h9<;>first|exact qrS|skip
  all_goals decide)
theorem cK174:check qPp 174=some (21,Xl.strip,[.tmp 2]):=by kernel_rfl
def L11:qLS:=(174,.own qau)::L10
theorem h11:qHL L11:=Za h10 (by
  apply Za8 (hc:=cK174) h10<;>first|exact qrS|skip
  all_goals decide)
theorem cK172:check qPp 172=some (26,(zj 194 174).strip,[.tmp 2]):=by kernel_rfl
def L12:qLS:=(172,.own uv)::L11
theorem h12:qHL L12:=Za h11 (by
  apply Zav (hc:=cK172) h11<;>first|exact qrS|skip
  all_goals decide)
theorem cK162:check qPp 162=some (30,(qh 194).strip,[.tmp 4]):=by kernel_rfl
def L13:qLS:=(162,.dat true Uy)::L12
theorem h13:qHL L13:=Za h12 (by
  apply zas (hc:=cK162) h12<;>first|exact qrS|skip
  all_goals decide)
theorem cK173:check qPp 173=some (31,(Xf 194).strip,[]):=by kernel_rfl
def L14:qLS:=(173,.own wC)::L13
theorem h14:qHL L14:=Za h13 (by
  apply XaP (hc:=cK173) h13<;>first|exact qrS|skip
  all_goals decide)
theorem cK161:check qPp 161=some (37,(Wj 194 171).strip,[.tmp 4]):=by kernel_rfl
def L15:qLS:=(161,.dat false qy)::L14
theorem h15:qHL L15:=Za h14 (by
  apply yai (hc:=cK161) h14<;>first|exact qrS|skip
  all_goals decide)
theorem cK139:check qPp 139=some (72,(Zm 171 172 162 173 174 161).strip,[.tmp 4]):=by kernel_rfl
def L16:qLS:=(139,.dat false JD)::L15
theorem h16:qHL L16:=Za h15 (by
  apply kao (hc:=cK139) h15<;>first|exact qrS|skip
  all_goals decide)
theorem cK87:check qPp 87=some (11,(qm 140 139 138).strip,[.cell 4 2 true]):=by kernel_rfl
def L17:qLS:=(87,.dat false yA)::L16
theorem h17:qHL L17:=Za h16 (by
  apply xan (hc:=cK87) h16<;>first|exact qrS|skip
  all_goals decide)
theorem cK214:check qPp 214=some (25,yj.strip,[.tmp 2]):=by kernel_rfl
def L18:qLS:=(214,.dat true xw)::L17
theorem h18:qHL L18:=Za h17 (by
  apply Wai (hc:=cK214) h17<;>first|exact qrS|skip
  all_goals decide)
theorem cK193:check qPp 193=some (76,(jh 214 162 173 171).strip,[.tmp 4,.tmp 5]):=by kernel_rfl
def L19:qLS:=(193,.dat false Jn)::L18
theorem h19:qHL L19:=Za h18 (by
  apply qV (hc:=cK193) h18<;>first|exact qrS|skip
  all_goals decide)
theorem cK163:check qPp 163=some (35,(Yi 194 171).strip,[.tmp 4]):=by kernel_rfl
def L20:qLS:=(163,.dat false uA)::L19
theorem h20:qHL L20:=Za h19 (by
  apply Waa (hc:=cK163) h19<;>first|exact qrS|skip
  all_goals decide)
theorem cK159:check qPp 159=some (45,(ul 110 140 193 157 161 163 138).strip,[.cell 4 2 true,.cell 5 2 true,.tmp 6]):=by kernel_rfl
def L21:qLS:=(159,.dat false Yw)::L20
theorem h21:qHL L21:=Za h20 (by
  apply xai (hc:=cK159) h20<;>first|exact qrS|skip
  all_goals decide)
theorem cK112:check qPp 112=some (47,(wj 110 158 87 159).strip,[.cell 4 3 true]):=by kernel_rfl
def L22:qLS:=(112,.dat false xn)::L21
theorem h22:qHL L22:=Za h21 (by
  apply Vac (hc:=cK112) h21<;>first|exact qrS|skip
  all_goals decide)
theorem cK83:check qPp 83=some (7,(Yr 134 88 112).strip,[.cell 2 3 true]):=by kernel_rfl
def L23:qLS:=(83,.dat false XE)::L22
theorem h23:qHL L23:=Za h22 (by
  apply vak (hc:=cK83) h22<;>first|exact qrS|skip
  all_goals decide)
theorem cK43:check qPp 43=some (18,(xi 83).strip,[.tmp 2]):=by kernel_rfl
def L24:qLS:=(43,.dat false YN)::L23
theorem h24:qHL L24:=Za h23 (by
  apply UaP (hc:=cK43) h23<;>first|exact qrS|skip
  all_goals decide)
theorem cK115:check qPp 115=some (19,zn.strip,[.tmp 2]):=by kernel_rfl
def L25:qLS:=(115,.dat true Xp)::L24
theorem h25:qHL L25:=Za h24 (by
  apply uL (hc:=cK115) h24<;>first|exact qrS|skip
  all_goals decide)
theorem cK120:check qPp 120=some (8,(Vr 115).strip,[.tmp 2]):=by kernel_rfl
def L26:qLS:=(120,.dat false zo)::L25
theorem h26:qHL L26:=Za h25 (by
  apply YW (hc:=cK120) h25<;>first|exact qrS|skip
  all_goals decide)
theorem cK124:check qPp 124=some (41,xo.strip,[.tmp 4]):=by kernel_rfl
def L27:qLS:=(124,.dat false Wm)::L26
theorem h27:qHL L27:=Za h26 (by
  apply J8 (hc:=cK124) h26<;>first|exact qrS|skip
  all_goals decide)
theorem cK165:check qPp 165=some (25,Wv.strip,[.tmp 2]):=by kernel_rfl
def L28:qLS:=(165,.dat false qx)::L27
theorem h28:qHL L28:=Za h27 (by
  apply WaR (hc:=cK165) h27<;>first|exact qrS|skip
  all_goals decide)
theorem cK144:check qPp 144=some (43,(Jt 165).strip,[.tmp 4,.tmp 5]):=by kernel_rfl
def L29:qLS:=(144,.dat false vC)::L28
theorem h29:qHL L29:=Za h28 (by
  apply yar (hc:=cK144) h28<;>first|exact qrS|skip
  all_goals decide)
theorem sK195:ua qPp 195 (.dat true lz_G):=Ya8 (jA Tryz.func195 (by kernel_rfl) (by kernel_rfl)) XbC kbO Tryz.bits_LeadingZeros32
def L30:qLS:=(195,.dat true lz_G)::L29
theorem h30:qHL L30:=Za h29 sK195
theorem cK196:check qPp 196=some (41,ZB.strip,[.tmp 4]):=by kernel_rfl
def L31:qLS:=(196,.fresh 1 up_G)::L30
theorem h31:qHL L31:=Za h30 (by
  apply Vbo (hc:=cK196) h30<;>first|exact qrS|skip
  all_goals decide)
theorem cK166:check qPp 166=some (14,Jo.strip,[.tmp 4]):=by kernel_rfl
def L32:qLS:=(166,.dat true Qq)::L31
theorem h32:qHL L32:=Za h31 (by
  apply V3 (hc:=cK166) h31<;>first|exact qrS|skip
  all_goals decide)
theorem cK197:check qPp 197=some (46,(Yq 166).strip,[.tmp 6]):=by kernel_rfl
def L33:qLS:=(197,.own Xw)::L32
theorem h33:qHL L33:=Za h32 (by
  apply wam (hc:=cK197) h32<;>first|exact qrS|skip
  all_goals decide)
theorem cK198:check qPp 198=some (30,(kw 166).strip,[]):=by kernel_rfl
def L34:qLS:=(198,.own ZN)::L33
theorem h34:qHL L34:=Za h33 (by
  apply yaQ (hc:=cK198) h33<;>first|exact qrS|skip
  all_goals decide)
theorem cK199:check qPp 199=some (35,(Uv 166 165).strip,[.tmp 4]):=by kernel_rfl
def L35:qLS:=(199,.dat false zM)::L34
theorem h35:qHL L35:=Za h34 (by
  apply JaQ (hc:=cK199) h34<;>first|exact qrS|skip
  all_goals decide)
theorem cK164:check qPp 164=some (158,(Ql 124 165 144 195 196 197 198 199).strip,[.tmp 4,.tmp 5]):=by kernel_rfl
def L36:qLS:=(164,.dat false Jn)::L35
theorem h36:qHL L36:=Za h35 (by
  apply Jaf (hc:=cK164) h35<;>first|exact qrS|skip
  all_goals decide)
theorem cK122:check qPp 122=some (15,(kt 165).strip,[.cell 4 2 true]):=by kernel_rfl
def L37:qLS:=(122,.dat false Vi)::L36
theorem h37:qHL L37:=Za h36 (by
  apply Uar (hc:=cK122) h36<;>first|exact qrS|skip
  all_goals decide)
theorem cK116:check qPp 116=some (26,(qz 120 164 122).strip,[.cell 4 2 true]):=by kernel_rfl
def L38:qLS:=(116,.dat false yA)::L37
theorem h38:qHL L38:=Za h37 (by
  apply zaN (hc:=cK116) h37<;>first|exact qrS|skip
  all_goals decide)
theorem cK70:check qPp 70=some (19,(Xu 122).strip,[.cell 2 2 true]):=by kernel_rfl
def L39:qLS:=(70,.dat false YU)::L38
theorem h39:qHL L39:=Za h38 (by
  apply vae (hc:=cK70) h38<;>first|exact qrS|skip
  all_goals decide)
theorem cK71:check qPp 71=some (2,(yo 70).strip,[.cell 0 2 true]):=by kernel_rfl
def L40:qLS:=(71,.dat false vv)::L39
theorem h40:qHL L40:=Za h39 (by
  apply Z1 (hc:=cK71) h39<;>first|exact qrS|skip
  all_goals decide)
theorem cK77:check qPp 77=some (11,(Zv 120).strip,[.tmp 2]):=by kernel_rfl
def L41:qLS:=(77,.dat true zk)::L40
theorem h41:qHL L41:=Za h40 (by
  apply uar (hc:=cK77) h40<;>first|exact qrS|skip
  all_goals decide)
theorem cK121:check qPp 121=some (9,(zr 115).strip,[.tmp 2]):=by kernel_rfl
def L42:qLS:=(121,.dat true Uj)::L41
theorem h42:qHL L42:=Za h41 (by
  apply QU (hc:=cK121) h41<;>first|exact qrS|skip
  all_goals decide)
theorem cK93:check qPp 93=some (28,(Wz 77 120 124 121).strip,[.tmp 4]):=by kernel_rfl
def L43:qLS:=(93,.dat true WJ)::L42
theorem h43:qHL L43:=Za h42 (by
  apply ZaP (hc:=cK93) h42<;>first|exact qrS|skip
  all_goals decide)
theorem cK63:check qPp 63=some (50,(jq 115 116 71 93).strip,[.tmp 2]):=by kernel_rfl
def L44:qLS:=(63,.dat true qf)::L43
theorem h44:qHL L44:=Za h43 (by
  apply Vai (hc:=cK63) h43<;>first|exact qrS|skip
  all_goals decide)
theorem cK66:check qPp 66=some (28,(Xq 63 71).strip,[.cell 2 2 true,.cell 3 2 true]):=by kernel_rfl
def L45:qLS:=(66,.dat false kg)::L44
theorem h45:qHL L45:=Za h44 (by
  apply qaj (hc:=cK66) h44<;>first|exact qrS|skip
  all_goals decide)
theorem cK30:check qPp 30=some (12,(jn 66 77).strip,[.tmp 2]):=by kernel_rfl
def L46:qLS:=(30,.dat true yn)::L45
theorem h46:qHL L46:=Za h45 (by
  apply JS (hc:=cK30) h45<;>first|exact qrS|skip
  all_goals decide)
theorem cK128:check qPp 128=some (18,(yk 63 30 85).strip,[.tmp 2]):=by kernel_rfl
def L47:qLS:=(128,.dat false (Qn 85))::L46
theorem h47:qHL L47:=Za h46 (by
  apply Zal (hc:=cK128) h46<;>first|exact qrS|skip
  all_goals decide)
theorem cK74:check qPp 74=some (11,(kf 63).strip,[.tmp 2]):=by kernel_rfl
def L48:qLS:=(74,.dat true Uk)::L47
theorem h48:qHL L48:=Za h47 (by
  apply YE (hc:=cK74) h47<;>first|exact qrS|skip
  all_goals decide)
theorem cK73:check qPp 73=some (12,(Yu 128 74).strip,[.tmp 2]):=by kernel_rfl
def L49:qLS:=(73,.dat true vA)::L48
theorem h49:qHL L49:=Za h48 (by
  apply XaN (hc:=cK73) h48<;>first|exact qrS|skip
  all_goals decide)
theorem cK148:check qPp 148=some (16,(yy 73 85).strip,[.tmp 2]):=by kernel_rfl
def L50:qLS:=(148,.dat false (kL 85))::L49
theorem h50:qHL L50:=Za h49 (by
  apply ZaS (hc:=cK148) h49<;>first|exact qrS|skip
  all_goals decide)
theorem cK95:check qPp 95=some (13,(Qz 148 85).strip,[.tmp 2]):=by kernel_rfl
def L51:qLS:=(95,.dat false (vN 85))::L50
theorem h51:qHL L51:=Za h50 (by
  apply kaN (hc:=cK95) h50<;>first|exact qrS|skip
  all_goals decide)
theorem cK46:check qPp 46=some (13,(Uf 95 85).strip,[.tmp 2]):=by kernel_rfl
def L52:qLS:=(46,.dat false (zD 85))::L51
theorem h52:qHL L52:=Za h51 (by
  apply WaM (hc:=cK46) h51<;>first|exact qrS|skip
  all_goals decide)
theorem cK118:check qPp 118=some (9,(jr 121 120 122).strip,[.cell 2 2 true]):=by kernel_rfl
def L53:qLS:=(118,.dat false VC)::L52
theorem h53:qHL L53:=Za h52 (by
  apply QV (hc:=cK118) h52<;>first|exact qrS|skip
  all_goals decide)
theorem cK123:check qPp 123=some (39,(Jv 166 165).strip,[.tmp 4]):=by kernel_rfl
def L54:qLS:=(123,.dat false qy)::L53
theorem h54:qHL L54:=Za h53 (by
  apply kaM (hc:=cK123) h53<;>first|exact qrS|skip
  all_goals decide)
theorem cK125:check qPp 125=some (38,(jv 166 165).strip,[.tmp 4]):=by kernel_rfl
def L55:qLS:=(125,.dat false uA)::L54
theorem h55:qHL L55:=Za h54 (by
  apply jaS (hc:=cK125) h54<;>first|exact qrS|skip
  all_goals decide)
theorem cK119:check qPp 119=some (47,(yz 120 164 121 123 125 122 85).strip,[.cell 4 2 true,.cell 5 2 true,.tmp 6]):=by kernel_rfl
def L56:qLS:=(119,.dat false xN)::L55
theorem h56:qHL L56:=Za h55 (by
  apply qaR (hc:=cK119) h55<;>first|exact qrS|skip
  all_goals decide)
theorem cK67:check qPp 67=some (47,(Zt 77 118 116 119).strip,[.cell 4 3 true]):=by kernel_rfl
def L57:qLS:=(67,.dat false xn)::L56
theorem h57:qHL L57:=Za h56 (by
  apply Zao (hc:=cK67) h56<;>first|exact qrS|skip
  all_goals decide)
theorem cK27:check qPp 27=some (7,(Yr 70 71 67).strip,[.cell 2 3 true]):=by kernel_rfl
def L58:qLS:=(27,.dat false XE)::L57
theorem h58:qHL L58:=Za h57 (by
  apply vak (hc:=cK27) h57<;>first|exact qrS|skip
  all_goals decide)
theorem cK126:check qPp 126=some (67,(Vt 165).strip,[.tmp 4]):=by kernel_rfl
def L59:qLS:=(126,.dat false Jz)::L58
theorem h59:qHL L59:=Za h58 (by
  apply jao (hc:=cK126) h58<;>first|exact qrS|skip
  all_goals decide)
theorem cK69:check qPp 69=some (16,(Qr 121 120 126 122).strip,[.cell 4 2 true]):=by kernel_rfl
def L60:qLS:=(69,.dat false kC)::L59
theorem h60:qHL L60:=Za h59 (by
  apply WW (hc:=cK69) h59<;>first|exact qrS|skip
  all_goals decide)
theorem cK26:check qPp 26=some (26,(jp 66 69 67).strip,[.cell 4 3 true]):=by kernel_rfl
def L61:qLS:=(26,.dat false jl)::L60
theorem h61:qHL L61:=Za h60 (by
  apply ZV (hc:=cK26) h60<;>first|exact qrS|skip
  all_goals decide)
theorem cK68:check qPp 68=some (40,(Vz 120 121 123 122 124 125).strip,[.cell 4 2 true]):=by kernel_rfl
def L62:qLS:=(68,.dat false vE)::L61
theorem h62:qHL L62:=Za h61 (by
  apply jaR (hc:=cK68) h61<;>first|exact qrS|skip
  all_goals decide)
theorem cK25:check qPp 25=some (30,(ko 66 69 68 67).strip,[.cell 4 3 true]):=by kernel_rfl
def L63:qLS:=(25,.dat false wl)::L62
theorem h63:qHL L63:=Za h62 (by
  apply W3 (hc:=cK25) h62<;>first|exact qrS|skip
  all_goals decide)
theorem cK150:check qPp 150=some (14,(Jp 66 118 67).strip,[.cell 2 3 true]):=by kernel_rfl
def L64:qLS:=(150,.dat false VA)::L63
theorem h64:qHL L64:=Za h63 (by
  apply Z3 (hc:=cK150) h63<;>first|exact qrS|skip
  all_goals decide)
theorem cK102:check qPp 102=some (9,(qp 150 25).strip,[.cell 4 3 true]):=by kernel_rfl
def L65:qLS:=(102,.dat false yw)::L64
theorem h65:qHL L65:=Za h64 (by
  apply JW (hc:=cK102) h64<;>first|exact qrS|skip
  all_goals decide)
theorem cK155:check qPp 155=some (14,(yt 77 67 85).strip,[.cell 4 3 true,.tmp 5]):=by kernel_rfl
def L66:qLS:=(155,.dat false (Jx 85))::L65
theorem h66:qHL L66:=Za h65 (by
  apply Vad (hc:=cK155) h65<;>first|exact qrS|skip
  all_goals decide)
theorem cK103:check qPp 103=some (29,(Uu 66 69 155).strip,[.cell 4 3 true,.tmp 5]):=by kernel_rfl
def L67:qLS:=(103,.dat false (xB 85))::L66
theorem h67:qHL L67:=Za h66 (by
  apply Jau (hc:=cK103) h66<;>first|exact qrS|skip
  all_goals decide)
theorem cK216:check qPp 216=some (17,(Qx 103).strip,[.cell 4 3 true]):=by kernel_rfl
def L68:qLS:=(216,.dat false xy)::L67
theorem h68:qHL L68:=Za h67 (by
  apply yap (hc:=cK216) h67<;>first|exact qrS|skip
  all_goals decide)
theorem cK200:check qPp 200=some (32,(zh 27 26 25 102 216).strip,[.cell 2 3 true,.cell 3 3 true]):=by kernel_rfl
def L69:qLS:=(200,.dat false xC)::L68
theorem h69:qHL L69:=Za h68 (by
  apply Y3 (hc:=cK200) h68<;>first|exact qrS|skip
  all_goals decide)
theorem cK167:check qPp 167=some (19,(Vq 128 200).strip,[.cell 2 3 true,.tmp 3]):=by kernel_rfl
def L70:qLS:=(167,.dat false (UM 85))::L69
theorem h70:qHL L70:=Za h69 (by
  apply vaO (hc:=cK167) h69<;>first|exact qrS|skip
  all_goals decide)
theorem cK168:check qPp 168=some (19,(Uq 128 200).strip,[.cell 2 3 true,.tmp 3]):=by kernel_rfl
def L71:qLS:=(168,.dat false (vM 85))::L70
theorem h71:qHL L71:=Za h70 (by
  apply QaO (hc:=cK168) h70<;>first|exact qrS|skip
  all_goals decide)
theorem cK129:check qPp 129=some (29,(Xk 128 167 168 85).strip,[.cell 2 3 true,.cell 3 3 true,.tmp 4]):=by kernel_rfl
def L72:qLS:=(129,.dat false (JI 85))::L71
theorem h72:qHL L72:=Za h71 (by
  apply kaP (hc:=cK129) h71<;>first|exact qrS|skip
  all_goals decide)
theorem cK142:check qPp 142=some (29,jt.strip,[.tmp 2]):=by kernel_rfl
def L73:qLS:=(142,.dat true Wo)::L72
theorem h73:qHL L73:=Za h72 (by
  apply Vaa (hc:=cK142) h72<;>first|exact qrS|skip
  all_goals decide)
theorem cK190:check qPp 190=some (8,zg.strip,[.tmp 2]):=by kernel_rfl
def L74:qLS:=(190,.fresh 5 qu)::L73
theorem h74:qHL L74:=Za h73 (by
  apply Zaf (hc:=cK190) h73<;>first|exact qrS|skip
  all_goals decide)
theorem cK203:check qPp 203=some (6,Vy.strip,[.tmp 2]):=by kernel_rfl
def L75:qLS:=(203,.dat true xK)::L74
theorem h75:qHL L75:=Za h74 (by
  apply xaN (hc:=cK203) h74<;>first|exact qrS|skip
  all_goals decide)
theorem cK178:check qPp 178=some (20,(Xh 203).strip,[.tmp 4]):=by kernel_rfl
def L76:qLS:=(178,.dat true YK)::L75
theorem h76:qHL L76:=Za h75 (by
  apply WaQ (hc:=cK178) h75<;>first|exact qrS|skip
  all_goals decide)
theorem cK177:check qPp 177=some (18,WG.strip,[.tmp 2]):=by kernel_rfl
def L77:qLS:=(177,.dat true xal)::L76
theorem h77:qHL L77:=Za h76 (by
  apply Ybi (hc:=cK177) h76<;>first|exact qrS|skip
  all_goals decide)
theorem cK143:check qPp 143=some (23,(qw 178 177).strip,[.tmp 4]):=by kernel_rfl
def L78:qLS:=(143,.dat true XC)::L77
theorem h78:qHL L78:=Za h77 (by
  apply Xae (hc:=cK143) h77<;>first|exact qrS|skip
  all_goals decide)
theorem cK231:check qPp 231=some (53,ud.strip,[]):=by kernel_rfl
def L79:qLS:=(231,.own (jN 143))::L78
theorem h79:qHL L79:=Za h78 (by
  apply waP (hc:=cK231) h78<;>first|exact qrS|skip
  all_goals decide)
theorem cK236:check qPp 236=some (38,Ve.strip,[]):=by kernel_rfl
def L80:qLS:=(236,.own (zJ 143))::L79
theorem h80:qHL L80:=Za h79 (by
  apply jaP (hc:=cK236) h79<;>first|exact qrS|skip
  all_goals decide)
theorem cK235:check qPp 235=some (58,(Vf 236).strip,[]):=by kernel_rfl
def L81:qLS:=(235,.own (yM 143))::L80
theorem h81:qHL L81:=Za h80 (by
  apply waS (hc:=cK235) h80<;>first|exact qrS|skip
  all_goals decide)
theorem cK232:check qPp 232=some (220,(yb 235 232).strip,[]):=by kernel_rfl
def L82:qLS:=(232,.own (vl 143 10000))::L81
theorem h82:qHL L82:=Za h81 (by
  apply Zac (hc:=cK232) h81<;>first|exact qrS|skip
  all_goals decide)
theorem cK224:check qPp 224=some (63,(vf 231 232).strip,[]):=by kernel_rfl
def L83:qLS:=(224,.own (UG 143 10000))::L82
theorem h83:qHL L83:=Za h82 (by
  apply xao (hc:=cK224) h82<;>first|exact qrS|skip
  all_goals decide)
theorem cK210:check qPp 210=some (9,(zf 224).strip,[]):=by kernel_rfl
def L84:qLS:=(210,.own (kB 143 10000))::L83
theorem h84:qHL L84:=Za h83 (by
  apply Uas (hc:=cK210) h83<;>first|exact qrS|skip
  all_goals decide)
theorem cK212:check qPp 212=some (7,(Qw 30).strip,[.tmp 2]):=by kernel_rfl
def L85:qLS:=(212,.dat true yI)::L84
theorem h85:qHL L85:=Za h84 (by
  apply xaS (hc:=cK212) h84<;>first|exact qrS|skip
  all_goals decide)
theorem cK225:check qPp 225=some (19,ji.strip,[.tmp 4]):=by kernel_rfl
def L86:qLS:=(225,.dat true (QL 212))::L85
theorem h86:qHL L86:=Za h85 (by
  apply vaR (hc:=cK225) h85<;>first|exact qrS|skip
  all_goals decide)
theorem cK211:check qPp 211=some (42,(Ud 225).strip,[.tmp 4]):=by kernel_rfl
def L87:qLS:=(211,.own (vL 212))::L86
theorem h87:qHL L87:=Za h86 (by
  apply VaQ (hc:=cK211) h86<;>first|exact qrS|skip
  all_goals decide)
theorem cK189:check qPp 189=some (60,(JC 190 210 143 25 211 212).strip,[.tmp 2]):=by kernel_rfl
def L88:qLS:=(189,.dat false (QE 10000))::L87
theorem h88:qHL L88:=Za h87 (by
  apply UaR (hc:=cK189) h87<;>first|exact qrS|skip
  all_goals decide)
theorem cK186:check qPp 186=some (28,(Xr 142 63 189 85).strip,[.tmp 2,.tmp 3]):=by kernel_rfl
def L89:qLS:=(186,.dat false (YD 85))::L88
theorem h89:qHL L89:=Za h88 (by
  apply Qat (hc:=cK186) h88<;>first|exact qrS|skip
  all_goals decide)
theorem cK151:check qPp 151=some (17,Ug.strip,[.tmp 6]):=by kernel_rfl
def L90:qLS:=(151,.red Qv)::L89
theorem h90:qHL L90:=Za h89 (by
  apply Qas (hc:=cK151) h89<;>first|exact qrS|skip
  all_goals decide)
theorem cK149:check qPp 149=some (21,(ke 186 151).strip,[.tmp 8]):=by kernel_rfl
def L91:qLS:=(149,.red YL)::L90
theorem h91:qHL L91:=Za h90 (by
  apply ZaO (hc:=cK149) h90<;>first|exact qrS|skip
  all_goals decide)
theorem cK91:check qPp 91=some (48,(Vp 142 63 30 143 85).strip,[.tmp 2]):=by kernel_rfl
def L92:qLS:=(91,.dat false (yr 85))::L91
theorem h92:qHL L92:=Za h91 (by
  apply Zaj (hc:=cK91) h91<;>first|exact qrS|skip
  all_goals decide)
theorem cK187:check qPp 187=some (18,(Qt 91).strip,[.tmp 2]):=by kernel_rfl
def L93:qLS:=(187,.dat false (Ym 85))::L92
theorem h93:qHL L93:=Za h92 (by
  apply X5 (hc:=cK187) h92<;>first|exact qrS|skip
  all_goals decide)
theorem cK188:check qPp 188=some (21,Zn.strip,[.tmp 2]):=by kernel_rfl
def L94:qLS:=(188,.dat true zN)::L93
theorem h94:qHL L94:=Za h93 (by
  apply vaS (hc:=cK188) h93<;>first|exact qrS|skip
  all_goals decide)
theorem cK152:check qPp 152=some (71,(Uo 187 188 26 189 85).strip,[.tmp 4,.tmp 5]):=by kernel_rfl
def L95:qLS:=(152,.dat false (YM 85))::L94
theorem h95:qHL L95:=Za h94 (by
  apply YaN (hc:=cK152) h94<;>first|exact qrS|skip
  all_goals decide)
theorem cK98:check qPp 98=some (14,(Vh 152 151).strip,[.tmp 6]):=by kernel_rfl
def L96:qLS:=(98,.red JG)::L95
theorem h96:qHL L96:=Za h95 (by
  apply kaR (hc:=cK98) h95<;>first|exact qrS|skip
  all_goals decide)
theorem cK213:check qPp 213=some (27,Wq.strip,[.tmp 4]):=by kernel_rfl
def L97:qLS:=(213,.fresh 5 UE)::L96
theorem h97:qHL L97:=Za h96 (by
  apply uau (hc:=cK213) h96<;>first|exact qrS|skip
  all_goals decide)
theorem cK192:check qPp 192=some (36,(Yn 213).strip,[.tmp 2]):=by kernel_rfl
def L98:qLS:=(192,.fresh 5 jD)::L97
theorem h98:qHL L98:=Za h97 (by
  apply jau (hc:=cK192) h97<;>first|exact qrS|skip
  all_goals decide)
theorem cK154:check qPp 154=some (19,(Zu 187 192 189).strip,[.tmp 4,.tmp 5]):=by kernel_rfl
def L99:qLS:=(154,.dat false (VL 85))::L98
theorem h99:qHL L99:=Za h98 (by
  apply xaP (hc:=cK154) h98<;>first|exact qrS|skip
  all_goals decide)
theorem cK101:check qPp 101=some (14,(vh 154 151).strip,[.tmp 6]):=by kernel_rfl
def L100:qLS:=(101,.red WI)::L99
theorem h100:qHL L100:=Za h99 (by
  apply QaQ (hc:=cK101) h99<;>first|exact qrS|skip
  all_goals decide)
theorem cK96:check qPp 96=some (54,(Qe 129 150 149 98 101).strip,[.cell 4 3 true]):=by kernel_rfl
def L101:qLS:=(96,.red XM)::L100
theorem h101:qHL L101:=Za h100 (by
  apply JaN (hc:=cK96) h100<;>first|exact qrS|skip
  all_goals decide)
theorem cK191:check qPp 191=some (28,(Yv 26).strip,[.tmp 4]):=by kernel_rfl
def L102:qLS:=(191,.dat false yL)::L101
theorem h102:qHL L102:=Za h101 (by
  apply JaP (hc:=cK191) h101<;>first|exact qrS|skip
  all_goals decide)
theorem cK153:check qPp 153=some (21,(ku 187 190 27 191 189).strip,[.tmp 4,.tmp 5]):=by kernel_rfl
def L103:qLS:=(153,.dat false (yK 85))::L102
theorem h103:qHL L103:=Za h102 (by
  apply YaR (hc:=cK153) h102<;>first|exact qrS|skip
  all_goals decide)
theorem cK100:check qPp 100=some (14,(wh 153 151).strip,[.tmp 6]):=by kernel_rfl
def L104:qLS:=(100,.red ZG)::L103
theorem h104:qHL L104:=Za h103 (by
  apply uaM (hc:=cK100) h103<;>first|exact qrS|skip
  all_goals decide)
theorem cK97:check qPp 97=some (26,(Jf 100).strip,[.cell 6 3 true]):=by kernel_rfl
def L105:qLS:=(97,.red zF)::L104
theorem h105:qHL L105:=Za h104 (by
  apply Xav (hc:=cK97) h104<;>first|exact qrS|skip
  all_goals decide)
theorem cK99:check qPp 99=some (21,(ue 98 100).strip,[.tmp 6]):=by kernel_rfl
def L106:qLS:=(99,.red qM)::L105
theorem h106:qHL L106:=Za h105 (by
  apply UaN (hc:=cK99) h105<;>first|exact qrS|skip
  all_goals decide)
theorem cK48:check qPp 48=some (87,(kn 96 97 99 98 100 101).strip,[.tmp 2,.tmp 3]):=by kernel_rfl
def L107:qLS:=(48,.dat false VE)::L106
theorem h107:qHL L107:=Za h106 (by
  apply VaS (hc:=cK48) h106<;>first|exact qrS|skip
  all_goals decide)
theorem cK31:check qPp 31=some (14,(Jh 46 48).strip,[.tmp 2,.tmp 3]):=by kernel_rfl
def L108:qLS:=(31,.dat false (XI 85))::L107
theorem h108:qHL L108:=Za h107 (by
  apply VaN (hc:=cK31) h107<;>first|exact qrS|skip
  all_goals decide)
theorem cK47:check qPp 47=some (11,(kf 63).strip,[.tmp 2]):=by kernel_rfl
def L109:qLS:=(47,.dat true Uk)::L108
theorem h109:qHL L109:=Za h108 (by
  apply YE (hc:=cK47) h108<;>first|exact qrS|skip
  all_goals decide)
theorem cK92:check qPp 92=some (34,(yq 27 26 103 85).strip,[.cell 4 3 true,.tmp 5]):=by kernel_rfl
def L110:qLS:=(92,.dat false (ZI 85))::L109
theorem h110:qHL L110:=Za h109 (by
  apply JaS (hc:=cK92) h109<;>first|exact qrS|skip
  all_goals decide)
theorem cK42:check qPp 42=some (59,(xr 91 92 26 25).strip,[.cell 6 3 true,.tmp 7]):=by kernel_rfl
def L111:qLS:=(42,.dat false (XD 85))::L110
theorem h111:qHL L111:=Za h110 (by
  apply Qap (hc:=cK42) h110<;>first|exact qrS|skip
  all_goals decide)
theorem cK11:check qPp 11=some (44,(vk 46 47 48 42 30 85).strip,[.tmp 4,.tmp 5]):=by kernel_rfl
def L112:qLS:=(11,.dat false (xac 85))::L111
theorem h112:qHL L112:=Za h111 (by
  apply yaW (hc:=cK11) h111<;>first|exact qrS|skip
  all_goals decide)
theorem cK75:check qPp 75=some (38,(Zr 129 26 102 25).strip,[.cell 4 6 true,.tmp 5]):=by kernel_rfl
def L113:qLS:=(75,.dat false (QJ 85))::L112
theorem h113:qHL L113:=Za h112 (by
  apply zaR (hc:=cK75) h112<;>first|exact qrS|skip
  all_goals decide)
theorem cK76:check qPp 76=some (16,(JH 25).strip,[.cell 4 6 true]):=by kernel_rfl
def L114:qLS:=(76,.dat false QF)::L113
theorem h114:qHL L114:=Za h113 (by
  apply xas (hc:=cK76) h113<;>first|exact qrS|skip
  all_goals decide)
theorem cK29:check qPp 29=some (33,(jo 73 74 75 76 85).strip,[.cell 4 6 true,.tmp 5]):=by kernel_rfl
def L115:qLS:=(29,.dat false (wL 85))::L114
theorem h115:qHL L115:=Za h114 (by
  apply zaS (hc:=cK29) h114<;>first|exact qrS|skip
  all_goals decide)
theorem cK50:check qPp 50=some (16,(Jr 102).strip,[.cell 4 6 true]):=by kernel_rfl
def L116:qLS:=(50,.dat false Xv)::L115
theorem h116:qHL L116:=Za h115 (by
  apply jP (hc:=cK50) h115<;>first|exact qrS|skip
  all_goals decide)
theorem cK49:check qPp 49=some (16,(ui 26 102).strip,[.cell 4 3 true]):=by kernel_rfl
def L117:qLS:=(49,.dat false Vu)::L116
theorem h117:qHL L117:=Za h116 (by
  apply Zag (hc:=cK49) h116<;>first|exact qrS|skip
  all_goals decide)
theorem cK52:check qPp 52=some (14,(Yo 26 25).strip,[.cell 2 3 true]):=by kernel_rfl
def L118:qLS:=(52,.dat false Uac)::L117
theorem h118:qHL L118:=Za h117 (by
  apply ubc (hc:=cK52) h117<;>first|exact qrS|skip
  all_goals decide)
theorem cK51:check qPp 51=some (71,(qg 50 27 49 26 52 102 103 25).strip,[.cell 6 6 true,.tmp 7]):=by kernel_rfl
def L119:qLS:=(51,.dat false (XK 85))::L118
theorem h119:qHL L119:=Za h118 (by
  apply JaM (hc:=cK51) h118<;>first|exact qrS|skip
  all_goals decide)
theorem cK12:check qPp 12=some (124,(yg 11 29 50 49 30 51 52 85).strip,[.cell 4 15 true,.tmp 5]):=by kernel_rfl
def L120:qLS:=(12,.dat false (yal 85))::L119
theorem h120:qHL L120:=Za h119 (by
  apply zaV (hc:=cK12) h119<;>first|exact qrS|skip
  all_goals decide)
theorem cK218:check qPp 218=some (15,xc.strip,[.tmp 2]):=by kernel_rfl
def L121:qLS:=(218,.dat false Ux)::L120
theorem h121:qHL L121:=Za h120 (by
  apply wai (hc:=cK218) h120<;>first|exact qrS|skip
  all_goals decide)
theorem cK204:check qPp 204=some (54,(ve 218 219 220 221).strip,[.tmp 4]):=by kernel_rfl
def L122:qLS:=(204,.dat false VD)::L121
theorem h122:qHL L122:=Za h121 (by
  apply Wau (hc:=cK204) h121<;>first|exact qrS|skip
  all_goals decide)
theorem cK179:check qPp 179=some (5,(xg 204).strip,[.tmp 2]):=by kernel_rfl
def L123:qLS:=(179,.dat false zw)::L122
theorem h123:qHL L123:=Za h122 (by
  apply Xar (hc:=cK179) h122<;>first|exact qrS|skip
  all_goals decide)
theorem cK145:check qPp 145=some (5,(Jw 179).strip,[.tmp 2]):=by kernel_rfl
def L124:qLS:=(145,.dat false zw)::L123
theorem h124:qHL L124:=Za h123 (by
  apply jai (hc:=cK145) h123<;>first|exact qrS|skip
  all_goals decide)
theorem cK147:check qPp 147=some (75,(yv 182 183 185).strip,[.tmp 4]):=by kernel_rfl
def L125:qLS:=(147,.dat false yD)::L124
theorem h125:qHL L125:=Za h124 (by
  apply Wao (hc:=cK147) h124<;>first|exact qrS|skip
  all_goals decide)
theorem cK94:check qPp 94=some (44,(Zw 120 144 145 146 147 121).strip,[.tmp 2]):=by kernel_rfl
def L126:qLS:=(94,.dat false Vx)::L125
theorem h126:qHL L126:=Za h125 (by
  apply Zan (hc:=cK94) h125<;>first|exact qrS|skip
  all_goals decide)
theorem cK44:check qPp 44=some (22,(Vn 66 71 93 94).strip,[.tmp 2]):=by kernel_rfl
def L127:qLS:=(44,.dat false ux)::L126
theorem h127:qHL L127:=Za h126 (by
  apply Vam (hc:=cK44) h126<;>first|exact qrS|skip
  all_goals decide)
theorem cK8:check qPp 8=some (88,(Ui 43 31 11 12 44).strip,[.tmp 0]):=by kernel_rfl
def L128:qLS:=(8,.dat true zE)::L127
theorem h128:qHL L128:=Za h127 (by
  apply Jat (hc:=cK8) h127<;>first|exact qrS|skip
  all_goals decide)
theorem cK45:check qPp 45=some (40,vi.strip,[.tmp 2]):=by kernel_rfl
def L129:qLS:=(45,.dat true Wx)::L128
theorem h129:qHL L129:=Za h128 (by
  apply xaf (hc:=cK45) h128<;>first|exact qrS|skip
  all_goals decide)
theorem cK9:check qPp 9=some (10,(yi 45).strip,[.tmp 2]):=by kernel_rfl
def L130:qLS:=(9,.dat true Zx)::L129
theorem h130:qHL L130:=Za h129 (by
  apply Yad (hc:=cK9) h129<;>first|exact qrS|skip
  all_goals decide)
theorem cK169:check qPp 169=some (9,(vB 150).strip,[.cell 2 4 true]):=by kernel_rfl
def L131:qLS:=(169,.dat false VG)::L130
theorem h131:qHL L131:=Za h130 (by
  apply WX (hc:=cK169) h130<;>first|exact qrS|skip
  all_goals decide)
theorem cK130:check qPp 130=some (13,(qC 128 169).strip,[.cell 2 4 true,.tmp 3]):=by kernel_rfl
def L132:qLS:=(130,.dat false (qF 85))::L131
theorem h132:qHL L132:=Za h131 (by
  apply zap (hc:=cK130) h131<;>first|exact qrS|skip
  all_goals decide)
theorem cK131:check qPp 131=some (10,(zH 150).strip,[.cell 2 6 true]):=by kernel_rfl
def L133:qLS:=(131,.dat false UL)::L132
theorem h133:qHL L133:=Za h132 (by
  apply vaQ (hc:=cK131) h132<;>first|exact qrS|skip
  all_goals decide)
theorem cK78:check qPp 78=some (37,(wo 73 130 131 75 85).strip,[.cell 2 10 true,.tmp 3]):=by kernel_rfl
def L134:qLS:=(78,.dat false (WM 85))::L133
theorem h134:qHL L134:=Za h133 (by
  apply WaP (hc:=cK78) h133<;>first|exact qrS|skip
  all_goals decide)
theorem cK32:check qPp 32=some (38,(Wg 46 78 48).strip,[.tmp 2,.tmp 3]):=by kernel_rfl
def L135:qLS:=(32,.dat false (jL 85))::L134
theorem h135:qHL L135:=Za h134 (by
  apply WaO (hc:=cK32) h134<;>first|exact qrS|skip
  all_goals decide)
theorem cK127:check qPp 127=some (38,(kD 25 30).strip,[.tmp 2]):=by kernel_rfl
def L136:qLS:=(127,.fresh 3 JE)::L135
theorem h136:qHL L136:=Za h135 (by
  apply xap (hc:=cK127) h135<;>first|exact qrS|skip
  all_goals decide)
theorem cK72:check qPp 72=some (61,(vu 91 92 26 25 127).strip,[.tmp 6,.tmp 7]):=by kernel_rfl
def L137:qLS:=(72,.dat false (VM 85))::L136
theorem h137:qHL L137:=Za h136 (by
  apply UaM (hc:=cK72) h136<;>first|exact qrS|skip
  all_goals decide)
theorem cK28:check qPp 28=some (42,(xf 46 63 48 72 85).strip,[.tmp 4,.tmp 5]):=by kernel_rfl
def L138:qLS:=(28,.dat false (kN 85))::L137
theorem h138:qHL L138:=Za h137 (by
  apply waR (hc:=cK28) h137<;>first|exact qrS|skip
  all_goals decide)
theorem cK85:check qPp 85=some (15,Qj.strip,[.tmp 2]):=by kernel_rfl
def L139:qLS:=(85,.dat true yx)::L138
theorem h139:qHL L139:=Za h138 (by
  apply kU (hc:=cK85) h138<;>first|exact qrS|skip
  all_goals decide)
theorem cK114:check qPp 114=some (38,(Qm 140 157 161 138 162 163).strip,[.cell 4 2 true]):=by kernel_rfl
def L140:qLS:=(114,.dat false vE)::L139
theorem h140:qHL L140:=Za h139 (by
  apply Qan (hc:=cK114) h139<;>first|exact qrS|skip
  all_goals decide)
theorem cK137:check qPp 137=some (9,(Yl 158 114).strip,[.cell 4 2 true]):=by kernel_rfl
def L141:qLS:=(137,.dat false yN)::L140
theorem h141:qHL L141:=Za h140 (by
  apply Zad (hc:=cK137) h140<;>first|exact qrS|skip
  all_goals decide)
theorem cK86:check qPp 86=some (9,(yl 137 110).strip,[.tmp 4]):=by kernel_rfl
def L142:qLS:=(86,.dat true Uw)::L141
theorem h142:qHL L142:=Za h141 (by
  apply Yai (hc:=cK86) h141<;>first|exact qrS|skip
  all_goals decide)
theorem cK37:check qPp 37=some (36,(wi 85 87 88 86).strip,[.tmp 2]):=by kernel_rfl
def L143:qLS:=(37,.dat true qf)::L142
theorem h143:qHL L143:=Za h142 (by
  apply uU (hc:=cK37) h142<;>first|exact qrS|skip
  all_goals decide)
theorem cK109:check qPp 109=some (23,(Wi 37 88).strip,[.cell 2 2 true,.cell 3 2 true]):=by kernel_rfl
def L144:qLS:=(109,.dat false kg)::L143
theorem h144:qHL L144:=Za h143 (by
  apply xU (hc:=cK109) h143<;>first|exact qrS|skip
  all_goals decide)
theorem cK59:check qPp 59=some (12,(jn 109 110).strip,[.tmp 2]):=by kernel_rfl
def L145:qLS:=(59,.dat true yn)::L144
theorem h145:qHL L145:=Za h144 (by
  apply JS (hc:=cK59) h144<;>first|exact qrS|skip
  all_goals decide)
theorem cK18:check qPp 18=some (6,(uj 59).strip,[.tmp 2]):=by kernel_rfl
def L146:qLS:=(18,.dat true jz)::L145
theorem h146:qHL L146:=Za h145 (by
  apply Wat (hc:=cK18) h145<;>first|exact qrS|skip
  all_goals decide)
theorem cK117:check qPp 117=some (16,(yd 37 18).strip,[.tmp 2]):=by kernel_rfl
def L147:qLS:=(117,.dat true Zy)::L146
theorem h147:qHL L147:=Za h146 (by
  apply Uae (hc:=cK117) h146<;>first|exact qrS|skip
  all_goals decide)
theorem cK14:check qPp 14=some (11,(kf 37).strip,[.tmp 2]):=by kernel_rfl
def L148:qLS:=(14,.dat true Uk)::L147
theorem h148:qHL L148:=Za h147 (by
  apply YE (hc:=cK14) h147<;>first|exact qrS|skip
  all_goals decide)
theorem cK65:check qPp 65=some (11,(jf 117 14).strip,[.tmp 2]):=by kernel_rfl
def L149:qLS:=(65,.dat true vA)::L148
theorem h149:qHL L149:=Za h148 (by
  apply qaq (hc:=cK65) h148<;>first|exact qrS|skip
  all_goals decide)
theorem cK53:check qPp 53=some (23,(Xi 65).strip,[.tmp 2]):=by kernel_rfl
def L150:qLS:=(53,.dat true jE)::L149
theorem h150:qHL L150:=Za h149 (by
  apply vav (hc:=cK53) h149<;>first|exact qrS|skip
  all_goals decide)
theorem cK13:check qPp 13=some (12,(qe 53).strip,[.tmp 2]):=by kernel_rfl
def L151:qLS:=(13,.dat true UC)::L150
theorem h151:qHL L151:=Za h150 (by
  apply uas (hc:=cK13) h150<;>first|exact qrS|skip
  all_goals decide)
theorem cK15:check qPp 15=some (15,(Qh 85).strip,[.tmp 2]):=by kernel_rfl
def L152:qLS:=(15,.dat true (QI 85))::L151
theorem h152:qHL L152:=Za h151 (by
  apply VaO (hc:=cK15) h151<;>first|exact qrS|skip
  all_goals decide)
theorem cK160:check qPp 160=some (68,(Qi 171).strip,[.tmp 4]):=by kernel_rfl
def L153:qLS:=(160,.dat false Jz)::L152
theorem h153:qHL L153:=Za h152 (by
  apply yaa (hc:=cK160) h152<;>first|exact qrS|skip
  all_goals decide)
theorem cK113:check qPp 113=some (16,(Qr 157 140 160 138).strip,[.cell 4 2 true]):=by kernel_rfl
def L154:qLS:=(113,.dat false kC)::L153
theorem h154:qHL L154:=Za h153 (by
  apply WW (hc:=cK113) h153<;>first|exact qrS|skip
  all_goals decide)
theorem cK61:check qPp 61=some (26,(jp 109 113 112).strip,[.cell 4 3 true]):=by kernel_rfl
def L155:qLS:=(61,.dat false jl)::L154
theorem h155:qHL L155:=Za h154 (by
  apply ZV (hc:=cK61) h154<;>first|exact qrS|skip
  all_goals decide)
theorem cK62:check qPp 62=some (30,(ko 109 113 114 112).strip,[.cell 4 3 true]):=by kernel_rfl
def L156:qLS:=(62,.dat false wl)::L155
theorem h156:qHL L156:=Za h155 (by
  apply W3 (hc:=cK62) h155<;>first|exact qrS|skip
  all_goals decide)
theorem cK111:check qPp 111=some (14,(Jp 109 158 112).strip,[.cell 2 3 true]):=by kernel_rfl
def L157:qLS:=(111,.dat false VA)::L156
theorem h157:qHL L157:=Za h156 (by
  apply Z3 (hc:=cK111) h156<;>first|exact qrS|skip
  all_goals decide)
theorem cK60:check qPp 60=some (9,(qp 111 62).strip,[.cell 4 3 true]):=by kernel_rfl
def L158:qLS:=(60,.dat false yw)::L157
theorem h158:qHL L158:=Za h157 (by
  apply JW (hc:=cK60) h157<;>first|exact qrS|skip
  all_goals decide)
theorem cK156:check qPp 156=some (13,(Zk 110 112).strip,[.cell 4 3 true,.tmp 5]):=by kernel_rfl
def L159:qLS:=(156,.dat false xx)::L158
theorem h159:qHL L159:=Za h158 (by
  apply jae (hc:=cK156) h158<;>first|exact qrS|skip
  all_goals decide)
theorem cK107:check qPp 107=some (29,(Ul 109 113 156).strip,[.cell 4 3 true,.tmp 5]):=by kernel_rfl
def L160:qLS:=(107,.dat false UD)::L159
theorem h160:qHL L160:=Za h159 (by
  apply vat (hc:=cK107) h159<;>first|exact qrS|skip
  all_goals decide)
theorem cK170:check qPp 170=some (14,(kj 107).strip,[.cell 4 3 true]):=by kernel_rfl
def L161:qLS:=(170,.dat false xy)::L160
theorem h161:qHL L161:=Za h160 (by
  apply Wag (hc:=cK170) h160<;>first|exact qrS|skip
  all_goals decide)
theorem cK132:check qPp 132=some (32,(zh 83 61 62 60 170).strip,[.cell 2 3 true,.cell 3 3 true]):=by kernel_rfl
def L162:qLS:=(132,.dat false xC)::L161
theorem h162:qHL L162:=Za h161 (by
  apply Y3 (hc:=cK132) h161<;>first|exact qrS|skip
  all_goals decide)
theorem cK133:check qPp 133=some (18,kh.strip,[.cell 6 147 true]):=by kernel_rfl
def L163:qLS:=(133,.dat false ZL)::L162
theorem h163:qHL L163:=Za h162 (by
  apply qaQ (hc:=cK133) h162<;>first|exact qrS|skip
  all_goals decide)
theorem cK81:check qPp 81=some (66,(ug 18 61 62).strip,[.cell 4 147 true]):=by kernel_rfl
def L164:qLS:=(81,.dat false uB)::L163
theorem h164:qHL L164:=Za h163 (by
  apply Jas (hc:=cK81) h163<;>first|exact qrS|skip
  all_goals decide)
theorem cK82:check qPp 82=some (35,(Yj 61 62).strip,[.cell 6 147 true]):=by kernel_rfl
def L165:qLS:=(82,.dat false ky)::L164
theorem h165:qHL L165:=Za h164 (by
  apply kaq (hc:=cK82) h164<;>first|exact qrS|skip
  all_goals decide)
theorem cK79:check qPp 79=some (39,(Wl 132 111 133 81 83 82).strip,[.cell 2 441 true]):=by kernel_rfl
def L166:qLS:=(79,.dat false VN)::L165
theorem h166:qHL L166:=Za h165 (by
  apply xaR (hc:=cK79) h165<;>first|exact qrS|skip
  all_goals decide)
theorem cK80:check qPp 80=some (9,(qj 83 82).strip,[.cell 4 147 true]):=by kernel_rfl
def L167:qLS:=(80,.dat false JL)::L166
theorem h167:qHL L167:=Za h166 (by
  apply kaS (hc:=cK80) h166<;>first|exact qrS|skip
  all_goals decide)
theorem cK35:check qPp 35=some (77,(Ye 79 80 81 83 82).strip,[.cell 2 147 true]):=by kernel_rfl
def L168:qLS:=(35,.dat false qI)::L167
theorem h168:qHL L168:=Za h167 (by
  apply kaO (hc:=cK35) h167<;>first|exact qrS|skip
  all_goals decide)
theorem cK34:check qPp 34=some (44,(Jk 18).strip,[.tmp 2]):=by kernel_rfl
def L169:qLS:=(34,.dat false ZD)::L168
theorem h169:qHL L169:=Za h168 (by
  apply vaq (hc:=cK34) h168<;>first|exact qrS|skip
  all_goals decide)
theorem cK104:check qPp 104=some (26,jk.strip,[.tmp 4]):=by kernel_rfl
def L170:qLS:=(104,.dat true Ww)::L169
theorem h170:qHL L170:=Za h169 (by
  apply uag (hc:=cK104) h169<;>first|exact qrS|skip
  all_goals decide)
theorem cK54:check qPp 54=some (24,(wn 104).strip,[.tmp 4]):=by kernel_rfl
def L171:qLS:=(54,.dat true kH)::L170
theorem h171:qHL L171:=Za h170 (by
  apply ZaR (hc:=cK54) h170<;>first|exact qrS|skip
  all_goals decide)
theorem cK33:check qPp 33=some (55,(Zj 54).strip,[.tmp 4]):=by kernel_rfl
def L172:qLS:=(33,.dat false Yx)::L171
theorem h172:qHL L172:=Za h171 (by
  apply Yah (hc:=cK33) h171<;>first|exact qrS|skip
  all_goals decide)
theorem cK135:check qPp 135=some (9,(vB 111).strip,[.cell 2 4 true]):=by kernel_rfl
def L173:qLS:=(135,.dat false VG)::L172
theorem h173:qHL L173:=Za h172 (by
  apply WX (hc:=cK135) h172<;>first|exact qrS|skip
  all_goals decide)
theorem cK58:check qPp 58=some (16,(Jr 60).strip,[.cell 4 6 true]):=by kernel_rfl
def L174:qLS:=(58,.dat false Xv)::L173
theorem h174:qHL L174:=Za h173 (by
  apply jP (hc:=cK58) h173<;>first|exact qrS|skip
  all_goals decide)
theorem cK136:check qPp 136=some (31,(yh 132 61 60 62).strip,[.cell 4 6 true]):=by kernel_rfl
def L175:qLS:=(136,.dat false uM)::L174
theorem h175:qHL L175:=Za h174 (by
  apply waN (hc:=cK136) h174<;>first|exact qrS|skip
  all_goals decide)
theorem cK84:check qPp 84=some (15,(Xg 135 58 136).strip,[.cell 2 10 true]):=by kernel_rfl
def L176:qLS:=(84,.dat false qL)::L175
theorem h176:qHL L176:=Za h175 (by
  apply waO (hc:=cK84) h175<;>first|exact qrS|skip
  all_goals decide)
theorem cK36:check qPp 36=some (19,(jg 84).strip,[.tmp 2]):=by kernel_rfl
def L177:qLS:=(36,.dat false jF)::L176
theorem h177:qHL L177:=Za h176 (by
  apply xar (hc:=cK36) h176<;>first|exact qrS|skip
  all_goals decide)
theorem cK38:check qPp 38=some (9,(Yp 15).strip,[.tmp 4]):=by kernel_rfl
def L178:qLS:=(38,.dat true (van 85))::L177
theorem h178:qHL L178:=Za h177 (by
  apply Jbh (hc:=cK38) h177<;>first|exact qrS|skip
  all_goals decide)
theorem cK40:check qPp 40=some (41,(ki 35 83 61 62).strip,[.tmp 4]):=by kernel_rfl
def L179:qLS:=(40,.dat false QM)::L178
theorem h179:qHL L179:=Za h178 (by
  apply qaS (hc:=cK40) h178<;>first|exact qrS|skip
  all_goals decide)
theorem cK39:check qPp 39=some (27,(jm 54).strip,[.tmp 4]):=by kernel_rfl
def L180:qLS:=(39,.dat true qE)::L179
theorem h180:qHL L180:=Za h179 (by
  apply yav (hc:=cK39) h179<;>first|exact qrS|skip
  all_goals decide)
theorem cK6:check qPp 6=some (121,(Jb 8 9 31 32 28 13 15 35 34 33 36 37 38 40 39).strip,[.tmp 4]):=by kernel_rfl
def L181:qLS:=(6,.dat true Qo)::L180
theorem h181:qHL L181:=Za h180 (by
  apply yU (hc:=cK6) h180<;>first|exact qrS|skip
  all_goals decide)
theorem hold:qHL L181:=h181
end Go.Abs
