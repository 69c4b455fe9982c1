/-
  The contracts of this seat's functions, gathered.
-/
import Derived.Test.YtegaodlldjpcaaaGreatDoorChecked
import Derived.Test.YtegaodlldjpcaaaGreatDoorBits
import Derived.KernelRfl
import Derived.Test.YtegaodlldjpcaaaGreatDoorM13
set_option maxRecDepth 100000
set_option linter.unusedVariables false
namespace Go.Abs
open Go.Proofs
noncomputable abbrev qPp:=Tryz.prog
abbrev qLS:=List (Nat×Spec)
abbrev qHL(l:qLS):=Holds qPp (Gl l)
theorem qrS{a:Spec}:a=a:=rfl
theorem cK167:check qPp 167=some (25,Qd.strip,[.tmp 2]):=by kernel_rfl
theorem sK167:Sound qPp 167 (.fresh 1 uv):=by
  apply Jay (hc:=cK167) Vab<;>first|exact qrS|skip
  all_goals decide
def L1:qLS:=(167,.fresh 1 uv)::[]
theorem h1:qHL L1:=qa Vab sK167
theorem cK128:check qPp 128=some (14,(vh 167).strip,[.cell 4 2 true]):=by kernel_rfl
theorem sK128:Sound qPp 128 (.dat false vf):=by
  apply Qab (hc:=cK128) h1<;>first|exact qrS|skip
  all_goals decide
def L2:qLS:=(128,.dat false vf)::L1
theorem h2:qHL L2:=qa h1 sK128
theorem cK83:check qPp 83=some (19,(qq 128).strip,[.cell 2 2 true]):=by kernel_rfl
theorem sK83:Sound qPp 83 (.dat false QH):=by
  apply kY (hc:=cK83) h2<;>first|exact qrS|skip
  all_goals decide
def L3:qLS:=(83,.dat false QH)::L2
theorem h3:qHL L3:=qa h2 sK83
theorem cK84:check qPp 84=some (2,(Vl 83).strip,[.cell 0 2 true]):=by kernel_rfl
theorem sK84:Sound qPp 84 (.dat false jr):=by
  apply VN (hc:=cK84) h3<;>first|exact qrS|skip
  all_goals decide
def L4:qLS:=(84,.dat false jr)::L3
theorem h4:qHL L4:=qa h3 sK84
theorem cK190:check qPp 190=some (19,Wj.strip,[.tmp 2]):=by kernel_rfl
theorem sK190:Sound qPp 190 (.dat true uh):=by
  apply xG (hc:=cK190) h4<;>first|exact qrS|skip
  all_goals decide
def L5:qLS:=(190,.dat true uh)::L4
theorem h5:qHL L5:=qa h4 sK190
theorem cK154:check qPp 154=some (8,(kn 190).strip,[.tmp 2]):=by kernel_rfl
theorem sK154:Sound qPp 154 (.dat false Zj):=by
  apply qQ (hc:=cK154) h5<;>first|exact qrS|skip
  all_goals decide
def L6:qLS:=(154,.dat false Zj)::L5
theorem h6:qHL L6:=qa h5 sK154
theorem cK163:check qPp 163=some (9,(Un 190).strip,[.tmp 2]):=by kernel_rfl
theorem sK163:Sound qPp 163 (.dat true Jg):=by
  apply zK (hc:=cK163) h6<;>first|exact qrS|skip
  all_goals decide
def L7:qLS:=(163,.dat true Jg)::L6
theorem h7:qHL L7:=qa h6 sK163
theorem cK125:check qPp 125=some (9,(Zh 154 163).strip,[.tmp 2]):=by kernel_rfl
theorem sK125:Sound qPp 125 (.dat true qh):=by
  apply wT (hc:=cK125) h7<;>first|exact qrS|skip
  all_goals decide
def L8:qLS:=(125,.dat true qh)::L7
theorem h8:qHL L8:=qa h7 sK125
theorem cK126:check qPp 126=some (9,(Xn 163 154 128).strip,[.cell 2 2 true]):=by kernel_rfl
theorem sK126:Sound qPp 126 (.dat false Vw):=by
  apply UQ (hc:=cK126) h8<;>first|exact qrS|skip
  all_goals decide
def L9:qLS:=(126,.dat false Vw)::L8
theorem h9:qHL L9:=qa h8 sK126
theorem cK201:check qPp 201=some (14,xl.strip,[.tmp 4]):=by kernel_rfl
theorem sK201:Sound qPp 201 (.dat true Yk):=by
  apply kQ (hc:=cK201) h9<;>first|exact qrS|skip
  all_goals decide
def L10:qLS:=(201,.dat true Yk)::L9
theorem h10:qHL L10:=qa h9 sK201
theorem cK189:check qPp 189=some (21,Xi.strip,[.tmp 2]):=by kernel_rfl
theorem sK189:Sound qPp 189 (.own Z5):=by
  apply YaO (hc:=cK189) h10<;>first|exact qrS|skip
  all_goals decide
def L11:qLS:=(189,.own Z5)::L10
theorem h11:qHL L11:=qa h10 sK189
theorem cK186:check qPp 186=some (26,(qg 201 189).strip,[.tmp 2]):=by kernel_rfl
theorem sK186:Sound qPp 186 (.own Xo):=by
  apply yai (hc:=cK186) h11<;>first|exact qrS|skip
  all_goals decide
def L12:qLS:=(186,.own Xo)::L11
theorem h12:qHL L12:=qa h11 sK186
theorem cK187:check qPp 187=some (30,(Xe 201).strip,[.tmp 4]):=by kernel_rfl
theorem sK187:Sound qPp 187 (.dat true Xu):=by
  apply Wad (hc:=cK187) h12<;>first|exact qrS|skip
  all_goals decide
def L13:qLS:=(187,.dat true Xu)::L12
theorem h13:qHL L13:=qa h12 sK187
theorem cK188:check qPp 188=some (31,(ve 201).strip,[]):=by kernel_rfl
theorem sK188:Sound qPp 188 (.own qw):=by
  apply kaz (hc:=cK188) h13<;>first|exact qrS|skip
  all_goals decide
def L14:qLS:=(188,.own qw)::L13
theorem h14:qHL L14:=qa h13 sK188
theorem cK165:check qPp 165=some (37,(Wh 201 167).strip,[.tmp 4]):=by kernel_rfl
theorem sK165:Sound qPp 165 (.dat false qt):=by
  apply Z3 (hc:=cK165) h14<;>first|exact qrS|skip
  all_goals decide
def L15:qLS:=(165,.dat false qt)::L14
theorem h15:qHL L15:=qa h14 sK165
theorem cK153:check qPp 153=some (72,(Yi 167 186 187 188 189 165).strip,[.tmp 4]):=by kernel_rfl
theorem sK153:Sound qPp 153 (.dat false zx):=by
  apply Wah (hc:=cK153) h15<;>first|exact qrS|skip
  all_goals decide
def L16:qLS:=(153,.dat false zx)::L15
theorem h16:qHL L16:=qa h15 sK153
theorem cK108:check qPp 108=some (11,(xi 154 153 128).strip,[.cell 4 2 true]):=by kernel_rfl
theorem sK108:Sound qPp 108 (.dat false yt):=by
  apply X6 (hc:=cK108) h16<;>first|exact qrS|skip
  all_goals decide
def L17:qLS:=(108,.dat false yt)::L16
theorem h17:qHL L17:=qa h16 sK108
theorem cK200:check qPp 200=some (25,zh.strip,[.tmp 2]):=by kernel_rfl
theorem sK200:Sound qPp 200 (.dat true qp):=by
  apply JY (hc:=cK200) h17<;>first|exact qrS|skip
  all_goals decide
def L18:qLS:=(200,.dat true qp)::L17
theorem h18:qHL L18:=qa h17 sK200
theorem cK164:check qPp 164=some (76,(Vf 200 187 188 167).strip,[.tmp 4,.tmp 5]):=by kernel_rfl
theorem sK164:Sound qPp 164 (.dat false Xg):=by
  apply QM (hc:=cK164) h18<;>first|exact qrS|skip
  all_goals decide
def L19:qLS:=(164,.dat false Xg)::L18
theorem h19:qHL L19:=qa h18 sK164
theorem cK166:check qPp 166=some (35,(kg 201 167).strip,[.tmp 4]):=by kernel_rfl
theorem sK166:Sound qPp 166 (.dat false Yt):=by
  apply xT (hc:=cK166) h19<;>first|exact qrS|skip
  all_goals decide
def L20:qLS:=(166,.dat false Yt)::L19
theorem h20:qHL L20:=qa h19 sK166
theorem cK127:check qPp 127=some (45,(Ui 125 154 164 163 165 166 128).strip,[.cell 4 2 true,.cell 5 2 true,.tmp 6]):=by kernel_rfl
theorem sK127:Sound qPp 127 (.dat false Jq):=by
  apply xX (hc:=cK127) h20<;>first|exact qrS|skip
  all_goals decide
def L21:qLS:=(127,.dat false Jq)::L20
theorem h21:qHL L21:=qa h20 sK127
theorem cK82:check qPp 82=some (47,(Vh 125 126 108 127).strip,[.cell 4 3 true]):=by kernel_rfl
theorem sK82:Sound qPp 82 (.dat false zj):=by
  apply WR (hc:=cK82) h21<;>first|exact qrS|skip
  all_goals decide
def L22:qLS:=(82,.dat false zj)::L21
theorem h22:qHL L22:=qa h21 sK82
theorem cK32:check qPp 32=some (7,(yn 83 84 82).strip,[.cell 2 3 true]):=by kernel_rfl
theorem sK32:Sound qPp 32 (.dat false ux):=by
  apply U1 (hc:=cK32) h22<;>first|exact qrS|skip
  all_goals decide
def L23:qLS:=(32,.dat false ux)::L22
theorem h23:qHL L23:=qa h22 sK32
theorem cK31:check qPp 31=some (13,(zf 32).strip,[.tmp 0]):=by kernel_rfl
theorem sK31:Sound qPp 31 (.dat false ZB):=by
  apply kaC (hc:=cK31) h23<;>first|exact qrS|skip
  all_goals decide
def L24:qLS:=(31,.dat false ZB)::L23
theorem h24:qHL L24:=qa h23 sK31
theorem cK121:check qPp 121=some (19,Wj.strip,[.tmp 2]):=by kernel_rfl
theorem sK121:Sound qPp 121 (.dat true uh):=by
  apply xG (hc:=cK121) h24<;>first|exact qrS|skip
  all_goals decide
def L25:qLS:=(121,.dat true uh)::L24
theorem h25:qHL L25:=qa h24 sK121
theorem cK119:check qPp 119=some (8,(kn 121).strip,[.tmp 2]):=by kernel_rfl
theorem sK119:Sound qPp 119 (.dat false Zj):=by
  apply qQ (hc:=cK119) h25<;>first|exact qrS|skip
  all_goals decide
def L26:qLS:=(119,.dat false Zj)::L25
theorem h26:qHL L26:=qa h25 sK119
theorem cK129:check qPp 129=some (41,jm.strip,[.tmp 4]):=by kernel_rfl
theorem sK129:Sound qPp 129 (.dat false Ug):=by
  apply uS (hc:=cK129) h26<;>first|exact qrS|skip
  all_goals decide
def L27:qLS:=(129,.dat false Ug)::L26
theorem h27:qHL L27:=qa h26 sK129
theorem cK168:check qPp 168=some (25,Zs.strip,[.tmp 2]):=by kernel_rfl
theorem sK168:Sound qPp 168 (.dat false vr):=by
  apply Xaz (hc:=cK168) h27<;>first|exact qrS|skip
  all_goals decide
def L28:qLS:=(168,.dat false vr)::L27
theorem h28:qHL L28:=qa h27 sK168
theorem cK132:check qPp 132=some (43,(Uo 168).strip,[.tmp 4,.tmp 5]):=by kernel_rfl
theorem sK132:Sound qPp 132 (.dat false Ut):=by
  apply vac (hc:=cK132) h28<;>first|exact qrS|skip
  all_goals decide
def L29:qLS:=(132,.dat false Ut)::L28
theorem h29:qHL L29:=qa h28 sK132
theorem sK193:Sound qPp 193 (.dat true lz_G):=XaU (Jv Tryz.func193 (by kernel_rfl) (by kernel_rfl)) Ybm Xbw Tryz.bits_LeadingZeros32
def L30:qLS:=(193,.dat true lz_G)::L29
theorem h30:qHL L30:=qa h29 sK193
theorem cK194:check qPp 194=some (41,yx.strip,[.tmp 4]):=by kernel_rfl
theorem sK194:Sound qPp 194 (.fresh 1 up_G):=by
  apply za5 (hc:=cK194) h30<;>first|exact qrS|skip
  all_goals decide
def L31:qLS:=(194,.fresh 1 up_G)::L30
theorem h31:qHL L31:=qa h30 sK194
theorem cK176:check qPp 176=some (14,xl.strip,[.tmp 4]):=by kernel_rfl
theorem sK176:Sound qPp 176 (.dat true Yk):=by
  apply kQ (hc:=cK176) h31<;>first|exact qrS|skip
  all_goals decide
def L32:qLS:=(176,.dat true Yk)::L31
theorem h32:qHL L32:=qa h31 sK176
theorem cK195:check qPp 195=some (46,(Jn 176).strip,[.tmp 6]):=by kernel_rfl
theorem sK195:Sound qPp 195 (.own Zp):=by
  apply QX (hc:=cK195) h32<;>first|exact qrS|skip
  all_goals decide
def L33:qLS:=(195,.own Zp)::L32
theorem h33:qHL L33:=qa h32 sK195
theorem cK196:check qPp 196=some (30,(Jr 176).strip,[]):=by kernel_rfl
theorem sK196:Sound qPp 196 (.own UD):=by
  apply Qay (hc:=cK196) h33<;>first|exact qrS|skip
  all_goals decide
def L34:qLS:=(196,.own UD)::L33
theorem h34:qHL L34:=qa h33 sK196
theorem cK197:check qPp 197=some (35,(Vr 176 168).strip,[.tmp 4]):=by kernel_rfl
theorem sK197:Sound qPp 197 (.dat false jD):=by
  apply XaA (hc:=cK197) h34<;>first|exact qrS|skip
  all_goals decide
def L35:qLS:=(197,.dat false jD)::L34
theorem h35:qHL L35:=qa h34 sK197
theorem cK161:check qPp 161=some (158,(Qi 129 168 132 193 194 195 196 197).strip,[.tmp 4,.tmp 5]):=by kernel_rfl
theorem sK161:Sound qPp 161 (.dat false Xg):=by
  apply Zab (hc:=cK161) h35<;>first|exact qrS|skip
  all_goals decide
def L36:qLS:=(161,.dat false Xg)::L35
theorem h36:qHL L36:=qa h35 sK161
theorem cK136:check qPp 136=some (15,(xo 168).strip,[.cell 4 2 true]):=by kernel_rfl
theorem sK136:Sound qPp 136 (.dat false vf):=by
  apply Xae (hc:=cK136) h36<;>first|exact qrS|skip
  all_goals decide
def L37:qLS:=(136,.dat false vf)::L36
theorem h37:qHL L37:=qa h36 sK136
theorem cK122:check qPp 122=some (26,(Xt 119 161 136).strip,[.cell 4 2 true]):=by kernel_rfl
theorem sK122:Sound qPp 122 (.dat false yt):=by
  apply Zaz (hc:=cK122) h37<;>first|exact qrS|skip
  all_goals decide
def L38:qLS:=(122,.dat false yt)::L37
theorem h38:qHL L38:=qa h37 sK122
theorem cK131:check qPp 131=some (19,(qq 136).strip,[.cell 2 2 true]):=by kernel_rfl
theorem sK131:Sound qPp 131 (.dat false QH):=by
  apply kY (hc:=cK131) h38<;>first|exact qrS|skip
  all_goals decide
def L39:qLS:=(131,.dat false QH)::L38
theorem h39:qHL L39:=qa h38 sK131
theorem cK86:check qPp 86=some (2,(Vl 131).strip,[.cell 0 2 true]):=by kernel_rfl
theorem sK86:Sound qPp 86 (.dat false jr):=by
  apply VN (hc:=cK86) h39<;>first|exact qrS|skip
  all_goals decide
def L40:qLS:=(86,.dat false jr)::L39
theorem h40:qHL L40:=qa h39 sK86
theorem cK68:check qPp 68=some (11,(Xs 119).strip,[.tmp 2]):=by kernel_rfl
theorem sK68:Sound qPp 68 (.dat true qh):=by
  apply Uag (hc:=cK68) h40<;>first|exact qrS|skip
  all_goals decide
def L41:qLS:=(68,.dat true qh)::L40
theorem h41:qHL L41:=qa h40 sK68
theorem cK130:check qPp 130=some (9,(Un 121).strip,[.tmp 2]):=by kernel_rfl
theorem sK130:Sound qPp 130 (.dat true Jg):=by
  apply zK (hc:=cK130) h41<;>first|exact qrS|skip
  all_goals decide
def L42:qLS:=(130,.dat true Jg)::L41
theorem h42:qHL L42:=qa h41 sK130
theorem cK85:check qPp 85=some (28,(yu 68 119 129 130).strip,[.tmp 4]):=by kernel_rfl
theorem sK85:Sound qPp 85 (.dat true jz):=by
  apply YaD (hc:=cK85) h42<;>first|exact qrS|skip
  all_goals decide
def L43:qLS:=(85,.dat true jz)::L42
theorem h43:qHL L43:=qa h42 sK85
theorem cK76:check qPp 76=some (50,(Vm 121 122 86 85).strip,[.tmp 2]):=by kernel_rfl
theorem sK76:Sound qPp 76 (.dat true xe):=by
  apply WW (hc:=cK76) h43<;>first|exact qrS|skip
  all_goals decide
def L44:qLS:=(76,.dat true xe)::L43
theorem h44:qHL L44:=qa h43 sK76
theorem cK67:check qPp 67=some (28,(Ym 76 86).strip,[.cell 2 2 true,.cell 3 2 true]):=by kernel_rfl
theorem sK67:Sound qPp 67 (.dat false Yf):=by
  apply W6 (hc:=cK67) h44<;>first|exact qrS|skip
  all_goals decide
def L45:qLS:=(67,.dat false Yf)::L44
theorem h45:qHL L45:=qa h44 sK67
theorem cK24:check qPp 24=some (12,(Vo 67 68).strip,[.tmp 2]):=by kernel_rfl
theorem sK24:Sound qPp 24 (.dat true Zm):=by
  apply Qai (hc:=cK24) h45<;>first|exact qrS|skip
  all_goals decide
def L46:qLS:=(24,.dat true Zm)::L45
theorem h46:qHL L46:=qa h45 sK24
theorem cK93:check qPp 93=some (18,(Yh 76 24 68).strip,[.tmp 2]):=by kernel_rfl
theorem sK93:Sound qPp 93 (.dat false (xj 68)):=by
  apply qZ (hc:=cK93) h46<;>first|exact qrS|skip
  all_goals decide
def L47:qLS:=(93,.dat false (xj 68))::L46
theorem h47:qHL L47:=qa h46 sK93
theorem cK46:check qPp 46=some (11,(uf 76).strip,[.tmp 2]):=by kernel_rfl
theorem sK46:Sound qPp 46 (.dat true yd):=by
  apply wG (hc:=cK46) h47<;>first|exact qrS|skip
  all_goals decide
def L48:qLS:=(46,.dat true yd)::L47
theorem h48:qHL L48:=qa h47 sK46
theorem cK45:check qPp 45=some (12,(Zq 93 46).strip,[.tmp 2]):=by kernel_rfl
theorem sK45:Sound qPp 45 (.dat true QB):=by
  apply WaA (hc:=cK45) h48<;>first|exact qrS|skip
  all_goals decide
def L49:qLS:=(45,.dat true QB)::L48
theorem h49:qHL L49:=qa h48 sK45
theorem cK120:check qPp 120=some (16,(Uu 45 68).strip,[.tmp 2]):=by kernel_rfl
theorem sK120:Sound qPp 120 (.dat false (kE 68)):=by
  apply qaE (hc:=cK120) h49<;>first|exact qrS|skip
  all_goals decide
def L50:qLS:=(120,.dat false (kE 68))::L49
theorem h50:qHL L50:=qa h49 sK120
theorem cK74:check qPp 74=some (13,(Zu 120 68).strip,[.tmp 2]):=by kernel_rfl
theorem sK74:Sound qPp 74 (.dat false (VA 68)):=by
  apply yaz (hc:=cK74) h50<;>first|exact qrS|skip
  all_goals decide
def L51:qLS:=(74,.dat false (VA 68))::L50
theorem h51:qHL L51:=qa h50 sK74
theorem cK75:check qPp 75=some (11,(km 76).strip,[.tmp 2]):=by kernel_rfl
theorem sK75:Sound qPp 75 (.dat true yd):=by
  apply waa (hc:=cK75) h51<;>first|exact qrS|skip
  all_goals decide
def L52:qLS:=(75,.dat true yd)::L51
theorem h52:qHL L52:=qa h51 sK75
theorem cK35:check qPp 35=some (28,(Zi 74 75 68).strip,[.tmp 4]):=by kernel_rfl
theorem sK35:Sound qPp 35 (.dat false (Wu 68)):=by
  apply wai (hc:=cK35) h52<;>first|exact qrS|skip
  all_goals decide
def L53:qLS:=(35,.dat false (Wu 68))::L52
theorem h53:qHL L53:=qa h52 sK35
theorem cK91:check qPp 91=some (9,(Xn 130 119 136).strip,[.cell 2 2 true]):=by kernel_rfl
theorem sK91:Sound qPp 91 (.dat false Vw):=by
  apply UQ (hc:=cK91) h53<;>first|exact qrS|skip
  all_goals decide
def L54:qLS:=(91,.dat false Vw)::L53
theorem h54:qHL L54:=qa h53 sK91
theorem cK139:check qPp 139=some (39,(xr 176 168).strip,[.tmp 4]):=by kernel_rfl
theorem sK139:Sound qPp 139 (.dat false qt):=by
  apply yaD (hc:=cK139) h54<;>first|exact qrS|skip
  all_goals decide
def L55:qLS:=(139,.dat false qt)::L54
theorem h55:qHL L55:=qa h54 sK139
theorem cK140:check qPp 140=some (38,(Wr 176 168).strip,[.tmp 4]):=by kernel_rfl
theorem sK140:Sound qPp 140 (.dat false Yt):=by
  apply YaB (hc:=cK140) h55<;>first|exact qrS|skip
  all_goals decide
def L56:qLS:=(140,.dat false Yt)::L55
theorem h56:qHL L56:=qa h55 sK140
theorem cK138:check qPp 138=some (47,(ju 119 161 130 139 140 136 68).strip,[.cell 4 2 true,.cell 5 2 true,.tmp 6]):=by kernel_rfl
theorem sK138:Sound qPp 138 (.dat false YF):=by
  apply Vaz (hc:=cK138) h56<;>first|exact qrS|skip
  all_goals decide
def L57:qLS:=(138,.dat false YF)::L56
theorem h57:qHL L57:=qa h56 sK138
theorem cK90:check qPp 90=some (47,(ko 68 91 122 138).strip,[.cell 4 3 true]):=by kernel_rfl
theorem sK90:Sound qPp 90 (.dat false zj):=by
  apply Qac (hc:=cK90) h57<;>first|exact qrS|skip
  all_goals decide
def L58:qLS:=(90,.dat false zj)::L57
theorem h58:qHL L58:=qa h57 sK90
theorem cK102:check qPp 102=some (7,(yn 131 86 90).strip,[.cell 2 3 true]):=by kernel_rfl
theorem sK102:Sound qPp 102 (.dat false ux):=by
  apply U1 (hc:=cK102) h58<;>first|exact qrS|skip
  all_goals decide
def L59:qLS:=(102,.dat false ux)::L58
theorem h59:qHL L59:=qa h58 sK102
theorem cK137:check qPp 137=some (67,(Yo 168).strip,[.tmp 4]):=by kernel_rfl
theorem sK137:Sound qPp 137 (.dat false Wx):=by
  apply wac (hc:=cK137) h59<;>first|exact qrS|skip
  all_goals decide
def L60:qLS:=(137,.dat false Wx)::L59
theorem h60:qHL L60:=qa h59 sK137
theorem cK89:check qPp 89=some (16,(vu 130 119 137 136).strip,[.cell 4 2 true]):=by kernel_rfl
theorem sK89:Sound qPp 89 (.dat false Jy):=by
  apply Qaz (hc:=cK89) h60<;>first|exact qrS|skip
  all_goals decide
def L61:qLS:=(89,.dat false Jy)::L60
theorem h61:qHL L61:=qa h60 sK89
theorem cK42:check qPp 42=some (26,(js 67 89 90).strip,[.cell 4 3 true]):=by kernel_rfl
theorem sK42:Sound qPp 42 (.dat false yi):=by
  apply QaB (hc:=cK42) h61<;>first|exact qrS|skip
  all_goals decide
def L62:qLS:=(42,.dat false yi)::L61
theorem h62:qHL L62:=qa h61 sK42
theorem cK92:check qPp 92=some (40,(Qv 119 130 139 136 129 140).strip,[.cell 4 2 true]):=by kernel_rfl
theorem sK92:Sound qPp 92 (.dat false xE):=by
  apply ZaD (hc:=cK92) h62<;>first|exact qrS|skip
  all_goals decide
def L63:qLS:=(92,.dat false xE)::L62
theorem h63:qHL L63:=qa h62 sK92
theorem cK41:check qPp 41=some (30,(Xq 67 89 92 90).strip,[.cell 4 3 true]):=by kernel_rfl
theorem sK41:Sound qPp 41 (.dat false Wk):=by
  apply kaE (hc:=cK41) h63<;>first|exact qrS|skip
  all_goals decide
def L64:qLS:=(41,.dat false Wk)::L63
theorem h64:qHL L64:=qa h63 sK41
theorem cK40:check qPp 40=some (14,(Ur 67 91 90).strip,[.cell 2 3 true]):=by kernel_rfl
theorem sK40:Sound qPp 40 (.dat false vy):=by
  apply qaA (hc:=cK40) h64<;>first|exact qrS|skip
  all_goals decide
def L65:qLS:=(40,.dat false vy)::L64
theorem h65:qHL L65:=qa h64 sK40
theorem cK43:check qPp 43=some (9,(uq 40 41).strip,[.cell 4 3 true]):=by kernel_rfl
theorem sK43:Sound qPp 43 (.dat false qo):=by
  apply VaD (hc:=cK43) h65<;>first|exact qrS|skip
  all_goals decide
def L66:qLS:=(43,.dat false qo)::L65
theorem h66:qHL L66:=qa h65 sK43
theorem cK88:check qPp 88=some (14,(Qo 68 90 68).strip,[.cell 4 3 true,.tmp 5]):=by kernel_rfl
theorem sK88:Sound qPp 88 (.dat false (zp 68)):=by
  apply wX (hc:=cK88) h66<;>first|exact qrS|skip
  all_goals decide
def L67:qLS:=(88,.dat false (zp 68))::L66
theorem h67:qHL L67:=qa h66 sK88
theorem cK39:check qPp 39=some (29,(zr 67 89 88).strip,[.cell 4 3 true,.tmp 5]):=by kernel_rfl
theorem sK39:Sound qPp 39 (.dat false (Qr 68)):=by
  apply Jae (hc:=cK39) h67<;>first|exact qrS|skip
  all_goals decide
def L68:qLS:=(39,.dat false (Qr 68))::L67
theorem h68:qHL L68:=qa h67 sK39
theorem cK208:check qPp 208=some (17,(vt 39).strip,[.cell 4 3 true]):=by kernel_rfl
theorem sK208:Sound qPp 208 (.dat false Zy):=by
  apply Vah (hc:=cK208) h68<;>first|exact qrS|skip
  all_goals decide
def L69:qLS:=(208,.dat false Zy)::L68
theorem h69:qHL L69:=qa h68 sK208
theorem cK177:check qPp 177=some (32,(wi 102 42 41 43 208).strip,[.cell 2 3 true,.cell 3 3 true]):=by kernel_rfl
theorem sK177:Sound qPp 177 (.dat false qB):=by
  apply qaz (hc:=cK177) h69<;>first|exact qrS|skip
  all_goals decide
def L70:qLS:=(177,.dat false qB)::L69
theorem h70:qHL L70:=qa h69 sK177
theorem cK141:check qPp 141=some (19,(Um 93 177).strip,[.cell 2 3 true,.tmp 3]):=by kernel_rfl
theorem sK141:Sound qPp 141 (.dat false (qD 68)):=by
  apply uaD (hc:=cK141) h70<;>first|exact qrS|skip
  all_goals decide
def L71:qLS:=(141,.dat false (qD 68))::L70
theorem h71:qHL L71:=qa h70 sK141
theorem cK142:check qPp 142=some (19,(jn 93 177).strip,[.cell 2 3 true,.tmp 3]):=by kernel_rfl
theorem sK142:Sound qPp 142 (.dat false (xC 68)):=by
  apply QaA (hc:=cK142) h71<;>first|exact qrS|skip
  all_goals decide
def L72:qLS:=(142,.dat false (xC 68))::L71
theorem h72:qHL L72:=qa h71 sK142
theorem cK94:check qPp 94=some (29,(ki 93 141 142 68).strip,[.cell 2 3 true,.cell 3 3 true,.tmp 4]):=by kernel_rfl
theorem sK94:Sound qPp 94 (.dat false (XE 68)):=by
  apply JaC (hc:=cK94) h72<;>first|exact qrS|skip
  all_goals decide
def L73:qLS:=(94,.dat false (XE 68))::L72
theorem h73:qHL L73:=qa h72 sK94
theorem cK47:check qPp 47=some (38,(xn 94 42 43 41).strip,[.cell 4 6 true,.tmp 5]):=by kernel_rfl
theorem sK47:Sound qPp 47 (.dat false (vE 68)):=by
  apply kaA (hc:=cK47) h73<;>first|exact qrS|skip
  all_goals decide
def L74:qLS:=(47,.dat false (vE 68))::L73
theorem h74:qHL L74:=qa h73 sK47
theorem cK48:check qPp 48=some (16,(UB 41).strip,[.cell 4 6 true]):=by kernel_rfl
theorem sK48:Sound qPp 48 (.dat false Qn):=by
  apply kac (hc:=cK48) h74<;>first|exact qrS|skip
  all_goals decide
def L75:qLS:=(48,.dat false Qn)::L74
theorem h75:qHL L75:=qa h74 sK48
theorem cK12:check qPp 12=some (33,(zl 45 46 47 48 68).strip,[.cell 4 6 true,.tmp 5]):=by kernel_rfl
theorem sK12:Sound qPp 12 (.dat false (UA 68)):=by
  apply WaC (hc:=cK12) h75<;>first|exact qrS|skip
  all_goals decide
def L76:qLS:=(12,.dat false (UA 68))::L75
theorem h76:qHL L76:=qa h75 sK12
theorem cK77:check qPp 77=some (32,(xk 12).strip,[.tmp 4,.tmp 5]):=by kernel_rfl
theorem sK77:Sound qPp 77 (.dat false (xu 68)):=by
  apply Wae (hc:=cK77) h76<;>first|exact qrS|skip
  all_goals decide
def L77:qLS:=(77,.dat false (xu 68))::L76
theorem h77:qHL L77:=qa h76 sK77
theorem cK37:check qPp 37=some (16,(Ws 43).strip,[.cell 4 6 true]):=by kernel_rfl
theorem sK37:Sound qPp 37 (.dat false Wg):=by
  apply Wag (hc:=cK37) h77<;>first|exact qrS|skip
  all_goals decide
def L78:qLS:=(37,.dat false Wg)::L77
theorem h78:qHL L78:=qa h77 sK37
theorem cK123:check qPp 123=some (16,(ym 42 43).strip,[.cell 4 3 true]):=by kernel_rfl
theorem sK123:Sound qPp 123 (.dat false Qq):=by
  apply X7 (hc:=cK123) h78<;>first|exact qrS|skip
  all_goals decide
def L79:qLS:=(123,.dat false Qq)::L78
theorem h79:qHL L79:=qa h78 sK123
theorem cK38:check qPp 38=some (14,(Yl 42 41).strip,[.cell 2 3 true]):=by kernel_rfl
theorem sK38:Sound qPp 38 (.dat false ZH):=by
  apply uaV (hc:=cK38) h79<;>first|exact qrS|skip
  all_goals decide
def L80:qLS:=(38,.dat false ZH)::L79
theorem h80:qHL L80:=qa h79 sK38
theorem cK78:check qPp 78=some (89,(Jd 37 102 123 42 24 38 43 39 41 68).strip,[.cell 2 6 true,.tmp 3]):=by kernel_rfl
theorem sK78:Sound qPp 78 (.dat false (kx 68)):=by
  apply Xac (hc:=cK78) h80<;>first|exact qrS|skip
  all_goals decide
def L81:qLS:=(78,.dat false (kx 68))::L80
theorem h81:qHL L81:=qa h80 sK78
theorem cK79:check qPp 79=some (6,(vm 37).strip,[.cell 2 6 true]):=by kernel_rfl
theorem sK79:Sound qPp 79 (.dat false Wp):=by
  apply Z0 (hc:=cK79) h81<;>first|exact qrS|skip
  all_goals decide
def L82:qLS:=(79,.dat false Wp)::L81
theorem h82:qHL L82:=qa h81 sK79
theorem cK28:check qPp 28=some (47,(je 35 77 78 79 37 38).strip,[.cell 4 15 true,.tmp 5]):=by kernel_rfl
theorem sK28:Sound qPp 28 (.dat false (Vj 68)):=by
  apply kV (hc:=cK28) h82<;>first|exact qrS|skip
  all_goals decide
def L83:qLS:=(28,.dat false (Vj 68))::L82
theorem h83:qHL L83:=qa h82 sK28
theorem cK50:check qPp 50=some (26,(Ys 67 89 85).strip,[.tmp 4]):=by kernel_rfl
theorem sK50:Sound qPp 50 (.dat true Zk):=by
  apply Xaf (hc:=cK50) h83<;>first|exact qrS|skip
  all_goals decide
def L84:qLS:=(50,.dat true Zk)::L83
theorem h84:qHL L84:=qa h83 sK50
theorem cK27:check qPp 27=some (59,(Yc 74 75 76 77 37 38 50 68).strip,[.tmp 4,.tmp 5]):=by kernel_rfl
theorem sK27:Sound qPp 27 (.dat false (Ul 68)):=by
  apply uT (hc:=cK27) h84<;>first|exact qrS|skip
  all_goals decide
def L85:qLS:=(27,.dat false (Ul 68))::L84
theorem h85:qHL L85:=qa h84 sK27
theorem cK216:check qPp 216=some (15,We.strip,[.tmp 2]):=by kernel_rfl
theorem sK216:Sound qPp 216 (.dat false Yq):=by
  apply kX (hc:=cK216) h85<;>first|exact qrS|skip
  all_goals decide
def L86:qLS:=(216,.dat false Yq)::L85
theorem h86:qHL L86:=qa h85 sK216
theorem cK202:check qPp 202=some (54,(Vd 216 217 218 219).strip,[.tmp 4]):=by kernel_rfl
theorem sK202:Sound qPp 202 (.dat false vx):=by
  apply Vad (hc:=cK202) h86<;>first|exact qrS|skip
  all_goals decide
def L87:qLS:=(202,.dat false vx)::L86
theorem h87:qHL L87:=qa h86 sK202
theorem cK169:check qPp 169=some (5,(ue 202).strip,[.tmp 2]):=by kernel_rfl
theorem sK169:Sound qPp 169 (.dat false vn):=by
  apply Yag (hc:=cK169) h87<;>first|exact qrS|skip
  all_goals decide
def L88:qLS:=(169,.dat false vn)::L87
theorem h88:qHL L88:=qa h87 sK169
theorem cK133:check qPp 133=some (5,(Zr 169).strip,[.tmp 2]):=by kernel_rfl
theorem sK133:Sound qPp 133 (.dat false vn):=by
  apply xW (hc:=cK133) h88<;>first|exact qrS|skip
  all_goals decide
def L89:qLS:=(133,.dat false vn)::L88
theorem h89:qHL L89:=qa h88 sK133
theorem cK135:check qPp 135=some (75,(Us 172 173 175).strip,[.tmp 4]):=by kernel_rfl
theorem sK135:Sound qPp 135 (.dat false qx):=by
  apply uab (hc:=cK135) h89<;>first|exact qrS|skip
  all_goals decide
def L90:qLS:=(135,.dat false qx)::L89
theorem h90:qHL L90:=qa h89 sK135
theorem cK87:check qPp 87=some (44,(Xr 119 132 133 134 135 130).strip,[.tmp 2]):=by kernel_rfl
theorem sK87:Sound qPp 87 (.dat false jx):=by
  apply vaf (hc:=cK87) h90<;>first|exact qrS|skip
  all_goals decide
def L91:qLS:=(87,.dat false jx)::L90
theorem h91:qHL L91:=qa h90 sK87
theorem cK33:check qPp 33=some (22,(uo 67 86 85 87).strip,[.tmp 2]):=by kernel_rfl
theorem sK33:Sound qPp 33 (.dat false Jx):=by
  apply vae (hc:=cK33) h91<;>first|exact qrS|skip
  all_goals decide
def L92:qLS:=(33,.dat false Jx)::L91
theorem h92:qHL L92:=qa h91 sK33
theorem cK7:check qPp 7=some (58,(Vg 31 28 27 32 33).strip,[.tmp 0]):=by kernel_rfl
theorem sK7:Sound qPp 7 (.dat true Yu):=by
  apply Jai (hc:=cK7) h92<;>first|exact qrS|skip
  all_goals decide
def L93:qLS:=(7,.dat true Yu)::L92
theorem h93:qHL L93:=qa h92 sK7
theorem cK34:check qPp 34=some (40,jg.strip,[.tmp 2]):=by kernel_rfl
theorem sK34:Sound qPp 34 (.dat true Vp):=by
  apply kab (hc:=cK34) h93<;>first|exact qrS|skip
  all_goals decide
def L94:qLS:=(34,.dat true Vp)::L93
theorem h94:qHL L94:=qa h93 sK34
theorem cK8:check qPp 8=some (10,(vg 34).strip,[.tmp 2]):=by kernel_rfl
theorem sK8:Sound qPp 8 (.dat true Wq):=by
  apply UV (hc:=cK8) h94<;>first|exact qrS|skip
  all_goals decide
def L95:qLS:=(8,.dat true Wq)::L94
theorem h95:qHL L95:=qa h94 sK8
theorem cK9:check qPp 9=some (35,Xd.strip,[.tmp 2]):=by kernel_rfl
theorem sK9:Sound qPp 9 (.dat true kp):=by
  apply UW (hc:=cK9) h95<;>first|exact qrS|skip
  all_goals decide
def L96:qLS:=(9,.dat true kp)::L95
theorem h96:qHL L96:=qa h95 sK9
theorem cK36:check qPp 36=some (19,(Yj 50).strip,[.tmp 4]):=by kernel_rfl
theorem sK36:Sound qPp 36 (.dat true Xx):=by
  apply Jah (hc:=cK36) h96<;>first|exact qrS|skip
  all_goals decide
def L97:qLS:=(36,.dat true Xx)::L96
theorem h97:qHL L97:=qa h96 sK36
theorem cK10:check qPp 10=some (115,(Qc 35 36 28 37 38 42 41 40 39 43 68).strip,[.cell 6 27 true,.tmp 7]):=by kernel_rfl
theorem sK10:Sound qPp 10 (.dat false (Uw 68)):=by
  apply Qad (hc:=cK10) h97<;>first|exact qrS|skip
  all_goals decide
def L98:qLS:=(10,.dat false (Uw 68))::L97
theorem h98:qHL L98:=qa h97 sK10
theorem cK104:check qPp 104=some (26,kh.strip,[.tmp 4]):=by kernel_rfl
theorem sK104:Sound qPp 104 (.dat true Xp):=by
  apply jab (hc:=cK104) h98<;>first|exact qrS|skip
  all_goals decide
def L99:qLS:=(104,.dat true Xp)::L98
theorem h99:qHL L99:=qa h98 sK104
theorem cK56:check qPp 56=some (24,(vk 104).strip,[.tmp 4]):=by kernel_rfl
theorem sK56:Sound qPp 56 (.dat true jB):=by
  apply waA (hc:=cK56) h99<;>first|exact qrS|skip
  all_goals decide
def L100:qLS:=(56,.dat true jB)::L99
theorem h100:qHL L100:=qa h99 sK56
theorem cK16:check qPp 16=some (17,(Qe 56).strip,[.tmp 4]):=by kernel_rfl
theorem sK16:Sound qPp 16 (.dat true ut):=by
  apply Yah (hc:=cK16) h100<;>first|exact qrS|skip
  all_goals decide
def L101:qLS:=(16,.dat true ut)::L100
theorem h101:qHL L101:=qa h100 sK16
theorem cK44:check qPp 44=some (27,(qj 56).strip,[.tmp 4]):=by kernel_rfl
theorem sK44:Sound qPp 44 (.dat true Xw):=by
  apply yad (hc:=cK44) h101<;>first|exact qrS|skip
  all_goals decide
def L102:qLS:=(44,.dat true Xw)::L101
theorem h102:qHL L102:=qa h101 sK44
theorem cK11:check qPp 11=some (42,(Uc 16 44).strip,[.tmp 4]):=by kernel_rfl
theorem sK11:Sound qPp 11 (.dat true yq):=by
  apply jX (hc:=cK11) h102<;>first|exact qrS|skip
  all_goals decide
def L103:qLS:=(11,.dat true yq)::L102
theorem h103:qHL L103:=qa h102 sK11
theorem cK96:check qPp 96=some (11,(uf 76).strip,[.tmp 2]):=by kernel_rfl
theorem sK96:Sound qPp 96 (.dat true yd):=by
  apply wG (hc:=cK96) h103<;>first|exact qrS|skip
  all_goals decide
def L104:qLS:=(96,.dat true yd)::L103
theorem h104:qHL L104:=qa h103 sK96
theorem cK95:check qPp 95=some (75,(zg 96 76 24 50 68).strip,[.tmp 2]):=by kernel_rfl
theorem sK95:Sound qPp 95 (.dat false (uA 68)):=by
  apply vaC (hc:=cK95) h104<;>first|exact qrS|skip
  all_goals decide
def L105:qLS:=(95,.dat false (uA 68))::L104
theorem h105:qHL L105:=qa h104 sK95
theorem cK49:check qPp 49=some (24,(uj 95 96 68).strip,[.tmp 4]):=by kernel_rfl
theorem sK49:Sound qPp 49 (.dat false (qs 68)):=by
  apply vad (hc:=cK49) h105<;>first|exact qrS|skip
  all_goals decide
def L106:qLS:=(49,.dat false (qs 68))::L105
theorem h106:qHL L106:=qa h105 sK49
theorem cK54:check qPp 54=some (16,(ku 43).strip,[.cell 4 6 true]):=by kernel_rfl
theorem sK54:Sound qPp 54 (.dat false Wg):=by
  apply zac (hc:=cK54) h106<;>first|exact qrS|skip
  all_goals decide
def L107:qLS:=(54,.dat false Wg)::L106
theorem h107:qHL L107:=qa h106 sK54
theorem cK97:check qPp 97=some (12,(Xm 42 41).strip,[.cell 4 3 true]):=by kernel_rfl
theorem sK97:Sound qPp 97 (.dat false JB):=by
  apply jaA (hc:=cK97) h107<;>first|exact qrS|skip
  all_goals decide
def L108:qLS:=(97,.dat false JB)::L107
theorem h108:qHL L108:=qa h107 sK97
theorem cK51:check qPp 51=some (14,(Vk 54 97).strip,[.cell 4 3 true]):=by kernel_rfl
theorem sK51:Sound qPp 51 (.dat false zD):=by
  apply UaC (hc:=cK51) h108<;>first|exact qrS|skip
  all_goals decide
def L109:qLS:=(51,.dat false zD)::L108
theorem h109:qHL L109:=qa h108 sK51
theorem cK13:check qPp 13=some (44,(Ze 49 51 50).strip,[.tmp 6,.tmp 7]):=by kernel_rfl
theorem sK13:Sound qPp 13 (.dat false (yD 68)):=by
  apply VaE (hc:=cK13) h109<;>first|exact qrS|skip
  all_goals decide
def L110:qLS:=(13,.dat false (yD 68))::L109
theorem h110:qHL L110:=qa h109 sK13
theorem cK53:check qPp 53=some (26,(Wo 42 43 41).strip,[.cell 6 6 true]):=by kernel_rfl
theorem sK53:Sound qPp 53 (.dat false vV):=by
  apply QaI (hc:=cK53) h110<;>first|exact qrS|skip
  all_goals decide
def L111:qLS:=(53,.dat false vV)::L110
theorem h111:qHL L111:=qa h110 sK53
theorem cK52:check qPp 52=some (16,(Vu 41).strip,[.cell 4 6 true]):=by kernel_rfl
theorem sK52:Sound qPp 52 (.dat false Qn):=by
  apply uag (hc:=cK52) h111<;>first|exact qrS|skip
  all_goals decide
def L112:qLS:=(52,.dat false Qn)::L111
theorem h112:qHL L112:=qa h111 sK52
theorem cK14:check qPp 14=some (28,(Uj 49 54 53 52).strip,[.cell 6 6 true,.tmp 7]):=by kernel_rfl
theorem sK14:Sound qPp 14 (.dat false (XD 68)):=by
  apply uax (hc:=cK14) h112<;>first|exact qrS|skip
  all_goals decide
def L113:qLS:=(14,.dat false (XD 68))::L112
theorem h113:qHL L113:=qa h112 sK14
theorem cK117:check qPp 117=some (29,jo.strip,[.tmp 2]):=by kernel_rfl
theorem sK117:Sound qPp 117 (.dat true jj):=by
  apply zT (hc:=cK117) h113<;>first|exact qrS|skip
  all_goals decide
def L114:qLS:=(117,.dat true jj)::L113
theorem h114:qHL L114:=qa h113 sK117
theorem cK181:check qPp 181=some (8,Je.strip,[.tmp 2]):=by kernel_rfl
theorem sK181:Sound qPp 181 (.fresh 5 Wn):=by
  apply Xaa (hc:=cK181) h114<;>first|exact qrS|skip
  all_goals decide
def L115:qLS:=(181,.fresh 5 Wn)::L114
theorem h115:qHL L115:=qa h114 sK181
theorem cK192:check qPp 192=some (6,Ju.strip,[.tmp 2]):=by kernel_rfl
theorem sK192:Sound qPp 192 (.dat true kF):=by
  apply jaB (hc:=cK192) h115<;>first|exact qrS|skip
  all_goals decide
def L116:qLS:=(192,.dat true kF)::L115
theorem h116:qHL L116:=qa h115 sK192
theorem cK160:check qPp 160=some (20,(Uf 192).strip,[.tmp 4]):=by kernel_rfl
theorem sK160:Sound qPp 160 (.dat true yE):=by
  apply QaD (hc:=cK160) h116<;>first|exact qrS|skip
  all_goals decide
def L117:qLS:=(160,.dat true yE)::L116
theorem h117:qHL L117:=qa h116 sK160
theorem cK159:check qPp 159=some (18,VC.strip,[.tmp 2]):=by kernel_rfl
theorem sK159:Sound qPp 159 (.dat true ZT):=by
  apply kaU (hc:=cK159) h117<;>first|exact qrS|skip
  all_goals decide
def L118:qLS:=(159,.dat true ZT)::L117
theorem h118:qHL L118:=qa h117 sK159
theorem cK118:check qPp 118=some (23,(kr 160 159).strip,[.tmp 4]):=by kernel_rfl
theorem sK118:Sound qPp 118 (.dat true zw):=by
  apply Y0 (hc:=cK118) h118<;>first|exact qrS|skip
  all_goals decide
def L119:qLS:=(118,.dat true zw)::L118
theorem h119:qHL L119:=qa h118 sK118
theorem cK229:check qPp 229=some (53,Wc.strip,[]):=by kernel_rfl
theorem sK229:Sound qPp 229 (.own (kC 118)):=by
  apply Jaz (hc:=cK229) h119<;>first|exact qrS|skip
  all_goals decide
def L120:qLS:=(229,.own (kC 118))::L119
theorem h120:qHL L120:=qa h119 sK229
theorem cK234:check qPp 234=some (38,kd.strip,[]):=by kernel_rfl
theorem sK234:Sound qPp 234 (.own (YA 118)):=by
  apply uaB (hc:=cK234) h120<;>first|exact qrS|skip
  all_goals decide
def L121:qLS:=(234,.own (YA 118))::L120
theorem h121:qHL L121:=qa h120 sK234
theorem cK233:check qPp 233=some (58,(ze 234).strip,[]):=by kernel_rfl
theorem sK233:Sound qPp 233 (.own (jF 118)):=by
  apply Uaz (hc:=cK233) h121<;>first|exact qrS|skip
  all_goals decide
def L122:qLS:=(233,.own (jF 118))::L121
theorem h122:qHL L122:=qa h121 sK233
theorem cK230:check qPp 230=some (220,(Qb 233 230).strip,[]):=by kernel_rfl
theorem sK230:Sound qPp 230 (.own (wh 118 10000)):=by
  apply QS (hc:=cK230) h122<;>first|exact qrS|skip
  all_goals decide
def L123:qLS:=(230,.own (wh 118 10000))::L122
theorem h123:qHL L123:=qa h122 sK230
theorem cK222:check qPp 222=some (63,(qe 229 230).strip,[]):=by kernel_rfl
theorem sK222:Sound qPp 222 (.own (Vz 118 10000)):=by
  apply Wac (hc:=cK222) h123<;>first|exact qrS|skip
  all_goals decide
def L124:qLS:=(222,.own (Vz 118 10000))::L123
theorem h124:qHL L124:=qa h123 sK222
theorem cK209:check qPp 209=some (9,(ud 222).strip,[]):=by kernel_rfl
theorem sK209:Sound qPp 209 (.own (Qu 118 10000)):=by
  apply jai (hc:=cK209) h124<;>first|exact qrS|skip
  all_goals decide
def L125:qLS:=(209,.own (Qu 118 10000))::L124
theorem h125:qHL L125:=qa h124 sK209
theorem cK211:check qPp 211=some (7,(Vs 24).strip,[.tmp 2]):=by kernel_rfl
theorem sK211:Sound qPp 211 (.dat true yA):=by
  apply zaE (hc:=cK211) h125<;>first|exact qrS|skip
  all_goals decide
def L126:qLS:=(211,.dat true yA)::L125
theorem h126:qHL L126:=qa h125 sK211
theorem cK223:check qPp 223=some (19,Zg.strip,[.tmp 4]):=by kernel_rfl
theorem sK223:Sound qPp 223 (.dat true (uE 211)):=by
  apply vaz (hc:=cK223) h126<;>first|exact qrS|skip
  all_goals decide
def L127:qLS:=(223,.dat true (uE 211))::L126
theorem h127:qHL L127:=qa h126 sK223
theorem cK210:check qPp 210=some (42,(xc 223).strip,[.tmp 4]):=by kernel_rfl
theorem sK210:Sound qPp 210 (.own (jE 211)):=by
  apply vaB (hc:=cK210) h127<;>first|exact qrS|skip
  all_goals decide
def L128:qLS:=(210,.own (jE 211))::L127
theorem h128:qHL L128:=qa h127 sK210
theorem cK180:check qPp 180=some (60,(Qy 181 209 118 41 210 211).strip,[.tmp 2]):=by kernel_rfl
theorem sK180:Sound qPp 180 (.dat false (Uv 10000)):=by
  apply zaA (hc:=cK180) h128<;>first|exact qrS|skip
  all_goals decide
def L129:qLS:=(180,.dat false (Uv 10000))::L128
theorem h129:qHL L129:=qa h128 sK180
theorem cK178:check qPp 178=some (28,(Vn 117 76 180 68).strip,[.tmp 2,.tmp 3]):=by kernel_rfl
theorem sK178:Sound qPp 178 (.dat false (jv 68)):=by
  apply yag (hc:=cK178) h129<;>first|exact qrS|skip
  all_goals decide
def L130:qLS:=(178,.dat false (jv 68))::L129
theorem h130:qHL L130:=qa h129 sK178
theorem cK147:check qPp 147=some (17,qf.strip,[.tmp 6]):=by kernel_rfl
theorem sK147:Sound qPp 147 (.red Uk):=by
  apply wag (hc:=cK147) h130<;>first|exact qrS|skip
  all_goals decide
def L131:qLS:=(147,.red Uk)::L130
theorem h131:qHL L131:=qa h130 sK147
theorem cK143:check qPp 143=some (23,(uc 102 40 178 147).strip,[.tmp 6]):=by kernel_rfl
theorem sK143:Sound qPp 143 (.red WE):=by
  apply way (hc:=cK143) h131<;>first|exact qrS|skip
  all_goals decide
def L132:qLS:=(143,.red WE)::L131
theorem h132:qHL L132:=qa h131 sK143
theorem cK65:check qPp 65=some (48,(wl 117 76 24 118 68).strip,[.tmp 2]):=by kernel_rfl
theorem sK65:Sound qPp 65 (.dat false (Xl 68)):=by
  apply uZ (hc:=cK65) h132<;>first|exact qrS|skip
  all_goals decide
def L133:qLS:=(65,.dat false (Xl 68))::L132
theorem h133:qHL L133:=qa h132 sK65
theorem cK182:check qPp 182=some (28,(Zt 42).strip,[.tmp 4]):=by kernel_rfl
theorem sK182:Sound qPp 182 (.dat false xA):=by
  apply Uay (hc:=cK182) h133<;>first|exact qrS|skip
  all_goals decide
def L134:qLS:=(182,.dat false xA)::L133
theorem h134:qHL L134:=qa h133 sK182
theorem cK150:check qPp 150=some (16,(jl 65 182 180).strip,[.tmp 4,.tmp 5]):=by kernel_rfl
theorem sK150:Sound qPp 150 (.dat false (Qp 68)):=by
  apply QZ (hc:=cK150) h134<;>first|exact qrS|skip
  all_goals decide
def L135:qLS:=(150,.dat false (Qp 68))::L134
theorem h135:qHL L135:=qa h134 sK150
theorem cK101:check qPp 101=some (14,(we 150 147).strip,[.tmp 6]):=by kernel_rfl
theorem sK101:Sound qPp 101 (.red wn):=by
  apply WX (hc:=cK101) h135<;>first|exact qrS|skip
  all_goals decide
def L136:qLS:=(101,.red wn)::L135
theorem h136:qHL L136:=qa h135 sK101
theorem cK179:check qPp 179=some (18,(yo 65).strip,[.tmp 2]):=by kernel_rfl
theorem sK179:Sound qPp 179 (.dat false (jh 68)):=by
  apply JV (hc:=cK179) h136<;>first|exact qrS|skip
  all_goals decide
def L137:qLS:=(179,.dat false (jh 68))::L136
theorem h137:qHL L137:=qa h136 sK179
theorem cK148:check qPp 148=some (21,(Up 179 181 102 182 180).strip,[.tmp 4,.tmp 5]):=by kernel_rfl
theorem sK148:Sound qPp 148 (.dat false (JE 68)):=by
  apply uay (hc:=cK148) h137<;>first|exact qrS|skip
  all_goals decide
def L138:qLS:=(148,.dat false (JE 68))::L137
theorem h138:qHL L138:=qa h137 sK148
theorem cK99:check qPp 99=some (14,(kf 148 147).strip,[.tmp 6]):=by kernel_rfl
theorem sK99:Sound qPp 99 (.red Jz):=by
  apply zaB (hc:=cK99) h138<;>first|exact qrS|skip
  all_goals decide
def L139:qLS:=(99,.red Jz)::L138
theorem h139:qHL L139:=qa h138 sK99
theorem cK213:check qPp 213=some (27,Zn.strip,[.tmp 4]):=by kernel_rfl
theorem sK213:Sound qPp 213 (.fresh 5 Vx):=by
  apply wad (hc:=cK213) h139<;>first|exact qrS|skip
  all_goals decide
def L140:qLS:=(213,.fresh 5 Vx)::L139
theorem h140:qHL L140:=qa h139 sK213
theorem cK191:check qPp 191=some (36,(jk 213).strip,[.tmp 2]):=by kernel_rfl
theorem sK191:Sound qPp 191 (.fresh 5 Qx):=by
  apply jae (hc:=cK191) h140<;>first|exact qrS|skip
  all_goals decide
def L141:qLS:=(191,.fresh 5 Qx)::L140
theorem h141:qHL L141:=qa h140 sK191
theorem cK157:check qPp 157=some (19,(jp 179 191 180).strip,[.tmp 4,.tmp 5]):=by kernel_rfl
theorem sK157:Sound qPp 157 (.dat false (kD 68)):=by
  apply zay (hc:=cK157) h141<;>first|exact qrS|skip
  all_goals decide
def L142:qLS:=(157,.dat false (kD 68))::L141
theorem h142:qHL L142:=qa h141 sK157
theorem cK145:check qPp 145=some (14,(Zf 157 147).strip,[.tmp 6]):=by kernel_rfl
theorem sK145:Sound qPp 145 (.red uy):=by
  apply Yaz (hc:=cK145) h142<;>first|exact qrS|skip
  all_goals decide
def L143:qLS:=(145,.red uy)::L142
theorem h143:qHL L143:=qa h142 sK145
theorem cK144:check qPp 144=some (34,(ke 101 99 145).strip,[.cell 8 2 true]):=by kernel_rfl
theorem sK144:Sound qPp 144 (.red YD):=by
  apply qay (hc:=cK144) h143<;>first|exact qrS|skip
  all_goals decide
def L144:qLS:=(144,.red YD)::L143
theorem h144:qHL L144:=qa h143 sK144
theorem cK183:check qPp 183=some (21,Xj.strip,[.tmp 2]):=by kernel_rfl
theorem sK183:Sound qPp 183 (.dat true qE):=by
  apply waz (hc:=cK183) h144<;>first|exact qrS|skip
  all_goals decide
def L145:qLS:=(183,.dat true qE)::L144
theorem h145:qHL L145:=qa h144 sK183
theorem cK149:check qPp 149=some (71,(vl 179 183 42 180 68).strip,[.tmp 4,.tmp 5]):=by kernel_rfl
theorem sK149:Sound qPp 149 (.dat false (uD 68)):=by
  apply xaC (hc:=cK149) h145<;>first|exact qrS|skip
  all_goals decide
def L146:qLS:=(149,.dat false (uD 68))::L145
theorem h146:qHL L146:=qa h145 sK149
theorem cK100:check qPp 100=some (14,(jf 149 147).strip,[.tmp 6]):=by kernel_rfl
theorem sK100:Sound qPp 100 (.red yy):=by
  apply vaA (hc:=cK100) h146<;>first|exact qrS|skip
  all_goals decide
def L147:qLS:=(100,.red yy)::L146
theorem h147:qHL L147:=qa h146 sK100
theorem cK103:check qPp 103=some (19,(Ue 100 145).strip,[.tmp 4]):=by kernel_rfl
theorem sK103:Sound qPp 103 (.red VB):=by
  apply uaA (hc:=cK103) h147<;>first|exact qrS|skip
  all_goals decide
def L148:qLS:=(103,.red VB)::L147
theorem h148:qHL L148:=qa h147 sK103
theorem cK146:check qPp 146=some (13,(Yd 178 147).strip,[.tmp 4]):=by kernel_rfl
theorem sK146:Sound qPp 146 (.red ZF):=by
  apply jay (hc:=cK146) h148<;>first|exact qrS|skip
  all_goals decide
def L149:qLS:=(146,.red ZF)::L148
theorem h149:qHL L149:=qa h148 sK146
theorem cK98:check qPp 98=some (111,(Ye 143 102 43 40 144 97 42 103 146 145 99 100).strip,[.cell 4 7 true]):=by kernel_rfl
theorem sK98:Sound qPp 98 (.red yC):=by
  apply QaE (hc:=cK98) h149<;>first|exact qrS|skip
  all_goals decide
def L150:qLS:=(98,.red yC)::L149
theorem h150:qHL L150:=qa h149 sK98
theorem cK55:check qPp 55=some (78,(zk 95 98 100 99 102 42 101 103).strip,[.tmp 2,.tmp 3]):=by kernel_rfl
theorem sK55:Sound qPp 55 (.dat false (YC 68)):=by
  apply xaz (hc:=cK55) h150<;>first|exact qrS|skip
  all_goals decide
def L151:qLS:=(55,.dat false (YC 68))::L150
theorem h151:qHL L151:=qa h150 sK55
theorem cK66:check qPp 66=some (34,(wm 102 42 39 68).strip,[.cell 4 3 true,.tmp 5]):=by kernel_rfl
theorem sK66:Sound qPp 66 (.dat false (vF 68)):=by
  apply yaB (hc:=cK66) h151<;>first|exact qrS|skip
  all_goals decide
def L152:qLS:=(66,.dat false (vF 68))::L151
theorem h152:qHL L152:=qa h151 sK66
theorem cK23:check qPp 23=some (59,(Yn 65 66 42 41).strip,[.cell 6 3 true,.tmp 7]):=by kernel_rfl
theorem sK23:Sound qPp 23 (.dat false (uw 68)):=by
  apply Jaf (hc:=cK23) h152<;>first|exact qrS|skip
  all_goals decide
def L153:qLS:=(23,.dat false (uw 68))::L152
theorem h153:qHL L153:=qa h152 sK23
theorem cK15:check qPp 15=some (42,(Jp 49 55 23 24).strip,[.tmp 4,.tmp 5]):=by kernel_rfl
theorem sK15:Sound qPp 15 (.dat false (UE 68)):=by
  apply UaB (hc:=cK15) h153<;>first|exact qrS|skip
  all_goals decide
def L154:qLS:=(15,.dat false (UE 68))::L153
theorem h154:qHL L154:=qa h153 sK15
theorem cK3:check qPp 3=some (119,(jb 7 8 9 10 11 12 13 14 15 16).strip,[.tmp 6]):=by kernel_rfl
theorem sK3:Sound qPp 3 (.dat true Xk):=by
  apply US (hc:=cK3) h154<;>first|exact qrS|skip
  all_goals decide
def L155:qLS:=(3,.dat true Xk)::L154
theorem h155:qHL L155:=qa h154 sK3
theorem hold:qHL L155:=h155
end Go.Abs
