/-
  The contracts of this seat's functions, gathered.
-/
import Derived.Test.YtegaodlldjpcaaaGreatDoorChecked
import Derived.Test.YtegaodlldjpcaaaGreatDoorBits
import Derived.KernelRfl
import Derived.Test.YtegaodlldjpcaaaGreatDoorM14
set_option maxRecDepth 100000
set_option linter.unusedVariables false
namespace Go.Abs
open Go.Proofs
noncomputable abbrev qPp:=Tryz.prog
abbrev qLS:=List (Nat×Spec)
abbrev qHL(l:qLS):=Holds qPp (Gl l)
theorem qrS{a:Spec}:a=a:=rfl
theorem cK167:check qPp 167=some (25,Wd.strip,[.tmp 2]):=by kernel_rfl
theorem sK167:Sound qPp 167 (.fresh 1 Xx):=by
  apply waD (hc:=cK167) qaa<;>first|exact qrS|skip
  all_goals decide
def L1:qLS:=(167,.fresh 1 Xx)::[]
theorem h1:qHL L1:=Za qaa sK167
theorem cK128:check qPp 128=some (14,(Uh 167).strip,[.cell 4 2 true]):=by kernel_rfl
theorem sK128:Sound qPp 128 (.dat false yf):=by
  apply uab (hc:=cK128) h1<;>first|exact qrS|skip
  all_goals decide
def L2:qLS:=(128,.dat false yf)::L1
theorem h2:qHL L2:=Za h1 sK128
theorem cK83:check qPp 83=some (19,(zr 128).strip,[.cell 2 2 true]):=by kernel_rfl
theorem sK83:Sound qPp 83 (.dat false VI):=by
  apply kZ (hc:=cK83) h2<;>first|exact qrS|skip
  all_goals decide
def L3:qLS:=(83,.dat false VI)::L2
theorem h3:qHL L3:=Za h2 sK83
theorem cK84:check qPp 84=some (2,(Jm 83).strip,[.cell 0 2 true]):=by kernel_rfl
theorem sK84:Sound qPp 84 (.dat false Wp):=by
  apply uR (hc:=cK84) h3<;>first|exact qrS|skip
  all_goals decide
def L4:qLS:=(84,.dat false Wp)::L3
theorem h4:qHL L4:=Za h3 sK84
theorem cK190:check qPp 190=some (19,Zl.strip,[.tmp 2]):=by kernel_rfl
theorem sK190:Sound qPp 190 (.dat true jj):=by
  apply qI (hc:=cK190) h4<;>first|exact qrS|skip
  all_goals decide
def L5:qLS:=(190,.dat true jj)::L4
theorem h5:qHL L5:=Za h4 sK190
theorem cK154:check qPp 154=some (8,(yo 190).strip,[.tmp 2]):=by kernel_rfl
theorem sK154:Sound qPp 154 (.dat false Uj):=by
  apply zS (hc:=cK154) h5<;>first|exact qrS|skip
  all_goals decide
def L6:qLS:=(154,.dat false Uj)::L5
theorem h6:qHL L6:=Za h5 sK154
theorem cK163:check qPp 163=some (9,(Jo 190).strip,[.tmp 2]):=by kernel_rfl
theorem sK163:Sound qPp 163 (.dat true zg):=by
  apply VL (hc:=cK163) h6<;>first|exact qrS|skip
  all_goals decide
def L7:qLS:=(163,.dat true zg)::L6
theorem h7:qHL L7:=Za h6 sK163
theorem cK125:check qPp 125=some (9,(vi 154 163).strip,[.tmp 2]):=by kernel_rfl
theorem sK125:Sound qPp 125 (.dat true wh):=by
  apply uU (hc:=cK125) h7<;>first|exact qrS|skip
  all_goals decide
def L8:qLS:=(125,.dat true wh)::L7
theorem h8:qHL L8:=Za h7 sK125
theorem cK126:check qPp 126=some (9,(jo 163 154 128).strip,[.cell 2 2 true]):=by kernel_rfl
theorem sK126:Sound qPp 126 (.dat false yv):=by
  apply UP (hc:=cK126) h8<;>first|exact qrS|skip
  all_goals decide
def L9:qLS:=(126,.dat false yv)::L8
theorem h9:qHL L9:=Za h8 sK126
theorem cK201:check qPp 201=some (14,Xm.strip,[.tmp 4]):=by kernel_rfl
theorem sK201:Sound qPp 201 (.dat true Xl):=by
  apply XT (hc:=cK201) h9<;>first|exact qrS|skip
  all_goals decide
def L10:qLS:=(201,.dat true Xl)::L9
theorem h10:qHL L10:=Za h9 sK201
theorem cK189:check qPp 189=some (21,qk.strip,[.tmp 2]):=by kernel_rfl
theorem sK189:Sound qPp 189 (.own wac):=by
  apply jaY (hc:=cK189) h10<;>first|exact qrS|skip
  all_goals decide
def L11:qLS:=(189,.own wac)::L10
theorem h11:qHL L11:=Za h10 sK189
theorem cK186:check qPp 186=some (26,(zh 201 189).strip,[.tmp 2]):=by kernel_rfl
theorem sK186:Sound qPp 186 (.own Vq):=by
  apply kah (hc:=cK186) h11<;>first|exact qrS|skip
  all_goals decide
def L12:qLS:=(186,.own Vq)::L11
theorem h12:qHL L12:=Za h11 sK186
theorem cK187:check qPp 187=some (30,(Uf 201).strip,[.tmp 4]):=by kernel_rfl
theorem sK187:Sound qPp 187 (.dat true Qu):=by
  apply vak (hc:=cK187) h12<;>first|exact qrS|skip
  all_goals decide
def L13:qLS:=(187,.dat true Qu)::L12
theorem h13:qHL L13:=Za h12 sK187
theorem cK188:check qPp 188=some (31,(zf 201).strip,[]):=by kernel_rfl
theorem sK188:Sound qPp 188 (.own jy):=by
  apply zaI (hc:=cK188) h13<;>first|exact qrS|skip
  all_goals decide
def L14:qLS:=(188,.own jy)::L13
theorem h14:qHL L14:=Za h13 sK188
theorem cK165:check qPp 165=some (37,(ji 201 167).strip,[.tmp 4]):=by kernel_rfl
theorem sK165:Sound qPp 165 (.dat false Xq):=by
  apply jZ (hc:=cK165) h14<;>first|exact qrS|skip
  all_goals decide
def L15:qLS:=(165,.dat false Xq)::L14
theorem h15:qHL L15:=Za h14 sK165
theorem cK153:check qPp 153=some (72,(jk 167 186 187 188 189 165).strip,[.tmp 4]):=by kernel_rfl
theorem sK153:Sound qPp 153 (.dat false Zz):=by
  apply yaj (hc:=cK153) h15<;>first|exact qrS|skip
  all_goals decide
def L16:qLS:=(153,.dat false Zz)::L15
theorem h16:qHL L16:=Za h15 sK153
theorem cK108:check qPp 108=some (11,(Jk 154 153 128).strip,[.cell 4 2 true]):=by kernel_rfl
theorem sK108:Sound qPp 108 (.dat false Zv):=by
  apply XZ (hc:=cK108) h16<;>first|exact qrS|skip
  all_goals decide
def L17:qLS:=(108,.dat false Zv)::L16
theorem h17:qHL L17:=Za h16 sK108
theorem cK200:check qPp 200=some (25,Xi.strip,[.tmp 2]):=by kernel_rfl
theorem sK200:Sound qPp 200 (.dat true Vs):=by
  apply Uac (hc:=cK200) h17<;>first|exact qrS|skip
  all_goals decide
def L18:qLS:=(200,.dat true Vs)::L17
theorem h18:qHL L18:=Za h17 sK200
theorem cK164:check qPp 164=some (76,(Jg 200 187 188 167).strip,[.tmp 4,.tmp 5]):=by kernel_rfl
theorem sK164:Sound qPp 164 (.dat false yh):=by
  apply WO (hc:=cK164) h18<;>first|exact qrS|skip
  all_goals decide
def L19:qLS:=(164,.dat false yh)::L18
theorem h19:qHL L19:=Za h18 sK164
theorem cK166:check qPp 166=some (35,(Vh 201 167).strip,[.tmp 4]):=by kernel_rfl
theorem sK166:Sound qPp 166 (.dat false Qv):=by
  apply kX (hc:=cK166) h19<;>first|exact qrS|skip
  all_goals decide
def L20:qLS:=(166,.dat false Qv)::L19
theorem h20:qHL L20:=Za h19 sK166
theorem cK127:check qPp 127=some (45,(Vk 125 154 164 163 165 166 128).strip,[.cell 4 2 true,.cell 5 2 true,.tmp 6]):=by kernel_rfl
theorem sK127:Sound qPp 127 (.dat false xr):=by
  apply Uaa (hc:=cK127) h20<;>first|exact qrS|skip
  all_goals decide
def L21:qLS:=(127,.dat false xr)::L20
theorem h21:qHL L21:=Za h20 sK127
theorem cK82:check qPp 82=some (47,(Wi 125 126 108 127).strip,[.cell 4 3 true]):=by kernel_rfl
theorem sK82:Sound qPp 82 (.dat false kk):=by
  apply JW (hc:=cK82) h21<;>first|exact qrS|skip
  all_goals decide
def L22:qLS:=(82,.dat false kk)::L21
theorem h22:qHL L22:=Za h21 sK82
theorem cK32:check qPp 32=some (7,(Yo 83 84 82).strip,[.cell 2 3 true]):=by kernel_rfl
theorem sK32:Sound qPp 32 (.dat false yC):=by
  apply Y8 (hc:=cK32) h22<;>first|exact qrS|skip
  all_goals decide
def L23:qLS:=(32,.dat false yC)::L22
theorem h23:qHL L23:=Za h22 sK32
theorem cK57:check qPp 57=some (18,(Ug 32).strip,[.tmp 2]):=by kernel_rfl
theorem sK57:Sound qPp 57 (.dat false UG):=by
  apply ZaH (hc:=cK57) h23<;>first|exact qrS|skip
  all_goals decide
def L24:qLS:=(57,.dat false UG)::L23
theorem h24:qHL L24:=Za h23 sK57
theorem cK121:check qPp 121=some (19,Zl.strip,[.tmp 2]):=by kernel_rfl
theorem sK121:Sound qPp 121 (.dat true jj):=by
  apply qI (hc:=cK121) h24<;>first|exact qrS|skip
  all_goals decide
def L25:qLS:=(121,.dat true jj)::L24
theorem h25:qHL L25:=Za h24 sK121
theorem cK119:check qPp 119=some (8,(yo 121).strip,[.tmp 2]):=by kernel_rfl
theorem sK119:Sound qPp 119 (.dat false Uj):=by
  apply zS (hc:=cK119) h25<;>first|exact qrS|skip
  all_goals decide
def L26:qLS:=(119,.dat false Uj)::L25
theorem h26:qHL L26:=Za h25 sK119
theorem cK129:check qPp 129=some (41,qm.strip,[.tmp 4]):=by kernel_rfl
theorem sK129:Sound qPp 129 (.dat false Zi):=by
  apply jV (hc:=cK129) h26<;>first|exact qrS|skip
  all_goals decide
def L27:qLS:=(129,.dat false Zi)::L26
theorem h27:qHL L27:=Za h26 sK129
theorem cK168:check qPp 168=some (25,xt.strip,[.tmp 2]):=by kernel_rfl
theorem sK168:Sound qPp 168 (.dat false Wu):=by
  apply xaG (hc:=cK168) h27<;>first|exact qrS|skip
  all_goals decide
def L28:qLS:=(168,.dat false Wu)::L27
theorem h28:qHL L28:=Za h27 sK168
theorem cK132:check qPp 132=some (43,(Qq 168).strip,[.tmp 4,.tmp 5]):=by kernel_rfl
theorem sK132:Sound qPp 132 (.dat false Uw):=by
  apply Vah (hc:=cK132) h28<;>first|exact qrS|skip
  all_goals decide
def L29:qLS:=(132,.dat false Uw)::L28
theorem h29:qHL L29:=Za h28 sK132
theorem sK193:Sound qPp 193 (.dat true lz_G):=UaM (jx Tryz.func193 (by kernel_rfl) (by kernel_rfl)) Ubo ZbB Tryz.bits_LeadingZeros32
def L30:qLS:=(193,.dat true lz_G)::L29
theorem h30:qHL L30:=Za h29 sK193
theorem cK194:check qPp 194=some (41,yA.strip,[.tmp 4]):=by kernel_rfl
theorem sK194:Sound qPp 194 (.fresh 1 up_G):=by
  apply ua9 (hc:=cK194) h30<;>first|exact qrS|skip
  all_goals decide
def L31:qLS:=(194,.fresh 1 up_G)::L30
theorem h31:qHL L31:=Za h30 sK194
theorem cK176:check qPp 176=some (14,Xm.strip,[.tmp 4]):=by kernel_rfl
theorem sK176:Sound qPp 176 (.dat true Xl):=by
  apply XT (hc:=cK176) h31<;>first|exact qrS|skip
  all_goals decide
def L32:qLS:=(176,.dat true Xl)::L31
theorem h32:qHL L32:=Za h31 sK176
theorem cK195:check qPp 195=some (46,(Yn 176).strip,[.tmp 6]):=by kernel_rfl
theorem sK195:Sound qPp 195 (.own Xs):=by
  apply Jae (hc:=cK195) h32<;>first|exact qrS|skip
  all_goals decide
def L33:qLS:=(195,.own Xs)::L32
theorem h33:qHL L33:=Za h32 sK195
theorem cK196:check qPp 196=some (30,(Ut 176).strip,[]):=by kernel_rfl
theorem sK196:Sound qPp 196 (.own zH):=by
  apply kaF (hc:=cK196) h33<;>first|exact qrS|skip
  all_goals decide
def L34:qLS:=(196,.own zH)::L33
theorem h34:qHL L34:=Za h33 sK196
theorem cK197:check qPp 197=some (35,(yu 176 168).strip,[.tmp 4]):=by kernel_rfl
theorem sK197:Sound qPp 197 (.dat false xG):=by
  apply vaH (hc:=cK197) h34<;>first|exact qrS|skip
  all_goals decide
def L35:qLS:=(197,.dat false xG)::L34
theorem h35:qHL L35:=Za h34 sK197
theorem cK161:check qPp 161=some (158,(Zj 129 168 132 193 194 195 196 197).strip,[.tmp 4,.tmp 5]):=by kernel_rfl
theorem sK161:Sound qPp 161 (.dat false yh):=by
  apply X4 (hc:=cK161) h35<;>first|exact qrS|skip
  all_goals decide
def L36:qLS:=(161,.dat false yh)::L35
theorem h36:qHL L36:=Za h35 sK161
theorem cK136:check qPp 136=some (15,(Up 168).strip,[.cell 4 2 true]):=by kernel_rfl
theorem sK136:Sound qPp 136 (.dat false yf):=by
  apply Waf (hc:=cK136) h36<;>first|exact qrS|skip
  all_goals decide
def L37:qLS:=(136,.dat false yf)::L36
theorem h37:qHL L37:=Za h36 sK136
theorem cK122:check qPp 122=some (26,(Jw 119 161 136).strip,[.cell 4 2 true]):=by kernel_rfl
theorem sK122:Sound qPp 122 (.dat false Zv):=by
  apply uaE (hc:=cK122) h37<;>first|exact qrS|skip
  all_goals decide
def L38:qLS:=(122,.dat false Zv)::L37
theorem h38:qHL L38:=Za h37 sK122
theorem cK131:check qPp 131=some (19,(zr 136).strip,[.cell 2 2 true]):=by kernel_rfl
theorem sK131:Sound qPp 131 (.dat false VI):=by
  apply kZ (hc:=cK131) h38<;>first|exact qrS|skip
  all_goals decide
def L39:qLS:=(131,.dat false VI)::L38
theorem h39:qHL L39:=Za h38 sK131
theorem cK86:check qPp 86=some (2,(Jm 131).strip,[.cell 0 2 true]):=by kernel_rfl
theorem sK86:Sound qPp 86 (.dat false Wp):=by
  apply uR (hc:=cK86) h39<;>first|exact qrS|skip
  all_goals decide
def L40:qLS:=(86,.dat false Wp)::L39
theorem h40:qHL L40:=Za h39 sK86
theorem cK68:check qPp 68=some (11,(vu 119).strip,[.tmp 2]):=by kernel_rfl
theorem sK68:Sound qPp 68 (.dat true wh):=by
  apply Yai (hc:=cK68) h40<;>first|exact qrS|skip
  all_goals decide
def L41:qLS:=(68,.dat true wh)::L40
theorem h41:qHL L41:=Za h40 sK68
theorem cK130:check qPp 130=some (9,(Jo 121).strip,[.tmp 2]):=by kernel_rfl
theorem sK130:Sound qPp 130 (.dat true zg):=by
  apply VL (hc:=cK130) h41<;>first|exact qrS|skip
  all_goals decide
def L42:qLS:=(130,.dat true zg)::L41
theorem h42:qHL L42:=Za h41 sK130
theorem cK85:check qPp 85=some (28,(Ww 68 119 129 130).strip,[.tmp 4]):=by kernel_rfl
theorem sK85:Sound qPp 85 (.dat true kB):=by
  apply WaD (hc:=cK85) h42<;>first|exact qrS|skip
  all_goals decide
def L43:qLS:=(85,.dat true kB)::L42
theorem h43:qHL L43:=Za h42 sK85
theorem cK76:check qPp 76=some (50,(Vn 121 122 86 85).strip,[.tmp 2]):=by kernel_rfl
theorem sK76:Sound qPp 76 (.dat true yd):=by
  apply W2 (hc:=cK76) h43<;>first|exact qrS|skip
  all_goals decide
def L44:qLS:=(76,.dat true yd)::L43
theorem h44:qHL L44:=Za h43 sK76
theorem cK67:check qPp 67=some (28,(Zo 76 86).strip,[.cell 2 2 true,.cell 3 2 true]):=by kernel_rfl
theorem sK67:Sound qPp 67 (.dat false we):=by
  apply yaa (hc:=cK67) h44<;>first|exact qrS|skip
  all_goals decide
def L45:qLS:=(67,.dat false we)::L44
theorem h45:qHL L45:=Za h44 sK67
theorem cK24:check qPp 24=some (12,(jl 67 68).strip,[.tmp 2]):=by kernel_rfl
theorem sK24:Sound qPp 24 (.dat true wi):=by
  apply WM (hc:=cK24) h45<;>first|exact qrS|skip
  all_goals decide
def L46:qLS:=(24,.dat true wi)::L45
theorem h46:qHL L46:=Za h45 sK24
theorem cK93:check qPp 93=some (18,(Vj 76 24 68).strip,[.tmp 2]):=by kernel_rfl
theorem sK93:Sound qPp 93 (.dat false (Jl 68)):=by
  apply vaa (hc:=cK93) h46<;>first|exact qrS|skip
  all_goals decide
def L47:qLS:=(93,.dat false (Jl 68))::L46
theorem h47:qHL L47:=Za h46 sK93
theorem cK46:check qPp 46=some (11,(Ue 76).strip,[.tmp 2]):=by kernel_rfl
theorem sK46:Sound qPp 46 (.dat true Vd):=by
  apply vB (hc:=cK46) h47<;>first|exact qrS|skip
  all_goals decide
def L48:qLS:=(46,.dat true Vd)::L47
theorem h48:qHL L48:=Za h47 sK46
theorem cK45:check qPp 45=some (12,(Vr 93 46).strip,[.tmp 2]):=by kernel_rfl
theorem sK45:Sound qPp 45 (.dat true Wv):=by
  apply JaF (hc:=cK45) h48<;>first|exact qrS|skip
  all_goals decide
def L49:qLS:=(45,.dat true Wv)::L48
theorem h49:qHL L49:=Za h48 sK45
theorem cK120:check qPp 120=some (16,(yw 45 68).strip,[.tmp 2]):=by kernel_rfl
theorem sK120:Sound qPp 120 (.dat false (UE 68)):=by
  apply qaE (hc:=cK120) h49<;>first|exact qrS|skip
  all_goals decide
def L50:qLS:=(120,.dat false (UE 68))::L49
theorem h50:qHL L50:=Za h49 sK120
theorem cK74:check qPp 74=some (13,(kw 120 68).strip,[.tmp 2]):=by kernel_rfl
theorem sK74:Sound qPp 74 (.dat false (YB 68)):=by
  apply XaC (hc:=cK74) h50<;>first|exact qrS|skip
  all_goals decide
def L51:qLS:=(74,.dat false (YB 68))::L50
theorem h51:qHL L51:=Za h50 sK74
theorem cK61:check qPp 61=some (13,(Qf 74 68).strip,[.tmp 2]):=by kernel_rfl
theorem sK61:Sound qPp 61 (.dat false (xC 68)):=by
  apply kaG (hc:=cK61) h51<;>first|exact qrS|skip
  all_goals decide
def L52:qLS:=(61,.dat false (xC 68))::L51
theorem h52:qHL L52:=Za h51 sK61
theorem cK91:check qPp 91=some (9,(jo 130 119 136).strip,[.cell 2 2 true]):=by kernel_rfl
theorem sK91:Sound qPp 91 (.dat false yv):=by
  apply UP (hc:=cK91) h52<;>first|exact qrS|skip
  all_goals decide
def L53:qLS:=(91,.dat false yv)::L52
theorem h53:qHL L53:=Za h52 sK91
theorem cK139:check qPp 139=some (39,(Jv 176 168).strip,[.tmp 4]):=by kernel_rfl
theorem sK139:Sound qPp 139 (.dat false Xq):=by
  apply ZaE (hc:=cK139) h53<;>first|exact qrS|skip
  all_goals decide
def L54:qLS:=(139,.dat false Xq)::L53
theorem h54:qHL L54:=Za h53 sK139
theorem cK140:check qPp 140=some (38,(Vt 176 168).strip,[.tmp 4]):=by kernel_rfl
theorem sK140:Sound qPp 140 (.dat false Qv):=by
  apply VaD (hc:=cK140) h54<;>first|exact qrS|skip
  all_goals decide
def L55:qLS:=(140,.dat false Qv)::L54
theorem h55:qHL L55:=Za h54 sK140
theorem cK138:check qPp 138=some (47,(Zw 119 161 130 139 140 136 68).strip,[.cell 4 2 true,.cell 5 2 true,.tmp 6]):=by kernel_rfl
theorem sK138:Sound qPp 138 (.dat false WE):=by
  apply WaE (hc:=cK138) h55<;>first|exact qrS|skip
  all_goals decide
def L56:qLS:=(138,.dat false WE)::L55
theorem h56:qHL L56:=Za h55 sK138
theorem cK90:check qPp 90=some (47,(Xp 68 91 122 138).strip,[.cell 4 3 true]):=by kernel_rfl
theorem sK90:Sound qPp 90 (.dat false kk):=by
  apply Zaj (hc:=cK90) h56<;>first|exact qrS|skip
  all_goals decide
def L57:qLS:=(90,.dat false kk)::L56
theorem h57:qHL L57:=Za h56 sK90
theorem cK102:check qPp 102=some (7,(Yo 131 86 90).strip,[.cell 2 3 true]):=by kernel_rfl
theorem sK102:Sound qPp 102 (.dat false yC):=by
  apply Y8 (hc:=cK102) h57<;>first|exact qrS|skip
  all_goals decide
def L58:qLS:=(102,.dat false yC)::L57
theorem h58:qHL L58:=Za h57 sK102
theorem cK137:check qPp 137=some (67,(Zq 168).strip,[.tmp 4]):=by kernel_rfl
theorem sK137:Sound qPp 137 (.dat false JA):=by
  apply qaj (hc:=cK137) h58<;>first|exact qrS|skip
  all_goals decide
def L59:qLS:=(137,.dat false JA)::L58
theorem h59:qHL L59:=Za h58 sK137
theorem cK89:check qPp 89=some (16,(Vw 130 119 137 136).strip,[.cell 4 2 true]):=by kernel_rfl
theorem sK89:Sound qPp 89 (.dat false UA):=by
  apply YaC (hc:=cK89) h59<;>first|exact qrS|skip
  all_goals decide
def L60:qLS:=(89,.dat false UA)::L59
theorem h60:qHL L60:=Za h59 sK89
theorem cK42:check qPp 42=some (26,(Ju 67 89 90).strip,[.cell 4 3 true]):=by kernel_rfl
theorem sK42:Sound qPp 42 (.dat false Zn):=by
  apply WaF (hc:=cK42) h60<;>first|exact qrS|skip
  all_goals decide
def L61:qLS:=(42,.dat false Zn)::L60
theorem h61:qHL L61:=Za h60 sK42
theorem cK92:check qPp 92=some (40,(ww 119 130 139 136 129 140).strip,[.cell 4 2 true]):=by kernel_rfl
theorem sK92:Sound qPp 92 (.dat false Vx):=by
  apply jaE (hc:=cK92) h61<;>first|exact qrS|skip
  all_goals decide
def L62:qLS:=(92,.dat false Vx)::L61
theorem h62:qHL L62:=Za h61 sK92
theorem cK41:check qPp 41=some (30,(jv 67 89 92 90).strip,[.cell 4 3 true]):=by kernel_rfl
theorem sK41:Sound qPp 41 (.dat false Uo):=by
  apply vaF (hc:=cK41) h62<;>first|exact qrS|skip
  all_goals decide
def L63:qLS:=(41,.dat false Uo)::L62
theorem h63:qHL L63:=Za h62 sK41
theorem cK40:check qPp 40=some (14,(Zu 67 91 90).strip,[.cell 2 3 true]):=by kernel_rfl
theorem sK40:Sound qPp 40 (.dat false zD):=by
  apply yaD (hc:=cK40) h63<;>first|exact qrS|skip
  all_goals decide
def L64:qLS:=(40,.dat false zD)::L63
theorem h64:qHL L64:=Za h63 sK40
theorem cK43:check qPp 43=some (9,(uu 40 41).strip,[.cell 4 3 true]):=by kernel_rfl
theorem sK43:Sound qPp 43 (.dat false Yq):=by
  apply WaI (hc:=cK43) h64<;>first|exact qrS|skip
  all_goals decide
def L65:qLS:=(43,.dat false Yq)::L64
theorem h65:qHL L65:=Za h64 sK43
theorem cK88:check qPp 88=some (14,(jq 68 90 68).strip,[.cell 4 3 true,.tmp 5]):=by kernel_rfl
theorem sK88:Sound qPp 88 (.dat false (qt 68)):=by
  apply WZ (hc:=cK88) h65<;>first|exact qrS|skip
  all_goals decide
def L66:qLS:=(88,.dat false (qt 68))::L65
theorem h66:qHL L66:=Za h65 sK88
theorem cK39:check qPp 39=some (29,(Wt 67 89 88).strip,[.cell 4 3 true,.tmp 5]):=by kernel_rfl
theorem sK39:Sound qPp 39 (.dat false (Yt 68)):=by
  apply Yah (hc:=cK39) h66<;>first|exact qrS|skip
  all_goals decide
def L67:qLS:=(39,.dat false (Yt 68))::L66
theorem h67:qHL L67:=Za h66 sK39
theorem cK208:check qPp 208=some (17,(uv 39).strip,[.cell 4 3 true]):=by kernel_rfl
theorem sK208:Sound qPp 208 (.dat false ky):=by
  apply Yaf (hc:=cK208) h67<;>first|exact qrS|skip
  all_goals decide
def L68:qLS:=(208,.dat false ky)::L67
theorem h68:qHL L68:=Za h67 sK208
theorem cK177:check qPp 177=some (32,(Yj 102 42 41 43 208).strip,[.cell 2 3 true,.cell 3 3 true]):=by kernel_rfl
theorem sK177:Sound qPp 177 (.dat false YC):=by
  apply JaI (hc:=cK177) h68<;>first|exact qrS|skip
  all_goals decide
def L69:qLS:=(177,.dat false YC)::L68
theorem h69:qHL L69:=Za h68 sK177
theorem cK141:check qPp 141=some (19,(wn 93 177).strip,[.cell 2 3 true,.tmp 3]):=by kernel_rfl
theorem sK141:Sound qPp 141 (.dat false (xE 68)):=by
  apply waF (hc:=cK141) h69<;>first|exact qrS|skip
  all_goals decide
def L70:qLS:=(141,.dat false (xE 68))::L69
theorem h70:qHL L70:=Za h69 sK141
theorem cK142:check qPp 142=some (19,(Wn 93 177).strip,[.cell 2 3 true,.tmp 3]):=by kernel_rfl
theorem sK142:Sound qPp 142 (.dat false (qF 68)):=by
  apply kaI (hc:=cK142) h70<;>first|exact qrS|skip
  all_goals decide
def L71:qLS:=(142,.dat false (qF 68))::L70
theorem h71:qHL L71:=Za h70 sK142
theorem cK94:check qPp 94=some (29,(Jj 93 141 142 68).strip,[.cell 2 3 true,.cell 3 3 true,.tmp 4]):=by kernel_rfl
theorem sK94:Sound qPp 94 (.dat false (JD 68)):=by
  apply qaG (hc:=cK94) h71<;>first|exact qrS|skip
  all_goals decide
def L72:qLS:=(94,.dat false (JD 68))::L71
theorem h72:qHL L72:=Za h71 sK94
theorem cK117:check qPp 117=some (29,Wq.strip,[.tmp 2]):=by kernel_rfl
theorem sK117:Sound qPp 117 (.dat true uk):=by
  apply QV (hc:=cK117) h72<;>first|exact qrS|skip
  all_goals decide
def L73:qLS:=(117,.dat true uk)::L72
theorem h73:qHL L73:=Za h72 sK117
theorem cK181:check qPp 181=some (8,Jf.strip,[.tmp 2]):=by kernel_rfl
theorem sK181:Sound qPp 181 (.fresh 5 Qo):=by
  apply J8 (hc:=cK181) h73<;>first|exact qrS|skip
  all_goals decide
def L74:qLS:=(181,.fresh 5 Qo)::L73
theorem h74:qHL L74:=Za h73 sK181
theorem cK192:check qPp 192=some (6,Qx.strip,[.tmp 2]):=by kernel_rfl
theorem sK192:Sound qPp 192 (.dat true VF):=by
  apply zaF (hc:=cK192) h74<;>first|exact qrS|skip
  all_goals decide
def L75:qLS:=(192,.dat true VF)::L74
theorem h75:qHL L75:=Za h74 sK192
theorem cK160:check qPp 160=some (20,(xg 192).strip,[.tmp 4]):=by kernel_rfl
theorem sK160:Sound qPp 160 (.dat true yE):=by
  apply vaI (hc:=cK160) h75<;>first|exact qrS|skip
  all_goals decide
def L76:qLS:=(160,.dat true yE)::L75
theorem h76:qHL L76:=Za h75 sK160
theorem cK159:check qPp 159=some (18,YD.strip,[.tmp 2]):=by kernel_rfl
theorem sK159:Sound qPp 159 (.dat true xU):=by
  apply ka1 (hc:=cK159) h76<;>first|exact qrS|skip
  all_goals decide
def L77:qLS:=(159,.dat true xU)::L76
theorem h77:qHL L77:=Za h76 sK159
theorem cK118:check qPp 118=some (23,(ju 160 159).strip,[.tmp 4]):=by kernel_rfl
theorem sK118:Sound qPp 118 (.dat true ux):=by
  apply Xac (hc:=cK118) h77<;>first|exact qrS|skip
  all_goals decide
def L78:qLS:=(118,.dat true ux)::L77
theorem h78:qHL L78:=Za h77 sK118
theorem cK229:check qPp 229=some (53,Qd.strip,[]):=by kernel_rfl
theorem sK229:Sound qPp 229 (.own (wG 118)):=by
  apply zaE (hc:=cK229) h78<;>first|exact qrS|skip
  all_goals decide
def L79:qLS:=(229,.own (wG 118))::L78
theorem h79:qHL L79:=Za h78 sK229
theorem cK234:check qPp 234=some (38,ud.strip,[]):=by kernel_rfl
theorem sK234:Sound qPp 234 (.own (QD 118)):=by
  apply zaG (hc:=cK234) h79<;>first|exact qrS|skip
  all_goals decide
def L80:qLS:=(234,.own (QD 118))::L79
theorem h80:qHL L80:=Za h79 sK234
theorem cK233:check qPp 233=some (58,(Xe 234).strip,[]):=by kernel_rfl
theorem sK233:Sound qPp 233 (.own (kF 118)):=by
  apply UaD (hc:=cK233) h80<;>first|exact qrS|skip
  all_goals decide
def L81:qLS:=(233,.own (kF 118))::L80
theorem h81:qHL L81:=Za h80 sK233
theorem cK230:check qPp 230=some (220,(Jb 233 230).strip,[]):=by kernel_rfl
theorem sK230:Sound qPp 230 (.own (Qi 118 10000)):=by
  apply VY (hc:=cK230) h81<;>first|exact qrS|skip
  all_goals decide
def L82:qLS:=(230,.own (Qi 118 10000))::L81
theorem h82:qHL L82:=Za h81 sK230
theorem cK222:check qPp 222=some (63,(ue 229 230).strip,[]):=by kernel_rfl
theorem sK222:Sound qPp 222 (.own (VB 118 10000)):=by
  apply zal (hc:=cK222) h82<;>first|exact qrS|skip
  all_goals decide
def L83:qLS:=(222,.own (VB 118 10000))::L82
theorem h83:qHL L83:=Za h82 sK222
theorem cK209:check qPp 209=some (9,(ve 222).strip,[]):=by kernel_rfl
theorem sK209:Sound qPp 209 (.own (qx 118 10000)):=by
  apply qak (hc:=cK209) h83<;>first|exact qrS|skip
  all_goals decide
def L84:qLS:=(209,.own (qx 118 10000))::L83
theorem h84:qHL L84:=Za h83 sK209
theorem cK211:check qPp 211=some (7,(ku 24).strip,[.tmp 2]):=by kernel_rfl
theorem sK211:Sound qPp 211 (.dat true VD):=by
  apply YaI (hc:=cK211) h84<;>first|exact qrS|skip
  all_goals decide
def L85:qLS:=(211,.dat true VD)::L84
theorem h85:qHL L85:=Za h84 sK211
theorem cK223:check qPp 223=some (19,vh.strip,[.tmp 4]):=by kernel_rfl
theorem sK223:Sound qPp 223 (.dat true (vG 211)):=by
  apply XaG (hc:=cK223) h85<;>first|exact qrS|skip
  all_goals decide
def L86:qLS:=(223,.dat true (vG 211))::L85
theorem h86:qHL L86:=Za h85 sK223
theorem cK210:check qPp 210=some (42,(jd 223).strip,[.tmp 4]):=by kernel_rfl
theorem sK210:Sound qPp 210 (.own (XG 211)):=by
  apply waG (hc:=cK210) h86<;>first|exact qrS|skip
  all_goals decide
def L87:qLS:=(210,.own (XG 211))::L86
theorem h87:qHL L87:=Za h86 sK210
theorem cK180:check qPp 180=some (60,(jA 181 209 118 41 210 211).strip,[.tmp 2]):=by kernel_rfl
theorem sK180:Sound qPp 180 (.dat false (uA 10000)):=by
  apply VaF (hc:=cK180) h87<;>first|exact qrS|skip
  all_goals decide
def L88:qLS:=(180,.dat false (uA 10000))::L87
theorem h88:qHL L88:=Za h87 sK180
theorem cK178:check qPp 178=some (28,(Vo 117 76 180 68).strip,[.tmp 2,.tmp 3]):=by kernel_rfl
theorem sK178:Sound qPp 178 (.dat false (Vz 68)):=by
  apply yal (hc:=cK178) h88<;>first|exact qrS|skip
  all_goals decide
def L89:qLS:=(178,.dat false (Vz 68))::L88
theorem h89:qHL L89:=Za h88 sK178
theorem cK156:check qPp 156=some (17,uf.strip,[.tmp 6]):=by kernel_rfl
theorem sK156:Sound qPp 156 (.red qq):=by
  apply jah (hc:=cK156) h89<;>first|exact qrS|skip
  all_goals decide
def L90:qLS:=(156,.red qq)::L89
theorem h90:qHL L90:=Za h89 sK156
theorem cK155:check qPp 155=some (21,(ze 178 156).strip,[.tmp 8]):=by kernel_rfl
theorem sK155:Sound qPp 155 (.red YF):=by
  apply vaG (hc:=cK155) h90<;>first|exact qrS|skip
  all_goals decide
def L91:qLS:=(155,.red YF)::L90
theorem h91:qHL L91:=Za h90 sK155
theorem cK65:check qPp 65=some (48,(Qm 117 76 24 118 68).strip,[.tmp 2]):=by kernel_rfl
theorem sK65:Sound qPp 65 (.dat false (ko 68)):=by
  apply Y6 (hc:=cK65) h91<;>first|exact qrS|skip
  all_goals decide
def L92:qLS:=(65,.dat false (ko 68))::L91
theorem h92:qHL L92:=Za h91 sK65
theorem cK179:check qPp 179=some (18,(yq 65).strip,[.tmp 2]):=by kernel_rfl
theorem sK179:Sound qPp 179 (.dat false (Vi 68)):=by
  apply WV (hc:=cK179) h92<;>first|exact qrS|skip
  all_goals decide
def L93:qLS:=(179,.dat false (Vi 68))::L92
theorem h93:qHL L93:=Za h92 sK179
theorem cK183:check qPp 183=some (21,Ql.strip,[.tmp 2]):=by kernel_rfl
theorem sK183:Sound qPp 183 (.dat true ZH):=by
  apply YaE (hc:=cK183) h93<;>first|exact qrS|skip
  all_goals decide
def L94:qLS:=(183,.dat true ZH)::L93
theorem h94:qHL L94:=Za h93 sK183
theorem cK149:check qPp 149=some (71,(um 179 183 42 180 68).strip,[.tmp 4,.tmp 5]):=by kernel_rfl
theorem sK149:Sound qPp 149 (.dat false (kG 68)):=by
  apply waI (hc:=cK149) h94<;>first|exact qrS|skip
  all_goals decide
def L95:qLS:=(149,.dat false (kG 68))::L94
theorem h95:qHL L95:=Za h94 sK149
theorem cK111:check qPp 111=some (14,(Zg 149 156).strip,[.tmp 6]):=by kernel_rfl
theorem sK111:Sound qPp 111 (.red xB):=by
  apply QaD (hc:=cK111) h95<;>first|exact qrS|skip
  all_goals decide
def L96:qLS:=(111,.red xB)::L95
theorem h96:qHL L96:=Za h95 sK111
theorem cK213:check qPp 213=some (27,Xn.strip,[.tmp 4]):=by kernel_rfl
theorem sK213:Sound qPp 213 (.fresh 5 YA):=by
  apply xag (hc:=cK213) h96<;>first|exact qrS|skip
  all_goals decide
def L97:qLS:=(213,.fresh 5 YA)::L96
theorem h97:qHL L97:=Za h96 sK213
theorem cK191:check qPp 191=some (36,(Yl 213).strip,[.tmp 2]):=by kernel_rfl
theorem sK191:Sound qPp 191 (.fresh 5 Qz):=by
  apply kag (hc:=cK191) h97<;>first|exact qrS|skip
  all_goals decide
def L98:qLS:=(191,.fresh 5 Qz)::L97
theorem h98:qHL L98:=Za h97 sK191
theorem cK157:check qPp 157=some (19,(Wr 179 191 180).strip,[.tmp 4,.tmp 5]):=by kernel_rfl
theorem sK157:Sound qPp 157 (.dat false (jG 68)):=by
  apply jaD (hc:=cK157) h98<;>first|exact qrS|skip
  all_goals decide
def L99:qLS:=(157,.dat false (jG 68))::L98
theorem h99:qHL L99:=Za h98 sK157
theorem cK114:check qPp 114=some (14,(vg 157 156).strip,[.tmp 6]):=by kernel_rfl
theorem sK114:Sound qPp 114 (.red UC):=by
  apply WaH (hc:=cK114) h99<;>first|exact qrS|skip
  all_goals decide
def L100:qLS:=(114,.red UC)::L99
theorem h100:qHL L100:=Za h99 sK114
theorem cK109:check qPp 109=some (54,(wd 94 40 155 111 114).strip,[.cell 4 3 true]):=by kernel_rfl
theorem sK109:Sound qPp 109 (.red YE):=by
  apply QaE (hc:=cK109) h100<;>first|exact qrS|skip
  all_goals decide
def L101:qLS:=(109,.red YE)::L100
theorem h101:qHL L101:=Za h100 sK109
theorem cK182:check qPp 182=some (28,(Xt 42).strip,[.tmp 4]):=by kernel_rfl
theorem sK182:Sound qPp 182 (.dat false jH):=by
  apply XaE (hc:=cK182) h101<;>first|exact qrS|skip
  all_goals decide
def L102:qLS:=(182,.dat false jH)::L101
theorem h102:qHL L102:=Za h101 sK182
theorem cK148:check qPp 148=some (21,(Qt 179 181 102 182 180).strip,[.tmp 4,.tmp 5]):=by kernel_rfl
theorem sK148:Sound qPp 148 (.dat false (xF 68)):=by
  apply waH (hc:=cK148) h102<;>first|exact qrS|skip
  all_goals decide
def L103:qLS:=(148,.dat false (xF 68))::L102
theorem h103:qHL L103:=Za h102 sK148
theorem cK113:check qPp 113=some (14,(qg 148 156).strip,[.tmp 6]):=by kernel_rfl
theorem sK113:Sound qPp 113 (.red zC):=by
  apply XaH (hc:=cK113) h103<;>first|exact qrS|skip
  all_goals decide
def L104:qLS:=(113,.red zC)::L103
theorem h104:qHL L104:=Za h103 sK113
theorem cK110:check qPp 110=some (26,(xe 113).strip,[.cell 6 3 true]):=by kernel_rfl
theorem sK110:Sound qPp 110 (.red uy):=by
  apply Zak (hc:=cK110) h104<;>first|exact qrS|skip
  all_goals decide
def L105:qLS:=(110,.red uy)::L104
theorem h105:qHL L105:=Za h104 sK110
theorem cK112:check qPp 112=some (21,(Ve 111 113).strip,[.tmp 6]):=by kernel_rfl
theorem sK112:Sound qPp 112 (.red uF):=by
  apply xaC (hc:=cK112) h105<;>first|exact qrS|skip
  all_goals decide
def L106:qLS:=(112,.red uF)::L105
theorem h106:qHL L106:=Za h105 sK112
theorem cK63:check qPp 63=some (87,(wl 109 110 112 111 113 114).strip,[.tmp 2,.tmp 3]):=by kernel_rfl
theorem sK63:Sound qPp 63 (.dat false ZD):=by
  apply XaD (hc:=cK63) h106<;>first|exact qrS|skip
  all_goals decide
def L107:qLS:=(63,.dat false ZD)::L106
theorem h107:qHL L107:=Za h106 sK63
theorem cK21:check qPp 21=some (14,(Qg 61 63).strip,[.tmp 2,.tmp 3]):=by kernel_rfl
theorem sK21:Sound qPp 21 (.dat false (zG 68)):=by
  apply kaD (hc:=cK21) h107<;>first|exact qrS|skip
  all_goals decide
def L108:qLS:=(21,.dat false (zG 68))::L107
theorem h108:qHL L108:=Za h107 sK21
theorem cK62:check qPp 62=some (11,(Ue 76).strip,[.tmp 2]):=by kernel_rfl
theorem sK62:Sound qPp 62 (.dat true Vd):=by
  apply vB (hc:=cK62) h108<;>first|exact qrS|skip
  all_goals decide
def L109:qLS:=(62,.dat true Vd)::L108
theorem h109:qHL L109:=Za h108 sK62
theorem cK66:check qPp 66=some (34,(vn 102 42 39 68).strip,[.cell 4 3 true,.tmp 5]):=by kernel_rfl
theorem sK66:Sound qPp 66 (.dat false (JF 68)):=by
  apply jaI (hc:=cK66) h109<;>first|exact qrS|skip
  all_goals decide
def L110:qLS:=(66,.dat false (JF 68))::L109
theorem h110:qHL L110:=Za h109 sK66
theorem cK23:check qPp 23=some (59,(wo 65 66 42 41).strip,[.cell 6 3 true,.tmp 7]):=by kernel_rfl
theorem sK23:Sound qPp 23 (.dat false (VA 68)):=by
  apply uag (hc:=cK23) h110<;>first|exact qrS|skip
  all_goals decide
def L111:qLS:=(23,.dat false (VA 68))::L110
theorem h111:qHL L111:=Za h110 sK23
theorem cK20:check qPp 20=some (44,(yi 61 62 63 23 24 68).strip,[.tmp 4,.tmp 5]):=by kernel_rfl
theorem sK20:Sound qPp 20 (.dat false (VO 68)):=by
  apply xa2 (hc:=cK20) h111<;>first|exact qrS|skip
  all_goals decide
def L112:qLS:=(20,.dat false (VO 68))::L111
theorem h112:qHL L112:=Za h111 sK20
theorem cK47:check qPp 47=some (38,(Wo 94 42 43 41).strip,[.cell 4 6 true,.tmp 5]):=by kernel_rfl
theorem sK47:Sound qPp 47 (.dat false (zF 68)):=by
  apply uaH (hc:=cK47) h112<;>first|exact qrS|skip
  all_goals decide
def L113:qLS:=(47,.dat false (zF 68))::L112
theorem h113:qHL L113:=Za h112 sK47
theorem cK48:check qPp 48=some (16,(VE 41).strip,[.cell 4 6 true]):=by kernel_rfl
theorem sK48:Sound qPp 48 (.dat false qA):=by
  apply yag (hc:=cK48) h113<;>first|exact qrS|skip
  all_goals decide
def L114:qLS:=(48,.dat false qA)::L113
theorem h114:qHL L114:=Za h113 sK48
theorem cK12:check qPp 12=some (33,(Wm 45 46 47 48 68).strip,[.cell 4 6 true,.tmp 5]):=by kernel_rfl
theorem sK12:Sound qPp 12 (.dat false (XC 68)):=by
  apply uaD (hc:=cK12) h114<;>first|exact qrS|skip
  all_goals decide
def L115:qLS:=(12,.dat false (XC 68))::L114
theorem h115:qHL L115:=Za h114 sK12
theorem cK70:check qPp 70=some (16,(Zx 43).strip,[.cell 4 6 true]):=by kernel_rfl
theorem sK70:Sound qPp 70 (.dat false Yi):=by
  apply Jah (hc:=cK70) h115<;>first|exact qrS|skip
  all_goals decide
def L116:qLS:=(70,.dat false Yi)::L115
theorem h116:qHL L116:=Za h115 sK70
theorem cK69:check qPp 69=some (16,(kh 42 43).strip,[.cell 4 3 true]):=by kernel_rfl
theorem sK69:Sound qPp 69 (.dat false Yh):=by
  apply Wae (hc:=cK69) h116<;>first|exact qrS|skip
  all_goals decide
def L117:qLS:=(69,.dat false Yh)::L116
theorem h117:qHL L117:=Za h116 sK69
theorem cK72:check qPp 72=some (14,(xh 42 41).strip,[.cell 2 3 true]):=by kernel_rfl
theorem sK72:Sound qPp 72 (.dat false JE):=by
  apply Z9 (hc:=cK72) h117<;>first|exact qrS|skip
  all_goals decide
def L118:qLS:=(72,.dat false JE)::L117
theorem h118:qHL L118:=Za h117 sK72
theorem cK71:check qPp 71=some (71,(vf 70 102 69 42 72 43 39 41).strip,[.cell 6 6 true,.tmp 7]):=by kernel_rfl
theorem sK71:Sound qPp 71 (.dat false (qG 68)):=by
  apply VaE (hc:=cK71) h118<;>first|exact qrS|skip
  all_goals decide
def L119:qLS:=(71,.dat false (qG 68))::L118
theorem h119:qHL L119:=Za h118 sK71
theorem cK25:check qPp 25=some (124,(xf 20 12 70 69 24 71 72 68).strip,[.cell 4 15 true,.tmp 5]):=by kernel_rfl
theorem sK25:Sound qPp 25 (.dat false (wO 68)):=by
  apply Za5 (hc:=cK25) h119<;>first|exact qrS|skip
  all_goals decide
def L120:qLS:=(25,.dat false (wO 68))::L119
theorem h120:qHL L120:=Za h119 sK25
theorem cK216:check qPp 216=some (15,Ub.strip,[.tmp 2]):=by kernel_rfl
theorem sK216:Sound qPp 216 (.dat false yr):=by
  apply xad (hc:=cK216) h120<;>first|exact qrS|skip
  all_goals decide
def L121:qLS:=(216,.dat false yr)::L120
theorem h121:qHL L121:=Za h120 sK216
theorem cK202:check qPp 202=some (54,(Xd 216 217 218 219).strip,[.tmp 4]):=by kernel_rfl
theorem sK202:Sound qPp 202 (.dat false xz):=by
  apply wam (hc:=cK202) h121<;>first|exact qrS|skip
  all_goals decide
def L122:qLS:=(202,.dat false xz)::L121
theorem h122:qHL L122:=Za h121 sK202
theorem cK169:check qPp 169=some (5,(Yf 202).strip,[.tmp 2]):=by kernel_rfl
theorem sK169:Sound qPp 169 (.dat false qo):=by
  apply Yag (hc:=cK169) h122<;>first|exact qrS|skip
  all_goals decide
def L123:qLS:=(169,.dat false qo)::L122
theorem h123:qHL L123:=Za h122 sK169
theorem cK133:check qPp 133=some (5,(Xu 169).strip,[.tmp 2]):=by kernel_rfl
theorem sK133:Sound qPp 133 (.dat false qo):=by
  apply Jad (hc:=cK133) h123<;>first|exact qrS|skip
  all_goals decide
def L124:qLS:=(133,.dat false qo)::L123
theorem h124:qHL L124:=Za h123 sK133
theorem cK135:check qPp 135=some (75,(kt 172 173 175).strip,[.tmp 4]):=by kernel_rfl
theorem sK135:Sound qPp 135 (.dat false yy):=by
  apply Uaj (hc:=cK135) h124<;>first|exact qrS|skip
  all_goals decide
def L125:qLS:=(135,.dat false yy)::L124
theorem h125:qHL L125:=Za h124 sK135
theorem cK87:check qPp 87=some (44,(Yu 119 132 133 134 135 130).strip,[.tmp 2]):=by kernel_rfl
theorem sK87:Sound qPp 87 (.dat false uq):=by
  apply Wad (hc:=cK87) h125<;>first|exact qrS|skip
  all_goals decide
def L126:qLS:=(87,.dat false uq)::L125
theorem h126:qHL L126:=Za h125 sK87
theorem cK33:check qPp 33=some (22,(Vl 67 86 85 87).strip,[.tmp 2]):=by kernel_rfl
theorem sK33:Sound qPp 33 (.dat false jr):=by
  apply zae (hc:=cK33) h126<;>first|exact qrS|skip
  all_goals decide
def L127:qLS:=(33,.dat false jr)::L126
theorem h127:qHL L127:=Za h126 sK33
theorem cK17:check qPp 17=some (88,(qh 57 21 20 25 33).strip,[.tmp 0]):=by kernel_rfl
theorem sK17:Sound qPp 17 (.dat true Uy):=by
  apply Uag (hc:=cK17) h127<;>first|exact qrS|skip
  all_goals decide
def L128:qLS:=(17,.dat true Uy)::L127
theorem h128:qHL L128:=Za h127 sK17
theorem cK106:check qPp 106=some (15,Jh.strip,[.tmp 2]):=by kernel_rfl
theorem sK106:Sound qPp 106 (.dat true Ys):=by
  apply vO (hc:=cK106) h128<;>first|exact qrS|skip
  all_goals decide
def L129:qLS:=(106,.dat true Ys)::L128
theorem h129:qHL L129:=Za h128 sK106
theorem cK185:check qPp 185=some (38,(zk 154 163 165 128 187 166).strip,[.cell 4 2 true]):=by kernel_rfl
theorem sK185:Sound qPp 185 (.dat false Vx):=by
  apply kaf (hc:=cK185) h129<;>first|exact qrS|skip
  all_goals decide
def L130:qLS:=(185,.dat false Vx)::L129
theorem h130:qHL L130:=Za h129 sK185
theorem cK152:check qPp 152=some (9,(wk 126 185).strip,[.cell 4 2 true]):=by kernel_rfl
theorem sK152:Sound qPp 152 (.dat false QG):=by
  apply qac (hc:=cK152) h130<;>first|exact qrS|skip
  all_goals decide
def L131:qLS:=(152,.dat false QG)::L130
theorem h131:qHL L131:=Za h130 sK152
theorem cK107:check qPp 107=some (9,(Zk 152 125).strip,[.tmp 4]):=by kernel_rfl
theorem sK107:Sound qPp 107 (.dat true Jt):=by
  apply Q8 (hc:=cK107) h131<;>first|exact qrS|skip
  all_goals decide
def L132:qLS:=(107,.dat true Jt)::L131
theorem h132:qHL L132:=Za h131 sK107
theorem cK60:check qPp 60=some (36,(jh 106 108 84 107).strip,[.tmp 2]):=by kernel_rfl
theorem sK60:Sound qPp 60 (.dat true yd):=by
  apply yO (hc:=cK60) h132<;>first|exact qrS|skip
  all_goals decide
def L133:qLS:=(60,.dat true yd)::L132
theorem h133:qHL L133:=Za h132 sK60
theorem cK212:check qPp 212=some (23,(Wh 60 84).strip,[.cell 2 2 true,.cell 3 2 true]):=by kernel_rfl
theorem sK212:Sound qPp 212 (.dat false we):=by
  apply kO (hc:=cK212) h133<;>first|exact qrS|skip
  all_goals decide
def L134:qLS:=(212,.dat false we)::L133
theorem h134:qHL L134:=Za h133 sK212
theorem cK184:check qPp 184=some (12,(jl 212 125).strip,[.tmp 2]):=by kernel_rfl
theorem sK184:Sound qPp 184 (.dat true wi):=by
  apply WM (hc:=cK184) h134<;>first|exact qrS|skip
  all_goals decide
def L135:qLS:=(184,.dat true wi)::L134
theorem h135:qHL L135:=Za h134 sK184
theorem cK151:check qPp 151=some (6,(Ji 184).strip,[.tmp 2]):=by kernel_rfl
theorem sK151:Sound qPp 151 (.dat true qz):=by
  apply Vai (hc:=cK151) h135<;>first|exact qrS|skip
  all_goals decide
def L136:qLS:=(151,.dat true qz)::L135
theorem h136:qHL L136:=Za h135 sK151
theorem cK105:check qPp 105=some (16,(Xc 60 151).strip,[.tmp 2]):=by kernel_rfl
theorem sK105:Sound qPp 105 (.dat true vt):=by
  apply kae (hc:=cK105) h136<;>first|exact qrS|skip
  all_goals decide
def L137:qLS:=(105,.dat true vt)::L136
theorem h137:qHL L137:=Za h136 sK105
theorem cK19:check qPp 19=some (11,(Ue 60).strip,[.tmp 2]):=by kernel_rfl
theorem sK19:Sound qPp 19 (.dat true Vd):=by
  apply vB (hc:=cK19) h137<;>first|exact qrS|skip
  all_goals decide
def L138:qLS:=(19,.dat true Vd)::L137
theorem h138:qHL L138:=Za h137 sK19
theorem cK58:check qPp 58=some (11,(We 105 19).strip,[.tmp 2]):=by kernel_rfl
theorem sK58:Sound qPp 58 (.dat true Wv):=by
  apply vam (hc:=cK58) h138<;>first|exact qrS|skip
  all_goals decide
def L139:qLS:=(58,.dat true Wv)::L138
theorem h139:qHL L139:=Za h138 sK58
theorem cK34:check qPp 34=some (40,ug.strip,[.tmp 2]):=by kernel_rfl
theorem sK34:Sound qPp 34 (.dat true Uq):=by
  apply zab (hc:=cK34) h139<;>first|exact qrS|skip
  all_goals decide
def L140:qLS:=(34,.dat true Uq)::L139
theorem h140:qHL L140:=Za h139 sK34
theorem cK59:check qPp 59=some (10,(Zh 34).strip,[.tmp 2]):=by kernel_rfl
theorem sK59:Sound qPp 59 (.dat true Zs):=by
  apply wae (hc:=cK59) h140<;>first|exact qrS|skip
  all_goals decide
def L141:qLS:=(59,.dat true Zs)::L140
theorem h141:qHL L141:=Za h140 sK59
theorem cK18:check qPp 18=some (15,(Ui 58 59).strip,[.tmp 2]):=by kernel_rfl
theorem sK18:Sound qPp 18 (.dat true xy):=by
  apply Qaj (hc:=cK18) h141<;>first|exact qrS|skip
  all_goals decide
def L142:qLS:=(18,.dat true xy)::L141
theorem h142:qHL L142:=Za h141 sK18
theorem cK9:check qPp 9=some (35,ke.strip,[.tmp 2]):=by kernel_rfl
theorem sK9:Sound qPp 9 (.dat true Yr):=by
  apply Y3 (hc:=cK9) h142<;>first|exact qrS|skip
  all_goals decide
def L143:qLS:=(9,.dat true Yr)::L142
theorem h143:qHL L143:=Za h142 sK9
theorem cK75:check qPp 75=some (11,(yn 76).strip,[.tmp 2]):=by kernel_rfl
theorem sK75:Sound qPp 75 (.dat true Vd):=by
  apply X8 (hc:=cK75) h143<;>first|exact qrS|skip
  all_goals decide
def L144:qLS:=(75,.dat true Vd)::L143
theorem h144:qHL L144:=Za h143 sK75
theorem cK35:check qPp 35=some (28,(Xj 74 75 68).strip,[.tmp 4]):=by kernel_rfl
theorem sK35:Sound qPp 35 (.dat false (Uz 68)):=by
  apply Uai (hc:=cK35) h144<;>first|exact qrS|skip
  all_goals decide
def L145:qLS:=(35,.dat false (Uz 68))::L144
theorem h145:qHL L145:=Za h144 sK35
theorem cK77:check qPp 77=some (32,(zn 12).strip,[.tmp 4,.tmp 5]):=by kernel_rfl
theorem sK77:Sound qPp 77 (.dat false (Qw 68)):=by
  apply Uah (hc:=cK77) h145<;>first|exact qrS|skip
  all_goals decide
def L146:qLS:=(77,.dat false (Qw 68))::L145
theorem h146:qHL L146:=Za h145 sK77
theorem cK37:check qPp 37=some (16,(xu 43).strip,[.cell 4 6 true]):=by kernel_rfl
theorem sK37:Sound qPp 37 (.dat false Yi):=by
  apply uai (hc:=cK37) h146<;>first|exact qrS|skip
  all_goals decide
def L147:qLS:=(37,.dat false Yi)::L146
theorem h147:qHL L147:=Za h146 sK37
theorem cK123:check qPp 123=some (16,(kn 42 43).strip,[.cell 4 3 true]):=by kernel_rfl
theorem sK123:Sound qPp 123 (.dat false Yh):=by
  apply Uae (hc:=cK123) h147<;>first|exact qrS|skip
  all_goals decide
def L148:qLS:=(123,.dat false Yh)::L147
theorem h148:qHL L148:=Za h147 sK123
theorem cK38:check qPp 38=some (14,(xh 42 41).strip,[.cell 2 3 true]):=by kernel_rfl
theorem sK38:Sound qPp 38 (.dat false JE):=by
  apply Z9 (hc:=cK38) h148<;>first|exact qrS|skip
  all_goals decide
def L149:qLS:=(38,.dat false JE)::L148
theorem h149:qHL L149:=Za h148 sK38
theorem cK78:check qPp 78=some (89,(Yd 37 102 123 42 24 38 43 39 41 68).strip,[.cell 2 6 true,.tmp 3]):=by kernel_rfl
theorem sK78:Sound qPp 78 (.dat false (uz 68)):=by
  apply kai (hc:=cK78) h149<;>first|exact qrS|skip
  all_goals decide
def L150:qLS:=(78,.dat false (uz 68))::L149
theorem h150:qHL L150:=Za h149 sK78
theorem cK79:check qPp 79=some (6,(xn 37).strip,[.cell 2 6 true]):=by kernel_rfl
theorem sK79:Sound qPp 79 (.dat false Qs):=by
  apply xac (hc:=cK79) h150<;>first|exact qrS|skip
  all_goals decide
def L151:qLS:=(79,.dat false Qs)::L150
theorem h151:qHL L151:=Za h150 sK79
theorem cK28:check qPp 28=some (47,(Zf 35 77 78 79 37 38).strip,[.cell 4 15 true,.tmp 5]):=by kernel_rfl
theorem sK28:Sound qPp 28 (.dat false (jm 68)):=by
  apply YU (hc:=cK28) h151<;>first|exact qrS|skip
  all_goals decide
def L152:qLS:=(28,.dat false (jm 68))::L151
theorem h152:qHL L152:=Za h151 sK28
theorem cK73:check qPp 73=some (15,(kg 68).strip,[.tmp 2]):=by kernel_rfl
theorem sK73:Sound qPp 73 (.dat true (uG 68)):=by
  apply vaE (hc:=cK73) h152<;>first|exact qrS|skip
  all_goals decide
def L153:qLS:=(73,.dat true (uG 68))::L152
theorem h153:qHL L153:=Za h152 sK73
theorem cK26:check qPp 26=some (9,(Um 73).strip,[.tmp 4]):=by kernel_rfl
theorem sK26:Sound qPp 26 (.dat true (qW 68)):=by
  apply qa3 (hc:=cK26) h153<;>first|exact qrS|skip
  all_goals decide
def L154:qLS:=(26,.dat true (qW 68))::L153
theorem h154:qHL L154:=Za h153 sK26
theorem cK50:check qPp 50=some (26,(yt 67 89 85).strip,[.tmp 4]):=by kernel_rfl
theorem sK50:Sound qPp 50 (.dat true jt):=by
  apply uam (hc:=cK50) h154<;>first|exact qrS|skip
  all_goals decide
def L155:qLS:=(50,.dat true jt)::L154
theorem h155:qHL L155:=Za h154 sK50
theorem cK27:check qPp 27=some (59,(Zd 74 75 76 77 37 38 50 68).strip,[.tmp 4,.tmp 5]):=by kernel_rfl
theorem sK27:Sound qPp 27 (.dat false (vm 68)):=by
  apply JV (hc:=cK27) h155<;>first|exact qrS|skip
  all_goals decide
def L156:qLS:=(27,.dat false (vm 68))::L155
theorem h156:qHL L156:=Za h155 sK27
theorem cK104:check qPp 104=some (26,zj.strip,[.tmp 4]):=by kernel_rfl
theorem sK104:Sound qPp 104 (.dat true Zr):=by
  apply yZ (hc:=cK104) h156<;>first|exact qrS|skip
  all_goals decide
def L157:qLS:=(104,.dat true Zr)::L156
theorem h157:qHL L157:=Za h156 sK104
theorem cK56:check qPp 56=some (24,(Wl 104).strip,[.tmp 4]):=by kernel_rfl
theorem sK56:Sound qPp 56 (.dat true uC):=by
  apply VaG (hc:=cK56) h157<;>first|exact qrS|skip
  all_goals decide
def L158:qLS:=(56,.dat true uC)::L157
theorem h158:qHL L158:=Za h157 sK56
theorem cK16:check qPp 16=some (17,(qf 56).strip,[.tmp 4]):=by kernel_rfl
theorem sK16:Sound qPp 16 (.dat true Xy):=by
  apply zag (hc:=cK16) h158<;>first|exact qrS|skip
  all_goals decide
def L159:qLS:=(16,.dat true Xy)::L158
theorem h159:qHL L159:=Za h158 sK16
theorem cK29:check qPp 29=some (24,(kd 16 56).strip,[.tmp 4]):=by kernel_rfl
theorem sK29:Sound qPp 29 (.dat true Ur):=by
  apply Z2 (hc:=cK29) h159<;>first|exact qrS|skip
  all_goals decide
def L160:qLS:=(29,.dat true Ur)::L159
theorem h160:qHL L160:=Za h159 sK29
theorem cK5:check qPp 5=some (65,(Qb 17 18 9 19 28 26 27 25 29).strip,[.tmp 4]):=by kernel_rfl
theorem sK5:Sound qPp 5 (.dat true Zm):=by
  apply zX (hc:=cK5) h160<;>first|exact qrS|skip
  all_goals decide
def L161:qLS:=(5,.dat true Zm)::L160
theorem h161:qHL L161:=Za h160 sK5
theorem hold:qHL L161:=h161
end Go.Abs
