/-
  The contracts of this seat's functions, gathered.
-/
import Derived.Test.YthoibmokhnoccaaGreatDoorChecked
import Derived.Test.YthoibmokhnoccaaGreatDoorBits
import Derived.KernelRfl
import Derived.Test.YthoibmokhnoccaaGreatDoorM14
set_option maxRecDepth 100000
set_option linter.unusedVariables false
namespace Go.Abs
open Go.Proofs
noncomputable abbrev qPp:=Tryz.prog
abbrev qLS:=List (Nat×Spec)
abbrev qHL(l:qLS):=Holds qPp (Gl l)
theorem qrS{a:Spec}:a=a:=rfl
theorem cK52:check qPp 52=some (45,Uc.strip,[.tmp 6]):=by kernel_rfl
theorem sK52:Sound qPp 52 (.dat true Qz):=by
  apply yaL (hc:=cK52) Xaf<;>first|exact qrS|skip
  all_goals decide
def L1:qLS:=(52,.dat true Qz)::[]
theorem h1:qHL L1:=Za Xaf sK52
theorem cK19:check qPp 19=some (38,(uf 52).strip,[.tmp 2]):=by kernel_rfl
theorem sK19:Sound qPp 19 (.dat false Ui):=by
  apply uS (hc:=cK19) h1<;>first|exact qrS|skip
  all_goals decide
def L2:qLS:=(19,.dat false Ui)::L1
theorem h2:qHL L2:=Za h1 sK19
theorem cK176:check qPp 176=some (25,vc.strip,[.tmp 2]):=by kernel_rfl
theorem sK176:Sound qPp 176 (.fresh 1 Jr):=by
  apply kaL (hc:=cK176) h2<;>first|exact qrS|skip
  all_goals decide
def L3:qLS:=(176,.fresh 1 Jr)::L2
theorem h3:qHL L3:=Za h2 sK176
theorem cK149:check qPp 149=some (14,(Yg 176).strip,[.cell 4 2 true]):=by kernel_rfl
theorem sK149:Sound qPp 149 (.dat false je):=by
  apply Zah (hc:=cK149) h3<;>first|exact qrS|skip
  all_goals decide
def L4:qLS:=(149,.dat false je)::L3
theorem h4:qHL L4:=Za h3 sK149
theorem cK122:check qPp 122=some (19,(jp 149).strip,[.cell 2 2 true]):=by kernel_rfl
theorem sK122:Sound qPp 122 (.dat false vD):=by
  apply U5 (hc:=cK122) h4<;>first|exact qrS|skip
  all_goals decide
def L5:qLS:=(122,.dat false vD)::L4
theorem h5:qHL L5:=Za h4 sK122
theorem cK114:check qPp 114=some (2,(Yk 122).strip,[.cell 0 2 true]):=by kernel_rfl
theorem sK114:Sound qPp 114 (.dat false vl):=by
  apply JR (hc:=cK114) h5<;>first|exact qrS|skip
  all_goals decide
def L6:qLS:=(114,.dat false vl)::L5
theorem h6:qHL L6:=Za h5 sK114
theorem cK180:check qPp 180=some (19,Jj.strip,[.tmp 2]):=by kernel_rfl
theorem sK180:Sound qPp 180 (.dat true vg):=by
  apply ZE (hc:=cK180) h6<;>first|exact qrS|skip
  all_goals decide
def L7:qLS:=(180,.dat true vg)::L6
theorem h7:qHL L7:=Za h6 sK180
theorem cK151:check qPp 151=some (8,(vn 180).strip,[.tmp 2]):=by kernel_rfl
theorem sK151:Sound qPp 151 (.dat false Xg):=by
  apply ZP (hc:=cK151) h7<;>first|exact qrS|skip
  all_goals decide
def L8:qLS:=(151,.dat false Xg)::L7
theorem h8:qHL L8:=Za h7 sK151
theorem cK155:check qPp 155=some (9,(km 180).strip,[.tmp 2]):=by kernel_rfl
theorem sK155:Sound qPp 155 (.dat true ye):=by
  apply uK (hc:=cK155) h8<;>first|exact qrS|skip
  all_goals decide
def L9:qLS:=(155,.dat true ye)::L8
theorem h9:qHL L9:=Za h8 sK155
theorem cK119:check qPp 119=some (9,(Wg 151 155).strip,[.tmp 2]):=by kernel_rfl
theorem sK119:Sound qPp 119 (.dat true Zf):=by
  apply zY (hc:=cK119) h9<;>first|exact qrS|skip
  all_goals decide
def L10:qLS:=(119,.dat true Zf)::L9
theorem h10:qHL L10:=Za h9 sK119
theorem cK153:check qPp 153=some (9,(Wm 155 151 149).strip,[.cell 2 2 true]):=by kernel_rfl
theorem sK153:Sound qPp 153 (.dat false Zq):=by
  apply XO (hc:=cK153) h10<;>first|exact qrS|skip
  all_goals decide
def L11:qLS:=(153,.dat false Zq)::L10
theorem h11:qHL L11:=Za h10 sK153
theorem cK182:check qPp 182=some (14,zl.strip,[.tmp 4]):=by kernel_rfl
theorem sK182:Sound qPp 182 (.dat true Xi):=by
  apply kR (hc:=cK182) h11<;>first|exact qrS|skip
  all_goals decide
def L12:qLS:=(182,.dat true Xi)::L11
theorem h12:qHL L12:=Za h11 sK182
theorem cK179:check qPp 179=some (21,ki.strip,[.tmp 2]):=by kernel_rfl
theorem sK179:Sound qPp 179 (.own Y2):=by
  apply ZaP (hc:=cK179) h12<;>first|exact qrS|skip
  all_goals decide
def L13:qLS:=(179,.own Y2)::L12
theorem h13:qHL L13:=Za h12 sK179
theorem cK177:check qPp 177=some (26,(Qg 182 179).strip,[.tmp 2]):=by kernel_rfl
theorem sK177:Sound qPp 177 (.own zo):=by
  apply qao (hc:=cK177) h13<;>first|exact qrS|skip
  all_goals decide
def L14:qLS:=(177,.own zo)::L13
theorem h14:qHL L14:=Za h13 sK177
theorem cK159:check qPp 159=some (30,(We 182).strip,[.tmp 4]):=by kernel_rfl
theorem sK159:Sound qPp 159 (.dat true ko):=by
  apply Zaj (hc:=cK159) h14<;>first|exact qrS|skip
  all_goals decide
def L15:qLS:=(159,.dat true ko)::L14
theorem h15:qHL L15:=Za h14 sK159
theorem cK178:check qPp 178=some (31,(ze 182).strip,[]):=by kernel_rfl
theorem sK178:Sound qPp 178 (.own uu):=by
  apply WaJ (hc:=cK178) h15<;>first|exact qrS|skip
  all_goals decide
def L16:qLS:=(178,.own uu)::L15
theorem h16:qHL L16:=Za h15 sK178
theorem cK158:check qPp 158=some (37,(Qh 182 176).strip,[.tmp 4]):=by kernel_rfl
theorem sK158:Sound qPp 158 (.dat false yn):=by
  apply zad (hc:=cK158) h16<;>first|exact qrS|skip
  all_goals decide
def L17:qLS:=(158,.dat false yn)::L16
theorem h17:qHL L17:=Za h16 sK158
theorem cK150:check qPp 150=some (72,(Uh 176 177 159 178 179 158).strip,[.tmp 4]):=by kernel_rfl
theorem sK150:Sound qPp 150 (.dat false Ut):=by
  apply Zan (hc:=cK150) h17<;>first|exact qrS|skip
  all_goals decide
def L18:qLS:=(150,.dat false Ut)::L17
theorem h18:qHL L18:=Za h17 sK150
theorem cK113:check qPp 113=some (11,(Qi 151 150 149).strip,[.cell 4 2 true]):=by kernel_rfl
theorem sK113:Sound qPp 113 (.dat false uo):=by
  apply J6 (hc:=cK113) h18<;>first|exact qrS|skip
  all_goals decide
def L19:qLS:=(113,.dat false uo)::L18
theorem h19:qHL L19:=Za h18 sK113
theorem cK194:check qPp 194=some (25,xg.strip,[.tmp 2]):=by kernel_rfl
theorem sK194:Sound qPp 194 (.dat true qn):=by
  apply Uac (hc:=cK194) h19<;>first|exact qrS|skip
  all_goals decide
def L20:qLS:=(194,.dat true qn)::L19
theorem h20:qHL L20:=Za h19 sK194
theorem cK181:check qPp 181=some (76,(jf 194 159 178 176).strip,[.tmp 4,.tmp 5]):=by kernel_rfl
theorem sK181:Sound qPp 181 (.dat false Ue):=by
  apply WM (hc:=cK181) h20<;>first|exact qrS|skip
  all_goals decide
def L21:qLS:=(181,.dat false Ue)::L20
theorem h21:qHL L21:=Za h20 sK181
theorem cK160:check qPp 160=some (35,(zg 182 176).strip,[.tmp 4]):=by kernel_rfl
theorem sK160:Sound qPp 160 (.dat false Uo):=by
  apply qY (hc:=cK160) h21<;>first|exact qrS|skip
  all_goals decide
def L22:qLS:=(160,.dat false Uo)::L21
theorem h22:qHL L22:=Za h21 sK160
theorem cK154:check qPp 154=some (45,(qi 119 151 181 155 158 160 149).strip,[.cell 4 2 true,.cell 5 2 true,.tmp 6]):=by kernel_rfl
theorem sK154:Sound qPp 154 (.dat false xm):=by
  apply Vaa (hc:=cK154) h22<;>first|exact qrS|skip
  all_goals decide
def L23:qLS:=(154,.dat false xm)::L22
theorem h23:qHL L23:=Za h22 sK154
theorem cK117:check qPp 117=some (47,(kg 119 153 113 154).strip,[.cell 4 3 true]):=by kernel_rfl
theorem sK117:Sound qPp 117 (.dat false qh):=by
  apply zT (hc:=cK117) h23<;>first|exact qrS|skip
  all_goals decide
def L24:qLS:=(117,.dat false qh)::L23
theorem h24:qHL L24:=Za h23 sK117
theorem cK79:check qPp 79=some (7,(wm 122 114 117).strip,[.cell 2 3 true]):=by kernel_rfl
theorem sK79:Sound qPp 79 (.dat false Uz):=by
  apply Xah (hc:=cK79) h24<;>first|exact qrS|skip
  all_goals decide
def L25:qLS:=(79,.dat false Uz)::L24
theorem h25:qHL L25:=Za h24 sK79
theorem cK53:check qPp 53=some (25,(Yj 79).strip,[.tmp 2]):=by kernel_rfl
theorem sK53:Sound qPp 53 (.dat false VM):=by
  apply vaQ (hc:=cK53) h25<;>first|exact qrS|skip
  all_goals decide
def L26:qLS:=(53,.dat false VM)::L25
theorem h26:qHL L26:=Za h25 sK53
theorem cK65:check qPp 65=some (29,Wo.strip,[.tmp 2]):=by kernel_rfl
theorem sK65:Sound qPp 65 (.dat true ug):=by
  apply US (hc:=cK65) h26<;>first|exact qrS|skip
  all_goals decide
def L27:qLS:=(65,.dat true ug)::L26
theorem h27:qHL L27:=Za h26 sK65
theorem cK109:check qPp 109=some (19,Jj.strip,[.tmp 2]):=by kernel_rfl
theorem sK109:Sound qPp 109 (.dat true vg):=by
  apply ZE (hc:=cK109) h27<;>first|exact qrS|skip
  all_goals decide
def L28:qLS:=(109,.dat true vg)::L27
theorem h28:qHL L28:=Za h27 sK109
theorem cK108:check qPp 108=some (8,(vn 109).strip,[.tmp 2]):=by kernel_rfl
theorem sK108:Sound qPp 108 (.dat false Xg):=by
  apply ZP (hc:=cK108) h28<;>first|exact qrS|skip
  all_goals decide
def L29:qLS:=(108,.dat false Xg)::L28
theorem h29:qHL L29:=Za h28 sK108
theorem cK132:check qPp 132=some (41,Uk.strip,[.tmp 4]):=by kernel_rfl
theorem sK132:Sound qPp 132 (.dat false Vf):=by
  apply kW (hc:=cK132) h29<;>first|exact qrS|skip
  all_goals decide
def L30:qLS:=(132,.dat false Vf)::L29
theorem h30:qHL L30:=Za h29 sK132
theorem cK162:check qPp 162=some (25,Vr.strip,[.tmp 2]):=by kernel_rfl
theorem sK162:Sound qPp 162 (.dat false Yo):=by
  apply zaL (hc:=cK162) h30<;>first|exact qrS|skip
  all_goals decide
def L31:qLS:=(162,.dat false Yo)::L30
theorem h31:qHL L31:=Za h30 sK162
theorem cK164:check qPp 164=some (43,(yo 162).strip,[.tmp 4,.tmp 5]):=by kernel_rfl
theorem sK164:Sound qPp 164 (.dat false Xr):=by
  apply jak (hc:=cK164) h31<;>first|exact qrS|skip
  all_goals decide
def L32:qLS:=(164,.dat false Xr)::L31
theorem h32:qHL L32:=Za h31 sK164
theorem sK171:Sound qPp 171 (.dat true lz_G):=XaZ (Qr Tryz.func171 (by kernel_rfl) (by kernel_rfl)) wbs qbD Tryz.bits_LeadingZeros32
def L33:qLS:=(171,.dat true lz_G)::L32
theorem h33:qHL L33:=Za h32 sK171
theorem cK172:check qPp 172=some (41,Yv.strip,[.tmp 4]):=by kernel_rfl
theorem sK172:Sound qPp 172 (.fresh 1 up_G):=by
  apply wbg (hc:=cK172) h33<;>first|exact qrS|skip
  all_goals decide
def L34:qLS:=(172,.fresh 1 up_G)::L33
theorem h34:qHL L34:=Za h33 sK172
theorem cK163:check qPp 163=some (14,zl.strip,[.tmp 4]):=by kernel_rfl
theorem sK163:Sound qPp 163 (.dat true Xi):=by
  apply kR (hc:=cK163) h34<;>first|exact qrS|skip
  all_goals decide
def L35:qLS:=(163,.dat true Xi)::L34
theorem h35:qHL L35:=Za h34 sK163
theorem cK173:check qPp 173=some (46,(qm 163).strip,[.tmp 6]):=by kernel_rfl
theorem sK173:Sound qPp 173 (.own Zp):=by
  apply Xac (hc:=cK173) h35<;>first|exact qrS|skip
  all_goals decide
def L36:qLS:=(173,.own Zp)::L35
theorem h36:qHL L36:=Za h35 sK173
theorem cK174:check qPp 174=some (30,(Up 163).strip,[]):=by kernel_rfl
theorem sK174:Sound qPp 174 (.own jC):=by
  apply xaJ (hc:=cK174) h36<;>first|exact qrS|skip
  all_goals decide
def L37:qLS:=(174,.own jC)::L36
theorem h37:qHL L37:=Za h36 sK174
theorem cK175:check qPp 175=some (35,(Wr 163 162).strip,[.tmp 4]):=by kernel_rfl
theorem sK175:Sound qPp 175 (.dat false Vz):=by
  apply yaM (hc:=cK175) h37<;>first|exact qrS|skip
  all_goals decide
def L38:qLS:=(175,.dat false Vz)::L37
theorem h38:qHL L38:=Za h37 sK175
theorem cK147:check qPp 147=some (158,(xh 132 162 164 171 172 173 174 175).strip,[.tmp 4,.tmp 5]):=by kernel_rfl
theorem sK147:Sound qPp 147 (.dat false Ue):=by
  apply J9 (hc:=cK147) h38<;>first|exact qrS|skip
  all_goals decide
def L39:qLS:=(147,.dat false Ue)::L38
theorem h39:qHL L39:=Za h38 sK147
theorem cK134:check qPp 134=some (15,(Jo 162).strip,[.cell 4 2 true]):=by kernel_rfl
theorem sK134:Sound qPp 134 (.dat false je):=by
  apply Xak (hc:=cK134) h39<;>first|exact qrS|skip
  all_goals decide
def L40:qLS:=(134,.dat false je)::L39
theorem h40:qHL L40:=Za h39 sK134
theorem cK110:check qPp 110=some (26,(ju 108 147 134).strip,[.cell 4 2 true]):=by kernel_rfl
theorem sK110:Sound qPp 110 (.dat false uo):=by
  apply vaN (hc:=cK110) h40<;>first|exact qrS|skip
  all_goals decide
def L41:qLS:=(110,.dat false uo)::L40
theorem h41:qHL L41:=Za h40 sK110
theorem cK121:check qPp 121=some (19,(jp 134).strip,[.cell 2 2 true]):=by kernel_rfl
theorem sK121:Sound qPp 121 (.dat false vD):=by
  apply U5 (hc:=cK121) h41<;>first|exact qrS|skip
  all_goals decide
def L42:qLS:=(121,.dat false vD)::L41
theorem h42:qHL L42:=Za h41 sK121
theorem cK107:check qPp 107=some (2,(Yk 121).strip,[.cell 0 2 true]):=by kernel_rfl
theorem sK107:Sound qPp 107 (.dat false vl):=by
  apply JR (hc:=cK107) h42<;>first|exact qrS|skip
  all_goals decide
def L43:qLS:=(107,.dat false vl)::L42
theorem h43:qHL L43:=Za h42 sK107
theorem cK64:check qPp 64=some (11,(Uq 108).strip,[.tmp 2]):=by kernel_rfl
theorem sK64:Sound qPp 64 (.dat true Zf):=by
  apply Xaj (hc:=cK64) h43<;>first|exact qrS|skip
  all_goals decide
def L44:qLS:=(64,.dat true Zf)::L43
theorem h44:qHL L44:=Za h43 sK64
theorem cK133:check qPp 133=some (9,(km 109).strip,[.tmp 2]):=by kernel_rfl
theorem sK133:Sound qPp 133 (.dat true ye):=by
  apply uK (hc:=cK133) h44<;>first|exact qrS|skip
  all_goals decide
def L45:qLS:=(133,.dat true ye)::L44
theorem h45:qHL L45:=Za h44 sK133
theorem cK92:check qPp 92=some (28,(zu 64 108 132 133).strip,[.tmp 4]):=by kernel_rfl
theorem sK92:Sound qPp 92 (.dat true yw):=by
  apply WaL (hc:=cK92) h45<;>first|exact qrS|skip
  all_goals decide
def L46:qLS:=(92,.dat true yw)::L45
theorem h46:qHL L46:=Za h45 sK92
theorem cK66:check qPp 66=some (50,(Ul 109 110 107 92).strip,[.tmp 2]):=by kernel_rfl
theorem sK66:Sound qPp 66 (.dat true xc):=by
  apply kae (hc:=cK66) h46<;>first|exact qrS|skip
  all_goals decide
def L47:qLS:=(66,.dat true xc)::L46
theorem h47:qHL L47:=Za h46 sK66
theorem cK63:check qPp 63=some (28,(Jm 66 107).strip,[.cell 2 2 true,.cell 3 2 true]):=by kernel_rfl
theorem sK63:Sound qPp 63 (.dat false Qd):=by
  apply kah (hc:=cK63) h47<;>first|exact qrS|skip
  all_goals decide
def L48:qLS:=(63,.dat false Qd)::L47
theorem h48:qHL L48:=Za h47 sK63
theorem cK18:check qPp 18=some (12,(Qj 63 64).strip,[.tmp 2]):=by kernel_rfl
theorem sK18:Sound qPp 18 (.dat true ke):=by
  apply VJ (hc:=cK18) h48<;>first|exact qrS|skip
  all_goals decide
def L49:qLS:=(18,.dat true ke)::L48
theorem h49:qHL L49:=Za h48 sK18
theorem cK146:check qPp 146=some (6,Wt.strip,[.tmp 2]):=by kernel_rfl
theorem sK146:Sound qPp 146 (.dat true yz):=by
  apply jaN (hc:=cK146) h49<;>first|exact qrS|skip
  all_goals decide
def L50:qLS:=(146,.dat true yz)::L49
theorem h50:qHL L50:=Za h49 sK146
theorem cK106:check qPp 106=some (20,(vf 146).strip,[.tmp 4]):=by kernel_rfl
theorem sK106:Sound qPp 106 (.dat true Uy):=by
  apply xaM (hc:=cK106) h50<;>first|exact qrS|skip
  all_goals decide
def L51:qLS:=(106,.dat true Uy)::L50
theorem h51:qHL L51:=Za h50 sK106
theorem cK105:check qPp 105=some (18,qA.strip,[.tmp 2]):=by kernel_rfl
theorem sK105:Sound qPp 105 (.dat true ZM):=by
  apply zaW (hc:=cK105) h51<;>first|exact qrS|skip
  all_goals decide
def L52:qLS:=(105,.dat true ZM)::L51
theorem h52:qHL L52:=Za h51 sK105
theorem cK62:check qPp 62=some (23,(wq 106 105).strip,[.tmp 4]):=by kernel_rfl
theorem sK62:Sound qPp 62 (.dat true Yr):=by
  apply J2 (hc:=cK62) h52<;>first|exact qrS|skip
  all_goals decide
def L53:qLS:=(62,.dat true Yr)::L52
theorem h53:qHL L53:=Za h52 sK62
theorem cK27:check qPp 27=some (48,(Zk 65 66 18 62 81).strip,[.tmp 2]):=by kernel_rfl
theorem sK27:Sound qPp 27 (.dat false (Vh 81)):=by
  apply Qad (hc:=cK27) h53<;>first|exact qrS|skip
  all_goals decide
def L54:qLS:=(27,.dat false (Vh 81))::L53
theorem h54:qHL L54:=Za h53 sK27
theorem cK55:check qPp 55=some (18,(jo 27).strip,[.tmp 2]):=by kernel_rfl
theorem sK55:Sound qPp 55 (.dat false (Yf 81)):=by
  apply jT (hc:=cK55) h54<;>first|exact qrS|skip
  all_goals decide
def L55:qLS:=(55,.dat false (Yf 81))::L54
theorem h55:qHL L55:=Za h54 sK55
theorem cK56:check qPp 56=some (21,kj.strip,[.tmp 2]):=by kernel_rfl
theorem sK56:Sound qPp 56 (.dat true Vl):=by
  apply QaN (hc:=cK56) h55<;>first|exact qrS|skip
  all_goals decide
def L56:qLS:=(56,.dat true Vl)::L55
theorem h56:qHL L56:=Za h55 sK56
theorem cK135:check qPp 135=some (67,(qo 162).strip,[.tmp 4]):=by kernel_rfl
theorem sK135:Sound qPp 135 (.dat false jm):=by
  apply vaj (hc:=cK135) h56<;>first|exact qrS|skip
  all_goals decide
def L57:qLS:=(135,.dat false jm)::L56
theorem h57:qHL L57:=Za h56 sK135
theorem cK93:check qPp 93=some (16,(ym 133 108 135 134).strip,[.cell 4 2 true]):=by kernel_rfl
theorem sK93:Sound qPp 93 (.dat false jq):=by
  apply jQ (hc:=cK93) h57<;>first|exact qrS|skip
  all_goals decide
def L58:qLS:=(93,.dat false jq)::L57
theorem h58:qHL L58:=Za h57 sK93
theorem cK96:check qPp 96=some (9,(Wm 133 108 134).strip,[.cell 2 2 true]):=by kernel_rfl
theorem sK96:Sound qPp 96 (.dat false Zq):=by
  apply XO (hc:=cK96) h58<;>first|exact qrS|skip
  all_goals decide
def L59:qLS:=(96,.dat false Zq)::L58
theorem h59:qHL L59:=Za h58 sK96
theorem cK137:check qPp 137=some (39,(Xp 163 162).strip,[.tmp 4]):=by kernel_rfl
theorem sK137:Sound qPp 137 (.dat false yn):=by
  apply kaM (hc:=cK137) h59<;>first|exact qrS|skip
  all_goals decide
def L60:qLS:=(137,.dat false yn)::L59
theorem h60:qHL L60:=Za h59 sK137
theorem cK138:check qPp 138=some (38,(xr 163 162).strip,[.tmp 4]):=by kernel_rfl
theorem sK138:Sound qPp 138 (.dat false Uo):=by
  apply uaK (hc:=cK138) h60<;>first|exact qrS|skip
  all_goals decide
def L61:qLS:=(138,.dat false Uo)::L60
theorem h61:qHL L61:=Za h60 sK138
theorem cK136:check qPp 136=some (47,(xt 108 147 133 137 138 134 81).strip,[.cell 4 2 true,.cell 5 2 true,.tmp 6]):=by kernel_rfl
theorem sK136:Sound qPp 136 (.dat false Jz):=by
  apply uaN (hc:=cK136) h61<;>first|exact qrS|skip
  all_goals decide
def L62:qLS:=(136,.dat false Jz)::L61
theorem h62:qHL L62:=Za h61 sK136
theorem cK94:check qPp 94=some (47,(Un 64 96 110 136).strip,[.cell 4 3 true]):=by kernel_rfl
theorem sK94:Sound qPp 94 (.dat false qh):=by
  apply Uan (hc:=cK94) h62<;>first|exact qrS|skip
  all_goals decide
def L63:qLS:=(94,.dat false qh)::L62
theorem h63:qHL L63:=Za h62 sK94
theorem cK48:check qPp 48=some (26,(yk 63 93 94).strip,[.cell 4 3 true]):=by kernel_rfl
theorem sK48:Sound qPp 48 (.dat false Wl):=by
  apply wR (hc:=cK48) h63<;>first|exact qrS|skip
  all_goals decide
def L64:qLS:=(48,.dat false Wl)::L63
theorem h64:qHL L64:=Za h63 sK48
theorem cK59:check qPp 59=some (8,ud.strip,[.tmp 2]):=by kernel_rfl
theorem sK59:Sound qPp 59 (.fresh 5 jl):=by
  apply Vai (hc:=cK59) h64<;>first|exact qrS|skip
  all_goals decide
def L65:qLS:=(59,.fresh 5 jl)::L64
theorem h65:qHL L65:=Za h64 sK59
theorem cK169:check qPp 169=some (53,jc.strip,[]):=by kernel_rfl
theorem sK169:Sound qPp 169 (.own (yC 62)):=by
  apply waM (hc:=cK169) h65<;>first|exact qrS|skip
  all_goals decide
def L66:qLS:=(169,.own (yC 62))::L65
theorem h66:qHL L66:=Za h65 sK169
theorem cK203:check qPp 203=some (38,Xc.strip,[]):=by kernel_rfl
theorem sK203:Sound qPp 203 (.own (Wz 62)):=by
  apply qaM (hc:=cK203) h66<;>first|exact qrS|skip
  all_goals decide
def L67:qLS:=(203,.own (Wz 62))::L66
theorem h67:qHL L67:=Za h66 sK203
theorem cK192:check qPp 192=some (58,(Xd 203).strip,[]):=by kernel_rfl
theorem sK192:Sound qPp 192 (.own (YA 62)):=by
  apply zaO (hc:=cK192) h67<;>first|exact qrS|skip
  all_goals decide
def L68:qLS:=(192,.own (YA 62))::L67
theorem h68:qHL L68:=Za h67 sK192
theorem cK170:check qPp 170=some (220,(Xa 192 170).strip,[]):=by kernel_rfl
theorem sK170:Sound qPp 170 (.own (Jh 62 10000)):=by
  apply XS (hc:=cK170) h68<;>first|exact qrS|skip
  all_goals decide
def L69:qLS:=(170,.own (Jh 62 10000))::L68
theorem h69:qHL L69:=Za h68 sK170
theorem cK144:check qPp 144=some (63,(xd 169 170).strip,[]):=by kernel_rfl
theorem sK144:Sound qPp 144 (.own (xw 62 10000)):=by
  apply Wam (hc:=cK144) h69<;>first|exact qrS|skip
  all_goals decide
def L70:qLS:=(144,.own (xw 62 10000))::L69
theorem h70:qHL L70:=Za h69 sK144
theorem cK101:check qPp 101=some (9,(kd 144).strip,[]):=by kernel_rfl
theorem sK101:Sound qPp 101 (.own (qt 62 10000)):=by
  apply ual (hc:=cK101) h70<;>first|exact qrS|skip
  all_goals decide
def L71:qLS:=(101,.own (qt 62 10000))::L70
theorem h71:qHL L71:=Za h70 sK101
theorem cK95:check qPp 95=some (40,(wt 108 133 137 134 132 138).strip,[.cell 4 2 true]):=by kernel_rfl
theorem sK95:Sound qPp 95 (.dat false Vs):=by
  apply qaN (hc:=cK95) h71<;>first|exact qrS|skip
  all_goals decide
def L72:qLS:=(95,.dat false Vs)::L71
theorem h72:qHL L72:=Za h71 sK95
theorem cK47:check qPp 47=some (30,(Ql 63 93 95 94).strip,[.cell 4 3 true]):=by kernel_rfl
theorem sK47:Sound qPp 47 (.dat false Yl):=by
  apply vQ (hc:=cK47) h72<;>first|exact qrS|skip
  all_goals decide
def L73:qLS:=(47,.dat false Yl)::L72
theorem h73:qHL L73:=Za h72 sK47
theorem cK103:check qPp 103=some (7,(zr 18).strip,[.tmp 2]):=by kernel_rfl
theorem sK103:Sound qPp 103 (.dat true zx):=by
  apply VaK (hc:=cK103) h73<;>first|exact qrS|skip
  all_goals decide
def L74:qLS:=(103,.dat true zx)::L73
theorem h74:qHL L74:=Za h73 sK103
theorem cK145:check qPp 145=some (19,Xb.strip,[.tmp 4]):=by kernel_rfl
theorem sK145:Sound qPp 145 (.dat true (Yz 103)):=by
  apply vaM (hc:=cK145) h74<;>first|exact qrS|skip
  all_goals decide
def L75:qLS:=(145,.dat true (Yz 103))::L74
theorem h75:qHL L75:=Za h74 sK145
theorem cK102:check qPp 102=some (42,(ua 145).strip,[.tmp 4]):=by kernel_rfl
theorem sK102:Sound qPp 102 (.own (vC 103)):=by
  apply YaJ (hc:=cK102) h75<;>first|exact qrS|skip
  all_goals decide
def L76:qLS:=(102,.own (vC 103))::L75
theorem h76:qHL L76:=Za h75 sK102
theorem cK57:check qPp 57=some (60,(wv 59 101 62 47 102 103).strip,[.tmp 2]):=by kernel_rfl
theorem sK57:Sound qPp 57 (.dat false (Xo 10000)):=by
  apply VaJ (hc:=cK57) h76<;>first|exact qrS|skip
  all_goals decide
def L77:qLS:=(57,.dat false (Xo 10000))::L76
theorem h77:qHL L77:=Za h76 sK57
theorem cK13:check qPp 13=some (71,(xk 55 56 48 57 81).strip,[.tmp 4,.tmp 5]):=by kernel_rfl
theorem sK13:Sound qPp 13 (.dat false (xz 81)):=by
  apply XaN (hc:=cK13) h77<;>first|exact qrS|skip
  all_goals decide
def L78:qLS:=(13,.dat false (xz 81))::L77
theorem h78:qHL L78:=Za h77 sK13
theorem cK81:check qPp 81=some (38,(qx 47 18).strip,[.tmp 2]):=by kernel_rfl
theorem sK81:Sound qPp 81 (.fresh 3 wo):=by
  apply Zal (hc:=cK81) h78<;>first|exact qrS|skip
  all_goals decide
def L79:qLS:=(81,.fresh 3 wo)::L78
theorem h79:qHL L79:=Za h78 sK81
theorem cK87:check qPp 87=some (48,(yt 81).strip,[.tmp 2]):=by kernel_rfl
theorem sK87:Sound qPp 87 (.dat false kt):=by
  apply jam (hc:=cK87) h79<;>first|exact qrS|skip
  all_goals decide
def L80:qLS:=(87,.dat false kt)::L79
theorem h80:qHL L80:=Za h79 sK87
theorem cK77:check qPp 77=some (7,(wm 121 107 94).strip,[.cell 2 3 true]):=by kernel_rfl
theorem sK77:Sound qPp 77 (.dat false Uz):=by
  apply Xah (hc:=cK77) h80<;>first|exact qrS|skip
  all_goals decide
def L81:qLS:=(77,.dat false Uz)::L80
theorem h81:qHL L81:=Za h80 sK77
theorem cK97:check qPp 97=some (34,(Jp 66 18 81).strip,[.tmp 2]):=by kernel_rfl
theorem sK97:Sound qPp 97 (.dat false (vk 81)):=by
  apply Q1 (hc:=cK97) h81<;>first|exact qrS|skip
  all_goals decide
def L82:qLS:=(97,.dat false (vk 81))::L81
theorem h82:qHL L82:=Za h81 sK97
theorem cK51:check qPp 51=some (31,(Jx 97 48 47).strip,[.cell 4 3 true,.tmp 5]):=by kernel_rfl
theorem sK51:Sound qPp 51 (.dat false (Yq 81)):=by
  apply kaj (hc:=cK51) h82<;>first|exact qrS|skip
  all_goals decide
def L83:qLS:=(51,.dat false (Yq 81))::L82
theorem h83:qHL L83:=Za h82 sK51
theorem cK49:check qPp 49=some (14,(Wk 63 96 94).strip,[.cell 2 3 true]):=by kernel_rfl
theorem sK49:Sound qPp 49 (.dat false Ur):=by
  apply VQ (hc:=cK49) h83<;>first|exact qrS|skip
  all_goals decide
def L84:qLS:=(49,.dat false Ur)::L83
theorem h84:qHL L84:=Za h83 sK49
theorem cK157:check qPp 157=some (14,(Qo 64 94 81).strip,[.cell 4 3 true,.tmp 5]):=by kernel_rfl
theorem sK157:Sound qPp 157 (.dat false (Jn 81)):=by
  apply wab (hc:=cK157) h84<;>first|exact qrS|skip
  all_goals decide
def L85:qLS:=(157,.dat false (Jn 81))::L84
theorem h85:qHL L85:=Za h84 sK157
theorem cK123:check qPp 123=some (29,(Jq 63 93 157).strip,[.cell 4 3 true,.tmp 5]):=by kernel_rfl
theorem sK123:Sound qPp 123 (.dat false (xq 81)):=by
  apply Qaj (hc:=cK123) h85<;>first|exact qrS|skip
  all_goals decide
def L86:qLS:=(123,.dat false (xq 81))::L85
theorem h86:qHL L86:=Za h85 sK123
theorem cK127:check qPp 127=some (9,(qk 49 47).strip,[.cell 4 3 true]):=by kernel_rfl
theorem sK127:Sound qPp 127 (.dat false Xs):=by
  apply yO (hc:=cK127) h86<;>first|exact qrS|skip
  all_goals decide
def L87:qLS:=(127,.dat false Xs)::L86
theorem h87:qHL L87:=Za h86 sK127
theorem cK126:check qPp 126=some (130,(Vw 77 18 49 48 123 127).strip,[.cell 2 3 true,.tmp 3]):=by kernel_rfl
theorem sK126:Sound qPp 126 (.own (qL 81)):=by
  apply YaL (hc:=cK126) h87<;>first|exact qrS|skip
  all_goals decide
def L88:qLS:=(126,.own (qL 81))::L87
theorem h88:qHL L88:=Za h87 sK126
theorem cK88:check qPp 88=some (71,(Vq 126).strip,[.cell 4 3 true,.tmp 5]):=by kernel_rfl
theorem sK88:Sound qPp 88 (.dat false (Um 81)):=by
  apply X8 (hc:=cK88) h88<;>first|exact qrS|skip
  all_goals decide
def L89:qLS:=(88,.dat false (Um 81))::L88
theorem h89:qHL L89:=Za h88 sK88
theorem cK46:check qPp 46=some (26,(Qq 63 93 92).strip,[.tmp 4]):=by kernel_rfl
theorem sK46:Sound qPp 46 (.dat true Uw):=by
  apply qaL (hc:=cK46) h89<;>first|exact qrS|skip
  all_goals decide
def L90:qLS:=(46,.dat true Uw)::L89
theorem h90:qHL L90:=Za h89 sK46
theorem cK161:check qPp 161=some (14,qf.strip,[.cell 4 3 true]):=by kernel_rfl
theorem sK161:Sound qPp 161 (.dat false Jt):=by
  apply Yal (hc:=cK161) h90<;>first|exact qrS|skip
  all_goals decide
def L91:qLS:=(161,.dat false Jt)::L90
theorem h91:qHL L91:=Za h90 sK161
theorem cK128:check qPp 128=some (35,(vx 161 48 47 81).strip,[.tmp 6]):=by kernel_rfl
theorem sK128:Sound qPp 128 (.dat false Xt):=by
  apply Jak (hc:=cK128) h91<;>first|exact qrS|skip
  all_goals decide
def L92:qLS:=(128,.dat false Xt)::L91
theorem h92:qHL L92:=Za h91 sK128
theorem cK129:check qPp 129=some (58,(uk 48 47 81).strip,[.tmp 4]):=by kernel_rfl
theorem sK129:Sound qPp 129 (.dat false zn):=by
  apply Yai (hc:=cK129) h92<;>first|exact qrS|skip
  all_goals decide
def L93:qLS:=(129,.dat false zn)::L92
theorem h93:qHL L93:=Za h92 sK129
theorem cK89:check qPp 89=some (133,(kr 66 46 77 51 127 123 128 49 129 81).strip,[.tmp 4,.tmp 5]):=by kernel_rfl
theorem sK89:Sound qPp 89 (.dat false (Vu 81)):=by
  apply jan (hc:=cK89) h93<;>first|exact qrS|skip
  all_goals decide
def L94:qLS:=(89,.dat false (Vu 81))::L93
theorem h94:qHL L94:=Za h93 sK89
theorem cK44:check qPp 44=some (128,(yb 55 87 56 77 51 88 89 81).strip,[.tmp 4,.tmp 5]):=by kernel_rfl
theorem sK44:Sound qPp 44 (.dat false (Vt 81)):=by
  apply vam (hc:=cK44) h94<;>first|exact qrS|skip
  all_goals decide
def L95:qLS:=(44,.dat false (Vt 81))::L94
theorem h95:qHL L95:=Za h94 sK44
theorem cK186:check qPp 186=some (15,Jb.strip,[.tmp 2]):=by kernel_rfl
theorem sK186:Sound qPp 186 (.dat false Xm):=by
  apply W4 (hc:=cK186) h95<;>first|exact qrS|skip
  all_goals decide
def L96:qLS:=(186,.dat false Xm)::L95
theorem h96:qHL L96:=Za h95 sK186
theorem cK166:check qPp 166=some (54,(uc 186 187 188 189).strip,[.tmp 4]):=by kernel_rfl
theorem sK166:Sound qPp 166 (.dat false Qu):=by
  apply xal (hc:=cK166) h96<;>first|exact qrS|skip
  all_goals decide
def L97:qLS:=(166,.dat false Qu)::L96
theorem h97:qHL L97:=Za h96 sK166
theorem cK140:check qPp 140=some (5,(xe 166).strip,[.tmp 2]):=by kernel_rfl
theorem sK140:Sound qPp 140 (.dat false yj):=by
  apply zaj (hc:=cK140) h97<;>first|exact qrS|skip
  all_goals decide
def L98:qLS:=(140,.dat false yj)::L97
theorem h98:qHL L98:=Za h97 sK140
theorem cK99:check qPp 99=some (5,(jr 140).strip,[.tmp 2]):=by kernel_rfl
theorem sK99:Sound qPp 99 (.dat false yj):=by
  apply J5 (hc:=cK99) h98<;>first|exact qrS|skip
  all_goals decide
def L99:qLS:=(99,.dat false yj)::L98
theorem h99:qHL L99:=Za h98 sK99
theorem sK100:Sound qPp 100 (.dat false yq):=Wan (Qr Tryz.func100 (by kernel_rfl) (by kernel_rfl)) Tryz.strings_Join
def L100:qLS:=(100,.dat false yq)::L99
theorem h100:qHL L100:=Za h99 sK100
theorem cK139:check qPp 139=some (44,(Zr 108 164 99 165 100 133).strip,[.tmp 2]):=by kernel_rfl
theorem sK139:Sound qPp 139 (.dat false qM):=by
  apply QaW (hc:=cK139) h100<;>first|exact qrS|skip
  all_goals decide
def L101:qLS:=(139,.dat false qM)::L100
theorem h101:qHL L101:=Za h100 sK139
theorem cK98:check qPp 98=some (22,(Zj 63 107 92 139).strip,[.tmp 2]):=by kernel_rfl
theorem sK98:Sound qPp 98 (.dat false jM):=by
  apply wa0 (hc:=cK98) h101<;>first|exact qrS|skip
  all_goals decide
def L102:qLS:=(98,.dat false jM)::L101
theorem h102:qHL L102:=Za h101 sK98
theorem cK54:check qPp 54=some (51,(kx 97 18 98 99 100).strip,[.tmp 2,.tmp 3]):=by kernel_rfl
theorem sK54:Sound qPp 54 (.dat false (jn 81)):=by
  apply X6 (hc:=cK54) h102<;>first|exact qrS|skip
  all_goals decide
def L103:qLS:=(54,.dat false (jn 81))::L102
theorem h103:qHL L103:=Za h102 sK54
theorem cK125:check qPp 125=some (26,Zh.strip,[.tmp 4]):=by kernel_rfl
theorem sK125:Sound qPp 125 (.dat true Vm):=by
  apply U8 (hc:=cK125) h103<;>first|exact qrS|skip
  all_goals decide
def L104:qLS:=(125,.dat true Vm)::L103
theorem h104:qHL L104:=Za h103 sK125
theorem cK85:check qPp 85=some (24,(xj 125).strip,[.tmp 4]):=by kernel_rfl
theorem sK85:Sound qPp 85 (.dat true Us):=by
  apply uaL (hc:=cK85) h104<;>first|exact qrS|skip
  all_goals decide
def L105:qLS:=(85,.dat true Us)::L104
theorem h105:qHL L105:=Za h104 sK85
theorem cK41:check qPp 41=some (8,(jh 85).strip,[.tmp 4]):=by kernel_rfl
theorem sK41:Sound qPp 41 (.dat true Us):=by
  apply qam (hc:=cK41) h105<;>first|exact qrS|skip
  all_goals decide
def L106:qLS:=(41,.dat true Us)::L105
theorem h106:qHL L106:=Za h105 sK41
theorem cK17:check qPp 17=some (55,(Wd 41).strip,[.tmp 4]):=by kernel_rfl
theorem sK17:Sound qPp 17 (.dat false jk):=by
  apply yag (hc:=cK17) h106<;>first|exact qrS|skip
  all_goals decide
def L107:qLS:=(17,.dat false jk)::L106
theorem h107:qHL L107:=Za h106 sK17
theorem cK12:check qPp 12=some (57,(qg 53 13 44 54 17).strip,[.tmp 0]):=by kernel_rfl
theorem sK12:Sound qPp 12 (.dat false Vn):=by
  apply Yad (hc:=cK12) h107<;>first|exact qrS|skip
  all_goals decide
def L108:qLS:=(12,.dat false Vn)::L107
theorem h108:qHL L108:=Za h107 sK12
theorem cK20:check qPp 20=some (28,(um 65 66 57 81).strip,[.tmp 2,.tmp 3]):=by kernel_rfl
theorem sK20:Sound qPp 20 (.dat false (Zt 81)):=by
  apply Wak (hc:=cK20) h108<;>first|exact qrS|skip
  all_goals decide
def L109:qLS:=(20,.dat false (Zt 81))::L108
theorem h109:qHL L109:=Za h108 sK20
theorem cK21:check qPp 21=some (12,(wj 27 56).strip,[.tmp 2,.tmp 3]):=by kernel_rfl
theorem sK21:Sound qPp 21 (.dat false (Yi 81)):=by
  apply xZ (hc:=cK21) h109<;>first|exact qrS|skip
  all_goals decide
def L110:qLS:=(21,.dat false (Yi 81))::L109
theorem h110:qHL L110:=Za h109 sK21
theorem cK60:check qPp 60=some (11,zq.strip,[.tmp 3]):=by kernel_rfl
theorem sK60:Sound qPp 60 (.dat true xx):=by
  apply kaK (hc:=cK60) h110<;>first|exact qrS|skip
  all_goals decide
def L111:qLS:=(60,.dat true xx)::L110
theorem h111:qHL L111:=Za h110 sK60
theorem cK104:check qPp 104=some (19,Xb.strip,[.tmp 4]):=by kernel_rfl
theorem sK104:Sound qPp 104 (.dat true (jz 60)):=by
  apply YaN (hc:=cK104) h111<;>first|exact qrS|skip
  all_goals decide
def L112:qLS:=(104,.dat true (jz 60))::L111
theorem h112:qHL L112:=Za h111 sK104
theorem cK58:check qPp 58=some (42,(ua 104).strip,[.tmp 4]):=by kernel_rfl
theorem sK58:Sound qPp 58 (.own (jE 60)):=by
  apply VaN (hc:=cK58) h112<;>first|exact qrS|skip
  all_goals decide
def L113:qLS:=(58,.own (jE 60))::L112
theorem h113:qHL L113:=Za h112 sK58
theorem cK14:check qPp 14=some (18,(zp 27 56 59 58 57 60).strip,[.tmp 2,.tmp 3]):=by kernel_rfl
theorem sK14:Sound qPp 14 (.dat false (Xy 81)):=by
  apply UaN (hc:=cK14) h113<;>first|exact qrS|skip
  all_goals decide
def L114:qLS:=(14,.dat false (Xy 81))::L113
theorem h114:qHL L114:=Za h113 sK14
theorem cK16:check qPp 16=some (60,(xi 55 62 48 46).strip,[.tmp 4,.tmp 5]):=by kernel_rfl
theorem sK16:Sound qPp 16 (.dat false (qu 81)):=by
  apply Qal (hc:=cK16) h114<;>first|exact qrS|skip
  all_goals decide
def L115:qLS:=(16,.dat false (qu 81))::L114
theorem h115:qHL L115:=Za h114 sK16
theorem cK67:check qPp 67=some (29,Zb.strip,[.tmp 2]):=by kernel_rfl
theorem sK67:Sound qPp 67 (.dat true Qx):=by
  apply uaM (hc:=cK67) h115<;>first|exact qrS|skip
  all_goals decide
def L116:qLS:=(67,.dat true Qx)::L115
theorem h116:qHL L116:=Za h115 sK67
theorem cK111:check qPp 111=some (15,xf.strip,[.tmp 2]):=by kernel_rfl
theorem sK111:Sound qPp 111 (.dat true Ym):=by
  apply QM (hc:=cK111) h116<;>first|exact qrS|skip
  all_goals decide
def L117:qLS:=(111,.dat true Ym)::L116
theorem h117:qHL L117:=Za h116 sK111
theorem cK124:check qPp 124=some (38,(Zi 151 155 158 149 159 160).strip,[.cell 4 2 true]):=by kernel_rfl
theorem sK124:Sound qPp 124 (.dat false Vs):=by
  apply Y9 (hc:=cK124) h117<;>first|exact qrS|skip
  all_goals decide
def L118:qLS:=(124,.dat false Vs)::L117
theorem h118:qHL L118:=Za h117 sK124
theorem cK148:check qPp 148=some (9,(Ji 153 124).strip,[.cell 4 2 true]):=by kernel_rfl
theorem sK148:Sound qPp 148 (.dat false wz):=by
  apply Vag (hc:=cK148) h118<;>first|exact qrS|skip
  all_goals decide
def L119:qLS:=(148,.dat false wz)::L118
theorem h119:qHL L119:=Za h118 sK148
theorem cK112:check qPp 112=some (9,(Vi 148 119).strip,[.tmp 4]):=by kernel_rfl
theorem sK112:Sound qPp 112 (.dat true wn):=by
  apply J1 (hc:=cK112) h119<;>first|exact qrS|skip
  all_goals decide
def L120:qLS:=(112,.dat true wn)::L119
theorem h120:qHL L120:=Za h119 sK112
theorem cK68:check qPp 68=some (36,(Uf 111 113 114 112).strip,[.tmp 2]):=by kernel_rfl
theorem sK68:Sound qPp 68 (.dat true xc):=by
  apply vM (hc:=cK68) h120<;>first|exact qrS|skip
  all_goals decide
def L121:qLS:=(68,.dat true xc)::L120
theorem h121:qHL L121:=Za h120 sK68
theorem cK75:check qPp 75=some (32,jd.strip,[.tmp 4]):=by kernel_rfl
theorem sK75:Sound qPp 75 (.dat false Zx):=by
  apply jaK (hc:=cK75) h121<;>first|exact qrS|skip
  all_goals decide
def L122:qLS:=(75,.dat false Zx)::L121
theorem h122:qHL L122:=Za h121 sK75
theorem cK116:check qPp 116=some (23,(jg 68 114).strip,[.cell 2 2 true,.cell 3 2 true]):=by kernel_rfl
theorem sK116:Sound qPp 116 (.dat false Qd):=by
  apply yM (hc:=cK116) h122<;>first|exact qrS|skip
  all_goals decide
def L123:qLS:=(116,.dat false Qd)::L122
theorem h123:qHL L123:=Za h122 sK116
theorem cK156:check qPp 156=some (68,(Xf 176).strip,[.tmp 4]):=by kernel_rfl
theorem sK156:Sound qPp 156 (.dat false jm):=by
  apply QT (hc:=cK156) h123<;>first|exact qrS|skip
  all_goals decide
def L124:qLS:=(156,.dat false jm)::L123
theorem h124:qHL L124:=Za h123 sK156
theorem cK118:check qPp 118=some (16,(ym 155 151 156 149).strip,[.cell 4 2 true]):=by kernel_rfl
theorem sK118:Sound qPp 118 (.dat false jq):=by
  apply jQ (hc:=cK118) h124<;>first|exact qrS|skip
  all_goals decide
def L125:qLS:=(118,.dat false jq)::L124
theorem h125:qHL L125:=Za h124 sK118
theorem cK82:check qPp 82=some (30,(Ql 116 118 124 117).strip,[.cell 4 3 true]):=by kernel_rfl
theorem sK82:Sound qPp 82 (.dat false Yl):=by
  apply vQ (hc:=cK82) h125<;>first|exact qrS|skip
  all_goals decide
def L126:qLS:=(82,.dat false Yl)::L125
theorem h126:qHL L126:=Za h125 sK82
theorem cK74:check qPp 74=some (12,(Qj 116 119).strip,[.tmp 2]):=by kernel_rfl
theorem sK74:Sound qPp 74 (.dat true ke):=by
  apply VJ (hc:=cK74) h126<;>first|exact qrS|skip
  all_goals decide
def L127:qLS:=(74,.dat true ke)::L126
theorem h127:qHL L127:=Za h126 sK74
theorem cK69:check qPp 69=some (106,(ji 75 82 74).strip,[.tmp 2]):=by kernel_rfl
theorem sK69:Sound qPp 69 (.dat false (Xo 10000)):=by
  apply waJ (hc:=cK69) h127<;>first|exact qrS|skip
  all_goals decide
def L128:qLS:=(69,.dat false (Xo 10000))::L127
theorem h128:qHL L128:=Za h127 sK69
theorem cK22:check qPp 22=some (28,(qe 67 68 69).strip,[.tmp 2,.tmp 3]):=by kernel_rfl
theorem sK22:Sound qPp 22 (.dat false jt):=by
  apply zal (hc:=cK22) h128<;>first|exact qrS|skip
  all_goals decide
def L129:qLS:=(22,.dat false jt)::L128
theorem h129:qHL L129:=Za h128 sK22
theorem cK28:check qPp 28=some (42,(yd 67 68 74 75).strip,[.tmp 2]):=by kernel_rfl
theorem sK28:Sound qPp 28 (.dat false Wh):=by
  apply Z2 (hc:=cK28) h129<;>first|exact qrS|skip
  all_goals decide
def L130:qLS:=(28,.dat false Wh)::L129
theorem h130:qHL L130:=Za h129 sK28
theorem cK70:check qPp 70=some (18,Zd.strip,[.tmp 2]):=by kernel_rfl
theorem sK70:Sound qPp 70 (.dat true Vl):=by
  apply uaJ (hc:=cK70) h130<;>first|exact qrS|skip
  all_goals decide
def L131:qLS:=(70,.dat true Vl)::L130
theorem h131:qHL L131:=Za h130 sK70
theorem cK23:check qPp 23=some (12,(zd 28 70).strip,[.tmp 2,.tmp 3]):=by kernel_rfl
theorem sK23:Sound qPp 23 (.dat false ui):=by
  apply kU (hc:=cK23) h131<;>first|exact qrS|skip
  all_goals decide
def L132:qLS:=(23,.dat false ui)::L131
theorem h132:qHL L132:=Za h131 sK23
theorem cK24:check qPp 24=some (33,(ve 28 70).strip,[.tmp 2,.tmp 3]):=by kernel_rfl
theorem sK24:Sound qPp 24 (.dat false qz):=by
  apply QaL (hc:=cK24) h132<;>first|exact qrS|skip
  all_goals decide
def L133:qLS:=(24,.dat false qz)::L132
theorem h133:qHL L133:=Za h132 sK24
theorem cK71:check qPp 71=some (18,(Ug 28).strip,[.tmp 2]):=by kernel_rfl
theorem sK71:Sound qPp 71 (.dat false Ju):=by
  apply Uak (hc:=cK71) h133<;>first|exact qrS|skip
  all_goals decide
def L134:qLS:=(71,.dat false Ju)::L133
theorem h134:qHL L134:=Za h133 sK71
theorem cK73:check qPp 73=some (26,(yk 116 118 117).strip,[.cell 4 3 true]):=by kernel_rfl
theorem sK73:Sound qPp 73 (.dat false Wl):=by
  apply wR (hc:=cK73) h134<;>first|exact qrS|skip
  all_goals decide
def L135:qLS:=(73,.dat false Wl)::L134
theorem h135:qHL L135:=Za h134 sK73
theorem cK152:check qPp 152=some (14,(Wk 116 153 117).strip,[.cell 2 3 true]):=by kernel_rfl
theorem sK152:Sound qPp 152 (.dat false Ur):=by
  apply VQ (hc:=cK152) h135<;>first|exact qrS|skip
  all_goals decide
def L136:qLS:=(152,.dat false Ur)::L135
theorem h136:qHL L136:=Za h135 sK152
theorem cK115:check qPp 115=some (9,(qk 152 82).strip,[.cell 4 3 true]):=by kernel_rfl
theorem sK115:Sound qPp 115 (.dat false Xs):=by
  apply yO (hc:=cK115) h136<;>first|exact qrS|skip
  all_goals decide
def L137:qLS:=(115,.dat false Xs)::L136
theorem h137:qHL L137:=Za h136 sK115
theorem cK72:check qPp 72=some (9,(vi 115 74).strip,[.tmp 4]):=by kernel_rfl
theorem sK72:Sound qPp 72 (.dat true kn):=by
  apply J4 (hc:=cK72) h137<;>first|exact qrS|skip
  all_goals decide
def L138:qLS:=(72,.dat true kn)::L137
theorem h138:qHL L138:=Za h137 sK72
theorem cK25:check qPp 25=some (74,(Wc 71 73 72).strip,[.tmp 4,.tmp 5]):=by kernel_rfl
theorem sK25:Sound qPp 25 (.dat false Yt):=by
  apply Qao (hc:=cK25) h138<;>first|exact qrS|skip
  all_goals decide
def L139:qLS:=(25,.dat false Yt)::L138
theorem h139:qHL L139:=Za h138 sK25
theorem cK26:check qPp 26=some (15,(Qf 81).strip,[.tmp 2]):=by kernel_rfl
theorem sK26:Sound qPp 26 (.dat true (Zz 81)):=by
  apply QaK (hc:=cK26) h139<;>first|exact qrS|skip
  all_goals decide
def L140:qLS:=(26,.dat true (Zz 81))::L139
theorem h140:qHL L140:=Za h139 sK26
theorem cK4:check qPp 4=some (123,(Zc 19 12 20 21 14 16 22 23 24 25 27 26 28 17).strip,[.tmp 4]):=by kernel_rfl
theorem sK4:Sound qPp 4 (.dat true Zn):=by
  apply zae (hc:=cK4) h140<;>first|exact qrS|skip
  all_goals decide
def L141:qLS:=(4,.dat true Zn)::L140
theorem h141:qHL L141:=Za h140 sK4
theorem hold:qHL L141:=h141
end Go.Abs
