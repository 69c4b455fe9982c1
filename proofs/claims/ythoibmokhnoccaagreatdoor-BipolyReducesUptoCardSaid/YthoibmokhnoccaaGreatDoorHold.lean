/-
  The contracts of this seat's functions, gathered.
-/
import Derived.Test.YthoibmokhnoccaaGreatDoorChecked
import Derived.Test.YthoibmokhnoccaaGreatDoorBits
import Derived.KernelRfl
import Derived.Test.YthoibmokhnoccaaGreatDoorM17
set_option maxRecDepth 100000
set_option linter.unusedVariables false
namespace Go.Abs
open Go.Proofs
noncomputable abbrev qPp:=Tryz.prog
abbrev qLS:=List (Nat×Spec)
abbrev qHL(l:qLS):=Holds qPp (Gl l)
theorem qrS{a:Spec}:a=a:=rfl
theorem cK52:check qPp 52=some (45,Qd.strip,[.tmp 6]):=by kernel_rfl
theorem sK52:Sound qPp 52 (.dat true Jw):=by
  apply Xax (hc:=cK52) uZ<;>first|exact qrS|skip
  all_goals decide
def L1:qLS:=(52,.dat true Jw)::[]
theorem h1:qHL L1:=Za uZ sK52
theorem cK19:check qPp 19=some (38,(zg 52).strip,[.tmp 2]):=by kernel_rfl
theorem sK19:Sound qPp 19 (.dat false yt):=by
  apply ZR (hc:=cK19) h1<;>first|exact qrS|skip
  all_goals decide
def L2:qLS:=(19,.dat false yt)::L1
theorem h2:qHL L2:=Za h1 sK19
theorem cK11:check qPp 11=some (15,(Vg 52).strip,[.tmp 2]):=by kernel_rfl
theorem sK11:Sound qPp 11 (.dat false wy):=by
  apply Z9 (hc:=cK11) h2<;>first|exact qrS|skip
  all_goals decide
def L3:qLS:=(11,.dat false wy)::L2
theorem h3:qHL L3:=Za h2 sK11
theorem cK176:check qPp 176=some (25,Xc.strip,[.tmp 2]):=by kernel_rfl
theorem sK176:Sound qPp 176 (.fresh 1 Qw):=by
  apply Xaz (hc:=cK176) h3<;>first|exact qrS|skip
  all_goals decide
def L4:qLS:=(176,.fresh 1 Qw)::L3
theorem h4:qHL L4:=Za h3 sK176
theorem cK149:check qPp 149=some (14,(ug 176).strip,[.cell 4 2 true]):=by kernel_rfl
theorem sK149:Sound qPp 149 (.dat false Wh):=by
  apply Z1 (hc:=cK149) h4<;>first|exact qrS|skip
  all_goals decide
def L5:qLS:=(149,.dat false Wh)::L4
theorem h5:qHL L5:=Za h4 sK149
theorem cK122:check qPp 122=some (19,(jo 149).strip,[.cell 2 2 true]):=by kernel_rfl
theorem sK122:Sound qPp 122 (.dat false yU):=by
  apply JX (hc:=cK122) h5<;>first|exact qrS|skip
  all_goals decide
def L6:qLS:=(122,.dat false yU)::L5
theorem h6:qHL L6:=Za h5 sK122
theorem cK114:check qPp 114=some (2,(Xk 122).strip,[.cell 0 2 true]):=by kernel_rfl
theorem sK114:Sound qPp 114 (.dat false Uq):=by
  apply kQ (hc:=cK114) h6<;>first|exact qrS|skip
  all_goals decide
def L7:qLS:=(114,.dat false Uq)::L6
theorem h7:qHL L7:=Za h6 sK114
theorem cK180:check qPp 180=some (19,wj.strip,[.tmp 2]):=by kernel_rfl
theorem sK180:Sound qPp 180 (.dat true ym):=by
  apply VE (hc:=cK180) h7<;>first|exact qrS|skip
  all_goals decide
def L8:qLS:=(180,.dat true ym)::L7
theorem h8:qHL L8:=Za h7 sK180
theorem cK151:check qPp 151=some (8,(Wm 180).strip,[.tmp 2]):=by kernel_rfl
theorem sK151:Sound qPp 151 (.dat false Yk):=by
  apply yN (hc:=cK151) h8<;>first|exact qrS|skip
  all_goals decide
def L9:qLS:=(151,.dat false Yk)::L8
theorem h9:qHL L9:=Za h8 sK151
theorem cK155:check qPp 155=some (9,(qn 180).strip,[.tmp 2]):=by kernel_rfl
theorem sK155:Sound qPp 155 (.dat true Yi):=by
  apply UG (hc:=cK155) h9<;>first|exact qrS|skip
  all_goals decide
def L10:qLS:=(155,.dat true Yi)::L9
theorem h10:qHL L10:=Za h9 sK155
theorem cK119:check qPp 119=some (9,(jh 151 155).strip,[.tmp 2]):=by kernel_rfl
theorem sK119:Sound qPp 119 (.dat true Uj):=by
  apply UU (hc:=cK119) h10<;>first|exact qrS|skip
  all_goals decide
def L11:qLS:=(119,.dat true Uj)::L10
theorem h11:qHL L11:=Za h10 sK119
theorem cK153:check qPp 153=some (9,(xm 155 151 149).strip,[.cell 2 2 true]):=by kernel_rfl
theorem sK153:Sound qPp 153 (.dat false Yw):=by
  apply uL (hc:=cK153) h11<;>first|exact qrS|skip
  all_goals decide
def L12:qLS:=(153,.dat false Yw)::L11
theorem h12:qHL L12:=Za h11 sK153
theorem cK182:check qPp 182=some (14,jl.strip,[.tmp 4]):=by kernel_rfl
theorem sK182:Sound qPp 182 (.dat true Qn):=by
  apply wQ (hc:=cK182) h12<;>first|exact qrS|skip
  all_goals decide
def L13:qLS:=(182,.dat true Qn)::L12
theorem h13:qHL L13:=Za h12 sK182
theorem cK179:check qPp 179=some (21,Xi.strip,[.tmp 2]):=by kernel_rfl
theorem sK179:Sound qPp 179 (.own X9):=by
  apply qaC (hc:=cK179) h13<;>first|exact qrS|skip
  all_goals decide
def L14:qLS:=(179,.own X9)::L13
theorem h14:qHL L14:=Za h13 sK179
theorem cK177:check qPp 177=some (26,(vg 182 179).strip,[.tmp 2]):=by kernel_rfl
theorem sK177:Sound qPp 177 (.own Un):=by
  apply vag (hc:=cK177) h14<;>first|exact qrS|skip
  all_goals decide
def L15:qLS:=(177,.own Un)::L14
theorem h15:qHL L15:=Za h14 sK177
theorem cK159:check qPp 159=some (30,(we 182).strip,[.tmp 4]):=by kernel_rfl
theorem sK159:Sound qPp 159 (.dat true kw):=by
  apply Zad (hc:=cK159) h15<;>first|exact qrS|skip
  all_goals decide
def L16:qLS:=(159,.dat true kw)::L15
theorem h16:qHL L16:=Za h15 sK159
theorem cK178:check qPp 178=some (31,(qe 182).strip,[]):=by kernel_rfl
theorem sK178:Sound qPp 178 (.own Ws):=by
  apply Waz (hc:=cK178) h16<;>first|exact qrS|skip
  all_goals decide
def L17:qLS:=(178,.own Ws)::L16
theorem h17:qHL L17:=Za h16 sK178
theorem cK158:check qPp 158=some (37,(qh 182 176).strip,[.tmp 4]):=by kernel_rfl
theorem sK158:Sound qPp 158 (.dat false Qt):=by
  apply U7 (hc:=cK158) h17<;>first|exact qrS|skip
  all_goals decide
def L18:qLS:=(158,.dat false Qt)::L17
theorem h18:qHL L18:=Za h17 sK158
theorem cK150:check qPp 150=some (72,(Ui 176 177 159 178 179 158).strip,[.tmp 4]):=by kernel_rfl
theorem sK150:Sound qPp 150 (.dat false vC):=by
  apply Vae (hc:=cK150) h18<;>first|exact qrS|skip
  all_goals decide
def L19:qLS:=(150,.dat false vC)::L18
theorem h19:qHL L19:=Za h18 sK150
theorem cK113:check qPp 113=some (11,(ui 151 150 149).strip,[.cell 4 2 true]):=by kernel_rfl
theorem sK113:Sound qPp 113 (.dat false Yv):=by
  apply yY (hc:=cK113) h19<;>first|exact qrS|skip
  all_goals decide
def L20:qLS:=(113,.dat false Yv)::L19
theorem h20:qHL L20:=Za h19 sK113
theorem cK194:check qPp 194=some (25,Qh.strip,[.tmp 2]):=by kernel_rfl
theorem sK194:Sound qPp 194 (.dat true Zy):=by
  apply W6 (hc:=cK194) h20<;>first|exact qrS|skip
  all_goals decide
def L21:qLS:=(194,.dat true Zy)::L20
theorem h21:qHL L21:=Za h20 sK194
theorem cK181:check qPp 181=some (76,(Qf 194 159 178 176).strip,[.tmp 4,.tmp 5]):=by kernel_rfl
theorem sK181:Sound qPp 181 (.dat false Uk):=by
  apply yK (hc:=cK181) h21<;>first|exact qrS|skip
  all_goals decide
def L22:qLS:=(181,.dat false Uk)::L21
theorem h22:qHL L22:=Za h21 sK181
theorem cK160:check qPp 160=some (35,(jg 182 176).strip,[.tmp 4]):=by kernel_rfl
theorem sK160:Sound qPp 160 (.dat false yv):=by
  apply WT (hc:=cK160) h22<;>first|exact qrS|skip
  all_goals decide
def L23:qLS:=(160,.dat false yv)::L22
theorem h23:qHL L23:=Za h22 sK160
theorem cK154:check qPp 154=some (45,(Vi 119 151 181 155 158 160 149).strip,[.cell 4 2 true,.cell 5 2 true,.tmp 6]):=by kernel_rfl
theorem sK154:Sound qPp 154 (.dat false jx):=by
  apply waa (hc:=cK154) h23<;>first|exact qrS|skip
  all_goals decide
def L24:qLS:=(154,.dat false jx)::L23
theorem h24:qHL L24:=Za h23 sK154
theorem cK117:check qPp 117=some (47,(yh 119 153 113 154).strip,[.cell 4 3 true]):=by kernel_rfl
theorem sK117:Sound qPp 117 (.dat false Vm):=by
  apply ZV (hc:=cK117) h24<;>first|exact qrS|skip
  all_goals decide
def L25:qLS:=(117,.dat false Vm)::L24
theorem h25:qHL L25:=Za h24 sK117
theorem cK79:check qPp 79=some (7,(Um 122 114 117).strip,[.cell 2 3 true]):=by kernel_rfl
theorem sK79:Sound qPp 79 (.dat false vw):=by
  apply Z4 (hc:=cK79) h25<;>first|exact qrS|skip
  all_goals decide
def L26:qLS:=(79,.dat false vw)::L25
theorem h26:qHL L26:=Za h25 sK79
theorem cK53:check qPp 53=some (25,(vk 79).strip,[.tmp 2]):=by kernel_rfl
theorem sK53:Sound qPp 53 (.dat false Jaw):=by
  apply XaN (hc:=cK53) h26<;>first|exact qrS|skip
  all_goals decide
def L27:qLS:=(53,.dat false Jaw)::L26
theorem h27:qHL L27:=Za h26 sK53
theorem cK65:check qPp 65=some (29,wn.strip,[.tmp 2]):=by kernel_rfl
theorem sK65:Sound qPp 65 (.dat true qt):=by
  apply vV (hc:=cK65) h27<;>first|exact qrS|skip
  all_goals decide
def L28:qLS:=(65,.dat true qt)::L27
theorem h28:qHL L28:=Za h27 sK65
theorem cK109:check qPp 109=some (19,wj.strip,[.tmp 2]):=by kernel_rfl
theorem sK109:Sound qPp 109 (.dat true ym):=by
  apply VE (hc:=cK109) h28<;>first|exact qrS|skip
  all_goals decide
def L29:qLS:=(109,.dat true ym)::L28
theorem h29:qHL L29:=Za h28 sK109
theorem cK108:check qPp 108=some (8,(Wm 109).strip,[.tmp 2]):=by kernel_rfl
theorem sK108:Sound qPp 108 (.dat false Yk):=by
  apply yN (hc:=cK108) h29<;>first|exact qrS|skip
  all_goals decide
def L30:qLS:=(108,.dat false Yk)::L29
theorem h30:qHL L30:=Za h29 sK108
theorem cK132:check qPp 132=some (41,Wk.strip,[.tmp 4]):=by kernel_rfl
theorem sK132:Sound qPp 132 (.dat false Zn):=by
  apply qU (hc:=cK132) h30<;>first|exact qrS|skip
  all_goals decide
def L31:qLS:=(132,.dat false Zn)::L30
theorem h31:qHL L31:=Za h30 sK132
theorem cK162:check qPp 162=some (25,Vp.strip,[.tmp 2]):=by kernel_rfl
theorem sK162:Sound qPp 162 (.dat false wv):=by
  apply zaw (hc:=cK162) h31<;>first|exact qrS|skip
  all_goals decide
def L32:qLS:=(162,.dat false wv)::L31
theorem h32:qHL L32:=Za h31 sK162
theorem cK164:check qPp 164=some (43,(kn 162).strip,[.tmp 4,.tmp 5]):=by kernel_rfl
theorem sK164:Sound qPp 164 (.dat false Vz):=by
  apply uag (hc:=cK164) h32<;>first|exact qrS|skip
  all_goals decide
def L33:qLS:=(164,.dat false Vz)::L32
theorem h33:qHL L33:=Za h32 sK164
theorem sK171:Sound qPp 171 (.dat true lz_G):=waC (kp Tryz.func171 (by kernel_rfl) (by kernel_rfl)) vbb vbg Tryz.bits_LeadingZeros32
def L34:qLS:=(171,.dat true lz_G)::L33
theorem h34:qHL L34:=Za h33 sK171
theorem cK172:check qPp 172=some (41,Wu.strip,[.tmp 4]):=by kernel_rfl
theorem sK172:Sound qPp 172 (.fresh 1 up_G):=by
  apply QaU (hc:=cK172) h34<;>first|exact qrS|skip
  all_goals decide
def L35:qLS:=(172,.fresh 1 up_G)::L34
theorem h35:qHL L35:=Za h34 sK172
theorem cK163:check qPp 163=some (14,jl.strip,[.tmp 4]):=by kernel_rfl
theorem sK163:Sound qPp 163 (.dat true Qn):=by
  apply wQ (hc:=cK163) h35<;>first|exact qrS|skip
  all_goals decide
def L36:qLS:=(163,.dat true Qn)::L35
theorem h36:qHL L36:=Za h35 sK163
theorem cK173:check qPp 173=some (46,(Qm 163).strip,[.tmp 6]):=by kernel_rfl
theorem sK173:Sound qPp 173 (.own Vo):=by
  apply X5 (hc:=cK173) h36<;>first|exact qrS|skip
  all_goals decide
def L37:qLS:=(173,.own Vo)::L36
theorem h37:qHL L37:=Za h36 sK173
theorem cK174:check qPp 174=some (30,(Jq 163).strip,[]):=by kernel_rfl
theorem sK174:Sound qPp 174 (.own yB):=by
  apply zax (hc:=cK174) h37<;>first|exact qrS|skip
  all_goals decide
def L38:qLS:=(174,.own yB)::L37
theorem h38:qHL L38:=Za h37 sK174
theorem cK175:check qPp 175=some (35,(jq 163 162).strip,[.tmp 4]):=by kernel_rfl
theorem sK175:Sound qPp 175 (.dat false UO):=by
  apply vax (hc:=cK175) h38<;>first|exact qrS|skip
  all_goals decide
def L39:qLS:=(175,.dat false UO)::L38
theorem h39:qHL L39:=Za h38 sK175
theorem cK147:check qPp 147=some (158,(uh 132 162 164 171 172 173 174 175).strip,[.tmp 4,.tmp 5]):=by kernel_rfl
theorem sK147:Sound qPp 147 (.dat false Uk):=by
  apply QZ (hc:=cK147) h39<;>first|exact qrS|skip
  all_goals decide
def L40:qLS:=(147,.dat false Uk)::L39
theorem h40:qHL L40:=Za h39 sK147
theorem cK134:check qPp 134=some (15,(Xn 162).strip,[.cell 4 2 true]):=by kernel_rfl
theorem sK134:Sound qPp 134 (.dat false Wh):=by
  apply Waf (hc:=cK134) h40<;>first|exact qrS|skip
  all_goals decide
def L41:qLS:=(134,.dat false Wh)::L40
theorem h41:qHL L41:=Za h40 sK134
theorem cK110:check qPp 110=some (26,(Wr 108 147 134).strip,[.cell 4 2 true]):=by kernel_rfl
theorem sK110:Sound qPp 110 (.dat false Yv):=by
  apply qay (hc:=cK110) h41<;>first|exact qrS|skip
  all_goals decide
def L42:qLS:=(110,.dat false Yv)::L41
theorem h42:qHL L42:=Za h41 sK110
theorem cK121:check qPp 121=some (19,(jo 134).strip,[.cell 2 2 true]):=by kernel_rfl
theorem sK121:Sound qPp 121 (.dat false yU):=by
  apply JX (hc:=cK121) h42<;>first|exact qrS|skip
  all_goals decide
def L43:qLS:=(121,.dat false yU)::L42
theorem h43:qHL L43:=Za h42 sK121
theorem cK107:check qPp 107=some (2,(Xk 121).strip,[.cell 0 2 true]):=by kernel_rfl
theorem sK107:Sound qPp 107 (.dat false Uq):=by
  apply kQ (hc:=cK107) h43<;>first|exact qrS|skip
  all_goals decide
def L44:qLS:=(107,.dat false Uq)::L43
theorem h44:qHL L44:=Za h43 sK107
theorem cK64:check qPp 64=some (11,(xp 108).strip,[.tmp 2]):=by kernel_rfl
theorem sK64:Sound qPp 64 (.dat true Uj):=by
  apply zac (hc:=cK64) h44<;>first|exact qrS|skip
  all_goals decide
def L45:qLS:=(64,.dat true Uj)::L44
theorem h45:qHL L45:=Za h44 sK64
theorem cK133:check qPp 133=some (9,(qn 109).strip,[.tmp 2]):=by kernel_rfl
theorem sK133:Sound qPp 133 (.dat true Yi):=by
  apply UG (hc:=cK133) h45<;>first|exact qrS|skip
  all_goals decide
def L46:qLS:=(133,.dat true Yi)::L45
theorem h46:qHL L46:=Za h45 sK133
theorem cK92:check qPp 92=some (28,(xr 64 108 132 133).strip,[.tmp 4]):=by kernel_rfl
theorem sK92:Sound qPp 92 (.dat true JE):=by
  apply jav (hc:=cK92) h46<;>first|exact qrS|skip
  all_goals decide
def L47:qLS:=(92,.dat true JE)::L46
theorem h47:qHL L47:=Za h46 sK92
theorem cK66:check qPp 66=some (50,(km 109 110 107 92).strip,[.tmp 2]):=by kernel_rfl
theorem sK66:Sound qPp 66 (.dat true Xg):=by
  apply XX (hc:=cK66) h47<;>first|exact qrS|skip
  all_goals decide
def L48:qLS:=(66,.dat true Xg)::L47
theorem h48:qHL L48:=Za h47 sK66
theorem cK63:check qPp 63=some (28,(Jm 66 107).strip,[.cell 2 2 true,.cell 3 2 true]):=by kernel_rfl
theorem sK63:Sound qPp 63 (.dat false vf):=by
  apply Z7 (hc:=cK63) h48<;>first|exact qrS|skip
  all_goals decide
def L49:qLS:=(63,.dat false vf)::L48
theorem h49:qHL L49:=Za h48 sK63
theorem cK18:check qPp 18=some (12,(Xj 63 64).strip,[.tmp 2]):=by kernel_rfl
theorem sK18:Sound qPp 18 (.dat true Zk):=by
  apply jK (hc:=cK18) h49<;>first|exact qrS|skip
  all_goals decide
def L50:qLS:=(18,.dat true Zk)::L49
theorem h50:qHL L50:=Za h49 sK18
theorem cK146:check qPp 146=some (6,js.strip,[.tmp 2]):=by kernel_rfl
theorem sK146:Sound qPp 146 (.dat true xN):=by
  apply kav (hc:=cK146) h50<;>first|exact qrS|skip
  all_goals decide
def L51:qLS:=(146,.dat true xN)::L50
theorem h51:qHL L51:=Za h50 sK146
theorem cK106:check qPp 106=some (20,(Yf 146).strip,[.tmp 4]):=by kernel_rfl
theorem sK106:Sound qPp 106 (.dat true wO):=by
  apply qaw (hc:=cK106) h51<;>first|exact qrS|skip
  all_goals decide
def L52:qLS:=(106,.dat true wO)::L51
theorem h52:qHL L52:=Za h51 sK106
theorem cK105:check qPp 105=some (18,wz.strip,[.tmp 2]):=by kernel_rfl
theorem sK105:Sound qPp 105 (.dat true Vav):=by
  apply JaF (hc:=cK105) h52<;>first|exact qrS|skip
  all_goals decide
def L53:qLS:=(105,.dat true Vav)::L52
theorem h53:qHL L53:=Za h52 sK105
theorem cK62:check qPp 62=some (23,(vp 106 105).strip,[.tmp 4]):=by kernel_rfl
theorem sK62:Sound qPp 62 (.dat true Yy):=by
  apply Y6 (hc:=cK62) h53<;>first|exact qrS|skip
  all_goals decide
def L54:qLS:=(62,.dat true Yy)::L53
theorem h54:qHL L54:=Za h53 sK62
theorem cK27:check qPp 27=some (48,(Ul 65 66 18 62 81).strip,[.tmp 2]):=by kernel_rfl
theorem sK27:Sound qPp 27 (.dat false (ko 81)):=by
  apply qab (hc:=cK27) h54<;>first|exact qrS|skip
  all_goals decide
def L55:qLS:=(27,.dat false (ko 81))::L54
theorem h55:qHL L55:=Za h54 sK27
theorem cK55:check qPp 55=some (18,(Vn 27).strip,[.tmp 2]):=by kernel_rfl
theorem sK55:Sound qPp 55 (.dat false (Wp 81)):=by
  apply VU (hc:=cK55) h55<;>first|exact qrS|skip
  all_goals decide
def L56:qLS:=(55,.dat false (Wp 81))::L55
theorem h56:qHL L56:=Za h55 sK55
theorem cK56:check qPp 56=some (21,yj.strip,[.tmp 2]):=by kernel_rfl
theorem sK56:Sound qPp 56 (.dat true Wv):=by
  apply xaz (hc:=cK56) h56<;>first|exact qrS|skip
  all_goals decide
def L57:qLS:=(56,.dat true Wv)::L56
theorem h57:qHL L57:=Za h56 sK56
theorem cK135:check qPp 135=some (67,(Yn 162).strip,[.tmp 4]):=by kernel_rfl
theorem sK135:Sound qPp 135 (.dat false Zu):=by
  apply zae (hc:=cK135) h57<;>first|exact qrS|skip
  all_goals decide
def L58:qLS:=(135,.dat false Zu)::L57
theorem h58:qHL L58:=Za h57 sK135
theorem cK93:check qPp 93=some (16,(Xm 133 108 135 134).strip,[.cell 4 2 true]):=by kernel_rfl
theorem sK93:Sound qPp 93 (.dat false uw):=by
  apply wN (hc:=cK93) h58<;>first|exact qrS|skip
  all_goals decide
def L59:qLS:=(93,.dat false uw)::L58
theorem h59:qHL L59:=Za h58 sK93
theorem cK96:check qPp 96=some (9,(xm 133 108 134).strip,[.cell 2 2 true]):=by kernel_rfl
theorem sK96:Sound qPp 96 (.dat false Yw):=by
  apply uL (hc:=cK96) h59<;>first|exact qrS|skip
  all_goals decide
def L60:qLS:=(96,.dat false Yw)::L59
theorem h60:qHL L60:=Za h59 sK96
theorem cK137:check qPp 137=some (39,(Qq 163 162).strip,[.tmp 4]):=by kernel_rfl
theorem sK137:Sound qPp 137 (.dat false Qt):=by
  apply yaw (hc:=cK137) h60<;>first|exact qrS|skip
  all_goals decide
def L61:qLS:=(137,.dat false Qt)::L60
theorem h61:qHL L61:=Za h60 sK137
theorem cK138:check qPp 138=some (38,(yp 163 162).strip,[.tmp 4]):=by kernel_rfl
theorem sK138:Sound qPp 138 (.dat false yv):=by
  apply Yay (hc:=cK138) h61<;>first|exact qrS|skip
  all_goals decide
def L62:qLS:=(138,.dat false yv)::L61
theorem h62:qHL L62:=Za h61 sK138
theorem cK136:check qPp 136=some (47,(Zs 108 147 133 137 138 134 81).strip,[.cell 4 2 true,.cell 5 2 true,.tmp 6]):=by kernel_rfl
theorem sK136:Sound qPp 136 (.dat false vQ):=by
  apply uaz (hc:=cK136) h62<;>first|exact qrS|skip
  all_goals decide
def L63:qLS:=(136,.dat false vQ)::L62
theorem h63:qHL L63:=Za h62 sK136
theorem cK94:check qPp 94=some (47,(vn 64 96 110 136).strip,[.cell 4 3 true]):=by kernel_rfl
theorem sK94:Sound qPp 94 (.dat false Vm):=by
  apply wac (hc:=cK94) h63<;>first|exact qrS|skip
  all_goals decide
def L64:qLS:=(94,.dat false Vm)::L63
theorem h64:qHL L64:=Za h63 sK94
theorem cK48:check qPp 48=some (26,(Wl 63 93 94).strip,[.cell 4 3 true]):=by kernel_rfl
theorem sK48:Sound qPp 48 (.dat false Zj):=by
  apply ZN (hc:=cK48) h64<;>first|exact qrS|skip
  all_goals decide
def L65:qLS:=(48,.dat false Zj)::L64
theorem h65:qHL L65:=Za h64 sK48
theorem cK59:check qPp 59=some (8,Ze.strip,[.tmp 2]):=by kernel_rfl
theorem sK59:Sound qPp 59 (.fresh 5 Wx):=by
  apply Z3 (hc:=cK59) h65<;>first|exact qrS|skip
  all_goals decide
def L66:qLS:=(59,.fresh 5 Wx)::L65
theorem h66:qHL L66:=Za h65 sK59
theorem cK169:check qPp 169=some (53,Qc.strip,[]):=by kernel_rfl
theorem sK169:Sound qPp 169 (.own (yA 62)):=by
  apply way (hc:=cK169) h66<;>first|exact qrS|skip
  all_goals decide
def L67:qLS:=(169,.own (yA 62))::L66
theorem h67:qHL L67:=Za h66 sK169
theorem cK203:check qPp 203=some (38,zd.strip,[]):=by kernel_rfl
theorem sK203:Sound qPp 203 (.own (Xy 62)):=by
  apply wav (hc:=cK203) h67<;>first|exact qrS|skip
  all_goals decide
def L68:qLS:=(203,.own (Xy 62))::L67
theorem h68:qHL L68:=Za h67 sK203
theorem cK192:check qPp 192=some (58,(ud 203).strip,[]):=by kernel_rfl
theorem sK192:Sound qPp 192 (.own (vB 62)):=by
  apply Vax (hc:=cK192) h68<;>first|exact qrS|skip
  all_goals decide
def L69:qLS:=(192,.own (vB 62))::L68
theorem h69:qHL L69:=Za h68 sK192
theorem cK170:check qPp 170=some (220,(ua 192 170).strip,[]):=by kernel_rfl
theorem sK170:Sound qPp 170 (.own (kh 62 10000)):=by
  apply XS (hc:=cK170) h69<;>first|exact qrS|skip
  all_goals decide
def L70:qLS:=(170,.own (kh 62 10000))::L69
theorem h70:qHL L70:=Za h69 sK170
theorem cK144:check qPp 144=some (63,(Ud 169 170).strip,[]):=by kernel_rfl
theorem sK144:Sound qPp 144 (.own (xw 62 10000)):=by
  apply Xaf (hc:=cK144) h70<;>first|exact qrS|skip
  all_goals decide
def L71:qLS:=(144,.own (xw 62 10000))::L70
theorem h71:qHL L71:=Za h70 sK144
theorem cK101:check qPp 101=some (9,(kd 144).strip,[]):=by kernel_rfl
theorem sK101:Sound qPp 101 (.own (Xr 62 10000)):=by
  apply Xad (hc:=cK101) h71<;>first|exact qrS|skip
  all_goals decide
def L72:qLS:=(101,.own (Xr 62 10000))::L71
theorem h72:qHL L72:=Za h71 sK101
theorem cK95:check qPp 95=some (40,(yr 108 133 137 134 132 138).strip,[.cell 4 2 true]):=by kernel_rfl
theorem sK95:Sound qPp 95 (.dat false Uy):=by
  apply xaw (hc:=cK95) h72<;>first|exact qrS|skip
  all_goals decide
def L73:qLS:=(95,.dat false Uy)::L72
theorem h73:qHL L73:=Za h72 sK95
theorem cK47:check qPp 47=some (30,(Xl 63 93 95 94).strip,[.cell 4 3 true]):=by kernel_rfl
theorem sK47:Sound qPp 47 (.dat false kk):=by
  apply wL (hc:=cK47) h73<;>first|exact qrS|skip
  all_goals decide
def L74:qLS:=(47,.dat false kk)::L73
theorem h74:qHL L74:=Za h73 sK47
theorem cK103:check qPp 103=some (7,(Yp 18).strip,[.tmp 2]):=by kernel_rfl
theorem sK103:Sound qPp 103 (.dat true wG):=by
  apply Zav (hc:=cK103) h74<;>first|exact qrS|skip
  all_goals decide
def L75:qLS:=(103,.dat true wG)::L74
theorem h75:qHL L75:=Za h74 sK103
theorem cK145:check qPp 145=some (19,yg.strip,[.tmp 4]):=by kernel_rfl
theorem sK145:Sound qPp 145 (.dat true (qM 103)):=by
  apply uay (hc:=cK145) h75<;>first|exact qrS|skip
  all_goals decide
def L76:qLS:=(145,.dat true (qM 103))::L75
theorem h76:qHL L76:=Za h75 sK145
theorem cK102:check qPp 102=some (42,(jc 145).strip,[.tmp 4]):=by kernel_rfl
theorem sK102:Sound qPp 102 (.own (JA 103)):=by
  apply yav (hc:=cK102) h76<;>first|exact qrS|skip
  all_goals decide
def L77:qLS:=(102,.own (JA 103))::L76
theorem h77:qHL L77:=Za h76 sK102
theorem cK57:check qPp 57=some (60,(Uu 59 101 62 47 102 103).strip,[.tmp 2]):=by kernel_rfl
theorem sK57:Sound qPp 57 (.dat false (Uv 10000)):=by
  apply Xau (hc:=cK57) h77<;>first|exact qrS|skip
  all_goals decide
def L78:qLS:=(57,.dat false (Uv 10000))::L77
theorem h78:qHL L78:=Za h77 sK57
theorem cK13:check qPp 13=some (71,(Zl 55 56 48 57 81).strip,[.tmp 4,.tmp 5]):=by kernel_rfl
theorem sK13:Sound qPp 13 (.dat false (JP 81)):=by
  apply vaz (hc:=cK13) h78<;>first|exact qrS|skip
  all_goals decide
def L79:qLS:=(13,.dat false (JP 81))::L78
theorem h79:qHL L79:=Za h78 sK13
theorem cK81:check qPp 81=some (38,(xq 47 18).strip,[.tmp 2]):=by kernel_rfl
theorem sK81:Sound qPp 81 (.fresh 3 jk):=by
  apply xH (hc:=cK81) h79<;>first|exact qrS|skip
  all_goals decide
def L80:qLS:=(81,.fresh 3 jk)::L79
theorem h80:qHL L80:=Za h79 sK81
theorem cK87:check qPp 87=some (48,(Qs 81).strip,[.tmp 2]):=by kernel_rfl
theorem sK87:Sound qPp 87 (.dat false yD):=by
  apply kaf (hc:=cK87) h80<;>first|exact qrS|skip
  all_goals decide
def L81:qLS:=(87,.dat false yD)::L80
theorem h81:qHL L81:=Za h80 sK87
theorem cK77:check qPp 77=some (7,(Um 121 107 94).strip,[.cell 2 3 true]):=by kernel_rfl
theorem sK77:Sound qPp 77 (.dat false vw):=by
  apply Z4 (hc:=cK77) h81<;>first|exact qrS|skip
  all_goals decide
def L82:qLS:=(77,.dat false vw)::L81
theorem h82:qHL L82:=Za h81 sK77
theorem cK97:check qPp 97=some (34,(wo 66 18 81).strip,[.tmp 2]):=by kernel_rfl
theorem sK97:Sound qPp 97 (.dat false (Vv 81)):=by
  apply Y3 (hc:=cK97) h82<;>first|exact qrS|skip
  all_goals decide
def L83:qLS:=(97,.dat false (Vv 81))::L82
theorem h83:qHL L83:=Za h82 sK97
theorem cK51:check qPp 51=some (31,(zw 97 48 47).strip,[.cell 4 3 true,.tmp 5]):=by kernel_rfl
theorem sK51:Sound qPp 51 (.dat false (QA 81)):=by
  apply yag (hc:=cK51) h83<;>first|exact qrS|skip
  all_goals decide
def L84:qLS:=(51,.dat false (QA 81))::L83
theorem h84:qHL L84:=Za h83 sK51
theorem cK49:check qPp 49=some (14,(vl 63 96 94).strip,[.cell 2 3 true]):=by kernel_rfl
theorem sK49:Sound qPp 49 (.dat false Zx):=by
  apply qN (hc:=cK49) h84<;>first|exact qrS|skip
  all_goals decide
def L85:qLS:=(49,.dat false Zx)::L84
theorem h85:qHL L85:=Za h84 sK49
theorem cK157:check qPp 157=some (14,(xn 64 94 81).strip,[.cell 4 3 true,.tmp 5]):=by kernel_rfl
theorem sK157:Sound qPp 157 (.dat false (xx 81)):=by
  apply zY (hc:=cK157) h85<;>first|exact qrS|skip
  all_goals decide
def L86:qLS:=(157,.dat false (xx 81))::L85
theorem h86:qHL L86:=Za h85 sK157
theorem cK123:check qPp 123=some (29,(Zq 63 93 157).strip,[.cell 4 3 true,.tmp 5]):=by kernel_rfl
theorem sK123:Sound qPp 123 (.dat false (Yz 81)):=by
  apply yaf (hc:=cK123) h86<;>first|exact qrS|skip
  all_goals decide
def L87:qLS:=(123,.dat false (Yz 81))::L86
theorem h87:qHL L87:=Za h86 sK123
theorem cK127:check qPp 127=some (9,(Qp 49 47).strip,[.cell 4 3 true]):=by kernel_rfl
theorem sK127:Sound qPp 127 (.dat false qG):=by
  apply Xaw (hc:=cK127) h87<;>first|exact qrS|skip
  all_goals decide
def L88:qLS:=(127,.dat false qG)::L87
theorem h88:qHL L88:=Za h87 sK127
theorem cK126:check qPp 126=some (130,(Vu 77 18 49 48 123 127).strip,[.cell 2 3 true,.tmp 3]):=by kernel_rfl
theorem sK126:Sound qPp 126 (.own (uH 81)):=by
  apply Qaw (hc:=cK126) h88<;>first|exact qrS|skip
  all_goals decide
def L89:qLS:=(126,.own (uH 81))::L88
theorem h89:qHL L89:=Za h88 sK126
theorem cK88:check qPp 88=some (71,(Xp 126).strip,[.cell 4 3 true,.tmp 5]):=by kernel_rfl
theorem sK88:Sound qPp 88 (.dat false (jy 81)):=by
  apply Y5 (hc:=cK88) h89<;>first|exact qrS|skip
  all_goals decide
def L90:qLS:=(88,.dat false (jy 81))::L89
theorem h90:qHL L90:=Za h89 sK88
theorem cK46:check qPp 46=some (26,(vq 63 93 92).strip,[.tmp 4]):=by kernel_rfl
theorem sK46:Sound qPp 46 (.dat true zO):=by
  apply Yaw (hc:=cK46) h90<;>first|exact qrS|skip
  all_goals decide
def L91:qLS:=(46,.dat true zO)::L90
theorem h91:qHL L91:=Za h90 sK46
theorem cK161:check qPp 161=some (14,Zf.strip,[.cell 4 3 true]):=by kernel_rfl
theorem sK161:Sound qPp 161 (.dat false QE):=by
  apply vaf (hc:=cK161) h91<;>first|exact qrS|skip
  all_goals decide
def L92:qLS:=(161,.dat false QE)::L91
theorem h92:qHL L92:=Za h91 sK161
theorem cK128:check qPp 128=some (35,(qx 161 48 47 81).strip,[.tmp 6]):=by kernel_rfl
theorem sK128:Sound qPp 128 (.dat false XC):=by
  apply Zac (hc:=cK128) h92<;>first|exact qrS|skip
  all_goals decide
def L93:qLS:=(128,.dat false XC)::L92
theorem h93:qHL L93:=Za h92 sK128
theorem cK129:check qPp 129=some (58,(uk 48 47 81).strip,[.tmp 4]):=by kernel_rfl
theorem sK129:Sound qPp 129 (.dat false qy):=by
  apply zaa (hc:=cK129) h93<;>first|exact qrS|skip
  all_goals decide
def L94:qLS:=(129,.dat false qy)::L93
theorem h94:qHL L94:=Za h93 sK129
theorem cK89:check qPp 89=some (133,(Zp 66 46 77 51 127 123 128 49 129 81).strip,[.tmp 4,.tmp 5]):=by kernel_rfl
theorem sK89:Sound qPp 89 (.dat false (uC 81)):=by
  apply jae (hc:=cK89) h94<;>first|exact qrS|skip
  all_goals decide
def L95:qLS:=(89,.dat false (uC 81))::L94
theorem h95:qHL L95:=Za h94 sK89
theorem cK44:check qPp 44=some (128,(yb 55 87 56 77 51 88 89 81).strip,[.tmp 4,.tmp 5]):=by kernel_rfl
theorem sK44:Sound qPp 44 (.dat false (yz 81)):=by
  apply Uaf (hc:=cK44) h95<;>first|exact qrS|skip
  all_goals decide
def L96:qLS:=(44,.dat false (yz 81))::L95
theorem h96:qHL L96:=Za h95 sK44
theorem cK186:check qPp 186=some (15,Jb.strip,[.tmp 2]):=by kernel_rfl
theorem sK186:Sound qPp 186 (.dat false Vy):=by
  apply uX (hc:=cK186) h96<;>first|exact qrS|skip
  all_goals decide
def L97:qLS:=(186,.dat false Vy)::L96
theorem h97:qHL L97:=Za h96 sK186
theorem cK166:check qPp 166=some (54,(Uc 186 187 188 189).strip,[.tmp 4]):=by kernel_rfl
theorem sK166:Sound qPp 166 (.dat false Yr):=by
  apply wab (hc:=cK166) h97<;>first|exact qrS|skip
  all_goals decide
def L98:qLS:=(166,.dat false Yr)::L97
theorem h98:qHL L98:=Za h97 sK166
theorem cK140:check qPp 140=some (5,(Xe 166).strip,[.tmp 2]):=by kernel_rfl
theorem sK140:Sound qPp 140 (.dat false Vq):=by
  apply jag (hc:=cK140) h98<;>first|exact qrS|skip
  all_goals decide
def L99:qLS:=(140,.dat false Vq)::L98
theorem h99:qHL L99:=Za h98 sK140
theorem cK99:check qPp 99=some (5,(zq 140).strip,[.tmp 2]):=by kernel_rfl
theorem sK99:Sound qPp 99 (.dat false Vq):=by
  apply Yaa (hc:=cK99) h99<;>first|exact qrS|skip
  all_goals decide
def L100:qLS:=(99,.dat false Vq)::L99
theorem h100:qHL L100:=Za h99 sK99
theorem sK100:Sound qPp 100 (.dat false uz):=Yac (kp Tryz.func100 (by kernel_rfl) (by kernel_rfl)) Tryz.strings_Join
def L101:qLS:=(100,.dat false uz)::L100
theorem h101:qHL L101:=Za h100 sK100
theorem cK139:check qPp 139=some (44,(Up 108 164 99 165 100 133).strip,[.tmp 2]):=by kernel_rfl
theorem sK139:Sound qPp 139 (.dat false yax):=by
  apply jaD (hc:=cK139) h101<;>first|exact qrS|skip
  all_goals decide
def L102:qLS:=(139,.dat false yax)::L101
theorem h102:qHL L102:=Za h101 sK139
theorem cK98:check qPp 98=some (22,(kj 63 107 92 139).strip,[.tmp 2]):=by kernel_rfl
theorem sK98:Sound qPp 98 (.dat false Zaz):=by
  apply jaF (hc:=cK98) h102<;>first|exact qrS|skip
  all_goals decide
def L103:qLS:=(98,.dat false Zaz)::L102
theorem h103:qHL L103:=Za h102 sK98
theorem cK54:check qPp 54=some (51,(yw 97 18 98 99 100).strip,[.tmp 2,.tmp 3]):=by kernel_rfl
theorem sK54:Sound qPp 54 (.dat false (ky 81)):=by
  apply Q8 (hc:=cK54) h103<;>first|exact qrS|skip
  all_goals decide
def L104:qLS:=(54,.dat false (ky 81))::L103
theorem h104:qHL L104:=Za h103 sK54
theorem cK125:check qPp 125=some (26,Ug.strip,[.tmp 4]):=by kernel_rfl
theorem sK125:Sound qPp 125 (.dat true Qx):=by
  apply W7 (hc:=cK125) h104<;>first|exact qrS|skip
  all_goals decide
def L105:qLS:=(125,.dat true Qx)::L104
theorem h105:qHL L105:=Za h104 sK125
theorem cK85:check qPp 85=some (24,(Jk 125).strip,[.tmp 4]):=by kernel_rfl
theorem sK85:Sound qPp 85 (.dat true Xv):=by
  apply yaz (hc:=cK85) h105<;>first|exact qrS|skip
  all_goals decide
def L106:qLS:=(85,.dat true Xv)::L105
theorem h106:qHL L106:=Za h105 sK85
theorem cK41:check qPp 41=some (8,(Vh 85).strip,[.tmp 4]):=by kernel_rfl
theorem sK41:Sound qPp 41 (.dat true Xv):=by
  apply vad (hc:=cK41) h106<;>first|exact qrS|skip
  all_goals decide
def L107:qLS:=(41,.dat true Xv)::L106
theorem h107:qHL L107:=Za h106 sK41
theorem cK17:check qPp 17=some (55,(xd 41).strip,[.tmp 4]):=by kernel_rfl
theorem sK17:Sound qPp 17 (.dat false uu):=by
  apply ZW (hc:=cK17) h107<;>first|exact qrS|skip
  all_goals decide
def L108:qLS:=(17,.dat false uu)::L107
theorem h108:qHL L108:=Za h107 sK17
theorem cK12:check qPp 12=some (57,(qg 53 13 44 54 17).strip,[.tmp 0]):=by kernel_rfl
theorem sK12:Sound qPp 12 (.dat false vy):=by
  apply ZX (hc:=cK12) h108<;>first|exact qrS|skip
  all_goals decide
def L109:qLS:=(12,.dat false vy)::L108
theorem h109:qHL L109:=Za h108 sK12
theorem cK80:check qPp 80=some (34,(vm 77 48 123 81).strip,[.cell 4 3 true,.tmp 5]):=by kernel_rfl
theorem sK80:Sound qPp 80 (.dat false (WI 81)):=by
  apply kaz (hc:=cK80) h109<;>first|exact qrS|skip
  all_goals decide
def L110:qLS:=(80,.dat false (WI 81))::L109
theorem h110:qHL L110:=Za h109 sK80
theorem cK35:check qPp 35=some (59,(zn 27 80 48 47).strip,[.cell 6 3 true,.tmp 7]):=by kernel_rfl
theorem sK35:Sound qPp 35 (.dat false (XD 81)):=by
  apply waf (hc:=cK35) h110<;>first|exact qrS|skip
  all_goals decide
def L111:qLS:=(35,.dat false (XD 81))::L110
theorem h111:qHL L111:=Za h110 sK35
theorem cK36:check qPp 36=some (56,(Qi 27 77 48 57).strip,[.tmp 4,.tmp 5]):=by kernel_rfl
theorem sK36:Sound qPp 36 (.dat false (ZD 81)):=by
  apply uac (hc:=cK36) h111<;>first|exact qrS|skip
  all_goals decide
def L112:qLS:=(36,.dat false (ZD 81))::L111
theorem h112:qHL L112:=Za h111 sK36
theorem cK37:check qPp 37=some (61,(Jo 27 80 48 47 81).strip,[.tmp 6,.tmp 7]):=by kernel_rfl
theorem sK37:Sound qPp 37 (.dat false (uN 81)):=by
  apply Jax (hc:=cK37) h112<;>first|exact qrS|skip
  all_goals decide
def L113:qLS:=(37,.dat false (uN 81))::L112
theorem h113:qHL L113:=Za h112 sK37
theorem cK67:check qPp 67=some (29,qb.strip,[.tmp 2]):=by kernel_rfl
theorem sK67:Sound qPp 67 (.dat true YN):=by
  apply Uaw (hc:=cK67) h113<;>first|exact qrS|skip
  all_goals decide
def L114:qLS:=(67,.dat true YN)::L113
theorem h114:qHL L114:=Za h113 sK67
theorem cK111:check qPp 111=some (15,kg.strip,[.tmp 2]):=by kernel_rfl
theorem sK111:Sound qPp 111 (.dat true kx):=by
  apply YK (hc:=cK111) h114<;>first|exact qrS|skip
  all_goals decide
def L115:qLS:=(111,.dat true kx)::L114
theorem h115:qHL L115:=Za h114 sK111
theorem cK124:check qPp 124=some (38,(wi 151 155 158 149 159 160).strip,[.cell 4 2 true]):=by kernel_rfl
theorem sK124:Sound qPp 124 (.dat false Uy):=by
  apply wY (hc:=cK124) h115<;>first|exact qrS|skip
  all_goals decide
def L116:qLS:=(124,.dat false Uy)::L115
theorem h116:qHL L116:=Za h115 sK124
theorem cK148:check qPp 148=some (9,(zj 153 124).strip,[.cell 4 2 true]):=by kernel_rfl
theorem sK148:Sound qPp 148 (.dat false WP):=by
  apply V7 (hc:=cK148) h116<;>first|exact qrS|skip
  all_goals decide
def L117:qLS:=(148,.dat false WP)::L116
theorem h117:qHL L117:=Za h116 sK148
theorem cK112:check qPp 112=some (9,(yi 148 119).strip,[.tmp 4]):=by kernel_rfl
theorem sK112:Sound qPp 112 (.dat true vx):=by
  apply VY (hc:=cK112) h117<;>first|exact qrS|skip
  all_goals decide
def L118:qLS:=(112,.dat true vx)::L117
theorem h118:qHL L118:=Za h117 sK112
theorem cK68:check qPp 68=some (36,(Jg 111 113 114 112).strip,[.tmp 2]):=by kernel_rfl
theorem sK68:Sound qPp 68 (.dat true Xg):=by
  apply wK (hc:=cK68) h118<;>first|exact qrS|skip
  all_goals decide
def L119:qLS:=(68,.dat true Xg)::L118
theorem h119:qHL L119:=Za h118 sK68
theorem cK116:check qPp 116=some (23,(Wg 68 114).strip,[.cell 2 2 true,.cell 3 2 true]):=by kernel_rfl
theorem sK116:Sound qPp 116 (.dat false vf):=by
  apply kK (hc:=cK116) h119<;>first|exact qrS|skip
  all_goals decide
def L120:qLS:=(116,.dat false vf)::L119
theorem h120:qHL L120:=Za h119 sK116
theorem cK74:check qPp 74=some (12,(Xj 116 119).strip,[.tmp 2]):=by kernel_rfl
theorem sK74:Sound qPp 74 (.dat true Zk):=by
  apply jK (hc:=cK74) h120<;>first|exact qrS|skip
  all_goals decide
def L121:qLS:=(74,.dat true Zk)::L120
theorem h121:qHL L121:=Za h120 sK74
theorem cK75:check qPp 75=some (32,jd.strip,[.tmp 4]):=by kernel_rfl
theorem sK75:Sound qPp 75 (.dat false kG):=by
  apply uav (hc:=cK75) h121<;>first|exact qrS|skip
  all_goals decide
def L122:qLS:=(75,.dat false kG)::L121
theorem h122:qHL L122:=Za h121 sK75
theorem cK28:check qPp 28=some (42,(Yd 67 68 74 75).strip,[.tmp 2]):=by kernel_rfl
theorem sK28:Sound qPp 28 (.dat false Ym):=by
  apply vX (hc:=cK28) h122<;>first|exact qrS|skip
  all_goals decide
def L123:qLS:=(28,.dat false Ym)::L122
theorem h123:qHL L123:=Za h122 sK28
theorem cK156:check qPp 156=some (68,(Zg 176).strip,[.tmp 4]):=by kernel_rfl
theorem sK156:Sound qPp 156 (.dat false Zu):=by
  apply uV (hc:=cK156) h123<;>first|exact qrS|skip
  all_goals decide
def L124:qLS:=(156,.dat false Zu)::L123
theorem h124:qHL L124:=Za h123 sK156
theorem cK118:check qPp 118=some (16,(Xm 155 151 156 149).strip,[.cell 4 2 true]):=by kernel_rfl
theorem sK118:Sound qPp 118 (.dat false uw):=by
  apply wN (hc:=cK118) h124<;>first|exact qrS|skip
  all_goals decide
def L125:qLS:=(118,.dat false uw)::L124
theorem h125:qHL L125:=Za h124 sK118
theorem cK73:check qPp 73=some (26,(Wl 116 118 117).strip,[.cell 4 3 true]):=by kernel_rfl
theorem sK73:Sound qPp 73 (.dat false Zj):=by
  apply ZN (hc:=cK73) h125<;>first|exact qrS|skip
  all_goals decide
def L126:qLS:=(73,.dat false Zj)::L125
theorem h126:qHL L126:=Za h125 sK73
theorem cK83:check qPp 83=some (15,(Qg 79 73).strip,[.cell 4 3 true]):=by kernel_rfl
theorem sK83:Sound qPp 83 (.dat false ku):=by
  apply Q7 (hc:=cK83) h126<;>first|exact qrS|skip
  all_goals decide
def L127:qLS:=(83,.dat false ku)::L126
theorem h127:qHL L127:=Za h126 sK83
theorem cK82:check qPp 82=some (30,(Xl 116 118 124 117).strip,[.cell 4 3 true]):=by kernel_rfl
theorem sK82:Sound qPp 82 (.dat false kk):=by
  apply wL (hc:=cK82) h127<;>first|exact qrS|skip
  all_goals decide
def L128:qLS:=(82,.dat false kk)::L127
theorem h128:qHL L128:=Za h127 sK82
theorem cK38:check qPp 38=some (40,(ze 28 83 73 82).strip,[.cell 6 3 true,.tmp 7]):=by kernel_rfl
theorem sK38:Sound qPp 38 (.dat false qD):=by
  apply Wac (hc:=cK38) h128<;>first|exact qrS|skip
  all_goals decide
def L129:qLS:=(38,.dat false qD)::L128
theorem h129:qHL L129:=Za h128 sK38
theorem cK69:check qPp 69=some (106,(xi 75 82 74).strip,[.tmp 2]):=by kernel_rfl
theorem sK69:Sound qPp 69 (.dat false (Uv 10000)):=by
  apply Jav (hc:=cK69) h129<;>first|exact qrS|skip
  all_goals decide
def L130:qLS:=(69,.dat false (Uv 10000))::L129
theorem h130:qHL L130:=Za h129 sK69
theorem cK39:check qPp 39=some (67,(uc 28 79 73 69).strip,[.tmp 4,.tmp 5]):=by kernel_rfl
theorem sK39:Sound qPp 39 (.dat false JD):=by
  apply Wad (hc:=cK39) h130<;>first|exact qrS|skip
  all_goals decide
def L131:qLS:=(39,.dat false JD)::L130
theorem h131:qHL L131:=Za h130 sK39
theorem cK84:check qPp 84=some (38,(xq 82 74).strip,[.tmp 2]):=by kernel_rfl
theorem sK84:Sound qPp 84 (.fresh 3 jk):=by
  apply xH (hc:=cK84) h131<;>first|exact qrS|skip
  all_goals decide
def L132:qLS:=(84,.fresh 3 jk)::L131
theorem h132:qHL L132:=Za h131 sK84
theorem cK40:check qPp 40=some (62,(ke 28 83 73 82 84).strip,[.tmp 6,.tmp 7]):=by kernel_rfl
theorem sK40:Sound qPp 40 (.dat false XO):=by
  apply yay (hc:=cK40) h132<;>first|exact qrS|skip
  all_goals decide
def L133:qLS:=(40,.dat false XO)::L132
theorem h133:qHL L133:=Za h132 sK40
theorem cK26:check qPp 26=some (15,(Jf 81).strip,[.tmp 2]):=by kernel_rfl
theorem sK26:Sound qPp 26 (.dat true (kL 81)):=by
  apply Uav (hc:=cK26) h133<;>first|exact qrS|skip
  all_goals decide
def L134:qLS:=(26,.dat true (kL 81))::L133
theorem h134:qHL L134:=Za h133 sK26
theorem cK86:check qPp 86=some (27,(vi 85).strip,[.tmp 4]):=by kernel_rfl
theorem sK86:Sound qPp 86 (.dat true Vr):=by
  apply Qad (hc:=cK86) h134<;>first|exact qrS|skip
  all_goals decide
def L135:qLS:=(86,.dat true Vr)::L134
theorem h135:qHL L135:=Za h134 sK86
theorem cK42:check qPp 42=some (8,(Zh 86).strip,[.tmp 4]):=by kernel_rfl
theorem sK42:Sound qPp 42 (.dat true Vr):=by
  apply Jac (hc:=cK42) h135<;>first|exact qrS|skip
  all_goals decide
def L136:qLS:=(42,.dat true Vr)::L135
theorem h136:qHL L136:=Za h135 sK42
theorem cK70:check qPp 70=some (18,Jd.strip,[.tmp 2]):=by kernel_rfl
theorem sK70:Sound qPp 70 (.dat true Wv):=by
  apply Qaz (hc:=cK70) h136<;>first|exact qrS|skip
  all_goals decide
def L137:qLS:=(70,.dat true Wv)::L136
theorem h137:qHL L137:=Za h136 sK70
theorem cK23:check qPp 23=some (12,(vd 28 70).strip,[.tmp 2,.tmp 3]):=by kernel_rfl
theorem sK23:Sound qPp 23 (.dat false Vs):=by
  apply QV (hc:=cK23) h137<;>first|exact qrS|skip
  all_goals decide
def L138:qLS:=(23,.dat false Vs)::L137
theorem h138:qHL L138:=Za h137 sK23
theorem cK43:check qPp 43=some (39,(Wc 23).strip,[.tmp 4]):=by kernel_rfl
theorem sK43:Sound qPp 43 (.dat false Jx):=by
  apply V0 (hc:=cK43) h138<;>first|exact qrS|skip
  all_goals decide
def L139:qLS:=(43,.dat false Jx)::L138
theorem h139:qHL L139:=Za h138 sK43
theorem cK71:check qPp 71=some (18,(vh 28).strip,[.tmp 2]):=by kernel_rfl
theorem sK71:Sound qPp 71 (.dat false zD):=by
  apply kag (hc:=cK71) h139<;>first|exact qrS|skip
  all_goals decide
def L140:qLS:=(71,.dat false zD)::L139
theorem h140:qHL L140:=Za h139 sK71
theorem cK90:check qPp 90=some (52,(ki 84).strip,[.tmp 2]):=by kernel_rfl
theorem sK90:Sound qPp 90 (.dat false JM):=by
  apply uau (hc:=cK90) h140<;>first|exact qrS|skip
  all_goals decide
def L141:qLS:=(90,.dat false JM)::L140
theorem h141:qHL L141:=Za h140 sK90
theorem cK131:check qPp 131=some (49,(ye 73 82 84).strip,[.tmp 4]):=by kernel_rfl
theorem sK131:Sound qPp 131 (.dat false qz):=by
  apply wad (hc:=cK131) h141<;>first|exact qrS|skip
  all_goals decide
def L142:qLS:=(131,.dat false qz)::L141
theorem h142:qHL L142:=Za h141 sK131
theorem cK152:check qPp 152=some (14,(vl 116 153 117).strip,[.cell 2 3 true]):=by kernel_rfl
theorem sK152:Sound qPp 152 (.dat false Zx):=by
  apply qN (hc:=cK152) h142<;>first|exact qrS|skip
  all_goals decide
def L143:qLS:=(152,.dat false Zx)::L142
theorem h143:qHL L143:=Za h142 sK152
theorem cK130:check qPp 130=some (41,(wh 152 82 84).strip,[.tmp 6]):=by kernel_rfl
theorem sK130:Sound qPp 130 (.dat false Qz):=by
  apply jac (hc:=cK130) h143<;>first|exact qrS|skip
  all_goals decide
def L144:qLS:=(130,.dat false Qz)::L143
theorem h144:qHL L144:=Za h143 sK130
theorem cK91:check qPp 91=some (58,(Zd 79 91 131 130).strip,[.tmp 2]):=by kernel_rfl
theorem sK91:Sound qPp 91 (.dat false (zo 9)):=by
  apply waw (hc:=cK91) h144<;>first|exact qrS|skip
  all_goals decide
def L145:qLS:=(91,.dat false (zo 9))::L144
theorem h145:qHL L145:=Za h144 sK91
theorem cK45:check qPp 45=some (105,(Ya 71 90 70 91).strip,[.tmp 4,.tmp 5]):=by kernel_rfl
theorem sK45:Sound qPp 45 (.dat false VD):=by
  apply wae (hc:=cK45) h145<;>first|exact qrS|skip
  all_goals decide
def L146:qLS:=(45,.dat false VD)::L145
theorem h146:qHL L146:=Za h145 sK45
theorem cK6:check qPp 6=some (198,(jb 19 11 12 35 36 37 38 39 40 26 41 17 42 43 44 45).strip,[.tmp 6]):=by kernel_rfl
theorem sK6:Sound qPp 6 (.dat true jO):=by
  apply kax (hc:=cK6) h146<;>first|exact qrS|skip
  all_goals decide
def L147:qLS:=(6,.dat true jO)::L146
theorem h147:qHL L147:=Za h146 sK6
theorem hold:qHL L147:=h147
end Go.Abs
