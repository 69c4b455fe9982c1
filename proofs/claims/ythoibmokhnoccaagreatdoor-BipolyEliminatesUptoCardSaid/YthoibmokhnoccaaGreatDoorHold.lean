/-
  The contracts of this seat's functions, gathered.
-/
import Derived.Test.YthoibmokhnoccaaGreatDoorChecked
import Derived.Test.YthoibmokhnoccaaGreatDoorBits
import Derived.KernelRfl
import Derived.Test.YthoibmokhnoccaaGreatDoorM14
set_option maxRecDepth 100000
set_option linter.unusedVariables false
namespace Go.Abs
open Go.Proofs
noncomputable abbrev qPp:=Tryz.prog
abbrev qLS:=List (Nat×Spec)
abbrev qHL(l:qLS):=Holds qPp (Gl l)
theorem qrS{a:Spec}:a=a:=rfl
theorem cK67:check qPp 67=some (29,Zb.strip,[.tmp 2]):=by kernel_rfl
theorem sK67:Sound qPp 67 (.dat true vA):=by
  apply UaE (hc:=cK67) J8<;>first|exact qrS|skip
  all_goals decide
def L1:qLS:=(67,.dat true vA)::[]
theorem h1:qHL L1:=Za J8 sK67
theorem cK111:check qPp 111=some (15,vf.strip,[.tmp 2]):=by kernel_rfl
theorem sK111:Sound qPp 111 (.dat true wo):=by
  apply vK (hc:=cK111) h1<;>first|exact qrS|skip
  all_goals decide
def L2:qLS:=(111,.dat true wo)::L1
theorem h2:qHL L2:=Za h1 sK111
theorem cK180:check qPp 180=some (19,yi.strip,[.tmp 2]):=by kernel_rfl
theorem sK180:Sound qPp 180 (.dat true kh):=by
  apply YD (hc:=cK180) h2<;>first|exact qrS|skip
  all_goals decide
def L3:qLS:=(180,.dat true kh)::L2
theorem h3:qHL L3:=Za h2 sK180
theorem cK151:check qPp 151=some (8,(Xl 180).strip,[.tmp 2]):=by kernel_rfl
theorem sK151:Sound qPp 151 (.dat false yh):=by
  apply zN (hc:=cK151) h3<;>first|exact qrS|skip
  all_goals decide
def L4:qLS:=(151,.dat false yh)::L3
theorem h4:qHL L4:=Za h3 sK151
theorem cK176:check qPp 176=some (25,Yc.strip,[.tmp 2]):=by kernel_rfl
theorem sK176:Sound qPp 176 (.fresh 1 yt):=by
  apply WaI (hc:=cK176) h4<;>first|exact qrS|skip
  all_goals decide
def L5:qLS:=(176,.fresh 1 yt)::L4
theorem h5:qHL L5:=Za h4 sK176
theorem cK182:check qPp 182=some (14,Vk.strip,[.tmp 4]):=by kernel_rfl
theorem sK182:Sound qPp 182 (.dat true Yj):=by
  apply UM (hc:=cK182) h5<;>first|exact qrS|skip
  all_goals decide
def L6:qLS:=(182,.dat true Yj)::L5
theorem h6:qHL L6:=Za h5 sK182
theorem cK179:check qPp 179=some (21,Xh.strip,[.tmp 2]):=by kernel_rfl
theorem sK179:Sound qPp 179 (.own Yae):=by
  apply WaY (hc:=cK179) h6<;>first|exact qrS|skip
  all_goals decide
def L7:qLS:=(179,.own Yae)::L6
theorem h7:qHL L7:=Za h6 sK179
theorem cK177:check qPp 177=some (26,(jf 182 179).strip,[.tmp 2]):=by kernel_rfl
theorem sK177:Sound qPp 177 (.own qn):=by
  apply qal (hc:=cK177) h7<;>first|exact qrS|skip
  all_goals decide
def L8:qLS:=(177,.own qn)::L7
theorem h8:qHL L8:=Za h7 sK177
theorem cK159:check qPp 159=some (30,(ve 182).strip,[.tmp 4]):=by kernel_rfl
theorem sK159:Sound qPp 159 (.dat true xp):=by
  apply Uag (hc:=cK159) h8<;>first|exact qrS|skip
  all_goals decide
def L9:qLS:=(159,.dat true xp)::L8
theorem h9:qHL L9:=Za h8 sK159
theorem cK178:check qPp 178=some (31,(je 182).strip,[]):=by kernel_rfl
theorem sK178:Sound qPp 178 (.own Xt):=by
  apply UaF (hc:=cK178) h9<;>first|exact qrS|skip
  all_goals decide
def L10:qLS:=(178,.own Xt)::L9
theorem h10:qHL L10:=Za h9 sK178
theorem cK158:check qPp 158=some (37,(kg 182 176).strip,[.tmp 4]):=by kernel_rfl
theorem sK158:Sound qPp 158 (.dat false Qn):=by
  apply V7 (hc:=cK158) h10<;>first|exact qrS|skip
  all_goals decide
def L11:qLS:=(158,.dat false Qn)::L10
theorem h11:qHL L11:=Za h10 sK158
theorem cK150:check qPp 150=some (72,(qi 176 177 159 178 179 158).strip,[.tmp 4]):=by kernel_rfl
theorem sK150:Sound qPp 150 (.dat false yv):=by
  apply yak (hc:=cK150) h11<;>first|exact qrS|skip
  all_goals decide
def L12:qLS:=(150,.dat false yv)::L11
theorem h12:qHL L12:=Za h11 sK150
theorem cK149:check qPp 149=some (14,(Ug 176).strip,[.cell 4 2 true]):=by kernel_rfl
theorem sK149:Sound qPp 149 (.dat false Ve):=by
  apply Xad (hc:=cK149) h12<;>first|exact qrS|skip
  all_goals decide
def L13:qLS:=(149,.dat false Ve)::L12
theorem h13:qHL L13:=Za h12 sK149
theorem cK113:check qPp 113=some (11,(uh 151 150 149).strip,[.cell 4 2 true]):=by kernel_rfl
theorem sK113:Sound qPp 113 (.dat false uq):=by
  apply X5 (hc:=cK113) h13<;>first|exact qrS|skip
  all_goals decide
def L14:qLS:=(113,.dat false uq)::L13
theorem h14:qHL L14:=Za h13 sK113
theorem cK122:check qPp 122=some (19,(Vn 149).strip,[.cell 2 2 true]):=by kernel_rfl
theorem sK122:Sound qPp 122 (.dat false XD):=by
  apply Q0 (hc:=cK122) h14<;>first|exact qrS|skip
  all_goals decide
def L15:qLS:=(122,.dat false XD)::L14
theorem h15:qHL L15:=Za h14 sK122
theorem cK114:check qPp 114=some (2,(vk 122).strip,[.cell 0 2 true]):=by kernel_rfl
theorem sK114:Sound qPp 114 (.dat false Vm):=by
  apply YK (hc:=cK114) h15<;>first|exact qrS|skip
  all_goals decide
def L16:qLS:=(114,.dat false Vm)::L15
theorem h16:qHL L16:=Za h15 sK114
theorem cK155:check qPp 155=some (9,(jm 180).strip,[.tmp 2]):=by kernel_rfl
theorem sK155:Sound qPp 155 (.dat true xe):=by
  apply YH (hc:=cK155) h16<;>first|exact qrS|skip
  all_goals decide
def L17:qLS:=(155,.dat true xe)::L16
theorem h17:qHL L17:=Za h16 sK155
theorem cK153:check qPp 153=some (9,(qm 155 151 149).strip,[.cell 2 2 true]):=by kernel_rfl
theorem sK153:Sound qPp 153 (.dat false Wr):=by
  apply uO (hc:=cK153) h17<;>first|exact qrS|skip
  all_goals decide
def L18:qLS:=(153,.dat false Wr)::L17
theorem h18:qHL L18:=Za h17 sK153
theorem cK160:check qPp 160=some (35,(zg 182 176).strip,[.tmp 4]):=by kernel_rfl
theorem sK160:Sound qPp 160 (.dat false zq):=by
  apply vW (hc:=cK160) h18<;>first|exact qrS|skip
  all_goals decide
def L19:qLS:=(160,.dat false zq)::L18
theorem h19:qHL L19:=Za h18 sK160
theorem cK124:check qPp 124=some (38,(Qi 151 155 158 149 159 160).strip,[.cell 4 2 true]):=by kernel_rfl
theorem sK124:Sound qPp 124 (.dat false Ut):=by
  apply W2 (hc:=cK124) h19<;>first|exact qrS|skip
  all_goals decide
def L20:qLS:=(124,.dat false Ut)::L19
theorem h20:qHL L20:=Za h19 sK124
theorem cK148:check qPp 148=some (9,(ji 153 124).strip,[.cell 4 2 true]):=by kernel_rfl
theorem sK148:Sound qPp 148 (.dat false Yz):=by
  apply vZ (hc:=cK148) h20<;>first|exact qrS|skip
  all_goals decide
def L21:qLS:=(148,.dat false Yz)::L20
theorem h21:qHL L21:=Za h20 sK148
theorem cK119:check qPp 119=some (9,(xg 151 155).strip,[.tmp 2]):=by kernel_rfl
theorem sK119:Sound qPp 119 (.dat true yf):=by
  apply zU (hc:=cK119) h21<;>first|exact qrS|skip
  all_goals decide
def L22:qLS:=(119,.dat true yf)::L21
theorem h22:qHL L22:=Za h21 sK119
theorem cK112:check qPp 112=some (9,(xh 148 119).strip,[.tmp 4]):=by kernel_rfl
theorem sK112:Sound qPp 112 (.dat true vn):=by
  apply qac (hc:=cK112) h22<;>first|exact qrS|skip
  all_goals decide
def L23:qLS:=(112,.dat true vn)::L22
theorem h23:qHL L23:=Za h22 sK112
theorem cK68:check qPp 68=some (36,(Jf 111 113 114 112).strip,[.tmp 2]):=by kernel_rfl
theorem sK68:Sound qPp 68 (.dat true xd):=by
  apply JK (hc:=cK68) h23<;>first|exact qrS|skip
  all_goals decide
def L24:qLS:=(68,.dat true xd)::L23
theorem h24:qHL L24:=Za h23 sK68
theorem cK116:check qPp 116=some (23,(xf 68 114).strip,[.cell 2 2 true,.cell 3 2 true]):=by kernel_rfl
theorem sK116:Sound qPp 116 (.dat false Wd):=by
  apply QK (hc:=cK116) h24<;>first|exact qrS|skip
  all_goals decide
def L25:qLS:=(116,.dat false Wd)::L24
theorem h25:qHL L25:=Za h24 sK116
theorem cK74:check qPp 74=some (12,(qj 116 119).strip,[.tmp 2]):=by kernel_rfl
theorem sK74:Sound qPp 74 (.dat true Xf):=by
  apply qI (hc:=cK74) h25<;>first|exact qrS|skip
  all_goals decide
def L26:qLS:=(74,.dat true Xf)::L25
theorem h26:qHL L26:=Za h25 sK74
theorem cK75:check qPp 75=some (32,jd.strip,[.tmp 4]):=by kernel_rfl
theorem sK75:Sound qPp 75 (.dat false jC):=by
  apply jaG (hc:=cK75) h26<;>first|exact qrS|skip
  all_goals decide
def L27:qLS:=(75,.dat false jC)::L26
theorem h27:qHL L27:=Za h26 sK75
theorem cK28:check qPp 28=some (42,(yd 67 68 74 75).strip,[.tmp 2]):=by kernel_rfl
theorem sK28:Sound qPp 28 (.dat false Wo):=by
  apply J3 (hc:=cK28) h27<;>first|exact qrS|skip
  all_goals decide
def L28:qLS:=(28,.dat false Wo)::L27
theorem h28:qHL L28:=Za h27 sK28
theorem cK70:check qPp 70=some (18,Qd.strip,[.tmp 2]):=by kernel_rfl
theorem sK70:Sound qPp 70 (.dat true Qr):=by
  apply UaG (hc:=cK70) h28<;>first|exact qrS|skip
  all_goals decide
def L29:qLS:=(70,.dat true Qr)::L28
theorem h29:qHL L29:=Za h28 sK70
theorem cK23:check qPp 23=some (12,(Zd 28 70).strip,[.tmp 2,.tmp 3]):=by kernel_rfl
theorem sK23:Sound qPp 23 (.dat false Vi):=by
  apply VS (hc:=cK23) h29<;>first|exact qrS|skip
  all_goals decide
def L30:qLS:=(23,.dat false Vi)::L29
theorem h30:qHL L30:=Za h29 sK23
theorem cK52:check qPp 52=some (45,Uc.strip,[.tmp 6]):=by kernel_rfl
theorem sK52:Sound qPp 52 (.dat true wy):=by
  apply vaH (hc:=cK52) h30<;>first|exact qrS|skip
  all_goals decide
def L31:qLS:=(52,.dat true wy)::L30
theorem h31:qHL L31:=Za h30 sK52
theorem cK19:check qPp 19=some (38,(kf 52).strip,[.tmp 2]):=by kernel_rfl
theorem sK19:Sound qPp 19 (.dat false uj):=by
  apply UQ (hc:=cK19) h31<;>first|exact qrS|skip
  all_goals decide
def L32:qLS:=(19,.dat false uj)::L31
theorem h32:qHL L32:=Za h31 sK19
theorem cK10:check qPp 10=some (31,(Qf 23 19).strip,[.tmp 2]):=by kernel_rfl
theorem sK10:Sound qPp 10 (.dat false xk):=by
  apply zV (hc:=cK10) h32<;>first|exact qrS|skip
  all_goals decide
def L33:qLS:=(10,.dat false xk)::L32
theorem h33:qHL L33:=Za h32 sK10
theorem cK11:check qPp 11=some (15,(Vf 52).strip,[.tmp 2]):=by kernel_rfl
theorem sK11:Sound qPp 11 (.dat false xo):=by
  apply yac (hc:=cK11) h33<;>first|exact qrS|skip
  all_goals decide
def L34:qLS:=(11,.dat false xo)::L33
theorem h34:qHL L34:=Za h33 sK11
theorem cK194:check qPp 194=some (25,Vg.strip,[.tmp 2]):=by kernel_rfl
theorem sK194:Sound qPp 194 (.dat true yo):=by
  apply U6 (hc:=cK194) h34<;>first|exact qrS|skip
  all_goals decide
def L35:qLS:=(194,.dat true yo)::L34
theorem h35:qHL L35:=Za h34 sK194
theorem cK181:check qPp 181=some (76,(Xe 194 159 178 176).strip,[.tmp 4,.tmp 5]):=by kernel_rfl
theorem sK181:Sound qPp 181 (.dat false Qg):=by
  apply jK (hc:=cK181) h35<;>first|exact qrS|skip
  all_goals decide
def L36:qLS:=(181,.dat false Qg)::L35
theorem h36:qHL L36:=Za h35 sK181
theorem cK154:check qPp 154=some (45,(Yh 119 151 181 155 158 160 149).strip,[.cell 4 2 true,.cell 5 2 true,.tmp 6]):=by kernel_rfl
theorem sK154:Sound qPp 154 (.dat false Jn):=by
  apply Y4 (hc:=cK154) h36<;>first|exact qrS|skip
  all_goals decide
def L37:qLS:=(154,.dat false Jn)::L36
theorem h37:qHL L37:=Za h36 sK154
theorem cK117:check qPp 117=some (47,(ug 119 153 113 154).strip,[.cell 4 3 true]):=by kernel_rfl
theorem sK117:Sound qPp 117 (.dat false Zi):=by
  apply qU (hc:=cK117) h37<;>first|exact qrS|skip
  all_goals decide
def L38:qLS:=(117,.dat false Zi)::L37
theorem h38:qHL L38:=Za h37 sK117
theorem cK79:check qPp 79=some (7,(ul 122 114 117).strip,[.cell 2 3 true]):=by kernel_rfl
theorem sK79:Sound qPp 79 (.dat false Qz):=by
  apply WZ (hc:=cK79) h38<;>first|exact qrS|skip
  all_goals decide
def L39:qLS:=(79,.dat false Qz)::L38
theorem h39:qHL L39:=Za h38 sK79
theorem cK53:check qPp 53=some (25,(kj 79).strip,[.tmp 2]):=by kernel_rfl
theorem sK53:Sound qPp 53 (.dat false QQ):=by
  apply yaL (hc:=cK53) h39<;>first|exact qrS|skip
  all_goals decide
def L40:qLS:=(53,.dat false QQ)::L39
theorem h40:qHL L40:=Za h39 sK53
theorem cK65:check qPp 65=some (29,Xm.strip,[.tmp 2]):=by kernel_rfl
theorem sK65:Sound qPp 65 (.dat true Ji):=by
  apply vS (hc:=cK65) h40<;>first|exact qrS|skip
  all_goals decide
def L41:qLS:=(65,.dat true Ji)::L40
theorem h41:qHL L41:=Za h40 sK65
theorem cK109:check qPp 109=some (19,yi.strip,[.tmp 2]):=by kernel_rfl
theorem sK109:Sound qPp 109 (.dat true kh):=by
  apply YD (hc:=cK109) h41<;>first|exact qrS|skip
  all_goals decide
def L42:qLS:=(109,.dat true kh)::L41
theorem h42:qHL L42:=Za h41 sK109
theorem cK108:check qPp 108=some (8,(Xl 109).strip,[.tmp 2]):=by kernel_rfl
theorem sK108:Sound qPp 108 (.dat false yh):=by
  apply zN (hc:=cK108) h42<;>first|exact qrS|skip
  all_goals decide
def L43:qLS:=(108,.dat false yh)::L42
theorem h43:qHL L43:=Za h42 sK108
theorem cK132:check qPp 132=some (41,Uj.strip,[.tmp 4]):=by kernel_rfl
theorem sK132:Sound qPp 132 (.dat false qh):=by
  apply XQ (hc:=cK132) h43<;>first|exact qrS|skip
  all_goals decide
def L44:qLS:=(132,.dat false qh)::L43
theorem h44:qHL L44:=Za h43 sK132
theorem cK162:check qPp 162=some (25,zr.strip,[.tmp 2]):=by kernel_rfl
theorem sK162:Sound qPp 162 (.dat false Zp):=by
  apply uaF (hc:=cK162) h44<;>first|exact qrS|skip
  all_goals decide
def L45:qLS:=(162,.dat false Zp)::L44
theorem h45:qHL L45:=Za h44 sK162
theorem cK164:check qPp 164=some (43,(xm 162).strip,[.tmp 4,.tmp 5]):=by kernel_rfl
theorem sK164:Sound qPp 164 (.dat false js):=by
  apply yam (hc:=cK164) h45<;>first|exact qrS|skip
  all_goals decide
def L46:qLS:=(164,.dat false js)::L45
theorem h46:qHL L46:=Za h45 sK164
theorem sK171:Sound qPp 171 (.dat true lz_G):=uaV (Xq Tryz.func171 (by kernel_rfl) (by kernel_rfl)) Jbt ZbJ Tryz.bits_LeadingZeros32
def L47:qLS:=(171,.dat true lz_G)::L46
theorem h47:qHL L47:=Za h46 sK171
theorem cK172:check qPp 172=some (41,Vv.strip,[.tmp 4]):=by kernel_rfl
theorem sK172:Sound qPp 172 (.fresh 1 up_G):=by
  apply kbc (hc:=cK172) h47<;>first|exact qrS|skip
  all_goals decide
def L48:qLS:=(172,.fresh 1 up_G)::L47
theorem h48:qHL L48:=Za h47 sK172
theorem cK163:check qPp 163=some (14,Vk.strip,[.tmp 4]):=by kernel_rfl
theorem sK163:Sound qPp 163 (.dat true Yj):=by
  apply UM (hc:=cK163) h48<;>first|exact qrS|skip
  all_goals decide
def L49:qLS:=(163,.dat true Yj)::L48
theorem h49:qHL L49:=Za h48 sK163
theorem cK173:check qPp 173=some (46,(vl 163).strip,[.tmp 6]):=by kernel_rfl
theorem sK173:Sound qPp 173 (.own Uo):=by
  apply wad (hc:=cK173) h49<;>first|exact qrS|skip
  all_goals decide
def L50:qLS:=(173,.own Uo)::L49
theorem h50:qHL L50:=Za h49 sK173
theorem cK174:check qPp 174=some (30,(wq 163).strip,[]):=by kernel_rfl
theorem sK174:Sound qPp 174 (.own uB):=by
  apply VaH (hc:=cK174) h50<;>first|exact qrS|skip
  all_goals decide
def L51:qLS:=(174,.own uB)::L50
theorem h51:qHL L51:=Za h50 sK174
theorem cK175:check qPp 175=some (35,(Vq 163 162).strip,[.tmp 4]):=by kernel_rfl
theorem sK175:Sound qPp 175 (.dat false yA):=by
  apply kaG (hc:=cK175) h51<;>first|exact qrS|skip
  all_goals decide
def L52:qLS:=(175,.dat false yA)::L51
theorem h52:qHL L52:=Za h51 sK175
theorem cK147:check qPp 147=some (158,(Jh 132 162 164 171 172 173 174 175).strip,[.tmp 4,.tmp 5]):=by kernel_rfl
theorem sK147:Sound qPp 147 (.dat false Qg):=by
  apply QZ (hc:=cK147) h52<;>first|exact qrS|skip
  all_goals decide
def L53:qLS:=(147,.dat false Qg)::L52
theorem h53:qHL L53:=Za h52 sK147
theorem cK134:check qPp 134=some (15,(Um 162).strip,[.cell 4 2 true]):=by kernel_rfl
theorem sK134:Sound qPp 134 (.dat false Ve):=by
  apply Xam (hc:=cK134) h53<;>first|exact qrS|skip
  all_goals decide
def L54:qLS:=(134,.dat false Ve)::L53
theorem h54:qHL L54:=Za h53 sK134
theorem cK110:check qPp 110=some (26,(qs 108 147 134).strip,[.cell 4 2 true]):=by kernel_rfl
theorem sK110:Sound qPp 110 (.dat false uq):=by
  apply XaH (hc:=cK110) h54<;>first|exact qrS|skip
  all_goals decide
def L55:qLS:=(110,.dat false uq)::L54
theorem h55:qHL L55:=Za h54 sK110
theorem cK121:check qPp 121=some (19,(Vn 134).strip,[.cell 2 2 true]):=by kernel_rfl
theorem sK121:Sound qPp 121 (.dat false XD):=by
  apply Q0 (hc:=cK121) h55<;>first|exact qrS|skip
  all_goals decide
def L56:qLS:=(121,.dat false XD)::L55
theorem h56:qHL L56:=Za h55 sK121
theorem cK107:check qPp 107=some (2,(vk 121).strip,[.cell 0 2 true]):=by kernel_rfl
theorem sK107:Sound qPp 107 (.dat false Vm):=by
  apply YK (hc:=cK107) h56<;>first|exact qrS|skip
  all_goals decide
def L57:qLS:=(107,.dat false Vm)::L56
theorem h57:qHL L57:=Za h56 sK107
theorem cK64:check qPp 64=some (11,(yp 108).strip,[.tmp 2]):=by kernel_rfl
theorem sK64:Sound qPp 64 (.dat true yf):=by
  apply jag (hc:=cK64) h57<;>first|exact qrS|skip
  all_goals decide
def L58:qLS:=(64,.dat true yf)::L57
theorem h58:qHL L58:=Za h57 sK64
theorem cK133:check qPp 133=some (9,(jm 109).strip,[.tmp 2]):=by kernel_rfl
theorem sK133:Sound qPp 133 (.dat true xe):=by
  apply YH (hc:=cK133) h58<;>first|exact qrS|skip
  all_goals decide
def L59:qLS:=(133,.dat true xe)::L58
theorem h59:qHL L59:=Za h58 sK133
theorem cK92:check qPp 92=some (28,(Xs 64 108 132 133).strip,[.tmp 4]):=by kernel_rfl
theorem sK92:Sound qPp 92 (.dat true Wx):=by
  apply JaI (hc:=cK92) h59<;>first|exact qrS|skip
  all_goals decide
def L60:qLS:=(92,.dat true Wx)::L59
theorem h60:qHL L60:=Za h59 sK92
theorem cK66:check qPp 66=some (50,(Wl 109 110 107 92).strip,[.tmp 2]):=by kernel_rfl
theorem sK66:Sound qPp 66 (.dat true xd):=by
  apply Y7 (hc:=cK66) h60<;>first|exact qrS|skip
  all_goals decide
def L61:qLS:=(66,.dat true xd)::L60
theorem h61:qHL L61:=Za h60 sK66
theorem cK63:check qPp 63=some (28,(Uk 66 107).strip,[.cell 2 2 true,.cell 3 2 true]):=by kernel_rfl
theorem sK63:Sound qPp 63 (.dat false Wd):=by
  apply Vad (hc:=cK63) h61<;>first|exact qrS|skip
  all_goals decide
def L62:qLS:=(63,.dat false Wd)::L61
theorem h62:qHL L62:=Za h61 sK63
theorem cK18:check qPp 18=some (12,(qj 63 64).strip,[.tmp 2]):=by kernel_rfl
theorem sK18:Sound qPp 18 (.dat true Xf):=by
  apply qI (hc:=cK18) h62<;>first|exact qrS|skip
  all_goals decide
def L63:qLS:=(18,.dat true Xf)::L62
theorem h63:qHL L63:=Za h62 sK18
theorem cK146:check qPp 146=some (6,qt.strip,[.tmp 2]):=by kernel_rfl
theorem sK146:Sound qPp 146 (.dat true VA):=by
  apply zaF (hc:=cK146) h63<;>first|exact qrS|skip
  all_goals decide
def L64:qLS:=(146,.dat true VA)::L63
theorem h64:qHL L64:=Za h63 sK146
theorem cK106:check qPp 106=some (20,(Zf 146).strip,[.tmp 4]):=by kernel_rfl
theorem sK106:Sound qPp 106 (.dat true kC):=by
  apply zaI (hc:=cK106) h64<;>first|exact qrS|skip
  all_goals decide
def L65:qLS:=(106,.dat true kC)::L64
theorem h65:qHL L65:=Za h64 sK106
theorem cK105:check qPp 105=some (18,Xy.strip,[.tmp 2]):=by kernel_rfl
theorem sK105:Sound qPp 105 (.dat true QV):=by
  apply QaL (hc:=cK105) h65<;>first|exact qrS|skip
  all_goals decide
def L66:qLS:=(105,.dat true QV)::L65
theorem h66:qHL L66:=Za h65 sK105
theorem cK62:check qPp 62=some (23,(Wp 106 105).strip,[.tmp 4]):=by kernel_rfl
theorem sK62:Sound qPp 62 (.dat true Qt):=by
  apply U3 (hc:=cK62) h66<;>first|exact qrS|skip
  all_goals decide
def L67:qLS:=(62,.dat true Qt)::L66
theorem h67:qHL L67:=Za h66 sK62
theorem cK27:check qPp 27=some (48,(jk 65 66 18 62 81).strip,[.tmp 2]):=by kernel_rfl
theorem sK27:Sound qPp 27 (.dat false (Yl 81)):=by
  apply yZ (hc:=cK27) h67<;>first|exact qrS|skip
  all_goals decide
def L68:qLS:=(27,.dat false (Yl 81))::L67
theorem h68:qHL L68:=Za h67 sK27
theorem cK55:check qPp 55=some (18,(zn 27).strip,[.tmp 2]):=by kernel_rfl
theorem sK55:Sound qPp 55 (.dat false (Wg 81)):=by
  apply WW (hc:=cK55) h68<;>first|exact qrS|skip
  all_goals decide
def L69:qLS:=(55,.dat false (Wg 81))::L68
theorem h69:qHL L69:=Za h68 sK55
theorem cK56:check qPp 56=some (21,Qj.strip,[.tmp 2]):=by kernel_rfl
theorem sK56:Sound qPp 56 (.dat true Qr):=by
  apply QaF (hc:=cK56) h69<;>first|exact qrS|skip
  all_goals decide
def L70:qLS:=(56,.dat true Qr)::L69
theorem h70:qHL L70:=Za h69 sK56
theorem cK135:check qPp 135=some (67,(Zn 162).strip,[.tmp 4]):=by kernel_rfl
theorem sK135:Sound qPp 135 (.dat false uv):=by
  apply Xaj (hc:=cK135) h70<;>first|exact qrS|skip
  all_goals decide
def L71:qLS:=(135,.dat false uv)::L70
theorem h71:qHL L71:=Za h70 sK135
theorem cK93:check qPp 93=some (16,(xr 133 108 135 134).strip,[.cell 4 2 true]):=by kernel_rfl
theorem sK93:Sound qPp 93 (.dat false Yw):=by
  apply waI (hc:=cK93) h71<;>first|exact qrS|skip
  all_goals decide
def L72:qLS:=(93,.dat false Yw)::L71
theorem h72:qHL L72:=Za h71 sK93
theorem cK96:check qPp 96=some (9,(qm 133 108 134).strip,[.cell 2 2 true]):=by kernel_rfl
theorem sK96:Sound qPp 96 (.dat false Wr):=by
  apply uO (hc:=cK96) h72<;>first|exact qrS|skip
  all_goals decide
def L73:qLS:=(96,.dat false Wr)::L72
theorem h73:qHL L73:=Za h72 sK96
theorem cK137:check qPp 137=some (39,(xq 163 162).strip,[.tmp 4]):=by kernel_rfl
theorem sK137:Sound qPp 137 (.dat false Qn):=by
  apply vaF (hc:=cK137) h73<;>first|exact qrS|skip
  all_goals decide
def L74:qLS:=(137,.dat false Qn)::L73
theorem h74:qHL L74:=Za h73 sK137
theorem cK138:check qPp 138=some (38,(jp 163 162).strip,[.tmp 4]):=by kernel_rfl
theorem sK138:Sound qPp 138 (.dat false zq):=by
  apply kaF (hc:=cK138) h74<;>first|exact qrS|skip
  all_goals decide
def L75:qLS:=(138,.dat false zq)::L74
theorem h75:qHL L75:=Za h74 sK138
theorem cK136:check qPp 136=some (47,(zt 108 147 133 137 138 134 81).strip,[.cell 4 2 true,.cell 5 2 true,.tmp 6]):=by kernel_rfl
theorem sK136:Sound qPp 136 (.dat false uz):=by
  apply QaJ (hc:=cK136) h75<;>first|exact qrS|skip
  all_goals decide
def L76:qLS:=(136,.dat false uz)::L75
theorem h76:qHL L76:=Za h75 sK136
theorem cK94:check qPp 94=some (47,(ym 64 96 110 136).strip,[.cell 4 3 true]):=by kernel_rfl
theorem sK94:Sound qPp 94 (.dat false Zi):=by
  apply zak (hc:=cK94) h76<;>first|exact qrS|skip
  all_goals decide
def L77:qLS:=(94,.dat false Zi)::L76
theorem h77:qHL L77:=Za h76 sK94
theorem cK48:check qPp 48=some (26,(Vp 63 93 94).strip,[.cell 4 3 true]):=by kernel_rfl
theorem sK48:Sound qPp 48 (.dat false Jp):=by
  apply qaJ (hc:=cK48) h77<;>first|exact qrS|skip
  all_goals decide
def L78:qLS:=(48,.dat false Jp)::L77
theorem h78:qHL L78:=Za h77 sK48
theorem cK59:check qPp 59=some (8,Je.strip,[.tmp 2]):=by kernel_rfl
theorem sK59:Sound qPp 59 (.fresh 5 Un):=by
  apply ZZ (hc:=cK59) h78<;>first|exact qrS|skip
  all_goals decide
def L79:qLS:=(59,.fresh 5 Un)::L78
theorem h79:qHL L79:=Za h78 sK59
theorem cK169:check qPp 169=some (53,qc.strip,[]):=by kernel_rfl
theorem sK169:Sound qPp 169 (.own (VB 62)):=by
  apply kaE (hc:=cK169) h79<;>first|exact qrS|skip
  all_goals decide
def L80:qLS:=(169,.own (VB 62))::L79
theorem h80:qHL L80:=Za h79 sK169
theorem cK203:check qPp 203=some (38,Xc.strip,[]):=by kernel_rfl
theorem sK203:Sound qPp 203 (.own (ky 62)):=by
  apply JaH (hc:=cK203) h80<;>first|exact qrS|skip
  all_goals decide
def L81:qLS:=(203,.own (ky 62))::L80
theorem h81:qHL L81:=Za h80 sK203
theorem cK192:check qPp 192=some (58,(Ud 203).strip,[]):=by kernel_rfl
theorem sK192:Sound qPp 192 (.own (xB 62)):=by
  apply ZaG (hc:=cK192) h81<;>first|exact qrS|skip
  all_goals decide
def L82:qLS:=(192,.own (xB 62))::L81
theorem h82:qHL L82:=Za h81 sK192
theorem cK170:check qPp 170=some (220,(Ua 192 170).strip,[]):=by kernel_rfl
theorem sK170:Sound qPp 170 (.own (vg 62 10000)):=by
  apply YU (hc:=cK170) h82<;>first|exact qrS|skip
  all_goals decide
def L83:qLS:=(170,.own (vg 62 10000))::L82
theorem h83:qHL L83:=Za h82 sK170
theorem cK144:check qPp 144=some (63,(ze 169 170).strip,[]):=by kernel_rfl
theorem sK144:Sound qPp 144 (.own (qx 62 10000)):=by
  apply qag (hc:=cK144) h83<;>first|exact qrS|skip
  all_goals decide
def L84:qLS:=(144,.own (qx 62 10000))::L83
theorem h84:qHL L84:=Za h83 sK144
theorem cK101:check qPp 101=some (9,(Vd 144).strip,[]):=by kernel_rfl
theorem sK101:Sound qPp 101 (.own (Xr 62 10000)):=by
  apply kag (hc:=cK101) h84<;>first|exact qrS|skip
  all_goals decide
def L85:qLS:=(101,.own (Xr 62 10000))::L84
theorem h85:qHL L85:=Za h84 sK101
theorem cK95:check qPp 95=some (40,(Zt 108 133 137 134 132 138).strip,[.cell 4 2 true]):=by kernel_rfl
theorem sK95:Sound qPp 95 (.dat false Ut):=by
  apply qaH (hc:=cK95) h85<;>first|exact qrS|skip
  all_goals decide
def L86:qLS:=(95,.dat false Ut)::L85
theorem h86:qHL L86:=Za h85 sK95
theorem cK47:check qPp 47=some (30,(Up 63 93 95 94).strip,[.cell 4 3 true]):=by kernel_rfl
theorem sK47:Sound qPp 47 (.dat false kp):=by
  apply QaG (hc:=cK47) h86<;>first|exact qrS|skip
  all_goals decide
def L87:qLS:=(47,.dat false kp)::L86
theorem h87:qHL L87:=Za h86 sK47
theorem cK103:check qPp 103=some (7,(jq 18).strip,[.tmp 2]):=by kernel_rfl
theorem sK103:Sound qPp 103 (.dat true Wy):=by
  apply WaH (hc:=cK103) h87<;>first|exact qrS|skip
  all_goals decide
def L88:qLS:=(103,.dat true Wy)::L87
theorem h88:qHL L88:=Za h87 sK103
theorem cK145:check qPp 145=some (19,uf.strip,[.tmp 4]):=by kernel_rfl
theorem sK145:Sound qPp 145 (.dat true (Wz 103)):=by
  apply vaG (hc:=cK145) h88<;>first|exact qrS|skip
  all_goals decide
def L89:qLS:=(145,.dat true (Wz 103))::L88
theorem h89:qHL L89:=Za h88 sK145
theorem cK102:check qPp 102=some (42,(Qc 145).strip,[.tmp 4]):=by kernel_rfl
theorem sK102:Sound qPp 102 (.own (qC 103)):=by
  apply ZaI (hc:=cK102) h89<;>first|exact qrS|skip
  all_goals decide
def L90:qLS:=(102,.own (qC 103))::L89
theorem h90:qHL L90:=Za h89 sK102
theorem cK57:check qPp 57=some (60,(Vw 59 101 62 47 102 103).strip,[.tmp 2]):=by kernel_rfl
theorem sK57:Sound qPp 57 (.dat false (kx 10000)):=by
  apply QaI (hc:=cK57) h90<;>first|exact qrS|skip
  all_goals decide
def L91:qLS:=(57,.dat false (kx 10000))::L90
theorem h91:qHL L91:=Za h90 sK57
theorem cK13:check qPp 13=some (71,(Zk 55 56 48 57 81).strip,[.tmp 4,.tmp 5]):=by kernel_rfl
theorem sK13:Sound qPp 13 (.dat false (Xz 81)):=by
  apply XaG (hc:=cK13) h91<;>first|exact qrS|skip
  all_goals decide
def L92:qLS:=(13,.dat false (Xz 81))::L91
theorem h92:qHL L92:=Za h91 sK13
theorem cK81:check qPp 81=some (38,(Yx 47 18).strip,[.tmp 2]):=by kernel_rfl
theorem sK81:Sound qPp 81 (.fresh 3 vp):=by
  apply kam (hc:=cK81) h92<;>first|exact qrS|skip
  all_goals decide
def L93:qLS:=(81,.fresh 3 vp)::L92
theorem h93:qHL L93:=Za h92 sK81
theorem cK87:check qPp 87=some (48,(Qs 81).strip,[.tmp 2]):=by kernel_rfl
theorem sK87:Sound qPp 87 (.dat false vw):=by
  apply Wai (hc:=cK87) h93<;>first|exact qrS|skip
  all_goals decide
def L94:qLS:=(87,.dat false vw)::L93
theorem h94:qHL L94:=Za h93 sK87
theorem cK77:check qPp 77=some (7,(ul 121 107 94).strip,[.cell 2 3 true]):=by kernel_rfl
theorem sK77:Sound qPp 77 (.dat false Qz):=by
  apply WZ (hc:=cK77) h94<;>first|exact qrS|skip
  all_goals decide
def L95:qLS:=(77,.dat false Qz)::L94
theorem h95:qHL L95:=Za h94 sK77
theorem cK97:check qPp 97=some (34,(uo 66 18 81).strip,[.tmp 2]):=by kernel_rfl
theorem sK97:Sound qPp 97 (.dat false (Qm 81)):=by
  apply kae (hc:=cK97) h95<;>first|exact qrS|skip
  all_goals decide
def L96:qLS:=(97,.dat false (Qm 81))::L95
theorem h96:qHL L96:=Za h95 sK97
theorem cK51:check qPp 51=some (31,(yx 97 48 47).strip,[.cell 4 3 true,.tmp 5]):=by kernel_rfl
theorem sK51:Sound qPp 51 (.dat false (Zr 81)):=by
  apply Jal (hc:=cK51) h96<;>first|exact qrS|skip
  all_goals decide
def L97:qLS:=(51,.dat false (Zr 81))::L96
theorem h97:qHL L97:=Za h96 sK51
theorem cK49:check qPp 49=some (14,(Wq 63 96 94).strip,[.cell 2 3 true]):=by kernel_rfl
theorem sK49:Sound qPp 49 (.dat false yw):=by
  apply YaG (hc:=cK49) h97<;>first|exact qrS|skip
  all_goals decide
def L98:qLS:=(49,.dat false yw)::L97
theorem h98:qHL L98:=Za h97 sK49
theorem cK157:check qPp 157=some (14,(um 64 94 81).strip,[.cell 4 3 true,.tmp 5]):=by kernel_rfl
theorem sK157:Sound qPp 157 (.dat false (Xn 81)):=by
  apply yaa (hc:=cK157) h98<;>first|exact qrS|skip
  all_goals decide
def L99:qLS:=(157,.dat false (Xn 81))::L98
theorem h99:qHL L99:=Za h98 sK157
theorem cK123:check qPp 123=some (29,(Xp 63 93 157).strip,[.cell 4 3 true,.tmp 5]):=by kernel_rfl
theorem sK123:Sound qPp 123 (.dat false (Ur 81)):=by
  apply Qah (hc:=cK123) h99<;>first|exact qrS|skip
  all_goals decide
def L100:qLS:=(123,.dat false (Ur 81))::L99
theorem h100:qHL L100:=Za h99 sK123
theorem cK127:check qPp 127=some (9,(Yq 49 47).strip,[.cell 4 3 true]):=by kernel_rfl
theorem sK127:Sound qPp 127 (.dat false yy):=by
  apply xaF (hc:=cK127) h100<;>first|exact qrS|skip
  all_goals decide
def L101:qLS:=(127,.dat false yy)::L100
theorem h101:qHL L101:=Za h100 sK127
theorem cK126:check qPp 126=some (130,(Jw 77 18 49 48 123 127).strip,[.cell 2 3 true,.tmp 3]):=by kernel_rfl
theorem sK126:Sound qPp 126 (.own (WH 81)):=by
  apply jaJ (hc:=cK126) h101<;>first|exact qrS|skip
  all_goals decide
def L102:qLS:=(126,.own (WH 81))::L101
theorem h102:qHL L102:=Za h101 sK126
theorem cK88:check qPp 88=some (71,(Yp 126).strip,[.cell 4 3 true,.tmp 5]):=by kernel_rfl
theorem sK88:Sound qPp 88 (.dat false (qo 81)):=by
  apply uW (hc:=cK88) h102<;>first|exact qrS|skip
  all_goals decide
def L103:qLS:=(88,.dat false (qo 81))::L102
theorem h103:qHL L103:=Za h102 sK88
theorem cK46:check qPp 46=some (26,(Qq 63 93 92).strip,[.tmp 4]):=by kernel_rfl
theorem sK46:Sound qPp 46 (.dat true QA):=by
  apply waF (hc:=cK46) h103<;>first|exact qrS|skip
  all_goals decide
def L104:qLS:=(46,.dat true QA)::L103
theorem h104:qHL L104:=Za h103 sK46
theorem cK161:check qPp 161=some (14,ue.strip,[.cell 4 3 true]):=by kernel_rfl
theorem sK161:Sound qPp 161 (.dat false uu):=by
  apply Xai (hc:=cK161) h104<;>first|exact qrS|skip
  all_goals decide
def L105:qLS:=(161,.dat false uu)::L104
theorem h105:qHL L105:=Za h104 sK161
theorem cK128:check qPp 128=some (35,(wx 161 48 47 81).strip,[.tmp 6]):=by kernel_rfl
theorem sK128:Sound qPp 128 (.dat false ww):=by
  apply vam (hc:=cK128) h105<;>first|exact qrS|skip
  all_goals decide
def L106:qLS:=(128,.dat false ww)::L105
theorem h106:qHL L106:=Za h105 sK128
theorem cK129:check qPp 129=some (58,(Jk 48 47 81).strip,[.tmp 4]):=by kernel_rfl
theorem sK129:Sound qPp 129 (.dat false jo):=by
  apply wac (hc:=cK129) h106<;>first|exact qrS|skip
  all_goals decide
def L107:qLS:=(129,.dat false jo)::L106
theorem h107:qHL L107:=Za h106 sK129
theorem cK89:check qPp 89=some (133,(Jq 66 46 77 51 127 123 128 49 129 81).strip,[.tmp 4,.tmp 5]):=by kernel_rfl
theorem sK89:Sound qPp 89 (.dat false (wv 81)):=by
  apply Vai (hc:=cK89) h107<;>first|exact qrS|skip
  all_goals decide
def L108:qLS:=(89,.dat false (wv 81))::L107
theorem h108:qHL L108:=Za h107 sK89
theorem cK44:check qPp 44=some (128,(Wb 55 87 56 77 51 88 89 81).strip,[.tmp 4,.tmp 5]):=by kernel_rfl
theorem sK44:Sound qPp 44 (.dat false (Zs 81)):=by
  apply Qai (hc:=cK44) h108<;>first|exact qrS|skip
  all_goals decide
def L109:qLS:=(44,.dat false (Zs 81))::L108
theorem h109:qHL L109:=Za h108 sK44
theorem cK186:check qPp 186=some (15,jb.strip,[.tmp 2]):=by kernel_rfl
theorem sK186:Sound qPp 186 (.dat false wn):=by
  apply W6 (hc:=cK186) h109<;>first|exact qrS|skip
  all_goals decide
def L110:qLS:=(186,.dat false wn)::L109
theorem h110:qHL L110:=Za h109 sK186
theorem cK166:check qPp 166=some (54,(uc 186 187 188 189).strip,[.tmp 4]):=by kernel_rfl
theorem sK166:Sound qPp 166 (.dat false Zw):=by
  apply Uak (hc:=cK166) h110<;>first|exact qrS|skip
  all_goals decide
def L111:qLS:=(166,.dat false Zw)::L110
theorem h111:qHL L111:=Za h110 sK166
theorem cK140:check qPp 140=some (5,(ke 166).strip,[.tmp 2]):=by kernel_rfl
theorem sK140:Sound qPp 140 (.dat false qk):=by
  apply Wah (hc:=cK140) h111<;>first|exact qrS|skip
  all_goals decide
def L112:qLS:=(140,.dat false qk)::L111
theorem h112:qHL L112:=Za h111 sK140
theorem cK99:check qPp 99=some (5,(Qp 140).strip,[.tmp 2]):=by kernel_rfl
theorem sK99:Sound qPp 99 (.dat false qk):=by
  apply zad (hc:=cK99) h112<;>first|exact qrS|skip
  all_goals decide
def L113:qLS:=(99,.dat false qk)::L112
theorem h113:qHL L113:=Za h112 sK99
theorem sK100:Sound qPp 100 (.dat false Ys):=Qaj (Xq Tryz.func100 (by kernel_rfl) (by kernel_rfl)) Tryz.strings_Join
def L114:qLS:=(100,.dat false Ys)::L113
theorem h114:qHL L114:=Za h113 sK100
theorem cK139:check qPp 139=some (44,(Uq 108 164 99 165 100 133).strip,[.tmp 2]):=by kernel_rfl
theorem sK139:Sound qPp 139 (.dat false uV):=by
  apply xaT (hc:=cK139) h114<;>first|exact qrS|skip
  all_goals decide
def L115:qLS:=(139,.dat false uV)::L114
theorem h115:qHL L115:=Za h114 sK139
theorem cK98:check qPp 98=some (22,(zj 63 107 92 139).strip,[.tmp 2]):=by kernel_rfl
theorem sK98:Sound qPp 98 (.dat false qR):=by
  apply XaK (hc:=cK98) h115<;>first|exact qrS|skip
  all_goals decide
def L116:qLS:=(98,.dat false qR)::L115
theorem h116:qHL L116:=Za h115 sK98
theorem cK54:check qPp 54=some (51,(jx 97 18 98 99 100).strip,[.tmp 2,.tmp 3]):=by kernel_rfl
theorem sK54:Sound qPp 54 (.dat false (Yn 81)):=by
  apply ZX (hc:=cK54) h116<;>first|exact qrS|skip
  all_goals decide
def L117:qLS:=(54,.dat false (Yn 81))::L116
theorem h117:qHL L117:=Za h116 sK54
theorem cK125:check qPp 125=some (26,yg.strip,[.tmp 4]):=by kernel_rfl
theorem sK125:Sound qPp 125 (.dat true Zo):=by
  apply zaa (hc:=cK125) h117<;>first|exact qrS|skip
  all_goals decide
def L118:qLS:=(125,.dat true Zo)::L117
theorem h118:qHL L118:=Za h117 sK125
theorem cK85:check qPp 85=some (24,(wj 125).strip,[.tmp 4]):=by kernel_rfl
theorem sK85:Sound qPp 85 (.dat true vu):=by
  apply VaI (hc:=cK85) h118<;>first|exact qrS|skip
  all_goals decide
def L119:qLS:=(85,.dat true vu)::L118
theorem h119:qHL L119:=Za h118 sK85
theorem cK41:check qPp 41=some (8,(Xg 85).strip,[.tmp 4]):=by kernel_rfl
theorem sK41:Sound qPp 41 (.dat true vu):=by
  apply Yam (hc:=cK41) h119<;>first|exact qrS|skip
  all_goals decide
def L120:qLS:=(41,.dat true vu)::L119
theorem h120:qHL L120:=Za h119 sK41
theorem cK17:check qPp 17=some (55,(Yd 41).strip,[.tmp 4]):=by kernel_rfl
theorem sK17:Sound qPp 17 (.dat false Yo):=by
  apply Zaa (hc:=cK17) h120<;>first|exact qrS|skip
  all_goals decide
def L121:qLS:=(17,.dat false Yo)::L120
theorem h121:qHL L121:=Za h120 sK17
theorem cK12:check qPp 12=some (57,(Yf 53 13 44 54 17).strip,[.tmp 0]):=by kernel_rfl
theorem sK12:Sound qPp 12 (.dat false Wn):=by
  apply Z0 (hc:=cK12) h121<;>first|exact qrS|skip
  all_goals decide
def L122:qLS:=(12,.dat false Wn)::L121
theorem h122:qHL L122:=Za h121 sK12
theorem cK43:check qPp 43=some (39,(Wc 23).strip,[.tmp 4]):=by kernel_rfl
theorem sK43:Sound qPp 43 (.dat false xn):=by
  apply VX (hc:=cK43) h122<;>first|exact qrS|skip
  all_goals decide
def L123:qLS:=(43,.dat false xn)::L122
theorem h123:qHL L123:=Za h122 sK43
theorem cK80:check qPp 80=some (34,(Jl 77 48 123 81).strip,[.cell 4 3 true,.tmp 5]):=by kernel_rfl
theorem sK80:Sound qPp 80 (.dat false (YA 81)):=by
  apply VaE (hc:=cK80) h123<;>first|exact qrS|skip
  all_goals decide
def L124:qLS:=(80,.dat false (YA 81))::L123
theorem h124:qHL L124:=Za h123 sK80
theorem cK35:check qPp 35=some (59,(Zm 27 80 48 47).strip,[.cell 6 3 true,.tmp 7]):=by kernel_rfl
theorem sK35:Sound qPp 35 (.dat false (vv 81)):=by
  apply Uah (hc:=cK35) h124<;>first|exact qrS|skip
  all_goals decide
def L125:qLS:=(35,.dat false (vv 81))::L124
theorem h125:qHL L125:=Za h124 sK35
theorem cK20:check qPp 20=some (28,(Ul 65 66 57 81).strip,[.tmp 2,.tmp 3]):=by kernel_rfl
theorem sK20:Sound qPp 20 (.dat false (Qv 81)):=by
  apply xal (hc:=cK20) h125<;>first|exact qrS|skip
  all_goals decide
def L126:qLS:=(20,.dat false (Qv 81))::L125
theorem h126:qHL L126:=Za h125 sK20
theorem cK120:check qPp 120=some (27,Zl.strip,[.tmp 4]):=by kernel_rfl
theorem sK120:Sound qPp 120 (.fresh 5 Qw):=by
  apply Waj (hc:=cK120) h126<;>first|exact qrS|skip
  all_goals decide
def L127:qLS:=(120,.fresh 5 Qw)::L126
theorem h127:qHL L127:=Za h126 sK120
theorem cK76:check qPp 76=some (36,(Wj 120).strip,[.tmp 2]):=by kernel_rfl
theorem sK76:Sound qPp 76 (.fresh 5 Uv):=by
  apply xam (hc:=cK76) h127<;>first|exact qrS|skip
  all_goals decide
def L128:qLS:=(76,.fresh 5 Uv)::L127
theorem h128:qHL L128:=Za h127 sK76
theorem cK29:check qPp 29=some (19,(Jo 55 76 57).strip,[.tmp 4,.tmp 5]):=by kernel_rfl
theorem sK29:Sound qPp 29 (.dat false (jA 81)):=by
  apply uaE (hc:=cK29) h128<;>first|exact qrS|skip
  all_goals decide
def L129:qLS:=(29,.dat false (jA 81))::L128
theorem h129:qHL L129:=Za h128 sK29
theorem cK26:check qPp 26=some (15,(Ye 81).strip,[.tmp 2]):=by kernel_rfl
theorem sK26:Sound qPp 26 (.dat true (Uz 81)):=by
  apply jaH (hc:=cK26) h129<;>first|exact qrS|skip
  all_goals decide
def L130:qLS:=(26,.dat true (Uz 81))::L129
theorem h130:qHL L130:=Za h129 sK26
theorem cK50:check qPp 50=some (9,(wk 26).strip,[.tmp 4]):=by kernel_rfl
theorem sK50:Sound qPp 50 (.dat true (QU 81)):=by
  apply ja6 (hc:=cK50) h130<;>first|exact qrS|skip
  all_goals decide
def L131:qLS:=(50,.dat true (QU 81))::L130
theorem h131:qHL L131:=Za h130 sK50
theorem cK8:check qPp 8=some (173,(Ya 10 11 12 43 35 49 20 29 44 50 51 18).strip,[.tmp 6]):=by kernel_rfl
theorem sK8:Sound qPp 8 (.dat true Yu):=by
  apply Xah (hc:=cK8) h131<;>first|exact qrS|skip
  all_goals decide
def L132:qLS:=(8,.dat true Yu)::L131
theorem h132:qHL L132:=Za h131 sK8
theorem hold:qHL L132:=h132
end Go.Abs
